import PyProof.Rows.All
import Wide.All
import OpenK.AllK
import Wide.FinOn
import KE.KStateDown
import Lean
import HandS.ForMost
import HandS.ForExc
import HandS.Conv
import HandS.Deep
import HandS.Flow
import HandS.Style
import HandS.TupAny
import HandS.Wide
import HandS.Defaults
import HandS.IsInst
import HandS.HeadHook1
import HandS.Property
import HandS.Small
import KE.GoesMore
import HandS.DictComp
import HandS.WordsDict
import HandS.ClsMeth
import HandS.Star
import HandS.HeadHook2
import HandS.HeadHook3
import HandS.SlotsOwn
import KE.KOpsOwn
import KE.KEqNest
import HandS.TupLe
import PyProof.ReprRoads
import HandS.RaiseMore
import HandS.FStr
import HandS.HeadEnd
import KE.KFmtOwn
import PyProof.Rows.ReprOcc
import PyProof.ReprLen
import HandS.DictEq
import PyProof.P3Eq
import PyProof.StrLawsRepr
import KE.SortData
import HandS.OwnEq
import HandS.Text
import KE.KUnpack
import PyProof.RulesMatchSeq
import PyProof.RulesMatch
import PyProof.Rows.MatchSeqLen
import KE.KExcSuper
import HandS.ExcInit
import HandS.ExcSuper
import HandS.ExcField
import PyProof.ExcBaseAll.LookupError
import HandS.ExcOwn
import HandS.WordsExc
import HandS.ExcIs
import KE.KExcIs
import HandS.List
import HandS.TryMany
import PyProof.AttrMiss
import OpenK.KCls
import OpenK.KMeth
import KE.KCallOwn
import HandS.Zip
import HandS.More
import HandS.Ends
import HandS.Words
import HandS.Head0
import HandS.Head1
import HandS.Head2
import PySem.Challenge.RW_towgrove_k19_values_that_are_webs
set_option Elab.async false
set_option linter.all false
set_option maxRecDepth 100000
set_option maxHeartbeats 0
namespace T
open PySem L2
/-- a def: the address of its function object by the text, and what its row says -/
structure DefX where
  ad : PySem.W.Frag → Addr
  nm : Str
  ql : Str
  st : Stmt
  df : List He.Dv := []
def fnAt (K : PySem.W.Frag) (a : Addr) : He.FnW := (K.lookup a).bind fun o => match o.data with | .func u => some (u.name, u.qualname, u.params, u.body, u.scope, u.globals, u.closure, u.builtins) | _ => none
def DefX.says (d : DefX) : He.FnW := some (d.nm, d.ql, defArgs d.st, .stmts (defBody d.st), defScope d.st, mainGlobals, [], builtinsNs)
def fnTest (K : PySem.W.Frag) (a : Addr) (ql : Str) (vs : List V) : Bool := PySem.W.keepIn K (.ref a) && ((K.lookup a).any fun o => match o.data with | .func u => PySem.W.codeIn K u.code ql && (He.dflB K u.defaults vs && He.kwdB K u.kwdefaults []) | _ => false)
abbrev Tst := PySem.W.Frag → Bool
def tFa (f : He.Fa) : Tst := fun K => f.ok K
/-- the property x.f of the class x: its record, its getter -/
def pAd (K : PySem.W.Frag) (x f : Str) : Addr := He.ma K (He.ga K x) f
def pGet (K : PySem.W.Frag) (x f : Str) : Addr := match PySem.W.recIn K (pAd K x f) "property" with | some (.ref g :: _) => g | _ => 0
def tProp (x f : Str) : Tst := fun K => He.eqO (PySem.W.findIn K (.ref (He.ga K x)) f) (some (some (.ref (pAd K x f)))) && (He.eqO (PySem.W.specialIn K (.ref (pAd K x f)) "__get__") (some (some (.builtin "property.__get__"))) &&
  (decide (PySem.W.takesIn K (.ref (pAd K x f)) = some true) && (match PySem.W.recIn K (pAd K x f) "property" with | some (.ref _ :: _) => true | _ => false)))
def tCCon (x f : Str) (i : Int) : Tst := fun K => PySem.W.readsIn K (He.ga K x) (.type "type") && (He.eqO (PySem.W.specialIn K (.ref (He.ga K x)) "__getattribute__") (some (some (.builtin "type.__getattribute__"))) &&
  (match PySem.W.findCls K (.ref (He.ga K x)) (.type "type") f with | some (.val (.int j _)) => decide (j = i) | _ => false))
def ge (K : PySem.W.Frag) (C m : Str) (kind : String) : Addr := match PySem.W.recIn K (pAd K C m) kind with | some (.ref g :: _) => g | _ => 0
def isRec (K : PySem.W.Frag) (C m : Str) (kind : String) : Bool := match PySem.W.recIn K (pAd K C m) kind with | some (.ref _ :: _) => true | _ => false
def tRead (C : Str) : Tst := fun K => PySem.W.readsIn K (He.ga K C) (.type "type") && He.eqO (PySem.W.specialIn K (.ref (He.ga K C)) "__getattribute__") (some (some (.builtin "type.__getattribute__")))
def isGet (K : PySem.W.Frag) (C m : Str) (id : String) : Bool := match PySem.W.findCls K (.ref (He.ga K C)) (.type "type") m with
  | some (.get (.builtin i) (.ref p) .none (.ref c)) => decide (i = id) && (decide (p = pAd K C m) && decide (c = He.ga K C))
  | _ => false
def tStat (C m : Str) : Tst := fun K => tRead C K && (isGet K C m "staticmethod.__get__" && (isRec K C m "staticmethod" && (PySem.W.keepIn K (.ref (ge K C m "staticmethod")) && (PySem.W.plainGet K (He.ga K C) Str.empty && (PySem.W.isClsIn K (He.ga K C) &&
  (He.eqO (PySem.W.findIn K (.ref (He.ga K C)) m) (some (some (.ref (pAd K C m)))) && (decide (PySem.W.typeIn K (.ref (pAd K C m)) = some (.type "staticmethod")) && (He.eqO (PySem.W.specialIn K (.ref (pAd K C m)) "__get__") (some (some (.builtin "staticmethod.__get__"))) &&
  (decide (PySem.W.takesIn K (.ref (pAd K C m)) = some false) && decide (PySem.W.copiedNames.contains m = false))))))))))
/-- the def of a class under a name of Python's own -/
def tOwn (C m : Str) : Tst := fun K => He.eqO (PySem.W.findIn K (.ref (He.ga K C)) m) (some (some (.ref (He.ma K (He.ga K C) m)))) && PySem.W.isFn K (.ref (He.ma K (He.ga K C) m))
def tAdd (C : Str) : Tst := fun K => PySem.W.selfFirst K (He.ga K C) && (tOwn C "__add__" K && (tOwn C "__radd__" K && ((PySem.W.findIn K (.type "int") (PySem.dunder "add")).isSome && ((PySem.W.findIn K (.type "int") (dunderR "add")).isSome &&
  (decide (PySem.W.subIn K (.type "int") (.ref (He.ga K C)) = some false) && decide (PySem.W.subIn K (.ref (He.ga K C)) (.type "int") = some false))))))
def tNe (C : Str) : Tst := fun K => tOwn C "__eq__" K && (He.eqO (PySem.W.findIn K (.ref (He.ga K C)) "__ne__") (some (some (.builtin "object.__ne__"))) && decide (PySem.W.subIn K (.ref (He.ga K C)) (.type "object") = some true))
def tIsi (C : Str) (tb : List (Str × Bool)) : Tst := fun K => (tb.all fun p => decide (PySem.W.kitOne K (.ref (He.ga K p.1)) (.ref (He.ga K C)) = some p.2) && ((He.Fa.cls p.1).ok K && (He.eqO (PySem.W.findIn K (.ref (He.ga K p.1)) "__class__") (some (some (.builtin "object.__class__"))) && decide (PySem.W.mroIn K (He.ga K p.1) (.type "object") = some true)))) &&
  ((["NoneType", "bool", "int", "str", "tuple", "list", "dict"].all fun t => decide (PySem.W.kitOne K (.type t) (.ref (He.ga K C)) = some false)) &&
  (He.eqO (PySem.W.specialIn K (.builtin "object.__class__") "__get__") (some (some (.builtin "getset_descriptor.__get__"))) && decide (PySem.W.takesIn K (.builtin "object.__class__") = some true)))
def tFld (f : Str) (cs : List Str) : Tst := fun K => cs.all fun C => (He.Fa.cls C).ok K && (He.Fa.noat C f).ok K
/-- own classes, then a built-in tail -/
def refsT (tl : List Value) : List Value → Bool
  | .ref _ :: r => refsT tl r
  | l => l == tl
def veTl : List Value := [.type "ValueError", .type "Exception", .type "BaseException", .type "object"]
def fnAtY (K : PySem.W.Frag) (a : Addr) : He.FnW := (K.lookup a).bind fun o => match o.data with | .func u => some (u.name, u.qualname, u.params, u.body, u.scope, u.globals, [], u.builtins) | _ => none
def obsY (ts : List Tst) (ds ys : List DefX) (K : PySem.W.Frag) : He.AlD := ((ts.all fun t => t K) && ds.all fun d => fnTest K (d.ad K) d.ql (d.df.map (He.Dv.v K)), (ds.map fun d => fnAt K (d.ad K)) ++ ys.map fun d => fnAtY K (d.ad K))
def SaysY (ts : List Tst) (ds ys : List DefX) (K : PySem.W.Frag) : Prop := obsY ts ds ys K = (true, ds.map DefX.says ++ ys.map DefX.says)
def obYG (n : Nat) (ts : List Tst) (ds ys : List DefX) (g : Addr → Option Obj) : He.AlD := obsY ts ds ys (He.frG g (cStatics :: He.asD g n))
def hookY (n : Nat) (ts : List Tst) (ds ys : List DefX) : PySem.W.Hook := { α := He.AlD, obs := fun s => obYG n ts ds ys s.heap.get?, val := fun _ => (true, ds.map DefX.says ++ ys.map DefX.says), says := fun _ h => ∃ K : PySem.W.Frag, K.In h ∧ SaysY ts ds ys K, of := fun _ _ e => ⟨_, He.frG_in, e⟩, keeps := fun _ _ _ ⟨K, hK, c⟩ k => ⟨K, hK.keeps k, c⟩ }
def clsT (K : PySem.W.Frag) (C : Addr) (tl : List Value) (newId initId : String) : Bool := match K.lookup C with
  | some o => match o.data with
    | .cls cd => (o.cls == .type "type") && ((o.slots.size == 6) && ((o.slots[4]? == some (some (.builtin newId))) && (cd.hasDict && (!cd.hasDel && ((cd.mro.head? == some (.ref C)) && (refsT tl cd.mro.tail && He.eqO (PySem.W.alongIn K "__init__" cd.mro.tail) (some (some (.builtin initId)))))))))
    | _ => false
  | none => false
def iniT (K : PySem.W.Frag) (f C : Addr) (qual file : Str) : Bool := match K.lookup f with
  | some o => match o.data with
    | .func u => (match u.closure with
        | [(n, cc)] => (n == "__class__") && (match K.lookup cc with | some oc => (match oc.data with | .cell (some (.ref D)) => D == C | _ => false) | none => false)
        | _ => false) && ((u.defaults == .none) && (match u.code with
        | .ref cda => PySem.W.codeIn K (.ref cda) qual && (match K.lookup cda with | some o2 => (match o2.data with | .fields vs => (match (vs[2]? : Option Value) with | some (.str fl _) => fl == file | _ => false) | _ => false) | none => false)
        | _ => false))
    | _ => false
  | none => false
/-- the rest of what an error class must say -/
def errT (C : Str) (tl : List Value) (newId initId : String) (qual file : Str) (fs : List Str) : Tst := fun K => clsT K (He.ga K C) tl newId initId && (iniT K (He.ma K (He.ga K C) "__init__") (He.ga K C) qual file &&
  (He.eqO (PySem.W.findIn K (.ref (He.ga K C)) "__init__") (some (some (.ref (He.ma K (He.ga K C) "__init__")))) && (decide (PySem.W.typeIn K (.ref (He.ma K (He.ga K C) "__init__")) = some (.type "function")) &&
  (He.eqO (PySem.W.findIn K (.ref (He.ga K C)) "__setattr__") (some (some (.builtin "object.__setattr__"))) && (decide (PySem.W.subIn K (.ref (He.ga K C)) (.type "BaseException") = some true) && (decide (PySem.W.typeIn K (.ref (He.ga K C)) = some (.type "type")) &&
  (PySem.W.keepIn K (.ref (He.ga K C)) && (He.eqO (PySem.W.nsIn K cStatics "thirdparty.any") (some none) && fs.all fun f => He.eqO (PySem.W.findIn K (.ref (He.ga K C)) f) (some none)))))))))
def excT (C : Str) : Tst := fun K => He.eqO (PySem.W.findIn K (.ref (He.ga K C)) "__getattribute__") (some (some (.builtin "BaseException.__getattribute__"))) && (He.eqO (PySem.W.findIn K (.ref (He.ga K C)) "__getattr__") (some none) && (decide (PySem.W.subIn K (.ref (He.ga K C)) (.type "BaseException") = some true) && (PySem.W.hasDictIn K (He.ga K C) &&
  (He.eqO (PySem.W.findIn K (.ref (He.ga K C)) "__class__") (some (some (.builtin "object.__class__"))) && (He.eqO (PySem.W.specialIn K (.builtin "object.__class__") "__get__") (some (some (.builtin "getset_descriptor.__get__"))) && (decide (PySem.W.takesIn K (.builtin "object.__class__") = some true) && decide (PySem.W.mroIn K (He.ga K C) (.type "object") = some true)))))))
def exT (c : PySem.W.Frag → Value) (ms : List (Str × Bool)) : Tst := fun K => ms.all fun p => decide (PySem.W.exmOne K (.ref (He.ga K p.1)) (c K) = some p.2)
def isTT (cs : List Str) (ms : List (Str × Bool)) : Tst := fun K => ms.all fun p => decide (PySem.W.kitAny K (.ref (He.ga K p.1)) (cs.map fun c => .ref (He.ga K c)) = some p.2)
def top (i : Nat) : Stmt := PySem.Challenge.pw_towgrove_k19_values_that_are_webs.main.body.getD i (.Pass ⟨0, 0, 0, 0⟩)
def cs (s : Str) : List Nat := s.cps.toList
abbrev st_is_word : Stmt := top 15
abbrev st__law_take : Stmt := top 26
abbrev st__law_box : Stmt := top 25
abbrev st__law_mixed : Stmt := top 27
abbrev st__law_names : Stmt := top 28
abbrev st_Length___init__ : Stmt := inClass (top 12) 0
abbrev st_Length___add__ : Stmt := inClass (top 12) 5
abbrev st_Length___radd__ : Stmt := inClass (top 12) 6
abbrev st_Length___lt__ : Stmt := inClass (top 12) 7
abbrev st_Length___eq__ : Stmt := inClass (top 12) 11
abbrev st_Length_least : Stmt := inClass (top 12) 2
abbrev st_direct_lengths : Stmt := top 20
abbrev st_reaches_of : Stmt := top 21
abbrev st_is_strings : Stmt := top 16
abbrev st_is_rope : Stmt := top 18
abbrev st_check_web : Stmt := top 19
abbrev st_Web___init__ : Stmt := inClass (top 23) 1
abbrev st__law_web : Stmt := top 29
abbrev st__law_is_rope : Stmt := top 31
abbrev st__law_has_form : Stmt := top 32
abbrev st_Web_walkers : Stmt := inClass (top 23) 4
abbrev st_Web_ropes : Stmt := inClass (top 23) 5
abbrev st_Web___len__ : Stmt := inClass (top 23) 6
abbrev st__law_due : Stmt := top 33
abbrev st__law_told : Stmt := top 34
abbrev st__law_spaced : Stmt := top 35
abbrev st__law_changed : Stmt := top 30
abbrev st__law_bent : Stmt := top 36
abbrev st_law : Stmt := top 37
abbrev st_ENoWeb : Stmt := inClass (top 7) 0
def y_NoWeb : DefX := ⟨fun K => He.ma K (He.ga K "NoWeb") "__init__", "__init__", "NoWeb.__init__", st_ENoWeb, []⟩
def d_Length___eq__ : DefX := ⟨fun K => (He.ma K (He.ga K "Length") "__eq__"), "__eq__", "Length.__eq__", st_Length___eq__, []⟩
def d_is_strings : DefX := ⟨fun K => (He.ga K "is_strings"), "is_strings", "is_strings", st_is_strings, []⟩
def d_is_rope : DefX := ⟨fun K => (He.ga K "is_rope"), "is_rope", "is_rope", st_is_rope, []⟩
def d_is_word : DefX := ⟨fun K => (He.ga K "is_word"), "is_word", "is_word", st_is_word, []⟩
def d_check_web : DefX := ⟨fun K => (He.ga K "check_web"), "check_web", "check_web", st_check_web, []⟩
def d_Length___init__ : DefX := ⟨fun K => (He.ma K (He.ga K "Length") "__init__"), "__init__", "Length.__init__", st_Length___init__, []⟩
def d_Length___lt__ : DefX := ⟨fun K => (He.ma K (He.ga K "Length") "__lt__"), "__lt__", "Length.__lt__", st_Length___lt__, []⟩
def d_Length_least : DefX := ⟨fun K => (ge K "Length" "least" "staticmethod"), "least", "Length.least", st_Length_least, []⟩
def d_direct_lengths : DefX := ⟨fun K => (He.ga K "direct_lengths"), "direct_lengths", "direct_lengths", st_direct_lengths, []⟩
def d_Length___add__ : DefX := ⟨fun K => (He.ma K (He.ga K "Length") "__add__"), "__add__", "Length.__add__", st_Length___add__, []⟩
def d_Length___radd__ : DefX := ⟨fun K => (He.ma K (He.ga K "Length") "__radd__"), "__radd__", "Length.__radd__", st_Length___radd__, []⟩
def d_reaches_of : DefX := ⟨fun K => (He.ga K "reaches_of"), "reaches_of", "reaches_of", st_reaches_of, []⟩
def d_Web___init__ : DefX := ⟨fun K => (He.ma K (He.ga K "Web") "__init__"), "__init__", "Web.__init__", st_Web___init__, []⟩
def d_Web___len__ : DefX := ⟨fun K => (He.ma K (He.ga K "Web") "__len__"), "__len__", "Web.__len__", st_Web___len__, []⟩
def d_Web_ropes : DefX := ⟨fun K => (pGet K "Web" "ropes"), "ropes", "Web.ropes", st_Web_ropes, []⟩
def d_Web_walkers : DefX := ⟨fun K => (pGet K "Web" "walkers"), "walkers", "Web.walkers", st_Web_walkers, []⟩
def d__law_told : DefX := ⟨fun K => (He.ga K "_law_told"), "_law_told", "_law_told", st__law_told, []⟩
def d__law_is_rope : DefX := ⟨fun K => (He.ga K "_law_is_rope"), "_law_is_rope", "_law_is_rope", st__law_is_rope, []⟩
def d__law_has_form : DefX := ⟨fun K => (He.ga K "_law_has_form"), "_law_has_form", "_law_has_form", st__law_has_form, []⟩
def d__law_due : DefX := ⟨fun K => (He.ga K "_law_due"), "_law_due", "_law_due", st__law_due, []⟩
def d__law_take : DefX := ⟨fun K => (He.ga K "_law_take"), "_law_take", "_law_take", st__law_take, []⟩
def d__law_changed : DefX := ⟨fun K => (He.ga K "_law_changed"), "_law_changed", "_law_changed", st__law_changed, []⟩
def d__law_spaced : DefX := ⟨fun K => (He.ga K "_law_spaced"), "_law_spaced", "_law_spaced", st__law_spaced, []⟩
def d__law_bent : DefX := ⟨fun K => (He.ga K "_law_bent"), "_law_bent", "_law_bent", st__law_bent, []⟩
def d__law_mixed : DefX := ⟨fun K => (He.ga K "_law_mixed"), "_law_mixed", "_law_mixed", st__law_mixed, []⟩
def d__law_names : DefX := ⟨fun K => (He.ga K "_law_names"), "_law_names", "_law_names", st__law_names, []⟩
def d__law_web : DefX := ⟨fun K => (He.ga K "_law_web"), "_law_web", "_law_web", st__law_web, []⟩
def d__law_box : DefX := ⟨fun K => (He.ga K "_law_box"), "_law_box", "_law_box", st__law_box, []⟩
def d_law : DefX := ⟨fun K => (He.ga K "law"), "law", "law", st_law, []⟩
def fn : List DefX := [d_Length___eq__, d_is_strings, d_is_rope, d_is_word, d_check_web, d_Length___init__, d_Length___lt__, d_Length_least, d_direct_lengths, d_Length___add__, d_Length___radd__, d_reaches_of, d_Web___init__, d_Web___len__, d_Web_ropes, d_Web_walkers, d__law_told, d__law_is_rope, d__law_has_form, d__law_due, d__law_take, d__law_changed, d__law_spaced, d__law_bent, d__law_mixed, d__law_names, d__law_web, d__law_box, d_law]
def fy : List DefX := [y_NoWeb]
def fa : List Tst := [tFa (.glo "is_strings"), tFa (.glo "is_rope"), tFa (.glo "is_word"), tFa (.glo "check_web"), tFa (.glo "direct_lengths"), tFa (.glo "reaches_of"), tFa (.glo "_law_told"), tFa (.glo "_law_is_rope"), tFa (.glo "_law_has_form"), tFa (.glo "_law_due"), tFa (.glo "_law_take"), tFa (.glo "_law_changed"), tFa (.glo "_law_spaced"), tFa (.glo "_law_bent"), tFa (.glo "_law_mixed"), tFa (.glo "_law_names"), tFa (.glo "_law_web"), tFa (.glo "_law_box"), tFa (.glo "law"), tFld "size" ["Length"], tFld "rank" ["Length"], tFa (.free "isinstance"), tFa (.glo "Length"), tIsi "Length" [("Length", true), ("Web", false)], tFa (.free "len"), tFa (.free "all"), tFa (.free "str"), tFa (.free "tuple"), tFa (.free "bool"), tFa (.free "int"), tFa (.str "LETTERS" "abcdefghijklmnopqrstuvwxyz"), errT "NoWeb" veTl "ValueError.__new__" "ValueError.__init__" "NoWeb.__init__" "/claim/cut.py" ["word", "at"], tFa (.glo "NoWeb"), tFa (.free "super"), tCCon "Web" "MOST" 6, tFa (.glo "Web"), tFa (.free "enumerate"), tOwn "Length" "__lt__", tFa (.mkr "Length"), tStat "Length" "least", tAdd "Length", tFa (.free "dict"), tFld "own_walkers" ["Web"], tFld "own_ropes" ["Web"], tFld "direct" ["Web"], tFld "reaches" ["Web"], exT (fun K => .ref (He.ga K "NoWeb")) [("NoWeb", true)], tFa (.mkr "Web"), excT "NoWeb", isTT ["NoGrove", "NoMatch", "NoText", "NoTree"] [("NoWeb", false)], tFa (.glo "NoTree"), tFa (.glo "NoText"), tFa (.glo "NoMatch"), tFa (.glo "NoGrove"), tOwn "Web" "__len__", tProp "Web" "ropes", tFa (.cls "Web"), tProp "Web" "walkers", tFa (.free "list"), tFa (.free "range"), tFa (.free "min"), tFa (.free "abs"), tNe "Length", tFa (.free "repr")]
abbrev R : PySem.W.OpenRow := PySem.W.OpenLaw.row PySem.Challenge.rw_towgrove_k19_values_that_are_webs
abbrev hk : PySem.W.Hook := hookY 5 fa fn fy
def ob (s : PySem.W.SharedT) : He.AlD := obYG 5 fa fn fy (HandSHeadRun.getT s)
theorem run (w : World) : HandSHeadRun.RunEq R (PySem.W.view R.prog [37]) hk ob 20000 ("_wall" :: "TowError" :: "BuildError" :: "UseError" :: "NoTree" :: "NoGrove" :: "NoWeb" :: "NoText" :: "NoMatch" :: "NoWalker" :: "Length" :: "LETTERS" :: "is_word" :: "is_strings" :: "is_rope" :: "check_web" :: "direct_lengths" :: "reaches_of" :: "need_walkers" :: "Web" :: "_law_box" :: "_law_take" :: "_law_mixed" :: "_law_names" :: "_law_web" :: "_law_changed" :: "_law_is_rope" :: "_law_has_form" :: "_law_due" :: "_law_told" :: "_law_spaced" :: "_law_bent" :: []) w := by
  intro os
  kernel_rfl
end T
namespace T
open PySem L2

inductive D where
  | non | bl (b : Bool) | int (i : Int) | str (s : Str)
  | tup (l : List D) | lst (l : List D)
  | dct (l : List (Key × D)) | dtp (l : List (List Key × D))
  | ins (C : Str) (fs : List (Str × D)) | self (x : Addr) (C : Str) (fs : List (Str × D))
  | box (a : Addr) | ty (n : String) | ref (a : Addr) | scr (ns : List Int) | cls (C : Str) | dself (x : Addr) (l : List (Key × D))

/-- the ghost: what is frozen, which boxes of draws stand -/
structure Gh where
  I : Hp
  B : Addr → Option Addr
def foot (G : Gh) (x : Addr) : Prop := (∃ g, G.B x = some g) ∨ ∃ a, G.B a = some x
structure Le (G G' : Gh) : Prop where
  I : Same G.I G'.I
  B : ∀ a g, G.B a = some g → G'.B a = some g
theorem Le.refl (G : Gh) : Le G G := ⟨Same.refl _, fun _ _ h => h⟩
theorem Le.trans {G G1 G2 : Gh} (a : Le G G1) (b : Le G1 G2) : Le G G2 := ⟨a.I.trans b.I, fun x g h => b.B x g (a.B x g h)⟩

theorem sqt_mono {K : PySem.W.Frag} {H H' : Hp} {a : Addr} {xs : List V} (e : Same H H') (h : SqT K H a xs) : SqT K H' a xs := by
  rcases h with (h | ⟨o, h⟩) | h
  · exact .inl (.inl (e _ _ h))
  · exact .inl (.inr ⟨o, e _ _ h⟩)
  · exact .inr h

/-- a text of code points that are -/
def sOk (s : Str) : Prop := ∀ c ∈ s.cps.toList, c < 0x110000
def kOk : Key → Prop
  | .inl _ => True
  | .inr s => sOk s
mutual
inductive Rep (K : PySem.W.Frag) (G : Gh) : V → D → Prop
  | non : Rep K G .non .non
  | bl (b : Bool) : Rep K G (.bl b) (.bl b)
  | int (i : Int) : Rep K G (.int i) (.int i)
  | str {s : Str} : sOk s → Rep K G (.str s) (.str s)
  | tup {p : Addr} {vs : List V} {ds : List D} : G.I p = some (.tup vs) → RepL K G vs ds → Rep K G (.ref p) (.tup ds)
  | lst {p : Addr} {vs : List V} {ds : List D} : G.I p = some (.lst vs) → RepL K G vs ds → Rep K G (.ref p) (.lst ds)
  | scr {p : Addr} {ns : List Int} : SqL K G.I p (ns.map V.int) → Rep K G (.ref p) (.scr ns)
  | dct {p : Addr} {kvs : List (Key × V)} {kds : List (Key × D)} : G.I p = some (.dK kvs) → kvs.map (·.1) = kds.map (·.1) → RepL K G (kvs.map (·.2)) (kds.map (·.2)) → (∀ k ∈ kds.map (·.1), kOk k) → Rep K G (.ref p) (.dct kds)
  | dtp {p : Addr} {kvs : List (List Key × V)} {kds : List (List Key × D)} : G.I p = some (.dT kvs) → kvs.map (·.1) = kds.map (·.1) → RepL K G (kvs.map (·.2)) (kds.map (·.2)) → (∀ k ∈ kds.map (·.1), ∀ x ∈ k, kOk x) → Rep K G (.ref p) (.dtp kds)
  | ins {p dx : Addr} {C : Str} {fvs : List (Str × V)} {fds : List (Str × D)} : G.I p = some (.ins (He.ga K C) dx fvs) → fvs.map (·.1) = fds.map (·.1) → RepL K G (fvs.map (·.2)) (fds.map (·.2)) → Rep K G (.ref p) (.ins C fds)
  | self {p dx : Addr} {C : Str} {fvs : List (Str × V)} {fds : List (Str × D)} : G.I p = some (.ins (He.ga K C) dx fvs) → fvs.map (·.1) = fds.map (·.1) → RepL K G (fvs.map (·.2)) (fds.map (·.2)) → Rep K G (.ref p) (.self p C fds)
  | box {a g : Addr} : G.B a = some g → Rep K G (.ref a) (.box a)
  | ty (n : String) : Rep K G (.ty n) (.ty n)
  | ref (a : Addr) : Rep K G (.ref a) (.ref a)
  | cls (C : Str) : Rep K G (.ref (He.ga K C)) (.cls C)
  | dself {p : Addr} {kvs : List (Key × V)} {kds : List (Key × D)} : G.I p = some (.dK kvs) → kvs.map (·.1) = kds.map (·.1) → RepL K G (kvs.map (·.2)) (kds.map (·.2)) → (∀ k ∈ kds.map (·.1), kOk k) → Rep K G (.ref p) (.dself p kds)
inductive RepL (K : PySem.W.Frag) (G : Gh) : List V → List D → Prop
  | nil : RepL K G [] []
  | cons {v : V} {vs : List V} {d : D} {ds : List D} : Rep K G v d → RepL K G vs ds → RepL K G (v :: vs) (d :: ds)
end
section
variable {K : PySem.W.Frag} {G G' : Gh}
mutual
theorem Rep.mono (l : Le G G') : ∀ {v : V} {d : D}, Rep K G v d → Rep K G' v d
  | _, _, .non => .non
  | _, _, .bl b => .bl b
  | _, _, .int i => .int i
  | _, _, .str h => .str h
  | _, _, .tup h r => .tup (l.I _ _ h) (r.mono l)
  | _, _, .lst h r => .lst (l.I _ _ h) (r.mono l)
  | _, _, .scr h => .scr (l.I.seq h)
  | _, _, .dct h e r w => .dct (l.I _ _ h) e (r.mono l) w
  | _, _, .dtp h e r w => .dtp (l.I _ _ h) e (r.mono l) w
  | _, _, .ins h e r => .ins (l.I _ _ h) e (r.mono l)
  | _, _, .self h e r => .self (l.I _ _ h) e (r.mono l)
  | _, _, .box h => .box (l.B _ _ h)
  | _, _, .ty n => .ty n
  | _, _, .ref a => .ref a
  | _, _, .cls C => .cls C
  | _, _, .dself h e r w => .dself (l.I _ _ h) e (r.mono l) w
theorem RepL.mono (l : Le G G') : ∀ {vs : List V} {ds : List D}, RepL K G vs ds → RepL K G' vs ds
  | _, _, .nil => .nil
  | _, _, .cons h r => .cons (h.mono l) (r.mono l)
end
theorem RepL.length : ∀ {vs : List V} {ds : List D}, RepL K G vs ds → vs.length = ds.length
  | _, _, .nil => rfl
  | _, _, .cons _ r => congrArg (· + 1) r.length
theorem RepL.append : ∀ {vs ws : List V} {ds es : List D}, RepL K G vs ds → RepL K G ws es → RepL K G (vs ++ ws) (ds ++ es)
  | _, _, _, _, .nil, s => s
  | _, _, _, _, .cons h r, s => .cons h (RepL.append r s)
theorem RepL.one {v : V} {d : D} (h : Rep K G v d) : RepL K G [v] [d] := .cons h .nil
theorem RepL.get : ∀ {vs : List V} {ds : List D} {i : Nat} {d : D}, RepL K G vs ds → ds[i]? = some d → ∃ v, vs[i]? = some v ∧ Rep K G v d
  | _, _, _, _, .nil, e => by simp at e
  | _, _, 0, _, .cons h _, e => by simp at e; subst e; exact ⟨_, rfl, h⟩
  | _, _, i + 1, d, .cons _ r, e => by
    obtain ⟨v, h1, h2⟩ := RepL.get (i := i) (d := d) r (by simpa using e)
    exact ⟨v, by simpa using h1, h2⟩
theorem RepL.getV : ∀ {vs : List V} {ds : List D} {i : Nat} {v : V}, RepL K G vs ds → vs[i]? = some v → ∃ d, ds[i]? = some d ∧ Rep K G v d
  | _, _, _, _, .nil, e => by simp at e
  | _, _, 0, _, .cons h _, e => by simp at e; subst e; exact ⟨_, rfl, h⟩
  | _, _, i + 1, d, .cons _ r, e => by
    obtain ⟨v, h1, h2⟩ := RepL.getV (i := i) (v := d) r (by simpa using e)
    exact ⟨v, by simpa using h1, h2⟩
theorem RepL.take : ∀ {vs : List V} {ds : List D} (n : Nat), RepL K G vs ds → RepL K G (vs.take n) (ds.take n)
  | _, _, 0, _ => .nil
  | _, _, _ + 1, .nil => .nil
  | _, _, n + 1, .cons h r => .cons h (RepL.take n r)
theorem RepL.drop : ∀ {vs : List V} {ds : List D} (n : Nat), RepL K G vs ds → RepL K G (vs.drop n) (ds.drop n)
  | _, _, 0, r => r
  | _, _, _ + 1, .nil => .nil
  | _, _, n + 1, .cons _ r => RepL.drop n r
theorem RepL.reverse : ∀ {vs : List V} {ds : List D}, RepL K G vs ds → RepL K G vs.reverse ds.reverse
  | _, _, .nil => .nil
  | _, _, .cons h r => by
    rw [List.reverse_cons, List.reverse_cons]
    exact r.reverse.append (.one h)
theorem RepL.set {v : V} {d : D} (h : Rep K G v d) : ∀ {vs : List V} {ds : List D} (i : Nat), RepL K G vs ds → RepL K G (vs.set i v) (ds.set i d)
  | _, _, _, .nil => .nil
  | _, _, 0, .cons _ r => .cons h r
  | _, _, i + 1, .cons q r => .cons q (RepL.set h i r)
theorem RepL.eraseIdx : ∀ {vs : List V} {ds : List D} (i : Nat), RepL K G vs ds → RepL K G (vs.eraseIdx i) (ds.eraseIdx i)
  | _, _, _, .nil => .nil
  | _, _, 0, .cons _ r => r
  | _, _, i + 1, .cons q r => .cons q (RepL.eraseIdx i r)
theorem RepL.ints : ∀ {vs : List V} {ns : List Int}, RepL K G vs (ns.map D.int) → vs = ns.map V.int
  | _, [], .nil => rfl
  | _, n :: r, .cons h t => by
    cases h
    rw [List.map_cons, RepL.ints t]
theorem RepL.strs : ∀ {vs : List V} {ns : List Str}, RepL K G vs (ns.map D.str) → vs = ns.map V.str
  | _, [], .nil => rfl
  | _, n :: r, .cons h t => by
    cases h
    rw [List.map_cons, RepL.strs t]
theorem RepL.bls : ∀ {vs : List V} {ns : List Bool}, RepL K G vs (ns.map D.bl) → vs = ns.map V.bl
  | _, [], .nil => rfl
  | _, n :: r, .cons h t => by
    cases h
    rw [List.map_cons, RepL.bls t]
theorem RepL.ofInts : ∀ ns : List Int, RepL K G (ns.map V.int) (ns.map D.int)
  | [] => .nil
  | n :: r => .cons (.int n) (RepL.ofInts r)
theorem RepL.ofStrs : ∀ ns : List Str, (∀ n ∈ ns, sOk n) → RepL K G (ns.map V.str) (ns.map D.str)
  | [], _ => .nil
  | n :: r, h => .cons (.str (h n List.mem_cons_self)) (RepL.ofStrs r fun x hx => h x (List.mem_cons_of_mem _ hx))
theorem RepL.okStrs : ∀ {vs : List V} {ns : List Str}, RepL K G vs (ns.map D.str) → ∀ n ∈ ns, sOk n
  | _, [], .nil, _, h => by cases h
  | _, n :: r, .cons h t, x, hx => by
    cases h with
    | str q =>
      rcases List.mem_cons.mp hx with rfl | hx
      · exact q
      · exact RepL.okStrs t x hx
end

/-! ### the box of draws -/
def boxKv (g : Addr) (now seed turn : Int) : List (Key × V) := [(.inr "great", .ref g), (.inr "now", .int now), (.inr "seed", .int seed), (.inr "turn", .int turn)]
structure BoxAt (H : Hp) (a g : Addr) : Prop where
  at_ : ∃ (gs : List Int) (now seed turn : Int), H a = some (.dK (boxKv g now seed turn)) ∧ H g = some (.lst (gs.map V.int)) ∧ (∀ x ∈ gs, 0 ≤ x) ∧ 0 ≤ now ∧ 0 ≤ seed ∧ 0 ≤ turn ∧ gs.length ≤ 50
structure GOk (G : Gh) (H : Hp) : Prop where
  sub : Same G.I H
  box : ∀ a g, G.B a = some g → BoxAt H a g ∧ G.I a = none ∧ G.I g = none
  sep : ∀ a g a' g', G.B a = some g → G.B a' = some g' → a ≠ g' ∧ (g = g' → a = a')
structure Ent where
  G : Gh
  H : Hp
structure Step (e : Ent) (G : Gh) (H : Hp) (G' : Gh) (H' : Hp) : Prop where
  le : Le G G'
  old : ∀ a, (e.H a).isSome = true → ¬ foot e.G a → H' a = H a
  noI : ∀ a, (e.H a).isSome = true → G.I a = none → G'.I a = none
  noB : ∀ a, (e.H a).isSome = true → ¬ foot G a → ¬ foot G' a
  dom : ∀ a, (e.H a).isSome = true → (H a).isSome = true → (H' a).isSome = true
theorem Step.refl {e : Ent} {G : Gh} {H : Hp} : Step e G H G H := ⟨Le.refl _, fun _ _ _ => rfl, fun _ _ h => h, fun _ _ h => h, fun _ _ h => h⟩
theorem Step.trans {e : Ent} {G G1 G2 : Gh} {H H1 H2 : Hp} (a : Step e G H G1 H1) (b : Step e G1 H1 G2 H2) : Step e G H G2 H2 :=
  ⟨a.le.trans b.le, fun x h n => (b.old x h n).trans (a.old x h n), fun x h n => b.noI x h (a.noI x h n), fun x h n => b.noB x h (a.noB x h n), fun x h n => b.dom x h (a.dom x h n)⟩

inductive Sl where
  | no | im (d : D) | ow (d : D)
abbrev DSt := List Sl
def OwnAt (K : PySem.W.Frag) (G : Gh) (H : Hp) (l : Addr) : D → Prop
  | .lst ds => ∃ vs, H l = some (.lst vs) ∧ RepL K G vs ds
  | .dct kds => ∃ kvs, H l = some (.dK kvs) ∧ kvs.map (·.1) = kds.map (·.1) ∧ RepL K G (kvs.map (·.2)) (kds.map (·.2)) ∧ ∀ k ∈ kds.map (·.1), kOk k
  | .dtp kds => ∃ kvs, H l = some (.dT kvs) ∧ kvs.map (·.1) = kds.map (·.1) ∧ RepL K G (kvs.map (·.2)) (kds.map (·.2)) ∧ ∀ k ∈ kds.map (·.1), ∀ x ∈ k, kOk x
  | .ins C fds => ∃ dx fvs, H l = some (.ins (He.ga K C) dx fvs) ∧ fvs.map (·.1) = fds.map (·.1) ∧ RepL K G (fvs.map (·.2)) (fds.map (·.2))
  | .dself x kds => l = x ∧ ∃ kvs, H l = some (.dK kvs) ∧ kvs.map (·.1) = kds.map (·.1) ∧ RepL K G (kvs.map (·.2)) (kds.map (·.2)) ∧ ∀ k ∈ kds.map (·.1), kOk k
  | .self x C fds => l = x ∧ ∃ dx fvs, H l = some (.ins (He.ga K C) dx fvs) ∧ fvs.map (·.1) = fds.map (·.1) ∧ RepL K G (fvs.map (·.2)) (fds.map (·.2))
  | _ => False
theorem OwnAt.mono {K : PySem.W.Frag} {G G' : Gh} {H H' : Hp} {l : Addr} (le : Le G G') (e : H' l = H l) : ∀ {d : D}, OwnAt K G H l d → OwnAt K G' H' l d
  | .lst _, ⟨vs, h, r⟩ => ⟨vs, e.trans h, r.mono le⟩
  | .dct _, ⟨vs, h, q, r, w⟩ => ⟨vs, e.trans h, q, r.mono le, w⟩
  | .dtp _, ⟨vs, h, q, r, w⟩ => ⟨vs, e.trans h, q, r.mono le, w⟩
  | .ins _ _, ⟨dx, vs, h, q, r⟩ => ⟨dx, vs, e.trans h, q, r.mono le⟩
  | .self _ _ _, ⟨z, dx, vs, h, q, r⟩ => ⟨z, dx, vs, e.trans h, q, r.mono le⟩
  | .dself _ _, ⟨z, vs, h, q, r, w⟩ => ⟨z, vs, e.trans h, q, r.mono le, w⟩
/-- what stands at an owned address -/
theorem OwnAt.obj {K : PySem.W.Frag} {G : Gh} {H : Hp} {l : Addr} : ∀ {d : D}, OwnAt K G H l d → ∃ o, H l = some o ∧ ∀ G' : Gh, Le G G' → G'.I l = some o → Rep K G' (.ref l) d
  | .lst _, ⟨vs, h, r⟩ => ⟨_, h, fun G' le e => .lst e (r.mono le)⟩
  | .dct _, ⟨vs, h, q, r, w⟩ => ⟨_, h, fun G' le e => .dct e q (r.mono le) w⟩
  | .dtp _, ⟨vs, h, q, r, w⟩ => ⟨_, h, fun G' le e => .dtp e q (r.mono le) w⟩
  | .ins _ _, ⟨dx, vs, h, q, r⟩ => ⟨_, h, fun G' le e => .ins e q (r.mono le)⟩
  | .self _ _ _, ⟨z, dx, vs, h, q, r⟩ => ⟨_, h, fun G' le e => by subst z; exact .self e q (r.mono le)⟩
  | .dself _ _, ⟨z, vs, h, q, r, w⟩ => ⟨_, h, fun G' le e => by subst z; exact .dself e q (r.mono le) w⟩
structure Mine (K : PySem.W.Frag) (e : Ent) (G : Gh) (H : Hp) (l : Addr) (d : D) : Prop where
  own : OwnAt K G H l d
  nI : G.I l = none
  nB : ¬ foot G l
  new : e.H l = none
def SlOk (K : PySem.W.Frag) (e : Ent) (G : Gh) (H : Hp) (o : Option V) : Sl → Prop
  | .no => True
  | .im d => ∃ v, o = some v ∧ Rep K G v d
  | .ow d => ∃ l, o = some (.ref l) ∧ Mine K e G H l d
structure Sts (K : PySem.W.Frag) (e : Ent) (G : Gh) (H : Hp) (σ : St) (δ : DSt) : Prop where
  ok : GOk G H
  stp : Step e e.G e.H G H
  len : σ.length = δ.length
  sl : ∀ (i : Nat) (s : Sl), δ[i]? = some s → ∃ o, σ[i]? = some o ∧ SlOk K e G H o s
  sep : ∀ (i j : Nat) (di dj : D) (l : Addr), i ≠ j → δ[i]? = some (.ow di) → δ[j]? = some (.ow dj) → σ[i]? = some (some (.ref l)) → σ[j]? = some (some (.ref l)) → False
end T

namespace T
open PySem L2

section
variable {K : PySem.W.Frag} {e : Ent} {G G' : Gh} {H H' : Hp} {σ : St} {δ : DSt}

theorem Sts.eNone (S : Sts K e G H σ δ) {p : Addr} (h : H p = none) : e.H p = none := by
  cases q : e.H p with
  | none => rfl
  | some o =>
    have := S.stp.dom p (by rw [q]; rfl) (by rw [q]; rfl)
    rw [h] at this; cases this
theorem GOk.iNone (k : GOk G H) {p : Addr} (h : H p = none) : G.I p = none := k.sub.free h
theorem GOk.noFoot (k : GOk G H) {p : Addr} (h : H p = none) : ¬ foot G p := by
  rintro (⟨g, q⟩ | ⟨a, q⟩)
  · obtain ⟨gs, now, seed, turn, ha, _⟩ := (k.box _ _ q).1.at_
    rw [h] at ha; cases ha
  · obtain ⟨gs, now, seed, turn, _, hg, _⟩ := (k.box _ _ q).1.at_
    rw [h] at hg; cases hg
theorem BoxAt.keep {a g : Addr} (b : BoxAt H a g) (h1 : H' a = H a) (h2 : H' g = H g) : BoxAt H' a g := by
  obtain ⟨gs, now, seed, turn, ha, hg, r⟩ := b.at_
  exact ⟨gs, now, seed, turn, h1.trans ha, h2.trans hg, r⟩
/-- a change at an address that is neither frozen nor a box's -/
theorem GOk.updO (k : GOk G H) {p : Addr} {o : HO} (nI : G.I p = none) (nB : ¬ foot G p) : GOk G (upd H p o) where
  sub := fun b q h => by rw [upd_ne (ne_of_none h nI)]; exact k.sub b q h
  box := fun a g q => by
    obtain ⟨b, i1, i2⟩ := k.box a g q
    have na : a ≠ p := fun z => nB (.inl ⟨g, by rw [← z]; exact q⟩)
    have ng : g ≠ p := fun z => nB (.inr ⟨a, by rw [← z]; exact q⟩)
    exact ⟨b.keep (upd_ne na) (upd_ne ng), i1, i2⟩
  sep := k.sep
theorem Step.updO {p : Addr} {o : HO} (new : e.H p = none) : Step e G H G (upd H p o) where
  le := Le.refl _
  old := fun a h _ => upd_ne fun z => by rw [z, new] at h; cases h
  noI := fun _ _ h => h
  noB := fun _ _ h => h
  dom := fun a h q => by
    rw [upd_ne fun z => by rw [z, new] at h; cases h]
    exact q
theorem Mine.updO {l p : Addr} {o : HO} {d : D} (m : Mine K e G H l d) (h : l ≠ p) : Mine K e G (upd H p o) l d :=
  ⟨m.own.mono (Le.refl _) (upd_ne h), m.nI, m.nB, m.new⟩
/-- a change at an address that no slot owns -/
theorem Sts.updO (S : Sts K e G H σ δ) {p : Addr} {o : HO} (nI : G.I p = none) (nB : ¬ foot G p) (new : e.H p = none) (ap : ∀ (i : Nat) (d : D), δ[i]? = some (.ow d) → σ[i]? ≠ some (some (.ref p))) : Sts K e G (upd H p o) σ δ where
  ok := S.ok.updO nI nB
  stp := S.stp.trans (Step.updO new)
  len := S.len
  sl := fun i s hs => by
    obtain ⟨x, hx, h⟩ := S.sl i s hs
    refine ⟨x, hx, ?_⟩
    cases s with
    | no => trivial
    | im d => exact h
    | ow d =>
      obtain ⟨l, rfl, m⟩ := h
      exact ⟨l, rfl, m.updO fun z => ap i d hs (by rw [hx, z])⟩
  sep := S.sep
theorem Mine.obj {l : Addr} {d : D} (m : Mine K e G H l d) : ∃ o, H l = some o := let ⟨o, h, _⟩ := m.own.obj; ⟨o, h⟩
/-- a new object -/
theorem Sts.new (S : Sts K e G H σ δ) {p : Addr} {o : HO} (h : H p = none) : Sts K e G (L2.upd H p o) σ δ ∧ Step e G H G (L2.upd H p o) ∧ G.I p = none ∧ ¬ foot G p ∧ e.H p = none ∧ ∀ (i : Nat) (d : D), δ[i]? = some (.ow d) → σ[i]? ≠ some (some (.ref p)) := by
  have nI := S.ok.iNone h
  have nB := S.ok.noFoot h
  have new := S.eNone h
  have ap : ∀ (i : Nat) (d : D), δ[i]? = some (.ow d) → σ[i]? ≠ some (some (.ref p)) := fun i d hs z => by
    obtain ⟨x, hx, q⟩ := S.sl i _ hs
    obtain ⟨l, rfl, m⟩ := q
    rw [hx] at z
    have e1 : l = p := by simpa using z
    obtain ⟨o', ho⟩ := m.obj
    rw [e1, h] at ho; cases ho
  exact ⟨S.updO nI nB new ap, Step.updO new, nI, nB, new, ap⟩

/-! ### freezing -/
def Gh.fz (G : Gh) (l : Addr) (o : HO) : Gh := { G with I := L2.upd G.I l o }
theorem Gh.fz_le {l : Addr} {o : HO} (h : G.I l = none) : Le G (G.fz l o) := ⟨fun b q z => by show L2.upd G.I l o b = some q; rw [upd_ne (ne_of_none z h)]; exact z, fun _ _ z => z⟩
theorem Mine.fz {l m : Addr} {o : HO} {d : D} (x : Mine K e G H m d) (h : m ≠ l) (hl : G.I l = none) : Mine K e (G.fz l o) H m d :=
  ⟨x.own.mono (Gh.fz_le hl) rfl, by show L2.upd G.I l o m = none; rw [upd_ne h]; exact x.nI, x.nB, x.new⟩
theorem GOk.fz (k : GOk G H) {l : Addr} {o : HO} (ho : H l = some o) (nB : ¬ foot G l) : GOk (G.fz l o) H where
  sub := fun b q h => by
    have h' : L2.upd G.I l o b = some q := h
    by_cases z : b = l
    · subst z; rw [upd_same] at h'; cases h'; exact ho
    · rw [upd_ne z] at h'; exact k.sub b q h'
  box := fun a g q => by
    have q' : G.B a = some g := q
    obtain ⟨b, i1, i2⟩ := k.box a g q'
    refine ⟨b, ?_, ?_⟩
    · show L2.upd G.I l o a = none
      rw [upd_ne fun z => nB (.inl ⟨g, by rw [← z]; exact q'⟩)]; exact i1
    · show L2.upd G.I l o g = none
      rw [upd_ne fun z => nB (.inr ⟨a, by rw [← z]; exact q'⟩)]; exact i2
  sep := k.sep
theorem Step.fz {l : Addr} {o : HO} (nI : G.I l = none) (new : e.H l = none) : Step e G H (G.fz l o) H where
  le := Gh.fz_le nI
  old := fun _ _ _ => rfl
  noI := fun a h q => by show L2.upd G.I l o a = none; rw [upd_ne fun z => by rw [z, new] at h; cases h]; exact q
  noB := fun _ _ h => h
  dom := fun _ _ h => h
/-- freezing a thing that is ours and that no slot owns -/
theorem Sts.freeze (S : Sts K e G H σ δ) {l : Addr} {d : D} (m : Mine K e G H l d) (ap : ∀ (i : Nat) (d : D), δ[i]? = some (.ow d) → σ[i]? ≠ some (some (.ref l))) :
    ∃ G', Sts K e G' H σ δ ∧ Step e G H G' H ∧ Rep K G' (.ref l) d := by
  obtain ⟨o, ho, hr⟩ := m.own.obj
  refine ⟨G.fz l o, ⟨S.ok.fz ho m.nB, S.stp.trans (Step.fz m.nI m.new), S.len, fun i s hs => ?_, S.sep⟩, Step.fz m.nI m.new, hr _ (Gh.fz_le m.nI) upd_same⟩
  obtain ⟨x, hx, h⟩ := S.sl i s hs
  refine ⟨x, hx, ?_⟩
  cases s with
  | no => trivial
  | im d => obtain ⟨v, e1, r⟩ := h; exact ⟨v, e1, r.mono (Gh.fz_le m.nI)⟩
  | ow d' =>
    obtain ⟨l', rfl, m'⟩ := h
    exact ⟨l', rfl, m'.fz (fun z => ap i d' hs (by rw [hx, z])) m.nI⟩
theorem Sts.setNo (S : Sts K e G H σ δ) (i : Nat) : Sts K e G H σ (δ.set i .no) where
  ok := S.ok
  stp := S.stp
  len := by rw [List.length_set]; exact S.len
  sl := fun j s hs => by
    by_cases z : i = j
    · subst z
      by_cases hl : i < δ.length
      · rw [List.getElem?_set_self hl] at hs
        cases hs
        obtain ⟨x, hx, _⟩ := S.sl i _ (List.getElem?_eq_getElem hl)
        exact ⟨x, hx, trivial⟩
      · rw [List.set_eq_of_length_le (by omega)] at hs
        exact S.sl i s hs
    · rw [List.getElem?_set_ne z] at hs
      exact S.sl j s hs
  sep := fun a b da db l hab ha hb => by
    have f : ∀ (a : Nat) (da : D), (δ.set i .no)[a]? = some (.ow da) → δ[a]? = some (.ow da) := fun a da ha => by
      by_cases z : i = a
      · subst z
        by_cases hl : i < δ.length
        · rw [List.getElem?_set_self hl] at ha; cases ha
        · rw [List.set_eq_of_length_le (by omega)] at ha; exact ha
      · rw [List.getElem?_set_ne z] at ha; exact ha
    exact S.sep a b da db l hab (f a da ha) (f b db hb)
theorem ow_set {δ : DSt} {i j : Nat} {s : Sl} {d : D} (h : (δ.set i s)[j]? = some (.ow d)) : (j = i ∧ s = .ow d) ∨ (j ≠ i ∧ δ[j]? = some (.ow d)) := by
  by_cases z : i = j
  · subst z
    by_cases hl : i < δ.length
    · rw [List.getElem?_set_self hl] at h
      exact .inl ⟨rfl, Option.some.inj h⟩
    · rw [List.set_eq_of_length_le (by omega)] at h
      have := (List.getElem?_eq_some_iff.mp h).1
      omega
  · rw [List.getElem?_set_ne z] at h
    exact .inr ⟨fun q => z q.symm, h⟩
/-- a slot is known to hold a frozen thing -/
theorem Sts.know (S : Sts K e G H σ δ) {i : Nat} {v : V} {d : D} (hv : σ[i]? = some (some v)) (r : Rep K G v d) : Sts K e G H σ (δ.set i (.im d)) where
  ok := S.ok
  stp := S.stp
  len := by rw [List.length_set]; exact S.len
  sl := fun j s hs => by
    by_cases z : i = j
    · subst z
      by_cases hl : i < δ.length
      · rw [List.getElem?_set_self hl] at hs
        cases hs
        exact ⟨_, hv, v, rfl, r⟩
      · rw [List.set_eq_of_length_le (by omega)] at hs
        exact S.sl i s hs
    · rw [List.getElem?_set_ne z] at hs
      exact S.sl j s hs
  sep := fun a b da db l hab ha hb => by
    rcases ow_set ha with ⟨_, z⟩ | ⟨_, ha⟩
    · cases z
    · rcases ow_set hb with ⟨_, z⟩ | ⟨_, hb⟩
      · cases z
      · exact S.sep a b da db l hab ha hb
/-- an owned slot is frozen -/
theorem Sts.fzSlot (S : Sts K e G H σ δ) {i : Nat} {d : D} (hs : δ[i]? = some (.ow d)) : ∃ G' v, σ[i]? = some (some v) ∧ Sts K e G' H σ (δ.set i (.im d)) ∧ Step e G H G' H ∧ Rep K G' v d := by
  obtain ⟨x, hx, l, rfl, m⟩ := S.sl i _ hs
  have S1 := S.setNo i
  have ap : ∀ (j : Nat) (d' : D), (δ.set i .no)[j]? = some (.ow d') → σ[j]? ≠ some (some (.ref l)) := fun j d' h z => by
    rcases ow_set h with ⟨_, q⟩ | ⟨n, h⟩
    · cases q
    · exact S.sep j i d' d l n h hs z hx
  obtain ⟨G', S2, st, r⟩ := S1.freeze m ap
  refine ⟨G', _, hx, ?_, st, r⟩
  have S3 := S2.know hx r
  rwa [List.set_set] at S3
theorem Sts.asg (S : Sts K e G H σ δ) {i : Nat} {v : V} {d : D} (r : Rep K G v d) : Sts K e G H (σ.set i (some v)) (δ.set i (.im d)) where
  ok := S.ok
  stp := S.stp
  len := by rw [List.length_set, List.length_set]; exact S.len
  sl := fun j s hs => by
    by_cases z : i = j
    · subst z
      by_cases hl : i < δ.length
      · rw [List.getElem?_set_self hl] at hs
        cases hs
        exact ⟨_, List.getElem?_set_self (by rw [S.len]; exact hl), v, rfl, r⟩
      · rw [List.set_eq_of_length_le (by omega)] at hs
        have := (List.getElem?_eq_some_iff.mp hs).1
        omega
    · rw [List.getElem?_set_ne z] at hs
      rw [List.getElem?_set_ne z]
      exact S.sl j s hs
  sep := fun a b da db l hab ha hb qa qb => by
    rcases ow_set ha with ⟨_, z⟩ | ⟨na, ha⟩
    · cases z
    · rcases ow_set hb with ⟨_, z⟩ | ⟨nb, hb⟩
      · cases z
      · rw [List.getElem?_set_ne (fun z => na z.symm)] at qa
        rw [List.getElem?_set_ne (fun z => nb z.symm)] at qb
        exact S.sep a b da db l hab ha hb qa qb
theorem Sts.asgO (S : Sts K e G H σ δ) {i : Nat} {l : Addr} {d : D} (m : Mine K e G H l d) (ap : ∀ (i : Nat) (d : D), δ[i]? = some (.ow d) → σ[i]? ≠ some (some (.ref l))) : Sts K e G H (σ.set i (some (.ref l))) (δ.set i (.ow d)) where
  ok := S.ok
  stp := S.stp
  len := by rw [List.length_set, List.length_set]; exact S.len
  sl := fun j s hs => by
    by_cases z : i = j
    · subst z
      by_cases hl : i < δ.length
      · rw [List.getElem?_set_self hl] at hs
        cases hs
        exact ⟨_, List.getElem?_set_self (by rw [S.len]; exact hl), l, rfl, m⟩
      · rw [List.set_eq_of_length_le (by omega)] at hs
        have := (List.getElem?_eq_some_iff.mp hs).1
        omega
    · rw [List.getElem?_set_ne z] at hs
      rw [List.getElem?_set_ne z]
      exact S.sl j s hs
  sep := fun a b da db x hab ha hb qa qb => by
    rcases ow_set ha with ⟨ea, za⟩ | ⟨na, ha2⟩
    · rcases ow_set hb with ⟨eb, _⟩ | ⟨nb, hb2⟩
      · exact hab (ea.trans eb.symm)
      · rw [List.getElem?_set_ne (fun z => nb z.symm)] at qb
        subst ea
        by_cases hl : a < σ.length
        · rw [List.getElem?_set_self hl] at qa
          have : l = x := by simpa using qa
          subst this
          exact ap b db hb2 qb
        · rw [List.set_eq_of_length_le (by omega)] at qa
          have := (List.getElem?_eq_some_iff.mp qa).1
          omega
    · rcases ow_set hb with ⟨eb, _⟩ | ⟨nb, hb⟩
      · rw [List.getElem?_set_ne (fun z => na z.symm)] at qa
        subst eb
        by_cases hl : b < σ.length
        · rw [List.getElem?_set_self hl] at qb
          have : l = x := by simpa using qb
          subst this
          exact ap a da ha2 qa
        · rw [List.set_eq_of_length_le (by omega)] at qb
          have := (List.getElem?_eq_some_iff.mp qb).1
          omega
      · rw [List.getElem?_set_ne (fun z => na z.symm)] at qa
        rw [List.getElem?_set_ne (fun z => nb z.symm)] at qb
        exact S.sep a b da db x hab ha2 hb qa qb
/-- an owned slot's object is changed -/
theorem Sts.write (S : Sts K e G H σ δ) {i : Nat} {d d' : D} {l : Addr} {o : HO} (hs : δ[i]? = some (.ow d)) (hx : σ[i]? = some (some (.ref l))) (hn : OwnAt K G (L2.upd H l o) l d') :
    Sts K e G (L2.upd H l o) σ (δ.set i (.ow d')) ∧ Step e G H G (L2.upd H l o) := by
  obtain ⟨x, hx', l', e1, m⟩ := S.sl i _ hs
  rw [hx] at hx'
  cases hx'
  have e2 : l = l' := by simpa using e1
  subst e2
  have S1 := S.setNo i
  have ap : ∀ (j : Nat) (d' : D), (δ.set i .no)[j]? = some (.ow d') → σ[j]? ≠ some (some (.ref l)) := fun j d' h z => by
    rcases ow_set h with ⟨_, q⟩ | ⟨n, h⟩
    · cases q
    · exact S.sep j i d' d l n h hs z hx
  have S2 := S1.updO (o := o) m.nI m.nB m.new ap
  have S3 := S2.asgO (i := i) (d := d') (l := l) ⟨hn, m.nI, m.nB, m.new⟩ ap
  rw [List.set_set] at S3
  have hi : i < σ.length := (List.getElem?_eq_some_iff.mp hx).1
  have e3 : σ.set i (some (.ref l)) = σ := by
    have h2 := (List.getElem?_eq_some_iff.mp hx).2
    rw [← h2]
    exact List.set_getElem_self hi
  rw [e3] at S3
  exact ⟨S3, Step.updO m.new⟩
end
/-! ### the state with temporaries held: more slots behind the frame's -/
structure Tm where
  v : St
  d : DSt
structure SS (K : PySem.W.Frag) (e : Ent) (T : Tm) (G : Gh) (H : Hp) (σ : St) (δ : DSt) : Prop where
  ln : δ.length = σ.length
  s : Sts K e G H (σ ++ T.v) (δ ++ T.d)
def Apart (σ : St) (δ : DSt) (T : Tm) (l : Addr) : Prop := ∀ (i : Nat) (d : D), (δ ++ T.d)[i]? = some (.ow d) → (σ ++ T.v)[i]? ≠ some (some (.ref l))
section
variable {K : PySem.W.Frag} {e : Ent} {T : Tm} {G G' : Gh} {H H' : Hp} {σ : St} {δ : DSt}
theorem SS.ok (S : SS K e T G H σ δ) : GOk G H := S.s.ok
theorem SS.stp (S : SS K e T G H σ δ) : Step e e.G e.H G H := S.s.stp
theorem lt_of_get {α : Type} {l : List α} {i : Nat} {x : α} (h : l[i]? = some x) : i < l.length := (List.getElem?_eq_some_iff.mp h).1
theorem get_l {α : Type} {l r : List α} {i : Nat} (h : i < l.length) : (l ++ r)[i]? = l[i]? := List.getElem?_append_left h
theorem SS.sl (S : SS K e T G H σ δ) (i : Nat) (s : Sl) (h : δ[i]? = some s) : ∃ o, σ[i]? = some o ∧ SlOk K e G H o s := by
  have hi := lt_of_get h
  obtain ⟨o, h1, h2⟩ := S.s.sl i s (by rw [get_l hi]; exact h)
  rw [get_l (by rw [← S.ln]; exact hi)] at h1
  exact ⟨o, h1, h2⟩
theorem set_app {α : Type} {l r : List α} {i : Nat} {x : α} (h : i < l.length) : (l ++ r).set i x = l.set i x ++ r := by rw [List.set_append, if_pos h]
theorem SS.new (S : SS K e T G H σ δ) {p : Addr} {o : HO} (h : H p = none) : SS K e T G (L2.upd H p o) σ δ ∧ Step e G H G (L2.upd H p o) ∧ G.I p = none ∧ ¬ foot G p ∧ e.H p = none ∧ Apart σ δ T p := by
  obtain ⟨a, b, c, d, f, g⟩ := S.s.new (o := o) h
  exact ⟨⟨S.ln, a⟩, b, c, d, f, g⟩
theorem SS.freeze (S : SS K e T G H σ δ) {l : Addr} {d : D} (m : Mine K e G H l d) (ap : Apart σ δ T l) : ∃ G', SS K e T G' H σ δ ∧ Step e G H G' H ∧ Rep K G' (.ref l) d := by
  obtain ⟨G', a, b, c⟩ := S.s.freeze m ap
  exact ⟨G', ⟨S.ln, a⟩, b, c⟩
theorem SS.fzSlot (S : SS K e T G H σ δ) {i : Nat} {d : D} (hs : δ[i]? = some (.ow d)) : ∃ G' v, σ[i]? = some (some v) ∧ SS K e T G' H σ (δ.set i (.im d)) ∧ Step e G H G' H ∧ Rep K G' v d := by
  have hi := lt_of_get hs
  obtain ⟨G', v, h1, a, b, c⟩ := S.s.fzSlot (i := i) (d := d) (by rw [get_l hi]; exact hs)
  rw [get_l (by rw [← S.ln]; exact hi)] at h1
  rw [set_app hi] at a
  exact ⟨G', v, h1, ⟨by rw [List.length_set]; exact S.ln, a⟩, b, c⟩
theorem set_out {α : Type} {l : List α} {i : Nat} {x : α} (h : ¬ i < l.length) : l.set i x = l := List.set_eq_of_length_le (by omega)
theorem SS.asg (S : SS K e T G H σ δ) {i : Nat} {v : V} {d : D} (r : Rep K G v d) : SS K e T G H (σ.set i (some v)) (δ.set i (.im d)) := by
  by_cases hi : i < δ.length
  · have a := S.s.asg (i := i) r
    rw [set_app hi, set_app (by rw [← S.ln]; exact hi)] at a
    exact ⟨by rw [List.length_set, List.length_set]; exact S.ln, a⟩
  · rw [set_out hi, set_out (by rw [← S.ln]; exact hi)]
    exact S
theorem SS.asgO (S : SS K e T G H σ δ) {i : Nat} {l : Addr} {d : D} (m : Mine K e G H l d) (ap : Apart σ δ T l) : SS K e T G H (σ.set i (some (.ref l))) (δ.set i (.ow d)) := by
  by_cases hi : i < δ.length
  · have a := S.s.asgO (i := i) m ap
    rw [set_app hi, set_app (by rw [← S.ln]; exact hi)] at a
    exact ⟨by rw [List.length_set, List.length_set]; exact S.ln, a⟩
  · rw [set_out hi, set_out (by rw [← S.ln]; exact hi)]
    exact S
theorem SS.write (S : SS K e T G H σ δ) {i : Nat} {d d' : D} {l : Addr} {o : HO} (hs : δ[i]? = some (.ow d)) (hx : σ[i]? = some (some (.ref l))) (hn : OwnAt K G (L2.upd H l o) l d') :
    SS K e T G (L2.upd H l o) σ (δ.set i (.ow d')) ∧ Step e G H G (L2.upd H l o) := by
  have hi := lt_of_get hs
  obtain ⟨a, b⟩ := S.s.write (i := i) (d := d) (d' := d') (l := l) (o := o) (by rw [get_l hi]; exact hs) (by rw [get_l (by rw [← S.ln]; exact hi)]; exact hx) hn
  rw [set_app hi] at a
  exact ⟨⟨by rw [List.length_set]; exact S.ln, a⟩, b⟩
theorem SS.setNo (S : SS K e T G H σ δ) (i : Nat) : SS K e T G H σ (δ.set i .no) := by
  by_cases hi : i < δ.length
  · have a := S.s.setNo i
    rw [set_app hi] at a
    exact ⟨by rw [List.length_set]; exact S.ln, a⟩
  · rw [set_out hi]; exact S
/-- one thing more is held -/
def Tm.push (T : Tm) (l : Addr) (d : D) : Tm := ⟨T.v ++ [some (.ref l)], T.d ++ [.ow d]⟩
theorem getElem?_snoc {α : Type} {l : List α} {x : α} {i : Nat} : (l ++ [x])[i]? = if i = l.length then some x else l[i]? := by
  by_cases h : i < l.length
  · rw [List.getElem?_append_left h, if_neg (by omega)]
  · rw [List.getElem?_append_right (by omega)]
    by_cases z : i = l.length
    · subst z; simp
    · have h1 : ([x] : List α).length ≤ i - l.length := by simp; omega
      rw [if_neg z, List.getElem?_eq_none h1, List.getElem?_eq_none (show l.length ≤ i by omega)]
theorem SS.hold (S : SS K e T G H σ δ) {l : Addr} {d : D} (m : Mine K e G H l d) (ap : Apart σ δ T l) : SS K e (T.push l d) G H σ δ := by
  refine ⟨S.ln, S.ok, S.stp, ?_, fun i s hs => ?_, fun i j di dj x hij hi hj qi qj => ?_⟩
  · have := S.s.len
    simp only [Tm.push, List.length_append] at this ⊢
    simp; omega
  · have e1 : δ ++ (T.push l d).d = (δ ++ T.d) ++ [.ow d] := by simp [Tm.push]
    have e2 : σ ++ (T.push l d).v = (σ ++ T.v) ++ [some (.ref l)] := by simp [Tm.push]
    rw [e1, getElem?_snoc] at hs
    rw [e2, getElem?_snoc]
    by_cases z : i = (δ ++ T.d).length
    · rw [if_pos z] at hs
      cases hs
      rw [if_pos (by rw [S.s.len]; exact z)]
      exact ⟨_, rfl, l, rfl, m⟩
    · rw [if_neg z] at hs
      rw [if_neg (by rw [S.s.len]; exact z)]
      exact S.s.sl i s hs
  · have e1 : δ ++ (T.push l d).d = (δ ++ T.d) ++ [.ow d] := by simp [Tm.push]
    have e2 : σ ++ (T.push l d).v = (σ ++ T.v) ++ [some (.ref l)] := by simp [Tm.push]
    rw [e1, getElem?_snoc] at hi hj
    rw [e2, getElem?_snoc] at qi qj
    rw [S.s.len] at qi qj
    by_cases zi : i = (δ ++ T.d).length
    · by_cases zj : j = (δ ++ T.d).length
      · exact hij (zi.trans zj.symm)
      · rw [if_neg zj] at hj qj
        rw [if_pos zi] at qi
        have : l = x := by simpa using qi
        subst this
        exact ap j dj hj qj
    · rw [if_neg zi] at hi qi
      by_cases zj : j = (δ ++ T.d).length
      · rw [if_pos zj] at qj
        have : l = x := by simpa using qj
        subst this
        exact ap i di hi qi
      · rw [if_neg zj] at hj qj
        exact S.s.sep i j di dj x hij hi hj qi qj
/-- .. and let go: it is ours, as it was -/
theorem SS.drop {l : Addr} {d : D} (S : SS K e (T.push l d) G H σ δ) : SS K e T G H σ δ ∧ Mine K e G H l d ∧ Apart σ δ T l := by
  have e1 : δ ++ (T.push l d).d = (δ ++ T.d) ++ [.ow d] := by simp [Tm.push]
  have e2 : σ ++ (T.push l d).v = (σ ++ T.v) ++ [some (.ref l)] := by simp [Tm.push]
  have hl : (σ ++ T.v).length = (δ ++ T.d).length := by
    have := S.s.len
    rw [e1, e2] at this
    simp only [List.length_append, List.length_cons, List.length_nil] at this ⊢
    omega
  have s := S.s.sl
  have sp := S.s.sep
  rw [e1, e2] at s sp
  refine ⟨⟨S.ln, S.ok, S.stp, hl, fun i x hs => ?_, fun i j di dj x hij hi hj qi qj => ?_⟩, ?_, fun i d' hi z => ?_⟩
  · have h1 := lt_of_get hs
    obtain ⟨o, h2, h3⟩ := s i x (by rw [get_l h1]; exact hs)
    rw [get_l (by omega)] at h2
    exact ⟨o, h2, h3⟩
  · have h1 := lt_of_get hi
    have h2 := lt_of_get hj
    exact sp i j di dj x hij (by rw [get_l h1]; exact hi) (by rw [get_l h2]; exact hj) (by rw [get_l (by omega)]; exact qi) (by rw [get_l (by omega)]; exact qj)
  · obtain ⟨o, h2, x, h3, m⟩ := s (δ ++ T.d).length (.ow d) (by rw [getElem?_snoc, if_pos rfl])
    rw [getElem?_snoc, if_pos hl.symm] at h2
    have : o = some (.ref l) := (Option.some.inj h2).symm
    subst this
    have : l = x := by simpa using h3
    subst this
    exact m
  · have h1 := lt_of_get hi
    exact sp i (δ ++ T.d).length d' d l (by omega) (by rw [get_l h1]; exact hi) (by rw [getElem?_snoc, if_pos rfl]) (by rw [get_l (by omega)]; exact z) (by rw [getElem?_snoc, if_pos hl.symm])
/-- what is held is changed -/
theorem SS.writeT {l : Addr} {d d' : D} {o : HO} (S : SS K e (T.push l d) G H σ δ) (hn : OwnAt K G (L2.upd H l o) l d') : SS K e (T.push l d') G (L2.upd H l o) σ δ ∧ Step e G H G (L2.upd H l o) := by
  obtain ⟨S1, m, ap⟩ := S.drop
  have S2 : SS K e T G (L2.upd H l o) σ δ := ⟨S1.ln, S1.s.updO m.nI m.nB m.new ap⟩
  exact ⟨S2.hold ⟨hn, m.nI, m.nB, m.new⟩ ap, Step.updO m.new⟩
theorem SS.know (S : SS K e T G H σ δ) {i : Nat} {v : V} {d : D} (hv : σ[i]? = some (some v)) (r : Rep K G v d) : SS K e T G H σ (δ.set i (.im d)) := by
  by_cases hi : i < δ.length
  · have a := S.s.know (i := i) (v := v) (d := d) (by rw [get_l (by rw [← S.ln]; exact hi)]; exact hv) r
    rw [set_app hi] at a
    exact ⟨by rw [List.length_set]; exact S.ln, a⟩
  · rw [set_out hi]; exact S
end
end T

namespace T
open PySem L2

abbrev TDE := DSt → (D → DSt → Prop) → Prop
abbrev TDT := DSt → (Bool → DSt → Prop) → Prop
abbrev TDA := DSt → (List D → DSt → Prop) → Prop

def lift (K : PySem.W.Frag) (e : Ent) (t : TDE) : TE := fun σ H Q => ∃ (T : Tm) (G : Gh) (δ : DSt) (Qd : D → DSt → Prop), SS K e T G H σ δ ∧ t δ Qd ∧
  ∀ v d H' G' δ', SS K e T G' H' σ δ' → Step e G H G' H' → Rep K G' v d → Qd d δ' → Q v H'
def liftO (K : PySem.W.Frag) (e : Ent) (t : TDE) : TE := fun σ H Q => ∃ (T : Tm) (G : Gh) (δ : DSt) (Qd : D → DSt → Prop), SS K e T G H σ δ ∧ t δ Qd ∧
  ∀ l d H' G' δ', SS K e T G' H' σ δ' → Step e G H G' H' → Mine K e G' H' l d → Apart σ δ' T l → Qd d δ' → Q (.ref l) H'
def liftT (K : PySem.W.Frag) (e : Ent) (t : TDT) : TT := fun σ H Q => ∃ (T : Tm) (G : Gh) (δ : DSt) (Qd : Bool → DSt → Prop), SS K e T G H σ δ ∧ t δ Qd ∧
  ∀ b H' G' δ', SS K e T G' H' σ δ' → Step e G H G' H' → Qd b δ' → Q b H'
def liftA (K : PySem.W.Frag) (e : Ent) (n : Nat) (t : TDA) : TA := fun σ H Q => ∃ (T : Tm) (G : Gh) (δ : DSt) (Qd : List D → DSt → Prop), SS K e T G H σ δ ∧ t δ Qd ∧
  ∀ vs ds H' G' δ', SS K e T G' H' σ δ' → Step e G H G' H' → RepL K G' vs ds → ds.length = n → Qd ds δ' → Q vs H'

theorem pe_imp {X : Cx} {ex : Expr} {t t' : TE} (h : PE X ex t) (k : ∀ σ H Q, t' σ H Q → t σ H Q) : PE X ex t' := ⟨fun pins s σ H Q I q => h.run pins s σ H Q I (k σ H Q q)⟩
theorem pt_imp {X : Cx} {ex : Expr} {t t' : TT} (h : PT X ex t) (k : ∀ σ H Q, t' σ H Q → t σ H Q) : PT X ex t' := ⟨fun pins s σ H Q I q => h.run pins s σ H Q I (k σ H Q q)⟩
theorem pw_imp {X : Cx} {ex : Expr} {t t' : TT} (h : PW X ex t) (k : ∀ σ H Q, t' σ H Q → t σ H Q) : PW X ex t' := ⟨fun wh pins s σ H Q I q => h.run wh pins s σ H Q I (k σ H Q q)⟩
theorem pa_imp {X : Cx} {es : List Expr} {t t' : TA} (h : PA X es t) (k : ∀ σ H Q, t' σ H Q → t σ H Q) : PA X es t' := ⟨fun pos pins s σ H Q I q => h.run pos pins s σ H Q I (k σ H Q q)⟩
theorem ps_imp {X : Cx} {st : Stmt} {t t' : TS} (h : PS X st t) (k : ∀ D σ H, t' D σ H → t D σ H) : PS X st t' := ⟨fun pins s σ H D I q => h.run pins s σ H D I (k D σ H q)⟩
theorem pss_imp {X : Cx} {st : List Stmt} {t t' : TS} (h : PSs X st t) (k : ∀ D σ H, t' D σ H → t D σ H) : PSs X st t' := ⟨fun pins s σ H D I q => h.run pins s σ H D I (k D σ H q)⟩

def DE (X : Cx) (e : Ent) (ex : Expr) (t : TDE) : Prop := PE X ex (lift X.K e t)
def DO (X : Cx) (e : Ent) (ex : Expr) (t : TDE) : Prop := PE X ex (liftO X.K e t)
def DT (X : Cx) (e : Ent) (ex : Expr) (t : TDT) : Prop := PT X ex (liftT X.K e t)
def DW (X : Cx) (e : Ent) (ex : Expr) (t : TDT) : Prop := PW X ex (liftT X.K e t)
def DA (X : Cx) (e : Ent) (es : List Expr) (t : TDA) : Prop := PA X es (liftA X.K e es.length t)

section
variable {X : Cx} {e : Ent} {pos : Pos}

theorem DO.de {ex : Expr} {t : TDE} (h : DO X e ex t) : DE X e ex t := pe_imp h fun σ H Q ⟨T, G, δ, Qd, S, q, k⟩ => ⟨T, G, δ, Qd, S, q, fun l d H' G' δ' S' st m ap qd => by
  obtain ⟨G2, S2, st2, r⟩ := S'.freeze m ap
  exact k _ d H' G2 δ' S2 (st.trans st2) r qd⟩
theorem DW.dt {ex : Expr} {t : TDT} (h : DW X e ex t) : DT X e ex t := PW.pt h

/-! ### names and constants -/
def dVar (i : Nat) : TDE := fun δ Q => match δ[i]? with
  | some (.im d) => Q d δ
  | some (.ow d) => Q d (δ.set i (.im d))
  | _ => False
theorem de_var {i : Nat} {ex : Expr} (h : PE X ex (tVar i)) : DE X e ex (dVar i) := pe_imp h fun σ H Q ⟨T, G, δ, Qd, S, q, k⟩ => by
  unfold dVar at q
  cases hs : δ[i]? with
  | none => rw [hs] at q; exact q.elim
  | some s =>
    rw [hs] at q
    cases s with
    | no => exact q.elim
    | im d =>
      obtain ⟨x, hx, v, rfl, r⟩ := S.sl i _ hs
      exact ⟨v, hx, k v d H G δ S Step.refl r q⟩
    | ow d =>
      obtain ⟨G', v, hx, S', st, r⟩ := S.fzSlot hs
      exact ⟨v, hx, k v d H G' _ S' st r q⟩
def dC (d : D) : TDE := fun δ Q => Q d δ
theorem de_c {ex : Expr} {v : V} {d : D} (h : PE X ex (tC v)) (r : ∀ G, Rep X.K G v d) : DE X e ex (dC d) := pe_imp h fun σ H Q ⟨T, G, δ, Qd, S, q, k⟩ => k v d H G δ S Step.refl (r G) q
theorem de_int {i : Int} {j : Nat} : DE X e (.Constant (.int i) j pos) (dC (.int i)) := de_c pe_int fun _ => .int i
theorem de_bl {b : Bool} {j : Nat} : DE X e (.Constant (.bool b) j pos) (dC (.bl b)) := de_c pe_bl fun _ => .bl b
theorem de_non {j : Nat} : DE X e (.Constant .none j pos) (dC .non) := de_c pe_non fun _ => .non
theorem de_str {x : Str} {j : Nat} (h : sOk x) : DE X e (.Constant (.str x) j pos) (dC (.str x)) := de_c pe_str fun _ => .str h

/-! ### arguments -/
def dNil : TDA := fun δ Q => Q [] δ
def dCons (t : TDE) (r : TDA) : TDA := fun δ Q => t δ fun d δ1 => r δ1 fun ds δ2 => Q (d :: ds) δ2
theorem da_nil : DA X e [] dNil := pa_imp pa_nil fun σ H Q ⟨T, G, δ, Qd, S, q, k⟩ => k [] [] H G δ S Step.refl .nil rfl q
theorem da_cons {ex : Expr} {es : List Expr} {t : TDE} {r : TDA} (h : DE X e ex t) (hr : DA X e es r) (hs : starEach (ex :: es) X.env = (false, eval ex X.env) :: starEach es X.env := by rfl) : DA X e (ex :: es) (dCons t r) :=
  pa_imp (pa_cons h hr hs) fun σ H Q ⟨T, G, δ, Qd, S, q, k⟩ => ⟨T, G, δ, _, S, q, fun v d H' G' δ' S' st' rep q' => ⟨T, G', δ', fun ds δ2 => Qd (d :: ds) δ2, S', q', fun vs ds H2 G2 δ2 S2 st2 rl len q2 =>
    k (v :: vs) (d :: ds) H2 G2 δ2 S2 (st'.trans st2) (.cons (rep.mono st2.le) rl) (by simp [len]) q2⟩⟩
theorem le_line {n : Nat} (h : n ≤ 1000) : n ≤ sizeLine := Nat.le_of_lt (small1000 h)
def dTup (t : TDA) : TDE := fun δ Q => t δ fun ds δ1 => Q (.tup ds) δ1
/-- a new tuple is frozen at once -/
theorem SS.newTup {K : PySem.W.Frag} {T : Tm} {G : Gh} {H : Hp} {σ : St} {δ : DSt} (S : SS K e T G H σ δ) {p : Addr} {vs : List V} {ds : List D} (r : RepL K G vs ds) (hp : H p = none) :
    ∃ G', SS K e T G' (upd H p (.tup vs)) σ δ ∧ Step e G H G' (upd H p (.tup vs)) ∧ Rep K G' (.ref p) (.tup ds) := by
  obtain ⟨S1, st1, nI, nB, new, ap⟩ := S.new (o := .tup vs) hp
  have le := Gh.fz_le (G := G) (l := p) (o := .tup vs) nI
  refine ⟨G.fz p (.tup vs), ⟨S1.ln, S1.ok.fz upd_same nB, S1.stp.trans (Step.fz nI new), S1.s.len, fun i s hs => ?_, S1.s.sep⟩, st1.trans (Step.fz nI new), .tup upd_same (r.mono le)⟩
  obtain ⟨x, hx, h⟩ := S1.s.sl i s hs
  refine ⟨x, hx, ?_⟩
  cases s with
  | no => trivial
  | im d => obtain ⟨v, e1, r⟩ := h; exact ⟨v, e1, r.mono le⟩
  | ow d' =>
    obtain ⟨l', rfl, m'⟩ := h
    exact ⟨l', rfl, m'.fz (fun z => ap i d' hs (by rw [hx, z])) nI⟩
theorem de_tup {es : List Expr} {t : TDA} {x1} (h : DA X e es t) (hl : es.length ≤ 1000 := by decide) : DE X e (.Tuple es x1 pos) (dTup t) :=
  pe_imp (pe_tup h) fun σ H Q ⟨T, G, δ, Qd, S, q, k⟩ => ⟨T, G, δ, _, S, q, fun vs ds H1 G1 δ1 S1 st1 r len q1 => ⟨by rw [r.length, len]; exact le_line hl, fun p hp => by
    obtain ⟨G2, S2, st2, rep⟩ := S1.newTup r hp
    exact k _ _ _ G2 δ1 S2 (st1.trans st2) rep q1⟩⟩
def dLst (t : TDA) : TDE := fun δ Q => t δ fun ds δ1 => Q (.lst ds) δ1
theorem do_lst {es : List Expr} {t : TDA} (h : DA X e es t) (hl : es.length ≤ 1000 := by decide) : DO X e (.List es pos) (dLst t) :=
  pe_imp (pe_lst h) fun σ H Q ⟨T, G, δ, Qd, S, q, k⟩ => ⟨T, G, δ, _, S, q, fun vs ds H1 G1 δ1 S1 st1 r len q1 => ⟨by rw [r.length, len]; exact le_line hl, fun p hp => by
    obtain ⟨S2, st2, nI, nB, new, ap⟩ := S1.new (o := .lst vs) hp
    exact k p (.lst ds) _ G1 δ1 S2 (st1.trans st2) ⟨⟨vs, upd_same, r⟩, nI, nB, new⟩ ap q1⟩⟩

/-! ### operands: a name's slot, or an expression -/
inductive Opn where
  | sl (i : Nat) | ex (t : TDE)
def OPN (X : Cx) (e : Ent) (a : Expr) : Opn → Prop
  | .sl i => PE X a (tVar i)
  | .ex t => DE X e a t
def rdS (δ : DSt) (i : Nat) : Option D := match δ[i]? with
  | some (.im d) => some d
  | some (.ow d) => some d
  | _ => none
/-- read now: frozen, or ours -/
def RdO (K : PySem.W.Frag) (G : Gh) (H : Hp) (v : V) (d : D) : Prop := Rep K G v d ∨ ∃ l, v = .ref l ∧ OwnAt K G H l d
theorem rdS_ok {K : PySem.W.Frag} {T : Tm} {G : Gh} {H : Hp} {σ : St} {δ : DSt} (S : SS K e T G H σ δ) {i : Nat} {d : D} (h : rdS δ i = some d) : ∃ v, σ[i]? = some (some v) ∧ RdO K G H v d := by
  unfold rdS at h
  cases hs : δ[i]? with
  | none => rw [hs] at h; cases h
  | some s =>
    rw [hs] at h
    cases s with
    | no => cases h
    | im d' =>
      obtain ⟨x, hx, v, rfl, r⟩ := S.sl i _ hs
      cases h
      exact ⟨v, hx, .inl r⟩
    | ow d' =>
      obtain ⟨x, hx, l, rfl, m⟩ := S.sl i _ hs
      cases h
      exact ⟨.ref l, hx, .inr ⟨l, rfl, m.own⟩⟩
/-- two operands -/
def dTwo (A B : Opn) (k : D → D → DSt → Prop) : DSt → Prop := fun δ => match A, B with
  | .ex ta, .ex tb => ta δ fun x δ1 => tb δ1 fun y δ2 => k x y δ2
  | .ex ta, .sl j => ta δ fun x δ1 => match rdS δ1 j with | some y => k x y δ1 | none => False
  | .sl i, .ex tb => (rdS δ i).isSome = true ∧ tb δ fun y δ1 => match rdS δ1 i with | some x => k x y δ1 | none => False
  | .sl i, .sl j => match rdS δ i with | some x => (match rdS δ j with | some y => k x y δ | none => False) | none => False
def WOp (X : Cx) (f : Value → Value → Sem Value) : R2 := fun x y H Q => ∀ (pins : List (Addr × Obj)) (s : Shared) (σ : St) (v u : Value), Inv X pins σ H s → RelV x v → RelV y u → wpAny (model X.prog X.w) X.A (f v u) (EP X pins σ Q) X.xe s
theorem wop_self {f : Value → Value → Sem Value} : OpR X f (WOp X f) := fun pins s σ H x y v u Q I rx ry h => h pins s σ v u I rx ry
theorem wop_of {f : Value → Value → Sem Value} {r : R2} (h : OpR X f r) {x y : V} {H : Hp} {Q : VK} (q : r x y H Q) : WOp X f x y H Q := fun pins s σ v u I rx ry => h pins s σ H x y v u Q I rx ry q
/-- an operation on two things by what they are -/
def OpD (X : Cx) (e : Ent) (W : R2) (g : D → D → (D → Prop) → Prop) : Prop := ∀ (T : Tm) (G : Gh) (H : Hp) (σ : St) (δ : DSt) (x y : V) (a b : D) (Qd : D → Prop) (Q : VK), SS X.K e T G H σ δ → RdO X.K G H x a → RdO X.K G H y b → g a b Qd →
  (∀ v d H' G', SS X.K e T G' H' σ δ → Step e G H G' H' → Rep X.K G' v d → Qd d → Q v H') → W x y H Q
theorem two_ok {a b : Expr} {A B : Opn} (ha : OPN X e a A) (hb : OPN X e b B) {f : TE → TE → TE} {r : R2} (hf : ∀ ta tb, PE X a ta → PE X b tb → PE X ex (f ta tb)) (ef : ∀ ta tb σ H Q, f ta tb σ H Q = ta σ H fun x H1 => tb σ H1 fun y H2 => r x y H2 Q)
    {g : D → D → (D → Prop) → Prop} (ho : OpD X e r g) : DE X e ex (fun δ Q => dTwo A B (fun x y δ' => g x y fun z => Q z δ') δ) := by
  cases A with
  | ex ta =>
    cases B with
    | ex tb =>
      refine pe_imp (hf _ _ ha hb) fun σ H Q ⟨T, G, δ, Qd, S, q, k⟩ => ?_
      rw [ef]
      exact ⟨T, G, δ, _, S, q, fun x a H1 G1 δ1 S1 st1 ra q1 => ⟨T, G1, δ1, _, S1, q1, fun y b H2 G2 δ2 S2 st2 rb q2 =>
        ho T G2 H2 σ δ2 x y a b _ Q S2 (.inl (ra.mono st2.le)) (.inl rb) q2 fun v d H' G' S' st' rep qd => k v d H' G' δ2 S' ((st1.trans st2).trans st') rep qd⟩⟩
    | sl j =>
      refine pe_imp (hf _ _ ha hb) fun σ H Q ⟨T, G, δ, Qd, S, q, k⟩ => ?_
      rw [ef]
      refine ⟨T, G, δ, _, S, q, fun x a H1 G1 δ1 S1 st1 ra q1 => ?_⟩
      cases hj : rdS δ1 j with
      | none => rw [hj] at q1; exact q1.elim
      | some b =>
        rw [hj] at q1
        obtain ⟨y, hy, rb⟩ := rdS_ok S1 hj
        exact ⟨y, hy, ho T G1 H1 σ δ1 x y a b _ Q S1 (.inl ra) rb q1 fun v d H' G' S' st' rep qd => k v d H' G' δ1 S' (st1.trans st') rep qd⟩
  | sl i =>
    cases B with
    | ex tb =>
      refine pe_imp (hf _ _ ha hb) fun σ H Q ⟨T, G, δ, Qd, S, q, k⟩ => ?_
      rw [ef]
      obtain ⟨hi, q⟩ := q
      obtain ⟨a0, h0⟩ := Option.isSome_iff_exists.mp hi
      obtain ⟨x, hx, _⟩ := rdS_ok S h0
      refine ⟨x, hx, T, G, δ, _, S, q, fun y b H1 G1 δ1 S1 st1 rb q1 => ?_⟩
      cases hj : rdS δ1 i with
      | none => rw [hj] at q1; exact q1.elim
      | some a =>
        rw [hj] at q1
        obtain ⟨x', hx', ra⟩ := rdS_ok S1 hj
        rw [hx] at hx'
        cases hx'
        exact ho T G1 H1 σ δ1 x y a b _ Q S1 ra (.inl rb) q1 fun v d H' G' S' st' rep qd => k v d H' G' δ1 S' (st1.trans st') rep qd
    | sl j =>
      refine pe_imp (hf _ _ ha hb) fun σ H Q ⟨T, G, δ, Qd, S, q, k⟩ => ?_
      rw [ef]
      have q : (match rdS δ i with | some x => (match rdS δ j with | some y => (fun x y δ' => g x y fun z => Qd z δ') x y δ | none => False) | none => False) := q
      cases hi : rdS δ i with
      | none => rw [hi] at q; exact q.elim
      | some a =>
        cases hj : rdS δ j with
        | none => rw [hi, hj] at q; exact q.elim
        | some b =>
          rw [hi, hj] at q
          obtain ⟨x, hx, ra⟩ := rdS_ok S hi
          obtain ⟨y, hy, rb⟩ := rdS_ok S hj
          exact ⟨x, hx, y, hy, ho T G H σ δ x y a b _ Q S ra rb q fun v d H' G' S' st' rep qd => k v d H' G' δ S' st' rep qd⟩
def dBin (g : D → D → (D → Prop) → Prop) (A B : Opn) : TDE := fun δ Q => dTwo A B (fun x y δ' => g x y fun z => Q z δ') δ
theorem de_bin {a b : Expr} {A B : Opn} {op : Operator} {g : D → D → (D → Prop) → Prop} (ho : OpD X e (WOp X (binaryOp op)) g) (ha : OPN X e a A) (hb : OPN X e b B) : DE X e (.BinOp a op b pos) (dBin g A B) :=
  two_ok ha hb (f := fun ta tb => tOp (WOp X (binaryOp op)) ta tb) (fun ta tb => pe_op wop_self) (fun _ _ _ _ _ => rfl) ho
theorem de_cmp {a b : Expr} {A B : Opn} {op : CmpOp} {g : D → D → (D → Prop) → Prop} (ho : OpD X e (WOp X (compareOp op)) g) (ha : OPN X e a A) (hb : OPN X e b B) (hm : behindInMarks op b = false) : DE X e (.Compare a [op] [b] pos) (dBin g A B) :=
  two_ok ha hb (f := fun ta tb => tOp (WOp X (compareOp op)) ta tb) (fun ta tb h1 h2 => pe_cmpR wop_self h1 h2 hm) (fun _ _ _ _ _ => rfl) ho
end
end T

namespace T
open PySem L2

section
variable {K : PySem.W.Frag} {G : Gh} {H : Hp} {v : V}
theorem RdO.int {i : Int} (h : RdO K G H v (.int i)) : v = .int i := by
  rcases h with h | ⟨l, rfl, h⟩
  · cases h; rfl
  · exact h.elim
theorem RdO.bl {i : Bool} (h : RdO K G H v (.bl i)) : v = .bl i := by
  rcases h with h | ⟨l, rfl, h⟩
  · cases h; rfl
  · exact h.elim
theorem RdO.non (h : RdO K G H v .non) : v = .non := by
  rcases h with h | ⟨l, rfl, h⟩
  · cases h; rfl
  · exact h.elim
theorem RdO.str {i : Str} (h : RdO K G H v (.str i)) : v = .str i ∧ sOk i := by
  rcases h with h | ⟨l, rfl, h⟩
  · cases h with | str q => exact ⟨rfl, q⟩
  · exact h.elim
theorem RdO.tup {ds : List D} (h : RdO K G H v (.tup ds)) (k : GOk G H) : ∃ p vs, v = .ref p ∧ SqT K H p vs ∧ RepL K G vs ds := by
  rcases h with h | ⟨l, rfl, h⟩
  · cases h with | tup q r => exact ⟨_, _, rfl, .inl (.inl (k.sub _ _ q)), r⟩
  · exact h.elim
theorem RdO.lst {ds : List D} (h : RdO K G H v (.lst ds)) (k : GOk G H) : ∃ p vs, v = .ref p ∧ H p = some (.lst vs) ∧ RepL K G vs ds := by
  rcases h with h | ⟨l, rfl, vs, q, r⟩
  · cases h with | lst q r => exact ⟨_, _, rfl, k.sub _ _ q, r⟩
  · exact ⟨_, _, rfl, q, r⟩
theorem RdO.dctW {ds : List (Key × D)} (h : RdO K G H v (.dct ds)) (k : GOk G H) : ∃ p kvs, v = .ref p ∧ H p = some (.dK kvs) ∧ kvs.map (·.1) = ds.map (·.1) ∧ RepL K G (kvs.map (·.2)) (ds.map (·.2)) ∧ ∀ k ∈ ds.map (·.1), kOk k := by
  rcases h with h | ⟨l, rfl, kvs, q, e, r, w⟩
  · cases h with | dct q e r w => exact ⟨_, _, rfl, k.sub _ _ q, e, r, w⟩
  · exact ⟨l, kvs, rfl, q, e, r, w⟩
theorem RdO.dct {ds : List (Key × D)} (h : RdO K G H v (.dct ds)) (k : GOk G H) : ∃ p kvs, v = .ref p ∧ H p = some (.dK kvs) ∧ kvs.map (·.1) = ds.map (·.1) ∧ RepL K G (kvs.map (·.2)) (ds.map (·.2)) :=
  let ⟨p, kvs, h1, h2, h3, h4, _⟩ := h.dctW k
  ⟨p, kvs, h1, h2, h3, h4⟩
theorem RdO.dselfW {a : Addr} {ds : List (Key × D)} (h : RdO K G H v (.dself a ds)) (k : GOk G H) : ∃ p kvs, v = .ref p ∧ H p = some (.dK kvs) ∧ kvs.map (·.1) = ds.map (·.1) ∧ RepL K G (kvs.map (·.2)) (ds.map (·.2)) ∧ ∀ k ∈ ds.map (·.1), kOk k := by
  rcases h with h | ⟨l, rfl, _, kvs, q, e, r, w⟩
  · cases h with | dself q e r w => exact ⟨_, _, rfl, k.sub _ _ q, e, r, w⟩
  · exact ⟨l, kvs, rfl, q, e, r, w⟩
theorem RdO.dtpW {ds : List (List Key × D)} (h : RdO K G H v (.dtp ds)) (k : GOk G H) : ∃ p kvs, v = .ref p ∧ H p = some (.dT kvs) ∧ kvs.map (·.1) = ds.map (·.1) ∧ RepL K G (kvs.map (·.2)) (ds.map (·.2)) ∧ ∀ k ∈ ds.map (·.1), ∀ x ∈ k, kOk x := by
  rcases h with h | ⟨l, rfl, kvs, q, e, r, w⟩
  · cases h with | dtp q e r w => exact ⟨_, _, rfl, k.sub _ _ q, e, r, w⟩
  · exact ⟨l, kvs, rfl, q, e, r, w⟩
theorem RdO.ins {C : Str} {ds : List (Str × D)} (h : RdO K G H v (.ins C ds)) (k : GOk G H) : ∃ p dx kvs, v = .ref p ∧ H p = some (.ins (He.ga K C) dx kvs) ∧ kvs.map (·.1) = ds.map (·.1) ∧ RepL K G (kvs.map (·.2)) (ds.map (·.2)) := by
  rcases h with h | ⟨l, rfl, dx, vs, q, e, r⟩
  · cases h with | ins q e r => exact ⟨_, _, _, rfl, k.sub _ _ q, e, r⟩
  · exact ⟨_, _, _, rfl, q, e, r⟩
theorem RdO.scr {ns : List Int} (h : RdO K G H v (.scr ns)) (k : GOk G H) : ∃ p, v = .ref p ∧ SqL K H p (ns.map V.int) := by
  rcases h with h | ⟨l, rfl, h⟩
  · cases h with | scr q => exact ⟨_, rfl, k.sub.seq q⟩
  · exact h.elim
end
theorem sOk_append {a b : Str} (ha : sOk a) (hb : sOk b) : sOk (a ++ b) := by
  intro c hc
  have e : (a ++ b).cps.toList = a.cps.toList ++ b.cps.toList := by
    show (a.cps ++ b.cps).toList = _
    simp
  rw [e] at hc
  rcases List.mem_append.mp hc with h | h
  · exact ha c h
  · exact hb c h
theorem sOk_one {c : Nat} (h : c < 0x110000) : sOk ⟨#[c]⟩ := by
  intro x hx
  have : x = c := by simpa using hx
  omega
theorem sOk_sub {a : Str} (ha : sOk a) {l : List Nat} (h : ∀ c ∈ l, c ∈ a.cps.toList) : sOk ⟨l.toArray⟩ := fun c hc => ha c (h c (by simpa using hc))
theorem sOk_cut {a : Str} (ha : sOk a) (lo hi : Option Int) : sOk (cutS a lo hi) := sOk_sub ha fun c hc => List.mem_of_mem_drop (List.mem_of_mem_take hc)

/-! ### the data of a thing -/
mutual
def py : D → PyData
  | .non => .none
  | .bl b => .bool b
  | .int i => .int i
  | .str s => .str s
  | .tup l => .tuple (pyL l)
  | .lst l => .list (pyL l)
  | .dct _ => .none
  | .dtp _ => .none
  | .ins _ _ => .none
  | .self _ _ _ => .none
  | .box _ => .none
  | .ty _ => .none
  | .ref _ => .none
  | .scr _ => .none
  | .cls _ => .none
  | .dself _ _ => .none
def pyL : List D → List PyData
  | [] => []
  | d :: r => py d :: pyL r
end
mutual
def isDat : D → Bool
  | .non => true
  | .bl _ => true
  | .int _ => true
  | .str _ => true
  | .tup l => isDatL l
  | .lst l => isDatL l
  | .dct _ => false
  | .dtp _ => false
  | .ins _ _ => false
  | .self _ _ _ => false
  | .box _ => false
  | .ty _ => false
  | .ref _ => false
  | .scr _ => false
  | .cls _ => false
  | .dself _ _ => false
def isDatL : List D → Bool
  | [] => true
  | d :: r => isDat d && isDatL r
end
theorem pyL_map : ∀ l : List D, pyL l = l.map py
  | [] => rfl
  | d :: r => by rw [pyL, pyL_map r]; rfl
theorem isDatL_iff : ∀ {l : List D}, isDatL l = true ↔ ∀ d ∈ l, isDat d = true
  | [] => by simp [isDatL]
  | d :: r => by
    rw [isDatL, Bool.and_eq_true, isDatL_iff (l := r)]
    simp
def dep (d : D) : Nat := (py d).depth
def eqB (a b : D) : Bool := PyData.eqv (py a) (py b)
theorem strOk_of {s : Str} (h : sOk s) : PyData.canLay0 (.str s) = true := by
  show s.cps.all (· < 0x110000) = true
  rw [Array.all_eq_true_iff_forall_mem]
  intro c hc
  exact decide_eq_true (h c (Array.mem_toList_iff.mpr hc))
section
variable {K : PySem.W.Frag} {G : Gh} {H : Hp}
mutual
theorem Rep.dp (k : GOk G H) : ∀ {v : V} {d : D}, Rep K G v d → isDat d = true → Dp K H v (py d) ∧ (py d).canLay0 = true
  | _, _, .non, _ => ⟨.non, rfl⟩
  | _, _, .bl b, _ => ⟨.bl b, rfl⟩
  | _, _, .int i, _ => ⟨.int i, rfl⟩
  | _, _, .str h, _ => ⟨.str _, strOk_of h⟩
  | _, _, .tup h r, hd => by
    rw [isDat] at hd
    obtain ⟨h1, h2⟩ := r.dp k hd
    rw [py]
    exact ⟨.tup (.inl (.inl (k.sub _ _ h))) h1, by rw [PyData.canLay0]; exact h2⟩
  | _, _, .lst h r, hd => by
    rw [isDat] at hd
    obtain ⟨h1, h2⟩ := r.dp k hd
    rw [py]
    exact ⟨.lst (.inl (.inl (k.sub _ _ h))) h1, by rw [PyData.canLay0]; exact h2⟩
  | _, _, .dct _ _ _ _, hd => by cases hd
  | _, _, .dtp _ _ _ _, hd => by cases hd
  | _, _, .ins _ _ _, hd => by cases hd
  | _, _, .self _ _ _, hd => by cases hd
  | _, _, .box _, hd => by cases hd
  | _, _, .ty _, hd => by cases hd
  | _, _, .ref _, hd => by cases hd
  | _, _, .scr _, hd => by cases hd
  | _, _, .cls _, hd => by cases hd
  | _, _, .dself _ _ _ _, hd => by cases hd
theorem RepL.dp (k : GOk G H) : ∀ {vs : List V} {ds : List D}, RepL K G vs ds → isDatL ds = true → DpAll K H vs (pyL ds) ∧ PyData.canLayAll0 (pyL ds) = true
  | _, _, .nil, _ => ⟨.nil, rfl⟩
  | _, _, .cons h r, hd => by
    rw [isDatL, Bool.and_eq_true] at hd
    obtain ⟨h1, h2⟩ := h.dp k hd.1
    obtain ⟨h3, h4⟩ := r.dp k hd.2
    rw [pyL]
    exact ⟨.cons h1 h3, by rw [PyData.canLayAll0, h2, h4]; rfl⟩
end
theorem RdO.dp (k : GOk G H) {v : V} {d : D} (h : RdO K G H v d) (hd : isDat d = true) : Dp K H v (py d) ∧ (py d).canLay0 = true := by
  rcases h with h | ⟨l, rfl, h⟩
  · exact h.dp k hd
  · cases d with
    | lst ds =>
      obtain ⟨vs, q, r⟩ := h
      rw [isDat] at hd
      obtain ⟨h1, h2⟩ := r.dp k hd
      rw [py]
      exact ⟨.lst (.inl (.inl q)) h1, by rw [PyData.canLay0]; exact h2⟩
    | dct _ => cases hd
    | dtp _ => cases hd
    | ins _ _ => cases hd
    | self _ _ _ => cases hd
    | dself _ _ => cases hd
    | _ => exact h.elim
theorem shaped_of {d : D} (h : (py d).canLay0 = true) (hd : dep d ≤ 64) : SeqAt.shaped (py d) = true := by
  show ((py d).canLay0 && decide ((py d).depth ≤ 64)) = true
  rw [h, decide_eq_true (show (py d).depth ≤ 64 from hd)]
  rfl
end

/-! ### operators -/
def addD : D → D → (D → Prop) → Prop
  | .int i, .int j, Q => Q (.int (i + j))
  | .str a, .str b, Q => a.length + b.length ≤ sizeLine ∧ Q (.str (a ++ b))
  | .lst a, .lst b, Q => a.length + b.length ≤ sizeLine ∧ Q (.lst (a ++ b))
  | .tup a, .tup b, Q => a.length + b.length ≤ sizeLine ∧ Q (.tup (a ++ b))
  | _, _, _ => False
def subD : D → D → (D → Prop) → Prop
  | .int i, .int j, Q => Q (.int (i - j))
  | _, _, _ => False
def mulD : D → D → (D → Prop) → Prop
  | .int i, .int j, Q => CMul i j ∧ Q (.int (i * j))
  | .str a, .int j, Q => (j = 0 ∨ j = 1) ∧ Q (.str (if j = 0 then Str.empty else a))
  | _, _, _ => False
def modD : D → D → (D → Prop) → Prop
  | .int i, .int j, Q => 0 < j ∧ Q (.int (i % j))
  | _, _, _ => False
def fdivD : D → D → (D → Prop) → Prop
  | .int i, .int j, Q => (0 < j ∧ j < 1267650600228229401496703205376) ∧ Q (.int (i / j))
  | _, _, _ => False
def powD : D → D → (D → Prop) → Prop
  | .int i, .int j, Q => (0 ≤ j ∧ j ≤ 1000000 ∧ i.natAbs < 2 ^ 64) ∧ Q (.int (i ^ j.toNat))
  | _, _, _ => False
section
variable {X : Cx} {e : Ent}
theorem opd_int {f : Value → Value → Sem Value} {C : Int → Int → Prop} {g : Int → Int → Int} {gd : D → D → (D → Prop) → Prop} (ho : OpR X f (rI C fun i j => .int (g i j)))
    (hg : ∀ a b Q, gd a b Q → ∃ i j, a = .int i ∧ b = .int j ∧ C i j ∧ Q (.int (g i j))) : OpD X e (WOp X f) gd := by
  intro T G H σ δ x y a b Qd Q S ra rb q k
  obtain ⟨i, j, rfl, rfl, hc, q⟩ := hg a b Qd q
  have e1 := ra.int
  have e2 := rb.int
  subst e1 e2
  exact wop_of ho ⟨i, j, rfl, rfl, hc, k _ _ H G S Step.refl (.int _) q⟩
theorem opd_sub : OpD X e (WOp X (binaryOp .Sub)) subD := by
  intro T G H σ δ x y a b Qd Q S ra rb q k
  cases a <;> cases b <;> try exact False.elim q
  have e1 := ra.int
  have e2 := rb.int
  subst e1 e2
  exact wop_of op_sub ⟨_, _, rfl, rfl, k _ _ H G S Step.refl (.int _) q⟩
theorem opd_mod : OpD X e (WOp X (binaryOp .Mod)) modD := opd_int op_mod fun a b Q q => by
  cases a <;> cases b <;> try exact False.elim q
  exact ⟨_, _, rfl, rfl, q⟩
theorem opd_fdiv : OpD X e (WOp X (binaryOp .FloorDiv)) fdivD := opd_int op_fdivW fun a b Q q => by
  cases a <;> cases b <;> try exact False.elim q
  obtain ⟨⟨q1, q2⟩, q3⟩ := q
  exact ⟨_, _, rfl, rfl, wide_div (b := 100) q1 (by have e : (2 : Nat) ^ 100 = 1267650600228229401496703205376 := by decide
                                                    rw [e]; omega) (by decide) (by decide), q3⟩
theorem opd_pow : OpD X e (WOp X (binaryOp .Pow)) powD := opd_int op_pow fun a b Q q => by
  cases a <;> cases b <;> try exact False.elim q
  exact ⟨_, _, rfl, rfl, q⟩
theorem op_mul_str01 : OpR X (binaryOp .Mult) (fun x y H Q => ∃ a j, x = .str a ∧ y = .int j ∧ (j = 0 ∨ j = 1) ∧ Q (.str (if j = 0 then Str.empty else a)) H) := by
  intro pins s σ H x y v u Q I rx ry h
  obtain ⟨a, j, rfl, rfl, hj, q⟩ := h
  obtain ⟨t, rfl⟩ := rx
  obtain ⟨t', rfl⟩ := ry
  rcases hj with rfl | rfl
  · exact P.mul_str_none (by decide) (by decide) ⟨.str Str.empty, H, I.tok _, ⟨_, rfl⟩, q⟩
  · refine P.mul_str (by decide) (fun _ h => by simp at h) (fun _ h => by simp at h) ?_
    rw [if_neg (by decide), if_pos (by rfl)]
    exact ⟨.str a, H, I, ⟨_, rfl⟩, q⟩
theorem opd_mul : OpD X e (WOp X (binaryOp .Mult)) mulD := by
  intro T G H σ δ x y a b Qd Q S ra rb q k
  cases a <;> cases b <;> try exact False.elim q
  · have e1 := ra.int
    have e2 := rb.int
    subst e1 e2
    exact wop_of op_mul ⟨_, _, rfl, rfl, q.1, k _ _ H G S Step.refl (.int _) q.2⟩
  · obtain ⟨e1, ok⟩ := ra.str
    have e2 := rb.int
    subst e1 e2
    refine wop_of op_mul_str01 ⟨_, _, rfl, rfl, q.1, k _ _ H G S Step.refl (.str ?_) q.2⟩
    split
    · intro c hc; simp [Str.empty] at hc
    · exact ok
theorem opd_add : OpD X e (WOp X (binaryOp .Add)) addD := by
  intro T G H σ δ x y a b Qd Q S ra rb q k
  cases a <;> cases b <;> try exact False.elim q
  · have e1 := ra.int
    have e2 := rb.int
    subst e1 e2
    exact wop_of op_add ⟨_, _, rfl, rfl, k _ _ H G S Step.refl (.int _) q⟩
  · obtain ⟨e1, o1⟩ := ra.str
    obtain ⟨e2, o2⟩ := rb.str
    subst e1 e2
    exact wop_of op_add_str ⟨_, _, rfl, rfl, q.1, k _ _ H G S Step.refl (.str (sOk_append o1 o2)) q.2⟩
  · obtain ⟨p, vs, rfl, hp, r1⟩ := ra.tup S.ok
    obtain ⟨p', ws, rfl, hp', r2⟩ := rb.tup S.ok
    rename_i a b
    have e1 := r1.length
    have e2 := r2.length
    refine wop_of op_catA ⟨p, p', vs, ws, rfl, rfl, hp, hp', by rw [e1, e2]; exact q.1, fun hn => ?_, fun hn hm => ?_, fun hn hm r hr => ?_⟩
    · subst hn
      cases r1
      rcases rb with rb | ⟨l, _, rb⟩
      · exact k _ _ H G S Step.refl rb q.2
      · exact rb.elim
    · subst hm
      cases r2
      rcases ra with ra | ⟨l, _, ra⟩
      · refine k _ _ H G S Step.refl ra ?_
        have := q.2
        rwa [List.append_nil] at this
      · exact ra.elim
    · obtain ⟨G2, S2, st2, rep⟩ := S.newTup (r1.append r2) hr
      exact k _ _ _ G2 S2 st2 rep q.2
  · obtain ⟨p, vs, rfl, hp, r1⟩ := ra.lst S.ok
    obtain ⟨p', ws, rfl, hp', r2⟩ := rb.lst S.ok
    have e1 := r1.length
    have e2 := r2.length
    refine wop_of op_cat ⟨p, p', vs, ws, rfl, rfl, hp, hp', by rw [e1, e2]; exact q.1, fun r hr => ?_⟩
    obtain ⟨S2, st2, nI, nB, new, ap⟩ := S.new (o := .lst (vs ++ ws)) hr
    obtain ⟨G3, S3, st3, rep⟩ := S2.freeze (l := r) (d := .lst _) ⟨⟨_, upd_same, r1.append r2⟩, nI, nB, new⟩ ap
    exact k _ _ _ G3 S3 (st2.trans st3) rep q.2

/-! ### comparisons -/
def eqD : D → D → (D → Prop) → Prop
  | .int i, .int j, Q => Q (.bl (decide (i = j)))
  | .str a, .str b, Q => Q (.bl (decide (a = b)))
  | .bl a, .bl b, Q => Q (.bl (decide (a = b)))
  | a, b, Q => (isDat a = true ∧ isDat b = true ∧ dep a ≤ 64 ∧ dep b ≤ 64) ∧ Q (.bl (eqB a b))
def neD : D → D → (D → Prop) → Prop
  | .int i, .int j, Q => Q (.bl (!decide (i = j)))
  | .str a, .str b, Q => Q (.bl (!decide (a = b)))
  | .bl a, .bl b, Q => Q (.bl (!decide (a = b)))
  | a, b, Q => (isDat a = true ∧ isDat b = true ∧ dep a ≤ 64 ∧ dep b ≤ 64) ∧ Q (.bl (!eqB a b))
theorem eqD_or {a b : D} {Q : D → Prop} (q : eqD a b Q) : (∃ i j, a = .int i ∧ b = .int j ∧ Q (.bl (decide (i = j)))) ∨ (∃ i j, a = .str i ∧ b = .str j ∧ Q (.bl (decide (i = j)))) ∨ (∃ i j, a = .bl i ∧ b = .bl j ∧ Q (.bl (decide (i = j)))) ∨
    ((isDat a = true ∧ isDat b = true ∧ dep a ≤ 64 ∧ dep b ≤ 64) ∧ Q (.bl (eqB a b))) := by
  cases a <;> cases b <;> first
    | exact .inl ⟨_, _, rfl, rfl, q⟩
    | exact .inr (.inl ⟨_, _, rfl, rfl, q⟩)
    | exact .inr (.inr (.inl ⟨_, _, rfl, rfl, q⟩))
    | exact .inr (.inr (.inr q))
theorem neD_or {a b : D} {Q : D → Prop} (q : neD a b Q) : (∃ i j, a = .int i ∧ b = .int j ∧ Q (.bl (!decide (i = j)))) ∨ (∃ i j, a = .str i ∧ b = .str j ∧ Q (.bl (!decide (i = j)))) ∨ (∃ i j, a = .bl i ∧ b = .bl j ∧ Q (.bl (!decide (i = j)))) ∨
    ((isDat a = true ∧ isDat b = true ∧ dep a ≤ 64 ∧ dep b ≤ 64) ∧ Q (.bl (!eqB a b))) := by
  cases a <;> cases b <;> first
    | exact .inl ⟨_, _, rfl, rfl, q⟩
    | exact .inr (.inl ⟨_, _, rfl, rfl, q⟩)
    | exact .inr (.inr (.inl ⟨_, _, rfl, rfl, q⟩))
    | exact .inr (.inr (.inr q))
theorem opd_eq {k0 : Nat} (hr : Room k0 X.A) : OpD X e (WOp X (compareOp .Eq)) eqD := by
  intro T G H σ δ x y a b Qd Q S ra rb q k
  rcases eqD_or q with ⟨i, j, rfl, rfl, q⟩ | ⟨i, j, rfl, rfl, q⟩ | ⟨i, j, rfl, rfl, q⟩ | ⟨⟨h1, h2, h3, h4⟩, q⟩
  · have e1 := ra.int
    have e2 := rb.int
    subst e1 e2
    refine wop_of op_eq ⟨rfl, k _ (.bl _) H G S Step.refl (.bl _) ?_⟩
    have e3 : decide (V.int i = V.int j) = decide (i = j) := by simp
    rw [e3]; exact q
  · obtain ⟨e1, _⟩ := ra.str
    obtain ⟨e2, _⟩ := rb.str
    subst e1 e2
    refine wop_of op_eq ⟨rfl, k _ (.bl _) H G S Step.refl (.bl _) ?_⟩
    have e3 : decide (V.str i = V.str j) = decide (i = j) := by simp
    rw [e3]; exact q
  · have e1 := ra.bl
    have e2 := rb.bl
    subst e1 e2
    refine wop_of op_eq ⟨rfl, k _ (.bl _) H G S Step.refl (.bl _) ?_⟩
    have e3 : decide (V.bl i = V.bl j) = decide (i = j) := by simp
    rw [e3]; exact q
  · obtain ⟨p1, c1⟩ := ra.dp S.ok h1
    obtain ⟨p2, c2⟩ := rb.dp S.ok h2
    exact wop_of (op_eqD hr.units) ⟨_, _, p1, p2, shaped_of c1 h3, shaped_of c2 h4, k _ (.bl _) H G S Step.refl (.bl _) q⟩
theorem opd_ne {k0 : Nat} (hr : Room k0 X.A) : OpD X e (WOp X (compareOp .NotEq)) neD := by
  intro T G H σ δ x y a b Qd Q S ra rb q k
  rcases neD_or q with ⟨i, j, rfl, rfl, q⟩ | ⟨i, j, rfl, rfl, q⟩ | ⟨i, j, rfl, rfl, q⟩ | ⟨⟨h1, h2, h3, h4⟩, q⟩
  · have e1 := ra.int
    have e2 := rb.int
    subst e1 e2
    refine wop_of op_ne ⟨rfl, k _ (.bl _) H G S Step.refl (.bl _) ?_⟩
    have e3 : decide (V.int i = V.int j) = decide (i = j) := by simp
    rw [e3]; exact q
  · obtain ⟨e1, _⟩ := ra.str
    obtain ⟨e2, _⟩ := rb.str
    subst e1 e2
    refine wop_of op_ne ⟨rfl, k _ (.bl _) H G S Step.refl (.bl _) ?_⟩
    have e3 : decide (V.str i = V.str j) = decide (i = j) := by simp
    rw [e3]; exact q
  · have e1 := ra.bl
    have e2 := rb.bl
    subst e1 e2
    refine wop_of op_ne ⟨rfl, k _ (.bl _) H G S Step.refl (.bl _) ?_⟩
    have e3 : decide (V.bl i = V.bl j) = decide (i = j) := by simp
    rw [e3]; exact q
  · obtain ⟨p1, c1⟩ := ra.dp S.ok h1
    obtain ⟨p2, c2⟩ := rb.dp S.ok h2
    exact wop_of (op_neD hr.units) ⟨_, _, p1, p2, shaped_of c1 h3, shaped_of c2 h4, k _ (.bl _) H G S Step.refl (.bl _) q⟩
def cmpD (p : Int → Int → Bool) : D → D → (D → Prop) → Prop
  | .int i, .int j, Q => Q (.bl (p i j))
  | _, _, _ => False
theorem opd_cmp {f : Value → Value → Sem Value} {p : Int → Int → Bool} (ho : OpR X f (rI0 fun i j => .bl (p i j))) : OpD X e (WOp X f) (cmpD p) := by
  intro T G H σ δ x y a b Qd Q S ra rb q k
  cases a <;> cases b <;> try exact False.elim q
  have e1 := ra.int
  have e2 := rb.int
  subst e1 e2
  exact wop_of ho ⟨_, _, rfl, rfl, k _ (.bl _) H G S Step.refl (.bl _) q⟩
def ltD := cmpD fun i j => decide (i < j)
def leD := cmpD fun i j => decide (i ≤ j)
def gtD := cmpD fun i j => decide (j < i)
def geD := cmpD fun i j => decide (j ≤ i)
theorem opd_lt : OpD X e (WOp X (compareOp .Lt)) ltD := opd_cmp op_lt
theorem opd_le : OpD X e (WOp X (compareOp .LtE)) leD := opd_cmp op_le
theorem opd_gt : OpD X e (WOp X (compareOp .Gt)) gtD := opd_cmp op_gt
theorem opd_ge : OpD X e (WOp X (compareOp .GtE)) geD := opd_cmp op_ge
def isN : D → Bool
  | .non => true
  | _ => false
theorem Rd_isN {K : PySem.W.Frag} {G : Gh} {H : Hp} {v : V} {d : D} (r : RdO K G H v d) : decide (v = .non) = isN d := by
  rcases r with r | ⟨l, rfl, r⟩
  · cases r <;> simp [isN]
  · cases d <;> first | exact r.elim | simp [isN]
def isD : D → D → (D → Prop) → Prop
  | a, .non, Q => Q (.bl (isN a))
  | _, _, _ => False
def isNotD : D → D → (D → Prop) → Prop
  | a, .non, Q => Q (.bl (!isN a))
  | _, _, _ => False
theorem opd_is : OpD X e (WOp X (compareOp .Is)) isD := by
  intro T G H σ δ x y a b Qd Q S ra rb q k
  cases b with
  | non =>
    have e2 := rb.non
    subst e2
    refine wop_of op_isN ⟨rfl, k _ (.bl _) H G S Step.refl (.bl _) ?_⟩
    rw [Rd_isN ra]
    exact q
  | _ => exact False.elim q
/-! ### in -/
theorem op_inDT (hu : X.A.units + 65 < cLine) : OpR X (compareOp .In) (fun x y H Q => ∃ d ds, Dp X.K H x d ∧ Dp X.K H y (.tuple ds) ∧ SeqAt.shaped d = true ∧ SeqAt.shaped (.tuple ds) = true ∧ Q (.bl (ds.any fun z => PyData.eqv z d)) H) := by
  intro pins s σ H x y v u Q I rx ry h
  obtain ⟨d, ds, hd, he, sd, se, q⟩ := h
  obtain ⟨as, r1⟩ := Dp.reads I d x v hd rx
  obtain ⟨bs, r2⟩ := Dp.reads I (.tuple ds) y u he ry
  exact SeqAt.in_tuple_reads r2 r1 (SeqAt.canLay_of_shaped se) (SeqAt.canLay_of_shaped sd) (PyProof.Rows.room_in_shaped sd hu) ⟨.bl _, H, I, rfl, q⟩
theorem op_notInDT (hu : X.A.units + 65 < cLine) : OpR X (compareOp .NotIn) (fun x y H Q => ∃ d ds, Dp X.K H x d ∧ Dp X.K H y (.tuple ds) ∧ SeqAt.shaped d = true ∧ SeqAt.shaped (.tuple ds) = true ∧ Q (.bl (!ds.any fun z => PyData.eqv z d)) H) := by
  intro pins s σ H x y v u Q I rx ry h
  obtain ⟨d, ds, hd, he, sd, se, q⟩ := h
  obtain ⟨as, r1⟩ := Dp.reads I d x v hd rx
  obtain ⟨bs, r2⟩ := Dp.reads I (.tuple ds) y u he ry
  exact SeqAt.notIn_tuple_reads r2 r1 (SeqAt.canLay_of_shaped se) (SeqAt.canLay_of_shaped sd) (PyProof.Rows.room_in_shaped sd hu) ⟨.bl _, H, I, rfl, q⟩
def inL (d : D) (ds : List D) : Bool := ds.any fun z => eqB z d
def inDn (neg : Bool) : D → D → (D → Prop) → Prop
  | a, .lst ds, Q => (isDat a = true ∧ isDatL ds = true ∧ dep a ≤ 64 ∧ dep (.lst ds) ≤ 64) ∧ Q (.bl (if neg then !inL a ds else inL a ds))
  | a, .tup ds, Q => (isDat a = true ∧ isDatL ds = true ∧ dep a ≤ 64 ∧ dep (.tup ds) ≤ 64) ∧ Q (.bl (if neg then !inL a ds else inL a ds))
  | .str a, .str b, Q => ∃ c, a = ⟨#[c]⟩ ∧ Q (.bl (if neg then !decide (c ∈ b.cps.toList) else decide (c ∈ b.cps.toList)))
  | _, _, _ => False
theorem any_py {d : D} : ∀ ds : List D, ((pyL ds).any fun z => PyData.eqv z (py d)) = inL d ds
  | [] => rfl
  | a :: r => by
    rw [pyL, List.any_cons, any_py r]
    rfl
theorem units65 {k0 : Nat} {A : Around} (hr : Room (k0 + 1) A) : A.units + 65 < cLine := by
  have := hr.un
  omega
theorem opd_in {k0 : Nat} (hr : Room (k0 + 1) X.A) : OpD X e (WOp X (compareOp .In)) (inDn false) := by
  intro T G H σ δ x y a b Qd Q S ra rb q k
  cases b with
  | lst ds =>
    have q : (isDat a = true ∧ isDatL ds = true ∧ dep a ≤ 64 ∧ dep (.lst ds) ≤ 64) ∧ Qd (.bl (inL a ds)) := by
      cases a <;> exact q
    obtain ⟨⟨h1, h2, h3, h4⟩, q⟩ := q
    obtain ⟨p1, c1⟩ := ra.dp S.ok h1
    obtain ⟨p2, c2⟩ := rb.dp S.ok (by rw [isDat]; exact h2)
    have s2 := shaped_of c2 h4
    rw [py] at p2 s2
    refine wop_of (op_inD (units65 hr)) ⟨_, _, p1, p2, shaped_of c1 h3, s2, k _ (.bl _) H G S Step.refl (.bl _) ?_⟩
    rw [any_py]; exact q
  | tup ds =>
    have q : (isDat a = true ∧ isDatL ds = true ∧ dep a ≤ 64 ∧ dep (.tup ds) ≤ 64) ∧ Qd (.bl (inL a ds)) := by
      cases a <;> exact q
    obtain ⟨⟨h1, h2, h3, h4⟩, q⟩ := q
    obtain ⟨p1, c1⟩ := ra.dp S.ok h1
    obtain ⟨p2, c2⟩ := rb.dp S.ok (by rw [isDat]; exact h2)
    have s2 := shaped_of c2 h4
    rw [py] at p2 s2
    refine wop_of (op_inDT (units65 hr)) ⟨_, _, p1, p2, shaped_of c1 h3, s2, k _ (.bl _) H G S Step.refl (.bl _) ?_⟩
    rw [any_py]; exact q
  | str b =>
    cases a with
    | str a =>
      obtain ⟨c, rfl, q⟩ := q
      obtain ⟨e1, _⟩ := ra.str
      obtain ⟨e2, _⟩ := rb.str
      subst e1 e2
      exact wop_of op_in_sign ⟨c, b, rfl, rfl, k _ (.bl _) H G S Step.refl (.bl _) q⟩
    | _ => exact False.elim q
  | _ => cases a <;> exact False.elim q
theorem opd_notIn {k0 : Nat} (hr : Room (k0 + 1) X.A) : OpD X e (WOp X (compareOp .NotIn)) (inDn true) := by
  intro T G H σ δ x y a b Qd Q S ra rb q k
  cases b with
  | lst ds =>
    have q : (isDat a = true ∧ isDatL ds = true ∧ dep a ≤ 64 ∧ dep (.lst ds) ≤ 64) ∧ Qd (.bl (!inL a ds)) := by
      cases a <;> exact q
    obtain ⟨⟨h1, h2, h3, h4⟩, q⟩ := q
    obtain ⟨p1, c1⟩ := ra.dp S.ok h1
    obtain ⟨p2, c2⟩ := rb.dp S.ok (by rw [isDat]; exact h2)
    have s2 := shaped_of c2 h4
    rw [py] at p2 s2
    refine wop_of (op_notInD (units65 hr)) ⟨_, _, p1, p2, shaped_of c1 h3, s2, k _ (.bl _) H G S Step.refl (.bl _) ?_⟩
    rw [any_py]; exact q
  | tup ds =>
    have q : (isDat a = true ∧ isDatL ds = true ∧ dep a ≤ 64 ∧ dep (.tup ds) ≤ 64) ∧ Qd (.bl (!inL a ds)) := by
      cases a <;> exact q
    obtain ⟨⟨h1, h2, h3, h4⟩, q⟩ := q
    obtain ⟨p1, c1⟩ := ra.dp S.ok h1
    obtain ⟨p2, c2⟩ := rb.dp S.ok (by rw [isDat]; exact h2)
    have s2 := shaped_of c2 h4
    rw [py] at p2 s2
    refine wop_of (op_notInDT (units65 hr)) ⟨_, _, p1, p2, shaped_of c1 h3, s2, k _ (.bl _) H G S Step.refl (.bl _) ?_⟩
    rw [any_py]; exact q
  | str b =>
    cases a with
    | str a =>
      obtain ⟨c, rfl, q⟩ := q
      obtain ⟨e1, _⟩ := ra.str
      obtain ⟨e2, _⟩ := rb.str
      subst e1 e2
      exact wop_of op_notIn_sign ⟨c, b, rfl, rfl, k _ (.bl _) H G S Step.refl (.bl _) q⟩
    | _ => exact False.elim q
  | _ => cases a <;> exact False.elim q
end
end T

namespace T
open PySem PySem.Spec PyProof.Rows L2
abbrev SSt := L2.St

section
variable {X : Cx} {e : Ent} {pos : Pos}
/-! ### tests -/
theorem two_ent {a b : Expr} {A B : Opn} {r : R2} {g : D → D → (D → Prop) → Prop} (ho : OpD X e r g) {σ : SSt} {H : Hp} {T : Tm} {G : Gh} {δ : DSt} {Qd : D → DSt → Prop} {Q : VK} (ha : OPN X e a A) (hb : OPN X e b B) (S : SS X.K e T G H σ δ)
    (q : dTwo A B (fun x y δ' => g x y fun z => Qd z δ') δ) (k : ∀ v d H' G' δ', SS X.K e T G' H' σ δ' → Step e G H G' H' → Rep X.K G' v d → Qd d δ' → Q v H') :
    ∃ ta tb, PE X a ta ∧ PE X b tb ∧ ta σ H fun x H1 => tb σ H1 fun y H2 => r x y H2 Q := by
  cases A with
  | ex ta =>
    cases B with
    | ex tb =>
      exact ⟨_, _, ha, hb, T, G, δ, _, S, q, fun x a H1 G1 δ1 S1 st1 ra q1 => ⟨T, G1, δ1, _, S1, q1, fun y b H2 G2 δ2 S2 st2 rb q2 =>
        ho T G2 H2 σ δ2 x y a b _ Q S2 (.inl (ra.mono st2.le)) (.inl rb) q2 fun v d H' G' S' st' rep qd => k v d H' G' δ2 S' ((st1.trans st2).trans st') rep qd⟩⟩
    | sl j =>
      refine ⟨_, _, ha, hb, T, G, δ, _, S, q, fun x a H1 G1 δ1 S1 st1 ra q1 => ?_⟩
      cases hj : rdS δ1 j with
      | none => rw [hj] at q1; exact q1.elim
      | some b =>
        rw [hj] at q1
        obtain ⟨y, hy, rb⟩ := rdS_ok S1 hj
        exact ⟨y, hy, ho T G1 H1 σ δ1 x y a b _ Q S1 (.inl ra) rb q1 fun v d H' G' S' st' rep qd => k v d H' G' δ1 S' (st1.trans st') rep qd⟩
  | sl i =>
    cases B with
    | ex tb =>
      obtain ⟨hi, q⟩ := q
      obtain ⟨a0, h0⟩ := Option.isSome_iff_exists.mp hi
      obtain ⟨x, hx, _⟩ := rdS_ok S h0
      refine ⟨_, _, ha, hb, x, hx, T, G, δ, _, S, q, fun y b H1 G1 δ1 S1 st1 rb q1 => ?_⟩
      cases hj : rdS δ1 i with
      | none => rw [hj] at q1; exact q1.elim
      | some a =>
        rw [hj] at q1
        obtain ⟨x', hx', ra⟩ := rdS_ok S1 hj
        rw [hx] at hx'
        cases hx'
        exact ho T G1 H1 σ δ1 x y a b _ Q S1 ra (.inl rb) q1 fun v d H' G' S' st' rep qd => k v d H' G' δ1 S' (st1.trans st') rep qd
    | sl j =>
      have q : (match rdS δ i with | some x => (match rdS δ j with | some y => (fun x y δ' => g x y fun z => Qd z δ') x y δ | none => False) | none => False) := q
      cases hi : rdS δ i with
      | none => rw [hi] at q; exact q.elim
      | some a =>
        cases hj : rdS δ j with
        | none => rw [hi, hj] at q; exact q.elim
        | some b =>
          rw [hi, hj] at q
          obtain ⟨x, hx, ra⟩ := rdS_ok S hi
          obtain ⟨y, hy, rb⟩ := rdS_ok S hj
          exact ⟨_, _, ha, hb, x, hx, y, hy, ho T G H σ δ x y a b _ Q S ra rb q fun v d H' G' S' st' rep qd => k v d H' G' δ S' st' rep qd⟩
def onBl : D → (Bool → Prop) → Prop
  | .bl b, Q => Q b
  | _, _ => False
theorem onBl_ok {d : D} {Q : Bool → Prop} (h : onBl d Q) : ∃ b, d = .bl b ∧ Q b := by
  cases d <;> first | exact ⟨_, rfl, h⟩ | exact h.elim
theorem Rep.blI {K : PySem.W.Frag} {G : Gh} {v : V} {b : Bool} (r : Rep K G v (.bl b)) : v = .bl b := by cases r; rfl
theorem Rep.intI {K : PySem.W.Frag} {G : Gh} {v : V} {b : Int} (r : Rep K G v (.int b)) : v = .int b := by cases r; rfl
def dtBin (g : D → D → (D → Prop) → Prop) (A B : Opn) : TDT := fun δ Q => dTwo A B (fun x y δ' => g x y fun z => onBl z fun b => Q b δ') δ
theorem dt_cmp {a b : Expr} {A B : Opn} {op : CmpOp} {g : D → D → (D → Prop) → Prop} (ho : OpD X e (WOp X (compareOp op)) g) (ha : OPN X e a A) (hb : OPN X e b B) (hm : behindInMarks op b = false) : DT X e (.Compare a [op] [b] pos) (dtBin g A B) := by
  refine ⟨fun pins s σ H Q I ⟨T, G, δ, Qd, S, q, k⟩ => ?_⟩
  obtain ⟨ta, tb, h1, h2, h3⟩ := two_ent (Qd := fun z δ' => onBl z fun b => Qd b δ') (Q := fun x H' => ∃ k, x = .bl k ∧ Q k H') ho ha hb S q fun v d H' G' δ' S' st r qd => by
    obtain ⟨b, rfl, qd⟩ := onBl_ok qd
    exact ⟨b, r.blI, k b H' G' δ' S' st qd⟩
  exact (pt_cmpR wop_self h1 h2 hm).run pins s σ H Q I h3
def dChain (g g' : D → D → (D → Prop) → Prop) (ta tb tc : TDE) : TDE := fun δ Q => ta δ fun x δ1 => tb δ1 fun y δ2 => g x y fun z => onBl z fun b => if b = true then tc δ2 fun w δ3 => g' y w fun r => Q r δ3 else Q (.bl false) δ2
theorem dt_chain {a b c : Expr} {ta tb tc : TDE} {op op' : CmpOp} {g g' : D → D → (D → Prop) → Prop} (ho : OpD X e (WOp X (compareOp op)) g) (ho' : OpD X e (WOp X (compareOp op')) g') (ha : DE X e a ta) (hb : DE X e b tb) (hc : DE X e c tc)
    (hm : lastMarks [op, op'] [b, c] = false := by with_unfolding_all rfl) : DT X e (.Compare a [op, op'] [b, c] pos) (fun δ Q => dChain g g' ta tb tc δ fun z δ' => onBl z fun b => Q b δ') := by
  refine pt_imp (pt_chain wop_self wop_self ha hb hc hm) fun σ H Q ⟨T, G, δ, Qd, S, q, k⟩ => ?_
  refine ⟨T, G, δ, _, S, q, fun x a H1 G1 δ1 S1 st1 ra q1 => ⟨T, G1, δ1, _, S1, q1, fun y b H2 G2 δ2 S2 st2 rb q2 => ?_⟩⟩
  refine ho T G2 H2 σ δ2 x y a b _ _ S2 (.inl (ra.mono st2.le)) (.inl rb) q2 fun v d H3 G3 S3 st3 rep qd => ?_
  obtain ⟨bb, rfl, qe⟩ := onBl_ok qd
  refine ⟨bb, rep.blI, ?_⟩
  cases bb with
  | false =>
    rw [if_neg Bool.false_ne_true] at qe ⊢
    exact ⟨false, rfl, k false H3 G3 δ2 S3 ((st1.trans st2).trans st3) qe⟩
  | true =>
    rw [if_pos rfl] at qe ⊢
    refine ⟨T, G3, δ2, _, S3, qe, fun w c H4 G4 δ4 S4 st4 rc q4 => ?_⟩
    refine ho' T G4 H4 σ δ4 y w b c _ _ S4 (.inl (rb.mono (st3.le.trans st4.le))) (.inl rc) q4 fun v d H5 G5 S5 st5 rep qd => ?_
    obtain ⟨bb, rfl, qd⟩ := onBl_ok qd
    exact ⟨bb, rep.blI, k bb H5 G5 δ4 S5 (((st1.trans st2).trans (st3.trans st4)).trans st5) qd⟩
def dAnd (t u : TDT) : TDT := fun δ Q => t δ fun c δ1 => if c = true then u δ1 Q else Q false δ1
def dOr (t u : TDT) : TDT := fun δ Q => t δ fun c δ1 => if c = true then Q true δ1 else u δ1 Q
def dNot (t : TDT) : TDT := fun δ Q => t δ fun c δ1 => Q (!c) δ1
theorem dw_and1 {a : Expr} {t : TDT} (h : DT X e a t) : DW X e (.BoolOp .And [a] pos) t := pw_and1 h
theorem dw_or1 {a : Expr} {t : TDT} (h : DT X e a t) : DW X e (.BoolOp .Or [a] pos) t := pw_or1 h
theorem dw_and {a b : Expr} {r : List Expr} {t u : TDT} (h : DT X e a t) (hr : DW X e (.BoolOp .And (b :: r) pos) u) : DW X e (.BoolOp .And (a :: b :: r) pos) (dAnd t u) :=
  pw_imp (pw_and h hr) fun σ H Q ⟨T, G, δ, Qd, S, q, k⟩ => ⟨T, G, δ, _, S, q, fun c H1 G1 δ1 S1 st1 q1 => by
    cases c with
    | true => exact iteT ⟨T, G1, δ1, Qd, S1, q1, fun b H2 G2 δ2 S2 st2 q2 => k b H2 G2 δ2 S2 (st1.trans st2) q2⟩
    | false => exact iteF (k false H1 G1 δ1 S1 st1 q1)⟩
theorem dw_or {a b : Expr} {r : List Expr} {t u : TDT} (h : DT X e a t) (hr : DW X e (.BoolOp .Or (b :: r) pos) u) : DW X e (.BoolOp .Or (a :: b :: r) pos) (dOr t u) :=
  pw_imp (pw_or h hr) fun σ H Q ⟨T, G, δ, Qd, S, q, k⟩ => ⟨T, G, δ, _, S, q, fun c H1 G1 δ1 S1 st1 q1 => by
    cases c with
    | false => exact iteF ⟨T, G1, δ1, Qd, S1, q1, fun b H2 G2 δ2 S2 st2 q2 => k b H2 G2 δ2 S2 (st1.trans st2) q2⟩
    | true => exact iteT (k true H1 G1 δ1 S1 st1 q1)⟩
theorem dt_not {a : Expr} {t : TDT} (h : DT X e a t) : DT X e (.UnaryOp .Not a pos) (dNot t) :=
  pt_imp (pt_not h) fun σ H Q ⟨T, G, δ, Qd, S, q, k⟩ => ⟨T, G, δ, _, S, q, fun c H1 G1 δ1 S1 st1 q1 => k (!c) H1 G1 δ1 S1 st1 q1⟩
/-- the truth of a thing -/
def truD : D → Option Bool
  | .non => some false
  | .bl b => some b
  | .int i => some (i != 0)
  | .lst l => some (!l.isEmpty)
  | .tup l => some (!l.isEmpty)
  | .dct l => some (!l.isEmpty)
  | _ => none
theorem isEmpty_len {α β : Type} {a : List α} {b : List β} (h : a.length = b.length) : (!a.isEmpty) = !b.isEmpty := by
  cases a <;> cases b <;> simp_all
theorem truD_ok {K : PySem.W.Frag} {G : Gh} {H : Hp} {v : V} {d : D} {b : Bool} (k : GOk G H) (r : RdO K G H v d) (h : truD d = some b) : TruV K v H b := by
  cases d with
  | non => have := r.non; subst this; exact (Option.some.inj h).symm
  | bl i => have := r.bl; subst this; exact (Option.some.inj h).symm
  | int i => have := r.int; subst this; exact (Option.some.inj h).symm
  | lst l =>
    obtain ⟨p, vs, rfl, hp, rl⟩ := r.lst k
    exact .inl ⟨vs, .inl (.inl hp), by rw [isEmpty_len rl.length]; exact (Option.some.inj h).symm⟩
  | tup l =>
    obtain ⟨p, vs, rfl, hp, rl⟩ := r.tup k
    exact .inr (.inl ⟨vs, hp, by rw [isEmpty_len rl.length]; exact (Option.some.inj h).symm⟩)
  | dct l =>
    obtain ⟨p, vs, rfl, hp, ee, rl⟩ := r.dct k
    refine .inr (.inr ⟨vs, hp, ?_⟩)
    have e2 : vs.length = l.length := by
      have := congrArg List.length ee
      simpa using this
    rw [isEmpty_len e2]
    exact (Option.some.inj h).symm
  | _ => cases h
def dTru (A : Opn) : TDT := fun δ Q => match A with
  | .ex t => t δ fun d δ1 => match truD d with | some b => Q b δ1 | none => False
  | .sl i => match rdS δ i with | some d => (match truD d with | some b => Q b δ | none => False) | none => False
theorem dt_tru {a : Expr} {A : Opn} (h : OPN X e a A) (he : ∀ whole, isTrue a X.env whole = (do let v ← whole; standAt a.pos; holding [v] (truthy v)) := by intro _; rfl) : DT X e a (dTru A) := by
  cases A with
  | ex t =>
    refine pt_imp (pt_truth h he) fun σ H Q ⟨T, G, δ, Qd, S, q, k⟩ => ⟨T, G, δ, _, S, q, fun v d H1 G1 δ1 S1 st1 r q1 => ?_⟩
    cases hb : truD d with
    | none => rw [hb] at q1; exact q1.elim
    | some b =>
      rw [hb] at q1
      exact ⟨b, truD_ok S1.ok (.inl r) hb, k b H1 G1 δ1 S1 st1 q1⟩
  | sl i =>
    refine pt_imp (pt_truth h he) fun σ H Q ⟨T, G, δ, Qd, S, q, k⟩ => ?_
    have q : (match rdS δ i with | some d => (match truD d with | some b => Qd b δ | none => False) | none => False) := q
    cases hi : rdS δ i with
    | none => rw [hi] at q; exact q.elim
    | some d =>
      rw [hi] at q
      obtain ⟨v, hv, r⟩ := rdS_ok S hi
      cases hb : truD d with
      | none => simp only [hb] at q
      | some b =>
        simp only [hb] at q
        exact ⟨v, hv, b, truD_ok S.ok r hb, k b H G δ S Step.refl q⟩
/-! ### values of and, or, not; if else -/
def dAndV (t u : TDE) : TDE := fun δ Q => t δ fun x δ1 => onBl x fun c => if c = true then u δ1 Q else Q (.bl false) δ1
def dOrV (t u : TDE) : TDE := fun δ Q => t δ fun x δ1 => onBl x fun c => if c = true then Q (.bl true) δ1 else u δ1 Q
def dNotV (t : TDE) : TDE := fun δ Q => t δ fun x δ1 => onBl x fun c => Q (.bl (!c)) δ1
theorem de_one {op} {a : Expr} {t : TDE} (h : DE X e a t) : DE X e (.BoolOp op [a] pos) t := pe_one h
theorem de_and {a b : Expr} {r : List Expr} {t u : TDE} (h : DE X e a t) (hr : DE X e (.BoolOp .And (b :: r) pos) u) : DE X e (.BoolOp .And (a :: b :: r) pos) (dAndV t u) :=
  pe_imp (pe_and h hr) fun σ H Q ⟨T, G, δ, Qd, S, q, k⟩ => ⟨T, G, δ, _, S, q, fun v d H1 G1 δ1 S1 st1 r1 q1 => by
    obtain ⟨c, rfl, q1⟩ := onBl_ok q1
    refine ⟨c, r1.blI, ?_⟩
    cases c with
    | true => exact iteT ⟨T, G1, δ1, Qd, S1, q1, fun v b H2 G2 δ2 S2 st2 r2 q2 => k v b H2 G2 δ2 S2 (st1.trans st2) r2 q2⟩
    | false => exact iteF (k _ _ H1 G1 δ1 S1 st1 (.bl false) q1)⟩
theorem de_or {a b : Expr} {r : List Expr} {t u : TDE} (h : DE X e a t) (hr : DE X e (.BoolOp .Or (b :: r) pos) u) : DE X e (.BoolOp .Or (a :: b :: r) pos) (dOrV t u) :=
  pe_imp (pe_or h hr) fun σ H Q ⟨T, G, δ, Qd, S, q, k⟩ => ⟨T, G, δ, _, S, q, fun v d H1 G1 δ1 S1 st1 r1 q1 => by
    obtain ⟨c, rfl, q1⟩ := onBl_ok q1
    refine ⟨c, r1.blI, ?_⟩
    cases c with
    | false => exact iteF ⟨T, G1, δ1, Qd, S1, q1, fun v b H2 G2 δ2 S2 st2 r2 q2 => k v b H2 G2 δ2 S2 (st1.trans st2) r2 q2⟩
    | true => exact iteT (k _ _ H1 G1 δ1 S1 st1 (.bl true) q1)⟩
theorem de_not {a : Expr} {t : TDE} (h : DE X e a t) : DE X e (.UnaryOp .Not a pos) (dNotV t) :=
  pe_imp (pe_not h) fun σ H Q ⟨T, G, δ, Qd, S, q, k⟩ => ⟨T, G, δ, _, S, q, fun v d H1 G1 δ1 S1 st1 r1 q1 => by
    obtain ⟨c, rfl, q1⟩ := onBl_ok q1
    exact ⟨c, r1.blI, k _ _ H1 G1 δ1 S1 st1 (.bl (!c)) q1⟩⟩
def dIf (t : TDT) (a b : TDE) : TDE := fun δ Q => t δ fun c δ1 => if c = true then a δ1 Q else b δ1 Q
theorem de_ifExp {c a b : Expr} {t : TDT} {ta tb : TDE} (hc : DT X e c t) (ha : DE X e a ta) (hb : DE X e b tb) : DE X e (.IfExp c a b pos) (dIf t ta tb) :=
  pe_imp (pe_ifExp hc ha hb) fun σ H Q ⟨T, G, δ, Qd, S, q, k⟩ => ⟨T, G, δ, _, S, q, fun c H1 G1 δ1 S1 st1 q1 => by
    cases c with
    | true => exact iteT ⟨T, G1, δ1, Qd, S1, q1, fun v b H2 G2 δ2 S2 st2 r2 q2 => k v b H2 G2 δ2 S2 (st1.trans st2) r2 q2⟩
    | false => exact iteF ⟨T, G1, δ1, Qd, S1, q1, fun v b H2 G2 δ2 S2 st2 r2 q2 => k v b H2 G2 δ2 S2 (st1.trans st2) r2 q2⟩⟩
/-! ### subscripts -/
def WIx (X : Cx) : R2 := fun x y H Q => ∀ (value slice : Expr) (pins : List (Addr × Obj)) (s : Shared) (σ : SSt) (v u : Value), Inv X pins σ H s → RelV x v → RelV y u → subscripted slice false v u = operate [v, u] (getItem v u) →
  wpAny (model X.prog X.w) X.A (subscriptTail value slice v u) (EP X pins σ Q) X.xe s
theorem wix_self : IxR X (WIx X) := fun value slice pins s σ H x y v u Q I rx ry h hs => h value slice pins s σ v u I rx ry hs
theorem wix_of {r : R2} (h : IxR X r) {x y : V} {H : Hp} {Q : VK} (q : r x y H Q) : WIx X x y H Q := fun value slice pins s σ v u I rx ry hs => h value slice pins s σ H x y v u Q I rx ry q hs
def keyD : D → Option Key
  | .int i => some (.inl i)
  | .str s => some (.inr s)
  | _ => none
def lookD {κ : Type} [DecidableEq κ] (l : List (κ × D)) (k : κ) : Option D := (l.find? fun p => decide (p.1 = k)).map (·.2)
theorem look_ok {K : PySem.W.Frag} {G : Gh} {κ : Type} [DecidableEq κ] (k : κ) : ∀ {kvs : List (κ × V)} {kds : List (κ × D)}, kvs.map (·.1) = kds.map (·.1) → RepL K G (kvs.map (·.2)) (kds.map (·.2)) →
    (lookD kds k = none ∧ valV kvs k = none) ∨ ∃ d v, lookD kds k = some d ∧ valV kvs k = some v ∧ Rep K G v d
  | [], [], _, _ => .inl ⟨rfl, rfl⟩
  | [], _ :: _, h, _ => by cases h
  | _ :: _, [], h, _ => by cases h
  | (k1, v1) :: r, (k2, d2) :: rd, h, q => by
    obtain ⟨h1, h2⟩ := List.cons.inj h
    have h1 : k1 = k2 := h1
    subst h1
    cases q with
    | cons q1 q2 =>
      by_cases z : k1 = k
      · subst z
        exact .inr ⟨d2, v1, by simp [lookD], by simp [valV], q1⟩
      · have e1 : lookD ((k1, d2) :: rd) k = lookD rd k := by simp [lookD, z]
        have e2 : valV ((k1, v1) :: r) k = valV r k := by simp [valV, z]
        rw [e1, e2]
        exact look_ok k h2 q2
theorem ix_dict (hu : X.A.units + 1 < cLine) : IxR X (fun x y H Q => ∃ a v, x = .ref a ∧ DGet H a y (some v) ∧ Q v H) := by
  intro value slice pins s σ H x y v u Q I rx ry h hs
  obtain ⟨a, v', ex, g, q⟩ := h
  subst ex
  obtain rfl : v = Value.ref a := rx
  have hT := dict_typeIs I g
  have h₂ : wpAny (model X.prog X.w) X.A (getItem (.ref a) u) (EP X pins σ Q) X.xe s := d_getItem hu I g ry fun w' s3 I3 rw' => ⟨v', H, I3, rw', q⟩
  unfold subscriptTail
  refine wpAny_bind ?_
  rw [getitemInPython_of_ne hT.not_modules]
  refine wpAny_bind (wpAny_specialOf hT PySem.F.slot_dict_getitem.lookup ?_)
  have fin : wpAny (model X.prog X.w) X.A (subscripted slice false (.ref a) u) (fun r s₃ => wpAny (model X.prog X.w) X.A (letTemporaryGo value (.ref a) r >>= fun _ => pure r) (EP X pins σ Q) X.xe s₃) X.xe s := by
    rw [hs]
    exact wpAny_operating (wpAny_mono h₂ (fun r s₃ h₃ => wpAny_bind (wpAny_letTemporaryGo (wpAny_pure h₃))) fun _ _ x => x)
  first
    | exact wpAny_pure (wpAny_bind fin)
    | exact wpAny_bind (wpAny_pure (wpAny_bind fin))
    | exact wpAny_bind fin
def ixD : D → D → (D → Prop) → Prop
  | .lst ds, .int i, Q => (match atI ds i with | some d => Q d | none => False)
  | .tup ds, .int i, Q => (match atI ds i with | some d => Q d | none => False)
  | .str s, .int i, Q => s.length ≤ sizeLine ∧ (match atI s.cps.toList i with | some c => Q (.str ⟨#[c]⟩) | none => False)
  | .dct kds, y, Q => (match keyD y with | some k => (match lookD kds k with | some d => Q d | none => False) | none => False)
  | _, _, _ => False
theorem atI_rep {K : PySem.W.Frag} {G : Gh} {vs : List V} {ds : List D} {i : Int} {d : D} (r : RepL K G vs ds) (h : atI ds i = some d) : ∃ v, atI vs i = some v ∧ Rep K G v d := by
  unfold atI at h ⊢
  rw [← r.length] at h
  cases q : ixN vs.length i with
  | none => rw [q] at h; cases h
  | some j =>
    rw [q] at h
    exact r.get h
theorem atI_mem {α : Type} {xs : List α} {i : Int} {v : α} (h : atI xs i = some v) : v ∈ xs := by
  obtain ⟨j, _, h2, _⟩ := atI_get h
  exact List.mem_of_getElem? h2
theorem key_v {K : PySem.W.Frag} {G : Gh} {H : Hp} {y : V} {d : D} {k : Key} (r : RdO K G H y d) (h : keyD d = some k) : y = kV k := by
  cases d with
  | int i => have := r.int; subst this; cases h; rfl
  | str s => obtain ⟨e1, _⟩ := r.str; subst e1; cases h; rfl
  | _ => cases h
theorem opd_ix {k0 : Nat} (hr : Room k0 X.A) : OpD X e (WIx X) ixD := by
  intro T G H σ δ x y a b Qd Q S ra rb q k
  cases a with
  | lst ds =>
    cases b with
    | int i =>
      have e2 := rb.int
      subst e2
      obtain ⟨p, vs, rfl, hp, r1⟩ := ra.lst S.ok
      have q : (match atI ds i with | some d => Qd d | none => False) := q
      cases h : atI ds i with
      | none => rw [h] at q; exact q.elim
      | some d =>
        rw [h] at q
        obtain ⟨v, hv, rv⟩ := atI_rep r1 h
        exact wix_of ix_list ⟨p, vs, i, v, rfl, rfl, .inl (.inl hp), hv, k v d H G S Step.refl rv q⟩
    | _ => exact False.elim q
  | tup ds =>
    cases b with
    | int i =>
      have e2 := rb.int
      subst e2
      obtain ⟨p, vs, rfl, hp, r1⟩ := ra.tup S.ok
      have q : (match atI ds i with | some d => Qd d | none => False) := q
      cases h : atI ds i with
      | none => rw [h] at q; exact q.elim
      | some d =>
        rw [h] at q
        obtain ⟨v, hv, rv⟩ := atI_rep r1 h
        exact wix_of ix_tup ⟨p, vs, i, v, rfl, rfl, hp, hv, k v d H G S Step.refl rv q⟩
    | _ => exact False.elim q
  | str s =>
    cases b with
    | int i =>
      have e2 := rb.int
      obtain ⟨e1, o1⟩ := ra.str
      subst e1 e2
      obtain ⟨hl, q⟩ := q
      cases h : atI s.cps.toList i with
      | none => rw [h] at q; exact q.elim
      | some c =>
        rw [h] at q
        exact wix_of ix_str ⟨s, i, c, rfl, rfl, hl, h, k _ _ H G S Step.refl (.str (sOk_one (o1 c (atI_mem h)))) q⟩
    | _ => exact False.elim q
  | dct kds =>
    have q : (match keyD b with | some k => (match lookD kds k with | some d => Qd d | none => False) | none => False) := q
    obtain ⟨p, kvs, rfl, hp, ee, r1⟩ := ra.dct S.ok
    cases hk : keyD b with
    | none => rw [hk] at q; exact q.elim
    | some kk =>
      rw [hk] at q
      have ey := key_v rb hk
      subst ey
      rcases look_ok kk ee r1 with ⟨h1, _⟩ | ⟨d, v, h1, h2, rv⟩
      · simp only [h1] at q
      · simp only [h1] at q
        exact wix_of (ix_dict (hu_of hr)) ⟨p, v, rfl, .inl ⟨kvs, kk, .inl hp, rfl, h2.symm⟩, k v d H G S Step.refl rv q⟩
  | _ => exact False.elim q
end
end T

namespace T
open PySem L2

structure DEnds where
  nx : DSt → Prop
  rt : D → DSt → Prop
  bk : DSt → Prop := fun _ => False
  ct : DSt → Prop := fun _ => False
abbrev TDS := DEnds → DSt → Prop
/-- the ends of a def: what it hands back -/
abbrev ends (Q : D → Prop) : DEnds := { nx := fun _ => Q .non, rt := fun d _ => Q d }
def Tm.nil : Tm := ⟨[], []⟩
def liftS (K : PySem.W.Frag) (e : Ent) (t : TDS) : TS := fun E σ H => ∃ (T : Tm) (G : Gh) (δ : DSt) (F : DEnds), SS K e T G H σ δ ∧ t F δ ∧
  (∀ σ' δ' G' H', Le G G' → SS K e T G' H' σ' δ' → F.nx δ' → E.nx σ' H') ∧
  (∀ v d σ' δ' G' H', SS K e T G' H' σ' δ' → Rep K G' v d → F.rt d δ' → E.rt v H') ∧
  (∀ σ' δ' G' H', Le G G' → SS K e T G' H' σ' δ' → F.bk δ' → E.bk σ' H') ∧
  (∀ σ' δ' G' H', Le G G' → SS K e T G' H' σ' δ' → F.ct δ' → E.ct σ' H')
def DS (X : Cx) (e : Ent) (st : Stmt) (t : TDS) : Prop := PS X st (liftS X.K e t)
def DSs (X : Cx) (e : Ent) (st : List Stmt) (t : TDS) : Prop := PSs X st (liftS X.K e t)
section
variable {X : Cx} {e : Ent} {pos : Pos}
def dNext : TDS := fun F δ => F.nx δ
def dSeq (t u : TDS) : TDS := fun F δ => t { F with nx := u F } δ
theorem dss_nil : DSs X e [] dNext := pss_imp pss_nil fun E σ H ⟨T, G, δ, F, S, q, n, r, b, c⟩ => n σ δ G H (Le.refl _) S q
theorem dss_cons {st : Stmt} {rest : List Stmt} {t u : TDS} (h : DS X e st t) (hr : DSs X e rest u) : DSs X e (st :: rest) (dSeq t u) :=
  pss_imp (pss_cons h hr) fun E σ H ⟨T, G, δ, F, S, q, n, r, b, c⟩ => ⟨T, G, δ, _, S, q, fun σ' δ' G' H' le S' q' => ⟨T, G', δ', F, S', q', fun a b' c' d' l2 => n a b' c' d' (le.trans l2), r, fun a b' c' d' l2 => b a b' c' d' (le.trans l2), fun a b' c' d' l2 => c a b' c' d' (le.trans l2)⟩, r, b, c⟩
theorem dss_one {st : Stmt} {t : TDS} (h : DS X e st t) : DSs X e [st] t := pss_one h
def dDrop (t : TDE) : TDS := fun F δ => t δ fun _ δ1 => F.nx δ1
theorem ds_expr {ex : Expr} {t : TDE} (h : DE X e ex t) (hs : swapsWith ex none pos.line X.env = pure false := by rfl) : DS X e (.Expr ex pos) (dDrop t) :=
  ps_imp (ps_expr h hs) fun E σ H ⟨T, G, δ, F, S, q, n, r, b, c⟩ => ⟨T, G, δ, _, S, q, fun v d H' G' δ' S' st rep q' => n σ δ' G' H' st.le S' q'⟩
def dRet (t : TDE) : TDS := fun F δ => t δ fun d δ1 => F.rt d δ1
theorem ds_ret {ex : Expr} {t : TDE} (h : DE X e ex t) : DS X e (.Return (some ex) pos) (dRet t) :=
  ps_imp (ps_ret h) fun E σ H ⟨T, G, δ, F, S, q, n, r, b, c⟩ => ⟨T, G, δ, _, S, q, fun v d H' G' δ' S' st rep q' => r v d σ δ' G' H' S' rep q'⟩
def dIfS (c : TDT) (t u : TDS) : TDS := fun F δ => c δ fun b δ1 => if b = true then t F δ1 else u F δ1
theorem ds_if {c : Expr} {a b : List Stmt} {tc : TDT} {t u : TDS} (hc : DT X e c tc) (ha : DSs X e a t) (hb : DSs X e b u) : DS X e (.If c a b pos) (dIfS tc t u) :=
  ps_imp (ps_if hc ha hb) fun E σ H ⟨T, G, δ, F, S, q, n, r, bk, ct⟩ => ⟨T, G, δ, _, S, q, fun k H' G' δ' S' st q' => by
    cases k with
    | true => exact iteT ⟨T, G', δ', F, S', q', fun a b' c' d' l2 => n a b' c' d' (st.le.trans l2), r, fun a b' c' d' l2 => bk a b' c' d' (st.le.trans l2), fun a b' c' d' l2 => ct a b' c' d' (st.le.trans l2)⟩
    | false => exact iteF ⟨T, G', δ', F, S', q', fun a b' c' d' l2 => n a b' c' d' (st.le.trans l2), r, fun a b' c' d' l2 => bk a b' c' d' (st.le.trans l2), fun a b' c' d' l2 => ct a b' c' d' (st.le.trans l2)⟩⟩
def dNever : TDS := fun _ _ => False
theorem ds_never {st : Stmt} : DS X e st dNever := ps_imp ps_never fun E σ H ⟨T, G, δ, F, S, q, _⟩ => q
def dAsg (t : TDE) (i : Nat) : TDS := fun F δ => t δ fun d δ1 => F.nx (δ1.set i (.im d))
def dAsgO (t : TDE) (i : Nat) : TDS := fun F δ => t δ fun d δ1 => F.nx (δ1.set i (.ow d))
theorem ds_set {i : Nat} {x : Str} {ex : Expr} {t : TDE} {pos' : Pos} (hN : X.N.Nodup) (hi : X.N[i]? = some x) (hx : Loc X.env.scope x) (h : DE X e ex t) (hs : swapsWith ex (some (.Name x pos')) pos.line X.env = pure false := by rfl)
    (hf : X.fn x = true ∨ X.env.scope.names.lookup x = some .local := by first | exact .inl rfl | exact .inr rfl | assumption) : DS X e (.Assign [.Name x pos'] ex pos) (dAsg t i) :=
  ps_imp (ps_set hN hi hx h hs hf) fun E σ H ⟨T, G, δ, F, S, q, n, r, b, c⟩ => ⟨T, G, δ, _, S, q, fun v d H' G' δ' S' st rep q' => n _ _ G' H' st.le (S'.asg rep) q'⟩
theorem ds_setO {i : Nat} {x : Str} {ex : Expr} {t : TDE} {pos' : Pos} (hN : X.N.Nodup) (hi : X.N[i]? = some x) (hx : Loc X.env.scope x) (h : DO X e ex t) (hs : swapsWith ex (some (.Name x pos')) pos.line X.env = pure false := by rfl)
    (hf : X.fn x = true ∨ X.env.scope.names.lookup x = some .local := by first | exact .inl rfl | exact .inr rfl | assumption) : DS X e (.Assign [.Name x pos'] ex pos) (dAsgO t i) :=
  ps_imp (ps_set hN hi hx h hs hf) fun E σ H ⟨T, G, δ, F, S, q, n, r, b, c⟩ => ⟨T, G, δ, _, S, q, fun l d H' G' δ' S' st m ap q' => n _ _ G' H' st.le (S'.asgO m ap) q'⟩
/-! ### targets -/
abbrev TDG := D → DSt → (DSt → Prop) → Prop
/-- σ' differs from σ at these slots alone -/
def Only1 (fp : List Nat) (σ σ' : St) : Prop := σ'.length = σ.length ∧ ∀ i, i ∉ fp → σ'[i]? = σ[i]?
theorem Only1.refl {fp : List Nat} {σ : St} : Only1 fp σ σ := ⟨rfl, fun _ _ => rfl⟩
theorem Only1.trans {fp fq : List Nat} {σ σ1 σ2 : St} (a : Only1 fp σ σ1) (b : Only1 fq σ1 σ2) : Only1 (fp ++ fq) σ σ2 :=
  ⟨b.1.trans a.1, fun i h => (b.2 i fun z => h (List.mem_append_right _ z)).trans (a.2 i fun z => h (List.mem_append_left _ z))⟩
def liftG (K : PySem.W.Frag) (e : Ent) (fp : List Nat) (t : TDG) : TG := fun v σ H Q => ∃ (T : Tm) (G : Gh) (δ : DSt) (d : D) (Qd : DSt → Prop), SS K e T G H σ δ ∧ Rep K G v d ∧ t d δ Qd ∧ ∀ σ' δ' G' H', SS K e T G' H' σ' δ' → Step e G H G' H' → Only1 fp σ σ' → Qd δ' → Q σ' H'
def DG (X : Cx) (e : Ent) (tg : Expr) (fp : List Nat) (t : TDG) : Prop := PG X tg (liftG X.K e fp t)
theorem pg_imp {tg : Expr} {t t' : TG} (h : PG X tg t) (k : ∀ v σ H Q, t' v σ H Q → t v σ H Q) : PG X tg t' := ⟨fun pins s σ H x v Q I r q => h.run pins s σ H x v Q I r (k x σ H Q q)⟩
def dgName (i : Nat) : TDG := fun d δ Q => Q (δ.set i (.im d))
theorem dg_name {i : Nat} {x : Str} (hN : X.N.Nodup) (hi : X.N[i]? = some x) (hx : Loc X.env.scope x) (hf : X.fn x = true ∨ X.env.scope.names.lookup x = some .local := by first | exact .inl rfl | exact .inr rfl | assumption) : DG X e (.Name x pos) [i] (dgName i) :=
  pg_imp (pg_name hN hi hx hf) fun v σ H Q ⟨T, G, δ, d, Qd, S, r, q, k⟩ => k _ _ G H (S.asg r) Step.refl ⟨List.length_set .., fun j hj => List.getElem?_set_ne (fun z => hj (by simp [z]))⟩ q
abbrev TDGs := List D → DSt → (DSt → Prop) → Prop
def liftGs (K : PySem.W.Frag) (e : Ent) (fp : List Nat) (t : TDGs) : TGs := fun vs σ H Q => ∃ (T : Tm) (G : Gh) (δ : DSt) (ds : List D) (Qd : DSt → Prop), SS K e T G H σ δ ∧ RepL K G vs ds ∧ t ds δ Qd ∧ ∀ σ' δ' G' H', SS K e T G' H' σ' δ' → Step e G H G' H' → Only1 fp σ σ' → Qd δ' → Q σ' H'
def DGs (X : Cx) (e : Ent) (ts : List Expr) (fp : List Nat) (t : TDGs) : Prop := PGs X ts (liftGs X.K e fp t)
theorem pgs_imp {tg : List Expr} {t t' : TGs} (h : PGs X tg t) (k : ∀ v σ H Q, t' v σ H Q → t v σ H Q) : PGs X tg t' := ⟨fun pins s σ H x v Q I r q => h.run pins s σ H x v Q I r (k x σ H Q q)⟩
def dgNil : TDGs := fun ds δ Q => match ds with | [] => Q δ | _ => False
def dgCons (t : TDG) (r : TDGs) : TDGs := fun ds δ Q => match ds with | d :: rest => t d δ fun δ1 => r rest δ1 Q | [] => False
theorem dgs_nil : DGs X e [] [] dgNil := pgs_imp pgs_nil fun vs σ H Q ⟨T, G, δ, ds, Qd, S, r, q, k⟩ => by
  cases r with
  | nil => exact ⟨rfl, k σ δ G H S Step.refl .refl q⟩
  | cons _ _ => exact False.elim q
theorem dgs_cons {ex : Expr} {es : List Expr} {t : TDG} {r : TDGs} {fp fq : List Nat} (h : DG X e ex fp t) (hr : DGs X e es fq r) (hs : (assignEach (ex :: es) X.env).map (·.2) = assign ex X.env :: (assignEach es X.env).map (·.2) := by rfl) : DGs X e (ex :: es) (fp ++ fq) (dgCons t r) := pgs_imp (pgs_cons h hr hs) fun vs σ H Q ⟨T, G, δ, ds, Qd, S, rl, q, k⟩ => by
  cases rl with
  | nil => exact False.elim q
  | cons r1 r2 => exact ⟨_, _, rfl, T, G, δ, _, _, S, r1, q, fun σ' δ' G' H' S' st o1 q' => ⟨T, G', δ', _, Qd, S', r2.mono st.le, q', fun σ2 δ2 G2 H2 S2 st2 o2 q2 => k σ2 δ2 G2 H2 S2 (st.trans st2) (o1.trans o2) q2⟩⟩
/-- a, b = a tuple, a list -/
def dgSeq (n : Nat) (t : TDGs) : TDG := fun d δ Q => match d with
  | .tup ds => ds.length = n ∧ t ds δ Q
  | .lst ds => ds.length = n ∧ t ds δ Q
  | _ => False
theorem dg_tup {es : List Expr} {k : Nat} {t : TDGs} {n : Nat} {fp : List Nat} (hc : X.calm = true) (h : DGs X e es fp t) (hn : (assignEach es X.env).length = n := by rfl) (hst : (assignEach es X.env).findIdx? (·.1) = none := by rfl) : DG X e (.Tuple es k pos) fp (dgSeq n t) := by
  refine ⟨fun pins s σ H v u Q I ru ⟨T, G, δ, d, Qd, S, r, q, k⟩ => ?_⟩
  cases d with
  | tup ds =>
    obtain ⟨p, vs, rfl, hp, rl⟩ := RdO.tup (.inl r) S.ok
    exact (pg_tup hc h hn hst).run pins s σ H _ u Q I ru ⟨p, vs, rfl, hp, by rw [rl.length]; exact q.1, T, G, δ, ds, Qd, S, rl, q.2, k⟩
  | lst ds =>
    obtain ⟨p, vs, rfl, hp, rl⟩ := RdO.lst (.inl r) S.ok
    exact (pg_lst hc h hn hst).run pins s σ H _ u Q I ru ⟨p, vs, rfl, .inl (.inl hp), by rw [rl.length]; exact q.1, T, G, δ, ds, Qd, S, rl, q.2, k⟩
  | _ => exact False.elim q
theorem ds_asg {tg ex : Expr} {t : TDE} {g : TDG} {fp : List Nat} (h : DE X e ex t) (hg : DG X e tg fp g) (hs : swapsWithSole [tg] ex pos.line X.env = pure false := by rfl) (hw : swappedStores [tg] ex X.env = pure none := by rfl) (h1 : (assignEach [tg] X.env).map (·.2) = [assign tg X.env] := by rfl) :
    DS X e (.Assign [tg] ex pos) (fun F δ => t δ fun d δ1 => g d δ1 F.nx) :=
  ps_imp (ps_asg h hg hs hw h1) fun E σ H ⟨T, G, δ, F, S, q, n, r, b, c⟩ => ⟨T, G, δ, _, S, q, fun v d H' G' δ' S' st rep q' => ⟨T, G', δ', d, F.nx, S', rep, q', fun σ2 δ2 G2 H2 S2 st2 _ q2 => n σ2 δ2 G2 H2 (st.le.trans st2.le) S2 q2⟩⟩
/-! ### loops -/
/-- an iterator gives these, whatever the body does -/
structure Yields (K : PySem.W.Frag) (e : Ent) (G1 : Gh) (J : It) (ds : List D) : Prop where
  go : ∀ (i : Nat) (T : Tm) (G' : Gh) (H' : Hp) (σ' : St) (δ' : DSt), Le G1 G' → SS K e T G' H' σ' δ' → i < ds.length → J.go i H'
  yld : ∀ (i : Nat) (T : Tm) (G' : Gh) (H' : Hp) (σ' : St) (δ' : DSt) (x : V) (H2 : Hp), Le G1 G' → SS K e T G' H' σ' δ' → i < ds.length → J.yld i H' x H2 → ∃ d G2, ds[i]? = some d ∧ SS K e T G2 H2 σ' δ' ∧ Step e G' H' G2 H2 ∧ Rep K G2 x d
  stop : ∀ (i : Nat) (T : Tm) (G' : Gh) (H' : Hp) (σ' : St) (δ' : DSt), Le G1 G' → SS K e T G' H' σ' δ' → ds.length ≤ i → J.stop i H'
def liftI (K : PySem.W.Frag) (e : Ent) (t : TDA) : TI := fun σ H R => ∃ (T : Tm) (G : Gh) (δ : DSt) (Qd : List D → DSt → Prop), SS K e T G H σ δ ∧ t δ Qd ∧
  ∀ J ds H1 G1 δ1, SS K e T G1 H1 σ δ1 → Step e G H G1 H1 → Yields K e G1 J ds → Qd ds δ1 → R J H1
def DI (X : Cx) (e : Ent) (tg iter : Expr) (t : TDA) : Prop := PI X tg iter (liftI X.K e t)
theorem pi_imp {tg iter : Expr} {t t' : TI} (h : PI X tg iter t) (k : ∀ σ H R, t' σ H R → t σ H R) : PI X tg iter t' := ⟨fun pins s σ H R I q => h.run pins s σ H R I (k σ H R q)⟩
theorem yields_list {K : PySem.W.Frag} {G : Gh} {p : Addr} {vs : List V} {ds : List D} (hp : SqL K G.I p vs) (r : RepL K G vs ds) : Yields K e G (Itl K p) ds where
  go := fun i T G' H' σ' δ' le S h => by
    have hl : i < vs.length := by rw [r.length]; exact h
    exact ⟨vs, vs[i], S.ok.sub.seq (le.I.seq hp), List.getElem?_eq_getElem hl⟩
  yld := fun i T G' H' σ' δ' x H2 le S h y => by
    obtain ⟨rfl, y⟩ := y
    obtain ⟨d, h1, h2⟩ := r.getV (y vs (S.ok.sub.seq (le.I.seq hp)))
    exact ⟨d, G', h1, S, Step.refl, h2.mono le⟩
  stop := fun i T G' H' σ' δ' le S h => ⟨vs, S.ok.sub.seq (le.I.seq hp), by rw [r.length]; exact h⟩
theorem yields_tup {K : PySem.W.Frag} {G : Gh} {p : Addr} {vs : List V} {ds : List D} (hp : SqT K G.I p vs) (r : RepL K G vs ds) : Yields K e G (Itt K p) ds where
  go := fun i T G' H' σ' δ' le S h => by
    have hl : i < vs.length := by rw [r.length]; exact h
    exact ⟨vs, vs[i], sqt_mono S.ok.sub (sqt_mono le.I hp), List.getElem?_eq_getElem hl⟩
  yld := fun i T G' H' σ' δ' x H2 le S h y => by
    obtain ⟨rfl, y⟩ := y
    obtain ⟨d, h1, h2⟩ := r.getV (y vs (sqt_mono S.ok.sub (sqt_mono le.I hp)))
    exact ⟨d, G', h1, S, Step.refl, h2.mono le⟩
  stop := fun i T G' H' σ' δ' le S h => ⟨vs, sqt_mono S.ok.sub (sqt_mono le.I hp), by rw [r.length]; exact h⟩
/-- over a list, over a tuple -/
def iSeq (t : TDE) : TDA := fun δ Q => t δ fun d δ1 => match d with | .lst ds => Q ds δ1 | .tup ds => Q ds δ1 | .scr ns => Q (ns.map D.int) δ1 | _ => False
theorem di_seq {tg l : Expr} {t : TDE} (h : DE X e l t) : DI X e tg l (iSeq t) := by
  refine ⟨fun pins s σ H R I ⟨T, G, δ, Qd, S, q, k⟩ => ?_⟩
  refine thn (h.run pins s σ H (fun x H1 => (∃ a, x = .ref a ∧ (∃ xs, SqL X.K H1 a xs) ∧ R (Itl X.K a) H1) ∨ ∃ a, x = .ref a ∧ (∃ xs, SqT X.K H1 a xs) ∧ R (Itt X.K a) H1) I ⟨T, G, δ, _, S, q, fun v d H' G' δ' S' st rep q' => ?_⟩) fun v s1 ⟨x, H1, I1, r1, q1⟩ => ?_
  · cases d with
    | lst ds =>
      cases rep with
      | lst hp r => exact .inl ⟨_, rfl, ⟨_, .inl (.inl (S'.ok.sub _ _ hp))⟩, k _ ds H' G' δ' S' st (yields_list (.inl (.inl hp)) r) q'⟩
    | scr ns =>
      cases rep with
      | scr hp => exact .inl ⟨_, rfl, ⟨_, S'.ok.sub.seq hp⟩, k _ (ns.map D.int) H' G' δ' S' st (yields_list hp (.ofInts ns)) q'⟩
    | tup ds =>
      cases rep with
      | tup hp r => exact .inr ⟨_, rfl, ⟨_, .inl (.inl (S'.ok.sub _ _ hp))⟩, k _ ds H' G' δ' S' st (yields_tup (.inl (.inl hp)) r) q'⟩
    | _ => exact False.elim q'
  · rcases q1 with ⟨a, e1, ⟨xs, hq⟩, q2⟩ | ⟨a, e1, ⟨xs, hq⟩, q2⟩
    · subst e1
      cases r1
      obtain ⟨its, rv, p, hz⟩ := I1.list hq
      refine wpAny_pyIter_list p.isList ?_
      refine ⟨s1.heap.objs.size, [s1.heap.objs.size], _, _, H1, rfl, I1.kept (t' := s1.toks) fun b o e => Heap.get?_push_of_some _ e, turn_list a _, ⟨_, Heap.get?_push_size _ rfl, rfl, rfl⟩, fun b hb => ?_, q2⟩
      have e : b = s1.heap.objs.size := by simpa using hb
      subst e
      exact I1.fpOk (Nat.le_refl _) (I1.hok.fresh (Nat.le_refl _))
    · subst e1
      cases r1
      obtain ⟨its, rv, p, hz⟩ := I1.tuple hq
      refine wpAny_pyIter_tuple (show s1.heap.IsTuple a its.toArray from p) ?_
      refine ⟨s1.heap.objs.size, [s1.heap.objs.size], _, _, H1, rfl, I1.kept (t' := s1.toks) fun b o e => Heap.get?_push_of_some _ e, turn_tuple a _, ⟨_, Heap.get?_push_size _ rfl, rfl, rfl⟩, fun b hb => ?_, q2⟩
      have e : b = s1.heap.objs.size := by simpa using hb
      subst e
      exact I1.fpOk (Nat.le_refl _) (I1.hok.fresh (Nat.le_refl _))
def rngD (lo : Int) (n : Nat) : List D := (List.range n).map fun i : Nat => D.int (lo + (i : Int))
theorem rngD_get {lo : Int} {n i : Nat} (h : i < n) : (rngD lo n)[i]? = some (.int (lo + (i : Int))) := by simp [rngD, h]
theorem rngD_len {lo : Int} {n : Nat} : (rngD lo n).length = n := by simp [rngD]
theorem yields_range {K : PySem.W.Frag} {G : Gh} {lo : Int} {n : Nat} : Yields K e G (Itr lo n) (rngD lo n) where
  go := fun i T G' H' σ' δ' le S h => by rw [rngD_len] at h; exact h
  yld := fun i T G' H' σ' δ' x H2 le S h y => by
    obtain ⟨rfl, rfl⟩ := y
    rw [rngD_len] at h
    exact ⟨_, G', rngD_get h, S, Step.refl, .int _⟩
  stop := fun i T G' H' σ' δ' le S h => by rw [rngD_len] at h; exact h
def iRange1 (t : TDE) : TDA := fun δ Q => t δ fun d δ1 => match d with | .int j => (-(2 ^ 62) ≤ j ∧ j < 2 ^ 62) ∧ Q (rngD 0 j.toNat) δ1 | _ => False
theorem di_range1 {tg a : Expr} {t : TDE} {p : Pos} (hg : Gl X "range") (hm : X.mg "range" = none) (h : DE X e a t) (hs : starEach [a] X.env = [(false, eval a X.env)] := by rfl) : DI X e tg (.Call (.Name "range" p) [a] [] pos) (iRange1 t) :=
  pi_imp (pi_range1 hg hm (pa_cons h pa_nil hs) hs) fun σ H R ⟨T, G, δ, Qd, S, q, k⟩ => ⟨T, G, δ, _, S, q, fun v d H' G' δ' S' st rep q' => by
    cases d with
    | int j =>
      have := rep.intI
      subst this
      exact ⟨j, rfl, q'.1.1, q'.1.2, k _ _ H' G' δ' S' st yields_range q'.2⟩
    | _ => exact False.elim q'⟩
def iRange2 (t u : TDE) : TDA := fun δ Q => t δ fun d δ1 => u δ1 fun d2 δ2 => match d, d2 with | .int i, .int j => (-(2 ^ 62) ≤ i ∧ i < 2 ^ 62 ∧ -(2 ^ 62) ≤ j ∧ j < 2 ^ 62) ∧ Q (rngD i (j - i).toNat) δ2 | _, _ => False
/-- for i, x in enumerate(a list) -/
def enumD (ds : List D) : List D := (List.range ds.length).map fun i : Nat => D.tup [.int (i : Int), ds.getD i .non]
theorem enumD_len {ds : List D} : (enumD ds).length = ds.length := by simp [enumD]
theorem enumD_get {ds : List D} {i : Nat} {d : D} (h : ds[i]? = some d) : (enumD ds)[i]? = some (.tup [.int (i : Int), d]) := by
  have hi := lt_of_get h
  have e1 : ds.getD i .non = d := by rw [List.getD_eq_getElem?_getD, h]; rfl
  rw [List.getD_eq_getElem?_getD] at e1
  simp only [enumD, List.getElem?_map, List.getElem?_range hi, Option.map_some, List.getD_eq_getElem?_getD, e1]
theorem yields_enum {K : PySem.W.Frag} {G : Gh} {p : Addr} {vs : List V} {ds : List D} (hp : SqL K G.I p vs) (r : RepL K G vs ds) : Yields K e G (Ite K p) (enumD ds) where
  go := fun i T G' H' σ' δ' le S h => by
    rw [enumD_len] at h
    have hl : i < vs.length := by rw [r.length]; exact h
    exact ⟨vs, vs[i], S.ok.sub.seq (le.I.seq hp), List.getElem?_eq_getElem hl⟩
  yld := fun i T G' H' σ' δ' x H2 le S h y => by
    obtain ⟨t, x', rfl, ht, rfl, y⟩ := y
    obtain ⟨d, h1, h2⟩ := r.getV (y vs (S.ok.sub.seq (le.I.seq hp)))
    obtain ⟨G2, S2, st2, rep⟩ := S.newTup (vs := [.int (i : Nat), x']) (ds := [.int (i : Int), d]) (.cons (.int _) (.one (h2.mono le))) ht
    exact ⟨_, G2, enumD_get h1, S2, st2, rep⟩
  stop := fun i T G' H' σ' δ' le S h => ⟨vs, S.ok.sub.seq (le.I.seq hp), by rw [r.length]; rw [enumD_len] at h; exact h⟩
/-- the loop, by its invariant -/
def dFor (w : TDA) (g : TDG) (tb : TDS) : TDS := fun F δ => w δ fun ds δ1 => ∃ Inv : Nat → DSt → Prop, Inv 0 δ1 ∧
  (∀ i d δ', ds[i]? = some d → Inv i δ' → g d δ' fun δ2 => tb { F with nx := Inv (i + 1), ct := Inv (i + 1), bk := F.nx } δ2) ∧ ∀ δ', Inv ds.length δ' → F.nx δ'
theorem ds_for {tg iter : Expr} {body : List Stmt} {w : TDA} {g : TDG} {tb : TDS} {fp : List Nat} (hp : PassesOwn (model X.prog X.w) X.A X.env X.xe) (hc : X.calm = true) (hi : DI X e tg iter w) (hg : DG X e tg fp g) (hb : DSs X e body tb)
    (hs : ∀ x, foldedSetIterable iter X.env x = pure x := by intro _; rfl) : DS X e (.For tg iter body [] pos) (dFor w g tb) :=
  ps_imp (ps_for hp hc hi hg hb hs) fun E σ H ⟨T, G, δ, F, S, q, n, r, b, c⟩ => by
    refine ⟨T, G, δ, _, S, q, fun J ds H1 G1 δ1 S1 st1 Y ⟨Iv, h0, hs, hd⟩ => ?_⟩
    refine ⟨fun i m σ H => m = ds.length - i ∧ i ≤ ds.length ∧ ∃ G δ, Le G1 G ∧ SS X.K e T G H σ δ ∧ Iv i δ, ⟨ds.length, by simp, Nat.zero_le _, G1, δ1, Le.refl _, S1, h0⟩, ?_⟩
    rintro i m σ2 H2 ⟨rfl, hi, G2, δ2, le2, S2, iv⟩
    by_cases hlt : i < ds.length
    · refine .inr ⟨Y.go i _ G2 H2 σ2 δ2 le2 S2 hlt, fun σ' H' => ∃ G δ, Le G1 G ∧ SS X.K e T G H' σ' δ ∧ Iv (i + 1) δ, fun σ' H' ⟨G', δ', l', S', iv'⟩ => ⟨ds.length - (i + 1), by omega, rfl, hlt, G', δ', l', S', iv'⟩, fun x H' y => ?_⟩
      obtain ⟨d, G3, hd', S3, st3, rep⟩ := Y.yld i _ G2 H2 σ2 δ2 x H' le2 S2 hlt y
      refine ⟨T, G3, δ2, d, _, S3, rep, hs i d δ2 hd' iv, fun σ4 δ4 G4 H4 S4 st4 _ q4 => ?_⟩
      have le4 : Le G1 G4 := le2.trans (st3.le.trans st4.le)
      exact ⟨T, G4, δ4, _, S4, q4, fun σ5 δ5 G5 H5 le5 S5 q5 => ⟨G5, δ5, le4.trans le5, S5, q5⟩, r, fun σ5 δ5 G5 H5 le5 S5 q5 => n σ5 δ5 G5 H5 ((st1.le.trans le4).trans le5) S5 q5, fun σ5 δ5 G5 H5 le5 S5 q5 => ⟨G5, δ5, le4.trans le5, S5, q5⟩⟩
    · have e1 : i = ds.length := by omega
      subst e1
      exact .inl ⟨Y.stop _ _ G2 H2 σ2 δ2 le2 S2 (Nat.le_refl _), n σ2 δ2 G2 H2 (st1.le.trans le2) S2 (hd δ2 iv)⟩
end
end T

namespace T
open PySem L2

section
variable {X : Cx} {e : Ent} {pos : Pos}
/-! ### defs: promises over data -/
abbrev SpD := List D → (D → Prop) → Prop
def toSp (K : PySem.W.Frag) (sd : SpD) : Sp := fun vs H Q _ => ∃ (G : Gh) (ds : List D) (Qd : D → Prop), GOk G H ∧ RepL K G vs ds ∧ sd ds Qd ∧ ∀ d v G' H', GOk G' H' → Step ⟨G, H⟩ G H G' H' → Rep K G' v d → Qd d → Q v H'
/-- behind a call -/
theorem SS.after {K : PySem.W.Frag} {T : Tm} {G G' : Gh} {H H' : Hp} {σ : St} {δ : DSt} (S : SS K e T G H σ δ) (ok : GOk G' H') (c : Step ⟨G, H⟩ G H G' H') : SS K e T G' H' σ δ ∧ Step e G H G' H' := by
  have hs : ∀ a, (e.H a).isSome = true → (H a).isSome = true := fun a h => S.stp.dom a h h
  have st : Step e G H G' H' := ⟨c.le, fun a h n => c.old a (hs a h) (S.stp.noB a h n), fun a h n => c.noI a (hs a h) n, fun a h n => c.noB a (hs a h) n, fun a h q => c.dom a (hs a h) q⟩
  refine ⟨⟨S.ln, ok, S.stp.trans st, S.s.len, fun i s h => ?_, S.s.sep⟩, st⟩
  obtain ⟨x, hx, q⟩ := S.s.sl i s h
  refine ⟨x, hx, ?_⟩
  cases s with
  | no => trivial
  | im d => obtain ⟨v, e1, r⟩ := q; exact ⟨v, e1, r.mono c.le⟩
  | ow d =>
    obtain ⟨l, e1, m⟩ := q
    obtain ⟨o, ho⟩ := m.obj
    have hl : (H l).isSome = true := by rw [ho]; rfl
    exact ⟨l, e1, m.own.mono c.le (c.old l hl m.nB), c.noI l hl m.nI, c.noB l hl m.nB, m.new⟩
def dCall (sd : SpD) (t : TDA) : TDE := fun δ Q => t δ fun ds δ1 => sd ds fun d => Q d δ1
def startD (n : Nat) (ds : List D) : DSt := ds.map Sl.im ++ List.replicate (n - ds.length) .no
theorem start_ss {K : PySem.W.Frag} {G : Gh} {H : Hp} {vs : List V} {ds : List D} {N : List Str} (ok : GOk G H) (r : RepL K G vs ds) : SS K ⟨G, H⟩ .nil G H (L2.start N vs) (startD N.length ds) := by
  have hl := r.length
  have e1 : (startD N.length ds).length = (L2.start N vs).length := by
    simp only [startD, L2.start, List.length_append, List.length_map, List.length_replicate]
    omega
  refine ⟨e1, ok, Step.refl, ?_, fun i s h => ?_, fun i j di dj l hij h => ?_⟩
  · simp only [Tm.nil, List.append_nil]; exact e1.symm
  · simp only [Tm.nil, List.append_nil] at h ⊢
    by_cases hi : i < ds.length
    · unfold startD at h
      rw [List.getElem?_append_left (by simpa using hi), List.getElem?_map] at h
      cases hd : ds[i]? with
      | none => rw [hd] at h; cases h
      | some d =>
        rw [hd] at h
        obtain ⟨v, hv, rv⟩ := r.get hd
        have e2 : s = .im d := (Option.some.inj h).symm
        subst e2
        refine ⟨some v, ?_, v, rfl, rv⟩
        unfold L2.start
        rw [List.getElem?_append_left (by simp; omega), List.getElem?_map, hv]
        rfl
    · have h1 := lt_of_get h
      rw [e1] at h1
      refine ⟨_, List.getElem?_eq_getElem h1, ?_⟩
      unfold startD at h
      rw [List.getElem?_append_right (by simp; omega)] at h
      have e2 : s = .no := by
        have := List.mem_of_getElem? h
        exact (List.mem_replicate.mp this).2
      subst e2
      trivial
  · simp only [Tm.nil, List.append_nil] at h
    exfalso
    unfold startD at h
    have hm := List.mem_of_getElem? h
    rcases List.mem_append.mp hm with hm | hm
    · obtain ⟨d, _, q⟩ := List.mem_map.mp hm
      cases q
    · exact nomatch (List.mem_replicate.mp hm).2
/-- the context of a def's body -/
abbrev cxF (P : Program) (w : World) (K : PySem.W.Frag) (mg : Str → Option Value) (base : Heap) (N : List Str) (qual : Str) (scope : Scope) (f : Addr) (cdv : Value) (A : Around) (outer : List Env) (s : Shared) (H : Hp) (E : XK) : Cx :=
  (cxOf CX0 P w K mg base N qual scope f cdv A outer s H E).nox
/-- THE RULE for a def -/
theorem fn_d {P : Program} {w : World} {K : PySem.W.Frag} {mg : Str → Option Value} {base : Heap} {x qual : Str} {params : Arguments} {body : List Stmt} {scope : Scope} {dvs : List V} {kws : List (Str × V)} {f : Addr} {fd : FuncData} {N ps : List Str} {k : Nat} {sd : SpD} {t : TDS}
    (F : FunD K x qual params body scope dvs kws f fd) (S : FnScope N ps scope) (len : ∀ ds Q, sd ds Q → ds.length = ps.length)
    (hb : ∀ (cdv : Value) (A : Around) (outer : List Env) (s : Shared) (H : Hp) (E : XK) (e : Ent), Room k (A.deeper (PyProof.Rows.envOfC qual scope s.heap.objs.size f cdv)) → DSs (cxF P w K mg base N qual scope f cdv A outer s H E) e body t)
    (hp : ∀ ds Q, sd ds Q → t (ends Q) (startD N.length ds)) : FnOk P w K mg base CX0 (k + 1) f fd ps (toSp K sd) := by
  refine F.ok S (fun vs H Q E h => ?_) (fun cdv A outer s H vs Q E hr h => ?_)
  · obtain ⟨G, ds, Qd, ok, r, q, _⟩ := h
    rw [r.length]
    exact len ds Qd q
  · obtain ⟨G, ds, Qd, ok, r, q, kk⟩ := h
    refine ⟨_, PSs.nox (hb cdv A outer s H E ⟨G, H⟩ hr), .nil, G, startD N.length ds, _, start_ss ok r, hp ds Qd q, fun σ' δ' G' H' le S' q' => ?_, fun v d σ' δ' G' H' S' rep q' => kk d v G' H' S'.ok S'.stp rep q', fun _ _ _ _ _ _ q' => q'.elim, fun _ _ _ _ _ _ q' => q'.elim⟩
    exact kk .non .non G' H' S'.ok S'.stp .non q'
/-! ### slices -/
abbrev TDO := DSt → (Option Int → DSt → Prop) → Prop
def liftP (K : PySem.W.Frag) (e : Ent) (t : TDO) : TO := fun σ H Q => ∃ (T : Tm) (G : Gh) (δ : DSt) (Qd : Option Int → DSt → Prop), SS K e T G H σ δ ∧ t δ Qd ∧ ∀ o H' G' δ', SS K e T G' H' σ δ' → Step e G H G' H' → Qd o δ' → Q o H'
def DP (X : Cx) (e : Ent) (o : Option Expr) (t : TDO) : Prop := PO X o (liftP X.K e t)
theorem po_imp {o : Option Expr} {t t' : TO} (h : PO X o t) (k : ∀ σ H Q, t' σ H Q → t σ H Q) : PO X o t' := ⟨fun pins s σ H Q I q => h.run pins s σ H Q I (k σ H Q q)⟩
def dP0 : TDO := fun δ Q => Q none δ
def dP1 (t : TDE) : TDO := fun δ Q => t δ fun d δ1 => match d with | .int i => Q (some i) δ1 | _ => False
theorem dp_none : DP X e none dP0 := po_imp po_none fun σ H Q ⟨T, G, δ, Qd, S, q, k⟩ => k none H G δ S Step.refl q
theorem dp_some {a : Expr} {t : TDE} (h : DE X e a t) : DP X e (some a) (dP1 t) := po_imp (po_some h) fun σ H Q ⟨T, G, δ, Qd, S, q, k⟩ => ⟨T, G, δ, _, S, q, fun v d H' G' δ' S' st rep q' => by
  cases d with
  | int i => exact ⟨i, rep.intI, k _ H' G' δ' S' st q'⟩
  | _ => exact False.elim q'⟩
def cutL {α : Type} (xs : List α) (lo hi : Option Int) : List α := (xs.drop (HT.sIx xs.length 0 lo)).take (HT.sIx xs.length xs.length hi - HT.sIx xs.length 0 lo)
theorem cutV_eq (xs : List V) (lo hi : Option Int) : cutV xs lo hi = cutL xs lo hi := rfl
theorem cutL_rep {K : PySem.W.Frag} {G : Gh} {vs : List V} {ds : List D} (r : RepL K G vs ds) (lo hi : Option Int) : RepL K G (cutL vs lo hi) (cutL ds lo hi) := by
  unfold cutL
  rw [r.length]
  exact (r.drop _).take _
theorem cutL_whole {α : Type} {xs : List α} {lo hi : Option Int} (h : HT.sIx xs.length 0 lo = 0 ∧ HT.sIx xs.length xs.length hi = xs.length) : cutL xs lo hi = xs := by
  unfold cutL
  rw [h.1, h.2]
  simp
theorem cutL_map {α β : Type} (f : α → β) (xs : List α) (lo hi : Option Int) : cutL (xs.map f) lo hi = (cutL xs lo hi).map f := by
  unfold cutL
  rw [List.length_map, List.map_take, List.map_drop]
def slD : D → Option Int → Option Int → (D → Prop) → Prop
  | .lst ds, lo, hi, Q => Q (.lst (cutL ds lo hi))
  | .tup ds, lo, hi, Q => Q (.tup (cutL ds lo hi))
  | .str s, lo, hi, Q => s.length ≤ sizeLine ∧ Q (.str (cutS s lo hi))
  | .scr ns, lo, hi, Q => Q (.lst ((cutL ns lo hi).map D.int))
  | _, _, _, _ => False
theorem sl_any : SlR X (fun x lo hi H Q => (rSlL X.K x lo hi H Q ∨ rSlA X.K x lo hi H Q) ∨ rSlS x lo hi H Q) := SlR.or (SlR.or sl_list sl_tupA) sl_str
theorem slD_ok {T : Tm} {G : Gh} {H : Hp} {σ : St} {δ : DSt} {x : V} {a : D} {lo hi : Option Int} {Qd : D → Prop} {Q : VK} (S : SS X.K e T G H σ δ) (ra : RdO X.K G H x a) (q : slD a lo hi Qd)
    (k : ∀ v d H' G', SS X.K e T G' H' σ δ → Step e G H G' H' → Rep X.K G' v d → Qd d → Q v H') : (rSlL X.K x lo hi H Q ∨ rSlA X.K x lo hi H Q) ∨ rSlS x lo hi H Q := by
  cases a with
  | lst ds =>
    obtain ⟨p, vs, rfl, hp, r⟩ := ra.lst S.ok
    refine .inl (.inl ⟨p, vs, rfl, .inl (.inl hp), fun l hl => ?_⟩)
    obtain ⟨S2, st2, nI, nB, new, ap⟩ := S.new (o := .lst (cutV vs lo hi)) hl
    obtain ⟨G3, S3, st3, rep⟩ := S2.freeze (l := l) (d := .lst (cutL ds lo hi)) ⟨⟨_, upd_same, cutL_rep r lo hi⟩, nI, nB, new⟩ ap
    exact k _ _ _ G3 S3 (st2.trans st3) rep q
  | scr ns =>
    obtain ⟨p, rfl, hp⟩ := ra.scr S.ok
    refine .inl (.inl ⟨p, _, rfl, hp, fun l hl => ?_⟩)
    rw [cutV_eq, cutL_map]
    obtain ⟨S2, st2, nI, nB, new, ap⟩ := S.new (o := .lst ((cutL ns lo hi).map V.int)) hl
    obtain ⟨G3, S3, st3, rep⟩ := S2.freeze (l := l) (d := .lst ((cutL ns lo hi).map D.int)) ⟨⟨_, upd_same, .ofInts _⟩, nI, nB, new⟩ ap
    exact k _ _ _ G3 S3 (st2.trans st3) rep q
  | tup ds =>
    have ra' := ra
    obtain ⟨p, vs, rfl, hp, r⟩ := ra.tup S.ok
    have hl := r.length
    refine .inl (.inr ⟨p, vs, rfl, hp, fun hw => ?_, fun hw l hl => ?_⟩)
    · rcases ra' with rep | ⟨_, _, z⟩
      · refine k _ _ H G S Step.refl rep ?_
        rw [hl] at hw
        have q : Qd (.tup (cutL ds lo hi)) := q
        rw [cutL_whole hw] at q
        exact q
      · exact z.elim
    · obtain ⟨G2, S2, st2, rep⟩ := S.newTup (cutL_rep r lo hi) hl
      exact k _ _ _ G2 S2 st2 rep q
  | str s =>
    obtain ⟨e1, o1⟩ := ra.str
    subst e1
    exact .inr ⟨s, rfl, q.1, k _ _ H G S Step.refl (.str (sOk_cut o1 lo hi)) q.2⟩
  | _ => exact False.elim q
def dSl (A : Opn) (tl th : TDO) : TDE := fun δ Q => match A with
  | .ex t => t δ fun d δ1 => tl δ1 fun lo δ2 => th δ2 fun hi δ3 => slD d lo hi fun z => Q z δ3
  | .sl i => (rdS δ i).isSome = true ∧ tl δ fun lo δ2 => th δ2 fun hi δ3 => match rdS δ3 i with | some d => slD d lo hi fun z => Q z δ3 | none => False
theorem de_slice {a : Expr} {A : Opn} {lo hi : Option Expr} {tl th : TDO} {p2 : Pos} (ha : OPN X e a A) (hl : DP X e lo tl) (hh : DP X e hi th) : DE X e (.Subscript a (.Slice lo hi none p2) pos) (dSl A tl th) := by
  cases A with
  | ex t =>
    refine pe_imp (pe_slice sl_any ha hl hh) fun σ H Q ⟨T, G, δ, Qd, S, q, k⟩ => ?_
    refine ⟨T, G, δ, _, S, q, fun v d H1 G1 δ1 S1 st1 r q1 => ⟨T, G1, δ1, _, S1, q1, fun lo H2 G2 δ2 S2 st2 q2 => ⟨T, G2, δ2, _, S2, q2, fun hi H3 G3 δ3 S3 st3 q3 => ?_⟩⟩⟩
    exact slD_ok S3 (.inl (r.mono (st2.le.trans st3.le))) q3 fun v d H' G' S' st rep qd => k v d H' G' δ3 S' ((st1.trans st2).trans (st3.trans st)) rep qd
  | sl i =>
    refine pe_imp (pe_slice sl_any ha hl hh) fun σ H Q ⟨T, G, δ, Qd, S, ⟨hi, q⟩, k⟩ => ?_
    obtain ⟨d0, h0⟩ := Option.isSome_iff_exists.mp hi
    obtain ⟨v, hv, _⟩ := rdS_ok S h0
    refine ⟨v, hv, T, G, δ, _, S, q, fun lo H2 G2 δ2 S2 st2 q2 => ⟨T, G2, δ2, _, S2, q2, fun hi H3 G3 δ3 S3 st3 q3 => ?_⟩⟩
    cases hd : rdS δ3 i with
    | none => rw [hd] at q3; exact q3.elim
    | some d =>
      rw [hd] at q3
      obtain ⟨v', hv', r⟩ := rdS_ok S3 hd
      rw [hv] at hv'
      cases hv'
      exact slD_ok S3 r q3 fun v d H' G' S' st rep qd => k v d H' G' δ3 S' (st2.trans (st3.trans st)) rep qd
/-! ### built-in functions -/
/-- one operand -/
def dOne (A : Opn) (k : D → DSt → Prop) : DSt → Prop := fun δ => match A with
  | .ex t => t δ fun d δ1 => k d δ1
  | .sl i => match rdS δ i with | some d => k d δ | none => False
theorem one_ok {a ex : Expr} {A : Opn} (ha : OPN X e a A) {f : TE → TE} {r : V → Hp → VK → Prop} (hf : ∀ ta, PE X a ta → PE X ex (f ta)) (ef : ∀ ta σ H Q, (ta σ H fun x H1 => r x H1 Q) → f ta σ H Q)
    {g : D → (D → Prop) → Prop} (ho : ∀ (T : Tm) (G : Gh) (H : Hp) (σ : St) (δ : DSt) (x : V) (a : D) (Qd : D → Prop) (Q : VK), SS X.K e T G H σ δ → RdO X.K G H x a → g a Qd → (∀ v d H' G', SS X.K e T G' H' σ δ → Step e G H G' H' → Rep X.K G' v d → Qd d → Q v H') → r x H Q) :
    DE X e ex (fun δ Q => dOne A (fun d δ1 => g d fun z => Q z δ1) δ) := by
  cases A with
  | ex t =>
    refine pe_imp (hf _ ha) fun σ H Q ⟨T, G, δ, Qd, S, q, k⟩ => ef _ _ _ _ ?_
    exact ⟨T, G, δ, _, S, q, fun v d H1 G1 δ1 S1 st1 rd q1 => ho T G1 H1 σ δ1 v d _ Q S1 (.inl rd) q1 fun v d H' G' S' st' rep qd => k v d H' G' δ1 S' (st1.trans st') rep qd⟩
  | sl i =>
    refine pe_imp (hf _ ha) fun σ H Q ⟨T, G, δ, Qd, S, q, k⟩ => ef _ _ _ _ ?_
    have q : (match rdS δ i with | some d => g d (fun z => Qd z δ) | none => False) := q
    cases hi : rdS δ i with
    | none => rw [hi] at q; exact q.elim
    | some d =>
      rw [hi] at q
      obtain ⟨v, hv, rd⟩ := rdS_ok S hi
      exact ⟨v, hv, ho T G H σ δ v d _ Q S rd q fun v d H' G' S' st' rep qd => k v d H' G' δ S' st' rep qd⟩
def dB1 (g : D → (D → Prop) → Prop) (A : Opn) : TDE := fun δ Q => dOne A (fun d δ1 => g d fun z => Q z δ1) δ
/-- what a call of one value asks, by data -/
def CalB (X : Cx) (e : Ent) (r : List V → Hp → VK → Prop) (g : D → (D → Prop) → Prop) : Prop := ∀ (T : Tm) (G : Gh) (H : Hp) (σ : St) (δ : DSt) (x : V) (a : D) (Qd : D → Prop) (Q : VK), SS X.K e T G H σ δ → RdO X.K G H x a → g a Qd →
  (∀ v d H' G', SS X.K e T G' H' σ δ → Step e G H G' H' → Rep X.K G' v d → Qd d → Q v H') → r [x] H Q
theorem de_B1 {x : Str} {id : String} {a : Expr} {A : Opn} {p : Pos} {r : List V → Hp → VK → Prop} {g : D → (D → Prop) → Prop} (hc : CallR X (.builtin id) r) (ho : CalB X e r g) (hg : Gl X x) (hm : X.mg x = none) (hv : bootBuiltins x = some (.builtin id)) (ha : OPN X e a A)
    (hn : x ≠ "__name__" := by decide) (hd : (x == ("__debug__" : Str)) = false := by decide) (hs : starEach (a :: []) X.env = (false, eval a X.env) :: starEach [] X.env := by rfl) (hpl : (backTo pos (starEach [] X.env)).any (·.1) = false := by rfl) : DE X e (.Call (.Name x p) [a] [] pos) (dB1 g A) :=
  one_ok ha (r := fun x H Q => r [x] H Q) (f := fun ta => tCB r (tCons ta tNil)) (fun ta h => pe_callB hc hg hm hv (pa_cons h pa_nil hs) hn hd hs hpl) (fun _ _ _ _ h => h) ho
theorem de_T1 {x : Str} {id : String} {a : Expr} {A : Opn} {p : Pos} {r : List V → Hp → VK → Prop} {g : D → (D → Prop) → Prop} (hc : CallR X (.type id) r) (ho : CalB X e r g) (hg : Gl X x) (hm : X.mg x = none) (hv : bootBuiltins x = some (.type id)) (ha : OPN X e a A)
    (hn : x ≠ "__name__" := by decide) (hd : (x == ("__debug__" : Str)) = false := by decide) (hs : starEach (a :: []) X.env = (false, eval a X.env) :: starEach [] X.env := by rfl) (hpl : (backTo pos (starEach [] X.env)).any (·.1) = false := by rfl) : DE X e (.Call (.Name x p) [a] [] pos) (dB1 g A) :=
  one_ok ha (r := fun x H Q => r [x] H Q) (f := fun ta => tCB r (tCons ta tNil)) (fun ta h => pe_callTy hc hg hm hv (pa_cons h pa_nil hs) hn hd hs hpl) (fun _ _ _ _ h => h) ho
end
end T

namespace T
open PySem L2

section
variable {X : Cx} {e : Ent} {pos : Pos}
/-! ### len, abs, list, tuple, int .. -/
def lenD : D → (D → Prop) → Prop
  | .lst ds, Q => Q (.int (ds.length : Int))
  | .tup ds, Q => Q (.int (ds.length : Int))
  | .str s, Q => s.length ≤ sizeLine ∧ Q (.int (s.length : Int))
  | .scr ns, Q => Q (.int (ns.length : Int))
  | _, _ => False
theorem cb_len : CalB X e (fun xs H Q => ∃ x n, xs = [x] ∧ LenV X.K x H n ∧ Q (.int n) H) lenD := by
  intro T G H σ δ x a Qd Q S ra q k
  cases a with
  | lst ds =>
    obtain ⟨p, vs, rfl, hp, r⟩ := ra.lst S.ok
    exact ⟨_, vs.length, rfl, .inl ⟨vs, .inl (.inl hp), rfl⟩, k _ _ H G S Step.refl (.int _) (by rw [r.length]; exact q)⟩
  | tup ds =>
    obtain ⟨p, vs, rfl, hp, r⟩ := ra.tup S.ok
    exact ⟨_, vs.length, rfl, .inr ⟨vs, hp, rfl⟩, k _ _ H G S Step.refl (.int _) (by rw [r.length]; exact q)⟩
  | scr ns =>
    obtain ⟨p, rfl, hp⟩ := ra.scr S.ok
    exact ⟨_, (ns.map V.int).length, rfl, .inl ⟨_, hp, rfl⟩, k _ _ H G S Step.refl (.int _) (by rw [List.length_map]; exact q)⟩
  | str s =>
    obtain ⟨e1, _⟩ := ra.str
    subst e1
    exact ⟨_, s.length, rfl, ⟨q.1, rfl⟩, k _ _ H G S Step.refl (.int _) q.2⟩
  | _ => exact False.elim q
theorem de_len {a : Expr} {A : Opn} {p : Pos} (ha : OPN X e a A) (hg : Gl X "len") (hm : X.mg "len" = none) (hs : starEach (a :: []) X.env = (false, eval a X.env) :: starEach [] X.env := by rfl) : DE X e (.Call (.Name "len" p) [a] [] pos) (dB1 lenD A) :=
  de_B1 call_len cb_len hg hm PySem.boot_len ha (hs := hs)
def absD : D → (D → Prop) → Prop
  | .int i, Q => Q (.int (if i < 0 then -i else i))
  | _, _ => False
theorem cb_abs : CalB X e (fun xs H Q => ∃ i, xs = [.int i] ∧ Q (.int (if i < 0 then -i else i)) H) absD := by
  intro T G H σ δ x a Qd Q S ra q k
  cases a with
  | int i =>
    have := ra.int
    subst this
    exact ⟨i, rfl, k _ _ H G S Step.refl (.int _) q⟩
  | _ => exact False.elim q
theorem de_abs {a : Expr} {A : Opn} {p : Pos} (ha : OPN X e a A) (hg : Gl X "abs") (hm : X.mg "abs" = none) (hs : starEach (a :: []) X.env = (false, eval a X.env) :: starEach [] X.env := by rfl) : DE X e (.Call (.Name "abs" p) [a] [] pos) (dB1 absD A) :=
  de_B1 call_abs cb_abs hg hm (by decide +kernel) ha (hs := hs)
def intD : D → (D → Prop) → Prop
  | .int i, Q => Q (.int i)
  | .bl b, Q => Q (.int (if b then 1 else 0))
  | _, _ => False
theorem cb_int : CalB X e (fun xs H Q => (∃ i, xs = [.int i] ∧ Q (.int i) H) ∨ ∃ k, xs = [.bl k] ∧ Q (.int (if k then 1 else 0)) H) intD := by
  intro T G H σ δ x a Qd Q S ra q k
  cases a with
  | int i =>
    have := ra.int
    subst this
    exact .inl ⟨i, rfl, k _ _ H G S Step.refl (.int _) q⟩
  | bl i =>
    have := ra.bl
    subst this
    exact .inr ⟨i, rfl, k _ _ H G S Step.refl (.int _) q⟩
  | _ => exact False.elim q
theorem de_int1 {a : Expr} {A : Opn} {p : Pos} (ha : OPN X e a A) (hg : Gl X "int") (hm : X.mg "int" = none) (hs : starEach (a :: []) X.env = (false, eval a X.env) :: starEach [] X.env := by rfl) : DE X e (.Call (.Name "int" p) [a] [] pos) (dB1 intD A) :=
  de_T1 call_int1 cb_int hg hm (by decide +kernel) ha (hs := hs)
def tupleD : D → (D → Prop) → Prop
  | .lst ds, Q => Q (.tup ds)
  | .tup ds, Q => Q (.tup ds)
  | _, _ => False
theorem cb_tuple : CalB X e (fun xs H Q => ∃ p ys, xs = [.ref p] ∧ ((SqL X.K H p ys ∧ ∀ l, H l = none → Q (.ref l) (upd H l (.tup ys))) ∨ (SqT X.K H p ys ∧ Q (.ref p) H))) tupleD := by
  intro T G H σ δ x a Qd Q S ra q k
  cases a with
  | lst ds =>
    obtain ⟨p, vs, rfl, hp, r⟩ := ra.lst S.ok
    refine ⟨p, vs, rfl, .inl ⟨.inl (.inl hp), fun l hl => ?_⟩⟩
    obtain ⟨G2, S2, st2, rep⟩ := S.newTup r hl
    exact k _ _ _ G2 S2 st2 rep q
  | tup ds =>
    have ra' := ra
    obtain ⟨p, vs, rfl, hp, r⟩ := ra.tup S.ok
    rcases ra' with rep | ⟨_, _, z⟩
    · exact ⟨p, vs, rfl, .inr ⟨hp, k _ _ H G S Step.refl rep q⟩⟩
    · exact z.elim
  | _ => exact False.elim q
theorem de_tuple1 {a : Expr} {A : Opn} {p : Pos} (ha : OPN X e a A) (hg : Gl X "tuple") (hm : X.mg "tuple" = none) (hs : starEach (a :: []) X.env = (false, eval a X.env) :: starEach [] X.env := by rfl) : DE X e (.Call (.Name "tuple" p) [a] [] pos) (dB1 tupleD A) :=
  de_T1 call_tuple_of cb_tuple hg hm (by decide +kernel) ha (hs := hs)
/-- a new list, ours -/
def listD : D → (D → Prop) → Prop
  | .lst ds, Q => Q (.lst ds)
  | .tup ds, Q => Q (.lst ds)
  | _, _ => False
def min2D : D → D → (D → Prop) → Prop
  | .int i, .int j, Q => Q (.int (if j < i then j else i))
  | _, _, _ => False
def max2D : D → D → (D → Prop) → Prop
  | .int i, .int j, Q => Q (.int (if j > i then j else i))
  | _, _, _ => False
def dB2 (g : D → D → (D → Prop) → Prop) (t u : TDE) : TDE := fun δ Q => t δ fun x δ1 => u δ1 fun y δ2 => g x y fun z => Q z δ2
theorem de_min2 {a b : Expr} {t u : TDE} {p : Pos} (hc : X.calm = true) (ha : DE X e a t) (hb : DE X e b u) (hg : Gl X "min") (hm : X.mg "min" = none) (hs : starEach (a :: [b]) X.env = (false, eval a X.env) :: starEach [b] X.env := by rfl) (hs2 : starEach (b :: []) X.env = (false, eval b X.env) :: starEach [] X.env := by rfl) (hpl : (backTo pos (starEach [b] X.env)).any (·.1) = false := by rfl) :
    DE X e (.Call (.Name "min" p) [a, b] [] pos) (dB2 min2D t u) :=
  pe_imp (pe_callB (call_min2 hc) hg hm (by decide +kernel) (pa_cons ha (pa_cons hb pa_nil hs2) hs) (he := hs) (hpl := hpl)) fun σ H Q ⟨T, G, δ, Qd, S, q, k⟩ => ⟨T, G, δ, _, S, q, fun v d H1 G1 δ1 S1 st1 r1 q1 => ⟨T, G1, δ1, _, S1, q1, fun v2 d2 H2 G2 δ2 S2 st2 r2 q2 => by
    cases d with
    | int i =>
      cases d2 with
      | int j =>
        have e1 := r1.intI
        have e2 := r2.intI
        subst e1 e2
        exact ⟨i, j, rfl, k _ _ H2 G2 δ2 S2 (st1.trans st2) (.int _) q2⟩
      | _ => exact False.elim q2
    | _ => exact False.elim q2⟩⟩
/-- a global name of a built-in class -/
theorem de_ty {x : Str} {n : String} (hg : Gl X x) (hm : X.mg x = none) (hv : bootBuiltins x = some (.type n)) (hn : x ≠ "__name__" := by decide) (hd : (x == ("__debug__" : Str)) = false := by decide) : DE X e (.Name x pos) (dC (.ty n)) :=
  de_c (pe_bltn (v := .ty n) hg hm hv rfl hn hd) fun _ => .ty n
/-! ### methods of lists that are ours -/
def owL (δ : DSt) (i : Nat) : Option (List D) := match δ[i]? with
  | some (.ow (.lst ds)) => some ds
  | _ => none
theorem owL_ok {δ : DSt} {i : Nat} {ds : List D} (h : owL δ i = some ds) : δ[i]? = some (.ow (.lst ds)) := by
  unfold owL at h
  split at h
  · cases h; assumption
  · cases h
def dAppend (i : Nat) (t : TDE) : TDE := fun δ Q => (owL δ i).isSome = true ∧ t δ fun d δ1 => match owL δ1 i with | some ds => ds.length < sizeLine ∧ Q .non (δ1.set i (.ow (.lst (ds ++ [d])))) | none => False
theorem de_append {o a : Expr} {i : Nat} {t : TDE} {apos : Pos} (ho : PE X o (tVar i)) (ha : DE X e a t)
    (hbase : attributeBase o "append" X.env (eval o X.env) = eval o X.env := by rfl)
    (hfew : ((backTo pos (starEach (a :: []) X.env)).all (fun x => !x.1) && (backToKw pos (keywordEach [] X.env)).all (fun x => x.1.isSome)
      && decide ((a :: []).length + ([] : List Keyword).length + (if ([] : List Keyword).isEmpty then 0 else 1) < 30)) = true := by rfl)
    (hline : (apos.endLine == pos.line) = true := by rfl) (hs : starEach (a :: []) X.env = (false, eval a X.env) :: starEach [] X.env := by rfl) (hplain : (backTo pos (starEach [] X.env)).any (·.1) = false := by rfl) :
    DE X e (.Call (.Attribute o "append" apos) [a] [] pos) (dAppend i t) :=
  pe_imp (pe_bm PySem.F.plainAttrs_list PySem.F.slot_list_append PySem.F.type_list_append mt_append ho (pa_cons ha pa_nil hs) hbase hfew hline hs hplain) fun σ H Q ⟨T, G, δ, Qd, S, ⟨h0, q⟩, k⟩ => by
    obtain ⟨ds0, h0⟩ := Option.isSome_iff_exists.mp h0
    obtain ⟨x, hx, l, rfl, m⟩ := S.sl i _ (owL_ok h0)
    obtain ⟨vs, hl, r⟩ := m.own
    refine ⟨_, hx, .inl ⟨rfl, vs, .inl (.inl hl)⟩, T, G, δ, _, S, q, fun v d H1 G1 δ1 S1 st1 rd q1 => ?_⟩
    cases h1 : owL δ1 i with
    | none => rw [h1] at q1; exact q1.elim
    | some ds =>
      rw [h1] at q1
      have h1' := owL_ok h1
      obtain ⟨x', hx', l', e1, m'⟩ := S1.sl i _ h1'
      rw [hx] at hx'
      cases hx'
      have e2 : l = l' := by simpa using e1
      subst e2
      obtain ⟨ws, hw, rw'⟩ := m'.own
      refine ⟨l, ws, v, rfl, rfl, hw, by rw [rw'.length]; exact q1.1, ?_⟩
      obtain ⟨S2, st2⟩ := S1.write (d' := .lst (ds ++ [d])) (o := .lst (ws ++ [v])) h1' hx ⟨_, upd_same, rw'.append (.one rd)⟩
      exact k _ _ _ G1 _ S2 (st1.trans st2) .non q1.2
def dExtend (i : Nat) (t : TDE) : TDE := fun δ Q => (owL δ i).isSome = true ∧ t δ fun d δ1 => match d with
  | .lst es => (match owL δ1 i with | some ds => ds.length + es.length ≤ sizeLine ∧ Q .non (δ1.set i (.ow (.lst (ds ++ es)))) | none => False)
  | _ => False
theorem de_extend {o a : Expr} {i : Nat} {t : TDE} {apos : Pos} (ho : PE X o (tVar i)) (ha : DE X e a t)
    (hbase : attributeBase o "extend" X.env (eval o X.env) = eval o X.env := by rfl)
    (hfew : ((backTo pos (starEach (a :: []) X.env)).all (fun x => !x.1) && (backToKw pos (keywordEach [] X.env)).all (fun x => x.1.isSome)
      && decide ((a :: []).length + ([] : List Keyword).length + (if ([] : List Keyword).isEmpty then 0 else 1) < 30)) = true := by rfl)
    (hline : (apos.endLine == pos.line) = true := by rfl) (hs : starEach (a :: []) X.env = (false, eval a X.env) :: starEach [] X.env := by rfl) (hplain : (backTo pos (starEach [] X.env)).any (·.1) = false := by rfl) :
    DE X e (.Call (.Attribute o "extend" apos) [a] [] pos) (dExtend i t) :=
  pe_imp (pe_bm PySem.F.plainAttrs_list PySem.F.slot_list_extend PySem.F.type_list_extend mt_extend ho (pa_cons ha pa_nil hs) hbase hfew hline hs hplain) fun σ H Q ⟨T, G, δ, Qd, S, ⟨h0, q⟩, k⟩ => by
    obtain ⟨ds0, h0⟩ := Option.isSome_iff_exists.mp h0
    obtain ⟨x, hx, l, rfl, m⟩ := S.sl i _ (owL_ok h0)
    obtain ⟨vs, hl, r⟩ := m.own
    refine ⟨_, hx, .inl ⟨rfl, vs, .inl (.inl hl)⟩, T, G, δ, _, S, q, fun v d H1 G1 δ1 S1 st1 rd q1 => ?_⟩
    cases d with
    | lst es =>
      have q1 : (match owL δ1 i with | some ds => ds.length + es.length ≤ sizeLine ∧ Qd .non (δ1.set i (.ow (.lst (ds ++ es)))) | none => False) := q1
      cases h1 : owL δ1 i with
      | none => rw [h1] at q1; exact q1.elim
      | some ds =>
        rw [h1] at q1
        have h1' := owL_ok h1
        obtain ⟨x', hx', l', e1, m'⟩ := S1.sl i _ h1'
        rw [hx] at hx'
        cases hx'
        have e2 : l = l' := by simpa using e1
        subst e2
        obtain ⟨ws, hw, rw'⟩ := m'.own
        obtain ⟨b, zs, rfl, hb, rz⟩ := RdO.lst (.inl rd) S1.ok
        refine ⟨l, b, ws, zs, rfl, rfl, hw, hb, by rw [rw'.length, rz.length]; exact q1.1, ?_⟩
        obtain ⟨S2, st2⟩ := S1.write (d' := .lst (ds ++ es)) (o := .lst (ws ++ zs)) h1' hx ⟨_, upd_same, rw'.append rz⟩
        exact k _ _ _ G1 _ S2 (st1.trans st2) .non q1.2
    | _ => exact False.elim q1
def dPopAt (i : Nat) (t : TDE) : TDE := fun δ Q => (owL δ i).isSome = true ∧ t δ fun d δ1 => match d with
  | .int j => (match owL δ1 i with | some ds => (0 ≤ j ∧ j < ds.length ∧ j < 2 ^ 62) ∧ (match ds[j.toNat]? with | some y => Q y (δ1.set i (.ow (.lst (ds.eraseIdx j.toNat)))) | none => False) | none => False)
  | _ => False
theorem de_popAt {o a : Expr} {i : Nat} {t : TDE} {apos : Pos} (ho : PE X o (tVar i)) (ha : DE X e a t)
    (hbase : attributeBase o "pop" X.env (eval o X.env) = eval o X.env := by rfl)
    (hfew : ((backTo pos (starEach (a :: []) X.env)).all (fun x => !x.1) && (backToKw pos (keywordEach [] X.env)).all (fun x => x.1.isSome)
      && decide ((a :: []).length + ([] : List Keyword).length + (if ([] : List Keyword).isEmpty then 0 else 1) < 30)) = true := by rfl)
    (hline : (apos.endLine == pos.line) = true := by rfl) (hs : starEach (a :: []) X.env = (false, eval a X.env) :: starEach [] X.env := by rfl) (hplain : (backTo pos (starEach [] X.env)).any (·.1) = false := by rfl) :
    DE X e (.Call (.Attribute o "pop" apos) [a] [] pos) (dPopAt i t) :=
  pe_imp (pe_bm PySem.F.plainAttrs_list PySem.F.slot_list_pop PySem.F.type_list_pop mt_popAt ho (pa_cons ha pa_nil hs) hbase hfew hline hs hplain) fun σ H Q ⟨T, G, δ, Qd, S, ⟨h0, q⟩, k⟩ => by
    obtain ⟨ds0, h0⟩ := Option.isSome_iff_exists.mp h0
    obtain ⟨x, hx, l, rfl, m⟩ := S.sl i _ (owL_ok h0)
    obtain ⟨vs, hl, r⟩ := m.own
    refine ⟨_, hx, .inl ⟨rfl, vs, .inl (.inl hl)⟩, T, G, δ, _, S, q, fun v d H1 G1 δ1 S1 st1 rd q1 => ?_⟩
    cases d with
    | int j =>
      have ev := rd.intI
      subst ev
      have q1 : (match owL δ1 i with | some ds => (0 ≤ j ∧ j < ds.length ∧ j < 2 ^ 62) ∧ (match ds[j.toNat]? with | some y => Qd y (δ1.set i (.ow (.lst (ds.eraseIdx j.toNat)))) | none => False) | none => False) := q1
      cases h1 : owL δ1 i with
      | none => rw [h1] at q1; exact q1.elim
      | some ds =>
        rw [h1] at q1
        have h1' := owL_ok h1
        obtain ⟨x', hx', l', e1, m'⟩ := S1.sl i _ h1'
        rw [hx] at hx'
        cases hx'
        have e2 : l = l' := by simpa using e1
        subst e2
        obtain ⟨ws, hw, rw'⟩ := m'.own
        obtain ⟨⟨hj0, hj1, hj2⟩, q2⟩ := q1
        cases hy : ds[j.toNat]? with
        | none => rw [hy] at q2; exact q2.elim
        | some y =>
          rw [hy] at q2
          obtain ⟨z, hz, rz⟩ := rw'.get hy
          have hlen := rw'.length
          have hlw := lt_of_get hz
          refine ⟨l, ws, j, j.toNat, z, rfl, rfl, hw, by omega, by omega, seqIndex_of hj0 (by omega), hz, ?_⟩
          obtain ⟨S2, st2⟩ := S1.write (d' := .lst (ds.eraseIdx j.toNat)) (o := .lst (ws.eraseIdx j.toNat)) h1' hx ⟨_, upd_same, rw'.eraseIdx _⟩
          exact k _ _ _ G1 _ S2 (st1.trans st2) (rz.mono st2.le) q2
    | _ => exact False.elim q1
end
end T

namespace T
open PySem L2

section
variable {X : Cx} {e : Ent} {pos : Pos}
def wipeD (δ : DSt) : List Nat → DSt
  | [] => δ
  | v :: vs => (wipeD δ vs).set v .no
theorem wipeD_len (δ : DSt) : ∀ vs : List Nat, (wipeD δ vs).length = δ.length
  | [] => rfl
  | v :: vs => by rw [wipeD, List.length_set, wipeD_len δ vs]
theorem wipeD_get (δ : DSt) (j : Nat) : ∀ vs : List Nat, (wipeD δ vs)[j]? = if j ∈ vs then (δ[j]?).map (fun _ => Sl.no) else δ[j]?
  | [] => by simp [wipeD]
  | v :: vs => by
    rw [wipeD]
    by_cases z : v = j
    · subst z
      rw [if_pos (List.mem_cons_self)]
      by_cases hl : v < δ.length
      · rw [List.getElem?_set_self (by rw [wipeD_len]; exact hl), List.getElem?_eq_getElem hl]; rfl
      · rw [List.getElem?_eq_none (by rw [List.length_set, wipeD_len]; omega), List.getElem?_eq_none (by omega)]; rfl
    · rw [List.getElem?_set_ne z, wipeD_get δ j vs]
      have e1 : (j ∈ v :: vs) ↔ j ∈ vs := by simp [Ne.symm z]
      by_cases h : j ∈ vs
      · rw [if_pos h, if_pos (e1.mpr h)]
      · rw [if_neg h, if_neg (fun q => h (e1.mp q))]
theorem wipe_get (σ : St) (j : Nat) : ∀ vs : List Nat, (wipe σ vs)[j]? = if j ∈ vs then (σ[j]?).map (fun _ => none) else σ[j]?
  | [] => by simp [wipe]
  | v :: vs => by
    rw [wipe]
    by_cases z : v = j
    · subst z
      rw [if_pos (List.mem_cons_self)]
      by_cases hl : v < σ.length
      · rw [List.getElem?_set_self (by rw [wipe_length]; exact hl), List.getElem?_eq_getElem hl]; rfl
      · rw [List.getElem?_eq_none (by rw [List.length_set, wipe_length]; omega), List.getElem?_eq_none (by omega)]; rfl
    · rw [List.getElem?_set_ne z, wipe_get σ j vs]
      have e1 : (j ∈ v :: vs) ↔ j ∈ vs := by simp [Ne.symm z]
      by_cases h : j ∈ vs
      · rw [if_pos h, if_pos (e1.mpr h)]
      · rw [if_neg h, if_neg (fun q => h (e1.mp q))]
theorem wipe_only {σ σ' : St} {fp vs : List Nat} (o : Only1 fp σ σ') (h : ∀ i ∈ fp, i ∈ vs) : wipe σ' vs = wipe σ vs := by
  apply List.ext_getElem?
  intro j
  rw [wipe_get, wipe_get]
  by_cases hj : j ∈ vs
  · rw [if_pos hj, if_pos hj]
    by_cases hl : j < σ.length
    · rw [List.getElem?_eq_getElem hl, List.getElem?_eq_getElem (by rw [o.1]; exact hl)]; rfl
    · rw [List.getElem?_eq_none (show σ.length ≤ j by omega), List.getElem?_eq_none (show σ'.length ≤ j by rw [o.1]; omega)]
  · rw [if_neg hj, if_neg hj, o.2 j fun z => hj (h j z)]
theorem SS.move {K : PySem.W.Frag} {T : Tm} {G : Gh} {H : Hp} {σ σ' : St} {δ : DSt} {vs : List Nat} (S : SS K e T G H σ δ) (hl : σ'.length = σ.length) (h : ∀ i, i ∉ vs → σ'[i]? = σ[i]?) : SS K e T G H σ' (wipeD δ vs) := by
  have hd := wipeD_len δ vs
  have hln := S.ln
  have hlen := S.s.len
  simp only [List.length_append] at hlen
  have ow : ∀ (i : Nat) (d : D), (wipeD δ vs ++ T.d)[i]? = some (.ow d) → (δ ++ T.d)[i]? = some (.ow d) ∧ (σ' ++ T.v)[i]? = (σ ++ T.v)[i]? := fun i d q => by
    by_cases hi : i < δ.length
    · rw [get_l (by rw [hd]; exact hi), wipeD_get] at q
      by_cases hj : i ∈ vs
      · rw [if_pos hj, List.getElem?_eq_getElem hi] at q; cases q
      · rw [if_neg hj] at q
        rw [get_l hi, get_l (by omega), get_l (by omega)]
        exact ⟨q, h i hj⟩
    · rw [List.getElem?_append_right (by omega), hd] at q
      rw [List.getElem?_append_right (by omega), List.getElem?_append_right (by omega), List.getElem?_append_right (by omega), hl]
      exact ⟨q, rfl⟩
  refine ⟨by rw [hd, hl]; exact S.ln, S.ok, S.stp, by simp only [List.length_append]; omega, fun i s q => ?_, fun i j di dj l hij qi qj xi xj => ?_⟩
  · by_cases hi : i < δ.length
    · rw [get_l (by rw [hd]; exact hi), wipeD_get] at q
      by_cases hj : i ∈ vs
      · rw [if_pos hj, List.getElem?_eq_getElem hi] at q
        have e1 : s = .no := (Option.some.inj q).symm
        subst e1
        exact ⟨_, List.getElem?_eq_getElem (by simp only [List.length_append]; omega), trivial⟩
      · rw [if_neg hj] at q
        obtain ⟨o, h1, h2⟩ := S.sl i s q
        rw [get_l (by omega), h i hj]
        exact ⟨o, h1, h2⟩
    · rw [List.getElem?_append_right (by omega), hd] at q
      obtain ⟨o, h1, h2⟩ := S.s.sl i s (by rw [List.getElem?_append_right (by omega)]; exact q)
      rw [List.getElem?_append_right (by omega)] at h1
      rw [List.getElem?_append_right (by omega), hl]
      exact ⟨o, h1, h2⟩
  · obtain ⟨a1, a2⟩ := ow i di qi
    obtain ⟨b1, b2⟩ := ow j dj qj
    rw [a2] at xi
    rw [b2] at xj
    exact S.s.sep i j di dj l hij a1 b1 xi xj
def DTs (X : Cx) (e : Ent) (ifs : List Expr) (t : TDT) : Prop := PTs X ifs (liftT X.K e t)
def dYes : TDT := fun δ Q => Q true δ
theorem dts_nil : DTs X e [] dYes := ⟨fun pins s σ H Q I ⟨T, G, δ, Qd, S, q, k⟩ => pts_nil.run pins s σ H Q I (k true H G δ S Step.refl q)⟩
theorem dts_one {c : Expr} {t : TDT} (h : DT X e c t) : DTs X e [c] t := pts_one h
def dLc (w : TDA) (g : TDG) (tt : TDT) (te : TDE) (own : List Nat) : TDE := fun δ Q => w δ fun ds δ1 => ∃ Inv : Nat → List D → DSt → Prop, Inv 0 [] (wipeD δ1 own) ∧
  (∀ i d acc δ', ds[i]? = some d → Inv i acc δ' → g d (wipeD δ' own) fun δ2 => tt δ2 fun b δ3 => if b = true then te δ3 fun y δ4 => acc.length < sizeLine ∧ Inv (i + 1) (acc ++ [y]) (wipeD δ4 own) else Inv (i + 1) acc (wipeD δ3 own)) ∧
  ∀ acc δ', Inv ds.length acc δ' → Q (.lst acc) (wipeD δ' own)
theorem lc_ent {w : TDA} {g : TDG} {tt : TDT} {te : TDE} {own fp : List Nat} (hfp : ∀ i ∈ fp, i ∈ own) {σ : St} {H : Hp} {Q : VK} (h : liftO X.K e (dLc w g tt te own) σ H Q) :
    tLc (liftI X.K e w) (liftG X.K e fp g) (liftT X.K e tt) (lift X.K e te) own σ H Q := by
  obtain ⟨T, G, δ, Qd, S, q, k⟩ := h
  refine ⟨T, G, δ, _, S, q, fun J ds H1 G1 δ1 S1 st1 Y ⟨Iv, h0, hs, hd⟩ => ?_⟩
  intro L hL
  obtain ⟨S2, st2, nI, nB, new, ap⟩ := S1.new (o := .lst []) hL
  have S3 := S2.hold (l := L) (d := .lst []) ⟨⟨[], upd_same, .nil⟩, nI, nB, new⟩ ap
  have S4 : SS X.K e (T.push L (.lst [])) G1 (upd H1 L (.lst [])) (wipe σ own) (wipeD δ1 own) := S3.move (wipe_length σ own) fun i hi => by rw [wipe_get, if_neg hi]
  refine ⟨fun i m H' => m = ds.length - i ∧ i ≤ ds.length ∧ ∃ G' δ' acc, Step e G1 (upd H1 L (.lst [])) G' H' ∧ SS X.K e (T.push L (.lst acc)) G' H' (wipe σ own) (wipeD δ' own) ∧ Iv i acc (wipeD δ' own), ⟨ds.length, by simp, Nat.zero_le _, G1, δ1, [], Step.refl, S4, h0⟩, ?_⟩
  rintro i m H5 ⟨rfl, hi, G5, δ5, acc, st5, S5, iv⟩
  have wipe2 : ∀ δ : DSt, wipeD (wipeD δ own) own = wipeD δ own := fun δ => by
    apply List.ext_getElem?
    intro j
    rw [wipeD_get, wipeD_get]
    by_cases hj : j ∈ own
    · rw [if_pos hj, if_pos hj]; cases δ[j]? <;> rfl
    · rw [if_neg hj, if_neg hj]
  by_cases hlt : i < ds.length
  · refine .inr ⟨Y.go i _ G5 H5 _ _ st5.le S5 hlt, fun H' => ∃ G' δ' acc', Step e G1 (upd H1 L (.lst [])) G' H' ∧ SS X.K e (T.push L (.lst acc')) G' H' (wipe σ own) (wipeD δ' own) ∧ Iv (i + 1) acc' (wipeD δ' own), fun H' ⟨G', δ', acc', s', S', iv'⟩ => ⟨ds.length - (i + 1), by omega, rfl, hlt, G', δ', acc', s', S', iv'⟩, fun x H6 y => ?_⟩
    obtain ⟨d, G6, hd', S6, st6, rep⟩ := Y.yld i _ G5 H5 _ _ x H6 st5.le S5 hlt y
    have q6 := hs i d acc _ hd' iv
    rw [wipe2] at q6
    refine ⟨_, G6, _, d, _, S6, rep, q6, fun σ7 δ7 G7 H7 S7 st7 o7 q7 => ⟨?_, ?_⟩⟩
    · have e1 := wipe_only o7 hfp
      rw [e1]
      apply List.ext_getElem?
      intro j
      rw [wipe_get, wipe_get]
      by_cases hj : j ∈ own
      · rw [if_pos hj, if_pos hj]; cases σ[j]? <;> rfl
      · rw [if_neg hj, if_neg hj]
    · have hw7 : (wipe σ own).length = σ7.length ∧ ∀ i, i ∉ own → (wipe σ own)[i]? = σ7[i]? := ⟨o7.1.symm, fun i hi => (o7.2 i fun z => hi (hfp i z)).symm⟩
      refine ⟨_, G7, δ7, _, S7, q7, fun b H8 G8 δ8 S8 st8 q8 => ?_⟩
      have st18 := st5.trans (st6.trans (st7.trans st8))
      cases b with
      | false =>
        rw [if_neg Bool.false_ne_true] at q8
        refine iteF ?_
        exact ⟨G8, δ8, acc, st18, S8.move hw7.1 hw7.2, q8⟩
      | true =>
        rw [if_pos rfl] at q8
        refine iteT ?_
        refine ⟨_, G8, δ8, _, S8, q8, fun v y H9 G9 δ9 S9 st9 rv q9 => ?_⟩
        obtain ⟨_, m9, _⟩ := S9.drop
        obtain ⟨vs, hv, rl⟩ := m9.own
        refine ⟨vs, hv, by rw [rl.length]; exact q9.1, ?_⟩
        obtain ⟨S10, st10⟩ := S9.writeT (d' := .lst (acc ++ [y])) (o := .lst (vs ++ [v])) ⟨_, upd_same, rl.append (.one rv)⟩
        exact ⟨G9, δ9, acc ++ [y], st18.trans (st9.trans st10), S10.move hw7.1 hw7.2, q9.2⟩
  · have e1 : i = ds.length := by omega
    subst e1
    refine .inl ⟨Y.stop _ _ G5 H5 _ _ st5.le S5 (Nat.le_refl _), ?_⟩
    obtain ⟨S6, m6, ap6⟩ := S5.drop
    have S7 : SS X.K e T G5 H5 σ (wipeD δ5 own) := by
      have := S6.move (σ' := σ) (vs := own) (wipe_length σ own).symm fun i hi => by rw [wipe_get, if_neg hi]
      rwa [wipe2] at this
    have q7 := hd acc _ iv
    rw [wipe2] at q7
    refine k L (.lst acc) H5 G5 _ S7 (st1.trans (st2.trans st5)) m6 (fun i d hi z => ?_) q7
    have hi' := hi
    by_cases hl : i < δ5.length
    · rw [get_l (by rw [wipeD_len]; exact hl), wipeD_get] at hi'
      by_cases hj : i ∈ own
      · rw [if_pos hj, List.getElem?_eq_getElem hl] at hi'; cases hi'
      · refine ap6 i d hi ?_
        have hl2 : i < σ.length := by
          have := S7.ln
          rw [wipeD_len] at this
          omega
        rw [get_l hl2] at z
        rw [get_l (by rw [wipe_length]; exact hl2), wipe_get, if_neg hj]
        exact z
    · refine ap6 i d hi ?_
      have hl2 : ¬ i < σ.length := by
        have := S7.ln
        rw [wipeD_len] at this
        omega
      rw [List.getElem?_append_right (by omega)] at z
      rw [List.getElem?_append_right (by rw [wipe_length]; omega), wipe_length]
      exact z
theorem do_lc {elt tg iter : Expr} {ifs : List Expr} {scope : Scope} {own : List (Str × Nat)} {w : TDA} {g : TDG} {tt : TDT} {te : TDE} {fp : List Nat} (hc : X.calm = true) (hN : X.N.Nodup) (hi : DI X e tg iter w) (ok : BlkOk X.N X.env.scope scope own)
    (hg : ∀ (s : Shared) (H : Hp) (C : Addr) (cl : List (Str × Addr)) (fp' : List Addr), DG (X.blk s H scope (compEnvC scope cl C X.env) fp') e tg fp g) (ht : ∀ (s : Shared) (H : Hp) (C : Addr) (cl : List (Str × Addr)) (fp' : List Addr), DTs (X.blk s H scope (compEnvC scope cl C X.env) fp') e ifs tt)
    (he : ∀ (s : Shared) (H : Hp) (C : Addr) (cl : List (Str × Addr)) (fp' : List Addr), DE (X.blk s H scope (compEnvC scope cl C X.env) fp') e elt te) (hfp : ∀ i ∈ fp, i ∈ own.map (·.2) := by decide) (hs : ∀ x, foldedSetIterable iter X.env x = pure x := by intro _; rfl) :
    DO X e (.ListComp elt [⟨tg, iter, ifs, 0⟩] scope pos) (dLc w g tt te (own.map (·.2))) :=
  pe_imp (pe_lc (g := liftG X.K e fp g) (tt := liftT X.K e tt) (te := lift X.K e te) hc hN hi ok hg ht he hs) fun σ H Q h => lc_ent hfp h
theorem ds_setLc {i : Nat} {y : Str} {py spos : Pos} {elt tg iter : Expr} {ifs : List Expr} {scope : Scope} {own : List (Str × Nat)} {w : TDA} {g : TDG} {tt : TDT} {te : TDE} {fp : List Nat} (hc : X.calm = true) (hN : X.N.Nodup) (hy : X.N[i]? = some y) (hyl : X.env.scope.names.lookup y = some .local)
    (hsw : swapsWith (.ListComp elt [⟨tg, iter, ifs, 0⟩] scope pos) (some (.Name y py)) spos.line X.env = pure true) (hi : DI X e tg iter w) (ok : BlkOk X.N X.env.scope scope own)
    (hg : ∀ (s : Shared) (H : Hp) (C : Addr) (cl : List (Str × Addr)) (fp' : List Addr), DG (X.blk s H scope (compEnvC scope cl C X.env) fp') e tg fp g) (ht : ∀ (s : Shared) (H : Hp) (C : Addr) (cl : List (Str × Addr)) (fp' : List Addr), DTs (X.blk s H scope (compEnvC scope cl C X.env) fp') e ifs tt)
    (he : ∀ (s : Shared) (H : Hp) (C : Addr) (cl : List (Str × Addr)) (fp' : List Addr), DE (X.blk s H scope (compEnvC scope cl C X.env) fp') e elt te) (hfp : ∀ i ∈ fp, i ∈ own.map (·.2) := by decide) (hs : ∀ x, foldedSetIterable iter X.env x = pure x := by intro _; rfl) :
    DS X e (.Assign [.Name y py] (.ListComp elt [⟨tg, iter, ifs, 0⟩] scope pos) spos) (dAsg (dLc w g tt te (own.map (·.2))) i) :=
  ps_imp (ps_setLc (g := liftG X.K e fp g) (tt := liftT X.K e tt) (te := lift X.K e te) hc hN hy hyl hsw hi ok hg ht he hs) fun E σ H ⟨T, G, δ, F, S, q, n, r, b, c⟩ => lc_ent hfp ⟨T, G, δ, _, S, q, fun l d H' G' δ' S' st m ap q' => by
    obtain ⟨G2, S2, st2, r2⟩ := S'.freeze m ap
    exact n _ _ G2 H' (st.le.trans st2.le) (S2.asg r2) q'⟩
/-! ### a, b = x, y -/
/-- values, each frozen or ours -/
inductive Ev where
  | im (t : TDE) | ow (t : TDE)
def evPE (X : Cx) (e : Ent) (a : Expr) : Ev → Prop
  | .im t => DE X e a t
  | .ow t => DO X e a t
end
end T

namespace T
open PySem L2

section
variable {X : Cx} {e : Ent} {pos : Pos}
/-! ### texts -/
def strsOf : List D → Option (List Str)
  | [] => some []
  | .str s :: r => (strsOf r).map (s :: ·)
  | _ :: _ => none
theorem strsOf_ok : ∀ {ds : List D} {ss : List Str}, strsOf ds = some ss → ds = ss.map D.str
  | [], ss, h => by cases h; rfl
  | d :: r, ss, h => by
    cases d with
    | str s =>
      rw [strsOf] at h
      cases hr : strsOf r with
      | none => rw [hr] at h; cases h
      | some rs =>
        rw [hr] at h
        cases h
        rw [List.map_cons, ← strsOf_ok hr]
    | _ => cases h
theorem strsOf_map : ∀ ss : List Str, strsOf (ss.map D.str) = some ss
  | [] => rfl
  | s :: r => by rw [List.map_cons, strsOf, strsOf_map r]; rfl
theorem sOk_join {sep : Str} (hs : sOk sep) : ∀ {ss : List Str}, (∀ s ∈ ss, sOk s) → sOk (Str.join sep ss)
  | [], _ => by intro c hc; simp [Str.join, Str.empty] at hc
  | [x], h => h x List.mem_cons_self
  | x :: y :: r, h => sOk_append (sOk_append (h x List.mem_cons_self) hs) (sOk_join hs fun s hs' => h s (List.mem_cons_of_mem _ hs'))
def joinD (sep : Str) : D → (D → Prop) → Prop
  | .lst ds, Q => (match strsOf ds with | some ss => (ss.map (·.length)).sum + ss.length * sep.length ≤ 16777216 ∧ Q (.str (Str.join sep ss)) | none => False)
  | .tup ds, Q => (match strsOf ds with | some ss => (ss.map (·.length)).sum + ss.length * sep.length ≤ 16777216 ∧ Q (.str (Str.join sep ss)) | none => False)
  | _, _ => False
def dJoin (t u : TDE) : TDE := fun δ Q => t δ fun x δ1 => match x with | .str sep => u δ1 fun y δ2 => joinD sep y fun z => Q z δ2 | _ => False
theorem Rep.strI {K : PySem.W.Frag} {G : Gh} {v : V} {b : Str} (r : Rep K G v (.str b)) : v = .str b ∧ sOk b := by cases r with | str h => exact ⟨rfl, h⟩
theorem joinD_ok {sep : Str} {d : D} {Q : D → Prop} (q : joinD sep d Q) : ∃ ss, (d = .lst (ss.map D.str) ∨ d = .tup (ss.map D.str)) ∧ (ss.map (·.length)).sum + ss.length * sep.length ≤ 16777216 ∧ Q (.str (Str.join sep ss)) := by
  cases d with
  | lst ds =>
    have q1 : (match strsOf ds with | some ss => (ss.map (·.length)).sum + ss.length * sep.length ≤ 16777216 ∧ Q (.str (Str.join sep ss)) | none => False) := q
    cases hss : strsOf ds with
    | none => rw [hss] at q1; exact q1.elim
    | some ss => rw [hss] at q1; exact ⟨ss, .inl (by rw [← strsOf_ok hss]), q1⟩
  | tup ds =>
    have q1 : (match strsOf ds with | some ss => (ss.map (·.length)).sum + ss.length * sep.length ≤ 16777216 ∧ Q (.str (Str.join sep ss)) | none => False) := q
    cases hss : strsOf ds with
    | none => rw [hss] at q1; exact q1.elim
    | some ss => rw [hss] at q1; exact ⟨ss, .inr (by rw [← strsOf_ok hss]), q1⟩
  | _ => exact False.elim q
theorem de_join {o a : Expr} {t u : TDE} {apos : Pos} (ho : DE X e o t) (ha : DE X e a u) (hs : starEach [a] X.env = [(false, eval a X.env)] := by rfl) (hbase : attributeBase o "join" X.env (eval o X.env) = eval o X.env := by rfl) (hline : (apos.endLine == pos.line) = true := by rfl) :
    DE X e (.Call (.Attribute o "join" apos) [a] [] pos) (dJoin t u) :=
  pe_imp (pe_join ho ha hs hbase hline) fun σ H Q ⟨T, G, δ, Qd, S, q, k⟩ => ⟨T, G, δ, _, S, q, fun v d H1 G1 δ1 S1 st1 r1 q1 => by
    cases d with
    | str sep =>
      obtain ⟨e1, o1⟩ := r1.strI
      subst e1
      refine ⟨⟨sep, rfl⟩, T, G1, δ1, _, S1, q1, fun v2 d2 H2 G2 δ2 S2 st2 r2 q2 => ?_⟩
      obtain ⟨ss, hd, hb, q3⟩ := joinD_ok q2
      rcases hd with rfl | rfl
      · obtain ⟨p, vs, rfl, hp, rl⟩ := RdO.lst (.inl r2) S2.ok
        have ev := rl.strs
        subst ev
        refine ⟨sep, p, ss, rfl, rfl, .inl (.inl (.inl hp)), hb, ?_⟩
        rw [TL.join_eq]
        exact k _ _ H2 G2 δ2 S2 (st1.trans st2) (.str (sOk_join o1 rl.okStrs)) q3
      · obtain ⟨p, vs, rfl, hp, rl⟩ := RdO.tup (.inl r2) S2.ok
        have ev := rl.strs
        subst ev
        refine ⟨sep, p, ss, rfl, rfl, .inr hp, hb, ?_⟩
        rw [TL.join_eq]
        exact k _ _ H2 G2 δ2 S2 (st1.trans st2) (.str (sOk_join o1 rl.okStrs)) q3
    | _ => exact False.elim q1⟩
/-- 'a b c'.split(' '), both written -/
theorem de_splitW {a b : Str} {ws : List Str} {j1 j2 : Nat} {p1 p2 apos : Pos} (h : Txt.split a b = ws) (hok : ∀ w ∈ ws, sOk w) (hb : (b.length == 0) = false) (hl : a.length + 2 ≤ sizeLine)
    (hs : starEach [Expr.Constant (.str b) j2 p2] X.env = [(false, eval (Expr.Constant (.str b) j2 p2) X.env)] := by rfl) (hbase : attributeBase (Expr.Constant (.str a) j1 p1) "split" X.env (eval (Expr.Constant (.str a) j1 p1) X.env) = eval (Expr.Constant (.str a) j1 p1) X.env := by rfl) (hline : (apos.endLine == pos.line) = true := by rfl) :
    DO X e (.Call (.Attribute (.Constant (.str a) j1 p1) "split" apos) [.Constant (.str b) j2 p2] [] pos) (dC (.lst (ws.map D.str))) :=
  pe_imp (pe_split pe_str pe_str hs hbase hline) fun σ H Q ⟨T, G, δ, Qd, S, q, k⟩ => ⟨⟨a, rfl⟩, a, b, rfl, rfl, hb, hl, fun p hp => by
    rw [h]
    obtain ⟨S2, st2, nI, nB, new, ap⟩ := S.new (o := .lst (ws.map V.str)) hp
    exact k p (.lst (ws.map D.str)) _ G δ S2 st2 ⟨⟨_, upd_same, .ofStrs ws hok⟩, nI, nB, new⟩ ap q⟩
/-! ### l[::-1] -/
def revD : D → (D → Prop) → Prop
  | .lst ds, Q => Q (.lst ds.reverse)
  | _, _ => False
theorem do_rev {a : Expr} {A : Opn} {k : Nat} {p1 p2 p3 : Pos} (ha : OPN X e a A) : DO X e (.Subscript a (.Slice none none (some (.UnaryOp .USub (.Constant (.int 1) k p1) p2)) p3) pos) (dB1 revD A) := by
  have key : ∀ (T : Tm) (G : Gh) (H : Hp) (σ : St) (δ : DSt) (x : V) (a : D) (Qd : D → Prop) (Q : VK), SS X.K e T G H σ δ → RdO X.K G H x a → revD a Qd →
      (∀ l d H', SS X.K e T G H' σ δ → Step e G H G H' → Mine X.K e G H' l d → Apart σ δ T l → Qd d → Q (.ref l) H') → ∃ p ys, x = V.ref p ∧ SqL X.K H p ys ∧ ∀ l, H l = none → Q (.ref l) (upd H l (.lst ys.reverse)) := by
    intro T G H σ δ x a Qd Q S ra q k
    cases a with
    | lst ds =>
      obtain ⟨p, vs, rfl, hp, r⟩ := ra.lst S.ok
      refine ⟨p, vs, rfl, .inl (.inl hp), fun l hl => ?_⟩
      obtain ⟨S2, st2, nI, nB, new, ap⟩ := S.new (o := .lst vs.reverse) hl
      exact k l (.lst ds.reverse) _ S2 st2 ⟨⟨_, upd_same, r.reverse⟩, nI, nB, new⟩ ap q
    | _ => exact False.elim q
  cases A with
  | ex t =>
    refine pe_imp (pe_revL ha) fun σ H Q ⟨T, G, δ, Qd, S, q, k⟩ => ?_
    exact ⟨T, G, δ, _, S, q, fun v d H1 G1 δ1 S1 st1 rd q1 => key T G1 H1 σ δ1 v d _ Q S1 (.inl rd) q1 fun l d H' S' st' m ap qd => k l d H' G1 δ1 S' (st1.trans st') m ap qd⟩
  | sl i =>
    refine pe_imp (pe_revL ha) fun σ H Q ⟨T, G, δ, Qd, S, q, k⟩ => ?_
    have q : (match rdS δ i with | some d => revD d (fun z => Qd z δ) | none => False) := q
    cases hi : rdS δ i with
    | none => rw [hi] at q; exact q.elim
    | some d =>
      rw [hi] at q
      obtain ⟨v, hv, rd⟩ := rdS_ok S hi
      exact ⟨v, hv, key T G H σ δ v d _ Q S rd q fun l d H' S' st' m ap qd => k l d H' G δ S' st' m ap qd⟩
end
end T

namespace T
open PySem L2

section
variable {X : Cx} {e : Ent} {pos : Pos}
def Tm.app (T : Tm) (vs : List V) (ss : List Sl) : Tm := ⟨T.v ++ vs.map some, T.d ++ ss⟩
theorem Tm.app_app (T : Tm) (a b : List V) (c d : List Sl) : (T.app a c).app b d = T.app (a ++ b) (c ++ d) := by simp [Tm.app]
theorem ap_mid {α : Type} (σ tv rv : List α) (x : α) : (σ ++ (tv ++ x :: rv))[σ.length + tv.length]? = some x := by
  rw [List.getElem?_append_right (by omega)]
  have : σ.length + tv.length - σ.length = tv.length := by omega
  rw [this, List.getElem?_append_right (by omega), Nat.sub_self]; rfl
theorem ap_lo {α : Type} (σ tv w w' : List α) {j : Nat} (h : j < σ.length + tv.length) : (σ ++ (tv ++ w))[j]? = (σ ++ (tv ++ w'))[j]? := by
  have A : ∀ w : List α, (σ ++ (tv ++ w))[j]? = (σ ++ tv)[j]? := fun w => by
    rw [← List.append_assoc]
    exact List.getElem?_append_left (by simpa using h)
  rw [A w, A w']
theorem ap_hi {α : Type} (σ tv rv : List α) (x : α) {j : Nat} (h : ¬ j < σ.length + tv.length) : (σ ++ (tv ++ x :: rv))[j + 1]? = (σ ++ (tv ++ rv))[j]? := by
  have A : ∀ (w : List α) (n : Nat), (σ ++ (tv ++ w))[σ.length + tv.length + n]? = w[n]? := fun w n => by
    rw [← List.append_assoc, List.getElem?_append_right (by simp)]
    congr 1
    simp
  have e1 : j + 1 = σ.length + tv.length + ((j - σ.length - tv.length) + 1) := by omega
  have e2 : j = σ.length + tv.length + (j - σ.length - tv.length) := by omega
  rw [e1, A]
  conv => rhs; rw [e2]
  rw [A]; rfl
theorem ap_set {α : Type} (σ w : List α) (y : α) {i j : Nat} (h : j ≠ i) : (σ.set i y ++ w)[j]? = (σ ++ w)[j]? := by
  by_cases h3 : j < σ.length
  · rw [List.getElem?_append_left (by rw [List.length_set]; exact h3), List.getElem?_append_left h3, List.getElem?_set_ne (Ne.symm h)]
  · rw [List.getElem?_append_right (by rw [List.length_set]; omega), List.getElem?_append_right (by omega), List.length_set]
theorem ap_self {α : Type} (σ w : List α) (y : α) {i : Nat} (h : i < σ.length) : (σ.set i y ++ w)[i]? = some y := by
  rw [List.getElem?_append_left (by rw [List.length_set]; exact h), List.getElem?_set_self h]
/-- the first of what is held goes into a slot -/
theorem SS.take1 {K : PySem.W.Frag} {G : Gh} {H : Hp} {σ : St} {δ : DSt} {tv rv : St} {td rd : DSt} {v : V} {s : Sl} {i : Nat} (htl : tv.length = td.length) (S : SS K e ⟨tv ++ some v :: rv, td ++ s :: rd⟩ G H σ δ) : SS K e ⟨tv ++ rv, td ++ rd⟩ G H (σ.set i (some v)) (δ.set i s) := by
  have hln := S.ln
  have hlen := S.s.len
  simp only [List.length_append, List.length_cons] at hlen
  have hn : σ.length + tv.length = δ.length + td.length := by omega
  let π : Nat → Nat := fun j => if j = i ∧ i < δ.length then δ.length + td.length else if j < δ.length + td.length then j else j + 1
  have C : ∀ {α : Type} (a b c : List α) (x : α), a.length = δ.length → a.length + b.length = δ.length + td.length → ∀ j, ((a.set i x) ++ (b ++ c))[j]? = (a ++ (b ++ x :: c))[π j]? := fun a b c x h0 h j => by
    show _ = (a ++ (b ++ x :: c))[if j = i ∧ i < δ.length then δ.length + td.length else if j < δ.length + td.length then j else j + 1]?
    by_cases h1 : j = i ∧ i < δ.length
    · rw [if_pos h1, h1.1, ap_self a _ x (by omega), ← h, ap_mid]
    · rw [if_neg h1]
      have e0 : (a.set i x ++ (b ++ c))[j]? = (a ++ (b ++ c))[j]? := by
        by_cases h2 : j = i
        · rw [List.set_eq_of_length_le (by omega)]
        · exact ap_set _ _ _ h2
      rw [e0]
      by_cases h2 : j < δ.length + td.length
      · rw [if_pos h2]
        exact ap_lo _ _ _ _ (by omega)
      · rw [if_neg h2]
        exact (ap_hi _ _ _ _ (by omega)).symm
  have A := C σ tv rv (some v) hln.symm hn
  have B := C δ td rd s rfl rfl
  have inj : ∀ a b, π a = π b → a = b := fun a b h => by
    have h : (if a = i ∧ i < δ.length then δ.length + td.length else if a < δ.length + td.length then a else a + 1) = (if b = i ∧ i < δ.length then δ.length + td.length else if b < δ.length + td.length then b else b + 1) := h
    by_cases a1 : a = i ∧ i < δ.length
    · by_cases b1 : b = i ∧ i < δ.length
      · omega
      · rw [if_pos a1, if_neg b1] at h
        split at h <;> omega
    · by_cases b1 : b = i ∧ i < δ.length
      · rw [if_neg a1, if_pos b1] at h
        split at h <;> omega
      · rw [if_neg a1, if_neg b1] at h
        split at h <;> split at h <;> omega
  refine ⟨by rw [List.length_set, List.length_set]; exact S.ln, S.ok, S.stp, by simp only [List.length_append, List.length_set]; omega, fun j x q => ?_, fun a b da db l hab qa qb xa xb => ?_⟩
  · rw [A j]
    exact S.s.sl (π j) x (by rw [← B j]; exact q)
  · exact S.s.sep (π a) (π b) da db l (fun z => hab (inj a b z)) (by rw [← B a]; exact qa) (by rw [← B b]; exact qb) (by rw [← A a]; exact xa) (by rw [← A b]; exact xb)
theorem SS.tl {K : PySem.W.Frag} {T : Tm} {G : Gh} {H : Hp} {σ : St} {δ : DSt} (S : SS K e T G H σ δ) : T.v.length = T.d.length := by
  have h1 := S.ln
  have h2 := S.s.len
  simp only [List.length_append] at h2
  omega
def setS : List Nat → List V → St → St
  | i :: is, v :: vs, σ => setS is vs (σ.set i (some v))
  | _, _, σ => σ
def setD : List Nat → List Sl → DSt → DSt
  | i :: is, s :: ss, δ => setD is ss (δ.set i s)
  | _, _, δ => δ
theorem SS.takes {K : PySem.W.Frag} {T : Tm} {G : Gh} {H : Hp} (htl : T.v.length = T.d.length) : ∀ {is : List Nat} {vs : List V} {ss : List Sl} {σ : St} {δ : DSt}, is.length = vs.length → vs.length = ss.length → SS K e (T.app vs ss) G H σ δ → SS K e T G H (setS is vs σ) (setD is ss δ)
  | [], [], [], σ, δ, _, _, S => by simpa [Tm.app, setS, setD] using S
  | i :: is, v :: vs, s :: ss, σ, δ, h1, h2, S => by
    have S1 : SS K e ⟨T.v ++ some v :: vs.map some, T.d ++ s :: ss⟩ G H σ δ := by simpa [Tm.app] using S
    have S2 := S1.take1 (i := i) htl
    exact SS.takes (is := is) (vs := vs) (ss := ss) htl (by simpa using h1) (by simpa using h2) S2
theorem SS.holdI {K : PySem.W.Frag} {T : Tm} {G : Gh} {H : Hp} {σ : St} {δ : DSt} {v : V} {d : D} (S : SS K e T G H σ δ) (r : Rep K G v d) : SS K e (T.app [v] [.im d]) G H σ δ := by
  have e1 : δ ++ (T.app [v] [.im d]).d = (δ ++ T.d) ++ [.im d] := by simp [Tm.app]
  have e2 : σ ++ (T.app [v] [.im d]).v = (σ ++ T.v) ++ [some v] := by simp [Tm.app]
  refine ⟨S.ln, S.ok, S.stp, ?_, fun i s hs => ?_, fun i j di dj x hij hi hj qi qj => ?_⟩
  · rw [e1, e2]
    have := S.s.len
    simp only [List.length_append] at this ⊢
    simp; omega
  · rw [e1, getElem?_snoc] at hs
    rw [e2, getElem?_snoc]
    by_cases z : i = (δ ++ T.d).length
    · rw [if_pos z] at hs
      cases hs
      rw [if_pos (by rw [S.s.len]; exact z)]
      exact ⟨_, rfl, v, rfl, r⟩
    · rw [if_neg z] at hs
      rw [if_neg (by rw [S.s.len]; exact z)]
      exact S.s.sl i s hs
  · rw [e1, getElem?_snoc] at hi hj
    rw [e2, getElem?_snoc] at qi qj
    rw [S.s.len] at qi qj
    by_cases zi : i = (δ ++ T.d).length
    · rw [if_pos zi] at hi; cases hi
    · by_cases zj : j = (δ ++ T.d).length
      · rw [if_pos zj] at hj; cases hj
      · rw [if_neg zi] at hi qi
        rw [if_neg zj] at hj qj
        exact S.s.sep i j di dj x hij hi hj qi qj
def dEvs : List Ev → DSt → (List Sl → DSt → Prop) → Prop
  | [], δ, Q => Q [] δ
  | .im t :: r, δ, Q => t δ fun d δ1 => dEvs r δ1 fun ss δ2 => Q (.im d :: ss) δ2
  | .ow t :: r, δ, Q => t δ fun d δ1 => dEvs r δ1 fun ss δ2 => Q (.ow d :: ss) δ2
def liftE (K : PySem.W.Frag) (e : Ent) (n : Nat) (l : List Ev) : TA := fun σ H Q => ∃ (T : Tm) (G : Gh) (δ : DSt) (Qd : List Sl → DSt → Prop), SS K e T G H σ δ ∧ dEvs l δ Qd ∧
  ∀ vs ss H' G' δ', SS K e (T.app vs ss) G' H' σ δ' → Step e G H G' H' → vs.length = n → ss.length = n → Qd ss δ' → Q vs H'
theorem ea_nil : PA X [] (liftE X.K e 0 []) := pa_imp pa_nil fun σ H Q ⟨T, G, δ, Qd, S, q, k⟩ => k [] [] H G δ (by simpa [Tm.app] using S) Step.refl rfl rfl q
theorem ea_cons {a : Expr} {es : List Expr} {v : Ev} {l : List Ev} {n : Nat} (h : evPE X e a v) (hr : PA X es (liftE X.K e n l)) (hs : starEach (a :: es) X.env = (false, eval a X.env) :: starEach es X.env := by rfl) : PA X (a :: es) (liftE X.K e (n + 1) (v :: l)) := by
  cases v with
  | im t =>
    refine pa_imp (pa_cons h hr hs) fun σ H Q ⟨T, G, δ, Qd, S, q, k⟩ => ?_
    refine ⟨T, G, δ, _, S, q, fun v d H1 G1 δ1 S1 st1 r1 q1 => ⟨_, G1, δ1, _, S1.holdI r1, q1, fun vs ss H2 G2 δ2 S2 st2 h1 h2 q2 => ?_⟩⟩
    rw [Tm.app_app] at S2
    exact k (v :: vs) (.im d :: ss) H2 G2 δ2 S2 (st1.trans st2) (by simp [h1]) (by simp [h2]) q2
  | ow t =>
    refine pa_imp (pa_cons h hr hs) fun σ H Q ⟨T, G, δ, Qd, S, q, k⟩ => ?_
    refine ⟨T, G, δ, _, S, q, fun l d H1 G1 δ1 S1 st1 m1 ap1 q1 => ⟨_, G1, δ1, _, S1.hold m1 ap1, q1, fun vs ss H2 G2 δ2 S2 st2 h1 h2 q2 => ?_⟩⟩
    have e1 : T.push l d = T.app [.ref l] [.ow d] := by simp [Tm.push, Tm.app]
    rw [e1, Tm.app_app] at S2
    exact k (.ref l :: vs) (.ow d :: ss) H2 G2 δ2 S2 (st1.trans st2) (by simp [h1]) (by simp [h2]) q2
def dPars (l : List Ev) (is : List Nat) : TDS := fun F δ => dEvs l δ fun ss δ1 => F.nx (setD is ss δ1)
/-- names = a tuple display, the stores swapped (no tuple is made) -/
theorem ds_par2 {i j : Nat} {x y : Str} {a b : Expr} {A B : Ev} {px py pt : Pos} {kt k2 pt2} (hc : X.calm = true) (hN : X.N.Nodup) (hi : X.N[i]? = some x) (hj : X.N[j]? = some y) (hij : i ≠ j)
    (hx : X.env.scope.names.lookup x = some .local) (hy : X.env.scope.names.lookup y = some .local) (ha : PA X [a, b] (liftE X.K e 2 [A, B]))
    (hw : swappedStores [.Tuple [.Name x px, .Name y py] kt pt] (.Tuple [a, b] k2 pt2) X.env = pure (some [x, y]))
    (hs : swapsWithSole [.Tuple [.Name x px, .Name y py] kt pt] (.Tuple [a, b] k2 pt2) pos.line X.env = pure false := by rfl) :
    DS X e (.Assign [.Tuple [.Name x px, .Name y py] kt pt] (.Tuple [a, b] k2 pt2) pos) (dPars [A, B] [i, j]) :=
  ps_imp (ps_par hc hN hi hj hij hx hy ha hw hs) fun E σ H ⟨T, G, δ, F, S, q, n, r, b, c⟩ => ⟨T, G, δ, _, S, q, fun vs ss H' G' δ' S' st h1 h2 q' => by
    match vs, ss, h1, h2 with
    | [v, w], [s1, s2], _, _ => exact ⟨v, w, rfl, n _ _ G' H' st.le (S'.takes (is := [i, j]) S.tl rfl rfl) q'⟩⟩
/-- .. a tuple is made and taken apart -/
inductive Nms (X : Cx) : List Expr → List Nat → TGs → Prop
  | nil : Nms X [] [] gNil
  | cons {x : Str} {p : Pos} {i : Nat} {es : List Expr} {is : List Nat} {t : TGs} (h : PG X (.Name x p) (gName i)) (r : Nms X es is t) : Nms X (.Name x p :: es) (i :: is) (gCons (gName i) t)
theorem nms_run : ∀ {es : List Expr} {is : List Nat} {t : TGs}, Nms X es is t → ∀ (vs : List V) (σ : St) (H : Hp) (Q : St → Hp → Prop), vs.length = is.length → Q (setS is vs σ) H → t vs σ H Q
  | _, _, _, .nil, [], σ, H, Q, _, q => ⟨rfl, q⟩
  | _, _, _, .cons h r, v :: vs, σ, H, Q, hl, q => ⟨v, vs, rfl, nms_run r vs _ H Q (by simpa using hl) q⟩
theorem nms_pgs : ∀ {es : List Expr} {is : List Nat} {t : TGs}, Nms X es is t → PGs X es t
  | _, _, _, .nil => pgs_nil
  | _, _, _, .cons h r => pgs_cons h (nms_pgs r)
theorem ds_parT {tgs es : List Expr} {is : List Nat} {t : TGs} {l : List Ev} {kt k2 : Nat} {pt pt2 : Pos} {n : Nat} (hc : X.calm = true) (hn : Nms X tgs is t) (ha : PA X es (liftE X.K e n l)) (hnl : is.length = n) (hz : n ≤ 1000)
    (hn1 : (assignEach tgs X.env).length = n := by rfl) (hst : (assignEach tgs X.env).findIdx? (·.1) = none := by rfl)
    (hs : swapsWithSole [.Tuple tgs kt pt] (.Tuple es k2 pt2) pos.line X.env = pure false := by rfl) (hw : swappedStores [.Tuple tgs kt pt] (.Tuple es k2 pt2) X.env = pure none := by rfl)
    (h1 : (assignEach [Expr.Tuple tgs kt pt] X.env).map (·.2) = [assign (Expr.Tuple tgs kt pt) X.env] := by rfl) : DS X e (.Assign [.Tuple tgs kt pt] (.Tuple es k2 pt2) pos) (dPars l is) :=
  ps_imp (ps_asg (pe_tup ha) (pg_tup hc (nms_pgs hn) hn1 hst) hs hw h1) fun E σ H ⟨T, G, δ, F, S, q, nx, r, b, c⟩ => by
    refine ⟨T, G, δ, _, S, q, fun vs ss H' G' δ' S' st h1 h2 q' => ⟨by rw [h1]; exact le_line hz, fun p hp => ⟨p, vs, rfl, .inl (.inl upd_same), h1, nms_run hn vs σ _ _ (by rw [h1, hnl]) ?_⟩⟩⟩
    obtain ⟨S2, st2, _⟩ := S'.new (o := .tup vs) hp
    exact nx _ _ G' _ st.le (S2.takes (is := is) S.tl (by rw [hnl, h1]) (by rw [h1, h2])) q'
end
end T

namespace T
open PySem L2

section
variable {X : Cx} {e : Ent} {pos : Pos}
theorem GOk.ag {G : Gh} {H : Hp} (k : GOk G H) {a g : Addr} (h : G.B a = some g) : a ≠ g := (k.sep a g a g h h).1
/-- a box that stands has changed -/
theorem SS.boxUpd {K : PySem.W.Frag} {T : Tm} {G : Gh} {H H' : Hp} {σ : St} {δ : DSt} {a g : Addr} (S : SS K e T G H σ δ) (hb : G.B a = some g) (ho : ∀ x, x ≠ a → x ≠ g → H' x = H x) (hn : BoxAt H' a g) : SS K e T G H' σ δ ∧ Step e G H G H' := by
  have fa : foot G a := .inl ⟨g, hb⟩
  have fg : foot G g := .inr ⟨a, hb⟩
  have inE : ∀ x, foot G x → (e.H x).isSome = true → foot e.G x := fun x f s => Classical.byContradiction fun n => S.stp.noB x s n f
  have st : Step e G H G H' := ⟨Le.refl _, fun x s n => ho x (fun z => n (inE x (z ▸ fa) s)) (fun z => n (inE x (z ▸ fg) s)), fun _ _ h => h, fun _ _ h => h, fun x s h => by
    by_cases h1 : x = a
    · subst h1; obtain ⟨_, _, _, _, q, _⟩ := hn.at_; rw [q]; rfl
    · by_cases h2 : x = g
      · subst h2; obtain ⟨_, _, _, _, _, q, _⟩ := hn.at_; rw [q]; rfl
      · rw [ho x h1 h2]; exact h⟩
  have ok : GOk G H' := by
    refine ⟨fun x o q => ?_, fun a' g' h => ?_, S.ok.sep⟩
    · have := (S.ok.box a g hb).2
      rw [ho x (fun z => by subst z; rw [this.1] at q; cases q) (fun z => by subst z; rw [this.2] at q; cases q)]
      exact S.ok.sub x o q
    · refine ⟨?_, (S.ok.box a' g' h).2⟩
      by_cases z : a' = a
      · subst z
        rw [h] at hb; cases hb
        exact hn
      · have s1 := S.ok.sep a g a' g' hb h
        have s2 := S.ok.sep a' g' a g h hb
        exact (S.ok.box a' g' h).1.keep (ho a' z s2.1) (ho g' (Ne.symm s1.1) (fun y => z (s2.2 y)))
  refine ⟨⟨S.ln, ok, S.stp.trans st, S.s.len, fun i s hs => ?_, S.s.sep⟩, st⟩
  obtain ⟨o, h1, h2⟩ := S.s.sl i s hs
  refine ⟨o, h1, ?_⟩
  cases s with
  | no => exact h2
  | im d => exact h2
  | ow d =>
    obtain ⟨l, rfl, m⟩ := h2
    exact ⟨l, rfl, m.own.mono (Le.refl _) (ho l (fun z => m.nB (z ▸ fa)) (fun z => m.nB (z ▸ fg))), m.nI, m.nB, m.new⟩
theorem RdO.box {K : PySem.W.Frag} {G : Gh} {H : Hp} {v : V} {a : Addr} (r : RdO K G H v (.box a)) : v = .ref a ∧ ∃ g, G.B a = some g := by
  rcases r with r | ⟨l, rfl, r⟩
  · cases r with | box h => exact ⟨rfl, _, h⟩
  · exact r.elim
/-- what a box holds -/
def boxK : List Str := ["now", "seed", "turn"]
def ixB : D → D → (D → Prop) → Prop
  | .box _, .str s, Q => s ∈ boxK ∧ ∀ n : Int, 0 ≤ n → Q (.int n)
  | _, _, _ => False
theorem valBox {g : Addr} {n s t : Int} : valV (boxKv g n s t) (.inr "great") = some (.ref g) ∧ valV (boxKv g n s t) (.inr "now") = some (.int n) ∧ valV (boxKv g n s t) (.inr "seed") = some (.int s) ∧ valV (boxKv g n s t) (.inr "turn") = some (.int t) :=
  ⟨rfl, rfl, rfl, rfl⟩
theorem opd_ixB {k0 : Nat} (hr : Room k0 X.A) : OpD X e (WIx X) ixB := by
  intro T G H σ δ x y a b Qd Q S ra rb q k
  cases a with
  | box a =>
    cases b with
    | str s =>
      obtain ⟨rfl, g, hb⟩ := ra.box
      obtain ⟨e2, _⟩ := rb.str
      subst e2
      obtain ⟨gs, n, sd, t, h1, h2, h3, h4, h5, h6, h7⟩ := (S.ok.box a g hb).1.at_
      have v := valBox (g := g) (n := n) (s := sd) (t := t)
      have q1 : s = "now" ∨ s = "seed" ∨ s = "turn" := by simpa [boxK] using q.1
      rcases q1 with rfl | rfl | rfl
      · exact wix_of (ix_dict (hu_of hr)) ⟨a, .int n, rfl, .inl ⟨_, .inr "now", .inl h1, rfl, v.2.1.symm⟩, k _ _ H G S Step.refl (.int n) (q.2 n h4)⟩
      · exact wix_of (ix_dict (hu_of hr)) ⟨a, .int sd, rfl, .inl ⟨_, .inr "seed", .inl h1, rfl, v.2.2.1.symm⟩, k _ _ H G S Step.refl (.int sd) (q.2 sd h5)⟩
      · exact wix_of (ix_dict (hu_of hr)) ⟨a, .int t, rfl, .inl ⟨_, .inr "turn", .inl h1, rfl, v.2.2.2.symm⟩, k _ _ H G S Step.refl (.int t) (q.2 t h6)⟩
    | _ => exact False.elim q
  | _ => exact False.elim q
theorem de_ixB {a b : Expr} {A B : Opn} {k0 : Nat} (hr : Room k0 X.A) (ha : OPN X e a A) (hb : OPN X e b B) (hs : PlainIx b := by exact fun _ _ => rfl) : DE X e (.Subscript a b pos) (dBin ixB A B) :=
  two_ok ha hb (f := fun ta tb => tOp (WIx X) ta tb) (fun ta tb h1 h2 => pe_ix wix_self h1 h2 hs) (fun _ _ _ _ _ => rfl) (opd_ixB hr)
theorem putBox {g : Addr} {a b c n : Int} : putK (boxKv g a b c) (.inr "now") (.int n) = boxKv g n b c ∧ putK (boxKv g a b c) (.inr "seed") (.int n) = boxKv g a n c ∧ putK (boxKv g a b c) (.inr "turn") (.int n) = boxKv g a b n :=
  ⟨rfl, rfl, rfl⟩
def dgBox (i : Nat) (key : Str) : TDG := fun d δ Q => match rdS δ i with | some (.box _) => (match d with | .int n => 0 ≤ n ∧ Q δ | _ => False) | _ => False
theorem dg_box {o : Expr} {i j k0 : Nat} {key : Str} {p2 : Pos} (hr : Room k0 X.A) (ho : PE X o (tVar i)) (hk : key ∈ boxK)
    (ha : ∀ v, assign (.Subscript o (.Constant (.str key) j p2) pos) X.env v = (do
      let ov ← holding [v] (eval o X.env)
      let iv ← holding [v, ov] (eval (.Constant (.str key) j p2) X.env)
      standAt pos
      holding [v, ov, iv] (setItem ov iv v)
      release [v, ov, iv] []) := by intro _; rfl) : DG X e (.Subscript o (.Constant (.str key) j p2) pos) [] (dgBox i key) :=
  pg_imp (pg_sub ho pe_str (set_dict (hu_of hr)) ha) fun v σ H Q ⟨T, G, δ, d, Qd, S, r, q, k⟩ => by
    unfold dgBox at q
    cases hi : rdS δ i with
    | none => rw [hi] at q; exact q.elim
    | some d0 =>
      rw [hi] at q
      cases d0 with
      | box a =>
        cases d with
        | int n =>
          obtain ⟨w, hw, rw'⟩ := rdS_ok S hi
          obtain ⟨rfl, g, hb⟩ := rw'.box
          have hv := r.intI
          subst hv
          obtain ⟨gs, nw, sd, t, h1, h2, h3, h4, h5, h6, h7⟩ := (S.ok.box a g hb).1.at_
          have hag := S.ok.ag hb
          have pb := putBox (g := g) (a := nw) (b := sd) (c := t) (n := n)
          have fin : ∀ kvs', BoxAt (L2.upd H a (.dK kvs')) a g → putK (boxKv g nw sd t) (.inr key) (.int n) = kvs' → gSub (tVar i) (tC (.str key)) rSetD (.int n) σ H Q := fun kvs' hB hp => by
            obtain ⟨S2, st2⟩ := S.boxUpd hb (H' := L2.upd H a (.dK kvs')) (fun x hx _ => upd_ne hx) hB
            refine ⟨_, hw, a, _, rfl, .inl ⟨_, .inr key, h1, rfl, by show (4 : Nat) < _; rw [sizeLine_eq]; decide, rfl⟩, ?_⟩
            rw [hp]
            exact k σ δ G _ S2 st2 Only1.refl q.2
          have q1 : key = "now" ∨ key = "seed" ∨ key = "turn" := by simpa [boxK] using hk
          rcases q1 with rfl | rfl | rfl
          · exact fin _ ⟨gs, n, sd, t, upd_same, by rw [upd_ne (Ne.symm hag)]; exact h2, h3, q.1, h5, h6, h7⟩ pb.1
          · exact fin _ ⟨gs, nw, n, t, upd_same, by rw [upd_ne (Ne.symm hag)]; exact h2, h3, h4, q.1, h6, h7⟩ pb.2.1
          · exact fin _ ⟨gs, nw, sd, n, upd_same, by rw [upd_ne (Ne.symm hag)]; exact h2, h3, h4, h5, q.1, h7⟩ pb.2.2
        | _ => exact q.elim
      | _ => exact q.elim
def dGreat (i : Nat) : TDS := fun F δ => match rdS δ i with | some (.box _) => F.nx δ | _ => False
/-- if box['now'] == 0 and len(box['great']) > 0: box['now'] = box['great'].pop() -/
theorem ds_great {o1 o2 o3 o4 : Expr} {i k0 j1 j2 j3 j4 j5 j6 : Nat} {p1 p2 p3 p4 p5 p6 p7 p8 p9 pa pb pc pd pe pf ph : Pos} (hr : Room k0 X.A) (h1 : PE X o1 (tVar i)) (h2 : PE X o2 (tVar i)) (h3 : PE X o3 (tVar i)) (h4 : PE X o4 (tVar i))
    (hg : Gl X "len") (hm : X.mg "len" = none)
    (hs : starEach [Expr.Subscript o2 (.Constant (.str "great") j3 p5) p6] X.env = (false, eval (.Subscript o2 (.Constant (.str "great") j3 p5) p6) X.env) :: starEach [] X.env := by rfl)
    (hbase : attributeBase (.Subscript o4 (.Constant (.str "great") j6 pc) pd) "pop" X.env (eval (.Subscript o4 (.Constant (.str "great") j6 pc) pd) X.env) = eval (.Subscript o4 (.Constant (.str "great") j6 pc) pd) X.env := by rfl)
    (hline : (pe.endLine == pf.line) = true := by rfl)
    (ha : ∀ v, assign (.Subscript o3 (.Constant (.str "now") j5 pa) pb) X.env v = (do
      let ov ← holding [v] (eval o3 X.env)
      let iv ← holding [v, ov] (eval (.Constant (.str "now") j5 pa) X.env)
      standAt pb
      holding [v, ov, iv] (setItem ov iv v)
      release [v, ov, iv] []) := by intro _; rfl)
    (hs2 : swapsWithSole [.Subscript o3 (.Constant (.str "now") j5 pa) pb] (.Call (.Attribute (.Subscript o4 (.Constant (.str "great") j6 pc) pd) "pop" pe) [] [] pf) ph.line X.env = pure false := by rfl)
    (hw : swappedStores [.Subscript o3 (.Constant (.str "now") j5 pa) pb] (.Call (.Attribute (.Subscript o4 (.Constant (.str "great") j6 pc) pd) "pop" pe) [] [] pf) X.env = pure none := by rfl)
    (hx1 : (assignEach [.Subscript o3 (.Constant (.str "now") j5 pa) pb] X.env).map (·.2) = [assign (.Subscript o3 (.Constant (.str "now") j5 pa) pb) X.env] := by rfl) :
    DS X e (.If (.BoolOp .And [.Compare (.Subscript o1 (.Constant (.str "now") j1 p1) p2) [.Eq] [.Constant (.int 0) j2 p3] p4,
      .Compare (.Call (.Name "len" p7) [.Subscript o2 (.Constant (.str "great") j3 p5) p6] [] p8) [.Gt] [.Constant (.int 0) j4 p9] p4'] p9')
      [.Assign [.Subscript o3 (.Constant (.str "now") j5 pa) pb] (.Call (.Attribute (.Subscript o4 (.Constant (.str "great") j6 pc) pd) "pop" pe) [] [] pf) ph] [] pos)
      (dGreat i) := by
  have e1 := pe_ix (pos := p2) (ix_dict (hu_of hr)) h1 (pe_str (x := "now") (j := j1) (pos := p1)) (fun _ _ => rfl)
  have e2 := pe_ix (pos := p6) (ix_dict (hu_of hr)) h2 (pe_str (x := "great") (j := j3) (pos := p5)) (fun _ _ => rfl)
  have e4 := pe_ix (pos := pd) (ix_dict (hu_of hr)) h4 (pe_str (x := "great") (j := j6) (pos := pc)) (fun _ _ => rfl)
  have c1 := pt_cmpR (pos := p4) op_eq e1 (pe_int (i := 0) (j := j2) (pos := p3)) rfl
  have l2 := pe_callB (p := p7) (pos := p8) call_len hg hm PySem.boot_len (pa_cons e2 pa_nil hs) (by decide) (by decide) hs rfl
  have c2 := pt_cmpR (pos := p4') op_gt l2 (pe_int (i := 0) (j := j4) (pos := p9)) rfl
  have cc := (pw_and (pos := p9') c1 (pw_and1 c2)).pt
  have po := pe_bm0 (apos := pe) (cpos := pf) PySem.F.plainAttrs_list PySem.F.slot_list_pop PySem.F.type_list_pop mt_pop e4 hbase hline
  have as := ps_asg (pos := ph) po (pg_sub h3 (pe_str (x := "now") (j := j5) (pos := pa)) (set_dict (hu_of hr)) ha) hs2 hw hx1
  refine ps_imp (ps_if (pos := pos) cc (pss_one as) pss_nil) fun E σ H ⟨T, G, δ, F, S, q, n, r, b, c⟩ => ?_
  unfold dGreat at q
  cases hi : rdS δ i with
  | none => rw [hi] at q; exact q.elim
  | some d0 =>
    rw [hi] at q
    cases d0 with
    | box a =>
      obtain ⟨w, hw, rw'⟩ := rdS_ok S hi
      obtain ⟨rfl, g, hb⟩ := rw'.box
      obtain ⟨gs, nw, sd, t, k1, k2, k3, k4, k5, k6, k7⟩ := (S.ok.box a g hb).1.at_
      have hag := S.ok.ag hb
      have v := valBox (g := g) (n := nw) (s := sd) (t := t)
      have done : E.nx σ H := n σ δ G H (Le.refl _) S q
      refine ⟨_, hw, a, .int nw, rfl, .inl ⟨_, .inr "now", .inl k1, rfl, v.2.1.symm⟩, rfl, _, rfl, ?_⟩
      show if _ = true then _ else _
      split
      · refine ⟨_, hw, a, .ref g, rfl, .inl ⟨_, .inr "great", .inl k1, rfl, v.1.symm⟩, .ref g, gs.length, rfl, .inl ⟨_, .inl (.inl k2), by simp⟩, _, _, rfl, rfl, _, rfl, ?_⟩
        show if _ = true then _ else _
        split
        · rename_i _ hpos
          have hpos : 0 < gs.length := by simpa using hpos
          have hne : gs ≠ [] := by intro z; subst z; simp at hpos
          have hlast : (gs.map V.int)[(gs.map V.int).length - 1]? = some (.int (gs.getLast hne)) := by
            rw [List.length_map, List.getElem?_map, ← List.getLast?_eq_getElem?, List.getLast?_eq_some_getLast hne]; rfl
          have pb := putBox (g := g) (a := nw) (b := sd) (c := t) (n := gs.getLast hne)
          refine ⟨_, hw, a, .ref g, rfl, .inl ⟨_, .inr "great", .inl k1, rfl, v.1.symm⟩, .inl ⟨rfl, _, .inl (.inl k2)⟩, g, _, _, rfl, rfl, k2, hlast, ?_⟩
          refine ⟨_, hw, a, _, rfl, .inl ⟨_, .inr "now", by rw [upd_ne hag]; exact k1, rfl, by show (4 : Nat) < _; rw [sizeLine_eq]; decide, rfl⟩, ?_⟩
          rw [pb.1]
          obtain ⟨S2, st2⟩ := S.boxUpd hb (H' := L2.upd (L2.upd H g (.lst (gs.map V.int).dropLast)) a (.dK (boxKv g (gs.getLast hne) sd t))) (fun x h1 h2 => by rw [upd_ne h1, upd_ne h2])
            ⟨gs.dropLast, _, sd, t, upd_same, by rw [upd_ne (Ne.symm hag), upd_same, List.map_dropLast], fun x hx => k3 x (List.dropLast_subset _ hx), k3 _ (List.getLast_mem hne), k5, k6, by rw [List.length_dropLast]; omega⟩
          exact n σ δ G _ (Le.refl _) S2 q
        · exact done
      · exact done
    | _ => exact q.elim
/-- a new box -/
def Gh.bx (G : Gh) (p l : Addr) : Gh := { G with B := fun x => if x = p then some l else G.B x }
theorem foot_bx {G : Gh} {p l x : Addr} (h : foot (G.bx p l) x) : x = p ∨ x = l ∨ foot G x := by
  rcases h with ⟨g, h⟩ | ⟨a, h⟩
  · by_cases z : x = p
    · exact .inl z
    · have h : (if x = p then some l else G.B x) = some g := h
      rw [if_neg z] at h
      exact .inr (.inr (.inl ⟨g, h⟩))
  · have h : (if a = p then some l else G.B a) = some x := h
    by_cases z : a = p
    · rw [if_pos z] at h; cases h; exact .inr (.inl rfl)
    · rw [if_neg z] at h
      exact .inr (.inr (.inr ⟨a, h⟩))
theorem SS.newBox {K : PySem.W.Frag} {T : Tm} {G : Gh} {H : Hp} {σ : St} {δ : DSt} {p l : Addr} {dp : D} {gs : List Int} {s : Int} (S : SS K e T G H σ δ) (mp : Mine K e G H p dp) (ap : Apart σ δ T p) (ml : Mine K e G H l (.lst (gs.map D.int))) (al : Apart σ δ T l) (hpl : p ≠ l)
    (h0 : ∀ x ∈ gs, 0 ≤ x) (h5 : gs.length ≤ 50) (hs : 0 ≤ s) : SS K e T (G.bx p l) (L2.upd H p (.dK (boxKv l 0 s 0))) σ δ ∧ Step e G H (G.bx p l) (L2.upd H p (.dK (boxKv l 0 s 0))) := by
  have bB : ∀ a g, (G.bx p l).B a = some g → (a = p ∧ g = l) ∨ (a ≠ p ∧ g ≠ p ∧ a ≠ l ∧ g ≠ l ∧ G.B a = some g) := fun a g h => by
    have h : (if a = p then some l else G.B a) = some g := h
    by_cases z : a = p
    · rw [if_pos z] at h; cases h; exact .inl ⟨z, rfl⟩
    · rw [if_neg z] at h
      exact .inr ⟨z, fun y => mp.nB (y ▸ .inr ⟨a, h⟩), fun y => ml.nB (y ▸ .inl ⟨g, h⟩), fun y => ml.nB (y ▸ .inr ⟨a, h⟩), h⟩
  have le : Le G (G.bx p l) := ⟨Same.refl _, fun a g h => by
    show (if a = p then some l else G.B a) = some g
    have z : a ≠ p := fun z => by subst z; exact mp.nB (.inl ⟨g, h⟩)
    rw [if_neg z]
    exact h⟩
  obtain ⟨vs, hl, rl⟩ := ml.own
  have hl : H l = some (.lst (gs.map V.int)) := by rw [hl, rl.ints]
  have hBox : BoxAt (L2.upd H p (.dK (boxKv l 0 s 0))) p l := ⟨gs, 0, s, 0, upd_same, by rw [upd_ne (Ne.symm hpl)]; exact hl, h0, Int.le_refl _, hs, Int.le_refl _, h5⟩
  have ok : GOk (G.bx p l) (L2.upd H p (.dK (boxKv l 0 s 0))) := by
    refine ⟨fun x o q => ?_, fun a g h => ?_, fun a g a' g' h h' => ?_⟩
    · have q : G.I x = some o := q
      have z : x ≠ p := fun z => by rw [z, mp.nI] at q; cases q
      rw [upd_ne z]
      exact S.ok.sub x o q
    · rcases bB a g h with ⟨rfl, rfl⟩ | ⟨n1, n2, n3, n4, h⟩
      · exact ⟨hBox, mp.nI, ml.nI⟩
      · exact ⟨(S.ok.box a g h).1.keep (upd_ne n1) (upd_ne n2), (S.ok.box a g h).2⟩
    · rcases bB a g h with ⟨rfl, rfl⟩ | ⟨n1, n2, n3, n4, h⟩
      · rcases bB a' g' h' with ⟨rfl, rfl⟩ | ⟨m1, m2, m3, m4, h'⟩
        · exact ⟨hpl, fun _ => rfl⟩
        · exact ⟨Ne.symm m2, fun z => absurd z.symm m4⟩
      · rcases bB a' g' h' with ⟨rfl, rfl⟩ | ⟨m1, m2, m3, m4, h'⟩
        · exact ⟨n3, fun z => absurd z n4⟩
        · exact S.ok.sep a g a' g' h h'
  have st : Step e G H (G.bx p l) (L2.upd H p (.dK (boxKv l 0 s 0))) := by
    have z : ∀ x, (e.H x).isSome = true → x ≠ p := fun x h z => by rw [z, mp.new] at h; cases h
    refine ⟨le, fun x h _ => upd_ne (z x h), fun _ _ h => h, fun x h n f => ?_, fun x h q => by rw [upd_ne (z x h)]; exact q⟩
    rcases foot_bx f with y | y | f
    · exact z x h y
    · rw [y, ml.new] at h; cases h
    · exact n f
  refine ⟨⟨S.ln, ok, S.stp.trans st, S.s.len, fun i s' hs' => ?_, S.s.sep⟩, st⟩
  obtain ⟨o, h1, h2⟩ := S.s.sl i s' hs'
  refine ⟨o, h1, ?_⟩
  cases s' with
  | no => exact h2
  | im d => obtain ⟨v, rfl, r⟩ := h2; exact ⟨v, rfl, r.mono le⟩
  | ow d =>
    obtain ⟨m, rfl, mm⟩ := h2
    have n1 : m ≠ p := fun z => ap i d hs' (z ▸ h1)
    have n2 : m ≠ l := fun z => al i d hs' (z ▸ h1)
    refine ⟨m, rfl, mm.own.mono le (upd_ne n1), mm.nI, fun f => ?_, mm.new⟩
    rcases foot_bx f with z | z | f
    · exact n1 z
    · exact n2 z
    · exact mm.nB f
def dBoxNew (tg ts : TDE) : TDE := fun δ Q => tg δ fun d δ1 => ∃ gs : List Int, d = .lst (gs.map D.int) ∧ (∀ x ∈ gs, 0 ≤ x) ∧ gs.length ≤ 50 ∧ ts δ1 fun d2 δ2 => ∃ s : Int, d2 = .int s ∧ 0 ≤ s ∧ ∀ a, Q (.box a) δ2
theorem de_boxNew {eg es : Expr} {tg ts : TDE} {j1 j2 j3 j4 j5 j6 : Nat} {p1 p2 p3 p4 p5 p6 : Pos} (hg : DO X e eg tg) (hs : DE X e es ts) :
    DE X e (.Dict [some (.Constant (.str "great") j1 p1), some (.Constant (.str "now") j2 p2), some (.Constant (.str "seed") j3 p3), some (.Constant (.str "turn") j4 p4)] [eg, .Constant (.int 0) j5 p5, es, .Constant (.int 0) j6 p6] pos) (dBoxNew tg ts) :=
  pe_imp (pe_disp (pps_cons pe_str hg (pps_cons pe_str pe_int (pps_cons pe_str hs (pps_cons pe_str pe_int pps_nil)))) rfl rfl (by simp) (show (4 : Nat) ≤ 15 by decide)) fun σ H Q ⟨T, G, δ, Qd, S, q, k⟩ => by
    intro p hp
    obtain ⟨S1, st1, nI, nB, new, ap⟩ := S.new (o := .dK []) hp
    have S1' := S1.hold (l := p) (d := .dct []) ⟨⟨[], upd_same, rfl, .nil, fun _ h => nomatch h⟩, nI, nB, new⟩ ap
    refine ⟨T.push p (.dct []), G, δ, _, S1', q, fun l d H2 G2 δ2 S2 st2 m2 ap2 q2 => ?_⟩
    obtain ⟨gs, rfl, g0, g5, q2⟩ := q2
    have S2' := S2.hold m2 ap2
    refine ⟨(T.push p (.dct [])).push l _, G2, δ2, _, S2', q2, fun v d2 H3 G3 δ3 S3 st3 r3 q3 => ?_⟩
    obtain ⟨s, rfl, s0, q3⟩ := q3
    have hv := r3.intI
    subst hv
    obtain ⟨S4, ml, al⟩ := S3.drop
    obtain ⟨S5, mp, ap5⟩ := S4.drop
    have hpl : p ≠ l := fun z => by
      have := al (δ3.length + T.d.length) (.dct []) (by simp [Tm.push]) 
      apply this
      have hln := S4.s.len
      have hl3 := S4.ln
      subst z
      have e1 : σ.length + T.v.length = δ3.length + T.d.length := by simp [Tm.push] at hln; omega
      rw [← e1]
      simp [Tm.push]
    have al5 : Apart σ δ3 T l := fun i d hi => by
      have hlt := lt_of_get hi
      have := al i d (by show (δ3 ++ (T.d ++ [_]))[i]? = _; rw [← List.append_assoc, get_l hlt]; exact hi)
      intro z
      apply this
      show (σ ++ (T.v ++ [_]))[i]? = _
      rw [← List.append_assoc, get_l (lt_of_get z)]
      exact z
    obtain ⟨kvs, hk, ek, _⟩ := mp.own
    have : kvs = [] := by simpa using ek
    subst this
    obtain ⟨S6, st6⟩ := S5.newBox mp ap5 ml al5 hpl g0 g5 s0
    refine ⟨hk, boxKv l 0 s 0, rfl, by show (4 : Nat) ≤ 15; decide, ?_⟩
    exact k _ (.box p) _ _ δ3 S6 (((st1.trans st2).trans st3).trans st6) (.box (g := l) (by show (if p = p then some l else _) = _; rw [if_pos rfl])) (q3 p)
end
end T

namespace T
open PySem L2

section
variable {X : Cx} {e : Ent} {pos : Pos}
def tyN : D → Option String
  | .non => some "NoneType"
  | .bl _ => some "bool"
  | .int _ => some "int"
  | .str _ => some "str"
  | .tup _ => some "tuple"
  | .lst _ => some "list"
  | .dct _ => some "dict"
  | .dtp _ => some "dict"
  | _ => none
theorem tyN_ok {K : PySem.W.Frag} {G : Gh} {H : Hp} {v : V} {d : D} {n : String} (ok : GOk G H) (r : Rep K G v d) (h : tyN d = some n) : TyX K H v (.type n) := by
  cases r with
  | non => cases h; exact .base .non
  | bl b => cases h; exact .base (.bl b)
  | int i => cases h; exact .base (.int i)
  | str q => cases h; exact .base (.str _)
  | tup q _ => cases h; exact .base (.tup (ok.sub _ _ q))
  | lst q _ => cases h; exact .base (.lst (ok.sub _ _ q))
  | dct q _ _ _ => cases h; exact .base (.dK (ok.sub _ _ q))
  | dtp q _ _ _ => cases h; exact .base (.dT (ok.sub _ _ q))
  | _ => cases h
def isiD : D → D → (D → Prop) → Prop
  | a, .ty n, Q => (match tyN a with | some t => (match kitB t n with | some b => Q (.bl b) | none => False) | none => False)
  | _, _, _ => False
theorem isiD_inv {a b : D} {Q : D → Prop} (h : isiD a b Q) : ∃ n t c, b = .ty n ∧ tyN a = some t ∧ kitB t n = some c ∧ Q (.bl c) := by
  cases b with
  | ty n =>
    cases ht : tyN a with
    | none => simp only [isiD, ht] at h
    | some t =>
      cases hc : kitB t n with
      | none => simp only [isiD, ht, hc] at h
      | some c => simp only [isiD, ht, hc] at h; exact ⟨n, t, c, rfl, rfl, hc, h⟩
  | _ => exact h.elim
theorem Rep.tyI {K : PySem.W.Frag} {G : Gh} {v : V} {n : String} (r : Rep K G v (.ty n)) : v = .ty n := by cases r; rfl
theorem de_isi {a b : Expr} {t u : TDE} {p : Pos} (ha : DE X e a t) (hb : DE X e b u) (hg : Gl X "isinstance") (hm : X.mg "isinstance" = none) (hs : starEach (a :: [b]) X.env = (false, eval a X.env) :: starEach [b] X.env := by rfl) (hs2 : starEach (b :: []) X.env = (false, eval b X.env) :: starEach [] X.env := by rfl) (hpl : (backTo pos (starEach [b] X.env)).any (·.1) = false := by rfl) :
    DE X e (.Call (.Name "isinstance" p) [a, b] [] pos) (dB2 isiD t u) :=
  pe_imp (pe_callB call_isi hg hm (by decide +kernel) (pa_cons ha (pa_cons hb pa_nil hs2) hs) (he := hs) (hpl := hpl)) fun σ H Q ⟨T, G, δ, Qd, S, q, k⟩ => ⟨T, G, δ, _, S, q, fun v d H1 G1 δ1 S1 st1 r1 q1 => ⟨T, G1, δ1, _, S1, q1, fun v2 d2 H2 G2 δ2 S2 st2 r2 q2 => by
    obtain ⟨n, t, c, rfl, h1, h2, q2⟩ := isiD_inv q2
    have e2 := r2.tyI
    subst e2
    exact ⟨v, _, .type t, .type n, c, rfl, .ty n, tyN_ok S2.ok (r1.mono st2.le) h1, kit_ty h2, k _ _ H2 G2 δ2 S2 (st1.trans st2) (.bl c) q2⟩⟩⟩
end
end T

namespace T
open PySem L2

section
variable {X : Cx} {e : Ent} {pos : Pos}
/-! ### fields -/
theorem look_rep {K : PySem.W.Frag} {G : Gh} {f : Str} {d : D} : ∀ {fvs : List (Str × V)} {fds : List (Str × D)}, fvs.map (·.1) = fds.map (·.1) → RepL K G (fvs.map (·.2)) (fds.map (·.2)) → fds.lookup f = some d → ∃ v, fvs.lookup f = some v ∧ Rep K G v d
  | [], [], _, _, h => by cases h
  | (a, v) :: r, (b, x) :: s, e1, r1, h => by
    simp only [List.map_cons, List.cons.injEq] at e1
    obtain ⟨rfl, e1⟩ := e1
    cases r1 with
    | cons h1 h2 =>
      rw [List.lookup_cons] at h ⊢
      cases hb : (f == a) with
      | true => rw [hb] at h; cases h; exact ⟨v, rfl, h1⟩
      | false => rw [hb] at h; exact look_rep e1 h2 h
def putFD (f : Str) (v : D) : List (Str × D) → List (Str × D)
  | [] => [(f, v)]
  | (g, x) :: r => if g = f then (g, v) :: r else (g, x) :: putFD f v r
theorem put_rep {K : PySem.W.Frag} {G : Gh} {f : Str} {v : V} {d : D} (hv : Rep K G v d) : ∀ {fvs : List (Str × V)} {fds : List (Str × D)}, fvs.map (·.1) = fds.map (·.1) → RepL K G (fvs.map (·.2)) (fds.map (·.2)) →
    (putF f v fvs).map (·.1) = (putFD f d fds).map (·.1) ∧ RepL K G ((putF f v fvs).map (·.2)) ((putFD f d fds).map (·.2))
  | [], [], _, _ => ⟨rfl, .one hv⟩
  | (a, w) :: r, (b, x) :: s, e1, r1 => by
    simp only [List.map_cons, List.cons.injEq] at e1
    obtain ⟨rfl, e1⟩ := e1
    cases r1 with
    | cons h1 h2 =>
      rw [putF, putFD]
      by_cases z : a = f
      · rw [if_pos z, if_pos z]
        exact ⟨by simp [e1], .cons hv h2⟩
      · rw [if_neg z, if_neg z]
        obtain ⟨q1, q2⟩ := put_rep hv e1 h2
        exact ⟨by simp [q1], .cons h1 q2⟩
def insOf : D → Option (Str × List (Str × D))
  | .ins C fs => some (C, fs)
  | .self _ C fs => some (C, fs)
  | _ => none
theorem insOf_ok {K : PySem.W.Frag} {G : Gh} {H : Hp} {v : V} {d : D} {C : Str} {fs : List (Str × D)} (ok : GOk G H) (r : RdO K G H v d) (h : insOf d = some (C, fs)) : ∃ p dx fvs, v = .ref p ∧ H p = some (.ins (He.ga K C) dx fvs) ∧ fvs.map (·.1) = fs.map (·.1) ∧ RepL K G (fvs.map (·.2)) (fs.map (·.2)) := by
  rcases r with r | ⟨l, rfl, r⟩
  · cases r with
    | ins q e1 r1 => cases h; exact ⟨_, _, _, rfl, ok.sub _ _ q, e1, r1⟩
    | self q e1 r1 => cases h; exact ⟨_, _, _, rfl, ok.sub _ _ q, e1, r1⟩
    | _ => cases h
  · cases d with
    | ins C' fs' => cases h; obtain ⟨dx, fvs, q, e1, r1⟩ := r; exact ⟨l, dx, fvs, rfl, q, e1, r1⟩
    | self x C' fs' => cases h; obtain ⟨_, dx, fvs, q, e1, r1⟩ := r; exact ⟨l, dx, fvs, rfl, q, e1, r1⟩
    | _ => cases h
def fldD (f : Str) (cs : List Str) (a : D) (Q : D → Prop) : Prop := match insOf a with
  | some (C, fs) => C ∈ cs ∧ (match fs.lookup f with | some d => Q d | none => False)
  | none => False
/-- what the text must have for a field of these classes -/
def FldOk (K : PySem.W.Frag) (f : Str) (cs : List Str) : Prop := ∀ C ∈ cs, Cls K (He.ga K C) ∧ NoAttr K (He.ga K C) f
theorem de_fld {a : Expr} {A : Opn} {f : Str} {cs : List Str} (ha : OPN X e a A) (hc : FldOk X.K f cs) (hb : attributeBase a f X.env (eval a X.env) = eval a X.env := by rfl) : DE X e (.Attribute a f pos) (dB1 (fldD f cs) A) :=
  one_ok ha (r := fun x H Q => ∃ a C dx fs v, x = .ref a ∧ H a = some (.ins C dx fs) ∧ Cls X.K C ∧ NoAttr X.K C f ∧ fs.lookup f = some v ∧ Q v H) (f := fun ta => L2.tFld X.K ta f) (fun ta h => pe_fld h hb) (fun _ _ _ _ h => h) fun T G H σ δ x a Qd Q S ra q k => by
    unfold fldD at q
    cases hi : insOf a with
    | none => rw [hi] at q; exact q.elim
    | some cf =>
      obtain ⟨C, fs⟩ := cf
      rw [hi] at q
      obtain ⟨hC, q⟩ := q
      cases hl : fs.lookup f with
      | none => rw [hl] at q; exact q.elim
      | some d =>
        rw [hl] at q
        obtain ⟨p, dx, fvs, rfl, hp, e1, r1⟩ := insOf_ok S.ok ra hi
        obtain ⟨v, hv, rv⟩ := look_rep e1 r1 hl
        exact ⟨p, _, dx, fvs, v, rfl, hp, (hc C hC).1, (hc C hC).2, hv, k v d H G S Step.refl rv q⟩
def dFldSet (i : Nat) (f : Str) (cs : List Str) (t : TDE) : TDS := fun F δ => t δ fun d δ1 => match δ1[i]? with
  | some (.ow (.ins C fs)) => C ∈ cs ∧ fs.length < 1000 ∧ F.nx (δ1.set i (.ow (.ins C (putFD f d fs))))
  | some (.ow (.self x C fs)) => C ∈ cs ∧ fs.length < 1000 ∧ F.nx (δ1.set i (.ow (.self x C (putFD f d fs))))
  | _ => False
theorem ds_fld {o value : Expr} {i : Nat} {f : Str} {cs : List Str} {t : TDE} {pos' : Pos} (ho : PE X o (tVar i)) (hv : DE X e value t) (hc : FldOk X.K f cs) (hs : swapsWith value (some (.Attribute o f pos')) pos.line X.env = pure false := by rfl) :
    DS X e (.Assign [.Attribute o f pos'] value pos) (dFldSet i f cs t) :=
  ps_imp (ps_fld ho hv hs) fun E σ H ⟨T, G, δ, F, S, q, n, r, b, c⟩ => ⟨T, G, δ, _, S, q, fun v d H1 G1 δ1 S1 st1 rd q1 => by
    cases hs1 : δ1[i]? with
    | none => rw [hs1] at q1; exact q1.elim
    | some sl =>
      rw [hs1] at q1
      cases sl with
      | no => exact q1.elim
      | im _ => exact q1.elim
      | ow dd =>
        obtain ⟨o', h1, l, rfl, m⟩ := S1.sl i _ hs1
        cases dd with
        | ins C fs =>
          obtain ⟨dx, fvs, hl, e1, r1⟩ := m.own
          obtain ⟨p1, p2⟩ := put_rep (f := f) rd e1 r1
          obtain ⟨S2, st2⟩ := S1.write (d' := .ins C (putFD f d fs)) (o := .ins (He.ga X.K C) dx (putF f v fvs)) hs1 h1 ⟨dx, _, upd_same, p1, p2⟩
          have hlen : fvs.length = fs.length := by have := congrArg List.length e1; simpa using this
          exact ⟨_, h1, l, _, dx, fvs, rfl, hl, (hc C q1.1).1, (hc C q1.1).2, by rw [hlen]; exact q1.2.1, n _ _ G1 _ (st1.le.trans st2.le) S2 q1.2.2⟩
        | self x C fs =>
          obtain ⟨ex, dx, fvs, hl, e1, r1⟩ := m.own
          obtain ⟨p1, p2⟩ := put_rep (f := f) rd e1 r1
          obtain ⟨S2, st2⟩ := S1.write (d' := .self x C (putFD f d fs)) (o := .ins (He.ga X.K C) dx (putF f v fvs)) hs1 h1 ⟨ex, dx, _, upd_same, p1, p2⟩
          have hlen : fvs.length = fs.length := by have := congrArg List.length e1; simpa using this
          exact ⟨_, h1, l, _, dx, fvs, rfl, hl, (hc C q1.1).1, (hc C q1.1).2, by rw [hlen]; exact q1.2.1, n _ _ G1 _ (st1.le.trans st2.le) S2 q1.2.2⟩
        | _ => exact q1.elim⟩
/-! ### instances made -/
abbrev SpI := List D → (List (Str × D) → Prop) → Prop
def toSpI (K : PySem.W.Frag) (C : Str) (sd : SpI) : Sp := fun vs H Q _ => ∃ (G : Gh) (H0 : Hp) (x dx : Addr) (vs' : List V) (ds : List D) (Qd : List (Str × D) → Prop), vs = .ref x :: vs' ∧ H = L2.upd (L2.upd H0 dx (.own x)) x (.ins (He.ga K C) dx []) ∧ H0 x = none ∧ H0 dx = none ∧ dx ≠ x ∧
  GOk G H0 ∧ RepL K G vs' ds ∧ sd ds Qd ∧ ∀ fs G' H', GOk G' H' → Step ⟨G, H0⟩ G H0 G' H' → Mine K ⟨G, H0⟩ G' H' x (.ins C fs) → Qd fs → Q .non H'
def startI (n : Nat) (x : Addr) (C : Str) (ds : List D) : DSt := (startD n (.ref x :: ds)).set 0 (.ow (.self x C []))
theorem start_ssI {K : PySem.W.Frag} {G : Gh} {H0 : Hp} {x dx : Addr} {C : Str} {vs : List V} {ds : List D} {N : List Str} (ok : GOk G H0) (r : RepL K G vs ds) (nx : H0 x = none) (ndx : H0 dx = none) (ne : dx ≠ x) :
    SS K ⟨G, H0⟩ .nil G (L2.upd (L2.upd H0 dx (.own x)) x (.ins (He.ga K C) dx [])) (L2.start N (.ref x :: vs)) (startI N.length x C ds) := by
  have S0 := start_ss (K := K) (N := N) ok (.cons (.ref x) r : RepL K G (.ref x :: vs) (.ref x :: ds))
  obtain ⟨S1, _⟩ := S0.new (p := dx) (o := .own x) ndx
  have nx2 : L2.upd H0 dx (.own x) x = none := by rw [upd_ne (Ne.symm ne)]; exact nx
  obtain ⟨S2, _, nI, nB, new, ap⟩ := S1.new (p := x) (o := .ins (He.ga K C) dx []) nx2
  have S3 := S2.asgO (i := 0) (l := x) (d := .self x C []) ⟨⟨rfl, dx, [], upd_same, rfl, .nil⟩, nI, nB, new⟩ ap
  have e1 : (L2.start N (.ref x :: vs)).set 0 (some (.ref x)) = L2.start N (.ref x :: vs) := rfl
  rw [e1] at S3
  exact S3
/-- THE RULE for an __init__ -/
theorem fn_i {P : Program} {w : World} {K : PySem.W.Frag} {mg : Str → Option Value} {base : Heap} {x qual : Str} {params : Arguments} {body : List Stmt} {scope : Scope} {dvs : List V} {kws : List (Str × V)} {f : Addr} {fd : FuncData} {N ps : List Str} {k : Nat} {C : Str} {sd : SpI} {t : TDS}
    (F : FunD K x qual params body scope dvs kws f fd) (S : FnScope N ps scope) (len : ∀ ds Q, sd ds Q → ds.length + 1 = ps.length)
    (hb : ∀ (cdv : Value) (A : Around) (outer : List Env) (s : Shared) (H : Hp) (E : XK) (e : Ent), Room k (A.deeper (PyProof.Rows.envOfC qual scope s.heap.objs.size f cdv)) → DSs (cxF P w K mg base N qual scope f cdv A outer s H E) e body t)
    (hp : ∀ y ds Q, sd ds Q → t { nx := fun δ => ∃ fs, δ[0]? = some (.ow (.self y C fs)) ∧ Q fs, rt := fun _ _ => False } (startI N.length y C ds)) : FnOk P w K mg base CX0 (k + 1) f fd ps (toSpI K C sd) := by
  refine F.ok S (fun vs H Q E h => ?_) (fun cdv A outer s H vs Q E hr h => ?_)
  · obtain ⟨G, H0, y, dy, vs', ds, Qd, rfl, rfl, _, _, _, ok, r, q, _⟩ := h
    rw [List.length_cons, r.length]
    exact len ds Qd q
  · obtain ⟨G, H0, y, dy, vs', ds, Qd, rfl, rfl, ny, ndy, ne, ok, r, q, kk⟩ := h
    refine ⟨_, PSs.nox (hb cdv A outer s _ E ⟨G, H0⟩ hr), .nil, G, startI N.length y C ds, _, start_ssI ok r ny ndy ne, hp y ds Qd q, fun σ' δ' G' H' le S' q' => ?_, fun _ _ _ _ _ _ _ _ q' => q'.elim, fun _ _ _ _ _ _ q' => q'.elim, fun _ _ _ _ _ _ q' => q'.elim⟩
    obtain ⟨fs, hδ, qf⟩ := q'
    obtain ⟨o, h1, l, rfl, m⟩ := S'.sl 0 _ hδ
    obtain ⟨rfl, own⟩ := m.own
    exact kk fs G' H' S'.ok S'.stp ⟨own, m.nI, m.nB, m.new⟩ qf
structure CalI (P : Program) (w : World) (K : PySem.W.Frag) (mg : Str → Option Value) (base : Heap) (k : Nat) (C : Str) (sd : SpI) : Prop where
  ex : ∃ f fd ps, FnOk P w K mg base CX0 k f fd ps (toSpI K C sd) ∧ mg C = some (.ref (He.ga K C)) ∧ Mk K (He.ga K C) f ∧ Binds K fd ps []
def dNew (C : Str) (sd : SpI) (t : TDA) : TDE := fun δ Q => t δ fun ds δ1 => sd ds fun fs => Q (.ins C fs) δ1
theorem do_new {k j : Nat} {C : Str} {sd : SpI} {a : Expr} {es : List Expr} {t : TDA} {p : Pos} (c : CalI X.prog X.w X.K X.mg X.base k C sd) (hr : Room j X.A) (hk : k + 1 ≤ j) (hg : Gl X C) (ha : DA X e (a :: es) t)
    (hd : (C == ("__debug__" : Str)) = false := by decide) (he : starEach (a :: es) X.env = (false, eval a X.env) :: starEach es X.env := by rfl) (hpl : (backTo pos (starEach es X.env)).any (·.1) = false := by rfl) : DO X e (.Call (.Name C p) (a :: es) [] pos) (dNew C sd t) := by
  obtain ⟨f, fd, ps, F, hm, M, hb⟩ := c.ex
  refine pe_imp (pe_make M F (hr.mono hk) hg hm hb .nil pass0 ha hd he hpl) fun σ H Q ⟨T, G, δ, Qd, S, q, k⟩ => ?_
  refine ⟨T, G, δ, _, S, q, fun vs ds H1 G1 δ1 S1 st1 r len q1 x dx nx ndx ne => ?_⟩
  refine ⟨G1, H1, x, dx, vs, ds, _, by rw [List.append_nil], rfl, nx, ndx, ne, S1.ok, r, q1, fun fs G' H' ok c m qd => ⟨rfl, ?_⟩⟩
  obtain ⟨S2, st2⟩ := S1.after ok c
  have ap := (S1.new (p := x) (o := .own x) nx).2.2.2.2.2
  exact k x (.ins C fs) H' G' δ1 S2 (st1.trans st2) ⟨m.own, m.nI, m.nB, S1.s.eNone nx⟩ ap qd
/-! ### methods and properties -/
theorem Rep.toIns {K : PySem.W.Frag} {G : Gh} {v : V} {d : D} {C : Str} {fs : List (Str × D)} (r : Rep K G v d) (h : insOf d = some (C, fs)) : Rep K G v (.ins C fs) := by
  cases r with
  | ins q e1 r1 => cases h; exact .ins q e1 r1
  | self q e1 r1 => cases h; exact .ins q e1 r1
  | _ => cases h
def dMeth (C m : Str) (sd : SpD) (ta : TDE) (t : TDA) : TDE := fun δ Q => ta δ fun d δ1 => match insOf d with
  | some (C', fs) => C' = C ∧ fs.lookup m = none ∧ t δ1 fun ds δ2 => sd (.ins C fs :: ds) fun z => Q z δ2
  | none => False
theorem meth_go {C : Str} {sd : SpD} {T : Tm} {G G1 : Gh} {H H1 : Hp} {σ : St} {δ1 : DSt} {v : V} {vs : List V} {ds : List D} {fs : List (Str × D)} {Qd : D → DSt → Prop} {Q : VK} (S1 : SS X.K e T G1 H1 σ δ1) (st : Step e G H G1 H1) (rv : Rep X.K G1 v (.ins C fs)) (rs : RepL X.K G1 vs ds)
    (q : sd (.ins C fs :: ds) fun z => Qd z δ1) (k : ∀ v d H' G' δ', SS X.K e T G' H' σ δ' → Step e G H G' H' → Rep X.K G' v d → Qd d δ' → Q v H') : toSp X.K sd (v :: (vs ++ [])) H1 Q E0 := by
  rw [List.append_nil]
  exact ⟨G1, .ins C fs :: ds, _, S1.ok, .cons rv rs, q, fun d' v' G' H' ok c rep qd => by
    obtain ⟨S2, st2⟩ := S1.after ok c
    exact k v' d' H' G' δ1 S2 (st.trans st2) rep qd⟩
structure CalP (P : Program) (w : World) (K : PySem.W.Frag) (mg : Str → Option Value) (base : Heap) (k : Nat) (C f : Str) (sd : SpD) : Prop where
  ex : ∃ p g fd ps, FnOk P w K mg base CX0 k g fd ps (toSp K sd) ∧ Cls K (He.ga K C) ∧ PropOf K (He.ga K C) f p g ∧ Binds K fd ps []
def dProp (C : Str) (sd : SpD) (ta : TDE) : TDE := fun δ Q => ta δ fun d δ1 => match insOf d with
  | some (C', fs) => C' = C ∧ sd [.ins C fs] fun z => Q z δ1
  | none => False
theorem de_prop {k j : Nat} {C f : Str} {sd : SpD} {o : Expr} {ta : TDE} (c : CalP X.prog X.w X.K X.mg X.base k C f sd) (hr : Room j X.A) (hk : k + 1 ≤ j) (ho : DE X e o ta) (hab : attributeBase o f X.env (eval o X.env) = eval o X.env := by rfl) :
    DE X e (.Attribute o f pos) (dProp C sd ta) := by
  obtain ⟨p, g, fd, ps, F, hcl, hp, hb⟩ := c.ex
  refine pe_imp (pe_prop ho hcl hp F (hr.mono hk) hb .nil pass0 hab) fun σ H Q ⟨T, G, δ, Qd, S, q, k⟩ => ?_
  refine ⟨T, G, δ, _, S, q, fun v d H1 G1 δ1 S1 st1 rd q1 => ?_⟩
  cases hi : insOf d with
  | none => rw [hi] at q1; exact q1.elim
  | some cf =>
    obtain ⟨C', fs⟩ := cf
    rw [hi] at q1
    obtain ⟨rfl, q1⟩ := q1
    obtain ⟨a, dx, fvs, rfl, hp, e1, r1⟩ := insOf_ok S1.ok (.inl rd) hi
    exact ⟨a, dx, fvs, rfl, hp, meth_go (vs := []) S1 st1 (rd.toIns hi) .nil q1 k⟩
end
end T

namespace PySem
theorem meets_enum1 {v : Value} {ob : Obj} {Hs : Heap → Prop} (B : Begins v ob Hs) :
    Meets (Builtin.«enumerate.__new__» ⟨[.type "enumerate", v], []⟩) (fun _ R s => Hs s.heap ∧ R (.ok (.ret (.ref (s.heap.push ob).objs.size)))
      { s with heap := (s.heap.push ob).push { cls := .type "enumerate", data := .fields #[.none, .bool false, .ref s.heap.objs.size, rawInt 0, .none, .none] } }) :=
  .of_wp fun prog w A R s ⟨h1, h⟩ => by
    obtain ⟨hp, g, d, tk, os⟩ := s
    have zz := sub_enumerate
    have go : ∀ {A' : Around} {E : Value → Shared → Prop} {Q : Value → Shared → Prop}, Q (.ref hp.objs.size) ⟨hp.push ob, g, d, tk, os⟩ → wpAny (model prog w) A' (pyIter v) Q E ⟨hp, g, d, tk, os⟩ := fun q => B.iter prog w _ _ ⟨hp, g, d, tk, os⟩ _ h1 q
    wp_walk using go
    refine wpAny_stack_any fun _ => wpAny_pure ?_
    split
    · rename_i c _ _ _ _ _
      cases (c == Value.type "enumerate") <;> (wp_walk using go; exact ⟨_, rfl, h⟩)
    · wp_walk using go
      exact ⟨_, rfl, h⟩
end PySem
namespace T
open PySem L2
theorem call_enum1 {prog : Program} {w : World} {A : Around} {E : Value → Shared → Prop} {s : Shared} {v : Value} {ob : Obj} {Hs : Heap → Prop} {Q : Value → Shared → Prop} (B : Begins v ob Hs) (h1 : Hs s.heap)
    (h : ∀ h', IsEnum h' (s.heap.objs.size + 1) s.heap.objs.size 0 .none → h'.get? s.heap.objs.size = some ob → (∀ b o, s.heap.get? b = some o → h'.get? b = some o) → Q (.ref (s.heap.objs.size + 1)) { s with heap := h' }) :
    wpAny (model prog w) A (call (.type "enumerate") [v]) Q E s := by
  refine callType_new F.called_enumerate (by decide) (F.typeCall_enumerate_1 _) (F.newCall_enumerate_1 _) (fun z => F.args_object_init_2 z _) F.entry_enumerate_new (meets_enum1 B) ⟨h1, ?_⟩
  have hz : (s.heap.push ob).objs.size = s.heap.objs.size + 1 := Heap.size_push ..
  show _ ∧ _
  rw [hz]
  have he := Heap.get?_push_size (s.heap.push ob) (o := { cls := .type "enumerate", data := .fields #[.none, .bool false, .ref s.heap.objs.size, rawInt 0, .none, .none] }) rfl
  rw [hz] at he
  exact ⟨⟨_, he, rfl⟩, h _ he (Heap.get?_push_of_some _ (Heap.get?_push_size _ B.free)) fun b o x => Heap.get?_push_of_some _ (Heap.get?_push_of_some _ x)⟩
/-- enumerate of the tuple at a, whose items are xs -/
def Iet (K : PySem.W.Frag) (a : Addr) (xs : List V) : It :=
  ⟨fun i H => SqT K H a xs ∧ i < xs.length, fun i H v H' => ∃ t x, v = .ref t ∧ H t = none ∧ H' = L2.upd H t (.tup [.int (i : Nat), x]) ∧ xs[i]? = some x, fun i H => SqT K H a xs ∧ xs.length ≤ i⟩
theorem turn_enumT {P : Program} {w : World} {K : PySem.W.Frag} {elts : List Expr} {kk : Nat} {tpos : Pos} {xs : List V} (a e it : Addr) :
    Turn P w K (.Tuple elts kk tpos) (Iet K a xs) [e, it] e (fun i h => (∃ old, IsEnum h e it ((i : Nat) : Int) old) ∧ h.IsTupleIter it a i ∧ e ≠ it) where
  mem := List.mem_cons_self
  obj := fun i h ⟨⟨old, he⟩, ⟨o, ho, _, hd⟩, _⟩ b hb => by
    rcases List.mem_cons.mp hb with rfl | hb
    · exact ⟨_, he, fun v q => nomatch q⟩
    · rw [List.mem_singleton] at hb
      subst hb
      exact ⟨o, ho, fun v q => by rw [hd] at q; cases q⟩
  keep := fun i h h' ⟨⟨old, he⟩, hi, hne⟩ k => ⟨⟨old, k e List.mem_cons_self _ he⟩, hi.at fun o q => k it (by simp) o q, hne⟩
  item := by
    rintro X rfl rfl rfl hc i pins s σ H E I hf ⟨⟨old, he⟩, hit, hne⟩ ⟨hq, hlt⟩
    obtain ⟨its, rv, pt, hz⟩ := I.tuple hq
    have hel := Heap.lt_size he
    have hil : it < s.heap.objs.size := by obtain ⟨_, q, _⟩ := hit; exact Heap.lt_size q
    have hlen := rv.length
    have ai : a ≠ it := fun z => by
      subst z
      obtain ⟨o1, q1, c1, _⟩ := hit
      obtain ⟨o2, q2, c2, _⟩ := pt
      rw [q1] at q2; cases q2
      rw [c1] at c2; exact absurd c2 (by decide)
    have ae : e ≠ a := fun z => by
      subst z
      obtain ⟨o2, q2, c2, _⟩ := pt
      have he' : s.heap.get? e = _ := he
      rw [he'] at q2; cases q2
      have c3 : (Value.type "enumerate") = Value.type "tuple" := c2
      exact absurd c3 (by decide)
    have D := Draws.tuple (prog := X.prog) (w := X.w) (A := X.A.in1) (I.ok.hd hc) it a ai its.toArray
    refine wpAny_pyNext_enum_itemD (i := i) D he ⟨hit, pt⟩ (by simp; omega) hne (by simp [hne, ae]) fun u h' tk hu ho st' hT hsz hk => ?_
    refine ⟨_, rfl, wpAny_letOwnedTupleGo_enum (s := { s with heap := h', toks := tk + 1 }) ho fun h'' he' sb => ?_⟩
    obtain ⟨x, hx⟩ : ∃ x, xs[i]? = some x := ⟨_, List.getElem?_eq_getElem hlt⟩
    obtain ⟨u2, hu2, ru⟩ := rv.get hx
    have eu : u = u2 := by
      have hu : its.toArray[i]? = some u := hu
      simp at hu
      rw [hu2] at hu
      cases hu; rfl
    subst eu
    have hT2 : h''.get? s.heap.objs.size = some { cls := .type "tuple", data := .seq #[.int i tk, u] } := (sb.2 _ (Nat.ne_of_gt hel)).trans hT
    have new : ObjOk X.prog X.w (L2.upd H s.heap.objs.size (.tup [.int (i : Nat), x])) h'' s.heap.objs.size (.tup [.int (i : Nat), x]) := ⟨by show 2 ≤ sizeLine; decide, [.int i tk, u], .cons ⟨_, rfl⟩ (.cons ru .nil), ⟨_, hT2, rfl, _, rfl⟩⟩
    have I1 : Inv X pins σ (L2.upd H s.heap.objs.size (.tup [.int (i : Nat), x])) { s with heap := h'', toks := tk + 1 } :=
      I.turnedNew (ch := [e, it]) (fun b ob hb q => (sb.2 b fun z => hb (z ▸ List.mem_cons_self)).trans (hk b ob (fun z => hb (z ▸ List.mem_cons_self)) (fun z => hb (by simp [z])) q)) hf (Nat.le_refl _) new
    have e1 : ((i + 1 : Nat) : Int) = (i : Int) + 1 := by omega
    have he2 : IsEnum h'' e it ((i + 1 : Nat) : Int) u := by rw [e1]; exact he'
    refine ⟨.ref s.heap.objs.size, _, I1, rfl, ⟨_, x, rfl, I.hok.fresh (Nat.le_refl _), rfl, hx⟩, ⟨⟨u, he2⟩, st'.1.at fun o q => (sb.2 it (Ne.symm hne)).trans q, hne⟩, fun b hb => ?_⟩
    have hb' : b < s.heap.objs.size := by
      rcases List.mem_cons.mp hb with rfl | hb
      · exact hel
      · rw [List.mem_singleton] at hb; subst hb; exact hil
    rw [upd_ne (Nat.ne_of_lt hb')]
    exact (hf b hb).1
  done := by
    rintro X rfl rfl rfl hc i pins s σ H E I hf ⟨⟨old, he⟩, hit, hne⟩ ⟨hq, hlt⟩
    obtain ⟨its, rv, pt, hz⟩ := I.tuple hq
    have hlen := rv.length
    obtain ⟨f0, f1, f2, f3, f4, f5⟩ := hf it (by simp)
    have hT : s.TypeIs (.ref e) "enumerate" := ⟨_, he, rfl⟩
    unfold pyNext
    refine wpAny_bind (wpAny_attempt (wpAny_callSpecial?_slot (name := Str.ofString "__next__") hT F.slot_enumerate_next (wpAny_call_entry F.slot_enumerate_next hT F.entry_enumerate_next ?_ (F.args_enumerate_next_1 _))))
    show wpAny _ _ (field (.ref e) 2 >>= _) _ _ _
    refine wpAny_bind (wpAny_field he rfl (x := .ref it) rfl (wpAny_bind (wpAny_nextOf_tuple_end (I.ok.hd hc) hit pt (by simp; omega) fun h' x he' hx' => ?_)))
    obtain ⟨o, ho, hcl⟩ := hx'
    refine wpAny_bind (wpAny_isInstance (T := "StopIteration") (b := true) ⟨o, ho, hcl⟩ isSubtype_stop ?_)
    exact wpAny_pure ⟨rfl, I.turned (t' := s.toks) (fun b o hb q => he' b o hb q) f0 f1 f3 f4 f5⟩
  self := fun A i s Q E ⟨⟨_, he⟩, _⟩ h => wpAny_pyIter_enum he h
section
variable {X : Cx} {e : Ent} {pos : Pos}
/-- enumerate of a list or of a tuple -/
def tEnumA (K : PySem.W.Frag) (ta : TA) : TI := fun σ H R => ta σ H fun vs H1 => ∃ a xs, vs = [.ref a] ∧ ((SqL K H1 a xs ∧ R (Ite K a) H1) ∨ (SqT K H1 a xs ∧ R (Iet K a xs) H1))
theorem pi_enumA {a : Expr} {ta : TA} {p tpos : Pos} {elts : List Expr} {kk : Nat} (hg : Gl X "enumerate") (hm : X.mg "enumerate" = none) (ha : PA X [a] ta) (hs : starEach [a] X.env = [(false, eval a X.env)] := by rfl) :
    PI X (.Tuple elts kk tpos) (.Call (.Name "enumerate" p) [a] [] pos) (tEnumA X.K ta) := by
  refine ⟨fun pins s σ H R I h => ?_⟩
  refine PyProof.Rows.Call_ (ld_blt I hg hm (by decide +kernel : bootBuiltins "enumerate" = some (.type "enumerate")) (PyProof.Rows.callWith_type1 (thn (ha.run pos pins s σ H _ I h) fun us s1 ⟨vs, H1, I1, r1, q1⟩ => ?_) hs rfl))
  obtain ⟨b, xs, rfl, q⟩ := q1
  cases r1 with
  | cons r rr =>
    cases rr
    cases r
    have fp : ∀ c ∈ [s1.heap.objs.size + 1, s1.heap.objs.size], FpOk X pins H1 c := fun c hc => by
      have hle : s1.heap.objs.size ≤ c := by
        rcases List.mem_cons.mp hc with z | z
        · rw [z]; exact Nat.le_add_right _ _
        · rw [List.mem_singleton.mp z]; exact Nat.le_refl _
      exact I1.fpOk hle (I1.hok.fresh hle)
    rcases q with ⟨hq, q⟩ | ⟨hq, q⟩
    · obtain ⟨its, rv, pl, hz⟩ := I1.list hq
      refine call_enum1 (begins_list b its.toArray) pl.isList fun h' he hit hk => wpAny_pyIter_enum he ?_
      exact ⟨_, _, _, _, H1, rfl, I1.kept (t' := s1.toks) hk, turn_enum b (s1.heap.objs.size + 1) s1.heap.objs.size, ⟨⟨.none, he⟩, ⟨_, hit, rfl, rfl⟩, Nat.succ_ne_self _⟩, fp, q⟩
    · obtain ⟨its, rv, pl, hz⟩ := I1.tuple hq
      refine call_enum1 (begins_tuple b its.toArray) pl fun h' he hit hk => wpAny_pyIter_enum he ?_
      exact ⟨_, _, _, _, H1, rfl, I1.kept (t' := s1.toks) hk, turn_enumT b (s1.heap.objs.size + 1) s1.heap.objs.size, ⟨⟨.none, he⟩, ⟨_, hit, rfl, rfl⟩, Nat.succ_ne_self _⟩, fp, q⟩
theorem yields_enumT {K : PySem.W.Frag} {G : Gh} {p : Addr} {vs : List V} {ds : List D} (hp : SqT K G.I p vs) (r : RepL K G vs ds) : Yields K e G (Iet K p vs) (enumD ds) where
  go := fun i T G' H' σ' δ' le S h => ⟨sqt_mono S.ok.sub (sqt_mono le.I hp), by rw [r.length]; rw [enumD_len] at h; exact h⟩
  yld := fun i T G' H' σ' δ' x H2 le S h y => by
    obtain ⟨t, x', rfl, ht, rfl, y⟩ := y
    obtain ⟨d, h1, h2⟩ := r.getV y
    obtain ⟨G2, S2, st2, rep⟩ := S.newTup (vs := [.int (i : Nat), x']) (ds := [.int (i : Int), d]) (.cons (.int _) (.one (h2.mono le))) ht
    exact ⟨_, G2, enumD_get h1, S2, st2, rep⟩
  stop := fun i T G' H' σ' δ' le S h => ⟨sqt_mono S.ok.sub (sqt_mono le.I hp), by rw [r.length]; rw [enumD_len] at h; exact h⟩
def iEnum (t : TDE) : TDA := fun δ Q => t δ fun d δ1 => match d with | .lst ds => Q (enumD ds) δ1 | .tup ds => Q (enumD ds) δ1 | _ => False
theorem di_enum {elts : List Expr} {kk : Nat} {tpos p : Pos} {a : Expr} {t : TDE} (hg : Gl X "enumerate") (hm : X.mg "enumerate" = none) (h : DE X e a t) (hs : starEach [a] X.env = [(false, eval a X.env)] := by rfl) :
    DI X e (.Tuple elts kk tpos) (.Call (.Name "enumerate" p) [a] [] pos) (iEnum t) :=
  pi_imp (pi_enumA hg hm (pa_cons h pa_nil hs) hs) fun σ H R ⟨T, G, δ, Qd, S, q, k⟩ => ⟨T, G, δ, _, S, q, fun v d H' G' δ' S' st rep q' => by
    cases d with
    | lst ds =>
      cases rep with
      | lst hp r => exact ⟨_, _, rfl, .inl ⟨.inl (.inl (S'.ok.sub _ _ hp)), k _ _ H' G' δ' S' st (yields_enum (.inl (.inl hp)) r) q'⟩⟩
    | tup ds =>
      cases rep with
      | tup hp r => exact ⟨_, _, rfl, .inr ⟨.inl (.inl (S'.ok.sub _ _ hp)), k _ _ H' G' δ' S' st (yields_enumT (.inl (.inl hp)) r) q'⟩⟩
    | _ => exact False.elim q'⟩
end
end T

namespace T
open PySem L2

section
variable {X : Cx} {e : Ent} {pos : Pos}
/-! ### dicts -/
def keysD : List D → Option (List Key)
  | [] => some []
  | d :: r => match keyD d with | some k => (keysD r).map (k :: ·) | none => none
def keyT : D → Option (List Key)
  | .tup l => keysD l
  | _ => none
def unK : Key → D
  | .inl i => .int i
  | .inr s => .str s
theorem key_rep {K : PySem.W.Frag} {G : Gh} {v : V} {d : D} {k : Key} (r : Rep K G v d) (h : keyD d = some k) : v = kV k ∧ kOk k := by
  cases r with
  | int i => cases h; exact ⟨rfl, trivial⟩
  | str q => cases h; exact ⟨rfl, q⟩
  | _ => cases h
theorem keys_rep {K : PySem.W.Frag} {G : Gh} : ∀ {vs : List V} {ds : List D} {ks : List Key}, RepL K G vs ds → keysD ds = some ks → vs = ks.map kV ∧ ∀ x ∈ ks, kOk x
  | _, _, _, .nil, h => by cases h; exact ⟨rfl, fun _ h => nomatch h⟩
  | _, d :: r, ks, .cons h1 h2, h => by
    rw [keysD] at h
    cases hk : keyD d with
    | none => rw [hk] at h; cases h
    | some k =>
      rw [hk] at h
      cases hr : keysD r with
      | none => rw [hr] at h; cases h
      | some ks' =>
        rw [hr] at h
        cases h
        obtain ⟨e1, o1⟩ := key_rep h1 hk
        obtain ⟨e2, o2⟩ := keys_rep h2 hr
        refine ⟨by rw [e1, e2]; rfl, fun x hx => ?_⟩
        rcases List.mem_cons.mp hx with rfl | hx
        · exact o1
        · exact o2 x hx
theorem unK_rep {K : PySem.W.Frag} {G : Gh} {k : Key} (h : kOk k) : Rep K G (kV k) (unK k) := by
  cases k with
  | inl i => exact .int i
  | inr s => exact .str h
/-- what a dict holds at a key; none: not asked of a dict -/
def getKD : D → D → Option (Option D)
  | .dct kds, y => (match keyD y with | some k => some (lookD kds k) | none => none)
  | .dtp kds, y => (match keyT y with | some k => some (lookD kds k) | none => none)
  | .dself _ kds, y => (match keyD y with | some k => some (lookD kds k) | none => none)
  | _, _ => none
def RelOD (K : PySem.W.Frag) (G : Gh) : Option V → Option D → Prop
  | none, none => True
  | some v, some d => Rep K G v d
  | _, _ => False
theorem relOD_of {K : PySem.W.Frag} {G : Gh} {κ : Type} [DecidableEq κ] {k : κ} {kvs : List (κ × V)} {kds : List (κ × D)} (e : kvs.map (·.1) = kds.map (·.1)) (r : RepL K G (kvs.map (·.2)) (kds.map (·.2))) : RelOD K G (valV kvs k) (lookD kds k) := by
  rcases look_ok k e r with ⟨h1, h2⟩ | ⟨d, v, h1, h2, h3⟩
  · rw [h1, h2]; trivial
  · rw [h1, h2]; exact h3
theorem getKD_ok {K : PySem.W.Frag} {G : Gh} {H : Hp} {x y : V} {a b : D} {o : Option D} (ok : GOk G H) (ra : RdO K G H x a) (rb : RdO K G H y b) (h : getKD a b = some o) : ∃ p ov, x = .ref p ∧ IsD H p ∧ DGet H p y ov ∧ RelOD K G ov o := by
  have key : ∀ k, keyD b = some k → y = kV k := fun k hk => by
    rcases rb with r | ⟨l, rfl, r⟩
    · exact (key_rep r hk).1
    · cases b with
      | int => exact r.elim
      | str => exact r.elim
      | _ => cases hk
  cases a with
  | dct kds =>
    rw [getKD] at h
    cases hk : keyD b with
    | none => rw [hk] at h; cases h
    | some k =>
      rw [hk] at h
      cases h
      obtain ⟨p, kvs, rfl, hp, e1, r1⟩ := ra.dct ok
      rw [key k hk]
      exact ⟨p, _, rfl, .inl ⟨kvs, .inl hp⟩, .inl ⟨kvs, k, .inl hp, rfl, rfl⟩, relOD_of e1 r1⟩
  | dself z kds =>
    rw [getKD] at h
    cases hk : keyD b with
    | none => rw [hk] at h; cases h
    | some k =>
      rw [hk] at h
      cases h
      obtain ⟨p, kvs, rfl, hp, e1, r1, _⟩ := ra.dselfW ok
      rw [key k hk]
      exact ⟨p, _, rfl, .inl ⟨kvs, .inl hp⟩, .inl ⟨kvs, k, .inl hp, rfl, rfl⟩, relOD_of e1 r1⟩
  | dtp kds =>
    rw [getKD] at h
    cases b with
    | tup ds =>
      cases hk : keyT (.tup ds) with
      | none => rw [hk] at h; cases h
      | some k =>
        rw [hk] at h
        cases h
        obtain ⟨p, kvs, rfl, hp, e1, r1, _⟩ := ra.dtpW ok
        rcases rb with r | ⟨l, rfl, r⟩
        · cases r with
          | tup q rl =>
            obtain ⟨ev, _⟩ := keys_rep rl hk
            subst ev
            exact ⟨p, _, rfl, .inr ⟨kvs, .inl hp⟩, .inr ⟨kvs, k, _, .inl hp, rfl, ok.sub _ _ q, rfl⟩, relOD_of e1 r1⟩
        · exact r.elim
    | _ => cases h
  | _ => cases h
/-- x in d, x not in d: a dict, else as before -/
def inA (neg : Bool) (a b : D) (Q : D → Prop) : Prop := match getKD b a with
  | some o => Q (.bl (if neg = true then !o.isSome else o.isSome))
  | none => inDn neg a b Q
theorem RelOD.some_eq {K : PySem.W.Frag} {G : Gh} {a : Option V} {b : Option D} (h : RelOD K G a b) : a.isSome = b.isSome := by
  cases a <;> cases b <;> first | rfl | exact h.elim
theorem op_inK (hu : X.A.units + 1 < cLine) : OpR X (compareOp .In) (fun y x H Q => ∃ a o, x = .ref a ∧ DGet H a y o ∧ Q (.bl o.isSome) H) := by
  intro pins s σ H x y v u Q I rx ry ⟨a, o, ey, g, q⟩
  subst ey
  obtain rfl : u = Value.ref a := ry
  exact d_in hu I g rx fun s' I' => ⟨.bl o.isSome, H, I', rfl, q⟩
theorem op_notInK (hu : X.A.units + 1 < cLine) : OpR X (compareOp .NotIn) (fun y x H Q => ∃ a o, x = .ref a ∧ DGet H a y o ∧ Q (.bl (!o.isSome)) H) := by
  intro pins s σ H x y v u Q I rx ry ⟨a, o, ey, g, q⟩
  subst ey
  obtain rfl : u = Value.ref a := ry
  exact d_notIn hu I g rx fun s' I' => ⟨.bl (!o.isSome), H, I', rfl, q⟩
theorem opd_inA {k0 : Nat} (hr : Room (k0 + 1) X.A) : OpD X e (WOp X (compareOp .In)) (inA false) := by
  intro T G H σ δ x y a b Qd Q S ra rb q k
  unfold inA at q
  cases hg : getKD b a with
  | none => rw [hg] at q; exact opd_in hr T G H σ δ x y a b Qd Q S ra rb q k
  | some o =>
    rw [hg] at q
    obtain ⟨p, ov, rfl, _, g, ro⟩ := getKD_ok S.ok rb ra hg
    refine wop_of (op_inK (hu_of hr)) ⟨p, ov, rfl, g, k _ (.bl _) H G S Step.refl (.bl _) ?_⟩
    rw [ro.some_eq]
    exact q
theorem opd_notInA {k0 : Nat} (hr : Room (k0 + 1) X.A) : OpD X e (WOp X (compareOp .NotIn)) (inA true) := by
  intro T G H σ δ x y a b Qd Q S ra rb q k
  unfold inA at q
  cases hg : getKD b a with
  | none => rw [hg] at q; exact opd_notIn hr T G H σ δ x y a b Qd Q S ra rb q k
  | some o =>
    rw [hg] at q
    obtain ⟨p, ov, rfl, _, g, ro⟩ := getKD_ok S.ok rb ra hg
    refine wop_of (op_notInK (hu_of hr)) ⟨p, ov, rfl, g, k _ (.bl _) H G S Step.refl (.bl _) ?_⟩
    rw [ro.some_eq]
    exact q
/-- d[k]: a dict, else as before -/
def ixA (a b : D) (Q : D → Prop) : Prop := match getKD a b with
  | some (some d) => Q d
  | some none => False
  | none => ixD a b Q
theorem opd_ixA {k0 : Nat} (hr : Room k0 X.A) : OpD X e (WIx X) ixA := by
  intro T G H σ δ x y a b Qd Q S ra rb q k
  unfold ixA at q
  cases hg : getKD a b with
  | none => rw [hg] at q; exact opd_ix hr T G H σ δ x y a b Qd Q S ra rb q k
  | some o =>
    rw [hg] at q
    obtain ⟨p, ov, rfl, _, g, ro⟩ := getKD_ok S.ok ra rb hg
    cases o with
    | none => exact q.elim
    | some d =>
      cases ov with
      | none => exact ro.elim
      | some v => exact wix_of (ix_dict (hu_of hr)) ⟨p, v, rfl, g, k v d H G S Step.refl ro q⟩
theorem de_ixA {a b : Expr} {A B : Opn} {k0 : Nat} (hr : Room k0 X.A) (ha : OPN X e a A) (hb : OPN X e b B) (hs : PlainIx b := by exact fun _ _ => rfl) : DE X e (.Subscript a b pos) (dBin ixA A B) :=
  two_ok ha hb (f := fun ta tb => tOp (WIx X) ta tb) (fun ta tb h1 h2 => pe_ix wix_self h1 h2 hs) (fun _ _ _ _ _ => rfl) (opd_ixA hr)
/-- the dict behind d[k] = v -/
def putKD {κ : Type} [DecidableEq κ] (kds : List (κ × D)) (k : κ) (v : D) : List (κ × D) := if (kds.any fun p => decide (p.1 = k)) = true then kds.map (fun p => if p.1 = k then (p.1, v) else p) else kds ++ [(k, v)]
theorem putKD_rep {K : PySem.W.Frag} {G : Gh} {κ : Type} [DecidableEq κ] {k : κ} {v : V} {d : D} (hv : Rep K G v d) {kvs : List (κ × V)} {kds : List (κ × D)} (e1 : kvs.map (·.1) = kds.map (·.1)) (r1 : RepL K G (kvs.map (·.2)) (kds.map (·.2))) :
    (putK kvs k v).map (·.1) = (putKD kds k d).map (·.1) ∧ RepL K G ((putK kvs k v).map (·.2)) ((putKD kds k d).map (·.2)) := by
  have hany : ∀ {kvs : List (κ × V)} {kds : List (κ × D)}, kvs.map (·.1) = kds.map (·.1) → (kvs.any fun p => decide (p.1 = k)) = (kds.any fun p => decide (p.1 = k)) := fun {kvs kds} h => by
    have a1 : (kvs.any fun p => decide (p.1 = k)) = (kvs.map (·.1)).any fun x => decide (x = k) := by rw [List.any_map]; rfl
    have a2 : (kds.any fun p => decide (p.1 = k)) = (kds.map (·.1)).any fun x => decide (x = k) := by rw [List.any_map]; rfl
    rw [a1, a2, h]
  unfold putK putKD
  rw [hany e1]
  split
  · rename_i hh
    clear hany hh
    induction kvs generalizing kds with
    | nil => cases kds with | nil => exact ⟨rfl, .nil⟩ | cons _ _ => cases e1
    | cons p r ih =>
      cases kds with
      | nil => cases e1
      | cons q s =>
        simp only [List.map_cons, List.cons.injEq] at e1
        cases r1 with
        | cons h1 h2 =>
          obtain ⟨i1, i2⟩ := ih e1.2 h2
          by_cases z : p.1 = k
          · have z2 : q.1 = k := e1.1 ▸ z
            simp only [List.map_cons, if_pos z, if_pos z2]
            exact ⟨by rw [e1.1, i1], .cons hv i2⟩
          · have z2 : ¬ q.1 = k := e1.1 ▸ z
            simp only [List.map_cons, if_neg z, if_neg z2]
            exact ⟨by rw [e1.1, i1], .cons h1 i2⟩
  · rw [List.map_append, List.map_append, List.map_append, List.map_append, e1]
    exact ⟨rfl, r1.append (.one hv)⟩
theorem putKD_keys {κ : Type} [DecidableEq κ] {k x : κ} {v : D} {kds : List (κ × D)} (h : x ∈ (putKD kds k v).map (·.1)) : x ∈ kds.map (·.1) ∨ x = k := by
  unfold putKD at h
  split at h
  · left
    obtain ⟨p, hp, rfl⟩ := List.mem_map.mp h
    obtain ⟨q, hq, rfl⟩ := List.mem_map.mp hp
    refine List.mem_map.mpr ⟨q, hq, ?_⟩
    split <;> rfl
  · rw [List.map_append] at h
    rcases List.mem_append.mp h with h | h
    · exact .inl h
    · right; simpa using h
/-- d[k] = v of a dict that is ours -/
def putD (a y v : D) : Option D := match a with
  | .dct kds => (match keyD y with | some k => if kds.length < 100000 then some (.dct (putKD kds k v)) else none | none => none)
  | .dtp kds => (match keyT y with | some k => if kds.length < 100000 then some (.dtp (putKD kds k v)) else none | none => none)
  | .dself x kds => (match keyD y with | some k => if kds.length < 100000 then some (.dself x (putKD kds k v)) else none | none => none)
  | _ => none
theorem putD_ok {K : PySem.W.Frag} {G : Gh} {H : Hp} {l : Addr} {y v : V} {a b d a' : D} (ok : GOk G H) (own : OwnAt K G H l a) (rb : Rep K G y b) (rd : Rep K G v d) (h : putD a b d = some a') : ∃ o, DPut H l y v (L2.upd H l o) ∧ OwnAt K G (L2.upd H l o) l a' := by
  cases a with
  | dct kds =>
    simp only [putD] at h
    cases hk : keyD b with
    | none => rw [hk] at h; cases h
    | some k =>
      rw [hk] at h
      by_cases hl : kds.length < 100000
      · simp only [if_pos hl, Option.some.injEq] at h
        subst h
        obtain ⟨kvs, q, e1, r1, w⟩ := own
        obtain ⟨ey, ky⟩ := key_rep rb hk
        subst ey
        obtain ⟨p1, p2⟩ := putKD_rep (k := k) rd e1 r1
        have hlen : kvs.length = kds.length := by have := congrArg List.length e1; simpa using this
        refine ⟨.dK (putK kvs k v), .inl ⟨kvs, k, q, rfl, by rw [hlen, sizeLine_eq]; omega, rfl⟩, _, upd_same, p1, p2, fun x hx => ?_⟩
        rcases putKD_keys hx with hx | rfl
        · exact w x hx
        · exact ky
      · simp only [if_neg hl] at h; cases h
  | dself zz kds =>
    simp only [putD] at h
    cases hk : keyD b with
    | none => rw [hk] at h; cases h
    | some k =>
      rw [hk] at h
      by_cases hl : kds.length < 100000
      · simp only [if_pos hl, Option.some.injEq] at h
        subst h
        obtain ⟨zl, kvs, q, e1, r1, w⟩ := own
        obtain ⟨ey, ky⟩ := key_rep rb hk
        subst ey
        obtain ⟨p1, p2⟩ := putKD_rep (k := k) rd e1 r1
        have hlen : kvs.length = kds.length := by have := congrArg List.length e1; simpa using this
        refine ⟨.dK (putK kvs k v), .inl ⟨kvs, k, q, rfl, by rw [hlen, sizeLine_eq]; omega, rfl⟩, zl, _, upd_same, p1, p2, fun x hx => ?_⟩
        rcases putKD_keys hx with hx | rfl
        · exact w x hx
        · exact ky
      · simp only [if_neg hl] at h; cases h
  | dtp kds =>
    simp only [putD] at h
    cases hk : keyT b with
    | none => rw [hk] at h; cases h
    | some k =>
      rw [hk] at h
      by_cases hl : kds.length < 100000
      · simp only [if_pos hl, Option.some.injEq] at h
        subst h
        obtain ⟨kvs, q, e1, r1, w⟩ := own
        cases rb with
        | tup qb rl =>
          obtain ⟨ev, kk⟩ := keys_rep rl hk
          subst ev
          obtain ⟨p1, p2⟩ := putKD_rep (k := k) rd e1 r1
          have hlen : kvs.length = kds.length := by have := congrArg List.length e1; simpa using this
          refine ⟨.dT (putK kvs k v), .inr ⟨kvs, k, _, q, rfl, ok.sub _ _ qb, by rw [hlen, sizeLine_eq]; omega, rfl⟩, _, upd_same, p1, p2, fun x hx => ?_⟩
          rcases putKD_keys hx with hx | rfl
          · exact w x hx
          · exact kk
        | _ => cases hk
      · simp only [if_neg hl] at h; cases h
  | _ => cases h
def dgPut (i : Nat) (tk : TDE) : TDG := fun d δ Q => (match δ[i]? with | some (.ow _) => True | _ => False) ∧ tk δ fun k δ1 => match δ1[i]? with
  | some (.ow a) => (match putD a k d with | some a' => Q (δ1.set i (.ow a')) | none => False)
  | _ => False
end
end T

namespace T
open PySem L2

section
variable {X : Cx} {e : Ent} {pos : Pos}
/-! ### comprehensions of dicts -/
def dDc (w : TDA) (g : TDG) (tt : TDT) (tk tv : TDE) (own : List Nat) : TDE := fun δ Q => w δ fun ds δ1 => ∃ Inv : Nat → List (Key × D) → DSt → Prop, Inv 0 [] (wipeD δ1 own) ∧
  (∀ i d acc δ', ds[i]? = some d → Inv i acc δ' → g d (wipeD δ' own) fun δ2 => tt δ2 fun b δ3 => if b = true then tk δ3 fun k δ4 => tv δ4 fun z δ5 => (match keyD k with | some kk => acc.length < 100000 ∧ Inv (i + 1) (putKD acc kk z) (wipeD δ5 own) | none => False) else Inv (i + 1) acc (wipeD δ3 own)) ∧
  ∀ acc δ', Inv ds.length acc δ' → Q (.dct acc) (wipeD δ' own)
theorem dc_ent {w : TDA} {g : TDG} {tt : TDT} {tk tv : TDE} {own fp : List Nat} (hfp : ∀ i ∈ fp, i ∈ own) {σ : St} {H : Hp} {Q : VK} (h : liftO X.K e (dDc w g tt tk tv own) σ H Q) :
    tDc (liftI X.K e w) (liftG X.K e fp g) (liftT X.K e tt) (lift X.K e tk) (lift X.K e tv) own σ H Q := by
  obtain ⟨T, G, δ, Qd, S, q, k⟩ := h
  refine ⟨T, G, δ, _, S, q, fun J ds H1 G1 δ1 S1 st1 Y ⟨Iv, h0, hs, hd⟩ => ?_⟩
  intro L hL
  obtain ⟨S2, st2, nI, nB, new, ap⟩ := S1.new (o := .dK []) hL
  have S3 := S2.hold (l := L) (d := .dct []) ⟨⟨[], upd_same, rfl, .nil, fun _ h => nomatch h⟩, nI, nB, new⟩ ap
  have S4 : SS X.K e (T.push L (.dct [])) G1 (upd H1 L (.dK [])) (wipe σ own) (wipeD δ1 own) := S3.move (wipe_length σ own) fun i hi => by rw [wipe_get, if_neg hi]
  refine ⟨fun i m H' => m = ds.length - i ∧ i ≤ ds.length ∧ ∃ G' δ' acc, Step e G1 (upd H1 L (.dK [])) G' H' ∧ SS X.K e (T.push L (.dct acc)) G' H' (wipe σ own) (wipeD δ' own) ∧ Iv i acc (wipeD δ' own), ⟨ds.length, by simp, Nat.zero_le _, G1, δ1, [], Step.refl, S4, h0⟩, ?_⟩
  rintro i m H5 ⟨rfl, hi, G5, δ5, acc, st5, S5, iv⟩
  have wipe2 : ∀ δ : DSt, wipeD (wipeD δ own) own = wipeD δ own := fun δ => by
    apply List.ext_getElem?
    intro j
    rw [wipeD_get, wipeD_get]
    by_cases hj : j ∈ own
    · rw [if_pos hj, if_pos hj]; cases δ[j]? <;> rfl
    · rw [if_neg hj, if_neg hj]
  by_cases hlt : i < ds.length
  · refine .inr ⟨Y.go i _ G5 H5 _ _ st5.le S5 hlt, fun H' => ∃ G' δ' acc', Step e G1 (upd H1 L (.dK [])) G' H' ∧ SS X.K e (T.push L (.dct acc')) G' H' (wipe σ own) (wipeD δ' own) ∧ Iv (i + 1) acc' (wipeD δ' own), fun H' ⟨G', δ', acc', s', S', iv'⟩ => ⟨ds.length - (i + 1), by omega, rfl, hlt, G', δ', acc', s', S', iv'⟩, fun x H6 y => ?_⟩
    obtain ⟨d, G6, hd', S6, st6, rep⟩ := Y.yld i _ G5 H5 _ _ x H6 st5.le S5 hlt y
    have q6 := hs i d acc _ hd' iv
    rw [wipe2] at q6
    refine ⟨_, G6, _, d, _, S6, rep, q6, fun σ7 δ7 G7 H7 S7 st7 o7 q7 => ⟨?_, ?_⟩⟩
    · have e1 := wipe_only o7 hfp
      rw [e1]
      apply List.ext_getElem?
      intro j
      rw [wipe_get, wipe_get]
      by_cases hj : j ∈ own
      · rw [if_pos hj, if_pos hj]; cases σ[j]? <;> rfl
      · rw [if_neg hj, if_neg hj]
    · have hw7 : (wipe σ own).length = σ7.length ∧ ∀ i, i ∉ own → (wipe σ own)[i]? = σ7[i]? := ⟨o7.1.symm, fun i hi => (o7.2 i fun z => hi (hfp i z)).symm⟩
      refine ⟨_, G7, δ7, _, S7, q7, fun b H8 G8 δ8 S8 st8 q8 => ?_⟩
      have st18 := st5.trans (st6.trans (st7.trans st8))
      cases b with
      | false =>
        rw [if_neg Bool.false_ne_true] at q8
        refine iteF ?_
        exact ⟨G8, δ8, acc, st18, S8.move hw7.1 hw7.2, q8⟩
      | true =>
        rw [if_pos rfl] at q8
        refine iteT ?_
        refine ⟨_, G8, δ8, _, S8, q8, fun vk y H9 G9 δ9 S9 st9 rk q9 => ⟨_, G9, δ9, _, S9, q9, fun v z H10 G10 δ10 S10 st10 rv q10 => ?_⟩⟩
        cases hk : keyD y with
        | none => rw [hk] at q10; exact q10.elim
        | some kk =>
          rw [hk] at q10
          obtain ⟨ek, okk⟩ := key_rep rk hk
          obtain ⟨_, m10, _⟩ := S10.drop
          obtain ⟨kvs, hv, e1, r1, ww⟩ := m10.own
          have hlen : kvs.length = acc.length := by have := congrArg List.length e1; simpa using this
          obtain ⟨p1, p2⟩ := putKD_rep (k := kk) rv e1 r1
          refine ⟨kvs, kk, ek, hv, by rw [hlen, sizeLine_eq]; omega, ?_⟩
          obtain ⟨S11, st11⟩ := S10.writeT (d' := .dct (putKD acc kk z)) (o := .dK (putK kvs kk v)) ⟨_, upd_same, p1, p2, fun x hx => (putKD_keys hx).elim (ww x) fun e => e ▸ okk⟩
          exact ⟨G10, δ10, putKD acc kk z, st18.trans (st9.trans (st10.trans st11)), S11.move hw7.1 hw7.2, q10.2⟩
  · have e1 : i = ds.length := by omega
    subst e1
    refine .inl ⟨Y.stop _ _ G5 H5 _ _ st5.le S5 (Nat.le_refl _), ?_⟩
    obtain ⟨S6, m6, ap6⟩ := S5.drop
    have S7 : SS X.K e T G5 H5 σ (wipeD δ5 own) := by
      have := S6.move (σ' := σ) (vs := own) (wipe_length σ own).symm fun i hi => by rw [wipe_get, if_neg hi]
      rwa [wipe2] at this
    have q7 := hd acc _ iv
    rw [wipe2] at q7
    refine k L (.dct acc) H5 G5 _ S7 (st1.trans (st2.trans st5)) m6 (fun i d hi z => ?_) q7
    have hi' := hi
    by_cases hl : i < δ5.length
    · rw [get_l (by rw [wipeD_len]; exact hl), wipeD_get] at hi'
      by_cases hj : i ∈ own
      · rw [if_pos hj, List.getElem?_eq_getElem hl] at hi'; cases hi'
      · refine ap6 i d hi ?_
        have hl2 : i < σ.length := by
          have := S7.ln
          rw [wipeD_len] at this
          omega
        rw [get_l hl2] at z
        rw [get_l (by rw [wipe_length]; exact hl2), wipe_get, if_neg hj]
        exact z
    · refine ap6 i d hi ?_
      have hl2 : ¬ i < σ.length := by
        have := S7.ln
        rw [wipeD_len] at this
        omega
      rw [List.getElem?_append_right (by omega)] at z
      rw [List.getElem?_append_right (by rw [wipe_length]; omega), wipe_length]
      exact z
theorem do_dc {kx vx tg iter : Expr} {ifs : List Expr} {scope : Scope} {own : List (Str × Nat)} {w : TDA} {g : TDG} {tt : TDT} {tk tv : TDE} {fp : List Nat} (hc : X.calm = true) (hN : X.N.Nodup) (hi : DI X e tg iter w) (ok : BlkOk X.N X.env.scope scope own)
    (hg : ∀ (s : Shared) (H : Hp) (C : Addr) (cl : List (Str × Addr)) (fp' : List Addr), DG (X.blk s H scope (compEnvC scope cl C X.env) fp') e tg fp g) (ht : ∀ (s : Shared) (H : Hp) (C : Addr) (cl : List (Str × Addr)) (fp' : List Addr), DTs (X.blk s H scope (compEnvC scope cl C X.env) fp') e ifs tt)
    (hk : ∀ (s : Shared) (H : Hp) (C : Addr) (cl : List (Str × Addr)) (fp' : List Addr), DE (X.blk s H scope (compEnvC scope cl C X.env) fp') e kx tk)
    (he : ∀ (s : Shared) (H : Hp) (C : Addr) (cl : List (Str × Addr)) (fp' : List Addr), DE (X.blk s H scope (compEnvC scope cl C X.env) fp') e vx tv) (hfp : ∀ i ∈ fp, i ∈ own.map (·.2) := by decide) (hs : ∀ x, foldedSetIterable iter X.env x = pure x := by intro _; rfl) :
    DO X e (.DictComp kx vx [⟨tg, iter, ifs, 0⟩] scope pos) (dDc w g tt tk tv (own.map (·.2))) :=
  pe_imp (pe_dc (g := liftG X.K e fp g) (tt := liftT X.K e tt) (tk := lift X.K e tk) (tv := lift X.K e tv) hc hN hi ok hg ht hk he hs) fun σ H Q h => dc_ent hfp h
end
end T

namespace T
open PySem L2

section
variable {X : Cx} {e : Ent} {pos : Pos}
theorem swD {kx vx : Expr} {gs : List Comprehension} {scope : Scope} {py : Pos} {y : Str} {l : Nat} {env : Env} (hk : env.scope.kind = .function) (hy : env.scope.names.lookup y = some .local) (hl : (py.line == pos.line) = true)
    (hn : (scope.names.any fun (n, k) => n == y && (k == .local || k == .cell)) = false) : swapsWith (.DictComp kx vx gs scope pos) (some (.Name y py)) l env = pure true := by
  have k1 : env.kindOf y = some .local := hy
  have k2 : env.blockKind = .function := by unfold Env.blockKind; rw [hk]; rfl
  show (pure (env.blockKind == .function && env.kindOf y == some .local && py.line == pos.line && !(scope.names.any fun (n, k) => n == y && (k == .local || k == .cell))) : Sem Bool) = pure true
  rw [k1, k2, hl, hn]
  rfl
/-- name = {k: v for ..}, on one row -/
theorem ps_setDc {i : Nat} {y : Str} {py spos : Pos} {kx vx tg iter : Expr} {ifs : List Expr} {scope : Scope} {own : List (Str × Nat)} {wi : TI} {g : TG} {tt : TT} {tk tv : TE} (hc : X.calm = true) (hN : X.N.Nodup) (hy : X.N[i]? = some y) (hyl : X.env.scope.names.lookup y = some .local)
    (hsw : swapsWith (.DictComp kx vx [⟨tg, iter, ifs, 0⟩] scope pos) (some (.Name y py)) spos.line X.env = pure true) (hi : PI X tg iter wi) (ok : BlkOk X.N X.env.scope scope own)
    (hg : ∀ (s : Shared) (H : Hp) (C : Addr) (cl : List (Str × Addr)) (fp' : List Addr), PG (X.blk s H scope (compEnvC scope cl C X.env) fp') tg g) (ht : ∀ (s : Shared) (H : Hp) (C : Addr) (cl : List (Str × Addr)) (fp' : List Addr), PTs (X.blk s H scope (compEnvC scope cl C X.env) fp') ifs tt)
    (hk : ∀ (s : Shared) (H : Hp) (C : Addr) (cl : List (Str × Addr)) (fp' : List Addr), PE (X.blk s H scope (compEnvC scope cl C X.env) fp') kx tk) (he : ∀ (s : Shared) (H : Hp) (C : Addr) (cl : List (Str × Addr)) (fp' : List Addr), PE (X.blk s H scope (compEnvC scope cl C X.env) fp') vx tv)
    (hs : ∀ x, foldedSetIterable iter X.env x = pure x := by intro _; rfl) : PS X (.Assign [.Name y py] (.DictComp kx vx [⟨tg, iter, ifs, 0⟩] scope pos) spos) (tAsg (tDc wi g tt tk tv (own.map (·.2))) (gName i)) := by
  refine ⟨fun pins s σ H Ed I h => ?_⟩
  rw [exec_Assign_Name_used _ _ _ _ hsw]
  refine wpAny_bind (wpAny_standAt (wpAny_bind ?_))
  show wpAny _ X.A (do let _ ← comprehension (.DictComp kx vx [⟨tg, iter, ifs, 0⟩] scope pos) scope X.env (firstIterPos [⟨tg, iter, ifs, 0⟩] pos) newDict false (eval iter X.env) (some (assign (.Name y py) X.env))) _ _ s
  have h : tDc wi g tt tk tv (own.map (·.2)) σ H (fun x H1 => gName i x σ H1 Ed.nx) := h
  refine wpAny_bind (thn (dc_core (Qf := fun _ s' => SP X pins Ed .next s') hc hN I hi ok hg ht hk he hs h fun L C s' m H' I' q hn f => ?_) fun _ s' hq => wpAny_pure (wpAny_pure hq))
  show wpAny _ _ (assign (.Name y py) X.env (.ref L)) _ _ _
  refine wpAny_assign_Name (store_ok2 (v := V.ref L) I' hN hy (.inl hyl) rfl (fun s2 I2 ⟨a, sb, ha⟩ => ?_) (.inr hyl))
  obtain ⟨f0, f1, f2, f3, f4, f5⟩ := f
  have ne : C ≠ a := by
    rcases ha with z | z
    · exact z ▸ f1
    · exact fun w => f4 y a z w.symm
  exact ⟨m, hn.sameBut sb ne, fun h3 sb3 => ⟨_, H', I2.turned (t' := s2.toks) (fun b o hb q => (sb3.2 b hb).trans q) f0 f1 f3 f4 f5, q⟩⟩
/-! ### any, all, len, list of a dict -/
def blsOf : List D → Option (List Bool)
  | [] => some []
  | .bl b :: r => (blsOf r).map (b :: ·)
  | _ => none
theorem blsOf_ok : ∀ {ds : List D} {bs : List Bool}, blsOf ds = some bs → ds = bs.map D.bl
  | [], _, h => by cases h; rfl
  | .bl b :: r, bs, h => by
    rw [blsOf] at h
    cases hr : blsOf r with
    | none => rw [hr] at h; cases h
    | some s => rw [hr] at h; cases h; rw [blsOf_ok hr]; rfl
def anyD (all : Bool) : D → (D → Prop) → Prop
  | .lst ds, Q => (match blsOf ds with | some bs => Q (.bl (if all = true then bs.all id else bs.any id)) | none => False)
  | _, _ => False
theorem cb_any {al : Bool} {r : List V → Hp → VK → Prop} (hr : r = if al = true then rAll X.K else rAny X.K) : CalB X e r (anyD al) := by
  intro T G H σ δ x a Qd Q S ra q k
  cases a with
  | lst ds =>
    simp only [anyD] at q
    cases hb : blsOf ds with
    | none => rw [hb] at q; exact q.elim
    | some bs =>
      rw [hb] at q
      have ed := blsOf_ok hb
      subst ed
      obtain ⟨p, vs, rfl, hp, rl⟩ := ra.lst S.ok
      have ev := rl.bls
      subst ev
      subst hr
      cases al with
      | true => exact ⟨p, bs, rfl, .inl (.inl hp), k _ _ H G S Step.refl (.bl _) q⟩
      | false => exact ⟨p, bs, rfl, .inl (.inl hp), k _ _ H G S Step.refl (.bl _) q⟩
  | _ => exact False.elim q
theorem de_all {a : Expr} {A : Opn} {p : Pos} (hc : X.calm = true) (ha : OPN X e a A) (hg : Gl X "all") (hm : X.mg "all" = none) (hs : starEach (a :: []) X.env = (false, eval a X.env) :: starEach [] X.env := by rfl) : DE X e (.Call (.Name "all" p) [a] [] pos) (dB1 (anyD true) A) :=
  de_B1 (cr_all hc) (cb_any rfl) hg hm (by decide +kernel) ha (hs := hs)
end
end T

namespace T
open PySem L2

section
variable {X : Cx} {e : Ent} {pos : Pos}
/-! ### over the signs of a text -/
def signs (s : Str) : List D := s.cps.toList.map fun c => D.str ⟨#[c]⟩
theorem yields_str {K : PySem.W.Frag} {G : Gh} {s : Str} (hs : sOk s) : Yields K e G (Its s) (signs s) where
  go := fun i T G' H' σ' δ' le S h => by show i < s.cps.size; simpa [signs] using h
  yld := fun i T G' H' σ' δ' x H2 le S h y => by
    obtain ⟨rfl, c, hc, rfl⟩ := y
    have hc' : s.cps.toList[i]? = some c := by rw [Array.getElem?_toList]; exact hc
    refine ⟨.str ⟨#[c]⟩, G', by simp only [signs, List.getElem?_map, hc', Option.map_some], S, Step.refl, .str fun z hz => ?_⟩
    have : z = c := by simpa using hz
    exact this ▸ hs c (List.mem_of_getElem? hc')
  stop := fun i T G' H' σ' δ' le S h => by show s.cps.size ≤ i; simpa [signs] using h
def iStrD (t : TDE) : TDA := fun δ Q => t δ fun d δ1 => match d with | .str s => Q (signs s) δ1 | _ => False
theorem di_str {tg l : Expr} {t : TDE} (h : DE X e l t) : DI X e tg l (iStrD t) :=
  pi_imp (pi_str h) fun σ H R ⟨T, G, δ, Qd, S, q, k⟩ => ⟨T, G, δ, _, S, q, fun v d H' G' δ' S' st rep q' => by
    cases d with
    | str s =>
      cases rep with
      | str hs => exact ⟨s, rfl, k _ _ H' G' δ' S' st (yields_str hs) q'⟩
    | _ => exact False.elim q'⟩
/-! ### constants of the module, of a class -/
theorem de_gstr {x z : Str} {u : Value} (hg : Gl X x) (hm : X.mg x = some u) (r : RelV (.str z) u) (hz : sOk z) (hd : (x == ("__debug__" : Str)) = false := by decide) : DE X e (.Name x pos) (dC (.str z)) := de_c (pe_glob hg hm r hd) fun _ => .str hz
theorem de_gref {x : Str} {a : Addr} (hg : Gl X x) (hm : X.mg x = some (.ref a)) (hd : (x == ("__debug__" : Str)) = false := by decide) : PE X (.Name x pos) (tC (.ref a)) := pe_glob hg hm rfl hd
/-! ### d.get -/
def isDic : D → Bool
  | .dct _ => true
  | .dtp _ => true
  | _ => false
def getAt (a k z : D) (Q : D → Prop) : Prop := match getKD a k with | some o => Q (o.getD z) | none => False
def dGet2 (A : Opn) (tk tx : TDE) : TDE := fun δ Q => match A with
  | .sl i => (match rdS δ i with | some a => isDic a = true | none => False) ∧ tk δ fun k δ1 => tx δ1 fun z δ2 => (match rdS δ2 i with | some a => getAt a k z fun r => Q r δ2 | none => False)
  | .ex t => t δ fun a δ0 => isDic a = true ∧ tk δ0 fun k δ1 => tx δ1 fun z δ2 => getAt a k z fun r => Q r δ2
/-! ### list(d), len(d) -/
def listA : D → (D → Prop) → Prop
  | .dct kds, Q => Q (.lst (kds.map fun p => unK p.1))
  | .dself _ kds, Q => Q (.lst (kds.map fun p => unK p.1))
  | d, Q => listD d Q
theorem repL_keys {K : PySem.W.Frag} {G : Gh} : ∀ {kvs : List (Key × V)} {kds : List (Key × D)}, kvs.map (·.1) = kds.map (·.1) → (∀ k ∈ kds.map (·.1), kOk k) → RepL K G (kvs.map fun p => kV p.1) (kds.map fun p => unK p.1)
  | [], [], _, _ => .nil
  | p :: r, q :: s, e1, w => by
    simp only [List.map_cons, List.cons.injEq] at e1
    rw [List.map_cons, List.map_cons, e1.1]
    exact .cons (unK_rep (w _ (by simp))) (repL_keys e1.2 fun k hk => w k (by simp at hk ⊢; exact .inr hk))
theorem do_listA {a : Expr} {A : Opn} {p : Pos} (hc : X.calm = true) (ha : OPN X e a A) (hg : Gl X "list") (hm : X.mg "list" = none) (hs : starEach (a :: []) X.env = (false, eval a X.env) :: starEach [] X.env := by rfl) : DO X e (.Call (.Name "list" p) [a] [] pos) (dB1 listA A) := by
  have key : ∀ (T : Tm) (G : Gh) (H : Hp) (σ : St) (δ : DSt) (x : V) (a : D) (Qd : D → Prop) (Q : VK), SS X.K e T G H σ δ → RdO X.K G H x a → listA a Qd →
      (∀ l d H', SS X.K e T G H' σ δ → Step e G H G H' → Mine X.K e G H' l d → Apart σ δ T l → Qd d → Q (.ref l) H') →
      (∃ p ys, [x] = [V.ref p] ∧ (SqL X.K H p ys ∨ SqT X.K H p ys) ∧ ∀ l, H l = none → Q (.ref l) (L2.upd H l (.lst ys))) ∨ ∃ (a : Addr) (kvs : List (Key × V)), [x] = [.ref a] ∧ Rd H a (.dK kvs) ∧ ∀ p, H p = none → Q (.ref p) (L2.upd H p (.lst (kvs.map fun kv => kV kv.1))) := by
    intro T G H σ δ x a Qd Q S ra q k
    have new : ∀ {vs : List V} {ds : List D}, RepL X.K G vs ds → Qd (.lst ds) → ∀ l, H l = none → Q (.ref l) (L2.upd H l (.lst vs)) := fun {vs ds} r q l hl => by
      obtain ⟨S2, st2, nI, nB, new, ap⟩ := S.new (o := .lst vs) hl
      exact k l (.lst ds) _ S2 st2 ⟨⟨vs, upd_same, r⟩, nI, nB, new⟩ ap q
    cases a with
    | lst ds => obtain ⟨p, vs, rfl, hp, r⟩ := ra.lst S.ok; exact .inl ⟨p, vs, rfl, .inl (.inl (.inl hp)), new r q⟩
    | tup ds => obtain ⟨p, vs, rfl, hp, r⟩ := ra.tup S.ok; exact .inl ⟨p, vs, rfl, .inr hp, new r q⟩
    | dct kds => obtain ⟨p, kvs, rfl, hp, e1, r1, w⟩ := ra.dctW S.ok; exact .inr ⟨p, kvs, rfl, .inl hp, new (repL_keys e1 w) q⟩
    | dself zz kds => obtain ⟨p, kvs, rfl, hp, e1, r1, w⟩ := ra.dselfW S.ok; exact .inr ⟨p, kvs, rfl, .inl hp, new (repL_keys e1 w) q⟩
    | _ => exact False.elim q
  have pe := fun {ta : TE} (h : PE X a ta) => pe_callTy (p := p) (pos := pos) (CallR.or (call_list_of (X := X)) (call_listD hc)) hg hm (by decide +kernel) (pa_cons h pa_nil hs) (he := hs)
  cases A with
  | ex t =>
    refine pe_imp (pe ha) fun σ H Q ⟨T, G, δ, Qd, S, q, k⟩ => ?_
    exact ⟨T, G, δ, _, S, q, fun v d H1 G1 δ1 S1 st1 rd q1 => key T G1 H1 σ δ1 v d _ Q S1 (.inl rd) q1 fun l d H' S' st' m ap qd => k l d H' G1 δ1 S' (st1.trans st') m ap qd⟩
  | sl i =>
    refine pe_imp (pe ha) fun σ H Q ⟨T, G, δ, Qd, S, q, k⟩ => ?_
    have q : (match rdS δ i with | some d => listA d (fun z => Qd z δ) | none => False) := q
    cases hi : rdS δ i with
    | none => rw [hi] at q; exact q.elim
    | some d =>
      rw [hi] at q
      obtain ⟨v, hv, rd⟩ := rdS_ok S hi
      exact ⟨v, hv, key T G H σ δ v d _ Q S rd q fun l d H' S' st' m ap qd => k l d H' G δ S' st' m ap qd⟩
end
end T

namespace T
open PySem L2

section
variable {X : Cx} {e : Ent} {pos : Pos}
/-! ### promises by position -/
abbrev FnD (P : Program) (w : World) (K : PySem.W.Frag) (mg : Str → Option Value) (base : Heap) (k : Nat) (f : Addr) (sd : SpD) : Prop := FnR P w K mg base CX0 k f (toSp K sd)
theorem fnD_of {P : Program} {w : World} {K : PySem.W.Frag} {mg : Str → Option Value} {base : Heap} {k : Nat} {f : Addr} {fd : FuncData} {ps : List Str} {sd : SpD} (F : FnOk P w K mg base CX0 k f fd ps (toSp K sd)) (hb : Binds K fd ps []) : FnD P w K mg base k f sd :=
  (F.raw hb .nil).imp fun vs H Q E h => by rw [List.append_nil]; exact h
/-- x(e, ..), x a def with a promise by position -/
theorem pe_callRP {CX : CXT} {k : Nat} {f : Addr} {sp : Sp} {E : XK} {x : Str} {a : Expr} {es : List Expr} {t : TA} {p : Pos} (F : FnR X.prog X.w X.K X.mg X.base CX k f sp) (hr : Room k X.A) (hk : PySem.W.keepIn X.K (.ref f) = true) (hg : Gl X x) (hm : X.mg x = some (.ref f)) (hx : Passes CX X E) (ha : PA X (a :: es) t)
    (hd : (x == ("__debug__" : Str)) = false := by decide) (he : starEach (a :: es) X.env = (false, eval a X.env) :: starEach es X.env := by rfl) (hpl : (backTo pos (starEach es X.env)).any (·.1) = false := by rfl) :
    PE X (.Call (.Name x p) (a :: es) [] pos) (fun σ H Q => t σ H fun vs H1 => sp vs H1 Q E) :=
  ⟨fun pins s σ H Q I h => wpAny_Call_Name_kw (ld_glob I hg hm (PySem.W.callWith_K (h₀ := X.base) I.ok.mod.kin hk (thn (ha.run pos pins s σ H _ I h) fun us s1 ⟨vs, H1, I1, r, q⟩ => ⟨I1.kIn, wpAny_call (run_fnR F hr hx I1 r q)⟩) he hpl) hd)⟩
structure CalR (P : Program) (w : World) (K : PySem.W.Frag) (mg : Str → Option Value) (base : Heap) (k : Nat) (x : Str) (sd : SpD) : Prop where
  ex : ∃ f, FnD P w K mg base k f sd ∧ mg x = some (.ref f) ∧ PySem.W.keepIn K (.ref f) = true
theorem toSp_go {sd : SpD} {T : Tm} {G G1 : Gh} {H H1 : Hp} {σ : St} {δ1 : DSt} {vs : List V} {ds : List D} {Qd : D → DSt → Prop} {Q : VK} (S1 : SS X.K e T G1 H1 σ δ1) (st : Step e G H G1 H1) (rs : RepL X.K G1 vs ds)
    (q : sd ds fun z => Qd z δ1) (k : ∀ v d H' G' δ', SS X.K e T G' H' σ δ' → Step e G H G' H' → Rep X.K G' v d → Qd d δ' → Q v H') : toSp X.K sd vs H1 Q E0 :=
  ⟨G1, ds, _, S1.ok, rs, q, fun d' v' G' H' ok c rep qd => by
    obtain ⟨S2, st2⟩ := S1.after ok c
    exact k v' d' H' G' δ1 S2 (st.trans st2) rep qd⟩
theorem de_callR {k j : Nat} {x : Str} {sd : SpD} {a : Expr} {es : List Expr} {t : TDA} {p : Pos} (c : CalR X.prog X.w X.K X.mg X.base k x sd) (hr : Room j X.A) (hk : k ≤ j) (hg : Gl X x) (ha : DA X e (a :: es) t)
    (hd : (x == ("__debug__" : Str)) = false := by decide) (he : starEach (a :: es) X.env = (false, eval a X.env) :: starEach es X.env := by rfl) (hpl : (backTo pos (starEach es X.env)).any (·.1) = false := by rfl) : DE X e (.Call (.Name x p) (a :: es) [] pos) (dCall sd t) := by
  obtain ⟨f, F, hm, kp⟩ := c.ex
  refine pe_imp (pe_callRP F (hr.mono hk) kp hg hm pass0 ha hd he hpl) fun σ H Q ⟨T, G, δ, Qd, S, q, k⟩ => ⟨T, G, δ, _, S, q, fun vs ds H1 G1 δ1 S1 st1 r _ q1 => ?_⟩
  exact toSp_go S1 st1 r q1 k
/-! ### def f(a, .., *v) -/
def starSd (n : Nat) (sd : SpD) : SpD := fun ds Q => n ≤ ds.length ∧ ds.length ≤ 1000 ∧ sd (ds.take n ++ [.tup (ds.drop n)]) Q
theorem Step.over {G G2 : Gh} {H H2 : Hp} {p : Addr} {o : HO} (hp : H p = none) (nI : G.I p = none) (nB : ¬ foot G p) (st : Step ⟨G.fz p o, L2.upd H p o⟩ (G.fz p o) (L2.upd H p o) G2 H2) : Step ⟨G, H⟩ G H G2 H2 := by
  have ne : ∀ a, (H a).isSome = true → a ≠ p := fun a h z => by rw [z, hp] at h; cases h
  have al : ∀ a, (H a).isSome = true → (L2.upd H p o a).isSome = true := fun a h => by rw [upd_ne (ne a h)]; exact h
  exact ⟨(Gh.fz_le nI).trans st.le, fun a h n => (st.old a (al a h) n).trans (upd_ne (ne a h)), fun a h q => st.noI a (al a h) (by show L2.upd G.I p o a = none; rw [upd_ne (ne a h)]; exact q), fun a h n => st.noB a (al a h) n, fun a h q => st.dom a (al a h) (al a h)⟩
theorem star_sp {K : PySem.W.Frag} {n : Nat} {sd : SpD} {vs : List V} {H : Hp} {Q : VK} {E : XK} (h : toSp K (starSd n sd) vs H Q E) : ∃ ws rest, vs = ws ++ rest ∧ ws.length = n ∧ rest.length ≤ sizeLine ∧ ∀ p, H p = none → toSp K sd (ws ++ [V.ref p]) (L2.upd H p (.tup rest)) Q E := by
  obtain ⟨G, ds, Qd, ok, r, ⟨h1, h2, q⟩, k⟩ := h
  have hl := r.length
  refine ⟨vs.take n, vs.drop n, (List.take_append_drop n vs).symm, by rw [List.length_take]; omega, by rw [List.length_drop]; exact le_line (by omega), fun p hp => ?_⟩
  have nI := ok.iNone hp
  have nB := ok.noFoot hp
  have le : Le G (G.fz p (.tup (vs.drop n))) := Gh.fz_le nI
  refine ⟨G.fz p (.tup (vs.drop n)), _, Qd, (ok.updO nI nB).fz upd_same nB, ((r.take n).mono le).append (.one (.tup upd_same ((r.drop n).mono le))), q, fun d v G' H' ok' st rep qd => ?_⟩
  exact k d v G' H' ok' (Step.over hp nI nB st) rep qd
end
end T

namespace T
open PySem L2

section
variable {X : Cx} {e : Ent} {pos : Pos} {K : PySem.W.Frag} {T : Tm} {G : Gh} {H : Hp} {σ : St} {δ : DSt}
theorem Apart.ne {l p : Addr} {d : D} (S : SS K e (T.push l d) G H σ δ) (h : Apart σ δ (T.push l d) p) : p ≠ l := fun z => by
  subst z
  have hln := S.s.len
  have hl3 := S.ln
  refine h (δ.length + T.d.length) d (by simp [Tm.push]) ?_
  have e1 : σ.length + T.v.length = δ.length + T.d.length := by simp [Tm.push] at hln; omega
  rw [← e1]
  simp [Tm.push]
theorem Apart.push {l p : Addr} {d : D} (S : SS K e (T.push l d) G H σ δ) (h : Apart σ δ T p) (ne : p ≠ l) : Apart σ δ (T.push l d) p := fun i x hi hx => by
  have hln := S.s.len
  have hl3 := S.ln
  have e1 : σ.length + T.v.length = δ.length + T.d.length := by simp [Tm.push] at hln; omega
  have hi' : ((δ ++ T.d) ++ [Sl.ow d])[i]? = some (.ow x) := by rw [List.append_assoc]; exact hi
  have hx' : ((σ ++ T.v) ++ [some (V.ref l)])[i]? = some (some (.ref p)) := by rw [List.append_assoc]; exact hx
  rw [getElem?_snoc] at hi' hx'
  by_cases z : i = (δ ++ T.d).length
  · rw [if_pos (by simp at z ⊢; omega)] at hx'
    cases hx'
    exact ne rfl
  · rw [if_neg z] at hi'
    rw [if_neg (by simp at z ⊢; omega)] at hx'
    exact h i x hi' hx'
end
end T

namespace T
open PySem L2

section
variable {X : Cx} {e : Ent}
end
end T

namespace T
open PySem L2
/-! ### facts of the text, by tests of one's own -/
theorem fnD_at {K : PySem.W.Frag} {a : Addr} {d : DefX} {vs : List V} (e : fnAt K a = d.says) (c : fnTest K a d.ql vs = true) : ∃ fd, FunD K d.nm d.ql (defArgs d.st) (defBody d.st) (defScope d.st) vs [] a fd := by
  obtain ⟨kp, c2⟩ := He.ba c
  unfold fnAt at e
  cases q : K.lookup a with
  | none => rw [q] at c2; cases c2
  | some o =>
    rw [q] at c2 e
    obtain ⟨oc, od, dt, osl⟩ := o
    cases dt with
    | func u =>
      obtain ⟨y1, y2, y3, y4, y5, y6, y7, y8, y9, y10, y11, y12, y13, y14, y15⟩ := u
      have e2 : (some (y1, y2, y3, y4, y5, y6, y7, y15) : He.FnW) = some (d.nm, d.ql, defArgs d.st, .stmts (defBody d.st), defScope d.st, mainGlobals, [], builtinsNs) := e
      simp only [Option.some.injEq, Prod.mk.injEq] at e2
      obtain ⟨z1, z2, z3, z4, z5, z6, z7, z8⟩ := e2
      subst z1 z2 z3 z4 z5 z6 z7 z8
      have c3 : (PySem.W.codeIn K y13 d.ql && (He.dflB K y8 vs && He.kwdB K y9 [])) = true := c2
      obtain ⟨k1, k2⟩ := He.ba c3
      obtain ⟨k3, k4⟩ := He.ba k2
      exact ⟨_, ⟨oc, od, y8, y9, y10, y11, y12, y13, y14, osl, rfl, q, k1, He.dflB_ok k3, He.kwdB_ok k4⟩, kp⟩
    | _ => cases c2
def obsX (ts : List Tst) (ds : List DefX) (K : PySem.W.Frag) : He.AlD := ((ts.all fun t => t K) && ds.all fun d => fnTest K (d.ad K) d.ql (d.df.map (He.Dv.v K)), ds.map fun d => fnAt K (d.ad K))
def SaysX (ts : List Tst) (ds : List DefX) (K : PySem.W.Frag) : Prop := obsX ts ds K = (true, ds.map DefX.says)
section
variable {ts : List Tst} {ds : List DefX} {K : PySem.W.Frag}
theorem SaysX.tst (c : SaysX ts ds K) (i : Nat) {t : Tst} (h : ts[i]? = some t := by rfl) : t K = true := by
  have c1 := (He.ba (show ((ts.all fun t => t K) && ds.all fun d => fnTest K (d.ad K) d.ql (d.df.map (He.Dv.v K))) = true from congrArg Prod.fst c)).1
  exact List.all_eq_true.mp c1 t (List.mem_of_getElem? h)
theorem SaysX.dfn (c : SaysX ts ds K) (i : Nat) {d : DefX} (h : ds[i]? = some d := by rfl) : ∃ fd, FunD K d.nm d.ql (defArgs d.st) (defBody d.st) (defScope d.st) (d.df.map (He.Dv.v K)) [] (d.ad K) fd := by
  have c2 := (He.ba (show ((ts.all fun t => t K) && ds.all fun d => fnTest K (d.ad K) d.ql (d.df.map (He.Dv.v K))) = true from congrArg Prod.fst c)).2
  have e2 : (ds.map fun d => fnAt K (d.ad K))[i]? = (ds.map DefX.says)[i]? := by rw [show (ds.map fun d => fnAt K (d.ad K)) = ds.map DefX.says from congrArg Prod.snd c]
  rw [List.getElem?_map, List.getElem?_map, h] at e2
  exact fnD_at (Option.some.inj e2) (List.all_eq_true.mp c2 d (List.mem_of_getElem? h))
end
/-! tests -/
theorem prop_ok {K : PySem.W.Frag} {x f : Str} (c : tProp x f K = true) : PropOf K (He.ga K x) f (pAd K x f) (pGet K x f) := by
  obtain ⟨c1, c2⟩ := He.ba c
  obtain ⟨c3, c4⟩ := He.ba c2
  obtain ⟨c5, c6⟩ := He.ba c4
  refine ⟨He.eqO_ok c1, He.eqO_ok c3, of_decide_eq_true c5, ?_⟩
  unfold pGet
  cases hr : PySem.W.recIn K (pAd K x f) "property" with
  | none => rw [hr] at c6; cases c6
  | some l =>
    rw [hr] at c6
    cases l with
    | nil => cases c6
    | cons v r =>
      cases v with
      | ref g => exact ⟨r, rfl⟩
      | _ => cases c6
end T

namespace T
open PySem L2
/-! ### a whole number written in a class -/
def CConOk (K : PySem.W.Frag) (x f : Str) (i : Int) : Prop := ClX.CRead K (He.ga K x) (.type "type") ∧ ∃ u, ClX.CVal K (He.ga K x) (.type "type") f (.int i) u
theorem ccon_ok {K : PySem.W.Frag} {x f : Str} {i : Int} (c : tCCon x f i K = true) : CConOk K x f i := by
  obtain ⟨c1, c2⟩ := He.ba c
  obtain ⟨c3, c4⟩ := He.ba c2
  refine ⟨⟨c1, He.eqO_ok c3⟩, ?_⟩
  cases hf : PySem.W.findCls K (.ref (He.ga K x)) (.type "type") f with
  | none => rw [hf] at c4; cases c4
  | some r =>
    rw [hf] at c4
    cases r with
    | val v =>
      cases v with
      | int j t =>
        have ej : j = i := of_decide_eq_true c4
        subst ej
        exact ⟨_, ⟨hf, ⟨t, rfl⟩⟩⟩
      | _ => cases c4
    | _ => cases c4
section
variable {X : Cx} {e : Ent} {pos : Pos}
theorem de_ccon {x f : Str} {i : Int} {p : Pos} (c : CConOk X.K x f i) (hg : Gl X x) (hm : X.mg x = some (.ref (He.ga X.K x))) (hd : (x == ("__debug__" : Str)) = false := by decide)
    (hb : attributeBase (.Name x p) f X.env (eval (.Name x p) X.env) = eval (.Name x p) X.env := by rfl) : DE X e (.Attribute (.Name x p) f pos) (dC (.int i)) :=
  pe_imp (ClX.pe_cval (de_gref hg hm hd) hb) fun σ H Q ⟨T, G, δ, Qd, S, q, k⟩ => by
    obtain ⟨r, u, cv⟩ := c
    exact ⟨_, _, _, u, rfl, r, cv, k _ (.int i) H G δ S Step.refl (.int i) q⟩
end
end T

namespace T
open PySem L2
section
variable {X : Cx} {e : Ent} {pos : Pos}
/-! ### a dict written out -/
def dPairs : List (TDE × TDE) → DSt → (List (D × D) → DSt → Prop) → Prop
  | [], δ, Q => Q [] δ
  | p :: r, δ, Q => p.1 δ fun k δ1 => p.2 δ1 fun v δ2 => dPairs r δ2 fun ps δ3 => Q ((k, v) :: ps) δ3
def keysOf : List (D × D) → Option (List (Key × D))
  | [] => some []
  | p :: r => match keyD p.1 with | some k => (keysOf r).map ((k, p.2) :: ·) | none => none
def mergeD (acc more : List (Key × D)) : List (Key × D) := more.foldl (fun a p => putKD a p.1 p.2) acc
def dDisp (trs : List (TDE × TDE)) : TDE := fun δ Q => dPairs trs δ fun ps δ1 => match keysOf ps with | some kds => Q (.dct (mergeD [] kds)) δ1 | none => False
/-! ### x += e of a whole number -/
def dAug (i : Nat) (t : TDE) : TDS := fun F δ => match rdS δ i with | some (.int a) => t δ fun d δ1 => (match d with | .int b => F.nx (δ1.set i (.im (.int (a + b)))) | _ => False) | _ => False
/-- a text of the module -/
theorem de_gstrX {x z : Str} (hg : Gl X x) (hm : ∃ t, X.mg x = some (.str z t)) (hz : sOk z) (hd : (x == ("__debug__" : Str)) = false := by decide) : DE X e (.Name x pos) (dC (.str z)) := by
  obtain ⟨t, hm⟩ := hm
  exact de_gstr hg hm ⟨t, rfl⟩ hz hd
end
end T

namespace T
open PySem L2
section
variable {X : Cx} {e : Ent} {pos : Pos}
/-! ### x == y, x < y .. by the class's own def, both instances -/
theorem op_ownI {op : CmpOp} {CX : CXT} {n : Nat} {C g : Addr} {sp : Sp} {E : XK} (hop : ∀ a b, compareOp op a b = richCompare op a b) (hs : PySem.W.findIn X.K (.ref C) (cmpInfo op).2.1 = some (some (.ref g))) (hf : PySem.W.isFn X.K (.ref g) = true) (F : FnR X.prog X.w X.K X.mg X.base CX n g sp)
    (hr : Room n X.A) (hx : Passes CX X E) : OpR X (compareOp op) (fun x y H Q => ∃ a dx fs b C' dy gs, x = .ref a ∧ y = .ref b ∧ H a = some (.ins C dx fs) ∧ H b = some (.ins C' dy gs) ∧ PySem.W.notFirst X.K C (.ref C') = true ∧ sp [x, y] H Q E) := by
  rintro pins s σ H x y v u Q I rx ry ⟨a, dx, fs, b, C', dy, gs, rfl, rfl, ha, hb, hn, q⟩
  cases (show v = Value.ref a from rx)
  cases (show u = Value.ref b from ry)
  obtain ⟨mA, O, _⟩ := ins_get I.hok ha
  obtain ⟨od, J, _⟩ := O.look
  obtain ⟨mB, O', _⟩ := ins_get I.hok hb
  obtain ⟨od', J', _⟩ := O'.look
  obtain ⟨m, hF⟩ := I.fr
  rw [hop]
  refine PySem.W.cmp_K (op := op) (tb := .ref C') hr.units0 hF I.ok.mod.kin J J'.type hn hs hf (wpAny_mono (wpAny_call (run_fnR (us := [.ref a, .ref b]) (vs := [.ref a, .ref b]) F hr hx I (.cons rfl (.cons rfl .nil)) q)) (fun w s' z => ?_) fun _ _ x => x)
  obtain ⟨z', H', I', rz, qz⟩ := z
  exact SlX.cmpback rz ⟨z', H', I', rz, qz⟩
end
end T

namespace T
open PySem L2
section
variable {X : Cx} {e : Ent} {pos : Pos}
/-- x + y .. by the class's own def, both of one class -/
theorem op_ownB {op : Operator} {CX : CXT} {n : Nat} {C g : Addr} {sp : Sp} {E : XK} (hc : PySem.W.selfFirst X.K C = true) (hs : PySem.W.findIn X.K (.ref C) (PySem.dunder op.info.2) = some (some (.ref g))) (hf : PySem.W.isFn X.K (.ref g) = true) (F : FnR X.prog X.w X.K X.mg X.base CX n g sp)
    (hr : Room n X.A) (hx : Passes CX X E) : OpR X (binaryOp op) (fun x y H Q => ∃ a dx fs b dy gs, x = .ref a ∧ y = .ref b ∧ H a = some (.ins C dx fs) ∧ H b = some (.ins C dy gs) ∧ sp [x, y] H Q E) := by
  rintro pins s σ H x y v u Q I rx ry ⟨a, dx, fs, b, dy, gs, rfl, rfl, ha, hb, q⟩
  cases (show v = Value.ref a from rx)
  cases (show u = Value.ref b from ry)
  obtain ⟨mA, O, _⟩ := ins_get I.hok ha
  obtain ⟨od, J, _⟩ := O.look
  obtain ⟨mB, O', _⟩ := ins_get I.hok hb
  obtain ⟨od', J', _⟩ := O'.look
  obtain ⟨m, hF⟩ := I.fr
  refine PySem.W.binop_K (op := op) hF I.ok.mod.kin J J'.type hc hs hf (wpAny_mono (wpAny_call (run_fnR (us := [.ref a, .ref b]) (vs := [.ref a, .ref b]) F hr hx I (.cons rfl (.cons rfl .nil)) q)) (fun w s' z => ?_) fun _ _ x => x)
  obtain ⟨z', H', I', rz, qz⟩ := z
  exact SlX.cmpback rz ⟨z', H', I', rz, qz⟩
end
end T

namespace T
open PySem L2
section
variable {X : Cx} {e : Ent} {pos : Pos}
/-- a class's own def for a comparison -/
structure CalO (P : Program) (w : World) (K : PySem.W.Frag) (mg : Str → Option Value) (base : Heap) (k : Nat) (op : CmpOp) (C : Str) (sd : SpD) : Prop where
  ex : ∃ g, FnD P w K mg base k g sd ∧ PySem.W.findIn K (.ref (He.ga K C)) (cmpInfo op).2.1 = some (some (.ref g)) ∧ PySem.W.isFn K (.ref g) = true
/-- two instances of C by C's own def, else as g says -/
def ownD (C : Str) (sd : SpD) (g : D → D → (D → Prop) → Prop) (a b : D) (Q : D → Prop) : Prop := match insOf a, insOf b with
  | some (C1, f1), some (C2, f2) => C1 = C ∧ C2 = C ∧ sd [.ins C f1, .ins C f2] Q
  | none, none => g a b Q
  | _, _ => False
theorem opd_own {op : CmpOp} {k j : Nat} {C : Str} {sd : SpD} {g : D → D → (D → Prop) → Prop} (c : CalO X.prog X.w X.K X.mg X.base k op C sd) (hop : ∀ a b, compareOp op a b = richCompare op a b) (hr : Room j X.A) (hk : k ≤ j) (hg : OpD X e (WOp X (compareOp op)) g) :
    ∀ (T : Tm) (G : Gh) (H : Hp) (σ : St) (δ : DSt) (x y : V) (a b : D) (Qd : D → Prop) (Q : VK), SS X.K e T G H σ δ → Rep X.K G x a → Rep X.K G y b → ownD C sd g a b Qd →
      (∀ v d H' G', SS X.K e T G' H' σ δ → Step e G H G' H' → Rep X.K G' v d → Qd d → Q v H') → WOp X (compareOp op) x y H Q := by
  intro T G H σ δ x y a b Qd Q S ra rb q k
  unfold ownD at q
  cases hi : insOf a with
  | none =>
    cases hj : insOf b with
    | none => rw [hi, hj] at q; exact hg T G H σ δ x y a b Qd Q S (.inl ra) (.inl rb) q k
    | some _ => rw [hi, hj] at q; exact q.elim
  | some p1 =>
    cases hj : insOf b with
    | none => rw [hi, hj] at q; exact q.elim
    | some p2 =>
      rw [hi, hj] at q
      obtain ⟨C1, f1⟩ := p1
      obtain ⟨C2, f2⟩ := p2
      obtain ⟨rfl, rfl, q⟩ := q
      obtain ⟨gf, F, h1, h2⟩ := c.ex
      obtain ⟨pa, dx, fa, rfl, ha, _⟩ := insOf_ok S.ok (.inl ra) hi
      obtain ⟨pb, dy, fb, rfl, hb, _⟩ := insOf_ok S.ok (.inl rb) hj
      refine wop_of (op_ownI hop h1 h2 F (hr.mono hk) pass0) ⟨pa, dx, fa, pb, _, dy, fb, rfl, rfl, ha, hb, by simp [PySem.W.notFirst], ?_⟩
      exact ⟨G, _, Qd, S.ok, .cons (ra.toIns hi) (.cons (rb.toIns hj) .nil), q, fun d v G' H' ok cc rep qd => by
        obtain ⟨S2, st2⟩ := S.after ok cc
        exact k v d H' G' S2 st2 rep qd⟩
end
end T

namespace T
open PySem L2
section
variable {X : Cx} {e : Ent} {pos : Pos}
/-- an operation on two frozen things -/
def OpF (X : Cx) (e : Ent) (W : R2) (g : D → D → (D → Prop) → Prop) : Prop := ∀ (T : Tm) (G : Gh) (H : Hp) (σ : St) (δ : DSt) (x y : V) (a b : D) (Qd : D → Prop) (Q : VK), SS X.K e T G H σ δ → Rep X.K G x a → Rep X.K G y b → g a b Qd →
  (∀ v d H' G', SS X.K e T G' H' σ δ → Step e G H G' H' → Rep X.K G' v d → Qd d → Q v H') → W x y H Q
theorem OpD.f {W : R2} {g : D → D → (D → Prop) → Prop} (h : OpD X e W g) : OpF X e W g := fun T G H σ δ x y a b Qd Q S ra rb => h T G H σ δ x y a b Qd Q S (.inl ra) (.inl rb)
theorem de_binF {a b : Expr} {t u : TDE} {op : Operator} {g : D → D → (D → Prop) → Prop} (ho : OpF X e (WOp X (binaryOp op)) g) (ha : DE X e a t) (hb : DE X e b u) : DE X e (.BinOp a op b pos) (dB2 g t u) :=
  pe_imp (pe_op wop_self ha hb) fun σ H Q ⟨T, G, δ, Qd, S, q, k⟩ => ⟨T, G, δ, _, S, q, fun x d H1 G1 δ1 S1 st1 r1 q1 => ⟨T, G1, δ1, _, S1, q1, fun y d2 H2 G2 δ2 S2 st2 r2 q2 =>
    ho T G2 H2 σ δ2 x y d d2 _ Q S2 (r1.mono st2.le) r2 q2 fun v z H' G' S' st' rep qd => k v z H' G' δ2 S' (st1.trans (st2.trans st')) rep qd⟩⟩
end
end T

namespace T
open PySem L2
/-! ### static methods, class methods, class values, isinstance of own classes -/
structure SMet (K : PySem.W.Frag) (C : Addr) (mc : Value) (m : Str) (p g : Addr) : Prop where
  at_ : PySem.W.findCls K (.ref C) mc m = some (.get (.builtin "staticmethod.__get__") (.ref p) .none (.ref C))
  rc : ∃ rest, PySem.W.recIn K p "staticmethod" = some (.ref g :: rest)
  kp : PySem.W.keepIn K (.ref g) = true
structure SInst (K : PySem.W.Frag) (C : Addr) (m : Str) (p g : Addr) : Prop where
  pg : PySem.W.plainGet K C Str.empty = true
  ic : PySem.W.isClsIn K C = true
  at_ : PySem.W.findIn K (.ref C) m = some (some (.ref p))
  ty : PySem.W.typeIn K (.ref p) = some (.type "staticmethod")
  get : PySem.W.specialIn K (.ref p) "__get__" = some (some (.builtin "staticmethod.__get__"))
  tk : PySem.W.takesIn K (.ref p) = some false
  cp : PySem.W.copiedNames.contains m = false
  rc : ∃ rest, PySem.W.recIn K p "staticmethod" = some (.ref g :: rest)
  kp : PySem.W.keepIn K (.ref g) = true
section
variable {X : Cx} {CX : CXT} {k : Nat} {C p g : Addr} {mc : Value} {sp : Sp} {E : XK} {o e : Expr} {es : List Expr} {f m : Str} {pos apos : Pos} {ta : TE} {t : TA} {pl : Sem Bool}
theorem pe_smeth (he : PE X o ta) (r : ClX.CRead X.K C mc) (c : SMet X.K C mc m p g) (F : FnR X.prog X.w X.K X.mg X.base CX k g sp) (hr : Room k X.A) (hx : Passes CX X E) (ha : PA X (e :: es) t)
    (hst : starEach (e :: es) X.env = (false, eval e X.env) :: starEach es X.env := by rfl) (hpl : (backTo pos (starEach es X.env)).any (·.1) = false := by rfl)
    (ht : eval (.Call (.Attribute o m apos) (e :: es) [] pos) X.env = (do
      let ov ← eval o X.env
      standAt apos.atName
      let (f, first) ← holding [ov] (getMethod ov m pl)
      callWith pos f first (backTo pos (starEach (e :: es) X.env)) (backToKw pos (keywordEach [] X.env))) := by rfl) :
    PE X (.Call (.Attribute o m apos) (e :: es) [] pos) (fun σ H Q => ta σ H fun x H1 => x = .ref C ∧ t σ H1 fun vs H2 => sp vs H2 Q E) := by
  refine ⟨fun pins s σ H Q I h => ?_⟩
  refine PySem.W.methodCall_KW (pl := pl) (thn (he.run pins s σ H _ I h) fun u s1 ⟨x, H1, I1, rx, ex, q⟩ => ?_) ht
  subst ex
  obtain rfl : u = Value.ref C := rx
  obtain ⟨rest, hp⟩ := c.rc
  refine PySem.W.method_cls I1.kIn r.ga (PySem.W.cls_bind I1.kIn r.rd c.at_ (wpAny_call (PySem.W.sm_get (s := { s1 with toks := s1.toks + 1 }) I1.kIn hp (PySem.W.handed_on rfl ?_))))
  have I2 := I1.tok (s1.toks + 1)
  refine PySem.W.callWith_K (first := []) (h₀ := X.base) I.ok.mod.kin c.kp (thn (ha.run pos pins _ σ H1 _ I2 q) fun us s2 ⟨vs, H2, I3, r, q2⟩ => ⟨I3.kIn, ?_⟩) hst hpl
  exact wpAny_call (run_fnR (us := us) (vs := vs) F hr hx I3 r q2)
end
section
variable {X : Cx} {e : Ent} {pos apos : Pos}
/-- the name of a class, as a value -/
theorem de_cls {C : Str} {p : Pos} (hg : Gl X C) (hm : X.mg C = some (.ref (He.ga X.K C))) (hd : (C == ("__debug__" : Str)) = false := by decide) : DE X e (.Name C p) (dC (.cls C)) := de_c (pe_glob (v := .ref (He.ga X.K C)) hg hm rfl hd) fun _ => .cls C
structure CalSt (P : Program) (w : World) (K : PySem.W.Frag) (mg : Str → Option Value) (base : Heap) (k : Nat) (C m : Str) (sd : SpD) : Prop where
  ex : ∃ mc p g, FnD P w K mg base k g sd ∧ ClX.CRead K (He.ga K C) mc ∧ SMet K (He.ga K C) mc m p g ∧ SInst K (He.ga K C) m p g
/-- C.m(..), m a static method; c the class itself -/
def dStat (C : Str) (sd : SpD) (tc : TDE) (t : TDA) : TDE := fun δ Q => tc δ fun d δ1 => d = .cls C ∧ t δ1 fun ds δ2 => sd ds fun z => Q z δ2
/-- o.m(..), m a static method of o's class -/
def dStatI (C m : Str) (sd : SpD) (tc : TDE) (t : TDA) : TDE := fun δ Q => tc δ fun d δ1 => match insOf d with
  | some (C', fs) => C' = C ∧ fs.lookup m = none ∧ t δ1 fun ds δ2 => sd ds fun z => Q z δ2
  | none => False
def dClsM (C : Str) (sd : SpD) (tc : TDE) (t : TDA) : TDE := fun δ Q => tc δ fun d δ1 => d = .cls C ∧ t δ1 fun ds δ2 => sd (.cls C :: ds) fun z => Q z δ2
theorem Rep.clsI {K : PySem.W.Frag} {G : Gh} {v : V} {C : Str} (r : Rep K G v (.cls C)) : v = .ref (He.ga K C) := by cases r; rfl
theorem fnD_go {sd : SpD} {T : Tm} {G G1 : Gh} {H H1 : Hp} {σ : St} {δ1 : DSt} {vs : List V} {ds : List D} {Qd : D → DSt → Prop} {Q : VK} (S1 : SS X.K e T G1 H1 σ δ1) (st : Step e G H G1 H1) (rs : RepL X.K G1 vs ds)
    (q : sd ds fun z => Qd z δ1) (k : ∀ v d H' G' δ', SS X.K e T G' H' σ δ' → Step e G H G' H' → Rep X.K G' v d → Qd d δ' → Q v H') : toSp X.K sd vs H1 Q E0 :=
  ⟨G1, ds, _, S1.ok, rs, q, fun d' v' G' H' ok c rep qd => by
    obtain ⟨S2, st2⟩ := S1.after ok c
    exact k v' d' H' G' δ1 S2 (st.trans st2) rep qd⟩
theorem de_stat {k j : Nat} {C m : Str} {sd : SpD} {o a : Expr} {es : List Expr} {tc : TDE} {t : TDA} {pl : Sem Bool} (c : CalSt X.prog X.w X.K X.mg X.base k C m sd) (hr : Room j X.A) (hk : k ≤ j) (ho : DE X e o tc) (ha : DA X e (a :: es) t)
    (hst : starEach (a :: es) X.env = (false, eval a X.env) :: starEach es X.env := by rfl) (hpl : (backTo pos (starEach es X.env)).any (·.1) = false := by rfl)
    (ht : eval (.Call (.Attribute o m apos) (a :: es) [] pos) X.env = (do
      let ov ← eval o X.env
      standAt apos.atName
      let (f, first) ← holding [ov] (getMethod ov m pl)
      callWith pos f first (backTo pos (starEach (a :: es) X.env)) (backToKw pos (keywordEach [] X.env))) := by rfl) :
    DE X e (.Call (.Attribute o m apos) (a :: es) [] pos) (dStat C sd tc t) := by
  obtain ⟨mc, p, g, F, r, s, _⟩ := c.ex
  refine pe_imp (pe_smeth (pl := pl) (E := E0) ho r s F (hr.mono hk) pass0 ha hst hpl ht) fun σ H Q ⟨T, G, δ, Qd, S, q, k⟩ => ?_
  refine ⟨T, G, δ, _, S, q, fun v d H1 G1 δ1 S1 st1 rd ⟨ed, q1⟩ => ?_⟩
  subst ed
  refine ⟨rd.clsI, T, G1, δ1, _, S1, q1, fun vs ds H2 G2 δ2 S2 st2 r2 _ q2 => ?_⟩
  exact fnD_go S2 (st1.trans st2) r2 q2 k
/-- isinstance(x, C): by a table of the classes, false for built-in types -/
structure IsiOk (K : PySem.W.Frag) (C : Str) (tb : List (Str × Bool)) : Prop where
  own : ∀ p ∈ tb, PySem.W.kitOne K (.ref (He.ga K p.1)) (.ref (He.ga K C)) = some p.2
  blt : ∀ t ∈ ["NoneType", "bool", "int", "str", "tuple", "list", "dict"], PySem.W.kitOne K (.type t) (.ref (He.ga K C)) = some false
  cls : ∀ p ∈ tb, Cls K (He.ga K p.1) ∧ PySem.W.findIn K (.ref (He.ga K p.1)) "__class__" = some (some (.builtin "object.__class__")) ∧ PySem.W.mroIn K (He.ga K p.1) (.type "object") = some true
  obj : PySem.W.specialIn K (.builtin "object.__class__") "__get__" = some (some (.builtin "getset_descriptor.__get__")) ∧ PySem.W.takesIn K (.builtin "object.__class__") = some true
def isiC (tb : List (Str × Bool)) (a : D) (Q : D → Prop) : Prop := match insOf a with
  | some (C', _) => (match tb.lookup C' with | some b => Q (.bl b) | none => False)
  | none => (match tyN a with | some _ => Q (.bl false) | none => False)
theorem lookup_mem {α β : Type} [BEq α] [LawfulBEq α] {a : α} {b : β} : ∀ {l : List (α × β)}, l.lookup a = some b → (a, b) ∈ l
  | [], h => by cases h
  | (x, y) :: r, h => by
    rw [List.lookup_cons] at h
    cases hb : (a == x) with
    | true => rw [hb] at h; cases h; rw [eq_of_beq hb]; exact List.mem_cons_self
    | false => rw [hb] at h; exact List.mem_cons_of_mem _ (lookup_mem h)
theorem tyN_mem {d : D} {t : String} (h : tyN d = some t) : t ∈ ["NoneType", "bool", "int", "str", "tuple", "list", "dict"] := by
  cases d <;> first | (cases h; decide) | cases h
theorem de_isiC {a : Expr} {t : TDE} {C : Str} {tb : List (Str × Bool)} {p p2 : Pos} (ha : DE X e a t) (hC : Gl X C) (hmC : X.mg C = some (.ref (He.ga X.K C))) (ok : IsiOk X.K C tb) (hg : Gl X "isinstance") (hm : X.mg "isinstance" = none)
    (hs : starEach (a :: [.Name C p2]) X.env = (false, eval a X.env) :: starEach [.Name C p2] X.env := by rfl) (hs2 : starEach (.Name C p2 :: []) X.env = (false, eval (.Name C p2) X.env) :: starEach [] X.env := by rfl) (hpl : (backTo pos (starEach [.Name C p2] X.env)).any (·.1) = false := by rfl) (hdb : (C == ("__debug__" : Str)) = false := by decide) :
    DE X e (.Call (.Name "isinstance" p) [a, .Name C p2] [] pos) (dB1 (isiC tb) (.ex t)) :=
  pe_imp (pe_callB call_isi hg hm (by decide +kernel) (pa_cons ha (pa_cons (de_cls (e := e) hC hmC hdb) pa_nil hs2) hs) (he := hs) (hpl := hpl)) fun σ H Q ⟨T, G, δ, Qd, S, q, k⟩ => ⟨T, G, δ, _, S, q, fun v d H1 G1 δ1 S1 st1 r1 q1 =>
    ⟨T, G1, δ1, fun x δ' => x = .cls C ∧ δ' = δ1, S1, ⟨rfl, rfl⟩, fun v2 d2 H2 G2 δ2 S2 st2 r2 ⟨q2, q3⟩ => by
    subst q2 q3
    have e2 := r2.clsI
    subst e2
    unfold isiC at q1
    cases hi : insOf d with
    | some cf =>
      obtain ⟨C', fs⟩ := cf
      rw [hi] at q1
      cases hl : tb.lookup C' with
      | none => simp only [hl] at q1
      | some b =>
        simp only [hl] at q1
        have hmem := lookup_mem hl
        obtain ⟨p, dx, fvs, rfl, hp, e1, r3⟩ := insOf_ok S2.ok (.inl (r1.mono st2.le)) hi
        exact ⟨_, _, .ref (He.ga X.K C'), .ref (He.ga X.K C), b, rfl, .own _, .base (.ins hp (ok.cls _ hmem).1 (ok.cls _ hmem).2.1 ok.obj.1 ok.obj.2 (ok.cls _ hmem).2.2), ok.own _ hmem, k _ _ H2 G2 _ S2 (st1.trans st2) (.bl b) q1⟩
    | none =>
      rw [hi] at q1
      cases ht : tyN d with
      | none => simp only [ht] at q1
      | some n =>
        simp only [ht] at q1
        exact ⟨v, _, .type n, .ref (He.ga X.K C), false, rfl, .own _, tyN_ok S2.ok (r1.mono st2.le) ht, ok.blt n (tyN_mem ht), k _ _ H2 G2 _ S2 (st1.trans st2) (.bl false) q1⟩⟩⟩
end
end T

namespace T
open PySem L2
section
open PySem.W PyProof.Rows
variable {prog : Program} {w : World} {A : Around} {E : Value → Shared → Prop} {s : Shared} {K : Frag} {x C L f g : Addr} {h₀ : Heap} {m : Str → Option Value} {ox : Obj} {od : Option Obj}
theorem int_declines {M : Model} {i : Int} {t : Tok} {o : Obj} {A : Around} {P : Fin → Shared → Prop} {hp : Heap} {g : Array GenState} {d : Drawn} {tk : Nat} {os : OsState} (ho : hp.get? x = some o) (hd : ∀ j u, o.data ≠ .prim (.int j u)) (h : P (.done (.ret .notImplemented)) ⟨hp, g, d, tk, os⟩) :
    wpAny M A (Builtin.«int.__add__» ⟨[.int i t, .ref x], []⟩) P E ⟨hp, g, d, tk, os⟩ := by
  unfold Builtin.«int.__add__» Builtin.Int.intBinary
  refine wpAny_bind ?_
  show wpAny M A (slotArgs "__add__" 1 ⟨[.int i t, .ref x], []⟩) _ E _
  wp_walk
  split
  · rename_i z; exact absurd z (hd _ _)
  · refine wpAny_pure ?_
    wp_walk
    exact h
theorem rbin_K {i : Int} {t : Tok} {Q : Value → Shared → Prop} (F : Fr h₀ L s.heap m) (X₀ : K.In h₀) (I : InstAt s.heap x ox C od) (hox : ∀ j u, ox.data ≠ .prim (.int j u)) (hc : selfFirst K C = true)
    (hs : findIn K (.ref C) (PySem.dunder "add") = some (some (.ref g))) (hr : findIn K (.ref C) (dunderR "add") = some (some (.ref f))) (hf : isFn K (.ref f) = true) (hsub : subIn K (.ref C) (.type "int") = some false)
    (h : wpAny (model prog w) A (call (.ref f) [.ref x, .int i t]) (PySem.W.CmpBack Q) E s) : wpAny (model prog w) A (binaryOp .Add (.int i t) (.ref x)) Q E s := by
  have X := X₀.keeps F.keep
  obtain ⟨cd, rest, hcd, hm⟩ := ksp_first hc
  have one := ksp_try X I hr hf h
  obtain ⟨hh, gg, d, tt, os⟩ := s
  have L1 : Looks (model prog w) hh (typeOf (.ref x)) (.ref C) := I.type
  have L3 : Looks (model prog w) hh (fillsNumberSlot (.ref C) "add") true := fills_K X hcd hm hs
  have L5 : Looks (model prog w) hh (isSubtype (.ref C) (.type "int")) false := looks_subIn X hsub
  have hne : (Value.type "int" == Value.ref C) = false := Bool.eq_false_iff.mpr fun q => by cases beq_iff_eq.mp q
  have L2 : Looks (model prog w) hh (typeOf (.int i t)) (.type "int") := Looks.of_pure rfl
  have L4 : Looks (model prog w) hh (fillsNumberSlot (.type "int") "add") true := Looks.of_pure PySem.F.fills_int_add
  have L6 : Looks (model prog w) hh (numberSlotInPython (.type "int") "add") false := Looks.of_pure rfl
  obtain ⟨sym, hi⟩ : ∃ sym, Operator.Add.info = (sym, "add") := ⟨_, rfl⟩
  simp only [binaryOp, hi]
  refine wpAny_holding (wpAny_bind ?_)
  unfold binaryOp1
  refine wpAny_bind (L2.at (wpAny_bind (L1.at (wpAny_bind (L4.at ?_)))))
  simp only [hne, Bool.false_eq_true, if_false]
  refine wpAny_bind (L3.at ?_)
  simp only [Bool.and_self, if_true]
  refine wpAny_bind (L5.at ?_)
  have dec : wpAny (model prog w) A (tryMethod (.int i t) (PySem.dunder "add") (.ref x)) (fun r s' => r = none ∧ s' = ⟨hh, gg, d, tt, os⟩) E ⟨hh, gg, d, tt, os⟩ := by
    have h1 : (⟨hh, gg, d, tt, os⟩ : Shared).TypeIs (.int i t) "int" := PySem.typeIs_int _ _ _
    have h2 : Slot "int" (PySem.dunder "add") "int.__add__" := PySem.F.slot_int_add
    have hc : wpAny (model prog w) A (call (.builtin "int.__add__") [.int i t, .ref x]) (fun v s' => v = .notImplemented ∧ ((none : Option Value) = none ∧ s' = ⟨hh, gg, d, tt, os⟩)) E ⟨hh, gg, d, tt, os⟩ := by
      refine wpAny_call_entry h2 h1 PySem.F.entry_int_add ?_ (PySem.F.args_int_add_2 _ _)
      exact int_declines (o := ox) I.at_ hox ⟨Value.notImplemented, rfl, rfl, rfl, rfl⟩
    have z := @wpAny_tryMethod_declines (model prog w) A E ⟨hh, gg, d, tt, os⟩ (.int i t) (.ref x) "int" (PySem.dunder "add") "int.__add__" (fun r s' => r = none ∧ s' = ⟨hh, gg, d, tt, os⟩) h1 h2 hc
    exact z
  ksp_lk
  refine wpAny_mono dec (fun r s' hr' => ?_) fun _ _ e => e
  obtain ⟨rfl, rfl⟩ := hr'
  ksp_lk
  refine wpAny_mono one (fun r s' hr' => ?_) fun _ _ e => e
  obtain ⟨v, rfl, hq⟩ := hr'
  exact wpAny_bind (wpAny_rule (wpAny_pure (wpAny_pure hq)))
end
section
variable {X : Cx} {e : Ent} {pos : Pos}
/-- x + y, x of C, y an int; by C's __add__ -/
theorem op_ownBI {CX : CXT} {n : Nat} {C g : Addr} {sp : Sp} {E : XK} {rc fo ro : Option Value} (hc : PySem.W.selfFirst X.K C = true) (hs : PySem.W.findIn X.K (.ref C) (PySem.dunder "add") = some (some (.ref g))) (hf : PySem.W.isFn X.K (.ref g) = true)
    (hr' : PySem.W.findIn X.K (.ref C) (dunderR "add") = some rc) (hp : rc = none ∨ ∃ g : Addr, rc = some (.ref g)) (h1 : PySem.W.findIn X.K (.type "int") (PySem.dunder "add") = some fo) (h2 : PySem.W.findIn X.K (.type "int") (dunderR "add") = some ro) (hsub : PySem.W.subIn X.K (.type "int") (.ref C) = some false)
    (F : FnR X.prog X.w X.K X.mg X.base CX n g sp) (hr : Room n X.A) (hx : Passes CX X E) : OpR X (binaryOp .Add) (fun x y H Q => ∃ a dx fs i, x = .ref a ∧ y = .int i ∧ H a = some (.ins C dx fs) ∧ sp [x, y] H Q E) := by
  rintro pins s σ H x y v u Q I rx ry ⟨a, dx, fs, i, rfl, rfl, ha, q⟩
  cases (show v = Value.ref a from rx)
  obtain ⟨t, rfl⟩ : ∃ t, u = Value.int i t := ry
  obtain ⟨mA, O, _⟩ := ins_get I.hok ha
  obtain ⟨od, J, _⟩ := O.look
  obtain ⟨m, hF⟩ := I.fr
  refine PySem.W.ksp_binT (op := .Add) (T := "int") hF I.ok.mod.kin J rfl hc hs hf hr' hp h1 h2 hsub (wpAny_mono (wpAny_call (run_fnR (us := [.ref a, .int i t]) (vs := [.ref a, .int i]) F hr hx I (.cons rfl (.cons ⟨t, rfl⟩ .nil)) q)) (fun w s' z => ?_) fun _ _ x => x)
  obtain ⟨z', H', I', rz, qz⟩ := z
  exact SlX.cmpback rz ⟨z', H', I', rz, qz⟩
/-- i + x, x of C; by C's __radd__ -/
theorem op_ownRI {CX : CXT} {n : Nat} {C g g2 : Addr} {sp : Sp} {E : XK} (hc : PySem.W.selfFirst X.K C = true) (hs : PySem.W.findIn X.K (.ref C) (PySem.dunder "add") = some (some (.ref g2)))
    (hr' : PySem.W.findIn X.K (.ref C) (dunderR "add") = some (some (.ref g))) (hf : PySem.W.isFn X.K (.ref g) = true) (hsub : PySem.W.subIn X.K (.ref C) (.type "int") = some false)
    (F : FnR X.prog X.w X.K X.mg X.base CX n g sp) (hr : Room n X.A) (hx : Passes CX X E) : OpR X (binaryOp .Add) (fun x y H Q => ∃ a dx fs i, x = .int i ∧ y = .ref a ∧ H a = some (.ins C dx fs) ∧ sp [y, x] H Q E) := by
  rintro pins s σ H x y v u Q I rx ry ⟨a, dx, fs, i, rfl, rfl, ha, q⟩
  cases (show u = Value.ref a from ry)
  obtain ⟨t, rfl⟩ : ∃ t, v = Value.int i t := rx
  obtain ⟨mA, O, _⟩ := ins_get I.hok ha
  obtain ⟨od, J, _⟩ := O.look
  obtain ⟨m, hF⟩ := I.fr
  refine rbin_K hF I.ok.mod.kin J (fun j u => nofun) hc hs hr' hf hsub (wpAny_mono (wpAny_call (run_fnR (us := [.ref a, .int i t]) (vs := [.ref a, .int i]) F hr hx I (.cons rfl (.cons ⟨t, rfl⟩ .nil)) q)) (fun w s' z => ?_) fun _ _ x => x)
  obtain ⟨z', H', I', rz, qz⟩ := z
  exact SlX.cmpback rz ⟨z', H', I', rz, qz⟩
/-- the text's facts for + of a class -/
structure CalA (P : Program) (w : World) (K : PySem.W.Frag) (mg : Str → Option Value) (base : Heap) (k : Nat) (C : Str) (sd sdr : SpD) : Prop where
  ex : ∃ g g2, FnD P w K mg base k g sd ∧ FnD P w K mg base k g2 sdr ∧ PySem.W.selfFirst K (He.ga K C) = true ∧ PySem.W.findIn K (.ref (He.ga K C)) (PySem.dunder "add") = some (some (.ref g)) ∧ PySem.W.isFn K (.ref g) = true ∧
    PySem.W.findIn K (.ref (He.ga K C)) (dunderR "add") = some (some (.ref g2)) ∧ PySem.W.isFn K (.ref g2) = true ∧ (∃ fo, PySem.W.findIn K (.type "int") (PySem.dunder "add") = some fo) ∧ (∃ ro, PySem.W.findIn K (.type "int") (dunderR "add") = some ro) ∧
    PySem.W.subIn K (.type "int") (.ref (He.ga K C)) = some false ∧ PySem.W.subIn K (.ref (He.ga K C)) (.type "int") = some false
def ownA (C : Str) (sd sdr : SpD) (g : D → D → (D → Prop) → Prop) (a b : D) (Q : D → Prop) : Prop := match insOf a, insOf b with
  | some (C1, f1), some (C2, f2) => C1 = C ∧ C2 = C ∧ sd [.ins C f1, .ins C f2] Q
  | some (C1, f1), none => (match b with | .int i => C1 = C ∧ sd [.ins C f1, .int i] Q | _ => False)
  | none, some (C2, f2) => (match a with | .int i => C2 = C ∧ sdr [.ins C f2, .int i] Q | _ => False)
  | none, none => g a b Q
theorem opf_ownA {k j : Nat} {C : Str} {sd sdr : SpD} {g : D → D → (D → Prop) → Prop} (c : CalA X.prog X.w X.K X.mg X.base k C sd sdr) (hr : Room j X.A) (hk : k ≤ j) (hg : OpD X e (WOp X (binaryOp .Add)) g) : OpF X e (WOp X (binaryOp .Add)) (ownA C sd sdr g) := by
  intro T G H σ δ x y a b Qd Q S ra rb q k
  obtain ⟨gf, g2, F, F2, sf, h1, h2, h3, h4, ⟨fo, h5⟩, ⟨ro, h6⟩, h7, h8⟩ := c.ex
  unfold ownA at q
  cases hi : insOf a with
  | none =>
    cases hj : insOf b with
    | none => rw [hi, hj] at q; exact hg T G H σ δ x y a b Qd Q S (.inl ra) (.inl rb) q k
    | some p2 =>
      rw [hi, hj] at q
      obtain ⟨C2, f2⟩ := p2
      cases a with
      | int i =>
        obtain ⟨rfl, q⟩ := q
        have e1 := (RdO.int (H := H) (.inl ra))
        subst e1
        obtain ⟨pb, dy, fb, rfl, hb, _⟩ := insOf_ok S.ok (.inl rb) hj
        refine wop_of (op_ownRI sf h1 h3 h4 h8 F2 (hr.mono hk) pass0) ⟨pb, dy, fb, i, rfl, rfl, hb, ?_⟩
        exact ⟨G, _, Qd, S.ok, .cons (rb.toIns hj) (.cons (.int i) .nil), q, fun d v G' H' ok cc rep qd => by
          obtain ⟨S2, st2⟩ := S.after ok cc
          exact k v d H' G' S2 st2 rep qd⟩
      | _ => exact q.elim
  | some p1 =>
    obtain ⟨C1, f1⟩ := p1
    cases hj : insOf b with
    | none =>
      rw [hi, hj] at q
      cases b with
      | int i =>
        obtain ⟨rfl, q⟩ := q
        have e1 := (RdO.int (H := H) (.inl rb))
        subst e1
        obtain ⟨pa, dx, fa, rfl, ha, _⟩ := insOf_ok S.ok (.inl ra) hi
        refine wop_of (op_ownBI sf h1 h2 h3 (.inr ⟨_, rfl⟩) h5 h6 h7 F (hr.mono hk) pass0) ⟨pa, dx, fa, i, rfl, rfl, ha, ?_⟩
        exact ⟨G, _, Qd, S.ok, .cons (ra.toIns hi) (.cons (.int i) .nil), q, fun d v G' H' ok cc rep qd => by
          obtain ⟨S2, st2⟩ := S.after ok cc
          exact k v d H' G' S2 st2 rep qd⟩
      | _ => exact q.elim
    | some p2 =>
      rw [hi, hj] at q
      obtain ⟨C2, f2⟩ := p2
      obtain ⟨rfl, rfl, q⟩ := q
      obtain ⟨pa, dx, fa, rfl, ha, _⟩ := insOf_ok S.ok (.inl ra) hi
      obtain ⟨pb, dy, fb, rfl, hb, _⟩ := insOf_ok S.ok (.inl rb) hj
      refine wop_of (op_ownB (op := .Add) sf h1 h2 F (hr.mono hk) pass0) ⟨pa, dx, fa, pb, dy, fb, rfl, rfl, ha, hb, ?_⟩
      exact ⟨G, _, Qd, S.ok, .cons (ra.toIns hi) (.cons (rb.toIns hj) .nil), q, fun d v G' H' ok cc rep qd => by
        obtain ⟨S2, st2⟩ := S.after ok cc
        exact k v d H' G' S2 st2 rep qd⟩
/-! ### cls(..): a local name that is a class -/
def dNewV (C : Str) (sd : SpI) (tc : TDE) (t : TDA) : TDE := fun δ Q => tc δ fun d δ1 => d = .cls C ∧ t δ1 fun ds δ2 => sd ds fun fs => Q (.ins C fs) δ2
end
end T

namespace PySem
open PyProof.Rows
section
variable {prog : Program} {w : World} {A : Around} {s : Shared}
theorem list_neNil (l b : Addr) (items items2 : Array Value) (n n2 : Nat) (dd dd2 : Option Addr) (sl sl2 : Array (Option Value)) (hsz : (items.size != items2.size) = true) :
    MeetsIn prog w (Builtin.«list.__ne__» ⟨[.ref l, .ref b], []⟩)
      (fun A R s => s.heap.get? l = some { cls := .type "list", dict := dd, data := .seq items n, slots := sl } ∧ s.heap.get? b = some { cls := .type "list", dict := dd2, data := .seq items2 n2, slots := sl2 } ∧ R (.ok (.ret (.bool true))) s) := by
  intro A R s h
  obtain ⟨hp, g, d, tk, os⟩ := s; obtain ⟨hl, hb, h⟩ := h
  have f3 := AutoSeq1.sub_list_list
  wp_walk using wpAny_loadPart' hl, wpAny_loadPart' hb
  exact h
theorem rc_neNil {E : Value → Shared → Prop} {l b : Addr} {items items2 : Array Value} {Q : Value → Shared → Prop} (hl : s.heap.IsList l items) (hb : s.heap.IsList b items2) (hsz : (items.size != items2.size) = true) (hu : A.units < cLine)
    (h : Q (.bool true) s) : wpAny (model prog w) A (richCompare .NotEq (.ref l) (.ref b)) Q E s := by
  obtain ⟨⟨cls, dd, data, sl⟩, ho, hc, n, hd⟩ := id hl
  obtain ⟨⟨cls2, dd2, data2, sl2⟩, ho2, hc2, n2, hd2⟩ := id hb
  simp only at hc hd hc2 hd2
  subst hc hd hc2 hd2
  exact wpAny_richCompare_same_room (T := "list") (op := .NotEq) ⟨_, ho, rfl⟩ ⟨_, ho2, rfl⟩ F.slot_list_ne (call_meetsIn F.slot_list_ne ⟨_, ho, rfl⟩ F.entry_list_ne (F.args_list_ne_2 _ _) (list_neNil l b items items2 n n2 dd dd2 sl sl2 hsz)
    ⟨ho, ho2, show Value.bool true ≠ Value.notImplemented ∧ Q (.bool true) s from ⟨(fun x => nomatch x), h⟩⟩) hu
end
end PySem
namespace T
open PySem L2
section
variable {X : Cx} {e : Ent} {pos : Pos}
/-- a list == [] -/
def nilD (neg : Bool) : D → D → (D → Prop) → Prop
  | .lst l, .lst [], Q => Q (.bl (if neg = true then !l.isEmpty else l.isEmpty))
  | _, _, _ => False
theorem nilD_inv {neg : Bool} {a b : D} {Q : D → Prop} (h : nilD neg a b Q) : ∃ l, a = .lst l ∧ b = .lst [] ∧ Q (.bl (if neg = true then !l.isEmpty else l.isEmpty)) := by
  cases a with
  | lst l =>
    cases b with
    | lst r => cases r with
      | nil => exact ⟨l, rfl, rfl, h⟩
      | cons _ _ => exact h.elim
    | _ => exact h.elim
  | _ => exact h.elim
theorem isList_of {pins : List (Addr × Obj)} {σ : St} {H : Hp} {s : Shared} {p : Addr} {vs : List V} (I : Inv X pins σ H s) (h : H p = some (.lst vs)) : ∃ items : Array Value, s.heap.IsList p items ∧ items.size = vs.length := by
  obtain ⟨_, its, n, r, q⟩ := I.hok p _ h
  exact ⟨its.toArray, ⟨_, q, rfl, n, rfl⟩, by rw [List.size_toArray]; exact r.length.symm⟩
theorem opd_nnil {k0 : Nat} (hr : Room k0 X.A) : OpD X e (WOp X (compareOp .NotEq)) (nilD true) := by
  intro T G H σ δ x y a b Qd Q S ra rb q k
  obtain ⟨l, rfl, rfl, q⟩ := nilD_inv q
  have q : Qd (.bl (!l.isEmpty)) := q
  cases l with
  | nil => exact opd_ne hr T G H σ δ x y _ _ Qd Q S ra rb ⟨⟨rfl, rfl, by decide, by decide⟩, q⟩ k
  | cons c r =>
    obtain ⟨p, vs, rfl, hp, rl⟩ := ra.lst S.ok
    obtain ⟨p2, vs2, rfl, hp2, rl2⟩ := rb.lst S.ok
    intro pins s σ' v u I rx ry
    cases (show v = Value.ref p from rx)
    cases (show u = Value.ref p2 from ry)
    obtain ⟨its, h1, z1⟩ := isList_of I hp
    obtain ⟨its2, h2, z2⟩ := isList_of I hp2
    have e1 := rl.length
    have e2 := rl2.length
    show wpAny _ _ (richCompare .NotEq (.ref p) (.ref p2)) _ _ _
    refine rc_neNil h1 h2 ?_ hr.units0 ⟨.bl true, H, I, rfl, k (.bl true) (.bl true) H G S Step.refl (.bl true) q⟩
    rw [z1, z2, e1, e2]
    simp
end
end T

namespace T
open PySem L2
section
open PySem.W PyProof.Rows
variable {prog : Program} {w : World} {A : Around} {E : Value → Shared → Prop} {s : Shared} {K : Frag} {x y C C' L f g : Addr} {h₀ : Heap} {m : Str → Option Value} {ox : Obj} {od : Option Obj}
theorem on_slot : Slot "object" "__ne__" "object.__ne__" :=
  .of (owner := "object") (n := "__ne__") (by rw [typeLookup_type, builtinLookup_eq_fast]; kernel_rfl) (by decide +kernel) (by decide +kernel) (by decide +kernel) (.inl (by decide +kernel)) (by rw [isSubtype_type]; kernel_rfl)
theorem on_plain : plainId "object.__ne__" = true := by decide +kernel
theorem objNe_own (X : K.In s.heap) (I : InstAt s.heap x ox C od) (hs : findIn K (.ref C) "__eq__" = some (some (.ref f))) (hf : isFn K (.ref f) = true) (hu : A.units < cLine) {Q : Fin → Shared → Prop}
    (hcall : wpAny (model prog w) A (call (.ref f) [.ref x, .ref y]) (fun v s' => ∃ b, v = .bool b ∧ Q (.done (.ret (.bool (!b)))) s') E s) :
    wpAny (model prog w) A (Builtin.«object.__ne__» ⟨[.ref x, .ref y], []⟩) Q E s := by
  have z := ifBound_K (M := model prog w) (args := [.ref y]) (Q := fun o s' => ∃ b, o = some (.bool b) ∧ Q (.done (.ret (.bool (!b)))) s') X I hs hf (wpAny_mono hcall (fun v s' hv => by obtain ⟨b, rfl, hq⟩ := hv; exact ⟨b, rfl, hq⟩) fun _ _ e => e)
  obtain ⟨hh, gg, d, tt, os⟩ := s
  unfold Builtin.«object.__ne__»
  repeat (first
    | with_reducible refine wpAny_cRoomFor hu ?_
    | (refine wpAny_bind (m := callSpecialIfBound? (.ref x) (Str.ofString "__eq__") [.ref y]) (wpAny_mono z (fun r s' hr => by
          obtain ⟨b, rfl, hq⟩ := hr
          repeat (first | exact hq | exact wpAny_pure hq | exact wpAny_truthy_bool hq | (refine wpAny_bind (m := truthy (.bool _)) (wpAny_truthy_bool ?_)) | wp_step)) fun _ _ e => e))
    | wp_step)
theorem tryNe_own (X : K.In s.heap) (I : InstAt s.heap x ox C od) (hne : findIn K (.ref C) "__ne__" = some (some (.builtin "object.__ne__"))) (hobj : subIn K (.ref C) (.type "object") = some true) (hs : findIn K (.ref C) "__eq__" = some (some (.ref f))) (hf : isFn K (.ref f) = true) (hu : A.units + 1 < cLine) {Q : Option Value → Shared → Prop}
    (hcall : wpAny (model prog w) A.in1 (call (.ref f) [.ref x, .ref y]) (fun v s' => ∃ b, v = .bool b ∧ Q (some (.bool (!b))) s') E s) :
    wpAny (model prog w) A (tryCompare (.ref x) "__ne__" (.ref y)) Q E s := by
  have hin : Looks (model prog w) s.heap (isInstance (.ref x) (.type "object")) true := I.type.andThen (looks_subIn X hobj)
  have body : wpAny (model prog w) A (call (.builtin "object.__ne__") [.ref x, .ref y]) (fun v s' => ∃ b, v = .bool (!b) ∧ Q (some (.bool (!b))) s') E s := by
    refine wpAny_call (codeAny_call_builtin on_plain F.cmpEntry_ne (check_slot F.cmpKind_ne F.cmpSplit_ne hin (F.cmpArgs_ne _ _) ?_))
    refine objNe_own (A := A.in1) X I hs hf hu (wpAny_mono hcall (fun v s' hv => ?_) fun _ _ e => e)
    obtain ⟨b, rfl, hq⟩ := hv
    exact ⟨b, rfl, ⟨b, rfl, hq⟩⟩
  unfold tryCompare
  simp only [callSpecialIfBound?, bindSpecialIfBound?]
  refine wpAny_bind (wpAny_holding (wpAny_bind (wpAny_bind (wpAny_bind (I.type.here ((looks_findIn X hne).here ?_))))))
  refine wpAny_bind (wpAny_askSetting (wpAny_ite ?_))
  have fin : wpAny (model prog w) A (call (.builtin "object.__ne__") ([.ref x] ++ [.ref y]) >>= fun v => pure (some v)) (fun o s' => ∃ b, o = some (.bool (!b)) ∧ Q (some (.bool (!b))) s') E s := wpAny_bind (wpAny_mono body (fun v s' h' => by
    obtain ⟨b, rfl, hq⟩ := h'
    exact wpAny_pure ⟨b, rfl, hq⟩) fun _ _ h' => h')
  have fin2 : ∀ {R : Option Value → Shared → Prop}, (∀ b s', Q (some (.bool (!b))) s' → R (some (.bool (!b))) s') → wpAny (model prog w) A (call (.builtin "object.__ne__") ([.ref x] ++ [.ref y]) >>= fun v => pure (some v)) R E s := fun hR => wpAny_mono fin (fun o s' h' => by
    obtain ⟨b, rfl, hq⟩ := h'
    exact hR b s' hq) fun _ _ h' => h'
  split
  · refine wpAny_bind (wpAny_of_eq (on_slot.bind _) (wpAny_pure ?_))
    exact fin2 fun b s' hq => wpAny_pure hq
  · refine wpAny_tryCatch (wpAny_bind (wpAny_of_eq (on_slot.bind _) (wpAny_pure ?_)))
    exact fin2 fun b s' hq => wpAny_pure hq
theorem ne_K {Q : Value → Shared → Prop} (hu : A.units + 1 < cLine) (F : Fr h₀ L s.heap m) (X₀ : K.In h₀) (I : InstAt s.heap x ox C od) (hb : Looks (model prog w) s.heap (typeOf (.ref y)) (.ref C')) (hn : notFirst K C (.ref C') = true)
    (hne : findIn K (.ref C) "__ne__" = some (some (.builtin "object.__ne__"))) (hobj : subIn K (.ref C) (.type "object") = some true) (hs : findIn K (.ref C) "__eq__" = some (some (.ref f))) (hf : isFn K (.ref f) = true)
    (h : wpAny (model prog w) A.in1 (call (.ref f) [.ref x, .ref y]) (fun v s' => ∃ b, v = .bool b ∧ Q (.bool (!b)) s') E s) : wpAny (model prog w) A (richCompare .NotEq (.ref x) (.ref y)) Q E s := by
  have X := X₀.keeps F.keep
  have one : wpAny (model prog w) A (tryCompare (.ref x) (cmpInfo .NotEq).2.1 (.ref y)) (fun r s' => ∃ v, r = some v ∧ Q v s') E s :=
    tryNe_own (Q := fun r s' => ∃ v, r = some v ∧ Q v s') X I hne hobj hs hf hu (wpAny_mono h (fun v s' hv => by obtain ⟨b, rfl, hq⟩ := hv; exact ⟨b, rfl, _, rfl, hq⟩) fun _ _ e => e)
  unfold richCompare
  simp only [oneThing_ref]
  refine wpAny_holding (wpAny_bind (wpAny_cRoomFor (Nat.lt_of_succ_lt hu) ?_))
  refine wpAny_bind (I.type.here (wpAny_bind (hb.here ?_)))
  split
  · rename_i q
    have e : subIn K (.ref C') (.ref C) = some false := by
      rcases Bool.or_eq_true_iff.mp hn with e | e
      · rw [beq_iff_eq.mp e] at q; simp at q
      · exact beq_iff_eq.mp e
    refine wpAny_bind ((looks_subIn X e).here ?_)
    simp only [Bool.false_eq_true, if_false]
    refine wpAny_bind (wpAny_mono one (fun r s' z => ?_) fun _ _ e => e)
    obtain ⟨v, rfl, hq⟩ := z
    exact wpAny_pure hq
  · refine wpAny_bind (wpAny_pure ?_)
    simp only [Bool.false_eq_true, if_false]
    refine wpAny_bind (wpAny_mono one (fun r s' z => ?_) fun _ _ e => e)
    obtain ⟨v, rfl, hq⟩ := z
    exact wpAny_pure hq
end
section
variable {X : Cx} {e : Ent} {pos : Pos}
theorem op_ownNe {CX : CXT} {n : Nat} {C g : Addr} {sp : Sp} {E : XK} (hne : PySem.W.findIn X.K (.ref C) "__ne__" = some (some (.builtin "object.__ne__"))) (hobj : PySem.W.subIn X.K (.ref C) (.type "object") = some true)
    (hs : PySem.W.findIn X.K (.ref C) "__eq__" = some (some (.ref g))) (hf : PySem.W.isFn X.K (.ref g) = true) (F : FnR X.prog X.w X.K X.mg X.base CX n g sp) (hr : Room (n + 1) X.A) (hx : Passes CX X E) :
    OpR X (compareOp .NotEq) (fun x y H Q => ∃ a dx fs b C' dy gs, x = .ref a ∧ y = .ref b ∧ H a = some (.ins C dx fs) ∧ H b = some (.ins C' dy gs) ∧ PySem.W.notFirst X.K C (.ref C') = true ∧ sp [x, y] H (fun z H' => ∃ c, z = .bl c ∧ Q (.bl (!c)) H') E) := by
  rintro pins s σ H x y v u Q I rx ry ⟨a, dx, fs, b, C', dy, gs, rfl, rfl, ha, hb, hn, q⟩
  cases (show v = Value.ref a from rx)
  cases (show u = Value.ref b from ry)
  obtain ⟨mA, O, _⟩ := ins_get I.hok ha
  obtain ⟨od, J, _⟩ := O.look
  obtain ⟨mB, O', _⟩ := ins_get I.hok hb
  obtain ⟨od', J', _⟩ := O'.look
  obtain ⟨m, hF⟩ := I.fr
  show wpAny _ _ (richCompare .NotEq (.ref a) (.ref b)) _ _ _
  refine ne_K (by have := hr.units; omega) hF I.ok.mod.kin J J'.type hn hne hobj hs hf (wpAny_mono (wpAny_call (SlX.run_at (us := [.ref a, .ref b]) (ws := [.ref a, .ref b]) F hr.in1 I.env0.in1 hx I (.cons rfl (.cons rfl .nil)) q)) (fun w s' z => ?_) fun _ _ x => x)
  obtain ⟨z', H', I', rz, c, rfl, qz⟩ := z
  cases (show w = Value.bool c from rz)
  exact ⟨c, rfl, .bl (!c), H', I', rfl, qz⟩
/-- a class's own == for !=, with object's __ne__ -/
structure CalN (P : Program) (w : World) (K : PySem.W.Frag) (mg : Str → Option Value) (base : Heap) (k : Nat) (C : Str) (sd : SpD) : Prop where
  ex : ∃ g, FnD P w K mg base k g sd ∧ PySem.W.findIn K (.ref (He.ga K C)) "__eq__" = some (some (.ref g)) ∧ PySem.W.isFn K (.ref g) = true ∧ PySem.W.findIn K (.ref (He.ga K C)) "__ne__" = some (some (.builtin "object.__ne__")) ∧ PySem.W.subIn K (.ref (He.ga K C)) (.type "object") = some true
def ownNeD (C : Str) (sd : SpD) (g : D → D → (D → Prop) → Prop) (a b : D) (Q : D → Prop) : Prop := match insOf a, insOf b with
  | some (C1, f1), some (C2, f2) => C1 = C ∧ C2 = C ∧ sd [.ins C f1, .ins C f2] fun z => onBl z fun c => Q (.bl (!c))
  | none, none => g a b Q
  | _, _ => False
theorem opf_ownNe {k j : Nat} {C : Str} {sd : SpD} {g : D → D → (D → Prop) → Prop} (c : CalN X.prog X.w X.K X.mg X.base k C sd) (hr : Room j X.A) (hk : k + 1 ≤ j) (hg : OpD X e (WOp X (compareOp .NotEq)) g) : OpF X e (WOp X (compareOp .NotEq)) (ownNeD C sd g) := by
  intro T G H σ δ x y a b Qd Q S ra rb q k
  unfold ownNeD at q
  cases hi : insOf a with
  | none =>
    cases hj : insOf b with
    | none => rw [hi, hj] at q; exact hg T G H σ δ x y a b Qd Q S (.inl ra) (.inl rb) q k
    | some _ => rw [hi, hj] at q; exact q.elim
  | some p1 =>
    cases hj : insOf b with
    | none => rw [hi, hj] at q; exact q.elim
    | some p2 =>
      rw [hi, hj] at q
      obtain ⟨C1, f1⟩ := p1
      obtain ⟨C2, f2⟩ := p2
      obtain ⟨rfl, rfl, q⟩ := q
      obtain ⟨gf, F, h1, h2, h3, h4⟩ := c.ex
      obtain ⟨pa, dx, fa, rfl, ha, _⟩ := insOf_ok S.ok (.inl ra) hi
      obtain ⟨pb, dy, fb, rfl, hb, _⟩ := insOf_ok S.ok (.inl rb) hj
      refine wop_of (op_ownNe h3 h4 h1 h2 F (hr.mono hk) pass0) ⟨pa, dx, fa, pb, _, dy, fb, rfl, rfl, ha, hb, by simp [PySem.W.notFirst], ?_⟩
      exact ⟨G, _, _, S.ok, .cons (ra.toIns hi) (.cons (rb.toIns hj) .nil), q, fun d v G' H' ok cc rep qd => by
        obtain ⟨c, rfl, qd⟩ := onBl_ok qd
        obtain ⟨S2, st2⟩ := S.after ok cc
        exact ⟨c, rep.blI, k _ _ H' G' S2 st2 (.bl (!c)) qd⟩⟩
theorem opf_own {op : CmpOp} {k j : Nat} {C : Str} {sd : SpD} {g : D → D → (D → Prop) → Prop} (c : CalO X.prog X.w X.K X.mg X.base k op C sd) (hop : ∀ a b, compareOp op a b = richCompare op a b) (hr : Room j X.A) (hk : k ≤ j) (hg : OpD X e (WOp X (compareOp op)) g) : OpF X e (WOp X (compareOp op)) (ownD C sd g) := opd_own c hop hr hk hg
/-- a test by an operation on frozen things -/
def dtB2 (g : D → D → (D → Prop) → Prop) (t u : TDE) : TDT := fun δ Q => dB2 g t u δ fun z δ' => onBl z fun b => Q b δ'
theorem dt_cmpF {a b : Expr} {t u : TDE} {op : CmpOp} {g : D → D → (D → Prop) → Prop} (ho : OpF X e (WOp X (compareOp op)) g) (ha : DE X e a t) (hb : DE X e b u) (hm : behindInMarks op b = false) : DT X e (.Compare a [op] [b] pos) (dtB2 g t u) :=
  pt_imp (pt_cmpR wop_self ha hb hm) fun σ H Q ⟨T, G, δ, Qd, S, q, k⟩ => ⟨T, G, δ, _, S, q, fun x d H1 G1 δ1 S1 st1 r1 q1 => ⟨T, G1, δ1, _, S1, q1, fun y d2 H2 G2 δ2 S2 st2 r2 q2 =>
    ho T G2 H2 σ δ2 x y d d2 _ _ S2 (r1.mono st2.le) r2 q2 fun v z H' G' S' st' rep qd => by
      obtain ⟨c, rfl, qd⟩ := onBl_ok qd
      exact ⟨c, rep.blI, k c H' G' δ2 S' (st1.trans (st2.trans st')) qd⟩⟩⟩
end
end T

namespace T
open PySem L2
/-! ### tests of the text for the rules of PT to PW -/
theorem isRec_ok {K : PySem.W.Frag} {C m : Str} {kind : String} (h : isRec K C m kind = true) : ∃ rest, PySem.W.recIn K (pAd K C m) kind = some (.ref (ge K C m kind) :: rest) := by
  unfold isRec at h
  unfold ge
  cases hr : PySem.W.recIn K (pAd K C m) kind with
  | none => rw [hr] at h; cases h
  | some l =>
    rw [hr] at h
    cases l with
    | nil => cases h
    | cons v r =>
      cases v with
      | ref g => exact ⟨r, rfl⟩
      | _ => cases h
theorem read_ok {K : PySem.W.Frag} {C : Str} (c : tRead C K = true) : ClX.CRead K (He.ga K C) (.type "type") := by
  obtain ⟨c1, c2⟩ := He.ba c
  exact ⟨c1, He.eqO_ok c2⟩
theorem isGet_ok {K : PySem.W.Frag} {C m : Str} {id : String} (h : isGet K C m id = true) : PySem.W.findCls K (.ref (He.ga K C)) (.type "type") m = some (.get (.builtin id) (.ref (pAd K C m)) .none (.ref (He.ga K C))) := by
  unfold isGet at h
  split at h
  · rename_i i p c hf
    obtain ⟨c1, c2⟩ := He.ba h
    obtain ⟨c3, c4⟩ := He.ba c2
    rw [hf, of_decide_eq_true c1, of_decide_eq_true c3, of_decide_eq_true c4]
  · cases h
theorem stat_ok {K : PySem.W.Frag} {C m : Str} (c : tStat C m K = true) : ClX.CRead K (He.ga K C) (.type "type") ∧ SMet K (He.ga K C) (.type "type") m (pAd K C m) (ge K C m "staticmethod") ∧ SInst K (He.ga K C) m (pAd K C m) (ge K C m "staticmethod") := by
  obtain ⟨c1, c⟩ := He.ba c
  obtain ⟨c2, c⟩ := He.ba c
  obtain ⟨c3, c⟩ := He.ba c
  obtain ⟨c4, c⟩ := He.ba c
  obtain ⟨c5, c⟩ := He.ba c
  obtain ⟨c6, c⟩ := He.ba c
  obtain ⟨c7, c⟩ := He.ba c
  obtain ⟨c8, c⟩ := He.ba c
  obtain ⟨c9, c⟩ := He.ba c
  obtain ⟨c10, c11⟩ := He.ba c
  exact ⟨read_ok c1, ⟨isGet_ok c2, isRec_ok c3, c4⟩, ⟨c5, c6, He.eqO_ok c7, of_decide_eq_true c8, He.eqO_ok c9, of_decide_eq_true c10, of_decide_eq_true c11, isRec_ok c3, c4⟩⟩
theorem own_ok {K : PySem.W.Frag} {C m : Str} (c : tOwn C m K = true) : PySem.W.findIn K (.ref (He.ga K C)) m = some (some (.ref (He.ma K (He.ga K C) m))) ∧ PySem.W.isFn K (.ref (He.ma K (He.ga K C) m)) = true := by
  obtain ⟨c1, c2⟩ := He.ba c
  exact ⟨He.eqO_ok c1, c2⟩
theorem add_ok {P : Program} {w : World} {K : PySem.W.Frag} {mg : Str → Option Value} {base : Heap} {k : Nat} {C : Str} {sd sdr : SpD} (c : tAdd C K = true) (F : FnD P w K mg base k (He.ma K (He.ga K C) "__add__") sd) (F2 : FnD P w K mg base k (He.ma K (He.ga K C) "__radd__") sdr) : CalA P w K mg base k C sd sdr := by
  obtain ⟨c1, c⟩ := He.ba c
  obtain ⟨c2, c⟩ := He.ba c
  obtain ⟨c3, c⟩ := He.ba c
  obtain ⟨c4, c⟩ := He.ba c
  obtain ⟨c5, c⟩ := He.ba c
  obtain ⟨c6, c7⟩ := He.ba c
  exact ⟨_, _, F, F2, c1, (own_ok c2).1, (own_ok c2).2, (own_ok c3).1, (own_ok c3).2, Option.isSome_iff_exists.mp c4, Option.isSome_iff_exists.mp c5, of_decide_eq_true c6, of_decide_eq_true c7⟩
theorem ne_ok {P : Program} {w : World} {K : PySem.W.Frag} {mg : Str → Option Value} {base : Heap} {k : Nat} {C : Str} {sd : SpD} (c : tNe C K = true) (F : FnD P w K mg base k (He.ma K (He.ga K C) "__eq__") sd) : CalN P w K mg base k C sd := by
  obtain ⟨c1, c⟩ := He.ba c
  obtain ⟨c2, c3⟩ := He.ba c
  exact ⟨_, F, (own_ok c1).1, (own_ok c1).2, He.eqO_ok c2, of_decide_eq_true c3⟩
theorem isi_ok {K : PySem.W.Frag} {C : Str} {tb : List (Str × Bool)} (c : tIsi C tb K = true) : IsiOk K C tb := by
  obtain ⟨c1, c⟩ := He.ba c
  obtain ⟨c2, c⟩ := He.ba c
  obtain ⟨c3, c4⟩ := He.ba c
  have a := List.all_eq_true.mp c1
  refine ⟨fun p hp => of_decide_eq_true (He.ba (a p hp)).1, fun t ht => of_decide_eq_true (List.all_eq_true.mp c2 t ht), fun p hp => ?_, He.eqO_ok c3, of_decide_eq_true c4⟩
  have z := (He.ba (a p hp)).2
  obtain ⟨z1, z⟩ := He.ba z
  obtain ⟨z2, z3⟩ := He.ba z
  exact ⟨He.cls_ok z1, He.eqO_ok z2, of_decide_eq_true z3⟩
theorem fld_ok {K : PySem.W.Frag} {f : Str} {cs : List Str} (c : tFld f cs K = true) : FldOk K f cs := fun C hC => by
  obtain ⟨c1, c2⟩ := He.ba (List.all_eq_true.mp c C hC)
  exact ⟨He.cls_ok c1, He.noat_ok c2⟩
end T

namespace T
open PySem L2
/-! ### pairs of whole numbers compared -/
def pairD (f : Int → Int → Bool) : D → D → (D → Prop) → Prop
  | .tup [.int a, .int b], .tup [.int c, .int d], Q => Q (.bl (if a = c then f b d else f a c))
  | _, _, _ => False
theorem pairD_inv {f : Int → Int → Bool} {x y : D} {Q : D → Prop} (h : pairD f x y Q) : ∃ a b c d, x = .tup [.int a, .int b] ∧ y = .tup [.int c, .int d] ∧ Q (.bl (if a = c then f b d else f a c)) := by
  unfold pairD at h
  split at h
  · exact ⟨_, _, _, _, rfl, rfl, h⟩
  · exact h.elim
def ltP := pairD fun i j => decide (i < j)
def leP := pairD fun i j => decide (i ≤ j)
def gtP := pairD fun i j => decide (j < i)
def geP := pairD fun i j => decide (j ≤ i)
section
variable {X : Cx} {e : Ent} {pos : Pos}
theorem lexP {ns ms : List Int} {r : Int → Int → Bool} {z : Bool} {a b c d : Int} (h1 : ns = [a, b]) (h2 : ms = [c, d]) (hz : ∀ x, r x x = z) : Ob.lexAt (fun j => decide (ns.getD j 0 = ms.getD j 0)) (fun j => r (ns.getD j 0) (ms.getD j 0)) z 0 (min ns.length ms.length) = if a = c then r b d else r a c := by
  subst h1 h2
  show Ob.lexAt _ _ _ 0 2 = _
  rw [Ob.lexAt_succ, Ob.lexAt_succ, Ob.lexAt_zero]
  show (if decide (a = c) = true then (if decide (b = d) = true then z else r b d) else r a c) = _
  by_cases h : a = c
  · simp only [h, decide_true, if_true]
    by_cases h2 : b = d
    · simp only [h2, decide_true, if_true]; exact (hz d).symm
    · simp only [h2, decide_false, Bool.false_eq_true, if_false]
  · simp only [h, decide_false, Bool.false_eq_true, if_false]
theorem opd_ltP {k0 : Nat} (hr : Room k0 X.A) : OpD X e (WOp X (compareOp .Lt)) ltP := by
  intro T G H σ δ x y p q Qd Q S ra rb hq k
  obtain ⟨a, b, c, d, rfl, rfl, hq⟩ := pairD_inv hq
  obtain ⟨pa, va, rfl, ha, r1⟩ := ra.tup S.ok
  obtain ⟨pb, vb, rfl, hb, r2⟩ := rb.tup S.ok
  have i1 : va = [a, b].map V.int := RepL.ints (ns := [a, b]) r1
  have i2 : vb = [c, d].map V.int := RepL.ints (ns := [c, d]) r2
  intro pins s σ' v u I rx ry
  cases (show v = Value.ref pa from rx)
  cases (show u = Value.ref pb from ry)
  obtain ⟨its, w1, p1, _⟩ := I.tuple ha
  obtain ⟨its2, w2, p2, _⟩ := I.tuple hb
  rw [i1] at w1
  rw [i2] at w2
  have j1 : PyProof.Rows.IntsAre its [a, b] := Vals.ints w1
  have j2 : PyProof.Rows.IntsAre its2 [c, d] := Vals.ints w2
  have e1 : its.toArray.size = [a, b].length := by rw [List.size_toArray]; exact j1.length
  have e2 : its2.toArray.size = [c, d].length := by rw [List.size_toArray]; exact j2.length
  have at1 : ∀ j (h1 : j < its.toArray.size), ∃ t, its.toArray[j] = .int ([a, b].getD j 0) t := fun j h1 => PyProof.Rows.IntsAre.int_at j1 _ _ (by simp at h1; simp [h1])
  have at2 : ∀ j (h1 : j < its2.toArray.size), ∃ t, its2.toArray[j] = .int ([c, d].getD j 0) t := fun j h1 => PyProof.Rows.IntsAre.int_at j2 _ _ (by simp at h1; simp [h1])
  have R := Ob.RcOp.tuples_lt (A := X.A) (s := s) (e := fun j => decide ([a, b].getD j 0 = [c, d].getD j 0)) (r := fun j => (fun i j => decide (i < j)) ([a, b].getD j 0) ([c, d].getD j 0)) p1 p2 hr.units0 (fun j h1 h2 => by
    obtain ⟨t, et⟩ := at1 j h1
    obtain ⟨t', et'⟩ := at2 j h2
    rw [et, et']
    have z : ([a, b].getD j 0 == [c, d].getD j 0) = decide ([a, b].getD j 0 = [c, d].getD j 0) := by
      by_cases q : [a, b].getD j 0 = [c, d].getD j 0
      · rw [decide_eq_true q]; exact beq_iff_eq.mpr q
      · rw [decide_eq_false q]; exact beq_eq_false_iff_ne.mpr q
    rw [← z]
    exact SeqAt.EqAt.int_int _ _ _ _) (fun j h1 h2 _ => by
    obtain ⟨t, et⟩ := at1 j h1
    obtain ⟨t', et'⟩ := at2 j h2
    rw [et, et']
    exact Ob.RcOp.lt_int _ _ _ _)
  rw [e1, e2] at R
  have le := lexP (ns := [a, b]) (ms := [c, d]) (r := fun i j => decide (i < j)) (z := false) rfl rfl (fun x => by simp)
  have R2 := R
  rw [show (decide ([a, b].length < [c, d].length) : Bool) = false from rfl] at R2
  rw [le] at R2
  have z : wpAny (model X.prog X.w) X.A (compareOp .Lt (.ref pa) (.ref pb)) (EP X pins σ' Q) X.xe s := R2 X.prog X.w X.xe (EP X pins σ' Q) ⟨.bl _, H, I, rfl, k _ _ H G S Step.refl (.bl _) hq⟩
  exact z
/-- the text's facts for + of a class, the left one of it -/
def ownL (C : Str) (sd : SpD) (a b : D) (Q : D → Prop) : Prop := match insOf a, insOf b with
  | some (C1, f1), some (C2, f2) => C1 = C ∧ C2 = C ∧ sd [.ins C f1, .ins C f2] Q
  | some (C1, f1), none => (match b with | .int i => C1 = C ∧ sd [.ins C f1, .int i] Q | _ => False)
  | _, _ => False
structure CalL (P : Program) (w : World) (K : PySem.W.Frag) (mg : Str → Option Value) (base : Heap) (k : Nat) (C : Str) (sd : SpD) : Prop where
  ex : ∃ g g2, FnD P w K mg base k g sd ∧ PySem.W.selfFirst K (He.ga K C) = true ∧ PySem.W.findIn K (.ref (He.ga K C)) (PySem.dunder "add") = some (some (.ref g)) ∧ PySem.W.isFn K (.ref g) = true ∧
    PySem.W.findIn K (.ref (He.ga K C)) (dunderR "add") = some (some (.ref g2)) ∧ (∃ fo, PySem.W.findIn K (.type "int") (PySem.dunder "add") = some fo) ∧ (∃ ro, PySem.W.findIn K (.type "int") (dunderR "add") = some ro) ∧
    PySem.W.subIn K (.type "int") (.ref (He.ga K C)) = some false
theorem opf_ownL {k j : Nat} {C : Str} {sd : SpD} (c : CalL X.prog X.w X.K X.mg X.base k C sd) (hr : Room j X.A) (hk : k ≤ j) : OpF X e (WOp X (binaryOp .Add)) (ownL C sd) := by
  intro T G H σ δ x y a b Qd Q S ra rb q k
  obtain ⟨gf, g2, F, sf, h1, h2, h3, ⟨fo, h5⟩, ⟨ro, h6⟩, h7⟩ := c.ex
  unfold ownL at q
  cases hi : insOf a with
  | none => rw [hi] at q; exact q.elim
  | some p1 =>
    obtain ⟨C1, f1⟩ := p1
    cases hj : insOf b with
    | none =>
      rw [hi, hj] at q
      cases b with
      | int i =>
        obtain ⟨rfl, q⟩ := q
        have e1 := (RdO.int (H := H) (.inl rb))
        subst e1
        obtain ⟨pa, dx, fa, rfl, ha, _⟩ := insOf_ok S.ok (.inl ra) hi
        refine wop_of (op_ownBI sf h1 h2 h3 (.inr ⟨_, rfl⟩) h5 h6 h7 F (hr.mono hk) pass0) ⟨pa, dx, fa, i, rfl, rfl, ha, ?_⟩
        exact ⟨G, _, Qd, S.ok, .cons (ra.toIns hi) (.cons (.int i) .nil), q, fun d v G' H' ok cc rep qd => by
          obtain ⟨S2, st2⟩ := S.after ok cc
          exact k v d H' G' S2 st2 rep qd⟩
      | _ => exact q.elim
    | some p2 =>
      rw [hi, hj] at q
      obtain ⟨C2, f2⟩ := p2
      obtain ⟨rfl, rfl, q⟩ := q
      obtain ⟨pa, dx, fa, rfl, ha, _⟩ := insOf_ok S.ok (.inl ra) hi
      obtain ⟨pb, dy, fb, rfl, hb, _⟩ := insOf_ok S.ok (.inl rb) hj
      refine wop_of (op_ownB (op := .Add) sf h1 h2 F (hr.mono hk) pass0) ⟨pa, dx, fa, pb, dy, fb, rfl, rfl, ha, hb, ?_⟩
      exact ⟨G, _, Qd, S.ok, .cons (ra.toIns hi) (.cons (rb.toIns hj) .nil), q, fun d v G' H' ok cc rep qd => by
        obtain ⟨S2, st2⟩ := S.after ok cc
        exact k v d H' G' S2 st2 rep qd⟩
theorem addL_ok {P : Program} {w : World} {K : PySem.W.Frag} {mg : Str → Option Value} {base : Heap} {k : Nat} {C : Str} {sd : SpD} (c : tAdd C K = true) (F : FnD P w K mg base k (He.ma K (He.ga K C) "__add__") sd) : CalL P w K mg base k C sd := by
  obtain ⟨c1, c⟩ := He.ba c
  obtain ⟨c2, c⟩ := He.ba c
  obtain ⟨c3, c⟩ := He.ba c
  obtain ⟨c4, c⟩ := He.ba c
  obtain ⟨c5, c⟩ := He.ba c
  obtain ⟨c6, c7⟩ := He.ba c
  exact ⟨_, _, F, c1, (own_ok c2).1, (own_ok c2).2, (own_ok c3).1, Option.isSome_iff_exists.mp c4, Option.isSome_iff_exists.mp c5, of_decide_eq_true c6⟩
end
end T

namespace T
open PySem L2
section
variable {X : Cx} {e : Ent} {pos : Pos}
theorem fn_dS0 {P : Program} {w : World} {K : PySem.W.Frag} {mg : Str → Option Value} {base : Heap} {x qual pv : Str} {params : Arguments} {body : List Stmt} {scope : Scope} {kws : List (Str × V)} {f : Addr} {fd : FuncData} {N ps : List Str} {k : Nat} {sd : SpD} {t : TDS}
    (F : FunD K x qual params body scope [] kws f fd) (S : FnScope N (ps ++ [pv]) scope)
    (hbnd : ∀ (kV doc pm : Value) (an : Option Addr) (cdv ct : Value) (us rest : List Value), us.length = ps.length → bindArgs (PySem.W.fnOf x qual params body scope .none kV doc pm an cdv ct) ⟨us ++ rest, []⟩ = (newTuple rest >>= fun t => pure (ps.zip us ++ [(pv, t)])))
    (hb : ∀ (cdv : Value) (A : Around) (outer : List Env) (s : Shared) (H : Hp) (E : XK) (e : Ent), Room k (A.deeper (PyProof.Rows.envOfC qual scope s.heap.objs.size f cdv)) → DSs (cxF P w K mg base N qual scope f cdv A outer s H E) e body t)
    (hp : ∀ ds Q, sd ds Q → t (ends Q) (startD N.length ds)) : FnD P w K mg base (k + 1) f (starSd ps.length sd) := by
  obtain ⟨oc, od, dV, kV, doc, pm, an, cdv, ct, osl, rfl, lk, hcd, hD, _⟩ := F.ex
  have eD : dV = .none := by exact hD.elim (fun z => z.2) (fun z => absurd rfl z.1)
  subst eD
  refine (StX.fn_star (sp := toSp K sd) lk hcd S StX.cxUp_none (hbnd kV doc pm an cdv ct) fun A outer s H vs Q E hr h => ?_).imp fun vs H Q E h => star_sp h
  obtain ⟨G, ds, Qd, ok, r, q, kk⟩ := h
  refine ⟨_, PSs.nox (hb cdv A outer s H E ⟨G, H⟩ hr), .nil, G, startD N.length ds, _, start_ss ok r, hp ds Qd q, fun σ' δ' G' H' le S' q' => kk .non .non G' H' S'.ok S'.stp .non q', fun v d σ' δ' G' H' S' rep q' => kk d v G' H' S'.ok S'.stp rep q', fun _ _ _ _ _ _ q' => q'.elim, fun _ _ _ _ _ _ q' => q'.elim⟩
end
end T

namespace T
open PySem L2
theorem osl {X : Cx} {e : Ent} {a : Expr} {i : Nat} (h : PE X a (tVar i)) : OPN X e a (.sl i) := h
theorem oex {X : Cx} {e : Ent} {a : Expr} {t : TDE} (h : DE X e a t) : OPN X e a (.ex t) := h
theorem eim {X : Cx} {e : Ent} {a : Expr} {t : TDE} (h : DE X e a t) : evPE X e a (.im t) := h
theorem eow {X : Cx} {e : Ent} {a : Expr} {t : TDE} (h : DO X e a t) : evPE X e a (.ow t) := h
instance {s : Str} : Decidable (sOk s) := by unfold sOk; infer_instance
/-! ### operations that are not unfolded -/
abbrev Op2 := D → D → (D → Prop) → Prop
@[irreducible] def mulX : Op2 := mulD
@[irreducible] def addX : Op2 := addD
@[irreducible] def isiX : Op2 := isiD
@[irreducible] def ixX : Op2 := ixA
@[irreducible] def inX (neg : Bool) : Op2 := inA neg
@[irreducible] def eqX : Op2 := eqD
@[irreducible] def neX : Op2 := neD
section
variable {X : Cx} {e : Ent} {pos : Pos}
theorem opd_mulX : OpD X e (WOp X (binaryOp .Mult)) mulX := by unfold mulX; exact opd_mul
theorem opd_addX : OpD X e (WOp X (binaryOp .Add)) addX := by unfold addX; exact opd_add
theorem de_isiX {a b : Expr} {t u : TDE} {p : Pos} (ha : DE X e a t) (hb : DE X e b u) (hg : Gl X "isinstance") (hm : X.mg "isinstance" = none) (hs : starEach (a :: [b]) X.env = (false, eval a X.env) :: starEach [b] X.env := by rfl) (hs2 : starEach (b :: []) X.env = (false, eval b X.env) :: starEach [] X.env := by rfl) (hpl : (backTo pos (starEach [b] X.env)).any (·.1) = false := by rfl) :
    DE X e (.Call (.Name "isinstance" p) [a, b] [] pos) (dB2 isiX t u) := by unfold isiX; exact de_isi ha hb hg hm hs hs2 hpl
theorem de_ixX {a b : Expr} {A B : Opn} {k0 : Nat} (hr : Room k0 X.A) (ha : OPN X e a A) (hb : OPN X e b B) (hs : PlainIx b := by exact fun _ _ => rfl) : DE X e (.Subscript a b pos) (dBin ixX A B) := by unfold ixX; exact de_ixA hr ha hb hs
theorem opd_inX {k0 : Nat} (hr : Room (k0 + 1) X.A) : OpD X e (WOp X (compareOp .In)) (inX false) := by unfold inX; exact opd_inA hr
theorem opd_notInX {k0 : Nat} (hr : Room (k0 + 1) X.A) : OpD X e (WOp X (compareOp .NotIn)) (inX true) := by unfold inX; exact opd_notInA hr
theorem opd_eqX {k0 : Nat} (hr : Room k0 X.A) : OpD X e (WOp X (compareOp .Eq)) eqX := by unfold eqX; exact opd_eq hr
theorem opd_neX {k0 : Nat} (hr : Room k0 X.A) : OpD X e (WOp X (compareOp .NotEq)) neX := by unfold neX; exact opd_ne hr
end
/-! ### what they ask, by cases -/
section
variable {Q : D → Prop}
theorem if_b {b : Bool} {p q : Prop} (h1 : b = true → p) (h2 : b = false → q) : if b = true then p else q := by cases b with | true => exact h1 rfl | false => exact h2 rfl
theorem line_of {n : Nat} (h : n ≤ 100000) : n < sizeLine := by rw [sizeLine_eq]; omega
theorem at_of {α : Type} {xs : List α} {i : Int} (h0 : 0 ≤ i) (h1 : i < xs.length) : ∃ x, xs[i.toNat]? = some x ∧ atI xs i = some x := by
  obtain ⟨x, hx⟩ : ∃ x, xs[i.toNat]? = some x := ⟨_, List.getElem?_eq_getElem (by omega)⟩
  refine ⟨x, hx, ?_⟩
  have := atI_nat hx
  rwa [Int.toNat_of_nonneg h0] at this
theorem ix_str {s : Str} {i : Int} (hl : s.length ≤ 1000) (h0 : 0 ≤ i) (h1 : i < s.length) (h : ∀ c, s.cps.toList[i.toNat]? = some c → Q (.str ⟨#[c]⟩)) : ixX (.str s) (.int i) Q := by
  unfold ixX
  obtain ⟨c, h2, hc⟩ := at_of (xs := s.cps.toList) h0 (by rw [Array.length_toList]; exact h1)
  show s.length ≤ sizeLine ∧ (match atI s.cps.toList i with | some c => Q (.str ⟨#[c]⟩) | none => False)
  rw [hc]
  exact ⟨le_line hl, h c h2⟩
theorem ix_tup {l : List D} {i : Int} (h0 : 0 ≤ i) (h1 : i < l.length) (h : ∀ d, l[i.toNat]? = some d → Q d) : ixX (.tup l) (.int i) Q := by
  unfold ixX
  obtain ⟨c, h2, hc⟩ := at_of (xs := l) h0 h1
  show (match atI l i with | some d => Q d | none => False)
  rw [hc]
  exact h c h2
end
end T

namespace T
open PySem L2
mutual
def plain : D → Bool
  | .non => true
  | .int _ => true
  | .str _ => true
  | .tup l => plainL l
  | .lst l => plainL l
  | .bl _ => false
  | .dct _ => false
  | .dtp _ => false
  | .ins _ _ => false
  | .self _ _ _ => false
  | .box _ => false
  | .ty _ => false
  | .ref _ => false
  | .scr _ => false
  | .cls _ => false
  | .dself _ _ => false
def plainL : List D → Bool
  | [] => true
  | d :: r => plain d && plainL r
end
mutual
theorem plain_dat : ∀ {d : D}, plain d = true → isDat d = true
  | .non, _ => rfl
  | .int _, _ => rfl
  | .str _, _ => rfl
  | .tup l, h => plainL_dat (l := l) h
  | .lst l, h => plainL_dat (l := l) h
theorem plainL_dat : ∀ {l : List D}, plainL l = true → isDatL l = true
  | [], _ => rfl
  | d :: r, h => by
    rw [plainL, Bool.and_eq_true] at h
    rw [isDatL, Bool.and_eq_true]
    exact ⟨plain_dat h.1, plainL_dat h.2⟩
end
mutual
theorem eqv_plain : ∀ (a b : D), plain a = true → plain b = true → (PyData.eqv (py a) (py b) = true ↔ a = b)
  | .non, b, _, hb => by cases b <;> first | (simp [py, PyData.eqv]; done) | cases hb
  | .int i, b, _, hb => by cases b <;> first | (simp [py, PyData.eqv]; done) | cases hb
  | .str i, b, _, hb => by cases b <;> first | (simp [py, PyData.eqv]; done) | cases hb
  | .tup l, b, ha, hb => by
    cases b with
    | tup r => simp only [py, PyData.eqv, D.tup.injEq]; exact eqvL_plain l r ha hb
    | non => simp [py, PyData.eqv]
    | int i => simp [py, PyData.eqv]
    | str i => simp [py, PyData.eqv]
    | lst r => simp [py, PyData.eqv]
    | _ => cases hb
  | .lst l, b, ha, hb => by
    cases b with
    | lst r => simp only [py, PyData.eqv, D.lst.injEq]; exact eqvL_plain l r ha hb
    | non => simp [py, PyData.eqv]
    | int i => simp [py, PyData.eqv]
    | str i => simp [py, PyData.eqv]
    | tup r => simp [py, PyData.eqv]
    | _ => cases hb
theorem eqvL_plain : ∀ (a b : List D), plainL a = true → plainL b = true → (PyData.eqvAll (pyL a) (pyL b) = true ↔ a = b)
  | [], [], _, _ => by simp [pyL, PyData.eqvAll]
  | [], _ :: _, _, _ => by simp [pyL, PyData.eqvAll]
  | _ :: _, [], _, _ => by simp [pyL, PyData.eqvAll]
  | x :: r, y :: s, ha, hb => by
    rw [plainL, Bool.and_eq_true] at ha hb
    simp only [pyL, PyData.eqvAll, Bool.and_eq_true, List.cons.injEq]
    rw [eqv_plain x y ha.1 hb.1, eqvL_plain r s ha.2 hb.2]
end
theorem eqB_plain {a b : D} (ha : plain a = true) (hb : plain b = true) : eqB a b = true ↔ a = b := eqv_plain a b ha hb
theorem plainL_all {l : List D} : plainL l = true ↔ ∀ d ∈ l, plain d = true := by
  induction l with
  | nil => simp [plainL]
  | cons d r ih => rw [plainL, Bool.and_eq_true, ih]; simp
theorem inL_plain {d : D} {l : List D} (hd : plain d = true) (hl : plainL l = true) : inL d l = true ↔ d ∈ l := by
  unfold inL
  rw [List.any_eq_true]
  constructor
  · rintro ⟨z, hz, e⟩
    rw [eqB_plain (plainL_all.mp hl z hz) hd] at e
    exact e ▸ hz
  · intro h
    exact ⟨d, h, (eqB_plain hd hd).mpr rfl⟩
theorem plain_strs (ss : List Str) : plainL (ss.map D.str) = true := plainL_all.mpr fun d hd => by
  obtain ⟨s, _, rfl⟩ := List.mem_map.mp hd
  rfl
theorem depL_le {l : List D} {n : Nat} (h : ∀ d ∈ l, dep d ≤ n) : dep (.lst l) ≤ n + 1 ∧ dep (.tup l) ≤ n + 1 := by
  have : PyData.depthAll (pyL l) ≤ n := by
    induction l with
    | nil => exact Nat.zero_le _
    | cons d r ih =>
      rw [pyL, PyData.depthAll]
      have h1 : (py d).depth ≤ n := h d List.mem_cons_self
      have h2 := ih fun x hx => h x (List.mem_cons_of_mem _ hx)
      omega
  constructor <;> (show PyData.depthAll (pyL l) + 1 ≤ n + 1; omega)
theorem dep_strs (ss : List Str) : dep (.lst (ss.map D.str)) ≤ 1 := (depL_le (n := 0) fun d hd => by
  obtain ⟨s, _, rfl⟩ := List.mem_map.mp hd
  exact Nat.le_refl _).1
theorem cutS_len (s : Str) (lo hi : Option Int) : (cutS s lo hi).length ≤ s.length := by
  show (((s.cps.toList.drop _).take _).toArray).size ≤ s.cps.size
  rw [List.size_toArray, List.length_take, List.length_drop]
  simp; omega
theorem strs_of_mem : ∀ {l : List D}, (∀ d ∈ l, ∃ s, d = .str s) → ∃ ss : List Str, l = ss.map D.str
  | [], _ => ⟨[], rfl⟩
  | d :: r, h => by
    obtain ⟨s, rfl⟩ := h d List.mem_cons_self
    obtain ⟨ss, rfl⟩ := strs_of_mem fun x hx => h x (List.mem_cons_of_mem _ hx)
    exact ⟨s :: ss, rfl⟩
theorem perm_strs {l : List D} {w : List Str} (h : l.Perm (w.map D.str)) : ∃ w' : List Str, l = w'.map D.str ∧ w'.length = w.length ∧ (∀ s, s ∈ w' ↔ s ∈ w) ∧ (w.Nodup → w'.Nodup) := by
  obtain ⟨w', rfl⟩ := strs_of_mem (l := l) fun d hd => by
    obtain ⟨s, _, rfl⟩ := List.mem_map.mp (h.mem_iff.mp hd)
    exact ⟨s, rfl⟩
  have inj : ∀ a b : Str, D.str a = D.str b → a = b := fun a b h => by cases h; rfl
  have mm : ∀ (l : List Str) (s : Str), D.str s ∈ l.map D.str ↔ s ∈ l := fun l s => by
    rw [List.mem_map]
    exact ⟨fun ⟨x, hx, e⟩ => by cases e; exact hx, fun h => ⟨s, h, rfl⟩⟩
  refine ⟨w', rfl, by simpa using h.length_eq, fun s => ?_, fun hn => ?_⟩
  · rw [← mm w' s, ← mm w s, h.mem_iff]
  · have : (w.map D.str).Nodup := by
      rw [List.nodup_iff_pairwise_ne, List.pairwise_map]
      exact (List.nodup_iff_pairwise_ne.mp hn).imp fun hne e => hne (inj _ _ e)
    have := h.nodup_iff.mpr this
    rw [List.nodup_iff_pairwise_ne, List.pairwise_map] at this
    exact List.nodup_iff_pairwise_ne.mpr (this.imp fun hne e => hne (by rw [e]))
theorem cutL_len50 {α : Type} (xs : List α) (lo : Option Int) : (cutL xs lo (some 50)).length ≤ 50 := by
  unfold cutL
  rw [List.length_take]
  have : HT.sIx xs.length xs.length (some 50) ≤ 50 := by
    show (if (50 : Int) < 0 then ((50 : Int) + (xs.length : Int)).toNat else min (50 : Int).toNat xs.length) ≤ 50
    rw [if_neg (by decide)]
    exact Nat.le_trans (Nat.min_le_left _ _) (by decide)
  omega
theorem map_int_get {ns : List Int} {i : Nat} {d : D} (h : (ns.map D.int)[i]? = some d) : ∃ n, d = .int n := by
  rw [List.getElem?_map] at h
  cases hn : ns[i]? with
  | none => rw [hn] at h; cases h
  | some n => rw [hn] at h; cases h; exact ⟨n, rfl⟩
theorem perm_erase : ∀ {l : List D} {i : Nat} {y : D}, l[i]? = some y → (y :: l.eraseIdx i).Perm l
  | [], _, _, h => by simp at h
  | x :: r, 0, y, h => by simp at h; subst h; exact List.Perm.refl _
  | x :: r, i + 1, y, h => by
    rw [List.getElem?_cons_succ] at h
    rw [List.eraseIdx_cons_succ]
    exact (List.Perm.swap x y _).trans ((perm_erase h).cons x)
theorem perm_pop {l found : List D} {i : Nat} {y : D} {orig : List D} (h : (l ++ found).Perm orig) (hy : l[i]? = some y) : (l.eraseIdx i ++ (found ++ [y])).Perm orig := by
  obtain ⟨hi, e⟩ := List.getElem?_eq_some_iff.mp hy
  refine List.Perm.trans ?_ h
  have h1 : (y :: l.eraseIdx i).Perm l := perm_erase hy
  refine List.Perm.trans ?_ (List.Perm.append_right found h1)
  rw [← List.append_assoc]
  exact List.perm_append_comm
end T

namespace T
open PySem L2
/-! ### what the operations ask, as equations -/
section
variable {Q : D → Prop} {a b i j : Int} {s t : Str} {l r : List D} {x : D} {p q : Bool}
theorem x_bl {Q : Bool → Prop} : onBl (.bl p) Q = Q p := propext Iff.rfl
theorem x_truB : truD (.bl p) = some p := rfl
theorem x_truL : truD (.lst l) = some (!l.isEmpty) := rfl
theorem x_truT : truD (.tup l) = some (!l.isEmpty) := rfl
theorem x_truI : truD (.int i) = some (i != 0) := rfl
theorem x_eqI : eqX (.int a) (.int b) Q = Q (.bl (decide (a = b))) := by unfold eqX; rfl
theorem x_eqS : eqX (.str s) (.str t) Q = Q (.bl (decide (s = t))) := by unfold eqX; rfl
theorem x_eqB : eqX (.bl p) (.bl q) Q = Q (.bl (decide (p = q))) := by unfold eqX; rfl
theorem x_neI : neX (.int a) (.int b) Q = Q (.bl (!decide (a = b))) := by unfold neX; rfl
theorem x_neS : neX (.str s) (.str t) Q = Q (.bl (!decide (s = t))) := by unfold neX; rfl
theorem x_neB : neX (.bl p) (.bl q) Q = Q (.bl (!decide (p = q))) := by unfold neX; rfl
theorem x_addI : addX (.int a) (.int b) Q = Q (.int (a + b)) := by unfold addX; rfl
theorem x_addL : addX (.lst l) (.lst r) Q = (l.length + r.length ≤ sizeLine ∧ Q (.lst (l ++ r))) := by unfold addX; rfl
theorem x_addT : addX (.tup l) (.tup r) Q = (l.length + r.length ≤ sizeLine ∧ Q (.tup (l ++ r))) := by unfold addX; rfl
theorem x_addS : addX (.str s) (.str t) Q = (s.length + t.length ≤ sizeLine ∧ Q (.str (s ++ t))) := by unfold addX; rfl
theorem x_subI : subD (.int a) (.int b) Q = Q (.int (a - b)) := propext Iff.rfl
theorem x_mulI : mulX (.int a) (.int b) Q = (CMul a b ∧ Q (.int (a * b))) := by unfold mulX; rfl
theorem x_modI : modD (.int a) (.int b) Q = (0 < b ∧ Q (.int (a % b))) := propext Iff.rfl
theorem x_fdivI : fdivD (.int a) (.int b) Q = ((0 < b ∧ b < 1267650600228229401496703205376) ∧ Q (.int (a / b))) := propext Iff.rfl
theorem x_powI : powD (.int a) (.int b) Q = ((0 ≤ b ∧ b ≤ 1000000 ∧ a.natAbs < 2 ^ 64) ∧ Q (.int (a ^ b.toNat))) := propext Iff.rfl
theorem x_lt : ltD (.int a) (.int b) Q = Q (.bl (decide (a < b))) := propext Iff.rfl
theorem x_le : leD (.int a) (.int b) Q = Q (.bl (decide (a ≤ b))) := propext Iff.rfl
theorem x_gt : gtD (.int a) (.int b) Q = Q (.bl (decide (b < a))) := propext Iff.rfl
theorem x_ge : geD (.int a) (.int b) Q = Q (.bl (decide (b ≤ a))) := propext Iff.rfl
theorem x_ltP : ltP (.tup [.int a, .int b]) (.tup [.int i, .int j]) Q = Q (.bl (if a = i then decide (b < j) else decide (a < i))) := propext Iff.rfl
theorem x_leP : leP (.tup [.int a, .int b]) (.tup [.int i, .int j]) Q = Q (.bl (if a = i then decide (b ≤ j) else decide (a ≤ i))) := propext Iff.rfl
theorem x_gtP : gtP (.tup [.int a, .int b]) (.tup [.int i, .int j]) Q = Q (.bl (if a = i then decide (j < b) else decide (i < a))) := propext Iff.rfl
theorem x_geP : geP (.tup [.int a, .int b]) (.tup [.int i, .int j]) Q = Q (.bl (if a = i then decide (j ≤ b) else decide (i ≤ a))) := propext Iff.rfl
theorem x_lenL : lenD (.lst l) Q = Q (.int (l.length : Int)) := propext Iff.rfl
theorem x_lenT : lenD (.tup l) Q = Q (.int (l.length : Int)) := propext Iff.rfl
theorem x_lenS : lenD (.str s) Q = (s.length ≤ sizeLine ∧ Q (.int (s.length : Int))) := propext Iff.rfl
theorem x_tupL : tupleD (.lst l) Q = Q (.tup l) := propext Iff.rfl
theorem x_tupT : tupleD (.tup l) Q = Q (.tup l) := propext Iff.rfl
theorem x_lisL : listA (.lst l) Q = Q (.lst l) := propext Iff.rfl
theorem x_lisT : listA (.tup l) Q = Q (.lst l) := propext Iff.rfl
theorem x_rev : revD (.lst l) Q = Q (.lst l.reverse) := propext Iff.rfl
theorem x_intI : intD (.int a) Q = Q (.int a) := propext Iff.rfl
theorem x_intB : intD (.bl p) Q = Q (.int (if p then 1 else 0)) := propext Iff.rfl
theorem x_abs : absD (.int a) Q = Q (.int (if a < 0 then -a else a)) := propext Iff.rfl
theorem x_min : min2D (.int a) (.int b) Q = Q (.int (if b < a then b else a)) := propext Iff.rfl
theorem x_max : max2D (.int a) (.int b) Q = Q (.int (if b > a then b else a)) := propext Iff.rfl
theorem x_is : isD x .non Q = Q (.bl (isN x)) := by cases x <;> rfl
theorem x_isNot : isNotD x .non Q = Q (.bl (!isN x)) := by cases x <;> rfl
theorem x_isN0 : isN .non = true := rfl
theorem x_isN1 : isN (.int i) = false := rfl
theorem x_isN2 : isN (.str s) = false := rfl
theorem x_isN3 : isN (.tup l) = false := rfl
theorem x_isN4 {C : Str} {f : List (Str × D)} : isN (.ins C f) = false := rfl
theorem x_nil : nilD false (.lst l) (.lst []) Q = Q (.bl l.isEmpty) := propext Iff.rfl
theorem x_nnil : nilD true (.lst l) (.lst []) Q = Q (.bl (!l.isEmpty)) := propext Iff.rfl
theorem ixL_eq : ixX (.lst l) (.int i) Q = (match atI l i with | some d => Q d | none => False) := by unfold ixX; rfl
theorem ixT_eq : ixX (.tup l) (.int i) Q = (match atI l i with | some d => Q d | none => False) := by unfold ixX; rfl
variable {d0 d1 d2 d3 d4 d5 d6 d7 : D}
theorem x_ix0 : ixX (.lst (d0 :: l)) (.int 0) Q = Q d0 := by rw [ixL_eq, show (0 : Int) = ((0 : Nat) : Int) from rfl, atI_nat (v := d0) rfl]
theorem x_ix1 : ixX (.lst (d0 :: d1 :: l)) (.int 1) Q = Q d1 := by rw [ixL_eq, show (1 : Int) = ((1 : Nat) : Int) from rfl, atI_nat (v := d1) rfl]
theorem x_ix2 : ixX (.lst (d0 :: d1 :: d2 :: l)) (.int 2) Q = Q d2 := by rw [ixL_eq, show (2 : Int) = ((2 : Nat) : Int) from rfl, atI_nat (v := d2) rfl]
theorem x_ix3 : ixX (.lst (d0 :: d1 :: d2 :: d3 :: l)) (.int 3) Q = Q d3 := by rw [ixL_eq, show (3 : Int) = ((3 : Nat) : Int) from rfl, atI_nat (v := d3) rfl]
theorem x_ix4 : ixX (.lst (d0 :: d1 :: d2 :: d3 :: d4 :: l)) (.int 4) Q = Q d4 := by rw [ixL_eq, show (4 : Int) = ((4 : Nat) : Int) from rfl, atI_nat (v := d4) rfl]
theorem x_ix5 : ixX (.lst (d0 :: d1 :: d2 :: d3 :: d4 :: d5 :: l)) (.int 5) Q = Q d5 := by rw [ixL_eq, show (5 : Int) = ((5 : Nat) : Int) from rfl, atI_nat (v := d5) rfl]
theorem x_ix6 : ixX (.lst (d0 :: d1 :: d2 :: d3 :: d4 :: d5 :: d6 :: l)) (.int 6) Q = Q d6 := by rw [ixL_eq, show (6 : Int) = ((6 : Nat) : Int) from rfl, atI_nat (v := d6) rfl]
theorem x_ix7 : ixX (.lst (d0 :: d1 :: d2 :: d3 :: d4 :: d5 :: d6 :: d7 :: l)) (.int 7) Q = Q d7 := by rw [ixL_eq, show (7 : Int) = ((7 : Nat) : Int) from rfl, atI_nat (v := d7) rfl]
theorem x_it0 : ixX (.tup (d0 :: l)) (.int 0) Q = Q d0 := by rw [ixT_eq, show (0 : Int) = ((0 : Nat) : Int) from rfl, atI_nat (v := d0) rfl]
theorem x_it1 : ixX (.tup (d0 :: d1 :: l)) (.int 1) Q = Q d1 := by rw [ixT_eq, show (1 : Int) = ((1 : Nat) : Int) from rfl, atI_nat (v := d1) rfl]
theorem x_it2 : ixX (.tup (d0 :: d1 :: d2 :: l)) (.int 2) Q = Q d2 := by rw [ixT_eq, show (2 : Int) = ((2 : Nat) : Int) from rfl, atI_nat (v := d2) rfl]
end
theorem x_ixB {a : Addr} {s : Str} {Q : D → Prop} : ixB (.box a) (.str s) Q = (s ∈ boxK ∧ ∀ n : Int, 0 ≤ n → Q (.int n)) := propext Iff.rfl
theorem x_kn : (("now" : Str) ∈ boxK) = True := eq_true (by decide +kernel)
theorem x_ks : (("seed" : Str) ∈ boxK) = True := eq_true (by decide +kernel)
theorem x_kt : (("turn" : Str) ∈ boxK) = True := eq_true (by decide +kernel)
theorem cm1 {a b : Int} (h : -(2 ^ 64) < a ∧ a < 2 ^ 64) : CMul a b := .inl h
theorem cm2 {a b : Int} (h : -(2 ^ 64) < b ∧ b < 2 ^ 64) : CMul a b := .inr h
theorem x_slL {l : List D} {lo hi : Option Int} {Q : D → Prop} : slD (.lst l) lo hi Q = Q (.lst (cutL l lo hi)) := propext Iff.rfl
theorem x_slT {l : List D} {lo hi : Option Int} {Q : D → Prop} : slD (.tup l) lo hi Q = Q (.tup (cutL l lo hi)) := propext Iff.rfl
theorem x_slS {s : Str} {lo hi : Option Int} {Q : D → Prop} : slD (.str s) lo hi Q = (s.length ≤ sizeLine ∧ Q (.str (cutS s lo hi))) := propext Iff.rfl
theorem x_slR {l : List Int} {lo hi : Option Int} {Q : D → Prop} : slD (.scr l) lo hi Q = Q (.lst ((cutL l lo hi).map D.int)) := propext Iff.rfl
/-! ### loops over a list -/
/-- a comprehension whose turn neither changes the names nor fails: filtered, then mapped -/
theorem lc_fm {α : Type} {w : TDA} {g : TDG} {tt : TDT} {te : TDE} {own : List Nat} {δ : DSt} {Q : D → DSt → Prop} (xs : List α) (f : α → D) (c : α → Bool) (v : α → D)
    (hw : ∀ P : List D → DSt → Prop, P (xs.map f) δ → w δ P) (hl : xs.length ≤ 100000)
    (turn : ∀ x ∈ xs, ∀ (K1 : D → DSt → Prop) (K2 : DSt → Prop), (c x = true → K1 (v x) (wipeD δ own)) → (c x = false → K2 (wipeD δ own)) →
      g (f x) (wipeD (wipeD δ own) own) fun δ2 => tt δ2 fun b δ3 => if b = true then te δ3 fun y δ4 => K1 y (wipeD δ4 own) else K2 (wipeD δ3 own))
    (q : Q (.lst ((xs.filter c).map v)) (wipeD (wipeD δ own) own)) : dLc w g tt te own δ Q := by
  refine hw _ (Exists.intro (fun (i : Nat) (acc : List D) (δ' : DSt) => δ' = wipeD δ own ∧ acc = ((xs.take i).filter c).map v) ⟨⟨rfl, by simp⟩, ?_, ?_⟩)
  · rintro i d acc δ' hd ⟨rfl, rfl⟩
    rw [List.getElem?_map] at hd
    cases hx : xs[i]? with
    | none => rw [hx] at hd; cases hd
    | some x =>
      rw [hx] at hd
      cases hd
      have hm : x ∈ xs := List.mem_of_getElem? hx
      have ht : xs.take (i + 1) = xs.take i ++ [x] := by rw [List.take_succ, hx]; rfl
      refine turn x hm (fun y δ' => (((xs.take i).filter c).map v).length < sizeLine ∧ δ' = wipeD δ own ∧ ((xs.take i).filter c).map v ++ [y] = ((xs.take (i + 1)).filter c).map v) (fun δ' => δ' = wipeD δ own ∧ ((xs.take i).filter c).map v = ((xs.take (i + 1)).filter c).map v) (fun hc => ⟨?_, rfl, ?_⟩) fun hc => ⟨rfl, ?_⟩
      · have h1 := List.length_filter_le c (xs.take i)
        have h2 : (xs.take i).length ≤ xs.length := List.length_take_le' i xs
        rw [List.length_map]
        exact line_of (by omega)
      · rw [ht, List.filter_append, List.map_append]
        simp [hc]
      · rw [ht, List.filter_append]
        simp [hc]
  · rintro acc δ' ⟨rfl, rfl⟩
    rw [List.length_map, List.take_length]
    exact q
end T

namespace T
open PySem L2
/-! ### readings evaluated over written slots -/
def nth : DSt → Nat → Sl
  | [], _ => .no
  | s :: _, 0 => s
  | _ :: r, n + 1 => nth r n
theorem nth_eq : ∀ (δ : DSt) (i : Nat), δ[i]? = some (nth δ i) ∨ (δ[i]? = none ∧ nth δ i = .no)
  | [], i => .inr ⟨by simp, rfl⟩
  | s :: r, 0 => .inl rfl
  | s :: r, i + 1 => by
    rcases nth_eq r i with h | ⟨h, k⟩
    · exact .inl (by rw [List.getElem?_cons_succ]; exact h)
    · exact .inr ⟨by rw [List.getElem?_cons_succ]; exact h, k⟩
def vS (s : Sl) (δ : DSt) (i : Nat) (Q : D → DSt → Prop) : Prop := match s with | .im d => Q d δ | .ow d => Q d (δ.set i (.im d)) | .no => False
def rS (s : Sl) (k : D → Prop) : Prop := match s with | .im d => k d | .ow d => k d | .no => False
def hS : Sl → Prop | .no => False | _ => True
def atS (δ : DSt) (P : DSt → Prop) : Prop := P δ
def oL (s : Sl) (k : List D → Prop) : Prop := match s with | .ow (.lst ds) => k ds | _ => False
def hL : Sl → Prop | .ow (.lst _) => True | _ => False
def mX {α : Type} (o : Option α) (k : α → Prop) : Prop := match o with | some a => k a | none => False
section
variable {δ δ' : DSt} {i j n : Nat} {s s' : Sl} {Q : D → DSt → Prop} {k : D → Prop} {d x y : D} {F : DEnds}
theorem z0 : nth (s :: δ) 0 = s := rfl
theorem z1 : nth (s :: δ) (n + 1) = nth δ n := rfl
theorem z2 : nth (s :: δ) 1 = nth δ 0 := rfl
theorem v0 : vS (.im d) δ i Q = Q d δ := propext Iff.rfl
theorem v1 : vS (.ow d) δ i Q = atS (δ.set i (.im d)) (Q d) := propext Iff.rfl
theorem r0 : rS (.im d) k = k d := propext Iff.rfl
theorem r1 : rS (.ow d) k = k d := propext Iff.rfl
theorem h0 : hS (.im d) = True := propext Iff.rfl
theorem h1 : hS (.ow d) = True := propext Iff.rfl
theorem h2 {l : List D} : hL (.ow (.lst l)) = True := propext Iff.rfl
theorem o0 {l : List D} {k : List D → Prop} : oL (.ow (.lst l)) k = k l := propext Iff.rfl
theorem m0 {α : Type} {a : α} {k : α → Prop} : mX (some a) k = k a := propext Iff.rfl
theorem mt_b {p : Bool} {k : Bool → Prop} : mX (truD (.bl p)) k = k p := propext Iff.rfl
theorem mt_l {l : List D} {k : Bool → Prop} : mX (truD (.lst l)) k = k (!l.isEmpty) := propext Iff.rfl
theorem mt_t {l : List D} {k : Bool → Prop} : mX (truD (.tup l)) k = k (!l.isEmpty) := propext Iff.rfl
theorem mt_i {i : Int} {k : Bool → Prop} : mX (truD (.int i)) k = k (i != 0) := propext Iff.rfl
theorem at_s1 {i : Nat} {is : List Nat} {s : Sl} {ss : List Sl} {P : DSt → Prop} : atS (setD (i :: is) (s :: ss) δ) P = atS (δ.set i s) (fun δ => atS (setD is ss δ) P) := propext Iff.rfl
theorem at_s0 {P : DSt → Prop} : atS (setD [] [] δ) P = P δ := propext Iff.rfl
theorem at0 {P : DSt → Prop} : atS δ P = P δ := propext Iff.rfl
theorem rd_eq (δ : DSt) (i : Nat) (k : D → Prop) : (match rdS δ i with | some x => k x | none => False) = rS (nth δ i) k := by
  unfold rdS
  rcases nth_eq δ i with h | ⟨h, z⟩
  · rw [h]; cases nth δ i <;> rfl
  · rw [h, z]; rfl
theorem rd_some (δ : DSt) (i : Nat) : ((rdS δ i).isSome = true) = hS (nth δ i) := by
  unfold rdS
  rcases nth_eq δ i with h | ⟨h, z⟩
  · rw [h]; cases nth δ i <;> simp [hS]
  · rw [h, z]; simp [hS]
theorem ow_eq (δ : DSt) (i : Nat) (k : List D → Prop) : (match owL δ i with | some x => k x | none => False) = oL (nth δ i) k := by
  unfold owL oL
  rcases nth_eq δ i with h | ⟨h, z⟩
  · rw [h]
    cases nth δ i with
    | ow d => cases d <;> rfl
    | _ => rfl
  · rw [h, z]
theorem ow_some (δ : DSt) (i : Nat) : ((owL δ i).isSome = true) = hL (nth δ i) := by
  unfold owL
  rcases nth_eq δ i with h | ⟨h, z⟩
  · rw [h]
    cases nth δ i with
    | ow d => cases d <;> simp [hL]
    | _ => simp [hL]
  · rw [h, z]; simp [hL]
theorem e_var : dVar i δ Q = vS (nth δ i) δ i Q := by
  unfold dVar
  rcases nth_eq δ i with h | ⟨h, z⟩
  · rw [h]; cases nth δ i <;> rfl
  · rw [h, z]; rfl
theorem vi0 : dVar 0 (Sl.im d :: δ) Q = Q d (Sl.im d :: δ) := propext Iff.rfl
theorem vo0 : dVar 0 (Sl.ow d :: δ) Q = Q d (Sl.im d :: δ) := propext Iff.rfl
theorem ri0 : rS (nth (Sl.im d :: δ) 0) k = k d := propext Iff.rfl
theorem ro0 : rS (nth (Sl.ow d :: δ) 0) k = k d := propext Iff.rfl
theorem ol0 {l : List D} {k : List D → Prop} : oL (nth (Sl.ow (.lst l) :: δ) 0) k = k l := propext Iff.rfl
theorem as0 {s t : Sl} {P : DSt → Prop} : atS (List.set (t :: δ) 0 s) P = P (s :: δ) := propext Iff.rfl
theorem vi1 {s0 : Sl} : dVar 1 (s0 :: Sl.im d :: δ) Q = Q d (s0 :: Sl.im d :: δ) := propext Iff.rfl
theorem vo1 {s0 : Sl} : dVar 1 (s0 :: Sl.ow d :: δ) Q = Q d (s0 :: Sl.im d :: δ) := propext Iff.rfl
theorem ri1 {s0 : Sl} : rS (nth (s0 :: Sl.im d :: δ) 1) k = k d := propext Iff.rfl
theorem ro1 {s0 : Sl} : rS (nth (s0 :: Sl.ow d :: δ) 1) k = k d := propext Iff.rfl
theorem ol1 {s0 : Sl} {l : List D} {k : List D → Prop} : oL (nth (s0 :: Sl.ow (.lst l) :: δ) 1) k = k l := propext Iff.rfl
theorem as1 {s0 : Sl} {s t : Sl} {P : DSt → Prop} : atS (List.set (s0 :: t :: δ) 1 s) P = P (s0 :: s :: δ) := propext Iff.rfl
theorem vi2 {s0 s1 : Sl} : dVar 2 (s0 :: s1 :: Sl.im d :: δ) Q = Q d (s0 :: s1 :: Sl.im d :: δ) := propext Iff.rfl
theorem vo2 {s0 s1 : Sl} : dVar 2 (s0 :: s1 :: Sl.ow d :: δ) Q = Q d (s0 :: s1 :: Sl.im d :: δ) := propext Iff.rfl
theorem ri2 {s0 s1 : Sl} : rS (nth (s0 :: s1 :: Sl.im d :: δ) 2) k = k d := propext Iff.rfl
theorem ro2 {s0 s1 : Sl} : rS (nth (s0 :: s1 :: Sl.ow d :: δ) 2) k = k d := propext Iff.rfl
theorem ol2 {s0 s1 : Sl} {l : List D} {k : List D → Prop} : oL (nth (s0 :: s1 :: Sl.ow (.lst l) :: δ) 2) k = k l := propext Iff.rfl
theorem as2 {s0 s1 : Sl} {s t : Sl} {P : DSt → Prop} : atS (List.set (s0 :: s1 :: t :: δ) 2 s) P = P (s0 :: s1 :: s :: δ) := propext Iff.rfl
theorem vi3 {s0 s1 s2 : Sl} : dVar 3 (s0 :: s1 :: s2 :: Sl.im d :: δ) Q = Q d (s0 :: s1 :: s2 :: Sl.im d :: δ) := propext Iff.rfl
theorem vo3 {s0 s1 s2 : Sl} : dVar 3 (s0 :: s1 :: s2 :: Sl.ow d :: δ) Q = Q d (s0 :: s1 :: s2 :: Sl.im d :: δ) := propext Iff.rfl
theorem ri3 {s0 s1 s2 : Sl} : rS (nth (s0 :: s1 :: s2 :: Sl.im d :: δ) 3) k = k d := propext Iff.rfl
theorem ro3 {s0 s1 s2 : Sl} : rS (nth (s0 :: s1 :: s2 :: Sl.ow d :: δ) 3) k = k d := propext Iff.rfl
theorem ol3 {s0 s1 s2 : Sl} {l : List D} {k : List D → Prop} : oL (nth (s0 :: s1 :: s2 :: Sl.ow (.lst l) :: δ) 3) k = k l := propext Iff.rfl
theorem as3 {s0 s1 s2 : Sl} {s t : Sl} {P : DSt → Prop} : atS (List.set (s0 :: s1 :: s2 :: t :: δ) 3 s) P = P (s0 :: s1 :: s2 :: s :: δ) := propext Iff.rfl
theorem vi4 {s0 s1 s2 s3 : Sl} : dVar 4 (s0 :: s1 :: s2 :: s3 :: Sl.im d :: δ) Q = Q d (s0 :: s1 :: s2 :: s3 :: Sl.im d :: δ) := propext Iff.rfl
theorem vo4 {s0 s1 s2 s3 : Sl} : dVar 4 (s0 :: s1 :: s2 :: s3 :: Sl.ow d :: δ) Q = Q d (s0 :: s1 :: s2 :: s3 :: Sl.im d :: δ) := propext Iff.rfl
theorem ri4 {s0 s1 s2 s3 : Sl} : rS (nth (s0 :: s1 :: s2 :: s3 :: Sl.im d :: δ) 4) k = k d := propext Iff.rfl
theorem ro4 {s0 s1 s2 s3 : Sl} : rS (nth (s0 :: s1 :: s2 :: s3 :: Sl.ow d :: δ) 4) k = k d := propext Iff.rfl
theorem ol4 {s0 s1 s2 s3 : Sl} {l : List D} {k : List D → Prop} : oL (nth (s0 :: s1 :: s2 :: s3 :: Sl.ow (.lst l) :: δ) 4) k = k l := propext Iff.rfl
theorem as4 {s0 s1 s2 s3 : Sl} {s t : Sl} {P : DSt → Prop} : atS (List.set (s0 :: s1 :: s2 :: s3 :: t :: δ) 4 s) P = P (s0 :: s1 :: s2 :: s3 :: s :: δ) := propext Iff.rfl
theorem vi5 {s0 s1 s2 s3 s4 : Sl} : dVar 5 (s0 :: s1 :: s2 :: s3 :: s4 :: Sl.im d :: δ) Q = Q d (s0 :: s1 :: s2 :: s3 :: s4 :: Sl.im d :: δ) := propext Iff.rfl
theorem vo5 {s0 s1 s2 s3 s4 : Sl} : dVar 5 (s0 :: s1 :: s2 :: s3 :: s4 :: Sl.ow d :: δ) Q = Q d (s0 :: s1 :: s2 :: s3 :: s4 :: Sl.im d :: δ) := propext Iff.rfl
theorem ri5 {s0 s1 s2 s3 s4 : Sl} : rS (nth (s0 :: s1 :: s2 :: s3 :: s4 :: Sl.im d :: δ) 5) k = k d := propext Iff.rfl
theorem ro5 {s0 s1 s2 s3 s4 : Sl} : rS (nth (s0 :: s1 :: s2 :: s3 :: s4 :: Sl.ow d :: δ) 5) k = k d := propext Iff.rfl
theorem ol5 {s0 s1 s2 s3 s4 : Sl} {l : List D} {k : List D → Prop} : oL (nth (s0 :: s1 :: s2 :: s3 :: s4 :: Sl.ow (.lst l) :: δ) 5) k = k l := propext Iff.rfl
theorem as5 {s0 s1 s2 s3 s4 : Sl} {s t : Sl} {P : DSt → Prop} : atS (List.set (s0 :: s1 :: s2 :: s3 :: s4 :: t :: δ) 5 s) P = P (s0 :: s1 :: s2 :: s3 :: s4 :: s :: δ) := propext Iff.rfl
theorem vi6 {s0 s1 s2 s3 s4 s5 : Sl} : dVar 6 (s0 :: s1 :: s2 :: s3 :: s4 :: s5 :: Sl.im d :: δ) Q = Q d (s0 :: s1 :: s2 :: s3 :: s4 :: s5 :: Sl.im d :: δ) := propext Iff.rfl
theorem vo6 {s0 s1 s2 s3 s4 s5 : Sl} : dVar 6 (s0 :: s1 :: s2 :: s3 :: s4 :: s5 :: Sl.ow d :: δ) Q = Q d (s0 :: s1 :: s2 :: s3 :: s4 :: s5 :: Sl.im d :: δ) := propext Iff.rfl
theorem ri6 {s0 s1 s2 s3 s4 s5 : Sl} : rS (nth (s0 :: s1 :: s2 :: s3 :: s4 :: s5 :: Sl.im d :: δ) 6) k = k d := propext Iff.rfl
theorem ro6 {s0 s1 s2 s3 s4 s5 : Sl} : rS (nth (s0 :: s1 :: s2 :: s3 :: s4 :: s5 :: Sl.ow d :: δ) 6) k = k d := propext Iff.rfl
theorem ol6 {s0 s1 s2 s3 s4 s5 : Sl} {l : List D} {k : List D → Prop} : oL (nth (s0 :: s1 :: s2 :: s3 :: s4 :: s5 :: Sl.ow (.lst l) :: δ) 6) k = k l := propext Iff.rfl
theorem as6 {s0 s1 s2 s3 s4 s5 : Sl} {s t : Sl} {P : DSt → Prop} : atS (List.set (s0 :: s1 :: s2 :: s3 :: s4 :: s5 :: t :: δ) 6 s) P = P (s0 :: s1 :: s2 :: s3 :: s4 :: s5 :: s :: δ) := propext Iff.rfl
theorem vi7 {s0 s1 s2 s3 s4 s5 s6 : Sl} : dVar 7 (s0 :: s1 :: s2 :: s3 :: s4 :: s5 :: s6 :: Sl.im d :: δ) Q = Q d (s0 :: s1 :: s2 :: s3 :: s4 :: s5 :: s6 :: Sl.im d :: δ) := propext Iff.rfl
theorem vo7 {s0 s1 s2 s3 s4 s5 s6 : Sl} : dVar 7 (s0 :: s1 :: s2 :: s3 :: s4 :: s5 :: s6 :: Sl.ow d :: δ) Q = Q d (s0 :: s1 :: s2 :: s3 :: s4 :: s5 :: s6 :: Sl.im d :: δ) := propext Iff.rfl
theorem ri7 {s0 s1 s2 s3 s4 s5 s6 : Sl} : rS (nth (s0 :: s1 :: s2 :: s3 :: s4 :: s5 :: s6 :: Sl.im d :: δ) 7) k = k d := propext Iff.rfl
theorem ro7 {s0 s1 s2 s3 s4 s5 s6 : Sl} : rS (nth (s0 :: s1 :: s2 :: s3 :: s4 :: s5 :: s6 :: Sl.ow d :: δ) 7) k = k d := propext Iff.rfl
theorem ol7 {s0 s1 s2 s3 s4 s5 s6 : Sl} {l : List D} {k : List D → Prop} : oL (nth (s0 :: s1 :: s2 :: s3 :: s4 :: s5 :: s6 :: Sl.ow (.lst l) :: δ) 7) k = k l := propext Iff.rfl
theorem as7 {s0 s1 s2 s3 s4 s5 s6 : Sl} {s t : Sl} {P : DSt → Prop} : atS (List.set (s0 :: s1 :: s2 :: s3 :: s4 :: s5 :: s6 :: t :: δ) 7 s) P = P (s0 :: s1 :: s2 :: s3 :: s4 :: s5 :: s6 :: s :: δ) := propext Iff.rfl
theorem vi8 {s0 s1 s2 s3 s4 s5 s6 s7 : Sl} : dVar 8 (s0 :: s1 :: s2 :: s3 :: s4 :: s5 :: s6 :: s7 :: Sl.im d :: δ) Q = Q d (s0 :: s1 :: s2 :: s3 :: s4 :: s5 :: s6 :: s7 :: Sl.im d :: δ) := propext Iff.rfl
theorem vo8 {s0 s1 s2 s3 s4 s5 s6 s7 : Sl} : dVar 8 (s0 :: s1 :: s2 :: s3 :: s4 :: s5 :: s6 :: s7 :: Sl.ow d :: δ) Q = Q d (s0 :: s1 :: s2 :: s3 :: s4 :: s5 :: s6 :: s7 :: Sl.im d :: δ) := propext Iff.rfl
theorem ri8 {s0 s1 s2 s3 s4 s5 s6 s7 : Sl} : rS (nth (s0 :: s1 :: s2 :: s3 :: s4 :: s5 :: s6 :: s7 :: Sl.im d :: δ) 8) k = k d := propext Iff.rfl
theorem ro8 {s0 s1 s2 s3 s4 s5 s6 s7 : Sl} : rS (nth (s0 :: s1 :: s2 :: s3 :: s4 :: s5 :: s6 :: s7 :: Sl.ow d :: δ) 8) k = k d := propext Iff.rfl
theorem ol8 {s0 s1 s2 s3 s4 s5 s6 s7 : Sl} {l : List D} {k : List D → Prop} : oL (nth (s0 :: s1 :: s2 :: s3 :: s4 :: s5 :: s6 :: s7 :: Sl.ow (.lst l) :: δ) 8) k = k l := propext Iff.rfl
theorem as8 {s0 s1 s2 s3 s4 s5 s6 s7 : Sl} {s t : Sl} {P : DSt → Prop} : atS (List.set (s0 :: s1 :: s2 :: s3 :: s4 :: s5 :: s6 :: s7 :: t :: δ) 8 s) P = P (s0 :: s1 :: s2 :: s3 :: s4 :: s5 :: s6 :: s7 :: s :: δ) := propext Iff.rfl
theorem vi9 {s0 s1 s2 s3 s4 s5 s6 s7 s8 : Sl} : dVar 9 (s0 :: s1 :: s2 :: s3 :: s4 :: s5 :: s6 :: s7 :: s8 :: Sl.im d :: δ) Q = Q d (s0 :: s1 :: s2 :: s3 :: s4 :: s5 :: s6 :: s7 :: s8 :: Sl.im d :: δ) := propext Iff.rfl
theorem vo9 {s0 s1 s2 s3 s4 s5 s6 s7 s8 : Sl} : dVar 9 (s0 :: s1 :: s2 :: s3 :: s4 :: s5 :: s6 :: s7 :: s8 :: Sl.ow d :: δ) Q = Q d (s0 :: s1 :: s2 :: s3 :: s4 :: s5 :: s6 :: s7 :: s8 :: Sl.im d :: δ) := propext Iff.rfl
theorem ri9 {s0 s1 s2 s3 s4 s5 s6 s7 s8 : Sl} : rS (nth (s0 :: s1 :: s2 :: s3 :: s4 :: s5 :: s6 :: s7 :: s8 :: Sl.im d :: δ) 9) k = k d := propext Iff.rfl
theorem ro9 {s0 s1 s2 s3 s4 s5 s6 s7 s8 : Sl} : rS (nth (s0 :: s1 :: s2 :: s3 :: s4 :: s5 :: s6 :: s7 :: s8 :: Sl.ow d :: δ) 9) k = k d := propext Iff.rfl
theorem ol9 {s0 s1 s2 s3 s4 s5 s6 s7 s8 : Sl} {l : List D} {k : List D → Prop} : oL (nth (s0 :: s1 :: s2 :: s3 :: s4 :: s5 :: s6 :: s7 :: s8 :: Sl.ow (.lst l) :: δ) 9) k = k l := propext Iff.rfl
theorem as9 {s0 s1 s2 s3 s4 s5 s6 s7 s8 : Sl} {s t : Sl} {P : DSt → Prop} : atS (List.set (s0 :: s1 :: s2 :: s3 :: s4 :: s5 :: s6 :: s7 :: s8 :: t :: δ) 9 s) P = P (s0 :: s1 :: s2 :: s3 :: s4 :: s5 :: s6 :: s7 :: s8 :: s :: δ) := propext Iff.rfl
theorem vi10 {s0 s1 s2 s3 s4 s5 s6 s7 s8 s9 : Sl} : dVar 10 (s0 :: s1 :: s2 :: s3 :: s4 :: s5 :: s6 :: s7 :: s8 :: s9 :: Sl.im d :: δ) Q = Q d (s0 :: s1 :: s2 :: s3 :: s4 :: s5 :: s6 :: s7 :: s8 :: s9 :: Sl.im d :: δ) := propext Iff.rfl
theorem vo10 {s0 s1 s2 s3 s4 s5 s6 s7 s8 s9 : Sl} : dVar 10 (s0 :: s1 :: s2 :: s3 :: s4 :: s5 :: s6 :: s7 :: s8 :: s9 :: Sl.ow d :: δ) Q = Q d (s0 :: s1 :: s2 :: s3 :: s4 :: s5 :: s6 :: s7 :: s8 :: s9 :: Sl.im d :: δ) := propext Iff.rfl
theorem ri10 {s0 s1 s2 s3 s4 s5 s6 s7 s8 s9 : Sl} : rS (nth (s0 :: s1 :: s2 :: s3 :: s4 :: s5 :: s6 :: s7 :: s8 :: s9 :: Sl.im d :: δ) 10) k = k d := propext Iff.rfl
theorem ro10 {s0 s1 s2 s3 s4 s5 s6 s7 s8 s9 : Sl} : rS (nth (s0 :: s1 :: s2 :: s3 :: s4 :: s5 :: s6 :: s7 :: s8 :: s9 :: Sl.ow d :: δ) 10) k = k d := propext Iff.rfl
theorem ol10 {s0 s1 s2 s3 s4 s5 s6 s7 s8 s9 : Sl} {l : List D} {k : List D → Prop} : oL (nth (s0 :: s1 :: s2 :: s3 :: s4 :: s5 :: s6 :: s7 :: s8 :: s9 :: Sl.ow (.lst l) :: δ) 10) k = k l := propext Iff.rfl
theorem as10 {s0 s1 s2 s3 s4 s5 s6 s7 s8 s9 : Sl} {s t : Sl} {P : DSt → Prop} : atS (List.set (s0 :: s1 :: s2 :: s3 :: s4 :: s5 :: s6 :: s7 :: s8 :: s9 :: t :: δ) 10 s) P = P (s0 :: s1 :: s2 :: s3 :: s4 :: s5 :: s6 :: s7 :: s8 :: s9 :: s :: δ) := propext Iff.rfl
theorem vi11 {s0 s1 s2 s3 s4 s5 s6 s7 s8 s9 s10 : Sl} : dVar 11 (s0 :: s1 :: s2 :: s3 :: s4 :: s5 :: s6 :: s7 :: s8 :: s9 :: s10 :: Sl.im d :: δ) Q = Q d (s0 :: s1 :: s2 :: s3 :: s4 :: s5 :: s6 :: s7 :: s8 :: s9 :: s10 :: Sl.im d :: δ) := propext Iff.rfl
theorem vo11 {s0 s1 s2 s3 s4 s5 s6 s7 s8 s9 s10 : Sl} : dVar 11 (s0 :: s1 :: s2 :: s3 :: s4 :: s5 :: s6 :: s7 :: s8 :: s9 :: s10 :: Sl.ow d :: δ) Q = Q d (s0 :: s1 :: s2 :: s3 :: s4 :: s5 :: s6 :: s7 :: s8 :: s9 :: s10 :: Sl.im d :: δ) := propext Iff.rfl
theorem ri11 {s0 s1 s2 s3 s4 s5 s6 s7 s8 s9 s10 : Sl} : rS (nth (s0 :: s1 :: s2 :: s3 :: s4 :: s5 :: s6 :: s7 :: s8 :: s9 :: s10 :: Sl.im d :: δ) 11) k = k d := propext Iff.rfl
theorem ro11 {s0 s1 s2 s3 s4 s5 s6 s7 s8 s9 s10 : Sl} : rS (nth (s0 :: s1 :: s2 :: s3 :: s4 :: s5 :: s6 :: s7 :: s8 :: s9 :: s10 :: Sl.ow d :: δ) 11) k = k d := propext Iff.rfl
theorem ol11 {s0 s1 s2 s3 s4 s5 s6 s7 s8 s9 s10 : Sl} {l : List D} {k : List D → Prop} : oL (nth (s0 :: s1 :: s2 :: s3 :: s4 :: s5 :: s6 :: s7 :: s8 :: s9 :: s10 :: Sl.ow (.lst l) :: δ) 11) k = k l := propext Iff.rfl
theorem as11 {s0 s1 s2 s3 s4 s5 s6 s7 s8 s9 s10 : Sl} {s t : Sl} {P : DSt → Prop} : atS (List.set (s0 :: s1 :: s2 :: s3 :: s4 :: s5 :: s6 :: s7 :: s8 :: s9 :: s10 :: t :: δ) 11 s) P = P (s0 :: s1 :: s2 :: s3 :: s4 :: s5 :: s6 :: s7 :: s8 :: s9 :: s10 :: s :: δ) := propext Iff.rfl
theorem vi12 {s0 s1 s2 s3 s4 s5 s6 s7 s8 s9 s10 s11 : Sl} : dVar 12 (s0 :: s1 :: s2 :: s3 :: s4 :: s5 :: s6 :: s7 :: s8 :: s9 :: s10 :: s11 :: Sl.im d :: δ) Q = Q d (s0 :: s1 :: s2 :: s3 :: s4 :: s5 :: s6 :: s7 :: s8 :: s9 :: s10 :: s11 :: Sl.im d :: δ) := propext Iff.rfl
theorem vo12 {s0 s1 s2 s3 s4 s5 s6 s7 s8 s9 s10 s11 : Sl} : dVar 12 (s0 :: s1 :: s2 :: s3 :: s4 :: s5 :: s6 :: s7 :: s8 :: s9 :: s10 :: s11 :: Sl.ow d :: δ) Q = Q d (s0 :: s1 :: s2 :: s3 :: s4 :: s5 :: s6 :: s7 :: s8 :: s9 :: s10 :: s11 :: Sl.im d :: δ) := propext Iff.rfl
theorem ri12 {s0 s1 s2 s3 s4 s5 s6 s7 s8 s9 s10 s11 : Sl} : rS (nth (s0 :: s1 :: s2 :: s3 :: s4 :: s5 :: s6 :: s7 :: s8 :: s9 :: s10 :: s11 :: Sl.im d :: δ) 12) k = k d := propext Iff.rfl
theorem ro12 {s0 s1 s2 s3 s4 s5 s6 s7 s8 s9 s10 s11 : Sl} : rS (nth (s0 :: s1 :: s2 :: s3 :: s4 :: s5 :: s6 :: s7 :: s8 :: s9 :: s10 :: s11 :: Sl.ow d :: δ) 12) k = k d := propext Iff.rfl
theorem ol12 {s0 s1 s2 s3 s4 s5 s6 s7 s8 s9 s10 s11 : Sl} {l : List D} {k : List D → Prop} : oL (nth (s0 :: s1 :: s2 :: s3 :: s4 :: s5 :: s6 :: s7 :: s8 :: s9 :: s10 :: s11 :: Sl.ow (.lst l) :: δ) 12) k = k l := propext Iff.rfl
theorem as12 {s0 s1 s2 s3 s4 s5 s6 s7 s8 s9 s10 s11 : Sl} {s t : Sl} {P : DSt → Prop} : atS (List.set (s0 :: s1 :: s2 :: s3 :: s4 :: s5 :: s6 :: s7 :: s8 :: s9 :: s10 :: s11 :: t :: δ) 12 s) P = P (s0 :: s1 :: s2 :: s3 :: s4 :: s5 :: s6 :: s7 :: s8 :: s9 :: s10 :: s11 :: s :: δ) := propext Iff.rfl
theorem vi13 {s0 s1 s2 s3 s4 s5 s6 s7 s8 s9 s10 s11 s12 : Sl} : dVar 13 (s0 :: s1 :: s2 :: s3 :: s4 :: s5 :: s6 :: s7 :: s8 :: s9 :: s10 :: s11 :: s12 :: Sl.im d :: δ) Q = Q d (s0 :: s1 :: s2 :: s3 :: s4 :: s5 :: s6 :: s7 :: s8 :: s9 :: s10 :: s11 :: s12 :: Sl.im d :: δ) := propext Iff.rfl
theorem vo13 {s0 s1 s2 s3 s4 s5 s6 s7 s8 s9 s10 s11 s12 : Sl} : dVar 13 (s0 :: s1 :: s2 :: s3 :: s4 :: s5 :: s6 :: s7 :: s8 :: s9 :: s10 :: s11 :: s12 :: Sl.ow d :: δ) Q = Q d (s0 :: s1 :: s2 :: s3 :: s4 :: s5 :: s6 :: s7 :: s8 :: s9 :: s10 :: s11 :: s12 :: Sl.im d :: δ) := propext Iff.rfl
theorem ri13 {s0 s1 s2 s3 s4 s5 s6 s7 s8 s9 s10 s11 s12 : Sl} : rS (nth (s0 :: s1 :: s2 :: s3 :: s4 :: s5 :: s6 :: s7 :: s8 :: s9 :: s10 :: s11 :: s12 :: Sl.im d :: δ) 13) k = k d := propext Iff.rfl
theorem ro13 {s0 s1 s2 s3 s4 s5 s6 s7 s8 s9 s10 s11 s12 : Sl} : rS (nth (s0 :: s1 :: s2 :: s3 :: s4 :: s5 :: s6 :: s7 :: s8 :: s9 :: s10 :: s11 :: s12 :: Sl.ow d :: δ) 13) k = k d := propext Iff.rfl
theorem ol13 {s0 s1 s2 s3 s4 s5 s6 s7 s8 s9 s10 s11 s12 : Sl} {l : List D} {k : List D → Prop} : oL (nth (s0 :: s1 :: s2 :: s3 :: s4 :: s5 :: s6 :: s7 :: s8 :: s9 :: s10 :: s11 :: s12 :: Sl.ow (.lst l) :: δ) 13) k = k l := propext Iff.rfl
theorem as13 {s0 s1 s2 s3 s4 s5 s6 s7 s8 s9 s10 s11 s12 : Sl} {s t : Sl} {P : DSt → Prop} : atS (List.set (s0 :: s1 :: s2 :: s3 :: s4 :: s5 :: s6 :: s7 :: s8 :: s9 :: s10 :: s11 :: s12 :: t :: δ) 13 s) P = P (s0 :: s1 :: s2 :: s3 :: s4 :: s5 :: s6 :: s7 :: s8 :: s9 :: s10 :: s11 :: s12 :: s :: δ) := propext Iff.rfl
theorem vi14 {s0 s1 s2 s3 s4 s5 s6 s7 s8 s9 s10 s11 s12 s13 : Sl} : dVar 14 (s0 :: s1 :: s2 :: s3 :: s4 :: s5 :: s6 :: s7 :: s8 :: s9 :: s10 :: s11 :: s12 :: s13 :: Sl.im d :: δ) Q = Q d (s0 :: s1 :: s2 :: s3 :: s4 :: s5 :: s6 :: s7 :: s8 :: s9 :: s10 :: s11 :: s12 :: s13 :: Sl.im d :: δ) := propext Iff.rfl
theorem vo14 {s0 s1 s2 s3 s4 s5 s6 s7 s8 s9 s10 s11 s12 s13 : Sl} : dVar 14 (s0 :: s1 :: s2 :: s3 :: s4 :: s5 :: s6 :: s7 :: s8 :: s9 :: s10 :: s11 :: s12 :: s13 :: Sl.ow d :: δ) Q = Q d (s0 :: s1 :: s2 :: s3 :: s4 :: s5 :: s6 :: s7 :: s8 :: s9 :: s10 :: s11 :: s12 :: s13 :: Sl.im d :: δ) := propext Iff.rfl
theorem ri14 {s0 s1 s2 s3 s4 s5 s6 s7 s8 s9 s10 s11 s12 s13 : Sl} : rS (nth (s0 :: s1 :: s2 :: s3 :: s4 :: s5 :: s6 :: s7 :: s8 :: s9 :: s10 :: s11 :: s12 :: s13 :: Sl.im d :: δ) 14) k = k d := propext Iff.rfl
theorem ro14 {s0 s1 s2 s3 s4 s5 s6 s7 s8 s9 s10 s11 s12 s13 : Sl} : rS (nth (s0 :: s1 :: s2 :: s3 :: s4 :: s5 :: s6 :: s7 :: s8 :: s9 :: s10 :: s11 :: s12 :: s13 :: Sl.ow d :: δ) 14) k = k d := propext Iff.rfl
theorem ol14 {s0 s1 s2 s3 s4 s5 s6 s7 s8 s9 s10 s11 s12 s13 : Sl} {l : List D} {k : List D → Prop} : oL (nth (s0 :: s1 :: s2 :: s3 :: s4 :: s5 :: s6 :: s7 :: s8 :: s9 :: s10 :: s11 :: s12 :: s13 :: Sl.ow (.lst l) :: δ) 14) k = k l := propext Iff.rfl
theorem as14 {s0 s1 s2 s3 s4 s5 s6 s7 s8 s9 s10 s11 s12 s13 : Sl} {s t : Sl} {P : DSt → Prop} : atS (List.set (s0 :: s1 :: s2 :: s3 :: s4 :: s5 :: s6 :: s7 :: s8 :: s9 :: s10 :: s11 :: s12 :: s13 :: t :: δ) 14 s) P = P (s0 :: s1 :: s2 :: s3 :: s4 :: s5 :: s6 :: s7 :: s8 :: s9 :: s10 :: s11 :: s12 :: s13 :: s :: δ) := propext Iff.rfl
theorem vi15 {s0 s1 s2 s3 s4 s5 s6 s7 s8 s9 s10 s11 s12 s13 s14 : Sl} : dVar 15 (s0 :: s1 :: s2 :: s3 :: s4 :: s5 :: s6 :: s7 :: s8 :: s9 :: s10 :: s11 :: s12 :: s13 :: s14 :: Sl.im d :: δ) Q = Q d (s0 :: s1 :: s2 :: s3 :: s4 :: s5 :: s6 :: s7 :: s8 :: s9 :: s10 :: s11 :: s12 :: s13 :: s14 :: Sl.im d :: δ) := propext Iff.rfl
theorem vo15 {s0 s1 s2 s3 s4 s5 s6 s7 s8 s9 s10 s11 s12 s13 s14 : Sl} : dVar 15 (s0 :: s1 :: s2 :: s3 :: s4 :: s5 :: s6 :: s7 :: s8 :: s9 :: s10 :: s11 :: s12 :: s13 :: s14 :: Sl.ow d :: δ) Q = Q d (s0 :: s1 :: s2 :: s3 :: s4 :: s5 :: s6 :: s7 :: s8 :: s9 :: s10 :: s11 :: s12 :: s13 :: s14 :: Sl.im d :: δ) := propext Iff.rfl
theorem ri15 {s0 s1 s2 s3 s4 s5 s6 s7 s8 s9 s10 s11 s12 s13 s14 : Sl} : rS (nth (s0 :: s1 :: s2 :: s3 :: s4 :: s5 :: s6 :: s7 :: s8 :: s9 :: s10 :: s11 :: s12 :: s13 :: s14 :: Sl.im d :: δ) 15) k = k d := propext Iff.rfl
theorem ro15 {s0 s1 s2 s3 s4 s5 s6 s7 s8 s9 s10 s11 s12 s13 s14 : Sl} : rS (nth (s0 :: s1 :: s2 :: s3 :: s4 :: s5 :: s6 :: s7 :: s8 :: s9 :: s10 :: s11 :: s12 :: s13 :: s14 :: Sl.ow d :: δ) 15) k = k d := propext Iff.rfl
theorem ol15 {s0 s1 s2 s3 s4 s5 s6 s7 s8 s9 s10 s11 s12 s13 s14 : Sl} {l : List D} {k : List D → Prop} : oL (nth (s0 :: s1 :: s2 :: s3 :: s4 :: s5 :: s6 :: s7 :: s8 :: s9 :: s10 :: s11 :: s12 :: s13 :: s14 :: Sl.ow (.lst l) :: δ) 15) k = k l := propext Iff.rfl
theorem as15 {s0 s1 s2 s3 s4 s5 s6 s7 s8 s9 s10 s11 s12 s13 s14 : Sl} {s t : Sl} {P : DSt → Prop} : atS (List.set (s0 :: s1 :: s2 :: s3 :: s4 :: s5 :: s6 :: s7 :: s8 :: s9 :: s10 :: s11 :: s12 :: s13 :: s14 :: t :: δ) 15 s) P = P (s0 :: s1 :: s2 :: s3 :: s4 :: s5 :: s6 :: s7 :: s8 :: s9 :: s10 :: s11 :: s12 :: s13 :: s14 :: s :: δ) := propext Iff.rfl
theorem vi16 {s0 s1 s2 s3 s4 s5 s6 s7 s8 s9 s10 s11 s12 s13 s14 s15 : Sl} : dVar 16 (s0 :: s1 :: s2 :: s3 :: s4 :: s5 :: s6 :: s7 :: s8 :: s9 :: s10 :: s11 :: s12 :: s13 :: s14 :: s15 :: Sl.im d :: δ) Q = Q d (s0 :: s1 :: s2 :: s3 :: s4 :: s5 :: s6 :: s7 :: s8 :: s9 :: s10 :: s11 :: s12 :: s13 :: s14 :: s15 :: Sl.im d :: δ) := propext Iff.rfl
theorem vo16 {s0 s1 s2 s3 s4 s5 s6 s7 s8 s9 s10 s11 s12 s13 s14 s15 : Sl} : dVar 16 (s0 :: s1 :: s2 :: s3 :: s4 :: s5 :: s6 :: s7 :: s8 :: s9 :: s10 :: s11 :: s12 :: s13 :: s14 :: s15 :: Sl.ow d :: δ) Q = Q d (s0 :: s1 :: s2 :: s3 :: s4 :: s5 :: s6 :: s7 :: s8 :: s9 :: s10 :: s11 :: s12 :: s13 :: s14 :: s15 :: Sl.im d :: δ) := propext Iff.rfl
theorem ri16 {s0 s1 s2 s3 s4 s5 s6 s7 s8 s9 s10 s11 s12 s13 s14 s15 : Sl} : rS (nth (s0 :: s1 :: s2 :: s3 :: s4 :: s5 :: s6 :: s7 :: s8 :: s9 :: s10 :: s11 :: s12 :: s13 :: s14 :: s15 :: Sl.im d :: δ) 16) k = k d := propext Iff.rfl
theorem ro16 {s0 s1 s2 s3 s4 s5 s6 s7 s8 s9 s10 s11 s12 s13 s14 s15 : Sl} : rS (nth (s0 :: s1 :: s2 :: s3 :: s4 :: s5 :: s6 :: s7 :: s8 :: s9 :: s10 :: s11 :: s12 :: s13 :: s14 :: s15 :: Sl.ow d :: δ) 16) k = k d := propext Iff.rfl
theorem ol16 {s0 s1 s2 s3 s4 s5 s6 s7 s8 s9 s10 s11 s12 s13 s14 s15 : Sl} {l : List D} {k : List D → Prop} : oL (nth (s0 :: s1 :: s2 :: s3 :: s4 :: s5 :: s6 :: s7 :: s8 :: s9 :: s10 :: s11 :: s12 :: s13 :: s14 :: s15 :: Sl.ow (.lst l) :: δ) 16) k = k l := propext Iff.rfl
theorem as16 {s0 s1 s2 s3 s4 s5 s6 s7 s8 s9 s10 s11 s12 s13 s14 s15 : Sl} {s t : Sl} {P : DSt → Prop} : atS (List.set (s0 :: s1 :: s2 :: s3 :: s4 :: s5 :: s6 :: s7 :: s8 :: s9 :: s10 :: s11 :: s12 :: s13 :: s14 :: s15 :: t :: δ) 16 s) P = P (s0 :: s1 :: s2 :: s3 :: s4 :: s5 :: s6 :: s7 :: s8 :: s9 :: s10 :: s11 :: s12 :: s13 :: s14 :: s15 :: s :: δ) := propext Iff.rfl
theorem vi17 {s0 s1 s2 s3 s4 s5 s6 s7 s8 s9 s10 s11 s12 s13 s14 s15 s16 : Sl} : dVar 17 (s0 :: s1 :: s2 :: s3 :: s4 :: s5 :: s6 :: s7 :: s8 :: s9 :: s10 :: s11 :: s12 :: s13 :: s14 :: s15 :: s16 :: Sl.im d :: δ) Q = Q d (s0 :: s1 :: s2 :: s3 :: s4 :: s5 :: s6 :: s7 :: s8 :: s9 :: s10 :: s11 :: s12 :: s13 :: s14 :: s15 :: s16 :: Sl.im d :: δ) := propext Iff.rfl
theorem vo17 {s0 s1 s2 s3 s4 s5 s6 s7 s8 s9 s10 s11 s12 s13 s14 s15 s16 : Sl} : dVar 17 (s0 :: s1 :: s2 :: s3 :: s4 :: s5 :: s6 :: s7 :: s8 :: s9 :: s10 :: s11 :: s12 :: s13 :: s14 :: s15 :: s16 :: Sl.ow d :: δ) Q = Q d (s0 :: s1 :: s2 :: s3 :: s4 :: s5 :: s6 :: s7 :: s8 :: s9 :: s10 :: s11 :: s12 :: s13 :: s14 :: s15 :: s16 :: Sl.im d :: δ) := propext Iff.rfl
theorem ri17 {s0 s1 s2 s3 s4 s5 s6 s7 s8 s9 s10 s11 s12 s13 s14 s15 s16 : Sl} : rS (nth (s0 :: s1 :: s2 :: s3 :: s4 :: s5 :: s6 :: s7 :: s8 :: s9 :: s10 :: s11 :: s12 :: s13 :: s14 :: s15 :: s16 :: Sl.im d :: δ) 17) k = k d := propext Iff.rfl
theorem ro17 {s0 s1 s2 s3 s4 s5 s6 s7 s8 s9 s10 s11 s12 s13 s14 s15 s16 : Sl} : rS (nth (s0 :: s1 :: s2 :: s3 :: s4 :: s5 :: s6 :: s7 :: s8 :: s9 :: s10 :: s11 :: s12 :: s13 :: s14 :: s15 :: s16 :: Sl.ow d :: δ) 17) k = k d := propext Iff.rfl
theorem ol17 {s0 s1 s2 s3 s4 s5 s6 s7 s8 s9 s10 s11 s12 s13 s14 s15 s16 : Sl} {l : List D} {k : List D → Prop} : oL (nth (s0 :: s1 :: s2 :: s3 :: s4 :: s5 :: s6 :: s7 :: s8 :: s9 :: s10 :: s11 :: s12 :: s13 :: s14 :: s15 :: s16 :: Sl.ow (.lst l) :: δ) 17) k = k l := propext Iff.rfl
theorem as17 {s0 s1 s2 s3 s4 s5 s6 s7 s8 s9 s10 s11 s12 s13 s14 s15 s16 : Sl} {s t : Sl} {P : DSt → Prop} : atS (List.set (s0 :: s1 :: s2 :: s3 :: s4 :: s5 :: s6 :: s7 :: s8 :: s9 :: s10 :: s11 :: s12 :: s13 :: s14 :: s15 :: s16 :: t :: δ) 17 s) P = P (s0 :: s1 :: s2 :: s3 :: s4 :: s5 :: s6 :: s7 :: s8 :: s9 :: s10 :: s11 :: s12 :: s13 :: s14 :: s15 :: s16 :: s :: δ) := propext Iff.rfl
theorem vi18 {s0 s1 s2 s3 s4 s5 s6 s7 s8 s9 s10 s11 s12 s13 s14 s15 s16 s17 : Sl} : dVar 18 (s0 :: s1 :: s2 :: s3 :: s4 :: s5 :: s6 :: s7 :: s8 :: s9 :: s10 :: s11 :: s12 :: s13 :: s14 :: s15 :: s16 :: s17 :: Sl.im d :: δ) Q = Q d (s0 :: s1 :: s2 :: s3 :: s4 :: s5 :: s6 :: s7 :: s8 :: s9 :: s10 :: s11 :: s12 :: s13 :: s14 :: s15 :: s16 :: s17 :: Sl.im d :: δ) := propext Iff.rfl
theorem vo18 {s0 s1 s2 s3 s4 s5 s6 s7 s8 s9 s10 s11 s12 s13 s14 s15 s16 s17 : Sl} : dVar 18 (s0 :: s1 :: s2 :: s3 :: s4 :: s5 :: s6 :: s7 :: s8 :: s9 :: s10 :: s11 :: s12 :: s13 :: s14 :: s15 :: s16 :: s17 :: Sl.ow d :: δ) Q = Q d (s0 :: s1 :: s2 :: s3 :: s4 :: s5 :: s6 :: s7 :: s8 :: s9 :: s10 :: s11 :: s12 :: s13 :: s14 :: s15 :: s16 :: s17 :: Sl.im d :: δ) := propext Iff.rfl
theorem ri18 {s0 s1 s2 s3 s4 s5 s6 s7 s8 s9 s10 s11 s12 s13 s14 s15 s16 s17 : Sl} : rS (nth (s0 :: s1 :: s2 :: s3 :: s4 :: s5 :: s6 :: s7 :: s8 :: s9 :: s10 :: s11 :: s12 :: s13 :: s14 :: s15 :: s16 :: s17 :: Sl.im d :: δ) 18) k = k d := propext Iff.rfl
theorem ro18 {s0 s1 s2 s3 s4 s5 s6 s7 s8 s9 s10 s11 s12 s13 s14 s15 s16 s17 : Sl} : rS (nth (s0 :: s1 :: s2 :: s3 :: s4 :: s5 :: s6 :: s7 :: s8 :: s9 :: s10 :: s11 :: s12 :: s13 :: s14 :: s15 :: s16 :: s17 :: Sl.ow d :: δ) 18) k = k d := propext Iff.rfl
theorem ol18 {s0 s1 s2 s3 s4 s5 s6 s7 s8 s9 s10 s11 s12 s13 s14 s15 s16 s17 : Sl} {l : List D} {k : List D → Prop} : oL (nth (s0 :: s1 :: s2 :: s3 :: s4 :: s5 :: s6 :: s7 :: s8 :: s9 :: s10 :: s11 :: s12 :: s13 :: s14 :: s15 :: s16 :: s17 :: Sl.ow (.lst l) :: δ) 18) k = k l := propext Iff.rfl
theorem as18 {s0 s1 s2 s3 s4 s5 s6 s7 s8 s9 s10 s11 s12 s13 s14 s15 s16 s17 : Sl} {s t : Sl} {P : DSt → Prop} : atS (List.set (s0 :: s1 :: s2 :: s3 :: s4 :: s5 :: s6 :: s7 :: s8 :: s9 :: s10 :: s11 :: s12 :: s13 :: s14 :: s15 :: s16 :: s17 :: t :: δ) 18 s) P = P (s0 :: s1 :: s2 :: s3 :: s4 :: s5 :: s6 :: s7 :: s8 :: s9 :: s10 :: s11 :: s12 :: s13 :: s14 :: s15 :: s16 :: s17 :: s :: δ) := propext Iff.rfl
theorem vi19 {s0 s1 s2 s3 s4 s5 s6 s7 s8 s9 s10 s11 s12 s13 s14 s15 s16 s17 s18 : Sl} : dVar 19 (s0 :: s1 :: s2 :: s3 :: s4 :: s5 :: s6 :: s7 :: s8 :: s9 :: s10 :: s11 :: s12 :: s13 :: s14 :: s15 :: s16 :: s17 :: s18 :: Sl.im d :: δ) Q = Q d (s0 :: s1 :: s2 :: s3 :: s4 :: s5 :: s6 :: s7 :: s8 :: s9 :: s10 :: s11 :: s12 :: s13 :: s14 :: s15 :: s16 :: s17 :: s18 :: Sl.im d :: δ) := propext Iff.rfl
theorem vo19 {s0 s1 s2 s3 s4 s5 s6 s7 s8 s9 s10 s11 s12 s13 s14 s15 s16 s17 s18 : Sl} : dVar 19 (s0 :: s1 :: s2 :: s3 :: s4 :: s5 :: s6 :: s7 :: s8 :: s9 :: s10 :: s11 :: s12 :: s13 :: s14 :: s15 :: s16 :: s17 :: s18 :: Sl.ow d :: δ) Q = Q d (s0 :: s1 :: s2 :: s3 :: s4 :: s5 :: s6 :: s7 :: s8 :: s9 :: s10 :: s11 :: s12 :: s13 :: s14 :: s15 :: s16 :: s17 :: s18 :: Sl.im d :: δ) := propext Iff.rfl
theorem ri19 {s0 s1 s2 s3 s4 s5 s6 s7 s8 s9 s10 s11 s12 s13 s14 s15 s16 s17 s18 : Sl} : rS (nth (s0 :: s1 :: s2 :: s3 :: s4 :: s5 :: s6 :: s7 :: s8 :: s9 :: s10 :: s11 :: s12 :: s13 :: s14 :: s15 :: s16 :: s17 :: s18 :: Sl.im d :: δ) 19) k = k d := propext Iff.rfl
theorem ro19 {s0 s1 s2 s3 s4 s5 s6 s7 s8 s9 s10 s11 s12 s13 s14 s15 s16 s17 s18 : Sl} : rS (nth (s0 :: s1 :: s2 :: s3 :: s4 :: s5 :: s6 :: s7 :: s8 :: s9 :: s10 :: s11 :: s12 :: s13 :: s14 :: s15 :: s16 :: s17 :: s18 :: Sl.ow d :: δ) 19) k = k d := propext Iff.rfl
theorem ol19 {s0 s1 s2 s3 s4 s5 s6 s7 s8 s9 s10 s11 s12 s13 s14 s15 s16 s17 s18 : Sl} {l : List D} {k : List D → Prop} : oL (nth (s0 :: s1 :: s2 :: s3 :: s4 :: s5 :: s6 :: s7 :: s8 :: s9 :: s10 :: s11 :: s12 :: s13 :: s14 :: s15 :: s16 :: s17 :: s18 :: Sl.ow (.lst l) :: δ) 19) k = k l := propext Iff.rfl
theorem as19 {s0 s1 s2 s3 s4 s5 s6 s7 s8 s9 s10 s11 s12 s13 s14 s15 s16 s17 s18 : Sl} {s t : Sl} {P : DSt → Prop} : atS (List.set (s0 :: s1 :: s2 :: s3 :: s4 :: s5 :: s6 :: s7 :: s8 :: s9 :: s10 :: s11 :: s12 :: s13 :: s14 :: s15 :: s16 :: s17 :: s18 :: t :: δ) 19 s) P = P (s0 :: s1 :: s2 :: s3 :: s4 :: s5 :: s6 :: s7 :: s8 :: s9 :: s10 :: s11 :: s12 :: s13 :: s14 :: s15 :: s16 :: s17 :: s18 :: s :: δ) := propext Iff.rfl
theorem vi20 {s0 s1 s2 s3 s4 s5 s6 s7 s8 s9 s10 s11 s12 s13 s14 s15 s16 s17 s18 s19 : Sl} : dVar 20 (s0 :: s1 :: s2 :: s3 :: s4 :: s5 :: s6 :: s7 :: s8 :: s9 :: s10 :: s11 :: s12 :: s13 :: s14 :: s15 :: s16 :: s17 :: s18 :: s19 :: Sl.im d :: δ) Q = Q d (s0 :: s1 :: s2 :: s3 :: s4 :: s5 :: s6 :: s7 :: s8 :: s9 :: s10 :: s11 :: s12 :: s13 :: s14 :: s15 :: s16 :: s17 :: s18 :: s19 :: Sl.im d :: δ) := propext Iff.rfl
theorem vo20 {s0 s1 s2 s3 s4 s5 s6 s7 s8 s9 s10 s11 s12 s13 s14 s15 s16 s17 s18 s19 : Sl} : dVar 20 (s0 :: s1 :: s2 :: s3 :: s4 :: s5 :: s6 :: s7 :: s8 :: s9 :: s10 :: s11 :: s12 :: s13 :: s14 :: s15 :: s16 :: s17 :: s18 :: s19 :: Sl.ow d :: δ) Q = Q d (s0 :: s1 :: s2 :: s3 :: s4 :: s5 :: s6 :: s7 :: s8 :: s9 :: s10 :: s11 :: s12 :: s13 :: s14 :: s15 :: s16 :: s17 :: s18 :: s19 :: Sl.im d :: δ) := propext Iff.rfl
theorem ri20 {s0 s1 s2 s3 s4 s5 s6 s7 s8 s9 s10 s11 s12 s13 s14 s15 s16 s17 s18 s19 : Sl} : rS (nth (s0 :: s1 :: s2 :: s3 :: s4 :: s5 :: s6 :: s7 :: s8 :: s9 :: s10 :: s11 :: s12 :: s13 :: s14 :: s15 :: s16 :: s17 :: s18 :: s19 :: Sl.im d :: δ) 20) k = k d := propext Iff.rfl
theorem ro20 {s0 s1 s2 s3 s4 s5 s6 s7 s8 s9 s10 s11 s12 s13 s14 s15 s16 s17 s18 s19 : Sl} : rS (nth (s0 :: s1 :: s2 :: s3 :: s4 :: s5 :: s6 :: s7 :: s8 :: s9 :: s10 :: s11 :: s12 :: s13 :: s14 :: s15 :: s16 :: s17 :: s18 :: s19 :: Sl.ow d :: δ) 20) k = k d := propext Iff.rfl
theorem ol20 {s0 s1 s2 s3 s4 s5 s6 s7 s8 s9 s10 s11 s12 s13 s14 s15 s16 s17 s18 s19 : Sl} {l : List D} {k : List D → Prop} : oL (nth (s0 :: s1 :: s2 :: s3 :: s4 :: s5 :: s6 :: s7 :: s8 :: s9 :: s10 :: s11 :: s12 :: s13 :: s14 :: s15 :: s16 :: s17 :: s18 :: s19 :: Sl.ow (.lst l) :: δ) 20) k = k l := propext Iff.rfl
theorem as20 {s0 s1 s2 s3 s4 s5 s6 s7 s8 s9 s10 s11 s12 s13 s14 s15 s16 s17 s18 s19 : Sl} {s t : Sl} {P : DSt → Prop} : atS (List.set (s0 :: s1 :: s2 :: s3 :: s4 :: s5 :: s6 :: s7 :: s8 :: s9 :: s10 :: s11 :: s12 :: s13 :: s14 :: s15 :: s16 :: s17 :: s18 :: s19 :: t :: δ) 20 s) P = P (s0 :: s1 :: s2 :: s3 :: s4 :: s5 :: s6 :: s7 :: s8 :: s9 :: s10 :: s11 :: s12 :: s13 :: s14 :: s15 :: s16 :: s17 :: s18 :: s19 :: s :: δ) := propext Iff.rfl
theorem vi21 {s0 s1 s2 s3 s4 s5 s6 s7 s8 s9 s10 s11 s12 s13 s14 s15 s16 s17 s18 s19 s20 : Sl} : dVar 21 (s0 :: s1 :: s2 :: s3 :: s4 :: s5 :: s6 :: s7 :: s8 :: s9 :: s10 :: s11 :: s12 :: s13 :: s14 :: s15 :: s16 :: s17 :: s18 :: s19 :: s20 :: Sl.im d :: δ) Q = Q d (s0 :: s1 :: s2 :: s3 :: s4 :: s5 :: s6 :: s7 :: s8 :: s9 :: s10 :: s11 :: s12 :: s13 :: s14 :: s15 :: s16 :: s17 :: s18 :: s19 :: s20 :: Sl.im d :: δ) := propext Iff.rfl
theorem vo21 {s0 s1 s2 s3 s4 s5 s6 s7 s8 s9 s10 s11 s12 s13 s14 s15 s16 s17 s18 s19 s20 : Sl} : dVar 21 (s0 :: s1 :: s2 :: s3 :: s4 :: s5 :: s6 :: s7 :: s8 :: s9 :: s10 :: s11 :: s12 :: s13 :: s14 :: s15 :: s16 :: s17 :: s18 :: s19 :: s20 :: Sl.ow d :: δ) Q = Q d (s0 :: s1 :: s2 :: s3 :: s4 :: s5 :: s6 :: s7 :: s8 :: s9 :: s10 :: s11 :: s12 :: s13 :: s14 :: s15 :: s16 :: s17 :: s18 :: s19 :: s20 :: Sl.im d :: δ) := propext Iff.rfl
theorem ri21 {s0 s1 s2 s3 s4 s5 s6 s7 s8 s9 s10 s11 s12 s13 s14 s15 s16 s17 s18 s19 s20 : Sl} : rS (nth (s0 :: s1 :: s2 :: s3 :: s4 :: s5 :: s6 :: s7 :: s8 :: s9 :: s10 :: s11 :: s12 :: s13 :: s14 :: s15 :: s16 :: s17 :: s18 :: s19 :: s20 :: Sl.im d :: δ) 21) k = k d := propext Iff.rfl
theorem ro21 {s0 s1 s2 s3 s4 s5 s6 s7 s8 s9 s10 s11 s12 s13 s14 s15 s16 s17 s18 s19 s20 : Sl} : rS (nth (s0 :: s1 :: s2 :: s3 :: s4 :: s5 :: s6 :: s7 :: s8 :: s9 :: s10 :: s11 :: s12 :: s13 :: s14 :: s15 :: s16 :: s17 :: s18 :: s19 :: s20 :: Sl.ow d :: δ) 21) k = k d := propext Iff.rfl
theorem ol21 {s0 s1 s2 s3 s4 s5 s6 s7 s8 s9 s10 s11 s12 s13 s14 s15 s16 s17 s18 s19 s20 : Sl} {l : List D} {k : List D → Prop} : oL (nth (s0 :: s1 :: s2 :: s3 :: s4 :: s5 :: s6 :: s7 :: s8 :: s9 :: s10 :: s11 :: s12 :: s13 :: s14 :: s15 :: s16 :: s17 :: s18 :: s19 :: s20 :: Sl.ow (.lst l) :: δ) 21) k = k l := propext Iff.rfl
theorem as21 {s0 s1 s2 s3 s4 s5 s6 s7 s8 s9 s10 s11 s12 s13 s14 s15 s16 s17 s18 s19 s20 : Sl} {s t : Sl} {P : DSt → Prop} : atS (List.set (s0 :: s1 :: s2 :: s3 :: s4 :: s5 :: s6 :: s7 :: s8 :: s9 :: s10 :: s11 :: s12 :: s13 :: s14 :: s15 :: s16 :: s17 :: s18 :: s19 :: s20 :: t :: δ) 21 s) P = P (s0 :: s1 :: s2 :: s3 :: s4 :: s5 :: s6 :: s7 :: s8 :: s9 :: s10 :: s11 :: s12 :: s13 :: s14 :: s15 :: s16 :: s17 :: s18 :: s19 :: s20 :: s :: δ) := propext Iff.rfl
theorem vi22 {s0 s1 s2 s3 s4 s5 s6 s7 s8 s9 s10 s11 s12 s13 s14 s15 s16 s17 s18 s19 s20 s21 : Sl} : dVar 22 (s0 :: s1 :: s2 :: s3 :: s4 :: s5 :: s6 :: s7 :: s8 :: s9 :: s10 :: s11 :: s12 :: s13 :: s14 :: s15 :: s16 :: s17 :: s18 :: s19 :: s20 :: s21 :: Sl.im d :: δ) Q = Q d (s0 :: s1 :: s2 :: s3 :: s4 :: s5 :: s6 :: s7 :: s8 :: s9 :: s10 :: s11 :: s12 :: s13 :: s14 :: s15 :: s16 :: s17 :: s18 :: s19 :: s20 :: s21 :: Sl.im d :: δ) := propext Iff.rfl
theorem vo22 {s0 s1 s2 s3 s4 s5 s6 s7 s8 s9 s10 s11 s12 s13 s14 s15 s16 s17 s18 s19 s20 s21 : Sl} : dVar 22 (s0 :: s1 :: s2 :: s3 :: s4 :: s5 :: s6 :: s7 :: s8 :: s9 :: s10 :: s11 :: s12 :: s13 :: s14 :: s15 :: s16 :: s17 :: s18 :: s19 :: s20 :: s21 :: Sl.ow d :: δ) Q = Q d (s0 :: s1 :: s2 :: s3 :: s4 :: s5 :: s6 :: s7 :: s8 :: s9 :: s10 :: s11 :: s12 :: s13 :: s14 :: s15 :: s16 :: s17 :: s18 :: s19 :: s20 :: s21 :: Sl.im d :: δ) := propext Iff.rfl
theorem ri22 {s0 s1 s2 s3 s4 s5 s6 s7 s8 s9 s10 s11 s12 s13 s14 s15 s16 s17 s18 s19 s20 s21 : Sl} : rS (nth (s0 :: s1 :: s2 :: s3 :: s4 :: s5 :: s6 :: s7 :: s8 :: s9 :: s10 :: s11 :: s12 :: s13 :: s14 :: s15 :: s16 :: s17 :: s18 :: s19 :: s20 :: s21 :: Sl.im d :: δ) 22) k = k d := propext Iff.rfl
theorem ro22 {s0 s1 s2 s3 s4 s5 s6 s7 s8 s9 s10 s11 s12 s13 s14 s15 s16 s17 s18 s19 s20 s21 : Sl} : rS (nth (s0 :: s1 :: s2 :: s3 :: s4 :: s5 :: s6 :: s7 :: s8 :: s9 :: s10 :: s11 :: s12 :: s13 :: s14 :: s15 :: s16 :: s17 :: s18 :: s19 :: s20 :: s21 :: Sl.ow d :: δ) 22) k = k d := propext Iff.rfl
theorem ol22 {s0 s1 s2 s3 s4 s5 s6 s7 s8 s9 s10 s11 s12 s13 s14 s15 s16 s17 s18 s19 s20 s21 : Sl} {l : List D} {k : List D → Prop} : oL (nth (s0 :: s1 :: s2 :: s3 :: s4 :: s5 :: s6 :: s7 :: s8 :: s9 :: s10 :: s11 :: s12 :: s13 :: s14 :: s15 :: s16 :: s17 :: s18 :: s19 :: s20 :: s21 :: Sl.ow (.lst l) :: δ) 22) k = k l := propext Iff.rfl
theorem as22 {s0 s1 s2 s3 s4 s5 s6 s7 s8 s9 s10 s11 s12 s13 s14 s15 s16 s17 s18 s19 s20 s21 : Sl} {s t : Sl} {P : DSt → Prop} : atS (List.set (s0 :: s1 :: s2 :: s3 :: s4 :: s5 :: s6 :: s7 :: s8 :: s9 :: s10 :: s11 :: s12 :: s13 :: s14 :: s15 :: s16 :: s17 :: s18 :: s19 :: s20 :: s21 :: t :: δ) 22 s) P = P (s0 :: s1 :: s2 :: s3 :: s4 :: s5 :: s6 :: s7 :: s8 :: s9 :: s10 :: s11 :: s12 :: s13 :: s14 :: s15 :: s16 :: s17 :: s18 :: s19 :: s20 :: s21 :: s :: δ) := propext Iff.rfl
theorem vi23 {s0 s1 s2 s3 s4 s5 s6 s7 s8 s9 s10 s11 s12 s13 s14 s15 s16 s17 s18 s19 s20 s21 s22 : Sl} : dVar 23 (s0 :: s1 :: s2 :: s3 :: s4 :: s5 :: s6 :: s7 :: s8 :: s9 :: s10 :: s11 :: s12 :: s13 :: s14 :: s15 :: s16 :: s17 :: s18 :: s19 :: s20 :: s21 :: s22 :: Sl.im d :: δ) Q = Q d (s0 :: s1 :: s2 :: s3 :: s4 :: s5 :: s6 :: s7 :: s8 :: s9 :: s10 :: s11 :: s12 :: s13 :: s14 :: s15 :: s16 :: s17 :: s18 :: s19 :: s20 :: s21 :: s22 :: Sl.im d :: δ) := propext Iff.rfl
theorem vo23 {s0 s1 s2 s3 s4 s5 s6 s7 s8 s9 s10 s11 s12 s13 s14 s15 s16 s17 s18 s19 s20 s21 s22 : Sl} : dVar 23 (s0 :: s1 :: s2 :: s3 :: s4 :: s5 :: s6 :: s7 :: s8 :: s9 :: s10 :: s11 :: s12 :: s13 :: s14 :: s15 :: s16 :: s17 :: s18 :: s19 :: s20 :: s21 :: s22 :: Sl.ow d :: δ) Q = Q d (s0 :: s1 :: s2 :: s3 :: s4 :: s5 :: s6 :: s7 :: s8 :: s9 :: s10 :: s11 :: s12 :: s13 :: s14 :: s15 :: s16 :: s17 :: s18 :: s19 :: s20 :: s21 :: s22 :: Sl.im d :: δ) := propext Iff.rfl
theorem ri23 {s0 s1 s2 s3 s4 s5 s6 s7 s8 s9 s10 s11 s12 s13 s14 s15 s16 s17 s18 s19 s20 s21 s22 : Sl} : rS (nth (s0 :: s1 :: s2 :: s3 :: s4 :: s5 :: s6 :: s7 :: s8 :: s9 :: s10 :: s11 :: s12 :: s13 :: s14 :: s15 :: s16 :: s17 :: s18 :: s19 :: s20 :: s21 :: s22 :: Sl.im d :: δ) 23) k = k d := propext Iff.rfl
theorem ro23 {s0 s1 s2 s3 s4 s5 s6 s7 s8 s9 s10 s11 s12 s13 s14 s15 s16 s17 s18 s19 s20 s21 s22 : Sl} : rS (nth (s0 :: s1 :: s2 :: s3 :: s4 :: s5 :: s6 :: s7 :: s8 :: s9 :: s10 :: s11 :: s12 :: s13 :: s14 :: s15 :: s16 :: s17 :: s18 :: s19 :: s20 :: s21 :: s22 :: Sl.ow d :: δ) 23) k = k d := propext Iff.rfl
theorem ol23 {s0 s1 s2 s3 s4 s5 s6 s7 s8 s9 s10 s11 s12 s13 s14 s15 s16 s17 s18 s19 s20 s21 s22 : Sl} {l : List D} {k : List D → Prop} : oL (nth (s0 :: s1 :: s2 :: s3 :: s4 :: s5 :: s6 :: s7 :: s8 :: s9 :: s10 :: s11 :: s12 :: s13 :: s14 :: s15 :: s16 :: s17 :: s18 :: s19 :: s20 :: s21 :: s22 :: Sl.ow (.lst l) :: δ) 23) k = k l := propext Iff.rfl
theorem as23 {s0 s1 s2 s3 s4 s5 s6 s7 s8 s9 s10 s11 s12 s13 s14 s15 s16 s17 s18 s19 s20 s21 s22 : Sl} {s t : Sl} {P : DSt → Prop} : atS (List.set (s0 :: s1 :: s2 :: s3 :: s4 :: s5 :: s6 :: s7 :: s8 :: s9 :: s10 :: s11 :: s12 :: s13 :: s14 :: s15 :: s16 :: s17 :: s18 :: s19 :: s20 :: s21 :: s22 :: t :: δ) 23 s) P = P (s0 :: s1 :: s2 :: s3 :: s4 :: s5 :: s6 :: s7 :: s8 :: s9 :: s10 :: s11 :: s12 :: s13 :: s14 :: s15 :: s16 :: s17 :: s18 :: s19 :: s20 :: s21 :: s22 :: s :: δ) := propext Iff.rfl
theorem vi24 {s0 s1 s2 s3 s4 s5 s6 s7 s8 s9 s10 s11 s12 s13 s14 s15 s16 s17 s18 s19 s20 s21 s22 s23 : Sl} : dVar 24 (s0 :: s1 :: s2 :: s3 :: s4 :: s5 :: s6 :: s7 :: s8 :: s9 :: s10 :: s11 :: s12 :: s13 :: s14 :: s15 :: s16 :: s17 :: s18 :: s19 :: s20 :: s21 :: s22 :: s23 :: Sl.im d :: δ) Q = Q d (s0 :: s1 :: s2 :: s3 :: s4 :: s5 :: s6 :: s7 :: s8 :: s9 :: s10 :: s11 :: s12 :: s13 :: s14 :: s15 :: s16 :: s17 :: s18 :: s19 :: s20 :: s21 :: s22 :: s23 :: Sl.im d :: δ) := propext Iff.rfl
theorem vo24 {s0 s1 s2 s3 s4 s5 s6 s7 s8 s9 s10 s11 s12 s13 s14 s15 s16 s17 s18 s19 s20 s21 s22 s23 : Sl} : dVar 24 (s0 :: s1 :: s2 :: s3 :: s4 :: s5 :: s6 :: s7 :: s8 :: s9 :: s10 :: s11 :: s12 :: s13 :: s14 :: s15 :: s16 :: s17 :: s18 :: s19 :: s20 :: s21 :: s22 :: s23 :: Sl.ow d :: δ) Q = Q d (s0 :: s1 :: s2 :: s3 :: s4 :: s5 :: s6 :: s7 :: s8 :: s9 :: s10 :: s11 :: s12 :: s13 :: s14 :: s15 :: s16 :: s17 :: s18 :: s19 :: s20 :: s21 :: s22 :: s23 :: Sl.im d :: δ) := propext Iff.rfl
theorem ri24 {s0 s1 s2 s3 s4 s5 s6 s7 s8 s9 s10 s11 s12 s13 s14 s15 s16 s17 s18 s19 s20 s21 s22 s23 : Sl} : rS (nth (s0 :: s1 :: s2 :: s3 :: s4 :: s5 :: s6 :: s7 :: s8 :: s9 :: s10 :: s11 :: s12 :: s13 :: s14 :: s15 :: s16 :: s17 :: s18 :: s19 :: s20 :: s21 :: s22 :: s23 :: Sl.im d :: δ) 24) k = k d := propext Iff.rfl
theorem ro24 {s0 s1 s2 s3 s4 s5 s6 s7 s8 s9 s10 s11 s12 s13 s14 s15 s16 s17 s18 s19 s20 s21 s22 s23 : Sl} : rS (nth (s0 :: s1 :: s2 :: s3 :: s4 :: s5 :: s6 :: s7 :: s8 :: s9 :: s10 :: s11 :: s12 :: s13 :: s14 :: s15 :: s16 :: s17 :: s18 :: s19 :: s20 :: s21 :: s22 :: s23 :: Sl.ow d :: δ) 24) k = k d := propext Iff.rfl
theorem ol24 {s0 s1 s2 s3 s4 s5 s6 s7 s8 s9 s10 s11 s12 s13 s14 s15 s16 s17 s18 s19 s20 s21 s22 s23 : Sl} {l : List D} {k : List D → Prop} : oL (nth (s0 :: s1 :: s2 :: s3 :: s4 :: s5 :: s6 :: s7 :: s8 :: s9 :: s10 :: s11 :: s12 :: s13 :: s14 :: s15 :: s16 :: s17 :: s18 :: s19 :: s20 :: s21 :: s22 :: s23 :: Sl.ow (.lst l) :: δ) 24) k = k l := propext Iff.rfl
theorem as24 {s0 s1 s2 s3 s4 s5 s6 s7 s8 s9 s10 s11 s12 s13 s14 s15 s16 s17 s18 s19 s20 s21 s22 s23 : Sl} {s t : Sl} {P : DSt → Prop} : atS (List.set (s0 :: s1 :: s2 :: s3 :: s4 :: s5 :: s6 :: s7 :: s8 :: s9 :: s10 :: s11 :: s12 :: s13 :: s14 :: s15 :: s16 :: s17 :: s18 :: s19 :: s20 :: s21 :: s22 :: s23 :: t :: δ) 24 s) P = P (s0 :: s1 :: s2 :: s3 :: s4 :: s5 :: s6 :: s7 :: s8 :: s9 :: s10 :: s11 :: s12 :: s13 :: s14 :: s15 :: s16 :: s17 :: s18 :: s19 :: s20 :: s21 :: s22 :: s23 :: s :: δ) := propext Iff.rfl
theorem vi25 {s0 s1 s2 s3 s4 s5 s6 s7 s8 s9 s10 s11 s12 s13 s14 s15 s16 s17 s18 s19 s20 s21 s22 s23 s24 : Sl} : dVar 25 (s0 :: s1 :: s2 :: s3 :: s4 :: s5 :: s6 :: s7 :: s8 :: s9 :: s10 :: s11 :: s12 :: s13 :: s14 :: s15 :: s16 :: s17 :: s18 :: s19 :: s20 :: s21 :: s22 :: s23 :: s24 :: Sl.im d :: δ) Q = Q d (s0 :: s1 :: s2 :: s3 :: s4 :: s5 :: s6 :: s7 :: s8 :: s9 :: s10 :: s11 :: s12 :: s13 :: s14 :: s15 :: s16 :: s17 :: s18 :: s19 :: s20 :: s21 :: s22 :: s23 :: s24 :: Sl.im d :: δ) := propext Iff.rfl
theorem vo25 {s0 s1 s2 s3 s4 s5 s6 s7 s8 s9 s10 s11 s12 s13 s14 s15 s16 s17 s18 s19 s20 s21 s22 s23 s24 : Sl} : dVar 25 (s0 :: s1 :: s2 :: s3 :: s4 :: s5 :: s6 :: s7 :: s8 :: s9 :: s10 :: s11 :: s12 :: s13 :: s14 :: s15 :: s16 :: s17 :: s18 :: s19 :: s20 :: s21 :: s22 :: s23 :: s24 :: Sl.ow d :: δ) Q = Q d (s0 :: s1 :: s2 :: s3 :: s4 :: s5 :: s6 :: s7 :: s8 :: s9 :: s10 :: s11 :: s12 :: s13 :: s14 :: s15 :: s16 :: s17 :: s18 :: s19 :: s20 :: s21 :: s22 :: s23 :: s24 :: Sl.im d :: δ) := propext Iff.rfl
theorem ri25 {s0 s1 s2 s3 s4 s5 s6 s7 s8 s9 s10 s11 s12 s13 s14 s15 s16 s17 s18 s19 s20 s21 s22 s23 s24 : Sl} : rS (nth (s0 :: s1 :: s2 :: s3 :: s4 :: s5 :: s6 :: s7 :: s8 :: s9 :: s10 :: s11 :: s12 :: s13 :: s14 :: s15 :: s16 :: s17 :: s18 :: s19 :: s20 :: s21 :: s22 :: s23 :: s24 :: Sl.im d :: δ) 25) k = k d := propext Iff.rfl
theorem ro25 {s0 s1 s2 s3 s4 s5 s6 s7 s8 s9 s10 s11 s12 s13 s14 s15 s16 s17 s18 s19 s20 s21 s22 s23 s24 : Sl} : rS (nth (s0 :: s1 :: s2 :: s3 :: s4 :: s5 :: s6 :: s7 :: s8 :: s9 :: s10 :: s11 :: s12 :: s13 :: s14 :: s15 :: s16 :: s17 :: s18 :: s19 :: s20 :: s21 :: s22 :: s23 :: s24 :: Sl.ow d :: δ) 25) k = k d := propext Iff.rfl
theorem ol25 {s0 s1 s2 s3 s4 s5 s6 s7 s8 s9 s10 s11 s12 s13 s14 s15 s16 s17 s18 s19 s20 s21 s22 s23 s24 : Sl} {l : List D} {k : List D → Prop} : oL (nth (s0 :: s1 :: s2 :: s3 :: s4 :: s5 :: s6 :: s7 :: s8 :: s9 :: s10 :: s11 :: s12 :: s13 :: s14 :: s15 :: s16 :: s17 :: s18 :: s19 :: s20 :: s21 :: s22 :: s23 :: s24 :: Sl.ow (.lst l) :: δ) 25) k = k l := propext Iff.rfl
theorem as25 {s0 s1 s2 s3 s4 s5 s6 s7 s8 s9 s10 s11 s12 s13 s14 s15 s16 s17 s18 s19 s20 s21 s22 s23 s24 : Sl} {s t : Sl} {P : DSt → Prop} : atS (List.set (s0 :: s1 :: s2 :: s3 :: s4 :: s5 :: s6 :: s7 :: s8 :: s9 :: s10 :: s11 :: s12 :: s13 :: s14 :: s15 :: s16 :: s17 :: s18 :: s19 :: s20 :: s21 :: s22 :: s23 :: s24 :: t :: δ) 25 s) P = P (s0 :: s1 :: s2 :: s3 :: s4 :: s5 :: s6 :: s7 :: s8 :: s9 :: s10 :: s11 :: s12 :: s13 :: s14 :: s15 :: s16 :: s17 :: s18 :: s19 :: s20 :: s21 :: s22 :: s23 :: s24 :: s :: δ) := propext Iff.rfl
theorem e_c : dC d δ Q = Q d δ := propext Iff.rfl
theorem e_nil {Q : List D → DSt → Prop} : dNil δ Q = Q [] δ := propext Iff.rfl
theorem e_cons {t : TDE} {r : TDA} {Q : List D → DSt → Prop} : dCons t r δ Q = t δ fun d δ1 => r δ1 fun ds δ2 => Q (d :: ds) δ2 := propext Iff.rfl
theorem e_tup {t : TDA} : dTup t δ Q = t δ fun ds δ1 => Q (.tup ds) δ1 := propext Iff.rfl
theorem e_lst {t : TDA} : dLst t δ Q = t δ fun ds δ1 => Q (.lst ds) δ1 := propext Iff.rfl
theorem e_two1 {t u : TDE} {k : D → D → DSt → Prop} : dTwo (.ex t) (.ex u) k δ = t δ fun x δ1 => u δ1 fun y δ2 => k x y δ2 := propext Iff.rfl
theorem e_two2 {t : TDE} {k : D → D → DSt → Prop} : dTwo (.ex t) (.sl j) k δ = t δ fun x δ1 => rS (nth δ1 j) fun y => k x y δ1 := by
  have : (fun (x : D) (δ1 : DSt) => match rdS δ1 j with | some y => k x y δ1 | none => False) = fun x δ1 => rS (nth δ1 j) fun y => k x y δ1 := by
    funext x δ1; exact rd_eq δ1 j fun y => k x y δ1
  show t δ (fun (x : D) (δ1 : DSt) => match rdS δ1 j with | some y => k x y δ1 | none => False) = _
  rw [this]
theorem e_two3 {t : TDE} {k : D → D → DSt → Prop} : dTwo (.sl i) (.ex t) k δ = (hS (nth δ i) ∧ t δ fun y δ1 => rS (nth δ1 i) fun x => k x y δ1) := by
  have : (fun (y : D) (δ1 : DSt) => match rdS δ1 i with | some x => k x y δ1 | none => False) = fun y δ1 => rS (nth δ1 i) fun x => k x y δ1 := by
    funext y δ1; exact rd_eq δ1 i fun x => k x y δ1
  show ((rdS δ i).isSome = true ∧ t δ (fun (y : D) (δ1 : DSt) => match rdS δ1 i with | some x => k x y δ1 | none => False)) = _
  rw [this, rd_some]
theorem e_two4 {k : D → D → DSt → Prop} : dTwo (.sl i) (.sl j) k δ = rS (nth δ i) fun x => rS (nth δ j) fun y => k x y δ := by
  unfold dTwo
  dsimp only
  unfold rdS
  rcases nth_eq δ i with h | ⟨h, z⟩
  · rcases nth_eq δ j with h' | ⟨h', z'⟩
    · rw [h, h']; cases nth δ i <;> cases nth δ j <;> rfl
    · rw [h, h', z']; cases nth δ i <;> rfl
  · rcases nth_eq δ j with h' | ⟨h', z'⟩
    · rw [h, h', z]; cases nth δ j <;> rfl
    · rw [h, h', z, z']; rfl
theorem e_bin {g : D → D → (D → Prop) → Prop} {A B : Opn} : dBin g A B δ Q = dTwo A B (fun x y δ' => g x y fun z => Q z δ') δ := propext Iff.rfl
theorem e_tbin {g : D → D → (D → Prop) → Prop} {A B : Opn} {Q : Bool → DSt → Prop} : dtBin g A B δ Q = dTwo A B (fun x y δ' => g x y fun z => onBl z fun b => Q b δ') δ := propext Iff.rfl
theorem e_chain {g g' : D → D → (D → Prop) → Prop} {ta tb tc : TDE} : dChain g g' ta tb tc δ Q = ta δ fun x δ1 => tb δ1 fun y δ2 => g x y fun z => onBl z fun b => if b = true then tc δ2 fun w δ3 => g' y w fun r => Q r δ3 else Q (.bl false) δ2 := propext Iff.rfl
theorem e_and {t u : TDT} {Q : Bool → DSt → Prop} : dAnd t u δ Q = t δ fun c δ1 => if c = true then u δ1 Q else Q false δ1 := propext Iff.rfl
theorem e_or {t u : TDT} {Q : Bool → DSt → Prop} : dOr t u δ Q = t δ fun c δ1 => if c = true then Q true δ1 else u δ1 Q := propext Iff.rfl
theorem e_not {t : TDT} {Q : Bool → DSt → Prop} : dNot t δ Q = t δ fun c δ1 => Q (!c) δ1 := propext Iff.rfl
theorem tru_eq {P : Bool → Prop} (d : D) : (match truD d with | some b => P b | none => False) = mX (truD d) P := by cases truD d <;> rfl
theorem e_tru1 {t : TDE} {Q : Bool → DSt → Prop} : dTru (.ex t) δ Q = t δ fun d δ1 => mX (truD d) fun b => Q b δ1 := by
  have : (fun (d : D) (δ1 : DSt) => match truD d with | some b => Q b δ1 | none => False) = fun d δ1 => mX (truD d) fun b => Q b δ1 := by
    funext d δ1; exact tru_eq d
  show t δ (fun (d : D) (δ1 : DSt) => match truD d with | some b => Q b δ1 | none => False) = _
  rw [this]
theorem e_tru2 {Q : Bool → DSt → Prop} : dTru (.sl i) δ Q = rS (nth δ i) fun d => mX (truD d) fun b => Q b δ := by
  have e := rd_eq δ i fun d => mX (truD d) fun b => Q b δ
  rw [← e]
  show (match rdS δ i with | some d => (match truD d with | some b => Q b δ | none => False) | none => False) = _
  cases rdS δ i with
  | none => rfl
  | some d => exact tru_eq d
theorem e_andV {t u : TDE} : dAndV t u δ Q = t δ fun x δ1 => onBl x fun c => if c = true then u δ1 Q else Q (.bl false) δ1 := propext Iff.rfl
theorem e_orV {t u : TDE} : dOrV t u δ Q = t δ fun x δ1 => onBl x fun c => if c = true then Q (.bl true) δ1 else u δ1 Q := propext Iff.rfl
theorem e_notV {t : TDE} : dNotV t δ Q = t δ fun x δ1 => onBl x fun c => Q (.bl (!c)) δ1 := propext Iff.rfl
theorem e_if {t : TDT} {a b : TDE} : dIf t a b δ Q = t δ fun c δ1 => if c = true then a δ1 Q else b δ1 Q := propext Iff.rfl
theorem s_next : dNext F δ = F.nx δ := propext Iff.rfl
theorem s_seq {t u : TDS} : dSeq t u F δ = t { F with nx := u F } δ := propext Iff.rfl
theorem s_drop {t : TDE} : dDrop t F δ = t δ fun _ δ1 => F.nx δ1 := propext Iff.rfl
theorem s_ret {t : TDE} : dRet t F δ = t δ fun d δ1 => F.rt d δ1 := propext Iff.rfl
theorem s_if {c : TDT} {t u : TDS} : dIfS c t u F δ = c δ fun b δ1 => if b = true then t F δ1 else u F δ1 := propext Iff.rfl
theorem s_never : dNever F δ = False := propext Iff.rfl
theorem s_asg {t : TDE} : dAsg t i F δ = t δ fun d δ1 => atS (δ1.set i (.im d)) F.nx := propext Iff.rfl
theorem s_asgO {t : TDE} : dAsgO t i F δ = t δ fun d δ1 => atS (δ1.set i (.ow d)) F.nx := propext Iff.rfl
theorem g_name {Q : DSt → Prop} : dgName i d δ Q = atS (δ.set i (.im d)) Q := propext Iff.rfl
theorem g_nil {Q : DSt → Prop} : dgNil [] δ Q = Q δ := propext Iff.rfl
theorem g_cons {t : TDG} {r : TDGs} {ds : List D} {Q : DSt → Prop} : dgCons t r (d :: ds) δ Q = t d δ fun δ1 => r ds δ1 Q := propext Iff.rfl
theorem g_seqT {t : TDGs} {ds : List D} {Q : DSt → Prop} : dgSeq n t (.tup ds) δ Q = (ds.length = n ∧ t ds δ Q) := propext Iff.rfl
theorem g_seqL {t : TDGs} {ds : List D} {Q : DSt → Prop} : dgSeq n t (.lst ds) δ Q = (ds.length = n ∧ t ds δ Q) := propext Iff.rfl
def sqK (d : D) (k : List D → Prop) : Prop := match d with | .lst ds => k ds | .tup ds => k ds | .scr ns => k (ns.map D.int) | _ => False
theorem sqL {l : List D} {k : List D → Prop} : sqK (.lst l) k = k l := propext Iff.rfl
theorem sqT {l : List D} {k : List D → Prop} : sqK (.tup l) k = k l := propext Iff.rfl
theorem sqR {l : List Int} {k : List D → Prop} : sqK (.scr l) k = k (l.map D.int) := propext Iff.rfl
theorem i_seq {t : TDE} {Q : List D → DSt → Prop} : iSeq t δ Q = t δ fun d δ1 => sqK d fun ds => Q ds δ1 := by
  have : (fun (d : D) (δ1 : DSt) => match d with | .lst ds => Q ds δ1 | .tup ds => Q ds δ1 | .scr ns => Q (ns.map D.int) δ1 | _ => False) = fun d δ1 => sqK d fun ds => Q ds δ1 := by
    funext d δ1; cases d <;> rfl
  show t δ (fun (d : D) (δ1 : DSt) => match d with | .lst ds => Q ds δ1 | .tup ds => Q ds δ1 | .scr ns => Q (ns.map D.int) δ1 | _ => False) = _
  rw [this]
def enK (d : D) (k : List D → Prop) : Prop := match d with | .lst ds => k (enumD ds) | .tup ds => k (enumD ds) | _ => False
theorem enL {l : List D} {k : List D → Prop} : enK (.lst l) k = k (enumD l) := propext Iff.rfl
theorem enT {l : List D} {k : List D → Prop} : enK (.tup l) k = k (enumD l) := propext Iff.rfl
theorem i_enum {t : TDE} {Q : List D → DSt → Prop} : iEnum t δ Q = t δ fun d δ1 => enK d fun ds => Q ds δ1 := by
  have : (fun (d : D) (δ1 : DSt) => match d with | .lst ds => Q (enumD ds) δ1 | .tup ds => Q (enumD ds) δ1 | _ => False) = fun d δ1 => enK d fun ds => Q ds δ1 := by
    funext d δ1; cases d <;> rfl
  show t δ (fun (d : D) (δ1 : DSt) => match d with | .lst ds => Q (enumD ds) δ1 | .tup ds => Q (enumD ds) δ1 | _ => False) = _
  rw [this]
def rgK (d : D) (k : Int → Prop) : Prop := match d with | .int j => k j | _ => False
theorem rgI {a : Int} {k : Int → Prop} : rgK (.int a) k = k a := propext Iff.rfl
theorem i_range1 {t : TDE} {Q : List D → DSt → Prop} : iRange1 t δ Q = t δ fun d δ1 => rgK d fun j => (-(2 ^ 62) ≤ j ∧ j < 2 ^ 62) ∧ Q (rngD 0 j.toNat) δ1 := by
  have : (fun (d : D) (δ1 : DSt) => match d with | .int j => (-(2 ^ 62) ≤ j ∧ j < 2 ^ 62) ∧ Q (rngD 0 j.toNat) δ1 | _ => False) = fun d δ1 => rgK d fun j => (-(2 ^ 62) ≤ j ∧ j < 2 ^ 62) ∧ Q (rngD 0 j.toNat) δ1 := by
    funext d δ1; cases d <;> rfl
  show t δ (fun (d : D) (δ1 : DSt) => match d with | .int j => (-(2 ^ 62) ≤ j ∧ j < 2 ^ 62) ∧ Q (rngD 0 j.toNat) δ1 | _ => False) = _
  rw [this]
theorem e_call {sd : SpD} {t : TDA} : dCall sd t δ Q = t δ fun ds δ1 => sd ds fun d => Q d δ1 := propext Iff.rfl
theorem e_p1 {t : TDE} {Q : Option Int → DSt → Prop} : dP1 t δ Q = t δ fun d δ1 => rgK d fun i => Q (some i) δ1 := by
  have : (fun (d : D) (δ1 : DSt) => match d with | .int i => Q (some i) δ1 | _ => False) = fun d δ1 => rgK d fun i => Q (some i) δ1 := by
    funext d δ1; cases d <;> rfl
  show t δ (fun (d : D) (δ1 : DSt) => match d with | .int i => Q (some i) δ1 | _ => False) = _
  rw [this]
theorem e_p0 {Q : Option Int → DSt → Prop} : dP0 δ Q = Q none δ := propext Iff.rfl
theorem e_one1 {t : TDE} {k : D → DSt → Prop} : dOne (.ex t) k δ = t δ fun d δ1 => k d δ1 := propext Iff.rfl
theorem e_one2 {k : D → DSt → Prop} : dOne (.sl i) k δ = rS (nth δ i) fun d => k d δ := rd_eq δ i fun d => k d δ
theorem e_b1 {g : D → (D → Prop) → Prop} {A : Opn} : dB1 g A δ Q = dOne A (fun d δ1 => g d fun z => Q z δ1) δ := propext Iff.rfl
theorem e_b2 {g : D → D → (D → Prop) → Prop} {t u : TDE} : dB2 g t u δ Q = t δ fun x δ1 => u δ1 fun y δ2 => g x y fun z => Q z δ2 := propext Iff.rfl
theorem e_tb2 {g : D → D → (D → Prop) → Prop} {t u : TDE} {Q : Bool → DSt → Prop} : dtB2 g t u δ Q = t δ fun x δ1 => u δ1 fun y δ2 => g x y fun z => onBl z fun b => Q b δ2 := propext Iff.rfl
theorem e_sl1 {t : TDE} {tl th : TDO} : dSl (.ex t) tl th δ Q = t δ fun d δ1 => tl δ1 fun lo δ2 => th δ2 fun hi δ3 => slD d lo hi fun z => Q z δ3 := propext Iff.rfl
theorem e_sl2 {tl th : TDO} : dSl (.sl i) tl th δ Q = (hS (nth δ i) ∧ tl δ fun lo δ2 => th δ2 fun hi δ3 => rS (nth δ3 i) fun d => slD d lo hi fun z => Q z δ3) := by
  have : (fun (lo : Option Int) (δ2 : DSt) => th δ2 fun hi δ3 => match rdS δ3 i with | some d => slD d lo hi fun z => Q z δ3 | none => False) = fun lo δ2 => th δ2 fun hi δ3 => rS (nth δ3 i) fun d => slD d lo hi fun z => Q z δ3 := by
    funext lo δ2
    congr 1
    funext hi δ3
    exact rd_eq δ3 i fun d => slD d lo hi fun z => Q z δ3
  show ((rdS δ i).isSome = true ∧ tl δ fun (lo : Option Int) (δ2 : DSt) => th δ2 fun hi δ3 => match rdS δ3 i with | some d => slD d lo hi fun z => Q z δ3 | none => False) = _
  rw [this, rd_some]
theorem e_append {t : TDE} : dAppend i t δ Q = (hL (nth δ i) ∧ t δ fun d δ1 => oL (nth δ1 i) fun ds => ds.length < sizeLine ∧ atS (δ1.set i (.ow (.lst (ds ++ [d])))) (Q .non)) := by
  have : (fun (d : D) (δ1 : DSt) => match owL δ1 i with | some ds => ds.length < sizeLine ∧ Q .non (δ1.set i (.ow (.lst (ds ++ [d])))) | none => False) = fun d δ1 => oL (nth δ1 i) fun ds => ds.length < sizeLine ∧ atS (δ1.set i (.ow (.lst (ds ++ [d])))) (Q .non) := by
    funext d δ1; exact ow_eq δ1 i fun ds => ds.length < sizeLine ∧ Q .non (δ1.set i (.ow (.lst (ds ++ [d]))))
  show ((owL δ i).isSome = true ∧ t δ fun (d : D) (δ1 : DSt) => match owL δ1 i with | some ds => ds.length < sizeLine ∧ Q .non (δ1.set i (.ow (.lst (ds ++ [d])))) | none => False) = _
  rw [this, ow_some]
def lsK (d : D) (k : List D → Prop) : Prop := match d with | .lst ds => k ds | _ => False
theorem lsL {l : List D} {k : List D → Prop} : lsK (.lst l) k = k l := propext Iff.rfl
theorem e_extend {t : TDE} : dExtend i t δ Q = (hL (nth δ i) ∧ t δ fun d δ1 => lsK d fun es => oL (nth δ1 i) fun ds => ds.length + es.length ≤ sizeLine ∧ atS (δ1.set i (.ow (.lst (ds ++ es)))) (Q .non)) := by
  have : (fun (d : D) (δ1 : DSt) => match d with | .lst es => (match owL δ1 i with | some ds => ds.length + es.length ≤ sizeLine ∧ Q .non (δ1.set i (.ow (.lst (ds ++ es)))) | none => False) | _ => False) = fun d δ1 => lsK d fun es => oL (nth δ1 i) fun ds => ds.length + es.length ≤ sizeLine ∧ atS (δ1.set i (.ow (.lst (ds ++ es)))) (Q .non) := by
    funext d δ1
    cases d with
    | lst es => exact ow_eq δ1 i fun ds => ds.length + es.length ≤ sizeLine ∧ Q .non (δ1.set i (.ow (.lst (ds ++ es))))
    | _ => rfl
  show ((owL δ i).isSome = true ∧ t δ fun (d : D) (δ1 : DSt) => match d with | .lst es => (match owL δ1 i with | some ds => ds.length + es.length ≤ sizeLine ∧ Q .non (δ1.set i (.ow (.lst (ds ++ es)))) | none => False) | _ => False) = _
  rw [this, ow_some]
theorem e_popAt {t : TDE} : dPopAt i t δ Q = (hL (nth δ i) ∧ t δ fun d δ1 => rgK d fun j => oL (nth δ1 i) fun ds => (0 ≤ j ∧ j < ds.length ∧ j < 2 ^ 62) ∧ mX ds[j.toNat]? fun y => atS (δ1.set i (.ow (.lst (ds.eraseIdx j.toNat)))) (Q y)) := by
  have : (fun (d : D) (δ1 : DSt) => match d with | .int j => (match owL δ1 i with | some ds => (0 ≤ j ∧ j < ds.length ∧ j < 2 ^ 62) ∧ (match ds[j.toNat]? with | some y => Q y (δ1.set i (.ow (.lst (ds.eraseIdx j.toNat)))) | none => False) | none => False) | _ => False) = fun d δ1 => rgK d fun j => oL (nth δ1 i) fun ds => (0 ≤ j ∧ j < ds.length ∧ j < 2 ^ 62) ∧ mX ds[j.toNat]? fun y => atS (δ1.set i (.ow (.lst (ds.eraseIdx j.toNat)))) (Q y) := by
    funext d δ1
    cases d with
    | int j =>
      have e := ow_eq δ1 i fun ds => (0 ≤ j ∧ j < ds.length ∧ j < 2 ^ 62) ∧ mX ds[j.toNat]? fun y => atS (δ1.set i (.ow (.lst (ds.eraseIdx j.toNat)))) (Q y)
      show (match owL δ1 i with | some ds => (0 ≤ j ∧ j < ds.length ∧ j < 2 ^ 62) ∧ (match ds[j.toNat]? with | some y => Q y (δ1.set i (.ow (.lst (ds.eraseIdx j.toNat)))) | none => False) | none => False) = oL (nth δ1 i) _
      rw [← e]
      cases owL δ1 i with
      | none => rfl
      | some ds =>
        dsimp only
        congr 1
        generalize ds[j.toNat]? = o
        cases o <;> rfl
    | _ => rfl
  show ((owL δ i).isSome = true ∧ t δ fun (d : D) (δ1 : DSt) => match d with | .int j => (match owL δ1 i with | some ds => (0 ≤ j ∧ j < ds.length ∧ j < 2 ^ 62) ∧ (match ds[j.toNat]? with | some y => Q y (δ1.set i (.ow (.lst (ds.eraseIdx j.toNat)))) | none => False) | none => False) | _ => False) = _
  rw [this, ow_some]
theorem e_yes {Q : Bool → DSt → Prop} : dYes δ Q = Q true δ := propext Iff.rfl
theorem e_new {C : Str} {sd : SpI} {t : TDA} : dNew C sd t δ Q = t δ fun ds δ1 => sd ds fun fs => Q (.ins C fs) δ1 := propext Iff.rfl
theorem e_newV {C : Str} {sd : SpI} {tc : TDE} {t : TDA} : dNewV C sd tc t δ Q = tc δ fun d δ1 => d = .cls C ∧ t δ1 fun ds δ2 => sd ds fun fs => Q (.ins C fs) δ2 := propext Iff.rfl
theorem e_meth {C m : Str} {sd : SpD} {ta : TDE} {t : TDA} : dMeth C m sd ta t δ Q = ta δ fun d δ1 => mX (insOf d) fun p => p.1 = C ∧ p.2.lookup m = none ∧ t δ1 fun ds δ2 => sd (.ins C p.2 :: ds) fun z => Q z δ2 := by
  have : (fun (d : D) (δ1 : DSt) => match insOf d with | some (C', fs) => C' = C ∧ fs.lookup m = none ∧ t δ1 fun ds δ2 => sd (.ins C fs :: ds) fun z => Q z δ2 | none => False) = fun d δ1 => mX (insOf d) fun p => p.1 = C ∧ p.2.lookup m = none ∧ t δ1 fun ds δ2 => sd (.ins C p.2 :: ds) fun z => Q z δ2 := by
    funext d δ1; cases insOf d <;> rfl
  show ta δ (fun (d : D) (δ1 : DSt) => match insOf d with | some (C', fs) => C' = C ∧ fs.lookup m = none ∧ t δ1 fun ds δ2 => sd (.ins C fs :: ds) fun z => Q z δ2 | none => False) = _
  rw [this]
theorem e_prop {C : Str} {sd : SpD} {ta : TDE} : dProp C sd ta δ Q = ta δ fun d δ1 => mX (insOf d) fun p => p.1 = C ∧ sd [.ins C p.2] fun z => Q z δ1 := by
  have : (fun (d : D) (δ1 : DSt) => match insOf d with | some (C', fs) => C' = C ∧ sd [.ins C fs] fun z => Q z δ1 | none => False) = fun d δ1 => mX (insOf d) fun p => p.1 = C ∧ sd [.ins C p.2] fun z => Q z δ1 := by
    funext d δ1; cases insOf d <;> rfl
  show ta δ (fun (d : D) (δ1 : DSt) => match insOf d with | some (C', fs) => C' = C ∧ sd [.ins C fs] fun z => Q z δ1 | none => False) = _
  rw [this]
theorem e_stat {C : Str} {sd : SpD} {tc : TDE} {t : TDA} : dStat C sd tc t δ Q = tc δ fun d δ1 => d = .cls C ∧ t δ1 fun ds δ2 => sd ds fun z => Q z δ2 := propext Iff.rfl
theorem e_statI {C m : Str} {sd : SpD} {tc : TDE} {t : TDA} : dStatI C m sd tc t δ Q = tc δ fun d δ1 => mX (insOf d) fun p => p.1 = C ∧ p.2.lookup m = none ∧ t δ1 fun ds δ2 => sd ds fun z => Q z δ2 := by
  have : (fun (d : D) (δ1 : DSt) => match insOf d with | some (C', fs) => C' = C ∧ fs.lookup m = none ∧ t δ1 fun ds δ2 => sd ds fun z => Q z δ2 | none => False) = fun d δ1 => mX (insOf d) fun p => p.1 = C ∧ p.2.lookup m = none ∧ t δ1 fun ds δ2 => sd ds fun z => Q z δ2 := by
    funext d δ1; cases insOf d <;> rfl
  show tc δ (fun (d : D) (δ1 : DSt) => match insOf d with | some (C', fs) => C' = C ∧ fs.lookup m = none ∧ t δ1 fun ds δ2 => sd ds fun z => Q z δ2 | none => False) = _
  rw [this]
theorem e_clsM {C : Str} {sd : SpD} {tc : TDE} {t : TDA} : dClsM C sd tc t δ Q = tc δ fun d δ1 => d = .cls C ∧ t δ1 fun ds δ2 => sd (.cls C :: ds) fun z => Q z δ2 := propext Iff.rfl
theorem e_evN {Q : List Sl → DSt → Prop} : dEvs [] δ Q = Q [] δ := propext Iff.rfl
theorem e_evI {t : TDE} {r : List Ev} {Q : List Sl → DSt → Prop} : dEvs (.im t :: r) δ Q = t δ fun d δ1 => dEvs r δ1 fun ss δ2 => Q (.im d :: ss) δ2 := propext Iff.rfl
theorem e_evO {t : TDE} {r : List Ev} {Q : List Sl → DSt → Prop} : dEvs (.ow t :: r) δ Q = t δ fun d δ1 => dEvs r δ1 fun ss δ2 => Q (.ow d :: ss) δ2 := propext Iff.rfl
theorem s_pars {l : List Ev} {is : List Nat} : dPars l is F δ = dEvs l δ fun ss δ1 => atS (setD is ss δ1) F.nx := propext Iff.rfl
def bxK (d : D) (P : Prop) : Prop := match d with | .box _ => P | _ => False
theorem bx0 {a : Addr} {P : Prop} : bxK (.box a) P = P := propext Iff.rfl
theorem s_great : dGreat i F δ = rS (nth δ i) fun d => bxK d (F.nx δ) := by
  unfold dGreat rdS
  rcases nth_eq δ i with h | ⟨h, z⟩
  · rw [h]
    cases nth δ i with
    | no => rfl
    | im d => cases d <;> rfl
    | ow d => cases d <;> rfl
  · rw [h, z]; rfl
theorem g_box {key : Str} {Q : DSt → Prop} : dgBox i key d δ Q = rS (nth δ i) fun b => bxK b (rgK d fun n => 0 ≤ n ∧ Q δ) := by
  unfold dgBox rdS
  rcases nth_eq δ i with h | ⟨h, z⟩
  · rw [h]
    cases nth δ i with
    | no => rfl
    | im b => cases b <;> cases d <;> rfl
    | ow b => cases b <;> cases d <;> rfl
  · rw [h, z]; rfl
theorem e_boxNew {tg ts : TDE} : dBoxNew tg ts δ Q = tg δ fun d δ1 => ∃ gs : List Int, d = .lst (gs.map D.int) ∧ (∀ x ∈ gs, 0 ≤ x) ∧ gs.length ≤ 50 ∧ ts δ1 fun d2 δ2 => ∃ s : Int, d2 = .int s ∧ 0 ≤ s ∧ ∀ a, Q (.box a) δ2 := propext Iff.rfl
/-- loops are not looked into -/
def forB (g : TDG) (tb : TDS) (F : DEnds) (ds : List D) (δ : DSt) : Prop := ∃ Inv : Nat → DSt → Prop, Inv 0 δ ∧
  (∀ i d δ', ds[i]? = some d → Inv i δ' → g d δ' fun δ2 => tb { F with nx := Inv (i + 1), ct := Inv (i + 1), bk := F.nx } δ2) ∧ ∀ δ', Inv ds.length δ' → F.nx δ'
def lcB (g : TDG) (tt : TDT) (te : TDE) (own : List Nat) (ds : List D) (δ : DSt) (Q : D → DSt → Prop) : Prop := ∃ Inv : Nat → List D → DSt → Prop, Inv 0 [] (wipeD δ own) ∧
  (∀ i d acc δ', ds[i]? = some d → Inv i acc δ' → g d (wipeD δ' own) fun δ2 => tt δ2 fun b δ3 => if b = true then te δ3 fun y δ4 => acc.length < sizeLine ∧ Inv (i + 1) (acc ++ [y]) (wipeD δ4 own) else Inv (i + 1) acc (wipeD δ3 own)) ∧
  ∀ acc δ', Inv ds.length acc δ' → Q (.lst acc) (wipeD δ' own)
def dcB (g : TDG) (tt : TDT) (tk tv : TDE) (own : List Nat) (ds : List D) (δ : DSt) (Q : D → DSt → Prop) : Prop := dDc (fun δ P => P ds δ) g tt tk tv own δ Q
theorem for_eq {w : TDA} {g : TDG} {tb : TDS} : dFor w g tb F δ = w δ fun ds δ1 => forB g tb F ds δ1 := propext Iff.rfl
theorem lc_eq {w : TDA} {g : TDG} {tt : TDT} {te : TDE} {own : List Nat} : dLc w g tt te own δ Q = w δ fun ds δ1 => lcB g tt te own ds δ1 Q := propext Iff.rfl
theorem dc_eq {w : TDA} {g : TDG} {tt : TDT} {tk te : TDE} {own : List Nat} : dDc w g tt tk te own δ Q = w δ fun ds δ1 => dcB g tt tk te own ds δ1 Q := propext Iff.rfl
theorem for_go {g : TDG} {tb : TDS} {ds : List D} (Inv : Nat → DSt → Prop) (h0 : Inv 0 δ) (st : ∀ i d δ', ds[i]? = some d → Inv i δ' → g d δ' fun δ2 => tb { F with nx := Inv (i + 1), ct := Inv (i + 1), bk := F.nx } δ2) (fin : ∀ δ', Inv ds.length δ' → F.nx δ') : forB g tb F ds δ := ⟨Inv, h0, st, fin⟩
end
/-- a comprehension whose turn neither changes the names nor fails: filtered, then mapped -/
theorem lc_go {α : Type} {g : TDG} {tt : TDT} {te : TDE} {own : List Nat} {δ : DSt} {ds : List D} {Q : D → DSt → Prop} (xs : List α) (f : α → D) (c : α → Bool) (v : α → D) (hd : ds = xs.map f) (hl : xs.length ≤ 100000)
    (turn : ∀ x ∈ xs, ∀ (K1 : D → DSt → Prop) (K2 : DSt → Prop), (c x = true → K1 (v x) (wipeD δ own)) → (c x = false → K2 (wipeD δ own)) →
      g (f x) (wipeD (wipeD δ own) own) fun δ2 => tt δ2 fun b δ3 => if b = true then te δ3 fun y δ4 => K1 y (wipeD δ4 own) else K2 (wipeD δ3 own))
    (q : atS (wipeD (wipeD δ own) own) (Q (.lst ((xs.filter c).map v)))) : lcB g tt te own ds δ Q :=
  lc_fm (w := fun δ P => P ds δ) xs f c v (fun P h => by rw [hd]; exact h) hl turn q
/-- without a test -/
theorem lc_m {α : Type} {g : TDG} {te : TDE} {own : List Nat} {δ : DSt} {ds : List D} {Q : D → DSt → Prop} (xs : List α) (f : α → D) (v : α → D) (hd : ds = xs.map f) (hl : xs.length ≤ 100000)
    (turn : ∀ x ∈ xs, ∀ (K1 : D → DSt → Prop), K1 (v x) (wipeD δ own) → g (f x) (wipeD (wipeD δ own) own) fun δ2 => te δ2 fun y δ4 => K1 y (wipeD δ4 own))
    (q : atS (wipeD (wipeD δ own) own) (Q (.lst (xs.map v)))) : lcB g dYes te own ds δ Q := by
  refine lc_go xs f (fun _ => true) v hd hl (fun x hx K1 K2 k1 _ => turn x hx K1 (k1 rfl)) ?_
  rw [List.filter_eq_self.mpr (fun _ _ => rfl)]
  exact q
theorem bls_map {α : Type} (f : α → Bool) : ∀ l : List α, blsOf (l.map fun x => D.bl (f x)) = some (l.map f)
  | [] => rfl
  | x :: r => by
    rw [List.map_cons, blsOf, bls_map f r]; rfl
theorem all_at {α : Type} (f : α → Bool) (l : List α) (Q : D → Prop) : anyD true (.lst (l.map fun x => D.bl (f x))) Q = Q (.bl (l.all f)) := by
  show (match blsOf (l.map fun x => D.bl (f x)) with | some bs => Q (.bl (if true = true then bs.all id else bs.any id)) | none => False) = _
  rw [bls_map]
  simp only [if_true, List.all_map]
  rfl
theorem if_t {b : Bool} {p q : Prop} (h : b = true) (k : p) : if b = true then p else q := by rw [if_pos h]; exact k
theorem if_f {b : Bool} {p q : Prop} (h : b = false) (k : q) : if b = true then p else q := by rw [h, if_neg Bool.false_ne_true]; exact k
theorem cut_to {α : Type} {xs : List α} {n : Int} (h : 0 ≤ n) : cutL xs none (some n) = xs.take n.toNat := by
  obtain ⟨k, rfl⟩ := Int.eq_ofNat_of_zero_le h
  unfold cutL
  rw [HT.sIx_none, HT.sIx_nat, Int.toNat_natCast, List.drop_zero, Nat.sub_zero]
  by_cases hk : k ≤ xs.length
  · rw [Nat.min_eq_left hk]
  · rw [Nat.min_eq_right (by omega), List.take_of_length_le (Nat.le_refl _), List.take_of_length_le (by omega)]
theorem cut_from {α : Type} {xs : List α} {n : Int} (h : 0 ≤ n) : cutL xs (some n) none = xs.drop n.toNat := by
  obtain ⟨k, rfl⟩ := Int.eq_ofNat_of_zero_le h
  unfold cutL
  rw [HT.sIx_none, HT.sIx_nat, Int.toNat_natCast]
  by_cases hk : k ≤ xs.length
  · rw [Nat.min_eq_left hk, List.take_of_length_le (by rw [List.length_drop]; omega)]
  · rw [Nat.min_eq_right (by omega), List.drop_of_length_le (Nat.le_refl _), List.drop_of_length_le (by omega), List.take_nil]
theorem enum_get {l : List D} {i : Nat} {d : D} (h : (enumD l)[i]? = some d) : ∃ x, l[i]? = some x ∧ d = .tup [.int (i : Int), x] := by
  have hi := lt_of_get h
  rw [enumD_len] at hi
  obtain ⟨x, hx⟩ : ∃ x, l[i]? = some x := ⟨_, List.getElem?_eq_getElem hi⟩
  rw [enumD_get hx] at h
  cases h
  exact ⟨x, hx, rfl⟩
theorem map_get {α : Type} {f : α → D} {l : List α} {i : Nat} {d : D} (h : (l.map f)[i]? = some d) : ∃ x, l[i]? = some x ∧ d = f x := by
  rw [List.getElem?_map] at h
  cases hx : l[i]? with
  | none => rw [hx] at h; cases h
  | some x => rw [hx] at h; cases h; exact ⟨x, rfl, rfl⟩
theorem at_w1 {v : Nat} {vs : List Nat} {δ : DSt} {P : DSt → Prop} : atS (wipeD δ (v :: vs)) P = atS (wipeD δ vs) (fun δ => atS (δ.set v .no) P) := propext Iff.rfl
theorem at_w0 {δ : DSt} {P : DSt → Prop} : atS (wipeD δ []) P = atS δ P := propext Iff.rfl
theorem rng_get {n i : Nat} {d : D} (h : (rngD 0 n)[i]? = some d) : i < n ∧ d = .int (i : Int) := by
  have hi := lt_of_get h
  rw [rngD_len] at hi
  rw [rngD_get hi] at h
  cases h
  exact ⟨hi, by rw [Int.zero_add]⟩
/-- a comprehension without a test whose items have a property -/
theorem lc_nd {g : TDG} {te : TDE} {own : List Nat} {δ : DSt} {ds : List D} {Q : D → DSt → Prop} (P : D → Prop) (hl : ds.length ≤ 100000)
    (turn : ∀ x ∈ ds, ∀ (K1 : D → DSt → Prop), (∀ y, P y → K1 y (wipeD δ own)) → g x (wipeD (wipeD δ own) own) fun δ2 => te δ2 fun y δ4 => K1 y (wipeD δ4 own))
    (q : ∀ acc : List D, acc.length = ds.length → (∀ y ∈ acc, P y) → atS (wipeD (wipeD δ own) own) (Q (.lst acc))) : lcB g dYes te own ds δ Q := by
  refine Exists.intro (fun (i : Nat) (acc : List D) (δ' : DSt) => δ' = wipeD δ own ∧ acc.length = i ∧ ∀ y ∈ acc, P y) ⟨⟨rfl, rfl, fun _ h => nomatch h⟩, ?_, ?_⟩
  · rintro i d acc δ' hd ⟨rfl, hi, ha⟩
    have hlt := lt_of_get hd
    refine turn d (List.mem_of_getElem? hd) (fun y δ' => acc.length < sizeLine ∧ δ' = wipeD δ own ∧ (acc ++ [y]).length = i + 1 ∧ ∀ z ∈ acc ++ [y], P z) fun y hy => ⟨line_of (by omega), rfl, by simp [hi], fun z hz => ?_⟩
    rcases List.mem_append.mp hz with hz | hz
    · exact ha z hz
    · rw [List.mem_singleton.mp hz]; exact hy
  · rintro acc δ' ⟨rfl, hi, ha⟩
    exact q acc hi ha
theorem nd {p : Prop} [Decidable p] (h : p) : (!decide p) = false := by rw [decide_eq_true h]; rfl
theorem e_join {u : TDE} {δ : DSt} {Q : D → DSt → Prop} {s : Str} : dJoin (dC (.str s)) u δ Q = u δ fun y δ2 => joinD s y fun z => Q z δ2 := propext Iff.rfl
theorem x_mulS {s : Str} {j : Int} {Q : D → Prop} : mulX (.str s) (.int j) Q = ((j = 0 ∨ j = 1) ∧ Q (.str (if j = 0 then Str.empty else s))) := by unfold mulX; rfl
theorem inL_strs (s : Str) (l : List Str) : inL (.str s) (l.map D.str) = decide (s ∈ l) := by
  have h := inL_plain (d := .str s) (l := l.map D.str) rfl (plain_strs l)
  rw [Bool.eq_iff_iff, decide_eq_true_iff, h, List.mem_map]
  exact ⟨fun ⟨x, hx, e⟩ => by cases e; exact hx, fun hx => ⟨s, hx, rfl⟩⟩
theorem in_cond (s : Str) (l : List Str) : isDat (.str s) = true ∧ isDatL (l.map D.str) = true ∧ dep (.str s) ≤ 64 ∧ dep (.lst (l.map D.str)) ≤ 64 :=
  ⟨rfl, plainL_dat (plain_strs l), by show 0 ≤ 64; omega, Nat.le_trans (dep_strs l) (by omega)⟩
theorem in_strL {neg : Bool} {s : Str} {l : List Str} {Q : D → Prop} : inX neg (.str s) (.lst (l.map D.str)) Q = Q (.bl (if neg = true then !decide (s ∈ l) else decide (s ∈ l))) := by
  have e : inX neg (.str s) (.lst (l.map D.str)) Q = ((isDat (.str s) = true ∧ isDatL (l.map D.str) = true ∧ dep (.str s) ≤ 64 ∧ dep (.lst (l.map D.str)) ≤ 64) ∧ Q (.bl (if neg = true then !inL (.str s) (l.map D.str) else inL (.str s) (l.map D.str)))) := by unfold inX; cases neg <;> rfl
  rw [e, inL_strs, eq_iff_iff]
  exact ⟨fun h => h.2, fun h => ⟨in_cond s l, h⟩⟩
theorem in_strT {neg : Bool} {s : Str} {l : List Str} {Q : D → Prop} : inX neg (.str s) (.tup (l.map D.str)) Q = Q (.bl (if neg = true then !decide (s ∈ l) else decide (s ∈ l))) := by
  have e : inX neg (.str s) (.tup (l.map D.str)) Q = ((isDat (.str s) = true ∧ isDatL (l.map D.str) = true ∧ dep (.str s) ≤ 64 ∧ dep (.lst (l.map D.str)) ≤ 64) ∧ Q (.bl (if neg = true then !inL (.str s) (l.map D.str) else inL (.str s) (l.map D.str)))) := by unfold inX; cases neg <;> rfl
  rw [e, inL_strs, eq_iff_iff]
  exact ⟨fun h => h.2, fun h => ⟨in_cond s l, h⟩⟩
/-- a thing stored in a target -/
def dSto (t : TDE) (g : TDG) : TDS := fun F δ => t δ fun d δ1 => g d δ1 F.nx
theorem s_sto {t : TDE} {g : TDG} {F : DEnds} {δ : DSt} : dSto t g F δ = t δ fun d δ1 => g d δ1 F.nx := propext Iff.rfl
end T

namespace T
open PySem L2
/-! ### defs that are called while no repr is under way -/
/-- a promise by position, kept wherever no guard of repr stands -/
def FnG (P : Program) (w : World) (K : PySem.W.Frag) (mg : Str → Option Value) (base : Heap) (k : Nat) (f : Addr) (sp : Sp) : Prop :=
  ∀ (A : Around) (outer : List Env) (s : Shared) (H : Hp) (us : List Value) (vs : List V) (Q : VK) (E : XK), Room k A → A.guards = some [] → Env0 P w K mg base A outer s H → Vals vs us → sp vs H Q E →
    codeAny (model P w) A (.call (.ref f) ⟨us, []⟩) (CR CX0 outer P w H s Q E) s
section
variable {P : Program} {w : World} {K : PySem.W.Frag} {mg : Str → Option Value} {base : Heap} {j k : Nat} {f : Addr} {sp : Sp}
theorem FnG.of (F : FnR P w K mg base CX0 k f sp) : FnG P w K mg base k f sp := fun A outer s H us vs Q E hr _ => F A outer s H us vs Q E hr
theorem FnG.mono (F : FnG P w K mg base j f sp) (h : j ≤ k) : FnG P w K mg base k f sp := fun A outer s H us vs Q E hr => F A outer s H us vs Q E (hr.mono h)
end
section
open PySem.Spec PyProof.Rows
/-- the rule for a def, by its body, where no guard stands -/
theorem fn_ofG {P : Program} {w : World} {K : PySem.W.Frag} {mg : Str → Option Value} {base : Heap} {k : Nat} {x qual : Str} {params : Arguments} {body : List Stmt} {scope : Scope} {dvs : List V} {kws : List (Str × V)} {f : Addr} {fd : FuncData} {N ps : List Str} {sp : Sp}
    (F : FunD K x qual params body scope dvs kws f fd) (S : FnScope N ps scope) (len : ∀ vs H Q E, sp vs H Q E → vs.length = ps.length) (hbd : Binds K fd ps [])
    (hbody : ∀ (cdv : Value) (A : Around) (outer : List Env) (s : Shared) (H : Hp) (vs : List V) (Q : VK) (E : XK), Room k (A.deeper (envOfC qual scope s.heap.objs.size f cdv)) → A.guards = some [] → sp vs H Q E →
      ∃ t, PSs (cxOf CX0 P w K mg base N qual scope f cdv A outer s H E) body t ∧ t { nx := fun _ H' => Q .non H', rt := Q } (start N vs) H) :
    FnG P w K mg base (k + 1) f sp := by
  obtain ⟨oc, od, dV, kV, doc, pm, an, cdv, ct, osl, rfl, lk, hcd, _, _⟩ := F.ex
  intro A outer s H us vs Q E hr hG e0 r hsp
  have lv : vs.length = ps.length := len _ _ _ _ hsp
  have lu : (us ++ []).length = ps.length := by rw [List.append_nil, ← r.length]; exact lv
  have KX : K.In s.heap := e0.mod.kin.keeps fun b o e => (e0.bs b o e).1
  have lim : s.heap.NoLimit := e0.mod.nolimit.keeps fun b o e => (e0.bs b o e).1
  have kinds : ∀ y ∈ ps.zip us, scope.names.lookup y.1 = some .local ∨ (scope.names.lookup y.1 = some .cell ∧ ((cellsFrom (s.heap.objs.size + 1) scope.names []).lookup y.1).isSome = true) := by
    rintro ⟨n, v⟩ hy
    exact (S.par n (List.of_mem_zip hy).1).imp id fun q => ⟨q, PySem.W.cellsFrom_some _ _ _ (.inl q)⟩
  have hb := hbd s us KX lu
  rw [List.append_nil] at hb
  refine codeAny_call_function hr.depth (KX _ _ lk) rfl S.co S.gen rfl (PySem.W.codeRec_of KX hcd) (hb _ _ _ _ (wpAny_newFunctionEnv_cells S.kind kinds fun env he s1 x => ?_))
  subst he
  refine ⟨lim.keeps x.toInCall.keep, codeAny_func ?_⟩
  obtain ⟨t, ht, hq⟩ := hbody cdv A outer s H vs Q E (hr.deeper _) hG hsp
  refine wpAny_mono (ht.run [] s1 (start N vs) H _ (inv_start S hr.hd e0 lv r x) hq) (fun fl s' hs => ?_) fun e s' hs => hs
  cases fl with
  | ret u =>
    obtain ⟨v, σ', H', J, rv, q⟩ := hs
    exact ⟨v, H', J.os, J.bare, J.base, J.hok, rv, q⟩
  | next =>
    obtain ⟨σ', H', J, q⟩ := hs
    exact ⟨V.non, H', J.os, J.bare, J.base, J.hok, rfl, q⟩
  | brk => obtain ⟨_, _, _, q⟩ := hs; exact False.elim q
  | cont => obtain ⟨_, _, _, q⟩ := hs; exact False.elim q
end
/-- THE RULE for a def over data, where no guard stands -/
theorem fn_dG {P : Program} {w : World} {K : PySem.W.Frag} {mg : Str → Option Value} {base : Heap} {x qual : Str} {params : Arguments} {body : List Stmt} {scope : Scope} {dvs : List V} {kws : List (Str × V)} {f : Addr} {fd : FuncData} {N ps : List Str} {k : Nat} {sd : SpD} {t : TDS}
    (F : FunD K x qual params body scope dvs kws f fd) (S : FnScope N ps scope) (hbd : Binds K fd ps []) (len : ∀ ds Q, sd ds Q → ds.length = ps.length)
    (hb : ∀ (cdv : Value) (A : Around) (outer : List Env) (s : Shared) (H : Hp) (E : XK) (e : Ent), Room k (A.deeper (PyProof.Rows.envOfC qual scope s.heap.objs.size f cdv)) → A.guards = some [] → DSs (cxF P w K mg base N qual scope f cdv A outer s H E) e body t)
    (hp : ∀ ds Q, sd ds Q → t (ends Q) (startD N.length ds)) : FnG P w K mg base (k + 1) f (toSp K sd) := by
  refine fn_ofG F S (fun vs H Q E h => ?_) hbd (fun cdv A outer s H vs Q E hr hG h => ?_)
  · obtain ⟨G, ds, Qd, ok, r, q, _⟩ := h
    rw [r.length]
    exact len ds Qd q
  · obtain ⟨G, ds, Qd, ok, r, q, kk⟩ := h
    refine ⟨_, PSs.nox (hb cdv A outer s H E ⟨G, H⟩ hr hG), .nil, G, startD N.length ds, _, start_ss ok r, hp ds Qd q, fun σ' δ' G' H' le S' q' => ?_, fun v d σ' δ' G' H' S' rep q' => kk d v G' H' S'.ok S'.stp rep q', fun _ _ _ _ _ _ q' => q'.elim, fun _ _ _ _ _ _ q' => q'.elim⟩
    exact kk .non .non G' H' S'.ok S'.stp .non q'
section
variable {X : Cx} {e : Ent} {pos : Pos} {pins : List (Addr × Obj)} {σ : St} {H : Hp} {s : Shared}
end
/-! ### repr of data -/
/-- data that repr shows -/
structure ShOk (d : D) : Prop where
  dat : isDat d = true
  shw : (py d).showable = true
  nod : (py d).hasDict = false
  dep : dep d ≤ 64
  len : (py d).shown.length ≤ sizeLine
  ok : sOk (py d).shown
def reprD : D → (D → Prop) → Prop := fun d Q => ShOk d ∧ Q (.str (py d).shown)
section
variable {X : Cx} {e : Ent} {pos : Pos}
theorem call_reprD {k : Nat} (hr : Room k X.A) (hG : X.A.guards = some []) : CallR X (.builtin "repr") (fun xs H Q => ∃ v d, xs = [v] ∧ Dp X.K H v d ∧ d.showable = true ∧ d.hasDict = false ∧ d.depth ≤ 64 ∧ d.shown.length ≤ sizeLine ∧ Q (.str d.shown) H) := by
  intro pins s σ H xs us Q I r h
  obtain ⟨v, d, rfl, dp, h1, h2, h3, h4, q⟩ := h
  obtain ⟨u, rfl, ru⟩ := vals1 r
  obtain ⟨as, rd⟩ := Dp.reads I d v u dp ru
  have hu := hr.un
  cases rd with
  | none => exact PySem.P.repr_of_none ⟨.str _, H, I.tok _, ⟨_, rfl⟩, q⟩
  | bool b => exact PySem.P.repr_of_bool ⟨.str _, H, I.tok _, ⟨_, rfl⟩, q⟩
  | int i t => exact PySem.P.repr_of_int (of_decide_eq_true h1) ⟨.str _, H, I.tok _, ⟨_, rfl⟩, q⟩
  | str x t => exact PySem.P.repr_of_str ⟨.str _, H, I.tok _, ⟨_, rfl⟩, q⟩ h4
  | list a1 a2 a3 a4 => exact repr_of_reads' (.list a1 a2 a3 a4) h1 (fun z => by rw [h2] at z; cases z) hG (by omega) (fun _ _ e => e) (fun h' u tk hk => ⟨.str _, H, I.kept hk, ⟨_, rfl⟩, q⟩) h4
  | tuple a1 a2 a3 a4 => exact repr_of_reads' (.tuple a1 a2 a3 a4) h1 (fun z => by rw [h2] at z; cases z) hG (by omega) (fun _ _ e => e) (fun h' u tk hk => ⟨.str _, H, I.kept hk, ⟨_, rfl⟩, q⟩) h4
  | dict a1 a2 a3 a4 a5 => cases h2
theorem de_repr {k : Nat} {a : Expr} {A : Opn} {p : Pos} (hr : Room k X.A) (hG : X.A.guards = some []) (ha : OPN X e a A) (hg : Gl X "repr") (hm : X.mg "repr" = none)
    (hs : starEach (a :: []) X.env = (false, eval a X.env) :: starEach [] X.env := by rfl) (hpl : (backTo pos (starEach [] X.env)).any (·.1) = false := by rfl) : DE X e (.Call (.Name "repr" p) [a] [] pos) (dB1 reprD A) := by
  refine de_B1 (id := "repr") (call_reprD hr hG) ?_ hg hm rfl ha (by decide) (by decide) hs hpl
  intro T G H σ δ x a Qd Q S rd q kk
  obtain ⟨h, q⟩ := q
  obtain ⟨p1, c1⟩ := rd.dp S.ok h.dat
  exact ⟨x, _, rfl, p1, h.shw, h.nod, h.dep, h.len, kk _ _ H G S Step.refl (.str h.ok) q⟩
end
end T

namespace T
open PySem L2
section
variable {X : Cx} {e : Ent} {pos : Pos}
def onStr (d : D) (Q : Str → Prop) : Prop := match d with | .str t => Q t | _ => False
/-! ### repr(x), str(x) by the class's own def -/
structure CalU (P : Program) (w : World) (K : PySem.W.Frag) (mg : Str → Option Value) (base : Heap) (k : Nat) (C m : Str) (sd : SpD) : Prop where
  ex : ∃ g, FnD P w K mg base k g sd ∧ PySem.W.findIn K (.ref (He.ga K C)) m = some (some (.ref g)) ∧ PySem.W.isFn K (.ref g) = true
/-- one frozen operand -/
def dF1 (g : D → (D → Prop) → Prop) (t : TDE) : TDE := fun δ Q => t δ fun d δ1 => g d fun z => Q z δ1
/-! ### str(i), f-strings -/
theorem char_lt (c : Char) : c.toNat < 0x110000 := by
  rcases c.valid with h1 | h1
  · show c.val.toNat < _
    have : c.val.toNat < 55296 := h1
    omega
  · exact h1.2
theorem sOk_ofString (s : String) : sOk (Str.ofString s) := by
  intro c hc
  rw [PyProof.Rows.signs_ofString] at hc
  obtain ⟨x, _, rfl⟩ := List.mem_map.mp hc
  exact char_lt x
def strD : D → (D → Prop) → Prop
  | .int i, Q => i.natAbs.log2 < 1920 ∧ Q (.str (toString i))
  | .str s, Q => Q (.str s)
  | _, _ => False
/-- the parts of an f-string: a written text, a value -/
inductive Fp where
  | lit (s : Str) | val (t : TDE)
def dFs : List Fp → Str → DSt → (Str → DSt → Prop) → Prop
  | [], acc, δ, Q => Q acc δ
  | .lit s :: r, acc, δ, Q => (acc ++ s).length ≤ sizeLine ∧ dFs r (acc ++ s) δ Q
  | .val t :: r, acc, δ, Q => t δ fun d δ1 => strD d fun z => onStr z fun y => (y.length ≤ sizeLine ∧ (acc ++ y).length ≤ sizeLine) ∧ dFs r (acc ++ y) δ1 Q
inductive DFs (X : Cx) (e : Ent) : List Expr → List Fp → List TE → Prop
  | nil : DFs X e [] [] []
  | lit {s : Str} {pos : Pos} {j : Nat} {es : List Expr} {ps : List Fp} {ts : List TE} (hs : sOk s) (r : DFs X e es ps ts) : DFs X e (.Constant (.str s) j pos :: es) (.lit s :: ps) (tC (.str s) :: ts)
  | val {a : Expr} {t : TDE} {pos : Pos} {es : List Expr} {ps : List Fp} {ts : List TE} (h : DE X e a t) (r : DFs X e es ps ts) : DFs X e (.FormattedValue a (-1) none pos :: es) (.val t :: ps) (tFmt (lift X.K e t) :: ts)
theorem DFs.go {es : List Expr} {ps : List Fp} {ts : List TE} (h : DFs X e es ps ts) : ∀ (T : Tm) (G : Gh) (H : Hp) (σ : St) (δ : DSt) (acc : Str) (Qd : Str → DSt → Prop) (Q : Str → Hp → Prop), SS X.K e T G H σ δ → sOk acc → dFs ps acc δ Qd →
    (∀ out H' G' δ', SS X.K e T G' H' σ δ' → Step e G H G' H' → sOk out → Qd out δ' → Q out H') → tJs ts acc σ H Q := by
  induction h with
  | nil => intro T G H σ δ acc Qd Q S ok q k; exact k acc H G δ S Step.refl ok q
  | lit hs r ih =>
    intro T G H σ δ acc Qd Q S ok q k
    exact ⟨_, rfl, q.1, ih T G H σ δ _ Qd Q S (sOk_append ok hs) q.2 k⟩
  | val h r ih =>
    intro T G H σ δ acc Qd Q S ok q k
    refine ⟨T, G, δ, _, S, q, fun v d H1 G1 δ1 S1 st1 rd q1 => ?_⟩
    cases d with
    | int i =>
      cases rd with
      | int =>
        obtain ⟨h1, h2, h3⟩ := q1
        exact .inr ⟨i, rfl, h1, _, rfl, h2.2, ih T G1 H1 σ δ1 _ Qd Q S1 (sOk_append ok (sOk_ofString _)) h3 fun out H' G' δ' S' st' => k out H' G' δ' S' (st1.trans st')⟩
    | str y =>
      cases rd with
      | str o1 =>
        obtain ⟨h2, h3⟩ := q1
        exact .inl ⟨y, rfl, h2.1, _, rfl, h2.2, ih T G1 H1 σ δ1 _ Qd Q S1 (sOk_append ok o1) h3 fun out H' G' δ' S' st' => k out H' G' δ' S' (st1.trans st')⟩
    | _ => exact False.elim q1
def dFstr (ps : List Fp) : TDE := fun δ Q => dFs ps Str.empty δ fun out δ1 => Q (.str out) δ1
/-! ### x == y by x's class, y anything -/
end
/-! tests -/
end T

namespace T
open PySem L2 PySem.Spec PyProof.Rows
/-! ### the end of the head for a law that wants the guards -/
def GoodEnd (s₁ : Shared) (r : Result) (s' : Shared) : Prop := r = .ok (.ret (.bool true)) ∧ OldK s₁.heap s'.heap ∧ s'.os = s₁.os ∧ AllBare s'.gens
/-- from an abstract heap in which at most the script is tracked -/
theorem law_fromG {P : Program} {w : World} {K : PySem.W.Frag} {mg mb : Str → Option Value} {k : Nat} {fa a : Addr} {sp : Sp} {s₁ : Shared} {vs : List Value} {H : Hp}
    (KX : K.In s₁.heap) (hns : s₁.heap.Ns mainGlobals mg) (hb : s₁.heap.Ns builtinsNs mb) (hbb : ∀ x : Str, x ≠ "__name__" → mb x = bootBuiltins x) (hlim : s₁.heap.NoLimit) (hg : s₁.gens = #[])
    (ha : s₁.heap.get? a = some { cls := .type "list", data := .seq vs.toArray }) (hr : Room k callerA)
    (F : ∀ base : Heap, K.In base → base.Ns mainGlobals mg → FnG P w K mg base k fa sp) (hO : Only H) (hok : HOk P w H s₁.heap) (hA : ∀ b, H b ≠ none → b = a) (hK : H a ≠ none → K.lookup a = none)
    (hsp : sp [.ref a] H (fun v _ => v = .bl true) fun _ _ _ => False) : codeAny (model P w) callerA (.call (.ref fa) ⟨[.ref a], []⟩) (GoodEnd s₁) s₁ := by
  have free : ∀ {b : Addr} {o : Obj} {es : Array DictEntry} {n : Nat}, s₁.heap.get? b = some o → o.data = .dict es n → H b = none := by
    intro b o es n h1 h2
    by_cases z : H b = none
    · exact z
    · have e1 := hA b z
      rw [e1, ha] at h1
      cases h1
      cases h2
  have ns : ∀ {b : Addr} {m : Str → Option Value}, s₁.heap.Ns b m → (hidT s₁.heap H).Ns b m := by
    rintro b m ⟨o, es, n, h1, h2, r⟩
    exact ⟨o, es, n, hidT_get h1 (free h1 h2), h2, r⟩
  have kin : K.In (hidT s₁.heap H) := by
    intro b o h
    refine hidT_get (KX b o h) ?_
    by_cases z : H b = none
    · exact z
    · have e1 := hA b z
      subst e1
      rw [hK z] at h
      cases h
  have md : Mod K mg (hidT s₁.heap H) := ⟨kin, ns hns, ⟨mb, ns hb, hbb⟩, by obtain ⟨mc, h1, h2⟩ := hlim; exact ⟨mc, ns h1, h2⟩⟩
  have none_in : ∀ b : Addr, b ∉ frs [] := fun b hb => by cases (show b ∈ ([] : List Addr) from hb)
  have e0 : Env0 P w K mg (hidT s₁.heap H) callerA [] s₁ H := ⟨rfl, md, fun b o e => of_hidT e, Nat.le_of_eq (hidT_size _ _), trivial, fun b hb => absurd hb (none_in b), hok, .of_eq hg⟩
  refine codeAny_mono (F _ kin (ns hns) callerA [] s₁ H [.ref a] [.ref a] _ _ hr rfl e0 (.cons rfl .nil) hsp) fun r s' h => ?_
  cases r with
  | error e => exact False.elim h
  | ok fl => cases fl with
    | next => exact False.elim h
    | brk => exact False.elim h
    | cont => exact False.elim h
    | ret u =>
      obtain ⟨v, H', os, bare, un, hok', r', q⟩ := h
      subst q
      obtain rfl : u = Value.bool true := r'
      refine ⟨rfl, OldK.of_keep fun b o hb => ?_, os, bare⟩
      rcases hO b with z | ⟨ob, xs, z⟩
      · exact un.keep b o hb z (none_in b) (by simp)
      · have i1 := (hok b _ z).1
        rw [hb] at i1
        cases i1
        exact (hok' b _ (un.frzs b _ _ z)).1
theorem law_callG {P : Program} {w : World} {K : PySem.W.Frag} {mg mb : Str → Option Value} {k : Nat} {fa a : Addr} {sp : Sp} {s₁ : Shared} {vs : List Value} {ns : List Int}
    (KX : K.In s₁.heap) (hns : s₁.heap.Ns mainGlobals mg) (hb : s₁.heap.Ns builtinsNs mb) (hbb : ∀ x : Str, x ≠ "__name__" → mb x = bootBuiltins x) (hlim : s₁.heap.NoLimit) (hg : s₁.gens = #[])
    (ha : s₁.heap.get? a = some { cls := .type "list", data := .seq vs.toArray }) (hi : IntsAre vs ns) (hl : ns.length ≤ sizeLine) (hr : Room k callerA)
    (F : ∀ base : Heap, K.In base → base.Ns mainGlobals mg → FnG P w K mg base k fa sp)
    (hsp : ∀ H : Hp, Only H → SqL K H a (ns.map V.int) → sp [.ref a] H (fun v _ => v = .bl true) fun _ _ _ => False) : codeAny (model P w) callerA (.call (.ref fa) ⟨[.ref a], []⟩) (GoodEnd s₁) s₁ := by
  have rv := vals_ints hi
  have lenV := hi.length
  let o : Obj := { cls := .type "list", data := .seq vs.toArray }
  cases hk : K.lookup a with
  | some o' =>
    have e1 := KX a o' hk
    rw [ha] at e1
    cases e1
    have hO : Only (fun _ => none : Hp) := fun _ => .inl rfl
    refine law_fromG KX hns hb hbb hlim hg ha hr F hO (fun b u z => by cases (show (none : Option HO) = some u from z)) (fun b z => absurd rfl z) (fun z => absurd rfl z) (hsp _ hO (.inr ⟨_, vs.toArray, _, hk, rfl, rfl, rfl, ?_, by simpa using rv⟩))
    rw [List.size_toArray, lenV]
    exact hl
  | none =>
    let H : Hp := fun b => if b = a then some (.frz o (.lst (ns.map V.int))) else none
    have hself : H a = some (.frz o (.lst (ns.map V.int))) := if_pos rfl
    have hne : ∀ {b : Addr}, b ≠ a → H b = none := fun h => if_neg h
    have hO : Only H := fun b => by
      by_cases z : b = a
      · subst z; exact .inr ⟨_, _, hself⟩
      · exact .inl (hne z)
    refine law_fromG KX hns hb hbb hlim hg ha hr F hO (fun b u z => ?_) (fun b z => ?_) (fun _ => hk) (hsp H hO (.inl (.inr ⟨o, hself⟩)))
    · by_cases q : b = a
      · subst q
        rw [hself] at z
        cases z
        exact ⟨ha, by rw [List.length_map]; exact hl, vs, _, rv, ha⟩
      · rw [hne q] at z
        cases z
    · by_cases q : b = a
      · exact q
      · exact absurd (hne q) z
theorem walk_ofG {l : PySem.W.OpenLaw} {n k : Nat} {q : Program} {loose : List Str} {XP : (Str → Option Value) → Heap → Prop} {YP : World → Heap → Prop} {d : DefRec}
    (hn : l.most = some n) (hn2 : n ≤ sizeLine) (hdf : d.params.defaults = []) (hr : Room k callerA)
    (F : ∀ (w : World) (mg : Str → Option Value) (fa : Addr) (h : Heap), YP w h → h.Ns mainGlobals mg → mg d.name = some (.ref fa) →
      ∃ (K : PySem.W.Frag) (sp : Sp), K.In h ∧ (∀ (H : Hp) (a : Addr) (ns : List Int), ns.length ≤ n → Only H → SqL K H a (ns.map V.int) → sp [.ref a] H (fun v _ => v = .bl true) fun _ _ _ => False) ∧
        ∀ base : Heap, K.In base → base.Ns mainGlobals mg → FnG l.prog w K mg base k fa sp) :
    PySem.W.WalkO q loose XP YP l.row.toRowW d [] (fun f vs => PySem.call f vs) := by
  refine Att.attach_call hn hdf fun w s₀ s₁ mg mb fa o pm cd doc a vs ns G Y ho hd hcd hmg hobj hints hlen hg => ?_
  obtain ⟨K, sp, KX, hsp, hF⟩ := F w mg fa _ Y G.T.g hmg
  exact law_callG KX G.T.g G.T.b G.T.builtins G.T.nolimit hg hobj hints (Nat.le_trans hlen hn2) hr hF (fun H hO hS => hsp H a ns hlen hO hS)
end T

namespace T
open PySem L2
section
variable {δ : DSt} {Q : D → DSt → Prop} {k : D → Prop}
theorem e_f1 {g : D → (D → Prop) → Prop} {t : TDE} : dF1 g t δ Q = t δ fun d δ1 => g d fun z => Q z δ1 := propext Iff.rfl
theorem e_fstr {ps : List Fp} : dFstr ps δ Q = dFs ps Str.empty δ fun out δ1 => Q (.str out) δ1 := propext Iff.rfl
theorem e_fs0 {acc : Str} {R : Str → DSt → Prop} : dFs [] acc δ R = R acc δ := propext Iff.rfl
theorem e_fs1 {acc s : Str} {r : List Fp} {R : Str → DSt → Prop} : dFs (.lit s :: r) acc δ R = ((acc ++ s).length ≤ sizeLine ∧ dFs r (acc ++ s) δ R) := propext Iff.rfl
theorem e_fs2 {acc : Str} {t : TDE} {r : List Fp} {R : Str → DSt → Prop} : dFs (.val t :: r) acc δ R = t δ fun d δ1 => strD d fun z => onStr z fun y => (y.length ≤ sizeLine ∧ (acc ++ y).length ≤ sizeLine) ∧ dFs r (acc ++ y) δ1 R := propext Iff.rfl
theorem x_repr {d : D} : reprD d k = (ShOk d ∧ k (.str (py d).shown)) := propext Iff.rfl
theorem x_strI {i : Int} : strD (.int i) k = (i.natAbs.log2 < 1920 ∧ k (.str (toString i))) := propext Iff.rfl
theorem x_strS {s : Str} : strD (.str s) k = k (.str s) := propext Iff.rfl
theorem x_onStr {s : Str} {R : Str → Prop} : onStr (.str s) R = R s := propext Iff.rfl
end
/-! ### what repr shows -/
theorem sOk_from : ∀ (ts : List Str) (k : Nat) (acc : Str), sOk acc → (∀ t ∈ ts, sOk t) → sOk (textFrom k acc ts)
  | [], _, _, h, _ => h
  | t :: ts, k, acc, h, ht => by
    refine sOk_from ts (k + 1) _ (sOk_append (sOk_append h ?_) (ht t List.mem_cons_self)) fun x hx => ht x (List.mem_cons_of_mem _ hx)
    exact sOk_ofString _
theorem sOk_list {ts : List Str} (h : ∀ t ∈ ts, sOk t) : sOk (listText ts) := sOk_append (sOk_from ts 0 _ (sOk_ofString "[") h) (sOk_ofString "]")
/-- a thing without parts that repr shows shortly -/
def atomOk : D → Prop
  | .non => True
  | .bl _ => True
  | .int i => i.natAbs.log2 < 1920
  | _ => False
theorem atom_dat {d : D} (h : atomOk d) : isDat d = true ∧ (py d).showable = true ∧ (py d).hasDict = false ∧ (py d).depth ≤ 0 ∧ (py d).shown.length ≤ 1921 ∧ sOk (py d).shown := by
  cases d with
  | non => exact ⟨rfl, rfl, rfl, Nat.le_refl _, by decide, sOk_ofString "None"⟩
  | bl b => exact ⟨rfl, rfl, rfl, Nat.le_refl _, by cases b <;> decide, by cases b <;> exact sOk_ofString _⟩
  | int i => exact ⟨rfl, decide_eq_true h, rfl, Nat.le_refl _, PyProof.Rows.int_text_len_1921 h, sOk_ofString _⟩
  | _ => exact h.elim
theorem shown_all : ∀ l : List PyData, PyData.shownAll l = l.map PyData.shown
  | [] => rfl
  | x :: l => by rw [PyData.shownAll, shown_all l]; rfl
theorem showable_all : ∀ {l : List PyData}, (∀ x ∈ l, x.showable = true) → PyData.showableAll l = true
  | [], _ => rfl
  | x :: l, h => by rw [PyData.showableAll, h x List.mem_cons_self, showable_all fun y hy => h y (List.mem_cons_of_mem _ hy)]; rfl
theorem hasDict_all : ∀ {l : List PyData}, (∀ x ∈ l, x.hasDict = false) → PyData.hasDictAll l = false
  | [], _ => rfl
  | x :: l, h => by rw [PyData.hasDictAll, h x List.mem_cons_self, hasDict_all fun y hy => h y (List.mem_cons_of_mem _ hy)]; rfl
theorem sumN_le {l : List Nat} {m : Nat} (h : ∀ x ∈ l, x ≤ m) : l.sum ≤ l.length * m := by
  induction l with
  | nil => simp
  | cons a r ih =>
    have := h a List.mem_cons_self
    have := ih fun x hx => h x (List.mem_cons_of_mem _ hx)
    rw [List.sum_cons, List.length_cons, Nat.succ_mul]
    omega
theorem depth_all : ∀ {l : List PyData} {n : Nat}, (∀ x ∈ l, x.depth ≤ n) → PyData.depthAll l ≤ n
  | [], _, _ => Nat.zero_le _
  | x :: l, n, h => by
    have h1 := h x List.mem_cons_self
    have h2 := depth_all (l := l) fun y hy => h y (List.mem_cons_of_mem _ hy)
    rw [PyData.depthAll]
    exact Nat.max_le.mpr ⟨h1, h2⟩
end T

namespace T
open PySem L2
/-! ### a def that changes a thing of its caller's -/
section
variable {X : Cx} {e : Ent} {pos : Pos}
def hless (H : Hp) (l : Addr) : Hp := fun a => if a = l then none else H a
theorem less_ne {H : Hp} {l a : Addr} (h : a ≠ l) : hless H l a = H a := if_neg h
theorem GOk.less {G : Gh} {H : Hp} {l : Addr} (k : GOk G H) (nI : G.I l = none) (nB : ¬ foot G l) : GOk G (hless H l) where
  sub := fun a o h => by
    have : a ≠ l := fun z => by subst z; rw [nI] at h; cases h
    rw [less_ne this]; exact k.sub a o h
  box := fun a g h => by
    obtain ⟨b, h1, h2⟩ := k.box a g h
    have ha : a ≠ l := fun z => nB (z ▸ .inl ⟨g, h⟩)
    have hg : g ≠ l := fun z => nB (z ▸ .inr ⟨a, h⟩)
    exact ⟨b.keep (less_ne ha) (less_ne hg), h1, h2⟩
  sep := k.sep
end
end T

namespace T
open PySem L2
/-! ### a def that changes its first argument, a dict of its caller's -/
section
variable {X : Cx} {e : Ent} {pos : Pos}
/-- promises: the dict as it is, the other arguments; what it is then, what is handed back -/
abbrev SpB := List (Key × D) → List D → (List (Key × D) → D → Prop) → Prop
/-- f(v, e, ..), the dict of the slot i lent -/
def dCallB (i : Nat) (sd : SpB) (t : TDA) : TDE := fun δ Q => (match δ[i]? with | some (.ow (.dct _)) => True | _ => False) ∧ t δ fun ds δ1 => match δ1[i]? with
  | some (.ow (.dct k0)) => sd k0 ds fun k1 d => Q d (δ1.set i (.ow (.dct k1)))
  | _ => False
end
end T

namespace T
open PySem L2
section
variable {X : Cx} {e : Ent} {pos : Pos}
def onInt (d : D) (Q : Int → Prop) : Prop := match d with | .int t => Q t | _ => False
theorem onInt_ok {d : D} {Q : Int → Prop} (h : onInt d Q) : ∃ t, d = .int t ∧ Q t := by
  cases d with
  | int t => exact ⟨t, rfl, h⟩
  | _ => exact h.elim
/-! ### len(x) by the class's own def -/
def ownN (C : Str) (sd : SpD) (d : D) (Q : D → Prop) : Prop := match insOf d with
  | some (C', fs) => C' = C ∧ sd [.ins C fs] fun z => onInt z fun t => (0 ≤ t ∧ t < 1000000) ∧ Q (.int t)
  | none => False
theorem call_lenOwn {n : Nat} {C g : Addr} {sp : Sp} {E : XK} (hs : PySem.W.findIn X.K (.ref C) "__len__" = some (some (.ref g))) (hf : PySem.W.isFn X.K (.ref g) = true) (F : FnR X.prog X.w X.K X.mg X.base CX0 n g sp) (hr : Room (n + 1) X.A) (hx : Passes CX0 X E) :
    CallR X (.builtin "len") (fun xs H Q => ∃ a dx fs, xs = [.ref a] ∧ H a = some (.ins C dx fs) ∧ sp xs H (fun z H' => ∃ t : Int, z = .int t ∧ (0 ≤ t ∧ t < 1000000) ∧ Q (.int t) H') E) := by
  intro pins s σ H xs us Q I r h
  obtain ⟨a, dx, fs, rfl, ha, q⟩ := h
  obtain ⟨u, rfl, ru⟩ := vals1 r
  cases (show u = Value.ref a from ru)
  obtain ⟨mA, O, _⟩ := ins_get I.hok ha
  obtain ⟨od, J, _⟩ := O.look
  obtain ⟨m, hF⟩ := I.fr
  refine PySem.W.len_K hF I.ok.mod.kin J hs hf (wpAny_mono (wpAny_call (SlX.run_at (us := [.ref a]) (ws := [.ref a]) F hr.in1 I.env0.in1 hx I (.cons rfl .nil) q)) (fun w s' z => ?_) fun _ _ x => x)
  obtain ⟨z', H', I', rz, t, rfl, ht, qz⟩ := z
  obtain ⟨tk, rfl⟩ := rz
  exact ⟨⟨ht.1, by have := ht.2; show t < 2 ^ 63; omega⟩, .int t, H', I'.tok _, ⟨_, rfl⟩, qz⟩
theorem ownN_ok {C : Str} {sd : SpD} {T : Tm} {G : Gh} {H : Hp} {σ : St} {δ : DSt} {x : V} {a : D} {Qd : D → Prop} {Q : VK} (S : SS X.K e T G H σ δ) (ra : Rep X.K G x a) (q : ownN C sd a Qd)
    (k : ∀ v d H' G', SS X.K e T G' H' σ δ → Step e G H G' H' → Rep X.K G' v d → Qd d → Q v H') : ∃ p dx fs, [x] = [V.ref p] ∧ H p = some (.ins (He.ga X.K C) dx fs) ∧ toSp X.K sd [x] H (fun z H' => ∃ t : Int, z = .int t ∧ (0 ≤ t ∧ t < 1000000) ∧ Q (.int t) H') E0 := by
  unfold ownN at q
  cases hi : insOf a with
  | none => rw [hi] at q; exact q.elim
  | some p1 =>
    rw [hi] at q
    obtain ⟨C1, f1⟩ := p1
    obtain ⟨rfl, q⟩ := q
    obtain ⟨pa, dx, fa, rfl, ha, _⟩ := insOf_ok S.ok (.inl ra) hi
    refine ⟨pa, dx, fa, rfl, ha, G, _, _, S.ok, .cons (ra.toIns hi) .nil, q, fun d v G' H' ok cc rep qd => ?_⟩
    obtain ⟨t, rfl, ht, qd⟩ := onInt_ok qd
    obtain ⟨S2, st2⟩ := S.after ok cc
    exact ⟨t, rep.intI, ht, k _ _ H' G' S2 st2 (.int t) qd⟩
theorem de_lenOwn {k j : Nat} {C : Str} {sd : SpD} {a : Expr} {t : TDE} {p : Pos} (c : CalU X.prog X.w X.K X.mg X.base k C "__len__" sd) (hr : Room j X.A) (hk : k + 1 ≤ j) (ha : DE X e a t) (hg : Gl X "len") (hm : X.mg "len" = none)
    (hs : starEach (a :: []) X.env = (false, eval a X.env) :: starEach [] X.env := by rfl) (hpl : (backTo pos (starEach [] X.env)).any (·.1) = false := by rfl) : DE X e (.Call (.Name "len" p) [a] [] pos) (dF1 (ownN C sd) t) := by
  obtain ⟨g, F, h1, h2⟩ := c.ex
  refine pe_imp (pe_callB (call_lenOwn h1 h2 F (hr.mono hk) pass0) hg hm rfl (pa_cons ha pa_nil hs) (by decide) (by decide) hs hpl) fun σ H Q ⟨T, G, δ, Qd, S, q, kk⟩ => ?_
  exact ⟨T, G, δ, _, S, q, fun v d H1 G1 δ1 S1 st1 rd q1 => ownN_ok S1 rd q1 fun v' d' H' G' S' st' rep qd => kk v' d' H' G' δ1 S' (st1.trans st') rep qd⟩
/-! ### x in y by y's own def -/
/-! ### dict(l) of a list of pairs -/
end
section
open PySem.Spec PyProof.Rows HT
variable {prog : Program} {w : World} {A : Around} {E : Value → Shared → Prop} {s : Shared}
end
section
open PySem.Spec PyProof.Rows
variable {X : Cx} {e : Ent} {pos : Pos}
def stepD (d : D) (i : Option Int) (Q : D → Prop) : Prop := match d with
  | .tup [a, b] => (i = some 1 ∧ Q (.tup [a, b])) ∨ (i = some (-1) ∧ Q (.tup [b, a]))
  | _ => False
def dStep (t : TDE) (ts : TDO) : TDE := fun δ Q => t δ fun d δ1 => ts δ1 fun i δ2 => stepD d i fun z => Q z δ2
end
end T

namespace T
open PySem L2
section
variable {X : Cx} {e : Ent} {pos : Pos}
/-! ### == of dicts of data -/
/-! ### l[i] = v of a list that is ours -/
def dgItem (i : Nat) (tk : TDE) : TDG := fun d δ Q => (match δ[i]? with | some (.ow (.lst _)) => True | _ => False) ∧ tk δ fun k δ1 => match δ1[i]?, k with
  | some (.ow (.lst l)), .int j => (0 ≤ j ∧ j < l.length) ∧ Q (δ1.set i (.ow (.lst (l.set j.toNat d))))
  | _, _ => False
theorem dg_item {o ke : Expr} {i : Nat} {tk : TDE} (ho : PE X o (tVar i)) (hk : DE X e ke tk)
    (ha : ∀ v, assign (.Subscript o ke pos) X.env v = (do
      let ov ← holding [v] (eval o X.env)
      let iv ← holding [v, ov] (eval ke X.env)
      standAt pos
      holding [v, ov, iv] (setItem ov iv v)
      release [v, ov, iv] []) := by intro _; rfl) : DG X e (.Subscript o ke pos) [] (dgItem i tk) :=
  pg_imp (pg_sub ho hk set_list ha) fun v σ H Q ⟨T, G, δ, d, Qd, S, r, ⟨h0, q⟩, k⟩ => by
    have h0' : ∃ l0, δ[i]? = some (.ow (.lst l0)) := by
      revert h0
      split
      · rename_i z; exact fun _ => ⟨_, z⟩
      · exact fun z => z.elim
    obtain ⟨l0, hs⟩ := h0'
    obtain ⟨o', h1, l, rfl, m⟩ := S.sl i _ hs
    refine ⟨_, h1, T, G, δ, _, S, q, fun y b H1 G1 δ1 S1 st1 rb q1 => ?_⟩
    have q2 : ∃ l1 j, δ1[i]? = some (.ow (.lst l1)) ∧ b = .int j ∧ (0 ≤ j ∧ j < l1.length) ∧ Qd (δ1.set i (.ow (.lst (l1.set j.toNat d)))) := by
      revert q1
      split
      · rename_i z1; exact fun z => ⟨_, _, z1, rfl, z.1, z.2⟩
      · exact fun z => z.elim
    obtain ⟨l1, j, hs1, rfl, hj, q2⟩ := q2
    obtain ⟨o2, h2, l2, e2, m2⟩ := S1.sl i _ hs1
    rw [h1] at h2
    cases h2
    have e3 : l = l2 := by simpa using e2
    subst e3
    obtain ⟨vs, hv, rl⟩ := m2.own
    cases rb with
    | int =>
      obtain ⟨S2, st2⟩ := S1.write (d' := .lst (l1.set j.toNat d)) (o := .lst (vs.set j.toNat v)) hs1 h1 ⟨_, upd_same, rl.set (r.mono st1.le) _⟩
      refine ⟨l, vs, j, j.toNat, rfl, rfl, hv, ?_, k σ _ G1 _ S2 (st1.trans st2) Only1.refl q2⟩
      have hl := rl.length
      unfold ixN
      rw [if_pos hj.1, if_pos (by rw [hl]; exact hj.2)]
end
end T

namespace T
open PySem L2
abbrev kS (s : Str) : Key := Sum.inr s
def hO : Sl → Prop | .ow _ => True | _ => False
def oA (s : Sl) (k : D → Prop) : Prop := match s with | .ow a => k a | _ => False
def hD : Sl → Prop | .ow (.dct _) => True | _ => False
def oD (s : Sl) (k : List (Key × D) → Prop) : Prop := match s with | .ow (.dct a) => k a | _ => False
section
variable {δ : DSt} {i : Nat} {Q : D → DSt → Prop} {k : D → Prop} {d : D} {F : DEnds}
theorem h3 : hO (.ow d) = True := propext Iff.rfl
theorem h4 {l : List (Key × D)} : hD (.ow (.dct l)) = True := propext Iff.rfl
theorem oa0 : oA (nth (Sl.ow d :: δ) 0) k = k d := propext Iff.rfl
theorem od0 {l : List (Key × D)} {k : List (Key × D) → Prop} : oD (nth (Sl.ow (.dct l) :: δ) 0) k = k l := propext Iff.rfl
theorem oa1 {s0 : Sl} : oA (nth (s0 :: Sl.ow d :: δ) 1) k = k d := propext Iff.rfl
theorem od1 {s0 : Sl} {l : List (Key × D)} {k : List (Key × D) → Prop} : oD (nth (s0 :: Sl.ow (.dct l) :: δ) 1) k = k l := propext Iff.rfl
theorem oa2 {s0 s1 : Sl} : oA (nth (s0 :: s1 :: Sl.ow d :: δ) 2) k = k d := propext Iff.rfl
theorem od2 {s0 s1 : Sl} {l : List (Key × D)} {k : List (Key × D) → Prop} : oD (nth (s0 :: s1 :: Sl.ow (.dct l) :: δ) 2) k = k l := propext Iff.rfl
theorem oa3 {s0 s1 s2 : Sl} : oA (nth (s0 :: s1 :: s2 :: Sl.ow d :: δ) 3) k = k d := propext Iff.rfl
theorem od3 {s0 s1 s2 : Sl} {l : List (Key × D)} {k : List (Key × D) → Prop} : oD (nth (s0 :: s1 :: s2 :: Sl.ow (.dct l) :: δ) 3) k = k l := propext Iff.rfl
theorem oa4 {s0 s1 s2 s3 : Sl} : oA (nth (s0 :: s1 :: s2 :: s3 :: Sl.ow d :: δ) 4) k = k d := propext Iff.rfl
theorem od4 {s0 s1 s2 s3 : Sl} {l : List (Key × D)} {k : List (Key × D) → Prop} : oD (nth (s0 :: s1 :: s2 :: s3 :: Sl.ow (.dct l) :: δ) 4) k = k l := propext Iff.rfl
theorem oa5 {s0 s1 s2 s3 s4 : Sl} : oA (nth (s0 :: s1 :: s2 :: s3 :: s4 :: Sl.ow d :: δ) 5) k = k d := propext Iff.rfl
theorem od5 {s0 s1 s2 s3 s4 : Sl} {l : List (Key × D)} {k : List (Key × D) → Prop} : oD (nth (s0 :: s1 :: s2 :: s3 :: s4 :: Sl.ow (.dct l) :: δ) 5) k = k l := propext Iff.rfl
theorem oa6 {s0 s1 s2 s3 s4 s5 : Sl} : oA (nth (s0 :: s1 :: s2 :: s3 :: s4 :: s5 :: Sl.ow d :: δ) 6) k = k d := propext Iff.rfl
theorem od6 {s0 s1 s2 s3 s4 s5 : Sl} {l : List (Key × D)} {k : List (Key × D) → Prop} : oD (nth (s0 :: s1 :: s2 :: s3 :: s4 :: s5 :: Sl.ow (.dct l) :: δ) 6) k = k l := propext Iff.rfl
theorem oa7 {s0 s1 s2 s3 s4 s5 s6 : Sl} : oA (nth (s0 :: s1 :: s2 :: s3 :: s4 :: s5 :: s6 :: Sl.ow d :: δ) 7) k = k d := propext Iff.rfl
theorem od7 {s0 s1 s2 s3 s4 s5 s6 : Sl} {l : List (Key × D)} {k : List (Key × D) → Prop} : oD (nth (s0 :: s1 :: s2 :: s3 :: s4 :: s5 :: s6 :: Sl.ow (.dct l) :: δ) 7) k = k l := propext Iff.rfl
theorem oa8 {s0 s1 s2 s3 s4 s5 s6 s7 : Sl} : oA (nth (s0 :: s1 :: s2 :: s3 :: s4 :: s5 :: s6 :: s7 :: Sl.ow d :: δ) 8) k = k d := propext Iff.rfl
theorem od8 {s0 s1 s2 s3 s4 s5 s6 s7 : Sl} {l : List (Key × D)} {k : List (Key × D) → Prop} : oD (nth (s0 :: s1 :: s2 :: s3 :: s4 :: s5 :: s6 :: s7 :: Sl.ow (.dct l) :: δ) 8) k = k l := propext Iff.rfl
theorem oa9 {s0 s1 s2 s3 s4 s5 s6 s7 s8 : Sl} : oA (nth (s0 :: s1 :: s2 :: s3 :: s4 :: s5 :: s6 :: s7 :: s8 :: Sl.ow d :: δ) 9) k = k d := propext Iff.rfl
theorem od9 {s0 s1 s2 s3 s4 s5 s6 s7 s8 : Sl} {l : List (Key × D)} {k : List (Key × D) → Prop} : oD (nth (s0 :: s1 :: s2 :: s3 :: s4 :: s5 :: s6 :: s7 :: s8 :: Sl.ow (.dct l) :: δ) 9) k = k l := propext Iff.rfl
theorem oa10 {s0 s1 s2 s3 s4 s5 s6 s7 s8 s9 : Sl} : oA (nth (s0 :: s1 :: s2 :: s3 :: s4 :: s5 :: s6 :: s7 :: s8 :: s9 :: Sl.ow d :: δ) 10) k = k d := propext Iff.rfl
theorem od10 {s0 s1 s2 s3 s4 s5 s6 s7 s8 s9 : Sl} {l : List (Key × D)} {k : List (Key × D) → Prop} : oD (nth (s0 :: s1 :: s2 :: s3 :: s4 :: s5 :: s6 :: s7 :: s8 :: s9 :: Sl.ow (.dct l) :: δ) 10) k = k l := propext Iff.rfl
theorem oa11 {s0 s1 s2 s3 s4 s5 s6 s7 s8 s9 s10 : Sl} : oA (nth (s0 :: s1 :: s2 :: s3 :: s4 :: s5 :: s6 :: s7 :: s8 :: s9 :: s10 :: Sl.ow d :: δ) 11) k = k d := propext Iff.rfl
theorem od11 {s0 s1 s2 s3 s4 s5 s6 s7 s8 s9 s10 : Sl} {l : List (Key × D)} {k : List (Key × D) → Prop} : oD (nth (s0 :: s1 :: s2 :: s3 :: s4 :: s5 :: s6 :: s7 :: s8 :: s9 :: s10 :: Sl.ow (.dct l) :: δ) 11) k = k l := propext Iff.rfl
theorem oa12 {s0 s1 s2 s3 s4 s5 s6 s7 s8 s9 s10 s11 : Sl} : oA (nth (s0 :: s1 :: s2 :: s3 :: s4 :: s5 :: s6 :: s7 :: s8 :: s9 :: s10 :: s11 :: Sl.ow d :: δ) 12) k = k d := propext Iff.rfl
theorem od12 {s0 s1 s2 s3 s4 s5 s6 s7 s8 s9 s10 s11 : Sl} {l : List (Key × D)} {k : List (Key × D) → Prop} : oD (nth (s0 :: s1 :: s2 :: s3 :: s4 :: s5 :: s6 :: s7 :: s8 :: s9 :: s10 :: s11 :: Sl.ow (.dct l) :: δ) 12) k = k l := propext Iff.rfl
theorem g_put {tk : TDE} {Q : DSt → Prop} : dgPut i tk d δ Q = (hO (nth δ i) ∧ tk δ fun k δ1 => oA (nth δ1 i) fun a => mX (putD a k d) fun a' => atS (δ1.set i (.ow a')) Q) := by
  unfold dgPut
  have e1 : (match δ[i]? with | some (.ow _) => True | _ => False) = hO (nth δ i) := by
    rcases nth_eq δ i with h | ⟨h, z⟩
    · rw [h]; cases nth δ i <;> rfl
    · rw [h, z]; rfl
  have e2 : (fun (k : D) (δ1 : DSt) => match δ1[i]? with | some (.ow a) => (match putD a k d with | some a' => Q (δ1.set i (.ow a')) | none => False) | _ => False) = fun k δ1 => oA (nth δ1 i) fun a => mX (putD a k d) fun a' => atS (δ1.set i (.ow a')) Q := by
    funext k δ1
    rcases nth_eq δ1 i with h | ⟨h, z⟩
    · rw [h]; cases nth δ1 i with
      | ow a => show (match putD a k d with | some a' => Q (δ1.set i (.ow a')) | none => False) = mX (putD a k d) _; cases putD a k d <;> rfl
      | _ => rfl
    · rw [h, z]; rfl
  exact congr (congrArg And e1) (congrArg (tk δ) e2)
theorem g_item {tk : TDE} {Q : DSt → Prop} : dgItem i tk d δ Q = (hL (nth δ i) ∧ tk δ fun k δ1 => oL (nth δ1 i) fun l => onInt k fun j => (0 ≤ j ∧ j < l.length) ∧ atS (δ1.set i (.ow (.lst (l.set j.toNat d)))) Q) := by
  unfold dgItem
  have e1 : (match δ[i]? with | some (.ow (.lst _)) => True | _ => False) = hL (nth δ i) := by
    rcases nth_eq δ i with h | ⟨h, z⟩
    · rw [h]; cases nth δ i with
      | ow a => cases a <;> rfl
      | _ => rfl
    · rw [h, z]; rfl
  have e2 : (fun (k : D) (δ1 : DSt) => match δ1[i]?, k with | some (.ow (.lst l)), .int j => (0 ≤ j ∧ j < l.length) ∧ Q (δ1.set i (.ow (.lst (l.set j.toNat d)))) | _, _ => False) = fun k δ1 => oL (nth δ1 i) fun l => onInt k fun j => (0 ≤ j ∧ j < l.length) ∧ atS (δ1.set i (.ow (.lst (l.set j.toNat d)))) Q := by
    funext k δ1
    rcases nth_eq δ1 i with h | ⟨h, z⟩
    · rw [h]; cases nth δ1 i with
      | ow a => cases a <;> cases k <;> rfl
      | _ => cases k <;> rfl
    · rw [h, z]; cases k <;> rfl
  exact congr (congrArg And e1) (congrArg (tk δ) e2)
theorem e_callB {sd : SpB} {t : TDA} : dCallB i sd t δ Q = (hD (nth δ i) ∧ t δ fun ds δ1 => oD (nth δ1 i) fun k0 => sd k0 ds fun k1 d => atS (δ1.set i (.ow (.dct k1))) (Q d)) := by
  unfold dCallB
  have e1 : (match δ[i]? with | some (.ow (.dct _)) => True | _ => False) = hD (nth δ i) := by
    rcases nth_eq δ i with h | ⟨h, z⟩
    · rw [h]; cases nth δ i with
      | ow a => cases a <;> rfl
      | _ => rfl
    · rw [h, z]; rfl
  have e2 : (fun (ds : List D) (δ1 : DSt) => match δ1[i]? with | some (.ow (.dct k0)) => sd k0 ds fun k1 d => Q d (δ1.set i (.ow (.dct k1))) | _ => False) = fun ds δ1 => oD (nth δ1 i) fun k0 => sd k0 ds fun k1 d => atS (δ1.set i (.ow (.dct k1))) (Q d) := by
    funext ds δ1
    rcases nth_eq δ1 i with h | ⟨h, z⟩
    · rw [h]; cases nth δ1 i with
      | ow a => cases a <;> rfl
      | _ => rfl
    · rw [h, z]; rfl
  exact congr (congrArg And e1) (congrArg (t δ) e2)
theorem x_onInt {j : Int} {R : Int → Prop} : onInt (.int j) R = R j := propext Iff.rfl
theorem s_aug {t : TDE} : dAug i t F δ = rS (nth δ i) fun x => onInt x fun a => t δ fun d δ1 => onInt d fun b => atS (δ1.set i (.im (.int (a + b)))) F.nx := by
  unfold dAug
  have e2 : ∀ a : Int, (fun (d : D) (δ1 : DSt) => match d with | .int b => F.nx (δ1.set i (.im (.int (a + b)))) | _ => False) = fun d δ1 => onInt d fun b => atS (δ1.set i (.im (.int (a + b)))) F.nx := by
    intro a; funext d δ1; cases d <;> rfl
  have e1 := rd_eq δ i fun x => onInt x fun a => t δ fun d δ1 => onInt d fun b => atS (δ1.set i (.im (.int (a + b)))) F.nx
  rw [← e1]
  cases rdS δ i with
  | none => rfl
  | some x => cases x with
    | int a => exact congrArg (t δ) (e2 a)
    | _ => rfl
theorem e_disp {trs : List (TDE × TDE)} : dDisp trs δ Q = dPairs trs δ fun ps δ1 => mX (keysOf ps) fun kds => Q (.dct (mergeD [] kds)) δ1 := by
  unfold dDisp
  congr 1
  funext ps δ1
  cases keysOf ps <;> rfl
theorem e_ps0 {R : List (D × D) → DSt → Prop} : dPairs [] δ R = R [] δ := propext Iff.rfl
theorem e_ps1 {t u : TDE} {r : List (TDE × TDE)} {R : List (D × D) → DSt → Prop} : dPairs ((t, u) :: r) δ R = t δ fun k δ1 => u δ1 fun v δ2 => dPairs r δ2 fun ps δ3 => R ((k, v) :: ps) δ3 := propext Iff.rfl
theorem x_ko0 : keysOf [] = some [] := rfl
theorem x_ko1 {s : Str} {v : D} {r : List (D × D)} : keysOf ((.str s, v) :: r) = (keysOf r).map ((kS s, v) :: ·) := rfl
theorem x_ko2 {α β : Type} {f : α → β} {a : α} : Option.map f (some a) = some (f a) := rfl
theorem i_str {t : TDE} {R : List D → DSt → Prop} : iStrD t δ R = t δ fun d δ1 => onStr d fun s => R (signs s) δ1 := by
  unfold iStrD
  refine congrArg (t δ) ?_
  funext d δ1
  cases d <;> rfl
theorem i_range2 {t u : TDE} {R : List D → DSt → Prop} : iRange2 t u δ R = t δ fun d δ1 => u δ1 fun d2 δ2 => onInt d fun i => onInt d2 fun j => (-(2 ^ 62) ≤ i ∧ i < 2 ^ 62 ∧ -(2 ^ 62) ≤ j ∧ j < 2 ^ 62) ∧ R (rngD i (j - i).toNat) δ2 := by
  unfold iRange2
  congr 1
  funext d δ1
  congr 1
  funext d2 δ2
  cases d <;> cases d2 <;> rfl
theorem e_get2 {tk tx : TDE} : dGet2 (.sl i) tk tx δ Q = (rS (nth δ i) (fun a => isDic a = true) ∧ tk δ fun k δ1 => tx δ1 fun z δ2 => rS (nth δ2 i) fun a => getAt a k z fun r => Q r δ2) := by
  unfold dGet2
  refine congr (congrArg And (rd_eq δ i fun a => isDic a = true)) (congrArg (tk δ) ?_)
  funext k δ1
  refine congrArg (tx δ1) ?_
  funext z δ2
  exact rd_eq δ2 i fun a => getAt a k z fun r => Q r δ2
theorem e_step {t : TDE} {ts : TDO} : dStep t ts δ Q = t δ fun d δ1 => ts δ1 fun i δ2 => stepD d i fun z => Q z δ2 := propext Iff.rfl
theorem x_step {a b : D} {j : Option Int} : stepD (.tup [a, b]) j k = ((j = some 1 ∧ k (.tup [a, b])) ∨ (j = some (-1) ∧ k (.tup [b, a]))) := propext Iff.rfl
end
section
variable {k : D → Prop}
/-! dicts with text keys -/
theorem x_ixK {l : List (Key × D)} {s : Str} : ixX (.dct l) (.str s) k = mX (lookD l (kS s)) k := by
  unfold ixX ixA
  show (match some (lookD l (kS s)) with | some (some d) => k d | some none => False | none => ixD (.dct l) (.str s) k) = _
  cases lookD l (kS s) <;> rfl
theorem x_ixZ {a : Addr} {l : List (Key × D)} {s : Str} : ixX (.dself a l) (.str s) k = mX (lookD l (kS s)) k := by
  unfold ixX ixA
  show (match some (lookD l (kS s)) with | some (some d) => k d | some none => False | none => ixD (.dself a l) (.str s) k) = _
  cases lookD l (kS s) <;> rfl
theorem x_inK {neg : Bool} {l : List (Key × D)} {s : Str} : inX neg (.str s) (.dct l) k = k (.bl (if neg = true then !(lookD l (kS s)).isSome else (lookD l (kS s)).isSome)) := by
  unfold inX inA
  rfl
theorem x_putZ {a : Addr} {l : List (Key × D)} {s : Str} {v : D} (h : l.length < 100000) : putD (.dself a l) (.str s) v = some (.dself a (putKD l (kS s) v)) := by
  show (if l.length < 100000 then some (D.dself a (putKD l (kS s) v)) else none) = _
  rw [if_pos h]
theorem x_listK {l : List (Key × D)} : listA (.dct l) k = k (.lst (l.map fun p => unK p.1)) := propext Iff.rfl
theorem x_listZ {a : Addr} {l : List (Key × D)} : listA (.dself a l) k = k (.lst (l.map fun p => unK p.1)) := propext Iff.rfl
theorem x_listT {l : List D} : listA (.tup l) k = k (.lst l) := propext Iff.rfl
/-! isinstance -/
theorem x_isS {s : Str} : isiX (.str s) (.ty "str") k = k (.bl true) := by unfold isiX; rfl
theorem x_isT {l : List D} : isiX (.tup l) (.ty "tuple") k = k (.bl true) := by unfold isiX; rfl
theorem isi_no {d : D} {n t : String} (h : tyN d = some t) (e : kitB t n = some false) : isiX d (.ty n) k = k (.bl false) := by
  rw [eq_iff_iff]
  unfold isiX
  have : isiD d (.ty n) k = (match tyN d with | some t => (match kitB t n with | some b => k (.bl b) | none => False) | none => False) := rfl
  rw [this, h]
  show (match kitB t n with | some b => k (.bl b) | none => False) ↔ _
  rw [e]
/-! a sign in a text -/
theorem x_inS {c : Nat} {neg : Bool} {b : Str} : inX neg (.str ⟨#[c]⟩) (.str b) k = k (.bl (if neg = true then !decide (c ∈ b.cps.toList) else decide (c ∈ b.cps.toList))) := by
  rw [eq_iff_iff]
  have e : inX neg (.str ⟨#[c]⟩) (.str b) k = ∃ c', (⟨#[c]⟩ : Str) = ⟨#[c']⟩ ∧ k (.bl (if neg then !decide (c' ∈ b.cps.toList) else decide (c' ∈ b.cps.toList))) := by unfold inX; rfl
  rw [e]
  constructor
  · rintro ⟨c', h, q⟩
    have : c = c' := by injection h with h; simpa using h
    subst this; exact q
  · exact fun q => ⟨c, rfl, q⟩
end
/-! ### what stands in a dict made over a list -/
theorem look_map {v : Str → D} : ∀ {l : List Str} {s : Str}, lookD (l.map fun p => (kS p, v p)) (kS s) = if s ∈ l then some (v s) else none
  | [], s => rfl
  | a :: r, s => by
    have ih := look_map (v := v) (l := r) (s := s)
    unfold lookD at ih ⊢
    rw [List.map_cons, List.find?_cons]
    by_cases h : a = s
    · subst h; simp
    · have : decide ((kS a : Key) = .inr s) = false := decide_eq_false fun z => h (by injection z)
      rw [this]
      rw [ih]
      by_cases hs : s ∈ r
      · rw [if_pos hs, if_pos (List.mem_cons_of_mem _ hs)]
      · rw [if_neg hs, if_neg (fun z => (List.mem_cons.mp z).elim (fun y => h y.symm) hs)]
theorem put_map {v : Str → D} {l : List Str} {s : Str} {d : D} (h : s ∈ l) : putKD (l.map fun p => (kS p, v p)) (kS s) d = l.map fun p => (kS p, if p = s then d else v p) := by
  unfold putKD
  have : ((l.map fun p => ((kS p : Key), v p)).any fun p => decide (p.1 = kS s)) = true := by
    rw [List.any_eq_true]
    exact ⟨(kS s, v s), List.mem_map.mpr ⟨s, h, rfl⟩, decide_eq_true rfl⟩
  rw [if_pos this, List.map_map]
  refine List.map_congr_left fun p _ => ?_
  show (if (kS p : Key) = .inr s then ((kS p : Key), d) else (kS p, v p)) = _
  by_cases hp : p = s
  · subst hp; rw [if_pos rfl, if_pos rfl]
  · rw [if_neg (fun z => hp (by injection z)), if_neg hp]
theorem put_new {v : Str → D} {l : List Str} {s : Str} {d : D} (h : s ∉ l) : putKD (l.map fun p => (kS p, v p)) (kS s) d = (l.map fun p => (kS p, v p)) ++ [(kS s, d)] := by
  unfold putKD
  have : ((l.map fun p => ((kS p : Key), v p)).any fun p => decide (p.1 = kS s)) = false := by
    rw [List.any_eq_false]
    intro x hx
    obtain ⟨p, hp, rfl⟩ := List.mem_map.mp hx
    rw [decide_eq_true_iff]
    intro z
    injection z with z
    exact h (z ▸ hp)
  rw [this, if_neg Bool.false_ne_true]
/-- item by item -/
inductive RelL {α : Type} (R : α → D → Prop) : List α → List D → Prop
  | nil : RelL R [] []
  | cons {x : α} {y : D} {xs : List α} {ys : List D} : R x y → RelL R xs ys → RelL R (x :: xs) (y :: ys)
theorem RelL.len {α : Type} {R : α → D → Prop} : ∀ {xs : List α} {ys : List D}, RelL R xs ys → ys.length = xs.length
  | _, _, .nil => rfl
  | _, _, .cons _ r => congrArg (· + 1) r.len
/-- a dict comprehension over distinct texts -/
theorem dc_go {g : TDG} {tk tv : TDE} {own : List Nat} {δ : DSt} {ds : List D} {Q : D → DSt → Prop} (xs : List Str) (v : Str → D) (hd : ds = xs.map D.str) (hn : xs.Nodup) (hl : xs.length ≤ 1000)
    (turn : ∀ x ∈ xs, ∀ (K : D → D → DSt → Prop), K (.str x) (v x) (wipeD δ own) → g (.str x) (wipeD (wipeD δ own) own) fun δ2 => tk δ2 fun k δ4 => tv δ4 fun z δ5 => K k z (wipeD δ5 own))
    (q : atS (wipeD (wipeD δ own) own) (Q (.dct (xs.map fun p => (kS p, v p))))) : dcB g dYes tk tv own ds δ Q := by
  subst hd
  refine ⟨fun i acc δ' => δ' = wipeD δ own ∧ acc = (xs.take i).map fun p => (kS p, v p), ⟨rfl, rfl⟩, ?_, ?_⟩
  · rintro i d acc δ' hd ⟨rfl, rfl⟩
    rw [List.getElem?_map] at hd
    cases hx : xs[i]? with
    | none => rw [hx] at hd; cases hd
    | some x =>
      rw [hx] at hd
      cases hd
      have hi := lt_of_get hx
      refine turn x (List.mem_of_getElem? hx) (fun k z δ5 => match keyD k with | some kk => ((xs.take i).map fun p => ((kS p : Key), v p)).length < 100000 ∧ (δ5 = wipeD δ own ∧ putKD ((xs.take i).map fun p => (kS p, v p)) kk z = (xs.take (i + 1)).map fun p => (kS p, v p)) | none => False) ?_
      refine ⟨by rw [List.length_map, List.length_take]; omega, rfl, ?_⟩
      have hx2 : x ∉ xs.take i := fun z => by
        obtain ⟨j, hj, e⟩ := List.mem_iff_getElem.mp z
        rw [List.length_take] at hj
        rw [List.getElem_take] at e
        have e2 : xs[j] = xs[i] := by rw [e]; exact (List.getElem?_eq_some_iff.mp hx).2.symm
        have := (List.getElem_inj hn).mp e2
        omega
      rw [put_new hx2, List.take_succ, hx]
      simp
  · rintro acc δ' ⟨rfl, rfl⟩
    rw [List.length_map, List.take_length]
    exact q
end T

namespace T
open PySem L2
/-! ### what repr shows, of nested things -/
theorem charNat_lt (c : Char) : c.toNat < 0x110000 := by
  have := c.valid
  show c.val.toNat < 0x110000
  rcases this with h | ⟨_, h⟩
  · exact Nat.lt_trans h (by decide)
  · exact h
theorem reprChar_ok {q c : Nat} (hc : c < 0x110000) : ∀ x ∈ Builtin.Str.reprChar q c, x < 0x110000 := by
  have hex : ∀ (w : Nat), ∀ x ∈ List.replicate (w - ((Nat.toDigits 16 c).map Char.toNat).length) 48 ++ (Nat.toDigits 16 c).map Char.toNat, x < 0x110000 := fun w x hx => by
    rcases List.mem_append.mp hx with h | h
    · rw [(List.mem_replicate.mp h).2]; decide
    · obtain ⟨z, _, rfl⟩ := List.mem_map.mp h
      exact charNat_lt z
  have two : ∀ a b : Nat, a < 0x110000 → b < 0x110000 → ∀ x ∈ [a, b], x < 0x110000 := fun a b ha hb x hx => by
    simp only [List.mem_cons, List.not_mem_nil, or_false] at hx
    rcases hx with rfl | rfl
    · exact ha
    · exact hb
  unfold Builtin.Str.reprChar
  intro x hx
  dsimp only at hx
  split at hx
  · exact two _ _ (by decide) hc x hx
  split at hx
  · exact two _ _ (by decide) (by decide) x hx
  split at hx
  · exact two _ _ (by decide) (by decide) x hx
  split at hx
  · exact two _ _ (by decide) (by decide) x hx
  split at hx
  · simp only [List.mem_cons, List.not_mem_nil, or_false] at hx; rw [hx]; exact hc
  split at hx
  · rcases List.mem_append.mp hx with h | h
    · exact two _ _ (by decide) (by decide) x h
    · exact hex 2 x h
  split at hx
  · rcases List.mem_append.mp hx with h | h
    · exact two _ _ (by decide) (by decide) x h
    · exact hex 4 x h
  · rcases List.mem_append.mp hx with h | h
    · exact two _ _ (by decide) (by decide) x h
    · exact hex 8 x h
theorem reprFold_ok {q : Nat} : ∀ (l : List Nat) (acc : Array Nat), (∀ c ∈ l, c < 0x110000) → (∀ c ∈ acc.toList, c < 0x110000) → ∀ c ∈ (l.foldl (fun out c => out ++ (Builtin.Str.reprChar q c).toArray) acc).toList, c < 0x110000
  | [], acc, _, h => h
  | x :: r, acc, hl, h => by
    rw [List.foldl_cons]
    refine reprFold_ok r _ (fun c hc => hl c (List.mem_cons_of_mem _ hc)) fun c hc => ?_
    rw [Array.toList_append] at hc
    rcases List.mem_append.mp hc with z | z
    · exact h c z
    · exact reprChar_ok (hl x List.mem_cons_self) c z
theorem sOk_repr {s : Str} (h : sOk s) : sOk (reprText s) := by
  have hq : reprQuote s < 0x110000 := by unfold reprQuote; split <;> decide
  intro c hc
  unfold reprText at hc
  rw [Array.toList_push] at hc
  rcases List.mem_append.mp hc with z | z
  · rw [← Array.foldl_toList] at z
    refine reprFold_ok (q := reprQuote s) s.cps.toList #[reprQuote s] h (fun c hc => ?_) c z
    simp only [List.mem_cons, List.not_mem_nil, or_false] at hc
    rw [hc]; exact hq
  · simp only [List.mem_cons, List.not_mem_nil, or_false] at z
    rw [z]; exact hq
structure Sh (n L : Nat) (d : D) : Prop where
  dat : isDat d = true
  shw : (py d).showable = true
  nod : (py d).hasDict = false
  dep : dep d ≤ n
  len : (py d).shown.length ≤ L
  ok : sOk (py d).shown
theorem Sh.to {n L : Nat} {d : D} (h : Sh n L d) (hn : n ≤ 64 := by decide) (hL : L ≤ sizeLine := by decide) : ShOk d := ⟨h.dat, h.shw, h.nod, Nat.le_trans h.dep hn, Nat.le_trans h.len hL, h.ok⟩
theorem Sh.mono {n L n' L' : Nat} {d : D} (h : Sh n L d) (hn : n ≤ n') (hL : L ≤ L') : Sh n' L' d := ⟨h.dat, h.shw, h.nod, Nat.le_trans h.dep hn, Nat.le_trans h.len hL, h.ok⟩
theorem sh_str {s : Str} {n : Nat} (h : sOk s) : Sh n (10 * s.length + 2) (.str s) := ⟨rfl, rfl, rfl, Nat.zero_le _, StrLaws.reprText_len s fun c hc => Nat.lt_trans (h c hc) (by decide), sOk_repr h⟩
theorem sh_atom {d : D} {n : Nat} (h : atomOk d) : Sh n 1921 d := by
  obtain ⟨a, b, c, e, f, g⟩ := atom_dat h
  exact ⟨a, b, c, Nat.le_trans e (Nat.zero_le _), f, g⟩
theorem sOk_joinC : ∀ {ts : List Str}, (∀ t ∈ ts, sOk t) → sOk (Str.join ", " ts)
  | [], _ => sOk_ofString ""
  | [x], h => h x List.mem_cons_self
  | x :: y :: r, h => by
    show sOk (x ++ ", " ++ Str.join ", " (y :: r))
    exact sOk_append (sOk_append (h x List.mem_cons_self) (sOk_ofString ", ")) (sOk_joinC fun t ht => h t (List.mem_cons_of_mem _ ht))
theorem sOk_tuple {ts : List Str} (h : ∀ t ∈ ts, sOk t) : sOk (tupleText ts) := by
  unfold tupleText
  refine sOk_append (sOk_append (sOk_ofString "(") (sOk_joinC h)) ?_
  split <;> exact sOk_ofString _
theorem sum_mem {l : List D} {L : Nat} (h : ∀ d ∈ l, (py d).shown.length ≤ L) : (((l.map py).map PyData.shown).map (·.length)).sum ≤ l.length * L := by
  have h2 : (((l.map py).map PyData.shown).map (·.length)).sum ≤ (((l.map py).map PyData.shown).map (·.length)).length * L := sumN_le fun x hx => by
    simp only [List.map_map, List.mem_map, Function.comp] at hx
    obtain ⟨d, hd, rfl⟩ := hx
    exact h d hd
  simpa only [List.length_map] using h2
theorem sh_tup {l : List D} {n L : Nat} (h : ∀ d ∈ l, Sh n L d) : Sh (n + 1) (l.length * (L + 2) + 3) (.tup l) := by
  have e1 : py (.tup l) = .tuple (l.map py) := by rw [py, pyL_map]
  refine ⟨?_, ?_, ?_, ?_, ?_, ?_⟩
  · rw [isDat, isDatL_iff]; exact fun d hd => (h d hd).dat
  · rw [e1, PyData.showable]
    refine showable_all fun x hx => ?_
    obtain ⟨d, hd, rfl⟩ := List.mem_map.mp hx
    exact (h d hd).shw
  · rw [e1, PyData.hasDict]
    refine hasDict_all fun x hx => ?_
    obtain ⟨d, hd, rfl⟩ := List.mem_map.mp hx
    exact (h d hd).nod
  · show (py (.tup l)).depth ≤ _
    rw [e1, PyData.depth]
    have := depth_all (l := l.map py) (n := n) fun x hx => by
      obtain ⟨d, hd, rfl⟩ := List.mem_map.mp hx
      exact (h d hd).dep
    omega
  · rw [e1, PyData.shown, shown_all]
    have h1 := tupleText_len_le ((l.map py).map PyData.shown)
    have h2 := sum_mem fun d hd => (h d hd).len
    simp only [List.length_map] at h1 h2
    rw [Nat.mul_add]
    omega
  · rw [e1, PyData.shown, shown_all]
    refine sOk_tuple fun t ht => ?_
    simp only [List.map_map, List.mem_map, Function.comp] at ht
    obtain ⟨d, hd, rfl⟩ := ht
    exact (h d hd).ok
theorem sh_lst {l : List D} {n L : Nat} (h : ∀ d ∈ l, Sh n L d) : Sh (n + 1) (l.length * (L + 2) + 3) (.lst l) := by
  have e1 : py (.lst l) = .list (l.map py) := by rw [py, pyL_map]
  refine ⟨?_, ?_, ?_, ?_, ?_, ?_⟩
  · rw [isDat, isDatL_iff]; exact fun d hd => (h d hd).dat
  · rw [e1, PyData.showable]
    refine showable_all fun x hx => ?_
    obtain ⟨d, hd, rfl⟩ := List.mem_map.mp hx
    exact (h d hd).shw
  · rw [e1, PyData.hasDict]
    refine hasDict_all fun x hx => ?_
    obtain ⟨d, hd, rfl⟩ := List.mem_map.mp hx
    exact (h d hd).nod
  · show (py (.lst l)).depth ≤ _
    rw [e1, PyData.depth]
    have := depth_all (l := l.map py) (n := n) fun x hx => by
      obtain ⟨d, hd, rfl⟩ := List.mem_map.mp hx
      exact (h d hd).dep
    omega
  · rw [e1, PyData.shown, shown_all]
    have h1 := listText_len_le ((l.map py).map PyData.shown)
    have h2 := sum_mem fun d hd => (h d hd).len
    simp only [List.length_map] at h1 h2
    rw [Nat.mul_add]
    omega
  · rw [e1, PyData.shown, shown_all]
    refine sOk_list fun t ht => ?_
    simp only [List.map_map, List.mem_map, Function.comp] at ht
    obtain ⟨d, hd, rfl⟩ := ht
    exact (h d hd).ok
end T

namespace T
open PySem L2
/-! ### sorted(xs): xs a list or tuple of data -/
section
open PySem.W PySem.Calls PyProof.Rows
variable {prog : Program} {w : World} {A : Around} {E : Value → Shared → Prop} {s : Shared}
end

/-! over data -/
section
variable {X : Cx} {e : Ent} {pos : Pos}
end
/-! the order does not matter -/
end T

namespace T
open PySem L2
section
variable {X : Cx} {e : Ent} {pos : Pos}
/-! ### (x, y) == (z, w) of things with an own ==, all equal -/
def PairsT (C : Str) (sd : SpD) : List D → List D → Prop
  | [], [] => True
  | x :: xs, y :: ys => (∃ f g, insOf x = some (C, f) ∧ insOf y = some (C, g) ∧ sd [.ins C f, .ins C g] (fun z => z = .bl true)) ∧ PairsT C sd xs ys
  | _, _ => False
theorem PairsT.get {C : Str} {sd : SpD} : ∀ {xs ys : List D}, PairsT C sd xs ys → xs.length = ys.length ∧ ∀ (i : Nat) x y, xs[i]? = some x → ys[i]? = some y → ∃ f g, insOf x = some (C, f) ∧ insOf y = some (C, g) ∧ sd [.ins C f, .ins C g] (fun z => z = .bl true)
  | [], [], _ => ⟨rfl, fun i x y h _ => by simp at h⟩
  | x :: xs, y :: ys, h => by
    obtain ⟨h1, h2⟩ := h
    obtain ⟨e1, e2⟩ := PairsT.get h2
    refine ⟨by rw [List.length_cons, List.length_cons, e1], fun i a b ha hb => ?_⟩
    cases i with
    | zero =>
      rw [List.getElem?_cons_zero] at ha hb
      cases ha; cases hb
      exact h1
    | succ i => exact e2 i a b (by simpa using ha) (by simpa using hb)
  | [], _ :: _, h => h.elim
  | _ :: _, [], h => h.elim
theorem RepL.getD {K : PySem.W.Frag} {G : Gh} : ∀ {vs : List V} {ds : List D}, RepL K G vs ds → ∀ {i : Nat} {v : V}, vs[i]? = some v → ∃ d, ds[i]? = some d ∧ Rep K G v d
  | _, _, .nil, i, v, h => by simp at h
  | _, _, .cons (v := v0) (d := d0) h r, i, v, hv => by
    cases i with
    | zero => rw [List.getElem?_cons_zero] at hv; cases hv; exact ⟨d0, rfl, h⟩
    | succ i =>
      obtain ⟨d, hd, rd⟩ := RepL.getD r (i := i) (v := v) (by simpa using hv)
      exact ⟨d, by simpa using hd, rd⟩
end
end T

namespace T
open PySem L2
section
variable {X : Cx} {e : Ent} {pos : Pos}
/-! ### text.split(sep) -/
/-! ### [a, *b], (a, *b) -/
def seqD : D → (List D → Prop) → Prop
  | .lst l, Q => Q l
  | .tup l, Q => Q l
  | _, _ => False
def dStar (t : TDE) (r : TDA) : TDA := fun δ Q => t δ fun d δ1 => seqD d fun xs => r δ1 fun ds δ2 => Q (xs ++ ds) δ2
def dTupS (t : TDA) : TDE := fun δ Q => t δ fun ds δ1 => ds.length ≤ 1000 ∧ Q (.tup ds) δ1
/-! ### match text.split(..): case [a, b, c] if ..: .. case _: .. -/
inductive Caps (X : Cx) : List Pattern → List Nat → Prop
  | nil : Caps X [] []
  | cons {x : Str} {i : Nat} {p : Pos} {ps : List Pattern} {is : List Nat} : X.N[i]? = some x → Loc X.env.scope x → (X.fn x = true ∨ X.env.scope.names.lookup x = some .local) → Caps X ps is → Caps X (.MatchAs none (some x) p :: ps) (i :: is)
def setAll : List Nat → List D → DSt → DSt
  | i :: is, d :: ds, δ => setAll is ds (δ.set i (.im d))
  | _, _, δ => δ
def capNs : List Pattern → List Str
  | .MatchAs _ (some x) _ :: r => x :: capNs r
  | _ => []
theorem Caps.len {ps : List Pattern} {is : List Nat} (c : Caps X ps is) : ps.length = is.length := by
  induction c with
  | nil => rfl
  | cons _ _ _ _ ih => rw [List.length_cons, List.length_cons, ih]
theorem Caps.each {M : Model} {A : Around} {E : Value → Shared → Prop} {ps : List Pattern} {is : List Nat} (c : Caps X ps is) : ∀ {us : List Value} {s : Shared} {Q : Option (List (Str × Value)) → Shared → Prop}, us.length = is.length → Q (some ((capNs ps).zip us)) s → wpAny M A (matchEach ps X.env us) Q E s := by
  induction c with
  | nil =>
    intro us s Q hl h
    exact wpAny_matchEach_nil h
  | cons _ _ _ _ ih =>
    intro us s Q hl h
    cases us with
    | nil => simp at hl
    | cons u us =>
      refine wpAny_matchEach_cons (wpAny_matchPattern_Capture ?_) rfl
      exact ih (by simpa using hl) h
theorem Caps.bind (hN : X.N.Nodup) {M : Model} {A : Around} {E : Value → Shared → Prop} {T : Tm} {pins : List (Addr × Obj)} {H : Hp} {G : Gh} {ps : List Pattern} {is : List Nat} (c : Caps X ps is) : ∀ {us : List Value} {vs : List V} {ds : List D} {σ : St} {δ : DSt} {s : Shared} {Q : Unit → Shared → Prop}, us.length = is.length → Vals vs us → RepL X.K G vs ds → Inv X pins σ H s → SS X.K e T G H σ δ →
    (∀ s' σ', Inv X pins σ' H s' → SS X.K e T G H σ' (setAll is ds δ) → Q () s') →
    wpAny M A (assignInOrder (((capNs ps).zip us).map fun x => match x with | (n, _) => bindName X.env n) (((capNs ps).zip us).map fun x => x.2)) Q E s := by
  induction c with
  | nil =>
    intro us vs ds σ δ s Q hl rv rl I S h
    exact wpAny_assignInOrder_none (h s σ I (by cases ds <;> exact S))
  | cons hi hx hf _ ih =>
    intro us vs ds σ δ s Q hl rv rl I S h
    cases us with
    | nil => simp at hl
    | cons u us =>
      cases rv with
      | cons r rv =>
        cases rl with
        | cons rd rl =>
          refine wpAny_assignInOrder_more (wpAny_bindName (store_ok2 I hN hi hx r (fun s' I' _ => ?_) hf))
          exact ih (by simpa using hl) rv rl I' (S.asg rd) h
end
end T

namespace T
open PySem L2
/-! ### errors of own classes: their making, over the bare heap -/
theorem refsT_cases {tl : List Value} : ∀ l : List Value, refsT tl l = true → (∃ c r, l = .ref c :: r ∧ refsT tl r = true) ∨ l = tl := by
  intro l h
  cases l with
  | nil => exact .inr (beq_iff_eq.mp h)
  | cons a r => cases a <;> first | exact .inl ⟨_, _, rfl, h⟩ | exact .inr (beq_iff_eq.mp h)
theorem refsT_contains {tl : List Value} (X : String) : ∀ l : List Value, refsT tl l = true → l.contains (.type X) = tl.contains (.type X) := by
  intro l
  induction l with
  | nil => intro e; rcases refsT_cases _ e with ⟨_, _, q, _⟩ | q
           · cases q
           · rw [← q]
  | cons a r ih =>
    intro e
    rcases refsT_cases (a :: r) e with ⟨c, r', q, h⟩ | q
    · obtain ⟨rfl, rfl⟩ := List.cons.inj q
      rw [List.contains_cons, ih h]; rfl
    · rw [q]
theorem refsT_pass {tl : List Value} (hp : ∀ self, refuseLoop self "__setattr__" tl = pure ()) (self : Value) : ∀ l : List Value, refsT tl l = true → refuseLoop self "__setattr__" l = pure () := by
  intro l
  induction l with
  | nil => intro e; rcases refsT_cases _ e with ⟨_, _, q, _⟩ | q
           · cases q
           · rw [q]; exact hp self
  | cons a r ih =>
    intro e
    rcases refsT_cases (a :: r) e with ⟨c, r', q, h⟩ | q
    · obtain ⟨rfl, rfl⟩ := List.cons.inj q
      rw [refuseLoop_ref]; exact ih h
    · rw [q]; exact hp self
/-- what a built-in base must tell: B's own __init__, N's __new__ -/
structure BaseF (tl : List Value) (B N newId initId : String) : Prop where
  new : ∃ iN bmN, ExcBaseFacts N newId iN bmN
  kf : PySem.W.KxsFacts B initId
  initEntry : entryFor table initId = some Builtin.«BaseException.__init__»
  initKind : builtinKind initId = some .slot
  initRow : Manifest.signature? initId = some ⟨.positional, "*", B, .self, [⟨"args", .varPos, false⟩]⟩
  noStar : (B != "*") = true
  plain : plainId initId = true
  pass : ∀ self, refuseLoop self "__setattr__" tl = pure ()
  hB : tl.contains (.type B) = true
  hN : tl.contains (.type N) = true
  hA : tl.contains (.type "AttributeError") = false
  hE : tl.contains (.type "NameError") = false
  hO : tl.contains (.type "object") = true
theorem baseVE : BaseF veTl "ValueError" "ValueError" "ValueError.__new__" "ValueError.__init__" where
  new := ⟨_, _, F.excBase_ValueError⟩
  kf := PySem.W.kxs_ValueError
  initEntry := F.excBase_ValueError.initEntry
  initKind := F.excBase_ValueError.initKind
  initRow := F.excBase_ValueError.initRow
  noStar := by decide +kernel
  plain := F.excBase_ValueError.init.plain
  pass := fun self => F.store_ValueError.passes self
  hB := by decide +kernel
  hN := by decide +kernel
  hA := by decide +kernel
  hE := by decide +kernel
  hO := by decide +kernel
end T

namespace T
open PySem L2
section
variable {M : Model} {prog : Program} {w : World} {A : Around} {E : Value → Shared → Prop} {R : Result → Shared → Prop} {h : Heap} {g : Array GenState} {d : Drawn} {t : Nat} {os : OsState}
variable {nm q : Str} {C N : Addr} {bs bm bmB : List Value} {hdct : Bool} {sn : List Str} {sub : List Value} {ab : Bool} {col : Option Bool} {dd : Option Addr} {k0 k1 k2 k3 k5 : Option Value} {B newId initId : String}
/-- a new object of the class, by the base's __new__ -/
theorem newG (F : ExcBaseFacts B newId initId bmB) (hcB : (Value.ref C :: bm).contains (.type B) = true) (hcA : (Value.ref C :: bm).contains (.type "AttributeError") = false) (hcN : (Value.ref C :: bm).contains (.type "NameError") = false) {rest : List Value}
    (hC : h.get? C = some (excClassObj nm q C N bs bm hdct sn sub ab col dd k0 k1 k2 k3 k5 newId))
    (hq : R (.ok (.ret (.ref (h.objs.size + 1)))) ⟨(h.push (PySem.W.kdv_tup rest)).push (HandSPX.excO C h.objs.size), g, d, t, os⟩) (hrest : rest.length ≤ sizeLine) :
    codeAny (model prog w) A (.builtin newId ⟨.ref C :: rest, []⟩) R ⟨h, g, d, t, os⟩ := by
  have hends := F.ends
  refine codeAny_builtinAt F.entry ?_
  unfold Builtin.«BaseException.__new__»
  refine wpAt_bind ?_
  show wpAt _ _ _ (stack >>= _) _ _ _
  refine wpAt_bind (wpAt_stack fun p below => wpAt_of_wpAny ?_)
  wp_walk
  refine wpAt_of_wpAny ?_
  rw [F.owner]
  repeat (first | with_reducible refine wpAny_madeHere_exc F.canon hC ?_ | with_reducible refine wpAny_loadPart_at hC ?_ | (with_reducible refine wpAny_isSubtype_exc hC ?_; first | rw [hcB] | rw [hcA] | rw [hcN]) | wp_step)
  show R _ _
  rw [Heap.size_push]
  exact hq
theorem check_newG (F : ExcBaseFacts B newId initId bmB) (hcB : (Value.ref C :: bm).contains (.type B) = true) {rest : List Value} {Q : Unit → Shared → Prop}
    (hC : h.get? C = some (excClassObj nm q C N bs bm hdct sn sub ab col dd k0 k1 k2 k3 k5 newId)) (hq : Q () ⟨h, g, d, t, os⟩) : wpAny M A (checkBuiltinCall newId ⟨.ref C :: rest, []⟩) Q E ⟨h, g, d, t, os⟩ := by
  have hstar := F.noStar
  simp only [checkBuiltinCall, F.newKind, F.newSplit, F.newRow]
  repeat (first | refine wpAny_loadPart_at hC ?_ | (refine wpAny_isSubtype_exc hC ?_; rw [hcB]) | refine wpAny_staticBase_exc hC ?_ | refine wpAny_madeBy_exc hC ?_ | simp only [bne_self_eq_false, Bool.false_eq_true, if_false] | wp_step)
  exact hq
theorem type_callG (F : ExcBaseFacts B newId initId bmB) (hcB : (Value.ref C :: bm).contains (.type B) = true) (hcA : (Value.ref C :: bm).contains (.type "AttributeError") = false) (hcN : (Value.ref C :: bm).contains (.type "NameError") = false) {rest : List Value} {fI : Addr} {Q : Fin → Shared → Prop}
    (hC : h.get? C = some (excClassObj nm q C N bs bm hdct sn sub ab col dd k0 k1 k2 k3 k5 newId))
    (hi : W.Looks (model prog w) h (typeLookup (.ref C) "__init__") (some (.ref fI))) (hb : ∀ self, W.Looks (model prog w) h (bindSpecial (.ref fI) self) (.ref fI, [self])) (hrest : rest.length ≤ sizeLine)
    (hq : codeAny (model prog w) A (.call (.ref fI) ⟨.ref (h.objs.size + 1) :: rest, []⟩)
      (fun r s' => match r with | .ok (.ret v) => v = .none ∧ Q (.done (.ret (.ref (h.objs.size + 1)))) s' | .ok _ => False | .error e => E e s')
      ⟨(h.push (W.kdv_tup rest)).push (HandSPX.excO C h.objs.size), g, d, t, os⟩) :
    wpAny (model prog w) A (Builtin.«type.__call__» ⟨.ref C :: rest, []⟩) Q E ⟨h, g, d, t, os⟩ := by
  repeat (first | with_reducible refine wpAny_loadPart_at hC ?_ | with_reducible refine wpAny_madeBy_exc hC ?_ | wp_step)
  refine codeAny_call_builtin_code (Code.quiet_builtin _ F.quiet) (check_newG F hcB hC ?_)
  refine newG F hcB hcA hcN hC ?_ hrest
  show wpAny _ _ _ _ _ _
  have k : ∀ b o, h.get? b = some o → ((h.push (W.kdv_tup rest)).push (HandSPX.excO C h.objs.size)).get? b = some o := fun b o e => Heap.get?_push_of_some _ (Heap.get?_push_of_some _ e)
  have hC₁ := k _ _ hC
  have hget : ((h.push (W.kdv_tup rest)).push (HandSPX.excO C h.objs.size)).get? (h.objs.size + 1) = some (HandSPX.excO C h.objs.size) := by heap_get
  have hcC : (Value.ref C :: bm).contains (.ref C) = true := by simp
  have i1 := hi.keeps k
  have b1 := (hb (.ref (h.objs.size + 1))).keeps k
  unfold isInstance
  repeat (first | with_reducible refine wpAny_loadPart_at hget ?_ | (with_reducible refine wpAny_isSubtype_exc hC₁ ?_; rw [hcC]) | wp_step)
  show wpAny _ _ (typeLookup (.ref C) _) _ _ _
  refine i1.at ?_
  refine wpAny_holding (wpAny_bind (b1.at ?_))
  refine wpAny_bind (wpAny_call (codeAny_mono hq fun r s' z => ?_))
  rcases r with e | (v | _ | _ | _) <;> first | exact z | exact z.elim | skip
  obtain ⟨rfl, z⟩ := z
  first
    | exact wpAny_pure (wpAny_pure z)
    | (wp_walk; exact z)
/-- C(..): the new object, then its own __init__ -/
theorem callG (F : ExcBaseFacts B newId initId bmB) (hcB : (Value.ref C :: bm).contains (.type B) = true) (hcA : (Value.ref C :: bm).contains (.type "AttributeError") = false) (hcN : (Value.ref C :: bm).contains (.type "NameError") = false) {rest : List Value} {fI : Addr}
    (hC : h.get? C = some (excClassObj nm q C N bs bm hdct sn sub ab col dd k0 k1 k2 k3 k5 newId))
    (hi : W.Looks (model prog w) h (typeLookup (.ref C) "__init__") (some (.ref fI))) (hb : ∀ self, W.Looks (model prog w) h (bindSpecial (.ref fI) self) (.ref fI, [self])) (hrest : rest.length ≤ sizeLine)
    (hq : codeAny (model prog w) (A.under (.builtin "type.__call__" ⟨.ref C :: rest, []⟩)) (.call (.ref fI) ⟨.ref (h.objs.size + 1) :: rest, []⟩) (W.InitBack (h.objs.size + 1) R)
      ⟨(h.push (W.kdv_tup rest)).push (HandSPX.excO C h.objs.size), g, d, t, os⟩) :
    codeAny (model prog w) A (.call (.ref C) ⟨rest, []⟩) R ⟨h, g, d, t, os⟩ := by
  have f1 := tc_lookup
  have f2 := tc_bind (.ref C)
  have hTy : (⟨h, g, d, t, os⟩ : Shared).TypeIs (.ref C) "type" := ⟨_, hC, rfl⟩
  refine codeAny_of_tree ?_
  show wpAny _ _ (callAny (.ref C) _) _ _ _
  repeat (any_goals (first | assumption | with_reducible refine wpAny_loadPart_at hC ?_ | wp_step))
  refine ⟨rfl, ?_⟩
  refine codeAny_call_builtin_at (Code.quiet_builtin _ (by decide +kernel)) entry_typeCall (wpAny_check_type_call_sub hC (type_callG F hcB hcA hcN hC hi hb hrest ?_))
  refine codeAny_mono hq fun r s' z => ?_
  rcases r with e | (v | _ | _ | _) <;> exact z
/-! super().__init__(..), bound -/
theorem check_boundG (noStar : (B != "*") = true) (initKind : builtinKind initId = some .slot) (initRow : Manifest.signature? initId = some ⟨.positional, "*", B, .self, [⟨"args", .varPos, false⟩]⟩) {e : Addr} {oe : Obj} {rest : List Value} {Q : Unit → Shared → Prop}
    (hC : h.get? C = some (excClassObj nm q C N bs bm hdct sn sub ab col dd k0 k1 k2 k3 k5 newId)) (he : h.get? e = some oe) (hcls : oe.cls = .ref C) (hq : Q () ⟨h, g, d, t, os⟩) :
    wpAny M A (checkBoundCall initId ⟨.ref e :: rest, []⟩) Q E ⟨h, g, d, t, os⟩ := by
  have hshort := noStar
  simp only [checkBoundCall, initKind, initRow]
  repeat (first | (with_reducible refine wpAny_loadPart_at he ?_; rw [hcls]) | with_reducible refine wpAny_loadPart_at hC ?_ | wp_step)
  refine wpAny_onRaise ?_
  rw [show ∀ (a b : String) (n : Nat), Bind.check ⟨.positional, "*", B, .self, [⟨"args", .varPos, false⟩]⟩ a b n (List.map (fun x => x.fst) ({ pos := Value.ref e :: rest } : Args).kw) = pure () from
    fun a b n => check_star_args _ _ _ _ _ _]
  exact wpAny_pure hq
theorem call_mwG {tl : List Value} {Nn : String} (F : BaseF tl B Nn newId initId) {u e t0 : Addr} {rest : List Value} {Q : Value → Shared → Prop}
    (hC : h.get? C = some (excClassObj nm q C N bs bm hdct sn sub ab col dd k0 k1 k2 k3 k5 newId)) (he : h.get? e = some (HandSPX.excO C t0)) (hu : h.get? u = some (W.kxs_mw initId e)) (hrest : rest.length ≤ sizeLine)
    (hq : ∀ h', (∀ b o, b ≠ e → h.get? b = some o → h'.get? b = some o) → h'.get? e = some (HandSPX.excO C h.objs.size) → Q .none ⟨h', g, d, t, os⟩) :
    wpAny (model prog w) A (call (.ref u) rest) Q E ⟨h, g, d, t, os⟩ := by
  refine wpAny_call (codeAny_of_tree ?_)
  show wpAny _ A.in1 (callAny (.ref u) ⟨rest, []⟩) _ _ _
  simp only [callAny]
  refine wpAny_bind (wpAny_load hu ?_)
  simp only [W.kxs_mw, show (Value.type "method-wrapper" == Value.type "method" || Value.type "method-wrapper" == Value.type "builtin_function_or_method" || Value.type "method-wrapper" == Value.type "method-wrapper") = true by decide, if_true]
  refine W.KFB.if_so (by decide) ?_
  refine wpAny_bind (check_boundG F.noStar F.initKind F.initRow hC he rfl ?_)
  refine wpAny_bind (wpAny_pure (wpAny_pure ?_))
  refine ⟨plainId_quiet F.plain _, codeAny_builtin F.initEntry ?_⟩
  exact W.exc_init_tree (cls := .ref C) (t0 := t0) (dv := none) (c2 := .none) (c3 := .none) (b4 := .bool false) he hrest fun h' k e' _ => hq h' k e'
end
end T

namespace T
open PySem L2
section
open Builtin Builtin.ObjectAttr
variable {prog : Program} {w : World} {A : Around} {E : Value → Shared → Prop} {R : Result → Shared → Prop} {hp : Heap} {g : Array GenState} {d : Drawn} {t : Nat} {os : OsState}
/-- self.name = v on an error: up to the own dict -/
theorem osaG {K : W.Frag} {name : Str} {tk : Tok} {v : Value} {x C : Addr} {ox : Obj} {od : Option Obj} {cd : ClassData}
    (X : K.In hp) (I : W.InstAt hp x ox C od) (hcd : W.clsIn K C = some cd) (hpass : refuseLoop (.ref x) "__setattr__" cd.mro = pure ()) (hob : W.mroIn K C (.type "object") = some true) (ha : W.findIn K (.ref C) name = some none)
    (hq : wpAny (model prog w) A.in1 (storeInOwnDict (.ref x) (.ref C) (.str name tk) name v false)
      (fun fin s' => match fin with | .done f => R (.ok f) s' | .again c' => c'.quiet = true ∧ codeAny (model prog w) A c' R s') (fun e s' => R (.error e) s') ⟨hp, g, d, t, os⟩) :
    codeAny (model prog w) A (.call (.builtin "object.__setattr__") ⟨[.ref x, .str name tk, v], []⟩) R ⟨hp, g, d, t, os⟩ := by
  have SF := F.store_object
  have sub : W.Looks (model prog w) hp (isInstance (.ref x) (.type "object")) true := I.type.andThen (W.looks_mroIn X hob)
  refine codeAny_call_builtin SF.slot.plain SF.entry (@W.check_slot (model prog w) _ _ ⟨hp, g, d, t, os⟩ "object.__setattr__" "object" "__setattr__" (.ref x) [.str name tk, v] [] _ SF.kind SF.split sub (SF.args (.ref x) (.str name tk) v) ?_)
  have hmr : W.Looks (model prog w) hp (mroOf (.ref C)) cd.mro := (W.looks_clsIn X hcd).andThen .now
  have L3 : W.Looks (model prog w) hp (storeTaker? none) none := .now
  rw [W.osa_eq, refuse_eq]
  refine wpAny_bind (wpAny_bind (I.type.at (wpAny_bind (hmr.at ?_))))
  rw [hpass]
  refine wpAny_pure (wpAny_bind (I.type.at (wpAny_bind ((W.looks_findIn X ha).at (wpAny_bind (L3.at ?_))))))
  exact hq
theorem osaG_new {K : W.Frag} {name : Str} {tk : Tok} {v : Value} {x C : Addr} {fv : Array Value} {cd : ClassData}
    (X : K.In hp) (hx : hp.get? x = some { cls := .ref C, data := .fields fv }) (hcd : W.clsIn K C = some cd) (hpass : refuseLoop (.ref x) "__setattr__" cd.mro = pure ()) (hob : W.mroIn K C (.type "object") = some true) (hh : cd.hasDict = true) (ha : W.findIn K (.ref C) name = some none)
    (hq : ∀ h' tk' dx, (∀ b o, b ≠ x → hp.get? b = some o → h'.get? b = some o) → hp.objs.size ≤ dx → dx ≠ x → h'.get? x = some { cls := .ref C, dict := some dx, data := .fields fv } →
      h'.Ns1 dx (fun y => if y = name then some v else none) → R (.ok (.ret .none)) ⟨h', g, d, tk', os⟩) :
    codeAny (model prog w) A (.call (.builtin "object.__setattr__") ⟨[.ref x, .str name tk, v], []⟩) R ⟨hp, g, d, t, os⟩ := by
  have I : W.InstAt hp x { cls := .ref C, data := .fields fv } C none := ⟨hx, rfl, rfl, trivial⟩
  have hxs : x ≠ hp.objs.size := Nat.ne_of_lt (Heap.lt_size hx)
  refine osaG X I hcd hpass hob ha ?_
  have hcls : W.Looks (model prog w) hp (classData C) cd := W.looks_clsIn X hcd
  obtain ⟨nm, bs, mro, ns, qn, hd, sn, sb, ab, col, del⟩ := cd
  dsimp only at hh
  subst hh
  unfold storeInOwnDict ownDictForStores
  repeat (first | with_reducible refine HandSPX.store_in_new ?_ ?_ | with_reducible refine wpAny_loadPart_at hx ?_ | with_reducible refine hcls.at ?_ | wp_step)
  · exact ⟨_, #[], _, (Heap.get?_update_ne _ _ _ _ hxs.symm).trans (Heap.get?_push_at rfl rfl), rfl, fun e he => absurd he (by simp), fun _ => rfl⟩
  · intro h' tk' hn' hs
    have hx₁ : (hp.push { cls := .type "dict", data := .dict #[] }).get? x = some { cls := .ref C, data := .fields fv } := Heap.get?_push_of_some _ hx
    refine hq h' tk' hp.objs.size (fun b o hb ho => ?_) (Nat.le_refl _) hxs.symm ?_ hn'
    · exact (hs.2 b (Nat.ne_of_lt (Heap.lt_size ho))).trans ((Heap.get?_update_ne _ _ _ _ hb).trans (Heap.get?_push_of_some _ ho))
    · exact (hs.2 x hxs).trans (Heap.get?_update_self _ hx₁ rfl)
theorem osaG_old {K : W.Frag} {name : Str} {tk : Tok} {v : Value} {x C dx : Addr} {fv : Array Value} {cd : ClassData} {m0 : Str → Option Value} {nl : List Str}
    (X : K.In hp) (hx : hp.get? x = some { cls := .ref C, dict := some dx, data := .fields fv }) (hns : hp.Ns1 dx m0) (hw : PySem.Within m0 nl) (hz : nl.length ≤ 1000) (hcd : W.clsIn K C = some cd) (hpass : refuseLoop (.ref x) "__setattr__" cd.mro = pure ()) (hob : W.mroIn K C (.type "object") = some true) (hh : cd.hasDict = true)
    (ha : W.findIn K (.ref C) name = some none)
    (hq : ∀ h' tk', (∀ b o, b ≠ dx → hp.get? b = some o → h'.get? b = some o) → h'.Ns1 dx (fun y => if y = name then some v else m0 y) → R (.ok (.ret .none)) ⟨h', g, d, tk', os⟩) :
    codeAny (model prog w) A (.call (.builtin "object.__setattr__") ⟨[.ref x, .str name tk, v], []⟩) R ⟨hp, g, d, t, os⟩ := by
  obtain ⟨oD, esD, epD, hoD, hdD, _⟩ := hns.count hw
  have I : W.InstAt hp x { cls := .ref C, dict := some dx, data := .fields fv } C (some oD) := ⟨hx, rfl, rfl, hoD⟩
  refine osaG X I hcd hpass hob ha ?_
  have hcls : W.Looks (model prog w) hp (classData C) cd := W.looks_clsIn X hcd
  obtain ⟨nm, bs, mro, ns, qn, hd, sn, sb, ab, col, del⟩ := cd
  dsimp only at hh
  subst hh
  unfold storeInOwnDict ownDictForStores
  repeat (first | with_reducible refine ESX.store_in_old hns hw hz ?_ | with_reducible refine wpAny_loadPart_at hx ?_ | with_reducible refine hcls.at ?_ | wp_step)
  intro h' tk' hn' hs
  exact hq h' tk' (fun b o hb ho => (hs.2 b hb).trans ho) hn'
end
end T

namespace T
open PySem L2
section
variable {prog : Program} {w : World} {A : Around} {E : Value → Shared → Prop} {h base : Heap} {g : Array GenState} {d : Drawn} {t : Nat} {os : OsState} {K : W.Frag} {mg : Str → Option Value}
variable {tl : List Value} {B Nn newId initId : String}
/-- what the written part says of an own error class C with the __init__ fI -/
structure ErrC (prog : Program) (K : W.Frag) (tl : List Value) (B newId initId : String) (C fI : Addr) (name qual : Str) (params : Arguments) (body : List Stmt) (scope : Scope) : Prop where
  cls : ∃ nm q N bs bm sn sub ab col dd k0 k1 k2 k3 k5, K.lookup C = some (excClassObj nm q C N bs bm true sn sub ab col dd k0 k1 k2 k3 k5 newId) ∧ refsT tl bm = true ∧ W.alongIn K "__init__" bm = some (some (.builtin initId))
  fn : ∃ oc od osl dV kV doc pm an cda ct cc, K.lookup fI = some ⟨oc, od, .func (W.ksFn name qual params body scope dV kV doc pm an (.ref cda) ct cc), osl⟩ ∧
    (∃ ccl cdd vs ccs file tf, K.lookup cda = some ⟨ccl, cdd, .fields vs, ccs⟩ ∧ vs[2]? = some (.str file tf) ∧ ((prog.main.file : Str) == file) = true) ∧
    (∃ cl cld csl, K.lookup cc = some ⟨cl, cld, .cell (some (.ref C)), csl⟩) ∧ W.codeIn K (.ref cda) qual = true ∧ dV = .none
  ini : W.findIn K (.ref C) "__init__" = some (some (.ref fI))
  ity : W.typeIn K (.ref fI) = some (.type "function")
  sa : W.findIn K (.ref C) "__setattr__" = some (some (.builtin "object.__setattr__"))
  exC : W.subIn K (.ref C) (.type "BaseException") = some true
  tyC : W.typeIn K (.ref C) = some (.type "type")
  kC : W.keepIn K (.ref C) = true
  opq : W.nsIn K cStatics "thirdparty.any" = some none
  top : (prog.main.scope.names.lookup ("super" : Str)).isSome = false
theorem drop_ownC (C : Addr) (l : List Value) : ((Value.ref C :: l).dropWhile (· != .ref C)).drop 1 = l := by
  simp [List.dropWhile_cons]
theorem sup_stmt (F : BaseF tl B Nn newId initId) (Md : Mod K mg base) {nm q : Str} {C N : Addr} {bs bm : List Value} {sn : List Str} {sub : List Value} {ab : Bool} {col : Option Bool} {dd : Option Addr} {k0 k1 k2 k3 k5 : Option Value}
    (hcd : K.lookup C = some (excClassObj nm q C N bs bm true sn sub ab col dd k0 k1 k2 k3 k5 newId)) (hbm : refsT tl bm = true) (hal : W.alongIn K "__init__" bm = some (some (.builtin initId)))
    {fI L cda cc a t0 : Addr} {name qual : Str} {params : Arguments} {body : List Stmt} {scope : Scope} {dV kV doc pm ct oc : Value} {an od : Option Addr} {osl : Array (Option Value)}
    (hfI : K.lookup fI = some ⟨oc, od, .func (W.ksFn name qual params body scope dV kV doc pm an (.ref cda) ct cc), osl⟩)
    {ccl cl : Value} {cdd cld : Option Addr} {vs : Array Value} {ccs csl : Array (Option Value)} {file : Str} {tf : Tok} (hcode : K.lookup cda = some ⟨ccl, cdd, .fields vs, ccs⟩) (hvs : vs[2]? = some (.str file tf)) (hfile : ((prog.main.file : Str) == file) = true)
    (hcell : K.lookup cc = some ⟨cl, cld, .cell (some (.ref C)), csl⟩) (hopq : W.nsIn K cStatics "thirdparty.any" = some none) (htop : (prog.main.scope.names.lookup ("super" : Str)).isSome = false)
    {ar : Arg} (hp : (params.posonlyargs ++ params.args).head? = some ar) (hks : scope.names.lookup ("super" : Str) = some .globalImplicit) (hkc : scope.names.lookup ("__class__" : Str) = some .free) (hka : scope.names.lookup ar.arg = some .local) (hk : scope.kind = .function)
    {m : Str → Option Value} (hns : h.Ns L m) (hself : m ar.arg = some (.ref a)) (X : K.In h) (st : ∀ b o, base.get? b = some o → h.get? b = some o) (hms : mg "super" = none) (ha : h.get? a = some (HandSPX.excO C t0)) (haC : a ≠ C)
    {p0 p1 p2 p3 p4 p5 : Pos} {text : Str} {kk : Nat} {pl : Sem Bool} {Q : Flow → Shared → Prop} (hint : interactive (W.ksEnv qual scope L fI (.ref cda) cc) = false)
    (hsw : swapsWith (.Call (.Attribute (.Call (.Name "super" p0) [] [] p1) "__init__" p2) [.Constant (.str text) kk p3] [] p4) none p5.line (W.ksEnv qual scope L fI (.ref cda) cc) = pure false)
    (hev : eval (.Call (.Attribute (.Call (.Name "super" p0) [] [] p1) "__init__" p2) [.Constant (.str text) kk p3] [] p4) (W.ksEnv qual scope L fI (.ref cda) cc) = (do
      let ov ← attributeBase (.Call (.Name "super" p0) [] [] p1) "__init__" (W.ksEnv qual scope L fI (.ref cda) cc) (eval (.Call (.Name "super" p0) [] [] p1) (W.ksEnv qual scope L fI (.ref cda) cc))
      standAt p2.atName
      let (f, first) ← holding [ov] (getMethod ov "__init__" pl)
      callWith p4 f first (backTo p4 (starEach [.Constant (.str text) kk p3] (W.ksEnv qual scope L fI (.ref cda) cc))) []))
    (hq : ∀ h' t1 tk, (∀ b o, b ≠ a → h.get? b = some o → h'.get? b = some o) → h'.get? a = some (HandSPX.excO C t1) → Q .next ⟨h', g, d, tk, os⟩) :
    _root_.PySem.wpAt (model prog w) A (.func body (W.ksEnv qual scope L fI (.ref cda) cc)) (exec (.Expr (.Call (.Attribute (.Call (.Name "super" p0) [] [] p1) "__init__" p2) [.Constant (.str text) kk p3] [] p4) p5) (W.ksEnv qual scope L fI (.ref cda) cc)) Q E ⟨h, g, d, t, os⟩ := by
  have hC := X _ _ hcd
  have hclsIn : W.clsIn K C = some { name := nm, bases := bs, mro := .ref C :: bm, ns := N, qualname := q, hasDict := true, slotNames := sn, subclasses := sub, abstract := ab, collection := col, hasDel := false } := by unfold W.clsIn; rw [hcd] <;> rfl
  have hsub : W.mroIn K C (.ref C) = some true := by unfold W.mroIn; rw [hclsIn]; simp
  obtain ⟨mb, hmb1, hmb2⟩ := Md.blt
  refine ks_wpAt_Expr_any (ks_wpAt_MethodCall ?_ hev) hint hsw
  refine ks_wpAt_super_base (env := W.ksEnv qual scope L fI (.ref cda) cc) hks hkc (by decide) rfl (X _ _ hfI) rfl hp rfl (X _ _ hcode) rfl hvs hfile htop ?_
  refine W.ks_loadName_global hk hks (Calls.loadGlobal_builtin (env := W.ksEnv qual scope L fI (.ref cda) cc) (Md.glob.keeps st) hms (hmb1.keeps st) ((hmb2 _ (by decide)).trans (show bootBuiltins "super" = some (.type "super") from by decide +kernel)) ⟨rfl, ?_⟩)
  refine wpAny_loadName_free hk hkc rfl ⟨_, X _ _ hcell, rfl⟩ ?_
  refine wpAny_loadName_local hk hka hns hself ?_
  refine ks_wpAny_isType_cls hC rfl ⟨rfl, ?_⟩
  refine ks_wpAny_call_super hC rfl ha rfl (fun c e => nomatch e) (W.looks_mroIn X hsub) (fun h1 e1 k1 => ?_)
  have X1 : K.In h1 := fun b o e => k1 b o (X b o e)
  have hmro : W.Looks (model prog w) h1 (mroOf (.ref C)) (.ref C :: bm) := (W.looks_clsIn X1 hclsIn).andThen .now
  have ha1 := k1 _ _ ha
  have hmB : W.mroIn K C (.type B) = some true := by
    unfold W.mroIn
    rw [hclsIn, Option.bind_some, if_neg (by simp), List.contains_cons, refsT_contains B bm hbm, F.hB, Bool.or_true]
  have J : W.InstAt h1 a (HandSPX.excO C t0) C none := ⟨ha1, rfl, rfl, trivial⟩
  have hI : W.Looks (model prog w) h1 (isInstance (.ref a) (.type B)) true := J.type.andThen (W.looks_mroIn X1 hmB)
  refine W.kxs_getMethod F.kf e1 (W.looks_opaque X1 hopq) hmro (drop_ownC C bm) X1 hal hI haC (by decide) ?_
  have e2 : (h1.push (W.kxs_mw initId a)).get? h1.objs.size = some (W.kxs_mw initId a) := Heap.get?_push_at rfl rfl
  have up : ∀ b o, h1.get? b = some o → (h1.push (W.kxs_mw initId a)).get? b = some o := fun b o e => Heap.get?_push_of_some _ e
  refine W.kxs_callWith (i := initId) (x := a) rfl (Calls.evalArgs_plain (PyProof.Rows.spliced_more (wpAny_Constant_str (PyProof.Rows.spliced_none ⟨e2, ?_⟩))))
  refine call_mwG F (up _ _ (X1 _ _ hcd)) (up _ _ ha1) e2 (by rw [sizeLine_eq]; show (1 : Nat) ≤ 16777216; decide) fun h2 k2 e3 => ?_
  exact hq h2 _ _ (fun b o hb e => k2 b o hb (up _ _ (k1 _ _ e))) e3
end
end T

namespace T
open PySem L2
section
variable {prog : Program} {w : World} {A : Around} {E : Value → Shared → Prop} {h base : Heap} {g : Array GenState} {d : Drawn} {t : Nat} {os : OsState} {K : W.Frag} {mg : Str → Option Value}
variable {tl : List Value} {B Nn newId initId : String}
theorem Ns.but {hp h' : Heap} {L x : Addr} {m : Str → Option Value} (hn : hp.Ns L m) (k : ∀ b o, b ≠ x → hp.get? b = some o → h'.get? b = some o) (hne : L ≠ x) : h'.Ns L m := by
  obtain ⟨o, es, ep, hL, r⟩ := hn
  exact ⟨o, es, ep, k _ _ hne hL, r⟩
section
variable {C N a L t1 : Addr} {nm q : Str} {bs bm : List Value} {sn : List Str} {sub : List Value} {ab : Bool} {col : Option Bool} {dd : Option Addr} {k0 k1 k2 k3 k5 : Option Value} {c : Code} {env : Env} {self p f : Str} {m : Str → Option Value} {v : Value} {q0 q1 q2 q3 : Pos} {Q : Flow → Shared → Prop}
/-- self.f = p, the first one -/
theorem fld_new (F : BaseF tl B Nn newId initId) (hcd : K.lookup C = some (excClassObj nm q C N bs bm true sn sub ab col dd k0 k1 k2 k3 k5 newId)) (hbm : refsT tl bm = true) (hsa : W.findIn K (.ref C) "__setattr__" = some (some (.builtin "object.__setattr__"))) (hno : W.findIn K (.ref C) f = some none)
    (hL : env.locals = L) (hk : env.scope.kind = .function) (hks : env.kindOf self = some .local) (hkp : env.kindOf p = some .local) (hd1 : (self == ("__debug__" : Str)) = false) (hd2 : (p == ("__debug__" : Str)) = false)
    (hsw : swapsWith (.Name p q2) (some (.Attribute (.Name self q0) f q1)) q3.line env = pure false)
    (hns : h.Ns L m) (hself : m self = some (.ref a)) (hp : m p = some v) (X : K.In h) (ha : h.get? a = some (HandSPX.excO C t1))
    (hq : ∀ h' tk dx, (∀ b o, b ≠ a → h.get? b = some o → h'.get? b = some o) → h.objs.size ≤ dx → dx ≠ a → h'.get? a = some { cls := .ref C, dict := some dx, data := .fields #[.ref t1, .none, .none, .none, .bool false, .none] } → h'.Ns1 dx (fun y => if y = f then some v else none) → Q .next ⟨h', g, d, tk, os⟩) :
    _root_.PySem.wpAt (model prog w) A c (exec (.Assign [.Attribute (.Name self q0) f q1] (.Name p q2) q3) env) Q E ⟨h, g, d, t, os⟩ := by
  subst hL
  have hclsIn : W.clsIn K C = some { name := nm, bases := bs, mro := .ref C :: bm, ns := N, qualname := q, hasDict := true, slotNames := sn, subclasses := sub, abstract := ab, collection := col, hasDel := false } := by unfold W.clsIn; rw [hcd] <;> rfl
  have hob : W.mroIn K C (.type "object") = some true := by
    unfold W.mroIn
    rw [hclsIn, Option.bind_some, if_neg (by simp), List.contains_cons, refsT_contains "object" bm hbm, F.hO, Bool.or_true]
  have hpass : refuseLoop (.ref a) "__setattr__" (Value.ref C :: bm) = pure () := by rw [refuseLoop_ref]; exact refsT_pass F.pass _ bm hbm
  refine ks_wpAt_Assign_Attr (wpAt_of_wpAny (wpAny_Name (wpAny_loadName_local hk hkp hns hp ?_) hd2)) hsw
  refine wpAny_Name (wpAny_loadName_local hk hks hns hself ?_) hd1
  refine W.set_plain X (ox := HandSPX.excO C t1) (od := none) ⟨ha, rfl, rfl, trivial⟩ hsa ?_
  exact osaG_new X ha hclsIn hpass hob rfl hno fun h' tk dx k1 k2 k3 k4 k5 => hq h' tk dx k1 k2 k3 k4 k5
/-- self.f = p, a further one -/
theorem fld_old (F : BaseF tl B Nn newId initId) (hcd : K.lookup C = some (excClassObj nm q C N bs bm true sn sub ab col dd k0 k1 k2 k3 k5 newId)) (hbm : refsT tl bm = true) (hsa : W.findIn K (.ref C) "__setattr__" = some (some (.builtin "object.__setattr__"))) (hno : W.findIn K (.ref C) f = some none)
    (hL : env.locals = L) (hk : env.scope.kind = .function) (hks : env.kindOf self = some .local) (hkp : env.kindOf p = some .local) (hd1 : (self == ("__debug__" : Str)) = false) (hd2 : (p == ("__debug__" : Str)) = false)
    (hsw : swapsWith (.Name p q2) (some (.Attribute (.Name self q0) f q1)) q3.line env = pure false) {dx : Addr} {m0 : Str → Option Value} {nl : List Str} (hw : PySem.Within m0 nl) (hz : nl.length ≤ 1000)
    (hns : h.Ns L m) (hself : m self = some (.ref a)) (hp : m p = some v) (X : K.In h) (ha : h.get? a = some { cls := .ref C, dict := some dx, data := .fields #[.ref t1, .none, .none, .none, .bool false, .none] }) (hdx : h.Ns1 dx m0)
    (hq : ∀ h' tk, (∀ b o, b ≠ dx → h.get? b = some o → h'.get? b = some o) → h'.Ns1 dx (fun y => if y = f then some v else m0 y) → Q .next ⟨h', g, d, tk, os⟩) :
    _root_.PySem.wpAt (model prog w) A c (exec (.Assign [.Attribute (.Name self q0) f q1] (.Name p q2) q3) env) Q E ⟨h, g, d, t, os⟩ := by
  subst hL
  have hclsIn : W.clsIn K C = some { name := nm, bases := bs, mro := .ref C :: bm, ns := N, qualname := q, hasDict := true, slotNames := sn, subclasses := sub, abstract := ab, collection := col, hasDel := false } := by unfold W.clsIn; rw [hcd] <;> rfl
  have hob : W.mroIn K C (.type "object") = some true := by
    unfold W.mroIn
    rw [hclsIn, Option.bind_some, if_neg (by simp), List.contains_cons, refsT_contains "object" bm hbm, F.hO, Bool.or_true]
  have hpass : refuseLoop (.ref a) "__setattr__" (Value.ref C :: bm) = pure () := by rw [refuseLoop_ref]; exact refsT_pass F.pass _ bm hbm
  obtain ⟨oD, _, _, hoD, _, _⟩ := hdx.count hw
  refine ks_wpAt_Assign_Attr (wpAt_of_wpAny (wpAny_Name (wpAny_loadName_local hk hkp hns hp ?_) hd2)) hsw
  refine wpAny_Name (wpAny_loadName_local hk hks hns hself ?_) hd1
  refine W.set_plain X (od := some oD) ⟨ha, rfl, rfl, hoD⟩ hsa ?_
  exact osaG_old X ha hdx hw hz hclsIn hpass hob rfl hno fun h' tk k1 k2 => hq h' tk k1 k2
end
end
end T

namespace T
open PySem L2
/-- super().__init__(text) as the text has it -/
structure SupSt (st : Stmt) (qual : Str) (scope : Scope) : Prop where
  ex : ∃ (p0 p1 p2 p3 p4 p5 : Pos) (text : Str) (kk : Nat) (pl : Sem Bool), st = .Expr (.Call (.Attribute (.Call (.Name "super" p0) [] [] p1) "__init__" p2) [.Constant (.str text) kk p3] [] p4) p5 ∧
    ∀ (L fI cda cc : Addr), interactive (W.ksEnv qual scope L fI (.ref cda) cc) = false ∧
      swapsWith (.Call (.Attribute (.Call (.Name "super" p0) [] [] p1) "__init__" p2) [.Constant (.str text) kk p3] [] p4) none p5.line (W.ksEnv qual scope L fI (.ref cda) cc) = pure false ∧
      eval (.Call (.Attribute (.Call (.Name "super" p0) [] [] p1) "__init__" p2) [.Constant (.str text) kk p3] [] p4) (W.ksEnv qual scope L fI (.ref cda) cc) = (do
        let ov ← attributeBase (.Call (.Name "super" p0) [] [] p1) "__init__" (W.ksEnv qual scope L fI (.ref cda) cc) (eval (.Call (.Name "super" p0) [] [] p1) (W.ksEnv qual scope L fI (.ref cda) cc))
        standAt p2.atName
        let (f, first) ← holding [ov] (getMethod ov "__init__" pl)
        callWith p4 f first (backTo p4 (starEach [.Constant (.str text) kk p3] (W.ksEnv qual scope L fI (.ref cda) cc))) [])
/-- me.f = p as the text has it -/
structure FldSt (st : Stmt) (me f p : Str) (qual : Str) (scope : Scope) : Prop where
  ex : ∃ q0 q1 q2 q3 : Pos, st = .Assign [.Attribute (.Name me q0) f q1] (.Name p q2) q3 ∧ ∀ (L fI cda cc : Addr), swapsWith (.Name p q2) (some (.Attribute (.Name me q0) f q1)) q3.line (W.ksEnv qual scope L fI (.ref cda) cc) = pure false
  loc : scope.names.lookup p = some .local
  dbg : (p == ("__debug__" : Str)) = false
/-- the head of such an __init__ -/
structure IniH (name qual : Str) (params : Arguments) (body : List Stmt) (scope : Scope) (me : Str) (ps : List Str) : Prop where
  hd : ∃ ar : Arg, (params.posonlyargs ++ params.args).head? = some ar ∧ ar.arg = me
  sup : scope.names.lookup ("super" : Str) = some .globalImplicit
  cls : scope.names.lookup ("__class__" : Str) = some .free
  slf : scope.names.lookup me = some .local
  dbg : (me == ("__debug__" : Str)) = false
  knd : scope.kind = .function
  cor : scope.isCoroutine = false
  gen : scope.isGenerator = false
  cel : ∀ x ∈ scope.names, x.2 ≠ .cell
  bnd : ∀ (kV doc pm : Value) (an : Option Addr) (cdv ct : Value) (cc : Addr) (us : List Value), us.length = (me :: ps).length → bindArgs (W.ksFn name qual params body scope .none kV doc pm an cdv ct cc) ⟨us, []⟩ = pure ((me :: ps).zip us)
section
variable {prog : Program} {w : World} {A : Around} {h base : Heap} {g : Array GenState} {d : Drawn} {t : Nat} {os : OsState} {K : W.Frag} {mg : Str → Option Value} {R : Result → Shared → Prop}
variable {tl : List Value} {B Nn newId initId : String} {C fI : Addr} {name qual : Str} {params : Arguments} {scope : Scope} {me : Str}
/-- C(v, u) -/
theorem err_call2 {s1 s2 s3 : Stmt} {p1 f1 pq fq : Str} {v1 vq : Value} (F : BaseF tl B Nn newId initId) (T : ErrC prog K tl B newId initId C fI name qual params [s1, s2, s3] scope) (Md : Mod K mg base) (st : ∀ b o, base.get? b = some o → h.get? b = some o) (X : K.In h) (hms : mg "super" = none)
    (I : IniH name qual params [s1, s2, s3] scope me [p1, pq]) (S1 : SupSt s1 qual scope) (S2 : FldSt s2 me f1 p1 qual scope) (S3 : FldSt s3 me fq pq qual scope) (hps : me ≠ p1) (hpq : me ≠ pq) (hpp : p1 ≠ pq) (hn1 : W.findIn K (.ref C) f1 = some none) (hn2 : W.findIn K (.ref C) fq = some none) (hroom : (A.under (.builtin "type.__call__" ⟨.ref C :: [v1, vq], []⟩)).depth < recursionLimit)
    (hq : ∀ h' tk dx t1, (∀ b o, h.get? b = some o → h'.get? b = some o) → h.objs.size ≤ dx → dx ≠ h.objs.size + 1 → h'.get? (h.objs.size + 1) = some { cls := .ref C, dict := some dx, data := .fields #[.ref t1, .none, .none, .none, .bool false, .none] } → h'.Ns1 dx (fun y => if y = fq then some vq else if y = f1 then some v1 else none) → R (.ok (.ret (.ref (h.objs.size + 1)))) ⟨h', g, d, tk, os⟩) :
    codeAny (model prog w) A (.call (.ref C) ⟨[v1, vq], []⟩) R ⟨h, g, d, t, os⟩ := by
  obtain ⟨nm, q, N, bs, bm, sn, sub, ab, col, dd, k0, k1, k2, k3, k5, hcd, hbm, hal⟩ := T.cls
  obtain ⟨oc, od, osl, dV, kV, doc, pm, an, cda, ct, cc, hfI, ⟨ccl, cdd, vs, ccs, file, tf, hcode, hvs, hfile⟩, ⟨cl, cld, csl, hcell⟩, hcdI, rfl⟩ := T.fn
  obtain ⟨iN, bmN, FN⟩ := F.new
  obtain ⟨ar, har, hars⟩ := I.hd
  obtain ⟨p0, pp1, p2, p3, p4, p5, text, kk, pl, rfl, he1⟩ := S1.ex
  obtain ⟨q0, q1, q2, q3, rfl, he2⟩ := S2.ex
  obtain ⟨r0, r1, r2, r3, rfl, he3⟩ := S3.ex
  have cont : ∀ {Y : String} {b : Bool}, tl.contains (.type Y) = b → (Value.ref C :: bm).contains (.type Y) = b := fun {Y b} e => by rw [List.contains_cons, refsT_contains Y bm hbm, e]; rfl
  refine callG FN (cont F.hN) (cont F.hA) (cont F.hE) (X _ _ hcd) (W.looks_findIn X T.ini) (fun me => W.bind_fn X me T.ity) (by rw [sizeLine_eq]; show (2 : Nat) ≤ 16777216; decide) ?_
  have up : ∀ b o, h.get? b = some o → ((h.push (W.kdv_tup [v1, vq])).push (HandSPX.excO C h.objs.size)).get? b = some o := fun b o e => Heap.get?_push_of_some _ (Heap.get?_push_of_some _ e)
  have hget : ((h.push (W.kdv_tup [v1, vq])).push (HandSPX.excO C h.objs.size)).get? (h.objs.size + 1) = some (HandSPX.excO C h.objs.size) := by heap_get
  generalize hh1 : (h.push (W.kdv_tup [v1, vq])).push (HandSPX.excO C h.objs.size) = h1 at up hget
  generalize haa : h.objs.size + 1 = a at *
  have hna : ∀ {b : Addr} {o : Obj}, h.get? b = some o → b ≠ a := fun {b o} e => Nat.ne_of_lt (Nat.lt_of_lt_of_le (Heap.lt_size e) (by rw [← haa]; exact Nat.le_succ _))
  have hsz1 : h.objs.size ≤ h1.objs.size := by rw [← hh1, PyProof.Rows.size_push', PyProof.Rows.size_push']; exact Nat.le_trans (Nat.le_succ _) (Nat.le_succ _)
  refine ks_codeAny_call_defAt (fd := W.ksFn name qual params _ scope .none kV doc pm an (.ref cda) ct cc) (body := _) (binds := [(me, .ref a), (p1, v1), (pq, vq)]) hroom (up _ _ (X _ _ hfI)) rfl (Md.nolimit.keeps fun b o e => up _ _ (st b o e)) (W.codeRec_of (fun b o e => up _ _ (X b o e)) hcdI) rfl (.of_eq (I.bnd kV doc pm an (.ref cda) ct cc [.ref a, v1, vq] rfl)) I.cel ?_ (fun h2 hns hk2 => ?_) I.cor I.gen I.knd
  · intro x hx
    simp only [List.mem_cons, List.not_mem_nil, or_false] at hx
    rcases hx with rfl | rfl | rfl
    · exact I.slf
    · exact S2.loc
    · exact S3.loc
  have b1 : (me == p1) = false := beq_eq_false_iff_ne.mpr hps
  have b2 : (me == pq) = false := beq_eq_false_iff_ne.mpr hpq
  have b3 : (p1 == pq) = false := beq_eq_false_iff_ne.mpr hpp
  have b4 : (me == me) = true := beq_self_eq_true me
  have b5 : (p1 == p1) = true := beq_self_eq_true p1
  have b6 : (pq == pq) = true := beq_self_eq_true pq
  have hself : ([(me, Value.ref a), (p1, v1), (pq, vq)].reverse.lookup me : Option Value) = some (.ref a) := by
    show ([(pq, vq), (p1, v1), (me, Value.ref a)].lookup me : Option Value) = _
    simp only [List.lookup, b1, b2, b4]
  have hp1 : ([(me, Value.ref a), (p1, v1), (pq, vq)].reverse.lookup p1 : Option Value) = some v1 := by
    show ([(pq, vq), (p1, v1), (me, Value.ref a)].lookup p1 : Option Value) = _
    simp only [List.lookup, b3, b5]
  have hp2 : ([(me, Value.ref a), (p1, v1), (pq, vq)].reverse.lookup pq : Option Value) = some vq := by
    show ([(pq, vq), (p1, v1), (me, Value.ref a)].lookup pq : Option Value) = _
    simp only [List.lookup, b6]
  have ha2 := hk2 _ _ hget
  have X2 : K.In h2 := fun b o e => hk2 _ _ (up _ _ (X b o e))
  have L1 : h1.objs.size ≠ a := fun z => absurd (Heap.lt_size hget) (by rw [z]; exact Nat.lt_irrefl _)
  have haC : a ≠ C := fun z => hna (X _ _ hcd) z.symm
  refine ks_wpAt_execs_cons (sup_stmt F Md hcd hbm hal hfI hcode hvs hfile hcell T.opq T.top har I.sup I.cls (by rw [hars]; exact I.slf) I.knd hns (by rw [hars]; exact hself) X2 (fun b o e => hk2 _ _ (up _ _ (st b o e))) hms ha2 haC (he1 _ _ _ _).1 (he1 _ _ _ _).2.1 (he1 _ _ _ _).2.2 fun h3 t3 tk3 k3 e3 => ?_)
  dsimp only
  have X3 : K.In h3 := fun b o e => k3 b o (hna (X b o e)) (X2 b o e)
  have hns3 := Ns.but hns k3 L1
  refine ks_wpAt_execs_cons (fld_new F hcd hbm T.sa hn1 rfl I.knd I.slf S2.loc I.dbg S2.dbg (he2 _ _ _ _) hns3 hself hp1 X3 e3 fun h4 tk4 dx k4 d1 d2 e4 n4 => ?_)
  dsimp only
  obtain ⟨oL, eL1, eL2, hL, hLr⟩ := id hns
  have Ldx : h1.objs.size ≠ dx := fun z => absurd (Heap.lt_size (k3 _ _ L1 hL)) (by rw [z]; exact Nat.not_lt.mpr d1)
  have X4 : K.In h4 := fun b o e => k4 b o (hna (X b o e)) (X3 b o e)
  have hns4 := Ns.but hns3 k4 L1
  have hw : PySem.Within (fun y => if y = f1 then some v1 else none) [f1] := fun y hy => by
    by_cases z : y = f1
    · rw [z]; exact List.mem_singleton.mpr rfl
    · exact absurd (if_neg z) hy
  refine ks_wpAt_execs_cons (fld_old F hcd hbm T.sa hn2 rfl I.knd I.slf S3.loc I.dbg S3.dbg (he3 _ _ _ _) hw (by show (1 : Nat) ≤ 1000; decide) hns4 hself hp2 X4 e4 n4 fun h5 tk5 k5 n5 => ?_)
  dsimp only
  refine wpAt_of_wpAny ?_
  show wpAny _ _ (execs [] _) _ _ _
  rw [execs_nil]
  refine wpAny_pure ?_
  show W.InitBack a R _ _
  have dn : h.objs.size ≤ dx := Nat.le_trans hsz1 (Nat.le_trans (Nat.le_of_lt (Heap.lt_size (k3 _ _ L1 hL))) d1)
  refine ⟨rfl, hq h5 tk5 dx t3 (fun b o e => k5 b o (Nat.ne_of_lt (Nat.lt_of_lt_of_le (Heap.lt_size e) dn)) (k4 b o (hna e) (k3 b o (hna e) (hk2 _ _ (up _ _ e))))) dn d2 (k5 _ _ (Ne.symm d2) e4) n5⟩
end
end T

namespace T
open PySem L2
section
variable {X : Cx} {pos p : Pos}
/-- C(e, ..), an own error class -/
def tErr (C : Addr) (fs : List Str) (ta : TA) : St → Hp → XK → Prop := fun σ H Q => ta σ H fun vs H1 => vs.length = fs.length ∧ ∀ d, H1 d = none → Q (.ref C) (some d) (upd H1 d (.xd (fs.zip vs)))
theorem mk_err {pins : List (Addr × Obj)} {σ : St} {H1 : Hp} {Q : XK} {hp h2 : Heap} {g1 : Array GenState} {d1 : Drawn} {t1 t2 : Nat} {os1 : OsState} {C dx t0 : Addr} {fvs : List (Str × V)} {mA : Str → Option Value} (T : Raises X (.ref C)) (I1 : Inv X pins σ H1 ⟨hp, g1, d1, t1, os1⟩)
    (k : ∀ b o, hp.get? b = some o → h2.get? b = some o) (hdx : hp.objs.size ≤ dx) (hda : dx ≠ hp.objs.size + 1) (he : h2.get? (hp.objs.size + 1) = some ({ cls := .ref C, dict := some dx, data := .fields #[.ref t0, .none, .none, .none, .bool false, .none] } : Obj))
    (hn : h2.Ns1 dx mA) (rel : ∀ f, RelO (fvs.lookup f) (mA f)) (q : ∀ d, H1 d = none → Q (.ref C) (some d) (upd H1 d (.xd fvs))) : MkP X pins σ Q (.ref (hp.objs.size + 1)) ⟨h2, g1, d1, t2, os1⟩ := by
  obtain ⟨G, g1', g2'⟩ := restrict h2 fun b => decide (b ≠ hp.objs.size + 1)
  have gk : ∀ b, b ≠ hp.objs.size + 1 → G.get? b = h2.get? b := fun b hb => g1' b (decide_eq_true hb)
  have ge : G.get? (hp.objs.size + 1) = none := g2' _ (by simp)
  have nha : ∀ {b : Addr} {o : Obj}, hp.get? b = some o → b ≠ hp.objs.size + 1 := fun {b o} z => Nat.ne_of_lt (Nat.lt_of_lt_of_le (Heap.lt_size z) (Nat.le_succ _))
  have nd : H1 dx = none := I1.hok.fresh hdx
  have J : Inv X pins σ (upd H1 dx (.xd fvs)) ⟨G, g1, d1, t2, os1⟩ := I1.laid (t' := t2) (a := dx) (o := .xd fvs) (h' := G) (fun b o e => by rw [gk b (nha e)]; exact k b o e) hdx (show ObjOk X.prog X.w _ G dx (.xd fvs) from ⟨mA, hn.at fun o y => (gk dx hda).trans y, rel⟩)
  refine ⟨_, _, _, ⟨G, g1, d1, t2, os1⟩, _, .ref C, some dx, rfl, J, fun b o z => ?_, ge, he, ⟨rfl, rfl⟩, rfl, rfl, ?_, rfl, I1.bare, T, q dx nd⟩
  · by_cases hb : b = hp.objs.size + 1
    · rw [hb, ge] at z; cases z
    · exact (gk b hb).symm.trans z
  · rw [upd_ne (Ne.symm hda)]
    exact I1.hok.fresh (Nat.le_succ _)
variable {tl : List Value} {B Nn newId initId : String} {C fI : Addr} {name qual : Str} {params : Arguments} {scope : Scope} {me : Str}
theorem pmk_err2 {k : Nat} {x : Str} {s1 s2 s3 : Stmt} {p1 f1 pq fq : Str} {e e2 : Expr} {ta : TA} (F : BaseF tl B Nn newId initId) (Ce : ErrC X.prog X.K tl B newId initId C fI name qual params [s1, s2, s3] scope) (hms : X.mg "super" = none)
    (I0 : IniH name qual params [s1, s2, s3] scope me [p1, pq]) (S1 : SupSt s1 qual scope) (S2 : FldSt s2 me f1 p1 qual scope) (S3 : FldSt s3 me fq pq qual scope) (hps : me ≠ p1) (hpq : me ≠ pq) (hpp : p1 ≠ pq) (hff : f1 ≠ fq) (hn1 : W.findIn X.K (.ref C) f1 = some none) (hn2 : W.findIn X.K (.ref C) fq = some none) (hr : Room (k + 1) X.A) (hg : Gl X x) (hm : X.mg x = some (.ref C)) (ha : PA X [e, e2] ta)
    (hdb : (x == ("__debug__" : Str)) = false := by decide) (he : starEach [e, e2] X.env = (false, eval e X.env) :: starEach [e2] X.env := by rfl) (hpl : (backTo pos (starEach [e2] X.env)).any (·.1) = false := by rfl) :
    PMk X (.Call (.Name x p) [e, e2] [] pos) (tErr C [f1, fq] ta) := by
  intro pins s σ H Q I h
  refine wpAny_Call_Name_kw (ld_glob I hg hm ?_ hdb)
  refine PySem.W.callWith_K (h₀ := X.base) I.ok.mod.kin Ce.kC (thn (ha.run pos pins s σ H _ I h) fun us s1 ⟨vs, H1, I1, r1, hz, q1⟩ => ⟨I1.kIn, ?_⟩) he hpl
  show wpAny _ _ (call (.ref C) us) _ _ _
  obtain ⟨v1, v2, rfl⟩ : ∃ v1 v2, vs = [v1, v2] := by match vs, hz with | [a, b], _ => exact ⟨a, b, rfl⟩
  cases r1 with
  | @cons _ u1 _ ur r1 rr =>
  cases rr with
  | @cons _ u2 _ ur2 r2 rr2 =>
    cases rr2
    obtain ⟨hp, g, dr, tk, os⟩ := s1
    have hroom := (hr.make C [u1, u2] []).dp
    have hroom2 : (X.A.under (.builtin "type.__call__" ⟨.ref C :: [u1, u2], []⟩)).depth < recursionLimit := Nat.lt_of_le_of_lt (Nat.le_trans (Nat.le_add_right _ _) (Nat.le_add_right _ _)) hroom
    refine wpAny_call (err_call2 F Ce I1.ok.mod I1.bk I1.kIn hms I0 S1 S2 S3 hps hpq hpp hn1 hn2 hroom2 fun h2 tk2 dx t0 k1 k2 k3 k4 k5 => ?_)
    refine mk_err (raises_own Ce.exC Ce.tyC) I1 k1 k2 k3 k4 k5 (fun y => ?_) q1
    show RelO ([(f1, v1), (fq, v2)].lookup y) _
    by_cases z : y = f1
    · have b : (y == f1) = true := beq_iff_eq.mpr z
      have nq : ¬ y = fq := fun w => hff (z.symm.trans w)
      simp only [List.lookup, b, if_pos z, if_neg nq]
      exact r1
    · have b : (y == f1) = false := beq_eq_false_iff_ne.mpr z
      by_cases zq : y = fq
      · have b2 : (y == fq) = true := beq_iff_eq.mpr zq
        simp only [List.lookup, b, b2, if_pos zq]
        exact r2
      · have b2 : (y == fq) = false := beq_eq_false_iff_ne.mpr zq
        simp only [List.lookup, b, b2, if_neg z, if_neg zq]
        trivial
end
end T

namespace T
open PySem L2
section
variable {X : Cx} {e : Ent} {pos : Pos}
/-! ### statements where nothing is held aside: what is raised may be wished for -/
def liftS0 (K : PySem.W.Frag) (e : Ent) (t : TDS) : TS := fun E σ H => ∃ (G : Gh) (δ : DSt) (F : DEnds), SS K e .nil G H σ δ ∧ t F δ ∧
  (∀ σ' δ' G' H', Le G G' → SS K e .nil G' H' σ' δ' → F.nx δ' → E.nx σ' H') ∧
  (∀ v d σ' δ' G' H', SS K e .nil G' H' σ' δ' → Rep K G' v d → F.rt d δ' → E.rt v H') ∧
  (∀ σ' δ' G' H', Le G G' → SS K e .nil G' H' σ' δ' → F.bk δ' → E.bk σ' H') ∧
  (∀ σ' δ' G' H', Le G G' → SS K e .nil G' H' σ' δ' → F.ct δ' → E.ct σ' H')
def DS0 (X : Cx) (e : Ent) (st : Stmt) (t : TDS) : Prop := PS X st (liftS0 X.K e t)
def DSs0 (X : Cx) (e : Ent) (st : List Stmt) (t : TDS) : Prop := PSs X st (liftS0 X.K e t)
theorem ds0_of {st : Stmt} {t : TDS} (h : DS X e st t) : DS0 X e st t := ps_imp h fun E σ H ⟨G, δ, F, S, q, n, r, b, c⟩ => ⟨.nil, G, δ, F, S, q, n, r, b, c⟩
theorem dss0_nil : DSs0 X e [] dNext := pss_imp pss_nil fun E σ H ⟨G, δ, F, S, q, n, r, b, c⟩ => n σ δ G H (Le.refl _) S q
theorem dss0_cons {st : Stmt} {rest : List Stmt} {t u : TDS} (h : DS0 X e st t) (hr : DSs0 X e rest u) : DSs0 X e (st :: rest) (dSeq t u) :=
  pss_imp (pss_cons h hr) fun E σ H ⟨G, δ, F, S, q, n, r, b, c⟩ => ⟨G, δ, _, S, q, fun σ' δ' G' H' le S' q' => ⟨G', δ', F, S', q', fun a b' c' d' l2 => n a b' c' d' (le.trans l2), r, fun a b' c' d' l2 => b a b' c' d' (le.trans l2), fun a b' c' d' l2 => c a b' c' d' (le.trans l2)⟩, r, b, c⟩
theorem dss0_one {st : Stmt} {t : TDS} (h : DS0 X e st t) : DSs0 X e [st] t := pss_one h
theorem ds0_if {c : Expr} {a b : List Stmt} {tc : TDT} {t u : TDS} (hc : DT X e c tc) (ha : DSs0 X e a t) (hb : DSs0 X e b u) : DS0 X e (.If c a b pos) (dIfS tc t u) :=
  ps_imp (ps_if hc ha hb) fun E σ H ⟨G, δ, F, S, q, n, r, bk, ct⟩ => ⟨.nil, G, δ, _, S, q, fun k H' G' δ' S' st q' => by
    cases k with
    | true => exact iteT ⟨G', δ', F, S', q', fun a b' c' d' l2 => n a b' c' d' (st.le.trans l2), r, fun a b' c' d' l2 => bk a b' c' d' (st.le.trans l2), fun a b' c' d' l2 => ct a b' c' d' (st.le.trans l2)⟩
    | false => exact iteF ⟨G', δ', F, S', q', fun a b' c' d' l2 => n a b' c' d' (st.le.trans l2), r, fun a b' c' d' l2 => bk a b' c' d' (st.le.trans l2), fun a b' c' d' l2 => ct a b' c' d' (st.le.trans l2)⟩⟩
theorem ds0_for {tg iter : Expr} {body : List Stmt} {w : TDA} {g : TDG} {tb : TDS} {fp : List Nat} (hp : PassesOwn (model X.prog X.w) X.A X.env X.xe) (hc : X.calm = true) (hi : DI X e tg iter w) (hg : DG X e tg fp g) (hb : DSs0 X e body tb)
    (hs : ∀ x, foldedSetIterable iter X.env x = pure x := by intro _; rfl) : DS0 X e (.For tg iter body [] pos) (dFor w g tb) :=
  ps_imp (ps_for hp hc hi hg hb hs) fun E σ H ⟨G, δ, F, S, q, n, r, b, c⟩ => by
    refine ⟨.nil, G, δ, _, S, q, fun J ds H1 G1 δ1 S1 st1 Y ⟨Iv, h0, hs, hd⟩ => ?_⟩
    refine ⟨fun i m σ H => m = ds.length - i ∧ i ≤ ds.length ∧ ∃ G δ, Le G1 G ∧ SS X.K e .nil G H σ δ ∧ Iv i δ, ⟨ds.length, by simp, Nat.zero_le _, G1, δ1, Le.refl _, S1, h0⟩, ?_⟩
    rintro i m σ2 H2 ⟨rfl, hi, G2, δ2, le2, S2, iv⟩
    by_cases hlt : i < ds.length
    · refine .inr ⟨Y.go i _ G2 H2 σ2 δ2 le2 S2 hlt, fun σ' H' => ∃ G δ, Le G1 G ∧ SS X.K e .nil G H' σ' δ ∧ Iv (i + 1) δ, fun σ' H' ⟨G', δ', l', S', iv'⟩ => ⟨ds.length - (i + 1), by omega, rfl, hlt, G', δ', l', S', iv'⟩, fun x H' y => ?_⟩
      obtain ⟨d, G3, hd', S3, st3, rep⟩ := Y.yld i _ G2 H2 σ2 δ2 x H' le2 S2 hlt y
      refine ⟨.nil, G3, δ2, d, _, S3, rep, hs i d δ2 hd' iv, fun σ4 δ4 G4 H4 S4 st4 _ q4 => ?_⟩
      have le4 : Le G1 G4 := le2.trans (st3.le.trans st4.le)
      exact ⟨G4, δ4, _, S4, q4, fun σ5 δ5 G5 H5 le5 S5 q5 => ⟨G5, δ5, le4.trans le5, S5, q5⟩, r, fun σ5 δ5 G5 H5 le5 S5 q5 => n σ5 δ5 G5 H5 ((st1.le.trans le4).trans le5) S5 q5, fun σ5 δ5 G5 H5 le5 S5 q5 => ⟨G5, δ5, le4.trans le5, S5, q5⟩⟩
    · have e1 : i = ds.length := by omega
      subst e1
      exact .inl ⟨Y.stop _ _ G2 H2 σ2 δ2 le2 S2 (Nat.le_refl _), n σ2 δ2 G2 H2 (st1.le.trans le2) S2 (hd δ2 iv)⟩
/-! ### expressions where nothing is held aside -/
def lift0 (K : PySem.W.Frag) (e : Ent) (t : TDE) : TE := fun σ H Q => ∃ (G : Gh) (δ : DSt) (Qd : D → DSt → Prop), SS K e .nil G H σ δ ∧ t δ Qd ∧ ∀ v d H' G' δ', SS K e .nil G' H' σ δ' → Step e G H G' H' → Rep K G' v d → Qd d δ' → Q v H'
def DE0 (X : Cx) (e : Ent) (ex : Expr) (t : TDE) : Prop := PE X ex (lift0 X.K e t)
theorem ds0_expr {ex : Expr} {t : TDE} (h : DE0 X e ex t) (hs : swapsWith ex none pos.line X.env = pure false := by rfl) : DS0 X e (.Expr ex pos) (dDrop t) :=
  ps_imp (ps_expr h hs) fun E σ H ⟨G, δ, F, S, q, n, r, b, c⟩ => ⟨G, δ, _, S, q, fun v d H' G' δ' S' st rep q' => n σ δ' G' H' st.le S' q'⟩
theorem ds0_set {i : Nat} {x : Str} {ex : Expr} {t : TDE} {pos' : Pos} (hN : X.N.Nodup) (hi : X.N[i]? = some x) (hx : Loc X.env.scope x) (h : DE0 X e ex t) (hs : swapsWith ex (some (.Name x pos')) pos.line X.env = pure false := by rfl)
    (hf : X.fn x = true ∨ X.env.scope.names.lookup x = some .local := by first | exact .inl rfl | exact .inr rfl | assumption) : DS0 X e (.Assign [.Name x pos'] ex pos) (dAsg t i) :=
  ps_imp (ps_set hN hi hx h hs hf) fun E σ H ⟨G, δ, F, S, q, n, r, b, c⟩ => ⟨G, δ, _, S, q, fun v d H' G' δ' S' st rep q' => n _ _ G' H' st.le (S'.asg rep) q'⟩
/-! ### what is raised -/
abbrev ExD := DSt → Str → List (Str × D) → Prop
def WD (K : PySem.W.Frag) (e : Ent) (ex : ExD) : WX := fun cls d σ H => ∃ (G : Gh) (δ : DSt) (C : Str) (fs : List (Str × D)) (da : Addr) (fvs : List (Str × V)), SS K e .nil G H σ δ ∧ cls = .ref (He.ga K C) ∧ d = some da ∧ G.I da = some (.xd fvs) ∧ fvs.map (·.1) = fs.map (·.1) ∧ RepL K G (fvs.map (·.2)) (fs.map (·.2)) ∧ ex δ C fs
theorem SS.newFz {K : PySem.W.Frag} {T : Tm} {G : Gh} {H : Hp} {σ : St} {δ : DSt} (S : SS K e T G H σ δ) {p : Addr} {o : HO} (hp : H p = none) :
    ∃ G', SS K e T G' (upd H p o) σ δ ∧ Step e G H G' (upd H p o) ∧ G'.I p = some o := by
  obtain ⟨S1, st1, nI, nB, new, ap⟩ := S.new (o := o) hp
  have le := Gh.fz_le (G := G) (l := p) (o := o) nI
  refine ⟨G.fz p o, ⟨S1.ln, S1.ok.fz upd_same nB, S1.stp.trans (Step.fz nI new), S1.s.len, fun i s hs => ?_, S1.s.sep⟩, st1.trans (Step.fz nI new), upd_same⟩
  obtain ⟨x, hx, h⟩ := S1.s.sl i s hs
  refine ⟨x, hx, ?_⟩
  cases s with
  | no => trivial
  | im d => obtain ⟨v, e1, r⟩ := h; exact ⟨v, e1, r.mono le⟩
  | ow d' =>
    obtain ⟨l', rfl, m'⟩ := h
    exact ⟨l', rfl, m'.fz (fun z => ap i d' hs (by rw [hx, z])) nI⟩
/-- raise C(..) -/
def dRaise (ex : ExD) (C : Str) (fs : List Str) (t : TDA) : TDS := fun _ δ => t δ fun ds δ1 => ds.length = fs.length ∧ ex δ1 C (fs.zip ds)
theorem zip_fst {α β : Type} : ∀ {a : List α} {b : List β}, b.length = a.length → (a.zip b).map (·.1) = a
  | [], [], _ => rfl
  | x :: a, y :: b, h => by rw [List.zip_cons_cons, List.map_cons, zip_fst (by simpa using h)]
theorem zip_snd {α β : Type} : ∀ {a : List α} {b : List β}, b.length = a.length → (a.zip b).map (·.2) = b
  | [], [], _ => rfl
  | x :: a, y :: b, h => by rw [List.zip_cons_cons, List.map_cons, zip_snd (by simpa using h)]
theorem ds0_raise {C : Str} {fs : List Str} {ce : Expr} {n : Nat} {t : TDA} {ex : ExD} (hc : X.calm = true) (tk : Takes X (WD X.K e ex)) (he : PMk X ce (tErr (He.ga X.K C) fs (liftA X.K e n t))) : DS0 X e (.Raise (some ce) none pos) (dRaise ex C fs t) :=
  ps_imp (ps_raise hc tk he) fun E σ H ⟨G, δ, F, S, q, _⟩ => ⟨.nil, G, δ, _, S, q, fun vs ds H1 G1 δ1 S1 st1 r _ ⟨hl, hx⟩ => by
    have hl2 : vs.length = fs.length := by rw [r.length]; exact hl
    refine ⟨hl2, fun d hd => ?_⟩
    obtain ⟨G2, S2, st2, i2⟩ := S1.newFz (o := .xd (fs.zip vs)) hd
    refine ⟨G2, δ1, C, fs.zip ds, d, fs.zip vs, S2, rfl, rfl, i2, by rw [zip_fst hl2, zip_fst hl], ?_, hx⟩
    rw [zip_snd hl2, zip_snd hl]
    exact r.mono st2.le⟩
structure Err2 (P : Program) (K : PySem.W.Frag) (mg : Str → Option Value) (C f1 fq : Str) : Prop where
  ex : ∃ tl B Nn newId initId fI name qual params scope me s1 s2 s3 p1 pq, BaseF tl B Nn newId initId ∧ ErrC P K tl B newId initId (He.ga K C) fI name qual params [s1, s2, s3] scope ∧ IniH name qual params [s1, s2, s3] scope me [p1, pq] ∧ SupSt s1 qual scope ∧ FldSt s2 me f1 p1 qual scope ∧ FldSt s3 me fq pq qual scope ∧ me ≠ p1 ∧ me ≠ pq ∧ p1 ≠ pq ∧ f1 ≠ fq ∧ W.findIn K (.ref (He.ga K C)) f1 = some none ∧ W.findIn K (.ref (He.ga K C)) fq = some none
  sup : mg "super" = none
  glo : mg C = some (.ref (He.ga K C))
theorem ds0_raise2 {j : Nat} {C f1 fq : Str} {a b : Expr} {t : TDA} {ex : ExD} {p pos' : Pos} (c : Err2 X.prog X.K X.mg C f1 fq) (hr : Room (j + 1) X.A) (hc : X.calm = true) (tk : Takes X (WD X.K e ex)) (hg : Gl X C) (ha : DA X e [a, b] t)
    (hdb : (C == ("__debug__" : Str)) = false := by decide) (he : starEach [a, b] X.env = (false, eval a X.env) :: starEach [b] X.env := by rfl) (hpl : (backTo pos' (starEach [b] X.env)).any (·.1) = false := by rfl) :
    DS0 X e (.Raise (some (.Call (.Name C p) [a, b] [] pos')) none pos) (dRaise ex C [f1, fq] t) := by
  obtain ⟨tl, B, Nn, newId, initId, fI, name, qual, params, scope, me, s1, s2, s3, p1, pq, F, Ce, I0, S1, S2, S3, h1, h2, h3, h4, h5, h6⟩ := c.ex
  exact ds0_raise hc tk (pmk_err2 F Ce c.sup I0 S1 S2 S3 h1 h2 h3 h4 h5 h6 hr hg c.glo ha hdb he hpl)
end
end T

namespace T
open PySem L2
/-! ### promises of defs that may raise -/
abbrev SpX := List D → (D → Prop) → (Str → List (Str × D) → Prop) → Prop
/-- an error in hand: its dict, frozen -/
structure XdAt (K : PySem.W.Frag) (G : Gh) (da : Addr) (fs : List (Str × D)) (fvs : List (Str × V)) : Prop where
  at_ : G.I da = some (.xd fvs)
  nm : fvs.map (·.1) = fs.map (·.1)
  rp : RepL K G (fvs.map (·.2)) (fs.map (·.2))
def toSpX (K : PySem.W.Frag) (sd : SpX) : Sp := fun vs H Q E => ∃ (G : Gh) (ds : List D) (Qd : D → Prop) (Ed : Str → List (Str × D) → Prop), GOk G H ∧ RepL K G vs ds ∧ sd ds Qd Ed ∧
  (∀ d v G' H', GOk G' H' → Step ⟨G, H⟩ G H G' H' → Rep K G' v d → Qd d → Q v H') ∧
  (∀ C fs da fvs G' H', GOk G' H' → Step ⟨G, H⟩ G H G' H' → XdAt K G' da fs fvs → Ed C fs → E (.ref (He.ga K C)) (some da) H')
abbrev FnX (P : Program) (w : World) (K : PySem.W.Frag) (mg : Str → Option Value) (base : Heap) (k : Nat) (f : Addr) (sd : SpX) : Prop := FnR P w K mg base (L2.CX P w) k f (toSpX K sd)
structure CalX (P : Program) (w : World) (K : PySem.W.Frag) (mg : Str → Option Value) (base : Heap) (k : Nat) (x : Str) (sd : SpX) : Prop where
  ex : ∃ f, FnX P w K mg base k f sd ∧ mg x = some (.ref f) ∧ PySem.W.keepIn K (.ref f) = true
section
variable {X : Cx} {e : Ent} {pos : Pos}
theorem run_fnRS {CX : CXT} {k : Nat} {f : Addr} {sp : Sp} {E : St → XK} {pins : List (Addr × Obj)} {σ : St} {H : Hp} {s : Shared} {Q : VK} {us : List Value} {vs : List V} (F : FnR X.prog X.w X.K X.mg X.base CX k f sp) (hr : Room k X.A) (hx : PassesAt CX X σ (E σ))
    (I : Inv X pins σ H s) (r : Vals vs us) (h : sp vs H Q (E σ)) : wpAny (model X.prog X.w) X.A (call (.ref f) us) (EP X pins σ Q) X.xe s := by
  refine wpAny_call (codeAny_mono (F X.A X.stack s H us vs Q (E σ) hr I.env0 r h) fun r s' hq => ?_)
  cases r with
  | error e => exact hx pins H s e s' I hq
  | ok fl =>
    cases fl with
    | ret u => exact I.after hq
    | next => exact False.elim hq
    | brk => exact False.elim hq
    | cont => exact False.elim hq
theorem pe_callRX {CX : CXT} {k : Nat} {f : Addr} {sp : Sp} {E : St → XK} {x : Str} {p : Pos} {a : Expr} {es : List Expr} {t : TA} (F : FnR X.prog X.w X.K X.mg X.base CX k f sp) (hr : Room k X.A) (hg : Gl X x) (hm : X.mg x = some (.ref f)) (hk : PySem.W.keepIn X.K (.ref f) = true) (hx : ∀ σ, PassesAt CX X σ (E σ))
    (ha : PA X (a :: es) t) (hdb : (x == ("__debug__" : Str)) = false := by decide) (he : starEach (a :: es) X.env = (false, eval a X.env) :: starEach es X.env := by rfl) (hpl : (backTo pos (starEach es X.env)).any (·.1) = false := by rfl) :
    PE X (.Call (.Name x p) (a :: es) [] pos) (tCallS sp E t) := by
  refine ⟨fun pins s σ H Q I h => ?_⟩
  refine wpAny_Call_Name_kw (ld_glob I hg hm ?_ hdb)
  refine PySem.W.callWith_K (h₀ := X.base) I.ok.mod.kin hk (thn (ha.run pos pins s σ H _ I h) fun us s1 ⟨vs, H1, I1, r, q⟩ => ⟨I1.kIn, ?_⟩) he hpl
  exact run_fnRS F hr (hx σ) I1 r q
/-- f(..), which may raise -/
def dCallX (ex : ExD) (sd : SpX) (t : TDA) : TDE := fun δ Q => t δ fun ds δ1 => sd ds (fun z => Q z δ1) fun C fs => ex δ1 C fs
theorem spX_go {ex : ExD} {sd : SpX} {G G1 : Gh} {H H1 : Hp} {σ : St} {δ1 : DSt} {vs : List V} {ds : List D} {Qd : D → DSt → Prop} {Q : VK} (S1 : SS X.K e .nil G1 H1 σ δ1) (st : Step e G H G1 H1) (rs : RepL X.K G1 vs ds)
    (q : sd ds (fun z => Qd z δ1) fun C fs => ex δ1 C fs) (k : ∀ v d H' G' δ', SS X.K e .nil G' H' σ δ' → Step e G H G' H' → Rep X.K G' v d → Qd d δ' → Q v H') : toSpX X.K sd vs H1 Q (WE (WD X.K e ex) σ) :=
  ⟨G1, ds, _, _, S1.ok, rs, q, fun d' v' G' H' ok c rep qd => by
    obtain ⟨S2, st2⟩ := S1.after ok c
    exact k v' d' H' G' δ1 S2 (st.trans st2) rep qd, fun C fs da fvs G' H' ok c xd hx => by
    obtain ⟨S2, st2⟩ := S1.after ok c
    exact ⟨G', δ1, C, fs, da, fvs, S2, rfl, rfl, xd.at_, xd.nm, xd.rp, hx⟩⟩
theorem de0_callX {k j : Nat} {x : Str} {sd : SpX} {ex : ExD} {a : Expr} {es : List Expr} {t : TDA} {p : Pos} (c : CalX X.prog X.w X.K X.mg X.base k x sd) (hr : Room j X.A) (hk : k ≤ j) (tk : Takes X (WD X.K e ex)) (hg : Gl X x) (ha : DA X e (a :: es) t)
    (hd : (x == ("__debug__" : Str)) = false := by decide) (he : starEach (a :: es) X.env = (false, eval a X.env) :: starEach es X.env := by rfl) (hpl : (backTo pos (starEach es X.env)).any (·.1) = false := by rfl) : DE0 X e (.Call (.Name x p) (a :: es) [] pos) (dCallX ex sd t) := by
  obtain ⟨f, F, hm, kp⟩ := c.ex
  refine pe_imp (pe_callRX F (hr.mono hk) hg hm kp (fun σ => passAt tk σ) ha hd he hpl) fun σ H Q ⟨G, δ, Qd, S, q, k⟩ => ⟨.nil, G, δ, _, S, q, fun vs ds H1 G1 δ1 S1 st1 r _ q1 => ?_⟩
  exact spX_go S1 st1 r q1 k
/-- o.m(..), which may raise -/
def dMethX (ex : ExD) (C m : Str) (sd : SpX) (ta : TDE) (t : TDA) : TDE := fun δ Q => ta δ fun d δ1 => match insOf d with
  | some (C', fs) => C' = C ∧ fs.lookup m = none ∧ t δ1 fun ds δ2 => sd (.ins C fs :: ds) (fun z => Q z δ2) fun C fs => ex δ2 C fs
  | none => False
end
/-! ### defs that may raise -/
theorem fn_dX {P : Program} {w : World} {K : PySem.W.Frag} {mg : Str → Option Value} {base : Heap} {x qual : Str} {params : Arguments} {body : List Stmt} {scope : Scope} {kws : List (Str × V)} {f : Addr} {fd : FuncData} {N ps : List Str} {k : Nat} {sd : SpX} {t : ExD → TDS}
    (F : FunD K x qual params body scope [] kws f fd) (S : FnScope N ps scope) (B : Binds K fd ps []) (len : ∀ ds Q Ed, sd ds Q Ed → ds.length = ps.length)
    (hb : ∀ (cdv : Value) (A : Around) (outer : List Env) (s : Shared) (H : Hp) (E : XK) (e : Ent) (ex : ExD), Room k (A.deeper (PyProof.Rows.envOfC qual scope s.heap.objs.size f cdv)) → Takes (cxOf (L2.CX P w) P w K mg base N qual scope f cdv A outer s H E) (WD K e ex) →
      PassesOwn (model P w) (cxOf (L2.CX P w) P w K mg base N qual scope f cdv A outer s H E).A (cxOf (L2.CX P w) P w K mg base N qual scope f cdv A outer s H E).env (cxOf (L2.CX P w) P w K mg base N qual scope f cdv A outer s H E).xe → DSs0 (cxOf (L2.CX P w) P w K mg base N qual scope f cdv A outer s H E) e body (t ex))
    (hp : ∀ ds Q Ed, sd ds Q Ed → t (fun _ C fs => Ed C fs) (ends Q) (startD N.length ds)) : FnX P w K mg base (k + 1) f sd := by
  obtain ⟨oc, od, dV, kV, doc, pm, an, cdv, ct, osl, rfl, lk, hcd, hD, _⟩ := F.ex
  have F1 := fn_of (CX := L2.CX P w) (P := P) (w := w) (mg := mg) (base := base) (k := k) (sp := toSpX K sd) lk hcd S (fun vs H Q E h => by
    obtain ⟨G, ds, Qd, Ed, ok, r, q, _⟩ := h
    rw [r.length]
    exact len ds Qd Ed q) (fun A outer s H vs Q E hr h => by
    obtain ⟨G, ds, Qd, Ed, ok, r, q, kn, kx⟩ := h
    have tk : Takes (cxOf (L2.CX P w) P w K mg base N qual scope f cdv A outer s H E) (fun cls d _ H => E cls d H) := takes_of rfl rfl rfl rfl
    refine ⟨_, hb cdv A outer s H E ⟨G, H⟩ (fun _ C fs => Ed C fs) hr (tk.imp fun cls d σ H' ⟨G', δ, C, fs, da, fvs, S', h1, h2, h3, h4, h5, h6⟩ => ?_) (passes_of rfl), G, startD N.length ds, _, start_ss ok r, hp ds Qd Ed q, fun σ' δ' G' H' le S' q' => kn .non .non G' H' S'.ok S'.stp .non q', fun v d σ' δ' G' H' S' rep q' => kn d v G' H' S'.ok S'.stp rep q', fun _ _ _ _ _ _ q' => q'.elim, fun _ _ _ _ _ _ q' => q'.elim⟩
    subst h1
    subst h2
    exact kx C fs da fvs G' H' S'.ok S'.stp ⟨h3, h4, h5⟩ h6)
  exact (F1.raw B .nil).imp fun vs H Q E h => by rw [List.append_nil]; exact h
end T

namespace T
open PySem L2
/-! ### def f(a, .., *v) that may raise -/
/-! ### except suites -/
theorem XdAt.mono {K : PySem.W.Frag} {G G' : Gh} {da : Addr} {fs : List (Str × D)} {fvs : List (Str × V)} (x : XdAt K G da fs fvs) (l : Le G G') : XdAt K G' da fs fvs := ⟨l.I _ _ x.at_, x.nm, x.rp.mono l⟩
theorem Sts.setNone {K : PySem.W.Frag} {e : Ent} {G : Gh} {H : Hp} {σ : St} {δ : DSt} (S : Sts K e G H σ δ) (i : Nat) : Sts K e G H (σ.set i none) (δ.set i .no) where
  ok := S.ok
  stp := S.stp
  len := by rw [List.length_set, List.length_set]; exact S.len
  sl := fun j s h => by
    by_cases hj : i = j
    · subst hj
      have hl : i < δ.length := by have := lt_of_get h; rwa [List.length_set] at this
      rw [List.getElem?_set_self hl] at h
      cases h
      exact ⟨none, List.getElem?_set_self (by rw [S.len]; exact hl), trivial⟩
    · rw [List.getElem?_set_ne hj] at h
      obtain ⟨o, h1, h2⟩ := S.sl j s h
      exact ⟨o, by rw [List.getElem?_set_ne hj]; exact h1, h2⟩
  sep := fun a b da db l hab h1 h2 h3 h4 => by
    have na : i ≠ a := fun z => by
      subst z
      have hl : i < δ.length := by have := lt_of_get h1; rwa [List.length_set] at this
      rw [List.getElem?_set_self hl] at h1
      cases h1
    have nb : i ≠ b := fun z => by
      subst z
      have hl : i < δ.length := by have := lt_of_get h2; rwa [List.length_set] at this
      rw [List.getElem?_set_self hl] at h2
      cases h2
    rw [List.getElem?_set_ne na] at h1 h3
    rw [List.getElem?_set_ne nb] at h2 h4
    exact S.sep a b da db l hab h1 h2 h3 h4
end T

namespace T
open PySem L2
section
variable {X : Cx} {e : Ent} {pos : Pos}
theorem SS.setNone {K : PySem.W.Frag} {T : Tm} {G : Gh} {H : Hp} {σ : St} {δ : DSt} (S : SS K e T G H σ δ) (i : Nat) : SS K e T G H (σ.set i none) (δ.set i .no) := by
  by_cases hi : i < δ.length
  · have a := S.s.setNone i
    rw [set_app hi, set_app (by rw [← S.ln]; exact hi)] at a
    exact ⟨by rw [List.length_set, List.length_set]; exact S.ln, a⟩
  · rw [set_out hi, set_out (by rw [← S.ln]; exact hi)]
    exact S
/-- what is known in a suite: the error at a, of the class C, with these fields, in slot i -/
structure Su where
  i : Nat
  a : Addr
  C : Str
  da : Addr
  fs : List (Str × D)
  fvs : List (Str × V)
def liftSu (K : PySem.W.Frag) (e : Ent) (u : Su) (t : TDS) : TS := fun E σ H => ∃ (G : Gh) (δ : DSt) (F : DEnds), SS K e .nil G H σ δ ∧ XdAt K G u.da u.fs u.fvs ∧ δ[u.i]? = some (.im (.ref u.a)) ∧ t F δ ∧
  (∀ σ' δ' G' H', Le G G' → SS K e .nil G' H' σ' δ' → F.nx δ' → E.nx σ' H') ∧
  (∀ v d σ' δ' G' H', SS K e .nil G' H' σ' δ' → Rep K G' v d → F.rt d δ' → E.rt v H') ∧
  (∀ σ' δ' G' H', Le G G' → SS K e .nil G' H' σ' δ' → F.bk δ' → E.bk σ' H') ∧
  (∀ σ' δ' G' H', Le G G' → SS K e .nil G' H' σ' δ' → F.ct δ' → E.ct σ' H')
def liftEu (K : PySem.W.Frag) (e : Ent) (u : Su) (t : TDE) : TE := fun σ H Q => ∃ (G : Gh) (δ : DSt) (Qd : D → DSt → Prop), SS K e .nil G H σ δ ∧ XdAt K G u.da u.fs u.fvs ∧ δ[u.i]? = some (.im (.ref u.a)) ∧ t δ Qd ∧ ∀ v d H' G', SS K e .nil G' H' σ δ → Step e G H G' H' → Rep K G' v d → Qd d δ → Q v H'
def liftAu (K : PySem.W.Frag) (e : Ent) (u : Su) (n : Nat) (t : TDA) : TA := fun σ H Q => ∃ (G : Gh) (δ : DSt) (Qd : List D → DSt → Prop), SS K e .nil G H σ δ ∧ XdAt K G u.da u.fs u.fvs ∧ δ[u.i]? = some (.im (.ref u.a)) ∧ t δ Qd ∧ ∀ vs ds H' G', SS K e .nil G' H' σ δ → Step e G H G' H' → RepL K G' vs ds → ds.length = n → Qd ds δ → Q vs H'
/-- an expression of a suite (it leaves the names alone) -/
def DEu (X : Cx) (e : Ent) (u : Su) (ex : Expr) (t : TDE) : Prop := PE X ex (liftEu X.K e u t)
def DAu (X : Cx) (e : Ent) (u : Su) (es : List Expr) (t : TDA) : Prop := PA X es (liftAu X.K e u es.length t)
def DSu (X : Cx) (e : Ent) (u : Su) (st : Stmt) (t : TDS) : Prop := PS X st (liftSu X.K e u t)
def DSsu (X : Cx) (e : Ent) (u : Su) (st : List Stmt) (t : TDS) : Prop := PSs X st (liftSu X.K e u t)
/-- a reading that leaves the slots alone -/
def Still (t : TDE) : Prop := ∀ δ Q, t δ Q → t δ fun d δ' => δ' = δ ∧ Q d δ
theorem eu_of {u : Su} {ex : Expr} {t : TDE} (h : DE X e ex t) (hs : Still t) : DEu X e u ex t := pe_imp h fun σ H Q ⟨G, δ, Qd, S, x, hi, q, k⟩ => ⟨.nil, G, δ, _, S, hs δ Qd q, fun v d H' G' δ' S' st rep q' => by
  obtain ⟨rfl, q'⟩ := q'
  exact k v d H' G' S' st rep q'⟩
theorem still_c {d : D} : Still (dC d) := fun δ Q q => ⟨rfl, q⟩
theorem au_nil {u : Su} : DAu X e u [] dNil := pa_imp pa_nil fun σ H Q ⟨G, δ, Qd, S, x, hi, q, k⟩ => k [] [] H G S Step.refl .nil rfl q
theorem au_cons {u : Su} {ex : Expr} {es : List Expr} {t : TDE} {r : TDA} (h : DEu X e u ex t) (hr : DAu X e u es r) (hs : starEach (ex :: es) X.env = (false, eval ex X.env) :: starEach es X.env := by rfl) (st1 : ∀ δ Q, t δ Q → t δ fun d δ' => δ' = δ ∧ Q d δ) : DAu X e u (ex :: es) (dCons t r) :=
  pa_imp (pa_cons h hr hs) fun σ H Q ⟨G, δ, Qd, S, x, hi, q, k⟩ => ⟨G, δ, _, S, x, hi, st1 δ _ q, fun v d H' G' S' st' rep q' => ⟨G', δ, fun ds δ2 => Qd (d :: ds) δ2, S', x.mono st'.le, hi, q'.2, fun vs ds H2 G2 S2 st2 rl len q2 =>
    k (v :: vs) (d :: ds) H2 G2 S2 (st'.trans st2) (.cons (rep.mono st2.le) rl) (by simp [len]) q2⟩⟩
theorem eu_tup {u : Su} {es : List Expr} {t : TDA} {x1} (h : DAu X e u es t) (hl : es.length ≤ 1000 := by decide) : DEu X e u (.Tuple es x1 pos) (dTup t) :=
  pe_imp (pe_tup h) fun σ H Q ⟨G, δ, Qd, S, x, hi, q, k⟩ => ⟨G, δ, _, S, x, hi, q, fun vs ds H1 G1 S1 st1 r len q1 => ⟨by rw [r.length, len]; exact le_line hl, fun p hp => by
    obtain ⟨G2, S2, st2, rep⟩ := S1.newTup r hp
    exact k _ _ _ G2 S2 (st1.trans st2) rep q1⟩⟩
/-- err.f -/
def dXf (fs : List (Str × D)) (f : Str) : TDE := fun δ Q => ∃ d, fs.lookup f = some d ∧ Q d δ
theorem look_repX {K : PySem.W.Frag} {G : Gh} {f : Str} {d : D} : ∀ {fvs : List (Str × V)} {fs : List (Str × D)}, fvs.map (·.1) = fs.map (·.1) → RepL K G (fvs.map (·.2)) (fs.map (·.2)) → fs.lookup f = some d → ∃ v, fvs.lookup f = some v ∧ Rep K G v d
  | [], [], _, _, h => by cases h
  | [], _ :: _, h, _, _ => by cases h
  | _ :: _, [], h, _, _ => by cases h
  | (a, v) :: r, (b, d') :: s, h, rl, hd => by
    simp only [List.map_cons, List.cons.injEq] at h
    obtain ⟨h1, h2⟩ := h
    cases rl with
    | cons r1 r2 =>
      have h1 : a = b := h1
      subst h1
      unfold List.lookup at hd ⊢
      cases hb : f == a with
      | true => rw [hb] at hd; cases hd; exact ⟨v, rfl, r1⟩
      | false => rw [hb] at hd; exact look_repX h2 r2 hd
theorem eu_xf {u : Su} {oe : Obj} {pn : List (Addr × Obj)} {ex : Expr} {f : Str} (Tx : XfC X.K (He.ga X.K u.C)) (hno : PySem.W.findIn X.K (.ref (He.ga X.K u.C)) f = some none) (hz : Zc (.ref (He.ga X.K u.C)) (some u.da) oe) (hf : ∃ vs, oe.data = .fields vs)
    (he : PE (X.suite u.a ((u.a, oe) :: pn)) ex (tVar u.i)) (hb : attributeBase ex f X.env (eval ex X.env) = eval ex X.env := by rfl) : DEu (X.suite u.a ((u.a, oe) :: pn)) e u (.Attribute ex f pos) (dXf u.fs f) :=
  pe_imp (pe_xf Tx hno hz hf he hb) fun σ H Q ⟨G, δ, Qd, S, x, hi, ⟨d, hd, q⟩, k⟩ => by
    obtain ⟨o, ho, v, rfl, rv⟩ := S.sl _ _ hi
    obtain ⟨w, hw, rw'⟩ := look_repX x.nm x.rp hd
    refine ⟨v, ho, ?_, rfl, u.da, u.fvs, w, rfl, S.ok.sub _ _ x.at_, hw, k w d H G S Step.refl rw' q⟩
    cases rv
    rfl
theorem still_xf {fs : List (Str × D)} {f : Str} : Still (dXf fs f) := fun δ Q ⟨d, hd, q⟩ => ⟨d, hd, rfl, q⟩
/-- isinstance(err, c) -/
def dIsE (ms : List (Str × Bool)) (C : Str) : TDE := fun δ Q => ∃ b, (C, b) ∈ ms ∧ Q (.bl b) δ
theorem su_ret {u : Su} {ex : Expr} {t : TDE} (h : DEu X e u ex t) : DSu X e u (.Return (some ex) pos) (dRet t) :=
  ps_imp (ps_ret h) fun E σ H ⟨G, δ, F, S, x, hi, q, n, r, b, c⟩ => ⟨G, δ, _, S, x, hi, q, fun v d H' G' S' st rep q' => r v d σ δ G' H' S' rep q'⟩
theorem sus_one {u : Su} {st : Stmt} {t : TDS} (h : DSu X e u st t) : DSsu X e u [st] t := pss_one h
/-! ### a try's body: entered anew -/
def noOw (δ : DSt) : Bool := δ.all fun s => match s with | .ow _ => false | _ => true
theorem noOw_get {δ : DSt} (h : noOw δ = true) {i : Nat} {d : D} (hi : δ[i]? = some (.ow d)) : False := by
  have := List.all_eq_true.mp h _ (List.mem_of_getElem? hi)
  cases this
theorem SS.enter {K : PySem.W.Frag} {G : Gh} {H : Hp} {σ : St} {δ : DSt} (S : SS K e .nil G H σ δ) (h : noOw δ = true) : SS K ⟨G, H⟩ .nil G H σ δ := by
  refine ⟨S.ln, S.ok, Step.refl, S.s.len, fun i s hs => ?_, fun i j di dj l hij h1 _ _ _ => ?_⟩
  · obtain ⟨o, ho, q⟩ := S.s.sl i s hs
    refine ⟨o, ho, ?_⟩
    cases s with
    | no => trivial
    | im d => exact q
    | ow d =>
      simp only [Tm.nil, List.append_nil] at hs
      exact (noOw_get h hs).elim
  · simp only [Tm.nil, List.append_nil] at h1
    exact noOw_get h h1
theorem SS.back {K : PySem.W.Frag} {G G1 : Gh} {H H1 : Hp} {σ0 σ : St} {δ0 δ : DSt} (S0 : SS K e .nil G H σ0 δ0) (S : SS K ⟨G, H⟩ .nil G1 H1 σ δ) : SS K e .nil G1 H1 σ δ ∧ Le G G1 := by
  have c : Step ⟨G, H⟩ G H G1 H1 := S.stp
  have hs : ∀ a, (e.H a).isSome = true → (H a).isSome = true := fun a h => S0.stp.dom a h h
  have st : Step e G H G1 H1 := ⟨c.le, fun a h n => c.old a (hs a h) (S0.stp.noB a h n), fun a h n => c.noI a (hs a h) n, fun a h n => c.noB a (hs a h) n, fun a h q => c.dom a (hs a h) q⟩
  refine ⟨⟨S.ln, S.ok, S0.stp.trans st, S.s.len, fun i s h => ?_, S.s.sep⟩, c.le⟩
  obtain ⟨o, ho, q⟩ := S.s.sl i s h
  refine ⟨o, ho, ?_⟩
  cases s with
  | no => trivial
  | im d => exact q
  | ow d =>
    obtain ⟨l, e1, m⟩ := q
    refine ⟨l, e1, m.own, m.nI, m.nB, ?_⟩
    cases he : e.H l with
    | none => rfl
    | some o' =>
      have h1 := hs l (by rw [he]; rfl)
      have h2 : H l = none := m.new
      rw [h2] at h1
      cases h1
/-! ### try .. except c as n -/
def ExOk (K : PySem.W.Frag) (c : Value) (ms : List (Str × Bool)) : Prop := ∀ p ∈ ms, PySem.W.exmOne K (.ref (He.ga K p.1)) c = some p.2
/-- what the body's errors meet -/
def exTry (i : Nat) (ms : List (Str × Bool)) (exo : ExD) (ts : Str → List (Str × D) → TDS) (F : DEnds) : ExD := fun δ C fs => i < δ.length ∧ ∃ b, (C, b) ∈ ms ∧
  (b = true → ∀ a, ts C fs { nx := fun δ2 => F.nx (δ2.set i .no), rt := F.rt, bk := fun δ2 => F.bk (δ2.set i .no), ct := fun δ2 => F.ct (δ2.set i .no) } (δ.set i (.im (.ref a)))) ∧ (b = false → exo δ C fs)
def dTryAs (i : Nat) (ms : List (Str × Bool)) (exo : ExD) (tb : ExD → TDS) (ts : Str → List (Str × D) → TDS) : TDS := fun F δ => noOw δ = true ∧ tb (exTry i ms exo ts F) F δ
theorem pss_ex {α : Type} {st : List Stmt} {t : α → TS} (h : ∀ x, PSs X st (t x)) : PSs X st (fun E σ H => ∃ x, t x E σ H) := ⟨fun pins s σ H E I ⟨x, q⟩ => (h x).run pins s σ H E I q⟩
theorem pss_and {p : Prop} {st : List Stmt} {t : TS} (h : p → PSs X st t) : PSs X st (fun E σ H => p ∧ t E σ H) := ⟨fun pins s σ H E I ⟨x, q⟩ => (h x).run pins s σ H E I q⟩
theorem ds0_tryAs {i : Nat} {x n : Str} {c : Value} {ms : List (Str × Bool)} {exo : ExD} {body suite : List Stmt} {b₀ : Stmt} {np pos' : Pos} {tb : ExD → TDS} {ts : Str → List (Str × D) → TDS}
    (hs : X.stack = X.env :: X.outer) (hf : X.env.frame = some X.env.locals) (hN : X.N.Nodup) (hi : X.N[i]? = some n) (hln : X.env.kindOf n = some .local) (hc : Names X x c) (hms : ExOk X.K c ms) (tk : Takes X (WD X.K e exo))
    (hb : ∀ (e' : Ent) (pn : List (Addr × Obj)) (xe : Value → Shared → Prop) (ex : ExD), Takes (X.tr pn xe) (WD X.K e' ex) → PassesOwn (model X.prog X.w) X.A X.env xe → DSs0 (X.tr pn xe) e' body (tb ex))
    (hsu : ∀ (a : Addr) (oe : Obj) (C : Str) (da : Addr) (fs : List (Str × D)) (fvs : List (Str × V)) (pn : List (Addr × Obj)), (∃ b, (C, b) ∈ ms ∧ b = true) → Zc (.ref (He.ga X.K C)) (some da) oe → (∃ vs, oe.data = .fields vs) → DSsu (X.suite a ((a, oe) :: pn)) e ⟨i, a, C, da, fs, fvs⟩ (b₀ :: suite) (ts C fs)) :
    DS0 X e (.Try body [.ExceptHandler (some (.Name x np)) (some n) (b₀ :: suite) pos'] [] [] pos) (dTryAs i ms exo tb ts) := by
  refine ps_imp (ps_try_as (i := i) (tb := fun W E σ H => ∃ (e' : Ent) (ex : ExD), (∀ cls d σ H, WD X.K e' ex cls d σ H → W cls d σ H) ∧ liftS0 X.K e' (tb ex) E σ H)
    (ts := fun a cls d E σ H => ∃ (C : Str) (fs : List (Str × D)) (da : Addr) (fvs : List (Str × V)), (cls = .ref (He.ga X.K C) ∧ d = some da ∧ ∃ b, (C, b) ∈ ms ∧ b = true) ∧ liftSu X.K e ⟨i, a, C, da, fs, fvs⟩ (ts C fs) E σ H) (Wout := WD X.K e exo) hs hf hN hi hln hc tk ?_ ?_) fun E σ H ⟨G, δ, F, S, ⟨hno, q⟩, n', r, b, c'⟩ => ?_
  · intro W pn xe tkW po
    exact pss_ex fun e' => pss_ex fun ex => pss_and fun hW => hb e' pn xe ex (tkW.imp hW) po
  · intro a oe cls d pn hz hv
    refine pss_ex fun C => pss_ex fun fs => pss_ex fun da => pss_ex fun fvs => pss_and fun h => ?_
    obtain ⟨rfl, rfl, hbm⟩ := h
    exact hsu a oe C da fs fvs pn hbm hz hv
  · refine ⟨⟨G, H⟩, exTry i ms exo ts F, ?_, G, δ, F, S.enter hno, q, fun σ' δ' G' H' le S' q' => n' σ' δ' G' H' le (S.back S').1 q', fun v d σ' δ' G' H' S' rep q' => r v d σ' δ' G' H' (S.back S').1 rep q', fun σ' δ' G' H' le S' q' => b σ' δ' G' H' le (S.back S').1 q', fun σ' δ' G' H' le S' q' => c' σ' δ' G' H' le (S.back S').1 q'⟩
    rintro cls d σ1 H1 ⟨G1, δ1, C, fs, da, fvs, S1, rfl, rfl, h3, h4, h5, hl1, bb, hmem, ht, hff⟩
    obtain ⟨S2, le2⟩ := S.back S1
    refine ⟨bb, hms _ hmem, fun hbt a na => ?_, fun hbf => ⟨G1, δ1, C, fs, da, fvs, S2, rfl, rfl, h3, h4, h5, hff hbf⟩⟩
    exact ⟨C, fs, da, fvs, ⟨rfl, rfl, bb, hmem, hbt⟩, G1, δ1.set i (.im (.ref a)), _, S2.asg (.ref a), ⟨h3, h4, h5⟩, List.getElem?_set_self hl1, ht hbt a,
      fun σ' δ' G' H' le S' q' => n' _ _ G' H' (le2.trans le) (S'.setNone i) q', fun v d σ' δ' G' H' S' rep q' => r v d σ' δ' G' H' S' rep q',
      fun σ' δ' G' H' le S' q' => b _ _ G' H' (le2.trans le) (S'.setNone i) q', fun σ' δ' G' H' le S' q' => c' _ _ G' H' (le2.trans le) (S'.setNone i) q'⟩
end
end T

namespace T
open PySem L2
/-! ### the head: __init__ defs that say super() -/
theorem obYG_eq {n : Nat} {ts : List Tst} {ds ys : List DefX} {g : Addr → Option Obj} {s : Shared} (h : ∀ a, g a = s.heap.get? a) : obYG n ts ds ys g = (hookY n ts ds ys).obs s := by
  have z : g = s.heap.get? := funext h
  subst z
  rfl
section
variable {ts : List Tst} {ds ys : List DefX} {K : PySem.W.Frag}
theorem SaysY.x (c : SaysY ts ds ys K) : SaysX ts ds K := by
  have h1 := congrArg Prod.fst c
  have h2 : (ds.map fun d => fnAt K (d.ad K)) ++ (ys.map fun d => fnAtY K (d.ad K)) = ds.map DefX.says ++ ys.map DefX.says := congrArg Prod.snd c
  have h3 := (List.append_inj h2 (by rw [List.length_map, List.length_map])).1
  exact Prod.ext h1 h3
theorem SaysY.y (c : SaysY ts ds ys K) (i : Nat) {d : DefX} (h : ys[i]? = some d := by rfl) : fnAtY K (d.ad K) = d.says := by
  have h2 : (ds.map fun d => fnAt K (d.ad K)) ++ (ys.map fun d => fnAtY K (d.ad K)) = ds.map DefX.says ++ ys.map DefX.says := congrArg Prod.snd c
  have h3 := (List.append_inj h2 (by rw [List.length_map, List.length_map])).2
  have e2 : (ys.map fun d => fnAtY K (d.ad K))[i]? = (ys.map DefX.says)[i]? := by rw [h3]
  rw [List.getElem?_map, List.getElem?_map, h] at e2
  exact Option.some.inj e2
end
theorem arr6 {α : Type} {a : Array α} (h : a.size = 6) : ∃ x0 x1 x2 x3 x4 x5, a = #[x0, x1, x2, x3, x4, x5] := by
  obtain ⟨l⟩ := a
  match l, h with
  | [x0, x1, x2, x3, x4, x5], _ => exact ⟨x0, x1, x2, x3, x4, x5, rfl⟩
theorem clsT_ok {K : PySem.W.Frag} {C : Addr} {tl : List Value} {newId initId : String} (h : clsT K C tl newId initId = true) :
    ∃ nm q N bs bm sn sub ab col dd k0 k1 k2 k3 k5, K.lookup C = some (excClassObj nm q C N bs bm true sn sub ab col dd k0 k1 k2 k3 k5 newId) ∧ refsT tl bm = true ∧ PySem.W.alongIn K "__init__" bm = some (some (.builtin initId)) := by
  unfold clsT at h
  cases hl : K.lookup C with
  | none => rw [hl] at h; cases h
  | some o =>
    rw [hl] at h
    obtain ⟨oc, od, dt, osl⟩ := o
    cases dt with
    | cls cd =>
      obtain ⟨nm, bs, mro, ns, qn, hd, sn, sb, ab, col, del⟩ := cd
      obtain ⟨c1, h⟩ := He.ba (show ((oc == Value.type "type") && ((osl.size == 6) && ((osl[4]? == some (some (.builtin newId))) && (hd && (!del && ((mro.head? == some (.ref C)) && (refsT tl mro.tail && He.eqO (PySem.W.alongIn K "__init__" mro.tail) (some (some (.builtin initId)))))))))) = true from h)
      obtain ⟨c2, h⟩ := He.ba h
      obtain ⟨c3, h⟩ := He.ba h
      obtain ⟨c4, h⟩ := He.ba h
      obtain ⟨c5, h⟩ := He.ba h
      obtain ⟨c6, h⟩ := He.ba h
      obtain ⟨c7, c8⟩ := He.ba h
      obtain ⟨x0, x1, x2, x3, x4, x5, rfl⟩ := arr6 (beq_iff_eq.mp c2)
      have e1 : oc = .type "type" := beq_iff_eq.mp c1
      have e3 : some x4 = some (some (Value.builtin newId)) := beq_iff_eq.mp c3
      have e4 : hd = true := c4
      have e5 : del = false := by simpa using c5
      have e6 := beq_iff_eq.mp c6
      cases mro with
      | nil => cases e6
      | cons a r =>
        have e7 : a = .ref C := Option.some.inj e6
        have e8 := Option.some.inj e3
        subst e1 e4 e5 e7 e8
        exact ⟨nm, qn, ns, bs, r, sn, sb, ab, col, od, x0, x1, x2, x3, x5, rfl, c7, He.eqO_ok c8⟩
    | _ => cases h
theorem iniT_ok {P : Program} {K : PySem.W.Frag} {f C : Addr} {d : DefX} {file : Str} (h : iniT K f C d.ql file = true) (e : fnAtY K f = d.says) (hP : P.main.file = file) :
    ∃ oc od osl dV kV doc pm an cda ct cc, K.lookup f = some ⟨oc, od, .func (PySem.W.ksFn d.nm d.ql (defArgs d.st) (defBody d.st) (defScope d.st) dV kV doc pm an (.ref cda) ct cc), osl⟩ ∧
    (∃ ccl cdd vs ccs file tf, K.lookup cda = some ⟨ccl, cdd, .fields vs, ccs⟩ ∧ vs[2]? = some (.str file tf) ∧ ((P.main.file : Str) == file) = true) ∧
    (∃ cl cld csl, K.lookup cc = some ⟨cl, cld, .cell (some (.ref C)), csl⟩) ∧ PySem.W.codeIn K (.ref cda) d.ql = true ∧ dV = .none := by
  unfold iniT at h
  unfold fnAtY at e
  cases hl : K.lookup f with
  | none => rw [hl] at h; cases h
  | some o =>
    rw [hl] at h e
    obtain ⟨oc, od, dt, osl⟩ := o
    cases dt with
    | func u =>
      obtain ⟨y1, y2, y3, y4, y5, y6, y7, y8, y9, y10, y11, y12, y13, y14, y15⟩ := u
      have e2 : (some (y1, y2, y3, y4, y5, y6, [], y15) : He.FnW) = some (d.nm, d.ql, defArgs d.st, .stmts (defBody d.st), defScope d.st, mainGlobals, [], builtinsNs) := e
      simp only [Option.some.injEq, Prod.mk.injEq] at e2
      obtain ⟨z1, z2, z3, z4, z5, z6, _, z8⟩ := e2
      subst z1 z2 z3 z4 z5 z6 z8
      obtain ⟨c1, h⟩ := He.ba h
      obtain ⟨c2, c3⟩ := He.ba h
      have c2 : y8 = .none := beq_iff_eq.mp c2
      subst c2
      cases y7 with
      | nil => cases c1
      | cons p r => cases r with
        | cons _ _ => cases c1
        | nil =>
          obtain ⟨n, cc⟩ := p
          obtain ⟨c4, c5⟩ := He.ba (show ((n == "__class__") && (match K.lookup cc with | some oc => (match oc.data with | .cell (some (.ref D)) => D == C | _ => false) | none => false)) = true from c1)
          have c4 : n = "__class__" := beq_iff_eq.mp c4
          subst c4
          cases hcc : K.lookup cc with
          | none => rw [hcc] at c5; cases c5
          | some oc2 =>
            rw [hcc] at c5
            obtain ⟨a1, a2, dt2, a4⟩ := oc2
            cases dt2 with
            | cell ov => cases ov with
              | none => cases c5
              | some v => cases v with
                | ref D =>
                  have c5 : D = C := beq_iff_eq.mp (show (D == C) = true from c5)
                  subst c5
                  cases y13 with
                  | ref cda =>
                    obtain ⟨c6, c7⟩ := He.ba (show (PySem.W.codeIn K (.ref cda) d.ql && (match K.lookup cda with | some o2 => (match o2.data with | .fields vs => (match (vs[2]? : Option Value) with | some (.str fl _) => fl == file | _ => false) | _ => false) | none => false)) = true from c3)
                    cases ho2 : K.lookup cda with
                    | none => rw [ho2] at c7; cases c7
                    | some o2 =>
                      rw [ho2] at c7
                      obtain ⟨b1, b2, dt3, b4⟩ := o2
                      cases dt3 with
                      | fields vs =>
                        cases hfl : (vs[2]? : Option Value) with
                        | none =>
                          have c7 : (match (vs[2]? : Option Value) with | some (.str fl _) => fl == file | _ => false) = true := c7
                          rw [hfl] at c7; cases c7
                        | some fv =>
                          have c7 : (match (vs[2]? : Option Value) with | some (.str fl _) => fl == file | _ => false) = true := c7
                          rw [hfl] at c7
                          cases fv with
                          | str fl tf =>
                            have c7 : fl = file := beq_iff_eq.mp (show (fl == file) = true from c7)
                            subst c7
                            exact ⟨oc, od, osl, .none, y9, y10, y11, y12, cda, y14, cc, rfl, ⟨b1, b2, vs, b4, fl, tf, ho2, hfl, by rw [hP]; exact beq_self_eq_true _⟩, ⟨a1, a2, a4, hcc⟩, c6, rfl⟩
                          | _ => cases c7
                      | _ => cases c7
                  | _ => cases c3
                | _ => cases c5
            | _ => cases c5
    | _ => cases h
theorem errT_ok {P : Program} {K : PySem.W.Frag} {C : Str} {tl : List Value} {B newId initId : String} {d : DefX} {file : Str} {fs : List Str} (h : errT C tl newId initId d.ql file fs K = true) (e : fnAtY K (He.ma K (He.ga K C) "__init__") = d.says) (hP : P.main.file = file) (hS : (P.main.scope.names.lookup ("super" : Str)).isSome = false) :
    ErrC P K tl B newId initId (He.ga K C) (He.ma K (He.ga K C) "__init__") d.nm d.ql (defArgs d.st) (defBody d.st) (defScope d.st) ∧ ∀ f ∈ fs, PySem.W.findIn K (.ref (He.ga K C)) f = some none := by
  obtain ⟨c1, h⟩ := He.ba h
  obtain ⟨c2, h⟩ := He.ba h
  obtain ⟨c3, h⟩ := He.ba h
  obtain ⟨c4, h⟩ := He.ba h
  obtain ⟨c5, h⟩ := He.ba h
  obtain ⟨c6, h⟩ := He.ba h
  obtain ⟨c7, h⟩ := He.ba h
  obtain ⟨c8, h⟩ := He.ba h
  obtain ⟨c9, c10⟩ := He.ba h
  exact ⟨⟨clsT_ok c1, iniT_ok c2 e hP, He.eqO_ok c3, of_decide_eq_true c4, He.eqO_ok c5, of_decide_eq_true c6, of_decide_eq_true c7, c8, He.eqO_ok c9, hS⟩, fun f hf => He.eqO_ok (List.all_eq_true.mp c10 f hf)⟩
theorem excT_ok {K : PySem.W.Frag} {C : Str} (h : excT C K = true) : ExcC K (He.ga K C) ∧ XfC K (He.ga K C) := by
  obtain ⟨c1, h⟩ := He.ba h
  obtain ⟨c2, h⟩ := He.ba h
  obtain ⟨c3, h⟩ := He.ba h
  obtain ⟨c4, h⟩ := He.ba h
  obtain ⟨c5, h⟩ := He.ba h
  obtain ⟨c6, h⟩ := He.ba h
  obtain ⟨c7, c8⟩ := He.ba h
  exact ⟨⟨He.eqO_ok c1, He.eqO_ok c2, of_decide_eq_true c3, c4, He.eqO_ok c5, He.eqO_ok c6, of_decide_eq_true c7, of_decide_eq_true c8⟩, ⟨He.eqO_ok c1, He.eqO_ok c2, of_decide_eq_true c3, c4⟩⟩
theorem exT_ok {K : PySem.W.Frag} {c : PySem.W.Frag → Value} {ms : List (Str × Bool)} (h : exT c ms K = true) : ExOk K (c K) ms := fun p hp => of_decide_eq_true (List.all_eq_true.mp h p hp)
/-- a def with a try, that nothing leaves -/
theorem fn_d0 {P : Program} {w : World} {K : PySem.W.Frag} {mg : Str → Option Value} {base : Heap} {x qual : Str} {params : Arguments} {body : List Stmt} {scope : Scope} {dvs : List V} {kws : List (Str × V)} {f : Addr} {fd : FuncData} {N ps : List Str} {k : Nat} {sd : SpD} {t : TDS}
    (F : FunD K x qual params body scope dvs kws f fd) (S : FnScope N ps scope) (len : ∀ ds Q, sd ds Q → ds.length = ps.length)
    (hb : ∀ (cdv : Value) (A : Around) (outer : List Env) (s : Shared) (H : Hp) (E : XK) (e : Ent), Room k (A.deeper (PyProof.Rows.envOfC qual scope s.heap.objs.size f cdv)) → DSs0 (cxF P w K mg base N qual scope f cdv A outer s H E) e body t)
    (hp : ∀ ds Q, sd ds Q → t (ends Q) (startD N.length ds)) : FnOk P w K mg base CX0 (k + 1) f fd ps (toSp K sd) := by
  refine F.ok S (fun vs H Q E h => ?_) (fun cdv A outer s H vs Q E hr h => ?_)
  · obtain ⟨G, ds, Qd, ok, r, q, _⟩ := h
    rw [r.length]
    exact len ds Qd q
  · obtain ⟨G, ds, Qd, ok, r, q, kk⟩ := h
    refine ⟨_, PSs.nox (hb cdv A outer s H E ⟨G, H⟩ hr), G, startD N.length ds, _, start_ss ok r, hp ds Qd q, fun σ' δ' G' H' le S' q' => ?_, fun v d σ' δ' G' H' S' rep q' => kk d v G' H' S'.ok S'.stp rep q', fun _ _ _ _ _ _ q' => q'.elim, fun _ _ _ _ _ _ q' => q'.elim⟩
    exact kk .non .non G' H' S'.ok S'.stp .non q'
theorem takes_never {X : Cx} {e : Ent} : Takes X (WD X.K e fun _ _ _ => False) := takes0.imp fun _ _ _ _ ⟨_, _, _, _, _, _, _, _, _, _, _, _, z⟩ => z
end T

namespace T
open PySem L2
section
variable {X : Cx} {e : Ent} {pos : Pos}
theorem one_of {C C0 : Str} (h : ∃ b, (C, b) ∈ [(C0, true)] ∧ b = true) : C0 = C := by
  obtain ⟨b, hb, rfl⟩ := h
  simp at hb
  exact hb.symm
theorem eu_xf1 {i : Nat} {a : Addr} {C : Str} {da : Addr} {fs : List (Str × D)} {fvs : List (Str × V)} {oe : Obj} {pn : List (Addr × Obj)} {ex : Expr} {f : Str} (Tx : XfC X.K (He.ga X.K C)) (hno : PySem.W.findIn X.K (.ref (He.ga X.K C)) f = some none) (hz : Zc (.ref (He.ga X.K C)) (some da) oe) (hf : ∃ vs, oe.data = .fields vs)
    (he : PE (X.suite a ((a, oe) :: pn)) ex (tVar i)) (hb : attributeBase ex f X.env (eval ex X.env) = eval ex X.env := by rfl) : DEu (X.suite a ((a, oe) :: pn)) e ⟨i, a, C, da, fs, fvs⟩ (.Attribute ex f pos) (dXf fs f) := eu_xf (u := ⟨i, a, C, da, fs, fvs⟩) Tx hno hz hf he hb
/-! ### a list * a number -/
end
end T

namespace T
open PySem L2 PyProof.Rows
/-! ### try with several clauses, each with the same name -/
abbrev Cl := Value × (Addr → Value → Option Addr → TS)
section
variable {X : Cx} {i : Nat} {n : Str} {body : List Stmt} {h0 : ExceptHandler} {hl : List ExceptHandler} {l : List Cl} {pos : Pos} {tb : WX → TS} {Wo : WX}
/-! over data -/
variable {e : Ent}
end

end T

namespace T
open PySem L2
/-! ### one total promise for a def that may raise: the plain promise follows -/
abbrev noX : Str → List (Str × D) → Prop := fun _ _ => False
theorem fnD_ofX {P : Program} {w : World} {K : PySem.W.Frag} {mg : Str → Option Value} {base : Heap} {k : Nat} {f : Addr} {sx : SpX} (F : FnX P w K mg base k f sx) : FnD P w K mg base k f (fun ds Q => sx ds Q noX) := by
  intro A outer s H us vs Q E hr e0 r hs
  obtain ⟨G, ds, Qd, ok, rp, q, kk⟩ := hs
  refine codeAny_mono (F A outer s H us vs Q (fun _ _ _ => False) hr e0 r ⟨G, ds, Qd, noX, ok, rp, q, kk, fun _ _ _ _ _ _ _ _ _ z => z.elim⟩) fun r s' hq => ?_
  cases r with
  | error u =>
    obtain ⟨a, B, H', cls, d, _, _, _, _, _, _, _, z⟩ := hq
    exact z.elim
  | ok fl => cases fl <;> exact hq
section
variable {X : Cx} {e : Ent} {pos : Pos}
end
end T

namespace T
open PySem L2
/-! ### a thing equals itself -/
mutual
theorem eqv_self : ∀ a : D, isDat a = true → PyData.eqv (py a) (py a) = true
  | .non, _ => rfl
  | .bl b, _ => by show (b == b) = true; exact beq_self_eq_true b
  | .int i, _ => by show (i == i) = true; exact beq_self_eq_true i
  | .str s, _ => by show (s == s) = true; exact beq_self_eq_true s
  | .tup l, h => by rw [show py (.tup l) = .tuple (pyL l) from rfl, PyData.eqv]; exact eqvL_self l h
  | .lst l, h => by rw [show py (.lst l) = .list (pyL l) from rfl, PyData.eqv]; exact eqvL_self l h
  | .dct _, h => by cases h
  | .dtp _, h => by cases h
  | .ins _ _, h => by cases h
  | .self _ _ _, h => by cases h
  | .box _, h => by cases h
  | .ty _, h => by cases h
  | .ref _, h => by cases h
  | .scr _, h => by cases h
  | .cls _, h => by cases h
  | .dself _ _, h => by cases h
theorem eqvL_self : ∀ l : List D, isDatL l = true → PyData.eqvAll (pyL l) (pyL l) = true
  | [], _ => rfl
  | d :: r, h => by
    have h : isDat d = true ∧ isDatL r = true := by simpa [isDatL] using h
    rw [show pyL (d :: r) = py d :: pyL r from rfl, PyData.eqvAll, eqv_self d h.1, eqvL_self r h.2]
    rfl
end
theorem eqB_self {a : D} (h : isDat a = true) : eqB a a = true := eqv_self a h
theorem eq_self {a : D} {Q : D → Prop} (h : isDat a = true) (hd : dep a ≤ 64) (q : Q (.bl true)) : eqX a a Q := by
  have gen : (isDat a = true ∧ isDat a = true ∧ dep a ≤ 64 ∧ dep a ≤ 64) ∧ Q (.bl (eqB a a)) := ⟨⟨h, h, hd, hd⟩, by rw [eqB_self h]; exact q⟩
  unfold eqX
  cases a <;> first | exact gen | (refine (show Q (.bl (decide _)) from ?_); simpa using q)
end T

namespace T
open PySem L2
section
open PySem.W PySem.Calls PyProof.Rows
variable {α : Type} {prog : Program} {w : World} {A : Around} {E : Value → Shared → Prop} {s : Shared} {K : Frag} {x y C C' L f g : Addr} {h₀ : Heap} {m : Str → Option Value} {ox oy : Obj} {od od' : Option Obj}
/-! ### an attribute that a class has not -/
/-! ### x op y, both of own classes, neither with a reflected def -/
end
end T

namespace T
open PySem L2
/-! ### classes that share their defs (a class and those below it) -/
section
variable {X : Cx} {e : Ent} {pos : Pos}
/-! x op y -/
/-! o.m(..) -/
end
end T

namespace T
open PySem L2
section
open PySem.W PyProof.Rows
variable {prog : Program} {w : World} {A : Around} {E : Value → Shared → Prop} {s : Shared} {K : Frag} {x y C C' L f g : Addr} {h₀ : Heap} {m : Str → Option Value} {ox oy : Obj} {od od' : Option Obj}
end
section
variable {X : Cx} {e : Ent} {pos : Pos}
/-! == and != of things of such classes -/
/-! len(x) -/
/-! o(..): the class's own __call__, o a name -/
end
end T

namespace T
open PySem L2
section
variable {X : Cx} {e : Ent} {pos : Pos}
/-! ### o(..), over data -/
/-! ### o.f, a property -/
end
/-! ### the tests of the text -/
end T

namespace T
open PySem L2
/-! ### a list of texts that is ours is only read by a statement: it is known by its address -/
structure Lent (e : Ent) (l : Addr) (ss : List Str) : Prop where
  at_ : e.H l = some (.lst (ss.map V.str))
  nf : ¬ foot e.G l
  ok : ∀ s ∈ ss, sOk s
section
variable {X : Cx} {e : Ent} {pos : Pos}
theorem Lent.now {K : PySem.W.Frag} {l : Addr} {ss : List Str} {T : Tm} {G : Gh} {H : Hp} {σ : St} {δ : DSt} (h : Lent e l ss) (S : SS K e T G H σ δ) : H l = some (.lst (ss.map V.str)) := by
  rw [S.stp.old l (by rw [h.at_]; rfl) h.nf]
  exact h.at_
theorem Lent.rd {K : PySem.W.Frag} {l : Addr} {ss : List Str} {T : Tm} {G : Gh} {H : Hp} {σ : St} {δ : DSt} {v : V} (h : Lent e l ss) (S : SS K e T G H σ δ) (r : RdO K G H v (.ref l)) : RdO K G H v (.lst (ss.map D.str)) := by
  rcases r with r | ⟨_, _, r⟩
  · cases r
    exact .inr ⟨l, rfl, _, h.now S, RepL.ofStrs ss h.ok⟩
  · exact r.elim
end
end T

namespace T
open PySem L2
section
variable {X : Cx} {e : Ent} {pos : Pos}
/-! ### tuples of things that may raise -/
/-! ### suites: tests -/
def liftTu (K : PySem.W.Frag) (e : Ent) (u : Su) (t : TDT) : TT := fun σ H Q => ∃ (G : Gh) (δ : DSt) (Qd : Bool → DSt → Prop), SS K e .nil G H σ δ ∧ XdAt K G u.da u.fs u.fvs ∧ δ[u.i]? = some (.im (.ref u.a)) ∧ t δ Qd ∧ ∀ b H' G', SS K e .nil G' H' σ δ → Step e G H G' H' → Qd b δ → Q b H'
def DTu (X : Cx) (e : Ent) (u : Su) (ex : Expr) (t : TDT) : Prop := PT X ex (liftTu X.K e u t)
def dTruB (t : TDE) : TDT := fun δ Q => t δ fun d δ1 => onBl d fun b => Q b δ1
theorem tu_val {u : Su} {ex : Expr} {t : TDE} (h : DEu X e u ex t) (he : ∀ whole, isTrue ex X.env whole = (do let v ← whole; standAt ex.pos; holding [v] (truthy v)) := by intro _; rfl) : DTu X e u ex (dTruB t) :=
  pt_imp (pt_truth h he) fun σ H Q ⟨G, δ, Qd, S, x, hi, q, k⟩ => ⟨G, δ, _, S, x, hi, q, fun v d H1 G1 S1 st1 r q1 => by
    obtain ⟨b, rfl, q1⟩ := onBl_ok q1
    exact ⟨b, truD_ok S1.ok (.inl r) rfl, k b H1 G1 S1 st1 q1⟩⟩
/-- one statement, then others: the error stays in its name -/
def dSeqU (i : Nat) (t v : TDS) : TDS := fun F δ => t { F with nx := fun δ' => δ'[i]? = δ[i]? ∧ v F δ' } δ
theorem sus_cons {u : Su} {st : Stmt} {rest : List Stmt} {t v : TDS} (h : DSu X e u st t) (hr : DSsu X e u rest v) : DSsu X e u (st :: rest) (dSeqU u.i t v) :=
  pss_imp (pss_cons h hr) fun E σ H ⟨G, δ, F, S, x, hi, q, n, r, b, c⟩ => ⟨G, δ, _, S, x, hi, q, fun σ' δ' G' H' le S' ⟨q0, q'⟩ => ⟨G', δ', F, S', x.mono le, q0.trans hi, q', fun a b' c' d' l2 => n a b' c' d' (le.trans l2), r, fun a b' c' d' l2 => b a b' c' d' (le.trans l2), fun a b' c' d' l2 => c a b' c' d' (le.trans l2)⟩, r, b, c⟩
theorem su_if {u : Su} {c : Expr} {a b : List Stmt} {tc : TDT} {t v : TDS} (hc : DTu X e u c tc) (ha : DSsu X e u a t) (hb : DSsu X e u b v) : DSu X e u (.If c a b pos) (dIfS tc t v) :=
  ps_imp (ps_if hc ha hb) fun E σ H ⟨G, δ, F, S, x, hi, q, n, r, bk, ct⟩ => ⟨G, δ, _, S, x, hi, q, fun k H' G' S' st q' => by
    cases k with
    | true => exact iteT ⟨G', δ, F, S', x.mono st.le, hi, q', fun a b' c' d' l2 => n a b' c' d' (st.le.trans l2), r, fun a b' c' d' l2 => bk a b' c' d' (st.le.trans l2), fun a b' c' d' l2 => ct a b' c' d' (st.le.trans l2)⟩
    | false => exact iteF ⟨G', δ, F, S', x.mono st.le, hi, q', fun a b' c' d' l2 => n a b' c' d' (st.le.trans l2), r, fun a b' c' d' l2 => bk a b' c' d' (st.le.trans l2), fun a b' c' d' l2 => ct a b' c' d' (st.le.trans l2)⟩⟩
theorem sus_nil {u : Su} : DSsu X e u [] dNext := pss_imp pss_nil fun E σ H ⟨G, δ, F, S, x, hi, q, n, r, b, c⟩ => n σ δ G H (Le.refl _) S q
/-! isinstance(err, (C, ..)) -/
def IsEOkT (K : PySem.W.Frag) (cs : List Str) (ms : List (Str × Bool)) : Prop := ∀ p ∈ ms, PySem.W.kitAny K (.ref (He.ga K p.1)) (cs.map fun c => .ref (He.ga K c)) = some p.2
theorem repL_cls {K : PySem.W.Frag} {G : Gh} : ∀ {vs : List V} {cs : List Str}, RepL K G vs (cs.map D.cls) → vs = cs.map fun c => V.ref (He.ga K c)
  | _, [], .nil => rfl
  | _, c :: r, .cons h t => by
    cases h
    rw [List.map_cons, repL_cls t]
theorem vals_refs : ∀ {l : List Addr} {us : List Value}, Vals (l.map V.ref) us → us = l.map Value.ref
  | [], _, .nil => rfl
  | a :: r, _, .cons h t => by
    cases h
    rw [List.map_cons, vals_refs t]
theorem call_isXT {a D da : Addr} {oe : Obj} {pn : List (Addr × Obj)} (C : ExcC X.K D) (hz : Zc (.ref D) (some da) oe) (hf : ∃ vs, oe.data = .fields vs) : CallR (X.suite a ((a, oe) :: pn)) (.builtin "isinstance") (fun xs H Q => ∃ (tp : Addr) (l : List Addr) (b : Bool) (fvs : List (Str × V)), xs = [.ref a, .ref tp] ∧ H tp = some (.tup (l.map V.ref)) ∧ PySem.W.kitAny X.K (.ref D) (l.map Value.ref) = some b ∧ H da = some (.xd fvs) ∧ Q (.bl b) H) := by
  intro pins s σ H xs us Q I r h
  obtain ⟨tp, l, b, fvs, rfl, hT, ek, hda, q⟩ := h
  obtain ⟨u1, u2, rfl, r1, r2⟩ := vals2 r
  cases (show u2 = Value.ref tp from r2)
  cases (show u1 = Value.ref a from r1)
  obtain ⟨hget, _⟩ := I.pin (a, oe) (List.mem_append.mpr (.inl List.mem_cons_self))
  obtain ⟨vs, hv⟩ := hf
  have hx : ObjOk X.prog X.w H s.heap da (.xd fvs) := I.hok da _ hda
  obtain ⟨mA, hns, _⟩ := hx
  obtain ⟨od, ho, hl⟩ := lookIn_ns hns
  have J : PySem.W.InstAt s.heap a oe D (some od) := ⟨hget, hz.1, by unfold PySem.W.notCls; rw [hv] <;> rfl, by rw [hz.2]; exact ho⟩
  obtain ⟨cd, hcd, _⟩ := PySem.W.any_some C.hd
  obtain ⟨_, its, rv, o, h1, h2, n, h3⟩ := (show ObjOk X.prog X.w H s.heap tp (.tup (l.map V.ref)) from I.hok tp _ hT)
  have e3 := vals_refs rv
  subst e3
  obtain ⟨oc, od2, dt, sl⟩ := o
  simp only at h2 h3
  subst h2 h3
  exact PySem.W.kia_tup (PySem.W.kitx_exc (by rw [hcd]; rfl) C.hg C.hk C.hs C.ha C.hn C.ht C.hm) I.kIn J h1 ek (fun z => nomatch z) fun tk => ⟨.bl b, H, I.kept (t' := tk) fun _ _ z => z, rfl, q⟩
theorem eu_isET {i : Nat} {a : Addr} {C : Str} {da : Addr} {fs : List (Str × D)} {fvs : List (Str × V)} {oe : Obj} {pn : List (Addr × Obj)} {ex cx : Expr} {cs : List Str} {ms : List (Str × Bool)} {t : TDE} {p : Pos} (hC : ExcC X.K (He.ga X.K C)) (hz : Zc (.ref (He.ga X.K C)) (some da) oe) (hf : ∃ vs, oe.data = .fields vs) (hms : IsEOkT X.K cs ms)
    (he : PE (X.suite a ((a, oe) :: pn)) ex (tVar i)) (hc : DE (X.suite a ((a, oe) :: pn)) e cx t) (ht : ∀ δ (Q : D → DSt → Prop), Q (.tup (cs.map D.cls)) δ → t δ Q) (hg : Gl X "isinstance") (hm : X.mg "isinstance" = none)
    (hs : starEach (ex :: [cx]) X.env = (false, eval ex X.env) :: starEach [cx] X.env := by rfl) (hs2 : starEach (cx :: []) X.env = (false, eval cx X.env) :: starEach [] X.env := by rfl) (hpl : (backTo pos (starEach [cx] X.env)).any (·.1) = false := by rfl) :
    DEu (X.suite a ((a, oe) :: pn)) e ⟨i, a, C, da, fs, fvs⟩ (.Call (.Name "isinstance" p) [ex, cx] [] pos) (dIsE ms C) := by
  have hm' : (X.suite a ((a, oe) :: pn)).mg "isinstance" = none := hm
  refine pe_imp (pe_callB (X := X.suite a ((a, oe) :: pn)) (call_isXT hC hz hf) hg hm' (by decide +kernel) (pa_cons he (pa_cons hc pa_nil hs2) hs) (by decide) (by decide) hs hpl) fun σ H Q ⟨G, δ, Qd, S, x, hi, ⟨b, hb, q⟩, k⟩ => ?_
  obtain ⟨o, ho, v, rfl, rv⟩ := S.sl _ _ hi
  have ev : v = .ref a := by cases rv; rfl
  subst ev
  refine ⟨_, ho, .nil, G, δ, fun d δ1 => δ1 = δ ∧ d = .tup (cs.map D.cls), S, ht δ _ ⟨rfl, rfl⟩, fun v d H1 G1 δ1 S1 st1 rd q1 => ?_⟩
  obtain ⟨rfl, rfl⟩ := q1
  cases rd with
  | tup hp rr =>
    rename_i tp vs
    have := repL_cls rr
    subst this
    refine ⟨tp, cs.map (He.ga X.K), b, fvs, rfl, ?_, ?_, S1.ok.sub _ _ ((x.mono st1.le).at_), k _ _ H1 G1 S1 st1 (.bl b) q⟩
    · have := S1.ok.sub _ _ hp
      rw [List.map_map]
      exact this
    · rw [List.map_map]
      exact hms _ hb
theorem isTT_ok {K : PySem.W.Frag} {cs : List Str} {ms : List (Str × Bool)} (h : isTT cs ms K = true) : IsEOkT K cs ms := fun p hp => of_decide_eq_true (List.all_eq_true.mp h p hp)
end
end T

namespace T
open PySem L2
/-! ### several things that are ours, lent at once: known by their addresses -/
section
variable {K : PySem.W.Frag} {e : Ent} {G G' : Gh} {H H' : Hp} {σ σ' : St} {δ δ2 δ2' δ' : DSt}
structure LendS (δ δ2 : DSt) (σ : St) : Prop where
  len : δ2.length = δ.length
  at_ : ∀ j : Nat, δ2[j]? = δ[j]? ∨ ∃ (d : D) (l : Addr), δ[j]? = some (.ow d) ∧ σ[j]? = some (some (.ref l)) ∧ δ2[j]? = some (.im (.ref l))
def owB (σ : St) (δ2 : DSt) (a : Addr) : Prop := ∃ (j : Nat) (d : D), δ2[j]? = some (.ow d) ∧ σ[j]? = some (some (.ref a))
open Classical in
noncomputable def entL (G : Gh) (H : Hp) (σ : St) (δ2 : DSt) : Ent := ⟨G, fun a => if owB σ δ2 a then none else H a⟩
theorem entL_no {a : Addr} (h : ¬ owB σ δ2 a) : (entL G H σ δ2).H a = H a := by unfold entL; exact if_neg h
theorem LendS.keep (L : LendS δ δ2 σ) {j : Nat} {d : D} (h : δ2[j]? = some (.ow d)) : δ[j]? = some (.ow d) := by
  rcases L.at_ j with e1 | ⟨d', l, _, _, e2⟩
  · rw [← e1]; exact h
  · rw [e2] at h; cases h
/-- what is lent is still there -/
theorem Sts.lent (S : Sts K e G H σ δ) (L : LendS δ δ2 σ) {j : Nat} {d : D} {l : Addr} (h1 : δ[j]? = some (.ow d)) (h2 : σ[j]? = some (some (.ref l))) (h3 : δ2[j]? = some (.im (.ref l))) : (entL G H σ δ2).H l = H l := by
  refine entL_no fun ⟨k, d', q1, q2⟩ => ?_
  by_cases hk : k = j
  · subst hk; rw [h3] at q1; cases q1
  · exact S.sep k j d' d l hk (L.keep q1) h1 q2 h2
end
end T

namespace T
open PySem L2
/-! ### names that the scope does not know: slots for what the code never names -/
section
variable {X : Cx} {e : Ent} {pos : Pos}
/-- σ and σ2 agree at the names of the scope -/
def GhostEq (X : Cx) (σ σ2 : St) : Prop := σ2.length = σ.length ∧ ∀ (i : Nat) (x : Str), X.N[i]? = some x → L2.Vis X.env.scope x → σ2[i]? = σ[i]?
theorem inv_ghost {pins : List (Addr × Obj)} {σ σ2 : St} {H : Hp} {s : Shared} (I : L2.Inv X pins σ H s) (h : GhostEq X σ σ2) : L2.Inv X pins σ2 H s :=
  { ok := I.ok, os := I.os, bare := I.bare, base := I.base, cell := I.cell, free := I.free, freeC := I.freeC, pin := I.pin, hok := I.hok, len := h.1.trans I.len,
    loc := by
      obtain ⟨m, h1, h2⟩ := I.loc
      exact ⟨m, h1, fun i x v hi hv vis => h2 i x v hi (by rw [← h.2 i x hi vis]; exact hv) vis⟩ }
theorem ps_ghost {st : Stmt} {t : TS} (h : PS X st t) : PS X st (fun E σ H => t { nx := fun σ' H' => ∃ σ2, GhostEq X σ' σ2 ∧ E.nx σ2 H', rt := E.rt, bk := E.bk, ct := E.ct } σ H) :=
  ⟨fun pins s σ H E I q => by
    refine wpAny_mono (h.run pins s σ H _ I q) (fun f s' hsp => ?_) (fun _ _ z => z)
    cases f with
    | next => obtain ⟨σ', H', I', σ2, g, q'⟩ := hsp; exact ⟨σ2, H', inv_ghost I' g, q'⟩
    | brk => exact hsp
    | cont => exact hsp
    | ret u => exact hsp⟩
/-! ### a dict of own dicts: `found[a][b]` -/
def dRow (i j1 j2 : Nat) : TDE := fun δ Q => ∃ (outer : List (Key × D)) (s1 s2 : Str) (a : Addr) (j : Nat) (kds : List (Key × D)) (d : D), δ[i]? = some (.ow (.dct outer)) ∧ δ[j1]? = some (.im (.str s1)) ∧ lookD outer (kS s1) = some (.ref a) ∧ δ[j2]? = some (.im (.str s2)) ∧ δ[j]? = some (.ow (.dself a kds)) ∧ lookD kds (kS s2) = some d ∧ Q d δ
theorem row_at {K : PySem.W.Frag} {T : Tm} {G : Gh} {H : Hp} {σ : St} {δ : DSt} {i j1 j2 j : Nat} {outer : List (Key × D)} {s1 s2 : Str} {a : Addr} {kds : List (Key × D)} (S : SS K e T G H σ δ)
    (h1 : δ[i]? = some (.ow (.dct outer))) (h2 : δ[j1]? = some (.im (.str s1))) (h3 : lookD outer (kS s1) = some (.ref a)) (h4 : δ[j2]? = some (.im (.str s2))) (h5 : δ[j]? = some (.ow (.dself a kds))) :
    ∃ l kvs kvs2, σ[i]? = some (some (.ref l)) ∧ σ[j1]? = some (some (.str s1)) ∧ σ[j2]? = some (some (.str s2)) ∧ σ[j]? = some (some (.ref a)) ∧ H l = some (.dK kvs) ∧ valV kvs (kS s1) = some (.ref a) ∧ H a = some (.dK kvs2) ∧ kvs2.map (·.1) = kds.map (·.1) ∧ RepL K G (kvs2.map (·.2)) (kds.map (·.2)) := by
  obtain ⟨o1, q1, l, rfl, m1⟩ := S.sl i _ h1
  obtain ⟨kvs, hv, e1, r1, _⟩ := m1.own
  obtain ⟨o2, q2, v2, rfl, rv2⟩ := S.sl j1 _ h2
  cases rv2
  obtain ⟨o4, q4, v4, rfl, rv4⟩ := S.sl j2 _ h4
  cases rv4
  obtain ⟨o5, q5, l5, rfl, m5⟩ := S.sl j _ h5
  obtain ⟨rfl, kvs2, hv2, e2, r2, _⟩ := m5.own
  rcases look_ok (kS s1) e1 r1 with ⟨z, _⟩ | ⟨d', v', z1, z2, rv'⟩
  · rw [h3] at z; cases z
  · rw [h3] at z1
    cases z1
    cases rv'
    exact ⟨l, kvs, kvs2, q1, q2, q4, q5, hv, z2, hv2, e2, r2⟩
theorem de_row {o a b : Expr} {i j1 j2 k0 : Nat} {p1 p2 : Pos} (hr : Room k0 X.A) (ho : PE X o (tVar i)) (ha : PE X a (tVar j1)) (hb : PE X b (tVar j2)) (hs1 : PlainIx a := by exact fun _ _ => rfl) (hs2 : PlainIx b := by exact fun _ _ => rfl) : DE X e (.Subscript (.Subscript o a p1) b p2) (dRow i j1 j2) :=
  pe_imp (pe_ix (ix_dict (hu_of hr)) (pe_ix (ix_dict (hu_of hr)) ho ha hs1) hb hs2) fun σ H Q ⟨T, G, δ, Qd, S, ⟨outer, s1, s2, a, j, kds, d, h1, h2, h3, h4, h5, h6, q⟩, k⟩ => by
    obtain ⟨l, kvs, kvs2, q1, q2, q4, q5, hv, z2, hv2, e2, r2⟩ := row_at S h1 h2 h3 h4 h5
    rcases look_ok (kS s2) e2 r2 with ⟨z, _⟩ | ⟨d', v', z3, z4, rv'⟩
    · rw [h6] at z; cases z
    · rw [h6] at z3
      cases z3
      exact ⟨_, q1, _, q2, l, _, rfl, .inl ⟨kvs, kS s1, .inl hv, rfl, z2.symm⟩, _, q4, _, v', rfl, .inl ⟨kvs2, kS s2, .inl hv2, rfl, z4.symm⟩, k v' d H G δ S Step.refl rv' q⟩
def dgRow (i j1 j2 : Nat) : TDG := fun d δ Q => ∃ (outer : List (Key × D)) (s1 s2 : Str) (a : Addr) (j : Nat) (kds : List (Key × D)) (a' : D), δ[i]? = some (.ow (.dct outer)) ∧ δ[j1]? = some (.im (.str s1)) ∧ lookD outer (kS s1) = some (.ref a) ∧ δ[j2]? = some (.im (.str s2)) ∧ δ[j]? = some (.ow (.dself a kds)) ∧ putD (.dself a kds) (.str s2) d = some a' ∧ Q (δ.set j (.ow a'))
theorem dg_row {o a b : Expr} {i j1 j2 k0 : Nat} {p1 : Pos} (hr : Room k0 X.A) (ho : PE X o (tVar i)) (ha : PE X a (tVar j1)) (hb : PE X b (tVar j2)) (hs1 : PlainIx a := by exact fun _ _ => rfl)
    (hs : ∀ v, assign (.Subscript (.Subscript o a p1) b pos) X.env v = (do
      let ov ← holding [v] (eval (.Subscript o a p1) X.env)
      let iv ← holding [v, ov] (eval b X.env)
      standAt pos
      holding [v, ov, iv] (setItem ov iv v)
      release [v, ov, iv] []) := by intro _; rfl) : DG X e (.Subscript (.Subscript o a p1) b pos) [] (dgRow i j1 j2) :=
  pg_imp (pg_sub (pe_ix (ix_dict (hu_of hr)) ho ha hs1) hb (set_dict (hu_of hr)) hs) fun v σ H Q ⟨T, G, δ, d, Qd, S, r, ⟨outer, s1, s2, a, j, kds, a', h1, h2, h3, h4, h5, h6, q⟩, k⟩ => by
    obtain ⟨l, kvs, kvs2, q1, q2, q4, q5, hv, z2, hv2, e2, r2⟩ := row_at S h1 h2 h3 h4 h5
    obtain ⟨o5, q5', l5, e5, m5⟩ := S.sl j _ h5
    rw [q5] at q5'
    cases q5'
    cases e5
    obtain ⟨o4, q4', v4, rfl, rv4⟩ := S.sl j2 _ h4
    rw [q4] at q4'
    cases q4'
    obtain ⟨ob, pu, own⟩ := putD_ok S.ok m5.own rv4 r h6
    obtain ⟨S2, st2⟩ := S.write (o := ob) h5 q5 own
    exact ⟨_, q1, _, q2, l, _, rfl, .inl ⟨kvs, kS s1, .inl hv, rfl, z2.symm⟩, _, q4, _, _, rfl, pu, k σ _ G _ S2 st2 Only1.refl q⟩
end
end T

namespace T
open PySem L2
/-! ### a dict of own dicts handed out: rows first, then the dict that holds them -/
section
variable {X : Cx} {e : Ent} {pos : Pos} {K : PySem.W.Frag} {T : Tm} {H : Hp} {σ : St}
abbrev Rw := Key × Addr × List (Key × D)
theorem rep_dself {G : Gh} {v : V} {a : Addr} {kds : List (Key × D)} (h : Rep K G v (.dself a kds)) : Rep K G (.ref a) (.dct kds) ∧ v = .ref a := by
  cases h with
  | dself h1 h2 h3 h4 => exact ⟨.dct h1 h2 h3 h4, rfl⟩
theorem freezeRows : ∀ (R : List Rw) {G : Gh} {δ : DSt}, SS K e T G H σ δ → (∀ r ∈ R, (∃ j : Nat, δ[j]? = some (.ow (.dself r.2.1 r.2.2))) ∨ Rep K G (.ref r.2.1) (.dct r.2.2)) →
    ∃ G' δ', SS K e T G' H σ δ' ∧ Step e G H G' H ∧ (∀ r ∈ R, Rep K G' (.ref r.2.1) (.dct r.2.2)) ∧ ∀ (i : Nat) (kds : List (Key × D)), δ[i]? = some (.ow (.dct kds)) → δ'[i]? = some (.ow (.dct kds))
  | [], G, δ, S, _ => ⟨G, δ, S, Step.refl, (fun r h => absurd h List.not_mem_nil), fun _ _ h => h⟩
  | r :: R, G, δ, S, h => by
    rcases h r List.mem_cons_self with ⟨j, hj⟩ | hr
    · obtain ⟨G1, v, hv, S1, st1, rep⟩ := S.fzSlot hj
      obtain ⟨rep, ev⟩ := rep_dself rep
      obtain ⟨G2, δ2, S2, st2, q1, q2⟩ := freezeRows R S1 fun r2 h2 => by
        rcases h r2 (List.mem_cons_of_mem _ h2) with ⟨j2, hj2⟩ | hr2
        · by_cases e1 : j2 = j
          · subst e1
            rw [hj] at hj2
            have e2 : r.2.1 = r2.2.1 ∧ r.2.2 = r2.2.2 := by
              simp only [Option.some.injEq, Sl.ow.injEq, D.dself.injEq] at hj2
              exact hj2
            rw [← e2.1, ← e2.2]
            exact .inr rep
          · exact .inl ⟨j2, by rw [List.getElem?_set_ne (Ne.symm e1)]; exact hj2⟩
        · exact .inr (hr2.mono st1.le)
      refine ⟨G2, δ2, S2, st1.trans st2, fun r2 h2 => ?_, fun i kds hi => q2 i kds ?_⟩
      · rcases List.mem_cons.mp h2 with rfl | h2
        · exact rep.mono st2.le
        · exact q1 r2 h2
      · by_cases e1 : i = j
        · subst e1
          rw [hj] at hi
          simp at hi
        · rw [List.getElem?_set_ne (Ne.symm e1)]
          exact hi
    · obtain ⟨G2, δ2, S2, st2, q1, q2⟩ := freezeRows R S fun r2 h2 => h r2 (List.mem_cons_of_mem _ h2)
      refine ⟨G2, δ2, S2, st2, fun r2 h2 => ?_, q2⟩
      rcases List.mem_cons.mp h2 with rfl | h2
      · exact hr.mono st2.le
      · exact q1 r2 h2
theorem rows_rep {G : Gh} : ∀ {vs : List V} {R : List Rw}, RepL K G vs (R.map fun r => D.ref r.2.1) → (∀ r ∈ R, Rep K G (.ref r.2.1) (.dct r.2.2)) → RepL K G vs (R.map fun r => D.dct r.2.2)
  | vs, [], h, _ => h
  | _, r :: R, h, q => by
    rw [List.map_cons] at h ⊢
    cases h with
    | cons h1 h2 =>
      cases h1
      exact .cons (q r List.mem_cons_self) (rows_rep h2 fun r2 z => q r2 (List.mem_cons_of_mem _ z))
def dRowsV (i : Nat) : TDE := fun δ Q => ∃ R : List Rw, δ[i]? = some (.ow (.dct (R.map fun r => (r.1, D.ref r.2.1)))) ∧ (∀ r ∈ R, ∃ j : Nat, δ[j]? = some (.ow (.dself r.2.1 r.2.2))) ∧ ∀ δ', Q (.dct (R.map fun r => (r.1, D.dct r.2.2))) δ'
theorem de_rows {o : Expr} {i : Nat} (ho : PE X o (tVar i)) : DE X e o (dRowsV i) :=
  pe_imp ho fun σ H Q ⟨T, G, δ, Qd, S, ⟨R, h1, h2, q⟩, k⟩ => by
    obtain ⟨G1, δ1, S1, st1, q1, q2⟩ := freezeRows R S fun r hr => .inl (h2 r hr)
    have h3 := q2 i _ h1
    obtain ⟨o1, p1, l, rfl, m1⟩ := S1.sl i _ h3
    obtain ⟨kvs, hv, e1, r1, w⟩ := m1.own
    have own : OwnAt X.K G1 H l (.dct (R.map fun r => (r.1, D.dct r.2.2))) := by
      refine ⟨kvs, hv, ?_, ?_, ?_⟩
      · rw [e1]; simp
      · have e3 : ((R.map fun r => (r.1, D.ref r.2.1)).map (·.2)) = R.map fun r => D.ref r.2.1 := by simp
        have e4 : ((R.map fun r => (r.1, D.dct r.2.2)).map (·.2)) = R.map fun r => D.dct r.2.2 := by simp
        rw [e3] at r1
        rw [e4]
        exact rows_rep r1 q1
      · intro k hk
        refine w k ?_
        simpa using hk
    have eu : L2.upd H l (.dK kvs) = H := by
      funext a
      unfold L2.upd
      split
      · next h => rw [← hv]; simp_all
      · rfl
    obtain ⟨S2, st2⟩ := S1.write (d' := .dct (R.map fun r => (r.1, D.dct r.2.2))) (o := .dK kvs) h3 p1 (by rw [eu]; exact own)
    rw [eu] at S2 st2
    obtain ⟨G3, v3, p3, S3, st3, rep3⟩ := S2.fzSlot (i := i) (d := .dct (R.map fun r => (r.1, D.dct r.2.2))) (by rw [List.getElem?_set_self (lt_of_get h3)])
    rw [p1] at p3
    cases p3
    exact ⟨_, p1, k _ _ H G3 _ S3 (st1.trans (st2.trans st3)) rep3 (q _)⟩
end
end T

namespace T
open PySem L2
/-! ### found = {k: own dict for ..}: the rows go into slots that the scope does not know -/
section
variable {X : Cx} {e : Ent} {pos : Pos} {K : PySem.W.Frag} {T : Tm} {G : Gh} {H : Hp} {σ : St} {δ : DSt}
def rvs (R : List Rw) : List V := R.map fun r => .ref r.2.1
def rss (R : List Rw) : List Sl := R.map fun r => .ow (.dself r.2.1 r.2.2)
def outR (R : List Rw) : List (Key × D) := R.map fun r => (r.1, D.ref r.2.1)
theorem app_push {vs : List V} {ss : List Sl} {l : Addr} {d : D} : (T.app vs ss).push l d = T.app (vs ++ [.ref l]) (ss ++ [.ow d]) := by simp [Tm.app, Tm.push]
theorem SS.writeHead {vs : List V} {ss : List Sl} {L : Addr} {d0 d' : D} {o : HO} (S : SS K e (T.app (.ref L :: vs) (.ow d0 :: ss)) G H σ δ) (hl : T.v.length = T.d.length) (hn : OwnAt K G (L2.upd H L o) L d') :
    SS K e (T.app (.ref L :: vs) (.ow d' :: ss)) G (L2.upd H L o) σ δ ∧ Step e G H G (L2.upd H L o) := by
  have hln := S.ln
  have hs : (δ ++ (T.app (.ref L :: vs) (.ow d0 :: ss)).d)[δ.length + T.d.length]? = some (.ow d0) := by
    unfold Tm.app
    rw [List.getElem?_append_right (by omega), List.getElem?_append_right (by omega), show δ.length + T.d.length - δ.length - T.d.length = 0 from by omega]
    rfl
  have hx : (σ ++ (T.app (.ref L :: vs) (.ow d0 :: ss)).v)[δ.length + T.d.length]? = some (some (.ref L)) := by
    unfold Tm.app
    rw [List.getElem?_append_right (by omega), List.getElem?_append_right (by omega), show δ.length + T.d.length - σ.length - T.v.length = 0 from by omega]
    rfl
  obtain ⟨S1, st⟩ := S.s.write hs hx hn
  refine ⟨⟨hln, ?_⟩, st⟩
  have e1 : (δ ++ (T.app (.ref L :: vs) (.ow d0 :: ss)).d).set (δ.length + T.d.length) (.ow d') = δ ++ (T.app (.ref L :: vs) (.ow d' :: ss)).d := by
    unfold Tm.app
    rw [List.set_append_right _ _ (by omega), List.set_append_right _ _ (by omega), show δ.length + T.d.length - δ.length - T.d.length = 0 from by omega]
    rfl
  rw [e1] at S1
  exact S1
def dAsgRows (w : TDA) (g : TDG) (tk tv : TDE) (own : List Nat) (i : Nat) (js : List Nat) : TDS := fun F δ => w δ fun ds δ1 => ∃ Iv : Nat → List Rw → DSt → Prop, Iv 0 [] (wipeD δ1 own) ∧
  (∀ n d R δ', ds[n]? = some d → Iv n R δ' → g d (wipeD δ' own) fun δ2 => tk δ2 fun k δ3 => tv δ3 fun z δ4 => ∃ kk kds, keyD k = some kk ∧ z = .dct kds ∧ lookD (outR R) kk = none ∧ R.length < 1000 ∧ ∀ a, Iv (n + 1) (R ++ [(kk, a, kds)]) (wipeD δ4 own)) ∧
  ∀ R δ', Iv ds.length R δ' → R.length ≤ js.length ∧ F.nx (setD (i :: js.take R.length) (.ow (.dct (outR R)) :: rss R) (wipeD δ' own))
theorem setS_get : ∀ {is : List Nat} {vs : List V} {σ : St} {j : Nat}, j ∉ is → (setS is vs σ)[j]? = σ[j]?
  | [], _, _, _, _ => by unfold setS; rfl
  | _ :: _, [], _, _, _ => by unfold setS; rfl
  | i :: is, v :: vs, σ, j, h => by
    unfold setS
    rw [setS_get (fun z => h (List.mem_cons_of_mem _ z)), List.getElem?_set_ne (fun z => h (by rw [z]; exact List.mem_cons_self))]
theorem setS_len : ∀ {is : List Nat} {vs : List V} {σ : St}, (setS is vs σ).length = σ.length
  | [], _, _ => by unfold setS; rfl
  | _ :: _, [], _ => by unfold setS; rfl
  | i :: is, v :: vs, σ => by unfold setS; rw [setS_len, List.length_set]
theorem putKD_new {R : List Rw} {kk : Key} {a : Addr} {kds : List (Key × D)} (h : lookD (outR R) kk = none) : putKD (outR R) kk (.ref a) = outR (R ++ [(kk, a, kds)]) := by
  have e1 : outR (R ++ [(kk, a, kds)]) = outR R ++ [(kk, .ref a)] := by simp [outR]
  rw [e1]
  unfold putKD
  have : ((outR R).any fun p => decide (p.1 = kk)) = false := by
    rw [List.any_eq_false]
    intro x hx z
    unfold lookD at h
    rw [Option.map_eq_none_iff, List.find?_eq_none] at h
    exact h x hx z
  rw [this]
  rfl
end
section
variable {X : Cx} {e : Ent} {pos : Pos}
theorem ds_rows {x : Str} {kx vx tg iter : Expr} {scope : Scope} {own : List (Str × Nat)} {w : TDA} {g : TDG} {tk tv : TDE} {fp : List Nat} {i : Nat} {js : List Nat} {pos' pos2 : Pos} (hc : X.calm = true) (hN : X.N.Nodup) (hix : X.N[i]? = some x) (hyl : X.env.scope.names.lookup x = some .local) (hsw : swapsWith (.DictComp kx vx [⟨tg, iter, [], 0⟩] scope pos) (some (.Name x pos')) pos2.line X.env = pure true) (hi : DI X e tg iter w) (ok : BlkOk X.N X.env.scope scope own)
    (hg : ∀ (s : Shared) (H : Hp) (C : Addr) (cl : List (Str × Addr)) (fp' : List Addr), DG (X.blk s H scope (compEnvC scope cl C X.env) fp') e tg fp g)
    (hk : ∀ (s : Shared) (H : Hp) (C : Addr) (cl : List (Str × Addr)) (fp' : List Addr), DE (X.blk s H scope (compEnvC scope cl C X.env) fp') e kx tk)
    (he : ∀ (s : Shared) (H : Hp) (C : Addr) (cl : List (Str × Addr)) (fp' : List Addr), DO (X.blk s H scope (compEnvC scope cl C X.env) fp') e vx tv)
    (hj : ∀ j ∈ js, ∀ y, X.N[j]? = some y → ¬ L2.Vis X.env.scope y)
    (hfp : ∀ i ∈ fp, i ∈ own.map (·.2) := by decide) (hs : ∀ x, foldedSetIterable iter X.env x = pure x := by intro _; rfl) :
    DS X e (.Assign [.Name x pos'] (.DictComp kx vx [⟨tg, iter, [], 0⟩] scope pos) pos2) (dAsgRows w g tk tv (own.map (·.2)) i js) := by
  refine ps_imp (ps_ghost (ps_setDc (g := liftG X.K e fp g) (tt := liftT X.K e dYes) (tk := lift X.K e tk) (tv := liftO X.K e tv) hc hN hix hyl hsw hi ok hg (fun _ _ _ _ _ => dts_nil) hk he hs)) fun E σ H ⟨T, G, δ, F, S, q, n, r, b, c⟩ => ?_
  generalize own.map (·.2) = own at *
  refine ⟨T, G, δ, _, S, q, fun J ds H1 G1 δ1 S1 st1 Y ⟨Iv, h0, hst, hd⟩ => ?_⟩
  intro L hL
  have htl := S.tl
  obtain ⟨S2, st2, nI, nB, new, ap⟩ := S1.new (o := .dK []) hL
  have S3 := S2.hold (l := L) (d := .dct []) ⟨⟨[], upd_same, rfl, .nil, fun _ h => nomatch h⟩, nI, nB, new⟩ ap
  have S4 : SS X.K e (T.app (.ref L :: rvs []) (.ow (.dct (outR [])) :: rss [])) G1 (upd H1 L (.dK [])) (wipe σ own) (wipeD δ1 own) := S3.move (wipe_length σ own) fun i hi => by rw [wipe_get, if_neg hi]
  refine ⟨fun i m H' => m = ds.length - i ∧ i ≤ ds.length ∧ ∃ G' δ' R, Step e G1 (upd H1 L (.dK [])) G' H' ∧ SS X.K e (T.app (.ref L :: rvs R) (.ow (.dct (outR R)) :: rss R)) G' H' (wipe σ own) (wipeD δ' own) ∧ Iv i R (wipeD δ' own), ⟨ds.length, by simp, Nat.zero_le _, G1, δ1, [], Step.refl, S4, h0⟩, ?_⟩
  rintro i5 m H5 ⟨rfl, hi5, G5, δ5, R, st5, S5, iv⟩
  have wipe2 : ∀ δ : DSt, wipeD (wipeD δ own) own = wipeD δ own := fun δ => by
    apply List.ext_getElem?
    intro j
    rw [wipeD_get, wipeD_get]
    by_cases hj : j ∈ own
    · rw [if_pos hj, if_pos hj]; cases δ[j]? <;> rfl
    · rw [if_neg hj, if_neg hj]
  by_cases hlt : i5 < ds.length
  · refine .inr ⟨Y.go i5 _ G5 H5 _ _ st5.le S5 hlt, fun H' => ∃ G' δ' R', Step e G1 (upd H1 L (.dK [])) G' H' ∧ SS X.K e (T.app (.ref L :: rvs R') (.ow (.dct (outR R')) :: rss R')) G' H' (wipe σ own) (wipeD δ' own) ∧ Iv (i5 + 1) R' (wipeD δ' own), fun H' ⟨G', δ', R', s', S', iv'⟩ => ⟨ds.length - (i5 + 1), by omega, rfl, hlt, G', δ', R', s', S', iv'⟩, fun x H6 y => ?_⟩
    obtain ⟨d, G6, hd', S6, st6, rep⟩ := Y.yld i5 _ G5 H5 _ _ x H6 st5.le S5 hlt y
    have q6 := hst i5 d R _ hd' iv
    rw [wipe2] at q6
    refine ⟨_, G6, _, d, _, S6, rep, q6, fun σ7 δ7 G7 H7 S7 st7 o7 q7 => ⟨?_, ?_⟩⟩
    · have e1 := wipe_only o7 hfp
      rw [e1]
      apply List.ext_getElem?
      intro j
      rw [wipe_get, wipe_get]
      by_cases hj : j ∈ own
      · rw [if_pos hj, if_pos hj]; cases σ[j]? <;> rfl
      · rw [if_neg hj, if_neg hj]
    · have hw7 : (wipe σ own).length = σ7.length ∧ ∀ i, i ∉ own → (wipe σ own)[i]? = σ7[i]? := ⟨o7.1.symm, fun i hi => (o7.2 i fun z => hi (hfp i z)).symm⟩
      refine ⟨_, G7, δ7, (fun b δ8 => b = true ∧ δ8 = δ7), S7, ⟨rfl, rfl⟩, fun b H8 G8 δ8 S8 st8 q8 => ?_⟩
      obtain ⟨rfl, rfl⟩ := q8
      have st18 := st5.trans (st6.trans (st7.trans st8))
      refine iteT ?_
      refine ⟨_, G8, δ8, _, S8, q7, fun vk y H9 G9 δ9 S9 st9 rk q9 => ⟨_, G9, δ9, _, S9, q9, fun l z H10 G10 δ10 S10 st10 m10 ap10 q10 => ?_⟩⟩
      obtain ⟨kk, kds, hkk, rfl, hnew, hlen, q10⟩ := q10
      obtain ⟨ek, okk⟩ := key_rep rk hkk
      have S11 := S10.hold (l := l) (d := .dself l kds) ⟨⟨rfl, m10.own⟩, m10.nI, m10.nB, m10.new⟩ ap10
      rw [app_push] at S11
      obtain ⟨oL, hoL, lL, eL, mL⟩ := S10.s.sl (δ10.length + T.d.length) (.ow (.dct (outR R))) (by
        unfold Tm.app
        rw [List.getElem?_append_right (by omega), List.getElem?_append_right (by omega), show δ10.length + T.d.length - δ10.length - T.d.length = 0 from by omega]
        rfl)
      have hxL : oL = some (.ref L) := by
        have hln := S10.ln
        unfold Tm.app at hoL
        rw [List.getElem?_append_right (by omega), List.getElem?_append_right (by omega), show δ10.length + T.d.length - σ7.length - T.v.length = 0 from by omega] at hoL
        cases hoL
        rfl
      rw [hxL] at eL
      cases eL
      obtain ⟨kvs, hv, e1, r1, ww⟩ := mL.own
      have hlen2 : kvs.length = R.length := by have := congrArg List.length e1; simpa [outR] using this
      obtain ⟨p1, p2⟩ := putKD_rep (k := kk) (show Rep X.K G10 (.ref l) (.ref l) from .ref l) e1 r1
      refine ⟨kvs, kk, ek, hv, by rw [hlen2, sizeLine_eq]; omega, ?_⟩
      obtain ⟨S12, st12⟩ := S11.writeHead (d' := .dct (putKD (outR R) kk (.ref l))) (o := .dK (putK kvs kk (.ref l))) htl ⟨_, upd_same, p1, p2, fun x hx => (putKD_keys hx).elim (ww x) fun e => e ▸ okk⟩
      rw [putKD_new (kds := kds) hnew] at S12
      refine ⟨G10, δ10, R ++ [(kk, l, kds)], st18.trans (st9.trans (st10.trans st12)), ?_, q10 l⟩
      have e5 : rvs (R ++ [(kk, l, kds)]) = rvs R ++ [.ref l] := by simp [rvs]
      have e6 : rss (R ++ [(kk, l, kds)]) = rss R ++ [.ow (.dself l kds)] := by simp [rss]
      rw [e5, e6]
      exact S12.move hw7.1 hw7.2
  · have e1 : i5 = ds.length := by omega
    subst e1
    refine .inl ⟨Y.stop _ _ G5 H5 _ _ st5.le S5 (Nat.le_refl _), ?_⟩
    have S7 : SS X.K e (T.app (.ref L :: rvs R) (.ow (.dct (outR R)) :: rss R)) G5 H5 σ (wipeD δ5 own) := by
      have := S5.move (σ' := σ) (vs := own) (wipe_length σ own).symm fun i hi => by rw [wipe_get, if_neg hi]
      rwa [wipe2] at this
    obtain ⟨hjl, q7⟩ := hd R _ iv
    rw [wipe2] at q7
    have S8 := SS.takes (is := i :: js.take R.length) htl (by simp [rvs]; omega) (by simp [rvs, rss]) S7
    refine ⟨_, ⟨?_, fun j y hjy vis => ?_⟩, n _ _ G5 H5 ((st1.trans (st2.trans st5)).le) S8 q7⟩
    · rw [setS_len, List.length_set]
    · show (setS (js.take R.length) (rvs R) (σ.set i (some (.ref L))))[j]? = _
      exact setS_get fun z => hj j (List.mem_of_mem_take z) y hjy vis
end
end T

namespace T
open PySem L2
/-! ### a = b = E -/
section
variable {X : Cx} {e : Ent} {pos : Pos}
def dSto2 (t : TDE) (g1 g2 : TDG) : TDS := fun F δ => t δ fun d δ1 => g1 d δ1 fun δ2 => g2 d δ2 F.nx
theorem ds_sto2 {t1 t2 ex : Expr} {t : TDE} {g1 g2 : TDG} {fp1 fp2 : List Nat} (h : DE X e ex t) (h1 : DG X e t1 fp1 g1) (h2 : DG X e t2 fp2 g2)
    (ha : (assignEach [t1, t2] X.env).map (·.2) = [assign t1 X.env, assign t2 X.env] := by rfl) (hs : swappedStores [t1, t2] ex X.env = pure none := by rfl) : DS X e (.Assign [t1, t2] ex pos) (dSto2 t g1 g2) :=
  ps_imp (ps_asg2 h h1 h2 ha hs) fun E σ H ⟨T, G, δ, F, S, q, n, r, b, c⟩ => ⟨T, G, δ, _, S, q, fun v d H1 G1 δ1 S1 st1 rep q1 =>
    ⟨T, G1, δ1, d, _, S1, rep, q1, fun σ2 δ2 G2 H2 S2 st2 _ q2 => ⟨T, G2, δ2, d, _, S2, rep.mono st2.le, q2, fun σ3 δ3 G3 H3 S3 st3 _ q3 => n _ _ G3 H3 ((st1.trans (st2.trans st3)).le) S3 q3⟩⟩⟩
/-- these slots' names are not the scope's -/
def unseenB (N : List Str) (sc : Scope) (js : List Nat) : Bool := js.all fun j => match N[j]? with | some y => decide (sc.names.lookup y = none) | none => true
theorem unseen_by {N : List Str} {sc : Scope} {js : List Nat} (h : unseenB N sc js = true) : ∀ j ∈ js, ∀ y, N[j]? = some y → ¬ L2.Vis sc y := fun j hj y hy v => by
  have := List.all_eq_true.mp h j hj
  rw [hy] at this
  have e := of_decide_eq_true this
  unfold L2.Vis at v
  rw [e] at v
  rcases v with v | v | v <;> cases v
end
end T

namespace T
open PySem L2
/-- the scope of a statement's dict comprehension -/
def dcScope (l : List Stmt) (n : Nat) : Scope := match l[n]? with | some (.Assign _ (.DictComp _ _ _ sc _) _) => sc | _ => { kind := .function, names := [], isGenerator := false, isCoroutine := false }
/-- as a block inside of a function sees its scope -/
def relScope (sc o : Scope) : Scope := { kind := sc.kind, names := sc.names.map (fun x => match x with | (n, k) => if (k == .free && o.kind == .function && o.names.lookup n == some .cell) = true then (n, .cell) else (n, k)), isGenerator := sc.isGenerator, isCoroutine := sc.isCoroutine, more := sc.more }
/-! ### dict(d) of a dict: a new one -/
section
variable {X : Cx} {e : Ent} {pos : Pos}
def dictC : D → (D → Prop) → Prop
  | .dct kds, Q => Q (.dct kds)
  | _, _ => False
theorem do_dictC {a : Expr} {A : Opn} {p : Pos} (ha : OPN X e a A) (hg : Gl X "dict") (hm : X.mg "dict" = none) (hs : starEach (a :: []) X.env = (false, eval a X.env) :: starEach [] X.env := by rfl) : DO X e (.Call (.Name "dict" p) [a] [] pos) (dB1 dictC A) := by
  have key : ∀ (T : Tm) (G : Gh) (H : Hp) (σ : St) (δ : DSt) (x : V) (a : D) (Qd : D → Prop) (Q : VK), SS X.K e T G H σ δ → RdO X.K G H x a → dictC a Qd →
      (∀ l d H', SS X.K e T G H' σ δ → Step e G H G H' → Mine X.K e G H' l d → Apart σ δ T l → Qd d → Q (.ref l) H') →
      ∃ (a : Addr) (kvs : List (Key × V)), [x] = [.ref a] ∧ L2.Rd H a (.dK kvs) ∧ ∀ p, H p = none → Q (.ref p) (L2.upd H p (.dK kvs)) := by
    intro T G H σ δ x a Qd Q S ra q k
    cases a with
    | dct kds =>
      have q : Qd (.dct kds) := q
      obtain ⟨pa, kvs, rfl, hp, e1, r1, w⟩ : ∃ (pa : Addr) (kvs : List (Key × V)), x = .ref pa ∧ H pa = some (.dK kvs) ∧ kvs.map (·.1) = kds.map (·.1) ∧ RepL X.K G (kvs.map (·.2)) (kds.map (·.2)) ∧ ∀ k ∈ kds.map (·.1), kOk k := by
        rcases ra with ra | ⟨l, rfl, own⟩
        · cases ra with
          | dct h1 h2 h3 h4 => exact ⟨_, _, rfl, S.ok.sub _ _ h1, h2, h3, h4⟩
        · obtain ⟨kvs, h1, h2, h3, h4⟩ := own
          exact ⟨l, kvs, rfl, h1, h2, h3, h4⟩
      refine ⟨pa, kvs, rfl, .inl hp, fun l hl => ?_⟩
      obtain ⟨S2, st2, nI, nB, new, ap⟩ := S.new (o := .dK kvs) hl
      exact k l (.dct kds) _ S2 st2 ⟨⟨_, upd_same, e1, r1, w⟩, nI, nB, new⟩ ap q
    | _ => exact False.elim q
  have pe := fun {ta : TE} (h : PE X a ta) => pe_callTy (p := p) (pos := pos) (call_dictD (X := X)) hg hm (by decide +kernel) (pa_cons h pa_nil hs) (he := hs)
  cases A with
  | ex t =>
    refine pe_imp (pe ha) fun σ H Q ⟨T, G, δ, Qd, S, q, k⟩ => ?_
    exact ⟨T, G, δ, _, S, q, fun v d H1 G1 δ1 S1 st1 rd q1 => key T G1 H1 σ δ1 v d _ Q S1 (.inl rd) q1 fun l d H' S' st' m ap qd => k l d H' G1 δ1 S' (st1.trans st') m ap qd⟩
  | sl i =>
    refine pe_imp (pe ha) fun σ H Q ⟨T, G, δ, Qd, S, q, k⟩ => ?_
    have q : (match rdS δ i with | some d => dictC d (fun z => Qd z δ) | none => False) := q
    cases hi : rdS δ i with
    | none => rw [hi] at q; exact q.elim
    | some d =>
      rw [hi] at q
      obtain ⟨v, hv, rd⟩ := rdS_ok S hi
      exact ⟨v, hv, key T G H σ δ v d _ Q S rd q fun l d H' S' st' m ap qd => k l d H' G δ S' st' m ap qd⟩
end
end T

namespace T
open PySem L2
/-! ### starred arguments and items -/
section
variable {X : Cx} {e : Ent} {pos : Pos}
/-! ### min(list), sum(list) of whole numbers -/
end
end T

namespace T
open PySem L2
/-! ### [.. for .. in .. for .. in ..] -/
section
variable {X : Cx} {e : Ent} {pos : Pos}
theorem wipe2 (σ : St) (vs : List Nat) : wipe (wipe σ vs) vs = wipe σ vs := by
  apply List.ext_getElem?
  intro j
  rw [wipe_get, wipe_get]
  by_cases hj : j ∈ vs
  · rw [if_pos hj, if_pos hj]; cases σ[j]? <;> rfl
  · rw [if_neg hj, if_neg hj]
def dLc2 (w : TDA) (g : TDG) (tt : TDT) (w1 : TDA) (g1 : TDG) (tt1 : TDT) (te : TDE) (own vs1 : List Nat) : TDE := fun δ Q => w δ fun ds δ1 => ∃ Inv : Nat → List D → DSt → Prop, Inv 0 [] (wipeD δ1 own) ∧
  (∀ i d acc δ', ds[i]? = some d → Inv i acc δ' → g d (wipeD δ' own) fun δ2 => tt δ2 fun b δ3 => if b = true then w1 δ3 fun ds1 δ4 => ∃ Inv1 : Nat → List D → DSt → Prop, Inv1 0 acc (wipeD δ4 vs1) ∧
      (∀ j d1 acc1 δ', ds1[j]? = some d1 → Inv1 j acc1 δ' → g1 d1 (wipeD δ' vs1) fun δ5 => tt1 δ5 fun b1 δ6 => if b1 = true then te δ6 fun y δ7 => acc1.length < sizeLine ∧ Inv1 (j + 1) (acc1 ++ [y]) (wipeD δ7 vs1) else Inv1 (j + 1) acc1 (wipeD δ6 vs1)) ∧
      ∀ acc1 δ', Inv1 ds1.length acc1 δ' → Inv (i + 1) acc1 (wipeD (wipeD δ' vs1) own)
    else Inv (i + 1) acc (wipeD δ3 own)) ∧
  ∀ acc δ', Inv ds.length acc δ' → Q (.lst acc) (wipeD δ' own)
end
end T

/-! == of tuples and dicts whose items have an own ==: either answer -/
namespace T
section
open PySem PySem.W PySem.Calls PyProof.Rows PyProof.V PySem.Spec
variable {prog : Program} {w : World} {KT : Type} [DecidableEq KT] {knd : KeyKind prog w KT} {A : Around} {E : Value → Shared → Prop} {s : Shared}
end
section
open PySem PySem.SeqAt
open AutoSeq1 (wpAny_loadPart')
open MeetsSeq MeetsSeq2 MeetsSeq3 SeqRoads2
variable {prog : Program} {w : World} {A : Around} {R : Result → Shared → Prop}
end
end T

/-! ### things that may hold things with an own ==: one address, one thing; a lock taken out of the ghost -/
namespace T
open PySem L2
mutual
def tidy : D → Bool
  | .non => true
  | .bl _ => true
  | .int _ => true
  | .str _ => true
  | .tup l => tidyL l
  | .lst l => tidyL l
  | .dct l => tidyK l
  | .dtp l => tidyT l
  | .ins _ l => tidyF l
  | .self _ _ _ => false
  | .box _ => false
  | .ty _ => false
  | .ref _ => false
  | .scr _ => false
  | .cls _ => false
  | .dself _ _ => false
def tidyL : List D → Bool
  | [] => true
  | d :: r => tidy d && tidyL r
def tidyK : List (Key × D) → Bool
  | [] => true
  | (_, d) :: r => tidy d && tidyK r
def tidyT : List (List Key × D) → Bool
  | [] => true
  | (_, d) :: r => tidy d && tidyT r
def tidyF : List (Str × D) → Bool
  | [] => true
  | (_, d) :: r => tidy d && tidyF r
end
mutual
def ht : D → Nat
  | .tup l => htL l + 1
  | .lst l => htL l + 1
  | .dct l => htK l + 1
  | .dtp l => htT l + 1
  | .ins _ l => htF l + 1
  | .non => 0
  | .bl _ => 0
  | .int _ => 0
  | .str _ => 0
  | .self _ _ _ => 0
  | .box _ => 0
  | .ty _ => 0
  | .ref _ => 0
  | .scr _ => 0
  | .cls _ => 0
  | .dself _ _ => 0
def htL : List D → Nat
  | [] => 0
  | d :: r => max (ht d) (htL r)
def htK : List (Key × D) → Nat
  | [] => 0
  | (_, d) :: r => max (ht d) (htK r)
def htT : List (List Key × D) → Nat
  | [] => 0
  | (_, d) :: r => max (ht d) (htT r)
def htF : List (Str × D) → Nat
  | [] => 0
  | (_, d) :: r => max (ht d) (htF r)
end
theorem tidyK_eq : ∀ (l : List (Key × D)), tidyK l = tidyL (l.map (·.2))
  | [] => rfl
  | (_, d) :: r => by rw [tidyK, List.map_cons, tidyL, tidyK_eq]
theorem tidyT_eq : ∀ (l : List (List Key × D)), tidyT l = tidyL (l.map (·.2))
  | [] => rfl
  | (_, d) :: r => by rw [tidyT, List.map_cons, tidyL, tidyT_eq]
theorem tidyF_eq : ∀ (l : List (Str × D)), tidyF l = tidyL (l.map (·.2))
  | [] => rfl
  | (_, d) :: r => by rw [tidyF, List.map_cons, tidyL, tidyF_eq]
theorem htK_eq : ∀ (l : List (Key × D)), htK l = htL (l.map (·.2))
  | [] => rfl
  | (_, d) :: r => by rw [htK, List.map_cons, htL, htK_eq]
theorem htT_eq : ∀ (l : List (List Key × D)), htT l = htL (l.map (·.2))
  | [] => rfl
  | (_, d) :: r => by rw [htT, List.map_cons, htL, htT_eq]
theorem htF_eq : ∀ (l : List (Str × D)), htF l = htL (l.map (·.2))
  | [] => rfl
  | (_, d) :: r => by rw [htF, List.map_cons, htL, htF_eq]
mutual
/-- class names forgotten -/
def er : D → D
  | .tup l => .tup (erL l)
  | .lst l => .lst (erL l)
  | .dct l => .dct (erK l)
  | .dtp l => .dtp (erT l)
  | .ins _ l => .ins "" (erF l)
  | .non => .non
  | .bl b => .bl b
  | .int i => .int i
  | .str s => .str s
  | .self _ _ _ => .non
  | .box _ => .non
  | .ty _ => .non
  | .ref _ => .non
  | .scr _ => .non
  | .cls _ => .non
  | .dself _ _ => .non
def erL : List D → List D
  | [] => []
  | d :: r => er d :: erL r
def erK : List (Key × D) → List (Key × D)
  | [] => []
  | (k, d) :: r => (k, er d) :: erK r
def erT : List (List Key × D) → List (List Key × D)
  | [] => []
  | (k, d) :: r => (k, er d) :: erT r
def erF : List (Str × D) → List (Str × D)
  | [] => []
  | (k, d) :: r => (k, er d) :: erF r
end
theorem erK_eq : ∀ {l m : List (Key × D)}, l.map (·.1) = m.map (·.1) → erL (l.map (·.2)) = erL (m.map (·.2)) → erK l = erK m
  | [], [], _, _ => rfl
  | [], _ :: _, h, _ => by cases h
  | _ :: _, [], h, _ => by cases h
  | (a, b) :: r, (c, d) :: s, h1, h2 => by
    simp only [List.map_cons, List.cons.injEq, erL] at h1 h2
    rw [erK, erK, h1.1, h2.1, erK_eq h1.2 h2.2]
theorem erT_eq : ∀ {l m : List (List Key × D)}, l.map (·.1) = m.map (·.1) → erL (l.map (·.2)) = erL (m.map (·.2)) → erT l = erT m
  | [], [], _, _ => rfl
  | [], _ :: _, h, _ => by cases h
  | _ :: _, [], h, _ => by cases h
  | (a, b) :: r, (c, d) :: s, h1, h2 => by
    simp only [List.map_cons, List.cons.injEq, erL] at h1 h2
    rw [erT, erT, h1.1, h2.1, erT_eq h1.2 h2.2]
theorem erF_eq : ∀ {l m : List (Str × D)}, l.map (·.1) = m.map (·.1) → erL (l.map (·.2)) = erL (m.map (·.2)) → erF l = erF m
  | [], [], _, _ => rfl
  | [], _ :: _, h, _ => by cases h
  | _ :: _, [], h, _ => by cases h
  | (a, b) :: r, (c, d) :: s, h1, h2 => by
    simp only [List.map_cons, List.cons.injEq, erL] at h1 h2
    rw [erF, erF, h1.1, h2.1, erF_eq h1.2 h2.2]
section
variable {K : PySem.W.Frag} {G : Gh}
mutual
/-- one value, one thing, but for the names of classes -/
theorem Rep.uni : ∀ {v : V} {d d' : D}, Rep K G v d → Rep K G v d' → tidy d = true → tidy d' = true → er d = er d'
  | _, _, _, .non, r, _, t => by cases r <;> first | rfl | cases t
  | _, _, _, .bl b, r, _, t => by cases r <;> first | rfl | cases t
  | _, _, _, .int i, r, _, t => by cases r <;> first | rfl | cases t
  | _, _, _, .str _, r, _, t => by cases r <;> first | rfl | cases t
  | _, _, _, .tup h q, r, t, t' => by
    cases r with
    | tup h' q' => rw [h] at h'; cases h'; rw [er, er, RepL.uni q q' t t']
    | lst h' _ => rw [h] at h'; cases h'
    | dct h' _ _ _ => rw [h] at h'; cases h'
    | dtp h' _ _ _ => rw [h] at h'; cases h'
    | ins h' _ _ => rw [h] at h'; cases h'
    | _ => cases t'
  | _, _, _, .lst h q, r, t, t' => by
    cases r with
    | lst h' q' => rw [h] at h'; cases h'; rw [er, er, RepL.uni q q' t t']
    | tup h' _ => rw [h] at h'; cases h'
    | dct h' _ _ _ => rw [h] at h'; cases h'
    | dtp h' _ _ _ => rw [h] at h'; cases h'
    | ins h' _ _ => rw [h] at h'; cases h'
    | _ => cases t'
  | _, _, _, .dct h e q w, r, t, t' => by
    cases r with
    | dct h' e' q' w' =>
      rw [h] at h'; cases h'
      rw [tidy, tidyK_eq] at t t'
      rw [er, er, erK_eq (e.symm.trans e') (RepL.uni q q' t t')]
    | lst h' _ => rw [h] at h'; cases h'
    | tup h' _ => rw [h] at h'; cases h'
    | dtp h' _ _ _ => rw [h] at h'; cases h'
    | ins h' _ _ => rw [h] at h'; cases h'
    | _ => cases t'
  | _, _, _, .dtp h e q w, r, t, t' => by
    cases r with
    | dtp h' e' q' w' =>
      rw [h] at h'; cases h'
      rw [tidy, tidyT_eq] at t t'
      rw [er, er, erT_eq (e.symm.trans e') (RepL.uni q q' t t')]
    | lst h' _ => rw [h] at h'; cases h'
    | tup h' _ => rw [h] at h'; cases h'
    | dct h' _ _ _ => rw [h] at h'; cases h'
    | ins h' _ _ => rw [h] at h'; cases h'
    | _ => cases t'
  | _, _, _, .ins h e q, r, t, t' => by
    cases r with
    | ins h' e' q' =>
      rw [h] at h'
      have h' := Option.some.inj h'
      injection h' with h1 h2 h3
      subst h3
      rw [tidy, tidyF_eq] at t t'
      rw [er, er, erF_eq (e.symm.trans e') (RepL.uni q q' t t')]
    | lst h' _ => rw [h] at h'; cases h'
    | tup h' _ => rw [h] at h'; cases h'
    | dct h' _ _ _ => rw [h] at h'; cases h'
    | dtp h' _ _ _ => rw [h] at h'; cases h'
    | _ => cases t'
  | _, _, _, .self _ _ _, _, t, _ => by cases t
  | _, _, _, .box _, _, t, _ => by cases t
  | _, _, _, .ty _, _, t, _ => by cases t
  | _, _, _, .ref _, _, t, _ => by cases t
  | _, _, _, .scr _, _, t, _ => by cases t
  | _, _, _, .cls _, _, t, _ => by cases t
  | _, _, _, .dself _ _ _ _, _, t, _ => by cases t
theorem RepL.uni : ∀ {vs : List V} {l l' : List D}, RepL K G vs l → RepL K G vs l' → tidyL l = true → tidyL l' = true → erL l = erL l'
  | _, _, _, .nil, r, _, _ => by cases r; rfl
  | _, _, _, .cons h q, r, t, t' => by
    cases r with
    | cons h' q' =>
      rw [tidyL, Bool.and_eq_true] at t t'
      rw [erL, erL, Rep.uni h h' t.1 t'.1, RepL.uni q q' t.2 t'.2]
end
end
mutual
theorem ht_er : ∀ d : D, tidy d = true → ht (er d) = ht d
  | .tup l, t => by rw [er, ht, ht, htL_er l t]
  | .lst l, t => by rw [er, ht, ht, htL_er l t]
  | .dct l, t => by rw [er, ht, ht, htK_er l t]
  | .dtp l, t => by rw [er, ht, ht, htT_er l t]
  | .ins _ l, t => by rw [er, ht, ht, htF_er l t]
  | .non, _ => rfl
  | .bl _, _ => rfl
  | .int _, _ => rfl
  | .str _, _ => rfl
  | .self _ _ _, t => by cases t
  | .box _, t => by cases t
  | .ty _, t => by cases t
  | .ref _, t => by cases t
  | .scr _, t => by cases t
  | .cls _, t => by cases t
  | .dself _ _, t => by cases t
theorem htL_er : ∀ l : List D, tidyL l = true → htL (erL l) = htL l
  | [], _ => rfl
  | d :: r, t => by rw [tidyL, Bool.and_eq_true] at t; rw [erL, htL, htL, ht_er d t.1, htL_er r t.2]
theorem htK_er : ∀ l : List (Key × D), tidyK l = true → htK (erK l) = htK l
  | [], _ => rfl
  | (_, d) :: r, t => by rw [tidyK, Bool.and_eq_true] at t; rw [erK, htK, htK, ht_er d t.1, htK_er r t.2]
theorem htT_er : ∀ l : List (List Key × D), tidyT l = true → htT (erT l) = htT l
  | [], _ => rfl
  | (_, d) :: r, t => by rw [tidyT, Bool.and_eq_true] at t; rw [erT, htT, htT, ht_er d t.1, htT_er r t.2]
theorem htF_er : ∀ l : List (Str × D), tidyF l = true → htF (erF l) = htF l
  | [], _ => rfl
  | (_, d) :: r, t => by rw [tidyF, Bool.and_eq_true] at t; rw [erF, htF, htF, ht_er d t.1, htF_er r t.2]
end
/-- the ghost without what stands at p -/
def Gh.un (G : Gh) (p : Addr) : Gh := { G with I := fun a => if a = p then none else G.I a }
section
variable {K : PySem.W.Frag} {G : Gh} {p : Addr} {d0 : D}
theorem un_ne {a : Addr} {o : HO} (hn : a ≠ p) (h : G.I a = some o) : (G.un p).I a = some o := by
  show (if a = p then none else G.I a) = some o
  rw [if_neg hn]; exact h
theorem ht_ne {d : D} (r0 : Rep K G (.ref p) d0) (t0 : tidy d0 = true) (t : tidy d = true) (hh : ht d < ht d0) {a : Addr} (r : Rep K G (.ref a) d) : a ≠ p := by
  rintro rfl
  have e := r0.uni r t0 t
  have := congrArg ht e
  rw [ht_er _ t0, ht_er _ t] at this
  omega
mutual
theorem Rep.un (r0 : Rep K G (.ref p) d0) (t0 : tidy d0 = true) : ∀ {v : V} {d : D}, Rep K G v d → tidy d = true → ht d < ht d0 → Rep K (G.un p) v d
  | _, _, .non, _, _ => .non
  | _, _, .bl b, _, _ => .bl b
  | _, _, .int i, _, _ => .int i
  | _, _, .str h, _, _ => .str h
  | _, _, .tup h q, t, l => .tup (un_ne (ht_ne r0 t0 t l (.tup h q)) h) (RepL.un r0 t0 q t (by rw [ht] at l; omega))
  | _, _, .lst h q, t, l => .lst (un_ne (ht_ne r0 t0 t l (.lst h q)) h) (RepL.un r0 t0 q t (by rw [ht] at l; omega))
  | _, _, .dct h e q w, t, l => .dct (un_ne (ht_ne r0 t0 t l (.dct h e q w)) h) e (RepL.un r0 t0 q (by rw [tidy, tidyK_eq] at t; exact t) (by rw [ht, htK_eq] at l; omega)) w
  | _, _, .dtp h e q w, t, l => .dtp (un_ne (ht_ne r0 t0 t l (.dtp h e q w)) h) e (RepL.un r0 t0 q (by rw [tidy, tidyT_eq] at t; exact t) (by rw [ht, htT_eq] at l; omega)) w
  | _, _, .ins h e q, t, l => .ins (un_ne (ht_ne r0 t0 t l (.ins h e q)) h) e (RepL.un r0 t0 q (by rw [tidy, tidyF_eq] at t; exact t) (by rw [ht, htF_eq] at l; omega))
  | _, _, .self _ _ _, t, _ => by cases t
  | _, _, .box _, t, _ => by cases t
  | _, _, .ty _, t, _ => by cases t
  | _, _, .ref _, t, _ => by cases t
  | _, _, .scr _, t, _ => by cases t
  | _, _, .cls _, t, _ => by cases t
  | _, _, .dself _ _ _ _, t, _ => by cases t
theorem RepL.un (r0 : Rep K G (.ref p) d0) (t0 : tidy d0 = true) : ∀ {vs : List V} {l : List D}, RepL K G vs l → tidyL l = true → htL l < ht d0 → RepL K (G.un p) vs l
  | _, _, .nil, _, _ => .nil
  | _, _, .cons h q, t, l => by
    rw [tidyL, Bool.and_eq_true] at t
    rw [htL] at l
    exact .cons (Rep.un r0 t0 h t.1 (by omega)) (RepL.un r0 t0 q t.2 (by omega))
end
theorem GOk.un {H : Hp} {o u : HO} (ok : GOk G H) (hp : G.I p = some o) : GOk (G.un p) (L2.upd H p u) where
  sub := fun b q h => by
    have h : (if b = p then none else G.I b) = some q := h
    by_cases e : b = p
    · rw [if_pos e] at h; cases h
    · rw [if_neg e] at h
      rw [upd_ne e]; exact ok.sub b q h
  box := fun a g h => by
    obtain ⟨b1, b2, b3⟩ := ok.box a g h
    have na : a ≠ p := fun e => by rw [e, hp] at b2; cases b2
    have ng : g ≠ p := fun e => by rw [e, hp] at b3; cases b3
    refine ⟨?_, by show (if a = p then none else G.I a) = none; rw [if_neg na]; exact b2, by show (if g = p then none else G.I g) = none; rw [if_neg ng]; exact b3⟩
    obtain ⟨gs, now, seed, turn, h1, h2, h3⟩ := b1.at_
    exact ⟨gs, now, seed, turn, by rw [upd_ne na]; exact h1, by rw [upd_ne ng]; exact h2, h3⟩
  sep := ok.sep
end
end T

/-! ### == of tuples and dicts of things with an own == -/
namespace T
open PySem L2
/-- what x == y gives inside a builtin -/
structure EqRun (X : Cx) (A : Around) (a b : D) (r : Bool) : Prop where
  run : ∀ (pins : List (Addr × Obj)) (σ : St) (H : Hp) (s : Shared) (G : Gh) (x y : V) (v u : Value), Inv X pins σ H s → GOk G H → Rep X.K G x a → Rep X.K G y b → RelV x v → RelV y u →
    wpAny (model X.prog X.w) A (eqBool v u) (fun c s' => c = r ∧ ∃ G' H', Inv X pins σ H' s' ∧ GOk G' H' ∧ Step ⟨G, H⟩ G H G' H') X.xe s
structure RcRun (X : Cx) (A : Around) (a b : D) (r : Bool) : Prop where
  run : ∀ (pins : List (Addr × Obj)) (σ : St) (H : Hp) (s : Shared) (G : Gh) (x y : V) (v u : Value), Inv X pins σ H s → GOk G H → Rep X.K G x a → Rep X.K G y b → RelV x v → RelV y u →
    wpAny (model X.prog X.w) A (richCompare .Eq v u) (fun c s' => c = .bool r ∧ ∃ G' H', Inv X pins σ H' s' ∧ GOk G' H' ∧ Step ⟨G, H⟩ G H G' H') X.xe s
def isRef : D → Bool
  | .tup _ => true
  | .lst _ => true
  | .dct _ => true
  | .dtp _ => true
  | .ins _ _ => true
  | _ => false
theorem Rep.isRef {K : PySem.W.Frag} {G : Gh} {v : V} {d : D} (r : Rep K G v d) (h : T.isRef d = true) : ∃ p, v = .ref p := by
  cases r <;> first | exact ⟨_, rfl⟩ | cases h
theorem RcRun.eq {X : Cx} {A : Around} {a b : D} {r : Bool} (h : RcRun X A a b r) (ra : T.isRef a = true) (rb : T.isRef b = true) (ta : tidy a = true) (tb : tidy b = true) (hs : er a = er b → r = true) : EqRun X A a b r := ⟨fun pins σ H s G x y v u I ok r1 r2 rv ru => by
  obtain ⟨p, rfl⟩ := r1.isRef ra
  obtain ⟨q, rfl⟩ := r2.isRef rb
  cases (show v = Value.ref p from rv)
  cases (show u = Value.ref q from ru)
  by_cases e : p = q
  · subst e
    rw [hs (r1.uni r2 ta tb)]
    exact SeqAt.EqAt.same (A := A) (s := s) (.ref p) X.prog X.w X.xe _ ⟨rfl, G, H, I, ok, Step.refl⟩
  · refine GQ.eqBool_refG e ?_
    exact wpAny_mono (h.run pins σ H s G _ _ _ _ I ok r1 r2 rfl rfl) (fun c s' q => ⟨_, q.1, rfl, q.2⟩) fun _ _ z => z⟩
section
variable {X : Cx}
/-- the room is kept, and what a call wants of the state -/
structure ArX (X : Cx) (A : Around) (n : Nat) : Prop where
  room : Room n A
  env : ∀ s H, Env0 X.prog X.w X.K X.mg X.base X.A X.stack s H → Env0 X.prog X.w X.K X.mg X.base A X.stack s H
theorem ArX.in1 {A : Around} {n : Nat} (h : ArX X A (n + 1)) : ArX X A.in1 n := ⟨h.room.in1, fun s H e => (h.env s H e).in1⟩
theorem ArX.top {n : Nat} (h : Room n X.A) : ArX X X.A n := ⟨h, fun _ _ e => e⟩
theorem ArX.mono {A : Around} {m n : Nat} (h : ArX X A n) (k : m ≤ n) : ArX X A m := ⟨h.room.mono k, h.env⟩
end
end T

namespace T
open PySem L2
theorem Step.andThen {G G1 G2 : Gh} {H H1 H2 : Hp} {G0 : Gh} {H0 : Hp} (a : Step ⟨G0, H0⟩ G H G1 H1) (hd : ∀ x, (H0 x).isSome = true → (H1 x).isSome = true) (nb : ∀ x, (H0 x).isSome = true → ¬ foot G0 x → ¬ foot G1 x) (c : Step ⟨G1, H1⟩ G1 H1 G2 H2) : Step ⟨G0, H0⟩ G H G2 H2 :=
  ⟨a.le.trans c.le, fun x h n => (c.old x (hd x h) (nb x h n)).trans (a.old x h n), fun x h n => c.noI x (hd x h) (a.noI x h n), fun x h n => c.noB x (hd x h) (a.noB x h n), fun x h q => c.dom x (hd x h) (hd x h)⟩
theorem Step.next {G G1 G2 : Gh} {H H1 H2 : Hp} (a : Step ⟨G, H⟩ G H G1 H1) (c : Step ⟨G1, H1⟩ G1 H1 G2 H2) : Step ⟨G, H⟩ G H G2 H2 := a.andThen (fun x h => a.dom x h h) (fun x h n => a.noB x h n) c
section
variable {X : Cx}
end
end T

namespace T
open PySem L2
section
variable {X : Cx} {e : Ent} {pos : Pos}
end
end T

namespace T
open PySem L2
section
variable {X : Cx} {e : Ent} {pos : Pos}
end
end T

namespace T
open PySem L2
/-! ### a list that is ours is only read by a statement: it is known by its address -/
structure LentD (K : PySem.W.Frag) (e : Ent) (l : Addr) (ds : List D) : Prop where
  ex : ∃ vs, e.H l = some (.lst vs) ∧ RepL K e.G vs ds
  nf : ¬ foot e.G l
section
variable {X : Cx} {e : Ent} {pos : Pos}
theorem LentD.now {K : PySem.W.Frag} {l : Addr} {ds : List D} {T : Tm} {G : Gh} {H : Hp} {σ : St} {δ : DSt} (h : LentD K e l ds) (S : SS K e T G H σ δ) : ∃ vs, e.H l = some (.lst vs) ∧ H l = some (.lst vs) ∧ RepL K G vs ds := by
  obtain ⟨vs, h1, h2⟩ := h.ex
  exact ⟨vs, h1, by rw [S.stp.old l (by rw [h1]; rfl) h.nf]; exact h1, h2.mono S.stp.le⟩
theorem LentD.rd {K : PySem.W.Frag} {l : Addr} {ds : List D} {T : Tm} {G : Gh} {H : Hp} {σ : St} {δ : DSt} {v : V} (h : LentD K e l ds) (S : SS K e T G H σ δ) (r : RdO K G H v (.ref l)) : RdO K G H v (.lst ds) := by
  rcases r with r | ⟨_, _, r⟩
  · cases r
    obtain ⟨vs, _, h2, h3⟩ := h.now S
    exact .inr ⟨l, rfl, vs, h2, h3⟩
  · exact r.elim
end
end T

namespace T
open PySem L2
/-! ### for a, b in zip(x, y): two tuples or two lists -/
section
variable {X : Cx} {e : Ent} {pos : Pos}
end
end T

namespace T
open PySem L2
/-! ### xs.insert(i, y) of a list that is ours -/
section
variable {X : Cx} {e : Ent} {pos : Pos}
/-! ### a slice of a list, ours -/
end
end T

namespace T
open PySem L2
/-! ### t[::-1] of a tuple -/
section
open PySem.Spec PyProof.Rows HT
variable {prog : Program} {w : World} {A : Around} {E : Value → Shared → Prop} {s : Shared}
end
section
open PySem.Spec PyProof.Rows
variable {X : Cx} {e : Ent} {pos : Pos}
end
end T

namespace T
open PySem PySem.Spec L2
/-! ### constructors that may raise -/
abbrev SpIX := List D → (List (Str × D) → Prop) → (Str → List (Str × D) → Prop) → Prop
def toSpIX (K : PySem.W.Frag) (C : Str) (sd : SpIX) : Sp := fun vs H Q E => ∃ (G : Gh) (H0 : Hp) (x dx : Addr) (vs' : List V) (ds : List D) (Qd : List (Str × D) → Prop) (Ed : Str → List (Str × D) → Prop), vs = .ref x :: vs' ∧ H = L2.upd (L2.upd H0 dx (.own x)) x (.ins (He.ga K C) dx []) ∧ H0 x = none ∧ H0 dx = none ∧ dx ≠ x ∧
  GOk G H0 ∧ RepL K G vs' ds ∧ sd ds Qd Ed ∧ (∀ fs G' H', GOk G' H' → Step ⟨G, H0⟩ G H0 G' H' → Mine K ⟨G, H0⟩ G' H' x (.ins C fs) → Qd fs → Q .non H') ∧
  (∀ C' fs da fvs G' H', GOk G' H' → Step ⟨G, H0⟩ G H0 G' H' → XdAt K G' da fs fvs → Ed C' fs → E (.ref (He.ga K C')) (some da) H')
theorem fn_iX {P : Program} {w : World} {K : PySem.W.Frag} {mg : Str → Option Value} {base : Heap} {x qual : Str} {params : Arguments} {body : List Stmt} {scope : Scope} {kws : List (Str × V)} {f : Addr} {fd : FuncData} {N ps : List Str} {k : Nat} {C : Str} {sd : SpIX} {t : ExD → TDS}
    (F : FunD K x qual params body scope [] kws f fd) (S : FnScope N ps scope) (len : ∀ ds Q Ed, sd ds Q Ed → ds.length + 1 = ps.length)
    (hb : ∀ (cdv : Value) (A : Around) (outer : List Env) (s : Shared) (H : Hp) (E : XK) (e : Ent) (ex : ExD), Room k (A.deeper (PyProof.Rows.envOfC qual scope s.heap.objs.size f cdv)) → Takes (cxOf (L2.CX P w) P w K mg base N qual scope f cdv A outer s H E) (WD K e ex) →
      PassesOwn (model P w) (cxOf (L2.CX P w) P w K mg base N qual scope f cdv A outer s H E).A (cxOf (L2.CX P w) P w K mg base N qual scope f cdv A outer s H E).env (cxOf (L2.CX P w) P w K mg base N qual scope f cdv A outer s H E).xe → DSs0 (cxOf (L2.CX P w) P w K mg base N qual scope f cdv A outer s H E) e body (t ex))
    (hp : ∀ y ds Q Ed, sd ds Q Ed → t (fun _ C fs => Ed C fs) { nx := fun δ => ∃ fs, δ[0]? = some (.ow (.self y C fs)) ∧ Q fs, rt := fun _ _ => False } (startI N.length y C ds)) : FnOk P w K mg base (L2.CX P w) (k + 1) f fd ps (toSpIX K C sd) := by
  obtain ⟨oc, od, dV, kV, doc, pm, an, cdv, ct, osl, rfl, lk, hcd, hD, _⟩ := F.ex
  exact fn_of (CX := L2.CX P w) (P := P) (w := w) (mg := mg) (base := base) (k := k) (sp := toSpIX K C sd) lk hcd S (fun vs H Q E h => by
    obtain ⟨G, H0, y, dy, vs', ds, Qd, Ed, rfl, rfl, _, _, _, ok, r, q, _⟩ := h
    rw [List.length_cons, r.length]
    exact len ds Qd Ed q) (fun A outer s H vs Q E hr h => by
    obtain ⟨G, H0, y, dy, vs', ds, Qd, Ed, rfl, rfl, ny, ndy, ne, ok, r, q, kn, kx⟩ := h
    have tk : Takes (cxOf (L2.CX P w) P w K mg base N qual scope f cdv A outer s (L2.upd (L2.upd H0 dy (.own y)) y (.ins (He.ga K C) dy [])) E) (fun cls d _ H => E cls d H) := takes_of rfl rfl rfl rfl
    refine ⟨_, hb cdv A outer s _ E ⟨G, H0⟩ (fun _ C fs => Ed C fs) hr (tk.imp fun cls d σ H' ⟨G', δ, C', fs, da, fvs, S', h1, h2, h3, h4, h5, h6⟩ => ?_) (passes_of rfl), G, startI N.length y C ds, _, start_ssI ok r ny ndy ne, hp y ds Qd Ed q, fun σ' δ' G' H' le S' q' => ?_, fun _ _ _ _ _ _ _ _ q' => q'.elim, fun _ _ _ _ _ _ q' => q'.elim, fun _ _ _ _ _ _ q' => q'.elim⟩
    · subst h1
      subst h2
      exact kx C' fs da fvs G' H' S'.ok S'.stp ⟨h3, h4, h5⟩ h6
    · obtain ⟨fs, hδ, qf⟩ := q'
      obtain ⟨o, h1, l, rfl, m⟩ := S'.sl 0 _ hδ
      obtain ⟨rfl, own⟩ := m.own
      exact kn fs G' H' S'.ok S'.stp ⟨own, m.nI, m.nB, m.new⟩ qf)
/-- a constructor that may raise, where it does not -/
theorem fnI_ofX {P : Program} {w : World} {K : PySem.W.Frag} {mg : Str → Option Value} {base : Heap} {k : Nat} {f : Addr} {fd : FuncData} {ps : List Str} {C : Str} {sx : SpIX} (F : FnOk P w K mg base (L2.CX P w) k f fd ps (toSpIX K C sx)) : FnOk P w K mg base CX0 k f fd ps (toSpI K C fun ds Q => sx ds Q noX) := by
  have go : ∀ {vs : List V} {H : Hp} {Q : VK} {E E' : XK}, toSpI K C (fun ds Q => sx ds Q noX) vs H Q E → toSpIX K C sx vs H Q E' := fun {vs H Q E E'} h => by
    obtain ⟨G, H0, x, dx, vs', ds, Qd, h1, h2, nx, ndx, ne, ok, r, q, kk⟩ := h
    exact ⟨G, H0, x, dx, vs', ds, Qd, noX, h1, h2, nx, ndx, ne, ok, r, q, kk, fun _ _ _ _ _ _ _ _ _ z => z.elim⟩
  refine ⟨fun vs H Q E h => F.len vs H Q E (go h), fun A outer s H args us vs Q E hr e0 hb r hs => ?_⟩
  refine codeAny_mono (F.run A outer s H args us vs Q (fun _ _ _ => False) hr e0 hb r (go hs)) fun r s' hq => ?_
  cases r with
  | error u =>
    obtain ⟨a, B, H', cls, d, _, _, _, _, _, _, _, z⟩ := hq
    exact z.elim
  | ok fl => cases fl <;> exact hq
structure CalIX (P : Program) (w : World) (K : PySem.W.Frag) (mg : Str → Option Value) (base : Heap) (k : Nat) (C : Str) (sd : SpIX) : Prop where
  ex : ∃ f fd ps, FnOk P w K mg base (L2.CX P w) k f fd ps (toSpIX K C sd) ∧ mg C = some (.ref (He.ga K C)) ∧ Mk K (He.ga K C) f ∧ Binds K fd ps []
section
variable {X : Cx} {e : Ent} {pos : Pos}
theorem run_makeRS {CX : CXT} {k : Nat} {f C : Addr} {fd : FuncData} {ps : List Str} {sp : Sp} {E : St → XK} {pins : List (Addr × Obj)} {σ : St} {H : Hp} {s : Shared} {Q : VK} {us : List Value} {vs : List V} (M : Mk X.K C f) (F : FnOk X.prog X.w X.K X.mg X.base CX k f fd ps sp) (hr : Room (k + 1) X.A) (hb : Binds X.K fd ps [])
    (hx : PassesAt CX X σ (E σ)) (I : Inv X pins σ H s) (r : Vals vs us)
    (h : ∀ x dx, H x = none → H dx = none → dx ≠ x → sp (.ref x :: vs) (L2.upd (L2.upd H dx (.own x)) x (.ins C dx [])) (fun v H2 => v = .non ∧ Q (.ref x) H2) (E σ)) :
    wpAny (model X.prog X.w) X.A (call (.ref C) us) (EP X pins σ Q) X.xe s := by
  have hq := h (s.heap.objs.size + 1) s.heap.objs.size (I.hok.fresh (Nat.le_succ _)) (I.hok.fresh (Nat.le_refl _)) (Nat.ne_of_lt (Nat.lt_succ_self _))
  have I2 := Inv.made (C := C) I
  have r2 : Vals (V.ref (s.heap.objs.size + 1) :: vs) ((Value.ref (s.heap.objs.size + 1) :: us) ++ []) := by rw [List.append_nil]; exact .cons rfl r
  have hl : ((Value.ref (s.heap.objs.size + 1) :: us) ++ []).length = ps.length := by
    have e := r2.length
    rw [F.len _ _ _ _ hq] at e
    exact e.symm
  refine wpAny_call (make_map (f := f) I.kIn M.makes M.init (beq_iff_eq.mp M.fn) (codeAny_mono (F.run _ X.stack _ _ ⟨Value.ref (s.heap.objs.size + 1) :: us, []⟩ ((Value.ref (s.heap.objs.size + 1) :: us) ++ []) _ _ (E σ) (hr.make C us [])
    (I2.env0.make C us []) (hb _ (Value.ref (s.heap.objs.size + 1) :: us) I2.kIn hl) r2 hq) fun r s' hq' => ?_))
  cases r with
  | error e => exact hx pins _ _ e s' I2 hq'
  | ok fl =>
    cases fl with
    | ret u =>
      obtain ⟨v, H', I3, rv, ev, q3⟩ := I2.after hq'
      subst ev
      exact ⟨rv, ⟨V.ref (s.heap.objs.size + 1), H', I3, rfl, q3⟩⟩
    | next => exact False.elim hq'
    | brk => exact False.elim hq'
    | cont => exact False.elim hq'
def tMakeS (C : Addr) (sp : Sp) (E : St → XK) (t : TA) : TE := fun σ H Q => t σ H fun vs H1 => ∀ x dx, H1 x = none → H1 dx = none → dx ≠ x → sp (.ref x :: vs) (L2.upd (L2.upd H1 dx (.own x)) x (.ins C dx [])) (fun v H2 => v = .non ∧ Q (.ref x) H2) (E σ)
theorem pe_makeRS {CX : CXT} {k : Nat} {f C : Addr} {fd : FuncData} {ps : List Str} {sp : Sp} {E : St → XK} {x : Str} {p : Pos} {a : Expr} {es : List Expr} {t : TA} (M : Mk X.K C f) (F : FnOk X.prog X.w X.K X.mg X.base CX k f fd ps sp) (hr : Room (k + 1) X.A) (hg : Gl X x) (hm : X.mg x = some (.ref C)) (hb : Binds X.K fd ps []) (hx : ∀ σ, PassesAt CX X σ (E σ))
    (ha : PA X (a :: es) t) (hdb : (x == ("__debug__" : Str)) = false := by decide) (he : starEach (a :: es) X.env = (false, eval a X.env) :: starEach es X.env := by rfl) (hpl : (backTo pos (starEach es X.env)).any (·.1) = false := by rfl) :
    PE X (.Call (.Name x p) (a :: es) [] pos) (tMakeS C sp E t) := by
  refine ⟨fun pins s σ H Q I h => ?_⟩
  refine wpAny_Call_Name_kw (ld_glob I hg hm ?_ hdb)
  refine PySem.W.callWith_K (h₀ := X.base) I.ok.mod.kin M.kp (thn (ha.run pos pins s σ H _ I h) fun us s1 ⟨vs, H1, I1, r, q⟩ => ⟨I1.kIn, ?_⟩) he hpl
  exact run_makeRS M F hr hb (hx σ) I1 r q
/-- C(..), which may raise -/
def dNewX (ex : ExD) (C : Str) (sd : SpIX) (t : TDA) : TDE := fun δ Q => t δ fun ds δ1 => sd ds (fun fs => Q (.ins C fs) δ1) fun C' fs => ex δ1 C' fs
theorem de0_newX {k j : Nat} {C : Str} {sd : SpIX} {ex : ExD} {a : Expr} {es : List Expr} {t : TDA} {p : Pos} (c : CalIX X.prog X.w X.K X.mg X.base k C sd) (hr : Room j X.A) (hk : k + 1 ≤ j) (tk : Takes X (WD X.K e ex)) (hg : Gl X C) (ha : DA X e (a :: es) t)
    (hd : (C == ("__debug__" : Str)) = false := by decide) (he : starEach (a :: es) X.env = (false, eval a X.env) :: starEach es X.env := by rfl) (hpl : (backTo pos (starEach es X.env)).any (·.1) = false := by rfl) : DE0 X e (.Call (.Name C p) (a :: es) [] pos) (dNewX ex C sd t) := by
  obtain ⟨f, fd, ps, F, hm, M, hb⟩ := c.ex
  refine pe_imp (pe_makeRS M F (hr.mono hk) hg hm hb (fun σ => passAt tk σ) ha hd he hpl) fun σ H Q ⟨G, δ, Qd, S, q, k⟩ => ?_
  refine ⟨.nil, G, δ, _, S, q, fun vs ds H1 G1 δ1 S1 st1 r len q1 x dx nx ndx ne => ?_⟩
  refine ⟨G1, H1, x, dx, vs, ds, _, _, rfl, rfl, nx, ndx, ne, S1.ok, r, q1, fun fs G' H' ok c m qd => ⟨rfl, ?_⟩, fun C' fs da fvs G' H' ok c xd hx => ?_⟩
  · obtain ⟨S2, st2⟩ := S1.after ok c
    have ap := (S1.new (p := x) (o := .own x) nx).2.2.2.2.2
    obtain ⟨G3, S3, st3, rep⟩ := S2.freeze (l := x) (d := .ins C fs) ⟨m.own, m.nI, m.nB, S1.s.eNone nx⟩ ap
    exact k (.ref x) (.ins C fs) H' G3 δ1 S3 ((st1.trans st2).trans st3) rep qd
  · obtain ⟨S2, st2⟩ := S1.after ok c
    exact ⟨G', δ1, C', fs, da, fvs, S2, rfl, rfl, xd.at_, xd.nm, xd.rp, hx⟩
end
end T

namespace T
open PySem L2
abbrev FnQ (K : PySem.W.Frag) (x ql : Str) (st : Stmt) (f : Addr) (fd : FuncData) : Prop := FunD K x ql (defArgs st) (defBody st) (defScope st) [] [] f fd
/-! ### names: plain data -/
def alpha (l : List Nat) : Prop := ∀ c ∈ l, 97 ≤ c ∧ c ≤ 122
structure isW (s : Str) : Prop where
  lo : 1 ≤ (cs s).length
  hi : (cs s).length ≤ 6
  al : alpha (cs s)
theorem str_ext {a b : Str} (h : cs a = cs b) : a = b := by
  cases a; cases b
  have : _ = _ := Array.toList_inj.mp h
  cases this; rfl
theorem cs_app (a b : Str) : cs (a ++ b) = cs a ++ cs b := by
  show (a.cps ++ b.cps).toList = _
  rw [Array.toList_append]; rfl
theorem cs_len (s : Str) : (cs s).length = s.length := Array.length_toList
def lt1 (k : Nat) : Str := ⟨#[97 + k]⟩
theorem cs_lt1 (k : Nat) : cs (lt1 k) = [97 + k] := rfl
def abc : Str := "abcdefghijklmnopqrstuvwxyz"
theorem abc_cs : cs abc = (List.range 26).map (97 + ·) := by decide +kernel
theorem ix_abc {i : Int} {Q : D → Prop} (h0 : 0 ≤ i) (h1 : i < 26) (q : Q (.str (lt1 i.toNat))) : ixX (.str abc) (.int i) Q := by
  refine ix_str (by decide +kernel) h0 (by show i < ((abc.length : Nat) : Int); rw [← cs_len, abc_cs]; simpa using h1) fun c hc => ?_
  have hc : (cs abc)[i.toNat]? = some c := hc
  rw [abc_cs, List.getElem?_map, List.getElem?_range (by omega)] at hc
  cases hc
  exact q
theorem alpha_app {a b : List Nat} (h : alpha a) (k : alpha b) : alpha (a ++ b) := fun c hc => (List.mem_append.mp hc).elim (h c) (k c)
theorem alpha_take {a : List Nat} (n : Nat) (h : alpha a) : alpha (a.take n) := fun c hc => h c (List.mem_of_mem_take hc)
theorem alpha_drop {a : List Nat} (n : Nat) (h : alpha a) : alpha (a.drop n) := fun c hc => h c (List.mem_of_mem_drop hc)
theorem alpha_lt1 {k : Nat} (h : k < 26) : alpha (cs (lt1 k)) := fun c hc => by
  rw [cs_lt1, List.mem_singleton] at hc
  omega
theorem cs_join : ∀ ss : List Str, cs (Str.join "" ss) = (ss.map cs).flatten
  | [] => rfl
  | [x] => by simp [Str.join]
  | x :: y :: r => by
    have ih := cs_join (y :: r)
    show cs ((x ++ ("" : Str)) ++ Str.join "" (y :: r)) = _
    rw [cs_app, cs_app, ih]
    have : cs ("" : Str) = [] := rfl
    rw [this, List.append_nil]
    rfl
theorem cs_cut (s : Str) (lo hi : Option Int) : cs (cutS s lo hi) = cutL (cs s) lo hi := by
  unfold cs cutS cutL
  simp
  rfl
/-- the letters of the k-th found name -/
def tag (f k : Nat) : List Nat := if k < 26 then [97 + (f + 7 * k) % 26] else [97 + (f + 7 * k) % 26, 97 + k / 26]
theorem tag_inj {f k l : Nat} (hk : k < 52) (hl : l < 52) (h : tag f k = tag f l) : k = l := by
  unfold tag at h
  split at h <;> split at h
  · simp only [List.cons.injEq, and_true] at h; omega
  · simp at h
  · simp at h
  · simp only [List.cons.injEq, and_true] at h; omega
theorem mid_inj {α : Type} {a b x y : List α} (h : a ++ x ++ b = a ++ y ++ b) : x = y := by
  rw [List.append_assoc, List.append_assoc] at h
  exact List.append_cancel_right (List.append_cancel_left h)
/-- strings of a and b -/
def plist : Nat → List (List Nat)
  | 0 => [[97], [98]]
  | i + 1 => plist i ++ [((plist i).getD i []) ++ [97], ((plist i).getD i []) ++ [98]]
theorem plist_len (i : Nat) : (plist i).length = 2 * i + 2 := by
  induction i with
  | zero => rfl
  | succ i ih => rw [plist, List.length_append, ih]; rfl
theorem plist_pre {i j : Nat} (h : i ≤ j) : plist i <+: plist j := by
  induction h with
  | refl => exact List.prefix_rfl
  | step _ ih => exact ih.trans (by rw [plist]; exact List.prefix_append _ _)
theorem plist_ok : ((plist 40).take 40).Nodup ∧ ∀ l ∈ (plist 40).take 40, 1 ≤ l.length ∧ l.length ≤ 6 ∧ alpha l := by
  unfold alpha
  decide +kernel
def mk (l : List Nat) : Str := ⟨l.toArray⟩
theorem cs_mk (l : List Nat) : cs (mk l) = l := by simp [cs, mk]
theorem mk_inj {a b : List Nat} (h : mk a = mk b) : a = b := by rw [← cs_mk a, ← cs_mk b, h]
/-- the k-th found name -/
def fnd (st : Str) (a f k : Nat) : Str := mk ((cs st).take a ++ tag f k ++ (cs st).drop a)
theorem fnd_inj {st : Str} {a f k l : Nat} (hk : k < 52) (hl : l < 52) (h : fnd st a f k = fnd st a f l) : k = l := tag_inj hk hl (mid_inj (mk_inj h))
theorem tag_len (f k : Nat) : 1 ≤ (tag f k).length ∧ (tag f k).length ≤ 2 := by unfold tag; split <;> simp
theorem tag_al {f k : Nat} (h : k < 52) : alpha (tag f k) := by
  intro c hc
  unfold tag at hc
  split at hc
  · rw [List.mem_singleton] at hc; omega
  · simp only [List.mem_cons, List.not_mem_nil, or_false] at hc
    rcases hc with rfl | rfl <;> omega
theorem fnd_isW {st : Str} {a f k : Nat} (hk : k < 52) (hs : alpha (cs st)) (hl : (cs st).length ≤ 4) : isW (fnd st a f k) := by
  have h := tag_len f k
  have e : (cs (fnd st a f k)).length = (cs st).length + (tag f k).length := by
    unfold fnd
    rw [cs_mk, List.length_append, List.length_append, List.length_take, List.length_drop]
    omega
  refine ⟨by omega, by omega, ?_⟩
  unfold fnd
  rw [cs_mk]
  exact alpha_app (alpha_app (alpha_take _ hs) (tag_al hk)) (alpha_drop _ hs)
theorem range_nodup {n : Nat} {f : Nat → Str} (h : ∀ k l, k < n → l < n → f k = f l → k = l) : ((List.range n).map f).Nodup := by
  rw [List.nodup_iff_pairwise_ne, List.pairwise_map]
  have := List.nodup_iff_pairwise_ne.mp (List.nodup_range (n := n))
  refine List.Pairwise.imp_of_mem (fun {x y} hx hy hne e => hne (h x y (List.mem_range.mp hx) (List.mem_range.mp hy) e)) this
def wds : List Str := ["places", "edge", "rope", "party", "pull", "row", "undo", "show", "reach", "haul", "rest", "free", "nobody", "still", "length", "a"]
theorem wds_ok : wds.Nodup ∧ ∀ s ∈ wds, 1 ≤ (cs s).length ∧ (cs s).length ≤ 6 ∧ alpha (cs s) := by
  unfold alpha
  decide +kernel
theorem wds_isW {s : Str} (h : s ∈ wds) : isW s := let ⟨a, b, c⟩ := wds_ok.2 s h; ⟨a, b, c⟩

/-- a name that is drawn: a word, not zzzzzz -/
def zz6 : List Nat := [122, 122, 122, 122, 122, 122]
def isNm (s : Str) : Prop := isW s ∧ cs s ≠ zz6
theorem fnd_isNm {st : Str} {a f k : Nat} (hk : k < 52) (hs : alpha (cs st)) (hl : (cs st).length ≤ 4) : isNm (fnd st a f k) := by
  refine ⟨fnd_isW hk hs hl, fun z => ?_⟩
  have e : (cs (fnd st a f k)).length = (cs st).length + (tag f k).length := by
    unfold fnd
    rw [cs_mk, List.length_append, List.length_append, List.length_take, List.length_drop]
    omega
  rw [z] at e
  have e : 6 = (cs st).length + (tag f k).length := e
  by_cases h : k < 26
  · have : (tag f k).length = 1 := by unfold tag; rw [if_pos h]; rfl
    omega
  · have hm : (97 + k / 26) ∈ cs (fnd st a f k) := by
      unfold fnd
      rw [cs_mk]
      refine List.mem_append_left _ (List.mem_append_right _ ?_)
      unfold tag
      rw [if_neg h]
      simp
    rw [z] at hm
    unfold zz6 at hm
    simp at hm
    omega
theorem wds_nz : ∀ s ∈ wds, cs s ≠ zz6 := by decide +kernel
theorem wds_isNm {s : Str} (h : s ∈ wds) : isNm s := ⟨wds_isW h, wds_nz s h⟩
theorem plist_nz : ∀ l ∈ (plist 40).take 40, l ≠ zz6 := by decide +kernel

/-! ### trees: plain data -/
abbrev Ed := Str × Str
local macro_rules | `(tactic| walk_at "dt") => `(tactic| try simp only [↓s_next, ↓s_seq, ↓s_sto, ↓s_drop, ↓s_ret, ↓s_if, ↓s_never, ↓s_asg, ↓s_asgO, ↓s_pars, ↓s_great, ↓g_name, ↓g_nil, ↓g_cons, ↓g_seqT, ↓g_seqL, ↓g_box, ↓for_eq, ↓lc_eq, ↓dc_eq, ↓i_seq, ↓i_enum, ↓i_range1,
  ↓vi0, ↓vo0, ↓ri0, ↓ro0, ↓ol0, ↓as0, ↓vi1, ↓vo1, ↓ri1, ↓ro1, ↓ol1, ↓as1, ↓vi2, ↓vo2, ↓ri2, ↓ro2, ↓ol2, ↓as2, ↓vi3, ↓vo3, ↓ri3, ↓ro3, ↓ol3, ↓as3, ↓vi4, ↓vo4, ↓ri4, ↓ro4, ↓ol4, ↓as4, ↓vi5, ↓vo5, ↓ri5, ↓ro5, ↓ol5, ↓as5, ↓vi6, ↓vo6, ↓ri6, ↓ro6, ↓ol6, ↓as6, ↓vi7, ↓vo7, ↓ri7, ↓ro7, ↓ol7, ↓as7, ↓vi8, ↓vo8, ↓ri8, ↓ro8, ↓ol8, ↓as8, ↓vi9, ↓vo9, ↓ri9, ↓ro9, ↓ol9, ↓as9, ↓vi10, ↓vo10, ↓ri10, ↓ro10, ↓ol10, ↓as10, ↓vi11, ↓vo11, ↓ri11, ↓ro11, ↓ol11, ↓as11, ↓vi12, ↓vo12, ↓ri12, ↓ro12, ↓ol12, ↓as12, ↓vi13, ↓vo13, ↓ri13, ↓ro13, ↓ol13, ↓as13, ↓vi14, ↓vo14, ↓ri14, ↓ro14, ↓ol14, ↓as14, ↓vi15, ↓vo15, ↓ri15, ↓ro15, ↓ol15, ↓as15, ↓vi16, ↓vo16, ↓ri16, ↓ro16, ↓ol16, ↓as16, ↓vi17, ↓vo17, ↓ri17, ↓ro17, ↓ol17, ↓as17, ↓vi18, ↓vo18, ↓ri18, ↓ro18, ↓ol18, ↓as18, ↓vi19, ↓vo19, ↓ri19, ↓ro19, ↓ol19, ↓as19, ↓vi20, ↓vo20, ↓ri20, ↓ro20, ↓ol20, ↓as20, ↓vi21, ↓vo21, ↓ri21, ↓ro21, ↓ol21, ↓as21, ↓vi22, ↓vo22, ↓ri22, ↓ro22, ↓ol22, ↓as22, ↓vi23, ↓vo23, ↓ri23, ↓ro23, ↓ol23, ↓as23, ↓vi24, ↓vo24, ↓ri24, ↓ro24, ↓ol24, ↓as24, ↓vi25, ↓vo25, ↓ri25, ↓ro25, ↓ol25, ↓as25, ↓at_s1, ↓at_s0, ↓at_w1, ↓at_w0, ↓mt_b, ↓mt_l, ↓mt_t, ↓mt_i,
  ↓e_c, ↓e_nil, ↓e_cons, ↓e_tup, ↓e_lst, ↓e_two1, ↓e_two2, ↓e_two3, ↓e_two4, ↓e_bin, ↓e_tbin, ↓e_chain, ↓e_and, ↓e_or, ↓e_not, ↓e_tru1, ↓e_tru2, ↓e_andV, ↓e_orV, ↓e_notV, ↓e_if, ↓e_call, ↓e_p0, ↓e_p1, ↓e_one1, ↓e_one2, ↓e_b1, ↓e_b2, ↓e_tb2, ↓e_sl1, ↓e_sl2, ↓e_append, ↓e_extend, ↓e_popAt, ↓e_yes, ↓e_join, ↓in_strL, ↓in_strT, ↓x_mulS, ↓e_new, ↓e_newV, ↓e_meth, ↓e_prop, ↓e_stat, ↓e_statI, ↓e_clsM, ↓e_evN, ↓e_evI, ↓e_evO, ↓e_boxNew,
  z0, z1, z2, h0, h1, h2, ↓bx0, ↓rgI, ↓sqL, ↓sqT, ↓sqR, ↓enL, ↓enT, ↓lsL, wipeD, e_var, v0, v1, r0, r1, o0, m0, at0, setD, startD, startI, dFldSet,
  List.map_cons, List.map_nil, List.replicate, List.cons_append, List.nil_append, List.length_cons, List.length_nil, List.getElem?_cons_zero, List.getElem?_cons_succ, List.getElem?_nil, List.set_cons_zero, List.set_cons_succ, List.set_nil, Nat.reduceAdd, Nat.reduceSub, Nat.sub_zero, Nat.sub_self, Nat.zero_add, Nat.add_zero,
  true_and, and_true, if_true, if_false, Bool.false_eq_true, Bool.not_true, Bool.not_false, Bool.not_eq_true, decide_true, decide_false, Bool.true_eq_false, reduceCtorEq, ite_true, ite_false, List.mem_cons, List.not_mem_nil, or_false, beq_self_eq_true, Nat.reduceLT, Nat.reduceLeDiff, Int.reduceLT, Int.reduceLE, Int.reduceAdd, Int.reduceSub, Int.reduceMul, Int.reducePow, Int.reduceToNat, Int.reduceEq, Int.reduceNeg, Int.reduceMod, Int.reduceDiv, Nat.reduceEqDiff, and_self, Bool.not_not,
  ↓x_bl, x_truB, x_truL, x_truT, x_truI, ↓x_eqI, ↓x_eqS, ↓x_eqB, ↓x_neI, ↓x_neS, ↓x_neB, ↓x_addI, ↓x_addL, ↓x_addT, ↓x_addS, ↓x_subI, ↓x_mulI, ↓x_modI, ↓x_fdivI, ↓x_powI, ↓x_lt, ↓x_le, ↓x_gt, ↓x_ge, ↓x_ltP, ↓x_leP, ↓x_gtP, ↓x_geP, ↓x_lenL, ↓x_lenT, ↓x_lenS, ↓x_tupL, ↓x_tupT, ↓x_lisL, ↓x_lisT, ↓x_rev, ↓x_intI, ↓x_intB, ↓x_abs, ↓x_min, ↓x_max, ↓x_is, ↓x_isNot, x_isN0, x_isN1, x_isN2, x_isN3, x_isN4, ↓x_nil, ↓x_nnil, ↓x_ix0, ↓x_ix1, ↓x_ix2, ↓x_ix3, ↓x_ix4, ↓x_ix5, ↓x_ix6, ↓x_ix7, ↓x_it0, ↓x_it1, ↓x_it2, ↓x_ixB, x_kn, x_ks, x_kt, ↓x_slL, ↓x_slT, ↓x_slS, ↓x_slR,
  ↓s_aug, ↓g_put, ↓g_item, ↓e_callB, ↓e_disp, ↓e_ps0, ↓e_ps1, ↓i_str, ↓i_range2, ↓e_get2, ↓e_step, ↓x_step, ↓e_f1, ↓e_fstr, ↓e_fs0, ↓e_fs1, ↓e_fs2, ↓x_repr, ↓x_strI, ↓x_strS, ↓x_onStr, ↓x_onInt, ↓oa0, ↓od0, ↓oa1, ↓od1, ↓oa2, ↓od2, ↓oa3, ↓od3, ↓oa4, ↓od4, ↓oa5, ↓od5, ↓oa6, ↓od6, ↓oa7, ↓od7, ↓oa8, ↓od8, ↓oa9, ↓od9, ↓oa10, ↓od10, ↓oa11, ↓od11, ↓oa12, ↓od12, h3, h4, x_ko0, x_ko1, x_ko2, ↓x_ixK, ↓x_ixZ, ↓x_inK, ↓x_listK, ↓x_listZ, ↓x_listT, ↓x_isS, ↓x_isT, ↓x_inS])

/-! ### trees: data -/
def dps (ps : List Str) : D := .tup (ps.map D.str)
/-- a word, by its signs -/
def wordB (s : Str) : Bool := decide (1 ≤ s.length) && (decide (s.length ≤ 6) && (cs s).all fun c => decide (c ∈ abc.cps.toList))
theorem mem_abc {c : Nat} : c ∈ abc.cps.toList ↔ 97 ≤ c ∧ c ≤ 122 := by
  have e : abc.cps.toList = (List.range 26).map (97 + ·) := abc_cs
  rw [e, List.mem_map]
  constructor
  · rintro ⟨k, hk, rfl⟩; have := List.mem_range.mp hk; omega
  · exact fun h => ⟨c - 97, List.mem_range.mpr (by omega), by omega⟩
theorem wordB_iff {s : Str} : wordB s = true ↔ isW s := by
  unfold wordB
  rw [Bool.and_eq_true, Bool.and_eq_true, decide_eq_true_iff, decide_eq_true_iff, List.all_eq_true]
  constructor
  · rintro ⟨h1, h2, h3⟩
    exact ⟨by rw [cs_len]; exact h1, by rw [cs_len]; exact h2, fun c hc => mem_abc.mp (of_decide_eq_true (h3 c hc))⟩
  · rintro ⟨h1, h2, h3⟩
    exact ⟨by rw [← cs_len]; exact h1, by rw [← cs_len]; exact h2, fun c hc => decide_eq_true (mem_abc.mpr (h3 c hc))⟩
/-- whether any plain thing is a word -/
def wordD : D → Bool
  | .str s => wordB s
  | _ => false
/-- a thing of which is_word may be asked -/
def askB : D → Prop
  | .str s => s.length ≤ 100000
  | .non => True
  | .bl _ => True
  | .int _ => True
  | .tup _ => True
  | _ => False
def sd_is_word : SpD := fun ds Q => ∃ v, ds = [v] ∧ askB v ∧ Q (.bl (wordD v))
theorem len_is_word (ds : List D) (Q : D → Prop) (h : sd_is_word ds Q) : ds.length = 1 := by obtain ⟨a, rfl, _⟩ := h; rfl
theorem word_at {v : D} {Q : D → Prop} : sd_is_word [v] Q = (askB v ∧ Q (.bl (wordD v))) := by
  rw [eq_iff_iff]
  exact ⟨fun ⟨a, e, h⟩ => by cases e; exact h, fun h => ⟨v, rfl, h⟩⟩
abbrev N_is_word : List Str := ["value", "letter"]
theorem sc_is_word : FnScope N_is_word ["value"] (defScope st_is_word) := ⟨rfl, rfl, rfl, by decide +kernel, rfl, by decide +kernel, by decide +kernel⟩
def t_is_word : TDS :=
  dSeq (dIfS (dOr (dNot (dTru (.ex (dB2 isiX (dVar 0) (dC (.ty "str")))))) (dNot (fun δ Q => dChain (leD) (leD) (dC (.int 1)) (dB1 lenD (.sl 0)) (dC (.int 6)) δ fun z δ' => onBl z fun b => Q b δ'))) (dRet (dC (.bl false))) (dNext))
  (dRet (dB1 (anyD true) (.ex (dLc (iStrD (dVar 0)) (dgName 1) (dYes) (dBin (inX false) (.sl 1) (.ex (dC (.str "abcdefghijklmnopqrstuvwxyz")))) [1]))))
theorem pure_is_word (ds : List D) (Q : D → Prop) (h : sd_is_word ds Q) : t_is_word (ends Q) (startD 2 ds) := by
  obtain ⟨v, rfl, ha, q⟩ := h
  unfold t_is_word
  cases v with
  | str s =>
    have hl : s.length ≤ sizeLine := Nat.le_of_lt (line_of ha)
    walk_at "dt"
    refine ⟨hl, if_b (fun h1 => if_b (fun h2 => ?_) fun h2 => ?_) fun h1 => ?_⟩
    · have e : wordD (.str s) = false := by
        show wordB s = false
        have : decide (s.length ≤ 6) = false := decide_eq_false fun z => by
          have z2 : decide ((s.length : Int) ≤ 6) = true := decide_eq_true (by omega)
          rw [z2] at h2; cases h2
        unfold wordB
        rw [this, Bool.false_and, Bool.and_false]
      rw [e] at q; exact q
    · refine lc_m (cs s) (fun c => D.str ⟨#[c]⟩) (fun c => .bl (decide (c ∈ abc.cps.toList))) rfl (by rw [cs_len]; exact ha) (fun x hx K1 k1 => ?_) ?_
      · walk_at "dt"
        exact k1
      · dsimp only [atS]
        rw [all_at (fun c => decide (c ∈ abc.cps.toList))]
        have e : wordD (.str s) = (cs s).all fun c => decide (c ∈ abc.cps.toList) := by
          show wordB s = _
          have a1 : decide (1 ≤ s.length) = true := decide_eq_true (by have := of_decide_eq_true h1; omega)
          have a2 : decide (s.length ≤ 6) = true := decide_eq_true (by
            rw [Bool.not_eq_false'] at h2
            have := of_decide_eq_true h2; omega)
          unfold wordB
          rw [a1, a2, Bool.true_and, Bool.true_and]
        rw [e] at q; exact q
    · have e : wordD (.str s) = false := by
        show wordB s = false
        have : decide (1 ≤ s.length) = false := decide_eq_false fun z => by
          have := of_decide_eq_false h1
          omega
        unfold wordB
        rw [this, Bool.false_and]
      rw [e] at q; exact q
  | non => walk_at "dt"; rw [isi_no (t := "NoneType") rfl (by decide)]; walk_at "dt"; exact q
  | bl b => walk_at "dt"; rw [isi_no (t := "bool") rfl (by decide)]; walk_at "dt"; exact q
  | int i => walk_at "dt"; rw [isi_no (t := "int") rfl (by decide)]; walk_at "dt"; exact q
  | tup l => walk_at "dt"; rw [isi_no (t := "tuple") rfl (by decide)]; walk_at "dt"; exact q
  | _ => exact ha.elim
/-! edges -/
local macro_rules | `(tactic| walk_at "ds") => `(tactic| try simp only [↓s_next, ↓s_seq, ↓s_sto, ↓s_drop, ↓s_ret, ↓s_if, ↓s_never, ↓s_asg, ↓s_asgO, ↓s_pars, ↓s_great, ↓g_name, ↓g_nil, ↓g_cons, ↓g_seqT, ↓g_seqL, ↓g_box, ↓for_eq, ↓lc_eq, ↓dc_eq, ↓i_seq, ↓i_enum, ↓i_range1,
  ↓vi0, ↓vo0, ↓ri0, ↓ro0, ↓ol0, ↓as0, ↓vi1, ↓vo1, ↓ri1, ↓ro1, ↓ol1, ↓as1, ↓vi2, ↓vo2, ↓ri2, ↓ro2, ↓ol2, ↓as2, ↓vi3, ↓vo3, ↓ri3, ↓ro3, ↓ol3, ↓as3, ↓vi4, ↓vo4, ↓ri4, ↓ro4, ↓ol4, ↓as4, ↓vi5, ↓vo5, ↓ri5, ↓ro5, ↓ol5, ↓as5, ↓vi6, ↓vo6, ↓ri6, ↓ro6, ↓ol6, ↓as6, ↓vi7, ↓vo7, ↓ri7, ↓ro7, ↓ol7, ↓as7, ↓vi8, ↓vo8, ↓ri8, ↓ro8, ↓ol8, ↓as8, ↓vi9, ↓vo9, ↓ri9, ↓ro9, ↓ol9, ↓as9, ↓vi10, ↓vo10, ↓ri10, ↓ro10, ↓ol10, ↓as10, ↓vi11, ↓vo11, ↓ri11, ↓ro11, ↓ol11, ↓as11, ↓vi12, ↓vo12, ↓ri12, ↓ro12, ↓ol12, ↓as12, ↓vi13, ↓vo13, ↓ri13, ↓ro13, ↓ol13, ↓as13, ↓vi14, ↓vo14, ↓ri14, ↓ro14, ↓ol14, ↓as14, ↓vi15, ↓vo15, ↓ri15, ↓ro15, ↓ol15, ↓as15, ↓vi16, ↓vo16, ↓ri16, ↓ro16, ↓ol16, ↓as16, ↓vi17, ↓vo17, ↓ri17, ↓ro17, ↓ol17, ↓as17, ↓vi18, ↓vo18, ↓ri18, ↓ro18, ↓ol18, ↓as18, ↓vi19, ↓vo19, ↓ri19, ↓ro19, ↓ol19, ↓as19, ↓vi20, ↓vo20, ↓ri20, ↓ro20, ↓ol20, ↓as20, ↓vi21, ↓vo21, ↓ri21, ↓ro21, ↓ol21, ↓as21, ↓vi22, ↓vo22, ↓ri22, ↓ro22, ↓ol22, ↓as22, ↓vi23, ↓vo23, ↓ri23, ↓ro23, ↓ol23, ↓as23, ↓vi24, ↓vo24, ↓ri24, ↓ro24, ↓ol24, ↓as24, ↓vi25, ↓vo25, ↓ri25, ↓ro25, ↓ol25, ↓as25, ↓at_s1, ↓at_s0, ↓at_w1, ↓at_w0, ↓mt_b, ↓mt_l, ↓mt_t, ↓mt_i,
  ↓e_c, ↓e_nil, ↓e_cons, ↓e_tup, ↓e_lst, ↓e_two1, ↓e_two2, ↓e_two3, ↓e_two4, ↓e_bin, ↓e_tbin, ↓e_chain, ↓e_and, ↓e_or, ↓e_not, ↓e_tru1, ↓e_tru2, ↓e_andV, ↓e_orV, ↓e_notV, ↓e_if, ↓e_call, ↓e_p0, ↓e_p1, ↓e_one1, ↓e_one2, ↓e_b1, ↓e_b2, ↓e_tb2, ↓e_sl1, ↓e_sl2, ↓e_append, ↓e_extend, ↓e_popAt, ↓e_yes, ↓e_join, ↓in_strL, ↓in_strT, ↓x_mulS, ↓e_new, ↓e_newV, ↓e_meth, ↓e_prop, ↓e_stat, ↓e_statI, ↓e_clsM, ↓e_evN, ↓e_evI, ↓e_evO, ↓e_boxNew,
  z0, z1, z2, h0, h1, h2, ↓bx0, ↓rgI, ↓sqL, ↓sqT, ↓sqR, ↓enL, ↓enT, ↓lsL, wipeD, e_var, v0, v1, r0, r1, o0, m0, at0, setD, startD, startI, dFldSet,
  List.map_cons, List.map_nil, List.replicate, List.cons_append, List.nil_append, List.length_cons, List.length_nil, List.getElem?_cons_zero, List.getElem?_cons_succ, List.getElem?_nil, List.set_cons_zero, List.set_cons_succ, List.set_nil, Nat.reduceAdd, Nat.reduceSub, Nat.sub_zero, Nat.sub_self, Nat.zero_add, Nat.add_zero,
  true_and, and_true, if_true, if_false, Bool.false_eq_true, Bool.not_true, Bool.not_false, Bool.not_eq_true, decide_true, decide_false, Bool.true_eq_false, reduceCtorEq, ite_true, ite_false, List.mem_cons, List.not_mem_nil, or_false, beq_self_eq_true, Nat.reduceLT, Nat.reduceLeDiff, Int.reduceLT, Int.reduceLE, Int.reduceAdd, Int.reduceSub, Int.reduceMul, Int.reducePow, Int.reduceToNat, Int.reduceEq, Int.reduceNeg, Int.reduceMod, Int.reduceDiv, Nat.reduceEqDiff, and_self, Bool.not_not,
  ↓x_bl, x_truB, x_truL, x_truT, x_truI, ↓x_eqI, ↓x_eqS, ↓x_eqB, ↓x_neI, ↓x_neS, ↓x_neB, ↓x_addI, ↓x_addL, ↓x_addT, ↓x_addS, ↓x_subI, ↓x_mulI, ↓x_modI, ↓x_fdivI, ↓x_powI, ↓x_lt, ↓x_le, ↓x_gt, ↓x_ge, ↓x_ltP, ↓x_leP, ↓x_gtP, ↓x_geP, ↓x_lenL, ↓x_lenT, ↓x_lenS, ↓x_tupL, ↓x_tupT, ↓x_lisL, ↓x_lisT, ↓x_rev, ↓x_intI, ↓x_intB, ↓x_abs, ↓x_min, ↓x_max, ↓x_is, ↓x_isNot, x_isN0, x_isN1, x_isN2, x_isN3, x_isN4, ↓x_nil, ↓x_nnil, ↓x_ix0, ↓x_ix1, ↓x_ix2, ↓x_ix3, ↓x_ix4, ↓x_ix5, ↓x_ix6, ↓x_ix7, ↓x_it0, ↓x_it1, ↓x_it2, ↓x_ixB, x_kn, x_ks, x_kt, ↓x_slL, ↓x_slT, ↓x_slS, ↓x_slR])

def sd__law_take : SpD := fun ds Q => ∃ a m, ds = [.box a, .int m] ∧ 0 < m ∧ m < 1267650600228229401496703205376 ∧ ∀ i, 0 ≤ i → i < m → Q (.int i)
theorem len__law_take (ds : List D) (Q : D → Prop) (h : sd__law_take ds Q) : ds.length = 2 := by obtain ⟨a, m, rfl, _⟩ := h; rfl
theorem take_at {a : Addr} {m : Int} {Q : D → Prop} : sd__law_take [.box a, .int m] Q = (0 < m ∧ m < 1267650600228229401496703205376 ∧ ∀ i, 0 ≤ i → i < m → Q (.int i)) := by
  rw [eq_iff_iff]
  constructor
  · rintro ⟨a', m', e, h1, h2, h3⟩
    cases e
    exact ⟨h1, h2, h3⟩
  · rintro ⟨h1, h2, h3⟩
    exact ⟨a, m, rfl, h1, h2, h3⟩
abbrev N__law_take : List Str := ["_law_box_here", "_law_many", "_law_digit", "_law_one"]
theorem sc__law_take : FnScope N__law_take ["_law_box_here", "_law_many"] (defScope st__law_take) := ⟨rfl, rfl, rfl, by decide +kernel, rfl, by decide +kernel, by decide +kernel⟩
def t__law_take : TDS :=
  dSeq (dGreat 0)
  (dSeq (dIfS (dtBin (gtD) (.ex (dBin ixB (.sl 0) (.ex (dC (.str "now"))))) (.ex (dC (.int 0)))) (dSeq (dAsg (dBin modD (.ex (dBin ixB (.sl 0) (.ex (dC (.str "now"))))) (.sl 1)) 2)
  (dSeq (dSto (dBin fdivD (.ex (dBin ixB (.sl 0) (.ex (dC (.str "now"))))) (.sl 1)) (dgBox 0 "now"))
  (dRet (dVar 2)))) (dNext))
  (dSeq (dSto (dBin addX (.ex (dBin ixB (.sl 0) (.ex (dC (.str "turn"))))) (.ex (dC (.int 1)))) (dgBox 0 "turn"))
  (dSeq (dAsg (dBin modD (.ex (dBin mulX (.ex (dBin modD (.ex (dBin addX (.ex (dBin ixB (.sl 0) (.ex (dC (.str "seed"))))) (.ex (dBin mulX (.ex (dC (.int 69623))) (.ex (dBin ixB (.sl 0) (.ex (dC (.str "turn"))))))))) (.ex (dC (.int 2147483647))))) (.ex (dC (.int 16807))))) (.ex (dC (.int 2147483647)))) 3)
  (dSeq (dSto (dBin addX (.ex (dBin modD (.ex (dBin addX (.sl 3) (.ex (dBin mulX (.ex (dC (.int 3))) (.ex (dBin ixB (.sl 0) (.ex (dC (.str "seed"))))))))) (.ex (dC (.int 2147483629))))) (.ex (dC (.int 1)))) (dgBox 0 "seed"))
  (dRet (dBin modD (.ex (dBin fdivD (.ex (dBin addX (.ex (dBin mulX (.sl 3) (.ex (dC (.int 30269))))) (.ex (dBin ixB (.sl 0) (.ex (dC (.str "seed"))))))) (.ex (dC (.int 4099))))) (.sl 1)))))))
theorem pure__law_take (ds : List D) (Q : D → Prop) (h : sd__law_take ds Q) : t__law_take (ends Q) (startD 4 ds) := by
  obtain ⟨a, m, rfl, h0, h1, q⟩ := h
  unfold t__law_take
  walk_at "ds"
  intro n hn
  refine if_b (fun hb => ?_) (fun hb => ?_)
  · intro n2 hn2
    refine ⟨h0, fun n3 hn3 => ⟨⟨h0, h1⟩, Int.ediv_nonneg hn3 (Int.le_of_lt h0), ?_⟩⟩
    exact q _ (Int.emod_nonneg _ (by omega)) (Int.emod_lt_of_pos _ h0)
  · intro n2 hn2
    refine ⟨by omega, fun n3 hn3 n4 hn4 => ⟨cm1 (by decide), cm2 (by decide), fun n5 hn5 => ⟨cm1 (by decide), by omega, cm2 (by decide), fun n6 hn6 => ⟨h0, ?_⟩⟩⟩⟩
    exact q _ (Int.emod_nonneg _ (by omega)) (Int.emod_lt_of_pos _ h0)
def sd__law_box : SpD := fun ds Q => ∃ ns b, ds = [.scr ns, .int b] ∧ 0 ≤ b ∧ ∀ a, Q (.box a)
theorem len__law_box (ds : List D) (Q : D → Prop) (h : sd__law_box ds Q) : ds.length = 2 := by obtain ⟨a, m, rfl, _⟩ := h; rfl
theorem box_at {ns : List Int} {b : Int} {Q : D → Prop} (h : 0 ≤ b) : sd__law_box [.scr ns, .int b] Q = ∀ a, Q (.box a) := by
  rw [eq_iff_iff]
  constructor
  · rintro ⟨a', m', e, h1, h2⟩
    cases e
    exact h2
  · exact fun h2 => ⟨ns, b, rfl, h, h2⟩
abbrev N__law_box : List Str := ["_law_script", "_law_base", "_law_seed", "_law_cell", "_law_great"]
theorem sc__law_box : FnScope N__law_box ["_law_script", "_law_base"] (defScope st__law_box) := ⟨rfl, rfl, rfl, by decide +kernel, rfl, by decide +kernel, by decide +kernel⟩
def t__law_box : TDS :=
  dSeq (dAsg (dBin addX (.ex (dC (.int 7001))) (.ex (dBin mulX (.ex (dC (.int 211))) (.sl 1)))) 2)
  (dSeq (dFor (iSeq (dSl (.sl 0) (dP0) (dP1 (dC (.int 50))))) (dgName 3) (dAsg (dBin modD (.ex (dBin addX (.ex (dBin addX (.ex (dBin mulX (.sl 2) (.ex (dC (.int 48271))))) (.ex (dBin modD (.ex (dB1 absD (.sl 3))) (.ex (dC (.int 2147483629))))))) (.ex (dC (.int 29))))) (.ex (dC (.int 2147483647)))) 2))
  (dSeq (dAsg (dLc (iSeq (dSl (.sl 0) (dP1 (dVar 1)) (dP1 (dC (.int 50))))) (dgName 3) (dtBin (geD) (.ex (dB1 absD (.sl 3))) (.ex (dBin powD (.ex (dC (.int 10))) (.ex (dC (.int 18)))))) (dB1 absD (.sl 3)) [3]) 4)
  (dRet (dBoxNew (dB1 revD (.sl 4)) (dBin addX (.sl 2) (.ex (dC (.int 1))))))))
theorem pure__law_box (ds : List D) (Q : D → Prop) (h : sd__law_box ds Q) : t__law_box (ends Q) (startD 5 ds) := by
  obtain ⟨ns, b, rfl, h0, q⟩ := h
  unfold t__law_box
  walk_at "ds"
  refine ⟨cm1 (by decide), ?_⟩
  refine for_go (fun (_ : Nat) (δ : DSt) => ∃ s c, δ = [.im (.scr ns), .im (.int b), .im (.int s), c, .no] ∧ 0 ≤ s) ⟨7001 + 211 * b, .no, rfl, by omega⟩ ?_ ?_
  · rintro i d δ' hd ⟨s, c, rfl, hs⟩
    obtain ⟨n, rfl⟩ := map_int_get hd
    walk_at "ds"
    exact ⟨cm2 (by decide), _, _, rfl, Int.emod_nonneg _ (by decide)⟩
  · rintro δ' ⟨s, c, rfl, hs⟩
    walk_at "ds"
    have hlen := cutL_len50 ns (some b)
    refine lc_go (cutL ns (some b) (some 50)) D.int (fun n => decide (10 ^ 18 ≤ (if n < 0 then -n else n))) (fun n => .int (if n < 0 then -n else n)) rfl (by omega) (fun x hx K1 K2 k1 k2 => ?_) ?_
    · walk_at "ds"
      refine ⟨by decide, ?_⟩
      refine if_b (fun hb => ?_) (fun hb => ?_)
      · exact k1 hb
      · exact k2 hb
    · walk_at "ds"
      have hl2 := List.length_filter_le (fun n : Int => decide (10 ^ 18 ≤ (if n < 0 then -n else n))) (cutL ns (some b) (some 50))
      refine ⟨(((cutL ns (some b) (some 50)).filter fun n => decide (10 ^ 18 ≤ (if n < 0 then -n else n))).map fun n => if n < 0 then -n else n).reverse, ?_, ?_, ?_, ?_⟩
      · rw [List.map_reverse, List.map_map]; rfl
      · intro x hx
        rw [List.mem_reverse, List.mem_map] at hx
        obtain ⟨n, _, rfl⟩ := hx
        split <;> omega
      · rw [List.length_reverse, List.length_map]; omega
      · exact ⟨_, rfl, by omega, q⟩
def sd__law_mixed : SpD := fun ds Q => ∃ a l, (ds = [.box a, .lst l] ∨ ds = [.box a, .tup l]) ∧ l.length ≤ 1000 ∧ ∀ l' : List D, l'.Perm l → Q (.lst l')
theorem len__law_mixed (ds : List D) (Q : D → Prop) (h : sd__law_mixed ds Q) : ds.length = 2 := by obtain ⟨a, m, rfl | rfl, _⟩ := h <;> rfl
theorem mixed_at {a : Addr} {l : List D} {Q : D → Prop} : sd__law_mixed [.box a, .lst l] Q = (l.length ≤ 1000 ∧ ∀ l' : List D, l'.Perm l → Q (.lst l')) := by
  rw [eq_iff_iff]
  constructor
  · rintro ⟨a', l', e | e, h1, h2⟩
    · cases e; exact ⟨h1, h2⟩
    · cases e
  · exact fun h => ⟨a, l, .inl rfl, h.1, h.2⟩
theorem mixed_atT {a : Addr} {l : List D} {Q : D → Prop} : sd__law_mixed [.box a, .tup l] Q = (l.length ≤ 1000 ∧ ∀ l' : List D, l'.Perm l → Q (.lst l')) := by
  rw [eq_iff_iff]
  constructor
  · rintro ⟨a', l', e | e, h1, h2⟩
    · cases e
    · cases e; exact ⟨h1, h2⟩
  · exact fun h => ⟨a, l, .inr rfl, h.1, h.2⟩
abbrev N__law_mixed : List Str := ["_law_box_here", "_law_items", "_law_left", "_law_found", "_law_turn"]
theorem sc__law_mixed : FnScope N__law_mixed ["_law_box_here", "_law_items"] (defScope st__law_mixed) := ⟨rfl, rfl, rfl, by decide +kernel, rfl, by decide +kernel, by decide +kernel⟩
def t__law_mixed : TDS :=
  dSeq (dPars [.ow (dB1 listA (.sl 1)), .ow (dLst (dNil))] [2, 3])
  (dSeq (dFor (iRange1 (dB1 lenD (.sl 2))) (dgName 4) (dDrop (dAppend 3 (dPopAt 2 (dCall sd__law_take (dCons (dVar 0) (dCons (dB1 lenD (.sl 2)) (dNil))))))))
  (dRet (dVar 3)))
theorem pure__law_mixed (ds : List D) (Q : D → Prop) (h : sd__law_mixed ds Q) : t__law_mixed (ends Q) (startD 5 ds) := by
  obtain ⟨a, l, hds, hl, q⟩ := h
  unfold t__law_mixed
  have key : ∀ it, (it = .lst l ∨ it = .tup l) → dFor (iRange1 (dB1 lenD (.sl 2))) (dgName 4) (dDrop (dAppend 3 (dPopAt 2 (dCall sd__law_take (dCons (dVar 0) (dCons (dB1 lenD (.sl 2)) dNil)))))) { nx := fun δ => (dRet (dVar 3)) (ends Q) δ, rt := fun d _ => Q d } [.im (.box a), .im it, .ow (.lst l), .ow (.lst []), .no] := by
    intro it hit
    walk_at "ds"
    refine ⟨⟨by omega, by omega⟩, for_go (fun (i : Nat) (δ : DSt) => ∃ left found c, δ = [.im (.box a), .im it, .ow (.lst left), .ow (.lst found), c] ∧ (left ++ found).Perm l ∧ found.length = i) ⟨l, [], .no, rfl, by simp, rfl⟩ ?_ ?_⟩
    · rintro i d δ' hd ⟨left, found, c, rfl, hp, hi⟩
      have hi2 := lt_of_get hd
      rw [rngD_len] at hi2
      have hlen := hp.length_eq
      rw [List.length_append] at hlen
      have hi2 : i < l.length := by simpa using hi2
      walk_at "ds"
      simp only [take_at]
      refine ⟨by omega, by omega, fun j j0 j1 => ?_⟩
      obtain ⟨y, hy⟩ : ∃ y, left[j.toNat]? = some y := ⟨_, List.getElem?_eq_getElem (by omega)⟩
      walk_at "ds"
      rw [hy]
      refine ⟨⟨j0, j1, by omega⟩, line_of (by omega), ?_⟩
      exact ⟨left.eraseIdx j.toNat, found ++ [y], _, rfl, perm_pop hp hy, by simp; omega⟩
    · rintro δ' ⟨left, found, c, rfl, hp, hi⟩
      rw [rngD_len] at hi
      have hlen := hp.length_eq
      rw [List.length_append] at hlen
      have : left = [] := List.length_eq_zero_iff.mp (by simp at hi; omega)
      subst this
      walk_at "ds"
      exact q found (by simpa using hp)
  rcases hds with rfl | rfl
  · walk_at "ds"
    exact key _ (.inl rfl)
  · walk_at "ds"
    exact key _ (.inr rfl)

local macro_rules | `(tactic| walk_at "db") => `(tactic| try simp only [↓s_next, ↓s_seq, ↓s_sto, ↓s_drop, ↓s_ret, ↓s_if, ↓s_never, ↓s_asg, ↓s_asgO, ↓s_pars, ↓s_great, ↓g_name, ↓g_nil, ↓g_cons, ↓g_seqT, ↓g_seqL, ↓g_box, ↓for_eq, ↓lc_eq, ↓dc_eq, ↓i_seq, ↓i_enum, ↓i_range1,
  ↓vi0, ↓vo0, ↓ri0, ↓ro0, ↓ol0, ↓as0, ↓vi1, ↓vo1, ↓ri1, ↓ro1, ↓ol1, ↓as1, ↓vi2, ↓vo2, ↓ri2, ↓ro2, ↓ol2, ↓as2, ↓vi3, ↓vo3, ↓ri3, ↓ro3, ↓ol3, ↓as3, ↓vi4, ↓vo4, ↓ri4, ↓ro4, ↓ol4, ↓as4, ↓vi5, ↓vo5, ↓ri5, ↓ro5, ↓ol5, ↓as5, ↓vi6, ↓vo6, ↓ri6, ↓ro6, ↓ol6, ↓as6, ↓vi7, ↓vo7, ↓ri7, ↓ro7, ↓ol7, ↓as7, ↓vi8, ↓vo8, ↓ri8, ↓ro8, ↓ol8, ↓as8, ↓vi9, ↓vo9, ↓ri9, ↓ro9, ↓ol9, ↓as9, ↓vi10, ↓vo10, ↓ri10, ↓ro10, ↓ol10, ↓as10, ↓vi11, ↓vo11, ↓ri11, ↓ro11, ↓ol11, ↓as11, ↓vi12, ↓vo12, ↓ri12, ↓ro12, ↓ol12, ↓as12, ↓vi13, ↓vo13, ↓ri13, ↓ro13, ↓ol13, ↓as13, ↓vi14, ↓vo14, ↓ri14, ↓ro14, ↓ol14, ↓as14, ↓vi15, ↓vo15, ↓ri15, ↓ro15, ↓ol15, ↓as15, ↓vi16, ↓vo16, ↓ri16, ↓ro16, ↓ol16, ↓as16, ↓vi17, ↓vo17, ↓ri17, ↓ro17, ↓ol17, ↓as17, ↓vi18, ↓vo18, ↓ri18, ↓ro18, ↓ol18, ↓as18, ↓vi19, ↓vo19, ↓ri19, ↓ro19, ↓ol19, ↓as19, ↓vi20, ↓vo20, ↓ri20, ↓ro20, ↓ol20, ↓as20, ↓vi21, ↓vo21, ↓ri21, ↓ro21, ↓ol21, ↓as21, ↓vi22, ↓vo22, ↓ri22, ↓ro22, ↓ol22, ↓as22, ↓vi23, ↓vo23, ↓ri23, ↓ro23, ↓ol23, ↓as23, ↓vi24, ↓vo24, ↓ri24, ↓ro24, ↓ol24, ↓as24, ↓vi25, ↓vo25, ↓ri25, ↓ro25, ↓ol25, ↓as25, ↓at_s1, ↓at_s0, ↓at_w1, ↓at_w0, ↓mt_b, ↓mt_l, ↓mt_t, ↓mt_i,
  ↓e_c, ↓e_nil, ↓e_cons, ↓e_tup, ↓e_lst, ↓e_two1, ↓e_two2, ↓e_two3, ↓e_two4, ↓e_bin, ↓e_tbin, ↓e_chain, ↓e_and, ↓e_or, ↓e_not, ↓e_tru1, ↓e_tru2, ↓e_andV, ↓e_orV, ↓e_notV, ↓e_if, ↓e_call, ↓e_p0, ↓e_p1, ↓e_one1, ↓e_one2, ↓e_b1, ↓e_b2, ↓e_tb2, ↓e_sl1, ↓e_sl2, ↓e_append, ↓e_extend, ↓e_popAt, ↓e_yes, ↓e_join, ↓in_strL, ↓in_strT, ↓x_mulS, ↓e_new, ↓e_newV, ↓e_meth, ↓e_prop, ↓e_stat, ↓e_statI, ↓e_clsM, ↓e_evN, ↓e_evI, ↓e_evO, ↓e_boxNew,
  z0, z1, z2, h0, h1, h2, ↓bx0, ↓rgI, ↓sqL, ↓sqT, ↓sqR, ↓enL, ↓enT, ↓lsL, wipeD, e_var, v0, v1, r0, r1, o0, m0, at0, setD, startD, startI, dFldSet,
  List.map_cons, List.map_nil, List.replicate, List.cons_append, List.nil_append, List.length_cons, List.length_nil, List.getElem?_cons_zero, List.getElem?_cons_succ, List.getElem?_nil, List.set_cons_zero, List.set_cons_succ, List.set_nil, Nat.reduceAdd, Nat.reduceSub, Nat.sub_zero, Nat.sub_self, Nat.zero_add, Nat.add_zero,
  true_and, and_true, if_true, if_false, Bool.false_eq_true, Bool.not_true, Bool.not_false, Bool.not_eq_true, decide_true, decide_false, Bool.true_eq_false, reduceCtorEq, ite_true, ite_false, List.mem_cons, List.not_mem_nil, or_false, beq_self_eq_true, Nat.reduceLT, Nat.reduceLeDiff, Int.reduceLT, Int.reduceLE, Int.reduceAdd, Int.reduceSub, Int.reduceMul, Int.reducePow, Int.reduceToNat, Int.reduceEq, Int.reduceNeg, Int.reduceMod, Int.reduceDiv, Nat.reduceEqDiff, and_self, Bool.not_not,
  ↓x_bl, x_truB, x_truL, x_truT, x_truI, ↓x_eqI, ↓x_eqS, ↓x_eqB, ↓x_neI, ↓x_neS, ↓x_neB, ↓x_addI, ↓x_addL, ↓x_addT, ↓x_addS, ↓x_subI, ↓x_mulI, ↓x_modI, ↓x_fdivI, ↓x_powI, ↓x_lt, ↓x_le, ↓x_gt, ↓x_ge, ↓x_ltP, ↓x_leP, ↓x_gtP, ↓x_geP, ↓x_lenL, ↓x_lenT, ↓x_lenS, ↓x_tupL, ↓x_tupT, ↓x_lisL, ↓x_lisT, ↓x_rev, ↓x_intI, ↓x_intB, ↓x_abs, ↓x_min, ↓x_max, ↓x_is, ↓x_isNot, x_isN0, x_isN1, x_isN2, x_isN3, x_isN4, ↓x_nil, ↓x_nnil, ↓x_ix0, ↓x_ix1, ↓x_ix2, ↓x_ix3, ↓x_ix4, ↓x_ix5, ↓x_ix6, ↓x_ix7, ↓x_it0, ↓x_it1, ↓x_it2, ↓x_ixB, x_kn, x_ks, x_kt, ↓x_slL, ↓x_slT, ↓x_slS, ↓x_slR,
  ↓take_at, ↓mixed_at, ↓mixed_atT])

def sd__law_names : SpD := fun ds Q => ∃ a m, ds = [.box a, .int m] ∧ 0 ≤ m ∧ m ≤ 40 ∧ ∀ ss : List Str, (ss.length : Int) = m → ss.Nodup → (∀ s ∈ ss, isNm s) → Q (.lst (ss.map D.str))
theorem len__law_names (ds : List D) (Q : D → Prop) (h : sd__law_names ds Q) : ds.length = 2 := by obtain ⟨a, m, rfl, _⟩ := h; rfl
theorem names_at {a : Addr} {m : Int} {Q : D → Prop} : sd__law_names [.box a, .int m] Q = (0 ≤ m ∧ m ≤ 40 ∧ ∀ ss : List Str, (ss.length : Int) = m → ss.Nodup → (∀ s ∈ ss, isNm s) → Q (.lst (ss.map D.str))) := by
  rw [eq_iff_iff]
  constructor
  · rintro ⟨a', m', e, h⟩; cases e; exact h
  · exact fun h => ⟨a, m, rfl, h⟩
theorem join_at {ss : List Str} {Q : D → Prop} (h : (ss.map (·.length)).sum ≤ 1000) : joinD "" (.lst (ss.map D.str)) Q = Q (.str (Str.join "" ss)) := by
  rw [eq_iff_iff]
  have e : joinD "" (.lst (ss.map D.str)) Q = (match strsOf (ss.map D.str) with | some ss => (ss.map (·.length)).sum + ss.length * ("" : Str).length ≤ 16777216 ∧ Q (.str (Str.join "" ss)) | none => False) := rfl
  rw [e, strsOf_map]
  have z : ("" : Str).length = 0 := rfl
  exact ⟨fun h => h.2, fun h' => ⟨by rw [z]; omega, h'⟩⟩
theorem letters_of : ∀ {l : List D}, (∀ y ∈ l, ∃ k, k < 26 ∧ y = .str (lt1 k)) → ∃ ss : List Str, l = ss.map D.str ∧ ss.length = l.length ∧ (∀ s ∈ ss, s.length = 1) ∧ alpha (cs (Str.join "" ss)) ∧ (cs (Str.join "" ss)).length = l.length
  | [], _ => ⟨[], rfl, rfl, fun _ h => (nomatch h), fun _ h => (nomatch h), rfl⟩
  | d :: r, h => by
    obtain ⟨k, hk, rfl⟩ := h d List.mem_cons_self
    obtain ⟨ss, rfl, h2, h3, h4, h5⟩ := letters_of fun y hy => h y (List.mem_cons_of_mem _ hy)
    have e : cs (Str.join "" (lt1 k :: ss)) = cs (lt1 k) ++ cs (Str.join "" ss) := by rw [cs_join, cs_join]; rfl
    refine ⟨lt1 k :: ss, rfl, by simp, fun s hs => ?_, ?_, ?_⟩
    · rcases List.mem_cons.mp hs with rfl | hs
      · rfl
      · exact h3 s hs
    · rw [e]; exact alpha_app (alpha_lt1 hk) h4
    · rw [e, List.length_append, h5]; simp [cs_lt1]; omega
theorem letters_lt {ss : List Str} (h : ∀ y ∈ ss.map D.str, ∃ k, k < 25 ∧ y = .str (lt1 k)) : ∀ c ∈ cs (Str.join "" ss), c ≤ 121 := by
  intro c hc
  rw [cs_join] at hc
  obtain ⟨l, hl, hc⟩ := List.mem_flatten.mp hc
  obtain ⟨x, hx, rfl⟩ := List.mem_map.mp hl
  obtain ⟨k, hk, e⟩ := h (.str x) (List.mem_map.mpr ⟨x, hx, rfl⟩)
  injection e with e
  subst e
  rw [cs_lt1, List.mem_singleton] at hc
  omega
theorem ones_sum {ss : List Str} (h : ∀ s ∈ ss, s.length = 1) : (ss.map (·.length)).sum = ss.length := by
  induction ss with
  | nil => rfl
  | cons s r ih =>
    rw [List.map_cons, List.sum_cons, h s List.mem_cons_self, ih fun x hx => h x (List.mem_cons_of_mem _ hx), List.length_cons]; omega
abbrev N__law_names : List Str := ["_law_box_here", "_law_many", "_law_letters", "_law_words", "_law_stem", "_law_at", "_law_first", "_law_form", "_law_found", "_law_pairs", "_law_k", "_law_letter", "_law_long", "_law_ends", "_law_odd", "_law_some", "_law_word"]
theorem sc__law_names : FnScope N__law_names ["_law_box_here", "_law_many"] (defScope st__law_names) := ⟨rfl, rfl, rfl, by decide +kernel, rfl, by decide +kernel, by decide +kernel⟩
def t__law_names : TDS :=
  dSeq (dAsg (dC (.str "abcdefghijklmnopqrstuvwxyz")) 2)
  (dSeq (dAsg (dC (.lst (List.map D.str ["places", "edge", "rope", "party", "pull", "row", "undo", "show", "reach", "haul", "rest", "free", "nobody", "still", "length", "a"]))) 3)
  (dSeq (dAsg (dJoin (dC (.str "")) (dLc (iRange1 (dCall sd__law_take (dCons (dVar 0) (dCons (dC (.int 5)) (dNil))))) (dgName 10) (dYes) (dBin ixX (.sl 2) (.ex (dCall sd__law_take (dCons (dVar 0) (dCons (dC (.int 26)) (dNil)))))) [10])) 4)
  (dSeq (dPars [.im (dCall sd__law_take (dCons (dVar 0) (dCons (dBin addX (.ex (dB1 lenD (.sl 4))) (.ex (dC (.int 1)))) (dNil)))), .im (dCall sd__law_take (dCons (dVar 0) (dCons (dC (.int 26)) (dNil)))), .im (dCall sd__law_take (dCons (dVar 0) (dCons (dC (.int 5)) (dNil))))] [5, 6, 7])
  (dSeq (dPars [.ow (dLst (dNil)), .im (dCall sd__law_mixed (dCons (dVar 0) (dCons (dVar 3) (dNil)))), .ow (dLst (dCons (dC (.str "a")) (dCons (dC (.str "b")) (dNil))))] [8, 3, 9])
  (dSeq (dFor (iRange1 (dVar 1)) (dgName 10) (dSeq (dAsg (dBin addX (.ex (dBin ixX (.sl 2) (.ex (dBin modD (.ex (dBin addX (.sl 6) (.ex (dBin mulX (.ex (dC (.int 7))) (.sl 10))))) (.ex (dC (.int 26))))))) (.ex (dBin mulX (.ex (dBin ixX (.sl 2) (.ex (dBin fdivD (.sl 10) (.ex (dC (.int 26))))))) (.ex (dB1 intD (.ex (dBin (gtD) (.sl 10) (.ex (dC (.int 25)))))))))) 11)
  (dSeq (dDrop (dAppend 8 (dBin addX (.ex (dBin addX (.ex (dSl (.sl 4) (dP0) (dP1 (dVar 5)))) (.sl 11))) (.ex (dSl (.sl 4) (dP1 (dVar 5)) (dP0))))))
  (dDrop (dExtend 9 (dLst (dCons (dBin addX (.ex (dBin ixX (.sl 9) (.sl 10))) (.ex (dC (.str "a")))) (dCons (dBin addX (.ex (dBin ixX (.sl 9) (.sl 10))) (.ex (dC (.str "b")))) (dNil)))))))))
  (dSeq (dAsg (dJoin (dC (.str "")) (dLc (iRange1 (dC (.int 5))) (dgName 10) (dYes) (dBin ixX (.sl 2) (.ex (dCall sd__law_take (dCons (dVar 0) (dCons (dC (.int 25)) (dNil)))))) [10])) 12)
  (dSeq (dAsg (dLc (iRange1 (dB2 min2D (dVar 1) (dC (.int 26)))) (dgName 10) (dYes) (dBin addX (.sl 12) (.ex (dBin ixX (.sl 2) (.ex (dBin modD (.ex (dBin addX (.sl 6) (.ex (dBin mulX (.ex (dC (.int 7))) (.sl 10))))) (.ex (dC (.int 26)))))))) [10]) 13)
  (dSeq (dAsg (dBin addX (.ex (dLc (iSeq (dVar 3)) (dgName 16) (dtBin (inX true) (.sl 16) (.sl 8)) (dVar 16) [16])) (.sl 8)) 14)
  (dSeq (dAsg (dLst (dCons (dVar 14) (dCons (dVar 9) (dCons (dBin ixX (.ex (dLst (dCons (dVar 13) (dCons (dVar 8) (dNil))))) (.ex (dB1 intD (.ex (dBin (gtD) (.sl 1) (.ex (dC (.int 26)))))))) (dCons (dVar 8) (dCons (dVar 8) (dNil))))))) 15)
  (dRet (dCall sd__law_mixed (dCons (dVar 0) (dCons (dSl (.ex (dBin ixX (.sl 15) (.sl 7))) (dP0) (dP1 (dVar 1))) (dNil))))))))))))))
theorem pure__law_names (ds : List D) (Q : D → Prop) (h : sd__law_names ds Q) : t__law_names (ends Q) (startD 17 ds) := by
  obtain ⟨a, m, rfl, m0, m1, q⟩ := h
  obtain ⟨n, rfl⟩ := Int.eq_ofNat_of_zero_le m0
  unfold t__law_names
  walk_at "db"
  intro sl s0 s1
  refine ⟨⟨by omega, by omega⟩, ?_⟩
  refine lc_nd (fun y => ∃ k, k < 26 ∧ y = .str (lt1 k)) (by rw [rngD_len]; omega) (fun x hx K1 k1 => ?_) fun acc hl ha => ?_
  · walk_at "db"
    intro i i0 i1
    exact ix_abc i0 i1 (k1 _ ⟨i.toNat, by omega, rfl⟩)
  obtain ⟨ss, rfl, hl2, h1, hal, hlen⟩ := letters_of ha
  rw [rngD_len] at hl
  walk_at "db"
  rw [join_at (by rw [ones_sum h1, hl2, hl]; omega)]
  generalize Str.join "" ss = st at hal hlen
  walk_at "db"
  rw [List.length_map] at hlen hl
  have hst : st.length ≤ 4 := by rw [← cs_len]; omega
  refine ⟨le_line (by omega), by omega, by omega, fun at_ at0 at1 fi f0 f1 fo fo0 fo1 l' hp => ⟨⟨by omega, by omega⟩, ?_⟩⟩
  obtain ⟨w, rfl, wl, wm, wn⟩ := perm_strs (w := wds) hp
  obtain ⟨p, rfl⟩ := Int.eq_ofNat_of_zero_le at0
  obtain ⟨f, rfl⟩ := Int.eq_ofNat_of_zero_le f0
  rw [Int.toNat_natCast]
  have hn : n ≤ 40 := by omega
  have hst' : (cs st).length ≤ 4 := by rw [cs_len]; exact hst
  refine for_go (fun (i : Nat) (δ : DSt) => ∃ c10 c11 : Sl, δ = [.im (.box a), .im (.int n), .im (.str abc), .im (.lst (w.map D.str)), .im (.str st), .im (.int p), .im (.int f), .im (.int fo), .ow (.lst (((List.range i).map (fnd st p f)).map D.str)), .ow (.lst (((plist i).map mk).map D.str)), c10, c11, .no, .no, .no, .no, .no]) ⟨_, _, rfl⟩ ?_ ?_
  · rintro i d δ' hd ⟨c10, c11, rfl⟩
    obtain ⟨hi, rfl⟩ := rng_get hd
    walk_at "db"
    refine ⟨cm1 (by decide), ?_⟩
    refine ix_abc (Int.emod_nonneg _ (by decide)) (Int.emod_lt_of_pos _ (by decide)) ?_
    walk_at "db"
    refine ix_abc (by omega) (by omega) ?_
    walk_at "db"
    refine ⟨by split <;> simp, ?_⟩
    have hL : cs (lt1 ((f + 7 * i : Int) % 26).toNat ++ if (if decide (25 < (i : Int)) = true then (1 : Int) else 0) = 0 then Str.empty else lt1 ((i : Int) / 26).toNat) = tag f i := by
      have e1 : ((f + 7 * i : Int) % 26).toNat = (f + 7 * i) % 26 := by omega
      have e2 : ((i : Int) / 26).toNat = i / 26 := by omega
      rw [cs_app, e1, e2]
      unfold tag
      by_cases hi2 : i < 26
      · have : decide (25 < (i : Int)) = false := decide_eq_false (by omega)
        rw [this, if_pos hi2]
        rfl
      · have : decide (25 < (i : Int)) = true := decide_eq_true (by omega)
        rw [this, if_neg hi2]
        rfl
    have hLl := tag_len f i
    rw [← hL, cs_len] at hLl
    have hsum := Str.length_append (lt1 ((f + 7 * i : Int) % 26).toNat) (if (if decide (25 < (i : Int)) = true then (1 : Int) else 0) = 0 then Str.empty else lt1 ((i : Int) / 26).toNat)
    generalize (lt1 ((f + 7 * i : Int) % 26).toNat ++ if (if decide (25 < (i : Int)) = true then (1 : Int) else 0) = 0 then Str.empty else lt1 ((i : Int) / 26).toNat) = L at hL hLl hsum
    have l1 := cutS_len st none (some (p : Int))
    have l2 := cutS_len st (some (p : Int)) none
    have hfn : cutS st none (some (p : Int)) ++ L ++ cutS st (some (p : Int)) none = fnd st p f i := by
      refine str_ext ?_
      unfold fnd
      rw [cs_mk, cs_app, cs_app, cs_cut, cs_cut, hL, cut_to (by omega), cut_from (by omega), Int.toNat_natCast]
    refine ⟨le_line (by omega), le_line (by omega), le_line (by omega), le_line (by omega), le_line (by rw [Str.length_append]; omega), line_of (by simp; omega), ?_⟩
    obtain ⟨z, hz⟩ : ∃ z, (plist i)[i]? = some z := ⟨_, List.getElem?_eq_getElem (by rw [plist_len]; omega)⟩
    have hzl : z.length ≤ 6 := (plist_ok.2 z (by
      have hp2 := plist_pre (i := i) (j := 40) (by omega)
      obtain ⟨r, hr⟩ := hp2
      have : ((plist 40).take 40)[i]? = some z := by
        rw [List.getElem?_take_of_lt (by omega), ← hr, List.getElem?_append_left (by rw [plist_len]; omega)]; exact hz
      exact List.mem_of_getElem? this)).2.1
    have hz2 : (((plist i).map mk).map D.str)[i]? = some (.str (mk z)) := by rw [List.getElem?_map, List.getElem?_map, hz]; rfl
    rw [ixL_eq, atI_nat hz2]
    have hmz : (mk z).length ≤ 6 := by rw [← cs_len, cs_mk]; exact hzl
    walk_at "db"
    refine ⟨le_line (by show (mk z).length + 1 ≤ 1000; omega), ?_⟩
    rw [ixL_eq, atI_nat hz2]
    walk_at "db"
    refine ⟨le_line (by show (mk z).length + 1 ≤ 1000; omega), Nat.le_of_lt (line_of (by rw [List.length_map, List.length_map, plist_len]; omega)), .im (.int i), .im (.str L), ?_⟩
    have e3 : ((List.range (i + 1)).map (fnd st p f)).map D.str = ((List.range i).map (fnd st p f)).map D.str ++ [.str (fnd st p f i)] := by rw [List.range_succ, List.map_append, List.map_append]; rfl
    have e4 : ((plist (i + 1)).map mk).map D.str = ((plist i).map mk).map D.str ++ [.str (mk z ++ "a"), .str (mk z ++ "b")] := by
      have ez : (plist i).getD i [] = z := by rw [List.getD_eq_getElem?_getD, hz]; rfl
      have ea : mk (z ++ [97]) = mk z ++ "a" := str_ext (by rw [cs_mk, cs_app, cs_mk]; rfl)
      have eb : mk (z ++ [98]) = mk z ++ "b" := str_ext (by rw [cs_mk, cs_app, cs_mk]; rfl)
      rw [plist, ez, List.map_append, List.map_append, List.map_cons, List.map_cons, List.map_cons, ea, eb]; rfl
    rw [e3, e4, hfn]
  · rintro δ' ⟨c10, c11, rfl⟩
    rw [rngD_len]
    walk_at "db"
    refine lc_nd (fun y => ∃ k, k < 25 ∧ y = .str (lt1 k)) (by rw [rngD_len]; decide) (fun x hx K1 k1 => ?_) fun acc hl ha => ?_
    · walk_at "db"
      intro i i0 i1
      exact ix_abc i0 (by omega) (k1 _ ⟨i.toNat, by omega, rfl⟩)
    obtain ⟨ss2, rfl, hl3, h2, hal2, hlen2⟩ := letters_of fun y hy => let ⟨k, hk, e⟩ := ha y hy; ⟨k, by omega, e⟩
    have hlt := letters_lt ha
    rw [rngD_len] at hl
    have hl : (ss2.map D.str).length = 5 := hl
    walk_at "db"
    rw [join_at (by rw [ones_sum h2, hl3, hl]; omega)]
    generalize Str.join "" ss2 = lg at hal2 hlen2 hlt
    rw [hl] at hlen2
    walk_at "db"
    refine ⟨⟨by split <;> omega, by split <;> omega⟩, ?_⟩
    have hN : (if 26 < (n : Int) then (26 : Int) else n).toNat = min n 26 := by split <;> omega
    rw [hN]
    refine lc_m (List.range (min n 26)) (fun k => .int (0 + (k : Int))) (fun k => .str (mk (cs lg ++ [97 + (f + 7 * k) % 26]))) rfl (by simp; omega) (fun k hk K1 k1 => ?_) ?_
    · walk_at "db"
      refine ⟨cm1 (by decide), ?_⟩
      refine ix_abc (Int.emod_nonneg _ (by decide)) (Int.emod_lt_of_pos _ (by decide)) ?_
      walk_at "db"
      have e1 : ((f + 7 * (0 + (k : Int)) : Int) % 26).toNat = (f + 7 * k) % 26 := by omega
      rw [e1]
      have e2 : lg ++ lt1 ((f + 7 * k) % 26) = mk (cs lg ++ [97 + (f + 7 * k) % 26]) := str_ext (by rw [cs_mk, cs_app, cs_lt1])
      rw [e2]
      exact ⟨le_line (by show lg.length + 1 ≤ 1000; rw [← cs_len]; omega), k1⟩
    walk_at "db"
    refine lc_go w D.str (fun s => !decide (s ∈ (List.range n).map (fnd st p f))) D.str rfl (by rw [wl]; decide) (fun s hs K1 K2 k1 k2 => ?_) ?_
    · walk_at "db"
      exact if_b k1 k2
    walk_at "db"
    have fin : ∀ l : List Str, n ≤ l.length → (l.take n).Nodup → (∀ s ∈ l.take n, isNm s) → slD (.lst (l.map D.str)) none (some (n : Int)) fun z => sd__law_mixed [.box a, z] fun d => Q d := by
      intro l h1 h2 h3
      rw [x_slL, cut_to (by omega), Int.toNat_natCast, ← List.map_take, mixed_at]
      refine ⟨by rw [List.length_map, List.length_take]; omega, fun l' hp => ?_⟩
      obtain ⟨w', rfl, wl', wm', wn'⟩ := perm_strs hp
      refine q w' (by rw [wl', List.length_take]; omega) (wn' h2) fun s hs => h3 s ((wm' s).mp hs)
    have F1 : ((List.range n).map (fnd st p f)).Nodup := range_nodup fun k l hk hl e => fnd_inj (by omega) (by omega) e
    have F2 : ∀ s ∈ (List.range n).map (fnd st p f), isNm s := fun s hs => by
      obtain ⟨k, hk, rfl⟩ := List.mem_map.mp hs
      exact fnd_isNm (by have := List.mem_range.mp hk; omega) hal hst'
    have F3 : ((List.range n).map (fnd st p f)).length = n := by simp
    have FF := fin _ (by omega) (F1.sublist (List.take_sublist _ _)) fun s hs => F2 s (List.mem_of_mem_take hs)
    have O := fin ((w.filter fun s => !decide (s ∈ (List.range n).map (fnd st p f))) ++ (List.range n).map (fnd st p f)) (by rw [List.length_append]; omega)
      (List.Nodup.sublist (List.take_sublist _ _) (by
        rw [List.nodup_append]
        refine ⟨(wn wds_ok.1).sublist List.filter_sublist, F1, fun x hx y hy e => ?_⟩
        subst e
        have := (List.mem_filter.mp hx).2
        simp only [Bool.not_eq_true', decide_eq_false_iff_not] at this
        exact this hy)) fun s hs => by
        rcases List.mem_append.mp (List.mem_of_mem_take hs) with h | h
        · exact wds_isNm ((wm s).mp (List.mem_filter.mp h).1)
        · exact F2 s h
    have Pp : ((plist n).map mk).take n = (((plist 40).take 40).map mk).take n := by
      rw [← List.map_take, ← List.map_take, List.take_take, Nat.min_eq_left hn]
      obtain ⟨r, hr⟩ := plist_pre (i := n) (j := 40) hn
      rw [← hr, List.take_append_of_le_length (by rw [plist_len]; omega)]
    have P := fin ((plist n).map mk) (by rw [List.length_map, plist_len]; omega) (by
        rw [Pp]
        refine List.Nodup.sublist (List.take_sublist _ _) ?_
        rw [List.nodup_iff_pairwise_ne, List.pairwise_map]
        exact (List.nodup_iff_pairwise_ne.mp plist_ok.1).imp fun h e => h (mk_inj e)) fun s hs => by
        rw [Pp] at hs
        obtain ⟨z, hz, rfl⟩ := List.mem_map.mp (List.mem_of_mem_take hs)
        have := plist_ok.2 z hz
        exact ⟨⟨by rw [cs_mk]; exact this.1, by rw [cs_mk]; exact this.2.1, by rw [cs_mk]; exact this.2.2⟩, by rw [cs_mk]; exact plist_nz z hz⟩
    refine ⟨Nat.le_of_lt (line_of (by
      have := List.length_filter_le (fun s => !decide (s ∈ (List.range n).map (fnd st p f))) w
      rw [List.length_map, List.length_map, F3]
      have : wds.length = 16 := rfl
      omega)), ?_⟩
    have last : ∀ z, (slD z none (some (n : Int)) fun z => sd__law_mixed [.box a, z] fun d => Q d) → ixX (.lst [.lst ((w.filter fun s => !decide (s ∈ (List.range n).map (fnd st p f))).map D.str ++ ((List.range n).map (fnd st p f)).map D.str), .lst (((plist n).map mk).map D.str), z, .lst (((List.range n).map (fnd st p f)).map D.str), .lst (((List.range n).map (fnd st p f)).map D.str)]) (.int fo) fun z => slD z none (some (n : Int)) fun z => sd__law_mixed [.box a, z] fun d => Q d := by
      intro z hz
      rw [← List.map_append]
      have : fo = 0 ∨ fo = 1 ∨ fo = 2 ∨ fo = 3 ∨ fo = 4 := by omega
      rcases this with rfl | rfl | rfl | rfl | rfl
      · rw [x_ix0]; exact O
      · rw [x_ix1]; exact P
      · rw [x_ix2]; exact hz
      · rw [x_ix3]; exact FF
      · rw [x_ix4]; exact FF
    by_cases h26 : 26 < n
    · have : decide (26 < (n : Int)) = true := decide_eq_true (by omega)
      rw [this, if_pos rfl, x_ix1]
      exact last _ FF
    · have : decide (26 < (n : Int)) = false := decide_eq_false (by omega)
      rw [this, if_neg Bool.false_ne_true, x_ix0]
      refine last _ ?_
      have hm : min n 26 = n := by omega
      rw [hm]
      have e5 : (List.range n).map (fun k => D.str (mk (cs lg ++ [97 + (f + 7 * k) % 26]))) = ((List.range n).map fun k => mk (cs lg ++ [97 + (f + 7 * k) % 26])).map D.str := by rw [List.map_map]; rfl
      rw [e5]
      refine fin _ (by simp) (List.Nodup.sublist (List.take_sublist _ _) (range_nodup fun k l hk hl e => ?_)) fun s hs => ?_
      · have := List.append_cancel_left (mk_inj e)
        simp only [List.cons.injEq, and_true] at this
        omega
      · obtain ⟨k, hk, rfl⟩ := List.mem_map.mp (List.mem_of_mem_take hs)
        refine ⟨⟨by rw [cs_mk]; simp, by rw [cs_mk, List.length_append, hlen2]; simp, ?_⟩, ?_⟩
        · rw [cs_mk]
          exact alpha_app hal2 fun c hc => by rw [List.mem_singleton] at hc; omega
        · rw [cs_mk]
          intro z
          cases hlg : cs lg with
          | nil => rw [hlg] at hlen2; simp at hlen2
          | cons c r =>
            have := hlt c (by rw [hlg]; exact List.mem_cons_self)
            rw [hlg] at z
            unfold zz6 at z
            simp only [List.cons_append, List.cons.injEq] at z
            omega

local macro_rules | `(tactic| walk_at "ds") => `(tactic| try simp only [↓s_next, ↓s_seq, ↓s_sto, ↓s_drop, ↓s_ret, ↓s_if, ↓s_never, ↓s_asg, ↓s_asgO, ↓s_pars, ↓s_great, ↓g_name, ↓g_nil, ↓g_cons, ↓g_seqT, ↓g_seqL, ↓g_box, ↓for_eq, ↓lc_eq, ↓dc_eq, ↓i_seq, ↓i_enum, ↓i_range1,
  ↓vi0, ↓vo0, ↓ri0, ↓ro0, ↓ol0, ↓as0, ↓vi1, ↓vo1, ↓ri1, ↓ro1, ↓ol1, ↓as1, ↓vi2, ↓vo2, ↓ri2, ↓ro2, ↓ol2, ↓as2, ↓vi3, ↓vo3, ↓ri3, ↓ro3, ↓ol3, ↓as3, ↓vi4, ↓vo4, ↓ri4, ↓ro4, ↓ol4, ↓as4, ↓vi5, ↓vo5, ↓ri5, ↓ro5, ↓ol5, ↓as5, ↓vi6, ↓vo6, ↓ri6, ↓ro6, ↓ol6, ↓as6, ↓vi7, ↓vo7, ↓ri7, ↓ro7, ↓ol7, ↓as7, ↓vi8, ↓vo8, ↓ri8, ↓ro8, ↓ol8, ↓as8, ↓vi9, ↓vo9, ↓ri9, ↓ro9, ↓ol9, ↓as9, ↓vi10, ↓vo10, ↓ri10, ↓ro10, ↓ol10, ↓as10, ↓vi11, ↓vo11, ↓ri11, ↓ro11, ↓ol11, ↓as11, ↓vi12, ↓vo12, ↓ri12, ↓ro12, ↓ol12, ↓as12, ↓vi13, ↓vo13, ↓ri13, ↓ro13, ↓ol13, ↓as13, ↓vi14, ↓vo14, ↓ri14, ↓ro14, ↓ol14, ↓as14, ↓vi15, ↓vo15, ↓ri15, ↓ro15, ↓ol15, ↓as15, ↓vi16, ↓vo16, ↓ri16, ↓ro16, ↓ol16, ↓as16, ↓vi17, ↓vo17, ↓ri17, ↓ro17, ↓ol17, ↓as17, ↓vi18, ↓vo18, ↓ri18, ↓ro18, ↓ol18, ↓as18, ↓vi19, ↓vo19, ↓ri19, ↓ro19, ↓ol19, ↓as19, ↓vi20, ↓vo20, ↓ri20, ↓ro20, ↓ol20, ↓as20, ↓vi21, ↓vo21, ↓ri21, ↓ro21, ↓ol21, ↓as21, ↓vi22, ↓vo22, ↓ri22, ↓ro22, ↓ol22, ↓as22, ↓vi23, ↓vo23, ↓ri23, ↓ro23, ↓ol23, ↓as23, ↓vi24, ↓vo24, ↓ri24, ↓ro24, ↓ol24, ↓as24, ↓vi25, ↓vo25, ↓ri25, ↓ro25, ↓ol25, ↓as25, ↓at_s1, ↓at_s0, ↓at_w1, ↓at_w0, ↓mt_b, ↓mt_l, ↓mt_t, ↓mt_i,
  ↓e_c, ↓e_nil, ↓e_cons, ↓e_tup, ↓e_lst, ↓e_two1, ↓e_two2, ↓e_two3, ↓e_two4, ↓e_bin, ↓e_tbin, ↓e_chain, ↓e_and, ↓e_or, ↓e_not, ↓e_tru1, ↓e_tru2, ↓e_andV, ↓e_orV, ↓e_notV, ↓e_if, ↓e_call, ↓e_p0, ↓e_p1, ↓e_one1, ↓e_one2, ↓e_b1, ↓e_b2, ↓e_tb2, ↓e_sl1, ↓e_sl2, ↓e_append, ↓e_extend, ↓e_popAt, ↓e_yes, ↓e_join, ↓in_strL, ↓in_strT, ↓x_mulS, ↓e_new, ↓e_newV, ↓e_meth, ↓e_prop, ↓e_stat, ↓e_statI, ↓e_clsM, ↓e_evN, ↓e_evI, ↓e_evO, ↓e_boxNew,
  z0, z1, z2, h0, h1, h2, ↓bx0, ↓rgI, ↓sqL, ↓sqT, ↓sqR, ↓enL, ↓enT, ↓lsL, wipeD, e_var, v0, v1, r0, r1, o0, m0, at0, setD, startD, startI, dFldSet,
  List.map_cons, List.map_nil, List.replicate, List.cons_append, List.nil_append, List.length_cons, List.length_nil, List.getElem?_cons_zero, List.getElem?_cons_succ, List.getElem?_nil, List.set_cons_zero, List.set_cons_succ, List.set_nil, Nat.reduceAdd, Nat.reduceSub, Nat.sub_zero, Nat.sub_self, Nat.zero_add, Nat.add_zero,
  true_and, and_true, if_true, if_false, Bool.false_eq_true, Bool.not_true, Bool.not_false, Bool.not_eq_true, decide_true, decide_false, Bool.true_eq_false, reduceCtorEq, ite_true, ite_false, List.mem_cons, List.not_mem_nil, or_false, beq_self_eq_true, Nat.reduceLT, Nat.reduceLeDiff, Int.reduceLT, Int.reduceLE, Int.reduceAdd, Int.reduceSub, Int.reduceMul, Int.reducePow, Int.reduceToNat, Int.reduceEq, Int.reduceNeg, Int.reduceMod, Int.reduceDiv, Nat.reduceEqDiff, and_self, Bool.not_not,
  ↓x_bl, x_truB, x_truL, x_truT, x_truI, ↓x_eqI, ↓x_eqS, ↓x_eqB, ↓x_neI, ↓x_neS, ↓x_neB, ↓x_addI, ↓x_addL, ↓x_addT, ↓x_addS, ↓x_subI, ↓x_mulI, ↓x_modI, ↓x_fdivI, ↓x_powI, ↓x_lt, ↓x_le, ↓x_gt, ↓x_ge, ↓x_ltP, ↓x_leP, ↓x_gtP, ↓x_geP, ↓x_lenL, ↓x_lenT, ↓x_lenS, ↓x_tupL, ↓x_tupT, ↓x_lisL, ↓x_lisT, ↓x_rev, ↓x_intI, ↓x_intB, ↓x_abs, ↓x_min, ↓x_max, ↓x_is, ↓x_isNot, x_isN0, x_isN1, x_isN2, x_isN3, x_isN4, ↓x_nil, ↓x_nnil, ↓x_ix0, ↓x_ix1, ↓x_ix2, ↓x_ix3, ↓x_ix4, ↓x_ix5, ↓x_ix6, ↓x_ix7, ↓x_it0, ↓x_it1, ↓x_it2, ↓x_ixB, x_kn, x_ks, x_kt, ↓x_slL, ↓x_slT, ↓x_slS, ↓x_slR])

/-! ### lengths: plain data -/
abbrev Ln := Option Int
def rk : Ln → Int | none => 1 | some _ => 0
def sz : Ln → Int | none => 0 | some n => n
def lenE (o : Ln) : D := .ins "Length" [("rank", .int (rk o)), ("size", .int (sz o))]
def unlen : D → Option Ln
  | .ins C [(a, .int r), (b, .int s)] => if C = "Length" ∧ a = "rank" ∧ b = "size" then (if r = 1 ∧ s = 0 then some none else if r = 0 then some (some s) else none) else none
  | _ => none
theorem unlen_lenE (o : Ln) : unlen (lenE o) = some o := by
  cases o with
  | none => rfl
  | some n => simp [unlen, lenE, rk, sz]
def unlens : List D → Option (List Ln)
  | [] => some []
  | d :: r => match unlen d, unlens r with | some a, some l => some (a :: l) | _, _ => none
theorem unlens_map (l : List Ln) : unlens (l.map lenE) = some l := by
  induction l with
  | nil => rfl
  | cons a r ih => simp only [List.map_cons, unlens, unlen_lenE, ih]
def addL : Ln → Ln → Ln
  | some a, some b => some (a + b)
  | _, _ => none
def ltL (a b : Ln) : Bool := if rk a = rk b then decide (sz a < sz b) else decide (rk a < rk b)
def leL (a b : Ln) : Bool := if rk a = rk b then decide (sz a ≤ sz b) else decide (rk a ≤ rk b)
def leastL (a : Ln) : List Ln → Ln
  | [] => a
  | b :: r => leastL (if ltL b a = true then b else a) r
def sp2 (f : Ln → Ln → D) : SpD := fun ds Q => match ds with | [a, b] => (match unlen a, unlen b with | some a, some b => Q (f a b) | _, _ => False) | _ => False
theorem sp2_at (f : Ln → Ln → D) (a b : Ln) (Q : D → Prop) : sp2 f [lenE a, lenE b] Q = Q (f a b) := by simp only [sp2, unlen_lenE]
theorem unlen_inv {d : D} {a : Ln} (h : unlen d = some a) : d = lenE a := by
  unfold unlen at h
  split at h
  · split at h
    · rename_i z
      obtain ⟨rfl, rfl, rfl⟩ := z
      split at h
      · rename_i z; obtain ⟨rfl, rfl⟩ := z; cases h; rfl
      · split at h
        · rename_i z; subst z; cases h; rfl
        · cases h
    · cases h
  · cases h
theorem sp2_ex {f : Ln → Ln → D} {ds : List D} {Q : D → Prop} (h : sp2 f ds Q) : ∃ a b, ds = [lenE a, lenE b] ∧ Q (f a b) := by
  unfold sp2 at h
  split at h
  · split at h
    · rename_i a b x y e1 e2
      exact ⟨x, y, by rw [unlen_inv e1, unlen_inv e2], h⟩
    · exact h.elim
  · exact h.elim
theorem unlens_inv : ∀ {l : List D} {r : List Ln}, unlens l = some r → l = r.map lenE
  | [], r, h => by cases h; rfl
  | d :: l, r, h => by
    rw [unlens] at h
    split at h
    · rename_i a k e1 e2
      cases h
      rw [List.map_cons, ← unlen_inv e1, ← unlens_inv e2]
    · cases h
theorem ins_lenE (o : Ln) : insOf (lenE o) = some (("Length" : Str), [(("rank" : Str), D.int (rk o)), (("size" : Str), D.int (sz o))]) := rfl
theorem isi_len (a : Ln) {tb : List (Str × Bool)} {b : Bool} {Q : D → Prop} (h : tb.lookup ("Length" : Str) = some b) : isiC tb (lenE a) Q = Q (.bl b) := by
  unfold isiC
  simp only [ins_lenE, h]
theorem isi_len1 (a : Ln) {Q : D → Prop} : isiC [("Length", true)] (lenE a) Q = Q (.bl true) := isi_len a rfl
theorem isi_int1 {tb : List (Str × Bool)} (i : Int) {Q : D → Prop} : isiC tb (.int i) Q = Q (.bl false) := rfl
theorem fld_rank (a : Ln) {Q : D → Prop} : fldD "rank" ["Length"] (lenE a) Q = Q (.int (rk a)) := by
  unfold fldD; simp only [ins_lenE]; simp [List.lookup_cons]
theorem fld_size (a : Ln) {Q : D → Prop} : fldD "size" ["Length"] (lenE a) Q = Q (.int (sz a)) := by
  unfold fldD; simp only [ins_lenE]
  have : (("size" : Str) == ("rank" : Str)) = false := by decide +kernel
  simp [List.lookup_cons, this]
theorem len_fold0 : D.ins "Length" [("rank", .int 1), ("size", .int 0)] = lenE none := rfl
theorem len_fold1 (n : Int) : D.ins "Length" [("rank", .int 0), ("size", .int n)] = lenE (some n) := rfl
theorem eq_pair {a b c d : Int} {Q : D → Prop} : eqX (.tup [.int a, .int b]) (.tup [.int c, .int d]) Q = Q (.bl (decide (a = c ∧ b = d))) := by
  have e : eqX (.tup [.int a, .int b]) (.tup [.int c, .int d]) Q = ((isDat (.tup [.int a, .int b]) = true ∧ isDat (.tup [.int c, .int d]) = true ∧ dep (.tup [.int a, .int b]) ≤ 64 ∧ dep (.tup [.int c, .int d]) ≤ 64) ∧ Q (.bl (eqB (.tup [.int a, .int b]) (.tup [.int c, .int d])))) := by unfold eqX; rfl
  rw [e]
  have h1 : dep (.tup [.int a, .int b]) ≤ 64 := by show _ + 1 ≤ 64; simp [pyL, py, PyData.depthAll, PyData.depth]
  have h2 : dep (.tup [.int c, .int d]) ≤ 64 := by show _ + 1 ≤ 64; simp [pyL, py, PyData.depthAll, PyData.depth]
  have h3 : eqB (.tup [.int a, .int b]) (.tup [.int c, .int d]) = decide (a = c ∧ b = d) := by
    have := eqB_plain (a := .tup [.int a, .int b]) (b := .tup [.int c, .int d]) rfl rfl
    have h4 : (D.tup [.int a, .int b] = .tup [.int c, .int d]) ↔ a = c ∧ b = d := by simp
    rw [h4] at this
    exact Bool.eq_iff_iff.mpr (by rw [this, decide_eq_true_iff])
  rw [h3]
  simp only [h1, h2, and_true]
  have : isDat (.tup [.int a, .int b]) = true := rfl
  have : isDat (.tup [.int c, .int d]) = true := rfl
  simp only [*, true_and]
theorem eq_len (a b : Ln) : decide (rk a = rk b ∧ sz a = sz b) = decide (a = b) := by
  cases a with
  | none => cases b with
    | none => rfl
    | some n => simp [rk]
  | some m => cases b with
    | none => simp [rk]
    | some n => simp [rk, sz]

/-! ### the order of lengths -/
def lnLe : Ln → Ln → Prop
  | _, none => True
  | none, some _ => False
  | some a, some b => a ≤ b
theorem leL_iff (a b : Ln) : leL a b = true ↔ lnLe a b := by cases a <;> cases b <;> simp [leL, rk, sz, lnLe] <;> exact decide_eq_true_iff
theorem ltL_iff (a b : Ln) : ltL a b = true ↔ ¬ lnLe b a := by cases a <;> cases b <;> simp [ltL, rk, sz, lnLe] <;> exact decide_eq_true_iff
instance (a b : Ln) : Decidable (lnLe a b) := decidable_of_iff _ (leL_iff a b)
theorem ltL_eq (a b : Ln) : ltL a b = decide (¬ lnLe b a) := by rw [Bool.eq_iff_iff, decide_eq_true_iff]; exact ltL_iff a b
theorem lnLe.rfl' (a : Ln) : lnLe a a := by cases a <;> simp [lnLe]
theorem lnLe.tr {a b c : Ln} (h : lnLe a b) (k : lnLe b c) : lnLe a c := by
  cases a <;> cases b <;> cases c <;> simp_all [lnLe]; omega
theorem lnLe.tot (a b : Ln) : lnLe a b ∨ lnLe b a := by
  cases a <;> cases b <;> simp [lnLe]; omega
theorem lnLe.anti {a b : Ln} (h : lnLe a b) (k : lnLe b a) : a = b := by
  cases a <;> cases b <;> simp_all [lnLe]; omega
def minL (a b : Ln) : Ln := if ltL b a = true then b else a
theorem minL_le1 (a b : Ln) : lnLe (minL a b) a := by
  unfold minL; rw [ltL_eq]
  by_cases h : lnLe a b
  · simp [h, lnLe.rfl']
  · have := (lnLe.tot a b).resolve_left h; simp [h, this]
theorem minL_le2 (a b : Ln) : lnLe (minL a b) b := by
  unfold minL; rw [ltL_eq]
  by_cases h : lnLe a b
  · simp [h]
  · simp [h, lnLe.rfl']
theorem minL_or (a b : Ln) : minL a b = a ∨ minL a b = b := by unfold minL; split <;> simp
theorem minL_ge {a b c : Ln} (h : lnLe c a) (k : lnLe c b) : lnLe c (minL a b) := by rcases minL_or a b with e | e <;> rw [e] <;> assumption
theorem addL_comm (a b : Ln) : addL a b = addL b a := by cases a <;> cases b <;> simp [addL, Int.add_comm]
theorem addL_assoc (a b c : Ln) : addL (addL a b) c = addL a (addL b c) := by cases a <;> cases b <;> cases c <;> simp [addL, Int.add_assoc]
theorem addL_zero (a : Ln) : addL a (some 0) = a := by cases a <;> simp [addL]
theorem addL_mono {a b c d : Ln} (h : lnLe a b) (k : lnLe c d) : lnLe (addL a c) (addL b d) := by
  cases a <;> cases b <;> cases c <;> cases d <;> simp_all [addL, lnLe]; omega
theorem addL_min (a b c : Ln) : addL (minL a b) c = minL (addL a c) (addL b c) := by
  rcases lnLe.tot a b with h | h
  · have e1 : minL a b = a := lnLe.anti (minL_le1 _ _) (minL_ge (lnLe.rfl' _) h)
    have e2 : minL (addL a c) (addL b c) = addL a c := lnLe.anti (minL_le1 _ _) (minL_ge (lnLe.rfl' _) (addL_mono h (lnLe.rfl' _)))
    rw [e1, e2]
  · have e1 : minL a b = b := lnLe.anti (minL_le2 _ _) (minL_ge h (lnLe.rfl' _))
    have e2 : minL (addL a c) (addL b c) = addL b c := lnLe.anti (minL_le2 _ _) (minL_ge (addL_mono h (lnLe.rfl' _)) (lnLe.rfl' _))
    rw [e1, e2]
def sd_Length___init__ : SpI := fun ds Q => match ds with
  | [.non] => Q [("rank", .int 1), ("size", .int 0)]
  | [.int n] => Q [("rank", .int 0), ("size", .int n)]
  | _ => False
theorem len_Length___init__ (ds : List D) (Q : List (Str × D) → Prop) (h : sd_Length___init__ ds Q) : ds.length + 1 = 2 := by
  unfold sd_Length___init__ at h; split at h <;> first | rfl | exact h.elim
theorem init_non {Q : List (Str × D) → Prop} : sd_Length___init__ [.non] Q = Q [("rank", .int 1), ("size", .int 0)] := rfl
theorem init_int {n : Int} {Q : List (Str × D) → Prop} : sd_Length___init__ [.int n] Q = Q [("rank", .int 0), ("size", .int n)] := rfl
abbrev N_Length___init__ : List Str := ["self", "number"]
theorem sc_Length___init__ : FnScope N_Length___init__ ["self", "number"] (defScope st_Length___init__) := ⟨rfl, rfl, rfl, by decide +kernel, rfl, by decide +kernel, by decide +kernel⟩
def t_Length___init__ : TDS :=
  dSeq (dFldSet 0 "rank" ["Length"] (dIf (dtBin (isD) (.sl 1) (.ex (dC .non))) (dC (.int 1)) (dC (.int 0))))
  (dFldSet 0 "size" ["Length"] (dIf (dtBin (isD) (.sl 1) (.ex (dC .non))) (dC (.int 0)) (dVar 1)))
theorem pure_Length___init__ (y : Addr) (ds : List D) (Q : List (Str × D) → Prop) (h : sd_Length___init__ ds Q) : t_Length___init__ { nx := fun δ => ∃ fs, δ[0]? = some (.ow (.self y "Length" fs)) ∧ Q fs, rt := fun _ _ => False } (startI 2 y "Length" ds) := by
  unfold sd_Length___init__ at h
  unfold t_Length___init__
  split at h
  · walk_at "ds"
    exact ⟨by simp [putFD], _, rfl, h⟩
  · walk_at "ds"
    exact ⟨by simp [putFD], _, rfl, h⟩
  · exact h.elim
theorem ownD_at {a b : Ln} {Q : D → Prop} {sd : SpD} {g : D → D → (D → Prop) → Prop} : ownD "Length" sd g (lenE a) (lenE b) Q = sd [lenE a, lenE b] Q := by
  unfold ownD
  simp only [ins_lenE, true_and]
  rfl
def sd_Length___add__ : SpD := fun ds Q => match ds with
  | [a, .int i] => (match unlen a with | some a => Q (lenE (addL a (some i))) | none => False)
  | [a, b] => (match unlen a, unlen b with | some a, some b => Q (lenE (addL a b)) | _, _ => False)
  | _ => False
theorem add_at (a b : Ln) (Q : D → Prop) : sd_Length___add__ [lenE a, lenE b] Q = Q (lenE (addL a b)) := by
  show (match unlen (lenE a), unlen (lenE b) with | some a, some b => Q (lenE (addL a b)) | _, _ => False) = _
  rw [unlen_lenE, unlen_lenE]
theorem add_atI (a : Ln) (i : Int) (Q : D → Prop) : sd_Length___add__ [lenE a, .int i] Q = Q (lenE (addL a (some i))) := by
  show (match unlen (lenE a) with | some a => Q (lenE (addL a (some i))) | none => False) = _
  rw [unlen_lenE]
theorem add_ex {ds : List D} {Q : D → Prop} (h : sd_Length___add__ ds Q) : (∃ a b, ds = [lenE a, lenE b] ∧ Q (lenE (addL a b))) ∨ ∃ a i, ds = [lenE a, .int i] ∧ Q (lenE (addL a (some i))) := by
  unfold sd_Length___add__ at h
  split at h
  · split at h
    · rename_i e; rw [unlen_inv e]; exact .inr ⟨_, _, rfl, h⟩
    · exact h.elim
  · split at h
    · rename_i e1 e2; rw [unlen_inv e1, unlen_inv e2]; exact .inl ⟨_, _, rfl, h⟩
    · exact h.elim
  · exact h.elim
theorem len_Length___add__ (ds : List D) (Q : D → Prop) (h : sd_Length___add__ ds Q) : ds.length = 2 := by rcases add_ex h with ⟨a, b, rfl, _⟩ | ⟨a, b, rfl, _⟩ <;> rfl
abbrev N_Length___add__ : List Str := ["self", "other", "more"]
theorem sc_Length___add__ : FnScope N_Length___add__ ["self", "other"] (defScope st_Length___add__) := ⟨rfl, rfl, rfl, by decide +kernel, rfl, by decide +kernel, by decide +kernel⟩
def t_Length___add__ : TDS :=
  dSeq (dAsg (dIf (dTru (.ex (dB1 (isiC [("Length", true), ("Web", false)]) (.ex (dVar 1))))) (dVar 1) (dNew "Length" sd_Length___init__ (dCons (dVar 1) (dNil)))) 2)
  (dSeq (dIfS (dOr (dtBin (eqX) (.ex (dB1 (fldD "rank" ["Length"]) (.sl 0))) (.ex (dC (.int 1)))) (dtBin (eqX) (.ex (dB1 (fldD "rank" ["Length"]) (.sl 2))) (.ex (dC (.int 1))))) (dRet (dNew "Length" sd_Length___init__ (dCons (dC .non) (dNil)))) (dNext))
  (dRet (dNew "Length" sd_Length___init__ (dCons (dBin addX (.ex (dB1 (fldD "size" ["Length"]) (.sl 0))) (.ex (dB1 (fldD "size" ["Length"]) (.sl 2)))) (dNil)))))
theorem pure_Length___add__ (ds : List D) (Q : D → Prop) (h : sd_Length___add__ ds Q) : t_Length___add__ (ends Q) (startD 3 ds) := by
  unfold t_Length___add__
  rcases add_ex h with ⟨a, b, rfl, q⟩ | ⟨a, i, rfl, q⟩
  · walk_at "ds"
    simp only [isi_len1, isi_int1, fld_rank, fld_size, init_non, init_int, len_fold0, len_fold1, x_truB, x_eqI, x_bl, x_addI, if_true]
    cases a <;> cases b <;> exact q
  · walk_at "ds"
    simp only [isi_len1, isi_int1, fld_rank, fld_size, init_non, init_int, len_fold0, len_fold1, x_truB, x_eqI, x_bl, x_addI, if_true, Bool.false_eq_true, if_false]
    cases a <;> exact q
def sd_Length___radd__ : SpD := fun ds Q => match ds with
  | [a, .int i] => (match unlen a with | some a => Q (lenE (addL a (some i))) | none => False)
  | _ => False
theorem radd_at (a : Ln) (i : Int) (Q : D → Prop) : sd_Length___radd__ [lenE a, .int i] Q = Q (lenE (addL a (some i))) := by
  show (match unlen (lenE a) with | some a => Q (lenE (addL a (some i))) | none => False) = _
  rw [unlen_lenE]
theorem radd_ex {ds : List D} {Q : D → Prop} (h : sd_Length___radd__ ds Q) : ∃ a i, ds = [lenE a, .int i] ∧ Q (lenE (addL a (some i))) := by
  unfold sd_Length___radd__ at h
  split at h
  · split at h
    · rename_i e; rw [unlen_inv e]; exact ⟨_, _, rfl, h⟩
    · exact h.elim
  · exact h.elim
theorem len_Length___radd__ (ds : List D) (Q : D → Prop) (h : sd_Length___radd__ ds Q) : ds.length = 2 := by obtain ⟨a, i, rfl, _⟩ := radd_ex h; rfl
theorem ownL_at {a : Ln} {i : Int} {Q : D → Prop} {sd : SpD} : ownL "Length" sd (lenE a) (.int i) Q = sd [lenE a, .int i] Q := by
  show ((("Length" : Str) = "Length") ∧ sd [lenE a, .int i] Q) = _
  simp only [true_and]
abbrev N_Length___radd__ : List Str := ["self", "other"]
theorem sc_Length___radd__ : FnScope N_Length___radd__ ["self", "other"] (defScope st_Length___radd__) := ⟨rfl, rfl, rfl, by decide +kernel, rfl, by decide +kernel, by decide +kernel⟩
def t_Length___radd__ : TDS :=
  dRet (dB2 (ownL "Length" sd_Length___add__) (dVar 0) (dVar 1))
theorem pure_Length___radd__ (ds : List D) (Q : D → Prop) (h : sd_Length___radd__ ds Q) : t_Length___radd__ (ends Q) (startD 2 ds) := by
  obtain ⟨a, i, rfl, q⟩ := radd_ex h
  unfold t_Length___radd__
  walk_at "ds"
  rw [ownL_at, add_atI]
  exact q
def sd_Length___lt__ : SpD := sp2 fun a b => .bl (ltL a b)
theorem len_Length___lt__ (ds : List D) (Q : D → Prop) (h : sd_Length___lt__ ds Q) : ds.length = 2 := by obtain ⟨a, b, rfl, _⟩ := sp2_ex h; rfl
abbrev N_Length___lt__ : List Str := ["self", "other"]
theorem sc_Length___lt__ : FnScope N_Length___lt__ ["self", "other"] (defScope st_Length___lt__) := ⟨rfl, rfl, rfl, by decide +kernel, rfl, by decide +kernel, by decide +kernel⟩
def t_Length___lt__ : TDS :=
  dSeq (dIfS (dNot (dTru (.ex (dB1 (isiC [("Length", true), ("Web", false)]) (.ex (dVar 1)))))) (dNever) (dNext))
  (dRet (dBin ltP (.ex (dTup (dCons (dB1 (fldD "rank" ["Length"]) (.sl 0)) (dCons (dB1 (fldD "size" ["Length"]) (.sl 0)) (dNil))))) (.ex (dTup (dCons (dB1 (fldD "rank" ["Length"]) (.sl 1)) (dCons (dB1 (fldD "size" ["Length"]) (.sl 1)) (dNil)))))))
theorem pure_Length___lt__ (ds : List D) (Q : D → Prop) (h : sd_Length___lt__ ds Q) : t_Length___lt__ (ends Q) (startD 2 ds) := by
  obtain ⟨a, b, rfl, q⟩ := sp2_ex h
  unfold t_Length___lt__
  walk_at "ds"
  simp only [isi_len1, x_truB, Bool.not_true, Bool.false_eq_true, if_false, fld_rank, fld_size, x_ltP]
  exact q
theorem ownLt_at {a b : Ln} {Q : D → Prop} {g : D → D → (D → Prop) → Prop} : ownD "Length" sd_Length___lt__ g (lenE a) (lenE b) Q = Q (.bl (decide (¬ lnLe b a))) := by rw [ownD_at, sd_Length___lt__, sp2_at, ltL_eq]
def sd_Length___eq__ : SpD := sp2 fun a b => .bl (decide (a = b))
theorem len_Length___eq__ (ds : List D) (Q : D → Prop) (h : sd_Length___eq__ ds Q) : ds.length = 2 := by obtain ⟨a, b, rfl, _⟩ := sp2_ex h; rfl
abbrev N_Length___eq__ : List Str := ["self", "other"]
theorem sc_Length___eq__ : FnScope N_Length___eq__ ["self", "other"] (defScope st_Length___eq__) := ⟨rfl, rfl, rfl, by decide +kernel, rfl, by decide +kernel, by decide +kernel⟩
def t_Length___eq__ : TDS :=
  dSeq (dIfS (dNot (dTru (.ex (dB1 (isiC [("Length", true), ("Web", false)]) (.ex (dVar 1)))))) (dRet (dC (.bl false))) (dNext))
  (dRet (dBin (eqX) (.ex (dTup (dCons (dB1 (fldD "rank" ["Length"]) (.sl 0)) (dCons (dB1 (fldD "size" ["Length"]) (.sl 0)) (dNil))))) (.ex (dTup (dCons (dB1 (fldD "rank" ["Length"]) (.sl 1)) (dCons (dB1 (fldD "size" ["Length"]) (.sl 1)) (dNil)))))))
theorem pure_Length___eq__ (ds : List D) (Q : D → Prop) (h : sd_Length___eq__ ds Q) : t_Length___eq__ (ends Q) (startD 2 ds) := by
  obtain ⟨a, b, rfl, q⟩ := sp2_ex h
  unfold t_Length___eq__
  walk_at "ds"
  simp only [isi_len1, x_truB, Bool.not_true, Bool.false_eq_true, if_false, fld_rank, fld_size, eq_pair, eq_len]
  exact q
theorem leastL_snoc (b : Ln) : ∀ (l : List Ln) (a : Ln), leastL a (l ++ [b]) = if ltL b (leastL a l) = true then b else leastL a l
  | [], a => rfl
  | c :: l, a => by rw [List.cons_append, leastL, leastL_snoc b l]; rfl
def sd_Length_least : SpD := fun ds Q => match ds with
  | [a, .tup l] => (match unlen a, unlens l with | some a, some l => Q (lenE (leastL a l)) | _, _ => False)
  | _ => False
theorem least_ex {ds : List D} {Q : D → Prop} (h : sd_Length_least ds Q) : ∃ a l, ds = [lenE a, .tup (l.map lenE)] ∧ Q (lenE (leastL a l)) := by
  unfold sd_Length_least at h
  split at h
  · split at h
    · rename_i e1 e2; rw [unlen_inv e1, unlens_inv e2]; exact ⟨_, _, rfl, h⟩
    · exact h.elim
  · exact h.elim
theorem least_at (a : Ln) (l : List Ln) (Q : D → Prop) (hl : l.length ≤ 900) : starSd 1 sd_Length_least (lenE a :: l.map lenE) Q = Q (lenE (leastL a l)) := by
  have e : sd_Length_least [lenE a, .tup (l.map lenE)] Q = Q (lenE (leastL a l)) := by
    show (match unlen (lenE a), unlens (l.map lenE) with | some a, some l => Q (lenE (leastL a l)) | _, _ => False) = _
    rw [unlen_lenE, unlens_map]
  show (1 ≤ (lenE a :: l.map lenE).length ∧ (lenE a :: l.map lenE).length ≤ 1000 ∧ sd_Length_least [lenE a, .tup (l.map lenE)] Q) = _
  rw [e]
  simp only [List.length_cons, List.length_map, eq_iff_iff]
  constructor
  · exact fun h => h.2.2
  · exact fun h => ⟨by omega, by omega, h⟩
abbrev N_Length_least : List Str := ["first", "others", "found", "other"]
theorem sc_Length_least : FnScope N_Length_least ["first", "others"] (defScope st_Length_least) := ⟨rfl, rfl, rfl, by decide +kernel, rfl, by decide +kernel, by decide +kernel⟩
def t_Length_least : TDS :=
  dSeq (dAsg (dVar 0) 2)
  (dSeq (dFor (iSeq (dVar 1)) (dgName 3) (dIfS (dtB2 (ownD "Length" sd_Length___lt__ ltD) (dVar 3) (dVar 2)) (dAsg (dVar 3) 2) (dNext)))
  (dRet (dVar 2)))
theorem pure_Length_least (ds : List D) (Q : D → Prop) (h : sd_Length_least ds Q) : t_Length_least (ends Q) (startD 4 ds) := by
  obtain ⟨a, l, rfl, q⟩ := least_ex h
  unfold t_Length_least
  walk_at "ds"
  refine for_go (fun (i : Nat) (δ : DSt) => ∃ c, δ = [.im (lenE a), .im (.tup (l.map lenE)), .im (lenE (leastL a (l.take i))), c]) ⟨_, rfl⟩ ?_ ?_
  · rintro i d δ' hd ⟨c, rfl⟩
    rw [List.getElem?_map] at hd
    cases hx : l[i]? with
    | none => rw [hx] at hd; cases hd
    | some x =>
      rw [hx] at hd; cases hd
      walk_at "ds"
      have ht : l.take (i + 1) = l.take i ++ [x] := by rw [List.take_succ, hx]; rfl
      rw [ownD_at, sd_Length___lt__, sp2_at, ht, leastL_snoc, x_bl]
      cases ltL x (leastL a (l.take i))
      · exact ⟨_, rfl⟩
      · exact ⟨_, rfl⟩
  · rintro δ' ⟨c, rfl⟩
    rw [List.length_map, List.take_length]
    exact q

/-! ### operations on lengths, as equations -/
theorem ownNe_at {a b : Ln} {Q : D → Prop} {g : D → D → (D → Prop) → Prop} : ownNeD "Length" sd_Length___eq__ g (lenE a) (lenE b) Q = Q (.bl (!decide (a = b))) := by
  show ((("Length" : Str) = "Length") ∧ (("Length" : Str) = "Length") ∧ sp2 (fun a b => .bl (decide (a = b))) [lenE a, lenE b] fun z => onBl z fun c => Q (.bl (!c))) = _
  rw [sp2_at]
  simp only [true_and, x_bl]
theorem ownEq_at {a b : Ln} {Q : D → Prop} {g : D → D → (D → Prop) → Prop} : ownD "Length" sd_Length___eq__ g (lenE a) (lenE b) Q = Q (.bl (decide (a = b))) := by rw [ownD_at, sd_Length___eq__, sp2_at]
theorem ownA_at {a b : Ln} {Q : D → Prop} {sdr : SpD} {g : D → D → (D → Prop) → Prop} : ownA "Length" sd_Length___add__ sdr g (lenE a) (lenE b) Q = Q (lenE (addL a b)) := by
  show ((("Length" : Str) = "Length") ∧ (("Length" : Str) = "Length") ∧ sd_Length___add__ [lenE a, lenE b] Q) = _
  rw [add_at]; simp only [true_and]
theorem ownA_atI {a : Ln} {i : Int} {Q : D → Prop} {sdr : SpD} {g : D → D → (D → Prop) → Prop} : ownA "Length" sd_Length___add__ sdr g (lenE a) (.int i) Q = Q (lenE (addL a (some i))) := by
  show ((("Length" : Str) = "Length") ∧ sd_Length___add__ [lenE a, .int i] Q) = _
  rw [add_atI]; simp only [true_and]
theorem ownA_atR {a : Ln} {i : Int} {Q : D → Prop} {sd : SpD} {g : D → D → (D → Prop) → Prop} : ownA "Length" sd sd_Length___radd__ g (.int i) (lenE a) Q = Q (lenE (addL a (some i))) := by
  show ((("Length" : Str) = "Length") ∧ sd_Length___radd__ [lenE a, .int i] Q) = _
  rw [radd_at]; simp only [true_and]
theorem least_at0 (a : Ln) (Q : D → Prop) : starSd 1 sd_Length_least [lenE a] Q = Q (lenE a) := least_at a [] Q (by decide)
theorem least_at1 (a b : Ln) (Q : D → Prop) : starSd 1 sd_Length_least [lenE a, lenE b] Q = Q (lenE (minL a b)) := least_at a [b] Q (by simp)
theorem least_at2 (a b c : Ln) (Q : D → Prop) : starSd 1 sd_Length_least [lenE a, lenE b, lenE c] Q = Q (lenE (leastL a [b, c])) := least_at a [b, c] Q (by simp)
theorem statI_len {a : Ln} {m : Str} (h1 : (m == ("rank" : Str)) = false) (h2 : (m == ("size" : Str)) = false) : List.lookup m [(("rank" : Str), D.int (rk a)), (("size" : Str), D.int (sz a))] = none := by
  simp only [List.lookup_cons, h1, h2, List.lookup_nil]
theorem statI_least {a : Ln} : List.lookup ("least" : Str) [(("rank" : Str), D.int (rk a)), (("size" : Str), D.int (sz a))] = none := statI_len (by decide +kernel) (by decide +kernel)
/-- what is asked of a row of lengths and the least of them -/
theorem ownA_int {a b : Int} {Q : D → Prop} {sd sdr : SpD} {C : Str} : ownA C sd sdr addX (.int a) (.int b) Q = Q (.int (a + b)) := by
  show addX (.int a) (.int b) Q = _
  rw [x_addI]
theorem ownNe_b {p q : Bool} {Q : D → Prop} {sd : SpD} {C : Str} : ownNeD C sd neX (.bl p) (.bl q) Q = Q (.bl (!decide (p = q))) := by
  show neX (.bl p) (.bl q) Q = _
  rw [x_neB]
theorem ownEq_b {p q : Bool} {Q : D → Prop} {sd : SpD} {C : Str} : ownD C sd eqX (.bl p) (.bl q) Q = Q (.bl (decide (p = q))) := by
  show eqX (.bl p) (.bl q) Q = _
  rw [x_eqB]
theorem ownA_lst {l r : List D} {Q : D → Prop} {sd sdr : SpD} {C : Str} : ownA C sd sdr addX (.lst l) (.lst r) Q = (l.length + r.length ≤ sizeLine ∧ Q (.lst (l ++ r))) := by
  show addX (.lst l) (.lst r) Q = _
  rw [x_addL]
theorem ownEq_i {p q : Int} {Q : D → Prop} {sd : SpD} {C : Str} : ownD C sd eqX (.int p) (.int q) Q = Q (.bl (decide (p = q))) := by
  show eqX (.int p) (.int q) Q = _
  rw [x_eqI]
theorem ownGt_i {p q : Int} {Q : D → Prop} {sd : SpD} {C : Str} : ownD C sd gtD (.int p) (.int q) Q = Q (.bl (decide (q < p))) := by
  show gtD (.int p) (.int q) Q = _
  rw [x_gt]

theorem strs_inj {a b : List Str} : a.map D.str = b.map D.str ↔ a = b := ⟨fun h => by
  induction a generalizing b with
  | nil => cases b with | nil => rfl | cons _ _ => cases h
  | cons x r ih => cases b with
    | nil => cases h
    | cons y t =>
      simp only [List.map_cons, List.cons.injEq, D.str.injEq] at h
      rw [h.1, ih h.2], fun h => h ▸ rfl⟩
/-! ### webs: reaches as the greatest distances below the ropes -/
abbrev Rp := Str × Str × Int
abbrev Dst := Str → Str → Ln
def put2 (f : Dst) (x y : Str) (v : Ln) : Dst := fun a b => if a = x ∧ b = y then v else f a b
def dl0 : Dst := fun a b => if a = b then some 0 else none
def dlV (f : Dst) (r : Rp) : Ln := minL (f r.1 r.2.1) (some r.2.2)
def dlS (f : Dst) (r : Rp) : Dst := put2 (put2 f r.1 r.2.1 (dlV f r)) r.2.1 r.1 (dlV f r)
def dl (rs : List Rp) : Dst := rs.foldl dlS dl0
def fw (F : Dst) (k : Str) : Dst := fun a b => minL (F a b) (addL (F a k) (F k b))
def rch (ws : List Str) (rs : List Rp) : Dst := ws.foldl fw (dl rs)
structure RpOk (ws : List Str) (r : Rp) : Prop where
  a : r.1 ∈ ws
  b : r.2.1 ∈ ws
  ne : r.1 ≠ r.2.1
  nn : 0 ≤ r.2.2
structure Below (ws : List Str) (rs : List Rp) (g : Dst) : Prop where
  self : ∀ a ∈ ws, lnLe (g a a) (some 0)
  rope : ∀ r ∈ rs, lnLe (g r.1 r.2.1) (some r.2.2) ∧ lnLe (g r.2.1 r.1) (some r.2.2)
  tri : ∀ a ∈ ws, ∀ b ∈ ws, ∀ c ∈ ws, lnLe (g a c) (addL (g a b) (g b c))
structure IsRe (ws : List Str) (rs : List Rp) (F : Dst) : Prop where
  low : Below ws rs F
  top : ∀ g, Below ws rs g → ∀ a ∈ ws, ∀ b ∈ ws, lnLe (g a b) (F a b)
theorem lnLe_none (a : Ln) : lnLe a none := by cases a <;> trivial
theorem minL_of_le {a b : Ln} (h : lnLe a b) : minL a b = a := lnLe.anti (minL_le1 _ _) (minL_ge (lnLe.rfl' _) h)
theorem addL_zero' (a : Ln) : addL (some 0) a = a := by rw [addL_comm, addL_zero]
/-! the direct lengths -/
theorem dlS_sym {f : Dst} (h : ∀ a b, f a b = f b a) (r : Rp) (a b : Str) : dlS f r a b = dlS f r b a := by
  unfold dlS put2
  by_cases h1 : a = r.2.1 ∧ b = r.1
  · rw [if_pos h1]
    obtain ⟨rfl, rfl⟩ := h1
    by_cases h2 : r.1 = r.2.1 ∧ r.2.1 = r.1
    · rw [if_pos h2]
    · rw [if_neg h2, if_pos ⟨rfl, rfl⟩]
  · rw [if_neg h1]
    by_cases h2 : a = r.1 ∧ b = r.2.1
    · rw [if_pos h2, if_pos ⟨h2.2, h2.1⟩]
    · rw [if_neg h2, if_neg (fun z => h2 ⟨z.2, z.1⟩), if_neg (fun z => h1 ⟨z.2, z.1⟩), h]
theorem dlS_le {f : Dst} (h : ∀ a b, f a b = f b a) (r : Rp) (a b : Str) : lnLe (dlS f r a b) (f a b) := by
  unfold dlS put2
  by_cases h1 : a = r.2.1 ∧ b = r.1
  · rw [if_pos h1, h1.1, h1.2, h r.2.1 r.1]
    exact minL_le1 _ _
  · rw [if_neg h1]
    by_cases h2 : a = r.1 ∧ b = r.2.1
    · rw [if_pos h2, h2.1, h2.2]
      exact minL_le1 _ _
    · rw [if_neg h2]; exact lnLe.rfl' _
theorem dlS_low {ws : List Str} {f g : Dst} {r : Rp} (h : ∀ a ∈ ws, ∀ b ∈ ws, lnLe (g a b) (f a b)) (ha : r.1 ∈ ws) (hb : r.2.1 ∈ ws) (hf : ∀ a b, f a b = f b a) (k : lnLe (g r.1 r.2.1) (some r.2.2) ∧ lnLe (g r.2.1 r.1) (some r.2.2)) : ∀ a ∈ ws, ∀ b ∈ ws, lnLe (g a b) (dlS f r a b) := by
  intro a ma b mb
  unfold dlS put2
  by_cases h1 : a = r.2.1 ∧ b = r.1
  · rw [if_pos h1, h1.1, h1.2]
    refine minL_ge ?_ k.2
    rw [hf r.1 r.2.1]
    exact h _ hb _ ha
  · rw [if_neg h1]
    by_cases h2 : a = r.1 ∧ b = r.2.1
    · rw [if_pos h2, h2.1, h2.2]
      exact minL_ge (h _ ha _ hb) k.1
    · rw [if_neg h2]; exact h _ ma _ mb
theorem dl0_sym (a b : Str) : dl0 a b = dl0 b a := by
  unfold dl0
  by_cases h : a = b
  · rw [if_pos h, if_pos h.symm]
  · rw [if_neg h, if_neg fun z => h z.symm]
theorem dlF_le : ∀ (rs : List Rp) (f : Dst), (∀ a b, f a b = f b a) → ∀ a b, lnLe (rs.foldl dlS f a b) (f a b)
  | [], _, _ => fun _ _ => lnLe.rfl' _
  | r :: rs, f, h => fun a b => (dlF_le rs _ (dlS_sym h r) a b).tr (dlS_le h r a b)
theorem dl_self (rs : List Rp) (a : Str) : lnLe (dl rs a a) (some 0) := by
  have := dlF_le rs _ dl0_sym a a
  rwa [show dl0 a a = some 0 from if_pos rfl] at this
theorem dlF_low {ws : List Str} {g : Dst} : ∀ (rs : List Rp) (f : Dst), (∀ a b, f a b = f b a) → (∀ a ∈ ws, ∀ b ∈ ws, lnLe (g a b) (f a b)) → (∀ r ∈ rs, RpOk ws r) → (∀ r ∈ rs, lnLe (g r.1 r.2.1) (some r.2.2) ∧ lnLe (g r.2.1 r.1) (some r.2.2)) → ∀ a ∈ ws, ∀ b ∈ ws, lnLe (g a b) (rs.foldl dlS f a b)
  | [], _, _, h, _, _ => h
  | r :: rs, f, s, h, o, k => dlF_low rs _ (dlS_sym s r) (dlS_low h (o r List.mem_cons_self).a (o r List.mem_cons_self).b s (k r List.mem_cons_self)) (fun q hq => o q (List.mem_cons_of_mem _ hq)) fun q hq => k q (List.mem_cons_of_mem _ hq)
theorem dl_low {ws : List Str} {rs : List Rp} {g : Dst} (o : ∀ r ∈ rs, RpOk ws r) (h : Below ws rs g) : ∀ a ∈ ws, ∀ b ∈ ws, lnLe (g a b) (dl rs a b) :=
  dlF_low rs _ dl0_sym (fun a ha b _ => by
    unfold dl0
    split
    · next e => rw [← e]; exact h.self a ha
    · exact lnLe_none _) o h.rope
/-! the middles -/
structure Fws (ws : List Str) (rs : List Rp) (M : List Str) (F : Dst) : Prop where
  le : ∀ a b, lnLe (F a b) (dl rs a b)
  low : ∀ g, Below ws rs g → ∀ a ∈ ws, ∀ b ∈ ws, lnLe (g a b) (F a b)
  tri : ∀ m ∈ M, ∀ a ∈ ws, ∀ b ∈ ws, lnLe (F a b) (addL (F a m) (F m b))
theorem below_zero {ws : List Str} {rs : List Rp} (o : ∀ r ∈ rs, RpOk ws r) : Below ws rs (fun _ _ => some 0) where
  self _ _ := lnLe.rfl' _
  rope r hr := ⟨(o r hr).nn, (o r hr).nn⟩
  tri _ _ _ _ _ _ := by simp [addL, lnLe]
theorem Fws.pos {ws : List Str} {rs : List Rp} {M : List Str} {F : Dst} (o : ∀ r ∈ rs, RpOk ws r) (h : Fws ws rs M F) {a b : Str} (ha : a ∈ ws) (hb : b ∈ ws) : lnLe (some 0) (F a b) := h.low _ (below_zero o) a ha b hb
theorem Fws.zero {ws : List Str} {rs : List Rp} {M : List Str} {F : Dst} (o : ∀ r ∈ rs, RpOk ws r) (h : Fws ws rs M F) {a : Str} (ha : a ∈ ws) : F a a = some 0 := lnLe.anti ((h.le a a).tr (dl_self rs a)) (h.pos o ha ha)
theorem addL_pos {a b : Ln} (h : lnLe (some 0) b) : lnLe a (addL a b) := by
  cases a <;> cases b <;> simp_all [addL, lnLe]; omega
theorem addL4 (a b c d : Ln) : addL (addL a b) (addL c d) = addL (addL a (addL b c)) d := by rw [addL_assoc, addL_assoc, addL_assoc]
theorem addL_min2 (a b c : Ln) : addL c (minL a b) = minL (addL c a) (addL c b) := by rw [addL_comm, addL_min, addL_comm a, addL_comm b]
theorem Fws.step {ws : List Str} {rs : List Rp} {M : List Str} {F : Dst} (o : ∀ r ∈ rs, RpOk ws r) (h : Fws ws rs M F) (hM : ∀ m ∈ M, m ∈ ws) {k : Str} (hk : k ∈ ws) : Fws ws rs (M ++ [k]) (fw F k) where
  le a b := (minL_le1 _ _).tr (h.le a b)
  low g hg a ha b hb := minL_ge (h.low g hg a ha b hb) ((hg.tri a ha k hk b hb).tr (addL_mono (h.low g hg a ha k hk) (h.low g hg k hk b hb)))
  tri m hm a ha b hb := by
    have hm' : m ∈ ws := by
      rcases List.mem_append.mp hm with z | z
      · exact hM m z
      · rw [List.mem_singleton.mp z]; exact hk
    have z0 := h.zero o hk
    have rowk : ∀ x, fw F k k x = F k x := fun x => by
      unfold fw
      rw [z0, addL_zero', minL_of_le (lnLe.rfl' _)]
    have colk : ∀ x, fw F k x k = F x k := fun x => by
      unfold fw
      rw [z0, addL_zero, minL_of_le (lnLe.rfl' _)]
    have via : lnLe (fw F k a b) (addL (F a k) (F k b)) := minL_le2 _ _
    rcases List.mem_append.mp hm with z | z
    · have t1 : lnLe (fw F k a b) (F a b) := minL_le1 _ _
      have e : addL (fw F k a m) (fw F k m b) = minL (minL (addL (F a m) (F m b)) (addL (addL (F a k) (F k m)) (F m b))) (minL (addL (F a m) (addL (F m k) (F k b))) (addL (addL (F a k) (F k m)) (addL (F m k) (F k b)))) := by
        unfold fw
        rw [addL_min2, addL_min, addL_min]
      rw [e]
      refine minL_ge (minL_ge (t1.tr (h.tri m z a ha b hb)) ?_) (minL_ge ?_ ?_)
      · rw [addL_assoc]
        exact via.tr (addL_mono (lnLe.rfl' _) (h.tri m z k hk b hb))
      · rw [← addL_assoc]
        exact via.tr (addL_mono (h.tri m z a ha k hk) (lnLe.rfl' _))
      · rw [addL4]
        refine via.tr (addL_mono (addL_pos ?_) (lnLe.rfl' _))
        have := addL_mono (h.pos o hk hm') (h.pos o hm' hk)
        exact this
    · rw [List.mem_singleton.mp z, rowk, colk]
      exact via
theorem Fws.all {ws : List Str} {rs : List Rp} (o : ∀ r ∈ rs, RpOk ws r) : ∀ (l M : List Str) (F : Dst), (∀ m ∈ M, m ∈ ws) → (∀ m ∈ l, m ∈ ws) → Fws ws rs M F → Fws ws rs (M ++ l) (l.foldl fw F)
  | [], M, F, _, _, h => by rw [List.append_nil]; exact h
  | k :: l, M, F, hM, hl, h => by
    have := Fws.all o l (M ++ [k]) (fw F k) (fun m hm => by
      rcases List.mem_append.mp hm with z | z
      · exact hM m z
      · rw [List.mem_singleton.mp z]; exact hl k List.mem_cons_self) (fun m hm => hl m (List.mem_cons_of_mem _ hm)) (h.step o hM (hl k List.mem_cons_self))
    rwa [List.append_assoc] at this
theorem fws_nil {ws : List Str} {rs : List Rp} (o : ∀ r ∈ rs, RpOk ws r) : Fws ws rs [] (dl rs) := ⟨fun _ _ => lnLe.rfl' _, fun _ hg => dl_low o hg, fun _ h => nomatch h⟩
/-- row and column of the middle stay -/
theorem fw_row {F : Dst} {k : Str} (z0 : F k k = some 0) (x : Str) : fw F k k x = F k x := by
  unfold fw
  rw [z0, addL_zero', minL_of_le (lnLe.rfl' _)]
theorem fw_col {F : Dst} {k : Str} (z0 : F k k = some 0) (x : Str) : fw F k x k = F x k := by
  unfold fw
  rw [z0, addL_zero, minL_of_le (lnLe.rfl' _)]
theorem rch_zero_part {ws : List Str} {rs : List Rp} (o : ∀ r ∈ rs, RpOk ws r) {M : List Str} (hM : ∀ m ∈ M, m ∈ ws) {k : Str} (hk : k ∈ ws) : M.foldl fw (dl rs) k k = some 0 := by
  have h := Fws.all o M [] (dl rs) (fun _ h => nomatch h) hM (fws_nil o)
  exact h.zero o hk
/-! what is said of reaches -/
theorem IsRe.one {ws : List Str} {rs rs' : List Rp} {F G : Dst} (h : IsRe ws rs F) (k : IsRe ws rs' G) (hs : ∀ g, Below ws rs g ↔ Below ws rs' g) {a b : Str} (ha : a ∈ ws) (hb : b ∈ ws) : F a b = G a b :=
  lnLe.anti (k.top F ((hs F).mp h.low) a ha b hb) (h.top G ((hs G).mpr k.low) a ha b hb)
theorem IsRe.pos {ws : List Str} {rs : List Rp} {F : Dst} (o : ∀ r ∈ rs, RpOk ws r) (h : IsRe ws rs F) {a b : Str} (ha : a ∈ ws) (hb : b ∈ ws) : lnLe (some 0) (F a b) := h.top _ (below_zero o) a ha b hb
theorem IsRe.zero {ws : List Str} {rs : List Rp} {F : Dst} (o : ∀ r ∈ rs, RpOk ws r) (h : IsRe ws rs F) {a : Str} (ha : a ∈ ws) : F a a = some 0 := lnLe.anti (h.low.self a ha) (h.pos o ha ha)
theorem Below.flip {ws : List Str} {rs : List Rp} {g : Dst} (h : Below ws rs g) : Below ws rs fun a b => g b a where
  self := h.self
  rope r hr := ⟨(h.rope r hr).2, (h.rope r hr).1⟩
  tri a ha b hb c hc := by rw [addL_comm]; exact h.tri c hc b hb a ha
theorem IsRe.sym {ws : List Str} {rs : List Rp} {F : Dst} (h : IsRe ws rs F) {a b : Str} (ha : a ∈ ws) (hb : b ∈ ws) : F a b = F b a :=
  lnLe.anti (h.top _ h.low.flip b hb a ha) (h.top _ h.low.flip a ha b hb)
theorem Below.less {ws : List Str} {rs rs' : List Rp} {g : Dst} (h : Below ws rs' g) (hs : ∀ r ∈ rs, r ∈ rs') : Below ws rs g := ⟨h.self, fun r hr => h.rope r (hs r hr), h.tri⟩
theorem IsRe.more {ws : List Str} {rs rs' : List Rp} {F G : Dst} (h : IsRe ws rs F) (k : IsRe ws rs' G) (hs : ∀ r ∈ rs, r ∈ rs') {a b : Str} (ha : a ∈ ws) (hb : b ∈ ws) : lnLe (G a b) (F a b) := h.top G (k.low.less hs) a ha b hb
/-- some of the walkers, tied by their reaches -/
theorem IsRe.part {ws ks : List Str} {rs rs' : List Rp} {F : Dst} (h : IsRe ws rs F) (hk : ∀ a ∈ ks, a ∈ ws) (h1 : ∀ r ∈ rs', lnLe (F r.1 r.2.1) (some r.2.2) ∧ lnLe (F r.2.1 r.1) (some r.2.2)) (h2 : ∀ g, Below ks rs' g → ∀ a ∈ ks, ∀ b ∈ ks, lnLe (g a b) (F a b)) : IsRe ks rs' F where
  low := ⟨fun a ha => h.low.self a (hk a ha), h1, fun a ha b hb c hc => h.low.tri a (hk a ha) b (hk b hb) c (hk c hc)⟩
  top := h2

/-! ### walks: the reaches are their least weights -/
/-! each direct length is a rope's -/
/-! ### webs: data -/
def rpD (r : Rp) : D := .tup [.str r.1, .str r.2.1, .int r.2.2]
def rps (rs : List Rp) : D := .tup (rs.map rpD)
def rowK (ws : List Str) (g : Str → Ln) : List (Key × D) := ws.map fun b => (kS b, lenE (g b))
def tabK (ws : List Str) (f : Dst) : List (Key × D) := ws.map fun a => (kS a, D.dct (rowK ws (f a)))
def tabE (ws : List Str) (f : Dst) : D := .dct (tabK ws f)
theorem row_look {ws : List Str} {g : Str → Ln} {b : Str} (hb : b ∈ ws) : lookD (rowK ws g) (kS b) = some (lenE (g b)) := by
  unfold rowK
  rw [look_map (v := fun b => lenE (g b)), if_pos hb]
theorem tab_look {ws : List Str} {f : Dst} {a : Str} (ha : a ∈ ws) : lookD (tabK ws f) (kS a) = some (.dct (rowK ws (f a))) := by
  unfold tabK
  rw [look_map (v := fun a => D.dct (rowK ws (f a))), if_pos ha]
theorem tab_congr {ws : List Str} {f g : Dst} (h : ∀ a ∈ ws, ∀ b ∈ ws, f a b = g a b) : tabE ws f = tabE ws g := by
  unfold tabE tabK rowK
  congr 1
  refine List.map_congr_left fun a ha => ?_
  rw [show (ws.map fun b => (kS b, lenE (f a b))) = ws.map fun b => (kS b, lenE (g a b)) from List.map_congr_left fun b hb => by rw [h a ha b hb]]
/-! rows in slots -/
def rwR (vs : List Str) (as : List Addr) (h : Str → List (Key × D)) : List Rw := (vs.zip as).map fun p => (kS p.1, p.2, h p.1)
def outA (vs : List Str) (as : List Addr) : List (Key × D) := (vs.zip as).map fun p => (kS p.1, D.ref p.2)
theorem outR_rwR (vs : List Str) (as : List Addr) (h : Str → List (Key × D)) : outR (rwR vs as h) = outA vs as := by
  unfold outR rwR outA
  rw [List.map_map]; rfl
theorem rwR_len {vs : List Str} {as : List Addr} {h : Str → List (Key × D)} (e : as.length = vs.length) : (rwR vs as h).length = vs.length := by
  unfold rwR
  rw [List.length_map, List.length_zip]; omega
theorem rwR_snoc {vs : List Str} {as : List Addr} {h : Str → List (Key × D)} (e : as.length = vs.length) (x : Str) (a : Addr) : rwR vs as h ++ [(kS x, a, h x)] = rwR (vs ++ [x]) (as ++ [a]) h := by
  unfold rwR
  rw [List.zip_append e.symm, List.map_append]; rfl
theorem rwR_get {vs : List Str} {as : List Addr} {h : Str → List (Key × D)} (e : as.length = vs.length) {n : Nat} {x : Str} (hx : vs[n]? = some x) : ∃ a, as[n]? = some a ∧ (rwR vs as h)[n]? = some (kS x, a, h x) := by
  have hn := lt_of_get hx
  refine ⟨as[n]'(by omega), List.getElem?_eq_getElem (by omega), ?_⟩
  unfold rwR
  rw [List.getElem?_map]
  have : (vs.zip as)[n]? = some (x, as[n]'(by omega)) := by
    rw [List.getElem?_zip_eq_some]
    exact ⟨hx, List.getElem?_eq_getElem (by omega)⟩
  rw [this]; rfl
theorem look_out : ∀ {vs : List Str} {as : List Addr} {x : Str} {n : Nat} {a : Addr}, vs.Nodup → vs[n]? = some x → as[n]? = some a → lookD (outA vs as) (kS x) = some (.ref a)
  | [], _, _, _, _, _, h, _ => by simp at h
  | _ :: _, [], _, _, _, _, _, h => by simp at h
  | v :: vs, b :: as, x, n, a, nd, hx, ha => by
    have e : outA (v :: vs) (b :: as) = (kS v, D.ref b) :: outA vs as := rfl
    rw [e]
    unfold lookD
    rw [List.find?_cons]
    cases n with
    | zero =>
      rw [List.getElem?_cons_zero] at hx ha
      cases hx; cases ha
      simp
    | succ n =>
      rw [List.getElem?_cons_succ] at hx ha
      have hv : v ≠ x := fun z => (List.nodup_cons.mp nd).1 (z ▸ List.mem_of_getElem? hx)
      have : decide ((kS v : Key) = kS x) = false := decide_eq_false fun z => hv (by injection z)
      simp only [this]
      exact look_out (List.nodup_cons.mp nd).2 hx ha
theorem look_out_none : ∀ {vs : List Str} {as : List Addr} {x : Str}, x ∉ vs → lookD (outA vs as) (kS x) = none
  | [], _, _, _ => rfl
  | _ :: _, [], _, _ => rfl
  | v :: vs, b :: as, x, h => by
    have e : outA (v :: vs) (b :: as) = (kS v, D.ref b) :: outA vs as := rfl
    rw [e]
    unfold lookD
    rw [List.find?_cons]
    have : decide ((kS v : Key) = kS x) = false := decide_eq_false fun z => h (by injection z with z; rw [z]; exact List.mem_cons_self)
    simp only [this]
    exact look_out_none fun z => h (List.mem_cons_of_mem _ z)
theorem mem_get {α : Type} {l : List α} {x : α} (h : x ∈ l) : ∃ n : Nat, l[n]? = some x := by
  obtain ⟨n, hn, e⟩ := List.getElem_of_mem h
  exact ⟨n, by rw [List.getElem?_eq_getElem hn, e]⟩
theorem pre_get {pre R : DSt} {i : Nat} {s : Sl} (h : pre[i]? = some s) : (pre ++ R)[i]? = some s := by rw [List.getElem?_append_left (lt_of_get h)]; exact h
theorem mid_get {pre R post : DSt} {n : Nat} {s : Sl} (h : R[n]? = some s) : (pre ++ (R ++ post))[pre.length + n]? = some s := by
  rw [List.getElem?_append_right (by omega), show pre.length + n - pre.length = n from by omega, List.getElem?_append_left (lt_of_get h)]; exact h
theorem mid_set {pre R post : DSt} {n : Nat} {s : Sl} (h : n < R.length) : (pre ++ (R ++ post)).set (pre.length + n) s = pre ++ (R.set n s ++ post) := by
  rw [List.set_append_right _ _ (by omega), show pre.length + n - pre.length = n from by omega, List.set_append_left _ _ h]
theorem rss_get {R : List Rw} {n : Nat} {r : Rw} (h : R[n]? = some r) : (rss R)[n]? = some (.ow (.dself r.2.1 r.2.2)) := by
  unfold rss; rw [List.getElem?_map, h]; rfl
theorem row_go {i j1 j2 : Nat} {pre post : DSt} {ws : List Str} {as : List Addr} {f : Dst} {a b : Str} {Q : D → DSt → Prop} (nd : ws.Nodup) (e : as.length = ws.length) (ha : a ∈ ws) (hb : b ∈ ws) (hi : pre[i]? = some (.ow (.dct (outA ws as)))) (h1 : pre[j1]? = some (.im (.str a))) (h2 : pre[j2]? = some (.im (.str b)))
    (q : Q (lenE (f a b)) (pre ++ (rss (rwR ws as fun x => rowK ws (f x)) ++ post))) : dRow i j1 j2 (pre ++ (rss (rwR ws as fun x => rowK ws (f x)) ++ post)) Q := by
  obtain ⟨n, hn⟩ := mem_get ha
  obtain ⟨x, hx, hr⟩ := rwR_get (h := fun x => rowK ws (f x)) e hn
  exact ⟨_, a, b, x, pre.length + n, _, _, pre_get hi, pre_get h1, look_out nd hn hx, pre_get h2, mid_get (rss_get hr), row_look hb, q⟩
theorem rowK_put {ws : List Str} {g : Str → Ln} {b : Str} (hb : b ∈ ws) (v : Ln) : putKD (rowK ws g) (kS b) (lenE v) = rowK ws fun y => if y = b then v else g y := by
  unfold rowK
  rw [put_map (v := fun b => lenE (g b)) hb]
  refine List.map_congr_left fun p _ => ?_
  show (kS p, if p = b then lenE v else lenE (g p)) = (kS p, lenE (if p = b then v else g p))
  by_cases h : p = b
  · rw [if_pos h, if_pos h]
  · rw [if_neg h, if_neg h]
theorem rows_put {ws : List Str} {as : List Addr} {f : Dst} {a b : Str} {v : Ln} {n : Nat} {x : Addr} (nd : ws.Nodup) (hn : ws[n]? = some a) (hx : as[n]? = some x) (e : as.length = ws.length) :
    (rss (rwR ws as fun x => rowK ws (f x))).set n (.ow (.dself x (rowK ws fun y => if y = b then v else f a y))) = rss (rwR ws as fun x => rowK ws (put2 f a b v x)) := by
  apply List.ext_getElem?
  intro k
  by_cases hk : k < ws.length
  · obtain ⟨y, hy⟩ : ∃ y, ws[k]? = some y := ⟨_, List.getElem?_eq_getElem hk⟩
    obtain ⟨z, hz, hr⟩ := rwR_get (h := fun x => rowK ws (put2 f a b v x)) e hy
    obtain ⟨z', hz', hr'⟩ := rwR_get (h := fun x => rowK ws (f x)) e hy
    rw [rss_get hr]
    rw [hz] at hz'
    cases hz'
    by_cases hnk : n = k
    · subst hnk
      rw [hn] at hy
      cases hy
      rw [hx] at hz
      cases hz
      rw [List.getElem?_set_self (by unfold rss; rw [List.length_map, rwR_len e]; exact hk)]
      have : (fun y => if y = b then v else f a y) = put2 f a b v a := by
        funext y
        unfold put2
        by_cases h : y = b
        · rw [if_pos h, if_pos ⟨rfl, h⟩]
        · rw [if_neg h, if_neg fun z => h z.2]
      rw [this]
    · rw [List.getElem?_set_ne hnk, rss_get hr']
      have hya : y ≠ a := fun z => hnk (by
        have h1 := lt_of_get hn
        exact (List.getElem_inj (h₀ := h1) (h₁ := hk) nd).mp (by
          rw [List.getElem?_eq_getElem h1] at hn
          rw [List.getElem?_eq_getElem hk] at hy
          rw [Option.some.inj hn, Option.some.inj hy, z]))
      have : put2 f a b v y = f y := by
        funext w
        unfold put2
        rw [if_neg fun z => hya z.1]
      rw [this]
  · rw [List.getElem?_eq_none (by rw [List.length_set]; unfold rss; rw [List.length_map, rwR_len e]; omega), List.getElem?_eq_none (by unfold rss; rw [List.length_map, rwR_len e]; omega)]
theorem rowput_go {i j1 j2 : Nat} {pre post : DSt} {ws : List Str} {as : List Addr} {f : Dst} {a b : Str} {v : Ln} {Q : DSt → Prop} (nd : ws.Nodup) (hl : ws.length ≤ 1000) (e : as.length = ws.length) (ha : a ∈ ws) (hb : b ∈ ws) (hi : pre[i]? = some (.ow (.dct (outA ws as)))) (h1 : pre[j1]? = some (.im (.str a))) (h2 : pre[j2]? = some (.im (.str b)))
    (q : Q (pre ++ (rss (rwR ws as fun x => rowK ws (put2 f a b v x)) ++ post))) : dgRow i j1 j2 (lenE v) (pre ++ (rss (rwR ws as fun x => rowK ws (f x)) ++ post)) Q := by
  obtain ⟨n, hn⟩ := mem_get ha
  obtain ⟨x, hx, hr⟩ := rwR_get (h := fun x => rowK ws (f x)) e hn
  refine ⟨_, a, b, x, pre.length + n, _, .dself x (rowK ws fun y => if y = b then v else f a y), pre_get hi, pre_get h1, look_out nd hn hx, pre_get h2, mid_get (rss_get hr), ?_, ?_⟩
  · rw [x_putZ (by unfold rowK; rw [List.length_map]; omega), rowK_put hb]
  · rw [mid_set (by unfold rss; rw [List.length_map, rwR_len e]; exact lt_of_get hn), rows_put nd hn hx e]
    exact q
theorem rowsV_go {i : Nat} {pre post : DSt} {ws : List Str} {as : List Addr} {f : Dst} {Q : D → DSt → Prop} (e : as.length = ws.length) (hi : pre[i]? = some (.ow (.dct (outA ws as)))) (q : ∀ δ', Q (tabE ws f) δ') : dRowsV i (pre ++ (rss (rwR ws as fun x => rowK ws (f x)) ++ post)) Q := by
  refine ⟨rwR ws as fun x => rowK ws (f x), ?_, fun r hr => ?_, fun δ' => ?_⟩
  · rw [pre_get hi]
    show _ = some (Sl.ow (.dct (outR _)))
    rw [outR_rwR]
  · obtain ⟨n, hn⟩ := mem_get hr
    exact ⟨pre.length + n, mid_get (rss_get hn)⟩
  · have : ((rwR ws as fun x => rowK ws (f x)).map fun r => (r.1, D.dct r.2.2)) = tabK ws f := by
      unfold rwR tabK
      rw [List.map_map]
      have h1 := List.map_fst_zip (l₁ := ws) (l₂ := as) (by omega)
      have h2 : (ws.map fun a => (kS a, D.dct (rowK ws (f a)))) = ((ws.zip as).map Prod.fst).map fun a => (kS a, D.dct (rowK ws (f a))) := by rw [h1]
      rw [h2, List.map_map]
      rfl
    rw [this]
    exact q δ'
def rowsB (g : TDG) (tk tv : TDE) (own : List Nat) (i : Nat) (js : List Nat) (F : DEnds) (ds : List D) (δ : DSt) : Prop := dAsgRows (fun δ P => P ds δ) g tk tv own i js F δ
theorem s_rows {w : TDA} {g : TDG} {tk tv : TDE} {own : List Nat} {i : Nat} {js : List Nat} {F : DEnds} {δ : DSt} : dAsgRows w g tk tv own i js F δ = w δ fun ds δ1 => rowsB g tk tv own i js F ds δ1 := propext Iff.rfl
theorem rows_go {g : TDG} {tk tv : TDE} {own : List Nat} {i : Nat} {js : List Nat} {F : DEnds} {δ : DSt} {ds : List D} (ws : List Str) (h : Str → List (Key × D)) (hd : ds = ws.map D.str) (nd : ws.Nodup) (hl : ws.length ≤ js.length) (hj : js.length ≤ 900)
    (turn : ∀ x ∈ ws, ∀ (K1 : D → D → DSt → Prop), K1 (.str x) (.dct (h x)) (wipeD δ own) → g (.str x) (wipeD (wipeD δ own) own) fun δ2 => tk δ2 fun k δ3 => tv δ3 fun z δ4 => K1 k z (wipeD δ4 own))
    (q : ∀ as : List Addr, as.length = ws.length → F.nx (setD (i :: js.take ws.length) (.ow (.dct (outA ws as)) :: rss (rwR ws as h)) (wipeD (wipeD δ own) own))) : rowsB g tk tv own i js F ds δ := by
  subst hd
  refine ⟨fun n R δ' => δ' = wipeD δ own ∧ ∃ as : List Addr, as.length = (ws.take n).length ∧ R = rwR (ws.take n) as h, ⟨rfl, [], by simp, rfl⟩, ?_, ?_⟩
  · rintro n d R δ' hd ⟨rfl, as, e, rfl⟩
    rw [List.getElem?_map, Option.map_eq_some_iff] at hd
    obtain ⟨x, hx, rfl⟩ := hd
    refine turn x (List.mem_of_getElem? hx) (fun k z δ5 => ∃ kk kds, keyD k = some kk ∧ z = .dct kds ∧ lookD (outR (rwR (ws.take n) as h)) kk = none ∧ (rwR (ws.take n) as h).length < 1000 ∧ ∀ a, δ5 = wipeD δ own ∧ ∃ as' : List Addr, as'.length = (ws.take (n + 1)).length ∧ rwR (ws.take n) as h ++ [(kk, a, kds)] = rwR (ws.take (n + 1)) as' h) ?_
    have hn := lt_of_get hx
    have ht : ws.take (n + 1) = ws.take n ++ [x] := by rw [List.take_succ, hx]; rfl
    refine ⟨kS x, h x, rfl, rfl, ?_, ?_, fun a => ⟨rfl, as ++ [a], ?_, ?_⟩⟩
    · rw [outR_rwR]
      refine look_out_none fun z => ?_
      obtain ⟨m, hm, e2⟩ := List.getElem_of_mem z
      rw [List.getElem_take] at e2
      rw [List.length_take] at hm
      have h1 : ws[m]'(by omega) = ws[n]'hn := by
        rw [List.getElem?_eq_getElem hn] at hx
        rw [e2, Option.some.inj hx]
      have := (List.getElem_inj (h₀ := by omega) (h₁ := hn) nd).mp h1
      omega
    · rw [rwR_len e, List.length_take]; omega
    · rw [ht, List.length_append, List.length_append, e]; rfl
    · rw [ht, rwR_snoc e]
  · rintro R δ' ⟨rfl, as, e, rfl⟩
    rw [List.length_map, List.take_length] at e ⊢
    refine ⟨by rw [rwR_len e]; exact hl, ?_⟩
    rw [rwR_len e, outR_rwR]
    exact q as e
theorem setD_mid : ∀ (ss : List Sl) (pre post : DSt), setD (List.range' pre.length ss.length) ss (pre ++ (List.replicate ss.length Sl.no ++ post)) = pre ++ (ss ++ post)
  | [], pre, post => rfl
  | s :: ss, pre, post => by
    have ih := setD_mid ss (pre ++ [s]) post
    rw [List.length_append, List.length_singleton, List.append_assoc, List.append_assoc] at ih
    show setD (List.range' pre.length (ss.length + 1)) (s :: ss) _ = _
    rw [List.range'_succ, List.length_cons, List.replicate_succ]
    show setD (List.range' (pre.length + 1) ss.length) ss ((pre ++ (Sl.no :: List.replicate ss.length Sl.no ++ post)).set pre.length s) = _
    rw [show (pre ++ (Sl.no :: List.replicate ss.length Sl.no ++ post)).set pre.length s = pre ++ ([s] ++ (List.replicate ss.length Sl.no ++ post)) from by
      rw [List.set_append_right _ _ (Nat.le_refl _), Nat.sub_self]; rfl]
    rw [ih]
    rfl
/-- rows in the six slots behind six names -/
theorem rows_six {pre : DSt} {R : List Rw} {p : Nat} (hp : pre.length = p) (hR : R.length ≤ 6) : setD (([p, p + 1, p + 2, p + 3, p + 4, p + 5] : List Nat).take R.length) (rss R) (pre ++ [Sl.no, .no, .no, .no, .no, .no]) = pre ++ (rss R ++ List.replicate (6 - R.length) Sl.no) := by
  have h := setD_mid (rss R) pre (List.replicate (6 - R.length) Sl.no)
  have hl : (rss R).length = R.length := by unfold rss; rw [List.length_map]
  rw [hl, hp] at h
  rw [← h]
  have e1 : ([p, p + 1, p + 2, p + 3, p + 4, p + 5] : List Nat) = List.range' p 6 := rfl
  have e2 : ([Sl.no, .no, .no, .no, .no, .no] : DSt) = List.replicate R.length Sl.no ++ List.replicate (6 - R.length) Sl.no := by
    rw [List.replicate_append_replicate, show R.length + (6 - R.length) = 6 from by omega]; rfl
  have e3 : (List.range' p 6).take R.length = List.range' p R.length := by
    rw [show (6 : Nat) = R.length + (6 - R.length) from by omega, ← List.range'_append_1, List.take_left' (by rw [List.length_range'])]
  rw [e1, e2, e3]
theorem s_sto2 {t : TDE} {g1 g2 : TDG} {F : DEnds} {δ : DSt} : dSto2 t g1 g2 F δ = t δ fun d δ1 => g1 d δ1 fun δ2 => g2 d δ2 F.nx := propext Iff.rfl
theorem x_dictC {l : List (Key × D)} {Q : D → Prop} : dictC (.dct l) Q = Q (.dct l) := propext Iff.rfl
theorem ew_tupS {t : TDA} {δ : DSt} {Q : D → DSt → Prop} : dTupS t δ Q = t δ fun ds δ1 => ds.length ≤ 1000 ∧ Q (.tup ds) δ1 := propext Iff.rfl
theorem ew_star {t : TDE} {r : TDA} {δ : DSt} {Q : List D → DSt → Prop} : dStar t r δ Q = t δ fun d δ1 => seqD d fun xs => r δ1 fun ds δ2 => Q (xs ++ ds) δ2 := propext Iff.rfl
theorem xw_seqT {l : List D} {Q : List D → Prop} : seqD (.tup l) Q = Q l := rfl
theorem xw_seqL {l : List D} {Q : List D → Prop} : seqD (.lst l) Q = Q l := rfl
def lc2B (g : TDG) (tt : TDT) (w1 : TDA) (g1 : TDG) (tt1 : TDT) (te : TDE) (own vs1 : List Nat) (ds : List D) (δ : DSt) (Q : D → DSt → Prop) : Prop := dLc2 (fun δ P => P ds δ) g tt w1 g1 tt1 te own vs1 δ Q
theorem lc2_eq {w w1 : TDA} {g g1 : TDG} {tt tt1 : TDT} {te : TDE} {own vs1 : List Nat} {δ : DSt} {Q : D → DSt → Prop} : dLc2 w g tt w1 g1 tt1 te own vs1 δ Q = w δ fun ds δ1 => lc2B g tt w1 g1 tt1 te own vs1 ds δ1 Q := propext Iff.rfl
theorem tab1 {ws : List Str} {f : Dst} {a : Str} {Q : D → Prop} (ha : a ∈ ws) (q : Q (.dct (rowK ws (f a)))) : ixX (tabE ws f) (.str a) Q := by
  show ixX (.dct (tabK ws f)) (.str a) _
  rw [x_ixK, tab_look ha]
  exact q
theorem rows_at6 {s0 s1 s2 s3 s4 s5 o : Sl} {R : List Rw} {n : Nat} (hn : R.length = n) (h6 : n ≤ 6) : setD (2 :: ([6, 7, 8, 9, 10, 11] : List Nat).take n) (o :: rss R) [s0, s1, s2, s3, s4, s5, .no, .no, .no, .no, .no, .no] = [s0, s1, o, s3, s4, s5] ++ (rss R ++ List.replicate (6 - n) Sl.no) := by
  subst hn
  exact rows_six (pre := [s0, s1, o, s3, s4, s5]) (p := 6) rfl h6
structure WebOk (ws : List Str) (rs : List Rp) : Prop where
  nd : ws.Nodup
  lo : 1 ≤ ws.length
  hi : ws.length ≤ 6
  wd : ∀ w ∈ ws, isW w
  rp : ∀ r ∈ rs, RpOk ws r
  rn : rs.length ≤ 900
theorem w_take_nodup {ps : List Str} {i : Nat} {p : Str} (nd : ps.Nodup) (h : ps[i]? = some p) : p ∉ ps.take i := fun z => by
  obtain ⟨j, hj, e⟩ := List.mem_iff_getElem.mp z
  rw [List.length_take] at hj
  rw [List.getElem_take] at e
  have hi := lt_of_get h
  have e2 : ps[j] = ps[i] := by rw [e]; exact (List.getElem?_eq_some_iff.mp h).2.symm
  have := (List.getElem_inj nd).mp e2
  omega
theorem w_nd {p : Prop} [Decidable p] (h : p) : (!decide p) = false := by rw [decide_eq_true h]; rfl
theorem w_isI {i : Int} {k : D → Prop} : isiX (.int i) (.ty "int") k = k (.bl true) := by unfold isiX; rfl
theorem w_isB {i : Int} {k : D → Prop} : isiX (.int i) (.ty "bool") k = k (.bl false) := by rw [isi_no (t := "int") rfl (by decide)]
theorem at_eq {P : DSt → Prop} {δ δ' : DSt} (h : δ' = δ) (k : P δ) : P δ' := h ▸ k

local macro_rules | `(tactic| walk_at "wb") => `(tactic| try simp only [↓s_next, ↓s_seq, ↓s_sto, ↓s_drop, ↓s_ret, ↓s_if, ↓s_never, ↓s_asg, ↓s_asgO, ↓s_pars, ↓s_great, ↓g_name, ↓g_nil, ↓g_cons, ↓g_seqT, ↓g_seqL, ↓g_box, ↓for_eq, ↓lc_eq, ↓dc_eq, ↓i_seq, ↓i_enum, ↓i_range1,
  ↓vi0, ↓vo0, ↓ri0, ↓ro0, ↓ol0, ↓as0, ↓vi1, ↓vo1, ↓ri1, ↓ro1, ↓ol1, ↓as1, ↓vi2, ↓vo2, ↓ri2, ↓ro2, ↓ol2, ↓as2, ↓vi3, ↓vo3, ↓ri3, ↓ro3, ↓ol3, ↓as3, ↓vi4, ↓vo4, ↓ri4, ↓ro4, ↓ol4, ↓as4, ↓vi5, ↓vo5, ↓ri5, ↓ro5, ↓ol5, ↓as5, ↓vi6, ↓vo6, ↓ri6, ↓ro6, ↓ol6, ↓as6, ↓vi7, ↓vo7, ↓ri7, ↓ro7, ↓ol7, ↓as7, ↓vi8, ↓vo8, ↓ri8, ↓ro8, ↓ol8, ↓as8, ↓vi9, ↓vo9, ↓ri9, ↓ro9, ↓ol9, ↓as9, ↓vi10, ↓vo10, ↓ri10, ↓ro10, ↓ol10, ↓as10, ↓vi11, ↓vo11, ↓ri11, ↓ro11, ↓ol11, ↓as11, ↓vi12, ↓vo12, ↓ri12, ↓ro12, ↓ol12, ↓as12, ↓vi13, ↓vo13, ↓ri13, ↓ro13, ↓ol13, ↓as13, ↓vi14, ↓vo14, ↓ri14, ↓ro14, ↓ol14, ↓as14, ↓vi15, ↓vo15, ↓ri15, ↓ro15, ↓ol15, ↓as15, ↓vi16, ↓vo16, ↓ri16, ↓ro16, ↓ol16, ↓as16, ↓vi17, ↓vo17, ↓ri17, ↓ro17, ↓ol17, ↓as17, ↓vi18, ↓vo18, ↓ri18, ↓ro18, ↓ol18, ↓as18, ↓vi19, ↓vo19, ↓ri19, ↓ro19, ↓ol19, ↓as19, ↓vi20, ↓vo20, ↓ri20, ↓ro20, ↓ol20, ↓as20, ↓vi21, ↓vo21, ↓ri21, ↓ro21, ↓ol21, ↓as21, ↓vi22, ↓vo22, ↓ri22, ↓ro22, ↓ol22, ↓as22, ↓vi23, ↓vo23, ↓ri23, ↓ro23, ↓ol23, ↓as23, ↓vi24, ↓vo24, ↓ri24, ↓ro24, ↓ol24, ↓as24, ↓vi25, ↓vo25, ↓ri25, ↓ro25, ↓ol25, ↓as25, ↓at_s1, ↓at_s0, ↓at_w1, ↓at_w0, ↓mt_b, ↓mt_l, ↓mt_t, ↓mt_i,
  ↓e_c, ↓e_nil, ↓e_cons, ↓e_tup, ↓e_lst, ↓e_two1, ↓e_two2, ↓e_two3, ↓e_two4, ↓e_bin, ↓e_tbin, ↓e_chain, ↓e_and, ↓e_or, ↓e_not, ↓e_tru1, ↓e_tru2, ↓e_andV, ↓e_orV, ↓e_notV, ↓e_if, ↓e_call, ↓e_p0, ↓e_p1, ↓e_one1, ↓e_one2, ↓e_b1, ↓e_b2, ↓e_tb2, ↓e_sl1, ↓e_sl2, ↓e_append, ↓e_extend, ↓e_popAt, ↓e_yes, ↓e_join, ↓in_strL, ↓in_strT, ↓x_mulS, ↓e_new, ↓e_newV, ↓e_meth, ↓e_prop, ↓e_stat, ↓e_statI, ↓e_clsM, ↓e_evN, ↓e_evI, ↓e_evO, ↓e_boxNew,
  z0, z1, z2, h0, h1, h2, ↓bx0, ↓rgI, ↓sqL, ↓sqT, ↓sqR, ↓enL, ↓enT, ↓lsL, wipeD, e_var, v0, v1, r0, r1, o0, m0, at0, setD, startD, startI, dFldSet,
  List.map_cons, List.map_nil, List.replicate, List.cons_append, List.nil_append, List.length_cons, List.length_nil, List.getElem?_cons_zero, List.getElem?_cons_succ, List.getElem?_nil, List.set_cons_zero, List.set_cons_succ, List.set_nil, Nat.reduceAdd, Nat.reduceSub, Nat.sub_zero, Nat.sub_self, Nat.zero_add, Nat.add_zero,
  true_and, and_true, if_true, if_false, Bool.false_eq_true, Bool.not_true, Bool.not_false, Bool.not_eq_true, decide_true, decide_false, Bool.true_eq_false, reduceCtorEq, ite_true, ite_false, List.mem_cons, List.not_mem_nil, or_false, beq_self_eq_true, Nat.reduceLT, Nat.reduceLeDiff, Int.reduceLT, Int.reduceLE, Int.reduceAdd, Int.reduceSub, Int.reduceMul, Int.reducePow, Int.reduceToNat, Int.reduceEq, Int.reduceNeg, Int.reduceMod, Int.reduceDiv, Nat.reduceEqDiff, and_self, Bool.not_not,
  ↓x_bl, x_truB, x_truL, x_truT, x_truI, ↓x_eqI, ↓x_eqS, ↓x_eqB, ↓x_neI, ↓x_neS, ↓x_neB, ↓x_addI, ↓x_addL, ↓x_addT, ↓x_addS, ↓x_subI, ↓x_mulI, ↓x_modI, ↓x_fdivI, ↓x_powI, ↓x_lt, ↓x_le, ↓x_gt, ↓x_ge, ↓x_ltP, ↓x_leP, ↓x_gtP, ↓x_geP, ↓x_lenL, ↓x_lenT, ↓x_lenS, ↓x_tupL, ↓x_tupT, ↓x_lisL, ↓x_lisT, ↓x_rev, ↓x_intI, ↓x_intB, ↓x_abs, ↓x_min, ↓x_max, ↓x_is, ↓x_isNot, x_isN0, x_isN1, x_isN2, x_isN3, x_isN4, ↓x_nil, ↓x_nnil, ↓x_ix0, ↓x_ix1, ↓x_ix2, ↓x_ix3, ↓x_ix4, ↓x_ix5, ↓x_ix6, ↓x_ix7, ↓x_it0, ↓x_it1, ↓x_it2, ↓x_ixB, x_kn, x_ks, x_kt, ↓x_slL, ↓x_slT, ↓x_slS, ↓x_slR,
  ↓s_aug, ↓g_put, ↓g_item, ↓e_callB, ↓e_disp, ↓e_ps0, ↓e_ps1, ↓i_str, ↓i_range2, ↓e_get2, ↓e_step, ↓x_step, ↓e_f1, ↓e_fstr, ↓e_fs0, ↓e_fs1, ↓e_fs2, ↓x_repr, ↓x_strI, ↓x_strS, ↓x_onStr, ↓x_onInt, ↓oa0, ↓od0, ↓oa1, ↓od1, ↓oa2, ↓od2, ↓oa3, ↓od3, ↓oa4, ↓od4, ↓oa5, ↓od5, ↓oa6, ↓od6, ↓oa7, ↓od7, ↓oa8, ↓od8, ↓oa9, ↓od9, ↓oa10, ↓od10, ↓oa11, ↓od11, ↓oa12, ↓od12, h3, h4, x_ko0, x_ko1, x_ko2, ↓x_ixK, ↓x_ixZ, ↓x_inK, ↓x_listK, ↓x_listZ, ↓x_listT, ↓x_isS, ↓x_isT, ↓x_inS, ↓least_at0, ↓least_at1, ↓least_at2, ↓ownNe_at, ↓ownEq_at, ↓ownA_at, ↓ownA_atI, ↓ownA_atR, ↓ownA_int, ↓ownNe_b, ↓ownEq_b, ↓ownA_lst, ins_lenE, ↓statI_least, ↓init_non, ↓init_int, len_fold0, len_fold1, ↓ownLt_at, ↓take_at, ↓mixed_at, ↓mixed_atT, ↓s_rows, ↓s_sto2, ↓x_dictC, ↓ew_tupS, ↓ew_star, ↓xw_seqT, ↓xw_seqL, ↓lc2_eq, ↓word_at, ↓w_isI, ↓w_isB, ↓ownEq_i, ↓ownGt_i])

def sd_direct_lengths : SpD := fun ds Q => ∃ ws rs, ds = [dps ws, rps rs] ∧ WebOk ws rs ∧ Q (tabE ws (dl rs))
theorem len_direct_lengths (ds : List D) (Q : D → Prop) (h : sd_direct_lengths ds Q) : ds.length = 2 := by obtain ⟨_, _, rfl, _⟩ := h; rfl
abbrev N_direct_lengths : List Str := ["walkers", "ropes", "found", "one", "other", "length", "#0", "#1", "#2", "#3", "#4", "#5"]
theorem sc_direct_lengths : FnScope N_direct_lengths ["walkers", "ropes"] (defScope st_direct_lengths) := ⟨rfl, rfl, rfl, by decide +kernel, rfl, by decide +kernel, by decide +kernel⟩
def t_direct_lengths : TDS :=
  dSeq (dAsgRows (iSeq (dVar 0)) (dgName 3) (dVar 3) (dDc (iSeq (dVar 0)) (dgName 4) (dYes) (dVar 4) (dNew "Length" sd_Length___init__ (dCons (dIf (dtBin (eqX) (.sl 3) (.sl 4)) (dC (.int 0)) (dC .non)) (dNil))) [4]) [3] 2 [6, 7, 8, 9, 10, 11])
  (dSeq (dFor (iSeq (dVar 1)) (dgSeq 3 (dgCons (dgName 3) (dgCons (dgName 4) (dgCons (dgName 5) (dgNil))))) (dSto2 (dStat "Length" (starSd 1 sd_Length_least) (dC (.cls "Length")) (dCons (dRow 2 3 4) (dCons (dNew "Length" sd_Length___init__ (dCons (dVar 5) (dNil))) (dNil)))) (dgRow 2 3 4) (dgRow 2 4 3)))
  (dRet (dRowsV 2)))
theorem pure_direct_lengths (ds : List D) (Q : D → Prop) (h : sd_direct_lengths ds Q) : t_direct_lengths (ends Q) (startD 12 ds) := by
  obtain ⟨ws, rs, rfl, w, q⟩ := h
  have hhi := w.hi
  unfold t_direct_lengths rps dps
  walk_at "wb"
  refine rows_go ws (fun a => rowK ws (dl0 a)) rfl w.nd (by simpa using hhi) (by decide) (fun x hx K1 k1 => ?_) fun as hl => ?_
  · walk_at "wb"
    refine dc_go ws (fun y => lenE (dl0 x y)) rfl w.nd (by omega) (fun y hy K2 k2 => ?_) ?_
    · walk_at "wb"
      by_cases e : x = y
      · refine if_t (decide_eq_true e) ?_
        walk_at "wb"
        unfold dl0 at k2
        rw [if_pos e] at k2
        exact k2
      · refine if_f (decide_eq_false e) ?_
        walk_at "wb"
        unfold dl0 at k2
        rw [if_neg e] at k2
        exact k2
    · walk_at "wb"
      exact k1
  refine at_eq (rows_at6 (n := ws.length) (rwR_len hl) hhi) ?_
  walk_at "wb"
  refine for_go (fun (i : Nat) (δ : DSt) => ∃ c3 c4 c5, δ = [.im (.tup (ws.map D.str)), .im (.tup (rs.map rpD)), .ow (.dct (outA ws as)), c3, c4, c5] ++ (rss (rwR ws as fun a => rowK ws (dl (rs.take i) a)) ++ List.replicate (6 - ws.length) Sl.no)) ⟨_, _, _, rfl⟩ ?_ ?_
  · rintro i d δ' hd ⟨c3, c4, c5, rfl⟩
    obtain ⟨r, hr, rfl⟩ := map_get hd
    have o := w.rp r (List.mem_of_getElem? hr)
    have hs : dl (rs.take (i + 1)) = dlS (dl (rs.take i)) r := by
      unfold dl
      rw [List.take_succ, hr, List.foldl_append]; rfl
    rw [hs]
    unfold rpD
    walk_at "wb"
    refine row_go (pre := [_, _, _, _, _, _]) w.nd hl o.a o.b rfl rfl rfl ?_
    walk_at "wb"
    refine rowput_go (pre := [_, _, _, _, _, _]) w.nd (by omega) hl o.a o.b rfl rfl rfl ?_
    refine rowput_go (pre := [_, _, _, _, _, _]) w.nd (by omega) hl o.b o.a rfl rfl rfl ?_
    exact ⟨_, _, _, rfl⟩
  · rintro δ' ⟨c3, c4, c5, rfl⟩
    rw [List.length_map, List.take_length]
    walk_at "wb"
    exact rowsV_go (pre := [_, _, _, _, _, _]) hl rfl fun _ => q
theorem mem_take_iff {ws : List Str} {j : Nat} {x a : Str} (hx : ws[j]? = some x) : a ∈ ws.take (j + 1) ↔ a ∈ ws.take j ∨ a = x := by
  rw [List.take_succ, hx, List.mem_append]; simp
def sd_reaches_of : SpD := fun ds Q => ∃ ws rs, ds = [dps ws, tabE ws (dl rs)] ∧ WebOk ws rs ∧ Q (tabE ws (rch ws rs))
theorem len_reaches_of (ds : List D) (Q : D → Prop) (h : sd_reaches_of ds Q) : ds.length = 2 := by obtain ⟨_, _, rfl, _⟩ := h; rfl
abbrev N_reaches_of : List Str := ["walkers", "direct", "found", "middle", "one", "other", "#0", "#1", "#2", "#3", "#4", "#5"]
theorem sc_reaches_of : FnScope N_reaches_of ["walkers", "direct"] (defScope st_reaches_of) := ⟨rfl, rfl, rfl, by decide +kernel, rfl, by decide +kernel, by decide +kernel⟩
def t_reaches_of : TDS :=
  dSeq (dAsgRows (iSeq (dVar 0)) (dgName 4) (dVar 4) (dB1 dictC (.ex (dBin ixX (.sl 1) (.sl 4)))) [4] 2 [6, 7, 8, 9, 10, 11])
  (dSeq (dFor (iSeq (dVar 0)) (dgName 3) (dFor (iSeq (dVar 0)) (dgName 4) (dFor (iSeq (dVar 0)) (dgName 5) (dSto (dStat "Length" (starSd 1 sd_Length_least) (dC (.cls "Length")) (dCons (dRow 2 4 5) (dCons (dB2 (ownA "Length" sd_Length___add__ sd_Length___radd__ addX) (dRow 2 4 3) (dRow 2 3 5)) (dNil)))) (dgRow 2 4 5)))))
  (dRet (dRowsV 2)))
theorem pure_reaches_of (ds : List D) (Q : D → Prop) (h : sd_reaches_of ds Q) : t_reaches_of (ends Q) (startD 12 ds) := by
  obtain ⟨ws, rs, rfl, w, q⟩ := h
  have hhi := w.hi
  have nd := w.nd
  unfold t_reaches_of dps
  walk_at "wb"
  refine rows_go ws (fun a => rowK ws (dl rs a)) rfl w.nd (by simpa using hhi) (by decide) (fun x hx K1 k1 => ?_) fun as hl => ?_
  · walk_at "wb"
    refine tab1 hx ?_
    walk_at "wb"
    exact k1
  refine at_eq (rows_at6 (n := ws.length) (rwR_len hl) hhi) ?_
  walk_at "wb"
  refine for_go (fun (i : Nat) (δ : DSt) => ∃ c3 c4 c5 f, (∀ a ∈ ws, ∀ b ∈ ws, f a b = (ws.take i).foldl fw (dl rs) a b) ∧ δ = [.im (.tup (ws.map D.str)), .im (tabE ws (dl rs)), .ow (.dct (outA ws as)), c3, c4, c5] ++ (rss (rwR ws as fun a => rowK ws (f a)) ++ List.replicate (6 - ws.length) Sl.no)) ⟨_, _, _, dl rs, fun _ _ _ _ => rfl, rfl⟩ ?_ ?_
  · rintro i d δ' hd ⟨c3, c4, c5, f0, hf0, rfl⟩
    obtain ⟨m, hm, rfl⟩ := map_get hd
    have mm := List.mem_of_getElem? hm
    have hs : (ws.take (i + 1)).foldl fw (dl rs) = fw ((ws.take i).foldl fw (dl rs)) m := by rw [List.take_succ, hm, List.foldl_append]; rfl
    have z0 : (ws.take i).foldl fw (dl rs) m m = some 0 := rch_zero_part w.rp (fun x hx => List.mem_of_mem_take hx) mm
    rw [hs]
    generalize (ws.take i).foldl fw (dl rs) = F at hf0 z0 ⊢
    walk_at "wb"
    refine for_go (fun (j : Nat) (δ : DSt) => ∃ c4 c5 f, (∀ a ∈ ws, ∀ b ∈ ws, f a b = if a ∈ ws.take j then fw F m a b else F a b) ∧ δ = [.im (.tup (ws.map D.str)), .im (tabE ws (dl rs)), .ow (.dct (outA ws as)), .im (.str m), c4, c5] ++ (rss (rwR ws as fun a => rowK ws (f a)) ++ List.replicate (6 - ws.length) Sl.no)) ⟨_, _, f0, fun a ha b hb => by rw [List.take_zero, if_neg (by simp)]; exact hf0 a ha b hb, rfl⟩ ?_ ?_
    · rintro j d δ' hd ⟨c4, c5, f1, hf1, rfl⟩
      obtain ⟨x, hx, rfl⟩ := map_get hd
      have mx := List.mem_of_getElem? hx
      have nx := w_take_nodup nd hx
      walk_at "wb"
      refine for_go (fun (k : Nat) (δ : DSt) => ∃ c5 f, (∀ a ∈ ws, ∀ b ∈ ws, f a b = if a ∈ ws.take j ∨ (a = x ∧ b ∈ ws.take k) then fw F m a b else F a b) ∧ δ = [.im (.tup (ws.map D.str)), .im (tabE ws (dl rs)), .ow (.dct (outA ws as)), .im (.str m), .im (.str x), c5] ++ (rss (rwR ws as fun a => rowK ws (f a)) ++ List.replicate (6 - ws.length) Sl.no)) ⟨_, f1, fun a ha b hb => by rw [List.take_zero, hf1 a ha b hb]; simp, rfl⟩ ?_ ?_
      · rintro k d δ' hd ⟨c5, f2, hf2, rfl⟩
        obtain ⟨y, hy, rfl⟩ := map_get hd
        have my := List.mem_of_getElem? hy
        have ny := w_take_nodup nd hy
        walk_at "wb"
        refine row_go (pre := [_, _, _, _, _, _]) nd hl mx my rfl rfl rfl ?_
        refine row_go (pre := [_, _, _, _, _, _]) nd hl mx mm rfl rfl rfl ?_
        refine row_go (pre := [_, _, _, _, _, _]) nd hl mm my rfl rfl rfl ?_
        walk_at "wb"
        have e1 : f2 x y = F x y := by
          rw [hf2 x mx y my, if_neg]
          rintro (z | ⟨_, z⟩)
          · exact nx z
          · exact ny z
        have e2 : f2 x m = F x m := by
          rw [hf2 x mx m mm]
          split
          · exact fw_col z0 x
          · rfl
        have e3 : f2 m y = F m y := by
          rw [hf2 m mm y my]
          split
          · exact fw_row z0 y
          · rfl
        rw [e1, e2, e3]
        refine rowput_go (pre := [_, _, _, _, _, _]) nd (by omega) hl mx my rfl rfl rfl ?_
        refine ⟨_, _, fun a ha b hb => ?_, rfl⟩
        unfold put2
        by_cases hab : a = x ∧ b = y
        · obtain ⟨rfl, rfl⟩ := hab
          rw [if_pos ⟨rfl, rfl⟩, if_pos (.inr ⟨rfl, (mem_take_iff hy).mpr (.inr rfl)⟩)]
          rfl
        · rw [if_neg hab, hf2 a ha b hb]
          have : (a ∈ ws.take j ∨ (a = x ∧ b ∈ ws.take (k + 1))) ↔ (a ∈ ws.take j ∨ (a = x ∧ b ∈ ws.take k)) := by
            rw [mem_take_iff hy]
            constructor
            · rintro (z | ⟨z1, z2 | z2⟩)
              · exact .inl z
              · exact .inr ⟨z1, z2⟩
              · exact absurd ⟨z1, z2⟩ hab
            · rintro (z | ⟨z1, z2⟩)
              · exact .inl z
              · exact .inr ⟨z1, .inl z2⟩
          simp only [this]
      · rintro δ' ⟨c5, f2, hf2, rfl⟩
        rw [List.length_map, List.take_length] at hf2
        refine ⟨_, _, f2, fun a ha b hb => ?_, rfl⟩
        rw [hf2 a ha b hb]
        have : (a ∈ ws.take j ∨ (a = x ∧ b ∈ ws)) ↔ a ∈ ws.take (j + 1) := by
          rw [mem_take_iff hx]
          constructor
          · rintro (z | ⟨z, _⟩)
            · exact .inl z
            · exact .inr z
          · rintro (z | z)
            · exact .inl z
            · exact .inr ⟨z, hb⟩
        simp only [this]
    · rintro δ' ⟨c4, c5, f1, hf1, rfl⟩
      rw [List.length_map, List.take_length] at hf1
      exact ⟨_, _, _, f1, fun a ha b hb => by rw [hf1 a ha b hb, if_pos ha], rfl⟩
  · rintro δ' ⟨c3, c4, c5, f, hf, rfl⟩
    rw [List.length_map, List.take_length] at hf
    walk_at "wb"
    refine rowsV_go (pre := [_, _, _, _, _, _]) hl rfl fun _ => ?_
    rw [tab_congr (g := rch ws rs) hf]
    exact q

/-! ### total promises over any data -/
def isTup : D → Bool
  | .tup _ => true
  | _ => false
def isStr : D → Bool
  | .str _ => true
  | _ => false
def isInt : D → Bool
  | .int _ => true
  | .bl _ => true
  | _ => false
def isBl : D → Bool
  | .bl _ => true
  | _ => false
theorem isi_tup {v : D} (h : isDat v = true) {Q : D → Prop} : isiX v (.ty "tuple") Q = Q (.bl (isTup v)) := by
  unfold isiX
  cases v <;> first | rfl | cases h
theorem isi_str {v : D} (h : isDat v = true) {Q : D → Prop} : isiX v (.ty "str") Q = Q (.bl (isStr v)) := by
  unfold isiX
  cases v <;> first | rfl | cases h
theorem isi_int {v : D} (h : isDat v = true) {Q : D → Prop} : isiX v (.ty "int") Q = Q (.bl (isInt v)) := by
  unfold isiX
  cases v <;> first | rfl | cases h
theorem isi_bl {v : D} (h : isDat v = true) {Q : D → Prop} : isiX v (.ty "bool") Q = Q (.bl (isBl v)) := by
  unfold isiX
  cases v <;> first | rfl | cases h
def lensOk : D → Bool
  | .tup l => decide (l.length ≤ 1000)
  | _ => true
def strsOk : D → D → Bool
  | .tup l, .non => l.all isStr
  | .tup l, .int n => l.all isStr && decide ((l.length : Int) = n)
  | _, _ => false
def sd_is_strings : SpD := fun ds Q => ∃ v m, ds = [v, m] ∧ isDat v = true ∧ lensOk v = true ∧ (m = .non ∨ ∃ n : Int, m = .int n) ∧ Q (.bl (strsOk v m))
theorem len_is_strings (ds : List D) (Q : D → Prop) (h : sd_is_strings ds Q) : ds.length = 2 := by obtain ⟨_, _, rfl, _⟩ := h; rfl
abbrev N_is_strings : List Str := ["value", "many", "item"]
theorem sc_is_strings : FnScope N_is_strings ["value", "many"] (defScope st_is_strings) := ⟨rfl, rfl, rfl, by decide +kernel, rfl, by decide +kernel, by decide +kernel⟩
def t_is_strings : TDS :=
  dSeq (dIfS (dOr (dNot (dTru (.ex (dB2 isiX (dVar 0) (dC (.ty "tuple")))))) (dNot (dTru (.ex (dB1 (anyD true) (.ex (dLc (iSeq (dVar 0)) (dgName 2) (dYes) (dB2 isiX (dVar 2) (dC (.ty "str"))) [2]))))))) (dRet (dC (.bl false))) (dNext))
  (dRet (dOrV (dBin (isD) (.sl 1) (.ex (dC .non))) (dBin (eqX) (.ex (dB1 lenD (.sl 0))) (.sl 1))))
theorem pure_is_strings (ds : List D) (Q : D → Prop) (h : sd_is_strings ds Q) : t_is_strings (ends Q) (startD 3 ds) := by
  obtain ⟨v, m, rfl, hv, hl, hm, q⟩ := h
  unfold t_is_strings
  walk_at "wb"
  rw [isi_tup hv]
  walk_at "wb"
  cases v with
  | tup l =>
    refine if_f rfl ?_
    have hd : ∀ d ∈ l, isDat d = true := fun d hd => by
      rw [isDat, isDatL_iff] at hv
      exact hv d hd
    have hl : l.length ≤ 1000 := of_decide_eq_true hl
    walk_at "wb"
    refine lc_m l id (fun d => .bl (isStr d)) (by simp) (by omega) (fun d hdm K1 k1 => ?_) ?_
    · walk_at "wb"
      show isiX d (.ty "str") _
      rw [isi_str (hd d hdm)]
      exact k1
    walk_at "wb"
    rw [all_at (fun d => isStr d) l]
    walk_at "wb"
    cases e : l.all fun d => isStr d with
    | false =>
      refine if_t rfl ?_
      rcases hm with rfl | ⟨n, rfl⟩
      · rw [show strsOk (.tup l) .non = l.all isStr from rfl, show l.all isStr = false from e] at q
        exact q
      · rw [show strsOk (.tup l) (.int n) = (l.all isStr && decide ((l.length : Int) = n)) from rfl, show l.all isStr = false from e, Bool.false_and] at q
        exact q
    | true =>
      refine if_f rfl ?_
      rcases hm with rfl | ⟨n, rfl⟩
      · rw [show strsOk (.tup l) .non = l.all isStr from rfl, show l.all isStr = true from e] at q
        exact q
      · rw [show strsOk (.tup l) (.int n) = (l.all isStr && decide ((l.length : Int) = n)) from rfl, show l.all isStr = true from e, Bool.true_and] at q
        refine if_f rfl ?_
        rw [x_eqI]
        exact q
  | _ =>
    refine if_t rfl ?_
    exact q
def ropeOk : D → Bool
  | .tup [a, b, c] => (isStr a && isStr b) && (isInt c && !isBl c)
  | _ => false
def sd_is_rope : SpD := fun ds Q => ∃ v, ds = [v] ∧ isDat v = true ∧ Q (.bl (ropeOk v))
theorem len_is_rope (ds : List D) (Q : D → Prop) (h : sd_is_rope ds Q) : ds.length = 1 := by obtain ⟨_, rfl, _⟩ := h; rfl
abbrev N_is_rope : List Str := ["value"]
theorem sc_is_rope : FnScope N_is_rope ["value"] (defScope st_is_rope) := ⟨rfl, rfl, rfl, by decide +kernel, rfl, by decide +kernel, by decide +kernel⟩
def t_is_rope : TDS :=
  dSeq (dIfS (dOr (dNot (dTru (.ex (dB2 isiX (dVar 0) (dC (.ty "tuple")))))) (dOr (dtBin (neX) (.ex (dB1 lenD (.sl 0))) (.ex (dC (.int 3)))) (dNot (dTru (.ex (dCall sd_is_strings (dCons (dSl (.sl 0) (dP0) (dP1 (dC (.int 2)))) (dCons (dC (.int 2)) (dNil))))))))) (dRet (dC (.bl false))) (dNext))
  (dRet (dAndV (dB2 isiX (dBin ixX (.sl 0) (.ex (dC (.int 2)))) (dC (.ty "int"))) (dNotV (dB2 isiX (dBin ixX (.sl 0) (.ex (dC (.int 2)))) (dC (.ty "bool"))))))
theorem pure_is_rope (ds : List D) (Q : D → Prop) (h : sd_is_rope ds Q) : t_is_rope (ends Q) (startD 1 ds) := by
  obtain ⟨v, rfl, hv, q⟩ := h
  unfold t_is_rope
  walk_at "wb"
  rw [isi_tup hv]
  walk_at "wb"
  cases v with
  | tup l =>
    refine if_f rfl ?_
    walk_at "wb"
    have hd : ∀ d ∈ l, isDat d = true := fun d hd => by
      rw [isDat, isDatL_iff] at hv
      exact hv d hd
    match l, hd, q with
    | [a, b, c], hd, q =>
      walk_at "wb"
      have ha := hd a (by simp)
      have hb := hd b (by simp)
      have hc := hd c (by simp)
      have e2 : cutL [a, b, c] none (some 2) = [a, b] := by rw [cut_to (by decide)]; rfl
      refine if_f (by decide) ?_
      rw [e2]
      refine ⟨_, _, rfl, by rw [isDat, isDatL_iff]; exact fun d h => hd d (by simp at h ⊢; rcases h with h | h <;> simp [h]), rfl, .inr ⟨2, rfl⟩, ?_⟩
      have es : strsOk (.tup [a, b]) (.int 2) = (isStr a && isStr b) := by
        show ([a, b].all isStr && decide (((2 : Nat) : Int) = 2)) = _
        simp
      rw [es]
      have eq : ropeOk (.tup [a, b, c]) = ((isStr a && isStr b) && (isInt c && !isBl c)) := rfl
      rw [eq] at q
      walk_at "wb"
      cases h1 : (isStr a && isStr b) with
      | false =>
        rw [h1, Bool.false_and] at q
        exact if_t rfl q
      | true =>
        rw [h1, Bool.true_and] at q
        refine if_f rfl ?_
        rw [isi_int hc, isi_bl hc]
        walk_at "wb"
        cases h2 : isInt c with
        | false =>
          rw [h2, Bool.false_and] at q
          exact if_f rfl q
        | true =>
          rw [h2, Bool.true_and] at q
          exact if_t rfl q
    | [], hd, q => exact q
    | [a], hd, q => exact q
    | [a, b], hd, q => exact q
    | a :: b :: c :: d :: r, hd, q =>
      walk_at "wb"
      refine if_t (by simp; omega) q
  | _ =>
    refine if_t rfl ?_
    exact q

section
variable {δ : DSt} {Q : D → DSt → Prop}
theorem e_callX {ex : ExD} {sd : SpX} {t : TDA} : dCallX ex sd t δ Q = t δ fun ds δ1 => sd ds (fun z => Q z δ1) fun C fs => ex δ1 C fs := propext Iff.rfl
theorem e_methX {ex : ExD} {C m : Str} {sd : SpX} {ta : TDE} {t : TDA} : dMethX ex C m sd ta t δ Q = ta δ fun d δ1 => mX (insOf d) fun p => p.1 = C ∧ p.2.lookup m = none ∧ t δ1 fun ds δ2 => sd (.ins C p.2 :: ds) (fun z => Q z δ2) fun C fs => ex δ2 C fs := by
  have : (fun (d : D) (δ1 : DSt) => match insOf d with | some (C', fs) => C' = C ∧ fs.lookup m = none ∧ t δ1 fun ds δ2 => sd (.ins C fs :: ds) (fun z => Q z δ2) fun C fs => ex δ2 C fs | none => False) = fun d δ1 => mX (insOf d) fun p => p.1 = C ∧ p.2.lookup m = none ∧ t δ1 fun ds δ2 => sd (.ins C p.2 :: ds) (fun z => Q z δ2) fun C fs => ex δ2 C fs := by
    funext d δ1
    cases insOf d <;> rfl
  exact congrArg (fun K => ta δ K) this
theorem e_xf {fs : List (Str × D)} {f : Str} : dXf fs f δ Q = ∃ d, fs.lookup f = some d ∧ Q d δ := propext Iff.rfl
theorem e_isE {ms : List (Str × Bool)} {C : Str} : dIsE ms C δ Q = ∃ b, (C, b) ∈ ms ∧ Q (.bl b) δ := propext Iff.rfl
theorem s_raise {ex : ExD} {C : Str} {fs : List Str} {t : TDA} {F : DEnds} : dRaise ex C fs t F δ = t δ fun ds δ1 => ds.length = fs.length ∧ ex δ1 C (fs.zip ds) := propext Iff.rfl
end
/-- the first of some texts that is no place -/
def Lost (ps : List Str) (l : List Str) (x : Str) : Prop := ∃ pre post, l = pre ++ x :: post ∧ (∀ y ∈ pre, y ∈ ps) ∧ x ∉ ps
theorem Lost.nil {ps : List Str} {x : Str} (h : Lost ps [] x) : False := by
  obtain ⟨pre, post, e, _⟩ := h
  cases pre <;> cases e
theorem Lost.cons {ps : List Str} {y x : Str} {l : List Str} (h : Lost ps (y :: l) x) : (y = x ∧ x ∉ ps) ∨ (y ∈ ps ∧ Lost ps l x) := by
  obtain ⟨pre, post, e, h1, h2⟩ := h
  cases pre with
  | nil => cases e; exact .inl ⟨rfl, h2⟩
  | cons a r => cases e; exact .inr ⟨h1 _ List.mem_cons_self, r, post, rfl, fun y hy => h1 y (List.mem_cons_of_mem _ hy), h2⟩
section
variable {δ : DSt} {Q : D → DSt → Prop} {F : DEnds}
theorem s_tryA {i : Nat} {ms : List (Str × Bool)} {exo : ExD} {tb : ExD → TDS} {ts : Str → List (Str × D) → TDS} : dTryAs i ms exo tb ts F δ = (noOw δ = true ∧ tb (exTry i ms exo ts F) F δ) := propext Iff.rfl
end
local macro_rules | `(tactic| walk_at "wx") => `(tactic| try simp only [↓s_next, ↓s_seq, ↓s_sto, ↓s_drop, ↓s_ret, ↓s_if, ↓s_never, ↓s_asg, ↓s_asgO, ↓s_pars, ↓s_great, ↓g_name, ↓g_nil, ↓g_cons, ↓g_seqT, ↓g_seqL, ↓g_box, ↓for_eq, ↓lc_eq, ↓dc_eq, ↓i_seq, ↓i_enum, ↓i_range1,
  ↓vi0, ↓vo0, ↓ri0, ↓ro0, ↓ol0, ↓as0, ↓vi1, ↓vo1, ↓ri1, ↓ro1, ↓ol1, ↓as1, ↓vi2, ↓vo2, ↓ri2, ↓ro2, ↓ol2, ↓as2, ↓vi3, ↓vo3, ↓ri3, ↓ro3, ↓ol3, ↓as3, ↓vi4, ↓vo4, ↓ri4, ↓ro4, ↓ol4, ↓as4, ↓vi5, ↓vo5, ↓ri5, ↓ro5, ↓ol5, ↓as5, ↓vi6, ↓vo6, ↓ri6, ↓ro6, ↓ol6, ↓as6, ↓vi7, ↓vo7, ↓ri7, ↓ro7, ↓ol7, ↓as7, ↓vi8, ↓vo8, ↓ri8, ↓ro8, ↓ol8, ↓as8, ↓vi9, ↓vo9, ↓ri9, ↓ro9, ↓ol9, ↓as9, ↓vi10, ↓vo10, ↓ri10, ↓ro10, ↓ol10, ↓as10, ↓vi11, ↓vo11, ↓ri11, ↓ro11, ↓ol11, ↓as11, ↓vi12, ↓vo12, ↓ri12, ↓ro12, ↓ol12, ↓as12, ↓vi13, ↓vo13, ↓ri13, ↓ro13, ↓ol13, ↓as13, ↓vi14, ↓vo14, ↓ri14, ↓ro14, ↓ol14, ↓as14, ↓vi15, ↓vo15, ↓ri15, ↓ro15, ↓ol15, ↓as15, ↓vi16, ↓vo16, ↓ri16, ↓ro16, ↓ol16, ↓as16, ↓vi17, ↓vo17, ↓ri17, ↓ro17, ↓ol17, ↓as17, ↓vi18, ↓vo18, ↓ri18, ↓ro18, ↓ol18, ↓as18, ↓vi19, ↓vo19, ↓ri19, ↓ro19, ↓ol19, ↓as19, ↓vi20, ↓vo20, ↓ri20, ↓ro20, ↓ol20, ↓as20, ↓vi21, ↓vo21, ↓ri21, ↓ro21, ↓ol21, ↓as21, ↓vi22, ↓vo22, ↓ri22, ↓ro22, ↓ol22, ↓as22, ↓vi23, ↓vo23, ↓ri23, ↓ro23, ↓ol23, ↓as23, ↓vi24, ↓vo24, ↓ri24, ↓ro24, ↓ol24, ↓as24, ↓vi25, ↓vo25, ↓ri25, ↓ro25, ↓ol25, ↓as25, ↓at_s1, ↓at_s0, ↓at_w1, ↓at_w0, ↓mt_b, ↓mt_l, ↓mt_t, ↓mt_i,
  ↓e_c, ↓e_nil, ↓e_cons, ↓e_tup, ↓e_lst, ↓e_two1, ↓e_two2, ↓e_two3, ↓e_two4, ↓e_bin, ↓e_tbin, ↓e_chain, ↓e_and, ↓e_or, ↓e_not, ↓e_tru1, ↓e_tru2, ↓e_andV, ↓e_orV, ↓e_notV, ↓e_if, ↓e_call, ↓e_p0, ↓e_p1, ↓e_one1, ↓e_one2, ↓e_b1, ↓e_b2, ↓e_tb2, ↓e_sl1, ↓e_sl2, ↓e_append, ↓e_extend, ↓e_popAt, ↓e_yes, ↓e_join, ↓in_strL, ↓in_strT, ↓x_mulS, ↓e_new, ↓e_newV, ↓e_meth, ↓e_prop, ↓e_stat, ↓e_statI, ↓e_clsM, ↓e_evN, ↓e_evI, ↓e_evO, ↓e_boxNew,
  z0, z1, z2, h0, h1, h2, ↓bx0, ↓rgI, ↓sqL, ↓sqT, ↓sqR, ↓enL, ↓enT, ↓lsL, wipeD, e_var, v0, v1, r0, r1, o0, m0, at0, setD, startD, startI, dFldSet,
  List.map_cons, List.map_nil, List.replicate, List.cons_append, List.nil_append, List.length_cons, List.length_nil, List.getElem?_cons_zero, List.getElem?_cons_succ, List.getElem?_nil, List.set_cons_zero, List.set_cons_succ, List.set_nil, Nat.reduceAdd, Nat.reduceSub, Nat.sub_zero, Nat.sub_self, Nat.zero_add, Nat.add_zero,
  true_and, and_true, if_true, if_false, Bool.false_eq_true, Bool.not_true, Bool.not_false, Bool.not_eq_true, decide_true, decide_false, Bool.true_eq_false, reduceCtorEq, ite_true, ite_false, List.mem_cons, List.not_mem_nil, or_false, beq_self_eq_true, Nat.reduceLT, Nat.reduceLeDiff, Int.reduceLT, Int.reduceLE, Int.reduceAdd, Int.reduceSub, Int.reduceMul, Int.reducePow, Int.reduceToNat, Int.reduceEq, Int.reduceNeg, Int.reduceMod, Int.reduceDiv, Nat.reduceEqDiff, and_self, Bool.not_not,
  ↓x_bl, x_truB, x_truL, x_truT, x_truI, ↓x_eqI, ↓x_eqS, ↓x_eqB, ↓x_neI, ↓x_neS, ↓x_neB, ↓x_addI, ↓x_addL, ↓x_addT, ↓x_addS, ↓x_subI, ↓x_mulI, ↓x_modI, ↓x_fdivI, ↓x_powI, ↓x_lt, ↓x_le, ↓x_gt, ↓x_ge, ↓x_ltP, ↓x_leP, ↓x_gtP, ↓x_geP, ↓x_lenL, ↓x_lenT, ↓x_lenS, ↓x_tupL, ↓x_tupT, ↓x_lisL, ↓x_lisT, ↓x_rev, ↓x_intI, ↓x_intB, ↓x_abs, ↓x_min, ↓x_max, ↓x_is, ↓x_isNot, x_isN0, x_isN1, x_isN2, x_isN3, x_isN4, ↓x_nil, ↓x_nnil, ↓x_ix0, ↓x_ix1, ↓x_ix2, ↓x_ix3, ↓x_ix4, ↓x_ix5, ↓x_ix6, ↓x_ix7, ↓x_it0, ↓x_it1, ↓x_it2, ↓x_ixB, x_kn, x_ks, x_kt, ↓x_slL, ↓x_slT, ↓x_slS, ↓x_slR,
  ↓s_aug, ↓g_put, ↓g_item, ↓e_callB, ↓e_disp, ↓e_ps0, ↓e_ps1, ↓i_str, ↓i_range2, ↓e_get2, ↓e_step, ↓x_step, ↓e_f1, ↓e_fstr, ↓e_fs0, ↓e_fs1, ↓e_fs2, ↓x_repr, ↓x_strI, ↓x_strS, ↓x_onStr, ↓x_onInt, ↓oa0, ↓od0, ↓oa1, ↓od1, ↓oa2, ↓od2, ↓oa3, ↓od3, ↓oa4, ↓od4, ↓oa5, ↓od5, ↓oa6, ↓od6, ↓oa7, ↓od7, ↓oa8, ↓od8, ↓oa9, ↓od9, ↓oa10, ↓od10, ↓oa11, ↓od11, ↓oa12, ↓od12, h3, h4, x_ko0, x_ko1, x_ko2, ↓x_ixK, ↓x_ixZ, ↓x_inK, ↓x_listK, ↓x_listZ, ↓x_listT, ↓x_isS, ↓x_isT, ↓x_inS, ↓least_at0, ↓least_at1, ↓least_at2, ↓ownNe_at, ↓ownEq_at, ↓ownA_at, ↓ownA_atI, ↓ownA_atR, ↓ownA_int, ↓ownNe_b, ↓ownEq_b, ↓ownA_lst, ins_lenE, ↓statI_least, ↓init_non, ↓init_int, len_fold0, len_fold1, ↓ownLt_at, ↓take_at, ↓mixed_at, ↓mixed_atT, ↓s_rows, ↓s_sto2, ↓x_dictC, ↓ew_tupS, ↓ew_star, ↓xw_seqT, ↓xw_seqL, ↓lc2_eq, ↓word_at, ↓w_isI, ↓w_isB, ↓ownEq_i, ↓ownGt_i, ↓e_callX, ↓e_methX, ↓s_raise, ↓e_xf, ↓e_isE, ↓s_tryA, List.zip_cons_cons, List.zip_nil_left, List.zip_nil_right, eq_self])

/-! ### values that may be a web: the first reason why not -/
section
variable {δ : DSt} {Q : D → DSt → Prop}
theorem e_newX {ex : ExD} {C : Str} {sd : SpIX} {t : TDA} : dNewX ex C sd t δ Q = t δ fun ds δ1 => sd ds (fun fs => Q (.ins C fs) δ1) fun C' fs => ex δ1 C' fs := propext Iff.rfl
theorem w_seqU {i : Nat} {t v : TDS} {F : DEnds} : dSeqU i t v F δ = t { F with nx := fun δ' => δ'[i]? = δ[i]? ∧ v F δ' } δ := propext Iff.rfl
theorem w_truB {t : TDE} {R : Bool → DSt → Prop} : dTruB t δ R = t δ fun d δ1 => onBl d fun b => R b δ1 := propext Iff.rfl
end
def itemsD : D → List D
  | .tup l => l
  | _ => []
def formB (w r : D) : Bool := strsOk w .non && (isTup r && (itemsD r).all ropeOk)
theorem strs_form {w : D} (h : strsOk w .non = true) : ∃ ws : List Str, w = dps ws := by
  cases w with
  | tup l =>
    have h : l.all isStr = true := h
    obtain ⟨ws, rfl⟩ := strs_of_mem (l := l) fun d hd => by
      have := List.all_eq_true.mp h d hd
      cases d with
      | str s => exact ⟨s, rfl⟩
      | _ => cases this
    exact ⟨ws, rfl⟩
  | _ => cases h
theorem rope_form {d : D} (h : ropeOk d = true) : ∃ r : Rp, d = rpD r := by
  match d, h with
  | .tup [a, b, c], h =>
    have h : ((isStr a && isStr b) && (isInt c && !isBl c)) = true := h
    rw [Bool.and_eq_true, Bool.and_eq_true, Bool.and_eq_true] at h
    obtain ⟨⟨h1, h2⟩, h3, h4⟩ := h
    cases a with
    | str a =>
      cases b with
      | str b =>
        cases c with
        | int c => exact ⟨(a, b, c), rfl⟩
        | bl c => cases h4
        | _ => cases h3
      | _ => cases h2
    | _ => cases h1
theorem ropes_form : ∀ {l : List D}, l.all ropeOk = true → ∃ rs : List Rp, l = rs.map rpD
  | [], _ => ⟨[], rfl⟩
  | d :: r, h => by
    rw [List.all_cons, Bool.and_eq_true] at h
    obtain ⟨x, rfl⟩ := rope_form h.1
    obtain ⟨rs, rfl⟩ := ropes_form h.2
    exact ⟨x :: rs, rfl⟩
theorem form_yes {w r : D} (h : formB w r = true) : ∃ ws rs, w = dps ws ∧ r = rps rs := by
  unfold formB at h
  rw [Bool.and_eq_true, Bool.and_eq_true] at h
  obtain ⟨h1, h2, h3⟩ := h
  obtain ⟨ws, rfl⟩ := strs_form h1
  cases r with
  | tup l =>
    obtain ⟨rs, rfl⟩ := ropes_form h3
    exact ⟨ws, rs, rfl, rfl⟩
  | _ => cases h2
theorem strs_dps (ws : List Str) : strsOk (dps ws) .non = true := by
  show (ws.map D.str).all isStr = true
  rw [List.all_map, List.all_eq_true]
  exact fun _ _ => rfl
theorem ropes_rps (rs : List Rp) : (rs.map rpD).all ropeOk = true := by
  rw [List.all_map, List.all_eq_true]
  exact fun _ _ => rfl
theorem form_dr (ws : List Str) (rs : List Rp) : formB (dps ws) (rps rs) = true := by
  unfold formB
  rw [strs_dps]
  exact ropes_rps rs
def badW (ws : List Str) (i : Nat) (x : Str) : Prop := wordB x = false ∨ x ∈ ws.take i
def badR (ws : List Str) (r : Rp) : Prop := r.1 ∉ ws ∨ r.2.1 ∉ ws ∨ r.1 = r.2.1 ∨ r.2.2 < 0
def goodW (ws : List Str) (i : Nat) : Prop := ∀ j < i, ∀ y, ws[j]? = some y → ¬ badW ws j y
inductive Due : D → D → Option (Str × Nat) → Prop
  | form {w r : D} : formB w r = false → Due w r (some ("form", 0))
  | size {ws : List Str} {rs : List Rp} : ¬ (1 ≤ ws.length ∧ ws.length ≤ 6) → Due (dps ws) (rps rs) (some ("size", 0))
  | walker {ws : List Str} {rs : List Rp} {i : Nat} {x : Str} : 1 ≤ ws.length → ws.length ≤ 6 → ws[i]? = some x → badW ws i x → goodW ws i → Due (dps ws) (rps rs) (some ("walker", i))
  | rope {ws : List Str} {rs : List Rp} {i : Nat} {r : Rp} : 1 ≤ ws.length → ws.length ≤ 6 → goodW ws ws.length → rs[i]? = some r → badR ws r → (∀ j < i, ∀ y, rs[j]? = some y → ¬ badR ws y) → Due (dps ws) (rps rs) (some ("rope", i))
  | good {ws : List Str} {rs : List Rp} : 1 ≤ ws.length → ws.length ≤ 6 → goodW ws ws.length → (∀ y ∈ rs, ¬ badR ws y) → Due (dps ws) (rps rs) none
theorem first_bad {α : Type} (l : List α) (P : Nat → α → Prop) : (∃ i x, l[i]? = some x ∧ P i x ∧ ∀ j < i, ∀ y, l[j]? = some y → ¬ P j y) ∨ (∀ j y, l[j]? = some y → ¬ P j y) := by
  have go : ∀ n, (∃ i x, l[i]? = some x ∧ P i x ∧ ∀ j < i, ∀ y, l[j]? = some y → ¬ P j y) ∨ (∀ j < n, ∀ y, l[j]? = some y → ¬ P j y) := fun n => by
    induction n with
    | zero => exact .inr fun j h => by omega
    | succ n ih =>
      rcases ih with h | h
      · exact .inl h
      · by_cases hn : ∃ y, l[n]? = some y ∧ P n y
        · obtain ⟨y, h1, h2⟩ := hn
          exact .inl ⟨n, y, h1, h2, h⟩
        · refine .inr fun j hj y hy hp => ?_
          by_cases e : j = n
          · subst e; exact hn ⟨y, hy, hp⟩
          · exact h j (by omega) y hy hp
  rcases go l.length with h | h
  · exact .inl h
  · exact .inr fun j y hy => h j (lt_of_get hy) y hy
theorem due_all (w r : D) : ∃ o, Due w r o := by
  cases hf : formB w r with
  | false => exact ⟨_, .form hf⟩
  | true =>
    obtain ⟨ws, rs, rfl, rfl⟩ := form_yes hf
    by_cases hs : 1 ≤ ws.length ∧ ws.length ≤ 6
    · rcases first_bad ws (badW ws) with ⟨i, x, h1, h2, h3⟩ | h
      · exact ⟨_, .walker hs.1 hs.2 h1 h2 h3⟩
      · have gw : goodW ws ws.length := fun j _ y hy => h j y hy
        rcases first_bad rs (fun _ r => badR ws r) with ⟨i, x, h1, h2, h3⟩ | h'
        · exact ⟨_, .rope hs.1 hs.2 gw h1 h2 h3⟩
        · exact ⟨_, .good hs.1 hs.2 gw fun y hy => by
            obtain ⟨j, hj⟩ := mem_get hy
            exact h' j y hj⟩
    · exact ⟨_, .size hs⟩
theorem due_ok {ws : List Str} {rs : List Rp} (h1 : 1 ≤ ws.length) (h2 : ws.length ≤ 6) (gw : goodW ws ws.length) (gr : ∀ y ∈ rs, ¬ badR ws y) (hn : rs.length ≤ 900) : WebOk ws rs where
  nd := by
    rw [List.nodup_iff_pairwise_ne, List.pairwise_iff_getElem]
    intro i j hi hj hij e
    refine gw j hj ws[j] (List.getElem?_eq_getElem hj) (.inr ?_)
    rw [← e, List.mem_take_iff_getElem]
    exact ⟨i, by omega, rfl⟩
  lo := h1
  hi := h2
  wd := fun w hw => by
    obtain ⟨j, hj⟩ := mem_get hw
    have := gw j (lt_of_get hj) w hj
    refine wordB_iff.mp ?_
    cases e : wordB w with
    | true => rfl
    | false => exact absurd (.inl e) this
  rp := fun r hr => by
    have := gr r hr
    unfold badR at this
    simp only [not_or, Classical.not_not] at this
    obtain ⟨a, b, c, d⟩ := this
    exact ⟨a, b, c, by omega⟩
  rn := hn
theorem rps_inj {a b : List Rp} (h : rps a = rps b) : a = b := by
  have h : a.map rpD = b.map rpD := by injection h
  induction a generalizing b with
  | nil => cases b with | nil => rfl | cons _ _ => cases h
  | cons x r ih => cases b with
    | nil => cases h
    | cons y t =>
      simp only [List.map_cons, List.cons.injEq] at h
      obtain ⟨h1, h2⟩ := h
      have : x = y := by
        obtain ⟨x1, x2, x3⟩ := x
        obtain ⟨y1, y2, y3⟩ := y
        unfold rpD at h1
        injection h1 with h1
        simp only [List.cons.injEq, D.str.injEq, D.int.injEq, and_true] at h1
        obtain ⟨rfl, rfl, rfl⟩ := h1
        rfl
      rw [this, ih (by unfold rps; rw [h2]) h2]
theorem dps_inj' {a b : List Str} (h : dps a = dps b) : a = b := strs_inj.mp (by injection h)
theorem Due.inv {ws : List Str} {rs : List Rp} {o : Option (Str × Nat)} (h : Due (dps ws) (rps rs) o) : (¬ (1 ≤ ws.length ∧ ws.length ≤ 6) ∧ o = some (("size" : Str), 0)) ∨
    (1 ≤ ws.length ∧ ws.length ≤ 6 ∧ ((∃ i x, ws[i]? = some x ∧ badW ws i x ∧ goodW ws i ∧ o = some (("walker" : Str), i)) ∨
      (goodW ws ws.length ∧ ((∃ i r, rs[i]? = some r ∧ badR ws r ∧ (∀ j < i, ∀ y, rs[j]? = some y → ¬ badR ws y) ∧ o = some (("rope" : Str), i)) ∨ ((∀ y ∈ rs, ¬ badR ws y) ∧ o = none))))) := by
  generalize hw : dps ws = w at h
  generalize hr : rps rs = r at h
  cases h with
  | form e => rw [← hw, ← hr, form_dr] at e; cases e
  | size a => cases dps_inj' hw; exact .inl ⟨a, rfl⟩
  | walker a b c d e => cases dps_inj' hw; exact .inr ⟨a, b, .inl ⟨_, _, c, d, e, rfl⟩⟩
  | rope a b c d e f => cases dps_inj' hw; cases rps_inj hr; exact .inr ⟨a, b, .inr ⟨c, .inl ⟨_, _, d, e, f, rfl⟩⟩⟩
  | good a b c d => cases dps_inj' hw; cases rps_inj hr; exact .inr ⟨a, b, .inr ⟨c, .inr ⟨d, rfl⟩⟩⟩
theorem Due.at_size {ws : List Str} {rs : List Rp} {o : Option (Str × Nat)} (h : Due (dps ws) (rps rs) o) (hs : ¬ (1 ≤ ws.length ∧ ws.length ≤ 6)) : o = some (("size" : Str), 0) := by
  rcases h.inv with ⟨_, e⟩ | ⟨a, b, _⟩
  · exact e
  · exact absurd ⟨a, b⟩ hs
theorem Due.at_walker {ws : List Str} {rs : List Rp} {o : Option (Str × Nat)} {i : Nat} {x : Str} (h : Due (dps ws) (rps rs) o) (hs : 1 ≤ ws.length ∧ ws.length ≤ 6) (hx : ws[i]? = some x) (hb : badW ws i x) (hg : goodW ws i) : o = some (("walker" : Str), i) := by
  rcases h.inv with ⟨z, _⟩ | ⟨_, _, ⟨j, y, h1, h2, h3, e⟩ | ⟨g, _⟩⟩
  · exact absurd hs z
  · have : i = j := by
      rcases Nat.lt_trichotomy i j with h | h | h
      · exact absurd hb (h3 i h x hx)
      · exact h
      · exact absurd h2 (hg j h y h1)
    rw [e, this]
  · exact absurd hb (g i (lt_of_get hx) x hx)
theorem Due.at_rope {ws : List Str} {rs : List Rp} {o : Option (Str × Nat)} {i : Nat} {x : Rp} (h : Due (dps ws) (rps rs) o) (hs : 1 ≤ ws.length ∧ ws.length ≤ 6) (hg : goodW ws ws.length) (hx : rs[i]? = some x) (hb : badR ws x) (hl : ∀ j < i, ∀ y, rs[j]? = some y → ¬ badR ws y) : o = some (("rope" : Str), i) := by
  rcases h.inv with ⟨z, _⟩ | ⟨_, _, ⟨j, y, h1, h2, h3, e⟩ | ⟨g, ⟨j, y, h1, h2, h3, e⟩ | ⟨a, _⟩⟩⟩
  · exact absurd hs z
  · exact absurd h2 (hg j (lt_of_get h1) y h1)
  · have : i = j := by
      rcases Nat.lt_trichotomy i j with h | h | h
      · exact absurd hb (h3 i h x hx)
      · exact h
      · exact absurd h2 (hl j h y h1)
    rw [e, this]
  · exact absurd hb (a x (List.mem_of_getElem? hx))
theorem Due.at_good {ws : List Str} {rs : List Rp} {o : Option (Str × Nat)} (h : Due (dps ws) (rps rs) o) (hs : 1 ≤ ws.length ∧ ws.length ≤ 6) (hg : goodW ws ws.length) (hl : ∀ j < rs.length, ∀ y, rs[j]? = some y → ¬ badR ws y) : o = none := by
  rcases h.inv with ⟨z, _⟩ | ⟨_, _, ⟨j, y, h1, h2, h3, e⟩ | ⟨g, ⟨j, y, h1, h2, h3, e⟩ | ⟨a, e⟩⟩⟩
  · exact absurd hs z
  · exact absurd h2 (hg j (lt_of_get h1) y h1)
  · exact absurd h2 (hl j (lt_of_get h1) y h1)
  · exact e
theorem goodW_succ {ws : List Str} {i : Nat} {x : Str} (hg : goodW ws i) (hx : ws[i]? = some x) (hb : ¬ badW ws i x) : goodW ws (i + 1) := fun j hj y hy => by
  by_cases e : j = i
  · subst e; rw [hx] at hy; cases hy; exact hb
  · exact hg j (by omega) y hy
theorem goodR_succ {ws : List Str} {rs : List Rp} {i : Nat} {x : Rp} (hg : ∀ j < i, ∀ y, rs[j]? = some y → ¬ badR ws y) (hx : rs[i]? = some x) (hb : ¬ badR ws x) : ∀ j < i + 1, ∀ y, rs[j]? = some y → ¬ badR ws y := fun j hj y hy => by
  by_cases e : j = i
  · subst e; rw [hx] at hy; cases hy; exact hb
  · exact hg j (by omega) y hy
def dueE (o : Option (Str × Nat)) (Q : D → Prop) (Ed : Str → List (Str × D) → Prop) : Prop := match o with
  | some p => Ed "NoWeb" [("word", .str p.1), ("at", .int (p.2 : Int))]
  | none => Q .non
def lenD1 (v : D) : Prop := ∀ l, v = .tup l → l.length ≤ 900
theorem lens_of {v : D} (h : lenD1 v) : lensOk v = true := by
  cases v with
  | tup l => exact decide_eq_true (by have := h l rfl; omega)
  | _ => rfl
def sx_check_web : SpX := fun ds Q Ed => ∃ w r o, ds = [w, r] ∧ isDat w = true ∧ isDat r = true ∧ lenD1 w ∧ lenD1 r ∧ (∀ ws : List Str, w = dps ws → ∀ x ∈ ws, x.length ≤ 100000) ∧ Due w r o ∧ dueE o Q Ed
def sd_check_web : SpD := fun ds Q => sx_check_web ds Q noX
theorem lenx_check_web (ds : List D) (Q : D → Prop) (Ed : Str → List (Str × D) → Prop) (h : sx_check_web ds Q Ed) : ds.length = 2 := by obtain ⟨_, _, _, rfl, _⟩ := h; rfl
abbrev N_check_web : List Str := ["walkers", "ropes", "at", "walker", "one", "other", "length", "rope"]
theorem sc_check_web : FnScope N_check_web ["walkers", "ropes"] (defScope st_check_web) := ⟨rfl, rfl, rfl, by decide +kernel, rfl, by decide +kernel, by decide +kernel⟩
def tx_check_web (ex : ExD) : TDS :=
  dSeq (dIfS (dOr (dNot (dTru (.ex (dCall sd_is_strings (dCons (dVar 0) (dCons (dC .non) (dNil))))))) (dOr (dNot (dTru (.ex (dB2 isiX (dVar 1) (dC (.ty "tuple")))))) (dNot (dTru (.ex (dB1 (anyD true) (.ex (dLc (iSeq (dVar 1)) (dgName 7) (dYes) (dCall sd_is_rope (dCons (dVar 7) (dNil))) [7])))))))) (dRaise ex "NoWeb" ["word", "at"] (dCons (dC (.str "form")) (dCons (dC (.int 0)) (dNil)))) (dNext))
  (dSeq (dIfS (dNot (fun δ Q => dChain (leD) (leD) (dC (.int 1)) (dB1 lenD (.sl 0)) (dC (.int 6)) δ fun z δ' => onBl z fun b => Q b δ')) (dRaise ex "NoWeb" ["word", "at"] (dCons (dC (.str "size")) (dCons (dC (.int 0)) (dNil)))) (dNext))
  (dSeq (dFor (iEnum (dVar 0)) (dgSeq 2 (dgCons (dgName 2) (dgCons (dgName 3) (dgNil)))) (dIfS (dOr (dNot (dTru (.ex (dCall sd_is_word (dCons (dVar 3) (dNil)))))) (dtBin (inX false) (.sl 3) (.ex (dSl (.sl 0) (dP0) (dP1 (dVar 2)))))) (dRaise ex "NoWeb" ["word", "at"] (dCons (dC (.str "walker")) (dCons (dVar 2) (dNil)))) (dNext)))
  (dFor (iEnum (dVar 1)) (dgSeq 2 (dgCons (dgName 2) (dgCons (dgSeq 3 (dgCons (dgName 4) (dgCons (dgName 5) (dgCons (dgName 6) (dgNil))))) (dgNil)))) (dIfS (dOr (dtBin (inX true) (.sl 4) (.sl 0)) (dOr (dtBin (inX true) (.sl 5) (.sl 0)) (dOr (dtBin (eqX) (.sl 4) (.sl 5)) (dtBin (ltD) (.sl 6) (.ex (dC (.int 0))))))) (dRaise ex "NoWeb" ["word", "at"] (dCons (dC (.str "rope")) (dCons (dVar 2) (dNil)))) (dNext)))))
theorem purex_check_web (ds : List D) (Q : D → Prop) (Ed : Str → List (Str × D) → Prop) (h : sx_check_web ds Q Ed) : tx_check_web (fun _ C fs => Ed C fs) (ends Q) (startD 8 ds) := by
  obtain ⟨w, r, o, rfl, hw, hr, lw, lr, hx, hd, q⟩ := h
  unfold tx_check_web
  walk_at "wx"
  refine ⟨w, .non, rfl, hw, lens_of lw, .inl rfl, ?_⟩
  walk_at "wx"
  have hF : ∀ {e : formB w r = false}, Ed "NoWeb" [("word", .str "form"), ("at", .int ((0 : Nat) : Int))] := fun {e} => by
    cases hd with
    | form _ => exact q
    | size _ => rw [form_dr] at e; cases e
    | walker _ _ _ _ _ => rw [form_dr] at e; cases e
    | rope _ _ _ _ _ _ => rw [form_dr] at e; cases e
    | good _ _ _ _ => rw [form_dr] at e; cases e
  cases h1 : strsOk w .non with
  | false => exact if_t rfl (hF (e := by unfold formB; rw [h1]; rfl))
  | true =>
    refine if_f rfl ?_
    rw [isi_tup hr]
    walk_at "wx"
    cases h2 : isTup r with
    | false => exact if_t rfl (hF (e := by unfold formB; rw [h1, h2]; rfl))
    | true =>
      refine if_f rfl ?_
      cases r with
      | tup l =>
        have hd' : ∀ d ∈ l, isDat d = true := fun d hd => by
          rw [isDat, isDatL_iff] at hr
          exact hr d hd
        have hl := lr l rfl
        walk_at "wx"
        refine lc_m l id (fun d => .bl (ropeOk d)) (by simp) (by omega) (fun d hdm K1 k1 => ?_) ?_
        · walk_at "wx"
          exact ⟨d, rfl, hd' d hdm, k1⟩
        walk_at "wx"
        rw [all_at (fun d => ropeOk d) l]
        walk_at "wx"
        cases h3 : l.all fun d => ropeOk d with
        | false => exact if_t rfl (hF (e := by unfold formB; rw [h1, h2]; exact h3))
        | true =>
          refine if_f rfl ?_
          obtain ⟨ws, rfl⟩ := strs_form h1
          obtain ⟨rs, rfl⟩ := ropes_form h3
          have hx := hx ws rfl
          rw [show (D.tup (rs.map rpD)) = rps rs from rfl] at hd
          unfold dps at hd ⊢
          walk_at "wx"
          rw [List.length_map]
          by_cases hs : 1 ≤ ws.length ∧ ws.length ≤ 6
          · refine if_t (decide_eq_true (by omega)) (if_f (w_nd (by omega)) ?_)
            refine for_go (fun (i : Nat) (δ : DSt) => goodW ws i ∧ ∃ c2 c3 c4 c5 c6, δ = [.im (.tup (ws.map D.str)), .im (.tup (rs.map rpD)), c2, c3, c4, c5, c6, .no]) ⟨fun j h => by omega, _, _, _, _, _, rfl⟩ ?_ ?_
            · rintro i d δ' hdd ⟨gw, c2, c3, c4, c5, c6, rfl⟩
              obtain ⟨x, hx2, rfl⟩ := enum_get hdd
              obtain ⟨p, hp, rfl⟩ := map_get hx2
              have hm := List.mem_of_getElem? hp
              walk_at "wx"
              refine ⟨hx p hm, ?_⟩
              walk_at "wx"
              have hbad : badW ws i p → Ed "NoWeb" [("word", .str "walker"), ("at", .int (i : Int))] := fun hb => by
                rw [hd.at_walker hs hp hb gw] at q
                exact q
              rw [show wordD (.str p) = wordB p from rfl]
              cases hb : wordB p with
              | false => exact if_t rfl (hbad (.inl hb))
              | true =>
                refine if_f rfl ?_
                walk_at "wx"
                rw [cut_to (by omega), Int.toNat_natCast, ← List.map_take]
                walk_at "wx"
                by_cases hin : p ∈ ws.take i
                · exact if_t (decide_eq_true hin) (hbad (.inr hin))
                · refine if_f (decide_eq_false hin) ?_
                  exact ⟨goodW_succ gw hp fun z => by
                    rcases z with z | z
                    · rw [hb] at z; cases z
                    · exact hin z, _, _, _, _, _, rfl⟩
            · rintro δ' ⟨gw, c2, c3, c4, c5, c6, rfl⟩
              rw [enumD_len, List.length_map] at gw
              walk_at "wx"
              refine for_go (fun (i : Nat) (δ : DSt) => (∀ j < i, ∀ y, rs[j]? = some y → ¬ badR ws y) ∧ ∃ c2 c3 c4 c5 c6, δ = [.im (.tup (ws.map D.str)), .im (.tup (rs.map rpD)), c2, c3, c4, c5, c6, .no]) ⟨fun j h => by omega, _, _, _, _, _, rfl⟩ ?_ ?_
              · rintro i d δ' hdd ⟨gr, c2, c3, c4, c5, c6, rfl⟩
                obtain ⟨x, hx2, rfl⟩ := enum_get hdd
                obtain ⟨p, hp, rfl⟩ := map_get hx2
                unfold rpD
                walk_at "wx"
                have hbad : badR ws p → Ed "NoWeb" [("word", .str "rope"), ("at", .int (i : Int))] := fun hb => by
                  rw [hd.at_rope hs gw hp hb gr] at q
                  exact q
                by_cases h1 : p.1 ∈ ws
                · refine if_f (w_nd h1) ?_
                  by_cases h2 : p.2.1 ∈ ws
                  · refine if_f (w_nd h2) ?_
                    by_cases h3 : p.1 = p.2.1
                    · exact if_t (decide_eq_true h3) (hbad (.inr (.inr (.inl h3))))
                    · refine if_f (decide_eq_false h3) ?_
                      by_cases h4 : p.2.2 < 0
                      · exact if_t (decide_eq_true h4) (hbad (.inr (.inr (.inr h4))))
                      · refine if_f (decide_eq_false h4) ?_
                        refine ⟨goodR_succ gr hp fun z => ?_, _, _, _, _, _, rfl⟩
                        rcases z with z | z | z | z
                        · exact z h1
                        · exact z h2
                        · exact h3 z
                        · exact h4 z
                  · exact if_t (by rw [decide_eq_false h2]; rfl) (hbad (.inr (.inl h2)))
                · exact if_t (by rw [decide_eq_false h1]; rfl) (hbad (.inl h1))
              · rintro δ' ⟨gr, c2, c3, c4, c5, c6, rfl⟩
                rw [enumD_len, List.length_map] at gr
                rw [hd.at_good hs gw gr] at q
                exact q
          · have hE : Ed "NoWeb" [("word", .str "size"), ("at", .int ((0 : Nat) : Int))] := by
              rw [hd.at_size hs] at q
              exact q
            by_cases h1 : 1 ≤ ws.length
            · exact if_t (decide_eq_true (by omega)) (if_t (by rw [decide_eq_false (by omega)]; rfl) hE)
            · exact if_f (decide_eq_false (by omega)) hE
      | _ => cases h2

def webF (ws : List Str) (rs : List Rp) : List (Str × D) := [("own_walkers", dps ws), ("own_ropes", rps rs), ("direct", tabE ws (dl rs)), ("reaches", tabE ws (rch ws rs))]
def webE (ws : List Str) (rs : List Rp) : D := .ins "Web" (webF ws rs)
theorem be_wr : (("own_ropes" : Str) == ("own_walkers" : Str)) = false := by decide +kernel
theorem be_dw : (("direct" : Str) == ("own_walkers" : Str)) = false := by decide +kernel
theorem be_dr : (("direct" : Str) == ("own_ropes" : Str)) = false := by decide +kernel
theorem be_ew : (("reaches" : Str) == ("own_walkers" : Str)) = false := by decide +kernel
theorem be_er : (("reaches" : Str) == ("own_ropes" : Str)) = false := by decide +kernel
theorem be_ed : (("reaches" : Str) == ("direct" : Str)) = false := by decide +kernel
theorem ins_web (ws : List Str) (rs : List Rp) : insOf (webE ws rs) = some (("Web" : Str), webF ws rs) := rfl
theorem fld_ws {ws : List Str} {rs : List Rp} {Q : D → Prop} : fldD "own_walkers" ["Web"] (webE ws rs) Q = Q (dps ws) := by
  unfold fldD webE webF insOf; simp [List.lookup_cons]
theorem fld_rs {ws : List Str} {rs : List Rp} {Q : D → Prop} : fldD "own_ropes" ["Web"] (webE ws rs) Q = Q (rps rs) := by
  unfold fldD webE webF insOf; simp [List.lookup_cons, be_wr]
theorem fld_dir {ws : List Str} {rs : List Rp} {Q : D → Prop} : fldD "direct" ["Web"] (webE ws rs) Q = Q (tabE ws (dl rs)) := by
  unfold fldD webE webF insOf; simp [List.lookup_cons, be_dw, be_dr]
theorem fld_rch {ws : List Str} {rs : List Rp} {Q : D → Prop} : fldD "reaches" ["Web"] (webE ws rs) Q = Q (tabE ws (rch ws rs)) := by
  unfold fldD webE webF insOf; simp [List.lookup_cons, be_ew, be_er, be_ed]
theorem nw_d : ¬ (("own_walkers" : Str) = ("direct" : Str)) := by decide +kernel
theorem nr_d : ¬ (("own_ropes" : Str) = ("direct" : Str)) := by decide +kernel
theorem nw_e : ¬ (("own_walkers" : Str) = ("reaches" : Str)) := by decide +kernel
theorem nr_e : ¬ (("own_ropes" : Str) = ("reaches" : Str)) := by decide +kernel
theorem nd_e : ¬ (("direct" : Str) = ("reaches" : Str)) := by decide +kernel
theorem put_ws {d : D} : putFD "own_walkers" d [] = [(("own_walkers" : Str), d)] := by simp [putFD]
theorem put_rs {d a : D} : putFD "own_ropes" d [(("own_walkers" : Str), a)] = [(("own_walkers" : Str), a), (("own_ropes" : Str), d)] := by simp [putFD]; decide +kernel
theorem put_dir {d a b : D} : putFD "direct" d [(("own_walkers" : Str), a), (("own_ropes" : Str), b)] = [(("own_walkers" : Str), a), (("own_ropes" : Str), b), (("direct" : Str), d)] := by simp [putFD, nw_d, nr_d]
theorem put_rch {d a b c : D} : putFD "reaches" d [(("own_walkers" : Str), a), (("own_ropes" : Str), b), (("direct" : Str), c)] = [(("own_walkers" : Str), a), (("own_ropes" : Str), b), (("direct" : Str), c), (("reaches" : Str), d)] := by simp [putFD, nw_e, nr_e, nd_e]
theorem init_self {y : Addr} {a b c : D} {R : D → Prop} : fldD "direct" ["Web"] (.self y "Web" [("own_walkers", a), ("own_ropes", b), ("direct", c)]) R = R c := by
  unfold fldD insOf
  simp [List.lookup_cons, be_dw, be_dr]
def initE (w r : D) (o : Option (Str × Nat)) (Q : List (Str × D) → Prop) (Ed : Str → List (Str × D) → Prop) : Prop := match o with
  | some p => Ed "NoWeb" [("word", .str p.1), ("at", .int (p.2 : Int))]
  | none => ∀ ws rs, w = dps ws → r = rps rs → WebOk ws rs → Q (webF ws rs)
def sx_Web___init__ : SpIX := fun ds Q Ed => ∃ w r o, ds = [w, r] ∧ isDat w = true ∧ isDat r = true ∧ lenD1 w ∧ lenD1 r ∧ (∀ ws : List Str, w = dps ws → ∀ x ∈ ws, x.length ≤ 100000) ∧ Due w r o ∧ initE w r o Q Ed
def sd_Web___init__ : SpI := fun ds Q => sx_Web___init__ ds Q noX
theorem lenx_Web___init__ (ds : List D) (Q : List (Str × D) → Prop) (Ed : Str → List (Str × D) → Prop) (h : sx_Web___init__ ds Q Ed) : ds.length + 1 = 3 := by obtain ⟨_, _, _, rfl, _⟩ := h; rfl
abbrev N_Web___init__ : List Str := ["self", "walkers", "ropes"]
theorem sc_Web___init__ : FnScope N_Web___init__ ["self", "walkers", "ropes"] (defScope st_Web___init__) := ⟨rfl, rfl, rfl, by decide +kernel, rfl, by decide +kernel, by decide +kernel⟩
def tx_Web___init__ (ex : ExD) : TDS :=
  dSeq (dDrop (dCallX ex sx_check_web (dCons (dVar 1) (dCons (dVar 2) (dNil)))))
  (dSeq (dFldSet 0 "own_walkers" ["Web"] (dVar 1))
  (dSeq (dFldSet 0 "own_ropes" ["Web"] (dVar 2))
  (dSeq (dFldSet 0 "direct" ["Web"] (dCall sd_direct_lengths (dCons (dVar 1) (dCons (dVar 2) (dNil)))))
  (dFldSet 0 "reaches" ["Web"] (dCall sd_reaches_of (dCons (dVar 1) (dCons (dB1 (fldD "direct" ["Web"]) (.sl 0)) (dNil))))))))
theorem purex_Web___init__ (y : Addr) (ds : List D) (Q : List (Str × D) → Prop) (Ed : Str → List (Str × D) → Prop) (h : sx_Web___init__ ds Q Ed) : tx_Web___init__ (fun _ C fs => Ed C fs) { nx := fun δ => ∃ fs, δ[0]? = some (.ow (.self y "Web" fs)) ∧ Q fs, rt := fun _ _ => False } (startI 3 y "Web" ds) := by
  obtain ⟨w, r, o, rfl, hw, hr, lw, lr, hx, hd, q⟩ := h
  unfold tx_Web___init__
  walk_at "wx"
  refine ⟨w, r, o, rfl, hw, hr, lw, lr, hx, hd, ?_⟩
  cases ho : o with
  | some p => rw [ho] at q; exact q
  | none =>
    rw [ho] at q hd
    obtain ⟨ws, rs, rfl, rfl⟩ : ∃ ws rs, w = dps ws ∧ r = rps rs := by
      cases hf : formB w r with
      | true => exact form_yes hf
      | false => cases hd; exact ⟨_, _, rfl, rfl⟩
    have W : WebOk ws rs := by
      rcases hd.inv with ⟨_, e⟩ | ⟨h1, h2, ⟨_, _, _, _, _, e⟩ | ⟨g, ⟨_, _, _, _, _, e⟩ | ⟨a, _⟩⟩⟩
      · cases e
      · cases e
      · cases e
      · exact due_ok h1 h2 g a (by have := lr _ rfl; rwa [List.length_map] at this)
    have q := q ws rs rfl rfl W
    show _
    unfold dueE
    walk_at "wx"
    simp only [put_ws, put_rs, put_dir]
    refine ⟨by simp, ws, rs, rfl, W, by simp, ?_⟩
    simp only [put_dir, init_self]
    refine ⟨ws, rs, rfl, W, by simp, _, rfl, ?_⟩
    rw [put_rch]
    exact q

local macro_rules | `(tactic| walk_at "wb") => `(tactic| try simp only [↓s_next, ↓s_seq, ↓s_sto, ↓s_drop, ↓s_ret, ↓s_if, ↓s_never, ↓s_asg, ↓s_asgO, ↓s_pars, ↓s_great, ↓g_name, ↓g_nil, ↓g_cons, ↓g_seqT, ↓g_seqL, ↓g_box, ↓for_eq, ↓lc_eq, ↓dc_eq, ↓i_seq, ↓i_enum, ↓i_range1,
  ↓vi0, ↓vo0, ↓ri0, ↓ro0, ↓ol0, ↓as0, ↓vi1, ↓vo1, ↓ri1, ↓ro1, ↓ol1, ↓as1, ↓vi2, ↓vo2, ↓ri2, ↓ro2, ↓ol2, ↓as2, ↓vi3, ↓vo3, ↓ri3, ↓ro3, ↓ol3, ↓as3, ↓vi4, ↓vo4, ↓ri4, ↓ro4, ↓ol4, ↓as4, ↓vi5, ↓vo5, ↓ri5, ↓ro5, ↓ol5, ↓as5, ↓vi6, ↓vo6, ↓ri6, ↓ro6, ↓ol6, ↓as6, ↓vi7, ↓vo7, ↓ri7, ↓ro7, ↓ol7, ↓as7, ↓vi8, ↓vo8, ↓ri8, ↓ro8, ↓ol8, ↓as8, ↓vi9, ↓vo9, ↓ri9, ↓ro9, ↓ol9, ↓as9, ↓vi10, ↓vo10, ↓ri10, ↓ro10, ↓ol10, ↓as10, ↓vi11, ↓vo11, ↓ri11, ↓ro11, ↓ol11, ↓as11, ↓vi12, ↓vo12, ↓ri12, ↓ro12, ↓ol12, ↓as12, ↓vi13, ↓vo13, ↓ri13, ↓ro13, ↓ol13, ↓as13, ↓vi14, ↓vo14, ↓ri14, ↓ro14, ↓ol14, ↓as14, ↓vi15, ↓vo15, ↓ri15, ↓ro15, ↓ol15, ↓as15, ↓vi16, ↓vo16, ↓ri16, ↓ro16, ↓ol16, ↓as16, ↓vi17, ↓vo17, ↓ri17, ↓ro17, ↓ol17, ↓as17, ↓vi18, ↓vo18, ↓ri18, ↓ro18, ↓ol18, ↓as18, ↓vi19, ↓vo19, ↓ri19, ↓ro19, ↓ol19, ↓as19, ↓vi20, ↓vo20, ↓ri20, ↓ro20, ↓ol20, ↓as20, ↓vi21, ↓vo21, ↓ri21, ↓ro21, ↓ol21, ↓as21, ↓vi22, ↓vo22, ↓ri22, ↓ro22, ↓ol22, ↓as22, ↓vi23, ↓vo23, ↓ri23, ↓ro23, ↓ol23, ↓as23, ↓vi24, ↓vo24, ↓ri24, ↓ro24, ↓ol24, ↓as24, ↓vi25, ↓vo25, ↓ri25, ↓ro25, ↓ol25, ↓as25, ↓at_s1, ↓at_s0, ↓at_w1, ↓at_w0, ↓mt_b, ↓mt_l, ↓mt_t, ↓mt_i,
  ↓e_c, ↓e_nil, ↓e_cons, ↓e_tup, ↓e_lst, ↓e_two1, ↓e_two2, ↓e_two3, ↓e_two4, ↓e_bin, ↓e_tbin, ↓e_chain, ↓e_and, ↓e_or, ↓e_not, ↓e_tru1, ↓e_tru2, ↓e_andV, ↓e_orV, ↓e_notV, ↓e_if, ↓e_call, ↓e_p0, ↓e_p1, ↓e_one1, ↓e_one2, ↓e_b1, ↓e_b2, ↓e_tb2, ↓e_sl1, ↓e_sl2, ↓e_append, ↓e_extend, ↓e_popAt, ↓e_yes, ↓e_join, ↓in_strL, ↓in_strT, ↓x_mulS, ↓e_new, ↓e_newV, ↓e_meth, ↓e_prop, ↓e_stat, ↓e_statI, ↓e_clsM, ↓e_evN, ↓e_evI, ↓e_evO, ↓e_boxNew,
  z0, z1, z2, h0, h1, h2, ↓bx0, ↓rgI, ↓sqL, ↓sqT, ↓sqR, ↓enL, ↓enT, ↓lsL, wipeD, e_var, v0, v1, r0, r1, o0, m0, at0, setD, startD, startI, dFldSet,
  List.map_cons, List.map_nil, List.replicate, List.cons_append, List.nil_append, List.length_cons, List.length_nil, List.getElem?_cons_zero, List.getElem?_cons_succ, List.getElem?_nil, List.set_cons_zero, List.set_cons_succ, List.set_nil, Nat.reduceAdd, Nat.reduceSub, Nat.sub_zero, Nat.sub_self, Nat.zero_add, Nat.add_zero,
  true_and, and_true, if_true, if_false, Bool.false_eq_true, Bool.not_true, Bool.not_false, Bool.not_eq_true, decide_true, decide_false, Bool.true_eq_false, reduceCtorEq, ite_true, ite_false, List.mem_cons, List.not_mem_nil, or_false, beq_self_eq_true, Nat.reduceLT, Nat.reduceLeDiff, Int.reduceLT, Int.reduceLE, Int.reduceAdd, Int.reduceSub, Int.reduceMul, Int.reducePow, Int.reduceToNat, Int.reduceEq, Int.reduceNeg, Int.reduceMod, Int.reduceDiv, Nat.reduceEqDiff, and_self, Bool.not_not,
  ↓x_bl, x_truB, x_truL, x_truT, x_truI, ↓x_eqI, ↓x_eqS, ↓x_eqB, ↓x_neI, ↓x_neS, ↓x_neB, ↓x_addI, ↓x_addL, ↓x_addT, ↓x_addS, ↓x_subI, ↓x_mulI, ↓x_modI, ↓x_fdivI, ↓x_powI, ↓x_lt, ↓x_le, ↓x_gt, ↓x_ge, ↓x_ltP, ↓x_leP, ↓x_gtP, ↓x_geP, ↓x_lenL, ↓x_lenT, ↓x_lenS, ↓x_tupL, ↓x_tupT, ↓x_lisL, ↓x_lisT, ↓x_rev, ↓x_intI, ↓x_intB, ↓x_abs, ↓x_min, ↓x_max, ↓x_is, ↓x_isNot, x_isN0, x_isN1, x_isN2, x_isN3, x_isN4, ↓x_nil, ↓x_nnil, ↓x_ix0, ↓x_ix1, ↓x_ix2, ↓x_ix3, ↓x_ix4, ↓x_ix5, ↓x_ix6, ↓x_ix7, ↓x_it0, ↓x_it1, ↓x_it2, ↓x_ixB, x_kn, x_ks, x_kt, ↓x_slL, ↓x_slT, ↓x_slS, ↓x_slR,
  ↓s_aug, ↓g_put, ↓g_item, ↓e_callB, ↓e_disp, ↓e_ps0, ↓e_ps1, ↓i_str, ↓i_range2, ↓e_get2, ↓e_step, ↓x_step, ↓e_f1, ↓e_fstr, ↓e_fs0, ↓e_fs1, ↓e_fs2, ↓x_repr, ↓x_strI, ↓x_strS, ↓x_onStr, ↓x_onInt, ↓oa0, ↓od0, ↓oa1, ↓od1, ↓oa2, ↓od2, ↓oa3, ↓od3, ↓oa4, ↓od4, ↓oa5, ↓od5, ↓oa6, ↓od6, ↓oa7, ↓od7, ↓oa8, ↓od8, ↓oa9, ↓od9, ↓oa10, ↓od10, ↓oa11, ↓od11, ↓oa12, ↓od12, h3, h4, x_ko0, x_ko1, x_ko2, ↓x_ixK, ↓x_ixZ, ↓x_inK, ↓x_listK, ↓x_listZ, ↓x_listT, ↓x_isS, ↓x_isT, ↓x_inS, ↓least_at0, ↓least_at1, ↓least_at2, ↓ownNe_at, ↓ownEq_at, ↓ownA_at, ↓ownA_atI, ↓ownA_atR, ↓ownA_int, ↓ownNe_b, ↓ownEq_b, ↓ownA_lst, ins_lenE, ↓statI_least, ↓init_non, ↓init_int, len_fold0, len_fold1, ↓ownLt_at, ↓take_at, ↓mixed_at, ↓mixed_atT, ↓s_rows, ↓s_sto2, ↓x_dictC, ↓ew_tupS, ↓ew_star, ↓xw_seqT, ↓xw_seqL, ↓lc2_eq, ↓word_at, ↓w_isI, ↓w_isB, ↓ownEq_i, ↓ownGt_i])

def sd__law_web : SpD := fun ds Q => ∃ a m, ds = [.box a, .int m] ∧ 1 ≤ m ∧ m ≤ 6 ∧ ∀ ws rs, WebOk ws rs → (ws.length : Int) ≤ m → rs.length ≤ 36 → (∀ r ∈ rs, r.2.2 ≤ 100) → (∀ w ∈ ws, isNm w) → Q (.tup [dps ws, rps rs])
theorem len__law_web (ds : List D) (Q : D → Prop) (h : sd__law_web ds Q) : ds.length = 2 := by obtain ⟨_, _, rfl, _⟩ := h; rfl
abbrev N__law_web : List Str := ["_law_box_here", "_law_most", "_law_walkers", "_law_ropes", "_law_longest", "_law_turn", "_law_one", "_law_other"]
theorem sc__law_web : FnScope N__law_web ["_law_box_here", "_law_most"] (defScope st__law_web) := ⟨rfl, rfl, rfl, by decide +kernel, rfl, by decide +kernel, by decide +kernel⟩
def t__law_web : TDS :=
  dSeq (dAsg (dCall sd__law_names (dCons (dVar 0) (dCons (dBin addX (.ex (dC (.int 1))) (.ex (dCall sd__law_take (dCons (dVar 0) (dCons (dVar 1) (dNil)))))) (dNil)))) 2)
  (dSeq (dPars [.ow (dLst (dNil)), .im (dBin ixX (.ex (dLst (dCons (dC (.int 2)) (dCons (dC (.int 4)) (dCons (dC (.int 4)) (dCons (dC (.int 12)) (dCons (dC (.int 101)) (dNil)))))))) (.ex (dCall sd__law_take (dCons (dVar 0) (dCons (dC (.int 5)) (dNil))))))] [3, 4])
  (dSeq (dFor (iRange1 (dBin mulX (.ex (dCall sd__law_take (dCons (dVar 0) (dCons (dBin mulX (.ex (dC (.int 2))) (.ex (dB1 lenD (.sl 2)))) (dNil))))) (.ex (dB1 intD (.ex (dBin (gtD) (.ex (dB1 lenD (.sl 2))) (.ex (dC (.int 1))))))))) (dgName 5) (dSeq (dAsg (dCall sd__law_take (dCons (dVar 0) (dCons (dB1 lenD (.sl 2)) (dNil)))) 6)
  (dSeq (dAsg (dBin modD (.ex (dBin addX (.ex (dBin addX (.sl 6) (.ex (dC (.int 1))))) (.ex (dCall sd__law_take (dCons (dVar 0) (dCons (dBin subD (.ex (dB1 lenD (.sl 2))) (.ex (dC (.int 1)))) (dNil))))))) (.ex (dB1 lenD (.sl 2)))) 7)
  (dDrop (dAppend 3 (dTup (dCons (dBin ixX (.sl 2) (.sl 6)) (dCons (dBin ixX (.sl 2) (.sl 7)) (dCons (dCall sd__law_take (dCons (dVar 0) (dCons (dVar 4) (dNil)))) (dNil))))))))))
  (dRet (dTup (dCons (dB1 tupleD (.sl 2)) (dCons (dB1 tupleD (.sl 3)) (dNil)))))))
theorem pure__law_web (ds : List D) (Q : D → Prop) (h : sd__law_web ds Q) : t__law_web (ends Q) (startD 8 ds) := by
  obtain ⟨x, m, rfl, h1, h2, q⟩ := h
  unfold t__law_web
  walk_at "wb"
  refine ⟨by omega, by omega, fun n n0 n1 => ?_⟩
  rw [names_at]
  refine ⟨by omega, by omega, fun ws hl nd hw => ?_⟩
  walk_at "wb"
  have hlen : 1 ≤ ws.length ∧ ws.length ≤ 6 := by omega
  intro k k0 k1
  obtain ⟨lg, hlg, hix⟩ : ∃ lg : Int, (1 ≤ lg ∧ lg ≤ 101) ∧ ∀ R : D → Prop, R (.int lg) → ixX (.lst [.int 2, .int 4, .int 4, .int 12, .int 101]) (.int k) R := by
    have : k = 0 ∨ k = 1 ∨ k = 2 ∨ k = 3 ∨ k = 4 := by omega
    rcases this with rfl | rfl | rfl | rfl | rfl
    · exact ⟨2, by omega, fun R r => x_ix0 ▸ r⟩
    · exact ⟨4, by omega, fun R r => x_ix1 ▸ r⟩
    · exact ⟨4, by omega, fun R r => x_ix2 ▸ r⟩
    · exact ⟨12, by omega, fun R r => x_ix3 ▸ r⟩
    · exact ⟨101, by omega, fun R r => x_ix4 ▸ r⟩
  refine hix _ ?_
  walk_at "wb"
  rw [List.length_map]
  refine ⟨cm1 (by decide), by omega, by omega, fun t t0 t1 => ?_⟩
  have hcm : CMul t (if decide ((1 : Int) < (ws.length : Int)) = true then 1 else 0) := cm1 (by omega)
  refine ⟨hcm, ?_⟩
  generalize hT : t * (if decide ((1 : Int) < (ws.length : Int)) = true then 1 else 0) = T
  have hT1 : T ≤ 12 ∧ 0 ≤ T ∧ (0 < T → 2 ≤ ws.length) := by
    rw [← hT]
    by_cases h : (1 : Int) < (ws.length : Int)
    · rw [if_pos (decide_eq_true h)]; omega
    · rw [if_neg (by simpa using h)]; omega
  refine ⟨by omega, ?_⟩
  refine for_go (fun (i : Nat) (δ : DSt) => ∃ rs c5 c6 c7, (rs.length = i ∧ (∀ r ∈ rs, RpOk ws r ∧ r.2.2 ≤ 100)) ∧ δ = [.im (.box x), .im (.int m), .im (.lst (ws.map D.str)), .ow (.lst (rs.map rpD)), .im (.int lg), c5, c6, c7]) ⟨[], _, _, _, ⟨rfl, fun _ h => nomatch h⟩, rfl⟩ ?_ ?_
  · rintro i d δ' hd ⟨rs, c5, c6, c7, ⟨hi, hr⟩, rfl⟩
    obtain ⟨hlt, rfl⟩ := rng_get hd
    have h2 : 2 ≤ ws.length := hT1.2.2 (by omega)
    walk_at "wb"
    rw [List.length_map]
    refine ⟨by omega, by omega, fun a a0 a1 => ?_⟩
    walk_at "wb"
    rw [List.length_map]
    refine ⟨by omega, by omega, fun b b0 b1 => ?_⟩
    refine ⟨by omega, ?_⟩
    walk_at "wb"
    have hp : 0 < (ws.length : Int) := by omega
    have c0 := Int.emod_nonneg (a + 1 + b) (show (ws.length : Int) ≠ 0 by omega)
    have c1 := Int.emod_lt_of_pos (a + 1 + b) hp
    have hne : (a + 1 + b) % (ws.length : Int) ≠ a := by
      intro z
      by_cases hh : a + 1 + b < (ws.length : Int)
      · rw [Int.emod_eq_of_lt (by omega) hh] at z; omega
      · rw [← Int.sub_emod_right, Int.emod_eq_of_lt (by omega) (by omega)] at z; omega
    obtain ⟨na, rfl⟩ := Int.eq_ofNat_of_zero_le a0
    generalize hbz : (((na : Nat) : Int) + 1 + b) % (ws.length : Int) = bz at c0 c1 hne
    obtain ⟨nb, rfl⟩ := Int.eq_ofNat_of_zero_le c0
    have ga : (ws.map D.str)[na]? = some (.str (ws[na]'(by omega))) := by rw [List.getElem?_map, List.getElem?_eq_getElem (by omega)]; rfl
    have gb : (ws.map D.str)[nb]? = some (.str (ws[nb]'(by omega))) := by rw [List.getElem?_map, List.getElem?_eq_getElem (by omega)]; rfl
    rw [ixL_eq, atI_nat ga]
    show ixX _ _ _
    rw [ixL_eq, atI_nat gb]
    walk_at "wb"
    refine ⟨by omega, by omega, fun l l0 l1 => ?_⟩
    refine ⟨line_of (by omega), rs ++ [(ws[na]'(by omega), ws[nb]'(by omega), l)], _, _, _, ⟨by rw [List.length_append, hi]; rfl, fun r hh => ?_⟩, by rw [List.map_append]; rfl⟩
    rcases List.mem_append.mp hh with hh | hh
    · exact hr r hh
    · rw [List.mem_singleton.mp hh]
      refine ⟨⟨List.getElem_mem _, List.getElem_mem _, fun z => ?_, l0⟩, by show l ≤ 100; omega⟩
      have := (List.getElem_inj (h₀ := by omega) (h₁ := by omega) nd).mp z
      omega
  · rintro δ' ⟨rs, c5, c6, c7, ⟨hi, hr⟩, rfl⟩
    rw [rngD_len] at hi
    walk_at "wb"
    exact q ws rs ⟨nd, by omega, by omega, fun w h => (hw w h).1, fun r h => (hr r h).1, by omega⟩ (by omega) (by omega) (fun r h => (hr r h).2) hw

local macro_rules | `(tactic| walk_at "wx") => `(tactic| try simp only [↓s_next, ↓s_seq, ↓s_sto, ↓s_drop, ↓s_ret, ↓s_if, ↓s_never, ↓s_asg, ↓s_asgO, ↓s_pars, ↓s_great, ↓g_name, ↓g_nil, ↓g_cons, ↓g_seqT, ↓g_seqL, ↓g_box, ↓for_eq, ↓lc_eq, ↓dc_eq, ↓i_seq, ↓i_enum, ↓i_range1,
  ↓vi0, ↓vo0, ↓ri0, ↓ro0, ↓ol0, ↓as0, ↓vi1, ↓vo1, ↓ri1, ↓ro1, ↓ol1, ↓as1, ↓vi2, ↓vo2, ↓ri2, ↓ro2, ↓ol2, ↓as2, ↓vi3, ↓vo3, ↓ri3, ↓ro3, ↓ol3, ↓as3, ↓vi4, ↓vo4, ↓ri4, ↓ro4, ↓ol4, ↓as4, ↓vi5, ↓vo5, ↓ri5, ↓ro5, ↓ol5, ↓as5, ↓vi6, ↓vo6, ↓ri6, ↓ro6, ↓ol6, ↓as6, ↓vi7, ↓vo7, ↓ri7, ↓ro7, ↓ol7, ↓as7, ↓vi8, ↓vo8, ↓ri8, ↓ro8, ↓ol8, ↓as8, ↓vi9, ↓vo9, ↓ri9, ↓ro9, ↓ol9, ↓as9, ↓vi10, ↓vo10, ↓ri10, ↓ro10, ↓ol10, ↓as10, ↓vi11, ↓vo11, ↓ri11, ↓ro11, ↓ol11, ↓as11, ↓vi12, ↓vo12, ↓ri12, ↓ro12, ↓ol12, ↓as12, ↓vi13, ↓vo13, ↓ri13, ↓ro13, ↓ol13, ↓as13, ↓vi14, ↓vo14, ↓ri14, ↓ro14, ↓ol14, ↓as14, ↓vi15, ↓vo15, ↓ri15, ↓ro15, ↓ol15, ↓as15, ↓vi16, ↓vo16, ↓ri16, ↓ro16, ↓ol16, ↓as16, ↓vi17, ↓vo17, ↓ri17, ↓ro17, ↓ol17, ↓as17, ↓vi18, ↓vo18, ↓ri18, ↓ro18, ↓ol18, ↓as18, ↓vi19, ↓vo19, ↓ri19, ↓ro19, ↓ol19, ↓as19, ↓vi20, ↓vo20, ↓ri20, ↓ro20, ↓ol20, ↓as20, ↓vi21, ↓vo21, ↓ri21, ↓ro21, ↓ol21, ↓as21, ↓vi22, ↓vo22, ↓ri22, ↓ro22, ↓ol22, ↓as22, ↓vi23, ↓vo23, ↓ri23, ↓ro23, ↓ol23, ↓as23, ↓vi24, ↓vo24, ↓ri24, ↓ro24, ↓ol24, ↓as24, ↓vi25, ↓vo25, ↓ri25, ↓ro25, ↓ol25, ↓as25, ↓at_s1, ↓at_s0, ↓at_w1, ↓at_w0, ↓mt_b, ↓mt_l, ↓mt_t, ↓mt_i,
  ↓e_c, ↓e_nil, ↓e_cons, ↓e_tup, ↓e_lst, ↓e_two1, ↓e_two2, ↓e_two3, ↓e_two4, ↓e_bin, ↓e_tbin, ↓e_chain, ↓e_and, ↓e_or, ↓e_not, ↓e_tru1, ↓e_tru2, ↓e_andV, ↓e_orV, ↓e_notV, ↓e_if, ↓e_call, ↓e_p0, ↓e_p1, ↓e_one1, ↓e_one2, ↓e_b1, ↓e_b2, ↓e_tb2, ↓e_sl1, ↓e_sl2, ↓e_append, ↓e_extend, ↓e_popAt, ↓e_yes, ↓e_join, ↓in_strL, ↓in_strT, ↓x_mulS, ↓e_new, ↓e_newV, ↓e_meth, ↓e_prop, ↓e_stat, ↓e_statI, ↓e_clsM, ↓e_evN, ↓e_evI, ↓e_evO, ↓e_boxNew,
  z0, z1, z2, h0, h1, h2, ↓bx0, ↓rgI, ↓sqL, ↓sqT, ↓sqR, ↓enL, ↓enT, ↓lsL, wipeD, e_var, v0, v1, r0, r1, o0, m0, at0, setD, startD, startI, dFldSet,
  List.map_cons, List.map_nil, List.replicate, List.cons_append, List.nil_append, List.length_cons, List.length_nil, List.getElem?_cons_zero, List.getElem?_cons_succ, List.getElem?_nil, List.set_cons_zero, List.set_cons_succ, List.set_nil, Nat.reduceAdd, Nat.reduceSub, Nat.sub_zero, Nat.sub_self, Nat.zero_add, Nat.add_zero,
  true_and, and_true, if_true, if_false, Bool.false_eq_true, Bool.not_true, Bool.not_false, Bool.not_eq_true, decide_true, decide_false, Bool.true_eq_false, reduceCtorEq, ite_true, ite_false, List.mem_cons, List.not_mem_nil, or_false, beq_self_eq_true, Nat.reduceLT, Nat.reduceLeDiff, Int.reduceLT, Int.reduceLE, Int.reduceAdd, Int.reduceSub, Int.reduceMul, Int.reducePow, Int.reduceToNat, Int.reduceEq, Int.reduceNeg, Int.reduceMod, Int.reduceDiv, Nat.reduceEqDiff, and_self, Bool.not_not,
  ↓x_bl, x_truB, x_truL, x_truT, x_truI, ↓x_eqI, ↓x_eqS, ↓x_eqB, ↓x_neI, ↓x_neS, ↓x_neB, ↓x_addI, ↓x_addL, ↓x_addT, ↓x_addS, ↓x_subI, ↓x_mulI, ↓x_modI, ↓x_fdivI, ↓x_powI, ↓x_lt, ↓x_le, ↓x_gt, ↓x_ge, ↓x_ltP, ↓x_leP, ↓x_gtP, ↓x_geP, ↓x_lenL, ↓x_lenT, ↓x_lenS, ↓x_tupL, ↓x_tupT, ↓x_lisL, ↓x_lisT, ↓x_rev, ↓x_intI, ↓x_intB, ↓x_abs, ↓x_min, ↓x_max, ↓x_is, ↓x_isNot, x_isN0, x_isN1, x_isN2, x_isN3, x_isN4, ↓x_nil, ↓x_nnil, ↓x_ix0, ↓x_ix1, ↓x_ix2, ↓x_ix3, ↓x_ix4, ↓x_ix5, ↓x_ix6, ↓x_ix7, ↓x_it0, ↓x_it1, ↓x_it2, ↓x_ixB, x_kn, x_ks, x_kt, ↓x_slL, ↓x_slT, ↓x_slS, ↓x_slR,
  ↓s_aug, ↓g_put, ↓g_item, ↓e_callB, ↓e_disp, ↓e_ps0, ↓e_ps1, ↓i_str, ↓i_range2, ↓e_get2, ↓e_step, ↓x_step, ↓e_f1, ↓e_fstr, ↓e_fs0, ↓e_fs1, ↓e_fs2, ↓x_repr, ↓x_strI, ↓x_strS, ↓x_onStr, ↓x_onInt, ↓oa0, ↓od0, ↓oa1, ↓od1, ↓oa2, ↓od2, ↓oa3, ↓od3, ↓oa4, ↓od4, ↓oa5, ↓od5, ↓oa6, ↓od6, ↓oa7, ↓od7, ↓oa8, ↓od8, ↓oa9, ↓od9, ↓oa10, ↓od10, ↓oa11, ↓od11, ↓oa12, ↓od12, h3, h4, x_ko0, x_ko1, x_ko2, ↓x_ixK, ↓x_ixZ, ↓x_inK, ↓x_listK, ↓x_listZ, ↓x_listT, ↓x_isS, ↓x_isT, ↓x_inS, ↓least_at0, ↓least_at1, ↓least_at2, ↓ownNe_at, ↓ownEq_at, ↓ownA_at, ↓ownA_atI, ↓ownA_atR, ↓ownA_int, ↓ownNe_b, ↓ownEq_b, ↓ownA_lst, ins_lenE, ↓statI_least, ↓init_non, ↓init_int, len_fold0, len_fold1, ↓ownLt_at, ↓take_at, ↓mixed_at, ↓mixed_atT, ↓s_rows, ↓s_sto2, ↓x_dictC, ↓ew_tupS, ↓ew_star, ↓xw_seqT, ↓xw_seqL, ↓lc2_eq, ↓word_at, ↓w_isI, ↓w_isB, ↓ownEq_i, ↓ownGt_i, ↓fld_ws, ↓fld_rs, ↓fld_dir, ↓fld_rch, ins_web, ↓e_callX, ↓e_methX, ↓s_raise, ↓e_xf, ↓e_isE, ↓s_tryA, List.zip_cons_cons, List.zip_nil_left, List.zip_nil_right, eq_self])

/-! ### values: how deep, how long, how much they show -/
inductive Nice (m : Nat) : Nat → D → Prop
  | str {n : Nat} {s : Str} : s.length ≤ m → sOk s → Nice m n (.str s)
  | int {n : Nat} {i : Int} : i.natAbs.log2 < 1920 → Nice m n (.int i)
  | bl {n : Nat} {b : Bool} : Nice m n (.bl b)
  | non {n : Nat} : Nice m n .non
  | tup {n : Nat} {l : List D} : l.length ≤ m → (∀ d ∈ l, Nice m n d) → Nice m (n + 1) (.tup l)
theorem Nice.mono {m n : Nat} {v : D} (h : Nice m n v) : ∀ {m' n' : Nat}, m ≤ m' → n ≤ n' → Nice m' n' v := by
  induction h with
  | str h1 h2 => exact fun hm hn => .str (Nat.le_trans h1 hm) h2
  | int h => exact fun hm hn => .int h
  | bl => exact fun hm hn => .bl
  | non => exact fun hm hn => .non
  | @tup n l h1 h2 ih =>
    intro m' n' hm hn
    obtain ⟨k, rfl⟩ : ∃ k, n' = k + 1 := ⟨n' - 1, by omega⟩
    exact .tup (Nat.le_trans h1 hm) fun d hd => ih d hd hm (by omega)
mutual
def wz : D → Nat
  | .str s => 10 * s.length + 2
  | .tup l => wzL l + 3
  | _ => 1921
def wzL : List D → Nat
  | [] => 0
  | d :: r => wz d + 2 + wzL r
end
theorem wzL_app : ∀ a b : List D, wzL (a ++ b) = wzL a + wzL b
  | [], b => by simp [wzL]
  | x :: a, b => by
    rw [List.cons_append, wzL, wzL, wzL_app a b]; omega
theorem wzL_mem : ∀ {l : List D} {d : D}, d ∈ l → wz d + 2 ≤ wzL l
  | x :: l, d, h => by
    rw [wzL]
    rcases List.mem_cons.mp h with rfl | h
    · omega
    · have := wzL_mem h; omega
theorem wzL_cut (l : List D) (i : Nat) : wzL (l.take i) + wzL (l.drop i) = wzL l := by rw [← wzL_app, List.take_append_drop]
theorem wzL_get {l : List D} {i : Nat} {d : D} (h : l[i]? = some d) : wzL (l.take i) + (wz d + 2) + wzL (l.drop (i + 1)) = wzL l := by
  have hi := lt_of_get h
  have e : l.drop i = d :: l.drop (i + 1) := by
    rw [List.drop_eq_getElem_cons hi]
    rw [List.getElem?_eq_getElem hi] at h
    rw [Option.some.inj h]
  have := wzL_cut l i
  rw [e, wzL] at this
  omega
theorem wzL_set {l : List D} {i : Nat} {d x : D} (h : l[i]? = some d) : wzL (l.set i x) + (wz d + 2) = wzL l + (wz x + 2) := by
  have hi := lt_of_get h
  have h2 : (l.set i x)[i]? = some x := by rw [List.getElem?_set_self hi]
  have e1 := wzL_get h
  have e2 := wzL_get h2
  rw [List.take_set_of_le (Nat.le_refl _), List.drop_set_of_lt (by omega)] at e2
  omega
theorem sh_tupS {n : Nat} : ∀ {l : List D}, (∀ d ∈ l, Sh n (wz d) d) → Sh (n + 1) (wzL l + 3) (.tup l) := fun {l} h => by
  have e1 : py (.tup l) = .tuple (l.map py) := by rw [py, pyL_map]
  obtain ⟨L, hL⟩ : ∃ L, ∀ d ∈ l, wz d ≤ L := ⟨wzL l, fun d hd => by have := wzL_mem hd; omega⟩
  have base := sh_tup (l := l) (n := n) (L := L) fun d hd => (h d hd).mono (Nat.le_refl _) (hL d hd)
  refine ⟨base.dat, base.shw, base.nod, base.dep, ?_, base.ok⟩
  rw [e1, PyData.shown, shown_all]
  have h1 := tupleText_len_le ((l.map py).map PyData.shown)
  have h2 : (((l.map py).map PyData.shown).map (·.length)).sum + 2 * l.length ≤ wzL l := by
    clear h1 base hL e1
    induction l with
    | nil => simp [wzL]
    | cons d r ih =>
      have i1 := (h d List.mem_cons_self).len
      have i2 := ih fun x hx => h x (List.mem_cons_of_mem _ hx)
      simp only [List.map_cons, List.sum_cons, List.length_cons, wzL]
      omega
  simp only [List.length_map] at h1
  omega
theorem Nice.sh {m n : Nat} {v : D} (h : Nice m n v) : Sh n (wz v) v := by
  induction h with
  | str h1 h2 => exact sh_str h2
  | int h => exact sh_atom (d := .int _) h
  | bl => exact sh_atom (d := .bl _) trivial
  | non => exact sh_atom (d := .non) trivial
  | tup h1 h2 ih => exact sh_tupS ih
theorem Nice.dat {m n : Nat} {v : D} (h : Nice m n v) : isDat v = true := h.sh.dat
theorem Nice.items {m n : Nat} {l : List D} (h : Nice m n (.tup l)) : l.length ≤ m ∧ 1 ≤ n ∧ ∀ d ∈ l, Nice m (n - 1) d := by
  cases h with
  | tup h1 h2 => exact ⟨h1, by omega, fun d hd => by rw [Nat.add_sub_cancel]; exact h2 d hd⟩
theorem Nice.tupN {m n : Nat} {l : List D} (hn : 1 ≤ n) (h1 : l.length ≤ m) (h2 : ∀ d ∈ l, Nice m (n - 1) d) : Nice m n (.tup l) := by
  obtain ⟨k, rfl⟩ : ∃ k, n = k + 1 := ⟨n - 1, by omega⟩
  exact .tup h1 h2
theorem Nice.lens {m n : Nat} {v : D} (h : Nice m n v) (hm : m ≤ 900) : lenD1 v := fun l e => by
  subst e
  have := h.items.1
  omega
theorem Nice.texts {m n : Nat} {v : D} (h : Nice m n v) (hm : m ≤ 900) : ∀ ws : List Str, v = dps ws → ∀ x ∈ ws, x.length ≤ 100000 := fun ws e x hx => by
  subst e
  have := h.items.2.2 (.str x) (List.mem_map.mpr ⟨x, hx, rfl⟩)
  generalize n - 1 = k at this
  cases this with
  | str h1 _ => omega
theorem take_drop_all {l : List D} {P : D → Prop} (h : ∀ d ∈ l, P d) (i j : Nat) : (∀ d ∈ l.take i, P d) ∧ ∀ d ∈ l.drop j, P d := ⟨fun d hd => h d (List.mem_of_mem_take hd), fun d hd => h d (List.mem_of_mem_drop hd)⟩
theorem ix_dat {l : List D} {i : Nat} {d : D} {Q : D → Prop} (h : l[i]? = some d) (q : Q d) : ixX (.lst l) (.int (i : Int)) Q := by
  rw [ixL_eq, atI_nat h]; exact q
theorem ix_datT {l : List D} {i : Nat} {d : D} {Q : D → Prop} (h : l[i]? = some d) (q : Q d) : ixX (.tup l) (.int (i : Int)) Q := by
  rw [ixT_eq, atI_nat h]; exact q
theorem ix_any {l : List D} {i : Int} {Q : D → Prop} (h0 : 0 ≤ i) (h1 : i < (l.length : Int)) (q : ∀ d ∈ l, Q d) : ixX (.lst l) (.int i) Q := by
  obtain ⟨n, rfl⟩ := Int.eq_ofNat_of_zero_le h0
  have hn : n < l.length := by omega
  exact ix_dat (List.getElem?_eq_getElem hn) (q _ (List.getElem_mem hn))
def sd__law_is_rope : SpD := fun ds Q => ∃ v, ds = [v] ∧ isDat v = true ∧ Q (.bl (ropeOk v))
theorem len__law_is_rope (ds : List D) (Q : D → Prop) (h : sd__law_is_rope ds Q) : ds.length = 1 := by obtain ⟨_, rfl, _⟩ := h; rfl
abbrev N__law_is_rope : List Str := ["_law_rope", "_law_end"]
theorem sc__law_is_rope : FnScope N__law_is_rope ["_law_rope"] (defScope st__law_is_rope) := ⟨rfl, rfl, rfl, by decide +kernel, rfl, by decide +kernel, by decide +kernel⟩
def t__law_is_rope : TDS :=
  dSeq (dIfS (dOr (dNot (dTru (.ex (dB2 isiX (dVar 0) (dC (.ty "tuple")))))) (dOr (dtBin (neX) (.ex (dB1 lenD (.sl 0))) (.ex (dC (.int 3)))) (dNot (dTru (.ex (dB1 (anyD true) (.ex (dLc (iSeq (dSl (.sl 0) (dP0) (dP1 (dC (.int 2))))) (dgName 1) (dYes) (dB2 isiX (dVar 1) (dC (.ty "str"))) [1])))))))) (dRet (dC (.bl false))) (dNext))
  (dRet (dAndV (dB2 isiX (dBin ixX (.sl 0) (.ex (dC (.int 2)))) (dC (.ty "int"))) (dNotV (dB2 isiX (dBin ixX (.sl 0) (.ex (dC (.int 2)))) (dC (.ty "bool"))))))
theorem pure__law_is_rope (ds : List D) (Q : D → Prop) (h : sd__law_is_rope ds Q) : t__law_is_rope (ends Q) (startD 2 ds) := by
  obtain ⟨v, rfl, hv, q⟩ := h
  unfold t__law_is_rope
  walk_at "wx"
  rw [isi_tup hv]
  walk_at "wx"
  cases v with
  | tup l =>
    refine if_f rfl ?_
    walk_at "wx"
    have hd : ∀ d ∈ l, isDat d = true := fun d hd => by
      rw [isDat, isDatL_iff] at hv
      exact hv d hd
    match l, hd, q with
    | [a, b, c], hd, q =>
      walk_at "wx"
      have ha := hd a (by simp)
      have hb := hd b (by simp)
      have hc := hd c (by simp)
      have e2 : cutL [a, b, c] none (some 2) = [a, b] := by rw [cut_to (by decide)]; rfl
      refine if_f (by decide) ?_
      rw [e2]
      refine lc_m [a, b] id (fun d => .bl (isStr d)) (by simp) (by simp) (fun d hdm K1 k1 => ?_) ?_
      · walk_at "wx"
        show isiX d (.ty "str") _
        rw [isi_str (hd d (by simp at hdm ⊢; rcases hdm with h | h <;> simp [h]))]
        exact k1
      walk_at "wx"
      rw [show ([D.bl (isStr a), D.bl (isStr b)]) = [a, b].map fun d => D.bl (isStr d) from rfl, all_at isStr [a, b]]
      have es : [a, b].all isStr = (isStr a && isStr b) := by simp
      have eq : ropeOk (.tup [a, b, c]) = ((isStr a && isStr b) && (isInt c && !isBl c)) := rfl
      rw [eq] at q
      rw [es]
      walk_at "wx"
      cases h1 : (isStr a && isStr b) with
      | false =>
        rw [h1, Bool.false_and] at q
        exact if_t rfl q
      | true =>
        rw [h1, Bool.true_and] at q
        refine if_f rfl ?_
        rw [isi_int hc, isi_bl hc]
        walk_at "wx"
        cases h2 : isInt c with
        | false =>
          rw [h2, Bool.false_and] at q
          exact if_f rfl q
        | true =>
          rw [h2, Bool.true_and] at q
          exact if_t rfl q
    | [], hd, q => exact q
    | [a], hd, q => exact q
    | [a, b], hd, q => exact q
    | a :: b :: c :: d :: r, hd, q =>
      walk_at "wx"
      refine if_t (by simp; omega) q
  | _ =>
    refine if_t rfl ?_
    exact q
def sd__law_has_form : SpD := fun ds Q => ∃ w r, ds = [w, r] ∧ isDat w = true ∧ isDat r = true ∧ lenD1 w ∧ lenD1 r ∧ Q (.bl (formB w r))
theorem len__law_has_form (ds : List D) (Q : D → Prop) (h : sd__law_has_form ds Q) : ds.length = 2 := by obtain ⟨_, _, rfl, _⟩ := h; rfl
abbrev N__law_has_form : List Str := ["_law_walkers", "_law_ropes", "_law_walker", "_law_rope"]
theorem sc__law_has_form : FnScope N__law_has_form ["_law_walkers", "_law_ropes"] (defScope st__law_has_form) := ⟨rfl, rfl, rfl, by decide +kernel, rfl, by decide +kernel, by decide +kernel⟩
def t__law_has_form : TDS :=
  dSeq (dIfS (dOr (dNot (dTru (.ex (dB2 isiX (dVar 0) (dC (.ty "tuple")))))) (dNot (dTru (.ex (dB2 isiX (dVar 1) (dC (.ty "tuple"))))))) (dRet (dC (.bl false))) (dNext))
  (dRet (dAndV (dB1 (anyD true) (.ex (dLc (iSeq (dVar 0)) (dgName 2) (dYes) (dB2 isiX (dVar 2) (dC (.ty "str"))) [2]))) (dB1 (anyD true) (.ex (dLc (iSeq (dVar 1)) (dgName 3) (dYes) (dCall sd__law_is_rope (dCons (dVar 3) (dNil))) [3])))))
theorem pure__law_has_form (ds : List D) (Q : D → Prop) (h : sd__law_has_form ds Q) : t__law_has_form (ends Q) (startD 4 ds) := by
  obtain ⟨w, r, rfl, hw, hr, lw, lr, q⟩ := h
  unfold t__law_has_form
  walk_at "wx"
  rw [isi_tup hw]
  walk_at "wx"
  cases h1 : isTup w with
  | false =>
    refine if_t rfl ?_
    have e : formB w r = false := by
      unfold formB
      cases w with
      | tup l => cases h1
      | _ => rfl
    rw [e] at q; exact q
  | true =>
    refine if_f rfl ?_
    rw [isi_tup hr]
    walk_at "wx"
    cases h2 : isTup r with
    | false =>
      refine if_t rfl ?_
      have e : formB w r = false := by unfold formB; rw [h2]; simp
      rw [e] at q; exact q
    | true =>
      refine if_f rfl ?_
      cases w with
      | tup l =>
        cases r with
        | tup k =>
          have dl : ∀ d ∈ l, isDat d = true := fun d hd => by rw [isDat, isDatL_iff] at hw; exact hw d hd
          have dk : ∀ d ∈ k, isDat d = true := fun d hd => by rw [isDat, isDatL_iff] at hr; exact hr d hd
          have ll := lw l rfl
          have lk := lr k rfl
          have eq : formB (.tup l) (.tup k) = ((l.all isStr) && (k.all ropeOk)) := rfl
          rw [eq] at q
          walk_at "wx"
          refine lc_m l id (fun d => .bl (isStr d)) (by simp) (by omega) (fun d hdm K1 k1 => ?_) ?_
          · walk_at "wx"
            show isiX d (.ty "str") _
            rw [isi_str (dl d hdm)]
            exact k1
          walk_at "wx"
          rw [all_at isStr l]
          walk_at "wx"
          cases h3 : l.all isStr with
          | false =>
            rw [h3, Bool.false_and] at q
            exact if_f rfl q
          | true =>
            rw [h3, Bool.true_and] at q
            refine if_t rfl ?_
            refine lc_m k id (fun d => .bl (ropeOk d)) (by simp) (by omega) (fun d hdm K1 k1 => ?_) ?_
            · walk_at "wx"
              exact ⟨d, rfl, dk d hdm, k1⟩
            walk_at "wx"
            rw [all_at ropeOk k]
            exact q
        | _ => cases h2
      | _ => cases h1

def sd_Web_walkers : SpD := fun ds Q => ∃ ws rs, ds = [webE ws rs] ∧ Q (dps ws)
theorem len_Web_walkers (ds : List D) (Q : D → Prop) (h : sd_Web_walkers ds Q) : ds.length = 1 := by obtain ⟨_, _, rfl, _⟩ := h; rfl
abbrev N_Web_walkers : List Str := ["self"]
theorem sc_Web_walkers : FnScope N_Web_walkers ["self"] (defScope st_Web_walkers) := ⟨rfl, rfl, rfl, by decide +kernel, rfl, by decide +kernel, by decide +kernel⟩
def t_Web_walkers : TDS :=
  dRet (dB1 (fldD "own_walkers" ["Web"]) (.sl 0))
theorem pure_Web_walkers (ds : List D) (Q : D → Prop) (h : sd_Web_walkers ds Q) : t_Web_walkers (ends Q) (startD 1 ds) := by
  obtain ⟨ws, rs, rfl, q⟩ := h
  unfold t_Web_walkers
  walk_at "wx"
  exact q
def sd_Web_ropes : SpD := fun ds Q => ∃ ws rs, ds = [webE ws rs] ∧ Q (rps rs)
theorem len_Web_ropes (ds : List D) (Q : D → Prop) (h : sd_Web_ropes ds Q) : ds.length = 1 := by obtain ⟨_, _, rfl, _⟩ := h; rfl
abbrev N_Web_ropes : List Str := ["self"]
theorem sc_Web_ropes : FnScope N_Web_ropes ["self"] (defScope st_Web_ropes) := ⟨rfl, rfl, rfl, by decide +kernel, rfl, by decide +kernel, by decide +kernel⟩
def t_Web_ropes : TDS :=
  dRet (dB1 (fldD "own_ropes" ["Web"]) (.sl 0))
theorem pure_Web_ropes (ds : List D) (Q : D → Prop) (h : sd_Web_ropes ds Q) : t_Web_ropes (ends Q) (startD 1 ds) := by
  obtain ⟨ws, rs, rfl, q⟩ := h
  unfold t_Web_ropes
  walk_at "wx"
  exact q
def sd_Web___len__ : SpD := fun ds Q => ∃ ws rs, ds = [webE ws rs] ∧ Q (.int (ws.length : Int))
theorem len_Web___len__ (ds : List D) (Q : D → Prop) (h : sd_Web___len__ ds Q) : ds.length = 1 := by obtain ⟨_, _, rfl, _⟩ := h; rfl
abbrev N_Web___len__ : List Str := ["self"]
theorem sc_Web___len__ : FnScope N_Web___len__ ["self"] (defScope st_Web___len__) := ⟨rfl, rfl, rfl, by decide +kernel, rfl, by decide +kernel, by decide +kernel⟩
def t_Web___len__ : TDS :=
  dRet (dB1 lenD (.ex (dB1 (fldD "own_walkers" ["Web"]) (.sl 0))))
theorem pure_Web___len__ (ds : List D) (Q : D → Prop) (h : sd_Web___len__ ds Q) : t_Web___len__ (ends Q) (startD 1 ds) := by
  obtain ⟨ws, rs, rfl, q⟩ := h
  unfold t_Web___len__
  walk_at "wx"
  unfold dps
  walk_at "wx"
  rw [List.length_map]
  exact q
def dueD : Option (Str × Nat) → D
  | some p => .tup [.str p.1, .int (p.2 : Int)]
  | none => .non
def sd__law_due : SpD := fun ds Q => ∃ w r o, ds = [w, r] ∧ isDat w = true ∧ isDat r = true ∧ lenD1 w ∧ lenD1 r ∧ (∀ ws : List Str, w = dps ws → ∀ x ∈ ws, x.length ≤ 100000) ∧ Due w r o ∧ Q (dueD o)
theorem len__law_due (ds : List D) (Q : D → Prop) (h : sd__law_due ds Q) : ds.length = 2 := by obtain ⟨_, _, _, rfl, _⟩ := h; rfl
theorem fil_nil (x : Str) : (((cs x).filter fun c => !decide (c ∈ abc.cps.toList)).map fun c => D.str ⟨#[c]⟩).isEmpty = (cs x).all fun c => decide (c ∈ abc.cps.toList) := by
  rw [Bool.eq_iff_iff, List.isEmpty_iff, List.map_eq_nil_iff, List.filter_eq_nil_iff, List.all_eq_true]
  constructor
  · intro h c hc
    have := h c hc
    cases e : decide (c ∈ abc.cps.toList) with
    | true => rfl
    | false => rw [e] at this; exact absurd rfl this
  · intro h c hc
    rw [h c hc]
    simp
abbrev N__law_due : List Str := ["_law_walkers", "_law_ropes", "_law_at", "_law_walker", "_law_letters", "_law_one", "_law_other", "_law_length", "_law_letter"]
theorem sc__law_due : FnScope N__law_due ["_law_walkers", "_law_ropes"] (defScope st__law_due) := ⟨rfl, rfl, rfl, by decide +kernel, rfl, by decide +kernel, by decide +kernel⟩
def t__law_due : TDS :=
  dSeq (dIfS (dNot (dTru (.ex (dCall sd__law_has_form (dCons (dVar 0) (dCons (dVar 1) (dNil))))))) (dRet (dTup (dCons (dC (.str "form")) (dCons (dC (.int 0)) (dNil))))) (dNext))
  (dSeq (dIfS (dNot (fun δ Q => dChain (ltD) (ltD) (dC (.int 0)) (dB1 lenD (.sl 0)) (dC (.int 7)) δ fun z δ' => onBl z fun b => Q b δ')) (dRet (dTup (dCons (dC (.str "size")) (dCons (dC (.int 0)) (dNil))))) (dNext))
  (dSeq (dFor (iEnum (dVar 0)) (dgSeq 2 (dgCons (dgName 2) (dgCons (dgName 3) (dgNil)))) (dSeq (dAsg (dLc (iStrD (dVar 3)) (dgName 8) (dtBin (inX true) (.sl 8) (.ex (dC (.str "abcdefghijklmnopqrstuvwxyz")))) (dVar 8) [8]) 4)
  (dIfS (dOr (dNot (fun δ Q => dChain (ltD) (ltD) (dC (.int 0)) (dB1 lenD (.sl 3)) (dC (.int 7)) δ fun z δ' => onBl z fun b => Q b δ')) (dOr (dtBin (nilD true) (.sl 4) (.ex (dLst (dNil)))) (dtBin (inX false) (.sl 3) (.ex (dSl (.sl 0) (dP0) (dP1 (dVar 2))))))) (dRet (dTup (dCons (dC (.str "walker")) (dCons (dVar 2) (dNil))))) (dNext))))
  (dSeq (dFor (iEnum (dVar 1)) (dgSeq 2 (dgCons (dgName 2) (dgCons (dgSeq 3 (dgCons (dgName 5) (dgCons (dgName 6) (dgCons (dgName 7) (dgNil))))) (dgNil)))) (dIfS (dOr (dtBin (inX true) (.sl 5) (.sl 0)) (dOr (dtBin (inX true) (.sl 6) (.sl 0)) (dOr (dtBin (eqX) (.sl 5) (.sl 6)) (dtBin (ltD) (.sl 7) (.ex (dC (.int 0))))))) (dRet (dTup (dCons (dC (.str "rope")) (dCons (dVar 2) (dNil))))) (dNext)))
  (dRet (dC .non)))))
theorem pure__law_due (ds : List D) (Q : D → Prop) (h : sd__law_due ds Q) : t__law_due (ends Q) (startD 9 ds) := by
  obtain ⟨w, r, o, rfl, hw, hr, lw, lr, hx, hd, q⟩ := h
  unfold t__law_due
  walk_at "wx"
  refine ⟨w, r, rfl, hw, hr, lw, lr, ?_⟩
  walk_at "wx"
  cases hf : formB w r with
  | false =>
    refine if_t rfl ?_
    have : o = some (("form" : Str), 0) := by
      cases hd with
      | form _ => rfl
      | size _ => rw [form_dr] at hf; cases hf
      | walker _ _ _ _ _ => rw [form_dr] at hf; cases hf
      | rope _ _ _ _ _ _ => rw [form_dr] at hf; cases hf
      | good _ _ _ _ => rw [form_dr] at hf; cases hf
    rw [this] at q
    exact q
  | true =>
    refine if_f rfl ?_
    obtain ⟨ws, rs, rfl, rfl⟩ := form_yes hf
    have hx := hx ws rfl
    have lr := lr _ rfl
    have lw := lw _ rfl
    rw [List.length_map] at lr lw
    show _
    unfold dps rps at *
    walk_at "wx"
    rw [List.length_map]
    have hd : Due (dps ws) (rps rs) o := hd
    by_cases hs : 1 ≤ ws.length ∧ ws.length ≤ 6
    · refine if_t (decide_eq_true (by omega)) (if_f (by rw [decide_eq_true (show (ws.length : Int) < 7 by omega)]; rfl) ?_)
      refine for_go (fun (i : Nat) (δ : DSt) => goodW ws i ∧ ∃ c2 c3 c4 c5 c6 c7 c8, δ = [.im (.tup (ws.map D.str)), .im (.tup (rs.map rpD)), c2, c3, c4, c5, c6, c7, c8]) ⟨fun j h => by omega, _, _, _, _, _, _, _, rfl⟩ ?_ ?_
      · rintro i d δ' hdd ⟨gw, c2, c3, c4, c5, c6, c7, c8, rfl⟩
        obtain ⟨x, hx2, rfl⟩ := enum_get hdd
        obtain ⟨p, hp, rfl⟩ := map_get hx2
        have hm := List.mem_of_getElem? hp
        have hl : p.length ≤ sizeLine := Nat.le_of_lt (line_of (hx p hm))
        walk_at "wx"
        refine lc_go (cs p) (fun c => D.str ⟨#[c]⟩) (fun c => !decide (c ∈ abc.cps.toList)) (fun c => D.str ⟨#[c]⟩) rfl (by rw [cs_len]; exact hx p hm) (fun c hc K1 K2 k1 k2 => ?_) ?_
        · walk_at "wx"
          cases e : decide (c ∈ abc.cps.toList) with
          | true => exact if_f (by rw [show decide (c ∈ (Str.ofString "abcdefghijklmnopqrstuvwxyz").cps.toList) = true from e]; rfl) (k2 (by rw [e]; rfl))
          | false => exact if_t (by rw [show decide (c ∈ (Str.ofString "abcdefghijklmnopqrstuvwxyz").cps.toList) = false from e]; rfl) (k1 (by rw [e]; rfl))
        walk_at "wx"
        rw [fil_nil]
        have hbad : badW ws i p → Q (.tup [.str "walker", .int (i : Int)]) := fun hb => by
          rw [hd.at_walker hs hp hb gw] at q
          exact q
        have hwb : wordB p = (decide (1 ≤ p.length) && (decide (p.length ≤ 6) && (cs p).all fun c => decide (c ∈ abc.cps.toList))) := rfl
        refine ⟨hl, ?_⟩
        by_cases h1 : 1 ≤ p.length
        · refine if_t (decide_eq_true (by omega)) ?_
          by_cases h2 : p.length ≤ 6
          · refine if_f (by rw [decide_eq_true (show (p.length : Int) < 7 by omega)]; rfl) ?_
            rw [decide_eq_true h1, decide_eq_true h2, Bool.true_and, Bool.true_and] at hwb
            cases h3 : (cs p).all fun c => decide (c ∈ abc.cps.toList) with
            | false => exact if_t rfl (hbad (.inl (by rw [hwb, h3])))
            | true =>
              refine if_f rfl ?_
              rw [cut_to (by omega), Int.toNat_natCast, ← List.map_take]
              walk_at "wx"
              by_cases hin : p ∈ ws.take i
              · exact if_t (decide_eq_true hin) (hbad (.inr hin))
              · refine if_f (decide_eq_false hin) ?_
                exact ⟨goodW_succ gw hp fun z => by
                  rcases z with z | z
                  · rw [hwb, h3] at z; cases z
                  · exact hin z, _, _, _, _, _, _, _, rfl⟩
          · exact if_t (by rw [decide_eq_false (show ¬ (p.length : Int) < 7 by omega)]; rfl) (hbad (.inl (by rw [hwb, decide_eq_false h2, Bool.false_and, Bool.and_false])))
        · exact if_f (decide_eq_false (by omega)) (hbad (.inl (by rw [hwb, decide_eq_false h1, Bool.false_and])))
      · rintro δ' ⟨gw, c2, c3, c4, c5, c6, c7, c8, rfl⟩
        rw [enumD_len, List.length_map] at gw
        walk_at "wx"
        refine for_go (fun (i : Nat) (δ : DSt) => (∀ j < i, ∀ y, rs[j]? = some y → ¬ badR ws y) ∧ ∃ c2 c3 c4 c5 c6 c7 c8, δ = [.im (.tup (ws.map D.str)), .im (.tup (rs.map rpD)), c2, c3, c4, c5, c6, c7, c8]) ⟨fun j h => by omega, _, _, _, _, _, _, _, rfl⟩ ?_ ?_
        · rintro i d δ' hdd ⟨gr, c2, c3, c4, c5, c6, c7, c8, rfl⟩
          obtain ⟨x, hx2, rfl⟩ := enum_get hdd
          obtain ⟨p, hp, rfl⟩ := map_get hx2
          unfold rpD
          walk_at "wx"
          have hbad : badR ws p → Q (.tup [.str "rope", .int (i : Int)]) := fun hb => by
            rw [hd.at_rope hs gw hp hb gr] at q
            exact q
          by_cases h1 : p.1 ∈ ws
          · refine if_f (w_nd h1) ?_
            by_cases h2 : p.2.1 ∈ ws
            · refine if_f (w_nd h2) ?_
              by_cases h3 : p.1 = p.2.1
              · exact if_t (decide_eq_true h3) (hbad (.inr (.inr (.inl h3))))
              · refine if_f (decide_eq_false h3) ?_
                by_cases h4 : p.2.2 < 0
                · exact if_t (decide_eq_true h4) (hbad (.inr (.inr (.inr h4))))
                · refine if_f (decide_eq_false h4) ?_
                  refine ⟨goodR_succ gr hp fun z => ?_, _, _, _, _, _, _, _, rfl⟩
                  rcases z with z | z | z | z
                  · exact z h1
                  · exact z h2
                  · exact h3 z
                  · exact h4 z
            · exact if_t (by rw [decide_eq_false h2]; rfl) (hbad (.inr (.inl h2)))
          · exact if_t (by rw [decide_eq_false h1]; rfl) (hbad (.inl h1))
        · rintro δ' ⟨gr, c2, c3, c4, c5, c6, c7, c8, rfl⟩
          rw [enumD_len, List.length_map] at gr
          rw [hd.at_good hs gw gr] at q
          walk_at "wx"
          exact q
    · have hE : Q (.tup [.str "size", .int ((0 : Nat) : Int)]) := by
        rw [hd.at_size hs] at q
        exact q
      by_cases h1 : 1 ≤ ws.length
      · exact if_t (decide_eq_true (by omega)) (if_t (by rw [decide_eq_false (show ¬ (ws.length : Int) < 7 by omega)]; rfl) hE)
      · exact if_f (decide_eq_false (by omega)) hE
def toldD (w r : D) : Option (Str × Nat) → D
  | some p => .tup [.str p.1, .int (p.2 : Int)]
  | none => .lst [w, r, .int ((itemsD w).length : Int)]
def sd__law_told : SpD := fun ds Q => ∃ w r o, ds = [w, r] ∧ isDat w = true ∧ isDat r = true ∧ lenD1 w ∧ lenD1 r ∧ (∀ ws : List Str, w = dps ws → ∀ x ∈ ws, x.length ≤ 100000) ∧ Due w r o ∧ Q (toldD w r o)
theorem len__law_told (ds : List D) (Q : D → Prop) (h : sd__law_told ds Q) : ds.length = 2 := by obtain ⟨_, _, _, rfl, _⟩ := h; rfl
abbrev N__law_told : List Str := ["_law_walkers", "_law_ropes", "_law_found", "e"]
theorem sc__law_told : FnScope N__law_told ["_law_walkers", "_law_ropes"] (defScope st__law_told) := ⟨rfl, rfl, rfl, by decide +kernel, rfl, by decide +kernel, by decide +kernel⟩
def t__law_told : TDS :=
  dSeq (dTryAs 3 [("NoWeb", true)] (fun _ _ _ => False) (fun ex => dAsg (dNewX ex "Web" sx_Web___init__ (dCons (dVar 0) (dCons (dVar 1) (dNil)))) 2) (fun C fs => dSeqU 3 (dIfS (dTruB (dIsE [("NoWeb", false)] C)) (dRet (dTup (dCons (dC (.str "other")) (dNil)))) (dNext)) (dRet (dTup (dCons (dXf fs "word") (dCons (dXf fs "at") (dNil)))))))
  (dRet (dLst (dCons (dProp "Web" sd_Web_walkers (dVar 2)) (dCons (dProp "Web" sd_Web_ropes (dVar 2)) (dCons (dF1 (ownN "Web" sd_Web___len__) (dVar 2)) (dNil))))))
theorem pure__law_told (ds : List D) (Q : D → Prop) (h : sd__law_told ds Q) : t__law_told (ends Q) (startD 4 ds) := by
  obtain ⟨w, r, o, rfl, hw, hr, lw, lr, hx, hd, q⟩ := h
  unfold t__law_told
  walk_at "wx"
  simp only [e_newX]
  walk_at "wx"
  refine ⟨rfl, w, r, o, rfl, hw, hr, lw, lr, hx, hd, ?_⟩
  cases o with
  | some p =>
    refine ⟨by simp, true, by simp, fun _ a => ?_, fun z => by cases z⟩
    simp only [w_seqU, w_truB]
    walk_at "wx"
    simp only [w_truB]
    walk_at "wx"
    refine ⟨false, by simp, ?_⟩
    walk_at "wx"
    refine ⟨.str p.1, by simp [List.lookup_cons], .int (p.2 : Int), ?_, q⟩
    have e : (("at" : Str) == ("word" : Str)) = false := by decide +kernel
    simp only [List.lookup_cons, e, beq_self_eq_true]
  | none =>
    rintro ws rs rfl rfl W
    walk_at "wx"
    refine ⟨rfl, ws, rs, rfl, rfl, ws, rs, rfl, ?_⟩
    have h6 := W.hi
    unfold ownN
    rw [show insOf (D.ins ("Web" : Str) (webF ws rs)) = some (("Web" : Str), webF ws rs) from rfl]
    refine ⟨rfl, ws, rs, rfl, ?_⟩
    refine ⟨⟨by omega, by omega⟩, ?_⟩
    have e : toldD (dps ws) (rps rs) none = .lst [dps ws, rps rs, .int (ws.length : Int)] := by
      show D.lst [dps ws, rps rs, .int ((ws.map D.str).length : Int)] = _
      rw [List.length_map]
    rw [e] at q
    exact q
def sd__law_spaced : SpD := fun ds Q => ∃ s : Str, ds = [.str s] ∧ s.length ≤ 100000 ∧ Q (.lst [.str (" " ++ s), .str (s ++ " "), .str ("\n" ++ s), .str (s ++ "\n")])
theorem len__law_spaced (ds : List D) (Q : D → Prop) (h : sd__law_spaced ds Q) : ds.length = 1 := by obtain ⟨_, rfl, _⟩ := h; rfl
abbrev N__law_spaced : List Str := ["_law_text"]
theorem sc__law_spaced : FnScope N__law_spaced ["_law_text"] (defScope st__law_spaced) := ⟨rfl, rfl, rfl, by decide +kernel, rfl, by decide +kernel, by decide +kernel⟩
def t__law_spaced : TDS :=
  dRet (dLst (dCons (dBin addX (.ex (dC (.str " "))) (.sl 0)) (dCons (dBin addX (.sl 0) (.ex (dC (.str " ")))) (dCons (dBin addX (.ex (dC (.str "\n"))) (.sl 0)) (dCons (dBin addX (.sl 0) (.ex (dC (.str "\n")))) (dNil))))))
theorem pure__law_spaced (ds : List D) (Q : D → Prop) (h : sd__law_spaced ds Q) : t__law_spaced (ends Q) (startD 1 ds) := by
  obtain ⟨s, rfl, hl, q⟩ := h
  have h4 : sizeLine = 16777216 := by decide
  have e1 : (" " : Str).length = 1 := by decide
  have e2 : ("\n" : Str).length = 1 := by decide
  unfold t__law_spaced
  walk_at "wx"
  refine ⟨by omega, by omega, by omega, by omega, ?_⟩
  exact q
def sd__law_changed (n : Nat) : SpD := fun ds Q => ∃ (a : Addr) (v : D) (d : Nat) (os : List D) (m k N O : Nat), ds = [.box a, v, .int (d : Int), .lst os] ∧ d < n ∧ 1 ≤ os.length ∧ os.length ≤ 1000 ∧ Nice m N v ∧ m ≤ 800 ∧ d + k ≤ N ∧ (∀ o ∈ os, Nice (m + 1) k o ∧ wz o ≤ O) ∧ ∀ v', Nice (m + 1) N v' → wz v' ≤ 2 * wz v + O → Q v'
theorem zero__law_changed {ds : List D} {Q : D → Prop} (h : sd__law_changed 0 ds Q) : False := by
  obtain ⟨_, _, _, _, _, _, _, _, _, h, _⟩ := h
  exact absurd h (Nat.not_lt_zero _)
theorem len__law_changed (n : Nat) (ds : List D) (Q : D → Prop) (h : sd__law_changed (n + 1) ds Q) : ds.length = 4 := by obtain ⟨_, _, _, _, _, _, _, _, rfl, _⟩ := h; rfl
abbrev N__law_changed : List Str := ["_law_box_here", "_law_thing", "_law_deep", "_law_odd", "_law_form", "_law_at", "_law_other", "_law_some"]
theorem sc__law_changed : FnScope N__law_changed ["_law_box_here", "_law_thing", "_law_deep", "_law_odd"] (defScope st__law_changed) := ⟨rfl, rfl, rfl, by decide +kernel, rfl, by decide +kernel, by decide +kernel⟩
def t__law_changed (n : Nat) : TDS :=
  dSeq (dAsg (dCall sd__law_take (dCons (dVar 0) (dCons (dC (.int 8)) (dNil)))) 4)
  (dSeq (dIfS (dOr (dNot (dTru (.ex (dB2 isiX (dVar 1) (dC (.ty "tuple")))))) (dOr (dtBin (eqX) (.ex (dB1 lenD (.sl 1))) (.ex (dC (.int 0)))) (dOr (dtBin (eqX) (.sl 2) (.ex (dC (.int 0)))) (dtBin (eqX) (.sl 4) (.ex (dC (.int 0))))))) (dRet (dBin ixX (.sl 3) (.ex (dCall sd__law_take (dCons (dVar 0) (dCons (dB1 lenD (.sl 3)) (dNil))))))) (dNext))
  (dSeq (dPars [.im (dCall sd__law_take (dCons (dVar 0) (dCons (dB1 lenD (.sl 1)) (dNil)))), .im (dCall sd__law_take (dCons (dVar 0) (dCons (dB1 lenD (.sl 1)) (dNil))))] [5, 6])
  (dSeq (dIfS (dtBin (eqX) (.sl 4) (.ex (dC (.int 1)))) (dRet (dBin addX (.ex (dSl (.sl 1) (dP0) (dP1 (dVar 5)))) (.ex (dSl (.sl 1) (dP1 (dBin addX (.sl 5) (.ex (dC (.int 1))))) (dP0))))) (dNext))
  (dSeq (dIfS (dtBin (eqX) (.sl 4) (.ex (dC (.int 2)))) (dRet (dBin addX (.ex (dBin addX (.ex (dSl (.sl 1) (dP0) (dP1 (dVar 5)))) (.ex (dTup (dCons (dBin ixX (.sl 1) (.sl 6)) (dNil)))))) (.ex (dSl (.sl 1) (dP1 (dVar 5)) (dP0))))) (dNext))
  (dSeq (dIfS (dtBin (eqX) (.sl 4) (.ex (dC (.int 3)))) (dSeq (dAsgO (dB1 listA (.sl 1)) 7)
  (dSeq (dSto (dTup (dCons (dBin ixX (.sl 7) (.sl 6)) (dCons (dBin ixX (.sl 7) (.sl 5)) (dNil)))) (dgSeq 2 (dgCons (dgItem 7 (dVar 5)) (dgCons (dgItem 7 (dVar 6)) (dgNil)))))
  (dRet (dB1 tupleD (.sl 7))))) (dNext))
  (dRet (dBin addX (.ex (dBin addX (.ex (dSl (.sl 1) (dP0) (dP1 (dVar 5)))) (.ex (dTup (dCons (dCall (sd__law_changed n) (dCons (dVar 0) (dCons (dBin ixX (.sl 1) (.sl 5)) (dCons (dBin subD (.sl 2) (.ex (dC (.int 1)))) (dCons (dVar 3) (dNil)))))) (dNil)))))) (.ex (dSl (.sl 1) (dP1 (dBin addX (.sl 5) (.ex (dC (.int 1))))) (dP0))))))))))
theorem pure__law_changed (n : Nat) (ds : List D) (Q : D → Prop) (h : sd__law_changed (n + 1) ds Q) : t__law_changed n (ends Q) (startD 8 ds) := by
  obtain ⟨a, v, d, os, m, k, N, O, rfl, hd, o1, o2, hv, hm, hk, ho, q⟩ := h
  unfold t__law_changed
  walk_at "wx"
  intro f f0 f1
  have odd : ∀ {K : D → Prop}, (∀ o, Nice (m + 1) N o → wz o ≤ 2 * wz v + O → K o) → (0 < (os.length : Int) ∧ (os.length : Int) < 1267650600228229401496703205376 ∧ ∀ i : Int, 0 ≤ i → i < (os.length : Int) → ixX (.lst os) (.int i) K) := fun {K} hK =>
    ⟨by omega, by omega, fun i i0 i1 => ix_any i0 i1 fun o hoo => hK o ((ho o hoo).1.mono (Nat.le_refl _) (by omega)) (by have := (ho o hoo).2; omega)⟩
  rw [isi_tup hv.dat]
  walk_at "wx"
  cases ht : isTup v with
  | false => exact if_t rfl (odd q)
  | true =>
    refine if_f rfl ?_
    cases v with
    | tup l =>
      obtain ⟨hl, hN, hit⟩ := hv.items
      walk_at "wx"
      have hsl : l.length + l.length + 1000 ≤ sizeLine := by
        have h4 : sizeLine = 16777216 := by decide
        omega
      have ezl : wz (.tup l) = wzL l + 3 := rfl
      refine if_b (fun _ => odd q) fun h0 => if_b (fun _ => odd q) fun h1 => if_b (fun _ => odd q) fun _ => ?_
      have h0 : l.length ≠ 0 := fun z => of_decide_eq_false h0 (by omega)
      have h1 : d ≠ 0 := fun z => of_decide_eq_false h1 (by omega)
      refine ⟨by omega, by omega, fun b b0 b1 => ⟨by omega, by omega, fun c c0 c1 => ?_⟩⟩
      obtain ⟨b, rfl⟩ := Int.eq_ofNat_of_zero_le b0
      obtain ⟨c, rfl⟩ := Int.eq_ofNat_of_zero_le c0
      have gb : l[b]? = some (l[b]'(by omega)) := List.getElem?_eq_getElem (by omega)
      have gc : l[c]? = some (l[c]'(by omega)) := List.getElem?_eq_getElem (by omega)
      have mb := List.getElem_mem (l := l) (n := b) (by omega)
      have mc := List.getElem_mem (l := l) (n := c) (by omega)
      generalize l[b]'(by omega) = xb at gb mb
      generalize l[c]'(by omega) = xc at gc mc
      have zb := wzL_get gb
      have zc := wzL_mem mc
      have cutb := wzL_cut l b
      have tb := take_drop_all hit b (b + 1)
      have tb' := take_drop_all hit b b
      have up : ∀ {x : D}, Nice m (N - 1) x → Nice (m + 1) (N - 1) x := fun h => h.mono (by omega) (Nat.le_refl _)
      have eb1 : (b : Int) + 1 = ((b + 1 : Nat) : Int) := by omega
      have lt1 : (l.take b).length ≤ l.length := by rw [List.length_take]; omega
      have lt2 : (l.drop (b + 1)).length ≤ l.length := by rw [List.length_drop]; omega
      have lt3 : (l.take b).length + (l.drop b).length = l.length := by rw [List.length_take, List.length_drop]; omega
      have lt4 : (l.take b).length + (l.drop (b + 1)).length + 1 = l.length := by rw [List.length_take, List.length_drop]; omega
      refine if_b (fun _ => ?_) fun _ => if_b (fun _ => ?_) fun _ => if_b (fun _ => ?_) fun _ => ?_
      · walk_at "wx"
        rw [cut_to (by omega), eb1, cut_from (by omega), Int.toNat_natCast, Int.toNat_natCast]
        walk_at "wx"
        refine ⟨by omega, ?_⟩
        refine q _ (.tupN hN (by rw [List.length_append]; omega) fun d hd => ?_) ?_
        · rcases List.mem_append.mp hd with hd | hd
          · exact up (tb.1 d hd)
          · exact up (tb.2 d hd)
        · rw [ezl, wz, wzL_app]; omega
      · walk_at "wx"
        refine ix_datT gc ?_
        walk_at "wx"
        rw [cut_to (by omega), cut_from (by omega), Int.toNat_natCast]
        refine ⟨by omega, ?_⟩
        walk_at "wx"
        refine ⟨by simp only [List.length_append, List.length_cons, List.length_nil]; omega, ?_⟩
        refine q _ (.tupN hN (by simp only [List.length_append, List.length_cons, List.length_nil]; omega) fun d hd => ?_) ?_
        · rcases List.mem_append.mp hd with hd | hd
          · rcases List.mem_append.mp hd with hd | hd
            · exact up (tb'.1 d hd)
            · rw [List.mem_singleton.mp hd]; exact up (hit _ mc)
          · exact up (tb'.2 d hd)
        · rw [ezl, wz, wzL_app, wzL_app, wzL, wzL]; omega
      · walk_at "wx"
        refine ix_dat gc ?_
        refine ix_dat gb ?_
        rw [Int.toNat_natCast, Int.toNat_natCast]
        have gc2 : (l.set b xc)[c]? = some xc := by
          by_cases e : b = c
          · subst e; rw [List.getElem?_set_self (by omega)]
          · rw [List.getElem?_set_ne e]; exact gc
        have z1 := wzL_set (x := xc) gb
        have z2 := wzL_set (x := xb) gc2
        refine ⟨⟨by omega, by omega⟩, ⟨by omega, by rw [List.length_set]; omega⟩, ?_⟩
        refine q _ (.tupN hN (by rw [List.length_set, List.length_set]; omega) fun d hd => ?_) ?_
        · rcases List.mem_or_eq_of_mem_set hd with hd | rfl
          · rcases List.mem_or_eq_of_mem_set hd with hd | rfl
            · exact up (hit _ hd)
            · exact up (hit _ mc)
          · exact up (hit _ mb)
        · rw [ezl, wz]; omega
      · walk_at "wx"
        refine ix_datT gb ?_
        walk_at "wx"
        refine ⟨a, xb, d - 1, os, m, k, N - 1, O, by rw [show ((d : Int) - 1) = ((d - 1 : Nat) : Int) from by omega], by omega, o1, o2, hit _ mb, hm, by omega, ho, fun v' hv' hz => ?_⟩
        rw [cut_to (by omega), eb1, cut_from (by omega), Int.toNat_natCast, Int.toNat_natCast]
        refine ⟨by omega, by simp only [List.length_append, List.length_cons, List.length_nil]; omega, ?_⟩
        refine q _ (.tupN hN (by simp only [List.length_append, List.length_cons, List.length_nil]; omega) fun d hd => ?_) ?_
        · rcases List.mem_append.mp hd with hd | hd
          · rcases List.mem_append.mp hd with hd | hd
            · exact up (tb.1 d hd)
            · rw [List.mem_singleton.mp hd]; exact hv'
          · exact up (tb.2 d hd)
        · rw [ezl, wz, wzL_app, wzL_app, wzL, wzL]; omega
    | _ => cases ht

theorem eqB_nil (l : List D) : eqB (.tup l) (.tup []) = l.isEmpty := by cases l <;> rfl
theorem eq_nilT {l : List D} {Q : D → Prop} (h1 : isDat (.tup l) = true) (h2 : dep (.tup l) ≤ 64) (q : Q (.bl l.isEmpty)) : eqX (.tup l) (.tup []) Q := by
  unfold eqX
  refine ⟨⟨h1, rfl, h2, by decide⟩, ?_⟩
  rw [eqB_nil]; exact q
theorem ne_nilT {l : List D} {Q : D → Prop} (h1 : isDat (.tup l) = true) (h2 : dep (.tup l) ≤ 64) (q : Q (.bl (!l.isEmpty))) : neX (.tup l) (.tup []) Q := by
  unfold neX
  refine ⟨⟨h1, rfl, h2, by decide⟩, ?_⟩
  rw [eqB_nil]; exact q
theorem odd_str {m n T : Nat} (s : String) (hm : 20 ≤ m) (hl : (Str.ofString s).length ≤ 20) : Nice (m + 1) n (.str (Str.ofString s)) ∧ wz (.str (Str.ofString s)) ≤ T + 8100 :=
  ⟨.str (by omega) (sOk_ofString s), by show 10 * _ + 2 ≤ _; omega⟩
theorem odd_int {m n T : Nat} (i : Int) (hi : i.natAbs.log2 < 1920) : Nice (m + 1) n (.int i) ∧ wz (.int i) ≤ T + 8100 := ⟨.int hi, by show 1921 ≤ _; omega⟩
theorem odd_tup0 {m n T : Nat} (hn : 1 ≤ n) : Nice (m + 1) n (.tup []) ∧ wz (.tup []) ≤ T + 8100 := ⟨.tupN hn (Nat.zero_le _) (fun _ h => nomatch h), by simp only [wz, wzL]; omega⟩
theorem odd_one {m n T : Nat} {a : Str} (hn : 1 ≤ n) (hm : 20 ≤ m) (la : a.length ≤ 1) (oa : sOk a) : Nice (m + 1) n (.tup [.str a]) ∧ wz (.tup [.str a]) ≤ T + 8100 := ⟨.tupN hn (by rw [List.length_singleton]; omega) fun d hd => by
  rw [List.mem_singleton.mp hd]
  exact .str (by omega) oa, by simp only [wz, wzL]; omega⟩
theorem odd_three {m n T : Nat} {a b : Str} (hn : 1 ≤ n) (hm : 20 ≤ m) (la : a.length ≤ 1) (oa : sOk a) (lb : b.length ≤ 1) (ob : sOk b) : Nice (m + 1) n (.tup [.str a, .str b, .int 1]) ∧ wz (.tup [.str a, .str b, .int 1]) ≤ T + 8100 := by
  refine ⟨.tupN hn (by show 3 ≤ _; omega) fun d hd => ?_, by simp only [wz, wzL]; omega⟩
  simp only [List.mem_cons, List.not_mem_nil, or_false] at hd
  rcases hd with rfl | rfl | rfl
  · exact .str (by omega) oa
  · exact .str (by omega) ob
  · exact .int (by decide)
theorem wz_pair (w r : D) : wz (.tup [w, r]) = wz w + wz r + 7 := by simp only [wz, wzL]; omega
def sd__law_bent : SpD := fun ds Q => ∃ (a : Addr) (w r : D) (m N T : Nat), ds = [.box a, w, r] ∧ Nice m N w ∧ Nice m N r ∧ 20 ≤ m ∧ m ≤ 790 ∧ 2 ≤ N ∧ N ≤ 50 ∧ wz w + wz r ≤ T ∧ ∀ w' r', Nice (m + 8) (N + 4) w' → Nice (m + 8) (N + 4) r' → wz w' + wz r' ≤ 4 * T + 9000 → Q (.tup [w', r'])
theorem len__law_bent (ds : List D) (Q : D → Prop) (h : sd__law_bent ds Q) : ds.length = 3 := by obtain ⟨_, _, _, _, _, _, rfl, _⟩ := h; rfl
abbrev N__law_bent : List Str := ["_law_box_here", "_law_walkers", "_law_ropes", "_law_form", "_law_odd", "_law_near", "_law_both", "_law_a", "_law_b", "_law_at", "_law_below", "_law_length", "_law_thing", "_law_letter"]
theorem sc__law_bent : FnScope N__law_bent ["_law_box_here", "_law_walkers", "_law_ropes"] (defScope st__law_bent) := ⟨rfl, rfl, rfl, by decide +kernel, rfl, by decide +kernel, by decide +kernel⟩
def t__law_bent : TDS :=
  dSeq (dPars [.im (dCall sd__law_take (dCons (dVar 0) (dCons (dC (.int 8)) (dNil)))), .im (dLst (dCons (dC (.str "a1")) (dCons (dC (.str "a_b")) (dCons (dC (.str "aB")) (dCons (dC (.str "`")) (dNil))))))] [3, 4])
  (dSeq (dAsg (dBin addX (.sl 4) (.ex (dLst (dCons (dC (.str "")) (dCons (dC (.str "A")) (dCons (dC (.str "zzzzzz")) (dCons (dC (.str "zzzzzzz")) (dCons (dC (.int 7)) (dCons (dC (.bl true)) (dCons (dC .non) (dCons (dTup (dNil)) (dCons (dTup (dCons (dC (.str "a")) (dNil))) (dCons (dTup (dCons (dC (.str "a")) (dCons (dC (.str "b")) (dCons (dC (.int 1)) (dNil))))) (dCons (dBin subD (.ex (dC (.int 0))) (.ex (dC (.int 1)))) (dNil))))))))))))))) 4)
  (dSeq (dAsg (dBin addX (.sl 4) (.ex (dLst (dCons (dBin powD (.ex (dC (.int 10))) (.ex (dC (.int 25)))) (dCons (dBin subD (.ex (dC (.int 0))) (.ex (dC (.int 2)))) (dCons (dBin subD (.ex (dC (.int 0))) (.ex (dBin powD (.ex (dC (.int 10))) (.ex (dC (.int 9)))))) (dNil))))))) 4)
  (dSeq (dIfS (dtBin (ltD) (.sl 3) (.ex (dC (.int 4)))) (dSeq (dAsg (dLc (iSeq (dTup (dCons (dVar 1) (dCons (dVar 2) (dNil))))) (dgName 12) (dAnd (dTru (.ex (dB2 isiX (dVar 12) (dC (.ty "tuple"))))) (dtBin (neX) (.sl 12) (.ex (dTup (dNil))))) (dBin ixX (.sl 12) (.ex (dC (.int 0)))) [12]) 5)
  (dSeq (dAsg (dBin addX (.sl 4) (.ex (dLst (dCons (dC (.str "a~")) (dCons (dC (.str "{")) (dCons (dC (.str "a|b")) (dCons (dC (.str "}")) (dNil)))))))) 4)
  (dSeq (dIfS (dAnd (dtBin (nilD true) (.sl 5) (.ex (dLst (dNil)))) (dTru (.ex (dB2 isiX (dBin ixX (.sl 5) (.ex (dC (.int 0)))) (dC (.ty "str")))))) (dAsg (dBin addX (.sl 4) (.ex (dCall sd__law_spaced (dCons (dBin ixX (.sl 5) (.ex (dC (.int 0)))) (dNil))))) 4) (dNext))
  (dSeq (dAsg (dCall (sd__law_changed 4) (dCons (dVar 0) (dCons (dTup (dCons (dVar 1) (dCons (dVar 2) (dNil)))) (dCons (dC (.int 3)) (dCons (dBin addX (.sl 4) (.sl 5)) (dNil)))))) 6)
  (dRet (dIf (dAnd (dTru (.ex (dB2 isiX (dVar 6) (dC (.ty "tuple"))))) (dtBin (eqX) (.ex (dB1 lenD (.sl 6))) (.ex (dC (.int 2))))) (dVar 6) (dTup (dCons (dVar 1) (dCons (dVar 6) (dNil)))))))))) (dNext))
  (dSeq (dIfS (dOr (dNot (dTru (.ex (dCall sd__law_has_form (dCons (dVar 1) (dCons (dVar 2) (dNil))))))) (dtBin (eqX) (.sl 1) (.ex (dTup (dNil))))) (dRet (dBin ixX (.ex (dLst (dCons (dTup (dCons (dVar 1) (dCons (dTup (dNil)) (dNil)))) (dCons (dTup (dCons (dTup (dNil)) (dCons (dTup (dNil)) (dNil)))) (dCons (dTup (dCons (dTup (dNil)) (dCons (dVar 2) (dNil)))) (dCons (dTup (dCons (dVar 1) (dCons (dC .non) (dNil)))) (dNil))))))) (.ex (dCall sd__law_take (dCons (dVar 0) (dCons (dC (.int 4)) (dNil))))))) (dNext))
  (dSeq (dPars [.im (dBin ixX (.sl 1) (.ex (dCall sd__law_take (dCons (dVar 0) (dCons (dB1 lenD (.sl 1)) (dNil)))))), .im (dBin ixX (.sl 1) (.ex (dCall sd__law_take (dCons (dVar 0) (dCons (dB1 lenD (.sl 1)) (dNil))))))] [7, 8])
  (dSeq (dPars [.im (dCall sd__law_take (dCons (dVar 0) (dCons (dBin addX (.ex (dB1 lenD (.sl 2))) (.ex (dC (.int 1)))) (dNil)))), .im (dBin subD (.ex (dBin subD (.ex (dC (.int 0))) (.ex (dC (.int 2))))) (.ex (dCall sd__law_take (dCons (dVar 0) (dCons (dC (.int 999)) (dNil))))))] [9, 10])
  (dSeq (dAsg (dBin ixX (.ex (dLst (dCons (dC (.int 0)) (dCons (dC (.int 5)) (dCons (dBin subD (.ex (dC (.int 0))) (.ex (dC (.int 1)))) (dCons (dBin powD (.ex (dC (.int 10))) (.ex (dC (.int 20)))) (dCons (dC (.bl true)) (dCons (dVar 10) (dNil))))))))) (.ex (dCall sd__law_take (dCons (dVar 0) (dCons (dC (.int 6)) (dNil)))))) 11)
  (dSeq (dIfS (dtBin (ltD) (.sl 3) (.ex (dC (.int 6)))) (dRet (dTup (dCons (dVar 1) (dCons (dBin addX (.ex (dBin addX (.ex (dSl (.sl 2) (dP0) (dP1 (dVar 9)))) (.ex (dTup (dCons (dTup (dCons (dVar 7) (dCons (dVar 8) (dCons (dVar 11) (dNil))))) (dNil)))))) (.ex (dSl (.sl 2) (dP1 (dVar 9)) (dP0)))) (dNil))))) (dNext))
  (dSeq (dIfS (dtBin (eqX) (.sl 3) (.ex (dC (.int 6)))) (dRet (dTup (dCons (dBin addX (.ex (dSl (.sl 1) (dP0) (dP1 (dVar 9)))) (.ex (dSl (.sl 1) (dP1 (dBin addX (.sl 9) (.ex (dC (.int 1))))) (dP0)))) (dCons (dVar 2) (dNil))))) (dNext))
  (dRet (dTup (dCons (dBin addX (.sl 1) (.ex (dSl (.ex (dB1 tupleD (.ex (dLc (iStrD (dC (.str "abcdefg"))) (dgName 13) (dYes) (dBin addX (.ex (dC (.str "z"))) (.sl 13)) [13])))) (dP0) (dP1 (dBin addX (.ex (dC (.int 1))) (.ex (dCall sd__law_take (dCons (dVar 0) (dCons (dC (.int 7)) (dNil)))))))))) (dCons (dVar 2) (dNil))))))))))))))
theorem pure__law_bent (ds : List D) (Q : D → Prop) (h : sd__law_bent ds Q) : t__law_bent (ends Q) (startD 14 ds) := by
  obtain ⟨a, w, r, m, N, T, rfl, hw, hr, m0, m1, N0, N1, hT, q⟩ := h
  have h4 : sizeLine = 16777216 := by decide
  unfold t__law_bent
  walk_at "wx"
  intro f f0 f1
  refine ⟨by omega, by decide, by decide, by omega, if_b (fun hf => ?_) fun hf => ?_⟩
  · have dep50 : ∀ {x : D}, Nice m N x → dep x ≤ 64 := fun h => by have := h.sh.dep; omega
    refine lc_go [w, r] id (fun d => isTup d && !(itemsD d).isEmpty) (fun d => (itemsD d).headD .non) rfl (by simp) (fun x hx K1 K2 k1 k2 => ?_) ?_
    · have hnx : Nice m N x := by
        simp only [List.mem_cons, List.not_mem_nil, or_false] at hx
        rcases hx with rfl | rfl <;> assumption
      walk_at "wx"
      show isiX x (.ty "tuple") _
      rw [isi_tup hnx.dat]
      walk_at "wx"
      cases x with
      | tup l =>
        refine if_t rfl ?_
        refine ne_nilT hnx.dat (dep50 hnx) ?_
        walk_at "wx"
        refine if_b (fun hb => ?_) fun hb => ?_
        · cases l with
          | nil => cases hb
          | cons y l =>
            show ixX (.tup (y :: l)) (.int 0) _
            rw [x_it0]
            exact k1 rfl
        · cases l with
          | nil => exact k2 rfl
          | cons y l => cases hb
      | _ => exact if_f rfl (k2 rfl)
    have hns : ∀ o ∈ ([w, r].filter fun d => isTup d && !(itemsD d).isEmpty).map fun d => (itemsD d).headD .non, Nice m N o ∧ wz o ≤ T := fun o ho => by
      obtain ⟨x, hx, rfl⟩ := List.mem_map.mp ho
      obtain ⟨hx, hc⟩ := List.mem_filter.mp hx
      have hnx : Nice m N x ∧ wz x ≤ T := by
        simp only [List.mem_cons, List.not_mem_nil, or_false] at hx
        rcases hx with rfl | rfl
        · exact ⟨hw, by omega⟩
        · exact ⟨hr, by omega⟩
      cases x with
      | tup l =>
        cases l with
        | nil => cases hc
        | cons y l =>
          have hm : y ∈ y :: l := List.mem_cons_self
          refine ⟨(hnx.1.items.2.2 y hm).mono (Nat.le_refl _) (by omega), ?_⟩
          have h1 := wzL_mem hm
          have h2 : wz (.tup (y :: l)) = wzL (y :: l) + 3 := rfl
          show wz y ≤ T
          omega
      | _ => cases hc
    have hnl : (([w, r].filter fun d => isTup d && !(itemsD d).isEmpty).map fun d => (itemsD d).headD .non).length ≤ 2 := by
      rw [List.length_map]
      exact List.length_filter_le _ _
    generalize (([w, r].filter fun d => isTup d && !(itemsD d).isEmpty).map fun d => (itemsD d).headD .non) = ns at hns hnl ⊢
    have ch : ∀ (os : List D) (K : D → Prop), (∀ o ∈ os, Nice (m + 1) N o ∧ wz o ≤ T + 8100) → 1 ≤ os.length → os.length ≤ 900 → (∀ v, Nice (m + 1) (N + 4) v → wz v ≤ 3 * T + 8200 → K v) → sd__law_changed 4 [.box a, .tup [w, r], .int 3, .lst os] K := fun os K h1 h2 h3 k =>
      ⟨a, .tup [w, r], 3, os, m, N, N + 4, T + 8100, rfl, by omega, h2, by omega, .tupN (by omega) (by simp; omega) (fun d hd => by
        simp only [List.mem_cons, List.not_mem_nil, or_false] at hd
        rcases hd with rfl | rfl
        · exact hw.mono (Nat.le_refl _) (by omega)
        · exact hr.mono (Nat.le_refl _) (by omega)), by omega, by omega, h1, fun v hv hz => k v hv (by rw [wz_pair] at hz; omega)⟩
    have fin : ∀ v, Nice (m + 1) (N + 4) v → wz v ≤ 3 * T + 8200 → (isiX v (.ty "tuple") fun z => mX (truD z) fun b => if b = true then lenD v fun z => eqX z (.int 2) fun z => onBl z fun b => if b = true then Q v else Q (.tup [w, v]) else Q (.tup [w, v])) := fun v hv hz => by
      have hwv : Q (.tup [w, v]) := q w v (hw.mono (by omega) (by omega)) (hv.mono (by omega) (Nat.le_refl _)) (by omega)
      rw [isi_tup hv.dat]
      walk_at "wx"
      cases v with
      | tup l =>
        refine if_t rfl ?_
        walk_at "wx"
        match l, hv, hz, hwv with
        | [x, y], hv, hz, hwv =>
          refine if_t rfl ?_
          obtain ⟨_, _, hi⟩ := hv.items
          rw [wz_pair] at hz
          exact q x y ((hi x (by simp)).mono (by omega) (by omega)) ((hi y (by simp)).mono (by omega) (by omega)) (by omega)
        | [], hv, hz, hwv => exact if_f (by decide) hwv
        | [x], hv, hz, hwv => exact if_f (by simp) hwv
        | x :: y :: z :: l, hv, hz, hwv => exact if_f (decide_eq_false (by simp; omega)) hwv
      | _ => exact if_f rfl hwv
    walk_at "wx"
    refine ⟨by omega, ?_⟩
    refine if_b (fun hne => ?_) fun hne => ?_
    · cases ns with
      | nil => cases hne
      | cons y t =>
        walk_at "wx"
        have hy := hns y List.mem_cons_self
        rw [isi_str hy.1.dat]
        walk_at "wx"
        have hnl2 : t.length ≤ 1 := by simpa using hnl
        cases y with
        | str s =>
          have hs : s.length ≤ m ∧ sOk s := by
            have h := hy.1
            generalize N = n' at h
            cases h with
            | str h1 h2 => exact ⟨h1, h2⟩
          refine if_t rfl ?_
          refine ⟨s, rfl, by omega, ?_⟩
          walk_at "wx"
          have e1 : (" " : Str).length = 1 := by decide
          have e2 : ("\n" : Str).length = 1 := by decide
          have spc : ∀ (x y : Str) (z : Str), z = x ++ y → x.length + y.length ≤ m + 1 → sOk x → sOk y → Nice (m + 1) N (.str z) ∧ wz (.str z) ≤ T + 8100 := fun x y z e h1 h2 h3 => by
            subst e
            refine ⟨.str (by rw [Str.length_append]; omega) (sOk_append h2 h3), ?_⟩
            show 10 * _ + 2 ≤ _
            rw [Str.length_append]
            omega
          refine ⟨by omega, by omega, ch _ _ (fun o ho => ?_) (by simp only [List.length_cons]; omega) (by simp only [List.length_cons]; omega) fin⟩
          simp only [List.mem_cons (a := o)] at ho
          rcases ho with rfl | rfl | rfl | rfl | rfl | rfl | rfl | rfl | rfl | rfl | rfl | rfl | rfl | rfl | rfl | rfl | rfl | rfl | rfl | rfl | rfl | rfl | rfl | rfl | rfl | rfl | ho <;> (first
          | exact odd_str _ m0 (by decide)
          | exact odd_int _ (by decide +kernel)
          | exact ⟨.bl, by show 1921 ≤ _; omega⟩
          | exact ⟨.non, by show 1921 ≤ _; omega⟩
          | exact odd_tup0 (by omega)
          | exact odd_one (by omega) m0 (by decide) (sOk_ofString "a")
          | exact odd_three (by omega) m0 (by decide) (sOk_ofString "a") (by decide) (sOk_ofString "b")
          | exact ⟨(hns o (List.mem_cons.mpr ho)).1.mono (by omega) (Nat.le_refl _), by have := (hns o (List.mem_cons.mpr ho)).2; omega⟩
          | exact spc _ _ _ rfl (by omega) (sOk_ofString " ") hs.2
          | exact spc _ _ _ rfl (by omega) hs.2 (sOk_ofString " ")
          | exact spc _ _ _ rfl (by omega) (sOk_ofString "\n") hs.2
          | exact spc _ _ _ rfl (by omega) hs.2 (sOk_ofString "\n"))
        | _ =>
          refine if_f rfl ?_
          refine ⟨by omega, ch _ _ (fun o ho => ?_) (by simp only [List.length_cons]; omega) (by simp only [List.length_cons]; omega) fin⟩
          simp only [List.mem_cons (a := o)] at ho
          rcases ho with rfl | rfl | rfl | rfl | rfl | rfl | rfl | rfl | rfl | rfl | rfl | rfl | rfl | rfl | rfl | rfl | rfl | rfl | rfl | rfl | rfl | rfl | ho <;> (first
          | exact odd_str _ m0 (by decide)
          | exact odd_int _ (by decide +kernel)
          | exact ⟨.bl, by show 1921 ≤ _; omega⟩
          | exact ⟨.non, by show 1921 ≤ _; omega⟩
          | exact odd_tup0 (by omega)
          | exact odd_one (by omega) m0 (by decide) (sOk_ofString "a")
          | exact odd_three (by omega) m0 (by decide) (sOk_ofString "a") (by decide) (sOk_ofString "b")
          | exact ⟨(hns o (List.mem_cons.mpr ho)).1.mono (by omega) (Nat.le_refl _), by have := (hns o (List.mem_cons.mpr ho)).2; omega⟩)
    · refine ⟨by omega, ch _ _ (fun o ho => ?_) (by simp only [List.length_cons]; omega) (by simp only [List.length_cons]; omega) fin⟩
      simp only [List.mem_cons] at ho
      rcases ho with rfl | rfl | rfl | rfl | rfl | rfl | rfl | rfl | rfl | rfl | rfl | rfl | rfl | rfl | rfl | rfl | rfl | rfl | rfl | rfl | rfl | rfl | ho <;> (first
          | exact odd_str _ m0 (by decide)
          | exact odd_int _ (by decide +kernel)
          | exact ⟨.bl, by show 1921 ≤ _; omega⟩
          | exact ⟨.non, by show 1921 ≤ _; omega⟩
          | exact odd_tup0 (by omega)
          | exact odd_one (by omega) m0 (by decide) (sOk_ofString "a")
          | exact odd_three (by omega) m0 (by decide) (sOk_ofString "a") (by decide) (sOk_ofString "b")
          | exact ⟨(hns o ho).1.mono (by omega) (Nat.le_refl _), by have := (hns o ho).2; omega⟩)
  · refine ⟨w, r, rfl, hw.dat, hr.dat, hw.lens (by omega), hr.lens (by omega), ?_⟩
    walk_at "wx"
    have nilN : Nice (m + 8) (N + 4) (.tup []) := .tupN (by omega) (Nat.zero_le _) (fun _ h => nomatch h)
    have hw' : Nice (m + 8) (N + 4) w := hw.mono (by omega) (by omega)
    have hr' : Nice (m + 8) (N + 4) r := hr.mono (by omega) (by omega)
    have four : ∀ i : Int, 0 ≤ i → i < 4 → ixX (.lst [.tup [w, .tup []], .tup [.tup [], .tup []], .tup [.tup [], r], .tup [w, .non]]) (.int i) fun z => Q z := fun i i0 i1 => ix_any i0 (by show i < 4; exact i1) fun d hd => by
      simp only [List.mem_cons, List.not_mem_nil, or_false] at hd
      rcases hd with rfl | rfl | rfl | rfl
      · exact q _ _ hw' nilN (by simp only [wz, wzL]; omega)
      · exact q _ _ nilN nilN (by simp only [wz, wzL]; omega)
      · exact q _ _ nilN hr' (by simp only [wz, wzL]; omega)
      · exact q _ _ hw' .non (by simp only [wz]; omega)
    cases hf2 : formB w r with
    | false => exact if_t rfl four
    | true =>
      refine if_f rfl ?_
      obtain ⟨ws, rs, rfl, rfl⟩ := form_yes hf2
      refine eq_nilT hw.dat (by have := hw.sh.dep; show dep (dps ws) ≤ 64; omega) ?_
      walk_at "wx"
      have lw := hw.items.1
      have lr := hr.items.1
      have iw := hw.items.2.2
      have ir := hr.items.2.2
      rw [List.length_map] at lw lr
      refine if_b (fun _ => four) fun hb => ?_
      have h0 : 1 ≤ ws.length := by
        cases ws with
        | nil => cases hb
        | cons _ _ => simp
      unfold dps rps
      walk_at "wx"
      rw [List.length_map, List.length_map]
      refine ⟨by omega, by omega, fun x x0 x1 => ?_⟩
      obtain ⟨x, rfl⟩ := Int.eq_ofNat_of_zero_le x0
      have gx : (ws.map D.str)[x]? = some (.str (ws[x]'(by omega))) := by rw [List.getElem?_map, List.getElem?_eq_getElem (by omega)]; rfl
      refine ix_datT gx ?_
      refine ⟨by omega, by omega, fun y y0 y1 => ?_⟩
      obtain ⟨y, rfl⟩ := Int.eq_ofNat_of_zero_le y0
      have gy : (ws.map D.str)[y]? = some (.str (ws[y]'(by omega))) := by rw [List.getElem?_map, List.getElem?_eq_getElem (by omega)]; rfl
      refine ix_datT gy ?_
      refine ⟨by omega, by omega, fun at' a0 a1 => ?_⟩
      intro i i0 i1
      refine ⟨by decide, fun j j0 j1 => ix_any j0 (by show j < 6; exact j1) fun z hz => ?_⟩
      have hz2 : ∀ k, Nice (m + 8) k z ∧ wz z = 1921 := fun k => by
        simp only [List.mem_cons, List.not_mem_nil, or_false] at hz
        rcases hz with rfl | rfl | rfl | rfl | rfl | rfl
        · exact ⟨.int (by decide +kernel), rfl⟩
        · exact ⟨.int (by decide +kernel), rfl⟩
        · exact ⟨.int (by decide +kernel), rfl⟩
        · exact ⟨.int (by decide +kernel), rfl⟩
        · exact ⟨.bl, rfl⟩
        · refine ⟨.int ((Nat.log2_lt (by omega)).mpr (Nat.lt_of_lt_of_le (show _ < 2 ^ 64 by omega) (Nat.pow_le_pow_right (by decide) (by decide)))), rfl⟩
      obtain ⟨n, rfl⟩ := Int.eq_ofNat_of_zero_le a0
      have mx : D.str (ws[x]'(by omega)) ∈ ws.map D.str := List.mem_of_getElem? gx
      have my : D.str (ws[y]'(by omega)) ∈ ws.map D.str := List.mem_of_getElem? gy
      generalize D.str (ws[x]'(by omega)) = dx at mx gx ⊢
      generalize D.str (ws[y]'(by omega)) = dy at my gy ⊢
      have ezw : wz (dps ws) = wzL (ws.map D.str) + 3 := rfl
      have ezr : wz (rps rs) = wzL (rs.map rpD) + 3 := rfl
      have zx := wzL_mem mx
      have zy := wzL_mem my
      have ix := iw _ mx
      have iy := iw _ my
      have e1 : (n : Int) + 1 = ((n + 1 : Nat) : Int) := by omega
      have lw' : (ws.map D.str).length ≤ m := by rw [List.length_map]; exact lw
      have lr' : (rs.map rpD).length ≤ m := by rw [List.length_map]; exact lr
      have hw2 : Nice (m + 8) (N + 4) (.tup (ws.map D.str)) := hw'
      have hr2 : Nice (m + 8) (N + 4) (.tup (rs.map rpD)) := hr'
      have ezw2 : wz (.tup (ws.map D.str)) = wzL (ws.map D.str) + 3 := rfl
      have ezr2 : wz (.tup (rs.map rpD)) = wzL (rs.map rpD) + 3 := rfl
      rw [ezw, ezr] at hT
      generalize ws.map D.str = lws at *
      generalize rs.map rpD = lrs at *
      refine if_b (fun _ => ?_) fun _ => if_b (fun _ => ?_) fun _ => ?_
      · rw [cut_to (by omega), cut_from (by omega), Int.toNat_natCast]
        have l3 : (lrs.take n).length + (lrs.drop n).length = lrs.length := by rw [List.length_take, List.length_drop]; omega
        have z3 := wzL_cut lrs n
        refine ⟨by omega, by simp only [List.length_append, List.length_cons, List.length_nil]; omega, ?_⟩
        refine q _ _ hw2 (.tupN (by omega) (by simp only [List.length_append, List.length_cons, List.length_nil]; omega) fun d hd => ?_) ?_
        · have up : ∀ d ∈ lrs, Nice (m + 8) (N + 4 - 1) d := fun d hd => (ir d hd).mono (by omega) (by omega)
          rcases List.mem_append.mp hd with hd | hd
          · rcases List.mem_append.mp hd with hd | hd
            · exact up _ (List.mem_of_mem_take hd)
            · rw [List.mem_singleton.mp hd]
              refine .tupN (by omega) (by show 3 ≤ _; omega) fun d hd => ?_
              simp only [List.mem_cons, List.not_mem_nil, or_false] at hd
              rcases hd with rfl | rfl | rfl
              · exact ix.mono (by omega) (by omega)
              · exact iy.mono (by omega) (by omega)
              · exact (hz2 _).1
          · exact up _ (List.mem_of_mem_drop hd)
        · have := (hz2 0).2
          rw [ezw2, wz, wzL_app, wzL_app]
          simp only [wz, wzL]
          omega
      · rw [cut_to (by omega), e1, cut_from (by omega), Int.toNat_natCast, Int.toNat_natCast]
        have l3 : (lws.take n).length + (lws.drop (n + 1)).length ≤ lws.length := by rw [List.length_take, List.length_drop]; omega
        have z3 := wzL_cut lws n
        have z4 := wzL_cut (lws.drop n) 1
        rw [List.drop_drop] at z4
        refine ⟨by omega, ?_⟩
        refine q _ _ (.tupN (by omega) (by rw [List.length_append]; omega) fun d hd => ?_) hr2 ?_
        · have up : ∀ d ∈ lws, Nice (m + 8) (N + 4 - 1) d := fun d hd => (iw d hd).mono (by omega) (by omega)
          rcases List.mem_append.mp hd with hd | hd
          · exact up _ (List.mem_of_mem_take hd)
          · exact up _ (List.mem_of_mem_drop hd)
        · rw [ezr2, wz, wzL_app]
          omega
      · refine lc_m (cs ("abcdefg" : Str)) (fun c => D.str ⟨#[c]⟩) (fun c => D.str ("z" ++ ⟨#[c]⟩)) rfl (by decide) (fun c hc K1 k1 => ?_) ?_
        · walk_at "wx"
          refine ⟨by show 1 + 1 ≤ sizeLine; omega, ?_⟩
          exact k1
        walk_at "wx"
        intro u u0 u1
        rw [cut_to (by omega)]
        have l7 : (((cs ("abcdefg" : Str)).map fun c => D.str ("z" ++ ⟨#[c]⟩)).take (1 + u).toNat).length ≤ 7 := by
          have e7 : (cs ("abcdefg" : Str)).length = 7 := by decide
          rw [List.length_take, List.length_map, e7]; omega
        have p7 : ∀ d ∈ ((cs ("abcdefg" : Str)).map fun c => D.str ("z" ++ ⟨#[c]⟩)).take (1 + u).toNat, Nice (m + 8) (N + 4 - 1) d ∧ wz d ≤ 22 := fun d hd => by
          obtain ⟨c, hc, rfl⟩ := List.mem_map.mp (List.mem_of_mem_take hd)
          have hl : ("z" ++ (⟨#[c]⟩ : Str) : Str).length = 2 := by rw [Str.length_append]; rfl
          have hc2 : c < 0x110000 := of_decide_eq_true (List.all_eq_true.mp (show (cs ("abcdefg" : Str)).all (fun c => decide (c < 0x110000)) = true from by decide) c hc)
          refine ⟨.str (by omega) (sOk_append (sOk_ofString "z") fun x hx => ?_), by show 10 * _ + 2 ≤ 22; omega⟩
          have : x = c := by simpa using hx
          rw [this]; exact hc2
        generalize ((cs ("abcdefg" : Str)).map fun c => D.str ("z" ++ ⟨#[c]⟩)).take (1 + u).toNat = zs at l7 p7 ⊢
        have hz7 : wzL zs ≤ zs.length * 24 := by
          clear l7
          induction zs with
          | nil => simp [wzL]
          | cons z r ih =>
            have h1 := (p7 z List.mem_cons_self).2
            have h2 := ih fun d hd => p7 d (List.mem_cons_of_mem _ hd)
            rw [wzL, List.length_cons]; omega
        refine ⟨by omega, ?_⟩
        refine q _ _ (.tupN (by omega) (by rw [List.length_append]; omega) fun d hd => ?_) hr2 ?_
        · rcases List.mem_append.mp hd with hd | hd
          · exact (iw d hd).mono (by omega) (by omega)
          · exact (p7 d hd).1
        · rw [ezr2, wz, wzL_app]
          omega

theorem wzL_le {l : List D} {k : Nat} (h : ∀ d ∈ l, wz d ≤ k) : wzL l ≤ l.length * (k + 2) := by
  induction l with
  | nil => simp [wzL]
  | cons d r ih =>
    have h1 := h d List.mem_cons_self
    have h2 := ih fun x hx => h x (List.mem_cons_of_mem _ hx)
    rw [wzL, List.length_cons, Nat.succ_mul]; omega
theorem word_nice {x : Str} {n : Nat} (h : isW x) : Nice 40 n (.str x) ∧ wz (.str x) ≤ 62 := by
  have h1 := h.hi
  rw [cs_len] at h1
  refine ⟨.str (by omega) fun c hc => ?_, by show 10 * _ + 2 ≤ _; omega⟩
  have := h.al c hc
  omega
theorem int_log {i : Int} (h0 : 0 ≤ i) (h1 : i ≤ 100) : i.natAbs.log2 < 1920 := by
  by_cases e : i = 0
  · subst e; decide
  · exact (Nat.log2_lt (by omega)).mpr (Nat.lt_of_lt_of_le (show _ < 2 ^ 64 by omega) (Nat.pow_le_pow_right (by decide) (by decide)))
theorem good_nice {ws : List Str} {rs : List Rp} (W : WebOk ws rs) (h1 : rs.length ≤ 36) (h2 : ∀ r ∈ rs, r.2.2 ≤ 100) : Nice 40 2 (dps ws) ∧ Nice 40 2 (rps rs) ∧ wz (dps ws) + wz (rps rs) ≤ 75000 := by
  have hw : ∀ d ∈ ws.map D.str, Nice 40 1 d ∧ wz d ≤ 62 := fun d hd => by
    obtain ⟨x, hx, rfl⟩ := List.mem_map.mp hd
    exact word_nice (W.wd x hx)
  have hr : ∀ d ∈ rs.map rpD, Nice 40 1 d ∧ wz d ≤ 2054 := fun d hd => by
    obtain ⟨r, hr, rfl⟩ := List.mem_map.mp hd
    have R := W.rp r hr
    have a := word_nice (n := 0) (W.wd _ R.a)
    have b := word_nice (n := 0) (W.wd _ R.b)
    refine ⟨.tupN (by omega) (by show 3 ≤ 40; omega) fun d hd => ?_, ?_⟩
    · simp only [List.mem_cons, List.not_mem_nil, or_false] at hd
      rcases hd with rfl | rfl | rfl
      · exact a.1
      · exact b.1
      · exact .int (int_log R.nn (h2 r hr))
    · have e : wz (rpD r) = wzL [.str r.1, .str r.2.1, .int r.2.2] + 3 := rfl
      have a2 := a.2
      have b2 := b.2
      rw [e, wzL, wzL, wzL, wzL]
      show _ + 2 + (_ + 2 + (1921 + 2 + 0)) + 3 ≤ _
      omega
  have z1 := wzL_le (k := 62) fun d hd => (hw d hd).2
  have z2 := wzL_le (k := 2054) fun d hd => (hr d hd).2
  rw [List.length_map] at z1 z2
  have hhi := W.hi
  refine ⟨.tupN (by omega) (by rw [List.length_map]; omega) fun d hd => (hw d hd).1, .tupN (by omega) (by rw [List.length_map]; omega) fun d hd => (hr d hd).1, ?_⟩
  have e1 : wz (dps ws) = wzL (ws.map D.str) + 3 := rfl
  have e2 : wz (rps rs) = wzL (rs.map rpD) + 3 := rfl
  rw [e1, e2]
  omega
def tB : Nat → Nat
  | 0 => 75000
  | n + 1 => 4 * tB n + 9000
theorem tB_le : ∀ {n : Nat}, n ≤ 3 → tB n ≤ 4989000
  | 0, _ => by decide
  | 1, _ => by decide
  | 2, _ => by decide
  | 3, _ => by decide
  | n + 4, h => by omega
/-- walkers and ropes a law may hold -/
structure Two (v : D) (w r : D) : Prop where
  eq : v = .tup [w, r]
  nw : Nice 64 14 w
  nr : Nice 64 14 r
  z : wz w + wz r ≤ 4989000
theorem due_word {w r : D} {p : Str × Nat} (h : Due w r (some p)) (lw : lenD1 w) (lr : lenD1 r) : sOk p.1 ∧ p.1.length ≤ 6 ∧ p.2 ≤ 900 := by
  generalize ho : some p = o at h
  cases h with
  | form _ => cases ho; exact ⟨sOk_ofString "form", by decide, Nat.zero_le _⟩
  | size _ => cases ho; exact ⟨sOk_ofString "size", by decide, Nat.zero_le _⟩
  | walker _ _ hi _ _ =>
    cases ho
    have := lw _ rfl
    rw [List.length_map] at this
    have := lt_of_get hi
    exact ⟨sOk_ofString "walker", by show (("walker" : Str)).length ≤ 6; decide, by show _ ≤ 900; omega⟩
  | rope _ _ _ hi _ _ =>
    cases ho
    have := lr _ rfl
    rw [List.length_map] at this
    have := lt_of_get hi
    exact ⟨sOk_ofString "rope", by show (("rope" : Str)).length ≤ 6; decide, by show _ ≤ 900; omega⟩
  | good _ _ _ _ => cases ho
theorem told_sh {v w r : D} {o : Option (Str × Nat)} (h : Two v w r) (hd : Due w r o) : ShOk (toldD w r o) := by
  cases o with
  | some p =>
    obtain ⟨h1, h2, h3⟩ := due_word hd (h.nw.lens (by omega)) (h.nr.lens (by omega))
    exact (sh_tup (l := [.str p.1, .int (p.2 : Int)]) (n := 0) (L := 1921) fun d hd => by
      simp only [List.mem_cons, List.not_mem_nil, or_false] at hd
      rcases hd with rfl | rfl
      · exact (sh_str h1).mono (Nat.le_refl _) (by omega)
      · refine sh_atom (d := .int _) ?_
        show Nat.log2 _ < 1920
        by_cases e : p.2 = 0
        · rw [e]; decide
        · exact (Nat.log2_lt (by omega)).mpr (Nat.lt_of_lt_of_le (show _ < 2 ^ 64 by omega) (Nat.pow_le_pow_right (by decide) (by decide)))).to (by decide) (by show 2 * (1921 + 2) + 3 ≤ sizeLine; decide)
  | none =>
    have hl := h.nw.lens (by omega)
    have hz := h.z
    have hlen : (itemsD w).length ≤ 900 := by
      cases hw : w with
      | tup l => exact hl l hw
      | _ => exact Nat.zero_le _
    exact (sh_lst (l := [w, r, .int ((itemsD w).length : Int)]) (n := 14) (L := 4989000) fun d hd => by
      simp only [List.mem_cons, List.not_mem_nil, or_false] at hd
      rcases hd with rfl | rfl | rfl
      · exact h.nw.sh.mono (Nat.le_refl _) (by omega)
      · exact h.nr.sh.mono (Nat.le_refl _) (by omega)
      · refine (sh_atom (d := .int _) ?_).mono (Nat.le_refl _) (by omega)
        show Nat.log2 _ < 1920
        by_cases e : (itemsD w).length = 0
        · rw [e]; decide
        · exact (Nat.log2_lt (by omega)).mpr (Nat.lt_of_lt_of_le (show _ < 2 ^ 64 by omega) (Nat.pow_le_pow_right (by decide) (by decide)))).to (by decide) (by show 3 * (4989000 + 2) + 3 ≤ sizeLine; decide)
theorem w_neS {p q : Str} {Q : D → Prop} {sd : SpD} {C : Str} : ownNeD C sd neX (.str p) (.str q) Q = Q (.bl (!decide (p = q))) := by
  show neX (.str p) (.str q) Q = _
  rw [x_neS]
theorem one_go {g : TDG} {tb : TDS} {F : DEnds} {δ : DSt} {ds : List D} (P : DSt → Prop) (h0 : P δ) (st : ∀ d ∈ ds, ∀ δ', P δ' → g d δ' fun δ2 => tb { F with nx := P, ct := P, bk := F.nx } δ2) (fin : ∀ δ', P δ' → F.nx δ') : forB g tb F ds δ :=
  for_go (fun _ δ => P δ) h0 (fun i d δ' hd h => st d (List.mem_of_getElem? hd) δ' h) fun δ' h => fin δ' h
def sd_law : SpD := fun ds Q => ∃ ns, ds = [.scr ns] ∧ Q (.bl true)
theorem len_law (ds : List D) (Q : D → Prop) (h : sd_law ds Q) : ds.length = 1 := by obtain ⟨ns, rfl, _⟩ := h; rfl
abbrev N_law : List Str := ["_law_script", "_law_base", "_law_box_here", "_law_good", "_law_turn", "_law_bent_here", "_law_more", "_law_walkers", "_law_ropes", "_law_due_here"]
theorem sc_law : FnScope N_law ["_law_script"] (defScope st_law) := ⟨rfl, rfl, rfl, by decide +kernel, rfl, by decide +kernel, by decide +kernel⟩
def t_law : TDS :=
  dSeq (dFor (iRange1 (dC (.int 3))) (dgName 1) (dSeq (dAsg (dCall sd__law_box (dCons (dVar 0) (dCons (dVar 1) (dNil)))) 2)
  (dSeq (dAsg (dCall sd__law_web (dCons (dVar 2) (dCons (dC (.int 6)) (dNil)))) 3)
  (dFor (iRange1 (dC (.int 7))) (dgName 4) (dSeq (dAsg (dVar 3) 5)
  (dSeq (dFor (iRange1 (dCall sd__law_take (dCons (dVar 2) (dCons (dC (.int 4)) (dNil))))) (dgName 6) (dAsg (dCall sd__law_bent (dCons (dVar 2) (dCons (dBin ixX (.sl 5) (.ex (dC (.int 0)))) (dCons (dBin ixX (.sl 5) (.ex (dC (.int 1)))) (dNil))))) 5))
  (dFor (iSeq (dTup (dCons (dVar 5) (dCons (dVar 3) (dCons (dVar 5) (dNil)))))) (dgSeq 2 (dgCons (dgName 7) (dgCons (dgName 8) (dgNil)))) (dSeq (dAsg (dCall sd__law_due (dCons (dVar 7) (dCons (dVar 8) (dNil)))) 9)
  (dSeq (dIfS (dtBin (isD) (.sl 9) (.ex (dC .non))) (dAsg (dLst (dCons (dVar 7) (dCons (dVar 8) (dCons (dB1 lenD (.sl 7)) (dNil))))) 9) (dNext))
  (dIfS (dtB2 (ownNeD "Length" sd_Length___eq__ neX) (dB1 reprD (.ex (dCall sd__law_told (dCons (dVar 7) (dCons (dVar 8) (dNil)))))) (dB1 reprD (.sl 9))) (dRet (dC (.bl false))) (dNext)))))))))))
  (dRet (dC (.bl true)))
theorem pure_law (ds : List D) (Q : D → Prop) (h : sd_law ds Q) : t_law (ends Q) (startD 10 ds) := by
  obtain ⟨ns, rfl, q⟩ := h
  unfold t_law
  walk_at "wx"
  refine one_go (fun (δ : DSt) => ∃ c1 c2 c3 c4 c5 c6 c7 c8 c9, δ = [.im (.scr ns), c1, c2, c3, c4, c5, c6, c7, c8, c9]) ⟨_, _, _, _, _, _, _, _, _, rfl⟩ ?_ ?_
  · rintro d hdm δ' ⟨c1, c2, c3, c4, c5, c6, c7, c8, c9, rfl⟩
    obtain ⟨i, hd⟩ := mem_get hdm
    obtain ⟨_, rfl⟩ := rng_get (n := 3) hd
    have hi3 : i < 3 := (rng_get (n := 3) hd).1
    walk_at "wx"
    rw [box_at (by omega)]
    intro bx
    walk_at "wx"
    refine ⟨bx, 6, rfl, by decide, by decide, fun ws rs w hw hr hb hn => ?_⟩
    obtain ⟨g1, g2, g3⟩ := good_nice w hr hb
    have hg : Two (.tup [dps ws, rps rs]) (dps ws) (rps rs) := ⟨rfl, g1.mono (by omega) (by omega), g2.mono (by omega) (by omega), by omega⟩
    generalize dps ws = w0 at *
    generalize rps rs = r0 at *
    walk_at "wx"
    refine one_go (fun (δ : DSt) => ∃ c4 c5 c6 c7 c8 c9, δ = [.im (.scr ns), .im (.int (i : Int)), .im (.box bx), .im (.tup [w0, r0]), c4, c5, c6, c7, c8, c9]) ⟨_, _, _, _, _, _, rfl⟩ ?_ ?_
    · rintro d hdm δ' ⟨c4, c5, c6, c7, c8, c9, rfl⟩
      walk_at "wx"
      intro t t0 t1
      refine ⟨by omega, ?_⟩
      refine for_go (fun (j : Nat) (δ : DSt) => ∃ w r c6 c7 c8 c9, (Nice (40 + 8 * j) (2 + 4 * j) w ∧ Nice (40 + 8 * j) (2 + 4 * j) r ∧ wz w + wz r ≤ tB j) ∧ δ = [.im (.scr ns), .im (.int (i : Int)), .im (.box bx), .im (.tup [w0, r0]), .im d, .im (.tup [w, r]), c6, c7, c8, c9]) ⟨w0, r0, _, _, _, _, ⟨g1, g2, g3⟩, rfl⟩ ?_ ?_
      · rintro j d2 δ' hd2 ⟨w, r, c6, c7, c8, c9, ⟨n1, n2, n3⟩, rfl⟩
        obtain ⟨hj, rfl⟩ := rng_get hd2
        walk_at "wx"
        refine ⟨bx, w, r, 40 + 8 * j, 2 + 4 * j, tB j, rfl, n1, n2, by omega, by omega, by omega, by omega, n3, fun w' r' h1 h2 h3 => ?_⟩
        walk_at "wx"
        exact ⟨w', r', _, _, _, _, ⟨h1.mono (by omega) (by omega), h2.mono (by omega) (by omega), h3⟩, rfl⟩
      · rintro δ' ⟨w, r, c6, c7, c8, c9, ⟨n1, n2, n3⟩, rfl⟩
        rw [rngD_len] at n1 n2 n3
        have hv : Two (.tup [w, r]) w r := ⟨rfl, n1.mono (by omega) (by omega), n2.mono (by omega) (by omega), Nat.le_trans n3 (tB_le (by omega))⟩
        walk_at "wx"
        refine one_go (fun (δ : DSt) => ∃ c6 c7 c8 c9, δ = [.im (.scr ns), .im (.int (i : Int)), .im (.box bx), .im (.tup [w0, r0]), .im d, .im (.tup [w, r]), c6, c7, c8, c9]) ⟨_, _, _, _, rfl⟩ ?_ ?_
        · rintro x hx δ' ⟨c6, c7, c8, c9, rfl⟩
          obtain ⟨w1, r1, h1⟩ : ∃ w1 r1, Two x w1 r1 := by
            simp only [List.mem_cons, List.not_mem_nil, or_false] at hx
            rcases hx with rfl | rfl | rfl
            · exact ⟨_, _, hv⟩
            · exact ⟨_, _, hg⟩
            · exact ⟨_, _, hv⟩
          obtain ⟨o, ho⟩ := due_all w1 r1
          have sh := told_sh h1 ho
          have e := h1.eq
          subst e
          walk_at "wx"
          refine ⟨w1, r1, o, rfl, h1.nw.dat, h1.nr.dat, h1.nw.lens (by omega), h1.nr.lens (by omega), h1.nw.texts (by omega), ho, ?_⟩
          walk_at "wx"
          cases o with
          | some p =>
            unfold dueD
            walk_at "wx"
            refine ⟨w1, r1, some p, rfl, h1.nw.dat, h1.nr.dat, h1.nw.lens (by omega), h1.nr.lens (by omega), h1.nw.texts (by omega), ho, ?_⟩
            walk_at "wx"
            refine ⟨sh, sh, ?_⟩
            rw [w_neS]
            refine if_f (by rw [decide_eq_true (show (py (toldD w1 r1 (some p))).shown = (py (.tup [.str p.1, .int (p.2 : Int)])).shown from rfl)]; rfl) ⟨_, _, _, _, rfl⟩
          | none =>
            unfold dueD
            walk_at "wx"
            obtain ⟨l, rfl⟩ : ∃ l, w1 = .tup l := by
              generalize hz : (none : Option (Str × Nat)) = z at ho
              cases ho with
              | good _ _ _ _ => exact ⟨_, rfl⟩
              | _ => cases hz
            walk_at "wx"
            refine ⟨.tup l, r1, none, rfl, h1.nw.dat, h1.nr.dat, h1.nw.lens (by omega), h1.nr.lens (by omega), h1.nw.texts (by omega), ho, ?_⟩
            refine ⟨sh, sh, ?_⟩
            rw [w_neS]
            refine if_f (by rw [decide_eq_true (show (py (toldD (.tup l) r1 none)).shown = (py (.lst [.tup l, r1, .int (l.length : Int)])).shown from rfl)]; rfl) ⟨_, _, _, _, rfl⟩
        · rintro δ' ⟨c6, c7, c8, c9, rfl⟩
          exact ⟨_, _, _, _, _, _, rfl⟩
    · rintro δ' ⟨c4, c5, c6, c7, c8, c9, rfl⟩
      exact ⟨_, _, _, _, _, _, _, _, _, rfl⟩
  · rintro δ' ⟨c1, c2, c3, c4, c5, c6, c7, c8, c9, rfl⟩
    walk_at "wx"
    exact q

theorem ok_is_word {P : Program} {w : World} {K : PySem.W.Frag} {mg : Str → Option Value} {base : Heap} {f : Addr} {fd : FuncData} (F : FnQ K "is_word" "is_word" st_is_word f fd) (m_all : mg "all" = none) (g_LETTERS : ∃ t, mg "LETTERS" = some (.str "abcdefghijklmnopqrstuvwxyz" t)) (m_len : mg "len" = none) (m_isinstance : mg "isinstance" = none) (m_str : mg "str" = none) : FnOk P w K mg base CX0 2 f fd ["value"] (toSp K sd_is_word) :=
  fn_d (k := 1) (t := t_is_word) F sc_is_word len_is_word (fun cdv A outer s H E e hr => dss_cons (ds_if (DW.dt (dw_or (dt_not (dt_tru (oex (de_isiX (de_var (pv 0)) (de_ty rfl m_str (by decide +kernel)) rfl m_isinstance)))) (dw_or1 (dt_not (dt_chain opd_le opd_le (de_int) (de_len (osl (pv 0)) rfl m_len) (de_int)))))) (dss_one (ds_ret (de_bl))) (dss_nil))
    (dss_one (ds_ret (de_all rfl (oex (DO.de (do_lc (own := [("letter", 1)]) (fp := [1]) rfl sc_is_word.nd (di_str (de_var (pv 0))) (blkOk_by (N := N_is_word) (sc := defScope st_is_word) (own := [("letter", 1)]) (by decide +kernel)) (fun _ _ _ _ _ => dg_name (i := 1) sc_is_word.nd rfl (Or.inl rfl)) (fun _ _ _ _ _ => dts_nil) (fun _ _ _ _ _ => de_cmp (opd_inX (k0 := 0) (Room.mono (j := 0 + 1) hr (by decide))) (osl (pv 1)) (oex (de_gstrX rfl g_LETTERS (by decide +kernel))) rfl)))) rfl m_all)))) pure_is_word
theorem ok__law_take {P : Program} {w : World} {K : PySem.W.Frag} {mg : Str → Option Value} {base : Heap} {f : Addr} {fd : FuncData} (F : FnQ K "_law_take" "_law_take" st__law_take f fd) (m_len : mg "len" = none) : FnOk P w K mg base CX0 2 f fd ["_law_box_here", "_law_many"] (toSp K sd__law_take) :=
  fn_d (k := 1) (t := t__law_take) F sc__law_take len__law_take (fun cdv A outer s H E e hr => dss_cons (ds_great hr (pv 0) (pv 0) (pv 0) (pv 0) rfl m_len)
    (dss_cons (ds_if (dt_cmp opd_gt (oex (de_ixB hr (osl (pv 0)) (oex (de_str (by decide +kernel))))) (oex (de_int)) rfl) (dss_cons (ds_set (i := 2) sc__law_take.nd rfl (Or.inl rfl) (de_bin opd_mod (oex (de_ixB hr (osl (pv 0)) (oex (de_str (by decide +kernel))))) (osl (pv 1))))
    (dss_cons (ds_asg (de_bin opd_fdiv (oex (de_ixB hr (osl (pv 0)) (oex (de_str (by decide +kernel))))) (osl (pv 1))) (dg_box hr (pv 0) (by decide +kernel)))
    (dss_one (ds_ret (de_var (pv 2)))))) (dss_nil))
    (dss_cons (ds_asg (de_bin opd_addX (oex (de_ixB hr (osl (pv 0)) (oex (de_str (by decide +kernel))))) (oex (de_int))) (dg_box hr (pv 0) (by decide +kernel)))
    (dss_cons (ds_set (i := 3) sc__law_take.nd rfl (Or.inl rfl) (de_bin opd_mod (oex (de_bin opd_mulX (oex (de_bin opd_mod (oex (de_bin opd_addX (oex (de_ixB hr (osl (pv 0)) (oex (de_str (by decide +kernel))))) (oex (de_bin opd_mulX (oex (de_int)) (oex (de_ixB hr (osl (pv 0)) (oex (de_str (by decide +kernel))))))))) (oex (de_int)))) (oex (de_int)))) (oex (de_int))))
    (dss_cons (ds_asg (de_bin opd_addX (oex (de_bin opd_mod (oex (de_bin opd_addX (osl (pv 3)) (oex (de_bin opd_mulX (oex (de_int)) (oex (de_ixB hr (osl (pv 0)) (oex (de_str (by decide +kernel))))))))) (oex (de_int)))) (oex (de_int))) (dg_box hr (pv 0) (by decide +kernel)))
    (dss_one (ds_ret (de_bin opd_mod (oex (de_bin opd_fdiv (oex (de_bin opd_addX (oex (de_bin opd_mulX (osl (pv 3)) (oex (de_int)))) (oex (de_ixB hr (osl (pv 0)) (oex (de_str (by decide +kernel))))))) (oex (de_int)))) (osl (pv 1)))))))))) pure__law_take
theorem ok__law_box {P : Program} {w : World} {K : PySem.W.Frag} {mg : Str → Option Value} {base : Heap} {f : Addr} {fd : FuncData} (F : FnQ K "_law_box" "_law_box" st__law_box f fd) (m_abs : mg "abs" = none) : FnOk P w K mg base CX0 2 f fd ["_law_script", "_law_base"] (toSp K sd__law_box) :=
  fn_d (k := 1) (t := t__law_box) F sc__law_box len__law_box (fun cdv A outer s H E e hr => dss_cons (ds_set (i := 2) sc__law_box.nd rfl (Or.inl rfl) (de_bin opd_addX (oex (de_int)) (oex (de_bin opd_mulX (oex (de_int)) (osl (pv 1))))))
    (dss_cons (ds_for PassesOwn.never rfl (di_seq (de_slice (osl (pv 0)) (dp_none) (dp_some (de_int)))) (dg_name (i := 3) sc__law_box.nd rfl (Or.inl rfl)) (dss_one (ds_set (i := 2) sc__law_box.nd rfl (Or.inl rfl) (de_bin opd_mod (oex (de_bin opd_addX (oex (de_bin opd_addX (oex (de_bin opd_mulX (osl (pv 2)) (oex (de_int)))) (oex (de_bin opd_mod (oex (de_abs (osl (pv 3)) rfl m_abs)) (oex (de_int)))))) (oex (de_int)))) (oex (de_int))))))
    (dss_cons (ds_setLc (i := 4) (own := [("_law_cell", 3)]) (fp := [3]) rfl sc__law_box.nd rfl rfl (sw_true rfl rfl rfl (by decide +kernel)) (di_seq (de_slice (osl (pv 0)) (dp_some (de_var (pv 1))) (dp_some (de_int)))) (blkOk_by (N := N__law_box) (sc := defScope st__law_box) (own := [("_law_cell", 3)]) (by decide +kernel)) (fun _ _ _ _ _ => dg_name (i := 3) sc__law_box.nd rfl (Or.inl rfl)) (fun _ _ _ _ _ => dts_one (dt_cmp opd_ge (oex (de_abs (osl (pv 3)) rfl m_abs)) (oex (de_bin opd_pow (oex (de_int)) (oex (de_int)))) rfl)) (fun _ _ _ _ _ => de_abs (osl (pv 3)) rfl m_abs))
    (dss_one (ds_ret (de_boxNew (do_rev (osl (pv 4))) (de_bin opd_addX (osl (pv 2)) (oex (de_int))))))))) pure__law_box
theorem ok__law_mixed {P : Program} {w : World} {K : PySem.W.Frag} {mg : Str → Option Value} {base : Heap} {f : Addr} {fd : FuncData} (F : FnQ K "_law_mixed" "_law_mixed" st__law_mixed f fd) (m_range : mg "range" = none) (m_len : mg "len" = none) (c__law_take : CalR P w K mg base 2 "_law_take" sd__law_take) (m_list : mg "list" = none) : FnOk P w K mg base CX0 3 f fd ["_law_box_here", "_law_items"] (toSp K sd__law_mixed) :=
  fn_d (k := 2) (t := t__law_mixed) F sc__law_mixed len__law_mixed (fun cdv A outer s H E e hr => dss_cons (ds_par2 (i := 2) (j := 3) rfl sc__law_mixed.nd rfl rfl (by decide) rfl rfl (ea_cons (v := .ow (dB1 listA (.sl 1))) (eow (do_listA rfl (osl (pv 1)) rfl m_list)) (ea_cons (v := .ow (dLst (dNil))) (eow (do_lst (da_nil))) (ea_nil))) rfl)
    (dss_cons (ds_for PassesOwn.never rfl (di_range1 rfl m_range (de_len (osl (pv 2)) rfl m_len)) (dg_name (i := 4) sc__law_mixed.nd rfl (Or.inl rfl)) (dss_one (ds_expr (de_append (pv 3) (de_popAt (pv 2) (de_callR c__law_take hr (by decide) rfl (da_cons (de_var (pv 0)) (da_cons (de_len (osl (pv 2)) rfl m_len) (da_nil)))))))))
    (dss_one (ds_ret (de_var (pv 3)))))) pure__law_mixed
theorem ok__law_names {P : Program} {w : World} {K : PySem.W.Frag} {mg : Str → Option Value} {base : Heap} {f : Addr} {fd : FuncData} (F : FnQ K "_law_names" "_law_names" st__law_names f fd) (c__law_mixed : CalR P w K mg base 3 "_law_mixed" sd__law_mixed) (m_int : mg "int" = none) (m_range : mg "range" = none) (m_min : mg "min" = none) (c__law_take : CalR P w K mg base 2 "_law_take" sd__law_take) (m_len : mg "len" = none) : FnOk P w K mg base CX0 4 f fd ["_law_box_here", "_law_many"] (toSp K sd__law_names) :=
  fn_d (k := 3) (t := t__law_names) F sc__law_names len__law_names (fun cdv A outer s H E e hr => dss_cons (ds_set (i := 2) sc__law_names.nd rfl (Or.inr rfl) (de_str (by decide +kernel)))
    (dss_cons (ds_set (i := 3) sc__law_names.nd rfl (Or.inl rfl) (DO.de (de_splitW (by decide +kernel) (by decide +kernel) rfl (by decide +kernel))))
    (dss_cons (ds_set (i := 4) sc__law_names.nd rfl (Or.inl rfl) (de_join (de_str (by decide +kernel)) (DO.de (do_lc (own := [("_law_k", 10)]) (fp := [10]) rfl sc__law_names.nd (di_range1 rfl m_range (de_callR c__law_take hr (by decide) rfl (da_cons (de_var (pv 0)) (da_cons (de_int) (da_nil))))) (blkOk_by (N := N__law_names) (sc := defScope st__law_names) (own := [("_law_k", 10)]) (by decide +kernel)) (fun _ _ _ _ _ => dg_name (i := 10) sc__law_names.nd rfl (Or.inl rfl)) (fun _ _ _ _ _ => dts_nil) (fun _ _ _ _ _ => de_ixX hr (osl (pv 2)) (oex (de_callR c__law_take hr (by decide) rfl (da_cons (de_var (pv 0)) (da_cons (de_int) (da_nil))))))))))
    (dss_cons (ds_parT (is := [5, 6, 7]) rfl (.cons (pg_name (i := 5) sc__law_names.nd rfl (Or.inl rfl)) (.cons (pg_name (i := 6) sc__law_names.nd rfl (Or.inr rfl)) (.cons (pg_name (i := 7) sc__law_names.nd rfl (Or.inl rfl)) (Nms.nil)))) (ea_cons (v := .im (dCall sd__law_take (dCons (dVar 0) (dCons (dBin addX (.ex (dB1 lenD (.sl 4))) (.ex (dC (.int 1)))) (dNil))))) (eim (de_callR c__law_take hr (by decide) rfl (da_cons (de_var (pv 0)) (da_cons (de_bin opd_addX (oex (de_len (osl (pv 4)) rfl m_len)) (oex (de_int))) (da_nil))))) (ea_cons (v := .im (dCall sd__law_take (dCons (dVar 0) (dCons (dC (.int 26)) (dNil))))) (eim (de_callR c__law_take hr (by decide) rfl (da_cons (de_var (pv 0)) (da_cons (de_int) (da_nil))))) (ea_cons (v := .im (dCall sd__law_take (dCons (dVar 0) (dCons (dC (.int 5)) (dNil))))) (eim (de_callR c__law_take hr (by decide) rfl (da_cons (de_var (pv 0)) (da_cons (de_int) (da_nil))))) (ea_nil)))) rfl (by decide))
    (dss_cons (ds_parT (is := [8, 3, 9]) rfl (.cons (pg_name (i := 8) sc__law_names.nd rfl (Or.inr rfl)) (.cons (pg_name (i := 3) sc__law_names.nd rfl (Or.inl rfl)) (.cons (pg_name (i := 9) sc__law_names.nd rfl (Or.inl rfl)) (Nms.nil)))) (ea_cons (v := .ow (dLst (dNil))) (eow (do_lst (da_nil))) (ea_cons (v := .im (dCall sd__law_mixed (dCons (dVar 0) (dCons (dVar 3) (dNil))))) (eim (de_callR c__law_mixed hr (by decide) rfl (da_cons (de_var (pv 0)) (da_cons (de_var (pv 3)) (da_nil))))) (ea_cons (v := .ow (dLst (dCons (dC (.str "a")) (dCons (dC (.str "b")) (dNil))))) (eow (do_lst (da_cons (de_str (by decide +kernel)) (da_cons (de_str (by decide +kernel)) (da_nil))))) (ea_nil)))) rfl (by decide))
    (dss_cons (ds_for PassesOwn.never rfl (di_range1 rfl m_range (de_var (pv 1))) (dg_name (i := 10) sc__law_names.nd rfl (Or.inl rfl)) (dss_cons (ds_set (i := 11) sc__law_names.nd rfl (Or.inl rfl) (de_bin opd_addX (oex (de_ixX hr (osl (pv 2)) (oex (de_bin opd_mod (oex (de_bin opd_addX (osl (pv 6)) (oex (de_bin opd_mulX (oex (de_int)) (osl (pv 10)))))) (oex (de_int)))))) (oex (de_bin opd_mulX (oex (de_ixX hr (osl (pv 2)) (oex (de_bin opd_fdiv (osl (pv 10)) (oex (de_int)))))) (oex (de_int1 (oex (de_cmp opd_gt (osl (pv 10)) (oex (de_int)) rfl)) rfl m_int))))))
    (dss_cons (ds_expr (de_append (pv 8) (de_bin opd_addX (oex (de_bin opd_addX (oex (de_slice (osl (pv 4)) (dp_none) (dp_some (de_var (pv 5))))) (osl (pv 11)))) (oex (de_slice (osl (pv 4)) (dp_some (de_var (pv 5))) (dp_none))))))
    (dss_one (ds_expr (de_extend (pv 9) (DO.de (do_lst (da_cons (de_bin opd_addX (oex (de_ixX hr (osl (pv 9)) (osl (pv 10)))) (oex (de_str (by decide +kernel)))) (da_cons (de_bin opd_addX (oex (de_ixX hr (osl (pv 9)) (osl (pv 10)))) (oex (de_str (by decide +kernel)))) (da_nil)))))))))))
    (dss_cons (ds_set (i := 12) sc__law_names.nd rfl (Or.inr rfl) (de_join (de_str (by decide +kernel)) (DO.de (do_lc (own := [("_law_k", 10)]) (fp := [10]) rfl sc__law_names.nd (di_range1 rfl m_range (de_int)) (blkOk_by (N := N__law_names) (sc := defScope st__law_names) (own := [("_law_k", 10)]) (by decide +kernel)) (fun _ _ _ _ _ => dg_name (i := 10) sc__law_names.nd rfl (Or.inl rfl)) (fun _ _ _ _ _ => dts_nil) (fun _ _ _ _ _ => de_ixX hr (osl (pv 2)) (oex (de_callR c__law_take hr (by decide) rfl (da_cons (de_var (pv 0)) (da_cons (de_int) (da_nil))))))))))
    (dss_cons (ds_setLc (i := 13) (own := [("_law_k", 10)]) (fp := [10]) rfl sc__law_names.nd rfl rfl (sw_true rfl rfl rfl (by decide +kernel)) (di_range1 rfl m_range (de_min2 rfl (de_var (pv 1)) (de_int) rfl m_min)) (blkOk_by (N := N__law_names) (sc := defScope st__law_names) (own := [("_law_k", 10)]) (by decide +kernel)) (fun _ _ _ _ _ => dg_name (i := 10) sc__law_names.nd rfl (Or.inl rfl)) (fun _ _ _ _ _ => dts_nil) (fun _ _ _ _ _ => de_bin opd_addX (osl (pv 12)) (oex (de_ixX hr (osl (pv 2)) (oex (de_bin opd_mod (oex (de_bin opd_addX (osl (pv 6)) (oex (de_bin opd_mulX (oex (de_int)) (osl (pv 10)))))) (oex (de_int))))))))
    (dss_cons (ds_set (i := 14) sc__law_names.nd rfl (Or.inl rfl) (de_bin opd_addX (oex (DO.de (do_lc (own := [("_law_word", 16)]) (fp := [16]) rfl sc__law_names.nd (di_seq (de_var (pv 3))) (blkOk_by (N := N__law_names) (sc := defScope st__law_names) (own := [("_law_word", 16)]) (by decide +kernel)) (fun _ _ _ _ _ => dg_name (i := 16) sc__law_names.nd rfl (Or.inl rfl)) (fun _ _ _ _ _ => dts_one (dt_cmp (opd_notInX (k0 := 0) (Room.mono (j := 0 + 1) hr (by decide))) (osl (pv 16)) (osl (pv 8)) rfl)) (fun _ _ _ _ _ => de_var (pv 16))))) (osl (pv 8))))
    (dss_cons (ds_set (i := 15) sc__law_names.nd rfl (Or.inl rfl) (DO.de (do_lst (da_cons (de_var (pv 14)) (da_cons (de_var (pv 9)) (da_cons (de_ixX hr (oex (DO.de (do_lst (da_cons (de_var (pv 13)) (da_cons (de_var (pv 8)) (da_nil)))))) (oex (de_int1 (oex (de_cmp opd_gt (osl (pv 1)) (oex (de_int)) rfl)) rfl m_int))) (da_cons (de_var (pv 8)) (da_cons (de_var (pv 8)) (da_nil)))))))))
    (dss_one (ds_ret (de_callR c__law_mixed hr (by decide) rfl (da_cons (de_var (pv 0)) (da_cons (de_slice (oex (de_ixX hr (osl (pv 15)) (osl (pv 7)))) (dp_none) (dp_some (de_var (pv 1)))) (da_nil)))))))))))))))) pure__law_names
theorem ok_Length___init__ {P : Program} {w : World} {K : PySem.W.Frag} {mg : Str → Option Value} {base : Heap} {f : Addr} {fd : FuncData} (F : FnQ K "__init__" "Length.__init__" st_Length___init__ f fd) (h_size : FldOk K "size" ["Length"]) (h_rank : FldOk K "rank" ["Length"]) : FnOk P w K mg base CX0 2 f fd ["self", "number"] (toSpI K "Length" sd_Length___init__) :=
  fn_i (k := 1) (t := t_Length___init__) F sc_Length___init__ len_Length___init__ (fun cdv A outer s H E e hr => dss_cons (ds_fld (pv 0) (de_ifExp (dt_cmp opd_is (osl (pv 1)) (oex (de_non)) rfl) (de_int) (de_int)) h_rank)
    (dss_one (ds_fld (pv 0) (de_ifExp (dt_cmp opd_is (osl (pv 1)) (oex (de_non)) rfl) (de_int) (de_var (pv 1))) h_size))) pure_Length___init__
theorem ok_Length___add__ {P : Program} {w : World} {K : PySem.W.Frag} {mg : Str → Option Value} {base : Heap} {f : Addr} {fd : FuncData} (F : FnQ K "__add__" "Length.__add__" st_Length___add__ f fd) (n_Length : CalI P w K mg base 2 "Length" sd_Length___init__) (h_size : FldOk K "size" ["Length"]) (h_rank : FldOk K "rank" ["Length"]) (m_isinstance : mg "isinstance" = none) (g_Length : mg "Length" = some (.ref (He.ga K "Length"))) (i_Length : IsiOk K "Length" [("Length", true), ("Web", false)]) : FnOk P w K mg base CX0 4 f fd ["self", "other"] (toSp K sd_Length___add__) :=
  fn_d (k := 3) (t := t_Length___add__) F sc_Length___add__ len_Length___add__ (fun cdv A outer s H E e hr => dss_cons (ds_set (i := 2) sc_Length___add__.nd rfl (Or.inl rfl) (de_ifExp (dt_tru (oex (de_isiC (de_var (pv 1)) rfl g_Length i_Length rfl m_isinstance))) (de_var (pv 1)) (DO.de (do_new n_Length hr (by decide) rfl (da_cons (de_var (pv 1)) (da_nil))))))
    (dss_cons (ds_if (DW.dt (dw_or (dt_cmp (opd_eqX hr) (oex (de_fld (osl (pv 0)) h_rank)) (oex (de_int)) rfl) (dw_or1 (dt_cmp (opd_eqX hr) (oex (de_fld (osl (pv 2)) h_rank)) (oex (de_int)) rfl)))) (dss_one (ds_ret (DO.de (do_new n_Length hr (by decide) rfl (da_cons (de_non) (da_nil)))))) (dss_nil))
    (dss_one (ds_ret (DO.de (do_new n_Length hr (by decide) rfl (da_cons (de_bin opd_addX (oex (de_fld (osl (pv 0)) h_size)) (oex (de_fld (osl (pv 2)) h_size))) (da_nil)))))))) pure_Length___add__
theorem ok_Length___radd__ {P : Program} {w : World} {K : PySem.W.Frag} {mg : Str → Option Value} {base : Heap} {f : Addr} {fd : FuncData} (F : FnQ K "__radd__" "Length.__radd__" st_Length___radd__ f fd) (al_Length : CalL P w K mg base 4 "Length" sd_Length___add__) : FnOk P w K mg base CX0 5 f fd ["self", "other"] (toSp K sd_Length___radd__) :=
  fn_d (k := 4) (t := t_Length___radd__) F sc_Length___radd__ len_Length___radd__ (fun cdv A outer s H E e hr => dss_one (ds_ret (de_binF (opf_ownL al_Length hr (by decide)) (de_var (pv 0)) (de_var (pv 1))))) pure_Length___radd__
theorem ok_Length___lt__ {P : Program} {w : World} {K : PySem.W.Frag} {mg : Str → Option Value} {base : Heap} {f : Addr} {fd : FuncData} (F : FnQ K "__lt__" "Length.__lt__" st_Length___lt__ f fd) (h_size : FldOk K "size" ["Length"]) (h_rank : FldOk K "rank" ["Length"]) (m_isinstance : mg "isinstance" = none) (g_Length : mg "Length" = some (.ref (He.ga K "Length"))) (i_Length : IsiOk K "Length" [("Length", true), ("Web", false)]) : FnOk P w K mg base CX0 2 f fd ["self", "other"] (toSp K sd_Length___lt__) :=
  fn_d (k := 1) (t := t_Length___lt__) F sc_Length___lt__ len_Length___lt__ (fun cdv A outer s H E e hr => dss_cons (ds_if (dt_not (dt_tru (oex (de_isiC (de_var (pv 1)) rfl g_Length i_Length rfl m_isinstance)))) (dss_one (ds_never)) (dss_nil))
    (dss_one (ds_ret (de_cmp (opd_ltP hr) (oex (de_tup (da_cons (de_fld (osl (pv 0)) h_rank) (da_cons (de_fld (osl (pv 0)) h_size) (da_nil))))) (oex (de_tup (da_cons (de_fld (osl (pv 1)) h_rank) (da_cons (de_fld (osl (pv 1)) h_size) (da_nil))))) rfl)))) pure_Length___lt__
theorem ok_Length___eq__ {P : Program} {w : World} {K : PySem.W.Frag} {mg : Str → Option Value} {base : Heap} {f : Addr} {fd : FuncData} (F : FnQ K "__eq__" "Length.__eq__" st_Length___eq__ f fd) (h_size : FldOk K "size" ["Length"]) (h_rank : FldOk K "rank" ["Length"]) (m_isinstance : mg "isinstance" = none) (g_Length : mg "Length" = some (.ref (He.ga K "Length"))) (i_Length : IsiOk K "Length" [("Length", true), ("Web", false)]) : FnOk P w K mg base CX0 2 f fd ["self", "other"] (toSp K sd_Length___eq__) :=
  fn_d (k := 1) (t := t_Length___eq__) F sc_Length___eq__ len_Length___eq__ (fun cdv A outer s H E e hr => dss_cons (ds_if (dt_not (dt_tru (oex (de_isiC (de_var (pv 1)) rfl g_Length i_Length rfl m_isinstance)))) (dss_one (ds_ret (de_bl))) (dss_nil))
    (dss_one (ds_ret (de_cmp (opd_eqX hr) (oex (de_tup (da_cons (de_fld (osl (pv 0)) h_rank) (da_cons (de_fld (osl (pv 0)) h_size) (da_nil))))) (oex (de_tup (da_cons (de_fld (osl (pv 1)) h_rank) (da_cons (de_fld (osl (pv 1)) h_size) (da_nil))))) rfl)))) pure_Length___eq__
theorem bnd_Length_least (kV doc pm : Value) (an : Option Addr) (cdv ct : Value) (us rest : List Value) (h : us.length = 1) : bindArgs (PySem.W.fnOf "least" "Length.least" (defArgs st_Length_least) (defBody st_Length_least) (defScope st_Length_least) .none kV doc pm an cdv ct) ⟨us ++ rest, []⟩ = (newTuple rest >>= fun t => pure ((["first"] : List Str).zip us ++ [(("others" : Str), t)])) := by
  match us, rest, h with
  | [u0], [], _ => rfl
  | [u0], r :: rs, _ => rfl
theorem ok_Length_least {P : Program} {w : World} {K : PySem.W.Frag} {mg : Str → Option Value} {base : Heap} {f : Addr} {fd : FuncData} (F : FnQ K "least" "Length.least" st_Length_least f fd) (o_Length_Lt : CalO P w K mg base 2 .Lt "Length" sd_Length___lt__) : FnD P w K mg base 3 f (starSd 1 sd_Length_least) :=
  fn_dS0 (k := 2) (t := t_Length_least) (ps := ["first"]) (pv := "others") F sc_Length_least bnd_Length_least (fun cdv A outer s H E e hr => dss_cons (ds_set (i := 2) sc_Length_least.nd rfl (Or.inl rfl) (de_var (pv 0)))
    (dss_cons (ds_for PassesOwn.never rfl (di_seq (de_var (pv 1))) (dg_name (i := 3) sc_Length_least.nd rfl (Or.inl rfl)) (dss_one (ds_if (dt_cmpF (opf_own o_Length_Lt (fun _ _ => rfl) hr (by decide) opd_lt) (de_var (pv 3)) (de_var (pv 2)) rfl) (dss_one (ds_set (i := 2) sc_Length_least.nd rfl (Or.inl rfl) (de_var (pv 3)))) (dss_nil))))
    (dss_one (ds_ret (de_var (pv 2)))))) pure_Length_least
theorem ok_direct_lengths {P : Program} {w : World} {K : PySem.W.Frag} {mg : Str → Option Value} {base : Heap} {f : Addr} {fd : FuncData} (F : FnQ K "direct_lengths" "direct_lengths" st_direct_lengths f fd) (g_Length : mg "Length" = some (.ref (He.ga K "Length"))) (n_Length : CalI P w K mg base 2 "Length" sd_Length___init__) (s_Length_least : CalSt P w K mg base 3 "Length" "least" (starSd 1 sd_Length_least)) : FnOk P w K mg base CX0 4 f fd ["walkers", "ropes"] (toSp K sd_direct_lengths) :=
  fn_d (k := 3) (t := t_direct_lengths) F sc_direct_lengths len_direct_lengths (fun cdv A outer s H E e hr => dss_cons (ds_rows (i := 2) (js := [6, 7, 8, 9, 10, 11]) (own := [("one", 3)]) (fp := [3]) rfl sc_direct_lengths.nd rfl rfl (swD rfl rfl rfl (by decide +kernel)) (di_seq (de_var (pv 0))) (blkOk_by (N := N_direct_lengths) (sc := defScope st_direct_lengths) (own := [("one", 3)]) (by decide +kernel)) (fun _ _ _ _ _ => dg_name (i := 3) sc_direct_lengths.nd rfl ((by first | exact Or.inl rfl | exact Or.inr rfl))) (fun _ _ _ _ _ => de_var (pv 3)) (fun _ _ _ _ _ => do_dc (own := [("other", 4)]) (fp := [4]) rfl sc_direct_lengths.nd (di_seq (de_var (pv 0))) (blkOk_by (N := N_direct_lengths) (sc := relScope (dcScope (defBody st_direct_lengths) 0) (defScope st_direct_lengths)) (own := [("other", 4)]) (by decide +kernel)) (fun _ _ _ _ _ => dg_name (i := 4) sc_direct_lengths.nd rfl (Or.inl rfl)) (fun _ _ _ _ _ => dts_nil) (fun _ _ _ _ _ => de_var (pv 4)) (fun _ _ _ _ _ => DO.de (do_new n_Length hr (by decide) rfl (da_cons (de_ifExp (dt_cmp (opd_eqX hr) (osl (pv 3)) (osl (pv 4)) rfl) (de_int) (de_non)) (da_nil))))) (unseen_by (N := N_direct_lengths) (sc := defScope st_direct_lengths) (by decide +kernel)))
    (dss_cons (ds_for PassesOwn.never rfl (di_seq (de_var (pv 1))) (dg_tup rfl (dgs_cons (dg_name (i := 3) sc_direct_lengths.nd rfl ((by first | exact Or.inl rfl | exact Or.inr rfl))) (dgs_cons (dg_name (i := 4) sc_direct_lengths.nd rfl ((by first | exact Or.inl rfl | exact Or.inr rfl))) (dgs_cons (dg_name (i := 5) sc_direct_lengths.nd rfl (Or.inl rfl)) (dgs_nil))))) (dss_one (ds_sto2 (de_stat s_Length_least hr (by decide) (de_cls rfl g_Length) (da_cons (de_row hr (pv 2) (pv 3) (pv 4)) (da_cons (DO.de (do_new n_Length hr (by decide) rfl (da_cons (de_var (pv 5)) (da_nil)))) (da_nil)))) (dg_row hr (pv 2) (pv 3) (pv 4)) (dg_row hr (pv 2) (pv 4) (pv 3)))))
    (dss_one (ds_ret (de_rows (pv 2)))))) pure_direct_lengths
theorem ok_reaches_of {P : Program} {w : World} {K : PySem.W.Frag} {mg : Str → Option Value} {base : Heap} {f : Addr} {fd : FuncData} (F : FnQ K "reaches_of" "reaches_of" st_reaches_of f fd) (g_Length : mg "Length" = some (.ref (He.ga K "Length"))) (a_Length : CalA P w K mg base 5 "Length" sd_Length___add__ sd_Length___radd__) (s_Length_least : CalSt P w K mg base 3 "Length" "least" (starSd 1 sd_Length_least)) (m_dict : mg "dict" = none) : FnOk P w K mg base CX0 6 f fd ["walkers", "direct"] (toSp K sd_reaches_of) :=
  fn_d (k := 5) (t := t_reaches_of) F sc_reaches_of len_reaches_of (fun cdv A outer s H E e hr => dss_cons (ds_rows (i := 2) (js := [6, 7, 8, 9, 10, 11]) (own := [("one", 4)]) (fp := [4]) rfl sc_reaches_of.nd rfl rfl (swD rfl rfl rfl (by decide +kernel)) (di_seq (de_var (pv 0))) (blkOk_by (N := N_reaches_of) (sc := defScope st_reaches_of) (own := [("one", 4)]) (by decide +kernel)) (fun _ _ _ _ _ => dg_name (i := 4) sc_reaches_of.nd rfl (Or.inl rfl)) (fun _ _ _ _ _ => de_var (pv 4)) (fun _ _ _ _ _ => do_dictC (oex (de_ixX hr (osl (pv 1)) (osl (pv 4)))) rfl m_dict) (unseen_by (N := N_reaches_of) (sc := defScope st_reaches_of) (by decide +kernel)))
    (dss_cons (ds_for PassesOwn.never rfl (di_seq (de_var (pv 0))) (dg_name (i := 3) sc_reaches_of.nd rfl (Or.inl rfl)) (dss_one (ds_for PassesOwn.never rfl (di_seq (de_var (pv 0))) (dg_name (i := 4) sc_reaches_of.nd rfl (Or.inl rfl)) (dss_one (ds_for PassesOwn.never rfl (di_seq (de_var (pv 0))) (dg_name (i := 5) sc_reaches_of.nd rfl (Or.inl rfl)) (dss_one (ds_asg (de_stat s_Length_least hr (by decide) (de_cls rfl g_Length) (da_cons (de_row hr (pv 2) (pv 4) (pv 5)) (da_cons (de_binF (opf_ownA a_Length hr (by decide) opd_addX) (de_row hr (pv 2) (pv 4) (pv 3)) (de_row hr (pv 2) (pv 3) (pv 5))) (da_nil)))) (dg_row hr (pv 2) (pv 4) (pv 5)))))))))
    (dss_one (ds_ret (de_rows (pv 2)))))) pure_reaches_of
theorem ok_is_strings {P : Program} {w : World} {K : PySem.W.Frag} {mg : Str → Option Value} {base : Heap} {f : Addr} {fd : FuncData} (F : FnQ K "is_strings" "is_strings" st_is_strings f fd) (m_len : mg "len" = none) (m_all : mg "all" = none) (m_isinstance : mg "isinstance" = none) (m_str : mg "str" = none) (m_tuple : mg "tuple" = none) : FnOk P w K mg base CX0 2 f fd ["value", "many"] (toSp K sd_is_strings) :=
  fn_d (k := 1) (t := t_is_strings) F sc_is_strings len_is_strings (fun cdv A outer s H E e hr => dss_cons (ds_if (DW.dt (dw_or (dt_not (dt_tru (oex (de_isiX (de_var (pv 0)) (de_ty rfl m_tuple (by decide +kernel)) rfl m_isinstance)))) (dw_or1 (dt_not (dt_tru (oex (de_all rfl (oex (DO.de (do_lc (own := [("item", 2)]) (fp := [2]) rfl sc_is_strings.nd (di_seq (de_var (pv 0))) (blkOk_by (N := N_is_strings) (sc := defScope st_is_strings) (own := [("item", 2)]) (by decide +kernel)) (fun _ _ _ _ _ => dg_name (i := 2) sc_is_strings.nd rfl (Or.inl rfl)) (fun _ _ _ _ _ => dts_nil) (fun _ _ _ _ _ => de_isiX (de_var (pv 2)) (de_ty rfl m_str (by decide +kernel)) rfl m_isinstance)))) rfl m_all))))))) (dss_one (ds_ret (de_bl))) (dss_nil))
    (dss_one (ds_ret (de_or (de_cmp opd_is (osl (pv 1)) (oex (de_non)) rfl) (de_one (de_cmp (opd_eqX hr) (oex (de_len (osl (pv 0)) rfl m_len)) (osl (pv 1)) rfl)))))) pure_is_strings
theorem ok_is_rope {P : Program} {w : World} {K : PySem.W.Frag} {mg : Str → Option Value} {base : Heap} {f : Addr} {fd : FuncData} (F : FnQ K "is_rope" "is_rope" st_is_rope f fd) (m_isinstance : mg "isinstance" = none) (m_bool : mg "bool" = none) (m_int : mg "int" = none) (c_is_strings : CalR P w K mg base 2 "is_strings" sd_is_strings) (m_len : mg "len" = none) (m_tuple : mg "tuple" = none) : FnOk P w K mg base CX0 3 f fd ["value"] (toSp K sd_is_rope) :=
  fn_d (k := 2) (t := t_is_rope) F sc_is_rope len_is_rope (fun cdv A outer s H E e hr => dss_cons (ds_if (DW.dt (dw_or (dt_not (dt_tru (oex (de_isiX (de_var (pv 0)) (de_ty rfl m_tuple (by decide +kernel)) rfl m_isinstance)))) (dw_or (dt_cmp (opd_neX hr) (oex (de_len (osl (pv 0)) rfl m_len)) (oex (de_int)) rfl) (dw_or1 (dt_not (dt_tru (oex (de_callR c_is_strings hr (by decide) rfl (da_cons (de_slice (osl (pv 0)) (dp_none) (dp_some (de_int))) (da_cons (de_int) (da_nil))))))))))) (dss_one (ds_ret (de_bl))) (dss_nil))
    (dss_one (ds_ret (de_and (de_isiX (de_ixX hr (osl (pv 0)) (oex (de_int))) (de_ty rfl m_int (by decide +kernel)) rfl m_isinstance) (de_one (de_not (de_isiX (de_ixX hr (osl (pv 0)) (oex (de_int))) (de_ty rfl m_bool (by decide +kernel)) rfl m_isinstance))))))) pure_is_rope
theorem okx_check_web {P : Program} {w : World} {K : PySem.W.Frag} {mg : Str → Option Value} {base : Heap} {f : Addr} {fd : FuncData} (F : FnQ K "check_web" "check_web" st_check_web f fd) (m_all : mg "all" = none) (c_is_rope : CalR P w K mg base 3 "is_rope" sd_is_rope) (m_isinstance : mg "isinstance" = none) (m_tuple : mg "tuple" = none) (c_is_strings : CalR P w K mg base 2 "is_strings" sd_is_strings) (er_NoWeb : Err2 P K mg "NoWeb" "word" "at") (m_len : mg "len" = none) (k_Web_MOST : CConOk K "Web" "MOST" 6) (g_Web : mg "Web" = some (.ref (He.ga K "Web"))) (m_enumerate : mg "enumerate" = none) (c_is_word : CalR P w K mg base 2 "is_word" sd_is_word) (B : Binds K fd ["walkers", "ropes"] []) : FnX P w K mg base 4 f sx_check_web :=
  fn_dX (k := 3) (t := tx_check_web) F sc_check_web B lenx_check_web (fun cdv A outer s H E e ex hr tk po => dss0_cons (ds0_if (DW.dt (dw_or (dt_not (dt_tru (oex (de_callR c_is_strings hr (by decide) rfl (da_cons (de_var (pv 0)) (da_cons (de_non) (da_nil))))))) (dw_or (dt_not (dt_tru (oex (de_isiX (de_var (pv 1)) (de_ty rfl m_tuple (by decide +kernel)) rfl m_isinstance)))) (dw_or1 (dt_not (dt_tru (oex (de_all rfl (oex (DO.de (do_lc (own := [("rope", 7)]) (fp := [7]) rfl sc_check_web.nd (di_seq (de_var (pv 1))) (blkOk_by (N := N_check_web) (sc := defScope st_check_web) (own := [("rope", 7)]) (by decide +kernel)) (fun _ _ _ _ _ => dg_name (i := 7) sc_check_web.nd rfl (Or.inl rfl)) (fun _ _ _ _ _ => dts_nil) (fun _ _ _ _ _ => de_callR c_is_rope hr (by decide) rfl (da_cons (de_var (pv 7)) (da_nil)))))) rfl m_all)))))))) (dss0_one (ds0_raise2 er_NoWeb hr rfl tk rfl (da_cons (de_str (by decide +kernel)) (da_cons (de_int) (da_nil))))) (dss0_nil))
    (dss0_cons (ds0_if (dt_not (dt_chain opd_le opd_le (de_int) (de_len (osl (pv 0)) rfl m_len) (de_ccon k_Web_MOST rfl g_Web))) (dss0_one (ds0_raise2 er_NoWeb hr rfl tk rfl (da_cons (de_str (by decide +kernel)) (da_cons (de_int) (da_nil))))) (dss0_nil))
    (dss0_cons (ds0_for po rfl (di_enum rfl m_enumerate (de_var (pv 0))) (dg_tup rfl (dgs_cons (dg_name (i := 2) sc_check_web.nd rfl (Or.inl rfl)) (dgs_cons (dg_name (i := 3) sc_check_web.nd rfl (Or.inl rfl)) (dgs_nil)))) (dss0_one (ds0_if (DW.dt (dw_or (dt_not (dt_tru (oex (de_callR c_is_word hr (by decide) rfl (da_cons (de_var (pv 3)) (da_nil)))))) (dw_or1 (dt_cmp (opd_inX (k0 := 0) (Room.mono (j := 0 + 1) hr (by decide))) (osl (pv 3)) (oex (de_slice (osl (pv 0)) (dp_none) (dp_some (de_var (pv 2))))) rfl)))) (dss0_one (ds0_raise2 er_NoWeb hr rfl tk rfl (da_cons (de_str (by decide +kernel)) (da_cons (de_var (pv 2)) (da_nil))))) (dss0_nil))))
    (dss0_one (ds0_for po rfl (di_enum rfl m_enumerate (de_var (pv 1))) (dg_tup rfl (dgs_cons (dg_name (i := 2) sc_check_web.nd rfl (Or.inl rfl)) (dgs_cons (dg_tup rfl (dgs_cons (dg_name (i := 4) sc_check_web.nd rfl (Or.inl rfl)) (dgs_cons (dg_name (i := 5) sc_check_web.nd rfl (Or.inl rfl)) (dgs_cons (dg_name (i := 6) sc_check_web.nd rfl (Or.inl rfl)) (dgs_nil))))) (dgs_nil)))) (dss0_one (ds0_if (DW.dt (dw_or (dt_cmp (opd_notInX (k0 := 0) (Room.mono (j := 0 + 1) hr (by decide))) (osl (pv 4)) (osl (pv 0)) rfl) (dw_or (dt_cmp (opd_notInX (k0 := 0) (Room.mono (j := 0 + 1) hr (by decide))) (osl (pv 5)) (osl (pv 0)) rfl) (dw_or (dt_cmp (opd_eqX hr) (osl (pv 4)) (osl (pv 5)) rfl) (dw_or1 (dt_cmp opd_lt (osl (pv 6)) (oex (de_int)) rfl)))))) (dss0_one (ds0_raise2 er_NoWeb hr rfl tk rfl (da_cons (de_str (by decide +kernel)) (da_cons (de_var (pv 2)) (da_nil))))) (dss0_nil)))))))) purex_check_web
theorem okx_Web___init__ {P : Program} {w : World} {K : PySem.W.Frag} {mg : Str → Option Value} {base : Heap} {f : Addr} {fd : FuncData} (F : FnQ K "__init__" "Web.__init__" st_Web___init__ f fd) (cx_check_web : CalX P w K mg base 4 "check_web" sx_check_web) (h_own_walkers : FldOk K "own_walkers" ["Web"]) (h_own_ropes : FldOk K "own_ropes" ["Web"]) (h_direct : FldOk K "direct" ["Web"]) (c_direct_lengths : CalR P w K mg base 4 "direct_lengths" sd_direct_lengths) (h_reaches : FldOk K "reaches" ["Web"]) (c_reaches_of : CalR P w K mg base 6 "reaches_of" sd_reaches_of) : FnOk P w K mg base (L2.CX P w) 7 f fd ["self", "walkers", "ropes"] (toSpIX K "Web" sx_Web___init__) :=
  fn_iX (k := 6) (t := tx_Web___init__) F sc_Web___init__ lenx_Web___init__ (fun cdv A outer s H E e ex hr tk po => dss0_cons (ds0_expr (de0_callX cx_check_web hr (by decide) tk rfl (da_cons (de_var (pv 1)) (da_cons (de_var (pv 2)) (da_nil)))))
    (dss0_cons (ds0_of (ds_fld (pv 0) (de_var (pv 1)) h_own_walkers))
    (dss0_cons (ds0_of (ds_fld (pv 0) (de_var (pv 2)) h_own_ropes))
    (dss0_cons (ds0_of (ds_fld (pv 0) (de_callR c_direct_lengths hr (by decide) rfl (da_cons (de_var (pv 1)) (da_cons (de_var (pv 2)) (da_nil)))) h_direct))
    (dss0_one (ds0_of (ds_fld (pv 0) (de_callR c_reaches_of hr (by decide) rfl (da_cons (de_var (pv 1)) (da_cons (de_fld (osl (pv 0)) h_direct) (da_nil)))) h_reaches))))))) purex_Web___init__
theorem ok__law_web {P : Program} {w : World} {K : PySem.W.Frag} {mg : Str → Option Value} {base : Heap} {f : Addr} {fd : FuncData} (F : FnQ K "_law_web" "_law_web" st__law_web f fd) (m_tuple : mg "tuple" = none) (m_range : mg "range" = none) (c__law_take : CalR P w K mg base 2 "_law_take" sd__law_take) (m_len : mg "len" = none) (m_int : mg "int" = none) (c__law_names : CalR P w K mg base 4 "_law_names" sd__law_names) : FnOk P w K mg base CX0 5 f fd ["_law_box_here", "_law_most"] (toSp K sd__law_web) :=
  fn_d (k := 4) (t := t__law_web) F sc__law_web len__law_web (fun cdv A outer s H E e hr => dss_cons (ds_set (i := 2) sc__law_web.nd rfl (Or.inl rfl) (de_callR c__law_names hr (by decide) rfl (da_cons (de_var (pv 0)) (da_cons (de_bin opd_addX (oex (de_int)) (oex (de_callR c__law_take hr (by decide) rfl (da_cons (de_var (pv 0)) (da_cons (de_var (pv 1)) (da_nil)))))) (da_nil)))))
    (dss_cons (ds_par2 (i := 3) (j := 4) rfl sc__law_web.nd rfl rfl (by decide) rfl rfl (ea_cons (v := .ow (dLst (dNil))) (eow (do_lst (da_nil))) (ea_cons (v := .im (dBin ixX (.ex (dLst (dCons (dC (.int 2)) (dCons (dC (.int 4)) (dCons (dC (.int 4)) (dCons (dC (.int 12)) (dCons (dC (.int 101)) (dNil)))))))) (.ex (dCall sd__law_take (dCons (dVar 0) (dCons (dC (.int 5)) (dNil))))))) (eim (de_ixX hr (oex (DO.de (do_lst (da_cons (de_int) (da_cons (de_int) (da_cons (de_int) (da_cons (de_int) (da_cons (de_int) (da_nil))))))))) (oex (de_callR c__law_take hr (by decide) rfl (da_cons (de_var (pv 0)) (da_cons (de_int) (da_nil))))))) (ea_nil))) rfl)
    (dss_cons (ds_for PassesOwn.never rfl (di_range1 rfl m_range (de_bin opd_mulX (oex (de_callR c__law_take hr (by decide) rfl (da_cons (de_var (pv 0)) (da_cons (de_bin opd_mulX (oex (de_int)) (oex (de_len (osl (pv 2)) rfl m_len))) (da_nil))))) (oex (de_int1 (oex (de_cmp opd_gt (oex (de_len (osl (pv 2)) rfl m_len)) (oex (de_int)) rfl)) rfl m_int)))) (dg_name (i := 5) sc__law_web.nd rfl (Or.inl rfl)) (dss_cons (ds_set (i := 6) sc__law_web.nd rfl (Or.inl rfl) (de_callR c__law_take hr (by decide) rfl (da_cons (de_var (pv 0)) (da_cons (de_len (osl (pv 2)) rfl m_len) (da_nil)))))
    (dss_cons (ds_set (i := 7) sc__law_web.nd rfl (Or.inl rfl) (de_bin opd_mod (oex (de_bin opd_addX (oex (de_bin opd_addX (osl (pv 6)) (oex (de_int)))) (oex (de_callR c__law_take hr (by decide) rfl (da_cons (de_var (pv 0)) (da_cons (de_bin opd_sub (oex (de_len (osl (pv 2)) rfl m_len)) (oex (de_int))) (da_nil))))))) (oex (de_len (osl (pv 2)) rfl m_len))))
    (dss_one (ds_expr (de_append (pv 3) (de_tup (da_cons (de_ixX hr (osl (pv 2)) (osl (pv 6))) (da_cons (de_ixX hr (osl (pv 2)) (osl (pv 7))) (da_cons (de_callR c__law_take hr (by decide) rfl (da_cons (de_var (pv 0)) (da_cons (de_var (pv 4)) (da_nil)))) (da_nil)))))))))))
    (dss_one (ds_ret (de_tup (da_cons (de_tuple1 (osl (pv 2)) rfl m_tuple) (da_cons (de_tuple1 (osl (pv 3)) rfl m_tuple) (da_nil))))))))) pure__law_web
theorem ok__law_is_rope {P : Program} {w : World} {K : PySem.W.Frag} {mg : Str → Option Value} {base : Heap} {f : Addr} {fd : FuncData} (F : FnQ K "_law_is_rope" "_law_is_rope" st__law_is_rope f fd) (m_isinstance : mg "isinstance" = none) (m_bool : mg "bool" = none) (m_int : mg "int" = none) (m_all : mg "all" = none) (m_str : mg "str" = none) (m_len : mg "len" = none) (m_tuple : mg "tuple" = none) : FnOk P w K mg base CX0 2 f fd ["_law_rope"] (toSp K sd__law_is_rope) :=
  fn_d (k := 1) (t := t__law_is_rope) F sc__law_is_rope len__law_is_rope (fun cdv A outer s H E e hr => dss_cons (ds_if (DW.dt (dw_or (dt_not (dt_tru (oex (de_isiX (de_var (pv 0)) (de_ty rfl m_tuple (by decide +kernel)) rfl m_isinstance)))) (dw_or (dt_cmp (opd_neX hr) (oex (de_len (osl (pv 0)) rfl m_len)) (oex (de_int)) rfl) (dw_or1 (dt_not (dt_tru (oex (de_all rfl (oex (DO.de (do_lc (own := [("_law_end", 1)]) (fp := [1]) rfl sc__law_is_rope.nd (di_seq (de_slice (osl (pv 0)) (dp_none) (dp_some (de_int)))) (blkOk_by (N := N__law_is_rope) (sc := defScope st__law_is_rope) (own := [("_law_end", 1)]) (by decide +kernel)) (fun _ _ _ _ _ => dg_name (i := 1) sc__law_is_rope.nd rfl (Or.inl rfl)) (fun _ _ _ _ _ => dts_nil) (fun _ _ _ _ _ => de_isiX (de_var (pv 1)) (de_ty rfl m_str (by decide +kernel)) rfl m_isinstance)))) rfl m_all)))))))) (dss_one (ds_ret (de_bl))) (dss_nil))
    (dss_one (ds_ret (de_and (de_isiX (de_ixX hr (osl (pv 0)) (oex (de_int))) (de_ty rfl m_int (by decide +kernel)) rfl m_isinstance) (de_one (de_not (de_isiX (de_ixX hr (osl (pv 0)) (oex (de_int))) (de_ty rfl m_bool (by decide +kernel)) rfl m_isinstance))))))) pure__law_is_rope
theorem ok__law_has_form {P : Program} {w : World} {K : PySem.W.Frag} {mg : Str → Option Value} {base : Heap} {f : Addr} {fd : FuncData} (F : FnQ K "_law_has_form" "_law_has_form" st__law_has_form f fd) (m_all : mg "all" = none) (c__law_is_rope : CalR P w K mg base 2 "_law_is_rope" sd__law_is_rope) (m_isinstance : mg "isinstance" = none) (m_str : mg "str" = none) (m_tuple : mg "tuple" = none) : FnOk P w K mg base CX0 3 f fd ["_law_walkers", "_law_ropes"] (toSp K sd__law_has_form) :=
  fn_d (k := 2) (t := t__law_has_form) F sc__law_has_form len__law_has_form (fun cdv A outer s H E e hr => dss_cons (ds_if (DW.dt (dw_or (dt_not (dt_tru (oex (de_isiX (de_var (pv 0)) (de_ty rfl m_tuple (by decide +kernel)) rfl m_isinstance)))) (dw_or1 (dt_not (dt_tru (oex (de_isiX (de_var (pv 1)) (de_ty rfl m_tuple (by decide +kernel)) rfl m_isinstance))))))) (dss_one (ds_ret (de_bl))) (dss_nil))
    (dss_one (ds_ret (de_and (de_all rfl (oex (DO.de (do_lc (own := [("_law_walker", 2)]) (fp := [2]) rfl sc__law_has_form.nd (di_seq (de_var (pv 0))) (blkOk_by (N := N__law_has_form) (sc := defScope st__law_has_form) (own := [("_law_walker", 2)]) (by decide +kernel)) (fun _ _ _ _ _ => dg_name (i := 2) sc__law_has_form.nd rfl (Or.inl rfl)) (fun _ _ _ _ _ => dts_nil) (fun _ _ _ _ _ => de_isiX (de_var (pv 2)) (de_ty rfl m_str (by decide +kernel)) rfl m_isinstance)))) rfl m_all) (de_one (de_all rfl (oex (DO.de (do_lc (own := [("_law_rope", 3)]) (fp := [3]) rfl sc__law_has_form.nd (di_seq (de_var (pv 1))) (blkOk_by (N := N__law_has_form) (sc := defScope st__law_has_form) (own := [("_law_rope", 3)]) (by decide +kernel)) (fun _ _ _ _ _ => dg_name (i := 3) sc__law_has_form.nd rfl (Or.inl rfl)) (fun _ _ _ _ _ => dts_nil) (fun _ _ _ _ _ => de_callR c__law_is_rope hr (by decide) rfl (da_cons (de_var (pv 3)) (da_nil)))))) rfl m_all)))))) pure__law_has_form
theorem ok_Web_walkers {P : Program} {w : World} {K : PySem.W.Frag} {mg : Str → Option Value} {base : Heap} {f : Addr} {fd : FuncData} (F : FnQ K "walkers" "Web.walkers" st_Web_walkers f fd) (h_own_walkers : FldOk K "own_walkers" ["Web"]) : FnOk P w K mg base CX0 2 f fd ["self"] (toSp K sd_Web_walkers) :=
  fn_d (k := 1) (t := t_Web_walkers) F sc_Web_walkers len_Web_walkers (fun cdv A outer s H E e hr => dss_one (ds_ret (de_fld (osl (pv 0)) h_own_walkers))) pure_Web_walkers
theorem ok_Web_ropes {P : Program} {w : World} {K : PySem.W.Frag} {mg : Str → Option Value} {base : Heap} {f : Addr} {fd : FuncData} (F : FnQ K "ropes" "Web.ropes" st_Web_ropes f fd) (h_own_ropes : FldOk K "own_ropes" ["Web"]) : FnOk P w K mg base CX0 2 f fd ["self"] (toSp K sd_Web_ropes) :=
  fn_d (k := 1) (t := t_Web_ropes) F sc_Web_ropes len_Web_ropes (fun cdv A outer s H E e hr => dss_one (ds_ret (de_fld (osl (pv 0)) h_own_ropes))) pure_Web_ropes
theorem ok_Web___len__ {P : Program} {w : World} {K : PySem.W.Frag} {mg : Str → Option Value} {base : Heap} {f : Addr} {fd : FuncData} (F : FnQ K "__len__" "Web.__len__" st_Web___len__ f fd) (m_len : mg "len" = none) (h_own_walkers : FldOk K "own_walkers" ["Web"]) : FnOk P w K mg base CX0 2 f fd ["self"] (toSp K sd_Web___len__) :=
  fn_d (k := 1) (t := t_Web___len__) F sc_Web___len__ len_Web___len__ (fun cdv A outer s H E e hr => dss_one (ds_ret (de_len (oex (de_fld (osl (pv 0)) h_own_walkers)) rfl m_len))) pure_Web___len__
theorem ok__law_due {P : Program} {w : World} {K : PySem.W.Frag} {mg : Str → Option Value} {base : Heap} {f : Addr} {fd : FuncData} (F : FnQ K "_law_due" "_law_due" st__law_due f fd) (m_enumerate : mg "enumerate" = none) (m_len : mg "len" = none) (c__law_has_form : CalR P w K mg base 3 "_law_has_form" sd__law_has_form) : FnOk P w K mg base CX0 4 f fd ["_law_walkers", "_law_ropes"] (toSp K sd__law_due) :=
  fn_d (k := 3) (t := t__law_due) F sc__law_due len__law_due (fun cdv A outer s H E e hr => dss_cons (ds_if (dt_not (dt_tru (oex (de_callR c__law_has_form hr (by decide) rfl (da_cons (de_var (pv 0)) (da_cons (de_var (pv 1)) (da_nil))))))) (dss_one (ds_ret (de_tup (da_cons (de_str (by decide +kernel)) (da_cons (de_int) (da_nil)))))) (dss_nil))
    (dss_cons (ds_if (dt_not (dt_chain opd_lt opd_lt (de_int) (de_len (osl (pv 0)) rfl m_len) (de_int))) (dss_one (ds_ret (de_tup (da_cons (de_str (by decide +kernel)) (da_cons (de_int) (da_nil)))))) (dss_nil))
    (dss_cons (ds_for PassesOwn.never rfl (di_enum rfl m_enumerate (de_var (pv 0))) (dg_tup rfl (dgs_cons (dg_name (i := 2) sc__law_due.nd rfl (Or.inl rfl)) (dgs_cons (dg_name (i := 3) sc__law_due.nd rfl (Or.inl rfl)) (dgs_nil)))) (dss_cons (ds_setLc (i := 4) (own := [("_law_letter", 8)]) (fp := [8]) rfl sc__law_due.nd rfl rfl (sw_true rfl rfl rfl (by decide +kernel)) (di_str (de_var (pv 3))) (blkOk_by (N := N__law_due) (sc := defScope st__law_due) (own := [("_law_letter", 8)]) (by decide +kernel)) (fun _ _ _ _ _ => dg_name (i := 8) sc__law_due.nd rfl (Or.inl rfl)) (fun _ _ _ _ _ => dts_one (dt_cmp (opd_notInX (k0 := 0) (Room.mono (j := 0 + 1) hr (by decide))) (osl (pv 8)) (oex (de_str (by decide +kernel))) rfl)) (fun _ _ _ _ _ => de_var (pv 8)))
    (dss_one (ds_if (DW.dt (dw_or (dt_not (dt_chain opd_lt opd_lt (de_int) (de_len (osl (pv 3)) rfl m_len) (de_int))) (dw_or (dt_cmp (opd_nnil hr) (osl (pv 4)) (oex (DO.de (do_lst (da_nil)))) rfl) (dw_or1 (dt_cmp (opd_inX (k0 := 0) (Room.mono (j := 0 + 1) hr (by decide))) (osl (pv 3)) (oex (de_slice (osl (pv 0)) (dp_none) (dp_some (de_var (pv 2))))) rfl))))) (dss_one (ds_ret (de_tup (da_cons (de_str (by decide +kernel)) (da_cons (de_var (pv 2)) (da_nil)))))) (dss_nil)))))
    (dss_cons (ds_for PassesOwn.never rfl (di_enum rfl m_enumerate (de_var (pv 1))) (dg_tup rfl (dgs_cons (dg_name (i := 2) sc__law_due.nd rfl (Or.inl rfl)) (dgs_cons (dg_tup rfl (dgs_cons (dg_name (i := 5) sc__law_due.nd rfl (Or.inl rfl)) (dgs_cons (dg_name (i := 6) sc__law_due.nd rfl (Or.inl rfl)) (dgs_cons (dg_name (i := 7) sc__law_due.nd rfl (Or.inl rfl)) (dgs_nil))))) (dgs_nil)))) (dss_one (ds_if (DW.dt (dw_or (dt_cmp (opd_notInX (k0 := 0) (Room.mono (j := 0 + 1) hr (by decide))) (osl (pv 5)) (osl (pv 0)) rfl) (dw_or (dt_cmp (opd_notInX (k0 := 0) (Room.mono (j := 0 + 1) hr (by decide))) (osl (pv 6)) (osl (pv 0)) rfl) (dw_or (dt_cmp (opd_eqX hr) (osl (pv 5)) (osl (pv 6)) rfl) (dw_or1 (dt_cmp opd_lt (osl (pv 7)) (oex (de_int)) rfl)))))) (dss_one (ds_ret (de_tup (da_cons (de_str (by decide +kernel)) (da_cons (de_var (pv 2)) (da_nil)))))) (dss_nil))))
    (dss_one (ds_ret (de_non))))))) pure__law_due
theorem ok__law_told {P : Program} {w : World} {K : PySem.W.Frag} {mg : Str → Option Value} {base : Heap} {f : Addr} {fd : FuncData} (F : FnQ K "_law_told" "_law_told" st__law_told f fd) (g_NoWeb : mg "NoWeb" = some (.ref (He.ga K "NoWeb"))) (ex_NoWeb : ExOk K (.ref (He.ga K "NoWeb")) [("NoWeb", true)]) (nx_Web : CalIX P w K mg base 7 "Web" sx_Web___init__) (xc_NoWeb : ExcC K (He.ga K "NoWeb") ∧ XfC K (He.ga K "NoWeb")) (m_isinstance : mg "isinstance" = none) (it_NoGrove_NoMatch_NoText_NoTree_NoWeb : IsEOkT K ["NoGrove", "NoMatch", "NoText", "NoTree"] [("NoWeb", false)]) (g_NoTree : mg "NoTree" = some (.ref (He.ga K "NoTree"))) (g_NoText : mg "NoText" = some (.ref (He.ga K "NoText"))) (g_NoMatch : mg "NoMatch" = some (.ref (He.ga K "NoMatch"))) (g_NoGrove : mg "NoGrove" = some (.ref (He.ga K "NoGrove"))) (er_NoWeb : Err2 P K mg "NoWeb" "word" "at") (xn_NoWeb_at : PySem.W.findIn K (.ref (He.ga K "NoWeb")) "at" = some none) (xn_NoWeb_word : PySem.W.findIn K (.ref (He.ga K "NoWeb")) "word" = some none) (m_len : mg "len" = none) (u_Web_len : CalU P w K mg base 2 "Web" "__len__" sd_Web___len__) (p_Web_ropes : CalP P w K mg base 2 "Web" "ropes" sd_Web_ropes) (p_Web_walkers : CalP P w K mg base 2 "Web" "walkers" sd_Web_walkers) : FnOk P w K mg base CX0 9 f fd ["_law_walkers", "_law_ropes"] (toSp K sd__law_told) :=
  fn_d0 (k := 8) (t := t__law_told) F sc__law_told len__law_told (fun cdv A outer s H E e hr => dss0_cons (ds0_tryAs (i := 3) (x := "NoWeb") (ms := [("NoWeb", true)]) (exo := fun _ _ _ => False) rfl rfl sc__law_told.nd rfl (by rfl) ⟨rfl, by decide, .inl g_NoWeb⟩ ex_NoWeb takes_never (fun e' pn xe ex tk po => dss0_one (ds0_set (i := 2) sc__law_told.nd rfl (Or.inl rfl) (de0_newX nx_Web hr (by decide) tk rfl (da_cons (de_var (pv 0)) (da_cons (de_var (pv 1)) (da_nil)))))) (fun a oe C da fs fvs pn hC hz hv => by
      obtain rfl := one_of hC
      exact sus_cons (su_if (tu_val (eu_isET (cs := ["NoGrove", "NoMatch", "NoText", "NoTree"]) xc_NoWeb.1 hz hv it_NoGrove_NoMatch_NoText_NoTree_NoWeb (pv 3) (de_tup (da_cons (de_cls rfl g_NoGrove) (da_cons (de_cls rfl g_NoMatch) (da_cons (de_cls rfl g_NoText) (da_cons (de_cls rfl g_NoTree) (da_nil)))))) (fun δ Q q => q) rfl m_isinstance)) (sus_one (su_ret (eu_tup (au_cons (st1 := still_c) (eu_of (de_str (by decide +kernel)) still_c) (au_nil))))) (sus_nil)) (sus_one (su_ret (eu_tup (au_cons (st1 := still_xf) (eu_xf1 xc_NoWeb.2 xn_NoWeb_word hz hv (pv 3)) (au_cons (st1 := still_xf) (eu_xf1 xc_NoWeb.2 xn_NoWeb_at hz hv (pv 3)) (au_nil))))))))
    (dss0_one (ds0_of (ds_ret (DO.de (do_lst (da_cons (de_prop p_Web_walkers hr (by decide) (de_var (pv 2))) (da_cons (de_prop p_Web_ropes hr (by decide) (de_var (pv 2))) (da_cons (de_lenOwn u_Web_len hr (by decide) (de_var (pv 2)) rfl m_len) (da_nil)))))))))) pure__law_told
theorem ok__law_spaced {P : Program} {w : World} {K : PySem.W.Frag} {mg : Str → Option Value} {base : Heap} {f : Addr} {fd : FuncData} (F : FnQ K "_law_spaced" "_law_spaced" st__law_spaced f fd)  : FnOk P w K mg base CX0 2 f fd ["_law_text"] (toSp K sd__law_spaced) :=
  fn_d (k := 1) (t := t__law_spaced) F sc__law_spaced len__law_spaced (fun cdv A outer s H E e hr => dss_one (ds_ret (DO.de (do_lst (da_cons (de_bin opd_addX (oex (de_str (by decide +kernel))) (osl (pv 0))) (da_cons (de_bin opd_addX (osl (pv 0)) (oex (de_str (by decide +kernel)))) (da_cons (de_bin opd_addX (oex (de_str (by decide +kernel))) (osl (pv 0))) (da_cons (de_bin opd_addX (osl (pv 0)) (oex (de_str (by decide +kernel)))) (da_nil))))))))) pure__law_spaced
theorem ok__law_changed (n : Nat) {L : Nat} (hL : 2 ≤ L) {P : Program} {w : World} {K : PySem.W.Frag} {mg : Str → Option Value} {base : Heap} {f : Addr} {fd : FuncData} (F : FnQ K "_law_changed" "_law_changed" st__law_changed f fd) (c__law_changed : CalR P w K mg base L "_law_changed" (sd__law_changed n)) (m_tuple : mg "tuple" = none) (m_list : mg "list" = none) (c__law_take : CalR P w K mg base 2 "_law_take" sd__law_take) (m_len : mg "len" = none) (m_isinstance : mg "isinstance" = none) : FnOk P w K mg base CX0 (L + 1) f fd ["_law_box_here", "_law_thing", "_law_deep", "_law_odd"] (toSp K (sd__law_changed (n + 1))) :=
  fn_d (k := L) (t := t__law_changed n) F sc__law_changed (len__law_changed n) (fun cdv A outer s H E e hr => dss_cons (ds_set (i := 4) sc__law_changed.nd rfl (Or.inl rfl) (de_callR c__law_take hr (by omega) rfl (da_cons (de_var (pv 0)) (da_cons (de_int) (da_nil)))))
    (dss_cons (ds_if (DW.dt (dw_or (dt_not (dt_tru (oex (de_isiX (de_var (pv 1)) (de_ty rfl m_tuple (by decide +kernel)) rfl m_isinstance)))) (dw_or (dt_cmp (opd_eqX hr) (oex (de_len (osl (pv 1)) rfl m_len)) (oex (de_int)) rfl) (dw_or (dt_cmp (opd_eqX hr) (osl (pv 2)) (oex (de_int)) rfl) (dw_or1 (dt_cmp (opd_eqX hr) (osl (pv 4)) (oex (de_int)) rfl)))))) (dss_one (ds_ret (de_ixX hr (osl (pv 3)) (oex (de_callR c__law_take hr (by omega) rfl (da_cons (de_var (pv 0)) (da_cons (de_len (osl (pv 3)) rfl m_len) (da_nil)))))))) (dss_nil))
    (dss_cons (ds_par2 (i := 5) (j := 6) rfl sc__law_changed.nd rfl rfl (by omega) rfl rfl (ea_cons (v := .im (dCall sd__law_take (dCons (dVar 0) (dCons (dB1 lenD (.sl 1)) (dNil))))) (eim (de_callR c__law_take hr (by omega) rfl (da_cons (de_var (pv 0)) (da_cons (de_len (osl (pv 1)) rfl m_len) (da_nil))))) (ea_cons (v := .im (dCall sd__law_take (dCons (dVar 0) (dCons (dB1 lenD (.sl 1)) (dNil))))) (eim (de_callR c__law_take hr (by omega) rfl (da_cons (de_var (pv 0)) (da_cons (de_len (osl (pv 1)) rfl m_len) (da_nil))))) (ea_nil))) rfl)
    (dss_cons (ds_if (dt_cmp (opd_eqX hr) (osl (pv 4)) (oex (de_int)) rfl) (dss_one (ds_ret (de_bin opd_addX (oex (de_slice (osl (pv 1)) (dp_none) (dp_some (de_var (pv 5))))) (oex (de_slice (osl (pv 1)) (dp_some (de_bin opd_addX (osl (pv 5)) (oex (de_int)))) (dp_none)))))) (dss_nil))
    (dss_cons (ds_if (dt_cmp (opd_eqX hr) (osl (pv 4)) (oex (de_int)) rfl) (dss_one (ds_ret (de_bin opd_addX (oex (de_bin opd_addX (oex (de_slice (osl (pv 1)) (dp_none) (dp_some (de_var (pv 5))))) (oex (de_tup (da_cons (de_ixX hr (osl (pv 1)) (osl (pv 6))) (da_nil)))))) (oex (de_slice (osl (pv 1)) (dp_some (de_var (pv 5))) (dp_none)))))) (dss_nil))
    (dss_cons (ds_if (dt_cmp (opd_eqX hr) (osl (pv 4)) (oex (de_int)) rfl) (dss_cons (ds_setO (i := 7) sc__law_changed.nd rfl (Or.inl rfl) (do_listA rfl (osl (pv 1)) rfl m_list))
    (dss_cons (ds_asg (de_tup (da_cons (de_ixX hr (osl (pv 7)) (osl (pv 6))) (da_cons (de_ixX hr (osl (pv 7)) (osl (pv 5))) (da_nil)))) (dg_tup rfl (dgs_cons (dg_item (pv 7) (de_var (pv 5))) (dgs_cons (dg_item (pv 7) (de_var (pv 6))) (dgs_nil)))))
    (dss_one (ds_ret (de_tuple1 (osl (pv 7)) rfl m_tuple))))) (dss_nil))
    (dss_one (ds_ret (de_bin opd_addX (oex (de_bin opd_addX (oex (de_slice (osl (pv 1)) (dp_none) (dp_some (de_var (pv 5))))) (oex (de_tup (da_cons (de_callR c__law_changed hr (Nat.le_refl _) rfl (da_cons (de_var (pv 0)) (da_cons (de_ixX hr (osl (pv 1)) (osl (pv 5))) (da_cons (de_bin opd_sub (osl (pv 2)) (oex (de_int))) (da_cons (de_var (pv 3)) (da_nil)))))) (da_nil)))))) (oex (de_slice (osl (pv 1)) (dp_some (de_bin opd_addX (osl (pv 5)) (oex (de_int)))) (dp_none)))))))))))) (pure__law_changed n)
theorem ok__law_bent {P : Program} {w : World} {K : PySem.W.Frag} {mg : Str → Option Value} {base : Heap} {f : Addr} {fd : FuncData} (F : FnQ K "_law_bent" "_law_bent" st__law_bent f fd) (m_tuple : mg "tuple" = none) (c__law_take : CalR P w K mg base 2 "_law_take" sd__law_take) (m_len : mg "len" = none) (c__law_has_form : CalR P w K mg base 3 "_law_has_form" sd__law_has_form) (m_isinstance : mg "isinstance" = none) (c__law_changed : CalR P w K mg base 6 "_law_changed" (sd__law_changed 4)) (m_str : mg "str" = none) (c__law_spaced : CalR P w K mg base 2 "_law_spaced" sd__law_spaced) : FnOk P w K mg base CX0 7 f fd ["_law_box_here", "_law_walkers", "_law_ropes"] (toSp K sd__law_bent) :=
  fn_d (k := 6) (t := t__law_bent) F sc__law_bent len__law_bent (fun cdv A outer s H E e hr => dss_cons (ds_par2 (i := 3) (j := 4) rfl sc__law_bent.nd rfl rfl (by decide) rfl rfl (ea_cons (v := .im (dCall sd__law_take (dCons (dVar 0) (dCons (dC (.int 8)) (dNil))))) (eim (de_callR c__law_take hr (by decide) rfl (da_cons (de_var (pv 0)) (da_cons (de_int) (da_nil))))) (ea_cons (v := .im (dLst (dCons (dC (.str "a1")) (dCons (dC (.str "a_b")) (dCons (dC (.str "aB")) (dCons (dC (.str "`")) (dNil))))))) (eim (DO.de (do_lst (da_cons (de_str (by decide +kernel)) (da_cons (de_str (by decide +kernel)) (da_cons (de_str (by decide +kernel)) (da_cons (de_str (by decide +kernel)) (da_nil)))))))) (ea_nil))) rfl)
    (dss_cons (ds_set (i := 4) sc__law_bent.nd rfl (Or.inl rfl) (de_bin opd_addX (osl (pv 4)) (oex (DO.de (do_lst (da_cons (de_str (by decide +kernel)) (da_cons (de_str (by decide +kernel)) (da_cons (de_str (by decide +kernel)) (da_cons (de_str (by decide +kernel)) (da_cons (de_int) (da_cons (de_bl) (da_cons (de_non) (da_cons (de_tup (da_nil)) (da_cons (de_tup (da_cons (de_str (by decide +kernel)) (da_nil))) (da_cons (de_tup (da_cons (de_str (by decide +kernel)) (da_cons (de_str (by decide +kernel)) (da_cons (de_int) (da_nil))))) (da_cons (de_bin opd_sub (oex (de_int)) (oex (de_int))) (da_nil)))))))))))))))))
    (dss_cons (ds_set (i := 4) sc__law_bent.nd rfl (Or.inl rfl) (de_bin opd_addX (osl (pv 4)) (oex (DO.de (do_lst (da_cons (de_bin opd_pow (oex (de_int)) (oex (de_int))) (da_cons (de_bin opd_sub (oex (de_int)) (oex (de_int))) (da_cons (de_bin opd_sub (oex (de_int)) (oex (de_bin opd_pow (oex (de_int)) (oex (de_int))))) (da_nil)))))))))
    (dss_cons (ds_if (dt_cmp opd_lt (osl (pv 3)) (oex (de_int)) rfl) (dss_cons (ds_setLc (i := 5) (own := [("_law_thing", 12)]) (fp := [12]) rfl sc__law_bent.nd rfl rfl (sw_true rfl rfl rfl (by decide +kernel)) (di_seq (de_tup (da_cons (de_var (pv 1)) (da_cons (de_var (pv 2)) (da_nil))))) (blkOk_by (N := N__law_bent) (sc := defScope st__law_bent) (own := [("_law_thing", 12)]) (by decide +kernel)) (fun _ _ _ _ _ => dg_name (i := 12) sc__law_bent.nd rfl (Or.inl rfl)) (fun _ _ _ _ _ => dts_one (DW.dt (dw_and (dt_tru (oex (de_isiX (de_var (pv 12)) (de_ty rfl m_tuple (by decide +kernel)) rfl m_isinstance))) (dw_and1 (dt_cmp (opd_neX hr) (osl (pv 12)) (oex (de_tup (da_nil))) rfl))))) (fun _ _ _ _ _ => de_ixX hr (osl (pv 12)) (oex (de_int))))
    (dss_cons (ds_set (i := 4) sc__law_bent.nd rfl (Or.inl rfl) (de_bin opd_addX (osl (pv 4)) (oex (DO.de (do_lst (da_cons (de_str (by decide +kernel)) (da_cons (de_str (by decide +kernel)) (da_cons (de_str (by decide +kernel)) (da_cons (de_str (by decide +kernel)) (da_nil))))))))))
    (dss_cons (ds_if (DW.dt (dw_and (dt_cmp (opd_nnil hr) (osl (pv 5)) (oex (DO.de (do_lst (da_nil)))) rfl) (dw_and1 (dt_tru (oex (de_isiX (de_ixX hr (osl (pv 5)) (oex (de_int))) (de_ty rfl m_str (by decide +kernel)) rfl m_isinstance)))))) (dss_one (ds_set (i := 4) sc__law_bent.nd rfl (Or.inl rfl) (de_bin opd_addX (osl (pv 4)) (oex (de_callR c__law_spaced hr (by decide) rfl (da_cons (de_ixX hr (osl (pv 5)) (oex (de_int))) (da_nil))))))) (dss_nil))
    (dss_cons (ds_set (i := 6) sc__law_bent.nd rfl (Or.inl rfl) (de_callR c__law_changed hr (by decide) rfl (da_cons (de_var (pv 0)) (da_cons (de_tup (da_cons (de_var (pv 1)) (da_cons (de_var (pv 2)) (da_nil)))) (da_cons (de_int) (da_cons (de_bin opd_addX (osl (pv 4)) (osl (pv 5))) (da_nil)))))))
    (dss_one (ds_ret (de_ifExp (DW.dt (dw_and (dt_tru (oex (de_isiX (de_var (pv 6)) (de_ty rfl m_tuple (by decide +kernel)) rfl m_isinstance))) (dw_and1 (dt_cmp (opd_eqX hr) (oex (de_len (osl (pv 6)) rfl m_len)) (oex (de_int)) rfl)))) (de_var (pv 6)) (de_tup (da_cons (de_var (pv 1)) (da_cons (de_var (pv 6)) (da_nil))))))))))) (dss_nil))
    (dss_cons (ds_if (DW.dt (dw_or (dt_not (dt_tru (oex (de_callR c__law_has_form hr (by decide) rfl (da_cons (de_var (pv 1)) (da_cons (de_var (pv 2)) (da_nil))))))) (dw_or1 (dt_cmp (opd_eqX hr) (osl (pv 1)) (oex (de_tup (da_nil))) rfl)))) (dss_one (ds_ret (de_ixX hr (oex (DO.de (do_lst (da_cons (de_tup (da_cons (de_var (pv 1)) (da_cons (de_tup (da_nil)) (da_nil)))) (da_cons (de_tup (da_cons (de_tup (da_nil)) (da_cons (de_tup (da_nil)) (da_nil)))) (da_cons (de_tup (da_cons (de_tup (da_nil)) (da_cons (de_var (pv 2)) (da_nil)))) (da_cons (de_tup (da_cons (de_var (pv 1)) (da_cons (de_non) (da_nil)))) (da_nil)))))))) (oex (de_callR c__law_take hr (by decide) rfl (da_cons (de_var (pv 0)) (da_cons (de_int) (da_nil)))))))) (dss_nil))
    (dss_cons (ds_par2 (i := 7) (j := 8) rfl sc__law_bent.nd rfl rfl (by decide) rfl rfl (ea_cons (v := .im (dBin ixX (.sl 1) (.ex (dCall sd__law_take (dCons (dVar 0) (dCons (dB1 lenD (.sl 1)) (dNil))))))) (eim (de_ixX hr (osl (pv 1)) (oex (de_callR c__law_take hr (by decide) rfl (da_cons (de_var (pv 0)) (da_cons (de_len (osl (pv 1)) rfl m_len) (da_nil))))))) (ea_cons (v := .im (dBin ixX (.sl 1) (.ex (dCall sd__law_take (dCons (dVar 0) (dCons (dB1 lenD (.sl 1)) (dNil))))))) (eim (de_ixX hr (osl (pv 1)) (oex (de_callR c__law_take hr (by decide) rfl (da_cons (de_var (pv 0)) (da_cons (de_len (osl (pv 1)) rfl m_len) (da_nil))))))) (ea_nil))) rfl)
    (dss_cons (ds_par2 (i := 9) (j := 10) rfl sc__law_bent.nd rfl rfl (by decide) rfl rfl (ea_cons (v := .im (dCall sd__law_take (dCons (dVar 0) (dCons (dBin addX (.ex (dB1 lenD (.sl 2))) (.ex (dC (.int 1)))) (dNil))))) (eim (de_callR c__law_take hr (by decide) rfl (da_cons (de_var (pv 0)) (da_cons (de_bin opd_addX (oex (de_len (osl (pv 2)) rfl m_len)) (oex (de_int))) (da_nil))))) (ea_cons (v := .im (dBin subD (.ex (dBin subD (.ex (dC (.int 0))) (.ex (dC (.int 2))))) (.ex (dCall sd__law_take (dCons (dVar 0) (dCons (dC (.int 999)) (dNil))))))) (eim (de_bin opd_sub (oex (de_bin opd_sub (oex (de_int)) (oex (de_int)))) (oex (de_callR c__law_take hr (by decide) rfl (da_cons (de_var (pv 0)) (da_cons (de_int) (da_nil))))))) (ea_nil))) rfl)
    (dss_cons (ds_set (i := 11) sc__law_bent.nd rfl (Or.inl rfl) (de_ixX hr (oex (DO.de (do_lst (da_cons (de_int) (da_cons (de_int) (da_cons (de_bin opd_sub (oex (de_int)) (oex (de_int))) (da_cons (de_bin opd_pow (oex (de_int)) (oex (de_int))) (da_cons (de_bl) (da_cons (de_var (pv 10)) (da_nil)))))))))) (oex (de_callR c__law_take hr (by decide) rfl (da_cons (de_var (pv 0)) (da_cons (de_int) (da_nil)))))))
    (dss_cons (ds_if (dt_cmp opd_lt (osl (pv 3)) (oex (de_int)) rfl) (dss_one (ds_ret (de_tup (da_cons (de_var (pv 1)) (da_cons (de_bin opd_addX (oex (de_bin opd_addX (oex (de_slice (osl (pv 2)) (dp_none) (dp_some (de_var (pv 9))))) (oex (de_tup (da_cons (de_tup (da_cons (de_var (pv 7)) (da_cons (de_var (pv 8)) (da_cons (de_var (pv 11)) (da_nil))))) (da_nil)))))) (oex (de_slice (osl (pv 2)) (dp_some (de_var (pv 9))) (dp_none)))) (da_nil)))))) (dss_nil))
    (dss_cons (ds_if (dt_cmp (opd_eqX hr) (osl (pv 3)) (oex (de_int)) rfl) (dss_one (ds_ret (de_tup (da_cons (de_bin opd_addX (oex (de_slice (osl (pv 1)) (dp_none) (dp_some (de_var (pv 9))))) (oex (de_slice (osl (pv 1)) (dp_some (de_bin opd_addX (osl (pv 9)) (oex (de_int)))) (dp_none)))) (da_cons (de_var (pv 2)) (da_nil)))))) (dss_nil))
    (dss_one (ds_ret (de_tup (da_cons (de_bin opd_addX (osl (pv 1)) (oex (de_slice (oex (de_tuple1 (oex (DO.de (do_lc (own := [("_law_letter", 13)]) (fp := [13]) rfl sc__law_bent.nd (di_str (de_str (by decide +kernel))) (blkOk_by (N := N__law_bent) (sc := defScope st__law_bent) (own := [("_law_letter", 13)]) (by decide +kernel)) (fun _ _ _ _ _ => dg_name (i := 13) sc__law_bent.nd rfl (Or.inl rfl)) (fun _ _ _ _ _ => dts_nil) (fun _ _ _ _ _ => de_bin opd_addX (oex (de_str (by decide +kernel))) (osl (pv 13)))))) rfl m_tuple)) (dp_none) (dp_some (de_bin opd_addX (oex (de_int)) (oex (de_callR c__law_take hr (by decide) rfl (da_cons (de_var (pv 0)) (da_cons (de_int) (da_nil)))))))))) (da_cons (de_var (pv 2)) (da_nil)))))))))))))))) pure__law_bent
theorem ok_law {P : Program} {w : World} {K : PySem.W.Frag} {mg : Str → Option Value} {base : Heap} {f : Addr} {fd : FuncData} (F : FnQ K "law" "law" st_law f fd) (m_range : mg "range" = none) (ne_Length : CalN P w K mg base 2 "Length" sd_Length___eq__) (m_repr : mg "repr" = none) (c__law_told : CalR P w K mg base 9 "_law_told" sd__law_told) (m_len : mg "len" = none) (c__law_due : CalR P w K mg base 4 "_law_due" sd__law_due) (c__law_take : CalR P w K mg base 2 "_law_take" sd__law_take) (c__law_bent : CalR P w K mg base 7 "_law_bent" sd__law_bent) (c__law_web : CalR P w K mg base 5 "_law_web" sd__law_web) (c__law_box : CalR P w K mg base 2 "_law_box" sd__law_box) (B : Binds K fd ["_law_script"] []) : FnG P w K mg base 10 f (toSp K sd_law) :=
  fn_dG (k := 9) (t := t_law) F sc_law B len_law (fun cdv A outer s H E e hr hG => dss_cons (ds_for PassesOwn.never rfl (di_range1 rfl m_range (de_int)) (dg_name (i := 1) sc_law.nd rfl (Or.inl rfl)) (dss_cons (ds_set (i := 2) sc_law.nd rfl (Or.inl rfl) (de_callR c__law_box hr (by decide) rfl (da_cons (de_var (pv 0)) (da_cons (de_var (pv 1)) (da_nil)))))
    (dss_cons (ds_set (i := 3) sc_law.nd rfl (Or.inl rfl) (de_callR c__law_web hr (by decide) rfl (da_cons (de_var (pv 2)) (da_cons (de_int) (da_nil)))))
    (dss_one (ds_for PassesOwn.never rfl (di_range1 rfl m_range (de_int)) (dg_name (i := 4) sc_law.nd rfl (Or.inl rfl)) (dss_cons (ds_set (i := 5) sc_law.nd rfl (Or.inl rfl) (de_var (pv 3)))
    (dss_cons (ds_for PassesOwn.never rfl (di_range1 rfl m_range (de_callR c__law_take hr (by decide) rfl (da_cons (de_var (pv 2)) (da_cons (de_int) (da_nil))))) (dg_name (i := 6) sc_law.nd rfl (Or.inl rfl)) (dss_one (ds_set (i := 5) sc_law.nd rfl (Or.inl rfl) (de_callR c__law_bent hr (by decide) rfl (da_cons (de_var (pv 2)) (da_cons (de_ixX hr (osl (pv 5)) (oex (de_int))) (da_cons (de_ixX hr (osl (pv 5)) (oex (de_int))) (da_nil))))))))
    (dss_one (ds_for PassesOwn.never rfl (di_seq (de_tup (da_cons (de_var (pv 5)) (da_cons (de_var (pv 3)) (da_cons (de_var (pv 5)) (da_nil)))))) (dg_tup rfl (dgs_cons (dg_name (i := 7) sc_law.nd rfl (Or.inl rfl)) (dgs_cons (dg_name (i := 8) sc_law.nd rfl (Or.inl rfl)) (dgs_nil)))) (dss_cons (ds_set (i := 9) sc_law.nd rfl (Or.inl rfl) (de_callR c__law_due hr (by decide) rfl (da_cons (de_var (pv 7)) (da_cons (de_var (pv 8)) (da_nil)))))
    (dss_cons (ds_if (dt_cmp opd_is (osl (pv 9)) (oex (de_non)) rfl) (dss_one (ds_set (i := 9) sc_law.nd rfl (Or.inl rfl) (DO.de (do_lst (da_cons (de_var (pv 7)) (da_cons (de_var (pv 8)) (da_cons (de_len (osl (pv 7)) rfl m_len) (da_nil)))))))) (dss_nil))
    (dss_one (ds_if (dt_cmpF (opf_ownNe ne_Length hr (by decide) (opd_neX hr)) (de_repr hr hG (oex (de_callR c__law_told hr (by decide) rfl (da_cons (de_var (pv 7)) (da_cons (de_var (pv 8)) (da_nil))))) rfl m_repr) (de_repr hr hG (osl (pv 9)) rfl m_repr) rfl) (dss_one (ds_ret (de_bl))) (dss_nil))))))))))))))
    (dss_one (ds_ret (de_bl)))) pure_law
theorem entry {K : PySem.W.Frag} {H : Hp} {a : Addr} {ns : List Int} {sd : SpD} (hS : SqL K H a (ns.map V.int)) (h : sd [.scr ns] fun d => d = .bl true) : toSp K sd [.ref a] H (fun v _ => v = .bl true) fun _ _ _ => False :=
  ⟨⟨H, fun _ => none⟩, [.scr ns], _, ⟨Same.refl _, (fun _ _ h => nomatch h), (fun _ _ _ _ h => nomatch h)⟩, .cons (.scr hS) .nil, h, fun d v G' H' _ _ r q => by subst q; exact r.blI⟩
/-! ### the head -/
theorem ih_NoWeb : IniH "__init__" "NoWeb.__init__" (defArgs st_ENoWeb) (defBody st_ENoWeb) (defScope st_ENoWeb) "self" ["word", "at"] := ⟨⟨_, rfl, rfl⟩, rfl, rfl, rfl, rfl, rfl, rfl, rfl, by decide +kernel, fun _ _ _ _ _ _ _ us h => match us, h with | [_, _, _], _ => rfl⟩
theorem su_NoWeb : SupSt ((defBody st_ENoWeb).getD 0 (.Pass ⟨0, 0, 0, 0⟩)) "NoWeb.__init__" (defScope st_ENoWeb) := ⟨⟨_, _, _, _, _, _, _, _, _, rfl, fun _ _ _ _ => ⟨rfl, rfl, rfl⟩⟩⟩
theorem fl0_NoWeb : FldSt ((defBody st_ENoWeb).getD 1 (.Pass ⟨0, 0, 0, 0⟩)) "self" "word" "word" "NoWeb.__init__" (defScope st_ENoWeb) := ⟨⟨_, _, _, _, rfl, fun _ _ _ _ => rfl⟩, rfl, rfl⟩
theorem fl1_NoWeb : FldSt ((defBody st_ENoWeb).getD 2 (.Pass ⟨0, 0, 0, 0⟩)) "self" "at" "at" "NoWeb.__init__" (defScope st_ENoWeb) := ⟨⟨_, _, _, _, rfl, fun _ _ _ _ => rfl⟩, rfl, rfl⟩
theorem ob_eq (s : PySem.W.SharedT) : ob s = hk.obs s.abs := obYG_eq (HandSHeadRun.getT_eq s)
theorem facts {P : Program} {w : World} {K : PySem.W.Frag} {h : Heap} {mg : Str → Option Value} {f : Addr} (hP : P.main.file = "/claim/cut.py") (hS : (P.main.scope.names.lookup ("super" : Str)).isSome = false) (X : K.In h) (G : h.Ns mainGlobals mg) (hfa : mg ("law" : Str) = some (.ref f)) (cY : SaysY fa fn fy K) :
    ∀ base : Heap, K.In base → base.Ns mainGlobals mg → FnG P w K mg base 10 f (toSp K sd_law) := by
  have c := cY.x
  obtain ⟨fd_Length___eq__, F_Length___eq__⟩ := c.dfn 0 (d := d_Length___eq__) rfl
  obtain ⟨fd_is_strings, F_is_strings⟩ := c.dfn 1 (d := d_is_strings) rfl
  obtain ⟨fd_is_rope, F_is_rope⟩ := c.dfn 2 (d := d_is_rope) rfl
  obtain ⟨fd_is_word, F_is_word⟩ := c.dfn 3 (d := d_is_word) rfl
  obtain ⟨fd_check_web, F_check_web⟩ := c.dfn 4 (d := d_check_web) rfl
  obtain ⟨fd_Length___init__, F_Length___init__⟩ := c.dfn 5 (d := d_Length___init__) rfl
  obtain ⟨fd_Length___lt__, F_Length___lt__⟩ := c.dfn 6 (d := d_Length___lt__) rfl
  obtain ⟨fd_Length_least, F_Length_least⟩ := c.dfn 7 (d := d_Length_least) rfl
  obtain ⟨fd_direct_lengths, F_direct_lengths⟩ := c.dfn 8 (d := d_direct_lengths) rfl
  obtain ⟨fd_Length___add__, F_Length___add__⟩ := c.dfn 9 (d := d_Length___add__) rfl
  obtain ⟨fd_Length___radd__, F_Length___radd__⟩ := c.dfn 10 (d := d_Length___radd__) rfl
  obtain ⟨fd_reaches_of, F_reaches_of⟩ := c.dfn 11 (d := d_reaches_of) rfl
  obtain ⟨fd_Web___init__, F_Web___init__⟩ := c.dfn 12 (d := d_Web___init__) rfl
  obtain ⟨fd_Web___len__, F_Web___len__⟩ := c.dfn 13 (d := d_Web___len__) rfl
  obtain ⟨fd_Web_ropes, F_Web_ropes⟩ := c.dfn 14 (d := d_Web_ropes) rfl
  obtain ⟨fd_Web_walkers, F_Web_walkers⟩ := c.dfn 15 (d := d_Web_walkers) rfl
  obtain ⟨fd__law_told, F__law_told⟩ := c.dfn 16 (d := d__law_told) rfl
  obtain ⟨fd__law_is_rope, F__law_is_rope⟩ := c.dfn 17 (d := d__law_is_rope) rfl
  obtain ⟨fd__law_has_form, F__law_has_form⟩ := c.dfn 18 (d := d__law_has_form) rfl
  obtain ⟨fd__law_due, F__law_due⟩ := c.dfn 19 (d := d__law_due) rfl
  obtain ⟨fd__law_take, F__law_take⟩ := c.dfn 20 (d := d__law_take) rfl
  obtain ⟨fd__law_changed, F__law_changed⟩ := c.dfn 21 (d := d__law_changed) rfl
  obtain ⟨fd__law_spaced, F__law_spaced⟩ := c.dfn 22 (d := d__law_spaced) rfl
  obtain ⟨fd__law_bent, F__law_bent⟩ := c.dfn 23 (d := d__law_bent) rfl
  obtain ⟨fd__law_mixed, F__law_mixed⟩ := c.dfn 24 (d := d__law_mixed) rfl
  obtain ⟨fd__law_names, F__law_names⟩ := c.dfn 25 (d := d__law_names) rfl
  obtain ⟨fd__law_web, F__law_web⟩ := c.dfn 26 (d := d__law_web) rfl
  obtain ⟨fd__law_box, F__law_box⟩ := c.dfn 27 (d := d__law_box) rfl
  obtain ⟨fd_law, F_law⟩ := c.dfn 28 (d := d_law) rfl
  have g_law : mg "law" = some (.ref (He.ga K "law")) := He.glo_ok X G (c.tst 18 (t := tFa (.glo "law")) rfl)
  have e := hfa.symm.trans g_law
  cases e
  have B_law : Binds K fd_law ["_law_script"] [] := F_law.bindsN fun _ _ _ _ _ _ us hl => match us, hl with | [_], _ => rfl
  intro base _ _
  have h_size := fld_ok (c.tst 19 (t := tFld "size" ["Length"]) rfl)
  have h_rank := fld_ok (c.tst 20 (t := tFld "rank" ["Length"]) rfl)
  have m_isinstance := He.free_ok X G (c.tst 21 (t := tFa (.free "isinstance")) rfl)
  have g_Length : mg "Length" = some (.ref (He.ga K "Length")) := He.glo_ok X G (c.tst 22 (t := tFa (.glo "Length")) rfl)
  have i_Length := isi_ok (c.tst 23 (t := tIsi "Length" [("Length", true), ("Web", false)]) rfl)
  have r_Length___eq__ := ok_Length___eq__ (P := P) (w := w) (mg := mg) (base := base) F_Length___eq__ h_size h_rank m_isinstance g_Length i_Length
  have B_Length___eq__ : Binds K fd_Length___eq__ ["self", "other"] [] := F_Length___eq__.bindsN fun _ _ _ _ _ _ us hl => match us, hl with | [_, _], _ => rfl
  have k_Length___eq__ := fnD_of r_Length___eq__ B_Length___eq__
  have m_len := He.free_ok X G (c.tst 24 (t := tFa (.free "len")) rfl)
  have m_all := He.free_ok X G (c.tst 25 (t := tFa (.free "all")) rfl)
  have m_str := He.free_ok X G (c.tst 26 (t := tFa (.free "str")) rfl)
  have m_tuple := He.free_ok X G (c.tst 27 (t := tFa (.free "tuple")) rfl)
  have r_is_strings := ok_is_strings (P := P) (w := w) (mg := mg) (base := base) F_is_strings m_len m_all m_isinstance m_str m_tuple
  have B_is_strings : Binds K fd_is_strings ["value", "many"] [] := F_is_strings.bindsN fun _ _ _ _ _ _ us hl => match us, hl with | [_, _], _ => rfl
  have k_is_strings := fnD_of r_is_strings B_is_strings
  have m_bool := He.free_ok X G (c.tst 28 (t := tFa (.free "bool")) rfl)
  have m_int := He.free_ok X G (c.tst 29 (t := tFa (.free "int")) rfl)
  have g_is_strings : mg "is_strings" = some (.ref (He.ga K "is_strings")) := He.glo_ok X G (c.tst 0 (t := tFa (.glo "is_strings")) rfl)
  have c_is_strings : CalR P w K mg base 2 "is_strings" sd_is_strings := ⟨_, k_is_strings, g_is_strings, F_is_strings.kp⟩
  have r_is_rope := ok_is_rope (P := P) (w := w) (mg := mg) (base := base) F_is_rope m_isinstance m_bool m_int c_is_strings m_len m_tuple
  have B_is_rope : Binds K fd_is_rope ["value"] [] := F_is_rope.bindsN fun _ _ _ _ _ _ us hl => match us, hl with | [_], _ => rfl
  have k_is_rope := fnD_of r_is_rope B_is_rope
  have g_LETTERS := He.str_ok X G (c.tst 30 (t := tFa (.str "LETTERS" "abcdefghijklmnopqrstuvwxyz")) rfl)
  have r_is_word := ok_is_word (P := P) (w := w) (mg := mg) (base := base) F_is_word m_all g_LETTERS m_len m_isinstance m_str
  have B_is_word : Binds K fd_is_word ["value"] [] := F_is_word.bindsN fun _ _ _ _ _ _ us hl => match us, hl with | [_], _ => rfl
  have k_is_word := fnD_of r_is_word B_is_word
  have g_is_rope : mg "is_rope" = some (.ref (He.ga K "is_rope")) := He.glo_ok X G (c.tst 1 (t := tFa (.glo "is_rope")) rfl)
  have c_is_rope : CalR P w K mg base 3 "is_rope" sd_is_rope := ⟨_, k_is_rope, g_is_rope, F_is_rope.kp⟩
  have eok_NoWeb := errT_ok (P := P) (B := "ValueError") (d := y_NoWeb) (c.tst 31 (t := errT "NoWeb" veTl "ValueError.__new__" "ValueError.__init__" "NoWeb.__init__" "/claim/cut.py" ["word", "at"]) rfl) (cY.y 0 (d := y_NoWeb) rfl) hP hS
  have g_NoWeb : mg "NoWeb" = some (.ref (He.ga K "NoWeb")) := He.glo_ok X G (c.tst 32 (t := tFa (.glo "NoWeb")) rfl)
  have m_super := He.free_ok X G (c.tst 33 (t := tFa (.free "super")) rfl)
  have er_NoWeb : Err2 P K mg "NoWeb" "word" "at" := ⟨⟨_, _, _, _, _, _, _, _, _, _, _, _, _, _, _, _, baseVE, eok_NoWeb.1, ih_NoWeb, su_NoWeb, fl0_NoWeb, fl1_NoWeb, by decide, by decide, by decide, by decide, eok_NoWeb.2 _ List.mem_cons_self, eok_NoWeb.2 _ (List.mem_cons_of_mem _ List.mem_cons_self)⟩, m_super, g_NoWeb⟩
  have k_Web_MOST := ccon_ok (c.tst 34 (t := tCCon "Web" "MOST" 6) rfl)
  have g_Web : mg "Web" = some (.ref (He.ga K "Web")) := He.glo_ok X G (c.tst 35 (t := tFa (.glo "Web")) rfl)
  have m_enumerate := He.free_ok X G (c.tst 36 (t := tFa (.free "enumerate")) rfl)
  have g_is_word : mg "is_word" = some (.ref (He.ga K "is_word")) := He.glo_ok X G (c.tst 2 (t := tFa (.glo "is_word")) rfl)
  have c_is_word : CalR P w K mg base 2 "is_word" sd_is_word := ⟨_, k_is_word, g_is_word, F_is_word.kp⟩
  have B_check_web : Binds K fd_check_web ["walkers", "ropes"] [] := F_check_web.bindsN fun _ _ _ _ _ _ us hl => match us, hl with | [_, _], _ => rfl
  have kx_check_web := okx_check_web (P := P) (w := w) (mg := mg) (base := base) F_check_web m_all c_is_rope m_isinstance m_tuple c_is_strings er_NoWeb m_len k_Web_MOST g_Web m_enumerate c_is_word B_check_web
  have k_check_web : FnD P w K mg base 4 _ sd_check_web := fnD_ofX kx_check_web
  have r_Length___init__ := ok_Length___init__ (P := P) (w := w) (mg := mg) (base := base) F_Length___init__ h_size h_rank
  have B_Length___init__ : Binds K fd_Length___init__ ["self", "number"] [] := F_Length___init__.bindsN fun _ _ _ _ _ _ us hl => match us, hl with | [_, _], _ => rfl
  have k_Length___init__ := r_Length___init__
  have r_Length___lt__ := ok_Length___lt__ (P := P) (w := w) (mg := mg) (base := base) F_Length___lt__ h_size h_rank m_isinstance g_Length i_Length
  have B_Length___lt__ : Binds K fd_Length___lt__ ["self", "other"] [] := F_Length___lt__.bindsN fun _ _ _ _ _ _ us hl => match us, hl with | [_, _], _ => rfl
  have k_Length___lt__ := fnD_of r_Length___lt__ B_Length___lt__
  have o_Length_Lt : CalO P w K mg base 2 .Lt "Length" sd_Length___lt__ := ⟨_, k_Length___lt__, (own_ok (c.tst 37 (t := tOwn "Length" "__lt__") rfl)).1, (own_ok (c.tst 37 (t := tOwn "Length" "__lt__") rfl)).2⟩
  have k_Length_least := ok_Length_least (P := P) (w := w) (mg := mg) (base := base) F_Length_least o_Length_Lt
  have n_Length : CalI P w K mg base 2 "Length" sd_Length___init__ := ⟨_, _, _, k_Length___init__, g_Length, He.mkr_ok (c.tst 38 (t := tFa (.mkr "Length")) rfl), B_Length___init__⟩
  have s_Length_least : CalSt P w K mg base 3 "Length" "least" (starSd 1 sd_Length_least) := ⟨_, _, _, k_Length_least, (stat_ok (c.tst 39 (t := tStat "Length" "least") rfl)).1, (stat_ok (c.tst 39 (t := tStat "Length" "least") rfl)).2.1, (stat_ok (c.tst 39 (t := tStat "Length" "least") rfl)).2.2⟩
  have r_direct_lengths := ok_direct_lengths (P := P) (w := w) (mg := mg) (base := base) F_direct_lengths g_Length n_Length s_Length_least
  have B_direct_lengths : Binds K fd_direct_lengths ["walkers", "ropes"] [] := F_direct_lengths.bindsN fun _ _ _ _ _ _ us hl => match us, hl with | [_, _], _ => rfl
  have k_direct_lengths := fnD_of r_direct_lengths B_direct_lengths
  have r_Length___add__ := ok_Length___add__ (P := P) (w := w) (mg := mg) (base := base) F_Length___add__ n_Length h_size h_rank m_isinstance g_Length i_Length
  have B_Length___add__ : Binds K fd_Length___add__ ["self", "other"] [] := F_Length___add__.bindsN fun _ _ _ _ _ _ us hl => match us, hl with | [_, _], _ => rfl
  have k_Length___add__ := fnD_of r_Length___add__ B_Length___add__
  have al_Length : CalL P w K mg base 4 "Length" sd_Length___add__ := addL_ok (c.tst 40 (t := tAdd "Length") rfl) k_Length___add__
  have r_Length___radd__ := ok_Length___radd__ (P := P) (w := w) (mg := mg) (base := base) F_Length___radd__ al_Length
  have B_Length___radd__ : Binds K fd_Length___radd__ ["self", "other"] [] := F_Length___radd__.bindsN fun _ _ _ _ _ _ us hl => match us, hl with | [_, _], _ => rfl
  have k_Length___radd__ := fnD_of r_Length___radd__ B_Length___radd__
  have a_Length : CalA P w K mg base 5 "Length" sd_Length___add__ sd_Length___radd__ := add_ok (c.tst 40 (t := tAdd "Length") rfl) (FnR.mono k_Length___add__ (by decide)) (FnR.mono k_Length___radd__ (by decide))
  have m_dict := He.free_ok X G (c.tst 41 (t := tFa (.free "dict")) rfl)
  have r_reaches_of := ok_reaches_of (P := P) (w := w) (mg := mg) (base := base) F_reaches_of g_Length a_Length s_Length_least m_dict
  have B_reaches_of : Binds K fd_reaches_of ["walkers", "direct"] [] := F_reaches_of.bindsN fun _ _ _ _ _ _ us hl => match us, hl with | [_, _], _ => rfl
  have k_reaches_of := fnD_of r_reaches_of B_reaches_of
  have g_check_web : mg "check_web" = some (.ref (He.ga K "check_web")) := He.glo_ok X G (c.tst 3 (t := tFa (.glo "check_web")) rfl)
  have cx_check_web : CalX P w K mg base 4 "check_web" sx_check_web := ⟨_, kx_check_web, g_check_web, F_check_web.kp⟩
  have h_own_walkers := fld_ok (c.tst 42 (t := tFld "own_walkers" ["Web"]) rfl)
  have h_own_ropes := fld_ok (c.tst 43 (t := tFld "own_ropes" ["Web"]) rfl)
  have h_direct := fld_ok (c.tst 44 (t := tFld "direct" ["Web"]) rfl)
  have g_direct_lengths : mg "direct_lengths" = some (.ref (He.ga K "direct_lengths")) := He.glo_ok X G (c.tst 4 (t := tFa (.glo "direct_lengths")) rfl)
  have c_direct_lengths : CalR P w K mg base 4 "direct_lengths" sd_direct_lengths := ⟨_, k_direct_lengths, g_direct_lengths, F_direct_lengths.kp⟩
  have h_reaches := fld_ok (c.tst 45 (t := tFld "reaches" ["Web"]) rfl)
  have g_reaches_of : mg "reaches_of" = some (.ref (He.ga K "reaches_of")) := He.glo_ok X G (c.tst 5 (t := tFa (.glo "reaches_of")) rfl)
  have c_reaches_of : CalR P w K mg base 6 "reaches_of" sd_reaches_of := ⟨_, k_reaches_of, g_reaches_of, F_reaches_of.kp⟩
  have B_Web___init__ : Binds K fd_Web___init__ ["self", "walkers", "ropes"] [] := F_Web___init__.bindsN fun _ _ _ _ _ _ us hl => match us, hl with | [_, _, _], _ => rfl
  have kx_Web___init__ := okx_Web___init__ (P := P) (w := w) (mg := mg) (base := base) F_Web___init__ cx_check_web h_own_walkers h_own_ropes h_direct c_direct_lengths h_reaches c_reaches_of
  have k_Web___init__ : FnOk P w K mg base CX0 7 _ _ _ (toSpI K "Web" sd_Web___init__) := fnI_ofX kx_Web___init__
  have r_Web___len__ := ok_Web___len__ (P := P) (w := w) (mg := mg) (base := base) F_Web___len__ m_len h_own_walkers
  have B_Web___len__ : Binds K fd_Web___len__ ["self"] [] := F_Web___len__.bindsN fun _ _ _ _ _ _ us hl => match us, hl with | [_], _ => rfl
  have k_Web___len__ := fnD_of r_Web___len__ B_Web___len__
  have r_Web_ropes := ok_Web_ropes (P := P) (w := w) (mg := mg) (base := base) F_Web_ropes h_own_ropes
  have B_Web_ropes : Binds K fd_Web_ropes ["self"] [] := F_Web_ropes.bindsN fun _ _ _ _ _ _ us hl => match us, hl with | [_], _ => rfl
  have k_Web_ropes := fnD_of r_Web_ropes B_Web_ropes
  have r_Web_walkers := ok_Web_walkers (P := P) (w := w) (mg := mg) (base := base) F_Web_walkers h_own_walkers
  have B_Web_walkers : Binds K fd_Web_walkers ["self"] [] := F_Web_walkers.bindsN fun _ _ _ _ _ _ us hl => match us, hl with | [_], _ => rfl
  have k_Web_walkers := fnD_of r_Web_walkers B_Web_walkers
  have ex_NoWeb : ExOk K (.ref (He.ga K "NoWeb")) [("NoWeb", true)] := exT_ok (c := (fun K => .ref (He.ga K "NoWeb"))) (c.tst 46 (t := exT (fun K => .ref (He.ga K "NoWeb")) [("NoWeb", true)]) rfl)
  have nx_Web : CalIX P w K mg base 7 "Web" sx_Web___init__ := ⟨_, _, _, kx_Web___init__, g_Web, He.mkr_ok (c.tst 47 (t := tFa (.mkr "Web")) rfl), B_Web___init__⟩
  have xc_NoWeb := excT_ok (c.tst 48 (t := excT "NoWeb") rfl)
  have it_NoGrove_NoMatch_NoText_NoTree_NoWeb : IsEOkT K ["NoGrove", "NoMatch", "NoText", "NoTree"] [("NoWeb", false)] := isTT_ok (c.tst 49 (t := isTT ["NoGrove", "NoMatch", "NoText", "NoTree"] [("NoWeb", false)]) rfl)
  have g_NoTree : mg "NoTree" = some (.ref (He.ga K "NoTree")) := He.glo_ok X G (c.tst 50 (t := tFa (.glo "NoTree")) rfl)
  have g_NoText : mg "NoText" = some (.ref (He.ga K "NoText")) := He.glo_ok X G (c.tst 51 (t := tFa (.glo "NoText")) rfl)
  have g_NoMatch : mg "NoMatch" = some (.ref (He.ga K "NoMatch")) := He.glo_ok X G (c.tst 52 (t := tFa (.glo "NoMatch")) rfl)
  have g_NoGrove : mg "NoGrove" = some (.ref (He.ga K "NoGrove")) := He.glo_ok X G (c.tst 53 (t := tFa (.glo "NoGrove")) rfl)
  have xn_NoWeb_at := eok_NoWeb.2 "at" (List.mem_cons_of_mem _ List.mem_cons_self)
  have xn_NoWeb_word := eok_NoWeb.2 "word" List.mem_cons_self
  have u_Web_len : CalU P w K mg base 2 "Web" "__len__" sd_Web___len__ := ⟨_, k_Web___len__, (own_ok (c.tst 54 (t := tOwn "Web" "__len__") rfl)).1, (own_ok (c.tst 54 (t := tOwn "Web" "__len__") rfl)).2⟩
  have p_Web_ropes : CalP P w K mg base 2 "Web" "ropes" sd_Web_ropes := ⟨_, _, _, _, r_Web_ropes, He.cls_ok (c.tst 56 (t := tFa (.cls "Web")) rfl), prop_ok (c.tst 55 (t := tProp "Web" "ropes") rfl), B_Web_ropes⟩
  have p_Web_walkers : CalP P w K mg base 2 "Web" "walkers" sd_Web_walkers := ⟨_, _, _, _, r_Web_walkers, He.cls_ok (c.tst 56 (t := tFa (.cls "Web")) rfl), prop_ok (c.tst 57 (t := tProp "Web" "walkers") rfl), B_Web_walkers⟩
  have r__law_told := ok__law_told (P := P) (w := w) (mg := mg) (base := base) F__law_told g_NoWeb ex_NoWeb nx_Web xc_NoWeb m_isinstance it_NoGrove_NoMatch_NoText_NoTree_NoWeb g_NoTree g_NoText g_NoMatch g_NoGrove er_NoWeb xn_NoWeb_at xn_NoWeb_word m_len u_Web_len p_Web_ropes p_Web_walkers
  have B__law_told : Binds K fd__law_told ["_law_walkers", "_law_ropes"] [] := F__law_told.bindsN fun _ _ _ _ _ _ us hl => match us, hl with | [_, _], _ => rfl
  have k__law_told := fnD_of r__law_told B__law_told
  have r__law_is_rope := ok__law_is_rope (P := P) (w := w) (mg := mg) (base := base) F__law_is_rope m_isinstance m_bool m_int m_all m_str m_len m_tuple
  have B__law_is_rope : Binds K fd__law_is_rope ["_law_rope"] [] := F__law_is_rope.bindsN fun _ _ _ _ _ _ us hl => match us, hl with | [_], _ => rfl
  have k__law_is_rope := fnD_of r__law_is_rope B__law_is_rope
  have g__law_is_rope : mg "_law_is_rope" = some (.ref (He.ga K "_law_is_rope")) := He.glo_ok X G (c.tst 7 (t := tFa (.glo "_law_is_rope")) rfl)
  have c__law_is_rope : CalR P w K mg base 2 "_law_is_rope" sd__law_is_rope := ⟨_, k__law_is_rope, g__law_is_rope, F__law_is_rope.kp⟩
  have r__law_has_form := ok__law_has_form (P := P) (w := w) (mg := mg) (base := base) F__law_has_form m_all c__law_is_rope m_isinstance m_str m_tuple
  have B__law_has_form : Binds K fd__law_has_form ["_law_walkers", "_law_ropes"] [] := F__law_has_form.bindsN fun _ _ _ _ _ _ us hl => match us, hl with | [_, _], _ => rfl
  have k__law_has_form := fnD_of r__law_has_form B__law_has_form
  have g__law_has_form : mg "_law_has_form" = some (.ref (He.ga K "_law_has_form")) := He.glo_ok X G (c.tst 8 (t := tFa (.glo "_law_has_form")) rfl)
  have c__law_has_form : CalR P w K mg base 3 "_law_has_form" sd__law_has_form := ⟨_, k__law_has_form, g__law_has_form, F__law_has_form.kp⟩
  have r__law_due := ok__law_due (P := P) (w := w) (mg := mg) (base := base) F__law_due m_enumerate m_len c__law_has_form
  have B__law_due : Binds K fd__law_due ["_law_walkers", "_law_ropes"] [] := F__law_due.bindsN fun _ _ _ _ _ _ us hl => match us, hl with | [_, _], _ => rfl
  have k__law_due := fnD_of r__law_due B__law_due
  have r__law_take := ok__law_take (P := P) (w := w) (mg := mg) (base := base) F__law_take m_len
  have B__law_take : Binds K fd__law_take ["_law_box_here", "_law_many"] [] := F__law_take.bindsN fun _ _ _ _ _ _ us hl => match us, hl with | [_, _], _ => rfl
  have k__law_take := fnD_of r__law_take B__law_take
  have g__law_changed : mg "_law_changed" = some (.ref (He.ga K "_law_changed")) := He.glo_ok X G (c.tst 11 (t := tFa (.glo "_law_changed")) rfl)
  have m_list := He.free_ok X G (c.tst 58 (t := tFa (.free "list")) rfl)
  have g__law_take : mg "_law_take" = some (.ref (He.ga K "_law_take")) := He.glo_ok X G (c.tst 10 (t := tFa (.glo "_law_take")) rfl)
  have c__law_take : CalR P w K mg base 2 "_law_take" sd__law_take := ⟨_, k__law_take, g__law_take, F__law_take.kp⟩
  have B__law_changed : Binds K fd__law_changed ["_law_box_here", "_law_thing", "_law_deep", "_law_odd"] [] := F__law_changed.bindsN fun _ _ _ _ _ _ us hl => match us, hl with | [_, _, _, _], _ => rfl
  have k__law_changed : ∀ n, FnD P w K mg base (2 + n) (He.ga K "_law_changed") (sd__law_changed n) := by
    intro n
    induction n with
    | zero => exact fun A outer s H us vs Q E _ _ _ h => by obtain ⟨_, ds, Qd, _, _, h, _⟩ := h; exact (zero__law_changed h).elim
    | succ n ih => exact fnD_of (ok__law_changed (P := P) (w := w) (mg := mg) (base := base) n (Nat.le_add_right _ _) F__law_changed ⟨_, ih, g__law_changed, F__law_changed.kp⟩ m_tuple m_list c__law_take m_len m_isinstance) B__law_changed
  have k__law_changed := k__law_changed 4
  have r__law_spaced := ok__law_spaced (P := P) (w := w) (mg := mg) (base := base) F__law_spaced 
  have B__law_spaced : Binds K fd__law_spaced ["_law_text"] [] := F__law_spaced.bindsN fun _ _ _ _ _ _ us hl => match us, hl with | [_], _ => rfl
  have k__law_spaced := fnD_of r__law_spaced B__law_spaced
  have c__law_changed : CalR P w K mg base 6 "_law_changed" (sd__law_changed 4) := ⟨_, k__law_changed, g__law_changed, F__law_changed.kp⟩
  have g__law_spaced : mg "_law_spaced" = some (.ref (He.ga K "_law_spaced")) := He.glo_ok X G (c.tst 12 (t := tFa (.glo "_law_spaced")) rfl)
  have c__law_spaced : CalR P w K mg base 2 "_law_spaced" sd__law_spaced := ⟨_, k__law_spaced, g__law_spaced, F__law_spaced.kp⟩
  have r__law_bent := ok__law_bent (P := P) (w := w) (mg := mg) (base := base) F__law_bent m_tuple c__law_take m_len c__law_has_form m_isinstance c__law_changed m_str c__law_spaced
  have B__law_bent : Binds K fd__law_bent ["_law_box_here", "_law_walkers", "_law_ropes"] [] := F__law_bent.bindsN fun _ _ _ _ _ _ us hl => match us, hl with | [_, _, _], _ => rfl
  have k__law_bent := fnD_of r__law_bent B__law_bent
  have m_range := He.free_ok X G (c.tst 59 (t := tFa (.free "range")) rfl)
  have r__law_mixed := ok__law_mixed (P := P) (w := w) (mg := mg) (base := base) F__law_mixed m_range m_len c__law_take m_list
  have B__law_mixed : Binds K fd__law_mixed ["_law_box_here", "_law_items"] [] := F__law_mixed.bindsN fun _ _ _ _ _ _ us hl => match us, hl with | [_, _], _ => rfl
  have k__law_mixed := fnD_of r__law_mixed B__law_mixed
  have g__law_mixed : mg "_law_mixed" = some (.ref (He.ga K "_law_mixed")) := He.glo_ok X G (c.tst 14 (t := tFa (.glo "_law_mixed")) rfl)
  have c__law_mixed : CalR P w K mg base 3 "_law_mixed" sd__law_mixed := ⟨_, k__law_mixed, g__law_mixed, F__law_mixed.kp⟩
  have m_min := He.free_ok X G (c.tst 60 (t := tFa (.free "min")) rfl)
  have r__law_names := ok__law_names (P := P) (w := w) (mg := mg) (base := base) F__law_names c__law_mixed m_int m_range m_min c__law_take m_len
  have B__law_names : Binds K fd__law_names ["_law_box_here", "_law_many"] [] := F__law_names.bindsN fun _ _ _ _ _ _ us hl => match us, hl with | [_, _], _ => rfl
  have k__law_names := fnD_of r__law_names B__law_names
  have g__law_names : mg "_law_names" = some (.ref (He.ga K "_law_names")) := He.glo_ok X G (c.tst 15 (t := tFa (.glo "_law_names")) rfl)
  have c__law_names : CalR P w K mg base 4 "_law_names" sd__law_names := ⟨_, k__law_names, g__law_names, F__law_names.kp⟩
  have r__law_web := ok__law_web (P := P) (w := w) (mg := mg) (base := base) F__law_web m_tuple m_range c__law_take m_len m_int c__law_names
  have B__law_web : Binds K fd__law_web ["_law_box_here", "_law_most"] [] := F__law_web.bindsN fun _ _ _ _ _ _ us hl => match us, hl with | [_, _], _ => rfl
  have k__law_web := fnD_of r__law_web B__law_web
  have m_abs := He.free_ok X G (c.tst 61 (t := tFa (.free "abs")) rfl)
  have r__law_box := ok__law_box (P := P) (w := w) (mg := mg) (base := base) F__law_box m_abs
  have B__law_box : Binds K fd__law_box ["_law_script", "_law_base"] [] := F__law_box.bindsN fun _ _ _ _ _ _ us hl => match us, hl with | [_, _], _ => rfl
  have k__law_box := fnD_of r__law_box B__law_box
  have ne_Length := ne_ok (c.tst 62 (t := tNe "Length") rfl) k_Length___eq__
  have m_repr := He.free_ok X G (c.tst 63 (t := tFa (.free "repr")) rfl)
  have g__law_told : mg "_law_told" = some (.ref (He.ga K "_law_told")) := He.glo_ok X G (c.tst 6 (t := tFa (.glo "_law_told")) rfl)
  have c__law_told : CalR P w K mg base 9 "_law_told" sd__law_told := ⟨_, k__law_told, g__law_told, F__law_told.kp⟩
  have g__law_due : mg "_law_due" = some (.ref (He.ga K "_law_due")) := He.glo_ok X G (c.tst 9 (t := tFa (.glo "_law_due")) rfl)
  have c__law_due : CalR P w K mg base 4 "_law_due" sd__law_due := ⟨_, k__law_due, g__law_due, F__law_due.kp⟩
  have g__law_bent : mg "_law_bent" = some (.ref (He.ga K "_law_bent")) := He.glo_ok X G (c.tst 13 (t := tFa (.glo "_law_bent")) rfl)
  have c__law_bent : CalR P w K mg base 7 "_law_bent" sd__law_bent := ⟨_, k__law_bent, g__law_bent, F__law_bent.kp⟩
  have g__law_web : mg "_law_web" = some (.ref (He.ga K "_law_web")) := He.glo_ok X G (c.tst 16 (t := tFa (.glo "_law_web")) rfl)
  have c__law_web : CalR P w K mg base 5 "_law_web" sd__law_web := ⟨_, k__law_web, g__law_web, F__law_web.kp⟩
  have g__law_box : mg "_law_box" = some (.ref (He.ga K "_law_box")) := He.glo_ok X G (c.tst 17 (t := tFa (.glo "_law_box")) rfl)
  have c__law_box : CalR P w K mg base 2 "_law_box" sd__law_box := ⟨_, k__law_box, g__law_box, F__law_box.kp⟩
  exact ok_law F_law m_range ne_Length m_repr c__law_told m_len c__law_due c__law_take c__law_bent c__law_web c__law_box B_law
end T
open PySem PySem.W PySem.Calls PyProof.Rows
theorem PySem.Challenge.cw_towgrove_k19_values_that_are_webs_holds : PySem.Challenge.rw_towgrove_k19_values_that_are_webs.Holds := by
  w_on; o_law
  refine HandSHeadRun.head_any (r := OpenLaw.row PySem.Challenge.rw_towgrove_k19_values_that_are_webs) (q := view (OpenLaw.row PySem.Challenge.rw_towgrove_k19_values_that_are_webs).prog [37]) (H := T.hk) (ob := T.ob) (M := 20000) (loose := ("_wall" :: "TowError" :: "BuildError" :: "UseError" :: "NoTree" :: "NoGrove" :: "NoWeb" :: "NoText" :: "NoMatch" :: "NoWalker" :: "Length" :: "LETTERS" :: "is_word" :: "is_strings" :: "is_rope" :: "check_web" :: "direct_lengths" :: "reaches_of" :: "need_walkers" :: "Web" :: "_law_box" :: "_law_take" :: "_law_mixed" :: "_law_names" :: "_law_web" :: "_law_changed" :: "_law_is_rope" :: "_law_has_form" :: "_law_due" :: "_law_told" :: "_law_spaced" :: "_law_bent" :: [])) (d := HandSHeadRun.topDef (OpenLaw.row PySem.Challenge.rw_towgrove_k19_values_that_are_webs).prog 37) (kwd := []) T.ob_eq
    (by kernel_rfl) (fun s => by kernel_rfl) T.run (by kernel_rfl) (by kernel_rfl) (by kernel_rfl) (by rfl) (by first | assumption | decide +kernel) (by decide +kernel) ⟨rfl, rfl, rfl, rfl, rfl, by decide +kernel⟩ ?hw ?hc
  case hw => w_witness2
  case hc =>
    refine T.walk_ofG (l := PySem.Challenge.rw_towgrove_k19_values_that_are_webs) (n := 63) (k := 10) rfl (by decide) (by kernel_rfl) ⟨rfl, by decide, by decide⟩ ?F
    intro w mg fa h Y G hmg0
    obtain ⟨K, KX, c⟩ := Y
    have hmg : mg ("law" : PySem.Str) = some (.ref fa) := by
      have e : (HandSHeadRun.topDef (OpenLaw.row PySem.Challenge.rw_towgrove_k19_values_that_are_webs).prog 37).name = ("law" : PySem.Str) := by kernel_rfl
      rw [← e]
      exact hmg0
    have hF := T.facts (P := (PySem.Challenge.rw_towgrove_k19_values_that_are_webs).prog) (w := w) (by kernel_rfl) (by kernel_rfl) KX G hmg c
    exact ⟨K, T.toSp K T.sd_law, KX, fun H a ns hl _ hS => T.entry hS ⟨ns, rfl, rfl⟩, hF⟩
