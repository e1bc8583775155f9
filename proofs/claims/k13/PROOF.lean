import PyProof.Rows.All
import Wide.All
import OpenK.AllK
import Wide.FinOn
import KE.KStateDown
import Lean
import HandS.ForMost
import HandS.ForExc
import HandS.Conv
import HandS.Deep
import HandS.Flow
import HandS.Style
import HandS.TupAny
import HandS.Wide
import HandS.Defaults
import HandS.IsInst
import HandS.HeadHook1
import HandS.Property
import HandS.Small
import KE.GoesMore
import HandS.DictComp
import HandS.WordsDict
import HandS.ClsMeth
import HandS.Star
import HandS.HeadHook2
import HandS.HeadHook3
import HandS.SlotsOwn
import KE.KOpsOwn
import KE.KEqNest
import HandS.TupLe
import PyProof.ReprRoads
import HandS.RaiseMore
import HandS.FStr
import HandS.HeadEnd
import KE.KFmtOwn
import PyProof.Rows.ReprOcc
import PyProof.ReprLen
import HandS.DictEq
import PyProof.P3Eq
import PyProof.StrLawsRepr
import KE.SortData
import HandS.OwnEq
import HandS.Text
import KE.KUnpack
import PyProof.RulesMatchSeq
import PyProof.RulesMatch
import PyProof.Rows.MatchSeqLen
import KE.KExcSuper
import HandS.ExcInit
import HandS.ExcSuper
import HandS.ExcField
import PyProof.ExcBaseAll.LookupError
import HandS.ExcOwn
import HandS.WordsExc
import HandS.ExcIs
import KE.KExcIs
import HandS.List
import HandS.TryMany
import PyProof.AttrMiss
import OpenK.KCls
import OpenK.KMeth
import KE.KCallOwn
import HandS.Ends
import HandS.More
import HandS.Words
import HandS.Head0
import HandS.Head1
import HandS.Head2
import PySem.Challenge.RW_towgrove_k13_gates
set_option Elab.async false
set_option linter.all false
set_option maxRecDepth 100000
set_option maxHeartbeats 0
namespace T
open PySem L2
/-- a def: the address of its function object by the text, and what its row says -/
structure DefX where
  ad : PySem.W.Frag → Addr
  nm : Str
  ql : Str
  st : Stmt
  df : List He.Dv := []
def fnAt (K : PySem.W.Frag) (a : Addr) : He.FnW := (K.lookup a).bind fun o => match o.data with | .func u => some (u.name, u.qualname, u.params, u.body, u.scope, u.globals, u.closure, u.builtins) | _ => none
def DefX.says (d : DefX) : He.FnW := some (d.nm, d.ql, defArgs d.st, .stmts (defBody d.st), defScope d.st, mainGlobals, [], builtinsNs)
def fnTest (K : PySem.W.Frag) (a : Addr) (ql : Str) (vs : List V) : Bool := PySem.W.keepIn K (.ref a) && ((K.lookup a).any fun o => match o.data with | .func u => PySem.W.codeIn K u.code ql && (He.dflB K u.defaults vs && He.kwdB K u.kwdefaults []) | _ => false)
abbrev Tst := PySem.W.Frag → Bool
def tFa (f : He.Fa) : Tst := fun K => f.ok K
/-- the property x.f of the class x: its record, its getter -/
def pAd (K : PySem.W.Frag) (x f : Str) : Addr := He.ma K (He.ga K x) f
def pGet (K : PySem.W.Frag) (x f : Str) : Addr := match PySem.W.recIn K (pAd K x f) "property" with | some (.ref g :: _) => g | _ => 0
def tProp (x f : Str) : Tst := fun K => He.eqO (PySem.W.findIn K (.ref (He.ga K x)) f) (some (some (.ref (pAd K x f)))) && (He.eqO (PySem.W.specialIn K (.ref (pAd K x f)) "__get__") (some (some (.builtin "property.__get__"))) &&
  (decide (PySem.W.takesIn K (.ref (pAd K x f)) = some true) && (match PySem.W.recIn K (pAd K x f) "property" with | some (.ref _ :: _) => true | _ => false)))
def tCCon (x f : Str) (i : Int) : Tst := fun K => PySem.W.readsIn K (He.ga K x) (.type "type") && (He.eqO (PySem.W.specialIn K (.ref (He.ga K x)) "__getattribute__") (some (some (.builtin "type.__getattribute__"))) &&
  (match PySem.W.findCls K (.ref (He.ga K x)) (.type "type") f with | some (.val (.int j _)) => decide (j = i) | _ => false))
/-- the def of a class under a name of Python's own -/
def tOwn (C m : Str) : Tst := fun K => He.eqO (PySem.W.findIn K (.ref (He.ga K C)) m) (some (some (.ref (He.ma K (He.ga K C) m)))) && PySem.W.isFn K (.ref (He.ma K (He.ga K C) m))
def tFld (f : Str) (cs : List Str) : Tst := fun K => cs.all fun C => (He.Fa.cls C).ok K && (He.Fa.noat C f).ok K
/-- own classes, then a built-in tail -/
def refsT (tl : List Value) : List Value → Bool
  | .ref _ :: r => refsT tl r
  | l => l == tl
def keTail : List Value := [.type "KeyError", .type "LookupError", .type "Exception", .type "BaseException", .type "object"]
def veTl : List Value := [.type "ValueError", .type "Exception", .type "BaseException", .type "object"]
def fnAtY (K : PySem.W.Frag) (a : Addr) : He.FnW := (K.lookup a).bind fun o => match o.data with | .func u => some (u.name, u.qualname, u.params, u.body, u.scope, u.globals, [], u.builtins) | _ => none
def obsY (ts : List Tst) (ds ys : List DefX) (K : PySem.W.Frag) : He.AlD := ((ts.all fun t => t K) && ds.all fun d => fnTest K (d.ad K) d.ql (d.df.map (He.Dv.v K)), (ds.map fun d => fnAt K (d.ad K)) ++ ys.map fun d => fnAtY K (d.ad K))
def SaysY (ts : List Tst) (ds ys : List DefX) (K : PySem.W.Frag) : Prop := obsY ts ds ys K = (true, ds.map DefX.says ++ ys.map DefX.says)
def obYG (n : Nat) (ts : List Tst) (ds ys : List DefX) (g : Addr → Option Obj) : He.AlD := obsY ts ds ys (He.frG g (cStatics :: He.asD g n))
def hookY (n : Nat) (ts : List Tst) (ds ys : List DefX) : PySem.W.Hook := { α := He.AlD, obs := fun s => obYG n ts ds ys s.heap.get?, val := fun _ => (true, ds.map DefX.says ++ ys.map DefX.says), says := fun _ h => ∃ K : PySem.W.Frag, K.In h ∧ SaysY ts ds ys K, of := fun _ _ e => ⟨_, He.frG_in, e⟩, keeps := fun _ _ _ ⟨K, hK, c⟩ k => ⟨K, hK.keeps k, c⟩ }
def clsT (K : PySem.W.Frag) (C : Addr) (tl : List Value) (newId initId : String) : Bool := match K.lookup C with
  | some o => match o.data with
    | .cls cd => (o.cls == .type "type") && ((o.slots.size == 6) && ((o.slots[4]? == some (some (.builtin newId))) && (cd.hasDict && (!cd.hasDel && ((cd.mro.head? == some (.ref C)) && (refsT tl cd.mro.tail && He.eqO (PySem.W.alongIn K "__init__" cd.mro.tail) (some (some (.builtin initId)))))))))
    | _ => false
  | none => false
def iniT (K : PySem.W.Frag) (f C : Addr) (qual file : Str) : Bool := match K.lookup f with
  | some o => match o.data with
    | .func u => (match u.closure with
        | [(n, cc)] => (n == "__class__") && (match K.lookup cc with | some oc => (match oc.data with | .cell (some (.ref D)) => D == C | _ => false) | none => false)
        | _ => false) && ((u.defaults == .none) && (match u.code with
        | .ref cda => PySem.W.codeIn K (.ref cda) qual && (match K.lookup cda with | some o2 => (match o2.data with | .fields vs => (match (vs[2]? : Option Value) with | some (.str fl _) => fl == file | _ => false) | _ => false) | none => false)
        | _ => false))
    | _ => false
  | none => false
/-- the rest of what an error class must say -/
def errT (C : Str) (tl : List Value) (newId initId : String) (qual file : Str) (fs : List Str) : Tst := fun K => clsT K (He.ga K C) tl newId initId && (iniT K (He.ma K (He.ga K C) "__init__") (He.ga K C) qual file &&
  (He.eqO (PySem.W.findIn K (.ref (He.ga K C)) "__init__") (some (some (.ref (He.ma K (He.ga K C) "__init__")))) && (decide (PySem.W.typeIn K (.ref (He.ma K (He.ga K C) "__init__")) = some (.type "function")) &&
  (He.eqO (PySem.W.findIn K (.ref (He.ga K C)) "__setattr__") (some (some (.builtin "object.__setattr__"))) && (decide (PySem.W.subIn K (.ref (He.ga K C)) (.type "BaseException") = some true) && (decide (PySem.W.typeIn K (.ref (He.ga K C)) = some (.type "type")) &&
  (PySem.W.keepIn K (.ref (He.ga K C)) && (He.eqO (PySem.W.nsIn K cStatics "thirdparty.any") (some none) && fs.all fun f => He.eqO (PySem.W.findIn K (.ref (He.ga K C)) f) (some none)))))))))
def excT (C : Str) : Tst := fun K => He.eqO (PySem.W.findIn K (.ref (He.ga K C)) "__getattribute__") (some (some (.builtin "BaseException.__getattribute__"))) && (He.eqO (PySem.W.findIn K (.ref (He.ga K C)) "__getattr__") (some none) && (decide (PySem.W.subIn K (.ref (He.ga K C)) (.type "BaseException") = some true) && (PySem.W.hasDictIn K (He.ga K C) &&
  (He.eqO (PySem.W.findIn K (.ref (He.ga K C)) "__class__") (some (some (.builtin "object.__class__"))) && (He.eqO (PySem.W.specialIn K (.builtin "object.__class__") "__get__") (some (some (.builtin "getset_descriptor.__get__"))) && (decide (PySem.W.takesIn K (.builtin "object.__class__") = some true) && decide (PySem.W.mroIn K (He.ga K C) (.type "object") = some true)))))))
def exT (c : PySem.W.Frag → Value) (ms : List (Str × Bool)) : Tst := fun K => ms.all fun p => decide (PySem.W.exmOne K (.ref (He.ga K p.1)) (c K) = some p.2)
def isT (c : PySem.W.Frag → Value) (ms : List (Str × Bool)) : Tst := fun K => ms.all fun p => decide (PySem.W.kitOne K (.ref (He.ga K p.1)) (c K) = some p.2)
def tSame (Cs : List Str) (B m : Str) : Tst := fun K => PySem.W.isFn K (.ref (He.ma K (He.ga K B) m)) && Cs.all fun C => He.eqO (PySem.W.findIn K (.ref (He.ga K C)) m) (some (some (.ref (He.ma K (He.ga K B) m))))
def tCallS (Cs : List Str) (B : Str) : Tst := fun K => tSame Cs B "__call__" K && PySem.W.fnIn K (He.ma K (He.ga K B) "__call__")
def tPropS (Cs : List Str) (B f : Str) : Tst := fun K => Cs.all fun C => (He.Fa.cls C).ok K && (tProp C f K && decide (pGet K C f = pGet K B f))
def isTT (cs : List Str) (ms : List (Str × Bool)) : Tst := fun K => ms.all fun p => decide (PySem.W.kitAny K (.ref (He.ga K p.1)) (cs.map fun c => .ref (He.ga K c)) = some p.2)
def top (i : Nat) : Stmt := PySem.Challenge.pw_towgrove_k13_gates.main.body.getD i (.Pass ⟨0, 0, 0, 0⟩)
def cs (s : Str) : List Nat := s.cps.toList
abbrev st_is_word : Stmt := top 25
abbrev st_is_strings : Stmt := top 26
abbrev st_check_places : Stmt := top 27
abbrev st_check_edges : Stmt := top 28
abbrev st_joined : Stmt := top 29
abbrev st_check_tree : Stmt := top 30
abbrev st_gaps_from : Stmt := top 31
abbrev st_Tree___init__ : Stmt := inClass (top 33) 1
abbrev st_Tree___contains__ : Stmt := inClass (top 33) 8
abbrev st__law_take : Stmt := top 36
abbrev st__law_box : Stmt := top 35
abbrev st__law_mixed : Stmt := top 37
abbrev st__law_names : Stmt := top 38
abbrev st__law_tree : Stmt := top 39
abbrev st__law_near : Stmt := top 40
abbrev st__law_gaps : Stmt := top 41
abbrev st_is_between : Stmt := top 17
abbrev st_gate_of : Stmt := top 12
abbrev st_Grove___init__ : Stmt := inClass (top 20) 0
abbrev st__law_size : Stmt := top 44
abbrev st__law_ground : Stmt := top 45
abbrev st__law_grove : Stmt := top 42
abbrev st_Grove_places : Stmt := inClass (top 20) 2
abbrev st_Grove___call__ : Stmt := inClass (top 20) 11
abbrev st__law_called : Stmt := top 47
abbrev st__law_gate : Stmt := top 43
abbrev st__law_maybe : Stmt := top 46
abbrev st_law : Stmt := top 48
abbrev st_ENoPlace : Stmt := inClass (top 10) 0
def y_NoPlace : DefX := ⟨fun K => He.ma K (He.ga K "NoPlace") "__init__", "__init__", "NoPlace.__init__", st_ENoPlace, []⟩
abbrev st_ENoMatch : Stmt := inClass (top 8) 0
def y_NoMatch : DefX := ⟨fun K => He.ma K (He.ga K "NoMatch") "__init__", "__init__", "NoMatch.__init__", st_ENoMatch, []⟩
def d_Grove_places : DefX := ⟨fun K => (pGet K "Grove" "places"), "places", "Grove.places", st_Grove_places, []⟩
def d_Tree___contains__ : DefX := ⟨fun K => (He.ma K (He.ga K "Tree") "__contains__"), "__contains__", "Tree.__contains__", st_Tree___contains__, []⟩
def d_gate_of : DefX := ⟨fun K => (He.ga K "gate_of"), "gate_of", "gate_of", st_gate_of, []⟩
def d_Grove___call__ : DefX := ⟨fun K => (He.ma K (He.ga K "Grove") "__call__"), "__call__", "Grove.__call__", st_Grove___call__, []⟩
def d__law_called : DefX := ⟨fun K => (He.ga K "_law_called"), "_law_called", "_law_called", st__law_called, []⟩
def d__law_gate : DefX := ⟨fun K => (He.ga K "_law_gate"), "_law_gate", "_law_gate", st__law_gate, []⟩
def d__law_take : DefX := ⟨fun K => (He.ga K "_law_take"), "_law_take", "_law_take", st__law_take, []⟩
def d__law_mixed : DefX := ⟨fun K => (He.ga K "_law_mixed"), "_law_mixed", "_law_mixed", st__law_mixed, []⟩
def d_is_between : DefX := ⟨fun K => (He.ga K "is_between"), "is_between", "is_between", st_is_between, []⟩
def d_Grove___init__ : DefX := ⟨fun K => (He.ma K (He.ga K "Grove") "__init__"), "__init__", "Grove.__init__", st_Grove___init__, []⟩
def d__law_grove : DefX := ⟨fun K => (He.ga K "_law_grove"), "_law_grove", "_law_grove", st__law_grove, []⟩
def d__law_maybe : DefX := ⟨fun K => (He.ga K "_law_maybe"), "_law_maybe", "_law_maybe", st__law_maybe, []⟩
def d_gaps_from : DefX := ⟨fun K => (He.ga K "gaps_from"), "gaps_from", "gaps_from", st_gaps_from, []⟩
def d_joined : DefX := ⟨fun K => (He.ga K "joined"), "joined", "joined", st_joined, []⟩
def d_check_edges : DefX := ⟨fun K => (He.ga K "check_edges"), "check_edges", "check_edges", st_check_edges, []⟩
def d_is_word : DefX := ⟨fun K => (He.ga K "is_word"), "is_word", "is_word", st_is_word, []⟩
def d_check_places : DefX := ⟨fun K => (He.ga K "check_places"), "check_places", "check_places", st_check_places, []⟩
def d_is_strings : DefX := ⟨fun K => (He.ga K "is_strings"), "is_strings", "is_strings", st_is_strings, []⟩
def d_check_tree : DefX := ⟨fun K => (He.ga K "check_tree"), "check_tree", "check_tree", st_check_tree, []⟩
def d_Tree___init__ : DefX := ⟨fun K => (He.ma K (He.ga K "Tree") "__init__"), "__init__", "Tree.__init__", st_Tree___init__, []⟩
def d__law_gaps : DefX := ⟨fun K => (He.ga K "_law_gaps"), "_law_gaps", "_law_gaps", st__law_gaps, []⟩
def d__law_near : DefX := ⟨fun K => (He.ga K "_law_near"), "_law_near", "_law_near", st__law_near, []⟩
def d__law_names : DefX := ⟨fun K => (He.ga K "_law_names"), "_law_names", "_law_names", st__law_names, []⟩
def d__law_tree : DefX := ⟨fun K => (He.ga K "_law_tree"), "_law_tree", "_law_tree", st__law_tree, []⟩
def d__law_ground : DefX := ⟨fun K => (He.ga K "_law_ground"), "_law_ground", "_law_ground", st__law_ground, []⟩
def d__law_size : DefX := ⟨fun K => (He.ga K "_law_size"), "_law_size", "_law_size", st__law_size, []⟩
def d__law_box : DefX := ⟨fun K => (He.ga K "_law_box"), "_law_box", "_law_box", st__law_box, []⟩
def d_law : DefX := ⟨fun K => (He.ga K "law"), "law", "law", st_law, []⟩
def fn : List DefX := [d_Grove_places, d_Tree___contains__, d_gate_of, d_Grove___call__, d__law_called, d__law_gate, d__law_take, d__law_mixed, d_is_between, d_Grove___init__, d__law_grove, d__law_maybe, d_gaps_from, d_joined, d_check_edges, d_is_word, d_check_places, d_is_strings, d_check_tree, d_Tree___init__, d__law_gaps, d__law_near, d__law_names, d__law_tree, d__law_ground, d__law_size, d__law_box, d_law]
def fy : List DefX := [y_NoPlace, y_NoMatch]
def fa : List Tst := [tFa (.glo "gate_of"), tFa (.glo "_law_called"), tFa (.glo "_law_gate"), tFa (.glo "_law_take"), tFa (.glo "_law_mixed"), tFa (.glo "is_between"), tFa (.glo "_law_grove"), tFa (.glo "_law_maybe"), tFa (.glo "gaps_from"), tFa (.glo "joined"), tFa (.glo "check_edges"), tFa (.glo "is_word"), tFa (.glo "check_places"), tFa (.glo "is_strings"), tFa (.glo "check_tree"), tFa (.glo "_law_gaps"), tFa (.glo "_law_near"), tFa (.glo "_law_names"), tFa (.glo "_law_tree"), tFa (.glo "_law_ground"), tFa (.glo "_law_size"), tFa (.glo "_law_box"), tFa (.glo "law"), tFld "own" ["Grove", "Made"], tFld "own_places" ["Tree"], tFld "gaps" ["Tree"], tOwn "Tree" "__contains__", tFld "own_tree" ["Grove", "Made"], errT "NoPlace" keTail "LookupError.__new__" "KeyError.__init__" "NoPlace.__init__" "/claim/cut.py" ["place"], tFa (.glo "NoPlace"), tFa (.free "super"), tFa (.free "len"), errT "NoMatch" veTl "ValueError.__new__" "ValueError.__init__" "NoMatch.__init__" "/claim/cut.py" ["word"], tFa (.glo "NoMatch"), tCallS ["Grove", "Made"] "Grove", exT (fun K => .ref (He.ga K "NoPlace")) [("NoPlace", true), ("NoMatch", false)], excT "NoPlace", tFa (.free "isinstance"), isT (fun _ => .type "KeyError") [("NoPlace", true)], tFa (.free "KeyError"), isT (fun K => .ref (He.ga K "TowError")) [("NoPlace", false)], tFa (.glo "TowError"), exT (fun K => .ref (He.ga K "NoMatch")) [("NoMatch", true)], excT "NoMatch", isTT ["Broken", "NoStanding"] [("NoMatch", false)], tFa (.glo "NoStanding"), tFa (.glo "Broken"), isT (fun K => .ref (He.ga K "UseError")) [("NoMatch", true)], tFa (.glo "UseError"), tFa (.free "range"), tFa (.free "list"), tFa (.free "tuple"), tFa (.free "int"), tFa (.free "enumerate"), tFa (.free "all"), tFa (.str "LETTERS" "abcdefghijklmnopqrstuvwxyz"), tFa (.free "str"), tCCon "Tree" "LARGEST" 40, tFa (.glo "Tree"), tFld "near" ["Tree"], tFld "own_edges" ["Tree"], tFa (.free "min"), tFa (.free "max"), tFa (.free "abs"), tPropS ["Grove", "Made"] "Grove" "places", tFa (.free "repr"), tFa (.mkr "Grove"), tFa (.glo "Grove"), tFa (.mkr "Tree")]
abbrev R : PySem.W.OpenRow := PySem.W.OpenLaw.row PySem.Challenge.rw_towgrove_k13_gates
abbrev hk : PySem.W.Hook := hookY 5 fa fn fy
def ob (s : PySem.W.SharedT) : He.AlD := obYG 5 fa fn fy (HandSHeadRun.getT s)
theorem run (w : World) : HandSHeadRun.RunEq R (PySem.W.view R.prog [48]) hk ob 20000 ("_wall" :: "TowError" :: "BuildError" :: "UseError" :: "NoTree" :: "NoGrove" :: "NoStanding" :: "NoMatch" :: "Broken" :: "NoPlace" :: "gate_of" :: "common" :: "bridge_of" :: "after" :: "hull" :: "is_between" :: "need_tree" :: "need_some" :: "Grove" :: "Made" :: "made" :: "LETTERS" :: "is_word" :: "is_strings" :: "check_places" :: "check_edges" :: "joined" :: "check_tree" :: "gaps_from" :: "need_places" :: "Tree" :: "_law_box" :: "_law_take" :: "_law_mixed" :: "_law_names" :: "_law_tree" :: "_law_near" :: "_law_gaps" :: "_law_grove" :: "_law_gate" :: "_law_size" :: "_law_ground" :: "_law_maybe" :: "_law_called" :: []) w := by
  intro os
  kernel_rfl
end T
namespace T
open PySem L2
end T
namespace T
open PySem L2

inductive D where
  | non | bl (b : Bool) | int (i : Int) | str (s : Str)
  | tup (l : List D) | lst (l : List D)
  | dct (l : List (Key × D)) | dtp (l : List (List Key × D))
  | ins (C : Str) (fs : List (Str × D)) | self (x : Addr) (C : Str) (fs : List (Str × D))
  | box (a : Addr) | ty (n : String) | ref (a : Addr) | scr (ns : List Int) | cls (C : Str) | dself (x : Addr) (l : List (Key × D))

/-- the ghost: what is frozen, which boxes of draws stand -/
structure Gh where
  I : Hp
  B : Addr → Option Addr
def foot (G : Gh) (x : Addr) : Prop := (∃ g, G.B x = some g) ∨ ∃ a, G.B a = some x
structure Le (G G' : Gh) : Prop where
  I : Same G.I G'.I
  B : ∀ a g, G.B a = some g → G'.B a = some g
theorem Le.refl (G : Gh) : Le G G := ⟨Same.refl _, fun _ _ h => h⟩
theorem Le.trans {G G1 G2 : Gh} (a : Le G G1) (b : Le G1 G2) : Le G G2 := ⟨a.I.trans b.I, fun x g h => b.B x g (a.B x g h)⟩

theorem sqt_mono {K : PySem.W.Frag} {H H' : Hp} {a : Addr} {xs : List V} (e : Same H H') (h : SqT K H a xs) : SqT K H' a xs := by
  rcases h with (h | ⟨o, h⟩) | h
  · exact .inl (.inl (e _ _ h))
  · exact .inl (.inr ⟨o, e _ _ h⟩)
  · exact .inr h

/-- a text of code points that are -/
def sOk (s : Str) : Prop := ∀ c ∈ s.cps.toList, c < 0x110000
def kOk : Key → Prop
  | .inl _ => True
  | .inr s => sOk s
mutual
inductive Rep (K : PySem.W.Frag) (G : Gh) : V → D → Prop
  | non : Rep K G .non .non
  | bl (b : Bool) : Rep K G (.bl b) (.bl b)
  | int (i : Int) : Rep K G (.int i) (.int i)
  | str {s : Str} : sOk s → Rep K G (.str s) (.str s)
  | tup {p : Addr} {vs : List V} {ds : List D} : G.I p = some (.tup vs) → RepL K G vs ds → Rep K G (.ref p) (.tup ds)
  | lst {p : Addr} {vs : List V} {ds : List D} : G.I p = some (.lst vs) → RepL K G vs ds → Rep K G (.ref p) (.lst ds)
  | scr {p : Addr} {ns : List Int} : SqL K G.I p (ns.map V.int) → Rep K G (.ref p) (.scr ns)
  | dct {p : Addr} {kvs : List (Key × V)} {kds : List (Key × D)} : G.I p = some (.dK kvs) → kvs.map (·.1) = kds.map (·.1) → RepL K G (kvs.map (·.2)) (kds.map (·.2)) → (∀ k ∈ kds.map (·.1), kOk k) → Rep K G (.ref p) (.dct kds)
  | dtp {p : Addr} {kvs : List (List Key × V)} {kds : List (List Key × D)} : G.I p = some (.dT kvs) → kvs.map (·.1) = kds.map (·.1) → RepL K G (kvs.map (·.2)) (kds.map (·.2)) → (∀ k ∈ kds.map (·.1), ∀ x ∈ k, kOk x) → Rep K G (.ref p) (.dtp kds)
  | ins {p dx : Addr} {C : Str} {fvs : List (Str × V)} {fds : List (Str × D)} : G.I p = some (.ins (He.ga K C) dx fvs) → fvs.map (·.1) = fds.map (·.1) → RepL K G (fvs.map (·.2)) (fds.map (·.2)) → Rep K G (.ref p) (.ins C fds)
  | self {p dx : Addr} {C : Str} {fvs : List (Str × V)} {fds : List (Str × D)} : G.I p = some (.ins (He.ga K C) dx fvs) → fvs.map (·.1) = fds.map (·.1) → RepL K G (fvs.map (·.2)) (fds.map (·.2)) → Rep K G (.ref p) (.self p C fds)
  | box {a g : Addr} : G.B a = some g → Rep K G (.ref a) (.box a)
  | ty (n : String) : Rep K G (.ty n) (.ty n)
  | ref (a : Addr) : Rep K G (.ref a) (.ref a)
  | cls (C : Str) : Rep K G (.ref (He.ga K C)) (.cls C)
  | dself {p : Addr} {kvs : List (Key × V)} {kds : List (Key × D)} : G.I p = some (.dK kvs) → kvs.map (·.1) = kds.map (·.1) → RepL K G (kvs.map (·.2)) (kds.map (·.2)) → (∀ k ∈ kds.map (·.1), kOk k) → Rep K G (.ref p) (.dself p kds)
inductive RepL (K : PySem.W.Frag) (G : Gh) : List V → List D → Prop
  | nil : RepL K G [] []
  | cons {v : V} {vs : List V} {d : D} {ds : List D} : Rep K G v d → RepL K G vs ds → RepL K G (v :: vs) (d :: ds)
end
section
variable {K : PySem.W.Frag} {G G' : Gh}
mutual
theorem Rep.mono (l : Le G G') : ∀ {v : V} {d : D}, Rep K G v d → Rep K G' v d
  | _, _, .non => .non
  | _, _, .bl b => .bl b
  | _, _, .int i => .int i
  | _, _, .str h => .str h
  | _, _, .tup h r => .tup (l.I _ _ h) (r.mono l)
  | _, _, .lst h r => .lst (l.I _ _ h) (r.mono l)
  | _, _, .scr h => .scr (l.I.seq h)
  | _, _, .dct h e r w => .dct (l.I _ _ h) e (r.mono l) w
  | _, _, .dtp h e r w => .dtp (l.I _ _ h) e (r.mono l) w
  | _, _, .ins h e r => .ins (l.I _ _ h) e (r.mono l)
  | _, _, .self h e r => .self (l.I _ _ h) e (r.mono l)
  | _, _, .box h => .box (l.B _ _ h)
  | _, _, .ty n => .ty n
  | _, _, .ref a => .ref a
  | _, _, .cls C => .cls C
  | _, _, .dself h e r w => .dself (l.I _ _ h) e (r.mono l) w
theorem RepL.mono (l : Le G G') : ∀ {vs : List V} {ds : List D}, RepL K G vs ds → RepL K G' vs ds
  | _, _, .nil => .nil
  | _, _, .cons h r => .cons (h.mono l) (r.mono l)
end
theorem RepL.length : ∀ {vs : List V} {ds : List D}, RepL K G vs ds → vs.length = ds.length
  | _, _, .nil => rfl
  | _, _, .cons _ r => congrArg (· + 1) r.length
theorem RepL.append : ∀ {vs ws : List V} {ds es : List D}, RepL K G vs ds → RepL K G ws es → RepL K G (vs ++ ws) (ds ++ es)
  | _, _, _, _, .nil, s => s
  | _, _, _, _, .cons h r, s => .cons h (RepL.append r s)
theorem RepL.one {v : V} {d : D} (h : Rep K G v d) : RepL K G [v] [d] := .cons h .nil
theorem RepL.get : ∀ {vs : List V} {ds : List D} {i : Nat} {d : D}, RepL K G vs ds → ds[i]? = some d → ∃ v, vs[i]? = some v ∧ Rep K G v d
  | _, _, _, _, .nil, e => by simp at e
  | _, _, 0, _, .cons h _, e => by simp at e; subst e; exact ⟨_, rfl, h⟩
  | _, _, i + 1, d, .cons _ r, e => by
    obtain ⟨v, h1, h2⟩ := RepL.get (i := i) (d := d) r (by simpa using e)
    exact ⟨v, by simpa using h1, h2⟩
theorem RepL.getV : ∀ {vs : List V} {ds : List D} {i : Nat} {v : V}, RepL K G vs ds → vs[i]? = some v → ∃ d, ds[i]? = some d ∧ Rep K G v d
  | _, _, _, _, .nil, e => by simp at e
  | _, _, 0, _, .cons h _, e => by simp at e; subst e; exact ⟨_, rfl, h⟩
  | _, _, i + 1, d, .cons _ r, e => by
    obtain ⟨v, h1, h2⟩ := RepL.getV (i := i) (v := d) r (by simpa using e)
    exact ⟨v, by simpa using h1, h2⟩
theorem RepL.take : ∀ {vs : List V} {ds : List D} (n : Nat), RepL K G vs ds → RepL K G (vs.take n) (ds.take n)
  | _, _, 0, _ => .nil
  | _, _, _ + 1, .nil => .nil
  | _, _, n + 1, .cons h r => .cons h (RepL.take n r)
theorem RepL.drop : ∀ {vs : List V} {ds : List D} (n : Nat), RepL K G vs ds → RepL K G (vs.drop n) (ds.drop n)
  | _, _, 0, r => r
  | _, _, _ + 1, .nil => .nil
  | _, _, n + 1, .cons _ r => RepL.drop n r
theorem RepL.reverse : ∀ {vs : List V} {ds : List D}, RepL K G vs ds → RepL K G vs.reverse ds.reverse
  | _, _, .nil => .nil
  | _, _, .cons h r => by
    rw [List.reverse_cons, List.reverse_cons]
    exact r.reverse.append (.one h)
theorem RepL.set {v : V} {d : D} (h : Rep K G v d) : ∀ {vs : List V} {ds : List D} (i : Nat), RepL K G vs ds → RepL K G (vs.set i v) (ds.set i d)
  | _, _, _, .nil => .nil
  | _, _, 0, .cons _ r => .cons h r
  | _, _, i + 1, .cons q r => .cons q (RepL.set h i r)
theorem RepL.eraseIdx : ∀ {vs : List V} {ds : List D} (i : Nat), RepL K G vs ds → RepL K G (vs.eraseIdx i) (ds.eraseIdx i)
  | _, _, _, .nil => .nil
  | _, _, 0, .cons _ r => r
  | _, _, i + 1, .cons q r => .cons q (RepL.eraseIdx i r)
theorem RepL.ints : ∀ {vs : List V} {ns : List Int}, RepL K G vs (ns.map D.int) → vs = ns.map V.int
  | _, [], .nil => rfl
  | _, n :: r, .cons h t => by
    cases h
    rw [List.map_cons, RepL.ints t]
theorem RepL.strs : ∀ {vs : List V} {ns : List Str}, RepL K G vs (ns.map D.str) → vs = ns.map V.str
  | _, [], .nil => rfl
  | _, n :: r, .cons h t => by
    cases h
    rw [List.map_cons, RepL.strs t]
theorem RepL.bls : ∀ {vs : List V} {ns : List Bool}, RepL K G vs (ns.map D.bl) → vs = ns.map V.bl
  | _, [], .nil => rfl
  | _, n :: r, .cons h t => by
    cases h
    rw [List.map_cons, RepL.bls t]
theorem RepL.ofInts : ∀ ns : List Int, RepL K G (ns.map V.int) (ns.map D.int)
  | [] => .nil
  | n :: r => .cons (.int n) (RepL.ofInts r)
theorem RepL.ofStrs : ∀ ns : List Str, (∀ n ∈ ns, sOk n) → RepL K G (ns.map V.str) (ns.map D.str)
  | [], _ => .nil
  | n :: r, h => .cons (.str (h n List.mem_cons_self)) (RepL.ofStrs r fun x hx => h x (List.mem_cons_of_mem _ hx))
theorem RepL.okStrs : ∀ {vs : List V} {ns : List Str}, RepL K G vs (ns.map D.str) → ∀ n ∈ ns, sOk n
  | _, [], .nil, _, h => by cases h
  | _, n :: r, .cons h t, x, hx => by
    cases h with
    | str q =>
      rcases List.mem_cons.mp hx with rfl | hx
      · exact q
      · exact RepL.okStrs t x hx
end

/-! ### the box of draws -/
def boxKv (g : Addr) (now seed turn : Int) : List (Key × V) := [(.inr "great", .ref g), (.inr "now", .int now), (.inr "seed", .int seed), (.inr "turn", .int turn)]
structure BoxAt (H : Hp) (a g : Addr) : Prop where
  at_ : ∃ (gs : List Int) (now seed turn : Int), H a = some (.dK (boxKv g now seed turn)) ∧ H g = some (.lst (gs.map V.int)) ∧ (∀ x ∈ gs, 0 ≤ x) ∧ 0 ≤ now ∧ 0 ≤ seed ∧ 0 ≤ turn ∧ gs.length ≤ 50
structure GOk (G : Gh) (H : Hp) : Prop where
  sub : Same G.I H
  box : ∀ a g, G.B a = some g → BoxAt H a g ∧ G.I a = none ∧ G.I g = none
  sep : ∀ a g a' g', G.B a = some g → G.B a' = some g' → a ≠ g' ∧ (g = g' → a = a')
structure Ent where
  G : Gh
  H : Hp
structure Step (e : Ent) (G : Gh) (H : Hp) (G' : Gh) (H' : Hp) : Prop where
  le : Le G G'
  old : ∀ a, (e.H a).isSome = true → ¬ foot e.G a → H' a = H a
  noI : ∀ a, (e.H a).isSome = true → G.I a = none → G'.I a = none
  noB : ∀ a, (e.H a).isSome = true → ¬ foot G a → ¬ foot G' a
  dom : ∀ a, (e.H a).isSome = true → (H a).isSome = true → (H' a).isSome = true
theorem Step.refl {e : Ent} {G : Gh} {H : Hp} : Step e G H G H := ⟨Le.refl _, fun _ _ _ => rfl, fun _ _ h => h, fun _ _ h => h, fun _ _ h => h⟩
theorem Step.trans {e : Ent} {G G1 G2 : Gh} {H H1 H2 : Hp} (a : Step e G H G1 H1) (b : Step e G1 H1 G2 H2) : Step e G H G2 H2 :=
  ⟨a.le.trans b.le, fun x h n => (b.old x h n).trans (a.old x h n), fun x h n => b.noI x h (a.noI x h n), fun x h n => b.noB x h (a.noB x h n), fun x h n => b.dom x h (a.dom x h n)⟩

inductive Sl where
  | no | im (d : D) | ow (d : D)
abbrev DSt := List Sl
def OwnAt (K : PySem.W.Frag) (G : Gh) (H : Hp) (l : Addr) : D → Prop
  | .lst ds => ∃ vs, H l = some (.lst vs) ∧ RepL K G vs ds
  | .dct kds => ∃ kvs, H l = some (.dK kvs) ∧ kvs.map (·.1) = kds.map (·.1) ∧ RepL K G (kvs.map (·.2)) (kds.map (·.2)) ∧ ∀ k ∈ kds.map (·.1), kOk k
  | .dtp kds => ∃ kvs, H l = some (.dT kvs) ∧ kvs.map (·.1) = kds.map (·.1) ∧ RepL K G (kvs.map (·.2)) (kds.map (·.2)) ∧ ∀ k ∈ kds.map (·.1), ∀ x ∈ k, kOk x
  | .ins C fds => ∃ dx fvs, H l = some (.ins (He.ga K C) dx fvs) ∧ fvs.map (·.1) = fds.map (·.1) ∧ RepL K G (fvs.map (·.2)) (fds.map (·.2))
  | .dself x kds => l = x ∧ ∃ kvs, H l = some (.dK kvs) ∧ kvs.map (·.1) = kds.map (·.1) ∧ RepL K G (kvs.map (·.2)) (kds.map (·.2)) ∧ ∀ k ∈ kds.map (·.1), kOk k
  | .self x C fds => l = x ∧ ∃ dx fvs, H l = some (.ins (He.ga K C) dx fvs) ∧ fvs.map (·.1) = fds.map (·.1) ∧ RepL K G (fvs.map (·.2)) (fds.map (·.2))
  | _ => False
theorem OwnAt.mono {K : PySem.W.Frag} {G G' : Gh} {H H' : Hp} {l : Addr} (le : Le G G') (e : H' l = H l) : ∀ {d : D}, OwnAt K G H l d → OwnAt K G' H' l d
  | .lst _, ⟨vs, h, r⟩ => ⟨vs, e.trans h, r.mono le⟩
  | .dct _, ⟨vs, h, q, r, w⟩ => ⟨vs, e.trans h, q, r.mono le, w⟩
  | .dtp _, ⟨vs, h, q, r, w⟩ => ⟨vs, e.trans h, q, r.mono le, w⟩
  | .ins _ _, ⟨dx, vs, h, q, r⟩ => ⟨dx, vs, e.trans h, q, r.mono le⟩
  | .self _ _ _, ⟨z, dx, vs, h, q, r⟩ => ⟨z, dx, vs, e.trans h, q, r.mono le⟩
  | .dself _ _, ⟨z, vs, h, q, r, w⟩ => ⟨z, vs, e.trans h, q, r.mono le, w⟩
/-- what stands at an owned address -/
theorem OwnAt.obj {K : PySem.W.Frag} {G : Gh} {H : Hp} {l : Addr} : ∀ {d : D}, OwnAt K G H l d → ∃ o, H l = some o ∧ ∀ G' : Gh, Le G G' → G'.I l = some o → Rep K G' (.ref l) d
  | .lst _, ⟨vs, h, r⟩ => ⟨_, h, fun G' le e => .lst e (r.mono le)⟩
  | .dct _, ⟨vs, h, q, r, w⟩ => ⟨_, h, fun G' le e => .dct e q (r.mono le) w⟩
  | .dtp _, ⟨vs, h, q, r, w⟩ => ⟨_, h, fun G' le e => .dtp e q (r.mono le) w⟩
  | .ins _ _, ⟨dx, vs, h, q, r⟩ => ⟨_, h, fun G' le e => .ins e q (r.mono le)⟩
  | .self _ _ _, ⟨z, dx, vs, h, q, r⟩ => ⟨_, h, fun G' le e => by subst z; exact .self e q (r.mono le)⟩
  | .dself _ _, ⟨z, vs, h, q, r, w⟩ => ⟨_, h, fun G' le e => by subst z; exact .dself e q (r.mono le) w⟩
structure Mine (K : PySem.W.Frag) (e : Ent) (G : Gh) (H : Hp) (l : Addr) (d : D) : Prop where
  own : OwnAt K G H l d
  nI : G.I l = none
  nB : ¬ foot G l
  new : e.H l = none
def SlOk (K : PySem.W.Frag) (e : Ent) (G : Gh) (H : Hp) (o : Option V) : Sl → Prop
  | .no => True
  | .im d => ∃ v, o = some v ∧ Rep K G v d
  | .ow d => ∃ l, o = some (.ref l) ∧ Mine K e G H l d
structure Sts (K : PySem.W.Frag) (e : Ent) (G : Gh) (H : Hp) (σ : St) (δ : DSt) : Prop where
  ok : GOk G H
  stp : Step e e.G e.H G H
  len : σ.length = δ.length
  sl : ∀ (i : Nat) (s : Sl), δ[i]? = some s → ∃ o, σ[i]? = some o ∧ SlOk K e G H o s
  sep : ∀ (i j : Nat) (di dj : D) (l : Addr), i ≠ j → δ[i]? = some (.ow di) → δ[j]? = some (.ow dj) → σ[i]? = some (some (.ref l)) → σ[j]? = some (some (.ref l)) → False
end T

namespace T
open PySem L2

section
variable {K : PySem.W.Frag} {e : Ent} {G G' : Gh} {H H' : Hp} {σ : St} {δ : DSt}

theorem some_of {o : Option HO} (h : o.isSome = true) : ∃ x, o = some x := Option.isSome_iff_exists.mp h
theorem Sts.eNone (S : Sts K e G H σ δ) {p : Addr} (h : H p = none) : e.H p = none := by
  cases q : e.H p with
  | none => rfl
  | some o =>
    have := S.stp.dom p (by rw [q]; rfl) (by rw [q]; rfl)
    rw [h] at this; cases this
theorem GOk.iNone (k : GOk G H) {p : Addr} (h : H p = none) : G.I p = none := k.sub.free h
theorem GOk.noFoot (k : GOk G H) {p : Addr} (h : H p = none) : ¬ foot G p := by
  rintro (⟨g, q⟩ | ⟨a, q⟩)
  · obtain ⟨gs, now, seed, turn, ha, _⟩ := (k.box _ _ q).1.at_
    rw [h] at ha; cases ha
  · obtain ⟨gs, now, seed, turn, _, hg, _⟩ := (k.box _ _ q).1.at_
    rw [h] at hg; cases hg
theorem BoxAt.keep {a g : Addr} (b : BoxAt H a g) (h1 : H' a = H a) (h2 : H' g = H g) : BoxAt H' a g := by
  obtain ⟨gs, now, seed, turn, ha, hg, r⟩ := b.at_
  exact ⟨gs, now, seed, turn, h1.trans ha, h2.trans hg, r⟩
/-- a change at an address that is neither frozen nor a box's -/
theorem GOk.updO (k : GOk G H) {p : Addr} {o : HO} (nI : G.I p = none) (nB : ¬ foot G p) : GOk G (upd H p o) where
  sub := fun b q h => by rw [upd_ne (ne_of_none h nI)]; exact k.sub b q h
  box := fun a g q => by
    obtain ⟨b, i1, i2⟩ := k.box a g q
    have na : a ≠ p := fun z => nB (.inl ⟨g, by rw [← z]; exact q⟩)
    have ng : g ≠ p := fun z => nB (.inr ⟨a, by rw [← z]; exact q⟩)
    exact ⟨b.keep (upd_ne na) (upd_ne ng), i1, i2⟩
  sep := k.sep
theorem Step.updO {p : Addr} {o : HO} (new : e.H p = none) : Step e G H G (upd H p o) where
  le := Le.refl _
  old := fun a h _ => upd_ne fun z => by rw [z, new] at h; cases h
  noI := fun _ _ h => h
  noB := fun _ _ h => h
  dom := fun a h q => by
    rw [upd_ne fun z => by rw [z, new] at h; cases h]
    exact q
theorem Mine.updO {l p : Addr} {o : HO} {d : D} (m : Mine K e G H l d) (h : l ≠ p) : Mine K e G (upd H p o) l d :=
  ⟨m.own.mono (Le.refl _) (upd_ne h), m.nI, m.nB, m.new⟩
/-- a change at an address that no slot owns -/
theorem Sts.updO (S : Sts K e G H σ δ) {p : Addr} {o : HO} (nI : G.I p = none) (nB : ¬ foot G p) (new : e.H p = none) (ap : ∀ (i : Nat) (d : D), δ[i]? = some (.ow d) → σ[i]? ≠ some (some (.ref p))) : Sts K e G (upd H p o) σ δ where
  ok := S.ok.updO nI nB
  stp := S.stp.trans (Step.updO new)
  len := S.len
  sl := fun i s hs => by
    obtain ⟨x, hx, h⟩ := S.sl i s hs
    refine ⟨x, hx, ?_⟩
    cases s with
    | no => trivial
    | im d => exact h
    | ow d =>
      obtain ⟨l, rfl, m⟩ := h
      exact ⟨l, rfl, m.updO fun z => ap i d hs (by rw [hx, z])⟩
  sep := S.sep
theorem Mine.obj {l : Addr} {d : D} (m : Mine K e G H l d) : ∃ o, H l = some o := let ⟨o, h, _⟩ := m.own.obj; ⟨o, h⟩
/-- a new object -/
theorem Sts.new (S : Sts K e G H σ δ) {p : Addr} {o : HO} (h : H p = none) : Sts K e G (L2.upd H p o) σ δ ∧ Step e G H G (L2.upd H p o) ∧ G.I p = none ∧ ¬ foot G p ∧ e.H p = none ∧ ∀ (i : Nat) (d : D), δ[i]? = some (.ow d) → σ[i]? ≠ some (some (.ref p)) := by
  have nI := S.ok.iNone h
  have nB := S.ok.noFoot h
  have new := S.eNone h
  have ap : ∀ (i : Nat) (d : D), δ[i]? = some (.ow d) → σ[i]? ≠ some (some (.ref p)) := fun i d hs z => by
    obtain ⟨x, hx, q⟩ := S.sl i _ hs
    obtain ⟨l, rfl, m⟩ := q
    rw [hx] at z
    have e1 : l = p := by simpa using z
    obtain ⟨o', ho⟩ := m.obj
    rw [e1, h] at ho; cases ho
  exact ⟨S.updO nI nB new ap, Step.updO new, nI, nB, new, ap⟩

/-! ### freezing -/
def Gh.fz (G : Gh) (l : Addr) (o : HO) : Gh := { G with I := L2.upd G.I l o }
theorem Gh.fz_le {l : Addr} {o : HO} (h : G.I l = none) : Le G (G.fz l o) := ⟨fun b q z => by show L2.upd G.I l o b = some q; rw [upd_ne (ne_of_none z h)]; exact z, fun _ _ z => z⟩
theorem Mine.fz {l m : Addr} {o : HO} {d : D} (x : Mine K e G H m d) (h : m ≠ l) (hl : G.I l = none) : Mine K e (G.fz l o) H m d :=
  ⟨x.own.mono (Gh.fz_le hl) rfl, by show L2.upd G.I l o m = none; rw [upd_ne h]; exact x.nI, x.nB, x.new⟩
theorem GOk.fz (k : GOk G H) {l : Addr} {o : HO} (ho : H l = some o) (nB : ¬ foot G l) : GOk (G.fz l o) H where
  sub := fun b q h => by
    have h' : L2.upd G.I l o b = some q := h
    by_cases z : b = l
    · subst z; rw [upd_same] at h'; cases h'; exact ho
    · rw [upd_ne z] at h'; exact k.sub b q h'
  box := fun a g q => by
    have q' : G.B a = some g := q
    obtain ⟨b, i1, i2⟩ := k.box a g q'
    refine ⟨b, ?_, ?_⟩
    · show L2.upd G.I l o a = none
      rw [upd_ne fun z => nB (.inl ⟨g, by rw [← z]; exact q'⟩)]; exact i1
    · show L2.upd G.I l o g = none
      rw [upd_ne fun z => nB (.inr ⟨a, by rw [← z]; exact q'⟩)]; exact i2
  sep := k.sep
theorem Step.fz {l : Addr} {o : HO} (nI : G.I l = none) (new : e.H l = none) : Step e G H (G.fz l o) H where
  le := Gh.fz_le nI
  old := fun _ _ _ => rfl
  noI := fun a h q => by show L2.upd G.I l o a = none; rw [upd_ne fun z => by rw [z, new] at h; cases h]; exact q
  noB := fun _ _ h => h
  dom := fun _ _ h => h
/-- freezing a thing that is ours and that no slot owns -/
theorem Sts.freeze (S : Sts K e G H σ δ) {l : Addr} {d : D} (m : Mine K e G H l d) (ap : ∀ (i : Nat) (d : D), δ[i]? = some (.ow d) → σ[i]? ≠ some (some (.ref l))) :
    ∃ G', Sts K e G' H σ δ ∧ Step e G H G' H ∧ Rep K G' (.ref l) d := by
  obtain ⟨o, ho, hr⟩ := m.own.obj
  refine ⟨G.fz l o, ⟨S.ok.fz ho m.nB, S.stp.trans (Step.fz m.nI m.new), S.len, fun i s hs => ?_, S.sep⟩, Step.fz m.nI m.new, hr _ (Gh.fz_le m.nI) upd_same⟩
  obtain ⟨x, hx, h⟩ := S.sl i s hs
  refine ⟨x, hx, ?_⟩
  cases s with
  | no => trivial
  | im d => obtain ⟨v, e1, r⟩ := h; exact ⟨v, e1, r.mono (Gh.fz_le m.nI)⟩
  | ow d' =>
    obtain ⟨l', rfl, m'⟩ := h
    exact ⟨l', rfl, m'.fz (fun z => ap i d' hs (by rw [hx, z])) m.nI⟩
theorem Sts.setNo (S : Sts K e G H σ δ) (i : Nat) : Sts K e G H σ (δ.set i .no) where
  ok := S.ok
  stp := S.stp
  len := by rw [List.length_set]; exact S.len
  sl := fun j s hs => by
    by_cases z : i = j
    · subst z
      by_cases hl : i < δ.length
      · rw [List.getElem?_set_self hl] at hs
        cases hs
        obtain ⟨x, hx, _⟩ := S.sl i _ (List.getElem?_eq_getElem hl)
        exact ⟨x, hx, trivial⟩
      · rw [List.set_eq_of_length_le (by omega)] at hs
        exact S.sl i s hs
    · rw [List.getElem?_set_ne z] at hs
      exact S.sl j s hs
  sep := fun a b da db l hab ha hb => by
    have f : ∀ (a : Nat) (da : D), (δ.set i .no)[a]? = some (.ow da) → δ[a]? = some (.ow da) := fun a da ha => by
      by_cases z : i = a
      · subst z
        by_cases hl : i < δ.length
        · rw [List.getElem?_set_self hl] at ha; cases ha
        · rw [List.set_eq_of_length_le (by omega)] at ha; exact ha
      · rw [List.getElem?_set_ne z] at ha; exact ha
    exact S.sep a b da db l hab (f a da ha) (f b db hb)
theorem ow_set {δ : DSt} {i j : Nat} {s : Sl} {d : D} (h : (δ.set i s)[j]? = some (.ow d)) : (j = i ∧ s = .ow d) ∨ (j ≠ i ∧ δ[j]? = some (.ow d)) := by
  by_cases z : i = j
  · subst z
    by_cases hl : i < δ.length
    · rw [List.getElem?_set_self hl] at h
      exact .inl ⟨rfl, Option.some.inj h⟩
    · rw [List.set_eq_of_length_le (by omega)] at h
      have := (List.getElem?_eq_some_iff.mp h).1
      omega
  · rw [List.getElem?_set_ne z] at h
    exact .inr ⟨fun q => z q.symm, h⟩
/-- a slot is known to hold a frozen thing -/
theorem Sts.know (S : Sts K e G H σ δ) {i : Nat} {v : V} {d : D} (hv : σ[i]? = some (some v)) (r : Rep K G v d) : Sts K e G H σ (δ.set i (.im d)) where
  ok := S.ok
  stp := S.stp
  len := by rw [List.length_set]; exact S.len
  sl := fun j s hs => by
    by_cases z : i = j
    · subst z
      by_cases hl : i < δ.length
      · rw [List.getElem?_set_self hl] at hs
        cases hs
        exact ⟨_, hv, v, rfl, r⟩
      · rw [List.set_eq_of_length_le (by omega)] at hs
        exact S.sl i s hs
    · rw [List.getElem?_set_ne z] at hs
      exact S.sl j s hs
  sep := fun a b da db l hab ha hb => by
    rcases ow_set ha with ⟨_, z⟩ | ⟨_, ha⟩
    · cases z
    · rcases ow_set hb with ⟨_, z⟩ | ⟨_, hb⟩
      · cases z
      · exact S.sep a b da db l hab ha hb
/-- an owned slot is frozen -/
theorem Sts.fzSlot (S : Sts K e G H σ δ) {i : Nat} {d : D} (hs : δ[i]? = some (.ow d)) : ∃ G' v, σ[i]? = some (some v) ∧ Sts K e G' H σ (δ.set i (.im d)) ∧ Step e G H G' H ∧ Rep K G' v d := by
  obtain ⟨x, hx, l, rfl, m⟩ := S.sl i _ hs
  have S1 := S.setNo i
  have ap : ∀ (j : Nat) (d' : D), (δ.set i .no)[j]? = some (.ow d') → σ[j]? ≠ some (some (.ref l)) := fun j d' h z => by
    rcases ow_set h with ⟨_, q⟩ | ⟨n, h⟩
    · cases q
    · exact S.sep j i d' d l n h hs z hx
  obtain ⟨G', S2, st, r⟩ := S1.freeze m ap
  refine ⟨G', _, hx, ?_, st, r⟩
  have S3 := S2.know hx r
  rwa [List.set_set] at S3
theorem Sts.asg (S : Sts K e G H σ δ) {i : Nat} {v : V} {d : D} (r : Rep K G v d) : Sts K e G H (σ.set i (some v)) (δ.set i (.im d)) where
  ok := S.ok
  stp := S.stp
  len := by rw [List.length_set, List.length_set]; exact S.len
  sl := fun j s hs => by
    by_cases z : i = j
    · subst z
      by_cases hl : i < δ.length
      · rw [List.getElem?_set_self hl] at hs
        cases hs
        exact ⟨_, List.getElem?_set_self (by rw [S.len]; exact hl), v, rfl, r⟩
      · rw [List.set_eq_of_length_le (by omega)] at hs
        have := (List.getElem?_eq_some_iff.mp hs).1
        omega
    · rw [List.getElem?_set_ne z] at hs
      rw [List.getElem?_set_ne z]
      exact S.sl j s hs
  sep := fun a b da db l hab ha hb qa qb => by
    rcases ow_set ha with ⟨_, z⟩ | ⟨na, ha⟩
    · cases z
    · rcases ow_set hb with ⟨_, z⟩ | ⟨nb, hb⟩
      · cases z
      · rw [List.getElem?_set_ne (fun z => na z.symm)] at qa
        rw [List.getElem?_set_ne (fun z => nb z.symm)] at qb
        exact S.sep a b da db l hab ha hb qa qb
theorem Sts.asgO (S : Sts K e G H σ δ) {i : Nat} {l : Addr} {d : D} (m : Mine K e G H l d) (ap : ∀ (i : Nat) (d : D), δ[i]? = some (.ow d) → σ[i]? ≠ some (some (.ref l))) : Sts K e G H (σ.set i (some (.ref l))) (δ.set i (.ow d)) where
  ok := S.ok
  stp := S.stp
  len := by rw [List.length_set, List.length_set]; exact S.len
  sl := fun j s hs => by
    by_cases z : i = j
    · subst z
      by_cases hl : i < δ.length
      · rw [List.getElem?_set_self hl] at hs
        cases hs
        exact ⟨_, List.getElem?_set_self (by rw [S.len]; exact hl), l, rfl, m⟩
      · rw [List.set_eq_of_length_le (by omega)] at hs
        have := (List.getElem?_eq_some_iff.mp hs).1
        omega
    · rw [List.getElem?_set_ne z] at hs
      rw [List.getElem?_set_ne z]
      exact S.sl j s hs
  sep := fun a b da db x hab ha hb qa qb => by
    rcases ow_set ha with ⟨ea, za⟩ | ⟨na, ha2⟩
    · rcases ow_set hb with ⟨eb, _⟩ | ⟨nb, hb2⟩
      · exact hab (ea.trans eb.symm)
      · rw [List.getElem?_set_ne (fun z => nb z.symm)] at qb
        subst ea
        by_cases hl : a < σ.length
        · rw [List.getElem?_set_self hl] at qa
          have : l = x := by simpa using qa
          subst this
          exact ap b db hb2 qb
        · rw [List.set_eq_of_length_le (by omega)] at qa
          have := (List.getElem?_eq_some_iff.mp qa).1
          omega
    · rcases ow_set hb with ⟨eb, _⟩ | ⟨nb, hb⟩
      · rw [List.getElem?_set_ne (fun z => na z.symm)] at qa
        subst eb
        by_cases hl : b < σ.length
        · rw [List.getElem?_set_self hl] at qb
          have : l = x := by simpa using qb
          subst this
          exact ap a da ha2 qa
        · rw [List.set_eq_of_length_le (by omega)] at qb
          have := (List.getElem?_eq_some_iff.mp qb).1
          omega
      · rw [List.getElem?_set_ne (fun z => na z.symm)] at qa
        rw [List.getElem?_set_ne (fun z => nb z.symm)] at qb
        exact S.sep a b da db x hab ha2 hb qa qb
/-- an owned slot's object is changed -/
theorem Sts.write (S : Sts K e G H σ δ) {i : Nat} {d d' : D} {l : Addr} {o : HO} (hs : δ[i]? = some (.ow d)) (hx : σ[i]? = some (some (.ref l))) (hn : OwnAt K G (L2.upd H l o) l d') :
    Sts K e G (L2.upd H l o) σ (δ.set i (.ow d')) ∧ Step e G H G (L2.upd H l o) := by
  obtain ⟨x, hx', l', e1, m⟩ := S.sl i _ hs
  rw [hx] at hx'
  cases hx'
  have e2 : l = l' := by simpa using e1
  subst e2
  have S1 := S.setNo i
  have ap : ∀ (j : Nat) (d' : D), (δ.set i .no)[j]? = some (.ow d') → σ[j]? ≠ some (some (.ref l)) := fun j d' h z => by
    rcases ow_set h with ⟨_, q⟩ | ⟨n, h⟩
    · cases q
    · exact S.sep j i d' d l n h hs z hx
  have S2 := S1.updO (o := o) m.nI m.nB m.new ap
  have S3 := S2.asgO (i := i) (d := d') (l := l) ⟨hn, m.nI, m.nB, m.new⟩ ap
  rw [List.set_set] at S3
  have hi : i < σ.length := (List.getElem?_eq_some_iff.mp hx).1
  have e3 : σ.set i (some (.ref l)) = σ := by
    have h2 := (List.getElem?_eq_some_iff.mp hx).2
    rw [← h2]
    exact List.set_getElem_self hi
  rw [e3] at S3
  exact ⟨S3, Step.updO m.new⟩
end
/-! ### the state with temporaries held: more slots behind the frame's -/
structure Tm where
  v : St
  d : DSt
structure SS (K : PySem.W.Frag) (e : Ent) (T : Tm) (G : Gh) (H : Hp) (σ : St) (δ : DSt) : Prop where
  ln : δ.length = σ.length
  s : Sts K e G H (σ ++ T.v) (δ ++ T.d)
def Apart (σ : St) (δ : DSt) (T : Tm) (l : Addr) : Prop := ∀ (i : Nat) (d : D), (δ ++ T.d)[i]? = some (.ow d) → (σ ++ T.v)[i]? ≠ some (some (.ref l))
section
variable {K : PySem.W.Frag} {e : Ent} {T : Tm} {G G' : Gh} {H H' : Hp} {σ : St} {δ : DSt}
theorem SS.ok (S : SS K e T G H σ δ) : GOk G H := S.s.ok
theorem SS.stp (S : SS K e T G H σ δ) : Step e e.G e.H G H := S.s.stp
theorem lt_of_get {α : Type} {l : List α} {i : Nat} {x : α} (h : l[i]? = some x) : i < l.length := (List.getElem?_eq_some_iff.mp h).1
theorem get_l {α : Type} {l r : List α} {i : Nat} (h : i < l.length) : (l ++ r)[i]? = l[i]? := List.getElem?_append_left h
theorem SS.sl (S : SS K e T G H σ δ) (i : Nat) (s : Sl) (h : δ[i]? = some s) : ∃ o, σ[i]? = some o ∧ SlOk K e G H o s := by
  have hi := lt_of_get h
  obtain ⟨o, h1, h2⟩ := S.s.sl i s (by rw [get_l hi]; exact h)
  rw [get_l (by rw [← S.ln]; exact hi)] at h1
  exact ⟨o, h1, h2⟩
theorem set_app {α : Type} {l r : List α} {i : Nat} {x : α} (h : i < l.length) : (l ++ r).set i x = l.set i x ++ r := by rw [List.set_append, if_pos h]
theorem SS.new (S : SS K e T G H σ δ) {p : Addr} {o : HO} (h : H p = none) : SS K e T G (L2.upd H p o) σ δ ∧ Step e G H G (L2.upd H p o) ∧ G.I p = none ∧ ¬ foot G p ∧ e.H p = none ∧ Apart σ δ T p := by
  obtain ⟨a, b, c, d, f, g⟩ := S.s.new (o := o) h
  exact ⟨⟨S.ln, a⟩, b, c, d, f, g⟩
theorem SS.freeze (S : SS K e T G H σ δ) {l : Addr} {d : D} (m : Mine K e G H l d) (ap : Apart σ δ T l) : ∃ G', SS K e T G' H σ δ ∧ Step e G H G' H ∧ Rep K G' (.ref l) d := by
  obtain ⟨G', a, b, c⟩ := S.s.freeze m ap
  exact ⟨G', ⟨S.ln, a⟩, b, c⟩
theorem SS.fzSlot (S : SS K e T G H σ δ) {i : Nat} {d : D} (hs : δ[i]? = some (.ow d)) : ∃ G' v, σ[i]? = some (some v) ∧ SS K e T G' H σ (δ.set i (.im d)) ∧ Step e G H G' H ∧ Rep K G' v d := by
  have hi := lt_of_get hs
  obtain ⟨G', v, h1, a, b, c⟩ := S.s.fzSlot (i := i) (d := d) (by rw [get_l hi]; exact hs)
  rw [get_l (by rw [← S.ln]; exact hi)] at h1
  rw [set_app hi] at a
  exact ⟨G', v, h1, ⟨by rw [List.length_set]; exact S.ln, a⟩, b, c⟩
theorem set_out {α : Type} {l : List α} {i : Nat} {x : α} (h : ¬ i < l.length) : l.set i x = l := List.set_eq_of_length_le (by omega)
theorem SS.asg (S : SS K e T G H σ δ) {i : Nat} {v : V} {d : D} (r : Rep K G v d) : SS K e T G H (σ.set i (some v)) (δ.set i (.im d)) := by
  by_cases hi : i < δ.length
  · have a := S.s.asg (i := i) r
    rw [set_app hi, set_app (by rw [← S.ln]; exact hi)] at a
    exact ⟨by rw [List.length_set, List.length_set]; exact S.ln, a⟩
  · rw [set_out hi, set_out (by rw [← S.ln]; exact hi)]
    exact S
theorem SS.asgO (S : SS K e T G H σ δ) {i : Nat} {l : Addr} {d : D} (m : Mine K e G H l d) (ap : Apart σ δ T l) : SS K e T G H (σ.set i (some (.ref l))) (δ.set i (.ow d)) := by
  by_cases hi : i < δ.length
  · have a := S.s.asgO (i := i) m ap
    rw [set_app hi, set_app (by rw [← S.ln]; exact hi)] at a
    exact ⟨by rw [List.length_set, List.length_set]; exact S.ln, a⟩
  · rw [set_out hi, set_out (by rw [← S.ln]; exact hi)]
    exact S
theorem SS.write (S : SS K e T G H σ δ) {i : Nat} {d d' : D} {l : Addr} {o : HO} (hs : δ[i]? = some (.ow d)) (hx : σ[i]? = some (some (.ref l))) (hn : OwnAt K G (L2.upd H l o) l d') :
    SS K e T G (L2.upd H l o) σ (δ.set i (.ow d')) ∧ Step e G H G (L2.upd H l o) := by
  have hi := lt_of_get hs
  obtain ⟨a, b⟩ := S.s.write (i := i) (d := d) (d' := d') (l := l) (o := o) (by rw [get_l hi]; exact hs) (by rw [get_l (by rw [← S.ln]; exact hi)]; exact hx) hn
  rw [set_app hi] at a
  exact ⟨⟨by rw [List.length_set]; exact S.ln, a⟩, b⟩
theorem SS.setNo (S : SS K e T G H σ δ) (i : Nat) : SS K e T G H σ (δ.set i .no) := by
  by_cases hi : i < δ.length
  · have a := S.s.setNo i
    rw [set_app hi] at a
    exact ⟨by rw [List.length_set]; exact S.ln, a⟩
  · rw [set_out hi]; exact S
/-- one thing more is held -/
def Tm.push (T : Tm) (l : Addr) (d : D) : Tm := ⟨T.v ++ [some (.ref l)], T.d ++ [.ow d]⟩
theorem getElem?_snoc {α : Type} {l : List α} {x : α} {i : Nat} : (l ++ [x])[i]? = if i = l.length then some x else l[i]? := by
  by_cases h : i < l.length
  · rw [List.getElem?_append_left h, if_neg (by omega)]
  · rw [List.getElem?_append_right (by omega)]
    by_cases z : i = l.length
    · subst z; simp
    · have h1 : ([x] : List α).length ≤ i - l.length := by simp; omega
      rw [if_neg z, List.getElem?_eq_none h1, List.getElem?_eq_none (show l.length ≤ i by omega)]
theorem SS.hold (S : SS K e T G H σ δ) {l : Addr} {d : D} (m : Mine K e G H l d) (ap : Apart σ δ T l) : SS K e (T.push l d) G H σ δ := by
  refine ⟨S.ln, S.ok, S.stp, ?_, fun i s hs => ?_, fun i j di dj x hij hi hj qi qj => ?_⟩
  · have := S.s.len
    simp only [Tm.push, List.length_append] at this ⊢
    simp; omega
  · have e1 : δ ++ (T.push l d).d = (δ ++ T.d) ++ [.ow d] := by simp [Tm.push]
    have e2 : σ ++ (T.push l d).v = (σ ++ T.v) ++ [some (.ref l)] := by simp [Tm.push]
    rw [e1, getElem?_snoc] at hs
    rw [e2, getElem?_snoc]
    by_cases z : i = (δ ++ T.d).length
    · rw [if_pos z] at hs
      cases hs
      rw [if_pos (by rw [S.s.len]; exact z)]
      exact ⟨_, rfl, l, rfl, m⟩
    · rw [if_neg z] at hs
      rw [if_neg (by rw [S.s.len]; exact z)]
      exact S.s.sl i s hs
  · have e1 : δ ++ (T.push l d).d = (δ ++ T.d) ++ [.ow d] := by simp [Tm.push]
    have e2 : σ ++ (T.push l d).v = (σ ++ T.v) ++ [some (.ref l)] := by simp [Tm.push]
    rw [e1, getElem?_snoc] at hi hj
    rw [e2, getElem?_snoc] at qi qj
    rw [S.s.len] at qi qj
    by_cases zi : i = (δ ++ T.d).length
    · by_cases zj : j = (δ ++ T.d).length
      · exact hij (zi.trans zj.symm)
      · rw [if_neg zj] at hj qj
        rw [if_pos zi] at qi
        have : l = x := by simpa using qi
        subst this
        exact ap j dj hj qj
    · rw [if_neg zi] at hi qi
      by_cases zj : j = (δ ++ T.d).length
      · rw [if_pos zj] at qj
        have : l = x := by simpa using qj
        subst this
        exact ap i di hi qi
      · rw [if_neg zj] at hj qj
        exact S.s.sep i j di dj x hij hi hj qi qj
/-- .. and let go: it is ours, as it was -/
theorem SS.drop {l : Addr} {d : D} (S : SS K e (T.push l d) G H σ δ) : SS K e T G H σ δ ∧ Mine K e G H l d ∧ Apart σ δ T l := by
  have e1 : δ ++ (T.push l d).d = (δ ++ T.d) ++ [.ow d] := by simp [Tm.push]
  have e2 : σ ++ (T.push l d).v = (σ ++ T.v) ++ [some (.ref l)] := by simp [Tm.push]
  have hl : (σ ++ T.v).length = (δ ++ T.d).length := by
    have := S.s.len
    rw [e1, e2] at this
    simp only [List.length_append, List.length_cons, List.length_nil] at this ⊢
    omega
  have s := S.s.sl
  have sp := S.s.sep
  rw [e1, e2] at s sp
  refine ⟨⟨S.ln, S.ok, S.stp, hl, fun i x hs => ?_, fun i j di dj x hij hi hj qi qj => ?_⟩, ?_, fun i d' hi z => ?_⟩
  · have h1 := lt_of_get hs
    obtain ⟨o, h2, h3⟩ := s i x (by rw [get_l h1]; exact hs)
    rw [get_l (by omega)] at h2
    exact ⟨o, h2, h3⟩
  · have h1 := lt_of_get hi
    have h2 := lt_of_get hj
    exact sp i j di dj x hij (by rw [get_l h1]; exact hi) (by rw [get_l h2]; exact hj) (by rw [get_l (by omega)]; exact qi) (by rw [get_l (by omega)]; exact qj)
  · obtain ⟨o, h2, x, h3, m⟩ := s (δ ++ T.d).length (.ow d) (by rw [getElem?_snoc, if_pos rfl])
    rw [getElem?_snoc, if_pos hl.symm] at h2
    have : o = some (.ref l) := (Option.some.inj h2).symm
    subst this
    have : l = x := by simpa using h3
    subst this
    exact m
  · have h1 := lt_of_get hi
    exact sp i (δ ++ T.d).length d' d l (by omega) (by rw [get_l h1]; exact hi) (by rw [getElem?_snoc, if_pos rfl]) (by rw [get_l (by omega)]; exact z) (by rw [getElem?_snoc, if_pos hl.symm])
/-- what is held is changed -/
theorem SS.writeT {l : Addr} {d d' : D} {o : HO} (S : SS K e (T.push l d) G H σ δ) (hn : OwnAt K G (L2.upd H l o) l d') : SS K e (T.push l d') G (L2.upd H l o) σ δ ∧ Step e G H G (L2.upd H l o) := by
  obtain ⟨S1, m, ap⟩ := S.drop
  have S2 : SS K e T G (L2.upd H l o) σ δ := ⟨S1.ln, S1.s.updO m.nI m.nB m.new ap⟩
  exact ⟨S2.hold ⟨hn, m.nI, m.nB, m.new⟩ ap, Step.updO m.new⟩
theorem SS.know (S : SS K e T G H σ δ) {i : Nat} {v : V} {d : D} (hv : σ[i]? = some (some v)) (r : Rep K G v d) : SS K e T G H σ (δ.set i (.im d)) := by
  by_cases hi : i < δ.length
  · have a := S.s.know (i := i) (v := v) (d := d) (by rw [get_l (by rw [← S.ln]; exact hi)]; exact hv) r
    rw [set_app hi] at a
    exact ⟨by rw [List.length_set]; exact S.ln, a⟩
  · rw [set_out hi]; exact S
end
end T

namespace T
open PySem L2

abbrev TDE := DSt → (D → DSt → Prop) → Prop
abbrev TDT := DSt → (Bool → DSt → Prop) → Prop
abbrev TDA := DSt → (List D → DSt → Prop) → Prop

def lift (K : PySem.W.Frag) (e : Ent) (t : TDE) : TE := fun σ H Q => ∃ (T : Tm) (G : Gh) (δ : DSt) (Qd : D → DSt → Prop), SS K e T G H σ δ ∧ t δ Qd ∧
  ∀ v d H' G' δ', SS K e T G' H' σ δ' → Step e G H G' H' → Rep K G' v d → Qd d δ' → Q v H'
def liftO (K : PySem.W.Frag) (e : Ent) (t : TDE) : TE := fun σ H Q => ∃ (T : Tm) (G : Gh) (δ : DSt) (Qd : D → DSt → Prop), SS K e T G H σ δ ∧ t δ Qd ∧
  ∀ l d H' G' δ', SS K e T G' H' σ δ' → Step e G H G' H' → Mine K e G' H' l d → Apart σ δ' T l → Qd d δ' → Q (.ref l) H'
def liftT (K : PySem.W.Frag) (e : Ent) (t : TDT) : TT := fun σ H Q => ∃ (T : Tm) (G : Gh) (δ : DSt) (Qd : Bool → DSt → Prop), SS K e T G H σ δ ∧ t δ Qd ∧
  ∀ b H' G' δ', SS K e T G' H' σ δ' → Step e G H G' H' → Qd b δ' → Q b H'
def liftA (K : PySem.W.Frag) (e : Ent) (n : Nat) (t : TDA) : TA := fun σ H Q => ∃ (T : Tm) (G : Gh) (δ : DSt) (Qd : List D → DSt → Prop), SS K e T G H σ δ ∧ t δ Qd ∧
  ∀ vs ds H' G' δ', SS K e T G' H' σ δ' → Step e G H G' H' → RepL K G' vs ds → ds.length = n → Qd ds δ' → Q vs H'

theorem pe_imp {X : Cx} {ex : Expr} {t t' : TE} (h : PE X ex t) (k : ∀ σ H Q, t' σ H Q → t σ H Q) : PE X ex t' := ⟨fun pins s σ H Q I q => h.run pins s σ H Q I (k σ H Q q)⟩
theorem pt_imp {X : Cx} {ex : Expr} {t t' : TT} (h : PT X ex t) (k : ∀ σ H Q, t' σ H Q → t σ H Q) : PT X ex t' := ⟨fun pins s σ H Q I q => h.run pins s σ H Q I (k σ H Q q)⟩
theorem pw_imp {X : Cx} {ex : Expr} {t t' : TT} (h : PW X ex t) (k : ∀ σ H Q, t' σ H Q → t σ H Q) : PW X ex t' := ⟨fun wh pins s σ H Q I q => h.run wh pins s σ H Q I (k σ H Q q)⟩
theorem pa_imp {X : Cx} {es : List Expr} {t t' : TA} (h : PA X es t) (k : ∀ σ H Q, t' σ H Q → t σ H Q) : PA X es t' := ⟨fun pos pins s σ H Q I q => h.run pos pins s σ H Q I (k σ H Q q)⟩
theorem ps_imp {X : Cx} {st : Stmt} {t t' : TS} (h : PS X st t) (k : ∀ D σ H, t' D σ H → t D σ H) : PS X st t' := ⟨fun pins s σ H D I q => h.run pins s σ H D I (k D σ H q)⟩
theorem pss_imp {X : Cx} {st : List Stmt} {t t' : TS} (h : PSs X st t) (k : ∀ D σ H, t' D σ H → t D σ H) : PSs X st t' := ⟨fun pins s σ H D I q => h.run pins s σ H D I (k D σ H q)⟩

def DE (X : Cx) (e : Ent) (ex : Expr) (t : TDE) : Prop := PE X ex (lift X.K e t)
def DO (X : Cx) (e : Ent) (ex : Expr) (t : TDE) : Prop := PE X ex (liftO X.K e t)
def DT (X : Cx) (e : Ent) (ex : Expr) (t : TDT) : Prop := PT X ex (liftT X.K e t)
def DW (X : Cx) (e : Ent) (ex : Expr) (t : TDT) : Prop := PW X ex (liftT X.K e t)
def DA (X : Cx) (e : Ent) (es : List Expr) (t : TDA) : Prop := PA X es (liftA X.K e es.length t)

section
variable {X : Cx} {e : Ent} {pos : Pos}

theorem DO.de {ex : Expr} {t : TDE} (h : DO X e ex t) : DE X e ex t := pe_imp h fun σ H Q ⟨T, G, δ, Qd, S, q, k⟩ => ⟨T, G, δ, Qd, S, q, fun l d H' G' δ' S' st m ap qd => by
  obtain ⟨G2, S2, st2, r⟩ := S'.freeze m ap
  exact k _ d H' G2 δ' S2 (st.trans st2) r qd⟩
theorem DW.dt {ex : Expr} {t : TDT} (h : DW X e ex t) : DT X e ex t := PW.pt h

/-! ### names and constants -/
def dVar (i : Nat) : TDE := fun δ Q => match δ[i]? with
  | some (.im d) => Q d δ
  | some (.ow d) => Q d (δ.set i (.im d))
  | _ => False
theorem de_var {i : Nat} {ex : Expr} (h : PE X ex (tVar i)) : DE X e ex (dVar i) := pe_imp h fun σ H Q ⟨T, G, δ, Qd, S, q, k⟩ => by
  unfold dVar at q
  cases hs : δ[i]? with
  | none => rw [hs] at q; exact q.elim
  | some s =>
    rw [hs] at q
    cases s with
    | no => exact q.elim
    | im d =>
      obtain ⟨x, hx, v, rfl, r⟩ := S.sl i _ hs
      exact ⟨v, hx, k v d H G δ S Step.refl r q⟩
    | ow d =>
      obtain ⟨G', v, hx, S', st, r⟩ := S.fzSlot hs
      exact ⟨v, hx, k v d H G' _ S' st r q⟩
def dC (d : D) : TDE := fun δ Q => Q d δ
theorem de_c {ex : Expr} {v : V} {d : D} (h : PE X ex (tC v)) (r : ∀ G, Rep X.K G v d) : DE X e ex (dC d) := pe_imp h fun σ H Q ⟨T, G, δ, Qd, S, q, k⟩ => k v d H G δ S Step.refl (r G) q
theorem de_int {i : Int} {j : Nat} : DE X e (.Constant (.int i) j pos) (dC (.int i)) := de_c pe_int fun _ => .int i
theorem de_bl {b : Bool} {j : Nat} : DE X e (.Constant (.bool b) j pos) (dC (.bl b)) := de_c pe_bl fun _ => .bl b
theorem de_non {j : Nat} : DE X e (.Constant .none j pos) (dC .non) := de_c pe_non fun _ => .non
theorem de_str {x : Str} {j : Nat} (h : sOk x) : DE X e (.Constant (.str x) j pos) (dC (.str x)) := de_c pe_str fun _ => .str h

/-! ### arguments -/
def dNil : TDA := fun δ Q => Q [] δ
def dCons (t : TDE) (r : TDA) : TDA := fun δ Q => t δ fun d δ1 => r δ1 fun ds δ2 => Q (d :: ds) δ2
theorem da_nil : DA X e [] dNil := pa_imp pa_nil fun σ H Q ⟨T, G, δ, Qd, S, q, k⟩ => k [] [] H G δ S Step.refl .nil rfl q
theorem da_cons {ex : Expr} {es : List Expr} {t : TDE} {r : TDA} (h : DE X e ex t) (hr : DA X e es r) (hs : starEach (ex :: es) X.env = (false, eval ex X.env) :: starEach es X.env := by rfl) : DA X e (ex :: es) (dCons t r) :=
  pa_imp (pa_cons h hr hs) fun σ H Q ⟨T, G, δ, Qd, S, q, k⟩ => ⟨T, G, δ, _, S, q, fun v d H' G' δ' S' st' rep q' => ⟨T, G', δ', fun ds δ2 => Qd (d :: ds) δ2, S', q', fun vs ds H2 G2 δ2 S2 st2 rl len q2 =>
    k (v :: vs) (d :: ds) H2 G2 δ2 S2 (st'.trans st2) (.cons (rep.mono st2.le) rl) (by simp [len]) q2⟩⟩
theorem le_line {n : Nat} (h : n ≤ 1000) : n ≤ sizeLine := Nat.le_of_lt (small1000 h)
def dTup (t : TDA) : TDE := fun δ Q => t δ fun ds δ1 => Q (.tup ds) δ1
/-- a new tuple is frozen at once -/
theorem SS.newTup {K : PySem.W.Frag} {T : Tm} {G : Gh} {H : Hp} {σ : St} {δ : DSt} (S : SS K e T G H σ δ) {p : Addr} {vs : List V} {ds : List D} (r : RepL K G vs ds) (hp : H p = none) :
    ∃ G', SS K e T G' (upd H p (.tup vs)) σ δ ∧ Step e G H G' (upd H p (.tup vs)) ∧ Rep K G' (.ref p) (.tup ds) := by
  obtain ⟨S1, st1, nI, nB, new, ap⟩ := S.new (o := .tup vs) hp
  have le := Gh.fz_le (G := G) (l := p) (o := .tup vs) nI
  refine ⟨G.fz p (.tup vs), ⟨S1.ln, S1.ok.fz upd_same nB, S1.stp.trans (Step.fz nI new), S1.s.len, fun i s hs => ?_, S1.s.sep⟩, st1.trans (Step.fz nI new), .tup upd_same (r.mono le)⟩
  obtain ⟨x, hx, h⟩ := S1.s.sl i s hs
  refine ⟨x, hx, ?_⟩
  cases s with
  | no => trivial
  | im d => obtain ⟨v, e1, r⟩ := h; exact ⟨v, e1, r.mono le⟩
  | ow d' =>
    obtain ⟨l', rfl, m'⟩ := h
    exact ⟨l', rfl, m'.fz (fun z => ap i d' hs (by rw [hx, z])) nI⟩
theorem de_tup {es : List Expr} {t : TDA} {x1} (h : DA X e es t) (hl : es.length ≤ 1000 := by decide) : DE X e (.Tuple es x1 pos) (dTup t) :=
  pe_imp (pe_tup h) fun σ H Q ⟨T, G, δ, Qd, S, q, k⟩ => ⟨T, G, δ, _, S, q, fun vs ds H1 G1 δ1 S1 st1 r len q1 => ⟨by rw [r.length, len]; exact le_line hl, fun p hp => by
    obtain ⟨G2, S2, st2, rep⟩ := S1.newTup r hp
    exact k _ _ _ G2 δ1 S2 (st1.trans st2) rep q1⟩⟩
def dLst (t : TDA) : TDE := fun δ Q => t δ fun ds δ1 => Q (.lst ds) δ1
theorem do_lst {es : List Expr} {t : TDA} (h : DA X e es t) (hl : es.length ≤ 1000 := by decide) : DO X e (.List es pos) (dLst t) :=
  pe_imp (pe_lst h) fun σ H Q ⟨T, G, δ, Qd, S, q, k⟩ => ⟨T, G, δ, _, S, q, fun vs ds H1 G1 δ1 S1 st1 r len q1 => ⟨by rw [r.length, len]; exact le_line hl, fun p hp => by
    obtain ⟨S2, st2, nI, nB, new, ap⟩ := S1.new (o := .lst vs) hp
    exact k p (.lst ds) _ G1 δ1 S2 (st1.trans st2) ⟨⟨vs, upd_same, r⟩, nI, nB, new⟩ ap q1⟩⟩

/-! ### operands: a name's slot, or an expression -/
inductive Opn where
  | sl (i : Nat) | ex (t : TDE)
def OPN (X : Cx) (e : Ent) (a : Expr) : Opn → Prop
  | .sl i => PE X a (tVar i)
  | .ex t => DE X e a t
def rdS (δ : DSt) (i : Nat) : Option D := match δ[i]? with
  | some (.im d) => some d
  | some (.ow d) => some d
  | _ => none
/-- read now: frozen, or ours -/
def RdO (K : PySem.W.Frag) (G : Gh) (H : Hp) (v : V) (d : D) : Prop := Rep K G v d ∨ ∃ l, v = .ref l ∧ OwnAt K G H l d
theorem rdS_ok {K : PySem.W.Frag} {T : Tm} {G : Gh} {H : Hp} {σ : St} {δ : DSt} (S : SS K e T G H σ δ) {i : Nat} {d : D} (h : rdS δ i = some d) : ∃ v, σ[i]? = some (some v) ∧ RdO K G H v d := by
  unfold rdS at h
  cases hs : δ[i]? with
  | none => rw [hs] at h; cases h
  | some s =>
    rw [hs] at h
    cases s with
    | no => cases h
    | im d' =>
      obtain ⟨x, hx, v, rfl, r⟩ := S.sl i _ hs
      cases h
      exact ⟨v, hx, .inl r⟩
    | ow d' =>
      obtain ⟨x, hx, l, rfl, m⟩ := S.sl i _ hs
      cases h
      exact ⟨.ref l, hx, .inr ⟨l, rfl, m.own⟩⟩
/-- two operands -/
def dTwo (A B : Opn) (k : D → D → DSt → Prop) : DSt → Prop := fun δ => match A, B with
  | .ex ta, .ex tb => ta δ fun x δ1 => tb δ1 fun y δ2 => k x y δ2
  | .ex ta, .sl j => ta δ fun x δ1 => match rdS δ1 j with | some y => k x y δ1 | none => False
  | .sl i, .ex tb => (rdS δ i).isSome = true ∧ tb δ fun y δ1 => match rdS δ1 i with | some x => k x y δ1 | none => False
  | .sl i, .sl j => match rdS δ i with | some x => (match rdS δ j with | some y => k x y δ | none => False) | none => False
def WOp (X : Cx) (f : Value → Value → Sem Value) : R2 := fun x y H Q => ∀ (pins : List (Addr × Obj)) (s : Shared) (σ : St) (v u : Value), Inv X pins σ H s → RelV x v → RelV y u → wpAny (model X.prog X.w) X.A (f v u) (EP X pins σ Q) X.xe s
theorem wop_self {f : Value → Value → Sem Value} : OpR X f (WOp X f) := fun pins s σ H x y v u Q I rx ry h => h pins s σ v u I rx ry
theorem wop_of {f : Value → Value → Sem Value} {r : R2} (h : OpR X f r) {x y : V} {H : Hp} {Q : VK} (q : r x y H Q) : WOp X f x y H Q := fun pins s σ v u I rx ry => h pins s σ H x y v u Q I rx ry q
/-- an operation on two things by what they are -/
def OpD (X : Cx) (e : Ent) (W : R2) (g : D → D → (D → Prop) → Prop) : Prop := ∀ (T : Tm) (G : Gh) (H : Hp) (σ : St) (δ : DSt) (x y : V) (a b : D) (Qd : D → Prop) (Q : VK), SS X.K e T G H σ δ → RdO X.K G H x a → RdO X.K G H y b → g a b Qd →
  (∀ v d H' G', SS X.K e T G' H' σ δ → Step e G H G' H' → Rep X.K G' v d → Qd d → Q v H') → W x y H Q
theorem two_ok {a b : Expr} {A B : Opn} (ha : OPN X e a A) (hb : OPN X e b B) {f : TE → TE → TE} {r : R2} (hf : ∀ ta tb, PE X a ta → PE X b tb → PE X ex (f ta tb)) (ef : ∀ ta tb σ H Q, f ta tb σ H Q = ta σ H fun x H1 => tb σ H1 fun y H2 => r x y H2 Q)
    {g : D → D → (D → Prop) → Prop} (ho : OpD X e r g) : DE X e ex (fun δ Q => dTwo A B (fun x y δ' => g x y fun z => Q z δ') δ) := by
  cases A with
  | ex ta =>
    cases B with
    | ex tb =>
      refine pe_imp (hf _ _ ha hb) fun σ H Q ⟨T, G, δ, Qd, S, q, k⟩ => ?_
      rw [ef]
      exact ⟨T, G, δ, _, S, q, fun x a H1 G1 δ1 S1 st1 ra q1 => ⟨T, G1, δ1, _, S1, q1, fun y b H2 G2 δ2 S2 st2 rb q2 =>
        ho T G2 H2 σ δ2 x y a b _ Q S2 (.inl (ra.mono st2.le)) (.inl rb) q2 fun v d H' G' S' st' rep qd => k v d H' G' δ2 S' ((st1.trans st2).trans st') rep qd⟩⟩
    | sl j =>
      refine pe_imp (hf _ _ ha hb) fun σ H Q ⟨T, G, δ, Qd, S, q, k⟩ => ?_
      rw [ef]
      refine ⟨T, G, δ, _, S, q, fun x a H1 G1 δ1 S1 st1 ra q1 => ?_⟩
      cases hj : rdS δ1 j with
      | none => rw [hj] at q1; exact q1.elim
      | some b =>
        rw [hj] at q1
        obtain ⟨y, hy, rb⟩ := rdS_ok S1 hj
        exact ⟨y, hy, ho T G1 H1 σ δ1 x y a b _ Q S1 (.inl ra) rb q1 fun v d H' G' S' st' rep qd => k v d H' G' δ1 S' (st1.trans st') rep qd⟩
  | sl i =>
    cases B with
    | ex tb =>
      refine pe_imp (hf _ _ ha hb) fun σ H Q ⟨T, G, δ, Qd, S, q, k⟩ => ?_
      rw [ef]
      obtain ⟨hi, q⟩ := q
      obtain ⟨a0, h0⟩ := Option.isSome_iff_exists.mp hi
      obtain ⟨x, hx, _⟩ := rdS_ok S h0
      refine ⟨x, hx, T, G, δ, _, S, q, fun y b H1 G1 δ1 S1 st1 rb q1 => ?_⟩
      cases hj : rdS δ1 i with
      | none => rw [hj] at q1; exact q1.elim
      | some a =>
        rw [hj] at q1
        obtain ⟨x', hx', ra⟩ := rdS_ok S1 hj
        rw [hx] at hx'
        cases hx'
        exact ho T G1 H1 σ δ1 x y a b _ Q S1 ra (.inl rb) q1 fun v d H' G' S' st' rep qd => k v d H' G' δ1 S' (st1.trans st') rep qd
    | sl j =>
      refine pe_imp (hf _ _ ha hb) fun σ H Q ⟨T, G, δ, Qd, S, q, k⟩ => ?_
      rw [ef]
      have q : (match rdS δ i with | some x => (match rdS δ j with | some y => (fun x y δ' => g x y fun z => Qd z δ') x y δ | none => False) | none => False) := q
      cases hi : rdS δ i with
      | none => rw [hi] at q; exact q.elim
      | some a =>
        cases hj : rdS δ j with
        | none => rw [hi, hj] at q; exact q.elim
        | some b =>
          rw [hi, hj] at q
          obtain ⟨x, hx, ra⟩ := rdS_ok S hi
          obtain ⟨y, hy, rb⟩ := rdS_ok S hj
          exact ⟨x, hx, y, hy, ho T G H σ δ x y a b _ Q S ra rb q fun v d H' G' S' st' rep qd => k v d H' G' δ S' st' rep qd⟩
def dBin (g : D → D → (D → Prop) → Prop) (A B : Opn) : TDE := fun δ Q => dTwo A B (fun x y δ' => g x y fun z => Q z δ') δ
theorem de_bin {a b : Expr} {A B : Opn} {op : Operator} {g : D → D → (D → Prop) → Prop} (ho : OpD X e (WOp X (binaryOp op)) g) (ha : OPN X e a A) (hb : OPN X e b B) : DE X e (.BinOp a op b pos) (dBin g A B) :=
  two_ok ha hb (f := fun ta tb => tOp (WOp X (binaryOp op)) ta tb) (fun ta tb => pe_op wop_self) (fun _ _ _ _ _ => rfl) ho
theorem de_cmp {a b : Expr} {A B : Opn} {op : CmpOp} {g : D → D → (D → Prop) → Prop} (ho : OpD X e (WOp X (compareOp op)) g) (ha : OPN X e a A) (hb : OPN X e b B) (hm : behindInMarks op b = false) : DE X e (.Compare a [op] [b] pos) (dBin g A B) :=
  two_ok ha hb (f := fun ta tb => tOp (WOp X (compareOp op)) ta tb) (fun ta tb h1 h2 => pe_cmpR wop_self h1 h2 hm) (fun _ _ _ _ _ => rfl) ho
end
end T

namespace T
open PySem L2

section
variable {K : PySem.W.Frag} {G : Gh} {H : Hp} {v : V}
theorem RdO.int {i : Int} (h : RdO K G H v (.int i)) : v = .int i := by
  rcases h with h | ⟨l, rfl, h⟩
  · cases h; rfl
  · exact h.elim
theorem RdO.bl {i : Bool} (h : RdO K G H v (.bl i)) : v = .bl i := by
  rcases h with h | ⟨l, rfl, h⟩
  · cases h; rfl
  · exact h.elim
theorem RdO.non (h : RdO K G H v .non) : v = .non := by
  rcases h with h | ⟨l, rfl, h⟩
  · cases h; rfl
  · exact h.elim
theorem RdO.str {i : Str} (h : RdO K G H v (.str i)) : v = .str i ∧ sOk i := by
  rcases h with h | ⟨l, rfl, h⟩
  · cases h with | str q => exact ⟨rfl, q⟩
  · exact h.elim
theorem RdO.tup {ds : List D} (h : RdO K G H v (.tup ds)) (k : GOk G H) : ∃ p vs, v = .ref p ∧ SqT K H p vs ∧ RepL K G vs ds := by
  rcases h with h | ⟨l, rfl, h⟩
  · cases h with | tup q r => exact ⟨_, _, rfl, .inl (.inl (k.sub _ _ q)), r⟩
  · exact h.elim
theorem RdO.lst {ds : List D} (h : RdO K G H v (.lst ds)) (k : GOk G H) : ∃ p vs, v = .ref p ∧ H p = some (.lst vs) ∧ RepL K G vs ds := by
  rcases h with h | ⟨l, rfl, vs, q, r⟩
  · cases h with | lst q r => exact ⟨_, _, rfl, k.sub _ _ q, r⟩
  · exact ⟨_, _, rfl, q, r⟩
theorem RdO.dctW {ds : List (Key × D)} (h : RdO K G H v (.dct ds)) (k : GOk G H) : ∃ p kvs, v = .ref p ∧ H p = some (.dK kvs) ∧ kvs.map (·.1) = ds.map (·.1) ∧ RepL K G (kvs.map (·.2)) (ds.map (·.2)) ∧ ∀ k ∈ ds.map (·.1), kOk k := by
  rcases h with h | ⟨l, rfl, kvs, q, e, r, w⟩
  · cases h with | dct q e r w => exact ⟨_, _, rfl, k.sub _ _ q, e, r, w⟩
  · exact ⟨l, kvs, rfl, q, e, r, w⟩
theorem RdO.dct {ds : List (Key × D)} (h : RdO K G H v (.dct ds)) (k : GOk G H) : ∃ p kvs, v = .ref p ∧ H p = some (.dK kvs) ∧ kvs.map (·.1) = ds.map (·.1) ∧ RepL K G (kvs.map (·.2)) (ds.map (·.2)) :=
  let ⟨p, kvs, h1, h2, h3, h4, _⟩ := h.dctW k
  ⟨p, kvs, h1, h2, h3, h4⟩
theorem RdO.dselfW {a : Addr} {ds : List (Key × D)} (h : RdO K G H v (.dself a ds)) (k : GOk G H) : ∃ p kvs, v = .ref p ∧ H p = some (.dK kvs) ∧ kvs.map (·.1) = ds.map (·.1) ∧ RepL K G (kvs.map (·.2)) (ds.map (·.2)) ∧ ∀ k ∈ ds.map (·.1), kOk k := by
  rcases h with h | ⟨l, rfl, _, kvs, q, e, r, w⟩
  · cases h with | dself q e r w => exact ⟨_, _, rfl, k.sub _ _ q, e, r, w⟩
  · exact ⟨l, kvs, rfl, q, e, r, w⟩
theorem RdO.dtpW {ds : List (List Key × D)} (h : RdO K G H v (.dtp ds)) (k : GOk G H) : ∃ p kvs, v = .ref p ∧ H p = some (.dT kvs) ∧ kvs.map (·.1) = ds.map (·.1) ∧ RepL K G (kvs.map (·.2)) (ds.map (·.2)) ∧ ∀ k ∈ ds.map (·.1), ∀ x ∈ k, kOk x := by
  rcases h with h | ⟨l, rfl, kvs, q, e, r, w⟩
  · cases h with | dtp q e r w => exact ⟨_, _, rfl, k.sub _ _ q, e, r, w⟩
  · exact ⟨l, kvs, rfl, q, e, r, w⟩
theorem RdO.ins {C : Str} {ds : List (Str × D)} (h : RdO K G H v (.ins C ds)) (k : GOk G H) : ∃ p dx kvs, v = .ref p ∧ H p = some (.ins (He.ga K C) dx kvs) ∧ kvs.map (·.1) = ds.map (·.1) ∧ RepL K G (kvs.map (·.2)) (ds.map (·.2)) := by
  rcases h with h | ⟨l, rfl, dx, vs, q, e, r⟩
  · cases h with | ins q e r => exact ⟨_, _, _, rfl, k.sub _ _ q, e, r⟩
  · exact ⟨_, _, _, rfl, q, e, r⟩
theorem RdO.scr {ns : List Int} (h : RdO K G H v (.scr ns)) (k : GOk G H) : ∃ p, v = .ref p ∧ SqL K H p (ns.map V.int) := by
  rcases h with h | ⟨l, rfl, h⟩
  · cases h with | scr q => exact ⟨_, rfl, k.sub.seq q⟩
  · exact h.elim
end
theorem sOk_append {a b : Str} (ha : sOk a) (hb : sOk b) : sOk (a ++ b) := by
  intro c hc
  have e : (a ++ b).cps.toList = a.cps.toList ++ b.cps.toList := by
    show (a.cps ++ b.cps).toList = _
    simp
  rw [e] at hc
  rcases List.mem_append.mp hc with h | h
  · exact ha c h
  · exact hb c h
theorem sOk_one {c : Nat} (h : c < 0x110000) : sOk ⟨#[c]⟩ := by
  intro x hx
  have : x = c := by simpa using hx
  omega
theorem sOk_sub {a : Str} (ha : sOk a) {l : List Nat} (h : ∀ c ∈ l, c ∈ a.cps.toList) : sOk ⟨l.toArray⟩ := fun c hc => ha c (h c (by simpa using hc))
theorem sOk_cut {a : Str} (ha : sOk a) (lo hi : Option Int) : sOk (cutS a lo hi) := sOk_sub ha fun c hc => List.mem_of_mem_drop (List.mem_of_mem_take hc)

/-! ### the data of a thing -/
mutual
def py : D → PyData
  | .non => .none
  | .bl b => .bool b
  | .int i => .int i
  | .str s => .str s
  | .tup l => .tuple (pyL l)
  | .lst l => .list (pyL l)
  | .dct _ => .none
  | .dtp _ => .none
  | .ins _ _ => .none
  | .self _ _ _ => .none
  | .box _ => .none
  | .ty _ => .none
  | .ref _ => .none
  | .scr _ => .none
  | .cls _ => .none
  | .dself _ _ => .none
def pyL : List D → List PyData
  | [] => []
  | d :: r => py d :: pyL r
end
mutual
def isDat : D → Bool
  | .non => true
  | .bl _ => true
  | .int _ => true
  | .str _ => true
  | .tup l => isDatL l
  | .lst l => isDatL l
  | .dct _ => false
  | .dtp _ => false
  | .ins _ _ => false
  | .self _ _ _ => false
  | .box _ => false
  | .ty _ => false
  | .ref _ => false
  | .scr _ => false
  | .cls _ => false
  | .dself _ _ => false
def isDatL : List D → Bool
  | [] => true
  | d :: r => isDat d && isDatL r
end
theorem pyL_map : ∀ l : List D, pyL l = l.map py
  | [] => rfl
  | d :: r => by rw [pyL, pyL_map r]; rfl
theorem isDatL_iff : ∀ {l : List D}, isDatL l = true ↔ ∀ d ∈ l, isDat d = true
  | [] => by simp [isDatL]
  | d :: r => by
    rw [isDatL, Bool.and_eq_true, isDatL_iff (l := r)]
    simp
def dep (d : D) : Nat := (py d).depth
def eqB (a b : D) : Bool := PyData.eqv (py a) (py b)
theorem strOk_of {s : Str} (h : sOk s) : PyData.canLay0 (.str s) = true := by
  show s.cps.all (· < 0x110000) = true
  rw [Array.all_eq_true_iff_forall_mem]
  intro c hc
  exact decide_eq_true (h c (Array.mem_toList_iff.mpr hc))
section
variable {K : PySem.W.Frag} {G : Gh} {H : Hp}
mutual
theorem Rep.dp (k : GOk G H) : ∀ {v : V} {d : D}, Rep K G v d → isDat d = true → Dp K H v (py d) ∧ (py d).canLay0 = true
  | _, _, .non, _ => ⟨.non, rfl⟩
  | _, _, .bl b, _ => ⟨.bl b, rfl⟩
  | _, _, .int i, _ => ⟨.int i, rfl⟩
  | _, _, .str h, _ => ⟨.str _, strOk_of h⟩
  | _, _, .tup h r, hd => by
    rw [isDat] at hd
    obtain ⟨h1, h2⟩ := r.dp k hd
    rw [py]
    exact ⟨.tup (.inl (.inl (k.sub _ _ h))) h1, by rw [PyData.canLay0]; exact h2⟩
  | _, _, .lst h r, hd => by
    rw [isDat] at hd
    obtain ⟨h1, h2⟩ := r.dp k hd
    rw [py]
    exact ⟨.lst (.inl (.inl (k.sub _ _ h))) h1, by rw [PyData.canLay0]; exact h2⟩
  | _, _, .dct _ _ _ _, hd => by cases hd
  | _, _, .dtp _ _ _ _, hd => by cases hd
  | _, _, .ins _ _ _, hd => by cases hd
  | _, _, .self _ _ _, hd => by cases hd
  | _, _, .box _, hd => by cases hd
  | _, _, .ty _, hd => by cases hd
  | _, _, .ref _, hd => by cases hd
  | _, _, .scr _, hd => by cases hd
  | _, _, .cls _, hd => by cases hd
  | _, _, .dself _ _ _ _, hd => by cases hd
theorem RepL.dp (k : GOk G H) : ∀ {vs : List V} {ds : List D}, RepL K G vs ds → isDatL ds = true → DpAll K H vs (pyL ds) ∧ PyData.canLayAll0 (pyL ds) = true
  | _, _, .nil, _ => ⟨.nil, rfl⟩
  | _, _, .cons h r, hd => by
    rw [isDatL, Bool.and_eq_true] at hd
    obtain ⟨h1, h2⟩ := h.dp k hd.1
    obtain ⟨h3, h4⟩ := r.dp k hd.2
    rw [pyL]
    exact ⟨.cons h1 h3, by rw [PyData.canLayAll0, h2, h4]; rfl⟩
end
theorem RdO.dp (k : GOk G H) {v : V} {d : D} (h : RdO K G H v d) (hd : isDat d = true) : Dp K H v (py d) ∧ (py d).canLay0 = true := by
  rcases h with h | ⟨l, rfl, h⟩
  · exact h.dp k hd
  · cases d with
    | lst ds =>
      obtain ⟨vs, q, r⟩ := h
      rw [isDat] at hd
      obtain ⟨h1, h2⟩ := r.dp k hd
      rw [py]
      exact ⟨.lst (.inl (.inl q)) h1, by rw [PyData.canLay0]; exact h2⟩
    | dct _ => cases hd
    | dtp _ => cases hd
    | ins _ _ => cases hd
    | self _ _ _ => cases hd
    | dself _ _ => cases hd
    | _ => exact h.elim
theorem shaped_of {d : D} (h : (py d).canLay0 = true) (hd : dep d ≤ 64) : SeqAt.shaped (py d) = true := by
  show ((py d).canLay0 && decide ((py d).depth ≤ 64)) = true
  rw [h, decide_eq_true (show (py d).depth ≤ 64 from hd)]
  rfl
end

/-! ### operators -/
def addD : D → D → (D → Prop) → Prop
  | .int i, .int j, Q => Q (.int (i + j))
  | .str a, .str b, Q => a.length + b.length ≤ sizeLine ∧ Q (.str (a ++ b))
  | .lst a, .lst b, Q => a.length + b.length ≤ sizeLine ∧ Q (.lst (a ++ b))
  | .tup a, .tup b, Q => a.length + b.length ≤ sizeLine ∧ Q (.tup (a ++ b))
  | _, _, _ => False
def subD : D → D → (D → Prop) → Prop
  | .int i, .int j, Q => Q (.int (i - j))
  | _, _, _ => False
def mulD : D → D → (D → Prop) → Prop
  | .int i, .int j, Q => CMul i j ∧ Q (.int (i * j))
  | .str a, .int j, Q => (j = 0 ∨ j = 1) ∧ Q (.str (if j = 0 then Str.empty else a))
  | _, _, _ => False
def modD : D → D → (D → Prop) → Prop
  | .int i, .int j, Q => 0 < j ∧ Q (.int (i % j))
  | _, _, _ => False
def fdivD : D → D → (D → Prop) → Prop
  | .int i, .int j, Q => (0 < j ∧ j < 1267650600228229401496703205376) ∧ Q (.int (i / j))
  | _, _, _ => False
def powD : D → D → (D → Prop) → Prop
  | .int i, .int j, Q => (0 ≤ j ∧ j ≤ 1000000 ∧ i.natAbs < 2 ^ 64) ∧ Q (.int (i ^ j.toNat))
  | _, _, _ => False
section
variable {X : Cx} {e : Ent}
theorem opd_int {f : Value → Value → Sem Value} {C : Int → Int → Prop} {g : Int → Int → Int} {gd : D → D → (D → Prop) → Prop} (ho : OpR X f (rI C fun i j => .int (g i j)))
    (hg : ∀ a b Q, gd a b Q → ∃ i j, a = .int i ∧ b = .int j ∧ C i j ∧ Q (.int (g i j))) : OpD X e (WOp X f) gd := by
  intro T G H σ δ x y a b Qd Q S ra rb q k
  obtain ⟨i, j, rfl, rfl, hc, q⟩ := hg a b Qd q
  have e1 := ra.int
  have e2 := rb.int
  subst e1 e2
  exact wop_of ho ⟨i, j, rfl, rfl, hc, k _ _ H G S Step.refl (.int _) q⟩
theorem opd_sub : OpD X e (WOp X (binaryOp .Sub)) subD := by
  intro T G H σ δ x y a b Qd Q S ra rb q k
  cases a <;> cases b <;> try exact False.elim q
  have e1 := ra.int
  have e2 := rb.int
  subst e1 e2
  exact wop_of op_sub ⟨_, _, rfl, rfl, k _ _ H G S Step.refl (.int _) q⟩
theorem opd_mod : OpD X e (WOp X (binaryOp .Mod)) modD := opd_int op_mod fun a b Q q => by
  cases a <;> cases b <;> try exact False.elim q
  exact ⟨_, _, rfl, rfl, q⟩
theorem opd_fdiv : OpD X e (WOp X (binaryOp .FloorDiv)) fdivD := opd_int op_fdivW fun a b Q q => by
  cases a <;> cases b <;> try exact False.elim q
  obtain ⟨⟨q1, q2⟩, q3⟩ := q
  exact ⟨_, _, rfl, rfl, wide_div (b := 100) q1 (by have e : (2 : Nat) ^ 100 = 1267650600228229401496703205376 := by decide
                                                    rw [e]; omega) (by decide) (by decide), q3⟩
theorem opd_pow : OpD X e (WOp X (binaryOp .Pow)) powD := opd_int op_pow fun a b Q q => by
  cases a <;> cases b <;> try exact False.elim q
  exact ⟨_, _, rfl, rfl, q⟩
theorem op_mul_str01 : OpR X (binaryOp .Mult) (fun x y H Q => ∃ a j, x = .str a ∧ y = .int j ∧ (j = 0 ∨ j = 1) ∧ Q (.str (if j = 0 then Str.empty else a)) H) := by
  intro pins s σ H x y v u Q I rx ry h
  obtain ⟨a, j, rfl, rfl, hj, q⟩ := h
  obtain ⟨t, rfl⟩ := rx
  obtain ⟨t', rfl⟩ := ry
  rcases hj with rfl | rfl
  · exact P.mul_str_none (by decide) (by decide) ⟨.str Str.empty, H, I.tok _, ⟨_, rfl⟩, q⟩
  · refine P.mul_str (by decide) (fun _ h => by simp at h) (fun _ h => by simp at h) ?_
    rw [if_neg (by decide), if_pos (by rfl)]
    exact ⟨.str a, H, I, ⟨_, rfl⟩, q⟩
theorem opd_mul : OpD X e (WOp X (binaryOp .Mult)) mulD := by
  intro T G H σ δ x y a b Qd Q S ra rb q k
  cases a <;> cases b <;> try exact False.elim q
  · have e1 := ra.int
    have e2 := rb.int
    subst e1 e2
    exact wop_of op_mul ⟨_, _, rfl, rfl, q.1, k _ _ H G S Step.refl (.int _) q.2⟩
  · obtain ⟨e1, ok⟩ := ra.str
    have e2 := rb.int
    subst e1 e2
    refine wop_of op_mul_str01 ⟨_, _, rfl, rfl, q.1, k _ _ H G S Step.refl (.str ?_) q.2⟩
    split
    · intro c hc; simp [Str.empty] at hc
    · exact ok
theorem opd_add : OpD X e (WOp X (binaryOp .Add)) addD := by
  intro T G H σ δ x y a b Qd Q S ra rb q k
  cases a <;> cases b <;> try exact False.elim q
  · have e1 := ra.int
    have e2 := rb.int
    subst e1 e2
    exact wop_of op_add ⟨_, _, rfl, rfl, k _ _ H G S Step.refl (.int _) q⟩
  · obtain ⟨e1, o1⟩ := ra.str
    obtain ⟨e2, o2⟩ := rb.str
    subst e1 e2
    exact wop_of op_add_str ⟨_, _, rfl, rfl, q.1, k _ _ H G S Step.refl (.str (sOk_append o1 o2)) q.2⟩
  · obtain ⟨p, vs, rfl, hp, r1⟩ := ra.tup S.ok
    obtain ⟨p', ws, rfl, hp', r2⟩ := rb.tup S.ok
    rename_i a b
    have e1 := r1.length
    have e2 := r2.length
    refine wop_of op_catA ⟨p, p', vs, ws, rfl, rfl, hp, hp', by rw [e1, e2]; exact q.1, fun hn => ?_, fun hn hm => ?_, fun hn hm r hr => ?_⟩
    · subst hn
      cases r1
      rcases rb with rb | ⟨l, _, rb⟩
      · exact k _ _ H G S Step.refl rb q.2
      · exact rb.elim
    · subst hm
      cases r2
      rcases ra with ra | ⟨l, _, ra⟩
      · refine k _ _ H G S Step.refl ra ?_
        have := q.2
        rwa [List.append_nil] at this
      · exact ra.elim
    · obtain ⟨G2, S2, st2, rep⟩ := S.newTup (r1.append r2) hr
      exact k _ _ _ G2 S2 st2 rep q.2
  · obtain ⟨p, vs, rfl, hp, r1⟩ := ra.lst S.ok
    obtain ⟨p', ws, rfl, hp', r2⟩ := rb.lst S.ok
    have e1 := r1.length
    have e2 := r2.length
    refine wop_of op_cat ⟨p, p', vs, ws, rfl, rfl, hp, hp', by rw [e1, e2]; exact q.1, fun r hr => ?_⟩
    obtain ⟨S2, st2, nI, nB, new, ap⟩ := S.new (o := .lst (vs ++ ws)) hr
    obtain ⟨G3, S3, st3, rep⟩ := S2.freeze (l := r) (d := .lst _) ⟨⟨_, upd_same, r1.append r2⟩, nI, nB, new⟩ ap
    exact k _ _ _ G3 S3 (st2.trans st3) rep q.2

/-! ### comparisons -/
def eqD : D → D → (D → Prop) → Prop
  | .int i, .int j, Q => Q (.bl (decide (i = j)))
  | .str a, .str b, Q => Q (.bl (decide (a = b)))
  | .bl a, .bl b, Q => Q (.bl (decide (a = b)))
  | a, b, Q => (isDat a = true ∧ isDat b = true ∧ dep a ≤ 64 ∧ dep b ≤ 64) ∧ Q (.bl (eqB a b))
def neD : D → D → (D → Prop) → Prop
  | .int i, .int j, Q => Q (.bl (!decide (i = j)))
  | .str a, .str b, Q => Q (.bl (!decide (a = b)))
  | .bl a, .bl b, Q => Q (.bl (!decide (a = b)))
  | a, b, Q => (isDat a = true ∧ isDat b = true ∧ dep a ≤ 64 ∧ dep b ≤ 64) ∧ Q (.bl (!eqB a b))
theorem eqD_or {a b : D} {Q : D → Prop} (q : eqD a b Q) : (∃ i j, a = .int i ∧ b = .int j ∧ Q (.bl (decide (i = j)))) ∨ (∃ i j, a = .str i ∧ b = .str j ∧ Q (.bl (decide (i = j)))) ∨ (∃ i j, a = .bl i ∧ b = .bl j ∧ Q (.bl (decide (i = j)))) ∨
    ((isDat a = true ∧ isDat b = true ∧ dep a ≤ 64 ∧ dep b ≤ 64) ∧ Q (.bl (eqB a b))) := by
  cases a <;> cases b <;> first
    | exact .inl ⟨_, _, rfl, rfl, q⟩
    | exact .inr (.inl ⟨_, _, rfl, rfl, q⟩)
    | exact .inr (.inr (.inl ⟨_, _, rfl, rfl, q⟩))
    | exact .inr (.inr (.inr q))
theorem neD_or {a b : D} {Q : D → Prop} (q : neD a b Q) : (∃ i j, a = .int i ∧ b = .int j ∧ Q (.bl (!decide (i = j)))) ∨ (∃ i j, a = .str i ∧ b = .str j ∧ Q (.bl (!decide (i = j)))) ∨ (∃ i j, a = .bl i ∧ b = .bl j ∧ Q (.bl (!decide (i = j)))) ∨
    ((isDat a = true ∧ isDat b = true ∧ dep a ≤ 64 ∧ dep b ≤ 64) ∧ Q (.bl (!eqB a b))) := by
  cases a <;> cases b <;> first
    | exact .inl ⟨_, _, rfl, rfl, q⟩
    | exact .inr (.inl ⟨_, _, rfl, rfl, q⟩)
    | exact .inr (.inr (.inl ⟨_, _, rfl, rfl, q⟩))
    | exact .inr (.inr (.inr q))
theorem opd_eq {k0 : Nat} (hr : Room k0 X.A) : OpD X e (WOp X (compareOp .Eq)) eqD := by
  intro T G H σ δ x y a b Qd Q S ra rb q k
  rcases eqD_or q with ⟨i, j, rfl, rfl, q⟩ | ⟨i, j, rfl, rfl, q⟩ | ⟨i, j, rfl, rfl, q⟩ | ⟨⟨h1, h2, h3, h4⟩, q⟩
  · have e1 := ra.int
    have e2 := rb.int
    subst e1 e2
    refine wop_of op_eq ⟨rfl, k _ (.bl _) H G S Step.refl (.bl _) ?_⟩
    have e3 : decide (V.int i = V.int j) = decide (i = j) := by simp
    rw [e3]; exact q
  · obtain ⟨e1, _⟩ := ra.str
    obtain ⟨e2, _⟩ := rb.str
    subst e1 e2
    refine wop_of op_eq ⟨rfl, k _ (.bl _) H G S Step.refl (.bl _) ?_⟩
    have e3 : decide (V.str i = V.str j) = decide (i = j) := by simp
    rw [e3]; exact q
  · have e1 := ra.bl
    have e2 := rb.bl
    subst e1 e2
    refine wop_of op_eq ⟨rfl, k _ (.bl _) H G S Step.refl (.bl _) ?_⟩
    have e3 : decide (V.bl i = V.bl j) = decide (i = j) := by simp
    rw [e3]; exact q
  · obtain ⟨p1, c1⟩ := ra.dp S.ok h1
    obtain ⟨p2, c2⟩ := rb.dp S.ok h2
    exact wop_of (op_eqD hr.units) ⟨_, _, p1, p2, shaped_of c1 h3, shaped_of c2 h4, k _ (.bl _) H G S Step.refl (.bl _) q⟩
theorem opd_ne {k0 : Nat} (hr : Room k0 X.A) : OpD X e (WOp X (compareOp .NotEq)) neD := by
  intro T G H σ δ x y a b Qd Q S ra rb q k
  rcases neD_or q with ⟨i, j, rfl, rfl, q⟩ | ⟨i, j, rfl, rfl, q⟩ | ⟨i, j, rfl, rfl, q⟩ | ⟨⟨h1, h2, h3, h4⟩, q⟩
  · have e1 := ra.int
    have e2 := rb.int
    subst e1 e2
    refine wop_of op_ne ⟨rfl, k _ (.bl _) H G S Step.refl (.bl _) ?_⟩
    have e3 : decide (V.int i = V.int j) = decide (i = j) := by simp
    rw [e3]; exact q
  · obtain ⟨e1, _⟩ := ra.str
    obtain ⟨e2, _⟩ := rb.str
    subst e1 e2
    refine wop_of op_ne ⟨rfl, k _ (.bl _) H G S Step.refl (.bl _) ?_⟩
    have e3 : decide (V.str i = V.str j) = decide (i = j) := by simp
    rw [e3]; exact q
  · have e1 := ra.bl
    have e2 := rb.bl
    subst e1 e2
    refine wop_of op_ne ⟨rfl, k _ (.bl _) H G S Step.refl (.bl _) ?_⟩
    have e3 : decide (V.bl i = V.bl j) = decide (i = j) := by simp
    rw [e3]; exact q
  · obtain ⟨p1, c1⟩ := ra.dp S.ok h1
    obtain ⟨p2, c2⟩ := rb.dp S.ok h2
    exact wop_of (op_neD hr.units) ⟨_, _, p1, p2, shaped_of c1 h3, shaped_of c2 h4, k _ (.bl _) H G S Step.refl (.bl _) q⟩
def cmpD (p : Int → Int → Bool) : D → D → (D → Prop) → Prop
  | .int i, .int j, Q => Q (.bl (p i j))
  | _, _, _ => False
theorem opd_cmp {f : Value → Value → Sem Value} {p : Int → Int → Bool} (ho : OpR X f (rI0 fun i j => .bl (p i j))) : OpD X e (WOp X f) (cmpD p) := by
  intro T G H σ δ x y a b Qd Q S ra rb q k
  cases a <;> cases b <;> try exact False.elim q
  have e1 := ra.int
  have e2 := rb.int
  subst e1 e2
  exact wop_of ho ⟨_, _, rfl, rfl, k _ (.bl _) H G S Step.refl (.bl _) q⟩
def ltD := cmpD fun i j => decide (i < j)
def leD := cmpD fun i j => decide (i ≤ j)
def gtD := cmpD fun i j => decide (j < i)
def geD := cmpD fun i j => decide (j ≤ i)
theorem opd_lt : OpD X e (WOp X (compareOp .Lt)) ltD := opd_cmp op_lt
theorem opd_le : OpD X e (WOp X (compareOp .LtE)) leD := opd_cmp op_le
theorem opd_gt : OpD X e (WOp X (compareOp .Gt)) gtD := opd_cmp op_gt
theorem opd_ge : OpD X e (WOp X (compareOp .GtE)) geD := opd_cmp op_ge
def isN : D → Bool
  | .non => true
  | _ => false
theorem Rd_isN {K : PySem.W.Frag} {G : Gh} {H : Hp} {v : V} {d : D} (r : RdO K G H v d) : decide (v = .non) = isN d := by
  rcases r with r | ⟨l, rfl, r⟩
  · cases r <;> simp [isN]
  · cases d <;> first | exact r.elim | simp [isN]
def isD : D → D → (D → Prop) → Prop
  | a, .non, Q => Q (.bl (isN a))
  | _, _, _ => False
def isNotD : D → D → (D → Prop) → Prop
  | a, .non, Q => Q (.bl (!isN a))
  | _, _, _ => False
theorem opd_is : OpD X e (WOp X (compareOp .Is)) isD := by
  intro T G H σ δ x y a b Qd Q S ra rb q k
  cases b with
  | non =>
    have e2 := rb.non
    subst e2
    refine wop_of op_isN ⟨rfl, k _ (.bl _) H G S Step.refl (.bl _) ?_⟩
    rw [Rd_isN ra]
    exact q
  | _ => exact False.elim q
/-! ### in -/
theorem op_inDT (hu : X.A.units + 65 < cLine) : OpR X (compareOp .In) (fun x y H Q => ∃ d ds, Dp X.K H x d ∧ Dp X.K H y (.tuple ds) ∧ SeqAt.shaped d = true ∧ SeqAt.shaped (.tuple ds) = true ∧ Q (.bl (ds.any fun z => PyData.eqv z d)) H) := by
  intro pins s σ H x y v u Q I rx ry h
  obtain ⟨d, ds, hd, he, sd, se, q⟩ := h
  obtain ⟨as, r1⟩ := Dp.reads I d x v hd rx
  obtain ⟨bs, r2⟩ := Dp.reads I (.tuple ds) y u he ry
  exact SeqAt.in_tuple_reads r2 r1 (SeqAt.canLay_of_shaped se) (SeqAt.canLay_of_shaped sd) (PyProof.Rows.room_in_shaped sd hu) ⟨.bl _, H, I, rfl, q⟩
theorem op_notInDT (hu : X.A.units + 65 < cLine) : OpR X (compareOp .NotIn) (fun x y H Q => ∃ d ds, Dp X.K H x d ∧ Dp X.K H y (.tuple ds) ∧ SeqAt.shaped d = true ∧ SeqAt.shaped (.tuple ds) = true ∧ Q (.bl (!ds.any fun z => PyData.eqv z d)) H) := by
  intro pins s σ H x y v u Q I rx ry h
  obtain ⟨d, ds, hd, he, sd, se, q⟩ := h
  obtain ⟨as, r1⟩ := Dp.reads I d x v hd rx
  obtain ⟨bs, r2⟩ := Dp.reads I (.tuple ds) y u he ry
  exact SeqAt.notIn_tuple_reads r2 r1 (SeqAt.canLay_of_shaped se) (SeqAt.canLay_of_shaped sd) (PyProof.Rows.room_in_shaped sd hu) ⟨.bl _, H, I, rfl, q⟩
def inL (d : D) (ds : List D) : Bool := ds.any fun z => eqB z d
def inDn (neg : Bool) : D → D → (D → Prop) → Prop
  | a, .lst ds, Q => (isDat a = true ∧ isDatL ds = true ∧ dep a ≤ 64 ∧ dep (.lst ds) ≤ 64) ∧ Q (.bl (if neg then !inL a ds else inL a ds))
  | a, .tup ds, Q => (isDat a = true ∧ isDatL ds = true ∧ dep a ≤ 64 ∧ dep (.tup ds) ≤ 64) ∧ Q (.bl (if neg then !inL a ds else inL a ds))
  | .str a, .str b, Q => ∃ c, a = ⟨#[c]⟩ ∧ Q (.bl (if neg then !decide (c ∈ b.cps.toList) else decide (c ∈ b.cps.toList)))
  | _, _, _ => False
theorem any_py {d : D} : ∀ ds : List D, ((pyL ds).any fun z => PyData.eqv z (py d)) = inL d ds
  | [] => rfl
  | a :: r => by
    rw [pyL, List.any_cons, any_py r]
    rfl
theorem units65 {k0 : Nat} {A : Around} (hr : Room (k0 + 1) A) : A.units + 65 < cLine := by
  have := hr.un
  omega
theorem opd_in {k0 : Nat} (hr : Room (k0 + 1) X.A) : OpD X e (WOp X (compareOp .In)) (inDn false) := by
  intro T G H σ δ x y a b Qd Q S ra rb q k
  cases b with
  | lst ds =>
    have q : (isDat a = true ∧ isDatL ds = true ∧ dep a ≤ 64 ∧ dep (.lst ds) ≤ 64) ∧ Qd (.bl (inL a ds)) := by
      cases a <;> exact q
    obtain ⟨⟨h1, h2, h3, h4⟩, q⟩ := q
    obtain ⟨p1, c1⟩ := ra.dp S.ok h1
    obtain ⟨p2, c2⟩ := rb.dp S.ok (by rw [isDat]; exact h2)
    have s2 := shaped_of c2 h4
    rw [py] at p2 s2
    refine wop_of (op_inD (units65 hr)) ⟨_, _, p1, p2, shaped_of c1 h3, s2, k _ (.bl _) H G S Step.refl (.bl _) ?_⟩
    rw [any_py]; exact q
  | tup ds =>
    have q : (isDat a = true ∧ isDatL ds = true ∧ dep a ≤ 64 ∧ dep (.tup ds) ≤ 64) ∧ Qd (.bl (inL a ds)) := by
      cases a <;> exact q
    obtain ⟨⟨h1, h2, h3, h4⟩, q⟩ := q
    obtain ⟨p1, c1⟩ := ra.dp S.ok h1
    obtain ⟨p2, c2⟩ := rb.dp S.ok (by rw [isDat]; exact h2)
    have s2 := shaped_of c2 h4
    rw [py] at p2 s2
    refine wop_of (op_inDT (units65 hr)) ⟨_, _, p1, p2, shaped_of c1 h3, s2, k _ (.bl _) H G S Step.refl (.bl _) ?_⟩
    rw [any_py]; exact q
  | str b =>
    cases a with
    | str a =>
      obtain ⟨c, rfl, q⟩ := q
      obtain ⟨e1, _⟩ := ra.str
      obtain ⟨e2, _⟩ := rb.str
      subst e1 e2
      exact wop_of op_in_sign ⟨c, b, rfl, rfl, k _ (.bl _) H G S Step.refl (.bl _) q⟩
    | _ => exact False.elim q
  | _ => cases a <;> exact False.elim q
theorem opd_notIn {k0 : Nat} (hr : Room (k0 + 1) X.A) : OpD X e (WOp X (compareOp .NotIn)) (inDn true) := by
  intro T G H σ δ x y a b Qd Q S ra rb q k
  cases b with
  | lst ds =>
    have q : (isDat a = true ∧ isDatL ds = true ∧ dep a ≤ 64 ∧ dep (.lst ds) ≤ 64) ∧ Qd (.bl (!inL a ds)) := by
      cases a <;> exact q
    obtain ⟨⟨h1, h2, h3, h4⟩, q⟩ := q
    obtain ⟨p1, c1⟩ := ra.dp S.ok h1
    obtain ⟨p2, c2⟩ := rb.dp S.ok (by rw [isDat]; exact h2)
    have s2 := shaped_of c2 h4
    rw [py] at p2 s2
    refine wop_of (op_notInD (units65 hr)) ⟨_, _, p1, p2, shaped_of c1 h3, s2, k _ (.bl _) H G S Step.refl (.bl _) ?_⟩
    rw [any_py]; exact q
  | tup ds =>
    have q : (isDat a = true ∧ isDatL ds = true ∧ dep a ≤ 64 ∧ dep (.tup ds) ≤ 64) ∧ Qd (.bl (!inL a ds)) := by
      cases a <;> exact q
    obtain ⟨⟨h1, h2, h3, h4⟩, q⟩ := q
    obtain ⟨p1, c1⟩ := ra.dp S.ok h1
    obtain ⟨p2, c2⟩ := rb.dp S.ok (by rw [isDat]; exact h2)
    have s2 := shaped_of c2 h4
    rw [py] at p2 s2
    refine wop_of (op_notInDT (units65 hr)) ⟨_, _, p1, p2, shaped_of c1 h3, s2, k _ (.bl _) H G S Step.refl (.bl _) ?_⟩
    rw [any_py]; exact q
  | str b =>
    cases a with
    | str a =>
      obtain ⟨c, rfl, q⟩ := q
      obtain ⟨e1, _⟩ := ra.str
      obtain ⟨e2, _⟩ := rb.str
      subst e1 e2
      exact wop_of op_notIn_sign ⟨c, b, rfl, rfl, k _ (.bl _) H G S Step.refl (.bl _) q⟩
    | _ => exact False.elim q
  | _ => cases a <;> exact False.elim q
end
end T

namespace T
open PySem PySem.Spec PyProof.Rows L2
abbrev SSt := L2.St

section
variable {X : Cx} {e : Ent} {pos : Pos}
/-! ### tests -/
theorem two_ent {a b : Expr} {A B : Opn} {r : R2} {g : D → D → (D → Prop) → Prop} (ho : OpD X e r g) {σ : SSt} {H : Hp} {T : Tm} {G : Gh} {δ : DSt} {Qd : D → DSt → Prop} {Q : VK} (ha : OPN X e a A) (hb : OPN X e b B) (S : SS X.K e T G H σ δ)
    (q : dTwo A B (fun x y δ' => g x y fun z => Qd z δ') δ) (k : ∀ v d H' G' δ', SS X.K e T G' H' σ δ' → Step e G H G' H' → Rep X.K G' v d → Qd d δ' → Q v H') :
    ∃ ta tb, PE X a ta ∧ PE X b tb ∧ ta σ H fun x H1 => tb σ H1 fun y H2 => r x y H2 Q := by
  cases A with
  | ex ta =>
    cases B with
    | ex tb =>
      exact ⟨_, _, ha, hb, T, G, δ, _, S, q, fun x a H1 G1 δ1 S1 st1 ra q1 => ⟨T, G1, δ1, _, S1, q1, fun y b H2 G2 δ2 S2 st2 rb q2 =>
        ho T G2 H2 σ δ2 x y a b _ Q S2 (.inl (ra.mono st2.le)) (.inl rb) q2 fun v d H' G' S' st' rep qd => k v d H' G' δ2 S' ((st1.trans st2).trans st') rep qd⟩⟩
    | sl j =>
      refine ⟨_, _, ha, hb, T, G, δ, _, S, q, fun x a H1 G1 δ1 S1 st1 ra q1 => ?_⟩
      cases hj : rdS δ1 j with
      | none => rw [hj] at q1; exact q1.elim
      | some b =>
        rw [hj] at q1
        obtain ⟨y, hy, rb⟩ := rdS_ok S1 hj
        exact ⟨y, hy, ho T G1 H1 σ δ1 x y a b _ Q S1 (.inl ra) rb q1 fun v d H' G' S' st' rep qd => k v d H' G' δ1 S' (st1.trans st') rep qd⟩
  | sl i =>
    cases B with
    | ex tb =>
      obtain ⟨hi, q⟩ := q
      obtain ⟨a0, h0⟩ := Option.isSome_iff_exists.mp hi
      obtain ⟨x, hx, _⟩ := rdS_ok S h0
      refine ⟨_, _, ha, hb, x, hx, T, G, δ, _, S, q, fun y b H1 G1 δ1 S1 st1 rb q1 => ?_⟩
      cases hj : rdS δ1 i with
      | none => rw [hj] at q1; exact q1.elim
      | some a =>
        rw [hj] at q1
        obtain ⟨x', hx', ra⟩ := rdS_ok S1 hj
        rw [hx] at hx'
        cases hx'
        exact ho T G1 H1 σ δ1 x y a b _ Q S1 ra (.inl rb) q1 fun v d H' G' S' st' rep qd => k v d H' G' δ1 S' (st1.trans st') rep qd
    | sl j =>
      have q : (match rdS δ i with | some x => (match rdS δ j with | some y => (fun x y δ' => g x y fun z => Qd z δ') x y δ | none => False) | none => False) := q
      cases hi : rdS δ i with
      | none => rw [hi] at q; exact q.elim
      | some a =>
        cases hj : rdS δ j with
        | none => rw [hi, hj] at q; exact q.elim
        | some b =>
          rw [hi, hj] at q
          obtain ⟨x, hx, ra⟩ := rdS_ok S hi
          obtain ⟨y, hy, rb⟩ := rdS_ok S hj
          exact ⟨_, _, ha, hb, x, hx, y, hy, ho T G H σ δ x y a b _ Q S ra rb q fun v d H' G' S' st' rep qd => k v d H' G' δ S' st' rep qd⟩
def onBl : D → (Bool → Prop) → Prop
  | .bl b, Q => Q b
  | _, _ => False
theorem onBl_ok {d : D} {Q : Bool → Prop} (h : onBl d Q) : ∃ b, d = .bl b ∧ Q b := by
  cases d <;> first | exact ⟨_, rfl, h⟩ | exact h.elim
theorem Rep.blI {K : PySem.W.Frag} {G : Gh} {v : V} {b : Bool} (r : Rep K G v (.bl b)) : v = .bl b := by cases r; rfl
theorem Rep.intI {K : PySem.W.Frag} {G : Gh} {v : V} {b : Int} (r : Rep K G v (.int b)) : v = .int b := by cases r; rfl
def dtBin (g : D → D → (D → Prop) → Prop) (A B : Opn) : TDT := fun δ Q => dTwo A B (fun x y δ' => g x y fun z => onBl z fun b => Q b δ') δ
theorem dt_cmp {a b : Expr} {A B : Opn} {op : CmpOp} {g : D → D → (D → Prop) → Prop} (ho : OpD X e (WOp X (compareOp op)) g) (ha : OPN X e a A) (hb : OPN X e b B) (hm : behindInMarks op b = false) : DT X e (.Compare a [op] [b] pos) (dtBin g A B) := by
  refine ⟨fun pins s σ H Q I ⟨T, G, δ, Qd, S, q, k⟩ => ?_⟩
  obtain ⟨ta, tb, h1, h2, h3⟩ := two_ent (Qd := fun z δ' => onBl z fun b => Qd b δ') (Q := fun x H' => ∃ k, x = .bl k ∧ Q k H') ho ha hb S q fun v d H' G' δ' S' st r qd => by
    obtain ⟨b, rfl, qd⟩ := onBl_ok qd
    exact ⟨b, r.blI, k b H' G' δ' S' st qd⟩
  exact (pt_cmpR wop_self h1 h2 hm).run pins s σ H Q I h3
def dChain (g g' : D → D → (D → Prop) → Prop) (ta tb tc : TDE) : TDE := fun δ Q => ta δ fun x δ1 => tb δ1 fun y δ2 => g x y fun z => onBl z fun b => if b = true then tc δ2 fun w δ3 => g' y w fun r => Q r δ3 else Q (.bl false) δ2
theorem dt_chain {a b c : Expr} {ta tb tc : TDE} {op op' : CmpOp} {g g' : D → D → (D → Prop) → Prop} (ho : OpD X e (WOp X (compareOp op)) g) (ho' : OpD X e (WOp X (compareOp op')) g') (ha : DE X e a ta) (hb : DE X e b tb) (hc : DE X e c tc)
    (hm : lastMarks [op, op'] [b, c] = false := by with_unfolding_all rfl) : DT X e (.Compare a [op, op'] [b, c] pos) (fun δ Q => dChain g g' ta tb tc δ fun z δ' => onBl z fun b => Q b δ') := by
  refine pt_imp (pt_chain wop_self wop_self ha hb hc hm) fun σ H Q ⟨T, G, δ, Qd, S, q, k⟩ => ?_
  refine ⟨T, G, δ, _, S, q, fun x a H1 G1 δ1 S1 st1 ra q1 => ⟨T, G1, δ1, _, S1, q1, fun y b H2 G2 δ2 S2 st2 rb q2 => ?_⟩⟩
  refine ho T G2 H2 σ δ2 x y a b _ _ S2 (.inl (ra.mono st2.le)) (.inl rb) q2 fun v d H3 G3 S3 st3 rep qd => ?_
  obtain ⟨bb, rfl, qe⟩ := onBl_ok qd
  refine ⟨bb, rep.blI, ?_⟩
  cases bb with
  | false =>
    rw [if_neg Bool.false_ne_true] at qe ⊢
    exact ⟨false, rfl, k false H3 G3 δ2 S3 ((st1.trans st2).trans st3) qe⟩
  | true =>
    rw [if_pos rfl] at qe ⊢
    refine ⟨T, G3, δ2, _, S3, qe, fun w c H4 G4 δ4 S4 st4 rc q4 => ?_⟩
    refine ho' T G4 H4 σ δ4 y w b c _ _ S4 (.inl (rb.mono (st3.le.trans st4.le))) (.inl rc) q4 fun v d H5 G5 S5 st5 rep qd => ?_
    obtain ⟨bb, rfl, qd⟩ := onBl_ok qd
    exact ⟨bb, rep.blI, k bb H5 G5 δ4 S5 (((st1.trans st2).trans (st3.trans st4)).trans st5) qd⟩
def dAnd (t u : TDT) : TDT := fun δ Q => t δ fun c δ1 => if c = true then u δ1 Q else Q false δ1
def dOr (t u : TDT) : TDT := fun δ Q => t δ fun c δ1 => if c = true then Q true δ1 else u δ1 Q
def dNot (t : TDT) : TDT := fun δ Q => t δ fun c δ1 => Q (!c) δ1
theorem dw_and1 {a : Expr} {t : TDT} (h : DT X e a t) : DW X e (.BoolOp .And [a] pos) t := pw_and1 h
theorem dw_or1 {a : Expr} {t : TDT} (h : DT X e a t) : DW X e (.BoolOp .Or [a] pos) t := pw_or1 h
theorem dw_and {a b : Expr} {r : List Expr} {t u : TDT} (h : DT X e a t) (hr : DW X e (.BoolOp .And (b :: r) pos) u) : DW X e (.BoolOp .And (a :: b :: r) pos) (dAnd t u) :=
  pw_imp (pw_and h hr) fun σ H Q ⟨T, G, δ, Qd, S, q, k⟩ => ⟨T, G, δ, _, S, q, fun c H1 G1 δ1 S1 st1 q1 => by
    cases c with
    | true => exact iteT ⟨T, G1, δ1, Qd, S1, q1, fun b H2 G2 δ2 S2 st2 q2 => k b H2 G2 δ2 S2 (st1.trans st2) q2⟩
    | false => exact iteF (k false H1 G1 δ1 S1 st1 q1)⟩
theorem dw_or {a b : Expr} {r : List Expr} {t u : TDT} (h : DT X e a t) (hr : DW X e (.BoolOp .Or (b :: r) pos) u) : DW X e (.BoolOp .Or (a :: b :: r) pos) (dOr t u) :=
  pw_imp (pw_or h hr) fun σ H Q ⟨T, G, δ, Qd, S, q, k⟩ => ⟨T, G, δ, _, S, q, fun c H1 G1 δ1 S1 st1 q1 => by
    cases c with
    | false => exact iteF ⟨T, G1, δ1, Qd, S1, q1, fun b H2 G2 δ2 S2 st2 q2 => k b H2 G2 δ2 S2 (st1.trans st2) q2⟩
    | true => exact iteT (k true H1 G1 δ1 S1 st1 q1)⟩
theorem dt_not {a : Expr} {t : TDT} (h : DT X e a t) : DT X e (.UnaryOp .Not a pos) (dNot t) :=
  pt_imp (pt_not h) fun σ H Q ⟨T, G, δ, Qd, S, q, k⟩ => ⟨T, G, δ, _, S, q, fun c H1 G1 δ1 S1 st1 q1 => k (!c) H1 G1 δ1 S1 st1 q1⟩
/-- the truth of a thing -/
def truD : D → Option Bool
  | .non => some false
  | .bl b => some b
  | .int i => some (i != 0)
  | .lst l => some (!l.isEmpty)
  | .tup l => some (!l.isEmpty)
  | .dct l => some (!l.isEmpty)
  | _ => none
theorem isEmpty_len {α β : Type} {a : List α} {b : List β} (h : a.length = b.length) : (!a.isEmpty) = !b.isEmpty := by
  cases a <;> cases b <;> simp_all
theorem truD_ok {K : PySem.W.Frag} {G : Gh} {H : Hp} {v : V} {d : D} {b : Bool} (k : GOk G H) (r : RdO K G H v d) (h : truD d = some b) : TruV K v H b := by
  cases d with
  | non => have := r.non; subst this; exact (Option.some.inj h).symm
  | bl i => have := r.bl; subst this; exact (Option.some.inj h).symm
  | int i => have := r.int; subst this; exact (Option.some.inj h).symm
  | lst l =>
    obtain ⟨p, vs, rfl, hp, rl⟩ := r.lst k
    exact .inl ⟨vs, .inl (.inl hp), by rw [isEmpty_len rl.length]; exact (Option.some.inj h).symm⟩
  | tup l =>
    obtain ⟨p, vs, rfl, hp, rl⟩ := r.tup k
    exact .inr (.inl ⟨vs, hp, by rw [isEmpty_len rl.length]; exact (Option.some.inj h).symm⟩)
  | dct l =>
    obtain ⟨p, vs, rfl, hp, ee, rl⟩ := r.dct k
    refine .inr (.inr ⟨vs, hp, ?_⟩)
    have e2 : vs.length = l.length := by
      have := congrArg List.length ee
      simpa using this
    rw [isEmpty_len e2]
    exact (Option.some.inj h).symm
  | _ => cases h
def dTru (A : Opn) : TDT := fun δ Q => match A with
  | .ex t => t δ fun d δ1 => match truD d with | some b => Q b δ1 | none => False
  | .sl i => match rdS δ i with | some d => (match truD d with | some b => Q b δ | none => False) | none => False
theorem dt_tru {a : Expr} {A : Opn} (h : OPN X e a A) (he : ∀ whole, isTrue a X.env whole = (do let v ← whole; standAt a.pos; holding [v] (truthy v)) := by intro _; rfl) : DT X e a (dTru A) := by
  cases A with
  | ex t =>
    refine pt_imp (pt_truth h he) fun σ H Q ⟨T, G, δ, Qd, S, q, k⟩ => ⟨T, G, δ, _, S, q, fun v d H1 G1 δ1 S1 st1 r q1 => ?_⟩
    cases hb : truD d with
    | none => rw [hb] at q1; exact q1.elim
    | some b =>
      rw [hb] at q1
      exact ⟨b, truD_ok S1.ok (.inl r) hb, k b H1 G1 δ1 S1 st1 q1⟩
  | sl i =>
    refine pt_imp (pt_truth h he) fun σ H Q ⟨T, G, δ, Qd, S, q, k⟩ => ?_
    have q : (match rdS δ i with | some d => (match truD d with | some b => Qd b δ | none => False) | none => False) := q
    cases hi : rdS δ i with
    | none => rw [hi] at q; exact q.elim
    | some d =>
      rw [hi] at q
      obtain ⟨v, hv, r⟩ := rdS_ok S hi
      cases hb : truD d with
      | none => simp only [hb] at q
      | some b =>
        simp only [hb] at q
        exact ⟨v, hv, b, truD_ok S.ok r hb, k b H G δ S Step.refl q⟩
/-! ### values of and, or, not; if else -/
def dAndV (t u : TDE) : TDE := fun δ Q => t δ fun x δ1 => onBl x fun c => if c = true then u δ1 Q else Q (.bl false) δ1
def dOrV (t u : TDE) : TDE := fun δ Q => t δ fun x δ1 => onBl x fun c => if c = true then Q (.bl true) δ1 else u δ1 Q
def dNotV (t : TDE) : TDE := fun δ Q => t δ fun x δ1 => onBl x fun c => Q (.bl (!c)) δ1
theorem de_one {op} {a : Expr} {t : TDE} (h : DE X e a t) : DE X e (.BoolOp op [a] pos) t := pe_one h
theorem de_or {a b : Expr} {r : List Expr} {t u : TDE} (h : DE X e a t) (hr : DE X e (.BoolOp .Or (b :: r) pos) u) : DE X e (.BoolOp .Or (a :: b :: r) pos) (dOrV t u) :=
  pe_imp (pe_or h hr) fun σ H Q ⟨T, G, δ, Qd, S, q, k⟩ => ⟨T, G, δ, _, S, q, fun v d H1 G1 δ1 S1 st1 r1 q1 => by
    obtain ⟨c, rfl, q1⟩ := onBl_ok q1
    refine ⟨c, r1.blI, ?_⟩
    cases c with
    | false => exact iteF ⟨T, G1, δ1, Qd, S1, q1, fun v b H2 G2 δ2 S2 st2 r2 q2 => k v b H2 G2 δ2 S2 (st1.trans st2) r2 q2⟩
    | true => exact iteT (k _ _ H1 G1 δ1 S1 st1 (.bl true) q1)⟩
def dIf (t : TDT) (a b : TDE) : TDE := fun δ Q => t δ fun c δ1 => if c = true then a δ1 Q else b δ1 Q
theorem de_ifExp {c a b : Expr} {t : TDT} {ta tb : TDE} (hc : DT X e c t) (ha : DE X e a ta) (hb : DE X e b tb) : DE X e (.IfExp c a b pos) (dIf t ta tb) :=
  pe_imp (pe_ifExp hc ha hb) fun σ H Q ⟨T, G, δ, Qd, S, q, k⟩ => ⟨T, G, δ, _, S, q, fun c H1 G1 δ1 S1 st1 q1 => by
    cases c with
    | true => exact iteT ⟨T, G1, δ1, Qd, S1, q1, fun v b H2 G2 δ2 S2 st2 r2 q2 => k v b H2 G2 δ2 S2 (st1.trans st2) r2 q2⟩
    | false => exact iteF ⟨T, G1, δ1, Qd, S1, q1, fun v b H2 G2 δ2 S2 st2 r2 q2 => k v b H2 G2 δ2 S2 (st1.trans st2) r2 q2⟩⟩
/-! ### subscripts -/
def WIx (X : Cx) : R2 := fun x y H Q => ∀ (value slice : Expr) (pins : List (Addr × Obj)) (s : Shared) (σ : SSt) (v u : Value), Inv X pins σ H s → RelV x v → RelV y u → subscripted slice false v u = operate [v, u] (getItem v u) →
  wpAny (model X.prog X.w) X.A (subscriptTail value slice v u) (EP X pins σ Q) X.xe s
theorem wix_self : IxR X (WIx X) := fun value slice pins s σ H x y v u Q I rx ry h hs => h value slice pins s σ v u I rx ry hs
theorem wix_of {r : R2} (h : IxR X r) {x y : V} {H : Hp} {Q : VK} (q : r x y H Q) : WIx X x y H Q := fun value slice pins s σ v u I rx ry hs => h value slice pins s σ H x y v u Q I rx ry q hs
def keyD : D → Option Key
  | .int i => some (.inl i)
  | .str s => some (.inr s)
  | _ => none
def lookD {κ : Type} [DecidableEq κ] (l : List (κ × D)) (k : κ) : Option D := (l.find? fun p => decide (p.1 = k)).map (·.2)
theorem look_ok {K : PySem.W.Frag} {G : Gh} {κ : Type} [DecidableEq κ] (k : κ) : ∀ {kvs : List (κ × V)} {kds : List (κ × D)}, kvs.map (·.1) = kds.map (·.1) → RepL K G (kvs.map (·.2)) (kds.map (·.2)) →
    (lookD kds k = none ∧ valV kvs k = none) ∨ ∃ d v, lookD kds k = some d ∧ valV kvs k = some v ∧ Rep K G v d
  | [], [], _, _ => .inl ⟨rfl, rfl⟩
  | [], _ :: _, h, _ => by cases h
  | _ :: _, [], h, _ => by cases h
  | (k1, v1) :: r, (k2, d2) :: rd, h, q => by
    obtain ⟨h1, h2⟩ := List.cons.inj h
    have h1 : k1 = k2 := h1
    subst h1
    cases q with
    | cons q1 q2 =>
      by_cases z : k1 = k
      · subst z
        exact .inr ⟨d2, v1, by simp [lookD], by simp [valV], q1⟩
      · have e1 : lookD ((k1, d2) :: rd) k = lookD rd k := by simp [lookD, z]
        have e2 : valV ((k1, v1) :: r) k = valV r k := by simp [valV, z]
        rw [e1, e2]
        exact look_ok k h2 q2
theorem ix_dict (hu : X.A.units + 1 < cLine) : IxR X (fun x y H Q => ∃ a v, x = .ref a ∧ DGet H a y (some v) ∧ Q v H) := by
  intro value slice pins s σ H x y v u Q I rx ry h hs
  obtain ⟨a, v', ex, g, q⟩ := h
  subst ex
  obtain rfl : v = Value.ref a := rx
  have hT := dict_typeIs I g
  have h₂ : wpAny (model X.prog X.w) X.A (getItem (.ref a) u) (EP X pins σ Q) X.xe s := d_getItem hu I g ry fun w' s3 I3 rw' => ⟨v', H, I3, rw', q⟩
  unfold subscriptTail
  refine wpAny_bind ?_
  rw [getitemInPython_of_ne hT.not_modules]
  refine wpAny_bind (wpAny_specialOf hT PySem.F.slot_dict_getitem.lookup ?_)
  have fin : wpAny (model X.prog X.w) X.A (subscripted slice false (.ref a) u) (fun r s₃ => wpAny (model X.prog X.w) X.A (letTemporaryGo value (.ref a) r >>= fun _ => pure r) (EP X pins σ Q) X.xe s₃) X.xe s := by
    rw [hs]
    exact wpAny_operating (wpAny_mono h₂ (fun r s₃ h₃ => wpAny_bind (wpAny_letTemporaryGo (wpAny_pure h₃))) fun _ _ x => x)
  first
    | exact wpAny_pure (wpAny_bind fin)
    | exact wpAny_bind (wpAny_pure (wpAny_bind fin))
    | exact wpAny_bind fin
def ixD : D → D → (D → Prop) → Prop
  | .lst ds, .int i, Q => (match atI ds i with | some d => Q d | none => False)
  | .tup ds, .int i, Q => (match atI ds i with | some d => Q d | none => False)
  | .str s, .int i, Q => s.length ≤ sizeLine ∧ (match atI s.cps.toList i with | some c => Q (.str ⟨#[c]⟩) | none => False)
  | .dct kds, y, Q => (match keyD y with | some k => (match lookD kds k with | some d => Q d | none => False) | none => False)
  | _, _, _ => False
theorem atI_rep {K : PySem.W.Frag} {G : Gh} {vs : List V} {ds : List D} {i : Int} {d : D} (r : RepL K G vs ds) (h : atI ds i = some d) : ∃ v, atI vs i = some v ∧ Rep K G v d := by
  unfold atI at h ⊢
  rw [← r.length] at h
  cases q : ixN vs.length i with
  | none => rw [q] at h; cases h
  | some j =>
    rw [q] at h
    exact r.get h
theorem atI_mem {α : Type} {xs : List α} {i : Int} {v : α} (h : atI xs i = some v) : v ∈ xs := by
  obtain ⟨j, _, h2, _⟩ := atI_get h
  exact List.mem_of_getElem? h2
theorem key_v {K : PySem.W.Frag} {G : Gh} {H : Hp} {y : V} {d : D} {k : Key} (r : RdO K G H y d) (h : keyD d = some k) : y = kV k := by
  cases d with
  | int i => have := r.int; subst this; cases h; rfl
  | str s => obtain ⟨e1, _⟩ := r.str; subst e1; cases h; rfl
  | _ => cases h
theorem opd_ix {k0 : Nat} (hr : Room k0 X.A) : OpD X e (WIx X) ixD := by
  intro T G H σ δ x y a b Qd Q S ra rb q k
  cases a with
  | lst ds =>
    cases b with
    | int i =>
      have e2 := rb.int
      subst e2
      obtain ⟨p, vs, rfl, hp, r1⟩ := ra.lst S.ok
      have q : (match atI ds i with | some d => Qd d | none => False) := q
      cases h : atI ds i with
      | none => rw [h] at q; exact q.elim
      | some d =>
        rw [h] at q
        obtain ⟨v, hv, rv⟩ := atI_rep r1 h
        exact wix_of ix_list ⟨p, vs, i, v, rfl, rfl, .inl (.inl hp), hv, k v d H G S Step.refl rv q⟩
    | _ => exact False.elim q
  | tup ds =>
    cases b with
    | int i =>
      have e2 := rb.int
      subst e2
      obtain ⟨p, vs, rfl, hp, r1⟩ := ra.tup S.ok
      have q : (match atI ds i with | some d => Qd d | none => False) := q
      cases h : atI ds i with
      | none => rw [h] at q; exact q.elim
      | some d =>
        rw [h] at q
        obtain ⟨v, hv, rv⟩ := atI_rep r1 h
        exact wix_of ix_tup ⟨p, vs, i, v, rfl, rfl, hp, hv, k v d H G S Step.refl rv q⟩
    | _ => exact False.elim q
  | str s =>
    cases b with
    | int i =>
      have e2 := rb.int
      obtain ⟨e1, o1⟩ := ra.str
      subst e1 e2
      obtain ⟨hl, q⟩ := q
      cases h : atI s.cps.toList i with
      | none => rw [h] at q; exact q.elim
      | some c =>
        rw [h] at q
        exact wix_of ix_str ⟨s, i, c, rfl, rfl, hl, h, k _ _ H G S Step.refl (.str (sOk_one (o1 c (atI_mem h)))) q⟩
    | _ => exact False.elim q
  | dct kds =>
    have q : (match keyD b with | some k => (match lookD kds k with | some d => Qd d | none => False) | none => False) := q
    obtain ⟨p, kvs, rfl, hp, ee, r1⟩ := ra.dct S.ok
    cases hk : keyD b with
    | none => rw [hk] at q; exact q.elim
    | some kk =>
      rw [hk] at q
      have ey := key_v rb hk
      subst ey
      rcases look_ok kk ee r1 with ⟨h1, _⟩ | ⟨d, v, h1, h2, rv⟩
      · simp only [h1] at q
      · simp only [h1] at q
        exact wix_of (ix_dict (hu_of hr)) ⟨p, v, rfl, .inl ⟨kvs, kk, .inl hp, rfl, h2.symm⟩, k v d H G S Step.refl rv q⟩
  | _ => exact False.elim q
end
end T

namespace T
open PySem L2

structure DEnds where
  nx : DSt → Prop
  rt : D → DSt → Prop
  bk : DSt → Prop := fun _ => False
  ct : DSt → Prop := fun _ => False
abbrev TDS := DEnds → DSt → Prop
/-- the ends of a def: what it hands back -/
abbrev ends (Q : D → Prop) : DEnds := { nx := fun _ => Q .non, rt := fun d _ => Q d }
def Tm.nil : Tm := ⟨[], []⟩
def liftS (K : PySem.W.Frag) (e : Ent) (t : TDS) : TS := fun E σ H => ∃ (T : Tm) (G : Gh) (δ : DSt) (F : DEnds), SS K e T G H σ δ ∧ t F δ ∧
  (∀ σ' δ' G' H', Le G G' → SS K e T G' H' σ' δ' → F.nx δ' → E.nx σ' H') ∧
  (∀ v d σ' δ' G' H', SS K e T G' H' σ' δ' → Rep K G' v d → F.rt d δ' → E.rt v H') ∧
  (∀ σ' δ' G' H', Le G G' → SS K e T G' H' σ' δ' → F.bk δ' → E.bk σ' H') ∧
  (∀ σ' δ' G' H', Le G G' → SS K e T G' H' σ' δ' → F.ct δ' → E.ct σ' H')
def DS (X : Cx) (e : Ent) (st : Stmt) (t : TDS) : Prop := PS X st (liftS X.K e t)
def DSs (X : Cx) (e : Ent) (st : List Stmt) (t : TDS) : Prop := PSs X st (liftS X.K e t)
section
variable {X : Cx} {e : Ent} {pos : Pos}
def dNext : TDS := fun F δ => F.nx δ
def dSeq (t u : TDS) : TDS := fun F δ => t { F with nx := u F } δ
theorem dss_nil : DSs X e [] dNext := pss_imp pss_nil fun E σ H ⟨T, G, δ, F, S, q, n, r, b, c⟩ => n σ δ G H (Le.refl _) S q
theorem dss_cons {st : Stmt} {rest : List Stmt} {t u : TDS} (h : DS X e st t) (hr : DSs X e rest u) : DSs X e (st :: rest) (dSeq t u) :=
  pss_imp (pss_cons h hr) fun E σ H ⟨T, G, δ, F, S, q, n, r, b, c⟩ => ⟨T, G, δ, _, S, q, fun σ' δ' G' H' le S' q' => ⟨T, G', δ', F, S', q', fun a b' c' d' l2 => n a b' c' d' (le.trans l2), r, fun a b' c' d' l2 => b a b' c' d' (le.trans l2), fun a b' c' d' l2 => c a b' c' d' (le.trans l2)⟩, r, b, c⟩
theorem dss_one {st : Stmt} {t : TDS} (h : DS X e st t) : DSs X e [st] t := pss_one h
def dDrop (t : TDE) : TDS := fun F δ => t δ fun _ δ1 => F.nx δ1
theorem ds_expr {ex : Expr} {t : TDE} (h : DE X e ex t) (hs : swapsWith ex none pos.line X.env = pure false := by rfl) : DS X e (.Expr ex pos) (dDrop t) :=
  ps_imp (ps_expr h hs) fun E σ H ⟨T, G, δ, F, S, q, n, r, b, c⟩ => ⟨T, G, δ, _, S, q, fun v d H' G' δ' S' st rep q' => n σ δ' G' H' st.le S' q'⟩
def dRet (t : TDE) : TDS := fun F δ => t δ fun d δ1 => F.rt d δ1
theorem ds_ret {ex : Expr} {t : TDE} (h : DE X e ex t) : DS X e (.Return (some ex) pos) (dRet t) :=
  ps_imp (ps_ret h) fun E σ H ⟨T, G, δ, F, S, q, n, r, b, c⟩ => ⟨T, G, δ, _, S, q, fun v d H' G' δ' S' st rep q' => r v d σ δ' G' H' S' rep q'⟩
def dIfS (c : TDT) (t u : TDS) : TDS := fun F δ => c δ fun b δ1 => if b = true then t F δ1 else u F δ1
theorem ds_if {c : Expr} {a b : List Stmt} {tc : TDT} {t u : TDS} (hc : DT X e c tc) (ha : DSs X e a t) (hb : DSs X e b u) : DS X e (.If c a b pos) (dIfS tc t u) :=
  ps_imp (ps_if hc ha hb) fun E σ H ⟨T, G, δ, F, S, q, n, r, bk, ct⟩ => ⟨T, G, δ, _, S, q, fun k H' G' δ' S' st q' => by
    cases k with
    | true => exact iteT ⟨T, G', δ', F, S', q', fun a b' c' d' l2 => n a b' c' d' (st.le.trans l2), r, fun a b' c' d' l2 => bk a b' c' d' (st.le.trans l2), fun a b' c' d' l2 => ct a b' c' d' (st.le.trans l2)⟩
    | false => exact iteF ⟨T, G', δ', F, S', q', fun a b' c' d' l2 => n a b' c' d' (st.le.trans l2), r, fun a b' c' d' l2 => bk a b' c' d' (st.le.trans l2), fun a b' c' d' l2 => ct a b' c' d' (st.le.trans l2)⟩⟩
def dNever : TDS := fun _ _ => False
theorem ds_never {st : Stmt} : DS X e st dNever := ps_imp ps_never fun E σ H ⟨T, G, δ, F, S, q, _⟩ => q
def dAsg (t : TDE) (i : Nat) : TDS := fun F δ => t δ fun d δ1 => F.nx (δ1.set i (.im d))
def dAsgO (t : TDE) (i : Nat) : TDS := fun F δ => t δ fun d δ1 => F.nx (δ1.set i (.ow d))
theorem ds_set {i : Nat} {x : Str} {ex : Expr} {t : TDE} {pos' : Pos} (hN : X.N.Nodup) (hi : X.N[i]? = some x) (hx : Loc X.env.scope x) (h : DE X e ex t) (hs : swapsWith ex (some (.Name x pos')) pos.line X.env = pure false := by rfl)
    (hf : X.fn x = true ∨ X.env.scope.names.lookup x = some .local := by first | exact .inl rfl | exact .inr rfl | assumption) : DS X e (.Assign [.Name x pos'] ex pos) (dAsg t i) :=
  ps_imp (ps_set hN hi hx h hs hf) fun E σ H ⟨T, G, δ, F, S, q, n, r, b, c⟩ => ⟨T, G, δ, _, S, q, fun v d H' G' δ' S' st rep q' => n _ _ G' H' st.le (S'.asg rep) q'⟩
theorem ds_setO {i : Nat} {x : Str} {ex : Expr} {t : TDE} {pos' : Pos} (hN : X.N.Nodup) (hi : X.N[i]? = some x) (hx : Loc X.env.scope x) (h : DO X e ex t) (hs : swapsWith ex (some (.Name x pos')) pos.line X.env = pure false := by rfl)
    (hf : X.fn x = true ∨ X.env.scope.names.lookup x = some .local := by first | exact .inl rfl | exact .inr rfl | assumption) : DS X e (.Assign [.Name x pos'] ex pos) (dAsgO t i) :=
  ps_imp (ps_set hN hi hx h hs hf) fun E σ H ⟨T, G, δ, F, S, q, n, r, b, c⟩ => ⟨T, G, δ, _, S, q, fun l d H' G' δ' S' st m ap q' => n _ _ G' H' st.le (S'.asgO m ap) q'⟩
/-! ### targets -/
abbrev TDG := D → DSt → (DSt → Prop) → Prop
/-- σ' differs from σ at these slots alone -/
def Only1 (fp : List Nat) (σ σ' : St) : Prop := σ'.length = σ.length ∧ ∀ i, i ∉ fp → σ'[i]? = σ[i]?
theorem Only1.refl {fp : List Nat} {σ : St} : Only1 fp σ σ := ⟨rfl, fun _ _ => rfl⟩
theorem Only1.trans {fp fq : List Nat} {σ σ1 σ2 : St} (a : Only1 fp σ σ1) (b : Only1 fq σ1 σ2) : Only1 (fp ++ fq) σ σ2 :=
  ⟨b.1.trans a.1, fun i h => (b.2 i fun z => h (List.mem_append_right _ z)).trans (a.2 i fun z => h (List.mem_append_left _ z))⟩
def liftG (K : PySem.W.Frag) (e : Ent) (fp : List Nat) (t : TDG) : TG := fun v σ H Q => ∃ (T : Tm) (G : Gh) (δ : DSt) (d : D) (Qd : DSt → Prop), SS K e T G H σ δ ∧ Rep K G v d ∧ t d δ Qd ∧ ∀ σ' δ' G' H', SS K e T G' H' σ' δ' → Step e G H G' H' → Only1 fp σ σ' → Qd δ' → Q σ' H'
def DG (X : Cx) (e : Ent) (tg : Expr) (fp : List Nat) (t : TDG) : Prop := PG X tg (liftG X.K e fp t)
theorem pg_imp {tg : Expr} {t t' : TG} (h : PG X tg t) (k : ∀ v σ H Q, t' v σ H Q → t v σ H Q) : PG X tg t' := ⟨fun pins s σ H x v Q I r q => h.run pins s σ H x v Q I r (k x σ H Q q)⟩
def dgName (i : Nat) : TDG := fun d δ Q => Q (δ.set i (.im d))
theorem dg_name {i : Nat} {x : Str} (hN : X.N.Nodup) (hi : X.N[i]? = some x) (hx : Loc X.env.scope x) (hf : X.fn x = true ∨ X.env.scope.names.lookup x = some .local := by first | exact .inl rfl | exact .inr rfl | assumption) : DG X e (.Name x pos) [i] (dgName i) :=
  pg_imp (pg_name hN hi hx hf) fun v σ H Q ⟨T, G, δ, d, Qd, S, r, q, k⟩ => k _ _ G H (S.asg r) Step.refl ⟨List.length_set .., fun j hj => List.getElem?_set_ne (fun z => hj (by simp [z]))⟩ q
abbrev TDGs := List D → DSt → (DSt → Prop) → Prop
def liftGs (K : PySem.W.Frag) (e : Ent) (fp : List Nat) (t : TDGs) : TGs := fun vs σ H Q => ∃ (T : Tm) (G : Gh) (δ : DSt) (ds : List D) (Qd : DSt → Prop), SS K e T G H σ δ ∧ RepL K G vs ds ∧ t ds δ Qd ∧ ∀ σ' δ' G' H', SS K e T G' H' σ' δ' → Step e G H G' H' → Only1 fp σ σ' → Qd δ' → Q σ' H'
def DGs (X : Cx) (e : Ent) (ts : List Expr) (fp : List Nat) (t : TDGs) : Prop := PGs X ts (liftGs X.K e fp t)
theorem pgs_imp {tg : List Expr} {t t' : TGs} (h : PGs X tg t) (k : ∀ v σ H Q, t' v σ H Q → t v σ H Q) : PGs X tg t' := ⟨fun pins s σ H x v Q I r q => h.run pins s σ H x v Q I r (k x σ H Q q)⟩
def dgNil : TDGs := fun ds δ Q => match ds with | [] => Q δ | _ => False
def dgCons (t : TDG) (r : TDGs) : TDGs := fun ds δ Q => match ds with | d :: rest => t d δ fun δ1 => r rest δ1 Q | [] => False
theorem dgs_nil : DGs X e [] [] dgNil := pgs_imp pgs_nil fun vs σ H Q ⟨T, G, δ, ds, Qd, S, r, q, k⟩ => by
  cases r with
  | nil => exact ⟨rfl, k σ δ G H S Step.refl .refl q⟩
  | cons _ _ => exact False.elim q
theorem dgs_cons {ex : Expr} {es : List Expr} {t : TDG} {r : TDGs} {fp fq : List Nat} (h : DG X e ex fp t) (hr : DGs X e es fq r) (hs : (assignEach (ex :: es) X.env).map (·.2) = assign ex X.env :: (assignEach es X.env).map (·.2) := by rfl) : DGs X e (ex :: es) (fp ++ fq) (dgCons t r) := pgs_imp (pgs_cons h hr hs) fun vs σ H Q ⟨T, G, δ, ds, Qd, S, rl, q, k⟩ => by
  cases rl with
  | nil => exact False.elim q
  | cons r1 r2 => exact ⟨_, _, rfl, T, G, δ, _, _, S, r1, q, fun σ' δ' G' H' S' st o1 q' => ⟨T, G', δ', _, Qd, S', r2.mono st.le, q', fun σ2 δ2 G2 H2 S2 st2 o2 q2 => k σ2 δ2 G2 H2 S2 (st.trans st2) (o1.trans o2) q2⟩⟩
/-- a, b = a tuple, a list -/
def dgSeq (n : Nat) (t : TDGs) : TDG := fun d δ Q => match d with
  | .tup ds => ds.length = n ∧ t ds δ Q
  | .lst ds => ds.length = n ∧ t ds δ Q
  | _ => False
theorem dg_tup {es : List Expr} {k : Nat} {t : TDGs} {n : Nat} {fp : List Nat} (hc : X.calm = true) (h : DGs X e es fp t) (hn : (assignEach es X.env).length = n := by rfl) (hst : (assignEach es X.env).findIdx? (·.1) = none := by rfl) : DG X e (.Tuple es k pos) fp (dgSeq n t) := by
  refine ⟨fun pins s σ H v u Q I ru ⟨T, G, δ, d, Qd, S, r, q, k⟩ => ?_⟩
  cases d with
  | tup ds =>
    obtain ⟨p, vs, rfl, hp, rl⟩ := RdO.tup (.inl r) S.ok
    exact (pg_tup hc h hn hst).run pins s σ H _ u Q I ru ⟨p, vs, rfl, hp, by rw [rl.length]; exact q.1, T, G, δ, ds, Qd, S, rl, q.2, k⟩
  | lst ds =>
    obtain ⟨p, vs, rfl, hp, rl⟩ := RdO.lst (.inl r) S.ok
    exact (pg_lst hc h hn hst).run pins s σ H _ u Q I ru ⟨p, vs, rfl, .inl (.inl hp), by rw [rl.length]; exact q.1, T, G, δ, ds, Qd, S, rl, q.2, k⟩
  | _ => exact False.elim q
theorem ds_asg {tg ex : Expr} {t : TDE} {g : TDG} {fp : List Nat} (h : DE X e ex t) (hg : DG X e tg fp g) (hs : swapsWithSole [tg] ex pos.line X.env = pure false := by rfl) (hw : swappedStores [tg] ex X.env = pure none := by rfl) (h1 : (assignEach [tg] X.env).map (·.2) = [assign tg X.env] := by rfl) :
    DS X e (.Assign [tg] ex pos) (fun F δ => t δ fun d δ1 => g d δ1 F.nx) :=
  ps_imp (ps_asg h hg hs hw h1) fun E σ H ⟨T, G, δ, F, S, q, n, r, b, c⟩ => ⟨T, G, δ, _, S, q, fun v d H' G' δ' S' st rep q' => ⟨T, G', δ', d, F.nx, S', rep, q', fun σ2 δ2 G2 H2 S2 st2 _ q2 => n σ2 δ2 G2 H2 (st.le.trans st2.le) S2 q2⟩⟩
/-! ### loops -/
/-- an iterator gives these, whatever the body does -/
structure Yields (K : PySem.W.Frag) (e : Ent) (G1 : Gh) (J : It) (ds : List D) : Prop where
  go : ∀ (i : Nat) (T : Tm) (G' : Gh) (H' : Hp) (σ' : St) (δ' : DSt), Le G1 G' → SS K e T G' H' σ' δ' → i < ds.length → J.go i H'
  yld : ∀ (i : Nat) (T : Tm) (G' : Gh) (H' : Hp) (σ' : St) (δ' : DSt) (x : V) (H2 : Hp), Le G1 G' → SS K e T G' H' σ' δ' → i < ds.length → J.yld i H' x H2 → ∃ d G2, ds[i]? = some d ∧ SS K e T G2 H2 σ' δ' ∧ Step e G' H' G2 H2 ∧ Rep K G2 x d
  stop : ∀ (i : Nat) (T : Tm) (G' : Gh) (H' : Hp) (σ' : St) (δ' : DSt), Le G1 G' → SS K e T G' H' σ' δ' → ds.length ≤ i → J.stop i H'
def liftI (K : PySem.W.Frag) (e : Ent) (t : TDA) : TI := fun σ H R => ∃ (T : Tm) (G : Gh) (δ : DSt) (Qd : List D → DSt → Prop), SS K e T G H σ δ ∧ t δ Qd ∧
  ∀ J ds H1 G1 δ1, SS K e T G1 H1 σ δ1 → Step e G H G1 H1 → Yields K e G1 J ds → Qd ds δ1 → R J H1
def DI (X : Cx) (e : Ent) (tg iter : Expr) (t : TDA) : Prop := PI X tg iter (liftI X.K e t)
theorem pi_imp {tg iter : Expr} {t t' : TI} (h : PI X tg iter t) (k : ∀ σ H R, t' σ H R → t σ H R) : PI X tg iter t' := ⟨fun pins s σ H R I q => h.run pins s σ H R I (k σ H R q)⟩
theorem yields_list {K : PySem.W.Frag} {G : Gh} {p : Addr} {vs : List V} {ds : List D} (hp : SqL K G.I p vs) (r : RepL K G vs ds) : Yields K e G (Itl K p) ds where
  go := fun i T G' H' σ' δ' le S h => by
    have hl : i < vs.length := by rw [r.length]; exact h
    exact ⟨vs, vs[i], S.ok.sub.seq (le.I.seq hp), List.getElem?_eq_getElem hl⟩
  yld := fun i T G' H' σ' δ' x H2 le S h y => by
    obtain ⟨rfl, y⟩ := y
    obtain ⟨d, h1, h2⟩ := r.getV (y vs (S.ok.sub.seq (le.I.seq hp)))
    exact ⟨d, G', h1, S, Step.refl, h2.mono le⟩
  stop := fun i T G' H' σ' δ' le S h => ⟨vs, S.ok.sub.seq (le.I.seq hp), by rw [r.length]; exact h⟩
theorem yields_tup {K : PySem.W.Frag} {G : Gh} {p : Addr} {vs : List V} {ds : List D} (hp : SqT K G.I p vs) (r : RepL K G vs ds) : Yields K e G (Itt K p) ds where
  go := fun i T G' H' σ' δ' le S h => by
    have hl : i < vs.length := by rw [r.length]; exact h
    exact ⟨vs, vs[i], sqt_mono S.ok.sub (sqt_mono le.I hp), List.getElem?_eq_getElem hl⟩
  yld := fun i T G' H' σ' δ' x H2 le S h y => by
    obtain ⟨rfl, y⟩ := y
    obtain ⟨d, h1, h2⟩ := r.getV (y vs (sqt_mono S.ok.sub (sqt_mono le.I hp)))
    exact ⟨d, G', h1, S, Step.refl, h2.mono le⟩
  stop := fun i T G' H' σ' δ' le S h => ⟨vs, sqt_mono S.ok.sub (sqt_mono le.I hp), by rw [r.length]; exact h⟩
/-- over a list, over a tuple -/
def iSeq (t : TDE) : TDA := fun δ Q => t δ fun d δ1 => match d with | .lst ds => Q ds δ1 | .tup ds => Q ds δ1 | .scr ns => Q (ns.map D.int) δ1 | _ => False
theorem di_seq {tg l : Expr} {t : TDE} (h : DE X e l t) : DI X e tg l (iSeq t) := by
  refine ⟨fun pins s σ H R I ⟨T, G, δ, Qd, S, q, k⟩ => ?_⟩
  refine thn (h.run pins s σ H (fun x H1 => (∃ a, x = .ref a ∧ (∃ xs, SqL X.K H1 a xs) ∧ R (Itl X.K a) H1) ∨ ∃ a, x = .ref a ∧ (∃ xs, SqT X.K H1 a xs) ∧ R (Itt X.K a) H1) I ⟨T, G, δ, _, S, q, fun v d H' G' δ' S' st rep q' => ?_⟩) fun v s1 ⟨x, H1, I1, r1, q1⟩ => ?_
  · cases d with
    | lst ds =>
      cases rep with
      | lst hp r => exact .inl ⟨_, rfl, ⟨_, .inl (.inl (S'.ok.sub _ _ hp))⟩, k _ ds H' G' δ' S' st (yields_list (.inl (.inl hp)) r) q'⟩
    | scr ns =>
      cases rep with
      | scr hp => exact .inl ⟨_, rfl, ⟨_, S'.ok.sub.seq hp⟩, k _ (ns.map D.int) H' G' δ' S' st (yields_list hp (.ofInts ns)) q'⟩
    | tup ds =>
      cases rep with
      | tup hp r => exact .inr ⟨_, rfl, ⟨_, .inl (.inl (S'.ok.sub _ _ hp))⟩, k _ ds H' G' δ' S' st (yields_tup (.inl (.inl hp)) r) q'⟩
    | _ => exact False.elim q'
  · rcases q1 with ⟨a, e1, ⟨xs, hq⟩, q2⟩ | ⟨a, e1, ⟨xs, hq⟩, q2⟩
    · subst e1
      cases r1
      obtain ⟨its, rv, p, hz⟩ := I1.list hq
      refine wpAny_pyIter_list p.isList ?_
      refine ⟨s1.heap.objs.size, [s1.heap.objs.size], _, _, H1, rfl, I1.kept (t' := s1.toks) fun b o e => Heap.get?_push_of_some _ e, turn_list a _, ⟨_, Heap.get?_push_size _ rfl, rfl, rfl⟩, fun b hb => ?_, q2⟩
      have e : b = s1.heap.objs.size := by simpa using hb
      subst e
      exact I1.fpOk (Nat.le_refl _) (I1.hok.fresh (Nat.le_refl _))
    · subst e1
      cases r1
      obtain ⟨its, rv, p, hz⟩ := I1.tuple hq
      refine wpAny_pyIter_tuple (show s1.heap.IsTuple a its.toArray from p) ?_
      refine ⟨s1.heap.objs.size, [s1.heap.objs.size], _, _, H1, rfl, I1.kept (t' := s1.toks) fun b o e => Heap.get?_push_of_some _ e, turn_tuple a _, ⟨_, Heap.get?_push_size _ rfl, rfl, rfl⟩, fun b hb => ?_, q2⟩
      have e : b = s1.heap.objs.size := by simpa using hb
      subst e
      exact I1.fpOk (Nat.le_refl _) (I1.hok.fresh (Nat.le_refl _))
def rngD (lo : Int) (n : Nat) : List D := (List.range n).map fun i : Nat => D.int (lo + (i : Int))
theorem rngD_get {lo : Int} {n i : Nat} (h : i < n) : (rngD lo n)[i]? = some (.int (lo + (i : Int))) := by simp [rngD, h]
theorem rngD_len {lo : Int} {n : Nat} : (rngD lo n).length = n := by simp [rngD]
theorem yields_range {K : PySem.W.Frag} {G : Gh} {lo : Int} {n : Nat} : Yields K e G (Itr lo n) (rngD lo n) where
  go := fun i T G' H' σ' δ' le S h => by rw [rngD_len] at h; exact h
  yld := fun i T G' H' σ' δ' x H2 le S h y => by
    obtain ⟨rfl, rfl⟩ := y
    rw [rngD_len] at h
    exact ⟨_, G', rngD_get h, S, Step.refl, .int _⟩
  stop := fun i T G' H' σ' δ' le S h => by rw [rngD_len] at h; exact h
def iRange1 (t : TDE) : TDA := fun δ Q => t δ fun d δ1 => match d with | .int j => (-(2 ^ 62) ≤ j ∧ j < 2 ^ 62) ∧ Q (rngD 0 j.toNat) δ1 | _ => False
theorem di_range1 {tg a : Expr} {t : TDE} {p : Pos} (hg : Gl X "range") (hm : X.mg "range" = none) (h : DE X e a t) (hs : starEach [a] X.env = [(false, eval a X.env)] := by rfl) : DI X e tg (.Call (.Name "range" p) [a] [] pos) (iRange1 t) :=
  pi_imp (pi_range1 hg hm (pa_cons h pa_nil hs) hs) fun σ H R ⟨T, G, δ, Qd, S, q, k⟩ => ⟨T, G, δ, _, S, q, fun v d H' G' δ' S' st rep q' => by
    cases d with
    | int j =>
      have := rep.intI
      subst this
      exact ⟨j, rfl, q'.1.1, q'.1.2, k _ _ H' G' δ' S' st yields_range q'.2⟩
    | _ => exact False.elim q'⟩
def iRange2 (t u : TDE) : TDA := fun δ Q => t δ fun d δ1 => u δ1 fun d2 δ2 => match d, d2 with | .int i, .int j => (-(2 ^ 62) ≤ i ∧ i < 2 ^ 62 ∧ -(2 ^ 62) ≤ j ∧ j < 2 ^ 62) ∧ Q (rngD i (j - i).toNat) δ2 | _, _ => False
theorem di_range2 {tg a b : Expr} {t u : TDE} {p : Pos} (hg : Gl X "range") (hm : X.mg "range" = none) (h : DE X e a t) (h2 : DE X e b u) (hs : starEach [a, b] X.env = [(false, eval a X.env), (false, eval b X.env)] := by rfl) (hs2 : starEach [b] X.env = [(false, eval b X.env)] := by rfl) :
    DI X e tg (.Call (.Name "range" p) [a, b] [] pos) (iRange2 t u) :=
  pi_imp (pi_range2 hg hm (pa_cons h (pa_cons h2 pa_nil hs2) (by rw [hs, hs2])) hs hs2) fun σ H R ⟨T, G, δ, Qd, S, q, k⟩ => ⟨T, G, δ, _, S, q, fun v d H' G' δ' S' st rep q' => ⟨T, G', δ', _, S', q', fun v2 d2 H2 G2 δ2 S2 st2 rep2 q2 => by
    cases d with
    | int i =>
      cases d2 with
      | int j =>
        have e1 := rep.intI
        have e2 := rep2.intI
        subst e1 e2
        exact ⟨i, j, rfl, q2.1, k _ _ H2 G2 δ2 S2 (st.trans st2) yields_range q2.2⟩
      | _ => exact False.elim q2
    | _ => exact False.elim q2⟩⟩
/-- for i, x in enumerate(a list) -/
def enumD (ds : List D) : List D := (List.range ds.length).map fun i : Nat => D.tup [.int (i : Int), ds.getD i .non]
theorem enumD_len {ds : List D} : (enumD ds).length = ds.length := by simp [enumD]
theorem enumD_get {ds : List D} {i : Nat} {d : D} (h : ds[i]? = some d) : (enumD ds)[i]? = some (.tup [.int (i : Int), d]) := by
  have hi := lt_of_get h
  have e1 : ds.getD i .non = d := by rw [List.getD_eq_getElem?_getD, h]; rfl
  rw [List.getD_eq_getElem?_getD] at e1
  simp only [enumD, List.getElem?_map, List.getElem?_range hi, Option.map_some, List.getD_eq_getElem?_getD, e1]
theorem yields_enum {K : PySem.W.Frag} {G : Gh} {p : Addr} {vs : List V} {ds : List D} (hp : SqL K G.I p vs) (r : RepL K G vs ds) : Yields K e G (Ite K p) (enumD ds) where
  go := fun i T G' H' σ' δ' le S h => by
    rw [enumD_len] at h
    have hl : i < vs.length := by rw [r.length]; exact h
    exact ⟨vs, vs[i], S.ok.sub.seq (le.I.seq hp), List.getElem?_eq_getElem hl⟩
  yld := fun i T G' H' σ' δ' x H2 le S h y => by
    obtain ⟨t, x', rfl, ht, rfl, y⟩ := y
    obtain ⟨d, h1, h2⟩ := r.getV (y vs (S.ok.sub.seq (le.I.seq hp)))
    obtain ⟨G2, S2, st2, rep⟩ := S.newTup (vs := [.int (i : Nat), x']) (ds := [.int (i : Int), d]) (.cons (.int _) (.one (h2.mono le))) ht
    exact ⟨_, G2, enumD_get h1, S2, st2, rep⟩
  stop := fun i T G' H' σ' δ' le S h => ⟨vs, S.ok.sub.seq (le.I.seq hp), by rw [r.length]; rw [enumD_len] at h; exact h⟩
/-- the loop, by its invariant -/
def dFor (w : TDA) (g : TDG) (tb : TDS) : TDS := fun F δ => w δ fun ds δ1 => ∃ Inv : Nat → DSt → Prop, Inv 0 δ1 ∧
  (∀ i d δ', ds[i]? = some d → Inv i δ' → g d δ' fun δ2 => tb { F with nx := Inv (i + 1), ct := Inv (i + 1), bk := F.nx } δ2) ∧ ∀ δ', Inv ds.length δ' → F.nx δ'
theorem ds_for {tg iter : Expr} {body : List Stmt} {w : TDA} {g : TDG} {tb : TDS} {fp : List Nat} (hp : PassesOwn (model X.prog X.w) X.A X.env X.xe) (hc : X.calm = true) (hi : DI X e tg iter w) (hg : DG X e tg fp g) (hb : DSs X e body tb)
    (hs : ∀ x, foldedSetIterable iter X.env x = pure x := by intro _; rfl) : DS X e (.For tg iter body [] pos) (dFor w g tb) :=
  ps_imp (ps_for hp hc hi hg hb hs) fun E σ H ⟨T, G, δ, F, S, q, n, r, b, c⟩ => by
    refine ⟨T, G, δ, _, S, q, fun J ds H1 G1 δ1 S1 st1 Y ⟨Iv, h0, hs, hd⟩ => ?_⟩
    refine ⟨fun i m σ H => m = ds.length - i ∧ i ≤ ds.length ∧ ∃ G δ, Le G1 G ∧ SS X.K e T G H σ δ ∧ Iv i δ, ⟨ds.length, by simp, Nat.zero_le _, G1, δ1, Le.refl _, S1, h0⟩, ?_⟩
    rintro i m σ2 H2 ⟨rfl, hi, G2, δ2, le2, S2, iv⟩
    by_cases hlt : i < ds.length
    · refine .inr ⟨Y.go i _ G2 H2 σ2 δ2 le2 S2 hlt, fun σ' H' => ∃ G δ, Le G1 G ∧ SS X.K e T G H' σ' δ ∧ Iv (i + 1) δ, fun σ' H' ⟨G', δ', l', S', iv'⟩ => ⟨ds.length - (i + 1), by omega, rfl, hlt, G', δ', l', S', iv'⟩, fun x H' y => ?_⟩
      obtain ⟨d, G3, hd', S3, st3, rep⟩ := Y.yld i _ G2 H2 σ2 δ2 x H' le2 S2 hlt y
      refine ⟨T, G3, δ2, d, _, S3, rep, hs i d δ2 hd' iv, fun σ4 δ4 G4 H4 S4 st4 _ q4 => ?_⟩
      have le4 : Le G1 G4 := le2.trans (st3.le.trans st4.le)
      exact ⟨T, G4, δ4, _, S4, q4, fun σ5 δ5 G5 H5 le5 S5 q5 => ⟨G5, δ5, le4.trans le5, S5, q5⟩, r, fun σ5 δ5 G5 H5 le5 S5 q5 => n σ5 δ5 G5 H5 ((st1.le.trans le4).trans le5) S5 q5, fun σ5 δ5 G5 H5 le5 S5 q5 => ⟨G5, δ5, le4.trans le5, S5, q5⟩⟩
    · have e1 : i = ds.length := by omega
      subst e1
      exact .inl ⟨Y.stop _ _ G2 H2 σ2 δ2 le2 S2 (Nat.le_refl _), n σ2 δ2 G2 H2 (st1.le.trans le2) S2 (hd δ2 iv)⟩
def dWhile (c : TDT) (tb : TDS) : TDS := fun F δ => ∃ (P : DSt → Prop) (μ : DSt → Nat), P δ ∧ ∀ δ, P δ → c δ fun b δ1 => if b = true then tb { F with nx := fun δ' => P δ' ∧ μ δ' < μ δ, ct := fun δ' => P δ' ∧ μ δ' < μ δ, bk := F.nx } δ1 else F.nx δ1
theorem ds_while {c : Expr} {body : List Stmt} {tc : TDT} {tb : TDS} (hp : PassesOwn (model X.prog X.w) X.A X.env X.xe) (hc : DT X e c tc) (hb : DSs X e body tb) : DS X e (.While c body [] pos) (dWhile tc tb) :=
  ps_imp (ps_while hp hc hb) fun E σ H ⟨T, G, δ, F, S, ⟨P, μ, h0, hs⟩, n, r, b, c⟩ => by
    refine ⟨fun m σ H => ∃ G' δ', Le G G' ∧ SS X.K e T G' H σ δ' ∧ P δ' ∧ m = μ δ', ⟨_, G, δ, Le.refl _, S, h0, rfl⟩, ?_⟩
    rintro m σ2 H2 ⟨G2, δ2, le2, S2, p2, rfl⟩
    refine ⟨T, G2, δ2, _, S2, hs δ2 p2, fun k H3 G3 δ3 S3 st3 q3 => ?_⟩
    cases k with
    | false =>
      rw [if_neg Bool.false_ne_true] at q3 ⊢
      exact n σ2 δ3 G3 H3 (le2.trans st3.le) S3 q3
    | true =>
      rw [if_pos rfl] at q3 ⊢
      have le3 := le2.trans st3.le
      refine ⟨fun σ' H' => ∃ G' δ', Le G G' ∧ SS X.K e T G' H' σ' δ' ∧ P δ' ∧ μ δ' < μ δ2, fun σ' H' ⟨G', δ', l', S', p', lt⟩ => ⟨_, lt, G', δ', l', S', p', rfl⟩, ?_⟩
      exact ⟨T, G3, δ3, _, S3, q3, fun σ5 δ5 G5 H5 le5 S5 q5 => ⟨G5, δ5, le3.trans le5, S5, q5⟩, r, fun σ5 δ5 G5 H5 le5 S5 q5 => n σ5 δ5 G5 H5 (le3.trans le5) S5 q5, fun σ5 δ5 G5 H5 le5 S5 q5 => ⟨G5, δ5, le3.trans le5, S5, q5⟩⟩
end
end T

namespace T
open PySem L2

section
variable {X : Cx} {e : Ent} {pos : Pos}
/-! ### defs: promises over data -/
abbrev SpD := List D → (D → Prop) → Prop
def toSp (K : PySem.W.Frag) (sd : SpD) : Sp := fun vs H Q _ => ∃ (G : Gh) (ds : List D) (Qd : D → Prop), GOk G H ∧ RepL K G vs ds ∧ sd ds Qd ∧ ∀ d v G' H', GOk G' H' → Step ⟨G, H⟩ G H G' H' → Rep K G' v d → Qd d → Q v H'
/-- behind a call -/
theorem SS.after {K : PySem.W.Frag} {T : Tm} {G G' : Gh} {H H' : Hp} {σ : St} {δ : DSt} (S : SS K e T G H σ δ) (ok : GOk G' H') (c : Step ⟨G, H⟩ G H G' H') : SS K e T G' H' σ δ ∧ Step e G H G' H' := by
  have hs : ∀ a, (e.H a).isSome = true → (H a).isSome = true := fun a h => S.stp.dom a h h
  have st : Step e G H G' H' := ⟨c.le, fun a h n => c.old a (hs a h) (S.stp.noB a h n), fun a h n => c.noI a (hs a h) n, fun a h n => c.noB a (hs a h) n, fun a h q => c.dom a (hs a h) q⟩
  refine ⟨⟨S.ln, ok, S.stp.trans st, S.s.len, fun i s h => ?_, S.s.sep⟩, st⟩
  obtain ⟨x, hx, q⟩ := S.s.sl i s h
  refine ⟨x, hx, ?_⟩
  cases s with
  | no => trivial
  | im d => obtain ⟨v, e1, r⟩ := q; exact ⟨v, e1, r.mono c.le⟩
  | ow d =>
    obtain ⟨l, e1, m⟩ := q
    obtain ⟨o, ho⟩ := m.obj
    have hl : (H l).isSome = true := by rw [ho]; rfl
    exact ⟨l, e1, m.own.mono c.le (c.old l hl m.nB), c.noI l hl m.nI, c.noB l hl m.nB, m.new⟩
def dCall (sd : SpD) (t : TDA) : TDE := fun δ Q => t δ fun ds δ1 => sd ds fun d => Q d δ1
def startD (n : Nat) (ds : List D) : DSt := ds.map Sl.im ++ List.replicate (n - ds.length) .no
theorem start_ss {K : PySem.W.Frag} {G : Gh} {H : Hp} {vs : List V} {ds : List D} {N : List Str} (ok : GOk G H) (r : RepL K G vs ds) : SS K ⟨G, H⟩ .nil G H (L2.start N vs) (startD N.length ds) := by
  have hl := r.length
  have e1 : (startD N.length ds).length = (L2.start N vs).length := by
    simp only [startD, L2.start, List.length_append, List.length_map, List.length_replicate]
    omega
  refine ⟨e1, ok, Step.refl, ?_, fun i s h => ?_, fun i j di dj l hij h => ?_⟩
  · simp only [Tm.nil, List.append_nil]; exact e1.symm
  · simp only [Tm.nil, List.append_nil] at h ⊢
    by_cases hi : i < ds.length
    · unfold startD at h
      rw [List.getElem?_append_left (by simpa using hi), List.getElem?_map] at h
      cases hd : ds[i]? with
      | none => rw [hd] at h; cases h
      | some d =>
        rw [hd] at h
        obtain ⟨v, hv, rv⟩ := r.get hd
        have e2 : s = .im d := (Option.some.inj h).symm
        subst e2
        refine ⟨some v, ?_, v, rfl, rv⟩
        unfold L2.start
        rw [List.getElem?_append_left (by simp; omega), List.getElem?_map, hv]
        rfl
    · have h1 := lt_of_get h
      rw [e1] at h1
      refine ⟨_, List.getElem?_eq_getElem h1, ?_⟩
      unfold startD at h
      rw [List.getElem?_append_right (by simp; omega)] at h
      have e2 : s = .no := by
        have := List.mem_of_getElem? h
        exact (List.mem_replicate.mp this).2
      subst e2
      trivial
  · simp only [Tm.nil, List.append_nil] at h
    exfalso
    unfold startD at h
    have hm := List.mem_of_getElem? h
    rcases List.mem_append.mp hm with hm | hm
    · obtain ⟨d, _, q⟩ := List.mem_map.mp hm
      cases q
    · exact nomatch (List.mem_replicate.mp hm).2
/-- the context of a def's body -/
abbrev cxF (P : Program) (w : World) (K : PySem.W.Frag) (mg : Str → Option Value) (base : Heap) (N : List Str) (qual : Str) (scope : Scope) (f : Addr) (cdv : Value) (A : Around) (outer : List Env) (s : Shared) (H : Hp) (E : XK) : Cx :=
  (cxOf CX0 P w K mg base N qual scope f cdv A outer s H E).nox
/-- THE RULE for a def -/
theorem fn_d {P : Program} {w : World} {K : PySem.W.Frag} {mg : Str → Option Value} {base : Heap} {x qual : Str} {params : Arguments} {body : List Stmt} {scope : Scope} {dvs : List V} {kws : List (Str × V)} {f : Addr} {fd : FuncData} {N ps : List Str} {k : Nat} {sd : SpD} {t : TDS}
    (F : FunD K x qual params body scope dvs kws f fd) (S : FnScope N ps scope) (len : ∀ ds Q, sd ds Q → ds.length = ps.length)
    (hb : ∀ (cdv : Value) (A : Around) (outer : List Env) (s : Shared) (H : Hp) (E : XK) (e : Ent), Room k (A.deeper (PyProof.Rows.envOfC qual scope s.heap.objs.size f cdv)) → DSs (cxF P w K mg base N qual scope f cdv A outer s H E) e body t)
    (hp : ∀ ds Q, sd ds Q → t (ends Q) (startD N.length ds)) : FnOk P w K mg base CX0 (k + 1) f fd ps (toSp K sd) := by
  refine F.ok S (fun vs H Q E h => ?_) (fun cdv A outer s H vs Q E hr h => ?_)
  · obtain ⟨G, ds, Qd, ok, r, q, _⟩ := h
    rw [r.length]
    exact len ds Qd q
  · obtain ⟨G, ds, Qd, ok, r, q, kk⟩ := h
    refine ⟨_, PSs.nox (hb cdv A outer s H E ⟨G, H⟩ hr), .nil, G, startD N.length ds, _, start_ss ok r, hp ds Qd q, fun σ' δ' G' H' le S' q' => ?_, fun v d σ' δ' G' H' S' rep q' => kk d v G' H' S'.ok S'.stp rep q', fun _ _ _ _ _ _ q' => q'.elim, fun _ _ _ _ _ _ q' => q'.elim⟩
    exact kk .non .non G' H' S'.ok S'.stp .non q'
/-! ### slices -/
abbrev TDO := DSt → (Option Int → DSt → Prop) → Prop
def liftP (K : PySem.W.Frag) (e : Ent) (t : TDO) : TO := fun σ H Q => ∃ (T : Tm) (G : Gh) (δ : DSt) (Qd : Option Int → DSt → Prop), SS K e T G H σ δ ∧ t δ Qd ∧ ∀ o H' G' δ', SS K e T G' H' σ δ' → Step e G H G' H' → Qd o δ' → Q o H'
def DP (X : Cx) (e : Ent) (o : Option Expr) (t : TDO) : Prop := PO X o (liftP X.K e t)
theorem po_imp {o : Option Expr} {t t' : TO} (h : PO X o t) (k : ∀ σ H Q, t' σ H Q → t σ H Q) : PO X o t' := ⟨fun pins s σ H Q I q => h.run pins s σ H Q I (k σ H Q q)⟩
def dP0 : TDO := fun δ Q => Q none δ
def dP1 (t : TDE) : TDO := fun δ Q => t δ fun d δ1 => match d with | .int i => Q (some i) δ1 | _ => False
theorem dp_none : DP X e none dP0 := po_imp po_none fun σ H Q ⟨T, G, δ, Qd, S, q, k⟩ => k none H G δ S Step.refl q
theorem dp_some {a : Expr} {t : TDE} (h : DE X e a t) : DP X e (some a) (dP1 t) := po_imp (po_some h) fun σ H Q ⟨T, G, δ, Qd, S, q, k⟩ => ⟨T, G, δ, _, S, q, fun v d H' G' δ' S' st rep q' => by
  cases d with
  | int i => exact ⟨i, rep.intI, k _ H' G' δ' S' st q'⟩
  | _ => exact False.elim q'⟩
def cutL {α : Type} (xs : List α) (lo hi : Option Int) : List α := (xs.drop (HT.sIx xs.length 0 lo)).take (HT.sIx xs.length xs.length hi - HT.sIx xs.length 0 lo)
theorem cutV_eq (xs : List V) (lo hi : Option Int) : cutV xs lo hi = cutL xs lo hi := rfl
theorem cutL_rep {K : PySem.W.Frag} {G : Gh} {vs : List V} {ds : List D} (r : RepL K G vs ds) (lo hi : Option Int) : RepL K G (cutL vs lo hi) (cutL ds lo hi) := by
  unfold cutL
  rw [r.length]
  exact (r.drop _).take _
theorem cutL_whole {α : Type} {xs : List α} {lo hi : Option Int} (h : HT.sIx xs.length 0 lo = 0 ∧ HT.sIx xs.length xs.length hi = xs.length) : cutL xs lo hi = xs := by
  unfold cutL
  rw [h.1, h.2]
  simp
theorem cutL_map {α β : Type} (f : α → β) (xs : List α) (lo hi : Option Int) : cutL (xs.map f) lo hi = (cutL xs lo hi).map f := by
  unfold cutL
  rw [List.length_map, List.map_take, List.map_drop]
def slD : D → Option Int → Option Int → (D → Prop) → Prop
  | .lst ds, lo, hi, Q => Q (.lst (cutL ds lo hi))
  | .tup ds, lo, hi, Q => Q (.tup (cutL ds lo hi))
  | .str s, lo, hi, Q => s.length ≤ sizeLine ∧ Q (.str (cutS s lo hi))
  | .scr ns, lo, hi, Q => Q (.lst ((cutL ns lo hi).map D.int))
  | _, _, _, _ => False
theorem sl_any : SlR X (fun x lo hi H Q => (rSlL X.K x lo hi H Q ∨ rSlA X.K x lo hi H Q) ∨ rSlS x lo hi H Q) := SlR.or (SlR.or sl_list sl_tupA) sl_str
theorem slD_ok {T : Tm} {G : Gh} {H : Hp} {σ : St} {δ : DSt} {x : V} {a : D} {lo hi : Option Int} {Qd : D → Prop} {Q : VK} (S : SS X.K e T G H σ δ) (ra : RdO X.K G H x a) (q : slD a lo hi Qd)
    (k : ∀ v d H' G', SS X.K e T G' H' σ δ → Step e G H G' H' → Rep X.K G' v d → Qd d → Q v H') : (rSlL X.K x lo hi H Q ∨ rSlA X.K x lo hi H Q) ∨ rSlS x lo hi H Q := by
  cases a with
  | lst ds =>
    obtain ⟨p, vs, rfl, hp, r⟩ := ra.lst S.ok
    refine .inl (.inl ⟨p, vs, rfl, .inl (.inl hp), fun l hl => ?_⟩)
    obtain ⟨S2, st2, nI, nB, new, ap⟩ := S.new (o := .lst (cutV vs lo hi)) hl
    obtain ⟨G3, S3, st3, rep⟩ := S2.freeze (l := l) (d := .lst (cutL ds lo hi)) ⟨⟨_, upd_same, cutL_rep r lo hi⟩, nI, nB, new⟩ ap
    exact k _ _ _ G3 S3 (st2.trans st3) rep q
  | scr ns =>
    obtain ⟨p, rfl, hp⟩ := ra.scr S.ok
    refine .inl (.inl ⟨p, _, rfl, hp, fun l hl => ?_⟩)
    rw [cutV_eq, cutL_map]
    obtain ⟨S2, st2, nI, nB, new, ap⟩ := S.new (o := .lst ((cutL ns lo hi).map V.int)) hl
    obtain ⟨G3, S3, st3, rep⟩ := S2.freeze (l := l) (d := .lst ((cutL ns lo hi).map D.int)) ⟨⟨_, upd_same, .ofInts _⟩, nI, nB, new⟩ ap
    exact k _ _ _ G3 S3 (st2.trans st3) rep q
  | tup ds =>
    have ra' := ra
    obtain ⟨p, vs, rfl, hp, r⟩ := ra.tup S.ok
    have hl := r.length
    refine .inl (.inr ⟨p, vs, rfl, hp, fun hw => ?_, fun hw l hl => ?_⟩)
    · rcases ra' with rep | ⟨_, _, z⟩
      · refine k _ _ H G S Step.refl rep ?_
        rw [hl] at hw
        have q : Qd (.tup (cutL ds lo hi)) := q
        rw [cutL_whole hw] at q
        exact q
      · exact z.elim
    · obtain ⟨G2, S2, st2, rep⟩ := S.newTup (cutL_rep r lo hi) hl
      exact k _ _ _ G2 S2 st2 rep q
  | str s =>
    obtain ⟨e1, o1⟩ := ra.str
    subst e1
    exact .inr ⟨s, rfl, q.1, k _ _ H G S Step.refl (.str (sOk_cut o1 lo hi)) q.2⟩
  | _ => exact False.elim q
def dSl (A : Opn) (tl th : TDO) : TDE := fun δ Q => match A with
  | .ex t => t δ fun d δ1 => tl δ1 fun lo δ2 => th δ2 fun hi δ3 => slD d lo hi fun z => Q z δ3
  | .sl i => (rdS δ i).isSome = true ∧ tl δ fun lo δ2 => th δ2 fun hi δ3 => match rdS δ3 i with | some d => slD d lo hi fun z => Q z δ3 | none => False
theorem de_slice {a : Expr} {A : Opn} {lo hi : Option Expr} {tl th : TDO} {p2 : Pos} (ha : OPN X e a A) (hl : DP X e lo tl) (hh : DP X e hi th) : DE X e (.Subscript a (.Slice lo hi none p2) pos) (dSl A tl th) := by
  cases A with
  | ex t =>
    refine pe_imp (pe_slice sl_any ha hl hh) fun σ H Q ⟨T, G, δ, Qd, S, q, k⟩ => ?_
    refine ⟨T, G, δ, _, S, q, fun v d H1 G1 δ1 S1 st1 r q1 => ⟨T, G1, δ1, _, S1, q1, fun lo H2 G2 δ2 S2 st2 q2 => ⟨T, G2, δ2, _, S2, q2, fun hi H3 G3 δ3 S3 st3 q3 => ?_⟩⟩⟩
    exact slD_ok S3 (.inl (r.mono (st2.le.trans st3.le))) q3 fun v d H' G' S' st rep qd => k v d H' G' δ3 S' ((st1.trans st2).trans (st3.trans st)) rep qd
  | sl i =>
    refine pe_imp (pe_slice sl_any ha hl hh) fun σ H Q ⟨T, G, δ, Qd, S, ⟨hi, q⟩, k⟩ => ?_
    obtain ⟨d0, h0⟩ := Option.isSome_iff_exists.mp hi
    obtain ⟨v, hv, _⟩ := rdS_ok S h0
    refine ⟨v, hv, T, G, δ, _, S, q, fun lo H2 G2 δ2 S2 st2 q2 => ⟨T, G2, δ2, _, S2, q2, fun hi H3 G3 δ3 S3 st3 q3 => ?_⟩⟩
    cases hd : rdS δ3 i with
    | none => rw [hd] at q3; exact q3.elim
    | some d =>
      rw [hd] at q3
      obtain ⟨v', hv', r⟩ := rdS_ok S3 hd
      rw [hv] at hv'
      cases hv'
      exact slD_ok S3 r q3 fun v d H' G' S' st rep qd => k v d H' G' δ3 S' (st2.trans (st3.trans st)) rep qd
/-! ### built-in functions -/
/-- one operand -/
def dOne (A : Opn) (k : D → DSt → Prop) : DSt → Prop := fun δ => match A with
  | .ex t => t δ fun d δ1 => k d δ1
  | .sl i => match rdS δ i with | some d => k d δ | none => False
theorem one_ok {a ex : Expr} {A : Opn} (ha : OPN X e a A) {f : TE → TE} {r : V → Hp → VK → Prop} (hf : ∀ ta, PE X a ta → PE X ex (f ta)) (ef : ∀ ta σ H Q, (ta σ H fun x H1 => r x H1 Q) → f ta σ H Q)
    {g : D → (D → Prop) → Prop} (ho : ∀ (T : Tm) (G : Gh) (H : Hp) (σ : St) (δ : DSt) (x : V) (a : D) (Qd : D → Prop) (Q : VK), SS X.K e T G H σ δ → RdO X.K G H x a → g a Qd → (∀ v d H' G', SS X.K e T G' H' σ δ → Step e G H G' H' → Rep X.K G' v d → Qd d → Q v H') → r x H Q) :
    DE X e ex (fun δ Q => dOne A (fun d δ1 => g d fun z => Q z δ1) δ) := by
  cases A with
  | ex t =>
    refine pe_imp (hf _ ha) fun σ H Q ⟨T, G, δ, Qd, S, q, k⟩ => ef _ _ _ _ ?_
    exact ⟨T, G, δ, _, S, q, fun v d H1 G1 δ1 S1 st1 rd q1 => ho T G1 H1 σ δ1 v d _ Q S1 (.inl rd) q1 fun v d H' G' S' st' rep qd => k v d H' G' δ1 S' (st1.trans st') rep qd⟩
  | sl i =>
    refine pe_imp (hf _ ha) fun σ H Q ⟨T, G, δ, Qd, S, q, k⟩ => ef _ _ _ _ ?_
    have q : (match rdS δ i with | some d => g d (fun z => Qd z δ) | none => False) := q
    cases hi : rdS δ i with
    | none => rw [hi] at q; exact q.elim
    | some d =>
      rw [hi] at q
      obtain ⟨v, hv, rd⟩ := rdS_ok S hi
      exact ⟨v, hv, ho T G H σ δ v d _ Q S rd q fun v d H' G' S' st' rep qd => k v d H' G' δ S' st' rep qd⟩
def dB1 (g : D → (D → Prop) → Prop) (A : Opn) : TDE := fun δ Q => dOne A (fun d δ1 => g d fun z => Q z δ1) δ
/-- what a call of one value asks, by data -/
def CalB (X : Cx) (e : Ent) (r : List V → Hp → VK → Prop) (g : D → (D → Prop) → Prop) : Prop := ∀ (T : Tm) (G : Gh) (H : Hp) (σ : St) (δ : DSt) (x : V) (a : D) (Qd : D → Prop) (Q : VK), SS X.K e T G H σ δ → RdO X.K G H x a → g a Qd →
  (∀ v d H' G', SS X.K e T G' H' σ δ → Step e G H G' H' → Rep X.K G' v d → Qd d → Q v H') → r [x] H Q
theorem de_B1 {x : Str} {id : String} {a : Expr} {A : Opn} {p : Pos} {r : List V → Hp → VK → Prop} {g : D → (D → Prop) → Prop} (hc : CallR X (.builtin id) r) (ho : CalB X e r g) (hg : Gl X x) (hm : X.mg x = none) (hv : bootBuiltins x = some (.builtin id)) (ha : OPN X e a A)
    (hn : x ≠ "__name__" := by decide) (hd : (x == ("__debug__" : Str)) = false := by decide) (hs : starEach (a :: []) X.env = (false, eval a X.env) :: starEach [] X.env := by rfl) (hpl : (backTo pos (starEach [] X.env)).any (·.1) = false := by rfl) : DE X e (.Call (.Name x p) [a] [] pos) (dB1 g A) :=
  one_ok ha (r := fun x H Q => r [x] H Q) (f := fun ta => tCB r (tCons ta tNil)) (fun ta h => pe_callB hc hg hm hv (pa_cons h pa_nil hs) hn hd hs hpl) (fun _ _ _ _ h => h) ho
theorem de_T1 {x : Str} {id : String} {a : Expr} {A : Opn} {p : Pos} {r : List V → Hp → VK → Prop} {g : D → (D → Prop) → Prop} (hc : CallR X (.type id) r) (ho : CalB X e r g) (hg : Gl X x) (hm : X.mg x = none) (hv : bootBuiltins x = some (.type id)) (ha : OPN X e a A)
    (hn : x ≠ "__name__" := by decide) (hd : (x == ("__debug__" : Str)) = false := by decide) (hs : starEach (a :: []) X.env = (false, eval a X.env) :: starEach [] X.env := by rfl) (hpl : (backTo pos (starEach [] X.env)).any (·.1) = false := by rfl) : DE X e (.Call (.Name x p) [a] [] pos) (dB1 g A) :=
  one_ok ha (r := fun x H Q => r [x] H Q) (f := fun ta => tCB r (tCons ta tNil)) (fun ta h => pe_callTy hc hg hm hv (pa_cons h pa_nil hs) hn hd hs hpl) (fun _ _ _ _ h => h) ho
end
end T

namespace T
open PySem L2

section
variable {X : Cx} {e : Ent} {pos : Pos}
/-! ### len, abs, list, tuple, int .. -/
def lenD : D → (D → Prop) → Prop
  | .lst ds, Q => Q (.int (ds.length : Int))
  | .tup ds, Q => Q (.int (ds.length : Int))
  | .str s, Q => s.length ≤ sizeLine ∧ Q (.int (s.length : Int))
  | .scr ns, Q => Q (.int (ns.length : Int))
  | _, _ => False
theorem cb_len : CalB X e (fun xs H Q => ∃ x n, xs = [x] ∧ LenV X.K x H n ∧ Q (.int n) H) lenD := by
  intro T G H σ δ x a Qd Q S ra q k
  cases a with
  | lst ds =>
    obtain ⟨p, vs, rfl, hp, r⟩ := ra.lst S.ok
    exact ⟨_, vs.length, rfl, .inl ⟨vs, .inl (.inl hp), rfl⟩, k _ _ H G S Step.refl (.int _) (by rw [r.length]; exact q)⟩
  | tup ds =>
    obtain ⟨p, vs, rfl, hp, r⟩ := ra.tup S.ok
    exact ⟨_, vs.length, rfl, .inr ⟨vs, hp, rfl⟩, k _ _ H G S Step.refl (.int _) (by rw [r.length]; exact q)⟩
  | scr ns =>
    obtain ⟨p, rfl, hp⟩ := ra.scr S.ok
    exact ⟨_, (ns.map V.int).length, rfl, .inl ⟨_, hp, rfl⟩, k _ _ H G S Step.refl (.int _) (by rw [List.length_map]; exact q)⟩
  | str s =>
    obtain ⟨e1, _⟩ := ra.str
    subst e1
    exact ⟨_, s.length, rfl, ⟨q.1, rfl⟩, k _ _ H G S Step.refl (.int _) q.2⟩
  | _ => exact False.elim q
theorem de_len {a : Expr} {A : Opn} {p : Pos} (ha : OPN X e a A) (hg : Gl X "len") (hm : X.mg "len" = none) (hs : starEach (a :: []) X.env = (false, eval a X.env) :: starEach [] X.env := by rfl) : DE X e (.Call (.Name "len" p) [a] [] pos) (dB1 lenD A) :=
  de_B1 call_len cb_len hg hm PySem.boot_len ha (hs := hs)
def absD : D → (D → Prop) → Prop
  | .int i, Q => Q (.int (if i < 0 then -i else i))
  | _, _ => False
theorem cb_abs : CalB X e (fun xs H Q => ∃ i, xs = [.int i] ∧ Q (.int (if i < 0 then -i else i)) H) absD := by
  intro T G H σ δ x a Qd Q S ra q k
  cases a with
  | int i =>
    have := ra.int
    subst this
    exact ⟨i, rfl, k _ _ H G S Step.refl (.int _) q⟩
  | _ => exact False.elim q
theorem de_abs {a : Expr} {A : Opn} {p : Pos} (ha : OPN X e a A) (hg : Gl X "abs") (hm : X.mg "abs" = none) (hs : starEach (a :: []) X.env = (false, eval a X.env) :: starEach [] X.env := by rfl) : DE X e (.Call (.Name "abs" p) [a] [] pos) (dB1 absD A) :=
  de_B1 call_abs cb_abs hg hm (by decide +kernel) ha (hs := hs)
def intD : D → (D → Prop) → Prop
  | .int i, Q => Q (.int i)
  | .bl b, Q => Q (.int (if b then 1 else 0))
  | _, _ => False
theorem cb_int : CalB X e (fun xs H Q => (∃ i, xs = [.int i] ∧ Q (.int i) H) ∨ ∃ k, xs = [.bl k] ∧ Q (.int (if k then 1 else 0)) H) intD := by
  intro T G H σ δ x a Qd Q S ra q k
  cases a with
  | int i =>
    have := ra.int
    subst this
    exact .inl ⟨i, rfl, k _ _ H G S Step.refl (.int _) q⟩
  | bl i =>
    have := ra.bl
    subst this
    exact .inr ⟨i, rfl, k _ _ H G S Step.refl (.int _) q⟩
  | _ => exact False.elim q
theorem de_int1 {a : Expr} {A : Opn} {p : Pos} (ha : OPN X e a A) (hg : Gl X "int") (hm : X.mg "int" = none) (hs : starEach (a :: []) X.env = (false, eval a X.env) :: starEach [] X.env := by rfl) : DE X e (.Call (.Name "int" p) [a] [] pos) (dB1 intD A) :=
  de_T1 call_int1 cb_int hg hm (by decide +kernel) ha (hs := hs)
def tupleD : D → (D → Prop) → Prop
  | .lst ds, Q => Q (.tup ds)
  | .tup ds, Q => Q (.tup ds)
  | _, _ => False
theorem cb_tuple : CalB X e (fun xs H Q => ∃ p ys, xs = [.ref p] ∧ ((SqL X.K H p ys ∧ ∀ l, H l = none → Q (.ref l) (upd H l (.tup ys))) ∨ (SqT X.K H p ys ∧ Q (.ref p) H))) tupleD := by
  intro T G H σ δ x a Qd Q S ra q k
  cases a with
  | lst ds =>
    obtain ⟨p, vs, rfl, hp, r⟩ := ra.lst S.ok
    refine ⟨p, vs, rfl, .inl ⟨.inl (.inl hp), fun l hl => ?_⟩⟩
    obtain ⟨G2, S2, st2, rep⟩ := S.newTup r hl
    exact k _ _ _ G2 S2 st2 rep q
  | tup ds =>
    have ra' := ra
    obtain ⟨p, vs, rfl, hp, r⟩ := ra.tup S.ok
    rcases ra' with rep | ⟨_, _, z⟩
    · exact ⟨p, vs, rfl, .inr ⟨hp, k _ _ H G S Step.refl rep q⟩⟩
    · exact z.elim
  | _ => exact False.elim q
theorem de_tuple1 {a : Expr} {A : Opn} {p : Pos} (ha : OPN X e a A) (hg : Gl X "tuple") (hm : X.mg "tuple" = none) (hs : starEach (a :: []) X.env = (false, eval a X.env) :: starEach [] X.env := by rfl) : DE X e (.Call (.Name "tuple" p) [a] [] pos) (dB1 tupleD A) :=
  de_T1 call_tuple_of cb_tuple hg hm (by decide +kernel) ha (hs := hs)
/-- a new list, ours -/
def listD : D → (D → Prop) → Prop
  | .lst ds, Q => Q (.lst ds)
  | .tup ds, Q => Q (.lst ds)
  | _, _ => False
def min2D : D → D → (D → Prop) → Prop
  | .int i, .int j, Q => Q (.int (if j < i then j else i))
  | _, _, _ => False
def max2D : D → D → (D → Prop) → Prop
  | .int i, .int j, Q => Q (.int (if j > i then j else i))
  | _, _, _ => False
def dB2 (g : D → D → (D → Prop) → Prop) (t u : TDE) : TDE := fun δ Q => t δ fun x δ1 => u δ1 fun y δ2 => g x y fun z => Q z δ2
theorem de_min2 {a b : Expr} {t u : TDE} {p : Pos} (hc : X.calm = true) (ha : DE X e a t) (hb : DE X e b u) (hg : Gl X "min") (hm : X.mg "min" = none) (hs : starEach (a :: [b]) X.env = (false, eval a X.env) :: starEach [b] X.env := by rfl) (hs2 : starEach (b :: []) X.env = (false, eval b X.env) :: starEach [] X.env := by rfl) (hpl : (backTo pos (starEach [b] X.env)).any (·.1) = false := by rfl) :
    DE X e (.Call (.Name "min" p) [a, b] [] pos) (dB2 min2D t u) :=
  pe_imp (pe_callB (call_min2 hc) hg hm (by decide +kernel) (pa_cons ha (pa_cons hb pa_nil hs2) hs) (he := hs) (hpl := hpl)) fun σ H Q ⟨T, G, δ, Qd, S, q, k⟩ => ⟨T, G, δ, _, S, q, fun v d H1 G1 δ1 S1 st1 r1 q1 => ⟨T, G1, δ1, _, S1, q1, fun v2 d2 H2 G2 δ2 S2 st2 r2 q2 => by
    cases d with
    | int i =>
      cases d2 with
      | int j =>
        have e1 := r1.intI
        have e2 := r2.intI
        subst e1 e2
        exact ⟨i, j, rfl, k _ _ H2 G2 δ2 S2 (st1.trans st2) (.int _) q2⟩
      | _ => exact False.elim q2
    | _ => exact False.elim q2⟩⟩
theorem de_max2 {a b : Expr} {t u : TDE} {p : Pos} (hc : X.calm = true) (ha : DE X e a t) (hb : DE X e b u) (hg : Gl X "max") (hm : X.mg "max" = none) (hs : starEach (a :: [b]) X.env = (false, eval a X.env) :: starEach [b] X.env := by rfl) (hs2 : starEach (b :: []) X.env = (false, eval b X.env) :: starEach [] X.env := by rfl) (hpl : (backTo pos (starEach [b] X.env)).any (·.1) = false := by rfl) :
    DE X e (.Call (.Name "max" p) [a, b] [] pos) (dB2 max2D t u) :=
  pe_imp (pe_callB (call_max2 hc) hg hm (by decide +kernel) (pa_cons ha (pa_cons hb pa_nil hs2) hs) (he := hs) (hpl := hpl)) fun σ H Q ⟨T, G, δ, Qd, S, q, k⟩ => ⟨T, G, δ, _, S, q, fun v d H1 G1 δ1 S1 st1 r1 q1 => ⟨T, G1, δ1, _, S1, q1, fun v2 d2 H2 G2 δ2 S2 st2 r2 q2 => by
    cases d with
    | int i =>
      cases d2 with
      | int j =>
        have e1 := r1.intI
        have e2 := r2.intI
        subst e1 e2
        exact ⟨i, j, rfl, k _ _ H2 G2 δ2 S2 (st1.trans st2) (.int _) q2⟩
      | _ => exact False.elim q2
    | _ => exact False.elim q2⟩⟩
/-- a global name of a built-in class -/
theorem de_ty {x : Str} {n : String} (hg : Gl X x) (hm : X.mg x = none) (hv : bootBuiltins x = some (.type n)) (hn : x ≠ "__name__" := by decide) (hd : (x == ("__debug__" : Str)) = false := by decide) : DE X e (.Name x pos) (dC (.ty n)) :=
  de_c (pe_bltn (v := .ty n) hg hm hv rfl hn hd) fun _ => .ty n
/-! ### methods of lists that are ours -/
def owL (δ : DSt) (i : Nat) : Option (List D) := match δ[i]? with
  | some (.ow (.lst ds)) => some ds
  | _ => none
theorem owL_ok {δ : DSt} {i : Nat} {ds : List D} (h : owL δ i = some ds) : δ[i]? = some (.ow (.lst ds)) := by
  unfold owL at h
  split at h
  · cases h; assumption
  · cases h
def dAppend (i : Nat) (t : TDE) : TDE := fun δ Q => (owL δ i).isSome = true ∧ t δ fun d δ1 => match owL δ1 i with | some ds => ds.length < sizeLine ∧ Q .non (δ1.set i (.ow (.lst (ds ++ [d])))) | none => False
theorem de_append {o a : Expr} {i : Nat} {t : TDE} {apos : Pos} (ho : PE X o (tVar i)) (ha : DE X e a t)
    (hbase : attributeBase o "append" X.env (eval o X.env) = eval o X.env := by rfl)
    (hfew : ((backTo pos (starEach (a :: []) X.env)).all (fun x => !x.1) && (backToKw pos (keywordEach [] X.env)).all (fun x => x.1.isSome)
      && decide ((a :: []).length + ([] : List Keyword).length + (if ([] : List Keyword).isEmpty then 0 else 1) < 30)) = true := by rfl)
    (hline : (apos.endLine == pos.line) = true := by rfl) (hs : starEach (a :: []) X.env = (false, eval a X.env) :: starEach [] X.env := by rfl) (hplain : (backTo pos (starEach [] X.env)).any (·.1) = false := by rfl) :
    DE X e (.Call (.Attribute o "append" apos) [a] [] pos) (dAppend i t) :=
  pe_imp (pe_bm PySem.F.plainAttrs_list PySem.F.slot_list_append PySem.F.type_list_append mt_append ho (pa_cons ha pa_nil hs) hbase hfew hline hs hplain) fun σ H Q ⟨T, G, δ, Qd, S, ⟨h0, q⟩, k⟩ => by
    obtain ⟨ds0, h0⟩ := Option.isSome_iff_exists.mp h0
    obtain ⟨x, hx, l, rfl, m⟩ := S.sl i _ (owL_ok h0)
    obtain ⟨vs, hl, r⟩ := m.own
    refine ⟨_, hx, .inl ⟨rfl, vs, .inl (.inl hl)⟩, T, G, δ, _, S, q, fun v d H1 G1 δ1 S1 st1 rd q1 => ?_⟩
    cases h1 : owL δ1 i with
    | none => rw [h1] at q1; exact q1.elim
    | some ds =>
      rw [h1] at q1
      have h1' := owL_ok h1
      obtain ⟨x', hx', l', e1, m'⟩ := S1.sl i _ h1'
      rw [hx] at hx'
      cases hx'
      have e2 : l = l' := by simpa using e1
      subst e2
      obtain ⟨ws, hw, rw'⟩ := m'.own
      refine ⟨l, ws, v, rfl, rfl, hw, by rw [rw'.length]; exact q1.1, ?_⟩
      obtain ⟨S2, st2⟩ := S1.write (d' := .lst (ds ++ [d])) (o := .lst (ws ++ [v])) h1' hx ⟨_, upd_same, rw'.append (.one rd)⟩
      exact k _ _ _ G1 _ S2 (st1.trans st2) .non q1.2
def dExtend (i : Nat) (t : TDE) : TDE := fun δ Q => (owL δ i).isSome = true ∧ t δ fun d δ1 => match d with
  | .lst es => (match owL δ1 i with | some ds => ds.length + es.length ≤ sizeLine ∧ Q .non (δ1.set i (.ow (.lst (ds ++ es)))) | none => False)
  | _ => False
theorem de_extend {o a : Expr} {i : Nat} {t : TDE} {apos : Pos} (ho : PE X o (tVar i)) (ha : DE X e a t)
    (hbase : attributeBase o "extend" X.env (eval o X.env) = eval o X.env := by rfl)
    (hfew : ((backTo pos (starEach (a :: []) X.env)).all (fun x => !x.1) && (backToKw pos (keywordEach [] X.env)).all (fun x => x.1.isSome)
      && decide ((a :: []).length + ([] : List Keyword).length + (if ([] : List Keyword).isEmpty then 0 else 1) < 30)) = true := by rfl)
    (hline : (apos.endLine == pos.line) = true := by rfl) (hs : starEach (a :: []) X.env = (false, eval a X.env) :: starEach [] X.env := by rfl) (hplain : (backTo pos (starEach [] X.env)).any (·.1) = false := by rfl) :
    DE X e (.Call (.Attribute o "extend" apos) [a] [] pos) (dExtend i t) :=
  pe_imp (pe_bm PySem.F.plainAttrs_list PySem.F.slot_list_extend PySem.F.type_list_extend mt_extend ho (pa_cons ha pa_nil hs) hbase hfew hline hs hplain) fun σ H Q ⟨T, G, δ, Qd, S, ⟨h0, q⟩, k⟩ => by
    obtain ⟨ds0, h0⟩ := Option.isSome_iff_exists.mp h0
    obtain ⟨x, hx, l, rfl, m⟩ := S.sl i _ (owL_ok h0)
    obtain ⟨vs, hl, r⟩ := m.own
    refine ⟨_, hx, .inl ⟨rfl, vs, .inl (.inl hl)⟩, T, G, δ, _, S, q, fun v d H1 G1 δ1 S1 st1 rd q1 => ?_⟩
    cases d with
    | lst es =>
      have q1 : (match owL δ1 i with | some ds => ds.length + es.length ≤ sizeLine ∧ Qd .non (δ1.set i (.ow (.lst (ds ++ es)))) | none => False) := q1
      cases h1 : owL δ1 i with
      | none => rw [h1] at q1; exact q1.elim
      | some ds =>
        rw [h1] at q1
        have h1' := owL_ok h1
        obtain ⟨x', hx', l', e1, m'⟩ := S1.sl i _ h1'
        rw [hx] at hx'
        cases hx'
        have e2 : l = l' := by simpa using e1
        subst e2
        obtain ⟨ws, hw, rw'⟩ := m'.own
        obtain ⟨b, zs, rfl, hb, rz⟩ := RdO.lst (.inl rd) S1.ok
        refine ⟨l, b, ws, zs, rfl, rfl, hw, hb, by rw [rw'.length, rz.length]; exact q1.1, ?_⟩
        obtain ⟨S2, st2⟩ := S1.write (d' := .lst (ds ++ es)) (o := .lst (ws ++ zs)) h1' hx ⟨_, upd_same, rw'.append rz⟩
        exact k _ _ _ G1 _ S2 (st1.trans st2) .non q1.2
    | _ => exact False.elim q1
def dPopAt (i : Nat) (t : TDE) : TDE := fun δ Q => (owL δ i).isSome = true ∧ t δ fun d δ1 => match d with
  | .int j => (match owL δ1 i with | some ds => (0 ≤ j ∧ j < ds.length ∧ j < 2 ^ 62) ∧ (match ds[j.toNat]? with | some y => Q y (δ1.set i (.ow (.lst (ds.eraseIdx j.toNat)))) | none => False) | none => False)
  | _ => False
theorem de_popAt {o a : Expr} {i : Nat} {t : TDE} {apos : Pos} (ho : PE X o (tVar i)) (ha : DE X e a t)
    (hbase : attributeBase o "pop" X.env (eval o X.env) = eval o X.env := by rfl)
    (hfew : ((backTo pos (starEach (a :: []) X.env)).all (fun x => !x.1) && (backToKw pos (keywordEach [] X.env)).all (fun x => x.1.isSome)
      && decide ((a :: []).length + ([] : List Keyword).length + (if ([] : List Keyword).isEmpty then 0 else 1) < 30)) = true := by rfl)
    (hline : (apos.endLine == pos.line) = true := by rfl) (hs : starEach (a :: []) X.env = (false, eval a X.env) :: starEach [] X.env := by rfl) (hplain : (backTo pos (starEach [] X.env)).any (·.1) = false := by rfl) :
    DE X e (.Call (.Attribute o "pop" apos) [a] [] pos) (dPopAt i t) :=
  pe_imp (pe_bm PySem.F.plainAttrs_list PySem.F.slot_list_pop PySem.F.type_list_pop mt_popAt ho (pa_cons ha pa_nil hs) hbase hfew hline hs hplain) fun σ H Q ⟨T, G, δ, Qd, S, ⟨h0, q⟩, k⟩ => by
    obtain ⟨ds0, h0⟩ := Option.isSome_iff_exists.mp h0
    obtain ⟨x, hx, l, rfl, m⟩ := S.sl i _ (owL_ok h0)
    obtain ⟨vs, hl, r⟩ := m.own
    refine ⟨_, hx, .inl ⟨rfl, vs, .inl (.inl hl)⟩, T, G, δ, _, S, q, fun v d H1 G1 δ1 S1 st1 rd q1 => ?_⟩
    cases d with
    | int j =>
      have ev := rd.intI
      subst ev
      have q1 : (match owL δ1 i with | some ds => (0 ≤ j ∧ j < ds.length ∧ j < 2 ^ 62) ∧ (match ds[j.toNat]? with | some y => Qd y (δ1.set i (.ow (.lst (ds.eraseIdx j.toNat)))) | none => False) | none => False) := q1
      cases h1 : owL δ1 i with
      | none => rw [h1] at q1; exact q1.elim
      | some ds =>
        rw [h1] at q1
        have h1' := owL_ok h1
        obtain ⟨x', hx', l', e1, m'⟩ := S1.sl i _ h1'
        rw [hx] at hx'
        cases hx'
        have e2 : l = l' := by simpa using e1
        subst e2
        obtain ⟨ws, hw, rw'⟩ := m'.own
        obtain ⟨⟨hj0, hj1, hj2⟩, q2⟩ := q1
        cases hy : ds[j.toNat]? with
        | none => rw [hy] at q2; exact q2.elim
        | some y =>
          rw [hy] at q2
          obtain ⟨z, hz, rz⟩ := rw'.get hy
          have hlen := rw'.length
          have hlw := lt_of_get hz
          refine ⟨l, ws, j, j.toNat, z, rfl, rfl, hw, by omega, by omega, seqIndex_of hj0 (by omega), hz, ?_⟩
          obtain ⟨S2, st2⟩ := S1.write (d' := .lst (ds.eraseIdx j.toNat)) (o := .lst (ws.eraseIdx j.toNat)) h1' hx ⟨_, upd_same, rw'.eraseIdx _⟩
          exact k _ _ _ G1 _ S2 (st1.trans st2) (rz.mono st2.le) q2
    | _ => exact False.elim q1
end
end T

namespace T
open PySem L2

section
variable {X : Cx} {e : Ent} {pos : Pos}
def wipeD (δ : DSt) : List Nat → DSt
  | [] => δ
  | v :: vs => (wipeD δ vs).set v .no
theorem wipeD_len (δ : DSt) : ∀ vs : List Nat, (wipeD δ vs).length = δ.length
  | [] => rfl
  | v :: vs => by rw [wipeD, List.length_set, wipeD_len δ vs]
theorem wipeD_get (δ : DSt) (j : Nat) : ∀ vs : List Nat, (wipeD δ vs)[j]? = if j ∈ vs then (δ[j]?).map (fun _ => Sl.no) else δ[j]?
  | [] => by simp [wipeD]
  | v :: vs => by
    rw [wipeD]
    by_cases z : v = j
    · subst z
      rw [if_pos (List.mem_cons_self)]
      by_cases hl : v < δ.length
      · rw [List.getElem?_set_self (by rw [wipeD_len]; exact hl), List.getElem?_eq_getElem hl]; rfl
      · rw [List.getElem?_eq_none (by rw [List.length_set, wipeD_len]; omega), List.getElem?_eq_none (by omega)]; rfl
    · rw [List.getElem?_set_ne z, wipeD_get δ j vs]
      have e1 : (j ∈ v :: vs) ↔ j ∈ vs := by simp [Ne.symm z]
      by_cases h : j ∈ vs
      · rw [if_pos h, if_pos (e1.mpr h)]
      · rw [if_neg h, if_neg (fun q => h (e1.mp q))]
theorem wipe_get (σ : St) (j : Nat) : ∀ vs : List Nat, (wipe σ vs)[j]? = if j ∈ vs then (σ[j]?).map (fun _ => none) else σ[j]?
  | [] => by simp [wipe]
  | v :: vs => by
    rw [wipe]
    by_cases z : v = j
    · subst z
      rw [if_pos (List.mem_cons_self)]
      by_cases hl : v < σ.length
      · rw [List.getElem?_set_self (by rw [wipe_length]; exact hl), List.getElem?_eq_getElem hl]; rfl
      · rw [List.getElem?_eq_none (by rw [List.length_set, wipe_length]; omega), List.getElem?_eq_none (by omega)]; rfl
    · rw [List.getElem?_set_ne z, wipe_get σ j vs]
      have e1 : (j ∈ v :: vs) ↔ j ∈ vs := by simp [Ne.symm z]
      by_cases h : j ∈ vs
      · rw [if_pos h, if_pos (e1.mpr h)]
      · rw [if_neg h, if_neg (fun q => h (e1.mp q))]
theorem wipe_only {σ σ' : St} {fp vs : List Nat} (o : Only1 fp σ σ') (h : ∀ i ∈ fp, i ∈ vs) : wipe σ' vs = wipe σ vs := by
  apply List.ext_getElem?
  intro j
  rw [wipe_get, wipe_get]
  by_cases hj : j ∈ vs
  · rw [if_pos hj, if_pos hj]
    by_cases hl : j < σ.length
    · rw [List.getElem?_eq_getElem hl, List.getElem?_eq_getElem (by rw [o.1]; exact hl)]; rfl
    · rw [List.getElem?_eq_none (show σ.length ≤ j by omega), List.getElem?_eq_none (show σ'.length ≤ j by rw [o.1]; omega)]
  · rw [if_neg hj, if_neg hj, o.2 j fun z => hj (h j z)]
theorem SS.move {K : PySem.W.Frag} {T : Tm} {G : Gh} {H : Hp} {σ σ' : St} {δ : DSt} {vs : List Nat} (S : SS K e T G H σ δ) (hl : σ'.length = σ.length) (h : ∀ i, i ∉ vs → σ'[i]? = σ[i]?) : SS K e T G H σ' (wipeD δ vs) := by
  have hd := wipeD_len δ vs
  have hln := S.ln
  have hlen := S.s.len
  simp only [List.length_append] at hlen
  have ow : ∀ (i : Nat) (d : D), (wipeD δ vs ++ T.d)[i]? = some (.ow d) → (δ ++ T.d)[i]? = some (.ow d) ∧ (σ' ++ T.v)[i]? = (σ ++ T.v)[i]? := fun i d q => by
    by_cases hi : i < δ.length
    · rw [get_l (by rw [hd]; exact hi), wipeD_get] at q
      by_cases hj : i ∈ vs
      · rw [if_pos hj, List.getElem?_eq_getElem hi] at q; cases q
      · rw [if_neg hj] at q
        rw [get_l hi, get_l (by omega), get_l (by omega)]
        exact ⟨q, h i hj⟩
    · rw [List.getElem?_append_right (by omega), hd] at q
      rw [List.getElem?_append_right (by omega), List.getElem?_append_right (by omega), List.getElem?_append_right (by omega), hl]
      exact ⟨q, rfl⟩
  refine ⟨by rw [hd, hl]; exact S.ln, S.ok, S.stp, by simp only [List.length_append]; omega, fun i s q => ?_, fun i j di dj l hij qi qj xi xj => ?_⟩
  · by_cases hi : i < δ.length
    · rw [get_l (by rw [hd]; exact hi), wipeD_get] at q
      by_cases hj : i ∈ vs
      · rw [if_pos hj, List.getElem?_eq_getElem hi] at q
        have e1 : s = .no := (Option.some.inj q).symm
        subst e1
        exact ⟨_, List.getElem?_eq_getElem (by simp only [List.length_append]; omega), trivial⟩
      · rw [if_neg hj] at q
        obtain ⟨o, h1, h2⟩ := S.sl i s q
        rw [get_l (by omega), h i hj]
        exact ⟨o, h1, h2⟩
    · rw [List.getElem?_append_right (by omega), hd] at q
      obtain ⟨o, h1, h2⟩ := S.s.sl i s (by rw [List.getElem?_append_right (by omega)]; exact q)
      rw [List.getElem?_append_right (by omega)] at h1
      rw [List.getElem?_append_right (by omega), hl]
      exact ⟨o, h1, h2⟩
  · obtain ⟨a1, a2⟩ := ow i di qi
    obtain ⟨b1, b2⟩ := ow j dj qj
    rw [a2] at xi
    rw [b2] at xj
    exact S.s.sep i j di dj l hij a1 b1 xi xj
def DTs (X : Cx) (e : Ent) (ifs : List Expr) (t : TDT) : Prop := PTs X ifs (liftT X.K e t)
def dYes : TDT := fun δ Q => Q true δ
theorem dts_nil : DTs X e [] dYes := ⟨fun pins s σ H Q I ⟨T, G, δ, Qd, S, q, k⟩ => pts_nil.run pins s σ H Q I (k true H G δ S Step.refl q)⟩
theorem dts_one {c : Expr} {t : TDT} (h : DT X e c t) : DTs X e [c] t := pts_one h
def dLc (w : TDA) (g : TDG) (tt : TDT) (te : TDE) (own : List Nat) : TDE := fun δ Q => w δ fun ds δ1 => ∃ Inv : Nat → List D → DSt → Prop, Inv 0 [] (wipeD δ1 own) ∧
  (∀ i d acc δ', ds[i]? = some d → Inv i acc δ' → g d (wipeD δ' own) fun δ2 => tt δ2 fun b δ3 => if b = true then te δ3 fun y δ4 => acc.length < sizeLine ∧ Inv (i + 1) (acc ++ [y]) (wipeD δ4 own) else Inv (i + 1) acc (wipeD δ3 own)) ∧
  ∀ acc δ', Inv ds.length acc δ' → Q (.lst acc) (wipeD δ' own)
theorem lc_ent {w : TDA} {g : TDG} {tt : TDT} {te : TDE} {own fp : List Nat} (hfp : ∀ i ∈ fp, i ∈ own) {σ : St} {H : Hp} {Q : VK} (h : liftO X.K e (dLc w g tt te own) σ H Q) :
    tLc (liftI X.K e w) (liftG X.K e fp g) (liftT X.K e tt) (lift X.K e te) own σ H Q := by
  obtain ⟨T, G, δ, Qd, S, q, k⟩ := h
  refine ⟨T, G, δ, _, S, q, fun J ds H1 G1 δ1 S1 st1 Y ⟨Iv, h0, hs, hd⟩ => ?_⟩
  intro L hL
  obtain ⟨S2, st2, nI, nB, new, ap⟩ := S1.new (o := .lst []) hL
  have S3 := S2.hold (l := L) (d := .lst []) ⟨⟨[], upd_same, .nil⟩, nI, nB, new⟩ ap
  have S4 : SS X.K e (T.push L (.lst [])) G1 (upd H1 L (.lst [])) (wipe σ own) (wipeD δ1 own) := S3.move (wipe_length σ own) fun i hi => by rw [wipe_get, if_neg hi]
  refine ⟨fun i m H' => m = ds.length - i ∧ i ≤ ds.length ∧ ∃ G' δ' acc, Step e G1 (upd H1 L (.lst [])) G' H' ∧ SS X.K e (T.push L (.lst acc)) G' H' (wipe σ own) (wipeD δ' own) ∧ Iv i acc (wipeD δ' own), ⟨ds.length, by simp, Nat.zero_le _, G1, δ1, [], Step.refl, S4, h0⟩, ?_⟩
  rintro i m H5 ⟨rfl, hi, G5, δ5, acc, st5, S5, iv⟩
  have wipe2 : ∀ δ : DSt, wipeD (wipeD δ own) own = wipeD δ own := fun δ => by
    apply List.ext_getElem?
    intro j
    rw [wipeD_get, wipeD_get]
    by_cases hj : j ∈ own
    · rw [if_pos hj, if_pos hj]; cases δ[j]? <;> rfl
    · rw [if_neg hj, if_neg hj]
  by_cases hlt : i < ds.length
  · refine .inr ⟨Y.go i _ G5 H5 _ _ st5.le S5 hlt, fun H' => ∃ G' δ' acc', Step e G1 (upd H1 L (.lst [])) G' H' ∧ SS X.K e (T.push L (.lst acc')) G' H' (wipe σ own) (wipeD δ' own) ∧ Iv (i + 1) acc' (wipeD δ' own), fun H' ⟨G', δ', acc', s', S', iv'⟩ => ⟨ds.length - (i + 1), by omega, rfl, hlt, G', δ', acc', s', S', iv'⟩, fun x H6 y => ?_⟩
    obtain ⟨d, G6, hd', S6, st6, rep⟩ := Y.yld i _ G5 H5 _ _ x H6 st5.le S5 hlt y
    have q6 := hs i d acc _ hd' iv
    rw [wipe2] at q6
    refine ⟨_, G6, _, d, _, S6, rep, q6, fun σ7 δ7 G7 H7 S7 st7 o7 q7 => ⟨?_, ?_⟩⟩
    · have e1 := wipe_only o7 hfp
      rw [e1]
      apply List.ext_getElem?
      intro j
      rw [wipe_get, wipe_get]
      by_cases hj : j ∈ own
      · rw [if_pos hj, if_pos hj]; cases σ[j]? <;> rfl
      · rw [if_neg hj, if_neg hj]
    · have hw7 : (wipe σ own).length = σ7.length ∧ ∀ i, i ∉ own → (wipe σ own)[i]? = σ7[i]? := ⟨o7.1.symm, fun i hi => (o7.2 i fun z => hi (hfp i z)).symm⟩
      refine ⟨_, G7, δ7, _, S7, q7, fun b H8 G8 δ8 S8 st8 q8 => ?_⟩
      have st18 := st5.trans (st6.trans (st7.trans st8))
      cases b with
      | false =>
        rw [if_neg Bool.false_ne_true] at q8
        refine iteF ?_
        exact ⟨G8, δ8, acc, st18, S8.move hw7.1 hw7.2, q8⟩
      | true =>
        rw [if_pos rfl] at q8
        refine iteT ?_
        refine ⟨_, G8, δ8, _, S8, q8, fun v y H9 G9 δ9 S9 st9 rv q9 => ?_⟩
        obtain ⟨_, m9, _⟩ := S9.drop
        obtain ⟨vs, hv, rl⟩ := m9.own
        refine ⟨vs, hv, by rw [rl.length]; exact q9.1, ?_⟩
        obtain ⟨S10, st10⟩ := S9.writeT (d' := .lst (acc ++ [y])) (o := .lst (vs ++ [v])) ⟨_, upd_same, rl.append (.one rv)⟩
        exact ⟨G9, δ9, acc ++ [y], st18.trans (st9.trans st10), S10.move hw7.1 hw7.2, q9.2⟩
  · have e1 : i = ds.length := by omega
    subst e1
    refine .inl ⟨Y.stop _ _ G5 H5 _ _ st5.le S5 (Nat.le_refl _), ?_⟩
    obtain ⟨S6, m6, ap6⟩ := S5.drop
    have S7 : SS X.K e T G5 H5 σ (wipeD δ5 own) := by
      have := S6.move (σ' := σ) (vs := own) (wipe_length σ own).symm fun i hi => by rw [wipe_get, if_neg hi]
      rwa [wipe2] at this
    have q7 := hd acc _ iv
    rw [wipe2] at q7
    refine k L (.lst acc) H5 G5 _ S7 (st1.trans (st2.trans st5)) m6 (fun i d hi z => ?_) q7
    have hi' := hi
    by_cases hl : i < δ5.length
    · rw [get_l (by rw [wipeD_len]; exact hl), wipeD_get] at hi'
      by_cases hj : i ∈ own
      · rw [if_pos hj, List.getElem?_eq_getElem hl] at hi'; cases hi'
      · refine ap6 i d hi ?_
        have hl2 : i < σ.length := by
          have := S7.ln
          rw [wipeD_len] at this
          omega
        rw [get_l hl2] at z
        rw [get_l (by rw [wipe_length]; exact hl2), wipe_get, if_neg hj]
        exact z
    · refine ap6 i d hi ?_
      have hl2 : ¬ i < σ.length := by
        have := S7.ln
        rw [wipeD_len] at this
        omega
      rw [List.getElem?_append_right (by omega)] at z
      rw [List.getElem?_append_right (by rw [wipe_length]; omega), wipe_length]
      exact z
theorem do_lc {elt tg iter : Expr} {ifs : List Expr} {scope : Scope} {own : List (Str × Nat)} {w : TDA} {g : TDG} {tt : TDT} {te : TDE} {fp : List Nat} (hc : X.calm = true) (hN : X.N.Nodup) (hi : DI X e tg iter w) (ok : BlkOk X.N X.env.scope scope own)
    (hg : ∀ (s : Shared) (H : Hp) (C : Addr) (cl : List (Str × Addr)) (fp' : List Addr), DG (X.blk s H scope (compEnvC scope cl C X.env) fp') e tg fp g) (ht : ∀ (s : Shared) (H : Hp) (C : Addr) (cl : List (Str × Addr)) (fp' : List Addr), DTs (X.blk s H scope (compEnvC scope cl C X.env) fp') e ifs tt)
    (he : ∀ (s : Shared) (H : Hp) (C : Addr) (cl : List (Str × Addr)) (fp' : List Addr), DE (X.blk s H scope (compEnvC scope cl C X.env) fp') e elt te) (hfp : ∀ i ∈ fp, i ∈ own.map (·.2) := by decide) (hs : ∀ x, foldedSetIterable iter X.env x = pure x := by intro _; rfl) :
    DO X e (.ListComp elt [⟨tg, iter, ifs, 0⟩] scope pos) (dLc w g tt te (own.map (·.2))) :=
  pe_imp (pe_lc (g := liftG X.K e fp g) (tt := liftT X.K e tt) (te := lift X.K e te) hc hN hi ok hg ht he hs) fun σ H Q h => lc_ent hfp h
theorem ds_setLc {i : Nat} {y : Str} {py spos : Pos} {elt tg iter : Expr} {ifs : List Expr} {scope : Scope} {own : List (Str × Nat)} {w : TDA} {g : TDG} {tt : TDT} {te : TDE} {fp : List Nat} (hc : X.calm = true) (hN : X.N.Nodup) (hy : X.N[i]? = some y) (hyl : X.env.scope.names.lookup y = some .local)
    (hsw : swapsWith (.ListComp elt [⟨tg, iter, ifs, 0⟩] scope pos) (some (.Name y py)) spos.line X.env = pure true) (hi : DI X e tg iter w) (ok : BlkOk X.N X.env.scope scope own)
    (hg : ∀ (s : Shared) (H : Hp) (C : Addr) (cl : List (Str × Addr)) (fp' : List Addr), DG (X.blk s H scope (compEnvC scope cl C X.env) fp') e tg fp g) (ht : ∀ (s : Shared) (H : Hp) (C : Addr) (cl : List (Str × Addr)) (fp' : List Addr), DTs (X.blk s H scope (compEnvC scope cl C X.env) fp') e ifs tt)
    (he : ∀ (s : Shared) (H : Hp) (C : Addr) (cl : List (Str × Addr)) (fp' : List Addr), DE (X.blk s H scope (compEnvC scope cl C X.env) fp') e elt te) (hfp : ∀ i ∈ fp, i ∈ own.map (·.2) := by decide) (hs : ∀ x, foldedSetIterable iter X.env x = pure x := by intro _; rfl) :
    DS X e (.Assign [.Name y py] (.ListComp elt [⟨tg, iter, ifs, 0⟩] scope pos) spos) (dAsg (dLc w g tt te (own.map (·.2))) i) :=
  ps_imp (ps_setLc (g := liftG X.K e fp g) (tt := liftT X.K e tt) (te := lift X.K e te) hc hN hy hyl hsw hi ok hg ht he hs) fun E σ H ⟨T, G, δ, F, S, q, n, r, b, c⟩ => lc_ent hfp ⟨T, G, δ, _, S, q, fun l d H' G' δ' S' st m ap q' => by
    obtain ⟨G2, S2, st2, r2⟩ := S'.freeze m ap
    exact n _ _ G2 H' (st.le.trans st2.le) (S2.asg r2) q'⟩
/-! ### a, b = x, y -/
/-- values, each frozen or ours -/
inductive Ev where
  | im (t : TDE) | ow (t : TDE)
def evPE (X : Cx) (e : Ent) (a : Expr) : Ev → Prop
  | .im t => DE X e a t
  | .ow t => DO X e a t
end
end T

namespace T
open PySem L2

section
variable {X : Cx} {e : Ent} {pos : Pos}
/-! ### texts -/
def strsOf : List D → Option (List Str)
  | [] => some []
  | .str s :: r => (strsOf r).map (s :: ·)
  | _ :: _ => none
theorem strsOf_ok : ∀ {ds : List D} {ss : List Str}, strsOf ds = some ss → ds = ss.map D.str
  | [], ss, h => by cases h; rfl
  | d :: r, ss, h => by
    cases d with
    | str s =>
      rw [strsOf] at h
      cases hr : strsOf r with
      | none => rw [hr] at h; cases h
      | some rs =>
        rw [hr] at h
        cases h
        rw [List.map_cons, ← strsOf_ok hr]
    | _ => cases h
theorem strsOf_map : ∀ ss : List Str, strsOf (ss.map D.str) = some ss
  | [] => rfl
  | s :: r => by rw [List.map_cons, strsOf, strsOf_map r]; rfl
theorem sOk_join {sep : Str} (hs : sOk sep) : ∀ {ss : List Str}, (∀ s ∈ ss, sOk s) → sOk (Str.join sep ss)
  | [], _ => by intro c hc; simp [Str.join, Str.empty] at hc
  | [x], h => h x List.mem_cons_self
  | x :: y :: r, h => sOk_append (sOk_append (h x List.mem_cons_self) hs) (sOk_join hs fun s hs' => h s (List.mem_cons_of_mem _ hs'))
def joinD (sep : Str) : D → (D → Prop) → Prop
  | .lst ds, Q => (match strsOf ds with | some ss => (ss.map (·.length)).sum + ss.length * sep.length ≤ 16777216 ∧ Q (.str (Str.join sep ss)) | none => False)
  | .tup ds, Q => (match strsOf ds with | some ss => (ss.map (·.length)).sum + ss.length * sep.length ≤ 16777216 ∧ Q (.str (Str.join sep ss)) | none => False)
  | _, _ => False
def dJoin (t u : TDE) : TDE := fun δ Q => t δ fun x δ1 => match x with | .str sep => u δ1 fun y δ2 => joinD sep y fun z => Q z δ2 | _ => False
theorem Rep.strI {K : PySem.W.Frag} {G : Gh} {v : V} {b : Str} (r : Rep K G v (.str b)) : v = .str b ∧ sOk b := by cases r with | str h => exact ⟨rfl, h⟩
theorem joinD_ok {sep : Str} {d : D} {Q : D → Prop} (q : joinD sep d Q) : ∃ ss, (d = .lst (ss.map D.str) ∨ d = .tup (ss.map D.str)) ∧ (ss.map (·.length)).sum + ss.length * sep.length ≤ 16777216 ∧ Q (.str (Str.join sep ss)) := by
  cases d with
  | lst ds =>
    have q1 : (match strsOf ds with | some ss => (ss.map (·.length)).sum + ss.length * sep.length ≤ 16777216 ∧ Q (.str (Str.join sep ss)) | none => False) := q
    cases hss : strsOf ds with
    | none => rw [hss] at q1; exact q1.elim
    | some ss => rw [hss] at q1; exact ⟨ss, .inl (by rw [← strsOf_ok hss]), q1⟩
  | tup ds =>
    have q1 : (match strsOf ds with | some ss => (ss.map (·.length)).sum + ss.length * sep.length ≤ 16777216 ∧ Q (.str (Str.join sep ss)) | none => False) := q
    cases hss : strsOf ds with
    | none => rw [hss] at q1; exact q1.elim
    | some ss => rw [hss] at q1; exact ⟨ss, .inr (by rw [← strsOf_ok hss]), q1⟩
  | _ => exact False.elim q
theorem de_join {o a : Expr} {t u : TDE} {apos : Pos} (ho : DE X e o t) (ha : DE X e a u) (hs : starEach [a] X.env = [(false, eval a X.env)] := by rfl) (hbase : attributeBase o "join" X.env (eval o X.env) = eval o X.env := by rfl) (hline : (apos.endLine == pos.line) = true := by rfl) :
    DE X e (.Call (.Attribute o "join" apos) [a] [] pos) (dJoin t u) :=
  pe_imp (pe_join ho ha hs hbase hline) fun σ H Q ⟨T, G, δ, Qd, S, q, k⟩ => ⟨T, G, δ, _, S, q, fun v d H1 G1 δ1 S1 st1 r1 q1 => by
    cases d with
    | str sep =>
      obtain ⟨e1, o1⟩ := r1.strI
      subst e1
      refine ⟨⟨sep, rfl⟩, T, G1, δ1, _, S1, q1, fun v2 d2 H2 G2 δ2 S2 st2 r2 q2 => ?_⟩
      obtain ⟨ss, hd, hb, q3⟩ := joinD_ok q2
      rcases hd with rfl | rfl
      · obtain ⟨p, vs, rfl, hp, rl⟩ := RdO.lst (.inl r2) S2.ok
        have ev := rl.strs
        subst ev
        refine ⟨sep, p, ss, rfl, rfl, .inl (.inl (.inl hp)), hb, ?_⟩
        rw [TL.join_eq]
        exact k _ _ H2 G2 δ2 S2 (st1.trans st2) (.str (sOk_join o1 rl.okStrs)) q3
      · obtain ⟨p, vs, rfl, hp, rl⟩ := RdO.tup (.inl r2) S2.ok
        have ev := rl.strs
        subst ev
        refine ⟨sep, p, ss, rfl, rfl, .inr hp, hb, ?_⟩
        rw [TL.join_eq]
        exact k _ _ H2 G2 δ2 S2 (st1.trans st2) (.str (sOk_join o1 rl.okStrs)) q3
    | _ => exact False.elim q1⟩
/-- 'a b c'.split(' '), both written -/
theorem de_splitW {a b : Str} {ws : List Str} {j1 j2 : Nat} {p1 p2 apos : Pos} (h : Txt.split a b = ws) (hok : ∀ w ∈ ws, sOk w) (hb : (b.length == 0) = false) (hl : a.length + 2 ≤ sizeLine)
    (hs : starEach [Expr.Constant (.str b) j2 p2] X.env = [(false, eval (Expr.Constant (.str b) j2 p2) X.env)] := by rfl) (hbase : attributeBase (Expr.Constant (.str a) j1 p1) "split" X.env (eval (Expr.Constant (.str a) j1 p1) X.env) = eval (Expr.Constant (.str a) j1 p1) X.env := by rfl) (hline : (apos.endLine == pos.line) = true := by rfl) :
    DO X e (.Call (.Attribute (.Constant (.str a) j1 p1) "split" apos) [.Constant (.str b) j2 p2] [] pos) (dC (.lst (ws.map D.str))) :=
  pe_imp (pe_split pe_str pe_str hs hbase hline) fun σ H Q ⟨T, G, δ, Qd, S, q, k⟩ => ⟨⟨a, rfl⟩, a, b, rfl, rfl, hb, hl, fun p hp => by
    rw [h]
    obtain ⟨S2, st2, nI, nB, new, ap⟩ := S.new (o := .lst (ws.map V.str)) hp
    exact k p (.lst (ws.map D.str)) _ G δ S2 st2 ⟨⟨_, upd_same, .ofStrs ws hok⟩, nI, nB, new⟩ ap q⟩
/-! ### l[::-1] -/
def revD : D → (D → Prop) → Prop
  | .lst ds, Q => Q (.lst ds.reverse)
  | _, _ => False
theorem do_rev {a : Expr} {A : Opn} {k : Nat} {p1 p2 p3 : Pos} (ha : OPN X e a A) : DO X e (.Subscript a (.Slice none none (some (.UnaryOp .USub (.Constant (.int 1) k p1) p2)) p3) pos) (dB1 revD A) := by
  have key : ∀ (T : Tm) (G : Gh) (H : Hp) (σ : St) (δ : DSt) (x : V) (a : D) (Qd : D → Prop) (Q : VK), SS X.K e T G H σ δ → RdO X.K G H x a → revD a Qd →
      (∀ l d H', SS X.K e T G H' σ δ → Step e G H G H' → Mine X.K e G H' l d → Apart σ δ T l → Qd d → Q (.ref l) H') → ∃ p ys, x = V.ref p ∧ SqL X.K H p ys ∧ ∀ l, H l = none → Q (.ref l) (upd H l (.lst ys.reverse)) := by
    intro T G H σ δ x a Qd Q S ra q k
    cases a with
    | lst ds =>
      obtain ⟨p, vs, rfl, hp, r⟩ := ra.lst S.ok
      refine ⟨p, vs, rfl, .inl (.inl hp), fun l hl => ?_⟩
      obtain ⟨S2, st2, nI, nB, new, ap⟩ := S.new (o := .lst vs.reverse) hl
      exact k l (.lst ds.reverse) _ S2 st2 ⟨⟨_, upd_same, r.reverse⟩, nI, nB, new⟩ ap q
    | _ => exact False.elim q
  cases A with
  | ex t =>
    refine pe_imp (pe_revL ha) fun σ H Q ⟨T, G, δ, Qd, S, q, k⟩ => ?_
    exact ⟨T, G, δ, _, S, q, fun v d H1 G1 δ1 S1 st1 rd q1 => key T G1 H1 σ δ1 v d _ Q S1 (.inl rd) q1 fun l d H' S' st' m ap qd => k l d H' G1 δ1 S' (st1.trans st') m ap qd⟩
  | sl i =>
    refine pe_imp (pe_revL ha) fun σ H Q ⟨T, G, δ, Qd, S, q, k⟩ => ?_
    have q : (match rdS δ i with | some d => revD d (fun z => Qd z δ) | none => False) := q
    cases hi : rdS δ i with
    | none => rw [hi] at q; exact q.elim
    | some d =>
      rw [hi] at q
      obtain ⟨v, hv, rd⟩ := rdS_ok S hi
      exact ⟨v, hv, key T G H σ δ v d _ Q S rd q fun l d H' S' st' m ap qd => k l d H' G δ S' st' m ap qd⟩
end
end T

namespace T
open PySem L2

section
variable {X : Cx} {e : Ent} {pos : Pos}
def Tm.app (T : Tm) (vs : List V) (ss : List Sl) : Tm := ⟨T.v ++ vs.map some, T.d ++ ss⟩
theorem Tm.app_app (T : Tm) (a b : List V) (c d : List Sl) : (T.app a c).app b d = T.app (a ++ b) (c ++ d) := by simp [Tm.app]
theorem ap_mid {α : Type} (σ tv rv : List α) (x : α) : (σ ++ (tv ++ x :: rv))[σ.length + tv.length]? = some x := by
  rw [List.getElem?_append_right (by omega)]
  have : σ.length + tv.length - σ.length = tv.length := by omega
  rw [this, List.getElem?_append_right (by omega), Nat.sub_self]; rfl
theorem ap_lo {α : Type} (σ tv w w' : List α) {j : Nat} (h : j < σ.length + tv.length) : (σ ++ (tv ++ w))[j]? = (σ ++ (tv ++ w'))[j]? := by
  have A : ∀ w : List α, (σ ++ (tv ++ w))[j]? = (σ ++ tv)[j]? := fun w => by
    rw [← List.append_assoc]
    exact List.getElem?_append_left (by simpa using h)
  rw [A w, A w']
theorem ap_hi {α : Type} (σ tv rv : List α) (x : α) {j : Nat} (h : ¬ j < σ.length + tv.length) : (σ ++ (tv ++ x :: rv))[j + 1]? = (σ ++ (tv ++ rv))[j]? := by
  have A : ∀ (w : List α) (n : Nat), (σ ++ (tv ++ w))[σ.length + tv.length + n]? = w[n]? := fun w n => by
    rw [← List.append_assoc, List.getElem?_append_right (by simp)]
    congr 1
    simp
  have e1 : j + 1 = σ.length + tv.length + ((j - σ.length - tv.length) + 1) := by omega
  have e2 : j = σ.length + tv.length + (j - σ.length - tv.length) := by omega
  rw [e1, A]
  conv => rhs; rw [e2]
  rw [A]; rfl
theorem ap_set {α : Type} (σ w : List α) (y : α) {i j : Nat} (h : j ≠ i) : (σ.set i y ++ w)[j]? = (σ ++ w)[j]? := by
  by_cases h3 : j < σ.length
  · rw [List.getElem?_append_left (by rw [List.length_set]; exact h3), List.getElem?_append_left h3, List.getElem?_set_ne (Ne.symm h)]
  · rw [List.getElem?_append_right (by rw [List.length_set]; omega), List.getElem?_append_right (by omega), List.length_set]
theorem ap_self {α : Type} (σ w : List α) (y : α) {i : Nat} (h : i < σ.length) : (σ.set i y ++ w)[i]? = some y := by
  rw [List.getElem?_append_left (by rw [List.length_set]; exact h), List.getElem?_set_self h]
/-- the first of what is held goes into a slot -/
theorem SS.take1 {K : PySem.W.Frag} {G : Gh} {H : Hp} {σ : St} {δ : DSt} {tv rv : St} {td rd : DSt} {v : V} {s : Sl} {i : Nat} (htl : tv.length = td.length) (S : SS K e ⟨tv ++ some v :: rv, td ++ s :: rd⟩ G H σ δ) : SS K e ⟨tv ++ rv, td ++ rd⟩ G H (σ.set i (some v)) (δ.set i s) := by
  have hln := S.ln
  have hlen := S.s.len
  simp only [List.length_append, List.length_cons] at hlen
  have hn : σ.length + tv.length = δ.length + td.length := by omega
  let π : Nat → Nat := fun j => if j = i ∧ i < δ.length then δ.length + td.length else if j < δ.length + td.length then j else j + 1
  have C : ∀ {α : Type} (a b c : List α) (x : α), a.length = δ.length → a.length + b.length = δ.length + td.length → ∀ j, ((a.set i x) ++ (b ++ c))[j]? = (a ++ (b ++ x :: c))[π j]? := fun a b c x h0 h j => by
    show _ = (a ++ (b ++ x :: c))[if j = i ∧ i < δ.length then δ.length + td.length else if j < δ.length + td.length then j else j + 1]?
    by_cases h1 : j = i ∧ i < δ.length
    · rw [if_pos h1, h1.1, ap_self a _ x (by omega), ← h, ap_mid]
    · rw [if_neg h1]
      have e0 : (a.set i x ++ (b ++ c))[j]? = (a ++ (b ++ c))[j]? := by
        by_cases h2 : j = i
        · rw [List.set_eq_of_length_le (by omega)]
        · exact ap_set _ _ _ h2
      rw [e0]
      by_cases h2 : j < δ.length + td.length
      · rw [if_pos h2]
        exact ap_lo _ _ _ _ (by omega)
      · rw [if_neg h2]
        exact (ap_hi _ _ _ _ (by omega)).symm
  have A := C σ tv rv (some v) hln.symm hn
  have B := C δ td rd s rfl rfl
  have inj : ∀ a b, π a = π b → a = b := fun a b h => by
    have h : (if a = i ∧ i < δ.length then δ.length + td.length else if a < δ.length + td.length then a else a + 1) = (if b = i ∧ i < δ.length then δ.length + td.length else if b < δ.length + td.length then b else b + 1) := h
    by_cases a1 : a = i ∧ i < δ.length
    · by_cases b1 : b = i ∧ i < δ.length
      · omega
      · rw [if_pos a1, if_neg b1] at h
        split at h <;> omega
    · by_cases b1 : b = i ∧ i < δ.length
      · rw [if_neg a1, if_pos b1] at h
        split at h <;> omega
      · rw [if_neg a1, if_neg b1] at h
        split at h <;> split at h <;> omega
  refine ⟨by rw [List.length_set, List.length_set]; exact S.ln, S.ok, S.stp, by simp only [List.length_append, List.length_set]; omega, fun j x q => ?_, fun a b da db l hab qa qb xa xb => ?_⟩
  · rw [A j]
    exact S.s.sl (π j) x (by rw [← B j]; exact q)
  · exact S.s.sep (π a) (π b) da db l (fun z => hab (inj a b z)) (by rw [← B a]; exact qa) (by rw [← B b]; exact qb) (by rw [← A a]; exact xa) (by rw [← A b]; exact xb)
theorem SS.tl {K : PySem.W.Frag} {T : Tm} {G : Gh} {H : Hp} {σ : St} {δ : DSt} (S : SS K e T G H σ δ) : T.v.length = T.d.length := by
  have h1 := S.ln
  have h2 := S.s.len
  simp only [List.length_append] at h2
  omega
def setS : List Nat → List V → St → St
  | i :: is, v :: vs, σ => setS is vs (σ.set i (some v))
  | _, _, σ => σ
def setD : List Nat → List Sl → DSt → DSt
  | i :: is, s :: ss, δ => setD is ss (δ.set i s)
  | _, _, δ => δ
theorem SS.takes {K : PySem.W.Frag} {T : Tm} {G : Gh} {H : Hp} (htl : T.v.length = T.d.length) : ∀ {is : List Nat} {vs : List V} {ss : List Sl} {σ : St} {δ : DSt}, is.length = vs.length → vs.length = ss.length → SS K e (T.app vs ss) G H σ δ → SS K e T G H (setS is vs σ) (setD is ss δ)
  | [], [], [], σ, δ, _, _, S => by simpa [Tm.app, setS, setD] using S
  | i :: is, v :: vs, s :: ss, σ, δ, h1, h2, S => by
    have S1 : SS K e ⟨T.v ++ some v :: vs.map some, T.d ++ s :: ss⟩ G H σ δ := by simpa [Tm.app] using S
    have S2 := S1.take1 (i := i) htl
    exact SS.takes (is := is) (vs := vs) (ss := ss) htl (by simpa using h1) (by simpa using h2) S2
theorem SS.holdI {K : PySem.W.Frag} {T : Tm} {G : Gh} {H : Hp} {σ : St} {δ : DSt} {v : V} {d : D} (S : SS K e T G H σ δ) (r : Rep K G v d) : SS K e (T.app [v] [.im d]) G H σ δ := by
  have e1 : δ ++ (T.app [v] [.im d]).d = (δ ++ T.d) ++ [.im d] := by simp [Tm.app]
  have e2 : σ ++ (T.app [v] [.im d]).v = (σ ++ T.v) ++ [some v] := by simp [Tm.app]
  refine ⟨S.ln, S.ok, S.stp, ?_, fun i s hs => ?_, fun i j di dj x hij hi hj qi qj => ?_⟩
  · rw [e1, e2]
    have := S.s.len
    simp only [List.length_append] at this ⊢
    simp; omega
  · rw [e1, getElem?_snoc] at hs
    rw [e2, getElem?_snoc]
    by_cases z : i = (δ ++ T.d).length
    · rw [if_pos z] at hs
      cases hs
      rw [if_pos (by rw [S.s.len]; exact z)]
      exact ⟨_, rfl, v, rfl, r⟩
    · rw [if_neg z] at hs
      rw [if_neg (by rw [S.s.len]; exact z)]
      exact S.s.sl i s hs
  · rw [e1, getElem?_snoc] at hi hj
    rw [e2, getElem?_snoc] at qi qj
    rw [S.s.len] at qi qj
    by_cases zi : i = (δ ++ T.d).length
    · rw [if_pos zi] at hi; cases hi
    · by_cases zj : j = (δ ++ T.d).length
      · rw [if_pos zj] at hj; cases hj
      · rw [if_neg zi] at hi qi
        rw [if_neg zj] at hj qj
        exact S.s.sep i j di dj x hij hi hj qi qj
def dEvs : List Ev → DSt → (List Sl → DSt → Prop) → Prop
  | [], δ, Q => Q [] δ
  | .im t :: r, δ, Q => t δ fun d δ1 => dEvs r δ1 fun ss δ2 => Q (.im d :: ss) δ2
  | .ow t :: r, δ, Q => t δ fun d δ1 => dEvs r δ1 fun ss δ2 => Q (.ow d :: ss) δ2
def liftE (K : PySem.W.Frag) (e : Ent) (n : Nat) (l : List Ev) : TA := fun σ H Q => ∃ (T : Tm) (G : Gh) (δ : DSt) (Qd : List Sl → DSt → Prop), SS K e T G H σ δ ∧ dEvs l δ Qd ∧
  ∀ vs ss H' G' δ', SS K e (T.app vs ss) G' H' σ δ' → Step e G H G' H' → vs.length = n → ss.length = n → Qd ss δ' → Q vs H'
theorem ea_nil : PA X [] (liftE X.K e 0 []) := pa_imp pa_nil fun σ H Q ⟨T, G, δ, Qd, S, q, k⟩ => k [] [] H G δ (by simpa [Tm.app] using S) Step.refl rfl rfl q
theorem ea_cons {a : Expr} {es : List Expr} {v : Ev} {l : List Ev} {n : Nat} (h : evPE X e a v) (hr : PA X es (liftE X.K e n l)) (hs : starEach (a :: es) X.env = (false, eval a X.env) :: starEach es X.env := by rfl) : PA X (a :: es) (liftE X.K e (n + 1) (v :: l)) := by
  cases v with
  | im t =>
    refine pa_imp (pa_cons h hr hs) fun σ H Q ⟨T, G, δ, Qd, S, q, k⟩ => ?_
    refine ⟨T, G, δ, _, S, q, fun v d H1 G1 δ1 S1 st1 r1 q1 => ⟨_, G1, δ1, _, S1.holdI r1, q1, fun vs ss H2 G2 δ2 S2 st2 h1 h2 q2 => ?_⟩⟩
    rw [Tm.app_app] at S2
    exact k (v :: vs) (.im d :: ss) H2 G2 δ2 S2 (st1.trans st2) (by simp [h1]) (by simp [h2]) q2
  | ow t =>
    refine pa_imp (pa_cons h hr hs) fun σ H Q ⟨T, G, δ, Qd, S, q, k⟩ => ?_
    refine ⟨T, G, δ, _, S, q, fun l d H1 G1 δ1 S1 st1 m1 ap1 q1 => ⟨_, G1, δ1, _, S1.hold m1 ap1, q1, fun vs ss H2 G2 δ2 S2 st2 h1 h2 q2 => ?_⟩⟩
    have e1 : T.push l d = T.app [.ref l] [.ow d] := by simp [Tm.push, Tm.app]
    rw [e1, Tm.app_app] at S2
    exact k (.ref l :: vs) (.ow d :: ss) H2 G2 δ2 S2 (st1.trans st2) (by simp [h1]) (by simp [h2]) q2
def dPars (l : List Ev) (is : List Nat) : TDS := fun F δ => dEvs l δ fun ss δ1 => F.nx (setD is ss δ1)
/-- names = a tuple display, the stores swapped (no tuple is made) -/
theorem ds_par2 {i j : Nat} {x y : Str} {a b : Expr} {A B : Ev} {px py pt : Pos} {kt k2 pt2} (hc : X.calm = true) (hN : X.N.Nodup) (hi : X.N[i]? = some x) (hj : X.N[j]? = some y) (hij : i ≠ j)
    (hx : X.env.scope.names.lookup x = some .local) (hy : X.env.scope.names.lookup y = some .local) (ha : PA X [a, b] (liftE X.K e 2 [A, B]))
    (hw : swappedStores [.Tuple [.Name x px, .Name y py] kt pt] (.Tuple [a, b] k2 pt2) X.env = pure (some [x, y]))
    (hs : swapsWithSole [.Tuple [.Name x px, .Name y py] kt pt] (.Tuple [a, b] k2 pt2) pos.line X.env = pure false := by rfl) :
    DS X e (.Assign [.Tuple [.Name x px, .Name y py] kt pt] (.Tuple [a, b] k2 pt2) pos) (dPars [A, B] [i, j]) :=
  ps_imp (ps_par hc hN hi hj hij hx hy ha hw hs) fun E σ H ⟨T, G, δ, F, S, q, n, r, b, c⟩ => ⟨T, G, δ, _, S, q, fun vs ss H' G' δ' S' st h1 h2 q' => by
    match vs, ss, h1, h2 with
    | [v, w], [s1, s2], _, _ => exact ⟨v, w, rfl, n _ _ G' H' st.le (S'.takes (is := [i, j]) S.tl rfl rfl) q'⟩⟩
theorem ds_par3 {i j l : Nat} {x y z : Str} {a b c : Expr} {A B C : Ev} {px py pz pt : Pos} {kt k2 pt2} (hc : X.calm = true) (hN : X.N.Nodup) (hi : X.N[i]? = some x) (hj : X.N[j]? = some y) (hl : X.N[l]? = some z) (hij : i ≠ j) (hil : i ≠ l) (hjl : j ≠ l)
    (hx : X.env.scope.names.lookup x = some .local) (hy : X.env.scope.names.lookup y = some .local) (hz : X.env.scope.names.lookup z = some .local) (ha : PA X [a, b, c] (liftE X.K e 3 [A, B, C]))
    (hw : swappedStores [.Tuple [.Name x px, .Name y py, .Name z pz] kt pt] (.Tuple [a, b, c] k2 pt2) X.env = pure (some [x, y, z]))
    (hs : swapsWithSole [.Tuple [.Name x px, .Name y py, .Name z pz] kt pt] (.Tuple [a, b, c] k2 pt2) pos.line X.env = pure false := by rfl) :
    DS X e (.Assign [.Tuple [.Name x px, .Name y py, .Name z pz] kt pt] (.Tuple [a, b, c] k2 pt2) pos) (dPars [A, B, C] [i, j, l]) :=
  ps_imp (L2.ps_par3 hc hN hi hj hl hij hil hjl hx hy hz ha hw hs) fun E σ H ⟨T, G, δ, F, S, q, n, r, b, c⟩ => ⟨T, G, δ, _, S, q, fun vs ss H' G' δ' S' st h1 h2 q' => by
    match vs, ss, h1, h2 with
    | [v, w, u], [s1, s2, s3], _, _ => exact ⟨v, w, u, rfl, n _ _ G' H' st.le (S'.takes (is := [i, j, l]) S.tl rfl rfl) q'⟩⟩
/-- .. a tuple is made and taken apart -/
inductive Nms (X : Cx) : List Expr → List Nat → TGs → Prop
  | nil : Nms X [] [] gNil
  | cons {x : Str} {p : Pos} {i : Nat} {es : List Expr} {is : List Nat} {t : TGs} (h : PG X (.Name x p) (gName i)) (r : Nms X es is t) : Nms X (.Name x p :: es) (i :: is) (gCons (gName i) t)
theorem nms_run : ∀ {es : List Expr} {is : List Nat} {t : TGs}, Nms X es is t → ∀ (vs : List V) (σ : St) (H : Hp) (Q : St → Hp → Prop), vs.length = is.length → Q (setS is vs σ) H → t vs σ H Q
  | _, _, _, .nil, [], σ, H, Q, _, q => ⟨rfl, q⟩
  | _, _, _, .cons h r, v :: vs, σ, H, Q, hl, q => ⟨v, vs, rfl, nms_run r vs _ H Q (by simpa using hl) q⟩
theorem nms_pgs : ∀ {es : List Expr} {is : List Nat} {t : TGs}, Nms X es is t → PGs X es t
  | _, _, _, .nil => pgs_nil
  | _, _, _, .cons h r => pgs_cons h (nms_pgs r)
theorem ds_parT {tgs es : List Expr} {is : List Nat} {t : TGs} {l : List Ev} {kt k2 : Nat} {pt pt2 : Pos} {n : Nat} (hc : X.calm = true) (hn : Nms X tgs is t) (ha : PA X es (liftE X.K e n l)) (hnl : is.length = n) (hz : n ≤ 1000)
    (hn1 : (assignEach tgs X.env).length = n := by rfl) (hst : (assignEach tgs X.env).findIdx? (·.1) = none := by rfl)
    (hs : swapsWithSole [.Tuple tgs kt pt] (.Tuple es k2 pt2) pos.line X.env = pure false := by rfl) (hw : swappedStores [.Tuple tgs kt pt] (.Tuple es k2 pt2) X.env = pure none := by rfl)
    (h1 : (assignEach [Expr.Tuple tgs kt pt] X.env).map (·.2) = [assign (Expr.Tuple tgs kt pt) X.env] := by rfl) : DS X e (.Assign [.Tuple tgs kt pt] (.Tuple es k2 pt2) pos) (dPars l is) :=
  ps_imp (ps_asg (pe_tup ha) (pg_tup hc (nms_pgs hn) hn1 hst) hs hw h1) fun E σ H ⟨T, G, δ, F, S, q, nx, r, b, c⟩ => by
    refine ⟨T, G, δ, _, S, q, fun vs ss H' G' δ' S' st h1 h2 q' => ⟨by rw [h1]; exact le_line hz, fun p hp => ⟨p, vs, rfl, .inl (.inl upd_same), h1, nms_run hn vs σ _ _ (by rw [h1, hnl]) ?_⟩⟩⟩
    obtain ⟨S2, st2, _⟩ := S'.new (o := .tup vs) hp
    exact nx _ _ G' _ st.le (S2.takes (is := is) S.tl (by rw [hnl, h1]) (by rw [h1, h2])) q'
end
end T

namespace T
open PySem L2

section
variable {X : Cx} {e : Ent} {pos : Pos}
theorem GOk.ag {G : Gh} {H : Hp} (k : GOk G H) {a g : Addr} (h : G.B a = some g) : a ≠ g := (k.sep a g a g h h).1
/-- a box that stands has changed -/
theorem SS.boxUpd {K : PySem.W.Frag} {T : Tm} {G : Gh} {H H' : Hp} {σ : St} {δ : DSt} {a g : Addr} (S : SS K e T G H σ δ) (hb : G.B a = some g) (ho : ∀ x, x ≠ a → x ≠ g → H' x = H x) (hn : BoxAt H' a g) : SS K e T G H' σ δ ∧ Step e G H G H' := by
  have fa : foot G a := .inl ⟨g, hb⟩
  have fg : foot G g := .inr ⟨a, hb⟩
  have inE : ∀ x, foot G x → (e.H x).isSome = true → foot e.G x := fun x f s => Classical.byContradiction fun n => S.stp.noB x s n f
  have st : Step e G H G H' := ⟨Le.refl _, fun x s n => ho x (fun z => n (inE x (z ▸ fa) s)) (fun z => n (inE x (z ▸ fg) s)), fun _ _ h => h, fun _ _ h => h, fun x s h => by
    by_cases h1 : x = a
    · subst h1; obtain ⟨_, _, _, _, q, _⟩ := hn.at_; rw [q]; rfl
    · by_cases h2 : x = g
      · subst h2; obtain ⟨_, _, _, _, _, q, _⟩ := hn.at_; rw [q]; rfl
      · rw [ho x h1 h2]; exact h⟩
  have ok : GOk G H' := by
    refine ⟨fun x o q => ?_, fun a' g' h => ?_, S.ok.sep⟩
    · have := (S.ok.box a g hb).2
      rw [ho x (fun z => by subst z; rw [this.1] at q; cases q) (fun z => by subst z; rw [this.2] at q; cases q)]
      exact S.ok.sub x o q
    · refine ⟨?_, (S.ok.box a' g' h).2⟩
      by_cases z : a' = a
      · subst z
        rw [h] at hb; cases hb
        exact hn
      · have s1 := S.ok.sep a g a' g' hb h
        have s2 := S.ok.sep a' g' a g h hb
        exact (S.ok.box a' g' h).1.keep (ho a' z s2.1) (ho g' (Ne.symm s1.1) (fun y => z (s2.2 y)))
  refine ⟨⟨S.ln, ok, S.stp.trans st, S.s.len, fun i s hs => ?_, S.s.sep⟩, st⟩
  obtain ⟨o, h1, h2⟩ := S.s.sl i s hs
  refine ⟨o, h1, ?_⟩
  cases s with
  | no => exact h2
  | im d => exact h2
  | ow d =>
    obtain ⟨l, rfl, m⟩ := h2
    exact ⟨l, rfl, m.own.mono (Le.refl _) (ho l (fun z => m.nB (z ▸ fa)) (fun z => m.nB (z ▸ fg))), m.nI, m.nB, m.new⟩
theorem RdO.box {K : PySem.W.Frag} {G : Gh} {H : Hp} {v : V} {a : Addr} (r : RdO K G H v (.box a)) : v = .ref a ∧ ∃ g, G.B a = some g := by
  rcases r with r | ⟨l, rfl, r⟩
  · cases r with | box h => exact ⟨rfl, _, h⟩
  · exact r.elim
/-- what a box holds -/
def boxK : List Str := ["now", "seed", "turn"]
def ixB : D → D → (D → Prop) → Prop
  | .box _, .str s, Q => s ∈ boxK ∧ ∀ n : Int, 0 ≤ n → Q (.int n)
  | _, _, _ => False
theorem valBox {g : Addr} {n s t : Int} : valV (boxKv g n s t) (.inr "great") = some (.ref g) ∧ valV (boxKv g n s t) (.inr "now") = some (.int n) ∧ valV (boxKv g n s t) (.inr "seed") = some (.int s) ∧ valV (boxKv g n s t) (.inr "turn") = some (.int t) :=
  ⟨rfl, rfl, rfl, rfl⟩
theorem opd_ixB {k0 : Nat} (hr : Room k0 X.A) : OpD X e (WIx X) ixB := by
  intro T G H σ δ x y a b Qd Q S ra rb q k
  cases a with
  | box a =>
    cases b with
    | str s =>
      obtain ⟨rfl, g, hb⟩ := ra.box
      obtain ⟨e2, _⟩ := rb.str
      subst e2
      obtain ⟨gs, n, sd, t, h1, h2, h3, h4, h5, h6, h7⟩ := (S.ok.box a g hb).1.at_
      have v := valBox (g := g) (n := n) (s := sd) (t := t)
      have q1 : s = "now" ∨ s = "seed" ∨ s = "turn" := by simpa [boxK] using q.1
      rcases q1 with rfl | rfl | rfl
      · exact wix_of (ix_dict (hu_of hr)) ⟨a, .int n, rfl, .inl ⟨_, .inr "now", .inl h1, rfl, v.2.1.symm⟩, k _ _ H G S Step.refl (.int n) (q.2 n h4)⟩
      · exact wix_of (ix_dict (hu_of hr)) ⟨a, .int sd, rfl, .inl ⟨_, .inr "seed", .inl h1, rfl, v.2.2.1.symm⟩, k _ _ H G S Step.refl (.int sd) (q.2 sd h5)⟩
      · exact wix_of (ix_dict (hu_of hr)) ⟨a, .int t, rfl, .inl ⟨_, .inr "turn", .inl h1, rfl, v.2.2.2.symm⟩, k _ _ H G S Step.refl (.int t) (q.2 t h6)⟩
    | _ => exact False.elim q
  | _ => exact False.elim q
theorem de_ixB {a b : Expr} {A B : Opn} {k0 : Nat} (hr : Room k0 X.A) (ha : OPN X e a A) (hb : OPN X e b B) (hs : PlainIx b := by exact fun _ _ => rfl) : DE X e (.Subscript a b pos) (dBin ixB A B) :=
  two_ok ha hb (f := fun ta tb => tOp (WIx X) ta tb) (fun ta tb h1 h2 => pe_ix wix_self h1 h2 hs) (fun _ _ _ _ _ => rfl) (opd_ixB hr)
theorem putBox {g : Addr} {a b c n : Int} : putK (boxKv g a b c) (.inr "now") (.int n) = boxKv g n b c ∧ putK (boxKv g a b c) (.inr "seed") (.int n) = boxKv g a n c ∧ putK (boxKv g a b c) (.inr "turn") (.int n) = boxKv g a b n :=
  ⟨rfl, rfl, rfl⟩
def dgBox (i : Nat) (key : Str) : TDG := fun d δ Q => match rdS δ i with | some (.box _) => (match d with | .int n => 0 ≤ n ∧ Q δ | _ => False) | _ => False
theorem dg_box {o : Expr} {i j k0 : Nat} {key : Str} {p2 : Pos} (hr : Room k0 X.A) (ho : PE X o (tVar i)) (hk : key ∈ boxK)
    (ha : ∀ v, assign (.Subscript o (.Constant (.str key) j p2) pos) X.env v = (do
      let ov ← holding [v] (eval o X.env)
      let iv ← holding [v, ov] (eval (.Constant (.str key) j p2) X.env)
      standAt pos
      holding [v, ov, iv] (setItem ov iv v)
      release [v, ov, iv] []) := by intro _; rfl) : DG X e (.Subscript o (.Constant (.str key) j p2) pos) [] (dgBox i key) :=
  pg_imp (pg_sub ho pe_str (set_dict (hu_of hr)) ha) fun v σ H Q ⟨T, G, δ, d, Qd, S, r, q, k⟩ => by
    unfold dgBox at q
    cases hi : rdS δ i with
    | none => rw [hi] at q; exact q.elim
    | some d0 =>
      rw [hi] at q
      cases d0 with
      | box a =>
        cases d with
        | int n =>
          obtain ⟨w, hw, rw'⟩ := rdS_ok S hi
          obtain ⟨rfl, g, hb⟩ := rw'.box
          have hv := r.intI
          subst hv
          obtain ⟨gs, nw, sd, t, h1, h2, h3, h4, h5, h6, h7⟩ := (S.ok.box a g hb).1.at_
          have hag := S.ok.ag hb
          have pb := putBox (g := g) (a := nw) (b := sd) (c := t) (n := n)
          have fin : ∀ kvs', BoxAt (L2.upd H a (.dK kvs')) a g → putK (boxKv g nw sd t) (.inr key) (.int n) = kvs' → gSub (tVar i) (tC (.str key)) rSetD (.int n) σ H Q := fun kvs' hB hp => by
            obtain ⟨S2, st2⟩ := S.boxUpd hb (H' := L2.upd H a (.dK kvs')) (fun x hx _ => upd_ne hx) hB
            refine ⟨_, hw, a, _, rfl, .inl ⟨_, .inr key, h1, rfl, by show (4 : Nat) < _; rw [sizeLine_eq]; decide, rfl⟩, ?_⟩
            rw [hp]
            exact k σ δ G _ S2 st2 Only1.refl q.2
          have q1 : key = "now" ∨ key = "seed" ∨ key = "turn" := by simpa [boxK] using hk
          rcases q1 with rfl | rfl | rfl
          · exact fin _ ⟨gs, n, sd, t, upd_same, by rw [upd_ne (Ne.symm hag)]; exact h2, h3, q.1, h5, h6, h7⟩ pb.1
          · exact fin _ ⟨gs, nw, n, t, upd_same, by rw [upd_ne (Ne.symm hag)]; exact h2, h3, h4, q.1, h6, h7⟩ pb.2.1
          · exact fin _ ⟨gs, nw, sd, n, upd_same, by rw [upd_ne (Ne.symm hag)]; exact h2, h3, h4, h5, q.1, h7⟩ pb.2.2
        | _ => exact q.elim
      | _ => exact q.elim
def dGreat (i : Nat) : TDS := fun F δ => match rdS δ i with | some (.box _) => F.nx δ | _ => False
/-- if box['now'] == 0 and len(box['great']) > 0: box['now'] = box['great'].pop() -/
theorem ds_great {o1 o2 o3 o4 : Expr} {i k0 j1 j2 j3 j4 j5 j6 : Nat} {p1 p2 p3 p4 p5 p6 p7 p8 p9 pa pb pc pd pe pf ph : Pos} (hr : Room k0 X.A) (h1 : PE X o1 (tVar i)) (h2 : PE X o2 (tVar i)) (h3 : PE X o3 (tVar i)) (h4 : PE X o4 (tVar i))
    (hg : Gl X "len") (hm : X.mg "len" = none)
    (hs : starEach [Expr.Subscript o2 (.Constant (.str "great") j3 p5) p6] X.env = (false, eval (.Subscript o2 (.Constant (.str "great") j3 p5) p6) X.env) :: starEach [] X.env := by rfl)
    (hbase : attributeBase (.Subscript o4 (.Constant (.str "great") j6 pc) pd) "pop" X.env (eval (.Subscript o4 (.Constant (.str "great") j6 pc) pd) X.env) = eval (.Subscript o4 (.Constant (.str "great") j6 pc) pd) X.env := by rfl)
    (hline : (pe.endLine == pf.line) = true := by rfl)
    (ha : ∀ v, assign (.Subscript o3 (.Constant (.str "now") j5 pa) pb) X.env v = (do
      let ov ← holding [v] (eval o3 X.env)
      let iv ← holding [v, ov] (eval (.Constant (.str "now") j5 pa) X.env)
      standAt pb
      holding [v, ov, iv] (setItem ov iv v)
      release [v, ov, iv] []) := by intro _; rfl)
    (hs2 : swapsWithSole [.Subscript o3 (.Constant (.str "now") j5 pa) pb] (.Call (.Attribute (.Subscript o4 (.Constant (.str "great") j6 pc) pd) "pop" pe) [] [] pf) ph.line X.env = pure false := by rfl)
    (hw : swappedStores [.Subscript o3 (.Constant (.str "now") j5 pa) pb] (.Call (.Attribute (.Subscript o4 (.Constant (.str "great") j6 pc) pd) "pop" pe) [] [] pf) X.env = pure none := by rfl)
    (hx1 : (assignEach [.Subscript o3 (.Constant (.str "now") j5 pa) pb] X.env).map (·.2) = [assign (.Subscript o3 (.Constant (.str "now") j5 pa) pb) X.env] := by rfl) :
    DS X e (.If (.BoolOp .And [.Compare (.Subscript o1 (.Constant (.str "now") j1 p1) p2) [.Eq] [.Constant (.int 0) j2 p3] p4,
      .Compare (.Call (.Name "len" p7) [.Subscript o2 (.Constant (.str "great") j3 p5) p6] [] p8) [.Gt] [.Constant (.int 0) j4 p9] p4'] p9')
      [.Assign [.Subscript o3 (.Constant (.str "now") j5 pa) pb] (.Call (.Attribute (.Subscript o4 (.Constant (.str "great") j6 pc) pd) "pop" pe) [] [] pf) ph] [] pos)
      (dGreat i) := by
  have e1 := pe_ix (pos := p2) (ix_dict (hu_of hr)) h1 (pe_str (x := "now") (j := j1) (pos := p1)) (fun _ _ => rfl)
  have e2 := pe_ix (pos := p6) (ix_dict (hu_of hr)) h2 (pe_str (x := "great") (j := j3) (pos := p5)) (fun _ _ => rfl)
  have e4 := pe_ix (pos := pd) (ix_dict (hu_of hr)) h4 (pe_str (x := "great") (j := j6) (pos := pc)) (fun _ _ => rfl)
  have c1 := pt_cmpR (pos := p4) op_eq e1 (pe_int (i := 0) (j := j2) (pos := p3)) rfl
  have l2 := pe_callB (p := p7) (pos := p8) call_len hg hm PySem.boot_len (pa_cons e2 pa_nil hs) (by decide) (by decide) hs rfl
  have c2 := pt_cmpR (pos := p4') op_gt l2 (pe_int (i := 0) (j := j4) (pos := p9)) rfl
  have cc := (pw_and (pos := p9') c1 (pw_and1 c2)).pt
  have po := pe_bm0 (apos := pe) (cpos := pf) PySem.F.plainAttrs_list PySem.F.slot_list_pop PySem.F.type_list_pop mt_pop e4 hbase hline
  have as := ps_asg (pos := ph) po (pg_sub h3 (pe_str (x := "now") (j := j5) (pos := pa)) (set_dict (hu_of hr)) ha) hs2 hw hx1
  refine ps_imp (ps_if (pos := pos) cc (pss_one as) pss_nil) fun E σ H ⟨T, G, δ, F, S, q, n, r, b, c⟩ => ?_
  unfold dGreat at q
  cases hi : rdS δ i with
  | none => rw [hi] at q; exact q.elim
  | some d0 =>
    rw [hi] at q
    cases d0 with
    | box a =>
      obtain ⟨w, hw, rw'⟩ := rdS_ok S hi
      obtain ⟨rfl, g, hb⟩ := rw'.box
      obtain ⟨gs, nw, sd, t, k1, k2, k3, k4, k5, k6, k7⟩ := (S.ok.box a g hb).1.at_
      have hag := S.ok.ag hb
      have v := valBox (g := g) (n := nw) (s := sd) (t := t)
      have done : E.nx σ H := n σ δ G H (Le.refl _) S q
      refine ⟨_, hw, a, .int nw, rfl, .inl ⟨_, .inr "now", .inl k1, rfl, v.2.1.symm⟩, rfl, _, rfl, ?_⟩
      show if _ = true then _ else _
      split
      · refine ⟨_, hw, a, .ref g, rfl, .inl ⟨_, .inr "great", .inl k1, rfl, v.1.symm⟩, .ref g, gs.length, rfl, .inl ⟨_, .inl (.inl k2), by simp⟩, _, _, rfl, rfl, _, rfl, ?_⟩
        show if _ = true then _ else _
        split
        · rename_i _ hpos
          have hpos : 0 < gs.length := by simpa using hpos
          have hne : gs ≠ [] := by intro z; subst z; simp at hpos
          have hlast : (gs.map V.int)[(gs.map V.int).length - 1]? = some (.int (gs.getLast hne)) := by
            rw [List.length_map, List.getElem?_map, ← List.getLast?_eq_getElem?, List.getLast?_eq_some_getLast hne]; rfl
          have pb := putBox (g := g) (a := nw) (b := sd) (c := t) (n := gs.getLast hne)
          refine ⟨_, hw, a, .ref g, rfl, .inl ⟨_, .inr "great", .inl k1, rfl, v.1.symm⟩, .inl ⟨rfl, _, .inl (.inl k2)⟩, g, _, _, rfl, rfl, k2, hlast, ?_⟩
          refine ⟨_, hw, a, _, rfl, .inl ⟨_, .inr "now", by rw [upd_ne hag]; exact k1, rfl, by show (4 : Nat) < _; rw [sizeLine_eq]; decide, rfl⟩, ?_⟩
          rw [pb.1]
          obtain ⟨S2, st2⟩ := S.boxUpd hb (H' := L2.upd (L2.upd H g (.lst (gs.map V.int).dropLast)) a (.dK (boxKv g (gs.getLast hne) sd t))) (fun x h1 h2 => by rw [upd_ne h1, upd_ne h2])
            ⟨gs.dropLast, _, sd, t, upd_same, by rw [upd_ne (Ne.symm hag), upd_same, List.map_dropLast], fun x hx => k3 x (List.dropLast_subset _ hx), k3 _ (List.getLast_mem hne), k5, k6, by rw [List.length_dropLast]; omega⟩
          exact n σ δ G _ (Le.refl _) S2 q
        · exact done
      · exact done
    | _ => exact q.elim
/-- a new box -/
def Gh.bx (G : Gh) (p l : Addr) : Gh := { G with B := fun x => if x = p then some l else G.B x }
theorem foot_bx {G : Gh} {p l x : Addr} (h : foot (G.bx p l) x) : x = p ∨ x = l ∨ foot G x := by
  rcases h with ⟨g, h⟩ | ⟨a, h⟩
  · by_cases z : x = p
    · exact .inl z
    · have h : (if x = p then some l else G.B x) = some g := h
      rw [if_neg z] at h
      exact .inr (.inr (.inl ⟨g, h⟩))
  · have h : (if a = p then some l else G.B a) = some x := h
    by_cases z : a = p
    · rw [if_pos z] at h; cases h; exact .inr (.inl rfl)
    · rw [if_neg z] at h
      exact .inr (.inr (.inr ⟨a, h⟩))
theorem SS.newBox {K : PySem.W.Frag} {T : Tm} {G : Gh} {H : Hp} {σ : St} {δ : DSt} {p l : Addr} {dp : D} {gs : List Int} {s : Int} (S : SS K e T G H σ δ) (mp : Mine K e G H p dp) (ap : Apart σ δ T p) (ml : Mine K e G H l (.lst (gs.map D.int))) (al : Apart σ δ T l) (hpl : p ≠ l)
    (h0 : ∀ x ∈ gs, 0 ≤ x) (h5 : gs.length ≤ 50) (hs : 0 ≤ s) : SS K e T (G.bx p l) (L2.upd H p (.dK (boxKv l 0 s 0))) σ δ ∧ Step e G H (G.bx p l) (L2.upd H p (.dK (boxKv l 0 s 0))) := by
  have bB : ∀ a g, (G.bx p l).B a = some g → (a = p ∧ g = l) ∨ (a ≠ p ∧ g ≠ p ∧ a ≠ l ∧ g ≠ l ∧ G.B a = some g) := fun a g h => by
    have h : (if a = p then some l else G.B a) = some g := h
    by_cases z : a = p
    · rw [if_pos z] at h; cases h; exact .inl ⟨z, rfl⟩
    · rw [if_neg z] at h
      exact .inr ⟨z, fun y => mp.nB (y ▸ .inr ⟨a, h⟩), fun y => ml.nB (y ▸ .inl ⟨g, h⟩), fun y => ml.nB (y ▸ .inr ⟨a, h⟩), h⟩
  have le : Le G (G.bx p l) := ⟨Same.refl _, fun a g h => by
    show (if a = p then some l else G.B a) = some g
    have z : a ≠ p := fun z => by subst z; exact mp.nB (.inl ⟨g, h⟩)
    rw [if_neg z]
    exact h⟩
  obtain ⟨vs, hl, rl⟩ := ml.own
  have hl : H l = some (.lst (gs.map V.int)) := by rw [hl, rl.ints]
  have hBox : BoxAt (L2.upd H p (.dK (boxKv l 0 s 0))) p l := ⟨gs, 0, s, 0, upd_same, by rw [upd_ne (Ne.symm hpl)]; exact hl, h0, Int.le_refl _, hs, Int.le_refl _, h5⟩
  have ok : GOk (G.bx p l) (L2.upd H p (.dK (boxKv l 0 s 0))) := by
    refine ⟨fun x o q => ?_, fun a g h => ?_, fun a g a' g' h h' => ?_⟩
    · have q : G.I x = some o := q
      have z : x ≠ p := fun z => by rw [z, mp.nI] at q; cases q
      rw [upd_ne z]
      exact S.ok.sub x o q
    · rcases bB a g h with ⟨rfl, rfl⟩ | ⟨n1, n2, n3, n4, h⟩
      · exact ⟨hBox, mp.nI, ml.nI⟩
      · exact ⟨(S.ok.box a g h).1.keep (upd_ne n1) (upd_ne n2), (S.ok.box a g h).2⟩
    · rcases bB a g h with ⟨rfl, rfl⟩ | ⟨n1, n2, n3, n4, h⟩
      · rcases bB a' g' h' with ⟨rfl, rfl⟩ | ⟨m1, m2, m3, m4, h'⟩
        · exact ⟨hpl, fun _ => rfl⟩
        · exact ⟨Ne.symm m2, fun z => absurd z.symm m4⟩
      · rcases bB a' g' h' with ⟨rfl, rfl⟩ | ⟨m1, m2, m3, m4, h'⟩
        · exact ⟨n3, fun z => absurd z n4⟩
        · exact S.ok.sep a g a' g' h h'
  have st : Step e G H (G.bx p l) (L2.upd H p (.dK (boxKv l 0 s 0))) := by
    have z : ∀ x, (e.H x).isSome = true → x ≠ p := fun x h z => by rw [z, mp.new] at h; cases h
    refine ⟨le, fun x h _ => upd_ne (z x h), fun _ _ h => h, fun x h n f => ?_, fun x h q => by rw [upd_ne (z x h)]; exact q⟩
    rcases foot_bx f with y | y | f
    · exact z x h y
    · rw [y, ml.new] at h; cases h
    · exact n f
  refine ⟨⟨S.ln, ok, S.stp.trans st, S.s.len, fun i s' hs' => ?_, S.s.sep⟩, st⟩
  obtain ⟨o, h1, h2⟩ := S.s.sl i s' hs'
  refine ⟨o, h1, ?_⟩
  cases s' with
  | no => exact h2
  | im d => obtain ⟨v, rfl, r⟩ := h2; exact ⟨v, rfl, r.mono le⟩
  | ow d =>
    obtain ⟨m, rfl, mm⟩ := h2
    have n1 : m ≠ p := fun z => ap i d hs' (z ▸ h1)
    have n2 : m ≠ l := fun z => al i d hs' (z ▸ h1)
    refine ⟨m, rfl, mm.own.mono le (upd_ne n1), mm.nI, fun f => ?_, mm.new⟩
    rcases foot_bx f with z | z | f
    · exact n1 z
    · exact n2 z
    · exact mm.nB f
def dBoxNew (tg ts : TDE) : TDE := fun δ Q => tg δ fun d δ1 => ∃ gs : List Int, d = .lst (gs.map D.int) ∧ (∀ x ∈ gs, 0 ≤ x) ∧ gs.length ≤ 50 ∧ ts δ1 fun d2 δ2 => ∃ s : Int, d2 = .int s ∧ 0 ≤ s ∧ ∀ a, Q (.box a) δ2
theorem de_boxNew {eg es : Expr} {tg ts : TDE} {j1 j2 j3 j4 j5 j6 : Nat} {p1 p2 p3 p4 p5 p6 : Pos} (hg : DO X e eg tg) (hs : DE X e es ts) :
    DE X e (.Dict [some (.Constant (.str "great") j1 p1), some (.Constant (.str "now") j2 p2), some (.Constant (.str "seed") j3 p3), some (.Constant (.str "turn") j4 p4)] [eg, .Constant (.int 0) j5 p5, es, .Constant (.int 0) j6 p6] pos) (dBoxNew tg ts) :=
  pe_imp (pe_disp (pps_cons pe_str hg (pps_cons pe_str pe_int (pps_cons pe_str hs (pps_cons pe_str pe_int pps_nil)))) rfl rfl (by simp) (show (4 : Nat) ≤ 15 by decide)) fun σ H Q ⟨T, G, δ, Qd, S, q, k⟩ => by
    intro p hp
    obtain ⟨S1, st1, nI, nB, new, ap⟩ := S.new (o := .dK []) hp
    have S1' := S1.hold (l := p) (d := .dct []) ⟨⟨[], upd_same, rfl, .nil, fun _ h => nomatch h⟩, nI, nB, new⟩ ap
    refine ⟨T.push p (.dct []), G, δ, _, S1', q, fun l d H2 G2 δ2 S2 st2 m2 ap2 q2 => ?_⟩
    obtain ⟨gs, rfl, g0, g5, q2⟩ := q2
    have S2' := S2.hold m2 ap2
    refine ⟨(T.push p (.dct [])).push l _, G2, δ2, _, S2', q2, fun v d2 H3 G3 δ3 S3 st3 r3 q3 => ?_⟩
    obtain ⟨s, rfl, s0, q3⟩ := q3
    have hv := r3.intI
    subst hv
    obtain ⟨S4, ml, al⟩ := S3.drop
    obtain ⟨S5, mp, ap5⟩ := S4.drop
    have hpl : p ≠ l := fun z => by
      have := al (δ3.length + T.d.length) (.dct []) (by simp [Tm.push]) 
      apply this
      have hln := S4.s.len
      have hl3 := S4.ln
      subst z
      have e1 : σ.length + T.v.length = δ3.length + T.d.length := by simp [Tm.push] at hln; omega
      rw [← e1]
      simp [Tm.push]
    have al5 : Apart σ δ3 T l := fun i d hi => by
      have hlt := lt_of_get hi
      have := al i d (by show (δ3 ++ (T.d ++ [_]))[i]? = _; rw [← List.append_assoc, get_l hlt]; exact hi)
      intro z
      apply this
      show (σ ++ (T.v ++ [_]))[i]? = _
      rw [← List.append_assoc, get_l (lt_of_get z)]
      exact z
    obtain ⟨kvs, hk, ek, _⟩ := mp.own
    have : kvs = [] := by simpa using ek
    subst this
    obtain ⟨S6, st6⟩ := S5.newBox mp ap5 ml al5 hpl g0 g5 s0
    refine ⟨hk, boxKv l 0 s 0, rfl, by show (4 : Nat) ≤ 15; decide, ?_⟩
    exact k _ (.box p) _ _ δ3 S6 (((st1.trans st2).trans st3).trans st6) (.box (g := l) (by show (if p = p then some l else _) = _; rw [if_pos rfl])) (q3 p)
end
end T

namespace T
open PySem L2

section
variable {X : Cx} {e : Ent} {pos : Pos}
def tyN : D → Option String
  | .non => some "NoneType"
  | .bl _ => some "bool"
  | .int _ => some "int"
  | .str _ => some "str"
  | .tup _ => some "tuple"
  | .lst _ => some "list"
  | .dct _ => some "dict"
  | .dtp _ => some "dict"
  | _ => none
theorem tyN_ok {K : PySem.W.Frag} {G : Gh} {H : Hp} {v : V} {d : D} {n : String} (ok : GOk G H) (r : Rep K G v d) (h : tyN d = some n) : TyX K H v (.type n) := by
  cases r with
  | non => cases h; exact .base .non
  | bl b => cases h; exact .base (.bl b)
  | int i => cases h; exact .base (.int i)
  | str q => cases h; exact .base (.str _)
  | tup q _ => cases h; exact .base (.tup (ok.sub _ _ q))
  | lst q _ => cases h; exact .base (.lst (ok.sub _ _ q))
  | dct q _ _ _ => cases h; exact .base (.dK (ok.sub _ _ q))
  | dtp q _ _ _ => cases h; exact .base (.dT (ok.sub _ _ q))
  | _ => cases h
def isiD : D → D → (D → Prop) → Prop
  | a, .ty n, Q => (match tyN a with | some t => (match kitB t n with | some b => Q (.bl b) | none => False) | none => False)
  | _, _, _ => False
theorem isiD_inv {a b : D} {Q : D → Prop} (h : isiD a b Q) : ∃ n t c, b = .ty n ∧ tyN a = some t ∧ kitB t n = some c ∧ Q (.bl c) := by
  cases b with
  | ty n =>
    cases ht : tyN a with
    | none => simp only [isiD, ht] at h
    | some t =>
      cases hc : kitB t n with
      | none => simp only [isiD, ht, hc] at h
      | some c => simp only [isiD, ht, hc] at h; exact ⟨n, t, c, rfl, rfl, hc, h⟩
  | _ => exact h.elim
theorem Rep.tyI {K : PySem.W.Frag} {G : Gh} {v : V} {n : String} (r : Rep K G v (.ty n)) : v = .ty n := by cases r; rfl
theorem de_isi {a b : Expr} {t u : TDE} {p : Pos} (ha : DE X e a t) (hb : DE X e b u) (hg : Gl X "isinstance") (hm : X.mg "isinstance" = none) (hs : starEach (a :: [b]) X.env = (false, eval a X.env) :: starEach [b] X.env := by rfl) (hs2 : starEach (b :: []) X.env = (false, eval b X.env) :: starEach [] X.env := by rfl) (hpl : (backTo pos (starEach [b] X.env)).any (·.1) = false := by rfl) :
    DE X e (.Call (.Name "isinstance" p) [a, b] [] pos) (dB2 isiD t u) :=
  pe_imp (pe_callB call_isi hg hm (by decide +kernel) (pa_cons ha (pa_cons hb pa_nil hs2) hs) (he := hs) (hpl := hpl)) fun σ H Q ⟨T, G, δ, Qd, S, q, k⟩ => ⟨T, G, δ, _, S, q, fun v d H1 G1 δ1 S1 st1 r1 q1 => ⟨T, G1, δ1, _, S1, q1, fun v2 d2 H2 G2 δ2 S2 st2 r2 q2 => by
    obtain ⟨n, t, c, rfl, h1, h2, q2⟩ := isiD_inv q2
    have e2 := r2.tyI
    subst e2
    exact ⟨v, _, .type t, .type n, c, rfl, .ty n, tyN_ok S2.ok (r1.mono st2.le) h1, kit_ty h2, k _ _ H2 G2 δ2 S2 (st1.trans st2) (.bl c) q2⟩⟩⟩
end
end T

namespace T
open PySem L2

section
variable {X : Cx} {e : Ent} {pos : Pos}
/-! ### fields -/
theorem look_rep {K : PySem.W.Frag} {G : Gh} {f : Str} {d : D} : ∀ {fvs : List (Str × V)} {fds : List (Str × D)}, fvs.map (·.1) = fds.map (·.1) → RepL K G (fvs.map (·.2)) (fds.map (·.2)) → fds.lookup f = some d → ∃ v, fvs.lookup f = some v ∧ Rep K G v d
  | [], [], _, _, h => by cases h
  | (a, v) :: r, (b, x) :: s, e1, r1, h => by
    simp only [List.map_cons, List.cons.injEq] at e1
    obtain ⟨rfl, e1⟩ := e1
    cases r1 with
    | cons h1 h2 =>
      rw [List.lookup_cons] at h ⊢
      cases hb : (f == a) with
      | true => rw [hb] at h; cases h; exact ⟨v, rfl, h1⟩
      | false => rw [hb] at h; exact look_rep e1 h2 h
def putFD (f : Str) (v : D) : List (Str × D) → List (Str × D)
  | [] => [(f, v)]
  | (g, x) :: r => if g = f then (g, v) :: r else (g, x) :: putFD f v r
theorem put_rep {K : PySem.W.Frag} {G : Gh} {f : Str} {v : V} {d : D} (hv : Rep K G v d) : ∀ {fvs : List (Str × V)} {fds : List (Str × D)}, fvs.map (·.1) = fds.map (·.1) → RepL K G (fvs.map (·.2)) (fds.map (·.2)) →
    (putF f v fvs).map (·.1) = (putFD f d fds).map (·.1) ∧ RepL K G ((putF f v fvs).map (·.2)) ((putFD f d fds).map (·.2))
  | [], [], _, _ => ⟨rfl, .one hv⟩
  | (a, w) :: r, (b, x) :: s, e1, r1 => by
    simp only [List.map_cons, List.cons.injEq] at e1
    obtain ⟨rfl, e1⟩ := e1
    cases r1 with
    | cons h1 h2 =>
      rw [putF, putFD]
      by_cases z : a = f
      · rw [if_pos z, if_pos z]
        exact ⟨by simp [e1], .cons hv h2⟩
      · rw [if_neg z, if_neg z]
        obtain ⟨q1, q2⟩ := put_rep hv e1 h2
        exact ⟨by simp [q1], .cons h1 q2⟩
def insOf : D → Option (Str × List (Str × D))
  | .ins C fs => some (C, fs)
  | .self _ C fs => some (C, fs)
  | _ => none
theorem insOf_ok {K : PySem.W.Frag} {G : Gh} {H : Hp} {v : V} {d : D} {C : Str} {fs : List (Str × D)} (ok : GOk G H) (r : RdO K G H v d) (h : insOf d = some (C, fs)) : ∃ p dx fvs, v = .ref p ∧ H p = some (.ins (He.ga K C) dx fvs) ∧ fvs.map (·.1) = fs.map (·.1) ∧ RepL K G (fvs.map (·.2)) (fs.map (·.2)) := by
  rcases r with r | ⟨l, rfl, r⟩
  · cases r with
    | ins q e1 r1 => cases h; exact ⟨_, _, _, rfl, ok.sub _ _ q, e1, r1⟩
    | self q e1 r1 => cases h; exact ⟨_, _, _, rfl, ok.sub _ _ q, e1, r1⟩
    | _ => cases h
  · cases d with
    | ins C' fs' => cases h; obtain ⟨dx, fvs, q, e1, r1⟩ := r; exact ⟨l, dx, fvs, rfl, q, e1, r1⟩
    | self x C' fs' => cases h; obtain ⟨_, dx, fvs, q, e1, r1⟩ := r; exact ⟨l, dx, fvs, rfl, q, e1, r1⟩
    | _ => cases h
def fldD (f : Str) (cs : List Str) (a : D) (Q : D → Prop) : Prop := match insOf a with
  | some (C, fs) => C ∈ cs ∧ (match fs.lookup f with | some d => Q d | none => False)
  | none => False
/-- what the text must have for a field of these classes -/
def FldOk (K : PySem.W.Frag) (f : Str) (cs : List Str) : Prop := ∀ C ∈ cs, Cls K (He.ga K C) ∧ NoAttr K (He.ga K C) f
theorem de_fld {a : Expr} {A : Opn} {f : Str} {cs : List Str} (ha : OPN X e a A) (hc : FldOk X.K f cs) (hb : attributeBase a f X.env (eval a X.env) = eval a X.env := by rfl) : DE X e (.Attribute a f pos) (dB1 (fldD f cs) A) :=
  one_ok ha (r := fun x H Q => ∃ a C dx fs v, x = .ref a ∧ H a = some (.ins C dx fs) ∧ Cls X.K C ∧ NoAttr X.K C f ∧ fs.lookup f = some v ∧ Q v H) (f := fun ta => L2.tFld X.K ta f) (fun ta h => pe_fld h hb) (fun _ _ _ _ h => h) fun T G H σ δ x a Qd Q S ra q k => by
    unfold fldD at q
    cases hi : insOf a with
    | none => rw [hi] at q; exact q.elim
    | some cf =>
      obtain ⟨C, fs⟩ := cf
      rw [hi] at q
      obtain ⟨hC, q⟩ := q
      cases hl : fs.lookup f with
      | none => rw [hl] at q; exact q.elim
      | some d =>
        rw [hl] at q
        obtain ⟨p, dx, fvs, rfl, hp, e1, r1⟩ := insOf_ok S.ok ra hi
        obtain ⟨v, hv, rv⟩ := look_rep e1 r1 hl
        exact ⟨p, _, dx, fvs, v, rfl, hp, (hc C hC).1, (hc C hC).2, hv, k v d H G S Step.refl rv q⟩
def dFldSet (i : Nat) (f : Str) (cs : List Str) (t : TDE) : TDS := fun F δ => t δ fun d δ1 => match δ1[i]? with
  | some (.ow (.ins C fs)) => C ∈ cs ∧ fs.length < 1000 ∧ F.nx (δ1.set i (.ow (.ins C (putFD f d fs))))
  | some (.ow (.self x C fs)) => C ∈ cs ∧ fs.length < 1000 ∧ F.nx (δ1.set i (.ow (.self x C (putFD f d fs))))
  | _ => False
theorem ds_fld {o value : Expr} {i : Nat} {f : Str} {cs : List Str} {t : TDE} {pos' : Pos} (ho : PE X o (tVar i)) (hv : DE X e value t) (hc : FldOk X.K f cs) (hs : swapsWith value (some (.Attribute o f pos')) pos.line X.env = pure false := by rfl) :
    DS X e (.Assign [.Attribute o f pos'] value pos) (dFldSet i f cs t) :=
  ps_imp (ps_fld ho hv hs) fun E σ H ⟨T, G, δ, F, S, q, n, r, b, c⟩ => ⟨T, G, δ, _, S, q, fun v d H1 G1 δ1 S1 st1 rd q1 => by
    cases hs1 : δ1[i]? with
    | none => rw [hs1] at q1; exact q1.elim
    | some sl =>
      rw [hs1] at q1
      cases sl with
      | no => exact q1.elim
      | im _ => exact q1.elim
      | ow dd =>
        obtain ⟨o', h1, l, rfl, m⟩ := S1.sl i _ hs1
        cases dd with
        | ins C fs =>
          obtain ⟨dx, fvs, hl, e1, r1⟩ := m.own
          obtain ⟨p1, p2⟩ := put_rep (f := f) rd e1 r1
          obtain ⟨S2, st2⟩ := S1.write (d' := .ins C (putFD f d fs)) (o := .ins (He.ga X.K C) dx (putF f v fvs)) hs1 h1 ⟨dx, _, upd_same, p1, p2⟩
          have hlen : fvs.length = fs.length := by have := congrArg List.length e1; simpa using this
          exact ⟨_, h1, l, _, dx, fvs, rfl, hl, (hc C q1.1).1, (hc C q1.1).2, by rw [hlen]; exact q1.2.1, n _ _ G1 _ (st1.le.trans st2.le) S2 q1.2.2⟩
        | self x C fs =>
          obtain ⟨ex, dx, fvs, hl, e1, r1⟩ := m.own
          obtain ⟨p1, p2⟩ := put_rep (f := f) rd e1 r1
          obtain ⟨S2, st2⟩ := S1.write (d' := .self x C (putFD f d fs)) (o := .ins (He.ga X.K C) dx (putF f v fvs)) hs1 h1 ⟨ex, dx, _, upd_same, p1, p2⟩
          have hlen : fvs.length = fs.length := by have := congrArg List.length e1; simpa using this
          exact ⟨_, h1, l, _, dx, fvs, rfl, hl, (hc C q1.1).1, (hc C q1.1).2, by rw [hlen]; exact q1.2.1, n _ _ G1 _ (st1.le.trans st2.le) S2 q1.2.2⟩
        | _ => exact q1.elim⟩
/-! ### instances made -/
abbrev SpI := List D → (List (Str × D) → Prop) → Prop
def toSpI (K : PySem.W.Frag) (C : Str) (sd : SpI) : Sp := fun vs H Q _ => ∃ (G : Gh) (H0 : Hp) (x dx : Addr) (vs' : List V) (ds : List D) (Qd : List (Str × D) → Prop), vs = .ref x :: vs' ∧ H = L2.upd (L2.upd H0 dx (.own x)) x (.ins (He.ga K C) dx []) ∧ H0 x = none ∧ H0 dx = none ∧ dx ≠ x ∧
  GOk G H0 ∧ RepL K G vs' ds ∧ sd ds Qd ∧ ∀ fs G' H', GOk G' H' → Step ⟨G, H0⟩ G H0 G' H' → Mine K ⟨G, H0⟩ G' H' x (.ins C fs) → Qd fs → Q .non H'
def startI (n : Nat) (x : Addr) (C : Str) (ds : List D) : DSt := (startD n (.ref x :: ds)).set 0 (.ow (.self x C []))
theorem start_ssI {K : PySem.W.Frag} {G : Gh} {H0 : Hp} {x dx : Addr} {C : Str} {vs : List V} {ds : List D} {N : List Str} (ok : GOk G H0) (r : RepL K G vs ds) (nx : H0 x = none) (ndx : H0 dx = none) (ne : dx ≠ x) :
    SS K ⟨G, H0⟩ .nil G (L2.upd (L2.upd H0 dx (.own x)) x (.ins (He.ga K C) dx [])) (L2.start N (.ref x :: vs)) (startI N.length x C ds) := by
  have S0 := start_ss (K := K) (N := N) ok (.cons (.ref x) r : RepL K G (.ref x :: vs) (.ref x :: ds))
  obtain ⟨S1, _⟩ := S0.new (p := dx) (o := .own x) ndx
  have nx2 : L2.upd H0 dx (.own x) x = none := by rw [upd_ne (Ne.symm ne)]; exact nx
  obtain ⟨S2, _, nI, nB, new, ap⟩ := S1.new (p := x) (o := .ins (He.ga K C) dx []) nx2
  have S3 := S2.asgO (i := 0) (l := x) (d := .self x C []) ⟨⟨rfl, dx, [], upd_same, rfl, .nil⟩, nI, nB, new⟩ ap
  have e1 : (L2.start N (.ref x :: vs)).set 0 (some (.ref x)) = L2.start N (.ref x :: vs) := rfl
  rw [e1] at S3
  exact S3
/-- THE RULE for an __init__ -/
theorem fn_i {P : Program} {w : World} {K : PySem.W.Frag} {mg : Str → Option Value} {base : Heap} {x qual : Str} {params : Arguments} {body : List Stmt} {scope : Scope} {dvs : List V} {kws : List (Str × V)} {f : Addr} {fd : FuncData} {N ps : List Str} {k : Nat} {C : Str} {sd : SpI} {t : TDS}
    (F : FunD K x qual params body scope dvs kws f fd) (S : FnScope N ps scope) (len : ∀ ds Q, sd ds Q → ds.length + 1 = ps.length)
    (hb : ∀ (cdv : Value) (A : Around) (outer : List Env) (s : Shared) (H : Hp) (E : XK) (e : Ent), Room k (A.deeper (PyProof.Rows.envOfC qual scope s.heap.objs.size f cdv)) → DSs (cxF P w K mg base N qual scope f cdv A outer s H E) e body t)
    (hp : ∀ y ds Q, sd ds Q → t { nx := fun δ => ∃ fs, δ[0]? = some (.ow (.self y C fs)) ∧ Q fs, rt := fun _ _ => False } (startI N.length y C ds)) : FnOk P w K mg base CX0 (k + 1) f fd ps (toSpI K C sd) := by
  refine F.ok S (fun vs H Q E h => ?_) (fun cdv A outer s H vs Q E hr h => ?_)
  · obtain ⟨G, H0, y, dy, vs', ds, Qd, rfl, rfl, _, _, _, ok, r, q, _⟩ := h
    rw [List.length_cons, r.length]
    exact len ds Qd q
  · obtain ⟨G, H0, y, dy, vs', ds, Qd, rfl, rfl, ny, ndy, ne, ok, r, q, kk⟩ := h
    refine ⟨_, PSs.nox (hb cdv A outer s _ E ⟨G, H0⟩ hr), .nil, G, startI N.length y C ds, _, start_ssI ok r ny ndy ne, hp y ds Qd q, fun σ' δ' G' H' le S' q' => ?_, fun _ _ _ _ _ _ _ _ q' => q'.elim, fun _ _ _ _ _ _ q' => q'.elim, fun _ _ _ _ _ _ q' => q'.elim⟩
    obtain ⟨fs, hδ, qf⟩ := q'
    obtain ⟨o, h1, l, rfl, m⟩ := S'.sl 0 _ hδ
    obtain ⟨rfl, own⟩ := m.own
    exact kk fs G' H' S'.ok S'.stp ⟨own, m.nI, m.nB, m.new⟩ qf
structure CalI (P : Program) (w : World) (K : PySem.W.Frag) (mg : Str → Option Value) (base : Heap) (k : Nat) (C : Str) (sd : SpI) : Prop where
  ex : ∃ f fd ps, FnOk P w K mg base CX0 k f fd ps (toSpI K C sd) ∧ mg C = some (.ref (He.ga K C)) ∧ Mk K (He.ga K C) f ∧ Binds K fd ps []
def dNew (C : Str) (sd : SpI) (t : TDA) : TDE := fun δ Q => t δ fun ds δ1 => sd ds fun fs => Q (.ins C fs) δ1
theorem do_new {k j : Nat} {C : Str} {sd : SpI} {a : Expr} {es : List Expr} {t : TDA} {p : Pos} (c : CalI X.prog X.w X.K X.mg X.base k C sd) (hr : Room j X.A) (hk : k + 1 ≤ j) (hg : Gl X C) (ha : DA X e (a :: es) t)
    (hd : (C == ("__debug__" : Str)) = false := by decide) (he : starEach (a :: es) X.env = (false, eval a X.env) :: starEach es X.env := by rfl) (hpl : (backTo pos (starEach es X.env)).any (·.1) = false := by rfl) : DO X e (.Call (.Name C p) (a :: es) [] pos) (dNew C sd t) := by
  obtain ⟨f, fd, ps, F, hm, M, hb⟩ := c.ex
  refine pe_imp (pe_make M F (hr.mono hk) hg hm hb .nil pass0 ha hd he hpl) fun σ H Q ⟨T, G, δ, Qd, S, q, k⟩ => ?_
  refine ⟨T, G, δ, _, S, q, fun vs ds H1 G1 δ1 S1 st1 r len q1 x dx nx ndx ne => ?_⟩
  refine ⟨G1, H1, x, dx, vs, ds, _, by rw [List.append_nil], rfl, nx, ndx, ne, S1.ok, r, q1, fun fs G' H' ok c m qd => ⟨rfl, ?_⟩⟩
  obtain ⟨S2, st2⟩ := S1.after ok c
  have ap := (S1.new (p := x) (o := .own x) nx).2.2.2.2.2
  exact k x (.ins C fs) H' G' δ1 S2 (st1.trans st2) ⟨m.own, m.nI, m.nB, S1.s.eNone nx⟩ ap qd
/-! ### methods and properties -/
theorem Rep.toIns {K : PySem.W.Frag} {G : Gh} {v : V} {d : D} {C : Str} {fs : List (Str × D)} (r : Rep K G v d) (h : insOf d = some (C, fs)) : Rep K G v (.ins C fs) := by
  cases r with
  | ins q e1 r1 => cases h; exact .ins q e1 r1
  | self q e1 r1 => cases h; exact .ins q e1 r1
  | _ => cases h
def dMeth (C m : Str) (sd : SpD) (ta : TDE) (t : TDA) : TDE := fun δ Q => ta δ fun d δ1 => match insOf d with
  | some (C', fs) => C' = C ∧ fs.lookup m = none ∧ t δ1 fun ds δ2 => sd (.ins C fs :: ds) fun z => Q z δ2
  | none => False
theorem meth_go {C : Str} {sd : SpD} {T : Tm} {G G1 : Gh} {H H1 : Hp} {σ : St} {δ1 : DSt} {v : V} {vs : List V} {ds : List D} {fs : List (Str × D)} {Qd : D → DSt → Prop} {Q : VK} (S1 : SS X.K e T G1 H1 σ δ1) (st : Step e G H G1 H1) (rv : Rep X.K G1 v (.ins C fs)) (rs : RepL X.K G1 vs ds)
    (q : sd (.ins C fs :: ds) fun z => Qd z δ1) (k : ∀ v d H' G' δ', SS X.K e T G' H' σ δ' → Step e G H G' H' → Rep X.K G' v d → Qd d δ' → Q v H') : toSp X.K sd (v :: (vs ++ [])) H1 Q E0 := by
  rw [List.append_nil]
  exact ⟨G1, .ins C fs :: ds, _, S1.ok, .cons rv rs, q, fun d' v' G' H' ok c rep qd => by
    obtain ⟨S2, st2⟩ := S1.after ok c
    exact k v' d' H' G' δ1 S2 (st.trans st2) rep qd⟩
def dProp (C : Str) (sd : SpD) (ta : TDE) : TDE := fun δ Q => ta δ fun d δ1 => match insOf d with
  | some (C', fs) => C' = C ∧ sd [.ins C fs] fun z => Q z δ1
  | none => False
end
end T

namespace PySem
theorem meets_enum1 {v : Value} {ob : Obj} {Hs : Heap → Prop} (B : Begins v ob Hs) :
    Meets (Builtin.«enumerate.__new__» ⟨[.type "enumerate", v], []⟩) (fun _ R s => Hs s.heap ∧ R (.ok (.ret (.ref (s.heap.push ob).objs.size)))
      { s with heap := (s.heap.push ob).push { cls := .type "enumerate", data := .fields #[.none, .bool false, .ref s.heap.objs.size, rawInt 0, .none, .none] } }) :=
  .of_wp fun prog w A R s ⟨h1, h⟩ => by
    obtain ⟨hp, g, d, tk, os⟩ := s
    have zz := sub_enumerate
    have go : ∀ {A' : Around} {E : Value → Shared → Prop} {Q : Value → Shared → Prop}, Q (.ref hp.objs.size) ⟨hp.push ob, g, d, tk, os⟩ → wpAny (model prog w) A' (pyIter v) Q E ⟨hp, g, d, tk, os⟩ := fun q => B.iter prog w _ _ ⟨hp, g, d, tk, os⟩ _ h1 q
    wp_walk using go
    refine wpAny_stack_any fun _ => wpAny_pure ?_
    split
    · rename_i c _ _ _ _ _
      cases (c == Value.type "enumerate") <;> (wp_walk using go; exact ⟨_, rfl, h⟩)
    · wp_walk using go
      exact ⟨_, rfl, h⟩
end PySem
namespace T
open PySem L2
theorem call_enum1 {prog : Program} {w : World} {A : Around} {E : Value → Shared → Prop} {s : Shared} {v : Value} {ob : Obj} {Hs : Heap → Prop} {Q : Value → Shared → Prop} (B : Begins v ob Hs) (h1 : Hs s.heap)
    (h : ∀ h', IsEnum h' (s.heap.objs.size + 1) s.heap.objs.size 0 .none → h'.get? s.heap.objs.size = some ob → (∀ b o, s.heap.get? b = some o → h'.get? b = some o) → Q (.ref (s.heap.objs.size + 1)) { s with heap := h' }) :
    wpAny (model prog w) A (call (.type "enumerate") [v]) Q E s := by
  refine callType_new F.called_enumerate (by decide) (F.typeCall_enumerate_1 _) (F.newCall_enumerate_1 _) (fun z => F.args_object_init_2 z _) F.entry_enumerate_new (meets_enum1 B) ⟨h1, ?_⟩
  have hz : (s.heap.push ob).objs.size = s.heap.objs.size + 1 := Heap.size_push ..
  show _ ∧ _
  rw [hz]
  have he := Heap.get?_push_size (s.heap.push ob) (o := { cls := .type "enumerate", data := .fields #[.none, .bool false, .ref s.heap.objs.size, rawInt 0, .none, .none] }) rfl
  rw [hz] at he
  exact ⟨⟨_, he, rfl⟩, h _ he (Heap.get?_push_of_some _ (Heap.get?_push_size _ B.free)) fun b o x => Heap.get?_push_of_some _ (Heap.get?_push_of_some _ x)⟩
/-- enumerate of the tuple at a, whose items are xs -/
def Iet (K : PySem.W.Frag) (a : Addr) (xs : List V) : It :=
  ⟨fun i H => SqT K H a xs ∧ i < xs.length, fun i H v H' => ∃ t x, v = .ref t ∧ H t = none ∧ H' = L2.upd H t (.tup [.int (i : Nat), x]) ∧ xs[i]? = some x, fun i H => SqT K H a xs ∧ xs.length ≤ i⟩
theorem turn_enumT {P : Program} {w : World} {K : PySem.W.Frag} {elts : List Expr} {kk : Nat} {tpos : Pos} {xs : List V} (a e it : Addr) :
    Turn P w K (.Tuple elts kk tpos) (Iet K a xs) [e, it] e (fun i h => (∃ old, IsEnum h e it ((i : Nat) : Int) old) ∧ h.IsTupleIter it a i ∧ e ≠ it) where
  mem := List.mem_cons_self
  obj := fun i h ⟨⟨old, he⟩, ⟨o, ho, _, hd⟩, _⟩ b hb => by
    rcases List.mem_cons.mp hb with rfl | hb
    · exact ⟨_, he, fun v q => nomatch q⟩
    · rw [List.mem_singleton] at hb
      subst hb
      exact ⟨o, ho, fun v q => by rw [hd] at q; cases q⟩
  keep := fun i h h' ⟨⟨old, he⟩, hi, hne⟩ k => ⟨⟨old, k e List.mem_cons_self _ he⟩, hi.at fun o q => k it (by simp) o q, hne⟩
  item := by
    rintro X rfl rfl rfl hc i pins s σ H E I hf ⟨⟨old, he⟩, hit, hne⟩ ⟨hq, hlt⟩
    obtain ⟨its, rv, pt, hz⟩ := I.tuple hq
    have hel := Heap.lt_size he
    have hil : it < s.heap.objs.size := by obtain ⟨_, q, _⟩ := hit; exact Heap.lt_size q
    have hlen := rv.length
    have ai : a ≠ it := fun z => by
      subst z
      obtain ⟨o1, q1, c1, _⟩ := hit
      obtain ⟨o2, q2, c2, _⟩ := pt
      rw [q1] at q2; cases q2
      rw [c1] at c2; exact absurd c2 (by decide)
    have ae : e ≠ a := fun z => by
      subst z
      obtain ⟨o2, q2, c2, _⟩ := pt
      have he' : s.heap.get? e = _ := he
      rw [he'] at q2; cases q2
      have c3 : (Value.type "enumerate") = Value.type "tuple" := c2
      exact absurd c3 (by decide)
    have D := Draws.tuple (prog := X.prog) (w := X.w) (A := X.A.in1) (I.ok.hd hc) it a ai its.toArray
    refine wpAny_pyNext_enum_itemD (i := i) D he ⟨hit, pt⟩ (by simp; omega) hne (by simp [hne, ae]) fun u h' tk hu ho st' hT hsz hk => ?_
    refine ⟨_, rfl, wpAny_letOwnedTupleGo_enum (s := { s with heap := h', toks := tk + 1 }) ho fun h'' he' sb => ?_⟩
    obtain ⟨x, hx⟩ : ∃ x, xs[i]? = some x := ⟨_, List.getElem?_eq_getElem hlt⟩
    obtain ⟨u2, hu2, ru⟩ := rv.get hx
    have eu : u = u2 := by
      have hu : its.toArray[i]? = some u := hu
      simp at hu
      rw [hu2] at hu
      cases hu; rfl
    subst eu
    have hT2 : h''.get? s.heap.objs.size = some { cls := .type "tuple", data := .seq #[.int i tk, u] } := (sb.2 _ (Nat.ne_of_gt hel)).trans hT
    have new : ObjOk X.prog X.w (L2.upd H s.heap.objs.size (.tup [.int (i : Nat), x])) h'' s.heap.objs.size (.tup [.int (i : Nat), x]) := ⟨by show 2 ≤ sizeLine; decide, [.int i tk, u], .cons ⟨_, rfl⟩ (.cons ru .nil), ⟨_, hT2, rfl, _, rfl⟩⟩
    have I1 : Inv X pins σ (L2.upd H s.heap.objs.size (.tup [.int (i : Nat), x])) { s with heap := h'', toks := tk + 1 } :=
      I.turnedNew (ch := [e, it]) (fun b ob hb q => (sb.2 b fun z => hb (z ▸ List.mem_cons_self)).trans (hk b ob (fun z => hb (z ▸ List.mem_cons_self)) (fun z => hb (by simp [z])) q)) hf (Nat.le_refl _) new
    have e1 : ((i + 1 : Nat) : Int) = (i : Int) + 1 := by omega
    have he2 : IsEnum h'' e it ((i + 1 : Nat) : Int) u := by rw [e1]; exact he'
    refine ⟨.ref s.heap.objs.size, _, I1, rfl, ⟨_, x, rfl, I.hok.fresh (Nat.le_refl _), rfl, hx⟩, ⟨⟨u, he2⟩, st'.1.at fun o q => (sb.2 it (Ne.symm hne)).trans q, hne⟩, fun b hb => ?_⟩
    have hb' : b < s.heap.objs.size := by
      rcases List.mem_cons.mp hb with rfl | hb
      · exact hel
      · rw [List.mem_singleton] at hb; subst hb; exact hil
    rw [upd_ne (Nat.ne_of_lt hb')]
    exact (hf b hb).1
  done := by
    rintro X rfl rfl rfl hc i pins s σ H E I hf ⟨⟨old, he⟩, hit, hne⟩ ⟨hq, hlt⟩
    obtain ⟨its, rv, pt, hz⟩ := I.tuple hq
    have hlen := rv.length
    obtain ⟨f0, f1, f2, f3, f4, f5⟩ := hf it (by simp)
    have hT : s.TypeIs (.ref e) "enumerate" := ⟨_, he, rfl⟩
    unfold pyNext
    refine wpAny_bind (wpAny_attempt (wpAny_callSpecial?_slot (name := Str.ofString "__next__") hT F.slot_enumerate_next (wpAny_call_entry F.slot_enumerate_next hT F.entry_enumerate_next ?_ (F.args_enumerate_next_1 _))))
    show wpAny _ _ (field (.ref e) 2 >>= _) _ _ _
    refine wpAny_bind (wpAny_field he rfl (x := .ref it) rfl (wpAny_bind (wpAny_nextOf_tuple_end (I.ok.hd hc) hit pt (by simp; omega) fun h' x he' hx' => ?_)))
    obtain ⟨o, ho, hcl⟩ := hx'
    refine wpAny_bind (wpAny_isInstance (T := "StopIteration") (b := true) ⟨o, ho, hcl⟩ isSubtype_stop ?_)
    exact wpAny_pure ⟨rfl, I.turned (t' := s.toks) (fun b o hb q => he' b o hb q) f0 f1 f3 f4 f5⟩
  self := fun A i s Q E ⟨⟨_, he⟩, _⟩ h => wpAny_pyIter_enum he h
section
variable {X : Cx} {e : Ent} {pos : Pos}
/-- enumerate of a list or of a tuple -/
def tEnumA (K : PySem.W.Frag) (ta : TA) : TI := fun σ H R => ta σ H fun vs H1 => ∃ a xs, vs = [.ref a] ∧ ((SqL K H1 a xs ∧ R (Ite K a) H1) ∨ (SqT K H1 a xs ∧ R (Iet K a xs) H1))
theorem pi_enumA {a : Expr} {ta : TA} {p tpos : Pos} {elts : List Expr} {kk : Nat} (hg : Gl X "enumerate") (hm : X.mg "enumerate" = none) (ha : PA X [a] ta) (hs : starEach [a] X.env = [(false, eval a X.env)] := by rfl) :
    PI X (.Tuple elts kk tpos) (.Call (.Name "enumerate" p) [a] [] pos) (tEnumA X.K ta) := by
  refine ⟨fun pins s σ H R I h => ?_⟩
  refine PyProof.Rows.Call_ (ld_blt I hg hm (by decide +kernel : bootBuiltins "enumerate" = some (.type "enumerate")) (PyProof.Rows.callWith_type1 (thn (ha.run pos pins s σ H _ I h) fun us s1 ⟨vs, H1, I1, r1, q1⟩ => ?_) hs rfl))
  obtain ⟨b, xs, rfl, q⟩ := q1
  cases r1 with
  | cons r rr =>
    cases rr
    cases r
    have fp : ∀ c ∈ [s1.heap.objs.size + 1, s1.heap.objs.size], FpOk X pins H1 c := fun c hc => by
      have hle : s1.heap.objs.size ≤ c := by
        rcases List.mem_cons.mp hc with z | z
        · rw [z]; exact Nat.le_add_right _ _
        · rw [List.mem_singleton.mp z]; exact Nat.le_refl _
      exact I1.fpOk hle (I1.hok.fresh hle)
    rcases q with ⟨hq, q⟩ | ⟨hq, q⟩
    · obtain ⟨its, rv, pl, hz⟩ := I1.list hq
      refine call_enum1 (begins_list b its.toArray) pl.isList fun h' he hit hk => wpAny_pyIter_enum he ?_
      exact ⟨_, _, _, _, H1, rfl, I1.kept (t' := s1.toks) hk, turn_enum b (s1.heap.objs.size + 1) s1.heap.objs.size, ⟨⟨.none, he⟩, ⟨_, hit, rfl, rfl⟩, Nat.succ_ne_self _⟩, fp, q⟩
    · obtain ⟨its, rv, pl, hz⟩ := I1.tuple hq
      refine call_enum1 (begins_tuple b its.toArray) pl fun h' he hit hk => wpAny_pyIter_enum he ?_
      exact ⟨_, _, _, _, H1, rfl, I1.kept (t' := s1.toks) hk, turn_enumT b (s1.heap.objs.size + 1) s1.heap.objs.size, ⟨⟨.none, he⟩, ⟨_, hit, rfl, rfl⟩, Nat.succ_ne_self _⟩, fp, q⟩
theorem yields_enumT {K : PySem.W.Frag} {G : Gh} {p : Addr} {vs : List V} {ds : List D} (hp : SqT K G.I p vs) (r : RepL K G vs ds) : Yields K e G (Iet K p vs) (enumD ds) where
  go := fun i T G' H' σ' δ' le S h => ⟨sqt_mono S.ok.sub (sqt_mono le.I hp), by rw [r.length]; rw [enumD_len] at h; exact h⟩
  yld := fun i T G' H' σ' δ' x H2 le S h y => by
    obtain ⟨t, x', rfl, ht, rfl, y⟩ := y
    obtain ⟨d, h1, h2⟩ := r.getV y
    obtain ⟨G2, S2, st2, rep⟩ := S.newTup (vs := [.int (i : Nat), x']) (ds := [.int (i : Int), d]) (.cons (.int _) (.one (h2.mono le))) ht
    exact ⟨_, G2, enumD_get h1, S2, st2, rep⟩
  stop := fun i T G' H' σ' δ' le S h => ⟨sqt_mono S.ok.sub (sqt_mono le.I hp), by rw [r.length]; rw [enumD_len] at h; exact h⟩
def iEnum (t : TDE) : TDA := fun δ Q => t δ fun d δ1 => match d with | .lst ds => Q (enumD ds) δ1 | .tup ds => Q (enumD ds) δ1 | _ => False
theorem di_enum {elts : List Expr} {kk : Nat} {tpos p : Pos} {a : Expr} {t : TDE} (hg : Gl X "enumerate") (hm : X.mg "enumerate" = none) (h : DE X e a t) (hs : starEach [a] X.env = [(false, eval a X.env)] := by rfl) :
    DI X e (.Tuple elts kk tpos) (.Call (.Name "enumerate" p) [a] [] pos) (iEnum t) :=
  pi_imp (pi_enumA hg hm (pa_cons h pa_nil hs) hs) fun σ H R ⟨T, G, δ, Qd, S, q, k⟩ => ⟨T, G, δ, _, S, q, fun v d H' G' δ' S' st rep q' => by
    cases d with
    | lst ds =>
      cases rep with
      | lst hp r => exact ⟨_, _, rfl, .inl ⟨.inl (.inl (S'.ok.sub _ _ hp)), k _ _ H' G' δ' S' st (yields_enum (.inl (.inl hp)) r) q'⟩⟩
    | tup ds =>
      cases rep with
      | tup hp r => exact ⟨_, _, rfl, .inr ⟨.inl (.inl (S'.ok.sub _ _ hp)), k _ _ H' G' δ' S' st (yields_enumT (.inl (.inl hp)) r) q'⟩⟩
    | _ => exact False.elim q'⟩
end
end T

namespace T
open PySem L2

section
variable {X : Cx} {e : Ent} {pos : Pos}
/-! ### dicts -/
def keysD : List D → Option (List Key)
  | [] => some []
  | d :: r => match keyD d with | some k => (keysD r).map (k :: ·) | none => none
def keyT : D → Option (List Key)
  | .tup l => keysD l
  | _ => none
def unK : Key → D
  | .inl i => .int i
  | .inr s => .str s
theorem key_rep {K : PySem.W.Frag} {G : Gh} {v : V} {d : D} {k : Key} (r : Rep K G v d) (h : keyD d = some k) : v = kV k ∧ kOk k := by
  cases r with
  | int i => cases h; exact ⟨rfl, trivial⟩
  | str q => cases h; exact ⟨rfl, q⟩
  | _ => cases h
theorem keys_rep {K : PySem.W.Frag} {G : Gh} : ∀ {vs : List V} {ds : List D} {ks : List Key}, RepL K G vs ds → keysD ds = some ks → vs = ks.map kV ∧ ∀ x ∈ ks, kOk x
  | _, _, _, .nil, h => by cases h; exact ⟨rfl, fun _ h => nomatch h⟩
  | _, d :: r, ks, .cons h1 h2, h => by
    rw [keysD] at h
    cases hk : keyD d with
    | none => rw [hk] at h; cases h
    | some k =>
      rw [hk] at h
      cases hr : keysD r with
      | none => rw [hr] at h; cases h
      | some ks' =>
        rw [hr] at h
        cases h
        obtain ⟨e1, o1⟩ := key_rep h1 hk
        obtain ⟨e2, o2⟩ := keys_rep h2 hr
        refine ⟨by rw [e1, e2]; rfl, fun x hx => ?_⟩
        rcases List.mem_cons.mp hx with rfl | hx
        · exact o1
        · exact o2 x hx
theorem unK_rep {K : PySem.W.Frag} {G : Gh} {k : Key} (h : kOk k) : Rep K G (kV k) (unK k) := by
  cases k with
  | inl i => exact .int i
  | inr s => exact .str h
/-- what a dict holds at a key; none: not asked of a dict -/
def getKD : D → D → Option (Option D)
  | .dct kds, y => (match keyD y with | some k => some (lookD kds k) | none => none)
  | .dtp kds, y => (match keyT y with | some k => some (lookD kds k) | none => none)
  | .dself _ kds, y => (match keyD y with | some k => some (lookD kds k) | none => none)
  | _, _ => none
def RelOD (K : PySem.W.Frag) (G : Gh) : Option V → Option D → Prop
  | none, none => True
  | some v, some d => Rep K G v d
  | _, _ => False
theorem relOD_of {K : PySem.W.Frag} {G : Gh} {κ : Type} [DecidableEq κ] {k : κ} {kvs : List (κ × V)} {kds : List (κ × D)} (e : kvs.map (·.1) = kds.map (·.1)) (r : RepL K G (kvs.map (·.2)) (kds.map (·.2))) : RelOD K G (valV kvs k) (lookD kds k) := by
  rcases look_ok k e r with ⟨h1, h2⟩ | ⟨d, v, h1, h2, h3⟩
  · rw [h1, h2]; trivial
  · rw [h1, h2]; exact h3
theorem getKD_ok {K : PySem.W.Frag} {G : Gh} {H : Hp} {x y : V} {a b : D} {o : Option D} (ok : GOk G H) (ra : RdO K G H x a) (rb : RdO K G H y b) (h : getKD a b = some o) : ∃ p ov, x = .ref p ∧ IsD H p ∧ DGet H p y ov ∧ RelOD K G ov o := by
  have key : ∀ k, keyD b = some k → y = kV k := fun k hk => by
    rcases rb with r | ⟨l, rfl, r⟩
    · exact (key_rep r hk).1
    · cases b with
      | int => exact r.elim
      | str => exact r.elim
      | _ => cases hk
  cases a with
  | dct kds =>
    rw [getKD] at h
    cases hk : keyD b with
    | none => rw [hk] at h; cases h
    | some k =>
      rw [hk] at h
      cases h
      obtain ⟨p, kvs, rfl, hp, e1, r1⟩ := ra.dct ok
      rw [key k hk]
      exact ⟨p, _, rfl, .inl ⟨kvs, .inl hp⟩, .inl ⟨kvs, k, .inl hp, rfl, rfl⟩, relOD_of e1 r1⟩
  | dself z kds =>
    rw [getKD] at h
    cases hk : keyD b with
    | none => rw [hk] at h; cases h
    | some k =>
      rw [hk] at h
      cases h
      obtain ⟨p, kvs, rfl, hp, e1, r1, _⟩ := ra.dselfW ok
      rw [key k hk]
      exact ⟨p, _, rfl, .inl ⟨kvs, .inl hp⟩, .inl ⟨kvs, k, .inl hp, rfl, rfl⟩, relOD_of e1 r1⟩
  | dtp kds =>
    rw [getKD] at h
    cases b with
    | tup ds =>
      cases hk : keyT (.tup ds) with
      | none => rw [hk] at h; cases h
      | some k =>
        rw [hk] at h
        cases h
        obtain ⟨p, kvs, rfl, hp, e1, r1, _⟩ := ra.dtpW ok
        rcases rb with r | ⟨l, rfl, r⟩
        · cases r with
          | tup q rl =>
            obtain ⟨ev, _⟩ := keys_rep rl hk
            subst ev
            exact ⟨p, _, rfl, .inr ⟨kvs, .inl hp⟩, .inr ⟨kvs, k, _, .inl hp, rfl, ok.sub _ _ q, rfl⟩, relOD_of e1 r1⟩
        · exact r.elim
    | _ => cases h
  | _ => cases h
/-- x in d, x not in d: a dict, else as before -/
def inA (neg : Bool) (a b : D) (Q : D → Prop) : Prop := match getKD b a with
  | some o => Q (.bl (if neg = true then !o.isSome else o.isSome))
  | none => inDn neg a b Q
theorem RelOD.some_eq {K : PySem.W.Frag} {G : Gh} {a : Option V} {b : Option D} (h : RelOD K G a b) : a.isSome = b.isSome := by
  cases a <;> cases b <;> first | rfl | exact h.elim
theorem op_inK (hu : X.A.units + 1 < cLine) : OpR X (compareOp .In) (fun y x H Q => ∃ a o, x = .ref a ∧ DGet H a y o ∧ Q (.bl o.isSome) H) := by
  intro pins s σ H x y v u Q I rx ry ⟨a, o, ey, g, q⟩
  subst ey
  obtain rfl : u = Value.ref a := ry
  exact d_in hu I g rx fun s' I' => ⟨.bl o.isSome, H, I', rfl, q⟩
theorem op_notInK (hu : X.A.units + 1 < cLine) : OpR X (compareOp .NotIn) (fun y x H Q => ∃ a o, x = .ref a ∧ DGet H a y o ∧ Q (.bl (!o.isSome)) H) := by
  intro pins s σ H x y v u Q I rx ry ⟨a, o, ey, g, q⟩
  subst ey
  obtain rfl : u = Value.ref a := ry
  exact d_notIn hu I g rx fun s' I' => ⟨.bl (!o.isSome), H, I', rfl, q⟩
theorem opd_inA {k0 : Nat} (hr : Room (k0 + 1) X.A) : OpD X e (WOp X (compareOp .In)) (inA false) := by
  intro T G H σ δ x y a b Qd Q S ra rb q k
  unfold inA at q
  cases hg : getKD b a with
  | none => rw [hg] at q; exact opd_in hr T G H σ δ x y a b Qd Q S ra rb q k
  | some o =>
    rw [hg] at q
    obtain ⟨p, ov, rfl, _, g, ro⟩ := getKD_ok S.ok rb ra hg
    refine wop_of (op_inK (hu_of hr)) ⟨p, ov, rfl, g, k _ (.bl _) H G S Step.refl (.bl _) ?_⟩
    rw [ro.some_eq]
    exact q
theorem opd_notInA {k0 : Nat} (hr : Room (k0 + 1) X.A) : OpD X e (WOp X (compareOp .NotIn)) (inA true) := by
  intro T G H σ δ x y a b Qd Q S ra rb q k
  unfold inA at q
  cases hg : getKD b a with
  | none => rw [hg] at q; exact opd_notIn hr T G H σ δ x y a b Qd Q S ra rb q k
  | some o =>
    rw [hg] at q
    obtain ⟨p, ov, rfl, _, g, ro⟩ := getKD_ok S.ok rb ra hg
    refine wop_of (op_notInK (hu_of hr)) ⟨p, ov, rfl, g, k _ (.bl _) H G S Step.refl (.bl _) ?_⟩
    rw [ro.some_eq]
    exact q
/-- d[k]: a dict, else as before -/
def ixA (a b : D) (Q : D → Prop) : Prop := match getKD a b with
  | some (some d) => Q d
  | some none => False
  | none => ixD a b Q
theorem opd_ixA {k0 : Nat} (hr : Room k0 X.A) : OpD X e (WIx X) ixA := by
  intro T G H σ δ x y a b Qd Q S ra rb q k
  unfold ixA at q
  cases hg : getKD a b with
  | none => rw [hg] at q; exact opd_ix hr T G H σ δ x y a b Qd Q S ra rb q k
  | some o =>
    rw [hg] at q
    obtain ⟨p, ov, rfl, _, g, ro⟩ := getKD_ok S.ok ra rb hg
    cases o with
    | none => exact q.elim
    | some d =>
      cases ov with
      | none => exact ro.elim
      | some v => exact wix_of (ix_dict (hu_of hr)) ⟨p, v, rfl, g, k v d H G S Step.refl ro q⟩
theorem de_ixA {a b : Expr} {A B : Opn} {k0 : Nat} (hr : Room k0 X.A) (ha : OPN X e a A) (hb : OPN X e b B) (hs : PlainIx b := by exact fun _ _ => rfl) : DE X e (.Subscript a b pos) (dBin ixA A B) :=
  two_ok ha hb (f := fun ta tb => tOp (WIx X) ta tb) (fun ta tb h1 h2 => pe_ix wix_self h1 h2 hs) (fun _ _ _ _ _ => rfl) (opd_ixA hr)
/-- {} -/
theorem do_dnew : DO X e (.Dict [] [] pos) (fun δ Q => Q (.dct []) δ) := pe_imp pe_dnewK fun σ H Q ⟨T, G, δ, Qd, S, q, k⟩ p hp => by
  obtain ⟨S1, st1, nI, nB, new, ap⟩ := S.new (o := .dK []) hp
  exact k p (.dct []) _ G δ S1 st1 ⟨⟨[], upd_same, rfl, .nil, fun _ h => nomatch h⟩, nI, nB, new⟩ ap q
/-- the dict behind d[k] = v -/
def putKD {κ : Type} [DecidableEq κ] (kds : List (κ × D)) (k : κ) (v : D) : List (κ × D) := if (kds.any fun p => decide (p.1 = k)) = true then kds.map (fun p => if p.1 = k then (p.1, v) else p) else kds ++ [(k, v)]
theorem putKD_rep {K : PySem.W.Frag} {G : Gh} {κ : Type} [DecidableEq κ] {k : κ} {v : V} {d : D} (hv : Rep K G v d) {kvs : List (κ × V)} {kds : List (κ × D)} (e1 : kvs.map (·.1) = kds.map (·.1)) (r1 : RepL K G (kvs.map (·.2)) (kds.map (·.2))) :
    (putK kvs k v).map (·.1) = (putKD kds k d).map (·.1) ∧ RepL K G ((putK kvs k v).map (·.2)) ((putKD kds k d).map (·.2)) := by
  have hany : ∀ {kvs : List (κ × V)} {kds : List (κ × D)}, kvs.map (·.1) = kds.map (·.1) → (kvs.any fun p => decide (p.1 = k)) = (kds.any fun p => decide (p.1 = k)) := fun {kvs kds} h => by
    have a1 : (kvs.any fun p => decide (p.1 = k)) = (kvs.map (·.1)).any fun x => decide (x = k) := by rw [List.any_map]; rfl
    have a2 : (kds.any fun p => decide (p.1 = k)) = (kds.map (·.1)).any fun x => decide (x = k) := by rw [List.any_map]; rfl
    rw [a1, a2, h]
  unfold putK putKD
  rw [hany e1]
  split
  · rename_i hh
    clear hany hh
    induction kvs generalizing kds with
    | nil => cases kds with | nil => exact ⟨rfl, .nil⟩ | cons _ _ => cases e1
    | cons p r ih =>
      cases kds with
      | nil => cases e1
      | cons q s =>
        simp only [List.map_cons, List.cons.injEq] at e1
        cases r1 with
        | cons h1 h2 =>
          obtain ⟨i1, i2⟩ := ih e1.2 h2
          by_cases z : p.1 = k
          · have z2 : q.1 = k := e1.1 ▸ z
            simp only [List.map_cons, if_pos z, if_pos z2]
            exact ⟨by rw [e1.1, i1], .cons hv i2⟩
          · have z2 : ¬ q.1 = k := e1.1 ▸ z
            simp only [List.map_cons, if_neg z, if_neg z2]
            exact ⟨by rw [e1.1, i1], .cons h1 i2⟩
  · rw [List.map_append, List.map_append, List.map_append, List.map_append, e1]
    exact ⟨rfl, r1.append (.one hv)⟩
theorem putKD_keys {κ : Type} [DecidableEq κ] {k x : κ} {v : D} {kds : List (κ × D)} (h : x ∈ (putKD kds k v).map (·.1)) : x ∈ kds.map (·.1) ∨ x = k := by
  unfold putKD at h
  split at h
  · left
    obtain ⟨p, hp, rfl⟩ := List.mem_map.mp h
    obtain ⟨q, hq, rfl⟩ := List.mem_map.mp hp
    refine List.mem_map.mpr ⟨q, hq, ?_⟩
    split <;> rfl
  · rw [List.map_append] at h
    rcases List.mem_append.mp h with h | h
    · exact .inl h
    · right; simpa using h
/-- d[k] = v of a dict that is ours -/
def putD (a y v : D) : Option D := match a with
  | .dct kds => (match keyD y with | some k => if kds.length < 100000 then some (.dct (putKD kds k v)) else none | none => none)
  | .dtp kds => (match keyT y with | some k => if kds.length < 100000 then some (.dtp (putKD kds k v)) else none | none => none)
  | .dself x kds => (match keyD y with | some k => if kds.length < 100000 then some (.dself x (putKD kds k v)) else none | none => none)
  | _ => none
theorem putD_ok {K : PySem.W.Frag} {G : Gh} {H : Hp} {l : Addr} {y v : V} {a b d a' : D} (ok : GOk G H) (own : OwnAt K G H l a) (rb : Rep K G y b) (rd : Rep K G v d) (h : putD a b d = some a') : ∃ o, DPut H l y v (L2.upd H l o) ∧ OwnAt K G (L2.upd H l o) l a' := by
  cases a with
  | dct kds =>
    simp only [putD] at h
    cases hk : keyD b with
    | none => rw [hk] at h; cases h
    | some k =>
      rw [hk] at h
      by_cases hl : kds.length < 100000
      · simp only [if_pos hl, Option.some.injEq] at h
        subst h
        obtain ⟨kvs, q, e1, r1, w⟩ := own
        obtain ⟨ey, ky⟩ := key_rep rb hk
        subst ey
        obtain ⟨p1, p2⟩ := putKD_rep (k := k) rd e1 r1
        have hlen : kvs.length = kds.length := by have := congrArg List.length e1; simpa using this
        refine ⟨.dK (putK kvs k v), .inl ⟨kvs, k, q, rfl, by rw [hlen, sizeLine_eq]; omega, rfl⟩, _, upd_same, p1, p2, fun x hx => ?_⟩
        rcases putKD_keys hx with hx | rfl
        · exact w x hx
        · exact ky
      · simp only [if_neg hl] at h; cases h
  | dself zz kds =>
    simp only [putD] at h
    cases hk : keyD b with
    | none => rw [hk] at h; cases h
    | some k =>
      rw [hk] at h
      by_cases hl : kds.length < 100000
      · simp only [if_pos hl, Option.some.injEq] at h
        subst h
        obtain ⟨zl, kvs, q, e1, r1, w⟩ := own
        obtain ⟨ey, ky⟩ := key_rep rb hk
        subst ey
        obtain ⟨p1, p2⟩ := putKD_rep (k := k) rd e1 r1
        have hlen : kvs.length = kds.length := by have := congrArg List.length e1; simpa using this
        refine ⟨.dK (putK kvs k v), .inl ⟨kvs, k, q, rfl, by rw [hlen, sizeLine_eq]; omega, rfl⟩, zl, _, upd_same, p1, p2, fun x hx => ?_⟩
        rcases putKD_keys hx with hx | rfl
        · exact w x hx
        · exact ky
      · simp only [if_neg hl] at h; cases h
  | dtp kds =>
    simp only [putD] at h
    cases hk : keyT b with
    | none => rw [hk] at h; cases h
    | some k =>
      rw [hk] at h
      by_cases hl : kds.length < 100000
      · simp only [if_pos hl, Option.some.injEq] at h
        subst h
        obtain ⟨kvs, q, e1, r1, w⟩ := own
        cases rb with
        | tup qb rl =>
          obtain ⟨ev, kk⟩ := keys_rep rl hk
          subst ev
          obtain ⟨p1, p2⟩ := putKD_rep (k := k) rd e1 r1
          have hlen : kvs.length = kds.length := by have := congrArg List.length e1; simpa using this
          refine ⟨.dT (putK kvs k v), .inr ⟨kvs, k, _, q, rfl, ok.sub _ _ qb, by rw [hlen, sizeLine_eq]; omega, rfl⟩, _, upd_same, p1, p2, fun x hx => ?_⟩
          rcases putKD_keys hx with hx | rfl
          · exact w x hx
          · exact kk
        | _ => cases hk
      · simp only [if_neg hl] at h; cases h
  | _ => cases h
def dgPut (i : Nat) (tk : TDE) : TDG := fun d δ Q => (match δ[i]? with | some (.ow _) => True | _ => False) ∧ tk δ fun k δ1 => match δ1[i]? with
  | some (.ow a) => (match putD a k d with | some a' => Q (δ1.set i (.ow a')) | none => False)
  | _ => False
theorem dg_put {o ke : Expr} {i k0 : Nat} {tk : TDE} (hr : Room k0 X.A) (ho : PE X o (tVar i)) (hk : DE X e ke tk)
    (ha : ∀ v, assign (.Subscript o ke pos) X.env v = (do
      let ov ← holding [v] (eval o X.env)
      let iv ← holding [v, ov] (eval ke X.env)
      standAt pos
      holding [v, ov, iv] (setItem ov iv v)
      release [v, ov, iv] []) := by intro _; rfl) : DG X e (.Subscript o ke pos) [] (dgPut i tk) :=
  pg_imp (pg_sub ho hk (set_dict (hu_of hr)) ha) fun v σ H Q ⟨T, G, δ, d, Qd, S, r, ⟨h0, q⟩, k⟩ => by
    cases hs : δ[i]? with
    | none => rw [hs] at h0; exact h0.elim
    | some sl =>
      rw [hs] at h0
      cases sl with
      | no => exact h0.elim
      | im _ => exact h0.elim
      | ow a0 =>
        obtain ⟨o', h1, l, rfl, m⟩ := S.sl i _ hs
        refine ⟨_, h1, T, G, δ, _, S, q, fun y b H1 G1 δ1 S1 st1 rb q1 => ?_⟩
        cases hs1 : δ1[i]? with
        | none => rw [hs1] at q1; exact q1.elim
        | some sl1 =>
          rw [hs1] at q1
          cases sl1 with
          | no => exact q1.elim
          | im _ => exact q1.elim
          | ow a =>
            cases hp : putD a b d with
            | none => simp only [hp] at q1
            | some a' =>
              simp only [hp] at q1
              obtain ⟨o2, h2, l2, e2, m2⟩ := S1.sl i _ hs1
              rw [h1] at h2
              cases h2
              have e3 : l = l2 := by simpa using e2
              subst e3
              obtain ⟨ob, pu, own⟩ := putD_ok S1.ok m2.own rb (r.mono st1.le) hp
              obtain ⟨S2, st2⟩ := S1.write (o := ob) hs1 h1 own
              exact ⟨l, _, rfl, pu, k σ _ G1 _ S2 (st1.trans st2) Only1.refl q1⟩
end
end T

namespace T
open PySem L2

section
variable {X : Cx} {e : Ent} {pos : Pos}
/-! ### comprehensions of dicts -/
def dDc (w : TDA) (g : TDG) (tt : TDT) (tk tv : TDE) (own : List Nat) : TDE := fun δ Q => w δ fun ds δ1 => ∃ Inv : Nat → List (Key × D) → DSt → Prop, Inv 0 [] (wipeD δ1 own) ∧
  (∀ i d acc δ', ds[i]? = some d → Inv i acc δ' → g d (wipeD δ' own) fun δ2 => tt δ2 fun b δ3 => if b = true then tk δ3 fun k δ4 => tv δ4 fun z δ5 => (match keyD k with | some kk => acc.length < 100000 ∧ Inv (i + 1) (putKD acc kk z) (wipeD δ5 own) | none => False) else Inv (i + 1) acc (wipeD δ3 own)) ∧
  ∀ acc δ', Inv ds.length acc δ' → Q (.dct acc) (wipeD δ' own)
theorem dc_ent {w : TDA} {g : TDG} {tt : TDT} {tk tv : TDE} {own fp : List Nat} (hfp : ∀ i ∈ fp, i ∈ own) {σ : St} {H : Hp} {Q : VK} (h : liftO X.K e (dDc w g tt tk tv own) σ H Q) :
    tDc (liftI X.K e w) (liftG X.K e fp g) (liftT X.K e tt) (lift X.K e tk) (lift X.K e tv) own σ H Q := by
  obtain ⟨T, G, δ, Qd, S, q, k⟩ := h
  refine ⟨T, G, δ, _, S, q, fun J ds H1 G1 δ1 S1 st1 Y ⟨Iv, h0, hs, hd⟩ => ?_⟩
  intro L hL
  obtain ⟨S2, st2, nI, nB, new, ap⟩ := S1.new (o := .dK []) hL
  have S3 := S2.hold (l := L) (d := .dct []) ⟨⟨[], upd_same, rfl, .nil, fun _ h => nomatch h⟩, nI, nB, new⟩ ap
  have S4 : SS X.K e (T.push L (.dct [])) G1 (upd H1 L (.dK [])) (wipe σ own) (wipeD δ1 own) := S3.move (wipe_length σ own) fun i hi => by rw [wipe_get, if_neg hi]
  refine ⟨fun i m H' => m = ds.length - i ∧ i ≤ ds.length ∧ ∃ G' δ' acc, Step e G1 (upd H1 L (.dK [])) G' H' ∧ SS X.K e (T.push L (.dct acc)) G' H' (wipe σ own) (wipeD δ' own) ∧ Iv i acc (wipeD δ' own), ⟨ds.length, by simp, Nat.zero_le _, G1, δ1, [], Step.refl, S4, h0⟩, ?_⟩
  rintro i m H5 ⟨rfl, hi, G5, δ5, acc, st5, S5, iv⟩
  have wipe2 : ∀ δ : DSt, wipeD (wipeD δ own) own = wipeD δ own := fun δ => by
    apply List.ext_getElem?
    intro j
    rw [wipeD_get, wipeD_get]
    by_cases hj : j ∈ own
    · rw [if_pos hj, if_pos hj]; cases δ[j]? <;> rfl
    · rw [if_neg hj, if_neg hj]
  by_cases hlt : i < ds.length
  · refine .inr ⟨Y.go i _ G5 H5 _ _ st5.le S5 hlt, fun H' => ∃ G' δ' acc', Step e G1 (upd H1 L (.dK [])) G' H' ∧ SS X.K e (T.push L (.dct acc')) G' H' (wipe σ own) (wipeD δ' own) ∧ Iv (i + 1) acc' (wipeD δ' own), fun H' ⟨G', δ', acc', s', S', iv'⟩ => ⟨ds.length - (i + 1), by omega, rfl, hlt, G', δ', acc', s', S', iv'⟩, fun x H6 y => ?_⟩
    obtain ⟨d, G6, hd', S6, st6, rep⟩ := Y.yld i _ G5 H5 _ _ x H6 st5.le S5 hlt y
    have q6 := hs i d acc _ hd' iv
    rw [wipe2] at q6
    refine ⟨_, G6, _, d, _, S6, rep, q6, fun σ7 δ7 G7 H7 S7 st7 o7 q7 => ⟨?_, ?_⟩⟩
    · have e1 := wipe_only o7 hfp
      rw [e1]
      apply List.ext_getElem?
      intro j
      rw [wipe_get, wipe_get]
      by_cases hj : j ∈ own
      · rw [if_pos hj, if_pos hj]; cases σ[j]? <;> rfl
      · rw [if_neg hj, if_neg hj]
    · have hw7 : (wipe σ own).length = σ7.length ∧ ∀ i, i ∉ own → (wipe σ own)[i]? = σ7[i]? := ⟨o7.1.symm, fun i hi => (o7.2 i fun z => hi (hfp i z)).symm⟩
      refine ⟨_, G7, δ7, _, S7, q7, fun b H8 G8 δ8 S8 st8 q8 => ?_⟩
      have st18 := st5.trans (st6.trans (st7.trans st8))
      cases b with
      | false =>
        rw [if_neg Bool.false_ne_true] at q8
        refine iteF ?_
        exact ⟨G8, δ8, acc, st18, S8.move hw7.1 hw7.2, q8⟩
      | true =>
        rw [if_pos rfl] at q8
        refine iteT ?_
        refine ⟨_, G8, δ8, _, S8, q8, fun vk y H9 G9 δ9 S9 st9 rk q9 => ⟨_, G9, δ9, _, S9, q9, fun v z H10 G10 δ10 S10 st10 rv q10 => ?_⟩⟩
        cases hk : keyD y with
        | none => rw [hk] at q10; exact q10.elim
        | some kk =>
          rw [hk] at q10
          obtain ⟨ek, okk⟩ := key_rep rk hk
          obtain ⟨_, m10, _⟩ := S10.drop
          obtain ⟨kvs, hv, e1, r1, ww⟩ := m10.own
          have hlen : kvs.length = acc.length := by have := congrArg List.length e1; simpa using this
          obtain ⟨p1, p2⟩ := putKD_rep (k := kk) rv e1 r1
          refine ⟨kvs, kk, ek, hv, by rw [hlen, sizeLine_eq]; omega, ?_⟩
          obtain ⟨S11, st11⟩ := S10.writeT (d' := .dct (putKD acc kk z)) (o := .dK (putK kvs kk v)) ⟨_, upd_same, p1, p2, fun x hx => (putKD_keys hx).elim (ww x) fun e => e ▸ okk⟩
          exact ⟨G10, δ10, putKD acc kk z, st18.trans (st9.trans (st10.trans st11)), S11.move hw7.1 hw7.2, q10.2⟩
  · have e1 : i = ds.length := by omega
    subst e1
    refine .inl ⟨Y.stop _ _ G5 H5 _ _ st5.le S5 (Nat.le_refl _), ?_⟩
    obtain ⟨S6, m6, ap6⟩ := S5.drop
    have S7 : SS X.K e T G5 H5 σ (wipeD δ5 own) := by
      have := S6.move (σ' := σ) (vs := own) (wipe_length σ own).symm fun i hi => by rw [wipe_get, if_neg hi]
      rwa [wipe2] at this
    have q7 := hd acc _ iv
    rw [wipe2] at q7
    refine k L (.dct acc) H5 G5 _ S7 (st1.trans (st2.trans st5)) m6 (fun i d hi z => ?_) q7
    have hi' := hi
    by_cases hl : i < δ5.length
    · rw [get_l (by rw [wipeD_len]; exact hl), wipeD_get] at hi'
      by_cases hj : i ∈ own
      · rw [if_pos hj, List.getElem?_eq_getElem hl] at hi'; cases hi'
      · refine ap6 i d hi ?_
        have hl2 : i < σ.length := by
          have := S7.ln
          rw [wipeD_len] at this
          omega
        rw [get_l hl2] at z
        rw [get_l (by rw [wipe_length]; exact hl2), wipe_get, if_neg hj]
        exact z
    · refine ap6 i d hi ?_
      have hl2 : ¬ i < σ.length := by
        have := S7.ln
        rw [wipeD_len] at this
        omega
      rw [List.getElem?_append_right (by omega)] at z
      rw [List.getElem?_append_right (by rw [wipe_length]; omega), wipe_length]
      exact z
theorem do_dc {kx vx tg iter : Expr} {ifs : List Expr} {scope : Scope} {own : List (Str × Nat)} {w : TDA} {g : TDG} {tt : TDT} {tk tv : TDE} {fp : List Nat} (hc : X.calm = true) (hN : X.N.Nodup) (hi : DI X e tg iter w) (ok : BlkOk X.N X.env.scope scope own)
    (hg : ∀ (s : Shared) (H : Hp) (C : Addr) (cl : List (Str × Addr)) (fp' : List Addr), DG (X.blk s H scope (compEnvC scope cl C X.env) fp') e tg fp g) (ht : ∀ (s : Shared) (H : Hp) (C : Addr) (cl : List (Str × Addr)) (fp' : List Addr), DTs (X.blk s H scope (compEnvC scope cl C X.env) fp') e ifs tt)
    (hk : ∀ (s : Shared) (H : Hp) (C : Addr) (cl : List (Str × Addr)) (fp' : List Addr), DE (X.blk s H scope (compEnvC scope cl C X.env) fp') e kx tk)
    (he : ∀ (s : Shared) (H : Hp) (C : Addr) (cl : List (Str × Addr)) (fp' : List Addr), DE (X.blk s H scope (compEnvC scope cl C X.env) fp') e vx tv) (hfp : ∀ i ∈ fp, i ∈ own.map (·.2) := by decide) (hs : ∀ x, foldedSetIterable iter X.env x = pure x := by intro _; rfl) :
    DO X e (.DictComp kx vx [⟨tg, iter, ifs, 0⟩] scope pos) (dDc w g tt tk tv (own.map (·.2))) :=
  pe_imp (pe_dc (g := liftG X.K e fp g) (tt := liftT X.K e tt) (tk := lift X.K e tk) (tv := lift X.K e tv) hc hN hi ok hg ht hk he hs) fun σ H Q h => dc_ent hfp h
end
end T

namespace T
open PySem L2

section
variable {X : Cx} {e : Ent} {pos : Pos}
theorem swD {kx vx : Expr} {gs : List Comprehension} {scope : Scope} {py : Pos} {y : Str} {l : Nat} {env : Env} (hk : env.scope.kind = .function) (hy : env.scope.names.lookup y = some .local) (hl : (py.line == pos.line) = true)
    (hn : (scope.names.any fun (n, k) => n == y && (k == .local || k == .cell)) = false) : swapsWith (.DictComp kx vx gs scope pos) (some (.Name y py)) l env = pure true := by
  have k1 : env.kindOf y = some .local := hy
  have k2 : env.blockKind = .function := by unfold Env.blockKind; rw [hk]; rfl
  show (pure (env.blockKind == .function && env.kindOf y == some .local && py.line == pos.line && !(scope.names.any fun (n, k) => n == y && (k == .local || k == .cell))) : Sem Bool) = pure true
  rw [k1, k2, hl, hn]
  rfl
/-- name = {k: v for ..}, on one row -/
theorem ps_setDc {i : Nat} {y : Str} {py spos : Pos} {kx vx tg iter : Expr} {ifs : List Expr} {scope : Scope} {own : List (Str × Nat)} {wi : TI} {g : TG} {tt : TT} {tk tv : TE} (hc : X.calm = true) (hN : X.N.Nodup) (hy : X.N[i]? = some y) (hyl : X.env.scope.names.lookup y = some .local)
    (hsw : swapsWith (.DictComp kx vx [⟨tg, iter, ifs, 0⟩] scope pos) (some (.Name y py)) spos.line X.env = pure true) (hi : PI X tg iter wi) (ok : BlkOk X.N X.env.scope scope own)
    (hg : ∀ (s : Shared) (H : Hp) (C : Addr) (cl : List (Str × Addr)) (fp' : List Addr), PG (X.blk s H scope (compEnvC scope cl C X.env) fp') tg g) (ht : ∀ (s : Shared) (H : Hp) (C : Addr) (cl : List (Str × Addr)) (fp' : List Addr), PTs (X.blk s H scope (compEnvC scope cl C X.env) fp') ifs tt)
    (hk : ∀ (s : Shared) (H : Hp) (C : Addr) (cl : List (Str × Addr)) (fp' : List Addr), PE (X.blk s H scope (compEnvC scope cl C X.env) fp') kx tk) (he : ∀ (s : Shared) (H : Hp) (C : Addr) (cl : List (Str × Addr)) (fp' : List Addr), PE (X.blk s H scope (compEnvC scope cl C X.env) fp') vx tv)
    (hs : ∀ x, foldedSetIterable iter X.env x = pure x := by intro _; rfl) : PS X (.Assign [.Name y py] (.DictComp kx vx [⟨tg, iter, ifs, 0⟩] scope pos) spos) (tAsg (tDc wi g tt tk tv (own.map (·.2))) (gName i)) := by
  refine ⟨fun pins s σ H Ed I h => ?_⟩
  rw [exec_Assign_Name_used _ _ _ _ hsw]
  refine wpAny_bind (wpAny_standAt (wpAny_bind ?_))
  show wpAny _ X.A (do let _ ← comprehension (.DictComp kx vx [⟨tg, iter, ifs, 0⟩] scope pos) scope X.env (firstIterPos [⟨tg, iter, ifs, 0⟩] pos) newDict false (eval iter X.env) (some (assign (.Name y py) X.env))) _ _ s
  have h : tDc wi g tt tk tv (own.map (·.2)) σ H (fun x H1 => gName i x σ H1 Ed.nx) := h
  refine wpAny_bind (thn (dc_core (Qf := fun _ s' => SP X pins Ed .next s') hc hN I hi ok hg ht hk he hs h fun L C s' m H' I' q hn f => ?_) fun _ s' hq => wpAny_pure (wpAny_pure hq))
  show wpAny _ _ (assign (.Name y py) X.env (.ref L)) _ _ _
  refine wpAny_assign_Name (store_ok2 (v := V.ref L) I' hN hy (.inl hyl) rfl (fun s2 I2 ⟨a, sb, ha⟩ => ?_) (.inr hyl))
  obtain ⟨f0, f1, f2, f3, f4, f5⟩ := f
  have ne : C ≠ a := by
    rcases ha with z | z
    · exact z ▸ f1
    · exact fun w => f4 y a z w.symm
  exact ⟨m, hn.sameBut sb ne, fun h3 sb3 => ⟨_, H', I2.turned (t' := s2.toks) (fun b o hb q => (sb3.2 b hb).trans q) f0 f1 f3 f4 f5, q⟩⟩
theorem ds_setDcO {i : Nat} {y : Str} {py spos : Pos} {kx vx tg iter : Expr} {ifs : List Expr} {scope : Scope} {own : List (Str × Nat)} {w : TDA} {g : TDG} {tt : TDT} {tk tv : TDE} {fp : List Nat} (hc : X.calm = true) (hN : X.N.Nodup) (hy : X.N[i]? = some y) (hyl : X.env.scope.names.lookup y = some .local)
    (hsw : swapsWith (.DictComp kx vx [⟨tg, iter, ifs, 0⟩] scope pos) (some (.Name y py)) spos.line X.env = pure true) (hi : DI X e tg iter w) (ok : BlkOk X.N X.env.scope scope own)
    (hg : ∀ (s : Shared) (H : Hp) (C : Addr) (cl : List (Str × Addr)) (fp' : List Addr), DG (X.blk s H scope (compEnvC scope cl C X.env) fp') e tg fp g) (ht : ∀ (s : Shared) (H : Hp) (C : Addr) (cl : List (Str × Addr)) (fp' : List Addr), DTs (X.blk s H scope (compEnvC scope cl C X.env) fp') e ifs tt)
    (hk : ∀ (s : Shared) (H : Hp) (C : Addr) (cl : List (Str × Addr)) (fp' : List Addr), DE (X.blk s H scope (compEnvC scope cl C X.env) fp') e kx tk)
    (he : ∀ (s : Shared) (H : Hp) (C : Addr) (cl : List (Str × Addr)) (fp' : List Addr), DE (X.blk s H scope (compEnvC scope cl C X.env) fp') e vx tv) (hfp : ∀ i ∈ fp, i ∈ own.map (·.2) := by decide) (hs : ∀ x, foldedSetIterable iter X.env x = pure x := by intro _; rfl) :
    DS X e (.Assign [.Name y py] (.DictComp kx vx [⟨tg, iter, ifs, 0⟩] scope pos) spos) (dAsgO (dDc w g tt tk tv (own.map (·.2))) i) :=
  ps_imp (ps_setDc (g := liftG X.K e fp g) (tt := liftT X.K e tt) (tk := lift X.K e tk) (tv := lift X.K e tv) hc hN hy hyl hsw hi ok hg ht hk he hs) fun E σ H ⟨T, G, δ, F, S, q, n, r, b, c⟩ => dc_ent hfp ⟨T, G, δ, _, S, q, fun l d H' G' δ' S' st m ap q' => n _ _ G' H' st.le (S'.asgO m ap) q'⟩
/-! ### any, all, len, list of a dict -/
def blsOf : List D → Option (List Bool)
  | [] => some []
  | .bl b :: r => (blsOf r).map (b :: ·)
  | _ => none
theorem blsOf_ok : ∀ {ds : List D} {bs : List Bool}, blsOf ds = some bs → ds = bs.map D.bl
  | [], _, h => by cases h; rfl
  | .bl b :: r, bs, h => by
    rw [blsOf] at h
    cases hr : blsOf r with
    | none => rw [hr] at h; cases h
    | some s => rw [hr] at h; cases h; rw [blsOf_ok hr]; rfl
def anyD (all : Bool) : D → (D → Prop) → Prop
  | .lst ds, Q => (match blsOf ds with | some bs => Q (.bl (if all = true then bs.all id else bs.any id)) | none => False)
  | _, _ => False
theorem cb_any {al : Bool} {r : List V → Hp → VK → Prop} (hr : r = if al = true then rAll X.K else rAny X.K) : CalB X e r (anyD al) := by
  intro T G H σ δ x a Qd Q S ra q k
  cases a with
  | lst ds =>
    simp only [anyD] at q
    cases hb : blsOf ds with
    | none => rw [hb] at q; exact q.elim
    | some bs =>
      rw [hb] at q
      have ed := blsOf_ok hb
      subst ed
      obtain ⟨p, vs, rfl, hp, rl⟩ := ra.lst S.ok
      have ev := rl.bls
      subst ev
      subst hr
      cases al with
      | true => exact ⟨p, bs, rfl, .inl (.inl hp), k _ _ H G S Step.refl (.bl _) q⟩
      | false => exact ⟨p, bs, rfl, .inl (.inl hp), k _ _ H G S Step.refl (.bl _) q⟩
  | _ => exact False.elim q
theorem de_all {a : Expr} {A : Opn} {p : Pos} (hc : X.calm = true) (ha : OPN X e a A) (hg : Gl X "all") (hm : X.mg "all" = none) (hs : starEach (a :: []) X.env = (false, eval a X.env) :: starEach [] X.env := by rfl) : DE X e (.Call (.Name "all" p) [a] [] pos) (dB1 (anyD true) A) :=
  de_B1 (cr_all hc) (cb_any rfl) hg hm (by decide +kernel) ha (hs := hs)
end
end T

namespace T
open PySem L2

section
variable {X : Cx} {e : Ent} {pos : Pos}
/-! ### over the signs of a text -/
def signs (s : Str) : List D := s.cps.toList.map fun c => D.str ⟨#[c]⟩
theorem yields_str {K : PySem.W.Frag} {G : Gh} {s : Str} (hs : sOk s) : Yields K e G (Its s) (signs s) where
  go := fun i T G' H' σ' δ' le S h => by show i < s.cps.size; simpa [signs] using h
  yld := fun i T G' H' σ' δ' x H2 le S h y => by
    obtain ⟨rfl, c, hc, rfl⟩ := y
    have hc' : s.cps.toList[i]? = some c := by rw [Array.getElem?_toList]; exact hc
    refine ⟨.str ⟨#[c]⟩, G', by simp only [signs, List.getElem?_map, hc', Option.map_some], S, Step.refl, .str fun z hz => ?_⟩
    have : z = c := by simpa using hz
    exact this ▸ hs c (List.mem_of_getElem? hc')
  stop := fun i T G' H' σ' δ' le S h => by show s.cps.size ≤ i; simpa [signs] using h
def iStrD (t : TDE) : TDA := fun δ Q => t δ fun d δ1 => match d with | .str s => Q (signs s) δ1 | _ => False
theorem di_str {tg l : Expr} {t : TDE} (h : DE X e l t) : DI X e tg l (iStrD t) :=
  pi_imp (pi_str h) fun σ H R ⟨T, G, δ, Qd, S, q, k⟩ => ⟨T, G, δ, _, S, q, fun v d H' G' δ' S' st rep q' => by
    cases d with
    | str s =>
      cases rep with
      | str hs => exact ⟨s, rfl, k _ _ H' G' δ' S' st (yields_str hs) q'⟩
    | _ => exact False.elim q'⟩
/-! ### constants of the module, of a class -/
theorem de_gstr {x z : Str} {u : Value} (hg : Gl X x) (hm : X.mg x = some u) (r : RelV (.str z) u) (hz : sOk z) (hd : (x == ("__debug__" : Str)) = false := by decide) : DE X e (.Name x pos) (dC (.str z)) := de_c (pe_glob hg hm r hd) fun _ => .str hz
theorem de_gref {x : Str} {a : Addr} (hg : Gl X x) (hm : X.mg x = some (.ref a)) (hd : (x == ("__debug__" : Str)) = false := by decide) : PE X (.Name x pos) (tC (.ref a)) := pe_glob hg hm rfl hd
/-! ### d.get -/
def isDic : D → Bool
  | .dct _ => true
  | .dtp _ => true
  | _ => false
def getAt (a k z : D) (Q : D → Prop) : Prop := match getKD a k with | some o => Q (o.getD z) | none => False
def dGet2 (A : Opn) (tk tx : TDE) : TDE := fun δ Q => match A with
  | .sl i => (match rdS δ i with | some a => isDic a = true | none => False) ∧ tk δ fun k δ1 => tx δ1 fun z δ2 => (match rdS δ2 i with | some a => getAt a k z fun r => Q r δ2 | none => False)
  | .ex t => t δ fun a δ0 => isDic a = true ∧ tk δ0 fun k δ1 => tx δ1 fun z δ2 => getAt a k z fun r => Q r δ2
/-! ### list(d), len(d) -/
def listA : D → (D → Prop) → Prop
  | .dct kds, Q => Q (.lst (kds.map fun p => unK p.1))
  | .dself _ kds, Q => Q (.lst (kds.map fun p => unK p.1))
  | d, Q => listD d Q
theorem repL_keys {K : PySem.W.Frag} {G : Gh} : ∀ {kvs : List (Key × V)} {kds : List (Key × D)}, kvs.map (·.1) = kds.map (·.1) → (∀ k ∈ kds.map (·.1), kOk k) → RepL K G (kvs.map fun p => kV p.1) (kds.map fun p => unK p.1)
  | [], [], _, _ => .nil
  | p :: r, q :: s, e1, w => by
    simp only [List.map_cons, List.cons.injEq] at e1
    rw [List.map_cons, List.map_cons, e1.1]
    exact .cons (unK_rep (w _ (by simp))) (repL_keys e1.2 fun k hk => w k (by simp at hk ⊢; exact .inr hk))
theorem do_listA {a : Expr} {A : Opn} {p : Pos} (hc : X.calm = true) (ha : OPN X e a A) (hg : Gl X "list") (hm : X.mg "list" = none) (hs : starEach (a :: []) X.env = (false, eval a X.env) :: starEach [] X.env := by rfl) : DO X e (.Call (.Name "list" p) [a] [] pos) (dB1 listA A) := by
  have key : ∀ (T : Tm) (G : Gh) (H : Hp) (σ : St) (δ : DSt) (x : V) (a : D) (Qd : D → Prop) (Q : VK), SS X.K e T G H σ δ → RdO X.K G H x a → listA a Qd →
      (∀ l d H', SS X.K e T G H' σ δ → Step e G H G H' → Mine X.K e G H' l d → Apart σ δ T l → Qd d → Q (.ref l) H') →
      (∃ p ys, [x] = [V.ref p] ∧ (SqL X.K H p ys ∨ SqT X.K H p ys) ∧ ∀ l, H l = none → Q (.ref l) (L2.upd H l (.lst ys))) ∨ ∃ (a : Addr) (kvs : List (Key × V)), [x] = [.ref a] ∧ Rd H a (.dK kvs) ∧ ∀ p, H p = none → Q (.ref p) (L2.upd H p (.lst (kvs.map fun kv => kV kv.1))) := by
    intro T G H σ δ x a Qd Q S ra q k
    have new : ∀ {vs : List V} {ds : List D}, RepL X.K G vs ds → Qd (.lst ds) → ∀ l, H l = none → Q (.ref l) (L2.upd H l (.lst vs)) := fun {vs ds} r q l hl => by
      obtain ⟨S2, st2, nI, nB, new, ap⟩ := S.new (o := .lst vs) hl
      exact k l (.lst ds) _ S2 st2 ⟨⟨vs, upd_same, r⟩, nI, nB, new⟩ ap q
    cases a with
    | lst ds => obtain ⟨p, vs, rfl, hp, r⟩ := ra.lst S.ok; exact .inl ⟨p, vs, rfl, .inl (.inl (.inl hp)), new r q⟩
    | tup ds => obtain ⟨p, vs, rfl, hp, r⟩ := ra.tup S.ok; exact .inl ⟨p, vs, rfl, .inr hp, new r q⟩
    | dct kds => obtain ⟨p, kvs, rfl, hp, e1, r1, w⟩ := ra.dctW S.ok; exact .inr ⟨p, kvs, rfl, .inl hp, new (repL_keys e1 w) q⟩
    | dself zz kds => obtain ⟨p, kvs, rfl, hp, e1, r1, w⟩ := ra.dselfW S.ok; exact .inr ⟨p, kvs, rfl, .inl hp, new (repL_keys e1 w) q⟩
    | _ => exact False.elim q
  have pe := fun {ta : TE} (h : PE X a ta) => pe_callTy (p := p) (pos := pos) (CallR.or (call_list_of (X := X)) (call_listD hc)) hg hm (by decide +kernel) (pa_cons h pa_nil hs) (he := hs)
  cases A with
  | ex t =>
    refine pe_imp (pe ha) fun σ H Q ⟨T, G, δ, Qd, S, q, k⟩ => ?_
    exact ⟨T, G, δ, _, S, q, fun v d H1 G1 δ1 S1 st1 rd q1 => key T G1 H1 σ δ1 v d _ Q S1 (.inl rd) q1 fun l d H' S' st' m ap qd => k l d H' G1 δ1 S' (st1.trans st') m ap qd⟩
  | sl i =>
    refine pe_imp (pe ha) fun σ H Q ⟨T, G, δ, Qd, S, q, k⟩ => ?_
    have q : (match rdS δ i with | some d => listA d (fun z => Qd z δ) | none => False) := q
    cases hi : rdS δ i with
    | none => rw [hi] at q; exact q.elim
    | some d =>
      rw [hi] at q
      obtain ⟨v, hv, rd⟩ := rdS_ok S hi
      exact ⟨v, hv, key T G H σ δ v d _ Q S rd q fun l d H' S' st' m ap qd => k l d H' G δ S' st' m ap qd⟩
end
end T

namespace T
open PySem L2

section
variable {X : Cx} {e : Ent} {pos : Pos}
/-! ### promises by position -/
abbrev FnD (P : Program) (w : World) (K : PySem.W.Frag) (mg : Str → Option Value) (base : Heap) (k : Nat) (f : Addr) (sd : SpD) : Prop := FnR P w K mg base CX0 k f (toSp K sd)
theorem fnD_of {P : Program} {w : World} {K : PySem.W.Frag} {mg : Str → Option Value} {base : Heap} {k : Nat} {f : Addr} {fd : FuncData} {ps : List Str} {sd : SpD} (F : FnOk P w K mg base CX0 k f fd ps (toSp K sd)) (hb : Binds K fd ps []) : FnD P w K mg base k f sd :=
  (F.raw hb .nil).imp fun vs H Q E h => by rw [List.append_nil]; exact h
/-- x(e, ..), x a def with a promise by position -/
theorem pe_callRP {CX : CXT} {k : Nat} {f : Addr} {sp : Sp} {E : XK} {x : Str} {a : Expr} {es : List Expr} {t : TA} {p : Pos} (F : FnR X.prog X.w X.K X.mg X.base CX k f sp) (hr : Room k X.A) (hk : PySem.W.keepIn X.K (.ref f) = true) (hg : Gl X x) (hm : X.mg x = some (.ref f)) (hx : Passes CX X E) (ha : PA X (a :: es) t)
    (hd : (x == ("__debug__" : Str)) = false := by decide) (he : starEach (a :: es) X.env = (false, eval a X.env) :: starEach es X.env := by rfl) (hpl : (backTo pos (starEach es X.env)).any (·.1) = false := by rfl) :
    PE X (.Call (.Name x p) (a :: es) [] pos) (fun σ H Q => t σ H fun vs H1 => sp vs H1 Q E) :=
  ⟨fun pins s σ H Q I h => wpAny_Call_Name_kw (ld_glob I hg hm (PySem.W.callWith_K (h₀ := X.base) I.ok.mod.kin hk (thn (ha.run pos pins s σ H _ I h) fun us s1 ⟨vs, H1, I1, r, q⟩ => ⟨I1.kIn, wpAny_call (run_fnR F hr hx I1 r q)⟩) he hpl) hd)⟩
structure CalR (P : Program) (w : World) (K : PySem.W.Frag) (mg : Str → Option Value) (base : Heap) (k : Nat) (x : Str) (sd : SpD) : Prop where
  ex : ∃ f, FnD P w K mg base k f sd ∧ mg x = some (.ref f) ∧ PySem.W.keepIn K (.ref f) = true
theorem toSp_go {sd : SpD} {T : Tm} {G G1 : Gh} {H H1 : Hp} {σ : St} {δ1 : DSt} {vs : List V} {ds : List D} {Qd : D → DSt → Prop} {Q : VK} (S1 : SS X.K e T G1 H1 σ δ1) (st : Step e G H G1 H1) (rs : RepL X.K G1 vs ds)
    (q : sd ds fun z => Qd z δ1) (k : ∀ v d H' G' δ', SS X.K e T G' H' σ δ' → Step e G H G' H' → Rep X.K G' v d → Qd d δ' → Q v H') : toSp X.K sd vs H1 Q E0 :=
  ⟨G1, ds, _, S1.ok, rs, q, fun d' v' G' H' ok c rep qd => by
    obtain ⟨S2, st2⟩ := S1.after ok c
    exact k v' d' H' G' δ1 S2 (st.trans st2) rep qd⟩
theorem de_callR {k j : Nat} {x : Str} {sd : SpD} {a : Expr} {es : List Expr} {t : TDA} {p : Pos} (c : CalR X.prog X.w X.K X.mg X.base k x sd) (hr : Room j X.A) (hk : k ≤ j) (hg : Gl X x) (ha : DA X e (a :: es) t)
    (hd : (x == ("__debug__" : Str)) = false := by decide) (he : starEach (a :: es) X.env = (false, eval a X.env) :: starEach es X.env := by rfl) (hpl : (backTo pos (starEach es X.env)).any (·.1) = false := by rfl) : DE X e (.Call (.Name x p) (a :: es) [] pos) (dCall sd t) := by
  obtain ⟨f, F, hm, kp⟩ := c.ex
  refine pe_imp (pe_callRP F (hr.mono hk) kp hg hm pass0 ha hd he hpl) fun σ H Q ⟨T, G, δ, Qd, S, q, k⟩ => ⟨T, G, δ, _, S, q, fun vs ds H1 G1 δ1 S1 st1 r _ q1 => ?_⟩
  exact toSp_go S1 st1 r q1 k
/-! ### def f(a, .., *v) -/
theorem Step.over {G G2 : Gh} {H H2 : Hp} {p : Addr} {o : HO} (hp : H p = none) (nI : G.I p = none) (nB : ¬ foot G p) (st : Step ⟨G.fz p o, L2.upd H p o⟩ (G.fz p o) (L2.upd H p o) G2 H2) : Step ⟨G, H⟩ G H G2 H2 := by
  have ne : ∀ a, (H a).isSome = true → a ≠ p := fun a h z => by rw [z, hp] at h; cases h
  have al : ∀ a, (H a).isSome = true → (L2.upd H p o a).isSome = true := fun a h => by rw [upd_ne (ne a h)]; exact h
  exact ⟨(Gh.fz_le nI).trans st.le, fun a h n => (st.old a (al a h) n).trans (upd_ne (ne a h)), fun a h q => st.noI a (al a h) (by show L2.upd G.I p o a = none; rw [upd_ne (ne a h)]; exact q), fun a h n => st.noB a (al a h) n, fun a h q => st.dom a (al a h) (al a h)⟩
end
end T

namespace T
open PySem L2

section
variable {X : Cx} {e : Ent} {pos : Pos} {K : PySem.W.Frag} {T : Tm} {G : Gh} {H : Hp} {σ : St} {δ : DSt}
/-- an owned slot's thing is held; the slot keeps its name alone -/
theorem SS.moveOut (S : SS K e T G H σ δ) {i : Nat} {d : D} (hs : δ[i]? = some (.ow d)) : ∃ l, σ[i]? = some (some (.ref l)) ∧ Mine K e G H l d ∧ SS K e (T.push l d) G H σ (δ.set i (.im (.ref l))) := by
  obtain ⟨o, h1, l, rfl, m⟩ := S.sl i _ hs
  have S' := S.know h1 (.ref l)
  refine ⟨l, h1, m, S'.hold m fun j dj hj hx => ?_⟩
  have hi := lt_of_get hs
  by_cases z : j = i
  · subst z
    rw [ap_self _ _ _ hi] at hj
    cases hj
  · rw [ap_set _ _ _ z] at hj
    exact S.s.sep i j d dj l (Ne.symm z) (by rw [get_l hi]; exact hs) hj (by rw [get_l (by rw [← S.ln]; exact hi)]; exact h1) hx
theorem SS.moveIn {l : Addr} {d : D} (S : SS K e (T.push l d) G H σ δ) {i : Nat} (hs : δ[i]? = some (.im (.ref l))) : SS K e T G H σ (δ.set i (.ow d)) := by
  obtain ⟨S', m, ap⟩ := S.drop
  obtain ⟨o, h1, v, rfl, r⟩ := S.sl i _ hs
  cases r
  have S2 := S'.asgO (i := i) m ap
  have e1 : σ.set i (some (.ref l)) = σ := by
    apply List.ext_getElem?
    intro j
    by_cases z : j = i
    · subst z
      rw [List.getElem?_set_self (lt_of_get h1), h1]
    · rw [List.getElem?_set_ne (Ne.symm z)]
  rw [e1] at S2
  exact S2
theorem Apart.ofPush {l p : Addr} {d : D} (h : Apart σ δ (T.push l d) p) : Apart σ δ T p := fun i x hi hx => by
  refine h i x ?_ ?_
  · show (δ ++ (T.d ++ [_]))[i]? = _
    rw [← List.append_assoc, get_l (lt_of_get hi)]; exact hi
  · show (σ ++ (T.v ++ [_]))[i]? = _
    rw [← List.append_assoc, get_l (lt_of_get hx)]; exact hx
theorem Apart.ne {l p : Addr} {d : D} (S : SS K e (T.push l d) G H σ δ) (h : Apart σ δ (T.push l d) p) : p ≠ l := fun z => by
  subst z
  have hln := S.s.len
  have hl3 := S.ln
  refine h (δ.length + T.d.length) d (by simp [Tm.push]) ?_
  have e1 : σ.length + T.v.length = δ.length + T.d.length := by simp [Tm.push] at hln; omega
  rw [← e1]
  simp [Tm.push]
theorem Apart.push {l p : Addr} {d : D} (S : SS K e (T.push l d) G H σ δ) (h : Apart σ δ T p) (ne : p ≠ l) : Apart σ δ (T.push l d) p := fun i x hi hx => by
  have hln := S.s.len
  have hl3 := S.ln
  have e1 : σ.length + T.v.length = δ.length + T.d.length := by simp [Tm.push] at hln; omega
  have hi' : ((δ ++ T.d) ++ [Sl.ow d])[i]? = some (.ow x) := by rw [List.append_assoc]; exact hi
  have hx' : ((σ ++ T.v) ++ [some (V.ref l)])[i]? = some (some (.ref p)) := by rw [List.append_assoc]; exact hx
  rw [getElem?_snoc] at hi' hx'
  by_cases z : i = (δ ++ T.d).length
  · rw [if_pos (by simp at z ⊢; omega)] at hx'
    cases hx'
    exact ne rfl
  · rw [if_neg z] at hi'
    rw [if_neg (by simp at z ⊢; omega)] at hx'
    exact h i x hi' hx'
/-- the last but one of what is held is written -/
theorem SS.write2 {l p : Addr} {d dp d' : D} {o : HO} (S : SS K e ((T.push l d).push p dp) G H σ δ) (hn : OwnAt K G (L2.upd H l o) l d') : SS K e ((T.push l d').push p dp) G (L2.upd H l o) σ δ ∧ Step e G H G (L2.upd H l o) := by
  obtain ⟨S1, m, ap⟩ := S.drop
  have ne : p ≠ l := Apart.ne S1 ap
  obtain ⟨S2, st⟩ := S1.writeT (o := o) hn
  exact ⟨S2.hold (m.updO ne) (Apart.push S2 (Apart.ofPush ap) ne), st⟩
theorem look_put {f : Str} {d : D} : ∀ fs : List (Str × D), (putFD f d fs).lookup f = some d
  | [] => by simp [putFD]
  | (g, x) :: r => by
    rw [putFD]
    by_cases z : g = f
    · rw [if_pos z]; subst z; simp
    · rw [if_neg z, List.lookup_cons]
      have : (f == g) = false := by simpa using Ne.symm z
      rw [this]
      exact look_put r
theorem relab {f : Str} {p : Addr} {d : D} (hd : Rep K G (.ref p) d) : ∀ {fvs : List (Str × V)} (fs : List (Str × D)), fvs.map (·.1) = (putFD f (.ref p) fs).map (·.1) → RepL K G (fvs.map (·.2)) ((putFD f (.ref p) fs).map (·.2)) →
    fvs.map (·.1) = (putFD f d fs).map (·.1) ∧ RepL K G (fvs.map (·.2)) ((putFD f d fs).map (·.2))
  | fvs, [], e1, r1 => by
    rw [putFD] at e1 r1 ⊢
    match fvs, e1, r1 with
    | [(a, v)], e1, .cons h .nil => cases h; exact ⟨e1, .one hd⟩
  | fvs, (g, x) :: r, e1, r1 => by
    rw [putFD] at e1 r1 ⊢
    by_cases z : g = f
    · rw [if_pos z] at e1 r1 ⊢
      match fvs, e1, r1 with
      | (a, v) :: t, e1, .cons h h2 => cases h; exact ⟨e1, .cons hd h2⟩
    · rw [if_neg z] at e1 r1 ⊢
      match fvs, e1, r1 with
      | (a, v) :: t, e1, .cons h h2 =>
        simp only [List.map_cons, List.cons.injEq] at e1
        obtain ⟨i1, i2⟩ := relab hd r e1.2 h2
        exact ⟨by simp [e1.1, i1], .cons h i2⟩
theorem SS.relabel {l : Addr} {d d' : D} (S : SS K e (T.push l d) G H σ δ) (h : OwnAt K G H l d') : SS K e (T.push l d') G H σ δ := by
  obtain ⟨S1, m, ap⟩ := S.drop
  exact S1.hold ⟨h, m.nI, m.nB, m.new⟩ ap
end
end T

namespace T
open PySem L2

section
variable {X : Cx} {e : Ent}
/-- self.f = {}; for ..: one statement; self.f[k] = v -/
def dFldDict (i : Nat) (f : Str) (cs : List Str) (w : TDA) (g : TDG) (tb : TDS) (tk tv : TDE) (u : TDS) : TDS := fun F δ => match δ[i]? with
  | some (.ow (.self x C fs)) => C ∈ cs ∧ fs.length < 900 ∧ w (δ.set i (.im (.ref x))) fun ds δ1 => ∃ Inv : Nat → List (Key × D) → DSt → Prop, Inv 0 [] δ1 ∧
     (∀ j d acc δ', ds[j]? = some d → Inv j acc δ' → g d δ' fun δ2 => tb { nx := fun δ3 => tv δ3 fun y δ4 => δ4[i]? = some (.im (.ref x)) ∧ tk δ4 fun k δ5 => (match keyD k with | some kk => acc.length < 100000 ∧ Inv (j + 1) (putKD acc kk y) δ5 | none => False), rt := fun _ _ => False } δ2) ∧
     ∀ acc δ', Inv ds.length acc δ' → δ'[i]? = some (.im (.ref x)) ∧ u F (δ'.set i (.ow (.self x C (putFD f (.dct acc) fs))))
  | _ => False
theorem dss_fldDict {o1 o2 tg iter ke ve : Expr} {s1 : Stmt} {rest : List Stmt} {i k0 : Nat} {f : Str} {cs : List Str} {w : TDA} {g : TDG} {tb u : TDS} {tk tv : TDE} {fp : List Nat} {p1 p2 p3 p4 p5 p6 p7 : Pos}
    (hr : Room k0 X.A) (hcalm : X.calm = true) (hpo : PassesOwn (model X.prog X.w) X.A X.env X.xe) (ho1 : PE X o1 (tVar i)) (ho2 : PE X o2 (tVar i)) (hc : FldOk X.K f cs) (hi : DI X e tg iter w) (hg : DG X e tg fp g) (hb : DS X e s1 tb) (hk : DE X e ke tk) (hv : DE X e ve tv) (hu : DSs X e rest u)
    (hs1 : swapsWith (.Dict [] [] p2) (some (.Attribute o1 f p1)) p3.line X.env = pure false := by rfl)
    (hab : attributeBase o2 f X.env (eval o2 X.env) = eval o2 X.env := by rfl)
    (ha : ∀ v, assign (.Subscript (.Attribute o2 f p4) ke p5) X.env v = (do
      let ov ← holding [v] (eval (.Attribute o2 f p4) X.env)
      let iv ← holding [v, ov] (eval ke X.env)
      standAt p5
      holding [v, ov, iv] (setItem ov iv v)
      release [v, ov, iv] []) := by intro _; rfl)
    (hs2 : swapsWithSole [.Subscript (.Attribute o2 f p4) ke p5] ve p6.line X.env = pure false := by rfl) (hw2 : swappedStores [.Subscript (.Attribute o2 f p4) ke p5] ve X.env = pure none := by rfl)
    (hx1 : (assignEach [.Subscript (.Attribute o2 f p4) ke p5] X.env).map (·.2) = [assign (.Subscript (.Attribute o2 f p4) ke p5) X.env] := by rfl) (hfs : ∀ x, foldedSetIterable iter X.env x = pure x := by intro _; rfl) :
    DSs X e (.Assign [.Attribute o1 f p1] (.Dict [] [] p2) p3 :: .For tg iter [s1, .Assign [.Subscript (.Attribute o2 f p4) ke p5] ve p6] [] p7 :: rest) (dFldDict i f cs w g tb tk tv u) := by
  have st3 := ps_asg (pos := p6) hv (pg_sub (pe_fld (pos := p4) ho2 hab) hk (set_dict (hu_of hr)) ha) hs2 hw2 hx1
  refine pss_imp (pss_cons (ps_fld (pos := p3) (pos' := p1) ho1 pe_dnewK hs1) (pss_cons (ps_for (pos := p7) hpo hcalm hi hg (pss_cons hb (pss_one st3)) hfs) hu)) fun E σ H ⟨T, G, δ, F, S, q, n, r, b, c⟩ => ?_
  unfold dFldDict at q
  cases hs : δ[i]? with
  | none => rw [hs] at q; exact q.elim
  | some sl =>
    rw [hs] at q
    cases sl with
    | no => exact q.elim
    | im _ => exact q.elim
    | ow dd =>
      cases dd with
      | self x C fs =>
        obtain ⟨hC, hlen, q⟩ := q
        obtain ⟨l, h1, m, S0⟩ := S.moveOut hs
        obtain ⟨rfl, dx, fvs, hx, e1, r1⟩ := m.own
        intro p hp
        obtain ⟨S1, st1, nI, nB, new, ap⟩ := S0.new (o := .dK []) hp
        have S1' := S1.hold (l := p) (d := .dct []) ⟨⟨[], upd_same, rfl, .nil, fun _ h => nomatch h⟩, nI, nB, new⟩ ap
        have ne : l ≠ p := fun z => by rw [z, hp] at hx; cases hx
        have hx1 : L2.upd H p (.dK []) l = some (.ins (He.ga X.K C) dx fvs) := by rw [upd_ne ne]; exact hx
        obtain ⟨pr1, pr2⟩ := put_rep (K := X.K) (G := G) (f := f) (Rep.ref p) e1 r1
        obtain ⟨S2, st2⟩ := S1'.write2 (d' := .self l C (putFD f (.ref p) fs)) (o := .ins (He.ga X.K C) dx (putF f (.ref p) fvs)) ⟨rfl, dx, _, upd_same, pr1, pr2⟩
        have hflen : fvs.length = fs.length := by have := congrArg List.length e1; simpa using this
        refine ⟨_, h1, l, _, dx, fvs, rfl, hx1, (hc C hC).1, (hc C hC).2, by rw [hflen]; omega, ?_⟩
        have le2 : Le G G := Le.refl _
        refine ⟨_, G, _, _, S2, q, fun J ds H3 G3 δ3 S3 st3' Y ⟨Iv, h0, hstep, hdone⟩ => ?_⟩
        let T2 : List (Key × D) → Tm := fun acc => (T.push l (.self l C (putFD f (.ref p) fs))).push p (.dct acc)
        refine ⟨fun j mm σ' H' => mm = ds.length - j ∧ j ≤ ds.length ∧ ∃ G' δ' acc, Le G3 G' ∧ SS X.K e (T2 acc) G' H' σ' δ' ∧ Iv j acc δ', ⟨ds.length, by simp, Nat.zero_le _, G3, δ3, [], Le.refl _, S3, h0⟩, ?_⟩
        rintro j mm σ4 H4 ⟨rfl, hj, G4, δ4, acc, le4, S4, iv⟩
        by_cases hlt : j < ds.length
        · refine .inr ⟨Y.go j _ G4 H4 σ4 δ4 le4 S4 hlt, fun σ' H' => ∃ G' δ' acc', Le G3 G' ∧ SS X.K e (T2 acc') G' H' σ' δ' ∧ Iv (j + 1) acc' δ', fun σ' H' ⟨G', δ', acc', l', S', iv'⟩ => ⟨ds.length - (j + 1), by omega, rfl, hlt, G', δ', acc', l', S', iv'⟩, fun xv H5 y => ?_⟩
          obtain ⟨d, G5, hd', S5, st5, rep⟩ := Y.yld j _ G4 H4 σ4 δ4 xv H5 le4 S4 hlt y
          refine ⟨_, G5, δ4, d, _, S5, rep, hstep j d acc δ4 hd' iv, fun σ6 δ6 G6 H6 S6 st6 _ q6 => ?_⟩
          have le6 : Le G3 G6 := le4.trans (st5.le.trans st6.le)
          refine ⟨_, G6, δ6, _, S6, q6, fun σ7 δ7 G7 H7 le7 S7 q7 => ?_, fun _ _ _ _ _ _ _ _ z => z.elim, fun _ _ _ _ _ _ z => z.elim, fun _ _ _ _ _ _ z => z.elim⟩
          refine ⟨_, G7, δ7, _, S7, q7, fun v yd H8 G8 δ8 S8 st8 ry q8 => ?_⟩
          obtain ⟨h8, q8⟩ := q8
          obtain ⟨o8, hσ, v8, rfl, rv8⟩ := S8.sl i _ h8
          cases rv8
          obtain ⟨S8a, mp8, ap8⟩ := S8.drop
          obtain ⟨S8b, mx8, _⟩ := S8a.drop
          obtain ⟨_, dx8, fvs8, hx8, e8, r8⟩ := mx8.own
          obtain ⟨v', hv', rv'⟩ := look_rep e8 r8 (look_put fs)
          cases rv'
          refine ⟨_, hσ, l, _, dx8, fvs8, _, rfl, hx8, (hc C hC).1, (hc C hC).2, hv', _, G8, δ8, _, S8, q8, fun kv kd H9 G9 δ9 S9 st9 rk q9 => ?_⟩
          cases hkk : keyD kd with
          | none => rw [hkk] at q9; exact q9.elim
          | some kk =>
            rw [hkk] at q9
            obtain ⟨ek, okk⟩ := key_rep rk hkk
            subst ek
            obtain ⟨_, mp9, _⟩ := S9.drop
            obtain ⟨kvs, hp9, e9, r9, w9⟩ := mp9.own
            obtain ⟨pp1, pp2⟩ := putKD_rep (k := kk) (ry.mono st9.le) e9 r9
            have hkl : kvs.length = acc.length := by have := congrArg List.length e9; simpa using this
            obtain ⟨S10, st10⟩ := S9.writeT (d' := .dct (putKD acc kk yd)) (o := .dK (putK kvs kk v)) ⟨_, upd_same, pp1, pp2, fun z hz => (putKD_keys hz).elim (w9 z) fun ee => ee ▸ okk⟩
            exact ⟨p, _, rfl, .inl ⟨kvs, kk, hp9, rfl, by rw [hkl, sizeLine_eq]; omega, rfl⟩, G9, δ9, _, le6.trans (le7.trans (st8.le.trans (st9.le.trans st10.le))), S10, q9.2⟩
        · have ej : j = ds.length := by omega
          subst ej
          refine .inl ⟨Y.stop _ _ G4 H4 σ4 δ4 le4 S4 (Nat.le_refl _), ?_⟩
          obtain ⟨h9, qu⟩ := hdone acc δ4 iv
          obtain ⟨S5, mp, app⟩ := S4.drop
          obtain ⟨G6, S6, st6, rp⟩ := S5.freeze mp app
          obtain ⟨_, mx, _⟩ := S6.drop
          obtain ⟨_, dx6, fvs6, hx6, e6, r6⟩ := mx.own
          obtain ⟨z1, z2⟩ := relab rp fs e6 r6
          have S7 := S6.relabel (d' := .self l C (putFD f (.dct acc) fs)) ⟨rfl, dx6, fvs6, hx6, z1, z2⟩
          have S8 := S7.moveIn h9
          have leA : Le G G6 := st3'.le.trans (le4.trans st6.le)
          exact ⟨T, G6, _, F, S8, qu, fun a b' c' d' l2 => n a b' c' d' (leA.trans l2), r, fun a b' c' d' l2 => b a b' c' d' (leA.trans l2), fun a b' c' d' l2 => c a b' c' d' (leA.trans l2)⟩
      | _ => exact q.elim
end
end T

namespace T
open PySem L2
/-! ### facts of the text, by tests of one's own -/
theorem fnD_at {K : PySem.W.Frag} {a : Addr} {d : DefX} {vs : List V} (e : fnAt K a = d.says) (c : fnTest K a d.ql vs = true) : ∃ fd, FunD K d.nm d.ql (defArgs d.st) (defBody d.st) (defScope d.st) vs [] a fd := by
  obtain ⟨kp, c2⟩ := He.ba c
  unfold fnAt at e
  cases q : K.lookup a with
  | none => rw [q] at c2; cases c2
  | some o =>
    rw [q] at c2 e
    obtain ⟨oc, od, dt, osl⟩ := o
    cases dt with
    | func u =>
      obtain ⟨y1, y2, y3, y4, y5, y6, y7, y8, y9, y10, y11, y12, y13, y14, y15⟩ := u
      have e2 : (some (y1, y2, y3, y4, y5, y6, y7, y15) : He.FnW) = some (d.nm, d.ql, defArgs d.st, .stmts (defBody d.st), defScope d.st, mainGlobals, [], builtinsNs) := e
      simp only [Option.some.injEq, Prod.mk.injEq] at e2
      obtain ⟨z1, z2, z3, z4, z5, z6, z7, z8⟩ := e2
      subst z1 z2 z3 z4 z5 z6 z7 z8
      have c3 : (PySem.W.codeIn K y13 d.ql && (He.dflB K y8 vs && He.kwdB K y9 [])) = true := c2
      obtain ⟨k1, k2⟩ := He.ba c3
      obtain ⟨k3, k4⟩ := He.ba k2
      exact ⟨_, ⟨oc, od, y8, y9, y10, y11, y12, y13, y14, osl, rfl, q, k1, He.dflB_ok k3, He.kwdB_ok k4⟩, kp⟩
    | _ => cases c2
def obsX (ts : List Tst) (ds : List DefX) (K : PySem.W.Frag) : He.AlD := ((ts.all fun t => t K) && ds.all fun d => fnTest K (d.ad K) d.ql (d.df.map (He.Dv.v K)), ds.map fun d => fnAt K (d.ad K))
def SaysX (ts : List Tst) (ds : List DefX) (K : PySem.W.Frag) : Prop := obsX ts ds K = (true, ds.map DefX.says)
section
variable {ts : List Tst} {ds : List DefX} {K : PySem.W.Frag}
theorem SaysX.tst (c : SaysX ts ds K) (i : Nat) {t : Tst} (h : ts[i]? = some t := by rfl) : t K = true := by
  have c1 := (He.ba (show ((ts.all fun t => t K) && ds.all fun d => fnTest K (d.ad K) d.ql (d.df.map (He.Dv.v K))) = true from congrArg Prod.fst c)).1
  exact List.all_eq_true.mp c1 t (List.mem_of_getElem? h)
theorem SaysX.dfn (c : SaysX ts ds K) (i : Nat) {d : DefX} (h : ds[i]? = some d := by rfl) : ∃ fd, FunD K d.nm d.ql (defArgs d.st) (defBody d.st) (defScope d.st) (d.df.map (He.Dv.v K)) [] (d.ad K) fd := by
  have c2 := (He.ba (show ((ts.all fun t => t K) && ds.all fun d => fnTest K (d.ad K) d.ql (d.df.map (He.Dv.v K))) = true from congrArg Prod.fst c)).2
  have e2 : (ds.map fun d => fnAt K (d.ad K))[i]? = (ds.map DefX.says)[i]? := by rw [show (ds.map fun d => fnAt K (d.ad K)) = ds.map DefX.says from congrArg Prod.snd c]
  rw [List.getElem?_map, List.getElem?_map, h] at e2
  exact fnD_at (Option.some.inj e2) (List.all_eq_true.mp c2 d (List.mem_of_getElem? h))
end
/-! tests -/
theorem prop_ok {K : PySem.W.Frag} {x f : Str} (c : tProp x f K = true) : PropOf K (He.ga K x) f (pAd K x f) (pGet K x f) := by
  obtain ⟨c1, c2⟩ := He.ba c
  obtain ⟨c3, c4⟩ := He.ba c2
  obtain ⟨c5, c6⟩ := He.ba c4
  refine ⟨He.eqO_ok c1, He.eqO_ok c3, of_decide_eq_true c5, ?_⟩
  unfold pGet
  cases hr : PySem.W.recIn K (pAd K x f) "property" with
  | none => rw [hr] at c6; cases c6
  | some l =>
    rw [hr] at c6
    cases l with
    | nil => cases c6
    | cons v r =>
      cases v with
      | ref g => exact ⟨r, rfl⟩
      | _ => cases c6
end T

namespace T
open PySem L2
/-! ### a whole number written in a class -/
def CConOk (K : PySem.W.Frag) (x f : Str) (i : Int) : Prop := ClX.CRead K (He.ga K x) (.type "type") ∧ ∃ u, ClX.CVal K (He.ga K x) (.type "type") f (.int i) u
theorem ccon_ok {K : PySem.W.Frag} {x f : Str} {i : Int} (c : tCCon x f i K = true) : CConOk K x f i := by
  obtain ⟨c1, c2⟩ := He.ba c
  obtain ⟨c3, c4⟩ := He.ba c2
  refine ⟨⟨c1, He.eqO_ok c3⟩, ?_⟩
  cases hf : PySem.W.findCls K (.ref (He.ga K x)) (.type "type") f with
  | none => rw [hf] at c4; cases c4
  | some r =>
    rw [hf] at c4
    cases r with
    | val v =>
      cases v with
      | int j t =>
        have ej : j = i := of_decide_eq_true c4
        subst ej
        exact ⟨_, ⟨hf, ⟨t, rfl⟩⟩⟩
      | _ => cases c4
    | _ => cases c4
section
variable {X : Cx} {e : Ent} {pos : Pos}
theorem de_ccon {x f : Str} {i : Int} {p : Pos} (c : CConOk X.K x f i) (hg : Gl X x) (hm : X.mg x = some (.ref (He.ga X.K x))) (hd : (x == ("__debug__" : Str)) = false := by decide)
    (hb : attributeBase (.Name x p) f X.env (eval (.Name x p) X.env) = eval (.Name x p) X.env := by rfl) : DE X e (.Attribute (.Name x p) f pos) (dC (.int i)) :=
  pe_imp (ClX.pe_cval (de_gref hg hm hd) hb) fun σ H Q ⟨T, G, δ, Qd, S, q, k⟩ => by
    obtain ⟨r, u, cv⟩ := c
    exact ⟨_, _, _, u, rfl, r, cv, k _ (.int i) H G δ S Step.refl (.int i) q⟩
end
end T

namespace T
open PySem L2
section
variable {X : Cx} {e : Ent} {pos : Pos}
/-! ### a dict written out -/
def dPairs : List (TDE × TDE) → DSt → (List (D × D) → DSt → Prop) → Prop
  | [], δ, Q => Q [] δ
  | p :: r, δ, Q => p.1 δ fun k δ1 => p.2 δ1 fun v δ2 => dPairs r δ2 fun ps δ3 => Q ((k, v) :: ps) δ3
def keysOf : List (D × D) → Option (List (Key × D))
  | [] => some []
  | p :: r => match keyD p.1 with | some k => (keysOf r).map ((k, p.2) :: ·) | none => none
abbrev up2 (K : PySem.W.Frag) (e : Ent) (trs : List (TDE × TDE)) : List (TE × TE) := trs.map fun p => (lift K e p.1, lift K e p.2)
theorem pairs_ent {K : PySem.W.Frag} {T : Tm} {σ : St} : ∀ (trs : List (TDE × TDE)) {G : Gh} {H : Hp} {δ : DSt} {Qd : List (D × D) → DSt → Prop} {Q : List (V × V) → Hp → Prop}, SS K e T G H σ δ → dPairs trs δ Qd →
    (∀ ps ds H' G' δ', SS K e T G' H' σ δ' → Step e G H G' H' → RepL K G' (ps.map (·.1)) (ds.map (·.1)) → RepL K G' (ps.map (·.2)) (ds.map (·.2)) → ps.length = trs.length → Qd ds δ' → Q ps H') → tPairs (up2 K e trs) σ H Q
  | [], G, H, δ, Qd, Q, S, q, k => k [] [] H G δ S Step.refl .nil .nil rfl q
  | p :: r, G, H, δ, Qd, Q, S, q, k => ⟨T, G, δ, _, S, q, fun vk dk H1 G1 δ1 S1 st1 rk q1 => ⟨T, G1, δ1, _, S1, q1, fun vv dv H2 G2 δ2 S2 st2 rv q2 =>
      pairs_ent r S2 q2 fun ps ds H3 G3 δ3 S3 st3 h1 h2 hl q3 => k _ ((dk, dv) :: ds) H3 G3 δ3 S3 (st1.trans (st2.trans st3)) (.cons (rk.mono (st2.le.trans st3.le)) h1) (.cons (rv.mono st3.le) h2) (congrArg (· + 1) hl) q3⟩⟩
theorem keysOf_ok {K : PySem.W.Frag} {G : Gh} : ∀ {ps : List (V × V)} {ds : List (D × D)} {kds : List (Key × D)}, RepL K G (ps.map (·.1)) (ds.map (·.1)) → RepL K G (ps.map (·.2)) (ds.map (·.2)) → keysOf ds = some kds →
    ∃ kvs : List (Key × V), ps = kvs.map (fun kv => (kV kv.1, kv.2)) ∧ kvs.map (·.1) = kds.map (·.1) ∧ RepL K G (kvs.map (·.2)) (kds.map (·.2)) ∧ ∀ k ∈ kds.map (·.1), kOk k
  | [], [], _, _, _, h => by cases h; exact ⟨[], rfl, rfl, .nil, fun _ h => nomatch h⟩
  | p :: ps, d :: ds, kds, .cons h1 h2, .cons h3 h4, h => by
    rw [keysOf] at h
    cases hk : keyD d.1 with
    | none => rw [hk] at h; cases h
    | some k =>
      rw [hk] at h
      cases hr : keysOf ds with
      | none => rw [hr] at h; cases h
      | some kds' =>
        rw [hr] at h
        cases h
        obtain ⟨kvs, rfl, e1, r1, w⟩ := keysOf_ok h2 h4 hr
        obtain ⟨ek, okk⟩ := key_rep h1 hk
        refine ⟨(k, p.2) :: kvs, by simp [← ek], by simp [e1], .cons h3 r1, fun x hx => ?_⟩
        rcases List.mem_cons.mp (by simpa using hx : x ∈ k :: kds'.map (·.1)) with rfl | hx
        · exact okk
        · exact w x hx
def mergeD (acc more : List (Key × D)) : List (Key × D) := more.foldl (fun a p => putKD a p.1 p.2) acc
theorem merge_rep {K : PySem.W.Frag} {G : Gh} : ∀ {kvs : List (Key × V)} {kds : List (Key × D)} {av : List (Key × V)} {ad : List (Key × D)}, kvs.map (·.1) = kds.map (·.1) → RepL K G (kvs.map (·.2)) (kds.map (·.2)) → (∀ k ∈ kds.map (·.1), kOk k) →
    av.map (·.1) = ad.map (·.1) → RepL K G (av.map (·.2)) (ad.map (·.2)) → (∀ k ∈ ad.map (·.1), kOk k) →
    (mergeK av kvs).map (·.1) = (mergeD ad kds).map (·.1) ∧ RepL K G ((mergeK av kvs).map (·.2)) ((mergeD ad kds).map (·.2)) ∧ ∀ k ∈ (mergeD ad kds).map (·.1), kOk k
  | [], [], av, ad, _, _, _, a1, a2, a3 => ⟨a1, a2, a3⟩
  | p :: r, q :: s, av, ad, e1, r1, w, a1, a2, a3 => by
    simp only [List.map_cons, List.cons.injEq] at e1
    obtain ⟨k, v⟩ := p
    obtain ⟨k', d⟩ := q
    obtain ⟨rfl, e1⟩ := e1
    cases r1 with
    | cons h1 h2 =>
      obtain ⟨b1, b2⟩ := putKD_rep (k := k) h1 a1 a2
      have w1 : ∀ x ∈ s.map (·.1), kOk x := fun x hx => w x (by rw [List.map_cons]; exact List.mem_cons_of_mem _ hx)
      have w0 : kOk k := w k (by rw [List.map_cons]; exact List.mem_cons_self)
      have b3 : ∀ x ∈ (putKD ad k d).map (·.1), kOk x := fun x hx => (putKD_keys hx).elim (a3 x) fun z => z ▸ w0
      exact merge_rep (av := putK av k v) (ad := putKD ad k d) e1 h2 w1 b1 b2 b3
def dDisp (trs : List (TDE × TDE)) : TDE := fun δ Q => dPairs trs δ fun ps δ1 => match keysOf ps with | some kds => Q (.dct (mergeD [] kds)) δ1 | none => False
theorem do_disp {keys : List (Option Expr)} {values : List Expr} {trs : List (TDE × TDE)} (h : PPs X pos keys values (up2 X.K e trs)) (hall : keys.all (·.isSome) = true) (hl : keys.length = values.length) (h0 : keys ≠ []) (h15 : keys.length ≤ 15) (hn : trs.length ≤ 15) :
    DO X e (.Dict keys values pos) (dDisp trs) :=
  pe_imp (pe_disp h hall hl h0 h15) fun σ H Q ⟨T, G, δ, Qd, S, q, k⟩ => by
    intro p hp
    obtain ⟨S1, st1, nI, nB, new, ap⟩ := S.new (o := .dK []) hp
    have S1' := S1.hold (l := p) (d := .dct []) ⟨⟨[], upd_same, rfl, .nil, fun _ h => nomatch h⟩, nI, nB, new⟩ ap
    refine pairs_ent trs S1' q fun ps ds H2 G2 δ2 S2 st2 r1 r2 hlen q2 => ?_
    cases hk : keysOf ds with
    | none => rw [hk] at q2; exact q2.elim
    | some kds =>
      rw [hk] at q2
      obtain ⟨kvs, rfl, e1, r1', w⟩ := keysOf_ok r1 r2 hk
      obtain ⟨S3, m, ap3⟩ := S2.drop
      obtain ⟨kv0, h2, e2, _⟩ := m.own
      have : kv0 = [] := by simpa using e2
      subst this
      obtain ⟨z1, z2, z3⟩ := merge_rep (av := []) (ad := []) e1 r1' w rfl .nil (fun _ h => nomatch h)
      obtain ⟨S4, st4⟩ := S2.writeT (d' := .dct (mergeD [] kds)) (o := .dK (mergeK [] kvs)) ⟨_, upd_same, z1, z2, z3⟩
      obtain ⟨S5, m5, ap5⟩ := S4.drop
      have hkl : kvs.length ≤ 15 := by
        simp at hlen
        omega
      exact ⟨h2, kvs, rfl, hkl, k p _ _ G2 δ2 S5 (st1.trans (st2.trans st4)) m5 ap5 q2⟩
/-! ### x += e of a whole number -/
def dAug (i : Nat) (t : TDE) : TDS := fun F δ => match rdS δ i with | some (.int a) => t δ fun d δ1 => (match d with | .int b => F.nx (δ1.set i (.im (.int (a + b)))) | _ => False) | _ => False
theorem ds_aug {i : Nat} {x : Str} {ex : Expr} {t : TDE} {pos' : Pos} (hN : X.N.Nodup) (hi : X.N[i]? = some x) (hx : Loc X.env.scope x) (h : DE X e ex t) (hf : X.fn x = true ∨ X.env.scope.names.lookup x = some .local := by first | exact .inl rfl | exact .inr rfl | assumption) :
    DS X e (.AugAssign (.Name x pos') .Add ex pos) (dAug i t) :=
  ps_imp (ps_aug hN hi hx h ip_add hf) fun E σ H ⟨T, G, δ, F, S, q, n, r, b, c⟩ => by
    unfold dAug at q
    cases hr : rdS δ i with
    | none => rw [hr] at q; exact q.elim
    | some d0 =>
      rw [hr] at q
      cases d0 with
      | int a =>
        obtain ⟨v, hv, rv⟩ := rdS_ok S hr
        have ev := rv.int
        subst ev
        refine ⟨_, hv, T, G, δ, _, S, q, fun y d H1 G1 δ1 S1 st1 rd q1 => ?_⟩
        cases d with
        | int b' =>
          have ey := rd.intI
          subst ey
          exact ⟨a, b', rfl, rfl, n _ _ G1 H1 st1.le (S1.asg (.int _)) q1⟩
        | _ => exact q1.elim
      | _ => exact q.elim
/-- a text of the module -/
theorem de_gstrX {x z : Str} (hg : Gl X x) (hm : ∃ t, X.mg x = some (.str z t)) (hz : sOk z) (hd : (x == ("__debug__" : Str)) = false := by decide) : DE X e (.Name x pos) (dC (.str z)) := by
  obtain ⟨t, hm⟩ := hm
  exact de_gstr hg hm ⟨t, rfl⟩ hz hd
end
end T

namespace T
open PySem L2
section
variable {X : Cx} {e : Ent} {pos : Pos}
/-! ### x == y, x < y .. by the class's own def, both instances -/
end
end T

namespace T
open PySem L2
section
variable {X : Cx} {e : Ent} {pos : Pos}
end
end T

namespace T
open PySem L2
section
variable {X : Cx} {e : Ent} {pos : Pos}
end
end T

namespace T
open PySem L2
section
variable {X : Cx} {e : Ent} {pos : Pos}
/-- an operation on two frozen things -/
def OpF (X : Cx) (e : Ent) (W : R2) (g : D → D → (D → Prop) → Prop) : Prop := ∀ (T : Tm) (G : Gh) (H : Hp) (σ : St) (δ : DSt) (x y : V) (a b : D) (Qd : D → Prop) (Q : VK), SS X.K e T G H σ δ → Rep X.K G x a → Rep X.K G y b → g a b Qd →
  (∀ v d H' G', SS X.K e T G' H' σ δ → Step e G H G' H' → Rep X.K G' v d → Qd d → Q v H') → W x y H Q
theorem OpD.f {W : R2} {g : D → D → (D → Prop) → Prop} (h : OpD X e W g) : OpF X e W g := fun T G H σ δ x y a b Qd Q S ra rb => h T G H σ δ x y a b Qd Q S (.inl ra) (.inl rb)
end
end T

namespace T
open PySem L2
/-! ### static methods, class methods, class values, isinstance of own classes -/
section
variable {X : Cx} {CX : CXT} {k : Nat} {C p g : Addr} {mc : Value} {sp : Sp} {E : XK} {o e : Expr} {es : List Expr} {f m : Str} {pos apos : Pos} {ta : TE} {t : TA} {pl : Sem Bool}
end
section
variable {X : Cx} {e : Ent} {pos apos : Pos}
/-- the name of a class, as a value -/
theorem de_cls {C : Str} {p : Pos} (hg : Gl X C) (hm : X.mg C = some (.ref (He.ga X.K C))) (hd : (C == ("__debug__" : Str)) = false := by decide) : DE X e (.Name C p) (dC (.cls C)) := de_c (pe_glob (v := .ref (He.ga X.K C)) hg hm rfl hd) fun _ => .cls C
/-- C.m(..), m a static method; c the class itself -/
def dStat (C : Str) (sd : SpD) (tc : TDE) (t : TDA) : TDE := fun δ Q => tc δ fun d δ1 => d = .cls C ∧ t δ1 fun ds δ2 => sd ds fun z => Q z δ2
/-- o.m(..), m a static method of o's class -/
def dStatI (C m : Str) (sd : SpD) (tc : TDE) (t : TDA) : TDE := fun δ Q => tc δ fun d δ1 => match insOf d with
  | some (C', fs) => C' = C ∧ fs.lookup m = none ∧ t δ1 fun ds δ2 => sd ds fun z => Q z δ2
  | none => False
def dClsM (C : Str) (sd : SpD) (tc : TDE) (t : TDA) : TDE := fun δ Q => tc δ fun d δ1 => d = .cls C ∧ t δ1 fun ds δ2 => sd (.cls C :: ds) fun z => Q z δ2
def isiC (tb : List (Str × Bool)) (a : D) (Q : D → Prop) : Prop := match insOf a with
  | some (C', _) => (match tb.lookup C' with | some b => Q (.bl b) | none => False)
  | none => (match tyN a with | some _ => Q (.bl false) | none => False)
end
end T

namespace T
open PySem L2
section
open PySem.W PyProof.Rows
variable {prog : Program} {w : World} {A : Around} {E : Value → Shared → Prop} {s : Shared} {K : Frag} {x C L f g : Addr} {h₀ : Heap} {m : Str → Option Value} {ox : Obj} {od : Option Obj}
end
section
variable {X : Cx} {e : Ent} {pos : Pos}
/-! ### cls(..): a local name that is a class -/
def dNewV (C : Str) (sd : SpI) (tc : TDE) (t : TDA) : TDE := fun δ Q => tc δ fun d δ1 => d = .cls C ∧ t δ1 fun ds δ2 => sd ds fun fs => Q (.ins C fs) δ2
end
end T

namespace PySem
open PyProof.Rows
section
variable {prog : Program} {w : World} {A : Around} {s : Shared}
end
end PySem
namespace T
open PySem L2
section
variable {X : Cx} {e : Ent} {pos : Pos}
/-- a list == [] -/
def nilD (neg : Bool) : D → D → (D → Prop) → Prop
  | .lst l, .lst [], Q => Q (.bl (if neg = true then !l.isEmpty else l.isEmpty))
  | _, _, _ => False
end
end T

namespace T
open PySem L2
section
open PySem.W PyProof.Rows
variable {prog : Program} {w : World} {A : Around} {E : Value → Shared → Prop} {s : Shared} {K : Frag} {x y C C' L f g : Addr} {h₀ : Heap} {m : Str → Option Value} {ox : Obj} {od : Option Obj}
end
section
variable {X : Cx} {e : Ent} {pos : Pos}
/-- a test by an operation on frozen things -/
def dtB2 (g : D → D → (D → Prop) → Prop) (t u : TDE) : TDT := fun δ Q => dB2 g t u δ fun z δ' => onBl z fun b => Q b δ'
theorem dt_cmpF {a b : Expr} {t u : TDE} {op : CmpOp} {g : D → D → (D → Prop) → Prop} (ho : OpF X e (WOp X (compareOp op)) g) (ha : DE X e a t) (hb : DE X e b u) (hm : behindInMarks op b = false) : DT X e (.Compare a [op] [b] pos) (dtB2 g t u) :=
  pt_imp (pt_cmpR wop_self ha hb hm) fun σ H Q ⟨T, G, δ, Qd, S, q, k⟩ => ⟨T, G, δ, _, S, q, fun x d H1 G1 δ1 S1 st1 r1 q1 => ⟨T, G1, δ1, _, S1, q1, fun y d2 H2 G2 δ2 S2 st2 r2 q2 =>
    ho T G2 H2 σ δ2 x y d d2 _ _ S2 (r1.mono st2.le) r2 q2 fun v z H' G' S' st' rep qd => by
      obtain ⟨c, rfl, qd⟩ := onBl_ok qd
      exact ⟨c, rep.blI, k c H' G' δ2 S' (st1.trans (st2.trans st')) qd⟩⟩⟩
end
end T

namespace T
open PySem L2
/-! ### tests of the text for the rules of PT to PW -/
def ge (K : PySem.W.Frag) (C m : Str) (kind : String) : Addr := match PySem.W.recIn K (pAd K C m) kind with | some (.ref g :: _) => g | _ => 0
theorem own_ok {K : PySem.W.Frag} {C m : Str} (c : tOwn C m K = true) : PySem.W.findIn K (.ref (He.ga K C)) m = some (some (.ref (He.ma K (He.ga K C) m))) ∧ PySem.W.isFn K (.ref (He.ma K (He.ga K C) m)) = true := by
  obtain ⟨c1, c2⟩ := He.ba c
  exact ⟨He.eqO_ok c1, c2⟩
theorem fld_ok {K : PySem.W.Frag} {f : Str} {cs : List Str} (c : tFld f cs K = true) : FldOk K f cs := fun C hC => by
  obtain ⟨c1, c2⟩ := He.ba (List.all_eq_true.mp c C hC)
  exact ⟨He.cls_ok c1, He.noat_ok c2⟩
end T

namespace T
open PySem L2
/-! ### pairs of whole numbers compared -/
def pairD (f : Int → Int → Bool) : D → D → (D → Prop) → Prop
  | .tup [.int a, .int b], .tup [.int c, .int d], Q => Q (.bl (if a = c then f b d else f a c))
  | _, _, _ => False
def ltP := pairD fun i j => decide (i < j)
def leP := pairD fun i j => decide (i ≤ j)
def gtP := pairD fun i j => decide (j < i)
def geP := pairD fun i j => decide (j ≤ i)
section
variable {X : Cx} {e : Ent} {pos : Pos}
end
end T

namespace T
open PySem L2
section
variable {X : Cx} {e : Ent} {pos : Pos}
end
end T

namespace T
open PySem L2
theorem osl {X : Cx} {e : Ent} {a : Expr} {i : Nat} (h : PE X a (tVar i)) : OPN X e a (.sl i) := h
theorem oex {X : Cx} {e : Ent} {a : Expr} {t : TDE} (h : DE X e a t) : OPN X e a (.ex t) := h
theorem eim {X : Cx} {e : Ent} {a : Expr} {t : TDE} (h : DE X e a t) : evPE X e a (.im t) := h
theorem eow {X : Cx} {e : Ent} {a : Expr} {t : TDE} (h : DO X e a t) : evPE X e a (.ow t) := h
instance {s : Str} : Decidable (sOk s) := by unfold sOk; infer_instance
/-! ### operations that are not unfolded -/
abbrev Op2 := D → D → (D → Prop) → Prop
@[irreducible] def mulX : Op2 := mulD
@[irreducible] def addX : Op2 := addD
@[irreducible] def isiX : Op2 := isiD
@[irreducible] def ixX : Op2 := ixA
@[irreducible] def inX (neg : Bool) : Op2 := inA neg
@[irreducible] def eqX : Op2 := eqD
@[irreducible] def neX : Op2 := neD
section
variable {X : Cx} {e : Ent} {pos : Pos}
theorem opd_mulX : OpD X e (WOp X (binaryOp .Mult)) mulX := by unfold mulX; exact opd_mul
theorem opd_addX : OpD X e (WOp X (binaryOp .Add)) addX := by unfold addX; exact opd_add
theorem de_isiX {a b : Expr} {t u : TDE} {p : Pos} (ha : DE X e a t) (hb : DE X e b u) (hg : Gl X "isinstance") (hm : X.mg "isinstance" = none) (hs : starEach (a :: [b]) X.env = (false, eval a X.env) :: starEach [b] X.env := by rfl) (hs2 : starEach (b :: []) X.env = (false, eval b X.env) :: starEach [] X.env := by rfl) (hpl : (backTo pos (starEach [b] X.env)).any (·.1) = false := by rfl) :
    DE X e (.Call (.Name "isinstance" p) [a, b] [] pos) (dB2 isiX t u) := by unfold isiX; exact de_isi ha hb hg hm hs hs2 hpl
theorem de_ixX {a b : Expr} {A B : Opn} {k0 : Nat} (hr : Room k0 X.A) (ha : OPN X e a A) (hb : OPN X e b B) (hs : PlainIx b := by exact fun _ _ => rfl) : DE X e (.Subscript a b pos) (dBin ixX A B) := by unfold ixX; exact de_ixA hr ha hb hs
theorem opd_inX {k0 : Nat} (hr : Room (k0 + 1) X.A) : OpD X e (WOp X (compareOp .In)) (inX false) := by unfold inX; exact opd_inA hr
theorem opd_notInX {k0 : Nat} (hr : Room (k0 + 1) X.A) : OpD X e (WOp X (compareOp .NotIn)) (inX true) := by unfold inX; exact opd_notInA hr
theorem opd_eqX {k0 : Nat} (hr : Room k0 X.A) : OpD X e (WOp X (compareOp .Eq)) eqX := by unfold eqX; exact opd_eq hr
theorem opd_neX {k0 : Nat} (hr : Room k0 X.A) : OpD X e (WOp X (compareOp .NotEq)) neX := by unfold neX; exact opd_ne hr
end
/-! ### what they ask, by cases -/
section
variable {Q : D → Prop}
theorem if_b {b : Bool} {p q : Prop} (h1 : b = true → p) (h2 : b = false → q) : if b = true then p else q := by cases b with | true => exact h1 rfl | false => exact h2 rfl
theorem line_of {n : Nat} (h : n ≤ 100000) : n < sizeLine := by rw [sizeLine_eq]; omega
theorem at_of {α : Type} {xs : List α} {i : Int} (h0 : 0 ≤ i) (h1 : i < xs.length) : ∃ x, xs[i.toNat]? = some x ∧ atI xs i = some x := by
  obtain ⟨x, hx⟩ : ∃ x, xs[i.toNat]? = some x := ⟨_, List.getElem?_eq_getElem (by omega)⟩
  refine ⟨x, hx, ?_⟩
  have := atI_nat hx
  rwa [Int.toNat_of_nonneg h0] at this
theorem ix_str {s : Str} {i : Int} (hl : s.length ≤ 1000) (h0 : 0 ≤ i) (h1 : i < s.length) (h : ∀ c, s.cps.toList[i.toNat]? = some c → Q (.str ⟨#[c]⟩)) : ixX (.str s) (.int i) Q := by
  unfold ixX
  obtain ⟨c, h2, hc⟩ := at_of (xs := s.cps.toList) h0 (by rw [Array.length_toList]; exact h1)
  show s.length ≤ sizeLine ∧ (match atI s.cps.toList i with | some c => Q (.str ⟨#[c]⟩) | none => False)
  rw [hc]
  exact ⟨le_line hl, h c h2⟩
theorem ix_lst {l : List D} {i : Int} (h0 : 0 ≤ i) (h1 : i < l.length) (h : ∀ d, l[i.toNat]? = some d → Q d) : ixX (.lst l) (.int i) Q := by
  unfold ixX
  obtain ⟨c, h2, hc⟩ := at_of (xs := l) h0 h1
  show (match atI l i with | some d => Q d | none => False)
  rw [hc]
  exact h c h2
theorem ix_tup {l : List D} {i : Int} (h0 : 0 ≤ i) (h1 : i < l.length) (h : ∀ d, l[i.toNat]? = some d → Q d) : ixX (.tup l) (.int i) Q := by
  unfold ixX
  obtain ⟨c, h2, hc⟩ := at_of (xs := l) h0 h1
  show (match atI l i with | some d => Q d | none => False)
  rw [hc]
  exact h c h2
end
end T

namespace T
open PySem L2
mutual
def plain : D → Bool
  | .non => true
  | .int _ => true
  | .str _ => true
  | .tup l => plainL l
  | .lst l => plainL l
  | .bl _ => false
  | .dct _ => false
  | .dtp _ => false
  | .ins _ _ => false
  | .self _ _ _ => false
  | .box _ => false
  | .ty _ => false
  | .ref _ => false
  | .scr _ => false
  | .cls _ => false
  | .dself _ _ => false
def plainL : List D → Bool
  | [] => true
  | d :: r => plain d && plainL r
end
mutual
theorem plain_dat : ∀ {d : D}, plain d = true → isDat d = true
  | .non, _ => rfl
  | .int _, _ => rfl
  | .str _, _ => rfl
  | .tup l, h => plainL_dat (l := l) h
  | .lst l, h => plainL_dat (l := l) h
theorem plainL_dat : ∀ {l : List D}, plainL l = true → isDatL l = true
  | [], _ => rfl
  | d :: r, h => by
    rw [plainL, Bool.and_eq_true] at h
    rw [isDatL, Bool.and_eq_true]
    exact ⟨plain_dat h.1, plainL_dat h.2⟩
end
mutual
theorem eqv_plain : ∀ (a b : D), plain a = true → plain b = true → (PyData.eqv (py a) (py b) = true ↔ a = b)
  | .non, b, _, hb => by cases b <;> first | (simp [py, PyData.eqv]; done) | cases hb
  | .int i, b, _, hb => by cases b <;> first | (simp [py, PyData.eqv]; done) | cases hb
  | .str i, b, _, hb => by cases b <;> first | (simp [py, PyData.eqv]; done) | cases hb
  | .tup l, b, ha, hb => by
    cases b with
    | tup r => simp only [py, PyData.eqv, D.tup.injEq]; exact eqvL_plain l r ha hb
    | non => simp [py, PyData.eqv]
    | int i => simp [py, PyData.eqv]
    | str i => simp [py, PyData.eqv]
    | lst r => simp [py, PyData.eqv]
    | _ => cases hb
  | .lst l, b, ha, hb => by
    cases b with
    | lst r => simp only [py, PyData.eqv, D.lst.injEq]; exact eqvL_plain l r ha hb
    | non => simp [py, PyData.eqv]
    | int i => simp [py, PyData.eqv]
    | str i => simp [py, PyData.eqv]
    | tup r => simp [py, PyData.eqv]
    | _ => cases hb
theorem eqvL_plain : ∀ (a b : List D), plainL a = true → plainL b = true → (PyData.eqvAll (pyL a) (pyL b) = true ↔ a = b)
  | [], [], _, _ => by simp [pyL, PyData.eqvAll]
  | [], _ :: _, _, _ => by simp [pyL, PyData.eqvAll]
  | _ :: _, [], _, _ => by simp [pyL, PyData.eqvAll]
  | x :: r, y :: s, ha, hb => by
    rw [plainL, Bool.and_eq_true] at ha hb
    simp only [pyL, PyData.eqvAll, Bool.and_eq_true, List.cons.injEq]
    rw [eqv_plain x y ha.1 hb.1, eqvL_plain r s ha.2 hb.2]
end
theorem eqB_plain {a b : D} (ha : plain a = true) (hb : plain b = true) : eqB a b = true ↔ a = b := eqv_plain a b ha hb
theorem plainL_all {l : List D} : plainL l = true ↔ ∀ d ∈ l, plain d = true := by
  induction l with
  | nil => simp [plainL]
  | cons d r ih => rw [plainL, Bool.and_eq_true, ih]; simp
theorem inL_plain {d : D} {l : List D} (hd : plain d = true) (hl : plainL l = true) : inL d l = true ↔ d ∈ l := by
  unfold inL
  rw [List.any_eq_true]
  constructor
  · rintro ⟨z, hz, e⟩
    rw [eqB_plain (plainL_all.mp hl z hz) hd] at e
    exact e ▸ hz
  · intro h
    exact ⟨d, h, (eqB_plain hd hd).mpr rfl⟩
theorem plain_strs (ss : List Str) : plainL (ss.map D.str) = true := plainL_all.mpr fun d hd => by
  obtain ⟨s, _, rfl⟩ := List.mem_map.mp hd
  rfl
theorem depL_le {l : List D} {n : Nat} (h : ∀ d ∈ l, dep d ≤ n) : dep (.lst l) ≤ n + 1 ∧ dep (.tup l) ≤ n + 1 := by
  have : PyData.depthAll (pyL l) ≤ n := by
    induction l with
    | nil => exact Nat.zero_le _
    | cons d r ih =>
      rw [pyL, PyData.depthAll]
      have h1 : (py d).depth ≤ n := h d List.mem_cons_self
      have h2 := ih fun x hx => h x (List.mem_cons_of_mem _ hx)
      omega
  constructor <;> (show PyData.depthAll (pyL l) + 1 ≤ n + 1; omega)
theorem dep_strs (ss : List Str) : dep (.lst (ss.map D.str)) ≤ 1 := (depL_le (n := 0) fun d hd => by
  obtain ⟨s, _, rfl⟩ := List.mem_map.mp hd
  exact Nat.le_refl _).1
theorem cutS_len (s : Str) (lo hi : Option Int) : (cutS s lo hi).length ≤ s.length := by
  show (((s.cps.toList.drop _).take _).toArray).size ≤ s.cps.size
  rw [List.size_toArray, List.length_take, List.length_drop]
  simp; omega
theorem strs_of_mem : ∀ {l : List D}, (∀ d ∈ l, ∃ s, d = .str s) → ∃ ss : List Str, l = ss.map D.str
  | [], _ => ⟨[], rfl⟩
  | d :: r, h => by
    obtain ⟨s, rfl⟩ := h d List.mem_cons_self
    obtain ⟨ss, rfl⟩ := strs_of_mem fun x hx => h x (List.mem_cons_of_mem _ hx)
    exact ⟨s :: ss, rfl⟩
theorem perm_strs {l : List D} {w : List Str} (h : l.Perm (w.map D.str)) : ∃ w' : List Str, l = w'.map D.str ∧ w'.length = w.length ∧ (∀ s, s ∈ w' ↔ s ∈ w) ∧ (w.Nodup → w'.Nodup) := by
  obtain ⟨w', rfl⟩ := strs_of_mem (l := l) fun d hd => by
    obtain ⟨s, _, rfl⟩ := List.mem_map.mp (h.mem_iff.mp hd)
    exact ⟨s, rfl⟩
  have inj : ∀ a b : Str, D.str a = D.str b → a = b := fun a b h => by cases h; rfl
  have mm : ∀ (l : List Str) (s : Str), D.str s ∈ l.map D.str ↔ s ∈ l := fun l s => by
    rw [List.mem_map]
    exact ⟨fun ⟨x, hx, e⟩ => by cases e; exact hx, fun h => ⟨s, h, rfl⟩⟩
  refine ⟨w', rfl, by simpa using h.length_eq, fun s => ?_, fun hn => ?_⟩
  · rw [← mm w' s, ← mm w s, h.mem_iff]
  · have : (w.map D.str).Nodup := by
      rw [List.nodup_iff_pairwise_ne, List.pairwise_map]
      exact (List.nodup_iff_pairwise_ne.mp hn).imp fun hne e => hne (inj _ _ e)
    have := h.nodup_iff.mpr this
    rw [List.nodup_iff_pairwise_ne, List.pairwise_map] at this
    exact List.nodup_iff_pairwise_ne.mpr (this.imp fun hne e => hne (by rw [e]))
theorem get_str {ss : List Str} {i : Nat} {d : D} (h : (ss.map D.str)[i]? = some d) : ∃ s, s ∈ ss ∧ d = .str s ∧ ss[i]? = some s := by
  rw [List.getElem?_map] at h
  cases hs : ss[i]? with
  | none => rw [hs] at h; cases h
  | some s => rw [hs] at h; cases h; exact ⟨s, List.mem_of_getElem? hs, rfl, rfl⟩
theorem cutL_len50 {α : Type} (xs : List α) (lo : Option Int) : (cutL xs lo (some 50)).length ≤ 50 := by
  unfold cutL
  rw [List.length_take]
  have : HT.sIx xs.length xs.length (some 50) ≤ 50 := by
    show (if (50 : Int) < 0 then ((50 : Int) + (xs.length : Int)).toNat else min (50 : Int).toNat xs.length) ≤ 50
    rw [if_neg (by decide)]
    exact Nat.le_trans (Nat.min_le_left _ _) (by decide)
  omega
theorem map_int_get {ns : List Int} {i : Nat} {d : D} (h : (ns.map D.int)[i]? = some d) : ∃ n, d = .int n := by
  rw [List.getElem?_map] at h
  cases hn : ns[i]? with
  | none => rw [hn] at h; cases h
  | some n => rw [hn] at h; cases h; exact ⟨n, rfl⟩
theorem perm_erase : ∀ {l : List D} {i : Nat} {y : D}, l[i]? = some y → (y :: l.eraseIdx i).Perm l
  | [], _, _, h => by simp at h
  | x :: r, 0, y, h => by simp at h; subst h; exact List.Perm.refl _
  | x :: r, i + 1, y, h => by
    rw [List.getElem?_cons_succ] at h
    rw [List.eraseIdx_cons_succ]
    exact (List.Perm.swap x y _).trans ((perm_erase h).cons x)
theorem perm_pop {l found : List D} {i : Nat} {y : D} {orig : List D} (h : (l ++ found).Perm orig) (hy : l[i]? = some y) : (l.eraseIdx i ++ (found ++ [y])).Perm orig := by
  obtain ⟨hi, e⟩ := List.getElem?_eq_some_iff.mp hy
  refine List.Perm.trans ?_ h
  have h1 : (y :: l.eraseIdx i).Perm l := perm_erase hy
  refine List.Perm.trans ?_ (List.Perm.append_right found h1)
  rw [← List.append_assoc]
  exact List.perm_append_comm
end T

namespace T
open PySem L2
/-! ### what the operations ask, as equations -/
section
variable {Q : D → Prop} {a b i j : Int} {s t : Str} {l r : List D} {x : D} {p q : Bool}
theorem x_bl {Q : Bool → Prop} : onBl (.bl p) Q = Q p := propext Iff.rfl
theorem x_truB : truD (.bl p) = some p := rfl
theorem x_truL : truD (.lst l) = some (!l.isEmpty) := rfl
theorem x_truT : truD (.tup l) = some (!l.isEmpty) := rfl
theorem x_truI : truD (.int i) = some (i != 0) := rfl
theorem x_eqI : eqX (.int a) (.int b) Q = Q (.bl (decide (a = b))) := by unfold eqX; rfl
theorem x_eqS : eqX (.str s) (.str t) Q = Q (.bl (decide (s = t))) := by unfold eqX; rfl
theorem x_eqB : eqX (.bl p) (.bl q) Q = Q (.bl (decide (p = q))) := by unfold eqX; rfl
theorem x_neI : neX (.int a) (.int b) Q = Q (.bl (!decide (a = b))) := by unfold neX; rfl
theorem x_neS : neX (.str s) (.str t) Q = Q (.bl (!decide (s = t))) := by unfold neX; rfl
theorem x_neB : neX (.bl p) (.bl q) Q = Q (.bl (!decide (p = q))) := by unfold neX; rfl
theorem x_addI : addX (.int a) (.int b) Q = Q (.int (a + b)) := by unfold addX; rfl
theorem x_addL : addX (.lst l) (.lst r) Q = (l.length + r.length ≤ sizeLine ∧ Q (.lst (l ++ r))) := by unfold addX; rfl
theorem x_addT : addX (.tup l) (.tup r) Q = (l.length + r.length ≤ sizeLine ∧ Q (.tup (l ++ r))) := by unfold addX; rfl
theorem x_addS : addX (.str s) (.str t) Q = (s.length + t.length ≤ sizeLine ∧ Q (.str (s ++ t))) := by unfold addX; rfl
theorem x_subI : subD (.int a) (.int b) Q = Q (.int (a - b)) := propext Iff.rfl
theorem x_mulI : mulX (.int a) (.int b) Q = (CMul a b ∧ Q (.int (a * b))) := by unfold mulX; rfl
theorem x_modI : modD (.int a) (.int b) Q = (0 < b ∧ Q (.int (a % b))) := propext Iff.rfl
theorem x_fdivI : fdivD (.int a) (.int b) Q = ((0 < b ∧ b < 1267650600228229401496703205376) ∧ Q (.int (a / b))) := propext Iff.rfl
theorem x_powI : powD (.int a) (.int b) Q = ((0 ≤ b ∧ b ≤ 1000000 ∧ a.natAbs < 2 ^ 64) ∧ Q (.int (a ^ b.toNat))) := propext Iff.rfl
theorem x_lt : ltD (.int a) (.int b) Q = Q (.bl (decide (a < b))) := propext Iff.rfl
theorem x_le : leD (.int a) (.int b) Q = Q (.bl (decide (a ≤ b))) := propext Iff.rfl
theorem x_gt : gtD (.int a) (.int b) Q = Q (.bl (decide (b < a))) := propext Iff.rfl
theorem x_ge : geD (.int a) (.int b) Q = Q (.bl (decide (b ≤ a))) := propext Iff.rfl
theorem x_ltP : ltP (.tup [.int a, .int b]) (.tup [.int i, .int j]) Q = Q (.bl (if a = i then decide (b < j) else decide (a < i))) := propext Iff.rfl
theorem x_leP : leP (.tup [.int a, .int b]) (.tup [.int i, .int j]) Q = Q (.bl (if a = i then decide (b ≤ j) else decide (a ≤ i))) := propext Iff.rfl
theorem x_gtP : gtP (.tup [.int a, .int b]) (.tup [.int i, .int j]) Q = Q (.bl (if a = i then decide (j < b) else decide (i < a))) := propext Iff.rfl
theorem x_geP : geP (.tup [.int a, .int b]) (.tup [.int i, .int j]) Q = Q (.bl (if a = i then decide (j ≤ b) else decide (i ≤ a))) := propext Iff.rfl
theorem x_lenL : lenD (.lst l) Q = Q (.int (l.length : Int)) := propext Iff.rfl
theorem x_lenT : lenD (.tup l) Q = Q (.int (l.length : Int)) := propext Iff.rfl
theorem x_lenS : lenD (.str s) Q = (s.length ≤ sizeLine ∧ Q (.int (s.length : Int))) := propext Iff.rfl
theorem x_tupL : tupleD (.lst l) Q = Q (.tup l) := propext Iff.rfl
theorem x_tupT : tupleD (.tup l) Q = Q (.tup l) := propext Iff.rfl
theorem x_lisL : listA (.lst l) Q = Q (.lst l) := propext Iff.rfl
theorem x_lisT : listA (.tup l) Q = Q (.lst l) := propext Iff.rfl
theorem x_rev : revD (.lst l) Q = Q (.lst l.reverse) := propext Iff.rfl
theorem x_intI : intD (.int a) Q = Q (.int a) := propext Iff.rfl
theorem x_intB : intD (.bl p) Q = Q (.int (if p then 1 else 0)) := propext Iff.rfl
theorem x_abs : absD (.int a) Q = Q (.int (if a < 0 then -a else a)) := propext Iff.rfl
theorem x_min : min2D (.int a) (.int b) Q = Q (.int (if b < a then b else a)) := propext Iff.rfl
theorem x_max : max2D (.int a) (.int b) Q = Q (.int (if b > a then b else a)) := propext Iff.rfl
theorem x_is : isD x .non Q = Q (.bl (isN x)) := by cases x <;> rfl
theorem x_isNot : isNotD x .non Q = Q (.bl (!isN x)) := by cases x <;> rfl
theorem x_isN0 : isN .non = true := rfl
theorem x_isN1 : isN (.int i) = false := rfl
theorem x_isN2 : isN (.str s) = false := rfl
theorem x_isN3 : isN (.tup l) = false := rfl
theorem x_isN4 {C : Str} {f : List (Str × D)} : isN (.ins C f) = false := rfl
theorem x_nil : nilD false (.lst l) (.lst []) Q = Q (.bl l.isEmpty) := propext Iff.rfl
theorem x_nnil : nilD true (.lst l) (.lst []) Q = Q (.bl (!l.isEmpty)) := propext Iff.rfl
theorem ixL_eq : ixX (.lst l) (.int i) Q = (match atI l i with | some d => Q d | none => False) := by unfold ixX; rfl
theorem ixT_eq : ixX (.tup l) (.int i) Q = (match atI l i with | some d => Q d | none => False) := by unfold ixX; rfl
variable {d0 d1 d2 d3 d4 d5 d6 d7 : D}
theorem x_ix0 : ixX (.lst (d0 :: l)) (.int 0) Q = Q d0 := by rw [ixL_eq, show (0 : Int) = ((0 : Nat) : Int) from rfl, atI_nat (v := d0) rfl]
theorem x_ix1 : ixX (.lst (d0 :: d1 :: l)) (.int 1) Q = Q d1 := by rw [ixL_eq, show (1 : Int) = ((1 : Nat) : Int) from rfl, atI_nat (v := d1) rfl]
theorem x_ix2 : ixX (.lst (d0 :: d1 :: d2 :: l)) (.int 2) Q = Q d2 := by rw [ixL_eq, show (2 : Int) = ((2 : Nat) : Int) from rfl, atI_nat (v := d2) rfl]
theorem x_ix3 : ixX (.lst (d0 :: d1 :: d2 :: d3 :: l)) (.int 3) Q = Q d3 := by rw [ixL_eq, show (3 : Int) = ((3 : Nat) : Int) from rfl, atI_nat (v := d3) rfl]
theorem x_ix4 : ixX (.lst (d0 :: d1 :: d2 :: d3 :: d4 :: l)) (.int 4) Q = Q d4 := by rw [ixL_eq, show (4 : Int) = ((4 : Nat) : Int) from rfl, atI_nat (v := d4) rfl]
theorem x_ix5 : ixX (.lst (d0 :: d1 :: d2 :: d3 :: d4 :: d5 :: l)) (.int 5) Q = Q d5 := by rw [ixL_eq, show (5 : Int) = ((5 : Nat) : Int) from rfl, atI_nat (v := d5) rfl]
theorem x_ix6 : ixX (.lst (d0 :: d1 :: d2 :: d3 :: d4 :: d5 :: d6 :: l)) (.int 6) Q = Q d6 := by rw [ixL_eq, show (6 : Int) = ((6 : Nat) : Int) from rfl, atI_nat (v := d6) rfl]
theorem x_ix7 : ixX (.lst (d0 :: d1 :: d2 :: d3 :: d4 :: d5 :: d6 :: d7 :: l)) (.int 7) Q = Q d7 := by rw [ixL_eq, show (7 : Int) = ((7 : Nat) : Int) from rfl, atI_nat (v := d7) rfl]
theorem x_it0 : ixX (.tup (d0 :: l)) (.int 0) Q = Q d0 := by rw [ixT_eq, show (0 : Int) = ((0 : Nat) : Int) from rfl, atI_nat (v := d0) rfl]
theorem x_it1 : ixX (.tup (d0 :: d1 :: l)) (.int 1) Q = Q d1 := by rw [ixT_eq, show (1 : Int) = ((1 : Nat) : Int) from rfl, atI_nat (v := d1) rfl]
theorem x_it2 : ixX (.tup (d0 :: d1 :: d2 :: l)) (.int 2) Q = Q d2 := by rw [ixT_eq, show (2 : Int) = ((2 : Nat) : Int) from rfl, atI_nat (v := d2) rfl]
end
theorem x_ixB {a : Addr} {s : Str} {Q : D → Prop} : ixB (.box a) (.str s) Q = (s ∈ boxK ∧ ∀ n : Int, 0 ≤ n → Q (.int n)) := propext Iff.rfl
theorem x_kn : (("now" : Str) ∈ boxK) = True := eq_true (by decide +kernel)
theorem x_ks : (("seed" : Str) ∈ boxK) = True := eq_true (by decide +kernel)
theorem x_kt : (("turn" : Str) ∈ boxK) = True := eq_true (by decide +kernel)
theorem cm1 {a b : Int} (h : -(2 ^ 64) < a ∧ a < 2 ^ 64) : CMul a b := .inl h
theorem cm2 {a b : Int} (h : -(2 ^ 64) < b ∧ b < 2 ^ 64) : CMul a b := .inr h
theorem x_slL {l : List D} {lo hi : Option Int} {Q : D → Prop} : slD (.lst l) lo hi Q = Q (.lst (cutL l lo hi)) := propext Iff.rfl
theorem x_slT {l : List D} {lo hi : Option Int} {Q : D → Prop} : slD (.tup l) lo hi Q = Q (.tup (cutL l lo hi)) := propext Iff.rfl
theorem x_slS {s : Str} {lo hi : Option Int} {Q : D → Prop} : slD (.str s) lo hi Q = (s.length ≤ sizeLine ∧ Q (.str (cutS s lo hi))) := propext Iff.rfl
theorem x_slR {l : List Int} {lo hi : Option Int} {Q : D → Prop} : slD (.scr l) lo hi Q = Q (.lst ((cutL l lo hi).map D.int)) := propext Iff.rfl
/-! ### loops over a list -/
/-- a comprehension whose turn neither changes the names nor fails: filtered, then mapped -/
theorem lc_fm {α : Type} {w : TDA} {g : TDG} {tt : TDT} {te : TDE} {own : List Nat} {δ : DSt} {Q : D → DSt → Prop} (xs : List α) (f : α → D) (c : α → Bool) (v : α → D)
    (hw : ∀ P : List D → DSt → Prop, P (xs.map f) δ → w δ P) (hl : xs.length ≤ 100000)
    (turn : ∀ x ∈ xs, ∀ (K1 : D → DSt → Prop) (K2 : DSt → Prop), (c x = true → K1 (v x) (wipeD δ own)) → (c x = false → K2 (wipeD δ own)) →
      g (f x) (wipeD (wipeD δ own) own) fun δ2 => tt δ2 fun b δ3 => if b = true then te δ3 fun y δ4 => K1 y (wipeD δ4 own) else K2 (wipeD δ3 own))
    (q : Q (.lst ((xs.filter c).map v)) (wipeD (wipeD δ own) own)) : dLc w g tt te own δ Q := by
  refine hw _ (Exists.intro (fun (i : Nat) (acc : List D) (δ' : DSt) => δ' = wipeD δ own ∧ acc = ((xs.take i).filter c).map v) ⟨⟨rfl, by simp⟩, ?_, ?_⟩)
  · rintro i d acc δ' hd ⟨rfl, rfl⟩
    rw [List.getElem?_map] at hd
    cases hx : xs[i]? with
    | none => rw [hx] at hd; cases hd
    | some x =>
      rw [hx] at hd
      cases hd
      have hm : x ∈ xs := List.mem_of_getElem? hx
      have ht : xs.take (i + 1) = xs.take i ++ [x] := by rw [List.take_succ, hx]; rfl
      refine turn x hm (fun y δ' => (((xs.take i).filter c).map v).length < sizeLine ∧ δ' = wipeD δ own ∧ ((xs.take i).filter c).map v ++ [y] = ((xs.take (i + 1)).filter c).map v) (fun δ' => δ' = wipeD δ own ∧ ((xs.take i).filter c).map v = ((xs.take (i + 1)).filter c).map v) (fun hc => ⟨?_, rfl, ?_⟩) fun hc => ⟨rfl, ?_⟩
      · have h1 := List.length_filter_le c (xs.take i)
        have h2 : (xs.take i).length ≤ xs.length := List.length_take_le' i xs
        rw [List.length_map]
        exact line_of (by omega)
      · rw [ht, List.filter_append, List.map_append]
        simp [hc]
      · rw [ht, List.filter_append]
        simp [hc]
  · rintro acc δ' ⟨rfl, rfl⟩
    rw [List.length_map, List.take_length]
    exact q
end T

namespace T
open PySem L2
/-! ### readings evaluated over written slots -/
def nth : DSt → Nat → Sl
  | [], _ => .no
  | s :: _, 0 => s
  | _ :: r, n + 1 => nth r n
theorem nth_eq : ∀ (δ : DSt) (i : Nat), δ[i]? = some (nth δ i) ∨ (δ[i]? = none ∧ nth δ i = .no)
  | [], i => .inr ⟨by simp, rfl⟩
  | s :: r, 0 => .inl rfl
  | s :: r, i + 1 => by
    rcases nth_eq r i with h | ⟨h, k⟩
    · exact .inl (by rw [List.getElem?_cons_succ]; exact h)
    · exact .inr ⟨by rw [List.getElem?_cons_succ]; exact h, k⟩
def vS (s : Sl) (δ : DSt) (i : Nat) (Q : D → DSt → Prop) : Prop := match s with | .im d => Q d δ | .ow d => Q d (δ.set i (.im d)) | .no => False
def rS (s : Sl) (k : D → Prop) : Prop := match s with | .im d => k d | .ow d => k d | .no => False
def hS : Sl → Prop | .no => False | _ => True
def atS (δ : DSt) (P : DSt → Prop) : Prop := P δ
def oL (s : Sl) (k : List D → Prop) : Prop := match s with | .ow (.lst ds) => k ds | _ => False
def hL : Sl → Prop | .ow (.lst _) => True | _ => False
def mX {α : Type} (o : Option α) (k : α → Prop) : Prop := match o with | some a => k a | none => False
section
variable {δ δ' : DSt} {i j n : Nat} {s s' : Sl} {Q : D → DSt → Prop} {k : D → Prop} {d x y : D} {F : DEnds}
theorem z0 : nth (s :: δ) 0 = s := rfl
theorem z1 : nth (s :: δ) (n + 1) = nth δ n := rfl
theorem z2 : nth (s :: δ) 1 = nth δ 0 := rfl
theorem v0 : vS (.im d) δ i Q = Q d δ := propext Iff.rfl
theorem v1 : vS (.ow d) δ i Q = atS (δ.set i (.im d)) (Q d) := propext Iff.rfl
theorem r0 : rS (.im d) k = k d := propext Iff.rfl
theorem r1 : rS (.ow d) k = k d := propext Iff.rfl
theorem h0 : hS (.im d) = True := propext Iff.rfl
theorem h1 : hS (.ow d) = True := propext Iff.rfl
theorem h2 {l : List D} : hL (.ow (.lst l)) = True := propext Iff.rfl
theorem o0 {l : List D} {k : List D → Prop} : oL (.ow (.lst l)) k = k l := propext Iff.rfl
theorem m0 {α : Type} {a : α} {k : α → Prop} : mX (some a) k = k a := propext Iff.rfl
theorem mt_b {p : Bool} {k : Bool → Prop} : mX (truD (.bl p)) k = k p := propext Iff.rfl
theorem mt_l {l : List D} {k : Bool → Prop} : mX (truD (.lst l)) k = k (!l.isEmpty) := propext Iff.rfl
theorem mt_t {l : List D} {k : Bool → Prop} : mX (truD (.tup l)) k = k (!l.isEmpty) := propext Iff.rfl
theorem mt_i {i : Int} {k : Bool → Prop} : mX (truD (.int i)) k = k (i != 0) := propext Iff.rfl
theorem at_s1 {i : Nat} {is : List Nat} {s : Sl} {ss : List Sl} {P : DSt → Prop} : atS (setD (i :: is) (s :: ss) δ) P = atS (δ.set i s) (fun δ => atS (setD is ss δ) P) := propext Iff.rfl
theorem at_s0 {P : DSt → Prop} : atS (setD [] [] δ) P = P δ := propext Iff.rfl
theorem at0 {P : DSt → Prop} : atS δ P = P δ := propext Iff.rfl
theorem rd_eq (δ : DSt) (i : Nat) (k : D → Prop) : (match rdS δ i with | some x => k x | none => False) = rS (nth δ i) k := by
  unfold rdS
  rcases nth_eq δ i with h | ⟨h, z⟩
  · rw [h]; cases nth δ i <;> rfl
  · rw [h, z]; rfl
theorem rd_some (δ : DSt) (i : Nat) : ((rdS δ i).isSome = true) = hS (nth δ i) := by
  unfold rdS
  rcases nth_eq δ i with h | ⟨h, z⟩
  · rw [h]; cases nth δ i <;> simp [hS]
  · rw [h, z]; simp [hS]
theorem ow_eq (δ : DSt) (i : Nat) (k : List D → Prop) : (match owL δ i with | some x => k x | none => False) = oL (nth δ i) k := by
  unfold owL oL
  rcases nth_eq δ i with h | ⟨h, z⟩
  · rw [h]
    cases nth δ i with
    | ow d => cases d <;> rfl
    | _ => rfl
  · rw [h, z]
theorem ow_some (δ : DSt) (i : Nat) : ((owL δ i).isSome = true) = hL (nth δ i) := by
  unfold owL
  rcases nth_eq δ i with h | ⟨h, z⟩
  · rw [h]
    cases nth δ i with
    | ow d => cases d <;> simp [hL]
    | _ => simp [hL]
  · rw [h, z]; simp [hL]
theorem e_var : dVar i δ Q = vS (nth δ i) δ i Q := by
  unfold dVar
  rcases nth_eq δ i with h | ⟨h, z⟩
  · rw [h]; cases nth δ i <;> rfl
  · rw [h, z]; rfl
theorem vi0 : dVar 0 (Sl.im d :: δ) Q = Q d (Sl.im d :: δ) := propext Iff.rfl
theorem vo0 : dVar 0 (Sl.ow d :: δ) Q = Q d (Sl.im d :: δ) := propext Iff.rfl
theorem ri0 : rS (nth (Sl.im d :: δ) 0) k = k d := propext Iff.rfl
theorem ro0 : rS (nth (Sl.ow d :: δ) 0) k = k d := propext Iff.rfl
theorem ol0 {l : List D} {k : List D → Prop} : oL (nth (Sl.ow (.lst l) :: δ) 0) k = k l := propext Iff.rfl
theorem as0 {s t : Sl} {P : DSt → Prop} : atS (List.set (t :: δ) 0 s) P = P (s :: δ) := propext Iff.rfl
theorem vi1 {s0 : Sl} : dVar 1 (s0 :: Sl.im d :: δ) Q = Q d (s0 :: Sl.im d :: δ) := propext Iff.rfl
theorem vo1 {s0 : Sl} : dVar 1 (s0 :: Sl.ow d :: δ) Q = Q d (s0 :: Sl.im d :: δ) := propext Iff.rfl
theorem ri1 {s0 : Sl} : rS (nth (s0 :: Sl.im d :: δ) 1) k = k d := propext Iff.rfl
theorem ro1 {s0 : Sl} : rS (nth (s0 :: Sl.ow d :: δ) 1) k = k d := propext Iff.rfl
theorem ol1 {s0 : Sl} {l : List D} {k : List D → Prop} : oL (nth (s0 :: Sl.ow (.lst l) :: δ) 1) k = k l := propext Iff.rfl
theorem as1 {s0 : Sl} {s t : Sl} {P : DSt → Prop} : atS (List.set (s0 :: t :: δ) 1 s) P = P (s0 :: s :: δ) := propext Iff.rfl
theorem vi2 {s0 s1 : Sl} : dVar 2 (s0 :: s1 :: Sl.im d :: δ) Q = Q d (s0 :: s1 :: Sl.im d :: δ) := propext Iff.rfl
theorem vo2 {s0 s1 : Sl} : dVar 2 (s0 :: s1 :: Sl.ow d :: δ) Q = Q d (s0 :: s1 :: Sl.im d :: δ) := propext Iff.rfl
theorem ri2 {s0 s1 : Sl} : rS (nth (s0 :: s1 :: Sl.im d :: δ) 2) k = k d := propext Iff.rfl
theorem ro2 {s0 s1 : Sl} : rS (nth (s0 :: s1 :: Sl.ow d :: δ) 2) k = k d := propext Iff.rfl
theorem ol2 {s0 s1 : Sl} {l : List D} {k : List D → Prop} : oL (nth (s0 :: s1 :: Sl.ow (.lst l) :: δ) 2) k = k l := propext Iff.rfl
theorem as2 {s0 s1 : Sl} {s t : Sl} {P : DSt → Prop} : atS (List.set (s0 :: s1 :: t :: δ) 2 s) P = P (s0 :: s1 :: s :: δ) := propext Iff.rfl
theorem vi3 {s0 s1 s2 : Sl} : dVar 3 (s0 :: s1 :: s2 :: Sl.im d :: δ) Q = Q d (s0 :: s1 :: s2 :: Sl.im d :: δ) := propext Iff.rfl
theorem vo3 {s0 s1 s2 : Sl} : dVar 3 (s0 :: s1 :: s2 :: Sl.ow d :: δ) Q = Q d (s0 :: s1 :: s2 :: Sl.im d :: δ) := propext Iff.rfl
theorem ri3 {s0 s1 s2 : Sl} : rS (nth (s0 :: s1 :: s2 :: Sl.im d :: δ) 3) k = k d := propext Iff.rfl
theorem ro3 {s0 s1 s2 : Sl} : rS (nth (s0 :: s1 :: s2 :: Sl.ow d :: δ) 3) k = k d := propext Iff.rfl
theorem ol3 {s0 s1 s2 : Sl} {l : List D} {k : List D → Prop} : oL (nth (s0 :: s1 :: s2 :: Sl.ow (.lst l) :: δ) 3) k = k l := propext Iff.rfl
theorem as3 {s0 s1 s2 : Sl} {s t : Sl} {P : DSt → Prop} : atS (List.set (s0 :: s1 :: s2 :: t :: δ) 3 s) P = P (s0 :: s1 :: s2 :: s :: δ) := propext Iff.rfl
theorem vi4 {s0 s1 s2 s3 : Sl} : dVar 4 (s0 :: s1 :: s2 :: s3 :: Sl.im d :: δ) Q = Q d (s0 :: s1 :: s2 :: s3 :: Sl.im d :: δ) := propext Iff.rfl
theorem vo4 {s0 s1 s2 s3 : Sl} : dVar 4 (s0 :: s1 :: s2 :: s3 :: Sl.ow d :: δ) Q = Q d (s0 :: s1 :: s2 :: s3 :: Sl.im d :: δ) := propext Iff.rfl
theorem ri4 {s0 s1 s2 s3 : Sl} : rS (nth (s0 :: s1 :: s2 :: s3 :: Sl.im d :: δ) 4) k = k d := propext Iff.rfl
theorem ro4 {s0 s1 s2 s3 : Sl} : rS (nth (s0 :: s1 :: s2 :: s3 :: Sl.ow d :: δ) 4) k = k d := propext Iff.rfl
theorem ol4 {s0 s1 s2 s3 : Sl} {l : List D} {k : List D → Prop} : oL (nth (s0 :: s1 :: s2 :: s3 :: Sl.ow (.lst l) :: δ) 4) k = k l := propext Iff.rfl
theorem as4 {s0 s1 s2 s3 : Sl} {s t : Sl} {P : DSt → Prop} : atS (List.set (s0 :: s1 :: s2 :: s3 :: t :: δ) 4 s) P = P (s0 :: s1 :: s2 :: s3 :: s :: δ) := propext Iff.rfl
theorem vi5 {s0 s1 s2 s3 s4 : Sl} : dVar 5 (s0 :: s1 :: s2 :: s3 :: s4 :: Sl.im d :: δ) Q = Q d (s0 :: s1 :: s2 :: s3 :: s4 :: Sl.im d :: δ) := propext Iff.rfl
theorem vo5 {s0 s1 s2 s3 s4 : Sl} : dVar 5 (s0 :: s1 :: s2 :: s3 :: s4 :: Sl.ow d :: δ) Q = Q d (s0 :: s1 :: s2 :: s3 :: s4 :: Sl.im d :: δ) := propext Iff.rfl
theorem ri5 {s0 s1 s2 s3 s4 : Sl} : rS (nth (s0 :: s1 :: s2 :: s3 :: s4 :: Sl.im d :: δ) 5) k = k d := propext Iff.rfl
theorem ro5 {s0 s1 s2 s3 s4 : Sl} : rS (nth (s0 :: s1 :: s2 :: s3 :: s4 :: Sl.ow d :: δ) 5) k = k d := propext Iff.rfl
theorem ol5 {s0 s1 s2 s3 s4 : Sl} {l : List D} {k : List D → Prop} : oL (nth (s0 :: s1 :: s2 :: s3 :: s4 :: Sl.ow (.lst l) :: δ) 5) k = k l := propext Iff.rfl
theorem as5 {s0 s1 s2 s3 s4 : Sl} {s t : Sl} {P : DSt → Prop} : atS (List.set (s0 :: s1 :: s2 :: s3 :: s4 :: t :: δ) 5 s) P = P (s0 :: s1 :: s2 :: s3 :: s4 :: s :: δ) := propext Iff.rfl
theorem vi6 {s0 s1 s2 s3 s4 s5 : Sl} : dVar 6 (s0 :: s1 :: s2 :: s3 :: s4 :: s5 :: Sl.im d :: δ) Q = Q d (s0 :: s1 :: s2 :: s3 :: s4 :: s5 :: Sl.im d :: δ) := propext Iff.rfl
theorem vo6 {s0 s1 s2 s3 s4 s5 : Sl} : dVar 6 (s0 :: s1 :: s2 :: s3 :: s4 :: s5 :: Sl.ow d :: δ) Q = Q d (s0 :: s1 :: s2 :: s3 :: s4 :: s5 :: Sl.im d :: δ) := propext Iff.rfl
theorem ri6 {s0 s1 s2 s3 s4 s5 : Sl} : rS (nth (s0 :: s1 :: s2 :: s3 :: s4 :: s5 :: Sl.im d :: δ) 6) k = k d := propext Iff.rfl
theorem ro6 {s0 s1 s2 s3 s4 s5 : Sl} : rS (nth (s0 :: s1 :: s2 :: s3 :: s4 :: s5 :: Sl.ow d :: δ) 6) k = k d := propext Iff.rfl
theorem ol6 {s0 s1 s2 s3 s4 s5 : Sl} {l : List D} {k : List D → Prop} : oL (nth (s0 :: s1 :: s2 :: s3 :: s4 :: s5 :: Sl.ow (.lst l) :: δ) 6) k = k l := propext Iff.rfl
theorem as6 {s0 s1 s2 s3 s4 s5 : Sl} {s t : Sl} {P : DSt → Prop} : atS (List.set (s0 :: s1 :: s2 :: s3 :: s4 :: s5 :: t :: δ) 6 s) P = P (s0 :: s1 :: s2 :: s3 :: s4 :: s5 :: s :: δ) := propext Iff.rfl
theorem vi7 {s0 s1 s2 s3 s4 s5 s6 : Sl} : dVar 7 (s0 :: s1 :: s2 :: s3 :: s4 :: s5 :: s6 :: Sl.im d :: δ) Q = Q d (s0 :: s1 :: s2 :: s3 :: s4 :: s5 :: s6 :: Sl.im d :: δ) := propext Iff.rfl
theorem vo7 {s0 s1 s2 s3 s4 s5 s6 : Sl} : dVar 7 (s0 :: s1 :: s2 :: s3 :: s4 :: s5 :: s6 :: Sl.ow d :: δ) Q = Q d (s0 :: s1 :: s2 :: s3 :: s4 :: s5 :: s6 :: Sl.im d :: δ) := propext Iff.rfl
theorem ri7 {s0 s1 s2 s3 s4 s5 s6 : Sl} : rS (nth (s0 :: s1 :: s2 :: s3 :: s4 :: s5 :: s6 :: Sl.im d :: δ) 7) k = k d := propext Iff.rfl
theorem ro7 {s0 s1 s2 s3 s4 s5 s6 : Sl} : rS (nth (s0 :: s1 :: s2 :: s3 :: s4 :: s5 :: s6 :: Sl.ow d :: δ) 7) k = k d := propext Iff.rfl
theorem ol7 {s0 s1 s2 s3 s4 s5 s6 : Sl} {l : List D} {k : List D → Prop} : oL (nth (s0 :: s1 :: s2 :: s3 :: s4 :: s5 :: s6 :: Sl.ow (.lst l) :: δ) 7) k = k l := propext Iff.rfl
theorem as7 {s0 s1 s2 s3 s4 s5 s6 : Sl} {s t : Sl} {P : DSt → Prop} : atS (List.set (s0 :: s1 :: s2 :: s3 :: s4 :: s5 :: s6 :: t :: δ) 7 s) P = P (s0 :: s1 :: s2 :: s3 :: s4 :: s5 :: s6 :: s :: δ) := propext Iff.rfl
theorem vi8 {s0 s1 s2 s3 s4 s5 s6 s7 : Sl} : dVar 8 (s0 :: s1 :: s2 :: s3 :: s4 :: s5 :: s6 :: s7 :: Sl.im d :: δ) Q = Q d (s0 :: s1 :: s2 :: s3 :: s4 :: s5 :: s6 :: s7 :: Sl.im d :: δ) := propext Iff.rfl
theorem vo8 {s0 s1 s2 s3 s4 s5 s6 s7 : Sl} : dVar 8 (s0 :: s1 :: s2 :: s3 :: s4 :: s5 :: s6 :: s7 :: Sl.ow d :: δ) Q = Q d (s0 :: s1 :: s2 :: s3 :: s4 :: s5 :: s6 :: s7 :: Sl.im d :: δ) := propext Iff.rfl
theorem ri8 {s0 s1 s2 s3 s4 s5 s6 s7 : Sl} : rS (nth (s0 :: s1 :: s2 :: s3 :: s4 :: s5 :: s6 :: s7 :: Sl.im d :: δ) 8) k = k d := propext Iff.rfl
theorem ro8 {s0 s1 s2 s3 s4 s5 s6 s7 : Sl} : rS (nth (s0 :: s1 :: s2 :: s3 :: s4 :: s5 :: s6 :: s7 :: Sl.ow d :: δ) 8) k = k d := propext Iff.rfl
theorem ol8 {s0 s1 s2 s3 s4 s5 s6 s7 : Sl} {l : List D} {k : List D → Prop} : oL (nth (s0 :: s1 :: s2 :: s3 :: s4 :: s5 :: s6 :: s7 :: Sl.ow (.lst l) :: δ) 8) k = k l := propext Iff.rfl
theorem as8 {s0 s1 s2 s3 s4 s5 s6 s7 : Sl} {s t : Sl} {P : DSt → Prop} : atS (List.set (s0 :: s1 :: s2 :: s3 :: s4 :: s5 :: s6 :: s7 :: t :: δ) 8 s) P = P (s0 :: s1 :: s2 :: s3 :: s4 :: s5 :: s6 :: s7 :: s :: δ) := propext Iff.rfl
theorem vi9 {s0 s1 s2 s3 s4 s5 s6 s7 s8 : Sl} : dVar 9 (s0 :: s1 :: s2 :: s3 :: s4 :: s5 :: s6 :: s7 :: s8 :: Sl.im d :: δ) Q = Q d (s0 :: s1 :: s2 :: s3 :: s4 :: s5 :: s6 :: s7 :: s8 :: Sl.im d :: δ) := propext Iff.rfl
theorem vo9 {s0 s1 s2 s3 s4 s5 s6 s7 s8 : Sl} : dVar 9 (s0 :: s1 :: s2 :: s3 :: s4 :: s5 :: s6 :: s7 :: s8 :: Sl.ow d :: δ) Q = Q d (s0 :: s1 :: s2 :: s3 :: s4 :: s5 :: s6 :: s7 :: s8 :: Sl.im d :: δ) := propext Iff.rfl
theorem ri9 {s0 s1 s2 s3 s4 s5 s6 s7 s8 : Sl} : rS (nth (s0 :: s1 :: s2 :: s3 :: s4 :: s5 :: s6 :: s7 :: s8 :: Sl.im d :: δ) 9) k = k d := propext Iff.rfl
theorem ro9 {s0 s1 s2 s3 s4 s5 s6 s7 s8 : Sl} : rS (nth (s0 :: s1 :: s2 :: s3 :: s4 :: s5 :: s6 :: s7 :: s8 :: Sl.ow d :: δ) 9) k = k d := propext Iff.rfl
theorem ol9 {s0 s1 s2 s3 s4 s5 s6 s7 s8 : Sl} {l : List D} {k : List D → Prop} : oL (nth (s0 :: s1 :: s2 :: s3 :: s4 :: s5 :: s6 :: s7 :: s8 :: Sl.ow (.lst l) :: δ) 9) k = k l := propext Iff.rfl
theorem as9 {s0 s1 s2 s3 s4 s5 s6 s7 s8 : Sl} {s t : Sl} {P : DSt → Prop} : atS (List.set (s0 :: s1 :: s2 :: s3 :: s4 :: s5 :: s6 :: s7 :: s8 :: t :: δ) 9 s) P = P (s0 :: s1 :: s2 :: s3 :: s4 :: s5 :: s6 :: s7 :: s8 :: s :: δ) := propext Iff.rfl
theorem vi10 {s0 s1 s2 s3 s4 s5 s6 s7 s8 s9 : Sl} : dVar 10 (s0 :: s1 :: s2 :: s3 :: s4 :: s5 :: s6 :: s7 :: s8 :: s9 :: Sl.im d :: δ) Q = Q d (s0 :: s1 :: s2 :: s3 :: s4 :: s5 :: s6 :: s7 :: s8 :: s9 :: Sl.im d :: δ) := propext Iff.rfl
theorem vo10 {s0 s1 s2 s3 s4 s5 s6 s7 s8 s9 : Sl} : dVar 10 (s0 :: s1 :: s2 :: s3 :: s4 :: s5 :: s6 :: s7 :: s8 :: s9 :: Sl.ow d :: δ) Q = Q d (s0 :: s1 :: s2 :: s3 :: s4 :: s5 :: s6 :: s7 :: s8 :: s9 :: Sl.im d :: δ) := propext Iff.rfl
theorem ri10 {s0 s1 s2 s3 s4 s5 s6 s7 s8 s9 : Sl} : rS (nth (s0 :: s1 :: s2 :: s3 :: s4 :: s5 :: s6 :: s7 :: s8 :: s9 :: Sl.im d :: δ) 10) k = k d := propext Iff.rfl
theorem ro10 {s0 s1 s2 s3 s4 s5 s6 s7 s8 s9 : Sl} : rS (nth (s0 :: s1 :: s2 :: s3 :: s4 :: s5 :: s6 :: s7 :: s8 :: s9 :: Sl.ow d :: δ) 10) k = k d := propext Iff.rfl
theorem ol10 {s0 s1 s2 s3 s4 s5 s6 s7 s8 s9 : Sl} {l : List D} {k : List D → Prop} : oL (nth (s0 :: s1 :: s2 :: s3 :: s4 :: s5 :: s6 :: s7 :: s8 :: s9 :: Sl.ow (.lst l) :: δ) 10) k = k l := propext Iff.rfl
theorem as10 {s0 s1 s2 s3 s4 s5 s6 s7 s8 s9 : Sl} {s t : Sl} {P : DSt → Prop} : atS (List.set (s0 :: s1 :: s2 :: s3 :: s4 :: s5 :: s6 :: s7 :: s8 :: s9 :: t :: δ) 10 s) P = P (s0 :: s1 :: s2 :: s3 :: s4 :: s5 :: s6 :: s7 :: s8 :: s9 :: s :: δ) := propext Iff.rfl
theorem vi11 {s0 s1 s2 s3 s4 s5 s6 s7 s8 s9 s10 : Sl} : dVar 11 (s0 :: s1 :: s2 :: s3 :: s4 :: s5 :: s6 :: s7 :: s8 :: s9 :: s10 :: Sl.im d :: δ) Q = Q d (s0 :: s1 :: s2 :: s3 :: s4 :: s5 :: s6 :: s7 :: s8 :: s9 :: s10 :: Sl.im d :: δ) := propext Iff.rfl
theorem vo11 {s0 s1 s2 s3 s4 s5 s6 s7 s8 s9 s10 : Sl} : dVar 11 (s0 :: s1 :: s2 :: s3 :: s4 :: s5 :: s6 :: s7 :: s8 :: s9 :: s10 :: Sl.ow d :: δ) Q = Q d (s0 :: s1 :: s2 :: s3 :: s4 :: s5 :: s6 :: s7 :: s8 :: s9 :: s10 :: Sl.im d :: δ) := propext Iff.rfl
theorem ri11 {s0 s1 s2 s3 s4 s5 s6 s7 s8 s9 s10 : Sl} : rS (nth (s0 :: s1 :: s2 :: s3 :: s4 :: s5 :: s6 :: s7 :: s8 :: s9 :: s10 :: Sl.im d :: δ) 11) k = k d := propext Iff.rfl
theorem ro11 {s0 s1 s2 s3 s4 s5 s6 s7 s8 s9 s10 : Sl} : rS (nth (s0 :: s1 :: s2 :: s3 :: s4 :: s5 :: s6 :: s7 :: s8 :: s9 :: s10 :: Sl.ow d :: δ) 11) k = k d := propext Iff.rfl
theorem ol11 {s0 s1 s2 s3 s4 s5 s6 s7 s8 s9 s10 : Sl} {l : List D} {k : List D → Prop} : oL (nth (s0 :: s1 :: s2 :: s3 :: s4 :: s5 :: s6 :: s7 :: s8 :: s9 :: s10 :: Sl.ow (.lst l) :: δ) 11) k = k l := propext Iff.rfl
theorem as11 {s0 s1 s2 s3 s4 s5 s6 s7 s8 s9 s10 : Sl} {s t : Sl} {P : DSt → Prop} : atS (List.set (s0 :: s1 :: s2 :: s3 :: s4 :: s5 :: s6 :: s7 :: s8 :: s9 :: s10 :: t :: δ) 11 s) P = P (s0 :: s1 :: s2 :: s3 :: s4 :: s5 :: s6 :: s7 :: s8 :: s9 :: s10 :: s :: δ) := propext Iff.rfl
theorem vi12 {s0 s1 s2 s3 s4 s5 s6 s7 s8 s9 s10 s11 : Sl} : dVar 12 (s0 :: s1 :: s2 :: s3 :: s4 :: s5 :: s6 :: s7 :: s8 :: s9 :: s10 :: s11 :: Sl.im d :: δ) Q = Q d (s0 :: s1 :: s2 :: s3 :: s4 :: s5 :: s6 :: s7 :: s8 :: s9 :: s10 :: s11 :: Sl.im d :: δ) := propext Iff.rfl
theorem vo12 {s0 s1 s2 s3 s4 s5 s6 s7 s8 s9 s10 s11 : Sl} : dVar 12 (s0 :: s1 :: s2 :: s3 :: s4 :: s5 :: s6 :: s7 :: s8 :: s9 :: s10 :: s11 :: Sl.ow d :: δ) Q = Q d (s0 :: s1 :: s2 :: s3 :: s4 :: s5 :: s6 :: s7 :: s8 :: s9 :: s10 :: s11 :: Sl.im d :: δ) := propext Iff.rfl
theorem ri12 {s0 s1 s2 s3 s4 s5 s6 s7 s8 s9 s10 s11 : Sl} : rS (nth (s0 :: s1 :: s2 :: s3 :: s4 :: s5 :: s6 :: s7 :: s8 :: s9 :: s10 :: s11 :: Sl.im d :: δ) 12) k = k d := propext Iff.rfl
theorem ro12 {s0 s1 s2 s3 s4 s5 s6 s7 s8 s9 s10 s11 : Sl} : rS (nth (s0 :: s1 :: s2 :: s3 :: s4 :: s5 :: s6 :: s7 :: s8 :: s9 :: s10 :: s11 :: Sl.ow d :: δ) 12) k = k d := propext Iff.rfl
theorem ol12 {s0 s1 s2 s3 s4 s5 s6 s7 s8 s9 s10 s11 : Sl} {l : List D} {k : List D → Prop} : oL (nth (s0 :: s1 :: s2 :: s3 :: s4 :: s5 :: s6 :: s7 :: s8 :: s9 :: s10 :: s11 :: Sl.ow (.lst l) :: δ) 12) k = k l := propext Iff.rfl
theorem as12 {s0 s1 s2 s3 s4 s5 s6 s7 s8 s9 s10 s11 : Sl} {s t : Sl} {P : DSt → Prop} : atS (List.set (s0 :: s1 :: s2 :: s3 :: s4 :: s5 :: s6 :: s7 :: s8 :: s9 :: s10 :: s11 :: t :: δ) 12 s) P = P (s0 :: s1 :: s2 :: s3 :: s4 :: s5 :: s6 :: s7 :: s8 :: s9 :: s10 :: s11 :: s :: δ) := propext Iff.rfl
theorem vi13 {s0 s1 s2 s3 s4 s5 s6 s7 s8 s9 s10 s11 s12 : Sl} : dVar 13 (s0 :: s1 :: s2 :: s3 :: s4 :: s5 :: s6 :: s7 :: s8 :: s9 :: s10 :: s11 :: s12 :: Sl.im d :: δ) Q = Q d (s0 :: s1 :: s2 :: s3 :: s4 :: s5 :: s6 :: s7 :: s8 :: s9 :: s10 :: s11 :: s12 :: Sl.im d :: δ) := propext Iff.rfl
theorem vo13 {s0 s1 s2 s3 s4 s5 s6 s7 s8 s9 s10 s11 s12 : Sl} : dVar 13 (s0 :: s1 :: s2 :: s3 :: s4 :: s5 :: s6 :: s7 :: s8 :: s9 :: s10 :: s11 :: s12 :: Sl.ow d :: δ) Q = Q d (s0 :: s1 :: s2 :: s3 :: s4 :: s5 :: s6 :: s7 :: s8 :: s9 :: s10 :: s11 :: s12 :: Sl.im d :: δ) := propext Iff.rfl
theorem ri13 {s0 s1 s2 s3 s4 s5 s6 s7 s8 s9 s10 s11 s12 : Sl} : rS (nth (s0 :: s1 :: s2 :: s3 :: s4 :: s5 :: s6 :: s7 :: s8 :: s9 :: s10 :: s11 :: s12 :: Sl.im d :: δ) 13) k = k d := propext Iff.rfl
theorem ro13 {s0 s1 s2 s3 s4 s5 s6 s7 s8 s9 s10 s11 s12 : Sl} : rS (nth (s0 :: s1 :: s2 :: s3 :: s4 :: s5 :: s6 :: s7 :: s8 :: s9 :: s10 :: s11 :: s12 :: Sl.ow d :: δ) 13) k = k d := propext Iff.rfl
theorem ol13 {s0 s1 s2 s3 s4 s5 s6 s7 s8 s9 s10 s11 s12 : Sl} {l : List D} {k : List D → Prop} : oL (nth (s0 :: s1 :: s2 :: s3 :: s4 :: s5 :: s6 :: s7 :: s8 :: s9 :: s10 :: s11 :: s12 :: Sl.ow (.lst l) :: δ) 13) k = k l := propext Iff.rfl
theorem as13 {s0 s1 s2 s3 s4 s5 s6 s7 s8 s9 s10 s11 s12 : Sl} {s t : Sl} {P : DSt → Prop} : atS (List.set (s0 :: s1 :: s2 :: s3 :: s4 :: s5 :: s6 :: s7 :: s8 :: s9 :: s10 :: s11 :: s12 :: t :: δ) 13 s) P = P (s0 :: s1 :: s2 :: s3 :: s4 :: s5 :: s6 :: s7 :: s8 :: s9 :: s10 :: s11 :: s12 :: s :: δ) := propext Iff.rfl
theorem vi14 {s0 s1 s2 s3 s4 s5 s6 s7 s8 s9 s10 s11 s12 s13 : Sl} : dVar 14 (s0 :: s1 :: s2 :: s3 :: s4 :: s5 :: s6 :: s7 :: s8 :: s9 :: s10 :: s11 :: s12 :: s13 :: Sl.im d :: δ) Q = Q d (s0 :: s1 :: s2 :: s3 :: s4 :: s5 :: s6 :: s7 :: s8 :: s9 :: s10 :: s11 :: s12 :: s13 :: Sl.im d :: δ) := propext Iff.rfl
theorem vo14 {s0 s1 s2 s3 s4 s5 s6 s7 s8 s9 s10 s11 s12 s13 : Sl} : dVar 14 (s0 :: s1 :: s2 :: s3 :: s4 :: s5 :: s6 :: s7 :: s8 :: s9 :: s10 :: s11 :: s12 :: s13 :: Sl.ow d :: δ) Q = Q d (s0 :: s1 :: s2 :: s3 :: s4 :: s5 :: s6 :: s7 :: s8 :: s9 :: s10 :: s11 :: s12 :: s13 :: Sl.im d :: δ) := propext Iff.rfl
theorem ri14 {s0 s1 s2 s3 s4 s5 s6 s7 s8 s9 s10 s11 s12 s13 : Sl} : rS (nth (s0 :: s1 :: s2 :: s3 :: s4 :: s5 :: s6 :: s7 :: s8 :: s9 :: s10 :: s11 :: s12 :: s13 :: Sl.im d :: δ) 14) k = k d := propext Iff.rfl
theorem ro14 {s0 s1 s2 s3 s4 s5 s6 s7 s8 s9 s10 s11 s12 s13 : Sl} : rS (nth (s0 :: s1 :: s2 :: s3 :: s4 :: s5 :: s6 :: s7 :: s8 :: s9 :: s10 :: s11 :: s12 :: s13 :: Sl.ow d :: δ) 14) k = k d := propext Iff.rfl
theorem ol14 {s0 s1 s2 s3 s4 s5 s6 s7 s8 s9 s10 s11 s12 s13 : Sl} {l : List D} {k : List D → Prop} : oL (nth (s0 :: s1 :: s2 :: s3 :: s4 :: s5 :: s6 :: s7 :: s8 :: s9 :: s10 :: s11 :: s12 :: s13 :: Sl.ow (.lst l) :: δ) 14) k = k l := propext Iff.rfl
theorem as14 {s0 s1 s2 s3 s4 s5 s6 s7 s8 s9 s10 s11 s12 s13 : Sl} {s t : Sl} {P : DSt → Prop} : atS (List.set (s0 :: s1 :: s2 :: s3 :: s4 :: s5 :: s6 :: s7 :: s8 :: s9 :: s10 :: s11 :: s12 :: s13 :: t :: δ) 14 s) P = P (s0 :: s1 :: s2 :: s3 :: s4 :: s5 :: s6 :: s7 :: s8 :: s9 :: s10 :: s11 :: s12 :: s13 :: s :: δ) := propext Iff.rfl
theorem vi15 {s0 s1 s2 s3 s4 s5 s6 s7 s8 s9 s10 s11 s12 s13 s14 : Sl} : dVar 15 (s0 :: s1 :: s2 :: s3 :: s4 :: s5 :: s6 :: s7 :: s8 :: s9 :: s10 :: s11 :: s12 :: s13 :: s14 :: Sl.im d :: δ) Q = Q d (s0 :: s1 :: s2 :: s3 :: s4 :: s5 :: s6 :: s7 :: s8 :: s9 :: s10 :: s11 :: s12 :: s13 :: s14 :: Sl.im d :: δ) := propext Iff.rfl
theorem vo15 {s0 s1 s2 s3 s4 s5 s6 s7 s8 s9 s10 s11 s12 s13 s14 : Sl} : dVar 15 (s0 :: s1 :: s2 :: s3 :: s4 :: s5 :: s6 :: s7 :: s8 :: s9 :: s10 :: s11 :: s12 :: s13 :: s14 :: Sl.ow d :: δ) Q = Q d (s0 :: s1 :: s2 :: s3 :: s4 :: s5 :: s6 :: s7 :: s8 :: s9 :: s10 :: s11 :: s12 :: s13 :: s14 :: Sl.im d :: δ) := propext Iff.rfl
theorem ri15 {s0 s1 s2 s3 s4 s5 s6 s7 s8 s9 s10 s11 s12 s13 s14 : Sl} : rS (nth (s0 :: s1 :: s2 :: s3 :: s4 :: s5 :: s6 :: s7 :: s8 :: s9 :: s10 :: s11 :: s12 :: s13 :: s14 :: Sl.im d :: δ) 15) k = k d := propext Iff.rfl
theorem ro15 {s0 s1 s2 s3 s4 s5 s6 s7 s8 s9 s10 s11 s12 s13 s14 : Sl} : rS (nth (s0 :: s1 :: s2 :: s3 :: s4 :: s5 :: s6 :: s7 :: s8 :: s9 :: s10 :: s11 :: s12 :: s13 :: s14 :: Sl.ow d :: δ) 15) k = k d := propext Iff.rfl
theorem ol15 {s0 s1 s2 s3 s4 s5 s6 s7 s8 s9 s10 s11 s12 s13 s14 : Sl} {l : List D} {k : List D → Prop} : oL (nth (s0 :: s1 :: s2 :: s3 :: s4 :: s5 :: s6 :: s7 :: s8 :: s9 :: s10 :: s11 :: s12 :: s13 :: s14 :: Sl.ow (.lst l) :: δ) 15) k = k l := propext Iff.rfl
theorem as15 {s0 s1 s2 s3 s4 s5 s6 s7 s8 s9 s10 s11 s12 s13 s14 : Sl} {s t : Sl} {P : DSt → Prop} : atS (List.set (s0 :: s1 :: s2 :: s3 :: s4 :: s5 :: s6 :: s7 :: s8 :: s9 :: s10 :: s11 :: s12 :: s13 :: s14 :: t :: δ) 15 s) P = P (s0 :: s1 :: s2 :: s3 :: s4 :: s5 :: s6 :: s7 :: s8 :: s9 :: s10 :: s11 :: s12 :: s13 :: s14 :: s :: δ) := propext Iff.rfl
theorem vi16 {s0 s1 s2 s3 s4 s5 s6 s7 s8 s9 s10 s11 s12 s13 s14 s15 : Sl} : dVar 16 (s0 :: s1 :: s2 :: s3 :: s4 :: s5 :: s6 :: s7 :: s8 :: s9 :: s10 :: s11 :: s12 :: s13 :: s14 :: s15 :: Sl.im d :: δ) Q = Q d (s0 :: s1 :: s2 :: s3 :: s4 :: s5 :: s6 :: s7 :: s8 :: s9 :: s10 :: s11 :: s12 :: s13 :: s14 :: s15 :: Sl.im d :: δ) := propext Iff.rfl
theorem vo16 {s0 s1 s2 s3 s4 s5 s6 s7 s8 s9 s10 s11 s12 s13 s14 s15 : Sl} : dVar 16 (s0 :: s1 :: s2 :: s3 :: s4 :: s5 :: s6 :: s7 :: s8 :: s9 :: s10 :: s11 :: s12 :: s13 :: s14 :: s15 :: Sl.ow d :: δ) Q = Q d (s0 :: s1 :: s2 :: s3 :: s4 :: s5 :: s6 :: s7 :: s8 :: s9 :: s10 :: s11 :: s12 :: s13 :: s14 :: s15 :: Sl.im d :: δ) := propext Iff.rfl
theorem ri16 {s0 s1 s2 s3 s4 s5 s6 s7 s8 s9 s10 s11 s12 s13 s14 s15 : Sl} : rS (nth (s0 :: s1 :: s2 :: s3 :: s4 :: s5 :: s6 :: s7 :: s8 :: s9 :: s10 :: s11 :: s12 :: s13 :: s14 :: s15 :: Sl.im d :: δ) 16) k = k d := propext Iff.rfl
theorem ro16 {s0 s1 s2 s3 s4 s5 s6 s7 s8 s9 s10 s11 s12 s13 s14 s15 : Sl} : rS (nth (s0 :: s1 :: s2 :: s3 :: s4 :: s5 :: s6 :: s7 :: s8 :: s9 :: s10 :: s11 :: s12 :: s13 :: s14 :: s15 :: Sl.ow d :: δ) 16) k = k d := propext Iff.rfl
theorem ol16 {s0 s1 s2 s3 s4 s5 s6 s7 s8 s9 s10 s11 s12 s13 s14 s15 : Sl} {l : List D} {k : List D → Prop} : oL (nth (s0 :: s1 :: s2 :: s3 :: s4 :: s5 :: s6 :: s7 :: s8 :: s9 :: s10 :: s11 :: s12 :: s13 :: s14 :: s15 :: Sl.ow (.lst l) :: δ) 16) k = k l := propext Iff.rfl
theorem as16 {s0 s1 s2 s3 s4 s5 s6 s7 s8 s9 s10 s11 s12 s13 s14 s15 : Sl} {s t : Sl} {P : DSt → Prop} : atS (List.set (s0 :: s1 :: s2 :: s3 :: s4 :: s5 :: s6 :: s7 :: s8 :: s9 :: s10 :: s11 :: s12 :: s13 :: s14 :: s15 :: t :: δ) 16 s) P = P (s0 :: s1 :: s2 :: s3 :: s4 :: s5 :: s6 :: s7 :: s8 :: s9 :: s10 :: s11 :: s12 :: s13 :: s14 :: s15 :: s :: δ) := propext Iff.rfl
theorem vi17 {s0 s1 s2 s3 s4 s5 s6 s7 s8 s9 s10 s11 s12 s13 s14 s15 s16 : Sl} : dVar 17 (s0 :: s1 :: s2 :: s3 :: s4 :: s5 :: s6 :: s7 :: s8 :: s9 :: s10 :: s11 :: s12 :: s13 :: s14 :: s15 :: s16 :: Sl.im d :: δ) Q = Q d (s0 :: s1 :: s2 :: s3 :: s4 :: s5 :: s6 :: s7 :: s8 :: s9 :: s10 :: s11 :: s12 :: s13 :: s14 :: s15 :: s16 :: Sl.im d :: δ) := propext Iff.rfl
theorem vo17 {s0 s1 s2 s3 s4 s5 s6 s7 s8 s9 s10 s11 s12 s13 s14 s15 s16 : Sl} : dVar 17 (s0 :: s1 :: s2 :: s3 :: s4 :: s5 :: s6 :: s7 :: s8 :: s9 :: s10 :: s11 :: s12 :: s13 :: s14 :: s15 :: s16 :: Sl.ow d :: δ) Q = Q d (s0 :: s1 :: s2 :: s3 :: s4 :: s5 :: s6 :: s7 :: s8 :: s9 :: s10 :: s11 :: s12 :: s13 :: s14 :: s15 :: s16 :: Sl.im d :: δ) := propext Iff.rfl
theorem ri17 {s0 s1 s2 s3 s4 s5 s6 s7 s8 s9 s10 s11 s12 s13 s14 s15 s16 : Sl} : rS (nth (s0 :: s1 :: s2 :: s3 :: s4 :: s5 :: s6 :: s7 :: s8 :: s9 :: s10 :: s11 :: s12 :: s13 :: s14 :: s15 :: s16 :: Sl.im d :: δ) 17) k = k d := propext Iff.rfl
theorem ro17 {s0 s1 s2 s3 s4 s5 s6 s7 s8 s9 s10 s11 s12 s13 s14 s15 s16 : Sl} : rS (nth (s0 :: s1 :: s2 :: s3 :: s4 :: s5 :: s6 :: s7 :: s8 :: s9 :: s10 :: s11 :: s12 :: s13 :: s14 :: s15 :: s16 :: Sl.ow d :: δ) 17) k = k d := propext Iff.rfl
theorem ol17 {s0 s1 s2 s3 s4 s5 s6 s7 s8 s9 s10 s11 s12 s13 s14 s15 s16 : Sl} {l : List D} {k : List D → Prop} : oL (nth (s0 :: s1 :: s2 :: s3 :: s4 :: s5 :: s6 :: s7 :: s8 :: s9 :: s10 :: s11 :: s12 :: s13 :: s14 :: s15 :: s16 :: Sl.ow (.lst l) :: δ) 17) k = k l := propext Iff.rfl
theorem as17 {s0 s1 s2 s3 s4 s5 s6 s7 s8 s9 s10 s11 s12 s13 s14 s15 s16 : Sl} {s t : Sl} {P : DSt → Prop} : atS (List.set (s0 :: s1 :: s2 :: s3 :: s4 :: s5 :: s6 :: s7 :: s8 :: s9 :: s10 :: s11 :: s12 :: s13 :: s14 :: s15 :: s16 :: t :: δ) 17 s) P = P (s0 :: s1 :: s2 :: s3 :: s4 :: s5 :: s6 :: s7 :: s8 :: s9 :: s10 :: s11 :: s12 :: s13 :: s14 :: s15 :: s16 :: s :: δ) := propext Iff.rfl
theorem vi18 {s0 s1 s2 s3 s4 s5 s6 s7 s8 s9 s10 s11 s12 s13 s14 s15 s16 s17 : Sl} : dVar 18 (s0 :: s1 :: s2 :: s3 :: s4 :: s5 :: s6 :: s7 :: s8 :: s9 :: s10 :: s11 :: s12 :: s13 :: s14 :: s15 :: s16 :: s17 :: Sl.im d :: δ) Q = Q d (s0 :: s1 :: s2 :: s3 :: s4 :: s5 :: s6 :: s7 :: s8 :: s9 :: s10 :: s11 :: s12 :: s13 :: s14 :: s15 :: s16 :: s17 :: Sl.im d :: δ) := propext Iff.rfl
theorem vo18 {s0 s1 s2 s3 s4 s5 s6 s7 s8 s9 s10 s11 s12 s13 s14 s15 s16 s17 : Sl} : dVar 18 (s0 :: s1 :: s2 :: s3 :: s4 :: s5 :: s6 :: s7 :: s8 :: s9 :: s10 :: s11 :: s12 :: s13 :: s14 :: s15 :: s16 :: s17 :: Sl.ow d :: δ) Q = Q d (s0 :: s1 :: s2 :: s3 :: s4 :: s5 :: s6 :: s7 :: s8 :: s9 :: s10 :: s11 :: s12 :: s13 :: s14 :: s15 :: s16 :: s17 :: Sl.im d :: δ) := propext Iff.rfl
theorem ri18 {s0 s1 s2 s3 s4 s5 s6 s7 s8 s9 s10 s11 s12 s13 s14 s15 s16 s17 : Sl} : rS (nth (s0 :: s1 :: s2 :: s3 :: s4 :: s5 :: s6 :: s7 :: s8 :: s9 :: s10 :: s11 :: s12 :: s13 :: s14 :: s15 :: s16 :: s17 :: Sl.im d :: δ) 18) k = k d := propext Iff.rfl
theorem ro18 {s0 s1 s2 s3 s4 s5 s6 s7 s8 s9 s10 s11 s12 s13 s14 s15 s16 s17 : Sl} : rS (nth (s0 :: s1 :: s2 :: s3 :: s4 :: s5 :: s6 :: s7 :: s8 :: s9 :: s10 :: s11 :: s12 :: s13 :: s14 :: s15 :: s16 :: s17 :: Sl.ow d :: δ) 18) k = k d := propext Iff.rfl
theorem ol18 {s0 s1 s2 s3 s4 s5 s6 s7 s8 s9 s10 s11 s12 s13 s14 s15 s16 s17 : Sl} {l : List D} {k : List D → Prop} : oL (nth (s0 :: s1 :: s2 :: s3 :: s4 :: s5 :: s6 :: s7 :: s8 :: s9 :: s10 :: s11 :: s12 :: s13 :: s14 :: s15 :: s16 :: s17 :: Sl.ow (.lst l) :: δ) 18) k = k l := propext Iff.rfl
theorem as18 {s0 s1 s2 s3 s4 s5 s6 s7 s8 s9 s10 s11 s12 s13 s14 s15 s16 s17 : Sl} {s t : Sl} {P : DSt → Prop} : atS (List.set (s0 :: s1 :: s2 :: s3 :: s4 :: s5 :: s6 :: s7 :: s8 :: s9 :: s10 :: s11 :: s12 :: s13 :: s14 :: s15 :: s16 :: s17 :: t :: δ) 18 s) P = P (s0 :: s1 :: s2 :: s3 :: s4 :: s5 :: s6 :: s7 :: s8 :: s9 :: s10 :: s11 :: s12 :: s13 :: s14 :: s15 :: s16 :: s17 :: s :: δ) := propext Iff.rfl
theorem vi19 {s0 s1 s2 s3 s4 s5 s6 s7 s8 s9 s10 s11 s12 s13 s14 s15 s16 s17 s18 : Sl} : dVar 19 (s0 :: s1 :: s2 :: s3 :: s4 :: s5 :: s6 :: s7 :: s8 :: s9 :: s10 :: s11 :: s12 :: s13 :: s14 :: s15 :: s16 :: s17 :: s18 :: Sl.im d :: δ) Q = Q d (s0 :: s1 :: s2 :: s3 :: s4 :: s5 :: s6 :: s7 :: s8 :: s9 :: s10 :: s11 :: s12 :: s13 :: s14 :: s15 :: s16 :: s17 :: s18 :: Sl.im d :: δ) := propext Iff.rfl
theorem vo19 {s0 s1 s2 s3 s4 s5 s6 s7 s8 s9 s10 s11 s12 s13 s14 s15 s16 s17 s18 : Sl} : dVar 19 (s0 :: s1 :: s2 :: s3 :: s4 :: s5 :: s6 :: s7 :: s8 :: s9 :: s10 :: s11 :: s12 :: s13 :: s14 :: s15 :: s16 :: s17 :: s18 :: Sl.ow d :: δ) Q = Q d (s0 :: s1 :: s2 :: s3 :: s4 :: s5 :: s6 :: s7 :: s8 :: s9 :: s10 :: s11 :: s12 :: s13 :: s14 :: s15 :: s16 :: s17 :: s18 :: Sl.im d :: δ) := propext Iff.rfl
theorem ri19 {s0 s1 s2 s3 s4 s5 s6 s7 s8 s9 s10 s11 s12 s13 s14 s15 s16 s17 s18 : Sl} : rS (nth (s0 :: s1 :: s2 :: s3 :: s4 :: s5 :: s6 :: s7 :: s8 :: s9 :: s10 :: s11 :: s12 :: s13 :: s14 :: s15 :: s16 :: s17 :: s18 :: Sl.im d :: δ) 19) k = k d := propext Iff.rfl
theorem ro19 {s0 s1 s2 s3 s4 s5 s6 s7 s8 s9 s10 s11 s12 s13 s14 s15 s16 s17 s18 : Sl} : rS (nth (s0 :: s1 :: s2 :: s3 :: s4 :: s5 :: s6 :: s7 :: s8 :: s9 :: s10 :: s11 :: s12 :: s13 :: s14 :: s15 :: s16 :: s17 :: s18 :: Sl.ow d :: δ) 19) k = k d := propext Iff.rfl
theorem ol19 {s0 s1 s2 s3 s4 s5 s6 s7 s8 s9 s10 s11 s12 s13 s14 s15 s16 s17 s18 : Sl} {l : List D} {k : List D → Prop} : oL (nth (s0 :: s1 :: s2 :: s3 :: s4 :: s5 :: s6 :: s7 :: s8 :: s9 :: s10 :: s11 :: s12 :: s13 :: s14 :: s15 :: s16 :: s17 :: s18 :: Sl.ow (.lst l) :: δ) 19) k = k l := propext Iff.rfl
theorem as19 {s0 s1 s2 s3 s4 s5 s6 s7 s8 s9 s10 s11 s12 s13 s14 s15 s16 s17 s18 : Sl} {s t : Sl} {P : DSt → Prop} : atS (List.set (s0 :: s1 :: s2 :: s3 :: s4 :: s5 :: s6 :: s7 :: s8 :: s9 :: s10 :: s11 :: s12 :: s13 :: s14 :: s15 :: s16 :: s17 :: s18 :: t :: δ) 19 s) P = P (s0 :: s1 :: s2 :: s3 :: s4 :: s5 :: s6 :: s7 :: s8 :: s9 :: s10 :: s11 :: s12 :: s13 :: s14 :: s15 :: s16 :: s17 :: s18 :: s :: δ) := propext Iff.rfl
theorem vi20 {s0 s1 s2 s3 s4 s5 s6 s7 s8 s9 s10 s11 s12 s13 s14 s15 s16 s17 s18 s19 : Sl} : dVar 20 (s0 :: s1 :: s2 :: s3 :: s4 :: s5 :: s6 :: s7 :: s8 :: s9 :: s10 :: s11 :: s12 :: s13 :: s14 :: s15 :: s16 :: s17 :: s18 :: s19 :: Sl.im d :: δ) Q = Q d (s0 :: s1 :: s2 :: s3 :: s4 :: s5 :: s6 :: s7 :: s8 :: s9 :: s10 :: s11 :: s12 :: s13 :: s14 :: s15 :: s16 :: s17 :: s18 :: s19 :: Sl.im d :: δ) := propext Iff.rfl
theorem vo20 {s0 s1 s2 s3 s4 s5 s6 s7 s8 s9 s10 s11 s12 s13 s14 s15 s16 s17 s18 s19 : Sl} : dVar 20 (s0 :: s1 :: s2 :: s3 :: s4 :: s5 :: s6 :: s7 :: s8 :: s9 :: s10 :: s11 :: s12 :: s13 :: s14 :: s15 :: s16 :: s17 :: s18 :: s19 :: Sl.ow d :: δ) Q = Q d (s0 :: s1 :: s2 :: s3 :: s4 :: s5 :: s6 :: s7 :: s8 :: s9 :: s10 :: s11 :: s12 :: s13 :: s14 :: s15 :: s16 :: s17 :: s18 :: s19 :: Sl.im d :: δ) := propext Iff.rfl
theorem ri20 {s0 s1 s2 s3 s4 s5 s6 s7 s8 s9 s10 s11 s12 s13 s14 s15 s16 s17 s18 s19 : Sl} : rS (nth (s0 :: s1 :: s2 :: s3 :: s4 :: s5 :: s6 :: s7 :: s8 :: s9 :: s10 :: s11 :: s12 :: s13 :: s14 :: s15 :: s16 :: s17 :: s18 :: s19 :: Sl.im d :: δ) 20) k = k d := propext Iff.rfl
theorem ro20 {s0 s1 s2 s3 s4 s5 s6 s7 s8 s9 s10 s11 s12 s13 s14 s15 s16 s17 s18 s19 : Sl} : rS (nth (s0 :: s1 :: s2 :: s3 :: s4 :: s5 :: s6 :: s7 :: s8 :: s9 :: s10 :: s11 :: s12 :: s13 :: s14 :: s15 :: s16 :: s17 :: s18 :: s19 :: Sl.ow d :: δ) 20) k = k d := propext Iff.rfl
theorem ol20 {s0 s1 s2 s3 s4 s5 s6 s7 s8 s9 s10 s11 s12 s13 s14 s15 s16 s17 s18 s19 : Sl} {l : List D} {k : List D → Prop} : oL (nth (s0 :: s1 :: s2 :: s3 :: s4 :: s5 :: s6 :: s7 :: s8 :: s9 :: s10 :: s11 :: s12 :: s13 :: s14 :: s15 :: s16 :: s17 :: s18 :: s19 :: Sl.ow (.lst l) :: δ) 20) k = k l := propext Iff.rfl
theorem as20 {s0 s1 s2 s3 s4 s5 s6 s7 s8 s9 s10 s11 s12 s13 s14 s15 s16 s17 s18 s19 : Sl} {s t : Sl} {P : DSt → Prop} : atS (List.set (s0 :: s1 :: s2 :: s3 :: s4 :: s5 :: s6 :: s7 :: s8 :: s9 :: s10 :: s11 :: s12 :: s13 :: s14 :: s15 :: s16 :: s17 :: s18 :: s19 :: t :: δ) 20 s) P = P (s0 :: s1 :: s2 :: s3 :: s4 :: s5 :: s6 :: s7 :: s8 :: s9 :: s10 :: s11 :: s12 :: s13 :: s14 :: s15 :: s16 :: s17 :: s18 :: s19 :: s :: δ) := propext Iff.rfl
theorem vi21 {s0 s1 s2 s3 s4 s5 s6 s7 s8 s9 s10 s11 s12 s13 s14 s15 s16 s17 s18 s19 s20 : Sl} : dVar 21 (s0 :: s1 :: s2 :: s3 :: s4 :: s5 :: s6 :: s7 :: s8 :: s9 :: s10 :: s11 :: s12 :: s13 :: s14 :: s15 :: s16 :: s17 :: s18 :: s19 :: s20 :: Sl.im d :: δ) Q = Q d (s0 :: s1 :: s2 :: s3 :: s4 :: s5 :: s6 :: s7 :: s8 :: s9 :: s10 :: s11 :: s12 :: s13 :: s14 :: s15 :: s16 :: s17 :: s18 :: s19 :: s20 :: Sl.im d :: δ) := propext Iff.rfl
theorem vo21 {s0 s1 s2 s3 s4 s5 s6 s7 s8 s9 s10 s11 s12 s13 s14 s15 s16 s17 s18 s19 s20 : Sl} : dVar 21 (s0 :: s1 :: s2 :: s3 :: s4 :: s5 :: s6 :: s7 :: s8 :: s9 :: s10 :: s11 :: s12 :: s13 :: s14 :: s15 :: s16 :: s17 :: s18 :: s19 :: s20 :: Sl.ow d :: δ) Q = Q d (s0 :: s1 :: s2 :: s3 :: s4 :: s5 :: s6 :: s7 :: s8 :: s9 :: s10 :: s11 :: s12 :: s13 :: s14 :: s15 :: s16 :: s17 :: s18 :: s19 :: s20 :: Sl.im d :: δ) := propext Iff.rfl
theorem ri21 {s0 s1 s2 s3 s4 s5 s6 s7 s8 s9 s10 s11 s12 s13 s14 s15 s16 s17 s18 s19 s20 : Sl} : rS (nth (s0 :: s1 :: s2 :: s3 :: s4 :: s5 :: s6 :: s7 :: s8 :: s9 :: s10 :: s11 :: s12 :: s13 :: s14 :: s15 :: s16 :: s17 :: s18 :: s19 :: s20 :: Sl.im d :: δ) 21) k = k d := propext Iff.rfl
theorem ro21 {s0 s1 s2 s3 s4 s5 s6 s7 s8 s9 s10 s11 s12 s13 s14 s15 s16 s17 s18 s19 s20 : Sl} : rS (nth (s0 :: s1 :: s2 :: s3 :: s4 :: s5 :: s6 :: s7 :: s8 :: s9 :: s10 :: s11 :: s12 :: s13 :: s14 :: s15 :: s16 :: s17 :: s18 :: s19 :: s20 :: Sl.ow d :: δ) 21) k = k d := propext Iff.rfl
theorem ol21 {s0 s1 s2 s3 s4 s5 s6 s7 s8 s9 s10 s11 s12 s13 s14 s15 s16 s17 s18 s19 s20 : Sl} {l : List D} {k : List D → Prop} : oL (nth (s0 :: s1 :: s2 :: s3 :: s4 :: s5 :: s6 :: s7 :: s8 :: s9 :: s10 :: s11 :: s12 :: s13 :: s14 :: s15 :: s16 :: s17 :: s18 :: s19 :: s20 :: Sl.ow (.lst l) :: δ) 21) k = k l := propext Iff.rfl
theorem as21 {s0 s1 s2 s3 s4 s5 s6 s7 s8 s9 s10 s11 s12 s13 s14 s15 s16 s17 s18 s19 s20 : Sl} {s t : Sl} {P : DSt → Prop} : atS (List.set (s0 :: s1 :: s2 :: s3 :: s4 :: s5 :: s6 :: s7 :: s8 :: s9 :: s10 :: s11 :: s12 :: s13 :: s14 :: s15 :: s16 :: s17 :: s18 :: s19 :: s20 :: t :: δ) 21 s) P = P (s0 :: s1 :: s2 :: s3 :: s4 :: s5 :: s6 :: s7 :: s8 :: s9 :: s10 :: s11 :: s12 :: s13 :: s14 :: s15 :: s16 :: s17 :: s18 :: s19 :: s20 :: s :: δ) := propext Iff.rfl
theorem vi22 {s0 s1 s2 s3 s4 s5 s6 s7 s8 s9 s10 s11 s12 s13 s14 s15 s16 s17 s18 s19 s20 s21 : Sl} : dVar 22 (s0 :: s1 :: s2 :: s3 :: s4 :: s5 :: s6 :: s7 :: s8 :: s9 :: s10 :: s11 :: s12 :: s13 :: s14 :: s15 :: s16 :: s17 :: s18 :: s19 :: s20 :: s21 :: Sl.im d :: δ) Q = Q d (s0 :: s1 :: s2 :: s3 :: s4 :: s5 :: s6 :: s7 :: s8 :: s9 :: s10 :: s11 :: s12 :: s13 :: s14 :: s15 :: s16 :: s17 :: s18 :: s19 :: s20 :: s21 :: Sl.im d :: δ) := propext Iff.rfl
theorem vo22 {s0 s1 s2 s3 s4 s5 s6 s7 s8 s9 s10 s11 s12 s13 s14 s15 s16 s17 s18 s19 s20 s21 : Sl} : dVar 22 (s0 :: s1 :: s2 :: s3 :: s4 :: s5 :: s6 :: s7 :: s8 :: s9 :: s10 :: s11 :: s12 :: s13 :: s14 :: s15 :: s16 :: s17 :: s18 :: s19 :: s20 :: s21 :: Sl.ow d :: δ) Q = Q d (s0 :: s1 :: s2 :: s3 :: s4 :: s5 :: s6 :: s7 :: s8 :: s9 :: s10 :: s11 :: s12 :: s13 :: s14 :: s15 :: s16 :: s17 :: s18 :: s19 :: s20 :: s21 :: Sl.im d :: δ) := propext Iff.rfl
theorem ri22 {s0 s1 s2 s3 s4 s5 s6 s7 s8 s9 s10 s11 s12 s13 s14 s15 s16 s17 s18 s19 s20 s21 : Sl} : rS (nth (s0 :: s1 :: s2 :: s3 :: s4 :: s5 :: s6 :: s7 :: s8 :: s9 :: s10 :: s11 :: s12 :: s13 :: s14 :: s15 :: s16 :: s17 :: s18 :: s19 :: s20 :: s21 :: Sl.im d :: δ) 22) k = k d := propext Iff.rfl
theorem ro22 {s0 s1 s2 s3 s4 s5 s6 s7 s8 s9 s10 s11 s12 s13 s14 s15 s16 s17 s18 s19 s20 s21 : Sl} : rS (nth (s0 :: s1 :: s2 :: s3 :: s4 :: s5 :: s6 :: s7 :: s8 :: s9 :: s10 :: s11 :: s12 :: s13 :: s14 :: s15 :: s16 :: s17 :: s18 :: s19 :: s20 :: s21 :: Sl.ow d :: δ) 22) k = k d := propext Iff.rfl
theorem ol22 {s0 s1 s2 s3 s4 s5 s6 s7 s8 s9 s10 s11 s12 s13 s14 s15 s16 s17 s18 s19 s20 s21 : Sl} {l : List D} {k : List D → Prop} : oL (nth (s0 :: s1 :: s2 :: s3 :: s4 :: s5 :: s6 :: s7 :: s8 :: s9 :: s10 :: s11 :: s12 :: s13 :: s14 :: s15 :: s16 :: s17 :: s18 :: s19 :: s20 :: s21 :: Sl.ow (.lst l) :: δ) 22) k = k l := propext Iff.rfl
theorem as22 {s0 s1 s2 s3 s4 s5 s6 s7 s8 s9 s10 s11 s12 s13 s14 s15 s16 s17 s18 s19 s20 s21 : Sl} {s t : Sl} {P : DSt → Prop} : atS (List.set (s0 :: s1 :: s2 :: s3 :: s4 :: s5 :: s6 :: s7 :: s8 :: s9 :: s10 :: s11 :: s12 :: s13 :: s14 :: s15 :: s16 :: s17 :: s18 :: s19 :: s20 :: s21 :: t :: δ) 22 s) P = P (s0 :: s1 :: s2 :: s3 :: s4 :: s5 :: s6 :: s7 :: s8 :: s9 :: s10 :: s11 :: s12 :: s13 :: s14 :: s15 :: s16 :: s17 :: s18 :: s19 :: s20 :: s21 :: s :: δ) := propext Iff.rfl
theorem vi23 {s0 s1 s2 s3 s4 s5 s6 s7 s8 s9 s10 s11 s12 s13 s14 s15 s16 s17 s18 s19 s20 s21 s22 : Sl} : dVar 23 (s0 :: s1 :: s2 :: s3 :: s4 :: s5 :: s6 :: s7 :: s8 :: s9 :: s10 :: s11 :: s12 :: s13 :: s14 :: s15 :: s16 :: s17 :: s18 :: s19 :: s20 :: s21 :: s22 :: Sl.im d :: δ) Q = Q d (s0 :: s1 :: s2 :: s3 :: s4 :: s5 :: s6 :: s7 :: s8 :: s9 :: s10 :: s11 :: s12 :: s13 :: s14 :: s15 :: s16 :: s17 :: s18 :: s19 :: s20 :: s21 :: s22 :: Sl.im d :: δ) := propext Iff.rfl
theorem vo23 {s0 s1 s2 s3 s4 s5 s6 s7 s8 s9 s10 s11 s12 s13 s14 s15 s16 s17 s18 s19 s20 s21 s22 : Sl} : dVar 23 (s0 :: s1 :: s2 :: s3 :: s4 :: s5 :: s6 :: s7 :: s8 :: s9 :: s10 :: s11 :: s12 :: s13 :: s14 :: s15 :: s16 :: s17 :: s18 :: s19 :: s20 :: s21 :: s22 :: Sl.ow d :: δ) Q = Q d (s0 :: s1 :: s2 :: s3 :: s4 :: s5 :: s6 :: s7 :: s8 :: s9 :: s10 :: s11 :: s12 :: s13 :: s14 :: s15 :: s16 :: s17 :: s18 :: s19 :: s20 :: s21 :: s22 :: Sl.im d :: δ) := propext Iff.rfl
theorem ri23 {s0 s1 s2 s3 s4 s5 s6 s7 s8 s9 s10 s11 s12 s13 s14 s15 s16 s17 s18 s19 s20 s21 s22 : Sl} : rS (nth (s0 :: s1 :: s2 :: s3 :: s4 :: s5 :: s6 :: s7 :: s8 :: s9 :: s10 :: s11 :: s12 :: s13 :: s14 :: s15 :: s16 :: s17 :: s18 :: s19 :: s20 :: s21 :: s22 :: Sl.im d :: δ) 23) k = k d := propext Iff.rfl
theorem ro23 {s0 s1 s2 s3 s4 s5 s6 s7 s8 s9 s10 s11 s12 s13 s14 s15 s16 s17 s18 s19 s20 s21 s22 : Sl} : rS (nth (s0 :: s1 :: s2 :: s3 :: s4 :: s5 :: s6 :: s7 :: s8 :: s9 :: s10 :: s11 :: s12 :: s13 :: s14 :: s15 :: s16 :: s17 :: s18 :: s19 :: s20 :: s21 :: s22 :: Sl.ow d :: δ) 23) k = k d := propext Iff.rfl
theorem ol23 {s0 s1 s2 s3 s4 s5 s6 s7 s8 s9 s10 s11 s12 s13 s14 s15 s16 s17 s18 s19 s20 s21 s22 : Sl} {l : List D} {k : List D → Prop} : oL (nth (s0 :: s1 :: s2 :: s3 :: s4 :: s5 :: s6 :: s7 :: s8 :: s9 :: s10 :: s11 :: s12 :: s13 :: s14 :: s15 :: s16 :: s17 :: s18 :: s19 :: s20 :: s21 :: s22 :: Sl.ow (.lst l) :: δ) 23) k = k l := propext Iff.rfl
theorem as23 {s0 s1 s2 s3 s4 s5 s6 s7 s8 s9 s10 s11 s12 s13 s14 s15 s16 s17 s18 s19 s20 s21 s22 : Sl} {s t : Sl} {P : DSt → Prop} : atS (List.set (s0 :: s1 :: s2 :: s3 :: s4 :: s5 :: s6 :: s7 :: s8 :: s9 :: s10 :: s11 :: s12 :: s13 :: s14 :: s15 :: s16 :: s17 :: s18 :: s19 :: s20 :: s21 :: s22 :: t :: δ) 23 s) P = P (s0 :: s1 :: s2 :: s3 :: s4 :: s5 :: s6 :: s7 :: s8 :: s9 :: s10 :: s11 :: s12 :: s13 :: s14 :: s15 :: s16 :: s17 :: s18 :: s19 :: s20 :: s21 :: s22 :: s :: δ) := propext Iff.rfl
theorem vi24 {s0 s1 s2 s3 s4 s5 s6 s7 s8 s9 s10 s11 s12 s13 s14 s15 s16 s17 s18 s19 s20 s21 s22 s23 : Sl} : dVar 24 (s0 :: s1 :: s2 :: s3 :: s4 :: s5 :: s6 :: s7 :: s8 :: s9 :: s10 :: s11 :: s12 :: s13 :: s14 :: s15 :: s16 :: s17 :: s18 :: s19 :: s20 :: s21 :: s22 :: s23 :: Sl.im d :: δ) Q = Q d (s0 :: s1 :: s2 :: s3 :: s4 :: s5 :: s6 :: s7 :: s8 :: s9 :: s10 :: s11 :: s12 :: s13 :: s14 :: s15 :: s16 :: s17 :: s18 :: s19 :: s20 :: s21 :: s22 :: s23 :: Sl.im d :: δ) := propext Iff.rfl
theorem vo24 {s0 s1 s2 s3 s4 s5 s6 s7 s8 s9 s10 s11 s12 s13 s14 s15 s16 s17 s18 s19 s20 s21 s22 s23 : Sl} : dVar 24 (s0 :: s1 :: s2 :: s3 :: s4 :: s5 :: s6 :: s7 :: s8 :: s9 :: s10 :: s11 :: s12 :: s13 :: s14 :: s15 :: s16 :: s17 :: s18 :: s19 :: s20 :: s21 :: s22 :: s23 :: Sl.ow d :: δ) Q = Q d (s0 :: s1 :: s2 :: s3 :: s4 :: s5 :: s6 :: s7 :: s8 :: s9 :: s10 :: s11 :: s12 :: s13 :: s14 :: s15 :: s16 :: s17 :: s18 :: s19 :: s20 :: s21 :: s22 :: s23 :: Sl.im d :: δ) := propext Iff.rfl
theorem ri24 {s0 s1 s2 s3 s4 s5 s6 s7 s8 s9 s10 s11 s12 s13 s14 s15 s16 s17 s18 s19 s20 s21 s22 s23 : Sl} : rS (nth (s0 :: s1 :: s2 :: s3 :: s4 :: s5 :: s6 :: s7 :: s8 :: s9 :: s10 :: s11 :: s12 :: s13 :: s14 :: s15 :: s16 :: s17 :: s18 :: s19 :: s20 :: s21 :: s22 :: s23 :: Sl.im d :: δ) 24) k = k d := propext Iff.rfl
theorem ro24 {s0 s1 s2 s3 s4 s5 s6 s7 s8 s9 s10 s11 s12 s13 s14 s15 s16 s17 s18 s19 s20 s21 s22 s23 : Sl} : rS (nth (s0 :: s1 :: s2 :: s3 :: s4 :: s5 :: s6 :: s7 :: s8 :: s9 :: s10 :: s11 :: s12 :: s13 :: s14 :: s15 :: s16 :: s17 :: s18 :: s19 :: s20 :: s21 :: s22 :: s23 :: Sl.ow d :: δ) 24) k = k d := propext Iff.rfl
theorem ol24 {s0 s1 s2 s3 s4 s5 s6 s7 s8 s9 s10 s11 s12 s13 s14 s15 s16 s17 s18 s19 s20 s21 s22 s23 : Sl} {l : List D} {k : List D → Prop} : oL (nth (s0 :: s1 :: s2 :: s3 :: s4 :: s5 :: s6 :: s7 :: s8 :: s9 :: s10 :: s11 :: s12 :: s13 :: s14 :: s15 :: s16 :: s17 :: s18 :: s19 :: s20 :: s21 :: s22 :: s23 :: Sl.ow (.lst l) :: δ) 24) k = k l := propext Iff.rfl
theorem as24 {s0 s1 s2 s3 s4 s5 s6 s7 s8 s9 s10 s11 s12 s13 s14 s15 s16 s17 s18 s19 s20 s21 s22 s23 : Sl} {s t : Sl} {P : DSt → Prop} : atS (List.set (s0 :: s1 :: s2 :: s3 :: s4 :: s5 :: s6 :: s7 :: s8 :: s9 :: s10 :: s11 :: s12 :: s13 :: s14 :: s15 :: s16 :: s17 :: s18 :: s19 :: s20 :: s21 :: s22 :: s23 :: t :: δ) 24 s) P = P (s0 :: s1 :: s2 :: s3 :: s4 :: s5 :: s6 :: s7 :: s8 :: s9 :: s10 :: s11 :: s12 :: s13 :: s14 :: s15 :: s16 :: s17 :: s18 :: s19 :: s20 :: s21 :: s22 :: s23 :: s :: δ) := propext Iff.rfl
theorem vi25 {s0 s1 s2 s3 s4 s5 s6 s7 s8 s9 s10 s11 s12 s13 s14 s15 s16 s17 s18 s19 s20 s21 s22 s23 s24 : Sl} : dVar 25 (s0 :: s1 :: s2 :: s3 :: s4 :: s5 :: s6 :: s7 :: s8 :: s9 :: s10 :: s11 :: s12 :: s13 :: s14 :: s15 :: s16 :: s17 :: s18 :: s19 :: s20 :: s21 :: s22 :: s23 :: s24 :: Sl.im d :: δ) Q = Q d (s0 :: s1 :: s2 :: s3 :: s4 :: s5 :: s6 :: s7 :: s8 :: s9 :: s10 :: s11 :: s12 :: s13 :: s14 :: s15 :: s16 :: s17 :: s18 :: s19 :: s20 :: s21 :: s22 :: s23 :: s24 :: Sl.im d :: δ) := propext Iff.rfl
theorem vo25 {s0 s1 s2 s3 s4 s5 s6 s7 s8 s9 s10 s11 s12 s13 s14 s15 s16 s17 s18 s19 s20 s21 s22 s23 s24 : Sl} : dVar 25 (s0 :: s1 :: s2 :: s3 :: s4 :: s5 :: s6 :: s7 :: s8 :: s9 :: s10 :: s11 :: s12 :: s13 :: s14 :: s15 :: s16 :: s17 :: s18 :: s19 :: s20 :: s21 :: s22 :: s23 :: s24 :: Sl.ow d :: δ) Q = Q d (s0 :: s1 :: s2 :: s3 :: s4 :: s5 :: s6 :: s7 :: s8 :: s9 :: s10 :: s11 :: s12 :: s13 :: s14 :: s15 :: s16 :: s17 :: s18 :: s19 :: s20 :: s21 :: s22 :: s23 :: s24 :: Sl.im d :: δ) := propext Iff.rfl
theorem ri25 {s0 s1 s2 s3 s4 s5 s6 s7 s8 s9 s10 s11 s12 s13 s14 s15 s16 s17 s18 s19 s20 s21 s22 s23 s24 : Sl} : rS (nth (s0 :: s1 :: s2 :: s3 :: s4 :: s5 :: s6 :: s7 :: s8 :: s9 :: s10 :: s11 :: s12 :: s13 :: s14 :: s15 :: s16 :: s17 :: s18 :: s19 :: s20 :: s21 :: s22 :: s23 :: s24 :: Sl.im d :: δ) 25) k = k d := propext Iff.rfl
theorem ro25 {s0 s1 s2 s3 s4 s5 s6 s7 s8 s9 s10 s11 s12 s13 s14 s15 s16 s17 s18 s19 s20 s21 s22 s23 s24 : Sl} : rS (nth (s0 :: s1 :: s2 :: s3 :: s4 :: s5 :: s6 :: s7 :: s8 :: s9 :: s10 :: s11 :: s12 :: s13 :: s14 :: s15 :: s16 :: s17 :: s18 :: s19 :: s20 :: s21 :: s22 :: s23 :: s24 :: Sl.ow d :: δ) 25) k = k d := propext Iff.rfl
theorem ol25 {s0 s1 s2 s3 s4 s5 s6 s7 s8 s9 s10 s11 s12 s13 s14 s15 s16 s17 s18 s19 s20 s21 s22 s23 s24 : Sl} {l : List D} {k : List D → Prop} : oL (nth (s0 :: s1 :: s2 :: s3 :: s4 :: s5 :: s6 :: s7 :: s8 :: s9 :: s10 :: s11 :: s12 :: s13 :: s14 :: s15 :: s16 :: s17 :: s18 :: s19 :: s20 :: s21 :: s22 :: s23 :: s24 :: Sl.ow (.lst l) :: δ) 25) k = k l := propext Iff.rfl
theorem as25 {s0 s1 s2 s3 s4 s5 s6 s7 s8 s9 s10 s11 s12 s13 s14 s15 s16 s17 s18 s19 s20 s21 s22 s23 s24 : Sl} {s t : Sl} {P : DSt → Prop} : atS (List.set (s0 :: s1 :: s2 :: s3 :: s4 :: s5 :: s6 :: s7 :: s8 :: s9 :: s10 :: s11 :: s12 :: s13 :: s14 :: s15 :: s16 :: s17 :: s18 :: s19 :: s20 :: s21 :: s22 :: s23 :: s24 :: t :: δ) 25 s) P = P (s0 :: s1 :: s2 :: s3 :: s4 :: s5 :: s6 :: s7 :: s8 :: s9 :: s10 :: s11 :: s12 :: s13 :: s14 :: s15 :: s16 :: s17 :: s18 :: s19 :: s20 :: s21 :: s22 :: s23 :: s24 :: s :: δ) := propext Iff.rfl
theorem e_c : dC d δ Q = Q d δ := propext Iff.rfl
theorem e_nil {Q : List D → DSt → Prop} : dNil δ Q = Q [] δ := propext Iff.rfl
theorem e_cons {t : TDE} {r : TDA} {Q : List D → DSt → Prop} : dCons t r δ Q = t δ fun d δ1 => r δ1 fun ds δ2 => Q (d :: ds) δ2 := propext Iff.rfl
theorem e_tup {t : TDA} : dTup t δ Q = t δ fun ds δ1 => Q (.tup ds) δ1 := propext Iff.rfl
theorem e_lst {t : TDA} : dLst t δ Q = t δ fun ds δ1 => Q (.lst ds) δ1 := propext Iff.rfl
theorem e_two1 {t u : TDE} {k : D → D → DSt → Prop} : dTwo (.ex t) (.ex u) k δ = t δ fun x δ1 => u δ1 fun y δ2 => k x y δ2 := propext Iff.rfl
theorem e_two2 {t : TDE} {k : D → D → DSt → Prop} : dTwo (.ex t) (.sl j) k δ = t δ fun x δ1 => rS (nth δ1 j) fun y => k x y δ1 := by
  have : (fun (x : D) (δ1 : DSt) => match rdS δ1 j with | some y => k x y δ1 | none => False) = fun x δ1 => rS (nth δ1 j) fun y => k x y δ1 := by
    funext x δ1; exact rd_eq δ1 j fun y => k x y δ1
  show t δ (fun (x : D) (δ1 : DSt) => match rdS δ1 j with | some y => k x y δ1 | none => False) = _
  rw [this]
theorem e_two3 {t : TDE} {k : D → D → DSt → Prop} : dTwo (.sl i) (.ex t) k δ = (hS (nth δ i) ∧ t δ fun y δ1 => rS (nth δ1 i) fun x => k x y δ1) := by
  have : (fun (y : D) (δ1 : DSt) => match rdS δ1 i with | some x => k x y δ1 | none => False) = fun y δ1 => rS (nth δ1 i) fun x => k x y δ1 := by
    funext y δ1; exact rd_eq δ1 i fun x => k x y δ1
  show ((rdS δ i).isSome = true ∧ t δ (fun (y : D) (δ1 : DSt) => match rdS δ1 i with | some x => k x y δ1 | none => False)) = _
  rw [this, rd_some]
theorem e_two4 {k : D → D → DSt → Prop} : dTwo (.sl i) (.sl j) k δ = rS (nth δ i) fun x => rS (nth δ j) fun y => k x y δ := by
  unfold dTwo
  dsimp only
  unfold rdS
  rcases nth_eq δ i with h | ⟨h, z⟩
  · rcases nth_eq δ j with h' | ⟨h', z'⟩
    · rw [h, h']; cases nth δ i <;> cases nth δ j <;> rfl
    · rw [h, h', z']; cases nth δ i <;> rfl
  · rcases nth_eq δ j with h' | ⟨h', z'⟩
    · rw [h, h', z]; cases nth δ j <;> rfl
    · rw [h, h', z, z']; rfl
theorem e_bin {g : D → D → (D → Prop) → Prop} {A B : Opn} : dBin g A B δ Q = dTwo A B (fun x y δ' => g x y fun z => Q z δ') δ := propext Iff.rfl
theorem e_tbin {g : D → D → (D → Prop) → Prop} {A B : Opn} {Q : Bool → DSt → Prop} : dtBin g A B δ Q = dTwo A B (fun x y δ' => g x y fun z => onBl z fun b => Q b δ') δ := propext Iff.rfl
theorem e_chain {g g' : D → D → (D → Prop) → Prop} {ta tb tc : TDE} : dChain g g' ta tb tc δ Q = ta δ fun x δ1 => tb δ1 fun y δ2 => g x y fun z => onBl z fun b => if b = true then tc δ2 fun w δ3 => g' y w fun r => Q r δ3 else Q (.bl false) δ2 := propext Iff.rfl
theorem e_and {t u : TDT} {Q : Bool → DSt → Prop} : dAnd t u δ Q = t δ fun c δ1 => if c = true then u δ1 Q else Q false δ1 := propext Iff.rfl
theorem e_or {t u : TDT} {Q : Bool → DSt → Prop} : dOr t u δ Q = t δ fun c δ1 => if c = true then Q true δ1 else u δ1 Q := propext Iff.rfl
theorem e_not {t : TDT} {Q : Bool → DSt → Prop} : dNot t δ Q = t δ fun c δ1 => Q (!c) δ1 := propext Iff.rfl
theorem tru_eq {P : Bool → Prop} (d : D) : (match truD d with | some b => P b | none => False) = mX (truD d) P := by cases truD d <;> rfl
theorem e_tru1 {t : TDE} {Q : Bool → DSt → Prop} : dTru (.ex t) δ Q = t δ fun d δ1 => mX (truD d) fun b => Q b δ1 := by
  have : (fun (d : D) (δ1 : DSt) => match truD d with | some b => Q b δ1 | none => False) = fun d δ1 => mX (truD d) fun b => Q b δ1 := by
    funext d δ1; exact tru_eq d
  show t δ (fun (d : D) (δ1 : DSt) => match truD d with | some b => Q b δ1 | none => False) = _
  rw [this]
theorem e_tru2 {Q : Bool → DSt → Prop} : dTru (.sl i) δ Q = rS (nth δ i) fun d => mX (truD d) fun b => Q b δ := by
  have e := rd_eq δ i fun d => mX (truD d) fun b => Q b δ
  rw [← e]
  show (match rdS δ i with | some d => (match truD d with | some b => Q b δ | none => False) | none => False) = _
  cases rdS δ i with
  | none => rfl
  | some d => exact tru_eq d
theorem e_andV {t u : TDE} : dAndV t u δ Q = t δ fun x δ1 => onBl x fun c => if c = true then u δ1 Q else Q (.bl false) δ1 := propext Iff.rfl
theorem e_orV {t u : TDE} : dOrV t u δ Q = t δ fun x δ1 => onBl x fun c => if c = true then Q (.bl true) δ1 else u δ1 Q := propext Iff.rfl
theorem e_notV {t : TDE} : dNotV t δ Q = t δ fun x δ1 => onBl x fun c => Q (.bl (!c)) δ1 := propext Iff.rfl
theorem e_if {t : TDT} {a b : TDE} : dIf t a b δ Q = t δ fun c δ1 => if c = true then a δ1 Q else b δ1 Q := propext Iff.rfl
theorem s_next : dNext F δ = F.nx δ := propext Iff.rfl
theorem s_seq {t u : TDS} : dSeq t u F δ = t { F with nx := u F } δ := propext Iff.rfl
theorem s_drop {t : TDE} : dDrop t F δ = t δ fun _ δ1 => F.nx δ1 := propext Iff.rfl
theorem s_ret {t : TDE} : dRet t F δ = t δ fun d δ1 => F.rt d δ1 := propext Iff.rfl
theorem s_if {c : TDT} {t u : TDS} : dIfS c t u F δ = c δ fun b δ1 => if b = true then t F δ1 else u F δ1 := propext Iff.rfl
theorem s_never : dNever F δ = False := propext Iff.rfl
theorem s_asg {t : TDE} : dAsg t i F δ = t δ fun d δ1 => atS (δ1.set i (.im d)) F.nx := propext Iff.rfl
theorem s_asgO {t : TDE} : dAsgO t i F δ = t δ fun d δ1 => atS (δ1.set i (.ow d)) F.nx := propext Iff.rfl
theorem g_name {Q : DSt → Prop} : dgName i d δ Q = atS (δ.set i (.im d)) Q := propext Iff.rfl
theorem g_nil {Q : DSt → Prop} : dgNil [] δ Q = Q δ := propext Iff.rfl
theorem g_cons {t : TDG} {r : TDGs} {ds : List D} {Q : DSt → Prop} : dgCons t r (d :: ds) δ Q = t d δ fun δ1 => r ds δ1 Q := propext Iff.rfl
theorem g_seqT {t : TDGs} {ds : List D} {Q : DSt → Prop} : dgSeq n t (.tup ds) δ Q = (ds.length = n ∧ t ds δ Q) := propext Iff.rfl
theorem g_seqL {t : TDGs} {ds : List D} {Q : DSt → Prop} : dgSeq n t (.lst ds) δ Q = (ds.length = n ∧ t ds δ Q) := propext Iff.rfl
def sqK (d : D) (k : List D → Prop) : Prop := match d with | .lst ds => k ds | .tup ds => k ds | .scr ns => k (ns.map D.int) | _ => False
theorem sqL {l : List D} {k : List D → Prop} : sqK (.lst l) k = k l := propext Iff.rfl
theorem sqT {l : List D} {k : List D → Prop} : sqK (.tup l) k = k l := propext Iff.rfl
theorem sqR {l : List Int} {k : List D → Prop} : sqK (.scr l) k = k (l.map D.int) := propext Iff.rfl
theorem i_seq {t : TDE} {Q : List D → DSt → Prop} : iSeq t δ Q = t δ fun d δ1 => sqK d fun ds => Q ds δ1 := by
  have : (fun (d : D) (δ1 : DSt) => match d with | .lst ds => Q ds δ1 | .tup ds => Q ds δ1 | .scr ns => Q (ns.map D.int) δ1 | _ => False) = fun d δ1 => sqK d fun ds => Q ds δ1 := by
    funext d δ1; cases d <;> rfl
  show t δ (fun (d : D) (δ1 : DSt) => match d with | .lst ds => Q ds δ1 | .tup ds => Q ds δ1 | .scr ns => Q (ns.map D.int) δ1 | _ => False) = _
  rw [this]
def enK (d : D) (k : List D → Prop) : Prop := match d with | .lst ds => k (enumD ds) | .tup ds => k (enumD ds) | _ => False
theorem enL {l : List D} {k : List D → Prop} : enK (.lst l) k = k (enumD l) := propext Iff.rfl
theorem enT {l : List D} {k : List D → Prop} : enK (.tup l) k = k (enumD l) := propext Iff.rfl
theorem i_enum {t : TDE} {Q : List D → DSt → Prop} : iEnum t δ Q = t δ fun d δ1 => enK d fun ds => Q ds δ1 := by
  have : (fun (d : D) (δ1 : DSt) => match d with | .lst ds => Q (enumD ds) δ1 | .tup ds => Q (enumD ds) δ1 | _ => False) = fun d δ1 => enK d fun ds => Q ds δ1 := by
    funext d δ1; cases d <;> rfl
  show t δ (fun (d : D) (δ1 : DSt) => match d with | .lst ds => Q (enumD ds) δ1 | .tup ds => Q (enumD ds) δ1 | _ => False) = _
  rw [this]
def rgK (d : D) (k : Int → Prop) : Prop := match d with | .int j => k j | _ => False
theorem rgI {a : Int} {k : Int → Prop} : rgK (.int a) k = k a := propext Iff.rfl
theorem i_range1 {t : TDE} {Q : List D → DSt → Prop} : iRange1 t δ Q = t δ fun d δ1 => rgK d fun j => (-(2 ^ 62) ≤ j ∧ j < 2 ^ 62) ∧ Q (rngD 0 j.toNat) δ1 := by
  have : (fun (d : D) (δ1 : DSt) => match d with | .int j => (-(2 ^ 62) ≤ j ∧ j < 2 ^ 62) ∧ Q (rngD 0 j.toNat) δ1 | _ => False) = fun d δ1 => rgK d fun j => (-(2 ^ 62) ≤ j ∧ j < 2 ^ 62) ∧ Q (rngD 0 j.toNat) δ1 := by
    funext d δ1; cases d <;> rfl
  show t δ (fun (d : D) (δ1 : DSt) => match d with | .int j => (-(2 ^ 62) ≤ j ∧ j < 2 ^ 62) ∧ Q (rngD 0 j.toNat) δ1 | _ => False) = _
  rw [this]
theorem e_call {sd : SpD} {t : TDA} : dCall sd t δ Q = t δ fun ds δ1 => sd ds fun d => Q d δ1 := propext Iff.rfl
theorem e_p1 {t : TDE} {Q : Option Int → DSt → Prop} : dP1 t δ Q = t δ fun d δ1 => rgK d fun i => Q (some i) δ1 := by
  have : (fun (d : D) (δ1 : DSt) => match d with | .int i => Q (some i) δ1 | _ => False) = fun d δ1 => rgK d fun i => Q (some i) δ1 := by
    funext d δ1; cases d <;> rfl
  show t δ (fun (d : D) (δ1 : DSt) => match d with | .int i => Q (some i) δ1 | _ => False) = _
  rw [this]
theorem e_p0 {Q : Option Int → DSt → Prop} : dP0 δ Q = Q none δ := propext Iff.rfl
theorem e_one1 {t : TDE} {k : D → DSt → Prop} : dOne (.ex t) k δ = t δ fun d δ1 => k d δ1 := propext Iff.rfl
theorem e_one2 {k : D → DSt → Prop} : dOne (.sl i) k δ = rS (nth δ i) fun d => k d δ := rd_eq δ i fun d => k d δ
theorem e_b1 {g : D → (D → Prop) → Prop} {A : Opn} : dB1 g A δ Q = dOne A (fun d δ1 => g d fun z => Q z δ1) δ := propext Iff.rfl
theorem e_b2 {g : D → D → (D → Prop) → Prop} {t u : TDE} : dB2 g t u δ Q = t δ fun x δ1 => u δ1 fun y δ2 => g x y fun z => Q z δ2 := propext Iff.rfl
theorem e_tb2 {g : D → D → (D → Prop) → Prop} {t u : TDE} {Q : Bool → DSt → Prop} : dtB2 g t u δ Q = t δ fun x δ1 => u δ1 fun y δ2 => g x y fun z => onBl z fun b => Q b δ2 := propext Iff.rfl
theorem e_sl1 {t : TDE} {tl th : TDO} : dSl (.ex t) tl th δ Q = t δ fun d δ1 => tl δ1 fun lo δ2 => th δ2 fun hi δ3 => slD d lo hi fun z => Q z δ3 := propext Iff.rfl
theorem e_sl2 {tl th : TDO} : dSl (.sl i) tl th δ Q = (hS (nth δ i) ∧ tl δ fun lo δ2 => th δ2 fun hi δ3 => rS (nth δ3 i) fun d => slD d lo hi fun z => Q z δ3) := by
  have : (fun (lo : Option Int) (δ2 : DSt) => th δ2 fun hi δ3 => match rdS δ3 i with | some d => slD d lo hi fun z => Q z δ3 | none => False) = fun lo δ2 => th δ2 fun hi δ3 => rS (nth δ3 i) fun d => slD d lo hi fun z => Q z δ3 := by
    funext lo δ2
    congr 1
    funext hi δ3
    exact rd_eq δ3 i fun d => slD d lo hi fun z => Q z δ3
  show ((rdS δ i).isSome = true ∧ tl δ fun (lo : Option Int) (δ2 : DSt) => th δ2 fun hi δ3 => match rdS δ3 i with | some d => slD d lo hi fun z => Q z δ3 | none => False) = _
  rw [this, rd_some]
theorem e_append {t : TDE} : dAppend i t δ Q = (hL (nth δ i) ∧ t δ fun d δ1 => oL (nth δ1 i) fun ds => ds.length < sizeLine ∧ atS (δ1.set i (.ow (.lst (ds ++ [d])))) (Q .non)) := by
  have : (fun (d : D) (δ1 : DSt) => match owL δ1 i with | some ds => ds.length < sizeLine ∧ Q .non (δ1.set i (.ow (.lst (ds ++ [d])))) | none => False) = fun d δ1 => oL (nth δ1 i) fun ds => ds.length < sizeLine ∧ atS (δ1.set i (.ow (.lst (ds ++ [d])))) (Q .non) := by
    funext d δ1; exact ow_eq δ1 i fun ds => ds.length < sizeLine ∧ Q .non (δ1.set i (.ow (.lst (ds ++ [d]))))
  show ((owL δ i).isSome = true ∧ t δ fun (d : D) (δ1 : DSt) => match owL δ1 i with | some ds => ds.length < sizeLine ∧ Q .non (δ1.set i (.ow (.lst (ds ++ [d])))) | none => False) = _
  rw [this, ow_some]
def lsK (d : D) (k : List D → Prop) : Prop := match d with | .lst ds => k ds | _ => False
theorem lsL {l : List D} {k : List D → Prop} : lsK (.lst l) k = k l := propext Iff.rfl
theorem e_extend {t : TDE} : dExtend i t δ Q = (hL (nth δ i) ∧ t δ fun d δ1 => lsK d fun es => oL (nth δ1 i) fun ds => ds.length + es.length ≤ sizeLine ∧ atS (δ1.set i (.ow (.lst (ds ++ es)))) (Q .non)) := by
  have : (fun (d : D) (δ1 : DSt) => match d with | .lst es => (match owL δ1 i with | some ds => ds.length + es.length ≤ sizeLine ∧ Q .non (δ1.set i (.ow (.lst (ds ++ es)))) | none => False) | _ => False) = fun d δ1 => lsK d fun es => oL (nth δ1 i) fun ds => ds.length + es.length ≤ sizeLine ∧ atS (δ1.set i (.ow (.lst (ds ++ es)))) (Q .non) := by
    funext d δ1
    cases d with
    | lst es => exact ow_eq δ1 i fun ds => ds.length + es.length ≤ sizeLine ∧ Q .non (δ1.set i (.ow (.lst (ds ++ es))))
    | _ => rfl
  show ((owL δ i).isSome = true ∧ t δ fun (d : D) (δ1 : DSt) => match d with | .lst es => (match owL δ1 i with | some ds => ds.length + es.length ≤ sizeLine ∧ Q .non (δ1.set i (.ow (.lst (ds ++ es)))) | none => False) | _ => False) = _
  rw [this, ow_some]
theorem e_popAt {t : TDE} : dPopAt i t δ Q = (hL (nth δ i) ∧ t δ fun d δ1 => rgK d fun j => oL (nth δ1 i) fun ds => (0 ≤ j ∧ j < ds.length ∧ j < 2 ^ 62) ∧ mX ds[j.toNat]? fun y => atS (δ1.set i (.ow (.lst (ds.eraseIdx j.toNat)))) (Q y)) := by
  have : (fun (d : D) (δ1 : DSt) => match d with | .int j => (match owL δ1 i with | some ds => (0 ≤ j ∧ j < ds.length ∧ j < 2 ^ 62) ∧ (match ds[j.toNat]? with | some y => Q y (δ1.set i (.ow (.lst (ds.eraseIdx j.toNat)))) | none => False) | none => False) | _ => False) = fun d δ1 => rgK d fun j => oL (nth δ1 i) fun ds => (0 ≤ j ∧ j < ds.length ∧ j < 2 ^ 62) ∧ mX ds[j.toNat]? fun y => atS (δ1.set i (.ow (.lst (ds.eraseIdx j.toNat)))) (Q y) := by
    funext d δ1
    cases d with
    | int j =>
      have e := ow_eq δ1 i fun ds => (0 ≤ j ∧ j < ds.length ∧ j < 2 ^ 62) ∧ mX ds[j.toNat]? fun y => atS (δ1.set i (.ow (.lst (ds.eraseIdx j.toNat)))) (Q y)
      show (match owL δ1 i with | some ds => (0 ≤ j ∧ j < ds.length ∧ j < 2 ^ 62) ∧ (match ds[j.toNat]? with | some y => Q y (δ1.set i (.ow (.lst (ds.eraseIdx j.toNat)))) | none => False) | none => False) = oL (nth δ1 i) _
      rw [← e]
      cases owL δ1 i with
      | none => rfl
      | some ds =>
        dsimp only
        congr 1
        generalize ds[j.toNat]? = o
        cases o <;> rfl
    | _ => rfl
  show ((owL δ i).isSome = true ∧ t δ fun (d : D) (δ1 : DSt) => match d with | .int j => (match owL δ1 i with | some ds => (0 ≤ j ∧ j < ds.length ∧ j < 2 ^ 62) ∧ (match ds[j.toNat]? with | some y => Q y (δ1.set i (.ow (.lst (ds.eraseIdx j.toNat)))) | none => False) | none => False) | _ => False) = _
  rw [this, ow_some]
theorem e_yes {Q : Bool → DSt → Prop} : dYes δ Q = Q true δ := propext Iff.rfl
theorem e_new {C : Str} {sd : SpI} {t : TDA} : dNew C sd t δ Q = t δ fun ds δ1 => sd ds fun fs => Q (.ins C fs) δ1 := propext Iff.rfl
theorem e_newV {C : Str} {sd : SpI} {tc : TDE} {t : TDA} : dNewV C sd tc t δ Q = tc δ fun d δ1 => d = .cls C ∧ t δ1 fun ds δ2 => sd ds fun fs => Q (.ins C fs) δ2 := propext Iff.rfl
theorem e_meth {C m : Str} {sd : SpD} {ta : TDE} {t : TDA} : dMeth C m sd ta t δ Q = ta δ fun d δ1 => mX (insOf d) fun p => p.1 = C ∧ p.2.lookup m = none ∧ t δ1 fun ds δ2 => sd (.ins C p.2 :: ds) fun z => Q z δ2 := by
  have : (fun (d : D) (δ1 : DSt) => match insOf d with | some (C', fs) => C' = C ∧ fs.lookup m = none ∧ t δ1 fun ds δ2 => sd (.ins C fs :: ds) fun z => Q z δ2 | none => False) = fun d δ1 => mX (insOf d) fun p => p.1 = C ∧ p.2.lookup m = none ∧ t δ1 fun ds δ2 => sd (.ins C p.2 :: ds) fun z => Q z δ2 := by
    funext d δ1; cases insOf d <;> rfl
  show ta δ (fun (d : D) (δ1 : DSt) => match insOf d with | some (C', fs) => C' = C ∧ fs.lookup m = none ∧ t δ1 fun ds δ2 => sd (.ins C fs :: ds) fun z => Q z δ2 | none => False) = _
  rw [this]
theorem e_prop {C : Str} {sd : SpD} {ta : TDE} : dProp C sd ta δ Q = ta δ fun d δ1 => mX (insOf d) fun p => p.1 = C ∧ sd [.ins C p.2] fun z => Q z δ1 := by
  have : (fun (d : D) (δ1 : DSt) => match insOf d with | some (C', fs) => C' = C ∧ sd [.ins C fs] fun z => Q z δ1 | none => False) = fun d δ1 => mX (insOf d) fun p => p.1 = C ∧ sd [.ins C p.2] fun z => Q z δ1 := by
    funext d δ1; cases insOf d <;> rfl
  show ta δ (fun (d : D) (δ1 : DSt) => match insOf d with | some (C', fs) => C' = C ∧ sd [.ins C fs] fun z => Q z δ1 | none => False) = _
  rw [this]
theorem e_stat {C : Str} {sd : SpD} {tc : TDE} {t : TDA} : dStat C sd tc t δ Q = tc δ fun d δ1 => d = .cls C ∧ t δ1 fun ds δ2 => sd ds fun z => Q z δ2 := propext Iff.rfl
theorem e_statI {C m : Str} {sd : SpD} {tc : TDE} {t : TDA} : dStatI C m sd tc t δ Q = tc δ fun d δ1 => mX (insOf d) fun p => p.1 = C ∧ p.2.lookup m = none ∧ t δ1 fun ds δ2 => sd ds fun z => Q z δ2 := by
  have : (fun (d : D) (δ1 : DSt) => match insOf d with | some (C', fs) => C' = C ∧ fs.lookup m = none ∧ t δ1 fun ds δ2 => sd ds fun z => Q z δ2 | none => False) = fun d δ1 => mX (insOf d) fun p => p.1 = C ∧ p.2.lookup m = none ∧ t δ1 fun ds δ2 => sd ds fun z => Q z δ2 := by
    funext d δ1; cases insOf d <;> rfl
  show tc δ (fun (d : D) (δ1 : DSt) => match insOf d with | some (C', fs) => C' = C ∧ fs.lookup m = none ∧ t δ1 fun ds δ2 => sd ds fun z => Q z δ2 | none => False) = _
  rw [this]
theorem e_clsM {C : Str} {sd : SpD} {tc : TDE} {t : TDA} : dClsM C sd tc t δ Q = tc δ fun d δ1 => d = .cls C ∧ t δ1 fun ds δ2 => sd (.cls C :: ds) fun z => Q z δ2 := propext Iff.rfl
theorem e_evN {Q : List Sl → DSt → Prop} : dEvs [] δ Q = Q [] δ := propext Iff.rfl
theorem e_evI {t : TDE} {r : List Ev} {Q : List Sl → DSt → Prop} : dEvs (.im t :: r) δ Q = t δ fun d δ1 => dEvs r δ1 fun ss δ2 => Q (.im d :: ss) δ2 := propext Iff.rfl
theorem e_evO {t : TDE} {r : List Ev} {Q : List Sl → DSt → Prop} : dEvs (.ow t :: r) δ Q = t δ fun d δ1 => dEvs r δ1 fun ss δ2 => Q (.ow d :: ss) δ2 := propext Iff.rfl
theorem s_pars {l : List Ev} {is : List Nat} : dPars l is F δ = dEvs l δ fun ss δ1 => atS (setD is ss δ1) F.nx := propext Iff.rfl
def bxK (d : D) (P : Prop) : Prop := match d with | .box _ => P | _ => False
theorem bx0 {a : Addr} {P : Prop} : bxK (.box a) P = P := propext Iff.rfl
theorem s_great : dGreat i F δ = rS (nth δ i) fun d => bxK d (F.nx δ) := by
  unfold dGreat rdS
  rcases nth_eq δ i with h | ⟨h, z⟩
  · rw [h]
    cases nth δ i with
    | no => rfl
    | im d => cases d <;> rfl
    | ow d => cases d <;> rfl
  · rw [h, z]; rfl
theorem g_box {key : Str} {Q : DSt → Prop} : dgBox i key d δ Q = rS (nth δ i) fun b => bxK b (rgK d fun n => 0 ≤ n ∧ Q δ) := by
  unfold dgBox rdS
  rcases nth_eq δ i with h | ⟨h, z⟩
  · rw [h]
    cases nth δ i with
    | no => rfl
    | im b => cases b <;> cases d <;> rfl
    | ow b => cases b <;> cases d <;> rfl
  · rw [h, z]; rfl
theorem e_boxNew {tg ts : TDE} : dBoxNew tg ts δ Q = tg δ fun d δ1 => ∃ gs : List Int, d = .lst (gs.map D.int) ∧ (∀ x ∈ gs, 0 ≤ x) ∧ gs.length ≤ 50 ∧ ts δ1 fun d2 δ2 => ∃ s : Int, d2 = .int s ∧ 0 ≤ s ∧ ∀ a, Q (.box a) δ2 := propext Iff.rfl
/-- loops are not looked into -/
def forB (g : TDG) (tb : TDS) (F : DEnds) (ds : List D) (δ : DSt) : Prop := ∃ Inv : Nat → DSt → Prop, Inv 0 δ ∧
  (∀ i d δ', ds[i]? = some d → Inv i δ' → g d δ' fun δ2 => tb { F with nx := Inv (i + 1), ct := Inv (i + 1), bk := F.nx } δ2) ∧ ∀ δ', Inv ds.length δ' → F.nx δ'
def lcB (g : TDG) (tt : TDT) (te : TDE) (own : List Nat) (ds : List D) (δ : DSt) (Q : D → DSt → Prop) : Prop := ∃ Inv : Nat → List D → DSt → Prop, Inv 0 [] (wipeD δ own) ∧
  (∀ i d acc δ', ds[i]? = some d → Inv i acc δ' → g d (wipeD δ' own) fun δ2 => tt δ2 fun b δ3 => if b = true then te δ3 fun y δ4 => acc.length < sizeLine ∧ Inv (i + 1) (acc ++ [y]) (wipeD δ4 own) else Inv (i + 1) acc (wipeD δ3 own)) ∧
  ∀ acc δ', Inv ds.length acc δ' → Q (.lst acc) (wipeD δ' own)
def dcB (g : TDG) (tt : TDT) (tk tv : TDE) (own : List Nat) (ds : List D) (δ : DSt) (Q : D → DSt → Prop) : Prop := dDc (fun δ P => P ds δ) g tt tk tv own δ Q
theorem for_eq {w : TDA} {g : TDG} {tb : TDS} : dFor w g tb F δ = w δ fun ds δ1 => forB g tb F ds δ1 := propext Iff.rfl
theorem lc_eq {w : TDA} {g : TDG} {tt : TDT} {te : TDE} {own : List Nat} : dLc w g tt te own δ Q = w δ fun ds δ1 => lcB g tt te own ds δ1 Q := propext Iff.rfl
theorem dc_eq {w : TDA} {g : TDG} {tt : TDT} {tk te : TDE} {own : List Nat} : dDc w g tt tk te own δ Q = w δ fun ds δ1 => dcB g tt tk te own ds δ1 Q := propext Iff.rfl
theorem for_go {g : TDG} {tb : TDS} {ds : List D} (Inv : Nat → DSt → Prop) (h0 : Inv 0 δ) (st : ∀ i d δ', ds[i]? = some d → Inv i δ' → g d δ' fun δ2 => tb { F with nx := Inv (i + 1), ct := Inv (i + 1), bk := F.nx } δ2) (fin : ∀ δ', Inv ds.length δ' → F.nx δ') : forB g tb F ds δ := ⟨Inv, h0, st, fin⟩
end
/-- a comprehension whose turn neither changes the names nor fails: filtered, then mapped -/
theorem lc_go {α : Type} {g : TDG} {tt : TDT} {te : TDE} {own : List Nat} {δ : DSt} {ds : List D} {Q : D → DSt → Prop} (xs : List α) (f : α → D) (c : α → Bool) (v : α → D) (hd : ds = xs.map f) (hl : xs.length ≤ 100000)
    (turn : ∀ x ∈ xs, ∀ (K1 : D → DSt → Prop) (K2 : DSt → Prop), (c x = true → K1 (v x) (wipeD δ own)) → (c x = false → K2 (wipeD δ own)) →
      g (f x) (wipeD (wipeD δ own) own) fun δ2 => tt δ2 fun b δ3 => if b = true then te δ3 fun y δ4 => K1 y (wipeD δ4 own) else K2 (wipeD δ3 own))
    (q : atS (wipeD (wipeD δ own) own) (Q (.lst ((xs.filter c).map v)))) : lcB g tt te own ds δ Q :=
  lc_fm (w := fun δ P => P ds δ) xs f c v (fun P h => by rw [hd]; exact h) hl turn q
/-- without a test -/
theorem lc_m {α : Type} {g : TDG} {te : TDE} {own : List Nat} {δ : DSt} {ds : List D} {Q : D → DSt → Prop} (xs : List α) (f : α → D) (v : α → D) (hd : ds = xs.map f) (hl : xs.length ≤ 100000)
    (turn : ∀ x ∈ xs, ∀ (K1 : D → DSt → Prop), K1 (v x) (wipeD δ own) → g (f x) (wipeD (wipeD δ own) own) fun δ2 => te δ2 fun y δ4 => K1 y (wipeD δ4 own))
    (q : atS (wipeD (wipeD δ own) own) (Q (.lst (xs.map v)))) : lcB g dYes te own ds δ Q := by
  refine lc_go xs f (fun _ => true) v hd hl (fun x hx K1 K2 k1 _ => turn x hx K1 (k1 rfl)) ?_
  rw [List.filter_eq_self.mpr (fun _ _ => rfl)]
  exact q
theorem bls_map {α : Type} (f : α → Bool) : ∀ l : List α, blsOf (l.map fun x => D.bl (f x)) = some (l.map f)
  | [] => rfl
  | x :: r => by
    rw [List.map_cons, blsOf, bls_map f r]; rfl
theorem all_at {α : Type} (f : α → Bool) (l : List α) (Q : D → Prop) : anyD true (.lst (l.map fun x => D.bl (f x))) Q = Q (.bl (l.all f)) := by
  show (match blsOf (l.map fun x => D.bl (f x)) with | some bs => Q (.bl (if true = true then bs.all id else bs.any id)) | none => False) = _
  rw [bls_map]
  simp only [if_true, List.all_map]
  rfl
theorem if_t {b : Bool} {p q : Prop} (h : b = true) (k : p) : if b = true then p else q := by rw [if_pos h]; exact k
theorem if_f {b : Bool} {p q : Prop} (h : b = false) (k : q) : if b = true then p else q := by rw [h, if_neg Bool.false_ne_true]; exact k
theorem cut_to {α : Type} {xs : List α} {n : Int} (h : 0 ≤ n) : cutL xs none (some n) = xs.take n.toNat := by
  obtain ⟨k, rfl⟩ := Int.eq_ofNat_of_zero_le h
  unfold cutL
  rw [HT.sIx_none, HT.sIx_nat, Int.toNat_natCast, List.drop_zero, Nat.sub_zero]
  by_cases hk : k ≤ xs.length
  · rw [Nat.min_eq_left hk]
  · rw [Nat.min_eq_right (by omega), List.take_of_length_le (Nat.le_refl _), List.take_of_length_le (by omega)]
theorem cut_from {α : Type} {xs : List α} {n : Int} (h : 0 ≤ n) : cutL xs (some n) none = xs.drop n.toNat := by
  obtain ⟨k, rfl⟩ := Int.eq_ofNat_of_zero_le h
  unfold cutL
  rw [HT.sIx_none, HT.sIx_nat, Int.toNat_natCast]
  by_cases hk : k ≤ xs.length
  · rw [Nat.min_eq_left hk, List.take_of_length_le (by rw [List.length_drop]; omega)]
  · rw [Nat.min_eq_right (by omega), List.drop_of_length_le (Nat.le_refl _), List.drop_of_length_le (by omega), List.take_nil]
theorem enum_get {l : List D} {i : Nat} {d : D} (h : (enumD l)[i]? = some d) : ∃ x, l[i]? = some x ∧ d = .tup [.int (i : Int), x] := by
  have hi := lt_of_get h
  rw [enumD_len] at hi
  obtain ⟨x, hx⟩ : ∃ x, l[i]? = some x := ⟨_, List.getElem?_eq_getElem hi⟩
  rw [enumD_get hx] at h
  cases h
  exact ⟨x, hx, rfl⟩
theorem at_w1 {v : Nat} {vs : List Nat} {δ : DSt} {P : DSt → Prop} : atS (wipeD δ (v :: vs)) P = atS (wipeD δ vs) (fun δ => atS (δ.set v .no) P) := propext Iff.rfl
theorem at_w0 {δ : DSt} {P : DSt → Prop} : atS (wipeD δ []) P = atS δ P := propext Iff.rfl
theorem rng_get {n i : Nat} {d : D} (h : (rngD 0 n)[i]? = some d) : i < n ∧ d = .int (i : Int) := by
  have hi := lt_of_get h
  rw [rngD_len] at hi
  rw [rngD_get hi] at h
  cases h
  exact ⟨hi, by rw [Int.zero_add]⟩
/-- a comprehension without a test whose items have a property -/
theorem lc_nd {g : TDG} {te : TDE} {own : List Nat} {δ : DSt} {ds : List D} {Q : D → DSt → Prop} (P : D → Prop) (hl : ds.length ≤ 100000)
    (turn : ∀ x ∈ ds, ∀ (K1 : D → DSt → Prop), (∀ y, P y → K1 y (wipeD δ own)) → g x (wipeD (wipeD δ own) own) fun δ2 => te δ2 fun y δ4 => K1 y (wipeD δ4 own))
    (q : ∀ acc : List D, acc.length = ds.length → (∀ y ∈ acc, P y) → atS (wipeD (wipeD δ own) own) (Q (.lst acc))) : lcB g dYes te own ds δ Q := by
  refine Exists.intro (fun (i : Nat) (acc : List D) (δ' : DSt) => δ' = wipeD δ own ∧ acc.length = i ∧ ∀ y ∈ acc, P y) ⟨⟨rfl, rfl, fun _ h => nomatch h⟩, ?_, ?_⟩
  · rintro i d acc δ' hd ⟨rfl, hi, ha⟩
    have hlt := lt_of_get hd
    refine turn d (List.mem_of_getElem? hd) (fun y δ' => acc.length < sizeLine ∧ δ' = wipeD δ own ∧ (acc ++ [y]).length = i + 1 ∧ ∀ z ∈ acc ++ [y], P z) fun y hy => ⟨line_of (by omega), rfl, by simp [hi], fun z hz => ?_⟩
    rcases List.mem_append.mp hz with hz | hz
    · exact ha z hz
    · rw [List.mem_singleton.mp hz]; exact hy
  · rintro acc δ' ⟨rfl, hi, ha⟩
    exact q acc hi ha
theorem nd {p : Prop} [Decidable p] (h : p) : (!decide p) = false := by rw [decide_eq_true h]; rfl
theorem and2 {c1 c2 : Bool} {bad K : Prop} (h : c1 = true → c2 = false) (k : K) : if c1 = true then (if c2 = true then bad else K) else K := by
  cases c1
  · exact k
  · rw [if_pos rfl, h rfl]; exact k
theorem e_join {u : TDE} {δ : DSt} {Q : D → DSt → Prop} {s : Str} : dJoin (dC (.str s)) u δ Q = u δ fun y δ2 => joinD s y fun z => Q z δ2 := propext Iff.rfl
theorem x_mulS {s : Str} {j : Int} {Q : D → Prop} : mulX (.str s) (.int j) Q = ((j = 0 ∨ j = 1) ∧ Q (.str (if j = 0 then Str.empty else s))) := by unfold mulX; rfl
theorem inL_strs (s : Str) (l : List Str) : inL (.str s) (l.map D.str) = decide (s ∈ l) := by
  have h := inL_plain (d := .str s) (l := l.map D.str) rfl (plain_strs l)
  rw [Bool.eq_iff_iff, decide_eq_true_iff, h, List.mem_map]
  exact ⟨fun ⟨x, hx, e⟩ => by cases e; exact hx, fun hx => ⟨s, hx, rfl⟩⟩
theorem in_cond (s : Str) (l : List Str) : isDat (.str s) = true ∧ isDatL (l.map D.str) = true ∧ dep (.str s) ≤ 64 ∧ dep (.lst (l.map D.str)) ≤ 64 :=
  ⟨rfl, plainL_dat (plain_strs l), by show 0 ≤ 64; omega, Nat.le_trans (dep_strs l) (by omega)⟩
theorem in_strL {neg : Bool} {s : Str} {l : List Str} {Q : D → Prop} : inX neg (.str s) (.lst (l.map D.str)) Q = Q (.bl (if neg = true then !decide (s ∈ l) else decide (s ∈ l))) := by
  have e : inX neg (.str s) (.lst (l.map D.str)) Q = ((isDat (.str s) = true ∧ isDatL (l.map D.str) = true ∧ dep (.str s) ≤ 64 ∧ dep (.lst (l.map D.str)) ≤ 64) ∧ Q (.bl (if neg = true then !inL (.str s) (l.map D.str) else inL (.str s) (l.map D.str)))) := by unfold inX; cases neg <;> rfl
  rw [e, inL_strs, eq_iff_iff]
  exact ⟨fun h => h.2, fun h => ⟨in_cond s l, h⟩⟩
theorem in_strT {neg : Bool} {s : Str} {l : List Str} {Q : D → Prop} : inX neg (.str s) (.tup (l.map D.str)) Q = Q (.bl (if neg = true then !decide (s ∈ l) else decide (s ∈ l))) := by
  have e : inX neg (.str s) (.tup (l.map D.str)) Q = ((isDat (.str s) = true ∧ isDatL (l.map D.str) = true ∧ dep (.str s) ≤ 64 ∧ dep (.lst (l.map D.str)) ≤ 64) ∧ Q (.bl (if neg = true then !inL (.str s) (l.map D.str) else inL (.str s) (l.map D.str)))) := by unfold inX; cases neg <;> rfl
  rw [e, inL_strs, eq_iff_iff]
  exact ⟨fun h => h.2, fun h => ⟨in_cond s l, h⟩⟩
/-- a thing stored in a target -/
def dSto (t : TDE) (g : TDG) : TDS := fun F δ => t δ fun d δ1 => g d δ1 F.nx
theorem s_sto {t : TDE} {g : TDG} {F : DEnds} {δ : DSt} : dSto t g F δ = t δ fun d δ1 => g d δ1 F.nx := propext Iff.rfl
end T

namespace T
open PySem L2
/-! ### defs that are called while no repr is under way -/
/-- a promise by position, kept wherever no guard of repr stands -/
def FnG (P : Program) (w : World) (K : PySem.W.Frag) (mg : Str → Option Value) (base : Heap) (k : Nat) (f : Addr) (sp : Sp) : Prop :=
  ∀ (A : Around) (outer : List Env) (s : Shared) (H : Hp) (us : List Value) (vs : List V) (Q : VK) (E : XK), Room k A → A.guards = some [] → Env0 P w K mg base A outer s H → Vals vs us → sp vs H Q E →
    codeAny (model P w) A (.call (.ref f) ⟨us, []⟩) (CR CX0 outer P w H s Q E) s
section
variable {P : Program} {w : World} {K : PySem.W.Frag} {mg : Str → Option Value} {base : Heap} {j k : Nat} {f : Addr} {sp : Sp}
theorem FnG.of (F : FnR P w K mg base CX0 k f sp) : FnG P w K mg base k f sp := fun A outer s H us vs Q E hr _ => F A outer s H us vs Q E hr
theorem FnG.mono (F : FnG P w K mg base j f sp) (h : j ≤ k) : FnG P w K mg base k f sp := fun A outer s H us vs Q E hr => F A outer s H us vs Q E (hr.mono h)
end
section
open PySem.Spec PyProof.Rows
/-- the rule for a def, by its body, where no guard stands -/
theorem fn_ofG {P : Program} {w : World} {K : PySem.W.Frag} {mg : Str → Option Value} {base : Heap} {k : Nat} {x qual : Str} {params : Arguments} {body : List Stmt} {scope : Scope} {dvs : List V} {kws : List (Str × V)} {f : Addr} {fd : FuncData} {N ps : List Str} {sp : Sp}
    (F : FunD K x qual params body scope dvs kws f fd) (S : FnScope N ps scope) (len : ∀ vs H Q E, sp vs H Q E → vs.length = ps.length) (hbd : Binds K fd ps [])
    (hbody : ∀ (cdv : Value) (A : Around) (outer : List Env) (s : Shared) (H : Hp) (vs : List V) (Q : VK) (E : XK), Room k (A.deeper (envOfC qual scope s.heap.objs.size f cdv)) → A.guards = some [] → sp vs H Q E →
      ∃ t, PSs (cxOf CX0 P w K mg base N qual scope f cdv A outer s H E) body t ∧ t { nx := fun _ H' => Q .non H', rt := Q } (start N vs) H) :
    FnG P w K mg base (k + 1) f sp := by
  obtain ⟨oc, od, dV, kV, doc, pm, an, cdv, ct, osl, rfl, lk, hcd, _, _⟩ := F.ex
  intro A outer s H us vs Q E hr hG e0 r hsp
  have lv : vs.length = ps.length := len _ _ _ _ hsp
  have lu : (us ++ []).length = ps.length := by rw [List.append_nil, ← r.length]; exact lv
  have KX : K.In s.heap := e0.mod.kin.keeps fun b o e => (e0.bs b o e).1
  have lim : s.heap.NoLimit := e0.mod.nolimit.keeps fun b o e => (e0.bs b o e).1
  have kinds : ∀ y ∈ ps.zip us, scope.names.lookup y.1 = some .local ∨ (scope.names.lookup y.1 = some .cell ∧ ((cellsFrom (s.heap.objs.size + 1) scope.names []).lookup y.1).isSome = true) := by
    rintro ⟨n, v⟩ hy
    exact (S.par n (List.of_mem_zip hy).1).imp id fun q => ⟨q, PySem.W.cellsFrom_some _ _ _ (.inl q)⟩
  have hb := hbd s us KX lu
  rw [List.append_nil] at hb
  refine codeAny_call_function hr.depth (KX _ _ lk) rfl S.co S.gen rfl (PySem.W.codeRec_of KX hcd) (hb _ _ _ _ (wpAny_newFunctionEnv_cells S.kind kinds fun env he s1 x => ?_))
  subst he
  refine ⟨lim.keeps x.toInCall.keep, codeAny_func ?_⟩
  obtain ⟨t, ht, hq⟩ := hbody cdv A outer s H vs Q E (hr.deeper _) hG hsp
  refine wpAny_mono (ht.run [] s1 (start N vs) H _ (inv_start S hr.hd e0 lv r x) hq) (fun fl s' hs => ?_) fun e s' hs => hs
  cases fl with
  | ret u =>
    obtain ⟨v, σ', H', J, rv, q⟩ := hs
    exact ⟨v, H', J.os, J.bare, J.base, J.hok, rv, q⟩
  | next =>
    obtain ⟨σ', H', J, q⟩ := hs
    exact ⟨V.non, H', J.os, J.bare, J.base, J.hok, rfl, q⟩
  | brk => obtain ⟨_, _, _, q⟩ := hs; exact False.elim q
  | cont => obtain ⟨_, _, _, q⟩ := hs; exact False.elim q
end
/-- THE RULE for a def over data, where no guard stands -/
theorem fn_dG {P : Program} {w : World} {K : PySem.W.Frag} {mg : Str → Option Value} {base : Heap} {x qual : Str} {params : Arguments} {body : List Stmt} {scope : Scope} {dvs : List V} {kws : List (Str × V)} {f : Addr} {fd : FuncData} {N ps : List Str} {k : Nat} {sd : SpD} {t : TDS}
    (F : FunD K x qual params body scope dvs kws f fd) (S : FnScope N ps scope) (hbd : Binds K fd ps []) (len : ∀ ds Q, sd ds Q → ds.length = ps.length)
    (hb : ∀ (cdv : Value) (A : Around) (outer : List Env) (s : Shared) (H : Hp) (E : XK) (e : Ent), Room k (A.deeper (PyProof.Rows.envOfC qual scope s.heap.objs.size f cdv)) → A.guards = some [] → DSs (cxF P w K mg base N qual scope f cdv A outer s H E) e body t)
    (hp : ∀ ds Q, sd ds Q → t (ends Q) (startD N.length ds)) : FnG P w K mg base (k + 1) f (toSp K sd) := by
  refine fn_ofG F S (fun vs H Q E h => ?_) hbd (fun cdv A outer s H vs Q E hr hG h => ?_)
  · obtain ⟨G, ds, Qd, ok, r, q, _⟩ := h
    rw [r.length]
    exact len ds Qd q
  · obtain ⟨G, ds, Qd, ok, r, q, kk⟩ := h
    refine ⟨_, PSs.nox (hb cdv A outer s H E ⟨G, H⟩ hr hG), .nil, G, startD N.length ds, _, start_ss ok r, hp ds Qd q, fun σ' δ' G' H' le S' q' => ?_, fun v d σ' δ' G' H' S' rep q' => kk d v G' H' S'.ok S'.stp rep q', fun _ _ _ _ _ _ q' => q'.elim, fun _ _ _ _ _ _ q' => q'.elim⟩
    exact kk .non .non G' H' S'.ok S'.stp .non q'
section
variable {X : Cx} {e : Ent} {pos : Pos} {pins : List (Addr × Obj)} {σ : St} {H : Hp} {s : Shared}
end
/-! ### repr of data -/
/-- data that repr shows -/
structure ShOk (d : D) : Prop where
  dat : isDat d = true
  shw : (py d).showable = true
  nod : (py d).hasDict = false
  dep : dep d ≤ 64
  len : (py d).shown.length ≤ sizeLine
  ok : sOk (py d).shown
def reprD : D → (D → Prop) → Prop := fun d Q => ShOk d ∧ Q (.str (py d).shown)
section
variable {X : Cx} {e : Ent} {pos : Pos}
theorem call_reprD {k : Nat} (hr : Room k X.A) (hG : X.A.guards = some []) : CallR X (.builtin "repr") (fun xs H Q => ∃ v d, xs = [v] ∧ Dp X.K H v d ∧ d.showable = true ∧ d.hasDict = false ∧ d.depth ≤ 64 ∧ d.shown.length ≤ sizeLine ∧ Q (.str d.shown) H) := by
  intro pins s σ H xs us Q I r h
  obtain ⟨v, d, rfl, dp, h1, h2, h3, h4, q⟩ := h
  obtain ⟨u, rfl, ru⟩ := vals1 r
  obtain ⟨as, rd⟩ := Dp.reads I d v u dp ru
  have hu := hr.un
  cases rd with
  | none => exact PySem.P.repr_of_none ⟨.str _, H, I.tok _, ⟨_, rfl⟩, q⟩
  | bool b => exact PySem.P.repr_of_bool ⟨.str _, H, I.tok _, ⟨_, rfl⟩, q⟩
  | int i t => exact PySem.P.repr_of_int (of_decide_eq_true h1) ⟨.str _, H, I.tok _, ⟨_, rfl⟩, q⟩
  | str x t => exact PySem.P.repr_of_str ⟨.str _, H, I.tok _, ⟨_, rfl⟩, q⟩ h4
  | list a1 a2 a3 a4 => exact repr_of_reads' (.list a1 a2 a3 a4) h1 (fun z => by rw [h2] at z; cases z) hG (by omega) (fun _ _ e => e) (fun h' u tk hk => ⟨.str _, H, I.kept hk, ⟨_, rfl⟩, q⟩) h4
  | tuple a1 a2 a3 a4 => exact repr_of_reads' (.tuple a1 a2 a3 a4) h1 (fun z => by rw [h2] at z; cases z) hG (by omega) (fun _ _ e => e) (fun h' u tk hk => ⟨.str _, H, I.kept hk, ⟨_, rfl⟩, q⟩) h4
  | dict a1 a2 a3 a4 a5 => cases h2
theorem de_repr {k : Nat} {a : Expr} {A : Opn} {p : Pos} (hr : Room k X.A) (hG : X.A.guards = some []) (ha : OPN X e a A) (hg : Gl X "repr") (hm : X.mg "repr" = none)
    (hs : starEach (a :: []) X.env = (false, eval a X.env) :: starEach [] X.env := by rfl) (hpl : (backTo pos (starEach [] X.env)).any (·.1) = false := by rfl) : DE X e (.Call (.Name "repr" p) [a] [] pos) (dB1 reprD A) := by
  refine de_B1 (id := "repr") (call_reprD hr hG) ?_ hg hm rfl ha (by decide) (by decide) hs hpl
  intro T G H σ δ x a Qd Q S rd q kk
  obtain ⟨h, q⟩ := q
  obtain ⟨p1, c1⟩ := rd.dp S.ok h.dat
  exact ⟨x, _, rfl, p1, h.shw, h.nod, h.dep, h.len, kk _ _ H G S Step.refl (.str h.ok) q⟩
end
end T

namespace T
open PySem L2
section
variable {X : Cx} {e : Ent} {pos : Pos}
def onStr (d : D) (Q : Str → Prop) : Prop := match d with | .str t => Q t | _ => False
/-! ### repr(x), str(x) by the class's own def -/
structure CalU (P : Program) (w : World) (K : PySem.W.Frag) (mg : Str → Option Value) (base : Heap) (k : Nat) (C m : Str) (sd : SpD) : Prop where
  ex : ∃ g, FnD P w K mg base k g sd ∧ PySem.W.findIn K (.ref (He.ga K C)) m = some (some (.ref g)) ∧ PySem.W.isFn K (.ref g) = true
/-- one frozen operand -/
def dF1 (g : D → (D → Prop) → Prop) (t : TDE) : TDE := fun δ Q => t δ fun d δ1 => g d fun z => Q z δ1
/-! ### str(i), f-strings -/
theorem char_lt (c : Char) : c.toNat < 0x110000 := by
  rcases c.valid with h1 | h1
  · show c.val.toNat < _
    have : c.val.toNat < 55296 := h1
    omega
  · exact h1.2
theorem sOk_ofString (s : String) : sOk (Str.ofString s) := by
  intro c hc
  rw [PyProof.Rows.signs_ofString] at hc
  obtain ⟨x, _, rfl⟩ := List.mem_map.mp hc
  exact char_lt x
def strD : D → (D → Prop) → Prop
  | .int i, Q => i.natAbs.log2 < 1920 ∧ Q (.str (toString i))
  | .str s, Q => Q (.str s)
  | _, _ => False
/-- the parts of an f-string: a written text, a value -/
inductive Fp where
  | lit (s : Str) | val (t : TDE)
def dFs : List Fp → Str → DSt → (Str → DSt → Prop) → Prop
  | [], acc, δ, Q => Q acc δ
  | .lit s :: r, acc, δ, Q => (acc ++ s).length ≤ sizeLine ∧ dFs r (acc ++ s) δ Q
  | .val t :: r, acc, δ, Q => t δ fun d δ1 => strD d fun z => onStr z fun y => (y.length ≤ sizeLine ∧ (acc ++ y).length ≤ sizeLine) ∧ dFs r (acc ++ y) δ1 Q
inductive DFs (X : Cx) (e : Ent) : List Expr → List Fp → List TE → Prop
  | nil : DFs X e [] [] []
  | lit {s : Str} {pos : Pos} {j : Nat} {es : List Expr} {ps : List Fp} {ts : List TE} (hs : sOk s) (r : DFs X e es ps ts) : DFs X e (.Constant (.str s) j pos :: es) (.lit s :: ps) (tC (.str s) :: ts)
  | val {a : Expr} {t : TDE} {pos : Pos} {es : List Expr} {ps : List Fp} {ts : List TE} (h : DE X e a t) (r : DFs X e es ps ts) : DFs X e (.FormattedValue a (-1) none pos :: es) (.val t :: ps) (tFmt (lift X.K e t) :: ts)
theorem DFs.go {es : List Expr} {ps : List Fp} {ts : List TE} (h : DFs X e es ps ts) : ∀ (T : Tm) (G : Gh) (H : Hp) (σ : St) (δ : DSt) (acc : Str) (Qd : Str → DSt → Prop) (Q : Str → Hp → Prop), SS X.K e T G H σ δ → sOk acc → dFs ps acc δ Qd →
    (∀ out H' G' δ', SS X.K e T G' H' σ δ' → Step e G H G' H' → sOk out → Qd out δ' → Q out H') → tJs ts acc σ H Q := by
  induction h with
  | nil => intro T G H σ δ acc Qd Q S ok q k; exact k acc H G δ S Step.refl ok q
  | lit hs r ih =>
    intro T G H σ δ acc Qd Q S ok q k
    exact ⟨_, rfl, q.1, ih T G H σ δ _ Qd Q S (sOk_append ok hs) q.2 k⟩
  | val h r ih =>
    intro T G H σ δ acc Qd Q S ok q k
    refine ⟨T, G, δ, _, S, q, fun v d H1 G1 δ1 S1 st1 rd q1 => ?_⟩
    cases d with
    | int i =>
      cases rd with
      | int =>
        obtain ⟨h1, h2, h3⟩ := q1
        exact .inr ⟨i, rfl, h1, _, rfl, h2.2, ih T G1 H1 σ δ1 _ Qd Q S1 (sOk_append ok (sOk_ofString _)) h3 fun out H' G' δ' S' st' => k out H' G' δ' S' (st1.trans st')⟩
    | str y =>
      cases rd with
      | str o1 =>
        obtain ⟨h2, h3⟩ := q1
        exact .inl ⟨y, rfl, h2.1, _, rfl, h2.2, ih T G1 H1 σ δ1 _ Qd Q S1 (sOk_append ok o1) h3 fun out H' G' δ' S' st' => k out H' G' δ' S' (st1.trans st')⟩
    | _ => exact False.elim q1
def dFstr (ps : List Fp) : TDE := fun δ Q => dFs ps Str.empty δ fun out δ1 => Q (.str out) δ1
/-! ### x == y by x's class, y anything -/
end
/-! tests -/
end T

namespace T
open PySem L2 PySem.Spec PyProof.Rows
/-! ### the end of the head for a law that wants the guards -/
def GoodEnd (s₁ : Shared) (r : Result) (s' : Shared) : Prop := r = .ok (.ret (.bool true)) ∧ OldK s₁.heap s'.heap ∧ s'.os = s₁.os ∧ AllBare s'.gens
/-- from an abstract heap in which at most the script is tracked -/
theorem law_fromG {P : Program} {w : World} {K : PySem.W.Frag} {mg mb : Str → Option Value} {k : Nat} {fa a : Addr} {sp : Sp} {s₁ : Shared} {vs : List Value} {H : Hp}
    (KX : K.In s₁.heap) (hns : s₁.heap.Ns mainGlobals mg) (hb : s₁.heap.Ns builtinsNs mb) (hbb : ∀ x : Str, x ≠ "__name__" → mb x = bootBuiltins x) (hlim : s₁.heap.NoLimit) (hg : s₁.gens = #[])
    (ha : s₁.heap.get? a = some { cls := .type "list", data := .seq vs.toArray }) (hr : Room k callerA)
    (F : ∀ base : Heap, K.In base → base.Ns mainGlobals mg → FnG P w K mg base k fa sp) (hO : Only H) (hok : HOk P w H s₁.heap) (hA : ∀ b, H b ≠ none → b = a) (hK : H a ≠ none → K.lookup a = none)
    (hsp : sp [.ref a] H (fun v _ => v = .bl true) fun _ _ _ => False) : codeAny (model P w) callerA (.call (.ref fa) ⟨[.ref a], []⟩) (GoodEnd s₁) s₁ := by
  have free : ∀ {b : Addr} {o : Obj} {es : Array DictEntry} {n : Nat}, s₁.heap.get? b = some o → o.data = .dict es n → H b = none := by
    intro b o es n h1 h2
    by_cases z : H b = none
    · exact z
    · have e1 := hA b z
      rw [e1, ha] at h1
      cases h1
      cases h2
  have ns : ∀ {b : Addr} {m : Str → Option Value}, s₁.heap.Ns b m → (hidT s₁.heap H).Ns b m := by
    rintro b m ⟨o, es, n, h1, h2, r⟩
    exact ⟨o, es, n, hidT_get h1 (free h1 h2), h2, r⟩
  have kin : K.In (hidT s₁.heap H) := by
    intro b o h
    refine hidT_get (KX b o h) ?_
    by_cases z : H b = none
    · exact z
    · have e1 := hA b z
      subst e1
      rw [hK z] at h
      cases h
  have md : Mod K mg (hidT s₁.heap H) := ⟨kin, ns hns, ⟨mb, ns hb, hbb⟩, by obtain ⟨mc, h1, h2⟩ := hlim; exact ⟨mc, ns h1, h2⟩⟩
  have none_in : ∀ b : Addr, b ∉ frs [] := fun b hb => by cases (show b ∈ ([] : List Addr) from hb)
  have e0 : Env0 P w K mg (hidT s₁.heap H) callerA [] s₁ H := ⟨rfl, md, fun b o e => of_hidT e, Nat.le_of_eq (hidT_size _ _), trivial, fun b hb => absurd hb (none_in b), hok, .of_eq hg⟩
  refine codeAny_mono (F _ kin (ns hns) callerA [] s₁ H [.ref a] [.ref a] _ _ hr rfl e0 (.cons rfl .nil) hsp) fun r s' h => ?_
  cases r with
  | error e => exact False.elim h
  | ok fl => cases fl with
    | next => exact False.elim h
    | brk => exact False.elim h
    | cont => exact False.elim h
    | ret u =>
      obtain ⟨v, H', os, bare, un, hok', r', q⟩ := h
      subst q
      obtain rfl : u = Value.bool true := r'
      refine ⟨rfl, OldK.of_keep fun b o hb => ?_, os, bare⟩
      rcases hO b with z | ⟨ob, xs, z⟩
      · exact un.keep b o hb z (none_in b) (by simp)
      · have i1 := (hok b _ z).1
        rw [hb] at i1
        cases i1
        exact (hok' b _ (un.frzs b _ _ z)).1
theorem law_callG {P : Program} {w : World} {K : PySem.W.Frag} {mg mb : Str → Option Value} {k : Nat} {fa a : Addr} {sp : Sp} {s₁ : Shared} {vs : List Value} {ns : List Int}
    (KX : K.In s₁.heap) (hns : s₁.heap.Ns mainGlobals mg) (hb : s₁.heap.Ns builtinsNs mb) (hbb : ∀ x : Str, x ≠ "__name__" → mb x = bootBuiltins x) (hlim : s₁.heap.NoLimit) (hg : s₁.gens = #[])
    (ha : s₁.heap.get? a = some { cls := .type "list", data := .seq vs.toArray }) (hi : IntsAre vs ns) (hl : ns.length ≤ sizeLine) (hr : Room k callerA)
    (F : ∀ base : Heap, K.In base → base.Ns mainGlobals mg → FnG P w K mg base k fa sp)
    (hsp : ∀ H : Hp, Only H → SqL K H a (ns.map V.int) → sp [.ref a] H (fun v _ => v = .bl true) fun _ _ _ => False) : codeAny (model P w) callerA (.call (.ref fa) ⟨[.ref a], []⟩) (GoodEnd s₁) s₁ := by
  have rv := vals_ints hi
  have lenV := hi.length
  let o : Obj := { cls := .type "list", data := .seq vs.toArray }
  cases hk : K.lookup a with
  | some o' =>
    have e1 := KX a o' hk
    rw [ha] at e1
    cases e1
    have hO : Only (fun _ => none : Hp) := fun _ => .inl rfl
    refine law_fromG KX hns hb hbb hlim hg ha hr F hO (fun b u z => by cases (show (none : Option HO) = some u from z)) (fun b z => absurd rfl z) (fun z => absurd rfl z) (hsp _ hO (.inr ⟨_, vs.toArray, _, hk, rfl, rfl, rfl, ?_, by simpa using rv⟩))
    rw [List.size_toArray, lenV]
    exact hl
  | none =>
    let H : Hp := fun b => if b = a then some (.frz o (.lst (ns.map V.int))) else none
    have hself : H a = some (.frz o (.lst (ns.map V.int))) := if_pos rfl
    have hne : ∀ {b : Addr}, b ≠ a → H b = none := fun h => if_neg h
    have hO : Only H := fun b => by
      by_cases z : b = a
      · subst z; exact .inr ⟨_, _, hself⟩
      · exact .inl (hne z)
    refine law_fromG KX hns hb hbb hlim hg ha hr F hO (fun b u z => ?_) (fun b z => ?_) (fun _ => hk) (hsp H hO (.inl (.inr ⟨o, hself⟩)))
    · by_cases q : b = a
      · subst q
        rw [hself] at z
        cases z
        exact ⟨ha, by rw [List.length_map]; exact hl, vs, _, rv, ha⟩
      · rw [hne q] at z
        cases z
    · by_cases q : b = a
      · exact q
      · exact absurd (hne q) z
theorem walk_ofG {l : PySem.W.OpenLaw} {n k : Nat} {q : Program} {loose : List Str} {XP : (Str → Option Value) → Heap → Prop} {YP : World → Heap → Prop} {d : DefRec}
    (hn : l.most = some n) (hn2 : n ≤ sizeLine) (hdf : d.params.defaults = []) (hr : Room k callerA)
    (F : ∀ (w : World) (mg : Str → Option Value) (fa : Addr) (h : Heap), YP w h → h.Ns mainGlobals mg → mg d.name = some (.ref fa) →
      ∃ (K : PySem.W.Frag) (sp : Sp), K.In h ∧ (∀ (H : Hp) (a : Addr) (ns : List Int), ns.length ≤ n → Only H → SqL K H a (ns.map V.int) → sp [.ref a] H (fun v _ => v = .bl true) fun _ _ _ => False) ∧
        ∀ base : Heap, K.In base → base.Ns mainGlobals mg → FnG l.prog w K mg base k fa sp) :
    PySem.W.WalkO q loose XP YP l.row.toRowW d [] (fun f vs => PySem.call f vs) := by
  refine Att.attach_call hn hdf fun w s₀ s₁ mg mb fa o pm cd doc a vs ns G Y ho hd hcd hmg hobj hints hlen hg => ?_
  obtain ⟨K, sp, KX, hsp, hF⟩ := F w mg fa _ Y G.T.g hmg
  exact law_callG KX G.T.g G.T.b G.T.builtins G.T.nolimit hg hobj hints (Nat.le_trans hlen hn2) hr hF (fun H hO hS => hsp H a ns hlen hO hS)
end T

namespace T
open PySem L2
section
variable {δ : DSt} {Q : D → DSt → Prop} {k : D → Prop}
theorem e_f1 {g : D → (D → Prop) → Prop} {t : TDE} : dF1 g t δ Q = t δ fun d δ1 => g d fun z => Q z δ1 := propext Iff.rfl
theorem e_fstr {ps : List Fp} : dFstr ps δ Q = dFs ps Str.empty δ fun out δ1 => Q (.str out) δ1 := propext Iff.rfl
theorem e_fs0 {acc : Str} {R : Str → DSt → Prop} : dFs [] acc δ R = R acc δ := propext Iff.rfl
theorem e_fs1 {acc s : Str} {r : List Fp} {R : Str → DSt → Prop} : dFs (.lit s :: r) acc δ R = ((acc ++ s).length ≤ sizeLine ∧ dFs r (acc ++ s) δ R) := propext Iff.rfl
theorem e_fs2 {acc : Str} {t : TDE} {r : List Fp} {R : Str → DSt → Prop} : dFs (.val t :: r) acc δ R = t δ fun d δ1 => strD d fun z => onStr z fun y => (y.length ≤ sizeLine ∧ (acc ++ y).length ≤ sizeLine) ∧ dFs r (acc ++ y) δ1 R := propext Iff.rfl
theorem x_repr {d : D} : reprD d k = (ShOk d ∧ k (.str (py d).shown)) := propext Iff.rfl
theorem x_strI {i : Int} : strD (.int i) k = (i.natAbs.log2 < 1920 ∧ k (.str (toString i))) := propext Iff.rfl
theorem x_strS {s : Str} : strD (.str s) k = k (.str s) := propext Iff.rfl
theorem x_onStr {s : Str} {R : Str → Prop} : onStr (.str s) R = R s := propext Iff.rfl
end
/-! ### what repr shows -/
theorem sOk_from : ∀ (ts : List Str) (k : Nat) (acc : Str), sOk acc → (∀ t ∈ ts, sOk t) → sOk (textFrom k acc ts)
  | [], _, _, h, _ => h
  | t :: ts, k, acc, h, ht => by
    refine sOk_from ts (k + 1) _ (sOk_append (sOk_append h ?_) (ht t List.mem_cons_self)) fun x hx => ht x (List.mem_cons_of_mem _ hx)
    exact sOk_ofString _
theorem sOk_list {ts : List Str} (h : ∀ t ∈ ts, sOk t) : sOk (listText ts) := sOk_append (sOk_from ts 0 _ (sOk_ofString "[") h) (sOk_ofString "]")
theorem shown_all : ∀ l : List PyData, PyData.shownAll l = l.map PyData.shown
  | [] => rfl
  | x :: l => by rw [PyData.shownAll, shown_all l]; rfl
theorem showable_all : ∀ {l : List PyData}, (∀ x ∈ l, x.showable = true) → PyData.showableAll l = true
  | [], _ => rfl
  | x :: l, h => by rw [PyData.showableAll, h x List.mem_cons_self, showable_all fun y hy => h y (List.mem_cons_of_mem _ hy)]; rfl
theorem hasDict_all : ∀ {l : List PyData}, (∀ x ∈ l, x.hasDict = false) → PyData.hasDictAll l = false
  | [], _ => rfl
  | x :: l, h => by rw [PyData.hasDictAll, h x List.mem_cons_self, hasDict_all fun y hy => h y (List.mem_cons_of_mem _ hy)]; rfl
theorem sumN_le {l : List Nat} {m : Nat} (h : ∀ x ∈ l, x ≤ m) : l.sum ≤ l.length * m := by
  induction l with
  | nil => simp
  | cons a r ih =>
    have := h a List.mem_cons_self
    have := ih fun x hx => h x (List.mem_cons_of_mem _ hx)
    rw [List.sum_cons, List.length_cons, Nat.succ_mul]
    omega
theorem depth_all : ∀ {l : List PyData} {n : Nat}, (∀ x ∈ l, x.depth ≤ n) → PyData.depthAll l ≤ n
  | [], _, _ => Nat.zero_le _
  | x :: l, n, h => by
    have h1 := h x List.mem_cons_self
    have h2 := depth_all (l := l) fun y hy => h y (List.mem_cons_of_mem _ hy)
    rw [PyData.depthAll]
    exact Nat.max_le.mpr ⟨h1, h2⟩
end T

namespace T
open PySem L2
/-! ### a def that changes a thing of its caller's -/
section
variable {X : Cx} {e : Ent} {pos : Pos}
def hless (H : Hp) (l : Addr) : Hp := fun a => if a = l then none else H a
theorem less_at {H : Hp} {l : Addr} : hless H l l = none := if_pos rfl
theorem less_ne {H : Hp} {l a : Addr} (h : a ≠ l) : hless H l a = H a := if_neg h
theorem less_upd {H : Hp} {l : Addr} {o : HO} (h : H l = some o) : H = L2.upd (hless H l) l o := by
  funext a
  by_cases ha : a = l
  · subst ha; rw [upd_same, h]
  · rw [upd_ne ha, less_ne ha]
theorem GOk.less {G : Gh} {H : Hp} {l : Addr} (k : GOk G H) (nI : G.I l = none) (nB : ¬ foot G l) : GOk G (hless H l) where
  sub := fun a o h => by
    have : a ≠ l := fun z => by subst z; rw [nI] at h; cases h
    rw [less_ne this]; exact k.sub a o h
  box := fun a g h => by
    obtain ⟨b, h1, h2⟩ := k.box a g h
    have ha : a ≠ l := fun z => nB (z ▸ .inl ⟨g, h⟩)
    have hg : g ≠ l := fun z => nB (z ▸ .inr ⟨a, h⟩)
    exact ⟨b.keep (less_ne ha) (less_ne hg), h1, h2⟩
  sep := k.sep
theorem SS.afterB {K : PySem.W.Frag} {T : Tm} {G G' : Gh} {H H' : Hp} {σ : St} {δ : DSt} {i : Nat} {l : Addr} {d0 d1 : D} (S : SS K e T G H σ δ) (hs : δ[i]? = some (.ow d0)) (hx : σ[i]? = some (some (.ref l))) (hm : Mine K e G H l d0)
    (ok : GOk G' H') (c : Step ⟨G, hless H l⟩ G (hless H l) G' H') (m : Mine K ⟨G, hless H l⟩ G' H' l d1) : SS K e T G' H' σ (δ.set i (.ow d1)) ∧ Step e G H G' H' := by
  have hne : ∀ a, (e.H a).isSome = true → a ≠ l := fun a h z => by subst z; rw [hm.new] at h; cases h
  have hsm : ∀ a, (e.H a).isSome = true → (hless H l a).isSome = true := fun a h => by rw [less_ne (hne a h)]; exact S.stp.dom a h h
  have st : Step e G H G' H' := ⟨c.le, fun a h n => (c.old a (hsm a h) (S.stp.noB a h n)).trans (less_ne (hne a h)), fun a h n => c.noI a (hsm a h) n, fun a h n => c.noB a (hsm a h) n, fun a h q => c.dom a (hsm a h) (hsm a h)⟩
  have hi := lt_of_get hs
  have hs' : (δ ++ T.d)[i]? = some (.ow d0) := by rw [get_l hi]; exact hs
  have hx' : (σ ++ T.v)[i]? = some (some (.ref l)) := by rw [get_l (by rw [← S.ln]; exact hi)]; exact hx
  have es : (δ.set i (.ow d1)) ++ T.d = (δ ++ T.d).set i (.ow d1) := (set_app hi).symm
  have ow : ∀ (j : Nat) (dj : D), ((δ ++ T.d).set i (.ow d1))[j]? = some (.ow dj) → ∃ dj', (δ ++ T.d)[j]? = some (.ow dj') := fun j dj h => by
    rcases ow_set h with ⟨rfl, _⟩ | ⟨_, h⟩
    · exact ⟨_, hs'⟩
    · exact ⟨_, h⟩
  refine ⟨⟨by rw [List.length_set]; exact S.ln, ok, S.stp.trans st, by rw [es, List.length_set]; exact S.s.len, fun j s h => ?_, fun j k dj dk a hjk h1 h2 h3 h4 => ?_⟩, st⟩
  · rw [es] at h
    by_cases hj : j = i
    · subst hj
      rw [List.getElem?_set_self (lt_of_get hs')] at h
      cases h
      exact ⟨_, hx', l, rfl, m.own, m.nI, m.nB, hm.new⟩
    · rw [List.getElem?_set_ne (Ne.symm hj)] at h
      obtain ⟨x, hx2, q⟩ := S.s.sl j s h
      refine ⟨x, hx2, ?_⟩
      cases s with
      | no => trivial
      | im d => obtain ⟨v, e1, r⟩ := q; exact ⟨v, e1, r.mono c.le⟩
      | ow d =>
        obtain ⟨l', e1, m'⟩ := q
        have hl' : l' ≠ l := fun z => by
          subst z
          exact S.s.sep i j d0 d l' (Ne.symm hj) hs' h hx' (by rw [hx2, e1])
        obtain ⟨o, ho⟩ := m'.obj
        have hl : (hless H l l').isSome = true := by rw [less_ne hl', ho]; rfl
        exact ⟨l', e1, m'.own.mono c.le ((c.old l' hl m'.nB).trans (less_ne hl')), c.noI l' hl m'.nI, c.noB l' hl m'.nB, m'.new⟩
  · rw [es] at h1 h2
    obtain ⟨d1', z1⟩ := ow j dj h1
    obtain ⟨d2', z2⟩ := ow k dk h2
    exact S.s.sep j k d1' d2' a hjk z1 z2 h3 h4
end
end T

namespace T
open PySem L2
/-! ### a def that changes its first argument, a dict of its caller's -/
section
variable {X : Cx} {e : Ent} {pos : Pos}
/-- promises: the dict as it is, the other arguments; what it is then, what is handed back -/
abbrev SpB := List (Key × D) → List D → (List (Key × D) → D → Prop) → Prop
def toSpB (K : PySem.W.Frag) (sd : SpB) : Sp := fun vs H Q _ => ∃ (G : Gh) (l : Addr) (k0 : List (Key × D)) (vs' : List V) (ds : List D) (Qd : List (Key × D) → D → Prop), vs = .ref l :: vs' ∧ GOk G H ∧ OwnAt K G H l (.dct k0) ∧ G.I l = none ∧ ¬ foot G l ∧ RepL K G vs' ds ∧ sd k0 ds Qd ∧
  ∀ k1 d v G' H', GOk G' H' → Step ⟨G, hless H l⟩ G (hless H l) G' H' → Mine K ⟨G, hless H l⟩ G' H' l (.dct k1) → Rep K G' v d → Qd k1 d → Q v H'
def startB (n : Nat) (l : Addr) (k0 : List (Key × D)) (ds : List D) : DSt := (startD n (.non :: ds)).set 0 (.ow (.dself l k0))
theorem start_ssB {K : PySem.W.Frag} {G : Gh} {H : Hp} {l : Addr} {d0 : D} {vs : List V} {ds : List D} {N : List Str} (ok : GOk G H) (own : OwnAt K G H l d0) (nI : G.I l = none) (nB : ¬ foot G l) (r : RepL K G vs ds) :
    SS K ⟨G, hless H l⟩ .nil G H (L2.start N (.ref l :: vs)) ((startD N.length (.non :: ds)).set 0 (.ow d0)) := by
  obtain ⟨o, ho, _⟩ := own.obj
  have eH := less_upd ho
  have S0 := start_ss (K := K) (N := N) (ok.less nI nB) (.cons (.ref l) r : RepL K G (.ref l :: vs) (.ref l :: ds))
  obtain ⟨S1, _, _, _, new, ap⟩ := S0.new (p := l) (o := o) less_at
  have S2 := S1.asgO (i := 0) (l := l) (d := d0) ⟨by rw [← eH]; exact own, nI, nB, new⟩ ap
  have e1 : (L2.start N (.ref l :: vs)).set 0 (some (.ref l)) = L2.start N (.ref l :: vs) := rfl
  rw [e1, ← eH] at S2
  exact S2
def endsB (Q : List (Key × D) → D → Prop) (l : Addr) : DEnds := { nx := fun δ => ∃ k1, δ[0]? = some (.ow (.dself l k1)) ∧ Q k1 .non, rt := fun d δ => ∃ k1, δ[0]? = some (.ow (.dself l k1)) ∧ Q k1 d }
/-- THE RULE for such a def -/
theorem fn_b {P : Program} {w : World} {K : PySem.W.Frag} {mg : Str → Option Value} {base : Heap} {x qual : Str} {params : Arguments} {body : List Stmt} {scope : Scope} {dvs : List V} {kws : List (Str × V)} {f : Addr} {fd : FuncData} {N ps : List Str} {k : Nat} {sd : SpB} {t : TDS}
    (F : FunD K x qual params body scope dvs kws f fd) (S : FnScope N ps scope) (len : ∀ k0 ds Q, sd k0 ds Q → ds.length + 1 = ps.length)
    (hb : ∀ (cdv : Value) (A : Around) (outer : List Env) (s : Shared) (H : Hp) (E : XK) (e : Ent), Room k (A.deeper (PyProof.Rows.envOfC qual scope s.heap.objs.size f cdv)) → DSs (cxF P w K mg base N qual scope f cdv A outer s H E) e body t)
    (hp : ∀ l k0 ds Q, sd k0 ds Q → t (endsB Q l) (startB N.length l k0 ds)) : FnOk P w K mg base CX0 (k + 1) f fd ps (toSpB K sd) := by
  refine F.ok S (fun vs H Q E h => ?_) (fun cdv A outer s H vs Q E hr h => ?_)
  · obtain ⟨G, l, k0, vs', ds, Qd, rfl, ok, own, nI, nB, r, q, _⟩ := h
    rw [List.length_cons, r.length]
    exact len k0 ds Qd q
  · obtain ⟨G, l, k0, vs', ds, Qd, rfl, ok, own, nI, nB, r, q, kk⟩ := h
    have own2 : OwnAt K G H l (.dself l k0) := ⟨rfl, own⟩
    have key : ∀ {G' : Gh} {H' : Hp} {σ' : St} {δ' : DSt} {k1 : List (Key × D)}, SS K ⟨G, hless H l⟩ .nil G' H' σ' δ' → δ'[0]? = some (.ow (.dself l k1)) → Mine K ⟨G, hless H l⟩ G' H' l (.dct k1) := fun {G' H' σ' δ' k1} S' h => by
      obtain ⟨o, h1, l2, e2, m⟩ := S'.s.sl 0 _ (by rw [get_l (lt_of_get h)]; exact h)
      have e3 : l2 = l := m.own.1
      subst e3
      exact ⟨m.own.2, m.nI, m.nB, m.new⟩
    refine ⟨_, PSs.nox (hb cdv A outer s H E ⟨G, hless H l⟩ hr), .nil, G, startB N.length l k0 ds, _, start_ssB ok own2 nI nB r, hp l k0 ds Qd q, fun σ' δ' G' H' le S' q' => ?_, fun v d σ' δ' G' H' S' rep q' => ?_, fun _ _ _ _ _ _ q' => q'.elim, fun _ _ _ _ _ _ q' => q'.elim⟩
    · obtain ⟨k1, h1, q1⟩ := q'
      exact kk k1 .non .non G' H' S'.ok S'.stp (key S' h1) .non q1
    · obtain ⟨k1, h1, q1⟩ := q'
      exact kk k1 d v G' H' S'.ok S'.stp (key S' h1) rep q1
/-- such a def of the module -/
structure CalB2 (P : Program) (w : World) (K : PySem.W.Frag) (mg : Str → Option Value) (base : Heap) (k : Nat) (x : Str) (sd : SpB) : Prop where
  ex : ∃ f fd ps, FnOk P w K mg base CX0 k f fd ps (toSpB K sd) ∧ mg x = some (.ref f) ∧ PySem.W.keepIn K (.ref f) = true ∧ Binds K fd ps []
/-- f(v, e, ..), the dict of the slot i lent -/
def dCallB (i : Nat) (sd : SpB) (t : TDA) : TDE := fun δ Q => (match δ[i]? with | some (.ow (.dct _)) => True | _ => False) ∧ t δ fun ds δ1 => match δ1[i]? with
  | some (.ow (.dct k0)) => sd k0 ds fun k1 d => Q d (δ1.set i (.ow (.dct k1)))
  | _ => False
theorem de_callB {k j i : Nat} {x : Str} {sd : SpB} {o a : Expr} {es : List Expr} {t : TDA} {p : Pos} (c : CalB2 X.prog X.w X.K X.mg X.base k x sd) (hr : Room j X.A) (hk : k ≤ j) (hg : Gl X x) (ho : PE X o (tVar i)) (ha : DA X e (a :: es) t)
    (hd : (x == ("__debug__" : Str)) = false := by decide) (he : starEach (o :: a :: es) X.env = (false, eval o X.env) :: starEach (a :: es) X.env := by rfl) (hpl : (backTo pos (starEach (a :: es) X.env)).any (·.1) = false := by rfl) : DE X e (.Call (.Name x p) (o :: a :: es) [] pos) (dCallB i sd t) := by
  obtain ⟨f, fd, ps, F, hm, kp, hb⟩ := c.ex
  refine pe_imp (pe_call F (hr.mono hk) hg hm kp hb .nil pass0 (pa_cons ho ha he) hd he hpl) fun σ H Q ⟨T, G, δ, Qd, S, ⟨h0, q⟩, k⟩ => ?_
  have h0' : ∃ k0, δ[i]? = some (.ow (.dct k0)) := by
    revert h0
    split
    · rename_i z; exact fun _ => ⟨_, z⟩
    · exact fun z => z.elim
  obtain ⟨k0, h0'⟩ := h0'
  obtain ⟨x0, hx, l, rfl, m⟩ := S.sl i _ h0'
  refine ⟨_, hx, T, G, δ, _, S, q, fun vs ds H1 G1 δ1 S1 st1 r len q1 => ?_⟩
  show toSpB X.K sd ((.ref l :: vs) ++ []) H1 Q E0
  rw [List.append_nil]
  have h1' : ∃ k1, δ1[i]? = some (.ow (.dct k1)) ∧ sd k1 ds fun k2 d => Qd d (δ1.set i (.ow (.dct k2))) := by
    revert q1
    split
    · rename_i z; exact fun q1 => ⟨_, z, q1⟩
    · exact fun z => z.elim
  obtain ⟨k1, h1, q1⟩ := h1'
  obtain ⟨x', hx', l', e1, m'⟩ := S1.sl i _ h1
  rw [hx] at hx'
  cases hx'
  cases e1
  refine ⟨G1, l, k1, vs, ds, _, rfl, S1.ok, m'.own, m'.nI, m'.nB, r, q1, fun k2 d v G' H' ok c m2 rep qd => ?_⟩
  obtain ⟨S2, st2⟩ := S1.afterB h1 hx m' ok c m2
  exact k v d H' G' _ S2 (st1.trans st2) rep qd
end
end T

namespace T
open PySem L2
section
variable {X : Cx} {e : Ent} {pos : Pos}
def onInt (d : D) (Q : Int → Prop) : Prop := match d with | .int t => Q t | _ => False
/-! ### len(x) by the class's own def -/
/-! ### x in y by y's own def -/
def ownIn (C : Str) (sd : SpD) (neg : Bool) (a b : D) (Q : D → Prop) : Prop := match insOf b with
  | some (C', fs) => C' = C ∧ sd [.ins C fs, a] fun z => onBl z fun t => Q (.bl (if neg = true then !t else t))
  | none => False
theorem op_inOwn {op : CmpOp} {neg : Bool} (hop : (op = .In ∧ neg = false) ∨ (op = .NotIn ∧ neg = true)) {n : Nat} {C g : Addr} {sp : Sp} {E : XK} (hs : PySem.W.findIn X.K (.ref C) "__contains__" = some (some (.ref g))) (hf : PySem.W.isFn X.K (.ref g) = true) (F : FnR X.prog X.w X.K X.mg X.base CX0 n g sp)
    (hr : Room n X.A) (hx : Passes CX0 X E) : OpR X (compareOp op) (fun x y H Q => ∃ a dx fs, y = .ref a ∧ H a = some (.ins C dx fs) ∧ sp [y, x] H (fun z H' => ∃ t, z = .bl t ∧ Q (.bl (if neg = true then !t else t)) H') E) := by
  rintro pins s σ H x y v u Q I rx ry ⟨a, dx, fs, rfl, ha, q⟩
  cases (show u = Value.ref a from ry)
  obtain ⟨mA, O, _⟩ := ins_get I.hok ha
  obtain ⟨od, J, _⟩ := O.look
  obtain ⟨m, hF⟩ := I.fr
  have run := wpAny_call (run_fnR (us := [.ref a, v]) (vs := [.ref a, x]) F hr hx I (.cons rfl (.cons rx .nil)) q)
  rcases hop with ⟨rfl, rfl⟩ | ⟨rfl, rfl⟩
  · refine PySem.W.in_K hF I.ok.mod.kin J hs hf (wpAny_mono run (fun w s' z => ?_) fun _ _ x => x)
    obtain ⟨z', H', I', rz, t, rfl, qz⟩ := z
    cases (show w = Value.bool t from rz)
    exact wpAny_pure ⟨.bl t, H', I', rfl, qz⟩
  · refine PySem.W.notIn_K hF I.ok.mod.kin J hs hf (wpAny_mono run (fun w s' z => ?_) fun _ _ x => x)
    obtain ⟨z', H', I', rz, t, rfl, qz⟩ := z
    cases (show w = Value.bool t from rz)
    exact wpAny_pure ⟨.bl (!t), H', I', rfl, qz⟩
theorem opf_inOwn {op : CmpOp} {neg : Bool} (hop : (op = .In ∧ neg = false) ∨ (op = .NotIn ∧ neg = true)) {k j : Nat} {C : Str} {sd : SpD} (c : CalU X.prog X.w X.K X.mg X.base k C "__contains__" sd) (hr : Room j X.A) (hk : k ≤ j) : OpF X e (WOp X (compareOp op)) (ownIn C sd neg) := by
  intro T G H σ δ x y a b Qd Q S ra rb q k
  unfold ownIn at q
  obtain ⟨gf, F, h1, h2⟩ := c.ex
  cases hj : insOf b with
  | none => rw [hj] at q; exact q.elim
  | some p2 =>
    rw [hj] at q
    obtain ⟨C2, f2⟩ := p2
    obtain ⟨rfl, q⟩ := q
    obtain ⟨pb, dy, fb, rfl, hb, _⟩ := insOf_ok S.ok (.inl rb) hj
    refine wop_of (op_inOwn hop h1 h2 F (hr.mono hk) pass0) ⟨pb, dy, fb, rfl, hb, ?_⟩
    exact ⟨G, _, _, S.ok, .cons (rb.toIns hj) (.cons ra .nil), q, fun d v G' H' ok cc rep qd => by
      obtain ⟨t, rfl, qd⟩ := onBl_ok qd
      obtain ⟨S2, st2⟩ := S.after ok cc
      exact ⟨t, rep.blI, k _ _ H' G' S2 st2 (.bl _) qd⟩⟩
/-! ### dict(l) of a list of pairs -/
end
section
open PySem.Spec PyProof.Rows HT
variable {prog : Program} {w : World} {A : Around} {E : Value → Shared → Prop} {s : Shared}
end
section
open PySem.Spec PyProof.Rows
variable {X : Cx} {e : Ent} {pos : Pos}
def stepD (d : D) (i : Option Int) (Q : D → Prop) : Prop := match d with
  | .tup [a, b] => (i = some 1 ∧ Q (.tup [a, b])) ∨ (i = some (-1) ∧ Q (.tup [b, a]))
  | _ => False
def dStep (t : TDE) (ts : TDO) : TDE := fun δ Q => t δ fun d δ1 => ts δ1 fun i δ2 => stepD d i fun z => Q z δ2
end
end T

namespace T
open PySem L2
section
variable {X : Cx} {e : Ent} {pos : Pos}
/-! ### == of dicts of data -/
/-! ### l[i] = v of a list that is ours -/
def dgItem (i : Nat) (tk : TDE) : TDG := fun d δ Q => (match δ[i]? with | some (.ow (.lst _)) => True | _ => False) ∧ tk δ fun k δ1 => match δ1[i]?, k with
  | some (.ow (.lst l)), .int j => (0 ≤ j ∧ j < l.length) ∧ Q (δ1.set i (.ow (.lst (l.set j.toNat d))))
  | _, _ => False
end
end T

namespace T
open PySem L2
abbrev kS (s : Str) : Key := Sum.inr s
def hO : Sl → Prop | .ow _ => True | _ => False
def oA (s : Sl) (k : D → Prop) : Prop := match s with | .ow a => k a | _ => False
def hD : Sl → Prop | .ow (.dct _) => True | _ => False
def oD (s : Sl) (k : List (Key × D) → Prop) : Prop := match s with | .ow (.dct a) => k a | _ => False
section
variable {δ : DSt} {i : Nat} {Q : D → DSt → Prop} {k : D → Prop} {d : D} {F : DEnds}
theorem h3 : hO (.ow d) = True := propext Iff.rfl
theorem h4 {l : List (Key × D)} : hD (.ow (.dct l)) = True := propext Iff.rfl
theorem oa0 : oA (nth (Sl.ow d :: δ) 0) k = k d := propext Iff.rfl
theorem od0 {l : List (Key × D)} {k : List (Key × D) → Prop} : oD (nth (Sl.ow (.dct l) :: δ) 0) k = k l := propext Iff.rfl
theorem oa1 {s0 : Sl} : oA (nth (s0 :: Sl.ow d :: δ) 1) k = k d := propext Iff.rfl
theorem od1 {s0 : Sl} {l : List (Key × D)} {k : List (Key × D) → Prop} : oD (nth (s0 :: Sl.ow (.dct l) :: δ) 1) k = k l := propext Iff.rfl
theorem oa2 {s0 s1 : Sl} : oA (nth (s0 :: s1 :: Sl.ow d :: δ) 2) k = k d := propext Iff.rfl
theorem od2 {s0 s1 : Sl} {l : List (Key × D)} {k : List (Key × D) → Prop} : oD (nth (s0 :: s1 :: Sl.ow (.dct l) :: δ) 2) k = k l := propext Iff.rfl
theorem oa3 {s0 s1 s2 : Sl} : oA (nth (s0 :: s1 :: s2 :: Sl.ow d :: δ) 3) k = k d := propext Iff.rfl
theorem od3 {s0 s1 s2 : Sl} {l : List (Key × D)} {k : List (Key × D) → Prop} : oD (nth (s0 :: s1 :: s2 :: Sl.ow (.dct l) :: δ) 3) k = k l := propext Iff.rfl
theorem oa4 {s0 s1 s2 s3 : Sl} : oA (nth (s0 :: s1 :: s2 :: s3 :: Sl.ow d :: δ) 4) k = k d := propext Iff.rfl
theorem od4 {s0 s1 s2 s3 : Sl} {l : List (Key × D)} {k : List (Key × D) → Prop} : oD (nth (s0 :: s1 :: s2 :: s3 :: Sl.ow (.dct l) :: δ) 4) k = k l := propext Iff.rfl
theorem oa5 {s0 s1 s2 s3 s4 : Sl} : oA (nth (s0 :: s1 :: s2 :: s3 :: s4 :: Sl.ow d :: δ) 5) k = k d := propext Iff.rfl
theorem od5 {s0 s1 s2 s3 s4 : Sl} {l : List (Key × D)} {k : List (Key × D) → Prop} : oD (nth (s0 :: s1 :: s2 :: s3 :: s4 :: Sl.ow (.dct l) :: δ) 5) k = k l := propext Iff.rfl
theorem oa6 {s0 s1 s2 s3 s4 s5 : Sl} : oA (nth (s0 :: s1 :: s2 :: s3 :: s4 :: s5 :: Sl.ow d :: δ) 6) k = k d := propext Iff.rfl
theorem od6 {s0 s1 s2 s3 s4 s5 : Sl} {l : List (Key × D)} {k : List (Key × D) → Prop} : oD (nth (s0 :: s1 :: s2 :: s3 :: s4 :: s5 :: Sl.ow (.dct l) :: δ) 6) k = k l := propext Iff.rfl
theorem oa7 {s0 s1 s2 s3 s4 s5 s6 : Sl} : oA (nth (s0 :: s1 :: s2 :: s3 :: s4 :: s5 :: s6 :: Sl.ow d :: δ) 7) k = k d := propext Iff.rfl
theorem od7 {s0 s1 s2 s3 s4 s5 s6 : Sl} {l : List (Key × D)} {k : List (Key × D) → Prop} : oD (nth (s0 :: s1 :: s2 :: s3 :: s4 :: s5 :: s6 :: Sl.ow (.dct l) :: δ) 7) k = k l := propext Iff.rfl
theorem oa8 {s0 s1 s2 s3 s4 s5 s6 s7 : Sl} : oA (nth (s0 :: s1 :: s2 :: s3 :: s4 :: s5 :: s6 :: s7 :: Sl.ow d :: δ) 8) k = k d := propext Iff.rfl
theorem od8 {s0 s1 s2 s3 s4 s5 s6 s7 : Sl} {l : List (Key × D)} {k : List (Key × D) → Prop} : oD (nth (s0 :: s1 :: s2 :: s3 :: s4 :: s5 :: s6 :: s7 :: Sl.ow (.dct l) :: δ) 8) k = k l := propext Iff.rfl
theorem oa9 {s0 s1 s2 s3 s4 s5 s6 s7 s8 : Sl} : oA (nth (s0 :: s1 :: s2 :: s3 :: s4 :: s5 :: s6 :: s7 :: s8 :: Sl.ow d :: δ) 9) k = k d := propext Iff.rfl
theorem od9 {s0 s1 s2 s3 s4 s5 s6 s7 s8 : Sl} {l : List (Key × D)} {k : List (Key × D) → Prop} : oD (nth (s0 :: s1 :: s2 :: s3 :: s4 :: s5 :: s6 :: s7 :: s8 :: Sl.ow (.dct l) :: δ) 9) k = k l := propext Iff.rfl
theorem oa10 {s0 s1 s2 s3 s4 s5 s6 s7 s8 s9 : Sl} : oA (nth (s0 :: s1 :: s2 :: s3 :: s4 :: s5 :: s6 :: s7 :: s8 :: s9 :: Sl.ow d :: δ) 10) k = k d := propext Iff.rfl
theorem od10 {s0 s1 s2 s3 s4 s5 s6 s7 s8 s9 : Sl} {l : List (Key × D)} {k : List (Key × D) → Prop} : oD (nth (s0 :: s1 :: s2 :: s3 :: s4 :: s5 :: s6 :: s7 :: s8 :: s9 :: Sl.ow (.dct l) :: δ) 10) k = k l := propext Iff.rfl
theorem oa11 {s0 s1 s2 s3 s4 s5 s6 s7 s8 s9 s10 : Sl} : oA (nth (s0 :: s1 :: s2 :: s3 :: s4 :: s5 :: s6 :: s7 :: s8 :: s9 :: s10 :: Sl.ow d :: δ) 11) k = k d := propext Iff.rfl
theorem od11 {s0 s1 s2 s3 s4 s5 s6 s7 s8 s9 s10 : Sl} {l : List (Key × D)} {k : List (Key × D) → Prop} : oD (nth (s0 :: s1 :: s2 :: s3 :: s4 :: s5 :: s6 :: s7 :: s8 :: s9 :: s10 :: Sl.ow (.dct l) :: δ) 11) k = k l := propext Iff.rfl
theorem oa12 {s0 s1 s2 s3 s4 s5 s6 s7 s8 s9 s10 s11 : Sl} : oA (nth (s0 :: s1 :: s2 :: s3 :: s4 :: s5 :: s6 :: s7 :: s8 :: s9 :: s10 :: s11 :: Sl.ow d :: δ) 12) k = k d := propext Iff.rfl
theorem od12 {s0 s1 s2 s3 s4 s5 s6 s7 s8 s9 s10 s11 : Sl} {l : List (Key × D)} {k : List (Key × D) → Prop} : oD (nth (s0 :: s1 :: s2 :: s3 :: s4 :: s5 :: s6 :: s7 :: s8 :: s9 :: s10 :: s11 :: Sl.ow (.dct l) :: δ) 12) k = k l := propext Iff.rfl
theorem g_put {tk : TDE} {Q : DSt → Prop} : dgPut i tk d δ Q = (hO (nth δ i) ∧ tk δ fun k δ1 => oA (nth δ1 i) fun a => mX (putD a k d) fun a' => atS (δ1.set i (.ow a')) Q) := by
  unfold dgPut
  have e1 : (match δ[i]? with | some (.ow _) => True | _ => False) = hO (nth δ i) := by
    rcases nth_eq δ i with h | ⟨h, z⟩
    · rw [h]; cases nth δ i <;> rfl
    · rw [h, z]; rfl
  have e2 : (fun (k : D) (δ1 : DSt) => match δ1[i]? with | some (.ow a) => (match putD a k d with | some a' => Q (δ1.set i (.ow a')) | none => False) | _ => False) = fun k δ1 => oA (nth δ1 i) fun a => mX (putD a k d) fun a' => atS (δ1.set i (.ow a')) Q := by
    funext k δ1
    rcases nth_eq δ1 i with h | ⟨h, z⟩
    · rw [h]; cases nth δ1 i with
      | ow a => show (match putD a k d with | some a' => Q (δ1.set i (.ow a')) | none => False) = mX (putD a k d) _; cases putD a k d <;> rfl
      | _ => rfl
    · rw [h, z]; rfl
  exact congr (congrArg And e1) (congrArg (tk δ) e2)
theorem g_item {tk : TDE} {Q : DSt → Prop} : dgItem i tk d δ Q = (hL (nth δ i) ∧ tk δ fun k δ1 => oL (nth δ1 i) fun l => onInt k fun j => (0 ≤ j ∧ j < l.length) ∧ atS (δ1.set i (.ow (.lst (l.set j.toNat d)))) Q) := by
  unfold dgItem
  have e1 : (match δ[i]? with | some (.ow (.lst _)) => True | _ => False) = hL (nth δ i) := by
    rcases nth_eq δ i with h | ⟨h, z⟩
    · rw [h]; cases nth δ i with
      | ow a => cases a <;> rfl
      | _ => rfl
    · rw [h, z]; rfl
  have e2 : (fun (k : D) (δ1 : DSt) => match δ1[i]?, k with | some (.ow (.lst l)), .int j => (0 ≤ j ∧ j < l.length) ∧ Q (δ1.set i (.ow (.lst (l.set j.toNat d)))) | _, _ => False) = fun k δ1 => oL (nth δ1 i) fun l => onInt k fun j => (0 ≤ j ∧ j < l.length) ∧ atS (δ1.set i (.ow (.lst (l.set j.toNat d)))) Q := by
    funext k δ1
    rcases nth_eq δ1 i with h | ⟨h, z⟩
    · rw [h]; cases nth δ1 i with
      | ow a => cases a <;> cases k <;> rfl
      | _ => cases k <;> rfl
    · rw [h, z]; cases k <;> rfl
  exact congr (congrArg And e1) (congrArg (tk δ) e2)
theorem e_callB {sd : SpB} {t : TDA} : dCallB i sd t δ Q = (hD (nth δ i) ∧ t δ fun ds δ1 => oD (nth δ1 i) fun k0 => sd k0 ds fun k1 d => atS (δ1.set i (.ow (.dct k1))) (Q d)) := by
  unfold dCallB
  have e1 : (match δ[i]? with | some (.ow (.dct _)) => True | _ => False) = hD (nth δ i) := by
    rcases nth_eq δ i with h | ⟨h, z⟩
    · rw [h]; cases nth δ i with
      | ow a => cases a <;> rfl
      | _ => rfl
    · rw [h, z]; rfl
  have e2 : (fun (ds : List D) (δ1 : DSt) => match δ1[i]? with | some (.ow (.dct k0)) => sd k0 ds fun k1 d => Q d (δ1.set i (.ow (.dct k1))) | _ => False) = fun ds δ1 => oD (nth δ1 i) fun k0 => sd k0 ds fun k1 d => atS (δ1.set i (.ow (.dct k1))) (Q d) := by
    funext ds δ1
    rcases nth_eq δ1 i with h | ⟨h, z⟩
    · rw [h]; cases nth δ1 i with
      | ow a => cases a <;> rfl
      | _ => rfl
    · rw [h, z]; rfl
  exact congr (congrArg And e1) (congrArg (t δ) e2)
theorem x_onInt {j : Int} {R : Int → Prop} : onInt (.int j) R = R j := propext Iff.rfl
theorem s_aug {t : TDE} : dAug i t F δ = rS (nth δ i) fun x => onInt x fun a => t δ fun d δ1 => onInt d fun b => atS (δ1.set i (.im (.int (a + b)))) F.nx := by
  unfold dAug
  have e2 : ∀ a : Int, (fun (d : D) (δ1 : DSt) => match d with | .int b => F.nx (δ1.set i (.im (.int (a + b)))) | _ => False) = fun d δ1 => onInt d fun b => atS (δ1.set i (.im (.int (a + b)))) F.nx := by
    intro a; funext d δ1; cases d <;> rfl
  have e1 := rd_eq δ i fun x => onInt x fun a => t δ fun d δ1 => onInt d fun b => atS (δ1.set i (.im (.int (a + b)))) F.nx
  rw [← e1]
  cases rdS δ i with
  | none => rfl
  | some x => cases x with
    | int a => exact congrArg (t δ) (e2 a)
    | _ => rfl
theorem e_disp {trs : List (TDE × TDE)} : dDisp trs δ Q = dPairs trs δ fun ps δ1 => mX (keysOf ps) fun kds => Q (.dct (mergeD [] kds)) δ1 := by
  unfold dDisp
  congr 1
  funext ps δ1
  cases keysOf ps <;> rfl
theorem e_ps0 {R : List (D × D) → DSt → Prop} : dPairs [] δ R = R [] δ := propext Iff.rfl
theorem e_ps1 {t u : TDE} {r : List (TDE × TDE)} {R : List (D × D) → DSt → Prop} : dPairs ((t, u) :: r) δ R = t δ fun k δ1 => u δ1 fun v δ2 => dPairs r δ2 fun ps δ3 => R ((k, v) :: ps) δ3 := propext Iff.rfl
theorem x_ko0 : keysOf [] = some [] := rfl
theorem x_ko1 {s : Str} {v : D} {r : List (D × D)} : keysOf ((.str s, v) :: r) = (keysOf r).map ((kS s, v) :: ·) := rfl
theorem x_ko2 {α β : Type} {f : α → β} {a : α} : Option.map f (some a) = some (f a) := rfl
theorem i_str {t : TDE} {R : List D → DSt → Prop} : iStrD t δ R = t δ fun d δ1 => onStr d fun s => R (signs s) δ1 := by
  unfold iStrD
  refine congrArg (t δ) ?_
  funext d δ1
  cases d <;> rfl
theorem i_range2 {t u : TDE} {R : List D → DSt → Prop} : iRange2 t u δ R = t δ fun d δ1 => u δ1 fun d2 δ2 => onInt d fun i => onInt d2 fun j => (-(2 ^ 62) ≤ i ∧ i < 2 ^ 62 ∧ -(2 ^ 62) ≤ j ∧ j < 2 ^ 62) ∧ R (rngD i (j - i).toNat) δ2 := by
  unfold iRange2
  congr 1
  funext d δ1
  congr 1
  funext d2 δ2
  cases d <;> cases d2 <;> rfl
theorem e_get2 {tk tx : TDE} : dGet2 (.sl i) tk tx δ Q = (rS (nth δ i) (fun a => isDic a = true) ∧ tk δ fun k δ1 => tx δ1 fun z δ2 => rS (nth δ2 i) fun a => getAt a k z fun r => Q r δ2) := by
  unfold dGet2
  refine congr (congrArg And (rd_eq δ i fun a => isDic a = true)) (congrArg (tk δ) ?_)
  funext k δ1
  refine congrArg (tx δ1) ?_
  funext z δ2
  exact rd_eq δ2 i fun a => getAt a k z fun r => Q r δ2
theorem e_step {t : TDE} {ts : TDO} : dStep t ts δ Q = t δ fun d δ1 => ts δ1 fun i δ2 => stepD d i fun z => Q z δ2 := propext Iff.rfl
theorem x_step {a b : D} {j : Option Int} : stepD (.tup [a, b]) j k = ((j = some 1 ∧ k (.tup [a, b])) ∨ (j = some (-1) ∧ k (.tup [b, a]))) := propext Iff.rfl
end
section
variable {k : D → Prop}
/-! dicts with text keys -/
theorem x_ixK {l : List (Key × D)} {s : Str} : ixX (.dct l) (.str s) k = mX (lookD l (kS s)) k := by
  unfold ixX ixA
  show (match some (lookD l (kS s)) with | some (some d) => k d | some none => False | none => ixD (.dct l) (.str s) k) = _
  cases lookD l (kS s) <;> rfl
theorem x_ixZ {a : Addr} {l : List (Key × D)} {s : Str} : ixX (.dself a l) (.str s) k = mX (lookD l (kS s)) k := by
  unfold ixX ixA
  show (match some (lookD l (kS s)) with | some (some d) => k d | some none => False | none => ixD (.dself a l) (.str s) k) = _
  cases lookD l (kS s) <;> rfl
theorem x_inK {neg : Bool} {l : List (Key × D)} {s : Str} : inX neg (.str s) (.dct l) k = k (.bl (if neg = true then !(lookD l (kS s)).isSome else (lookD l (kS s)).isSome)) := by
  unfold inX inA
  rfl
theorem x_putK {l : List (Key × D)} {s : Str} {v : D} (h : l.length < 100000) : putD (.dct l) (.str s) v = some (.dct (putKD l (kS s) v)) := by
  show (if l.length < 100000 then some (D.dct (putKD l (kS s) v)) else none) = _
  rw [if_pos h]
theorem x_putZ {a : Addr} {l : List (Key × D)} {s : Str} {v : D} (h : l.length < 100000) : putD (.dself a l) (.str s) v = some (.dself a (putKD l (kS s) v)) := by
  show (if l.length < 100000 then some (D.dself a (putKD l (kS s) v)) else none) = _
  rw [if_pos h]
theorem x_listK {l : List (Key × D)} : listA (.dct l) k = k (.lst (l.map fun p => unK p.1)) := propext Iff.rfl
theorem x_listZ {a : Addr} {l : List (Key × D)} : listA (.dself a l) k = k (.lst (l.map fun p => unK p.1)) := propext Iff.rfl
theorem x_listT {l : List D} : listA (.tup l) k = k (.lst l) := propext Iff.rfl
/-! isinstance -/
theorem x_isS {s : Str} : isiX (.str s) (.ty "str") k = k (.bl true) := by unfold isiX; rfl
theorem x_isT {l : List D} : isiX (.tup l) (.ty "tuple") k = k (.bl true) := by unfold isiX; rfl
theorem isi_no {d : D} {n t : String} (h : tyN d = some t) (e : kitB t n = some false) : isiX d (.ty n) k = k (.bl false) := by
  rw [eq_iff_iff]
  unfold isiX
  have : isiD d (.ty n) k = (match tyN d with | some t => (match kitB t n with | some b => k (.bl b) | none => False) | none => False) := rfl
  rw [this, h]
  show (match kitB t n with | some b => k (.bl b) | none => False) ↔ _
  rw [e]
/-! a sign in a text -/
theorem x_inS {c : Nat} {neg : Bool} {b : Str} : inX neg (.str ⟨#[c]⟩) (.str b) k = k (.bl (if neg = true then !decide (c ∈ b.cps.toList) else decide (c ∈ b.cps.toList))) := by
  rw [eq_iff_iff]
  have e : inX neg (.str ⟨#[c]⟩) (.str b) k = ∃ c', (⟨#[c]⟩ : Str) = ⟨#[c']⟩ ∧ k (.bl (if neg then !decide (c' ∈ b.cps.toList) else decide (c' ∈ b.cps.toList))) := by unfold inX; rfl
  rw [e]
  constructor
  · rintro ⟨c', h, q⟩
    have : c = c' := by injection h with h; simpa using h
    subst this; exact q
  · exact fun q => ⟨c, rfl, q⟩
end
/-! ### what stands in a dict made over a list -/
theorem look_map {v : Str → D} : ∀ {l : List Str} {s : Str}, lookD (l.map fun p => (kS p, v p)) (kS s) = if s ∈ l then some (v s) else none
  | [], s => rfl
  | a :: r, s => by
    have ih := look_map (v := v) (l := r) (s := s)
    unfold lookD at ih ⊢
    rw [List.map_cons, List.find?_cons]
    by_cases h : a = s
    · subst h; simp
    · have : decide ((kS a : Key) = .inr s) = false := decide_eq_false fun z => h (by injection z)
      rw [this]
      rw [ih]
      by_cases hs : s ∈ r
      · rw [if_pos hs, if_pos (List.mem_cons_of_mem _ hs)]
      · rw [if_neg hs, if_neg (fun z => (List.mem_cons.mp z).elim (fun y => h y.symm) hs)]
theorem put_map {v : Str → D} {l : List Str} {s : Str} {d : D} (h : s ∈ l) : putKD (l.map fun p => (kS p, v p)) (kS s) d = l.map fun p => (kS p, if p = s then d else v p) := by
  unfold putKD
  have : ((l.map fun p => ((kS p : Key), v p)).any fun p => decide (p.1 = kS s)) = true := by
    rw [List.any_eq_true]
    exact ⟨(kS s, v s), List.mem_map.mpr ⟨s, h, rfl⟩, decide_eq_true rfl⟩
  rw [if_pos this, List.map_map]
  refine List.map_congr_left fun p _ => ?_
  show (if (kS p : Key) = .inr s then ((kS p : Key), d) else (kS p, v p)) = _
  by_cases hp : p = s
  · subst hp; rw [if_pos rfl, if_pos rfl]
  · rw [if_neg (fun z => hp (by injection z)), if_neg hp]
theorem put_new {v : Str → D} {l : List Str} {s : Str} {d : D} (h : s ∉ l) : putKD (l.map fun p => (kS p, v p)) (kS s) d = (l.map fun p => (kS p, v p)) ++ [(kS s, d)] := by
  unfold putKD
  have : ((l.map fun p => ((kS p : Key), v p)).any fun p => decide (p.1 = kS s)) = false := by
    rw [List.any_eq_false]
    intro x hx
    obtain ⟨p, hp, rfl⟩ := List.mem_map.mp hx
    rw [decide_eq_true_iff]
    intro z
    injection z with z
    exact h (z ▸ hp)
  rw [this, if_neg Bool.false_ne_true]
/-- item by item -/
inductive RelL {α : Type} (R : α → D → Prop) : List α → List D → Prop
  | nil : RelL R [] []
  | cons {x : α} {y : D} {xs : List α} {ys : List D} : R x y → RelL R xs ys → RelL R (x :: xs) (y :: ys)
theorem RelL.len {α : Type} {R : α → D → Prop} : ∀ {xs : List α} {ys : List D}, RelL R xs ys → ys.length = xs.length
  | _, _, .nil => rfl
  | _, _, .cons _ r => congrArg (· + 1) r.len
/-- a dict comprehension over distinct texts -/
theorem dc_go {g : TDG} {tk tv : TDE} {own : List Nat} {δ : DSt} {ds : List D} {Q : D → DSt → Prop} (xs : List Str) (v : Str → D) (hd : ds = xs.map D.str) (hn : xs.Nodup) (hl : xs.length ≤ 1000)
    (turn : ∀ x ∈ xs, ∀ (K : D → D → DSt → Prop), K (.str x) (v x) (wipeD δ own) → g (.str x) (wipeD (wipeD δ own) own) fun δ2 => tk δ2 fun k δ4 => tv δ4 fun z δ5 => K k z (wipeD δ5 own))
    (q : atS (wipeD (wipeD δ own) own) (Q (.dct (xs.map fun p => (kS p, v p))))) : dcB g dYes tk tv own ds δ Q := by
  subst hd
  refine ⟨fun i acc δ' => δ' = wipeD δ own ∧ acc = (xs.take i).map fun p => (kS p, v p), ⟨rfl, rfl⟩, ?_, ?_⟩
  · rintro i d acc δ' hd ⟨rfl, rfl⟩
    rw [List.getElem?_map] at hd
    cases hx : xs[i]? with
    | none => rw [hx] at hd; cases hd
    | some x =>
      rw [hx] at hd
      cases hd
      have hi := lt_of_get hx
      refine turn x (List.mem_of_getElem? hx) (fun k z δ5 => match keyD k with | some kk => ((xs.take i).map fun p => ((kS p : Key), v p)).length < 100000 ∧ (δ5 = wipeD δ own ∧ putKD ((xs.take i).map fun p => (kS p, v p)) kk z = (xs.take (i + 1)).map fun p => (kS p, v p)) | none => False) ?_
      refine ⟨by rw [List.length_map, List.length_take]; omega, rfl, ?_⟩
      have hx2 : x ∉ xs.take i := fun z => by
        obtain ⟨j, hj, e⟩ := List.mem_iff_getElem.mp z
        rw [List.length_take] at hj
        rw [List.getElem_take] at e
        have e2 : xs[j] = xs[i] := by rw [e]; exact (List.getElem?_eq_some_iff.mp hx).2.symm
        have := (List.getElem_inj hn).mp e2
        omega
      rw [put_new hx2, List.take_succ, hx]
      simp
  · rintro acc δ' ⟨rfl, rfl⟩
    rw [List.length_map, List.take_length]
    exact q
/-- a dict comprehension whose values are not told but by a property -/
theorem dc_nd {g : TDG} {tk tv : TDE} {own : List Nat} {δ : DSt} {ds : List D} {Q : D → DSt → Prop} (xs : List Str) (P : Str → D → Prop) (hd : ds = xs.map D.str) (hn : xs.Nodup) (hl : xs.length ≤ 1000)
    (turn : ∀ x ∈ xs, ∀ (K : D → D → DSt → Prop), (∀ z, P x z → K (.str x) z (wipeD δ own)) → g (.str x) (wipeD (wipeD δ own) own) fun δ2 => tk δ2 fun k δ4 => tv δ4 fun z δ5 => K k z (wipeD δ5 own))
    (q : ∀ v : Str → D, (∀ x ∈ xs, P x (v x)) → atS (wipeD (wipeD δ own) own) (Q (.dct (xs.map fun p => (kS p, v p))))) : dcB g dYes tk tv own ds δ Q := by
  subst hd
  refine ⟨fun i acc δ' => δ' = wipeD δ own ∧ ∃ v : Str → D, (∀ x ∈ xs.take i, P x (v x)) ∧ acc = (xs.take i).map fun p => (kS p, v p), ⟨rfl, fun _ => .non, fun x hx => by simp at hx, rfl⟩, ?_, ?_⟩
  · rintro i d acc δ' hd ⟨rfl, v, hv, rfl⟩
    rw [List.getElem?_map] at hd
    cases hx : xs[i]? with
    | none => rw [hx] at hd; cases hd
    | some x =>
      rw [hx] at hd
      cases hd
      have hi := lt_of_get hx
      have hx2 : x ∉ xs.take i := fun z => by
        obtain ⟨j, hj, e⟩ := List.mem_iff_getElem.mp z
        rw [List.length_take] at hj
        rw [List.getElem_take] at e
        have e2 : xs[j] = xs[i] := by rw [e]; exact (List.getElem?_eq_some_iff.mp hx).2.symm
        have := (List.getElem_inj hn).mp e2
        omega
      refine turn x (List.mem_of_getElem? hx) (fun k z δ5 => match keyD k with | some kk => ((xs.take i).map fun p => ((kS p : Key), v p)).length < 100000 ∧ (δ5 = wipeD δ own ∧ ∃ v' : Str → D, (∀ x ∈ xs.take (i + 1), P x (v' x)) ∧ putKD ((xs.take i).map fun p => (kS p, v p)) kk z = (xs.take (i + 1)).map fun p => (kS p, v' p)) | none => False) fun z hz => ?_
      have et : xs.take (i + 1) = xs.take i ++ [x] := by rw [List.take_succ, hx]; rfl
      refine ⟨by rw [List.length_map, List.length_take]; omega, rfl, fun y => if y = x then z else v y, fun y hy => ?_, ?_⟩
      · rw [et] at hy
        dsimp only
        rcases List.mem_append.mp hy with h | h
        · rw [if_neg (fun e : y = x => hx2 (e ▸ h))]; exact hv y h
        · rw [List.mem_singleton] at h; subst h; rw [if_pos rfl]; exact hz
      · show putKD _ (kS x) z = _
        rw [put_new hx2, et, List.map_append]
        congr 1
        · refine List.map_congr_left fun y hy => ?_
          dsimp only
          rw [if_neg (fun e : y = x => hx2 (e ▸ hy))]
        · simp
  · rintro acc δ' ⟨rfl, v, hv, rfl⟩
    rw [List.length_map, List.take_length] at hv ⊢
    exact q v hv
end T

namespace T
open PySem L2
/-! ### what repr shows, of nested things -/
theorem charNat_lt (c : Char) : c.toNat < 0x110000 := by
  have := c.valid
  show c.val.toNat < 0x110000
  rcases this with h | ⟨_, h⟩
  · exact Nat.lt_trans h (by decide)
  · exact h
theorem reprChar_ok {q c : Nat} (hc : c < 0x110000) : ∀ x ∈ Builtin.Str.reprChar q c, x < 0x110000 := by
  have hex : ∀ (w : Nat), ∀ x ∈ List.replicate (w - ((Nat.toDigits 16 c).map Char.toNat).length) 48 ++ (Nat.toDigits 16 c).map Char.toNat, x < 0x110000 := fun w x hx => by
    rcases List.mem_append.mp hx with h | h
    · rw [(List.mem_replicate.mp h).2]; decide
    · obtain ⟨z, _, rfl⟩ := List.mem_map.mp h
      exact charNat_lt z
  have two : ∀ a b : Nat, a < 0x110000 → b < 0x110000 → ∀ x ∈ [a, b], x < 0x110000 := fun a b ha hb x hx => by
    simp only [List.mem_cons, List.not_mem_nil, or_false] at hx
    rcases hx with rfl | rfl
    · exact ha
    · exact hb
  unfold Builtin.Str.reprChar
  intro x hx
  dsimp only at hx
  split at hx
  · exact two _ _ (by decide) hc x hx
  split at hx
  · exact two _ _ (by decide) (by decide) x hx
  split at hx
  · exact two _ _ (by decide) (by decide) x hx
  split at hx
  · exact two _ _ (by decide) (by decide) x hx
  split at hx
  · simp only [List.mem_cons, List.not_mem_nil, or_false] at hx; rw [hx]; exact hc
  split at hx
  · rcases List.mem_append.mp hx with h | h
    · exact two _ _ (by decide) (by decide) x h
    · exact hex 2 x h
  split at hx
  · rcases List.mem_append.mp hx with h | h
    · exact two _ _ (by decide) (by decide) x h
    · exact hex 4 x h
  · rcases List.mem_append.mp hx with h | h
    · exact two _ _ (by decide) (by decide) x h
    · exact hex 8 x h
theorem reprFold_ok {q : Nat} : ∀ (l : List Nat) (acc : Array Nat), (∀ c ∈ l, c < 0x110000) → (∀ c ∈ acc.toList, c < 0x110000) → ∀ c ∈ (l.foldl (fun out c => out ++ (Builtin.Str.reprChar q c).toArray) acc).toList, c < 0x110000
  | [], acc, _, h => h
  | x :: r, acc, hl, h => by
    rw [List.foldl_cons]
    refine reprFold_ok r _ (fun c hc => hl c (List.mem_cons_of_mem _ hc)) fun c hc => ?_
    rw [Array.toList_append] at hc
    rcases List.mem_append.mp hc with z | z
    · exact h c z
    · exact reprChar_ok (hl x List.mem_cons_self) c z
theorem sOk_repr {s : Str} (h : sOk s) : sOk (reprText s) := by
  have hq : reprQuote s < 0x110000 := by unfold reprQuote; split <;> decide
  intro c hc
  unfold reprText at hc
  rw [Array.toList_push] at hc
  rcases List.mem_append.mp hc with z | z
  · rw [← Array.foldl_toList] at z
    refine reprFold_ok (q := reprQuote s) s.cps.toList #[reprQuote s] h (fun c hc => ?_) c z
    simp only [List.mem_cons, List.not_mem_nil, or_false] at hc
    rw [hc]; exact hq
  · simp only [List.mem_cons, List.not_mem_nil, or_false] at z
    rw [z]; exact hq
structure Sh (n L : Nat) (d : D) : Prop where
  dat : isDat d = true
  shw : (py d).showable = true
  nod : (py d).hasDict = false
  dep : dep d ≤ n
  len : (py d).shown.length ≤ L
  ok : sOk (py d).shown
theorem Sh.to {n L : Nat} {d : D} (h : Sh n L d) (hn : n ≤ 64 := by decide) (hL : L ≤ sizeLine := by decide) : ShOk d := ⟨h.dat, h.shw, h.nod, Nat.le_trans h.dep hn, Nat.le_trans h.len hL, h.ok⟩
theorem Sh.mono {n L n' L' : Nat} {d : D} (h : Sh n L d) (hn : n ≤ n') (hL : L ≤ L') : Sh n' L' d := ⟨h.dat, h.shw, h.nod, Nat.le_trans h.dep hn, Nat.le_trans h.len hL, h.ok⟩
theorem sh_str {s : Str} {n : Nat} (h : sOk s) : Sh n (10 * s.length + 2) (.str s) := ⟨rfl, rfl, rfl, Nat.zero_le _, StrLaws.reprText_len s fun c hc => Nat.lt_trans (h c hc) (by decide), sOk_repr h⟩
theorem sOk_joinC : ∀ {ts : List Str}, (∀ t ∈ ts, sOk t) → sOk (Str.join ", " ts)
  | [], _ => sOk_ofString ""
  | [x], h => h x List.mem_cons_self
  | x :: y :: r, h => by
    show sOk (x ++ ", " ++ Str.join ", " (y :: r))
    exact sOk_append (sOk_append (h x List.mem_cons_self) (sOk_ofString ", ")) (sOk_joinC fun t ht => h t (List.mem_cons_of_mem _ ht))
theorem sOk_tuple {ts : List Str} (h : ∀ t ∈ ts, sOk t) : sOk (tupleText ts) := by
  unfold tupleText
  refine sOk_append (sOk_append (sOk_ofString "(") (sOk_joinC h)) ?_
  split <;> exact sOk_ofString _
theorem sum_mem {l : List D} {L : Nat} (h : ∀ d ∈ l, (py d).shown.length ≤ L) : (((l.map py).map PyData.shown).map (·.length)).sum ≤ l.length * L := by
  have h2 : (((l.map py).map PyData.shown).map (·.length)).sum ≤ (((l.map py).map PyData.shown).map (·.length)).length * L := sumN_le fun x hx => by
    simp only [List.map_map, List.mem_map, Function.comp] at hx
    obtain ⟨d, hd, rfl⟩ := hx
    exact h d hd
  simpa only [List.length_map] using h2
theorem sh_tup {l : List D} {n L : Nat} (h : ∀ d ∈ l, Sh n L d) : Sh (n + 1) (l.length * (L + 2) + 3) (.tup l) := by
  have e1 : py (.tup l) = .tuple (l.map py) := by rw [py, pyL_map]
  refine ⟨?_, ?_, ?_, ?_, ?_, ?_⟩
  · rw [isDat, isDatL_iff]; exact fun d hd => (h d hd).dat
  · rw [e1, PyData.showable]
    refine showable_all fun x hx => ?_
    obtain ⟨d, hd, rfl⟩ := List.mem_map.mp hx
    exact (h d hd).shw
  · rw [e1, PyData.hasDict]
    refine hasDict_all fun x hx => ?_
    obtain ⟨d, hd, rfl⟩ := List.mem_map.mp hx
    exact (h d hd).nod
  · show (py (.tup l)).depth ≤ _
    rw [e1, PyData.depth]
    have := depth_all (l := l.map py) (n := n) fun x hx => by
      obtain ⟨d, hd, rfl⟩ := List.mem_map.mp hx
      exact (h d hd).dep
    omega
  · rw [e1, PyData.shown, shown_all]
    have h1 := tupleText_len_le ((l.map py).map PyData.shown)
    have h2 := sum_mem fun d hd => (h d hd).len
    simp only [List.length_map] at h1 h2
    rw [Nat.mul_add]
    omega
  · rw [e1, PyData.shown, shown_all]
    refine sOk_tuple fun t ht => ?_
    simp only [List.map_map, List.mem_map, Function.comp] at ht
    obtain ⟨d, hd, rfl⟩ := ht
    exact (h d hd).ok
theorem sh_lst {l : List D} {n L : Nat} (h : ∀ d ∈ l, Sh n L d) : Sh (n + 1) (l.length * (L + 2) + 3) (.lst l) := by
  have e1 : py (.lst l) = .list (l.map py) := by rw [py, pyL_map]
  refine ⟨?_, ?_, ?_, ?_, ?_, ?_⟩
  · rw [isDat, isDatL_iff]; exact fun d hd => (h d hd).dat
  · rw [e1, PyData.showable]
    refine showable_all fun x hx => ?_
    obtain ⟨d, hd, rfl⟩ := List.mem_map.mp hx
    exact (h d hd).shw
  · rw [e1, PyData.hasDict]
    refine hasDict_all fun x hx => ?_
    obtain ⟨d, hd, rfl⟩ := List.mem_map.mp hx
    exact (h d hd).nod
  · show (py (.lst l)).depth ≤ _
    rw [e1, PyData.depth]
    have := depth_all (l := l.map py) (n := n) fun x hx => by
      obtain ⟨d, hd, rfl⟩ := List.mem_map.mp hx
      exact (h d hd).dep
    omega
  · rw [e1, PyData.shown, shown_all]
    have h1 := listText_len_le ((l.map py).map PyData.shown)
    have h2 := sum_mem fun d hd => (h d hd).len
    simp only [List.length_map] at h1 h2
    rw [Nat.mul_add]
    omega
  · rw [e1, PyData.shown, shown_all]
    refine sOk_list fun t ht => ?_
    simp only [List.map_map, List.mem_map, Function.comp] at ht
    obtain ⟨d, hd, rfl⟩ := ht
    exact (h d hd).ok
end T

namespace T
open PySem L2
/-! ### sorted(xs): xs a list or tuple of data -/
section
open PySem.W PySem.Calls PyProof.Rows
variable {prog : Program} {w : World} {A : Around} {E : Value → Shared → Prop} {s : Shared}
end

/-! over data -/
section
variable {X : Cx} {e : Ent} {pos : Pos}
end
/-! the order does not matter -/
end T

namespace T
open PySem L2
section
variable {X : Cx} {e : Ent} {pos : Pos}
/-! ### (x, y) == (z, w) of things with an own ==, all equal -/
def PairsT (C : Str) (sd : SpD) : List D → List D → Prop
  | [], [] => True
  | x :: xs, y :: ys => (∃ f g, insOf x = some (C, f) ∧ insOf y = some (C, g) ∧ sd [.ins C f, .ins C g] (fun z => z = .bl true)) ∧ PairsT C sd xs ys
  | _, _ => False
theorem PairsT.get {C : Str} {sd : SpD} : ∀ {xs ys : List D}, PairsT C sd xs ys → xs.length = ys.length ∧ ∀ (i : Nat) x y, xs[i]? = some x → ys[i]? = some y → ∃ f g, insOf x = some (C, f) ∧ insOf y = some (C, g) ∧ sd [.ins C f, .ins C g] (fun z => z = .bl true)
  | [], [], _ => ⟨rfl, fun i x y h _ => by simp at h⟩
  | x :: xs, y :: ys, h => by
    obtain ⟨h1, h2⟩ := h
    obtain ⟨e1, e2⟩ := PairsT.get h2
    refine ⟨by rw [List.length_cons, List.length_cons, e1], fun i a b ha hb => ?_⟩
    cases i with
    | zero =>
      rw [List.getElem?_cons_zero] at ha hb
      cases ha; cases hb
      exact h1
    | succ i => exact e2 i a b (by simpa using ha) (by simpa using hb)
  | [], _ :: _, h => h.elim
  | _ :: _, [], h => h.elim
theorem RepL.getD {K : PySem.W.Frag} {G : Gh} : ∀ {vs : List V} {ds : List D}, RepL K G vs ds → ∀ {i : Nat} {v : V}, vs[i]? = some v → ∃ d, ds[i]? = some d ∧ Rep K G v d
  | _, _, .nil, i, v, h => by simp at h
  | _, _, .cons (v := v0) (d := d0) h r, i, v, hv => by
    cases i with
    | zero => rw [List.getElem?_cons_zero] at hv; cases hv; exact ⟨d0, rfl, h⟩
    | succ i =>
      obtain ⟨d, hd, rd⟩ := RepL.getD r (i := i) (v := v) (by simpa using hv)
      exact ⟨d, by simpa using hd, rd⟩
end
end T

namespace T
open PySem L2
section
variable {X : Cx} {e : Ent} {pos : Pos}
/-! ### text.split(sep) -/
/-! ### [a, *b], (a, *b) -/
/-! ### match text.split(..): case [a, b, c] if ..: .. case _: .. -/
inductive Caps (X : Cx) : List Pattern → List Nat → Prop
  | nil : Caps X [] []
  | cons {x : Str} {i : Nat} {p : Pos} {ps : List Pattern} {is : List Nat} : X.N[i]? = some x → Loc X.env.scope x → (X.fn x = true ∨ X.env.scope.names.lookup x = some .local) → Caps X ps is → Caps X (.MatchAs none (some x) p :: ps) (i :: is)
def setAll : List Nat → List D → DSt → DSt
  | i :: is, d :: ds, δ => setAll is ds (δ.set i (.im d))
  | _, _, δ => δ
def capNs : List Pattern → List Str
  | .MatchAs _ (some x) _ :: r => x :: capNs r
  | _ => []
theorem Caps.len {ps : List Pattern} {is : List Nat} (c : Caps X ps is) : ps.length = is.length := by
  induction c with
  | nil => rfl
  | cons _ _ _ _ ih => rw [List.length_cons, List.length_cons, ih]
theorem Caps.each {M : Model} {A : Around} {E : Value → Shared → Prop} {ps : List Pattern} {is : List Nat} (c : Caps X ps is) : ∀ {us : List Value} {s : Shared} {Q : Option (List (Str × Value)) → Shared → Prop}, us.length = is.length → Q (some ((capNs ps).zip us)) s → wpAny M A (matchEach ps X.env us) Q E s := by
  induction c with
  | nil =>
    intro us s Q hl h
    exact wpAny_matchEach_nil h
  | cons _ _ _ _ ih =>
    intro us s Q hl h
    cases us with
    | nil => simp at hl
    | cons u us =>
      refine wpAny_matchEach_cons (wpAny_matchPattern_Capture ?_) rfl
      exact ih (by simpa using hl) h
theorem Caps.bind (hN : X.N.Nodup) {M : Model} {A : Around} {E : Value → Shared → Prop} {T : Tm} {pins : List (Addr × Obj)} {H : Hp} {G : Gh} {ps : List Pattern} {is : List Nat} (c : Caps X ps is) : ∀ {us : List Value} {vs : List V} {ds : List D} {σ : St} {δ : DSt} {s : Shared} {Q : Unit → Shared → Prop}, us.length = is.length → Vals vs us → RepL X.K G vs ds → Inv X pins σ H s → SS X.K e T G H σ δ →
    (∀ s' σ', Inv X pins σ' H s' → SS X.K e T G H σ' (setAll is ds δ) → Q () s') →
    wpAny M A (assignInOrder (((capNs ps).zip us).map fun x => match x with | (n, _) => bindName X.env n) (((capNs ps).zip us).map fun x => x.2)) Q E s := by
  induction c with
  | nil =>
    intro us vs ds σ δ s Q hl rv rl I S h
    exact wpAny_assignInOrder_none (h s σ I (by cases ds <;> exact S))
  | cons hi hx hf _ ih =>
    intro us vs ds σ δ s Q hl rv rl I S h
    cases us with
    | nil => simp at hl
    | cons u us =>
      cases rv with
      | cons r rv =>
        cases rl with
        | cons rd rl =>
          refine wpAny_assignInOrder_more (wpAny_bindName (store_ok2 I hN hi hx r (fun s' I' _ => ?_) hf))
          exact ih (by simpa using hl) rv rl I' (S.asg rd) h
end
end T

namespace T
open PySem L2
/-! ### errors of own classes: their making, over the bare heap -/
theorem refsT_cases {tl : List Value} : ∀ l : List Value, refsT tl l = true → (∃ c r, l = .ref c :: r ∧ refsT tl r = true) ∨ l = tl := by
  intro l h
  cases l with
  | nil => exact .inr (beq_iff_eq.mp h)
  | cons a r => cases a <;> first | exact .inl ⟨_, _, rfl, h⟩ | exact .inr (beq_iff_eq.mp h)
theorem refsT_contains {tl : List Value} (X : String) : ∀ l : List Value, refsT tl l = true → l.contains (.type X) = tl.contains (.type X) := by
  intro l
  induction l with
  | nil => intro e; rcases refsT_cases _ e with ⟨_, _, q, _⟩ | q
           · cases q
           · rw [← q]
  | cons a r ih =>
    intro e
    rcases refsT_cases (a :: r) e with ⟨c, r', q, h⟩ | q
    · obtain ⟨rfl, rfl⟩ := List.cons.inj q
      rw [List.contains_cons, ih h]; rfl
    · rw [q]
theorem refsT_pass {tl : List Value} (hp : ∀ self, refuseLoop self "__setattr__" tl = pure ()) (self : Value) : ∀ l : List Value, refsT tl l = true → refuseLoop self "__setattr__" l = pure () := by
  intro l
  induction l with
  | nil => intro e; rcases refsT_cases _ e with ⟨_, _, q, _⟩ | q
           · cases q
           · rw [q]; exact hp self
  | cons a r ih =>
    intro e
    rcases refsT_cases (a :: r) e with ⟨c, r', q, h⟩ | q
    · obtain ⟨rfl, rfl⟩ := List.cons.inj q
      rw [refuseLoop_ref]; exact ih h
    · rw [q]; exact hp self
theorem kxs_KeyError : PySem.W.KxsFacts "KeyError" "KeyError.__init__" := ⟨by show builtinType _ = _; rw [builtinType_eq_fast]; kernel_rfl, by first | kernel_rfl | rfl⟩
/-- what a built-in base must tell: B's own __init__, N's __new__ -/
structure BaseF (tl : List Value) (B N newId initId : String) : Prop where
  new : ∃ iN bmN, ExcBaseFacts N newId iN bmN
  kf : PySem.W.KxsFacts B initId
  initEntry : entryFor table initId = some Builtin.«BaseException.__init__»
  initKind : builtinKind initId = some .slot
  initRow : Manifest.signature? initId = some ⟨.positional, "*", B, .self, [⟨"args", .varPos, false⟩]⟩
  noStar : (B != "*") = true
  plain : plainId initId = true
  pass : ∀ self, refuseLoop self "__setattr__" tl = pure ()
  hB : tl.contains (.type B) = true
  hN : tl.contains (.type N) = true
  hA : tl.contains (.type "AttributeError") = false
  hE : tl.contains (.type "NameError") = false
  hO : tl.contains (.type "object") = true
theorem baseVE : BaseF veTl "ValueError" "ValueError" "ValueError.__new__" "ValueError.__init__" where
  new := ⟨_, _, F.excBase_ValueError⟩
  kf := PySem.W.kxs_ValueError
  initEntry := F.excBase_ValueError.initEntry
  initKind := F.excBase_ValueError.initKind
  initRow := F.excBase_ValueError.initRow
  noStar := by decide +kernel
  plain := F.excBase_ValueError.init.plain
  pass := fun self => F.store_ValueError.passes self
  hB := by decide +kernel
  hN := by decide +kernel
  hA := by decide +kernel
  hE := by decide +kernel
  hO := by decide +kernel
theorem pass_ke (self : Value) : refuseLoop self "__setattr__" keTail = pure () := by
  have h1 : refuseLoop self "__setattr__" keTail = refuseLoop self "__setattr__" [.type "LookupError", .type "Exception", .type "BaseException", .type "object"] := by
    unfold refuseLoop keTail
    rw [List.forIn_cons]
    first | rfl | kernel_rfl
  rw [h1]
  exact F.store_LookupError.passes self
theorem baseKE : BaseF keTail "KeyError" "LookupError" "LookupError.__new__" "KeyError.__init__" where
  new := ⟨_, _, F.excBase_LookupError⟩
  kf := kxs_KeyError
  initEntry := entryFor_alias (id' := "BaseException.__init__") (by rw [fastTable_eq_tree]; kernel_rfl) (by first | rfl | decide +kernel) (by decide +kernel) (by rw [fastTable_eq_tree]; kernel_rfl)
  initKind := by kernel_rfl
  initRow := by kernel_rfl
  noStar := by decide +kernel
  plain := by decide +kernel
  pass := pass_ke
  hB := by decide +kernel
  hN := by decide +kernel
  hA := by decide +kernel
  hE := by decide +kernel
  hO := by decide +kernel
end T

namespace T
open PySem L2
section
variable {M : Model} {prog : Program} {w : World} {A : Around} {E : Value → Shared → Prop} {R : Result → Shared → Prop} {h : Heap} {g : Array GenState} {d : Drawn} {t : Nat} {os : OsState}
variable {nm q : Str} {C N : Addr} {bs bm bmB : List Value} {hdct : Bool} {sn : List Str} {sub : List Value} {ab : Bool} {col : Option Bool} {dd : Option Addr} {k0 k1 k2 k3 k5 : Option Value} {B newId initId : String}
/-- a new object of the class, by the base's __new__ -/
theorem newG (F : ExcBaseFacts B newId initId bmB) (hcB : (Value.ref C :: bm).contains (.type B) = true) (hcA : (Value.ref C :: bm).contains (.type "AttributeError") = false) (hcN : (Value.ref C :: bm).contains (.type "NameError") = false) {rest : List Value}
    (hC : h.get? C = some (excClassObj nm q C N bs bm hdct sn sub ab col dd k0 k1 k2 k3 k5 newId))
    (hq : R (.ok (.ret (.ref (h.objs.size + 1)))) ⟨(h.push (PySem.W.kdv_tup rest)).push (HandSPX.excO C h.objs.size), g, d, t, os⟩) (hrest : rest.length ≤ sizeLine) :
    codeAny (model prog w) A (.builtin newId ⟨.ref C :: rest, []⟩) R ⟨h, g, d, t, os⟩ := by
  have hends := F.ends
  refine codeAny_builtinAt F.entry ?_
  unfold Builtin.«BaseException.__new__»
  refine wpAt_bind ?_
  show wpAt _ _ _ (stack >>= _) _ _ _
  refine wpAt_bind (wpAt_stack fun p below => wpAt_of_wpAny ?_)
  wp_walk
  refine wpAt_of_wpAny ?_
  rw [F.owner]
  repeat (first | with_reducible refine wpAny_madeHere_exc F.canon hC ?_ | with_reducible refine wpAny_loadPart_at hC ?_ | (with_reducible refine wpAny_isSubtype_exc hC ?_; first | rw [hcB] | rw [hcA] | rw [hcN]) | wp_step)
  show R _ _
  rw [Heap.size_push]
  exact hq
theorem check_newG (F : ExcBaseFacts B newId initId bmB) (hcB : (Value.ref C :: bm).contains (.type B) = true) {rest : List Value} {Q : Unit → Shared → Prop}
    (hC : h.get? C = some (excClassObj nm q C N bs bm hdct sn sub ab col dd k0 k1 k2 k3 k5 newId)) (hq : Q () ⟨h, g, d, t, os⟩) : wpAny M A (checkBuiltinCall newId ⟨.ref C :: rest, []⟩) Q E ⟨h, g, d, t, os⟩ := by
  have hstar := F.noStar
  simp only [checkBuiltinCall, F.newKind, F.newSplit, F.newRow]
  repeat (first | refine wpAny_loadPart_at hC ?_ | (refine wpAny_isSubtype_exc hC ?_; rw [hcB]) | refine wpAny_staticBase_exc hC ?_ | refine wpAny_madeBy_exc hC ?_ | simp only [bne_self_eq_false, Bool.false_eq_true, if_false] | wp_step)
  exact hq
theorem type_callG (F : ExcBaseFacts B newId initId bmB) (hcB : (Value.ref C :: bm).contains (.type B) = true) (hcA : (Value.ref C :: bm).contains (.type "AttributeError") = false) (hcN : (Value.ref C :: bm).contains (.type "NameError") = false) {rest : List Value} {fI : Addr} {Q : Fin → Shared → Prop}
    (hC : h.get? C = some (excClassObj nm q C N bs bm hdct sn sub ab col dd k0 k1 k2 k3 k5 newId))
    (hi : W.Looks (model prog w) h (typeLookup (.ref C) "__init__") (some (.ref fI))) (hb : ∀ self, W.Looks (model prog w) h (bindSpecial (.ref fI) self) (.ref fI, [self])) (hrest : rest.length ≤ sizeLine)
    (hq : codeAny (model prog w) A (.call (.ref fI) ⟨.ref (h.objs.size + 1) :: rest, []⟩)
      (fun r s' => match r with | .ok (.ret v) => v = .none ∧ Q (.done (.ret (.ref (h.objs.size + 1)))) s' | .ok _ => False | .error e => E e s')
      ⟨(h.push (W.kdv_tup rest)).push (HandSPX.excO C h.objs.size), g, d, t, os⟩) :
    wpAny (model prog w) A (Builtin.«type.__call__» ⟨.ref C :: rest, []⟩) Q E ⟨h, g, d, t, os⟩ := by
  repeat (first | with_reducible refine wpAny_loadPart_at hC ?_ | with_reducible refine wpAny_madeBy_exc hC ?_ | wp_step)
  refine codeAny_call_builtin_code (Code.quiet_builtin _ F.quiet) (check_newG F hcB hC ?_)
  refine newG F hcB hcA hcN hC ?_ hrest
  show wpAny _ _ _ _ _ _
  have k : ∀ b o, h.get? b = some o → ((h.push (W.kdv_tup rest)).push (HandSPX.excO C h.objs.size)).get? b = some o := fun b o e => Heap.get?_push_of_some _ (Heap.get?_push_of_some _ e)
  have hC₁ := k _ _ hC
  have hget : ((h.push (W.kdv_tup rest)).push (HandSPX.excO C h.objs.size)).get? (h.objs.size + 1) = some (HandSPX.excO C h.objs.size) := by heap_get
  have hcC : (Value.ref C :: bm).contains (.ref C) = true := by simp
  have i1 := hi.keeps k
  have b1 := (hb (.ref (h.objs.size + 1))).keeps k
  unfold isInstance
  repeat (first | with_reducible refine wpAny_loadPart_at hget ?_ | (with_reducible refine wpAny_isSubtype_exc hC₁ ?_; rw [hcC]) | wp_step)
  show wpAny _ _ (typeLookup (.ref C) _) _ _ _
  refine i1.at ?_
  refine wpAny_holding (wpAny_bind (b1.at ?_))
  refine wpAny_bind (wpAny_call (codeAny_mono hq fun r s' z => ?_))
  rcases r with e | (v | _ | _ | _) <;> first | exact z | exact z.elim | skip
  obtain ⟨rfl, z⟩ := z
  first
    | exact wpAny_pure (wpAny_pure z)
    | (wp_walk; exact z)
/-- C(..): the new object, then its own __init__ -/
theorem callG (F : ExcBaseFacts B newId initId bmB) (hcB : (Value.ref C :: bm).contains (.type B) = true) (hcA : (Value.ref C :: bm).contains (.type "AttributeError") = false) (hcN : (Value.ref C :: bm).contains (.type "NameError") = false) {rest : List Value} {fI : Addr}
    (hC : h.get? C = some (excClassObj nm q C N bs bm hdct sn sub ab col dd k0 k1 k2 k3 k5 newId))
    (hi : W.Looks (model prog w) h (typeLookup (.ref C) "__init__") (some (.ref fI))) (hb : ∀ self, W.Looks (model prog w) h (bindSpecial (.ref fI) self) (.ref fI, [self])) (hrest : rest.length ≤ sizeLine)
    (hq : codeAny (model prog w) (A.under (.builtin "type.__call__" ⟨.ref C :: rest, []⟩)) (.call (.ref fI) ⟨.ref (h.objs.size + 1) :: rest, []⟩) (W.InitBack (h.objs.size + 1) R)
      ⟨(h.push (W.kdv_tup rest)).push (HandSPX.excO C h.objs.size), g, d, t, os⟩) :
    codeAny (model prog w) A (.call (.ref C) ⟨rest, []⟩) R ⟨h, g, d, t, os⟩ := by
  have f1 := tc_lookup
  have f2 := tc_bind (.ref C)
  have hTy : (⟨h, g, d, t, os⟩ : Shared).TypeIs (.ref C) "type" := ⟨_, hC, rfl⟩
  refine codeAny_of_tree ?_
  show wpAny _ _ (callAny (.ref C) _) _ _ _
  repeat (any_goals (first | assumption | with_reducible refine wpAny_loadPart_at hC ?_ | wp_step))
  refine ⟨rfl, ?_⟩
  refine codeAny_call_builtin_at (Code.quiet_builtin _ (by decide +kernel)) entry_typeCall (wpAny_check_type_call_sub hC (type_callG F hcB hcA hcN hC hi hb hrest ?_))
  refine codeAny_mono hq fun r s' z => ?_
  rcases r with e | (v | _ | _ | _) <;> exact z
/-! super().__init__(..), bound -/
theorem check_boundG (noStar : (B != "*") = true) (initKind : builtinKind initId = some .slot) (initRow : Manifest.signature? initId = some ⟨.positional, "*", B, .self, [⟨"args", .varPos, false⟩]⟩) {e : Addr} {oe : Obj} {rest : List Value} {Q : Unit → Shared → Prop}
    (hC : h.get? C = some (excClassObj nm q C N bs bm hdct sn sub ab col dd k0 k1 k2 k3 k5 newId)) (he : h.get? e = some oe) (hcls : oe.cls = .ref C) (hq : Q () ⟨h, g, d, t, os⟩) :
    wpAny M A (checkBoundCall initId ⟨.ref e :: rest, []⟩) Q E ⟨h, g, d, t, os⟩ := by
  have hshort := noStar
  simp only [checkBoundCall, initKind, initRow]
  repeat (first | (with_reducible refine wpAny_loadPart_at he ?_; rw [hcls]) | with_reducible refine wpAny_loadPart_at hC ?_ | wp_step)
  refine wpAny_onRaise ?_
  rw [show ∀ (a b : String) (n : Nat), Bind.check ⟨.positional, "*", B, .self, [⟨"args", .varPos, false⟩]⟩ a b n (List.map (fun x => x.fst) ({ pos := Value.ref e :: rest } : Args).kw) = pure () from
    fun a b n => check_star_args _ _ _ _ _ _]
  exact wpAny_pure hq
theorem call_mwG {tl : List Value} {Nn : String} (F : BaseF tl B Nn newId initId) {u e t0 : Addr} {rest : List Value} {Q : Value → Shared → Prop}
    (hC : h.get? C = some (excClassObj nm q C N bs bm hdct sn sub ab col dd k0 k1 k2 k3 k5 newId)) (he : h.get? e = some (HandSPX.excO C t0)) (hu : h.get? u = some (W.kxs_mw initId e)) (hrest : rest.length ≤ sizeLine)
    (hq : ∀ h', (∀ b o, b ≠ e → h.get? b = some o → h'.get? b = some o) → h'.get? e = some (HandSPX.excO C h.objs.size) → Q .none ⟨h', g, d, t, os⟩) :
    wpAny (model prog w) A (call (.ref u) rest) Q E ⟨h, g, d, t, os⟩ := by
  refine wpAny_call (codeAny_of_tree ?_)
  show wpAny _ A.in1 (callAny (.ref u) ⟨rest, []⟩) _ _ _
  simp only [callAny]
  refine wpAny_bind (wpAny_load hu ?_)
  simp only [W.kxs_mw, show (Value.type "method-wrapper" == Value.type "method" || Value.type "method-wrapper" == Value.type "builtin_function_or_method" || Value.type "method-wrapper" == Value.type "method-wrapper") = true by decide, if_true]
  refine W.KFB.if_so (by decide) ?_
  refine wpAny_bind (check_boundG F.noStar F.initKind F.initRow hC he rfl ?_)
  refine wpAny_bind (wpAny_pure (wpAny_pure ?_))
  refine ⟨plainId_quiet F.plain _, codeAny_builtin F.initEntry ?_⟩
  exact W.exc_init_tree (cls := .ref C) (t0 := t0) (dv := none) (c2 := .none) (c3 := .none) (b4 := .bool false) he hrest fun h' k e' _ => hq h' k e'
end
end T

namespace T
open PySem L2
section
open Builtin Builtin.ObjectAttr
variable {prog : Program} {w : World} {A : Around} {E : Value → Shared → Prop} {R : Result → Shared → Prop} {hp : Heap} {g : Array GenState} {d : Drawn} {t : Nat} {os : OsState}
/-- self.name = v on an error: up to the own dict -/
theorem osaG {K : W.Frag} {name : Str} {tk : Tok} {v : Value} {x C : Addr} {ox : Obj} {od : Option Obj} {cd : ClassData}
    (X : K.In hp) (I : W.InstAt hp x ox C od) (hcd : W.clsIn K C = some cd) (hpass : refuseLoop (.ref x) "__setattr__" cd.mro = pure ()) (hob : W.mroIn K C (.type "object") = some true) (ha : W.findIn K (.ref C) name = some none)
    (hq : wpAny (model prog w) A.in1 (storeInOwnDict (.ref x) (.ref C) (.str name tk) name v false)
      (fun fin s' => match fin with | .done f => R (.ok f) s' | .again c' => c'.quiet = true ∧ codeAny (model prog w) A c' R s') (fun e s' => R (.error e) s') ⟨hp, g, d, t, os⟩) :
    codeAny (model prog w) A (.call (.builtin "object.__setattr__") ⟨[.ref x, .str name tk, v], []⟩) R ⟨hp, g, d, t, os⟩ := by
  have SF := F.store_object
  have sub : W.Looks (model prog w) hp (isInstance (.ref x) (.type "object")) true := I.type.andThen (W.looks_mroIn X hob)
  refine codeAny_call_builtin SF.slot.plain SF.entry (@W.check_slot (model prog w) _ _ ⟨hp, g, d, t, os⟩ "object.__setattr__" "object" "__setattr__" (.ref x) [.str name tk, v] [] _ SF.kind SF.split sub (SF.args (.ref x) (.str name tk) v) ?_)
  have hmr : W.Looks (model prog w) hp (mroOf (.ref C)) cd.mro := (W.looks_clsIn X hcd).andThen .now
  have L3 : W.Looks (model prog w) hp (storeTaker? none) none := .now
  rw [W.osa_eq, refuse_eq]
  refine wpAny_bind (wpAny_bind (I.type.at (wpAny_bind (hmr.at ?_))))
  rw [hpass]
  refine wpAny_pure (wpAny_bind (I.type.at (wpAny_bind ((W.looks_findIn X ha).at (wpAny_bind (L3.at ?_))))))
  exact hq
theorem osaG_new {K : W.Frag} {name : Str} {tk : Tok} {v : Value} {x C : Addr} {fv : Array Value} {cd : ClassData}
    (X : K.In hp) (hx : hp.get? x = some { cls := .ref C, data := .fields fv }) (hcd : W.clsIn K C = some cd) (hpass : refuseLoop (.ref x) "__setattr__" cd.mro = pure ()) (hob : W.mroIn K C (.type "object") = some true) (hh : cd.hasDict = true) (ha : W.findIn K (.ref C) name = some none)
    (hq : ∀ h' tk' dx, (∀ b o, b ≠ x → hp.get? b = some o → h'.get? b = some o) → hp.objs.size ≤ dx → dx ≠ x → h'.get? x = some { cls := .ref C, dict := some dx, data := .fields fv } →
      h'.Ns1 dx (fun y => if y = name then some v else none) → R (.ok (.ret .none)) ⟨h', g, d, tk', os⟩) :
    codeAny (model prog w) A (.call (.builtin "object.__setattr__") ⟨[.ref x, .str name tk, v], []⟩) R ⟨hp, g, d, t, os⟩ := by
  have I : W.InstAt hp x { cls := .ref C, data := .fields fv } C none := ⟨hx, rfl, rfl, trivial⟩
  have hxs : x ≠ hp.objs.size := Nat.ne_of_lt (Heap.lt_size hx)
  refine osaG X I hcd hpass hob ha ?_
  have hcls : W.Looks (model prog w) hp (classData C) cd := W.looks_clsIn X hcd
  obtain ⟨nm, bs, mro, ns, qn, hd, sn, sb, ab, col, del⟩ := cd
  dsimp only at hh
  subst hh
  unfold storeInOwnDict ownDictForStores
  repeat (first | with_reducible refine HandSPX.store_in_new ?_ ?_ | with_reducible refine wpAny_loadPart_at hx ?_ | with_reducible refine hcls.at ?_ | wp_step)
  · exact ⟨_, #[], _, (Heap.get?_update_ne _ _ _ _ hxs.symm).trans (Heap.get?_push_at rfl rfl), rfl, fun e he => absurd he (by simp), fun _ => rfl⟩
  · intro h' tk' hn' hs
    have hx₁ : (hp.push { cls := .type "dict", data := .dict #[] }).get? x = some { cls := .ref C, data := .fields fv } := Heap.get?_push_of_some _ hx
    refine hq h' tk' hp.objs.size (fun b o hb ho => ?_) (Nat.le_refl _) hxs.symm ?_ hn'
    · exact (hs.2 b (Nat.ne_of_lt (Heap.lt_size ho))).trans ((Heap.get?_update_ne _ _ _ _ hb).trans (Heap.get?_push_of_some _ ho))
    · exact (hs.2 x hxs).trans (Heap.get?_update_self _ hx₁ rfl)
end
end T

namespace T
open PySem L2
section
variable {prog : Program} {w : World} {A : Around} {E : Value → Shared → Prop} {h base : Heap} {g : Array GenState} {d : Drawn} {t : Nat} {os : OsState} {K : W.Frag} {mg : Str → Option Value}
variable {tl : List Value} {B Nn newId initId : String}
/-- what the written part says of an own error class C with the __init__ fI -/
structure ErrC (prog : Program) (K : W.Frag) (tl : List Value) (B newId initId : String) (C fI : Addr) (name qual : Str) (params : Arguments) (body : List Stmt) (scope : Scope) : Prop where
  cls : ∃ nm q N bs bm sn sub ab col dd k0 k1 k2 k3 k5, K.lookup C = some (excClassObj nm q C N bs bm true sn sub ab col dd k0 k1 k2 k3 k5 newId) ∧ refsT tl bm = true ∧ W.alongIn K "__init__" bm = some (some (.builtin initId))
  fn : ∃ oc od osl dV kV doc pm an cda ct cc, K.lookup fI = some ⟨oc, od, .func (W.ksFn name qual params body scope dV kV doc pm an (.ref cda) ct cc), osl⟩ ∧
    (∃ ccl cdd vs ccs file tf, K.lookup cda = some ⟨ccl, cdd, .fields vs, ccs⟩ ∧ vs[2]? = some (.str file tf) ∧ ((prog.main.file : Str) == file) = true) ∧
    (∃ cl cld csl, K.lookup cc = some ⟨cl, cld, .cell (some (.ref C)), csl⟩) ∧ W.codeIn K (.ref cda) qual = true ∧ dV = .none
  ini : W.findIn K (.ref C) "__init__" = some (some (.ref fI))
  ity : W.typeIn K (.ref fI) = some (.type "function")
  sa : W.findIn K (.ref C) "__setattr__" = some (some (.builtin "object.__setattr__"))
  exC : W.subIn K (.ref C) (.type "BaseException") = some true
  tyC : W.typeIn K (.ref C) = some (.type "type")
  kC : W.keepIn K (.ref C) = true
  opq : W.nsIn K cStatics "thirdparty.any" = some none
  top : (prog.main.scope.names.lookup ("super" : Str)).isSome = false
theorem drop_ownC (C : Addr) (l : List Value) : ((Value.ref C :: l).dropWhile (· != .ref C)).drop 1 = l := by
  simp [List.dropWhile_cons]
theorem sup_stmt (F : BaseF tl B Nn newId initId) (Md : Mod K mg base) {nm q : Str} {C N : Addr} {bs bm : List Value} {sn : List Str} {sub : List Value} {ab : Bool} {col : Option Bool} {dd : Option Addr} {k0 k1 k2 k3 k5 : Option Value}
    (hcd : K.lookup C = some (excClassObj nm q C N bs bm true sn sub ab col dd k0 k1 k2 k3 k5 newId)) (hbm : refsT tl bm = true) (hal : W.alongIn K "__init__" bm = some (some (.builtin initId)))
    {fI L cda cc a t0 : Addr} {name qual : Str} {params : Arguments} {body : List Stmt} {scope : Scope} {dV kV doc pm ct oc : Value} {an od : Option Addr} {osl : Array (Option Value)}
    (hfI : K.lookup fI = some ⟨oc, od, .func (W.ksFn name qual params body scope dV kV doc pm an (.ref cda) ct cc), osl⟩)
    {ccl cl : Value} {cdd cld : Option Addr} {vs : Array Value} {ccs csl : Array (Option Value)} {file : Str} {tf : Tok} (hcode : K.lookup cda = some ⟨ccl, cdd, .fields vs, ccs⟩) (hvs : vs[2]? = some (.str file tf)) (hfile : ((prog.main.file : Str) == file) = true)
    (hcell : K.lookup cc = some ⟨cl, cld, .cell (some (.ref C)), csl⟩) (hopq : W.nsIn K cStatics "thirdparty.any" = some none) (htop : (prog.main.scope.names.lookup ("super" : Str)).isSome = false)
    {ar : Arg} (hp : (params.posonlyargs ++ params.args).head? = some ar) (hks : scope.names.lookup ("super" : Str) = some .globalImplicit) (hkc : scope.names.lookup ("__class__" : Str) = some .free) (hka : scope.names.lookup ar.arg = some .local) (hk : scope.kind = .function)
    {m : Str → Option Value} (hns : h.Ns L m) (hself : m ar.arg = some (.ref a)) (X : K.In h) (st : ∀ b o, base.get? b = some o → h.get? b = some o) (hms : mg "super" = none) (ha : h.get? a = some (HandSPX.excO C t0)) (haC : a ≠ C)
    {p0 p1 p2 p3 p4 p5 : Pos} {text : Str} {kk : Nat} {pl : Sem Bool} {Q : Flow → Shared → Prop} (hint : interactive (W.ksEnv qual scope L fI (.ref cda) cc) = false)
    (hsw : swapsWith (.Call (.Attribute (.Call (.Name "super" p0) [] [] p1) "__init__" p2) [.Constant (.str text) kk p3] [] p4) none p5.line (W.ksEnv qual scope L fI (.ref cda) cc) = pure false)
    (hev : eval (.Call (.Attribute (.Call (.Name "super" p0) [] [] p1) "__init__" p2) [.Constant (.str text) kk p3] [] p4) (W.ksEnv qual scope L fI (.ref cda) cc) = (do
      let ov ← attributeBase (.Call (.Name "super" p0) [] [] p1) "__init__" (W.ksEnv qual scope L fI (.ref cda) cc) (eval (.Call (.Name "super" p0) [] [] p1) (W.ksEnv qual scope L fI (.ref cda) cc))
      standAt p2.atName
      let (f, first) ← holding [ov] (getMethod ov "__init__" pl)
      callWith p4 f first (backTo p4 (starEach [.Constant (.str text) kk p3] (W.ksEnv qual scope L fI (.ref cda) cc))) []))
    (hq : ∀ h' t1 tk, (∀ b o, b ≠ a → h.get? b = some o → h'.get? b = some o) → h'.get? a = some (HandSPX.excO C t1) → Q .next ⟨h', g, d, tk, os⟩) :
    _root_.PySem.wpAt (model prog w) A (.func body (W.ksEnv qual scope L fI (.ref cda) cc)) (exec (.Expr (.Call (.Attribute (.Call (.Name "super" p0) [] [] p1) "__init__" p2) [.Constant (.str text) kk p3] [] p4) p5) (W.ksEnv qual scope L fI (.ref cda) cc)) Q E ⟨h, g, d, t, os⟩ := by
  have hC := X _ _ hcd
  have hclsIn : W.clsIn K C = some { name := nm, bases := bs, mro := .ref C :: bm, ns := N, qualname := q, hasDict := true, slotNames := sn, subclasses := sub, abstract := ab, collection := col, hasDel := false } := by unfold W.clsIn; rw [hcd] <;> rfl
  have hsub : W.mroIn K C (.ref C) = some true := by unfold W.mroIn; rw [hclsIn]; simp
  obtain ⟨mb, hmb1, hmb2⟩ := Md.blt
  refine ks_wpAt_Expr_any (ks_wpAt_MethodCall ?_ hev) hint hsw
  refine ks_wpAt_super_base (env := W.ksEnv qual scope L fI (.ref cda) cc) hks hkc (by decide) rfl (X _ _ hfI) rfl hp rfl (X _ _ hcode) rfl hvs hfile htop ?_
  refine W.ks_loadName_global hk hks (Calls.loadGlobal_builtin (env := W.ksEnv qual scope L fI (.ref cda) cc) (Md.glob.keeps st) hms (hmb1.keeps st) ((hmb2 _ (by decide)).trans (show bootBuiltins "super" = some (.type "super") from by decide +kernel)) ⟨rfl, ?_⟩)
  refine wpAny_loadName_free hk hkc rfl ⟨_, X _ _ hcell, rfl⟩ ?_
  refine wpAny_loadName_local hk hka hns hself ?_
  refine ks_wpAny_isType_cls hC rfl ⟨rfl, ?_⟩
  refine ks_wpAny_call_super hC rfl ha rfl (fun c e => nomatch e) (W.looks_mroIn X hsub) (fun h1 e1 k1 => ?_)
  have X1 : K.In h1 := fun b o e => k1 b o (X b o e)
  have hmro : W.Looks (model prog w) h1 (mroOf (.ref C)) (.ref C :: bm) := (W.looks_clsIn X1 hclsIn).andThen .now
  have ha1 := k1 _ _ ha
  have hmB : W.mroIn K C (.type B) = some true := by
    unfold W.mroIn
    rw [hclsIn, Option.bind_some, if_neg (by simp), List.contains_cons, refsT_contains B bm hbm, F.hB, Bool.or_true]
  have J : W.InstAt h1 a (HandSPX.excO C t0) C none := ⟨ha1, rfl, rfl, trivial⟩
  have hI : W.Looks (model prog w) h1 (isInstance (.ref a) (.type B)) true := J.type.andThen (W.looks_mroIn X1 hmB)
  refine W.kxs_getMethod F.kf e1 (W.looks_opaque X1 hopq) hmro (drop_ownC C bm) X1 hal hI haC (by decide) ?_
  have e2 : (h1.push (W.kxs_mw initId a)).get? h1.objs.size = some (W.kxs_mw initId a) := Heap.get?_push_at rfl rfl
  have up : ∀ b o, h1.get? b = some o → (h1.push (W.kxs_mw initId a)).get? b = some o := fun b o e => Heap.get?_push_of_some _ e
  refine W.kxs_callWith (i := initId) (x := a) rfl (Calls.evalArgs_plain (PyProof.Rows.spliced_more (wpAny_Constant_str (PyProof.Rows.spliced_none ⟨e2, ?_⟩))))
  refine call_mwG F (up _ _ (X1 _ _ hcd)) (up _ _ ha1) e2 (by rw [sizeLine_eq]; show (1 : Nat) ≤ 16777216; decide) fun h2 k2 e3 => ?_
  exact hq h2 _ _ (fun b o hb e => k2 b o hb (up _ _ (k1 _ _ e))) e3
end
end T

namespace T
open PySem L2
section
variable {prog : Program} {w : World} {A : Around} {E : Value → Shared → Prop} {h base : Heap} {g : Array GenState} {d : Drawn} {t : Nat} {os : OsState} {K : W.Frag} {mg : Str → Option Value}
variable {tl : List Value} {B Nn newId initId : String}
theorem Ns.but {hp h' : Heap} {L x : Addr} {m : Str → Option Value} (hn : hp.Ns L m) (k : ∀ b o, b ≠ x → hp.get? b = some o → h'.get? b = some o) (hne : L ≠ x) : h'.Ns L m := by
  obtain ⟨o, es, ep, hL, r⟩ := hn
  exact ⟨o, es, ep, k _ _ hne hL, r⟩
section
variable {C N a L t1 : Addr} {nm q : Str} {bs bm : List Value} {sn : List Str} {sub : List Value} {ab : Bool} {col : Option Bool} {dd : Option Addr} {k0 k1 k2 k3 k5 : Option Value} {c : Code} {env : Env} {self p f : Str} {m : Str → Option Value} {v : Value} {q0 q1 q2 q3 : Pos} {Q : Flow → Shared → Prop}
/-- self.f = p, the first one -/
theorem fld_new (F : BaseF tl B Nn newId initId) (hcd : K.lookup C = some (excClassObj nm q C N bs bm true sn sub ab col dd k0 k1 k2 k3 k5 newId)) (hbm : refsT tl bm = true) (hsa : W.findIn K (.ref C) "__setattr__" = some (some (.builtin "object.__setattr__"))) (hno : W.findIn K (.ref C) f = some none)
    (hL : env.locals = L) (hk : env.scope.kind = .function) (hks : env.kindOf self = some .local) (hkp : env.kindOf p = some .local) (hd1 : (self == ("__debug__" : Str)) = false) (hd2 : (p == ("__debug__" : Str)) = false)
    (hsw : swapsWith (.Name p q2) (some (.Attribute (.Name self q0) f q1)) q3.line env = pure false)
    (hns : h.Ns L m) (hself : m self = some (.ref a)) (hp : m p = some v) (X : K.In h) (ha : h.get? a = some (HandSPX.excO C t1))
    (hq : ∀ h' tk dx, (∀ b o, b ≠ a → h.get? b = some o → h'.get? b = some o) → h.objs.size ≤ dx → dx ≠ a → h'.get? a = some { cls := .ref C, dict := some dx, data := .fields #[.ref t1, .none, .none, .none, .bool false, .none] } → h'.Ns1 dx (fun y => if y = f then some v else none) → Q .next ⟨h', g, d, tk, os⟩) :
    _root_.PySem.wpAt (model prog w) A c (exec (.Assign [.Attribute (.Name self q0) f q1] (.Name p q2) q3) env) Q E ⟨h, g, d, t, os⟩ := by
  subst hL
  have hclsIn : W.clsIn K C = some { name := nm, bases := bs, mro := .ref C :: bm, ns := N, qualname := q, hasDict := true, slotNames := sn, subclasses := sub, abstract := ab, collection := col, hasDel := false } := by unfold W.clsIn; rw [hcd] <;> rfl
  have hob : W.mroIn K C (.type "object") = some true := by
    unfold W.mroIn
    rw [hclsIn, Option.bind_some, if_neg (by simp), List.contains_cons, refsT_contains "object" bm hbm, F.hO, Bool.or_true]
  have hpass : refuseLoop (.ref a) "__setattr__" (Value.ref C :: bm) = pure () := by rw [refuseLoop_ref]; exact refsT_pass F.pass _ bm hbm
  refine ks_wpAt_Assign_Attr (wpAt_of_wpAny (wpAny_Name (wpAny_loadName_local hk hkp hns hp ?_) hd2)) hsw
  refine wpAny_Name (wpAny_loadName_local hk hks hns hself ?_) hd1
  refine W.set_plain X (ox := HandSPX.excO C t1) (od := none) ⟨ha, rfl, rfl, trivial⟩ hsa ?_
  exact osaG_new X ha hclsIn hpass hob rfl hno fun h' tk dx k1 k2 k3 k4 k5 => hq h' tk dx k1 k2 k3 k4 k5
end
end
end T

namespace T
open PySem L2
/-- super().__init__(text) as the text has it -/
structure SupSt (st : Stmt) (qual : Str) (scope : Scope) : Prop where
  ex : ∃ (p0 p1 p2 p3 p4 p5 : Pos) (text : Str) (kk : Nat) (pl : Sem Bool), st = .Expr (.Call (.Attribute (.Call (.Name "super" p0) [] [] p1) "__init__" p2) [.Constant (.str text) kk p3] [] p4) p5 ∧
    ∀ (L fI cda cc : Addr), interactive (W.ksEnv qual scope L fI (.ref cda) cc) = false ∧
      swapsWith (.Call (.Attribute (.Call (.Name "super" p0) [] [] p1) "__init__" p2) [.Constant (.str text) kk p3] [] p4) none p5.line (W.ksEnv qual scope L fI (.ref cda) cc) = pure false ∧
      eval (.Call (.Attribute (.Call (.Name "super" p0) [] [] p1) "__init__" p2) [.Constant (.str text) kk p3] [] p4) (W.ksEnv qual scope L fI (.ref cda) cc) = (do
        let ov ← attributeBase (.Call (.Name "super" p0) [] [] p1) "__init__" (W.ksEnv qual scope L fI (.ref cda) cc) (eval (.Call (.Name "super" p0) [] [] p1) (W.ksEnv qual scope L fI (.ref cda) cc))
        standAt p2.atName
        let (f, first) ← holding [ov] (getMethod ov "__init__" pl)
        callWith p4 f first (backTo p4 (starEach [.Constant (.str text) kk p3] (W.ksEnv qual scope L fI (.ref cda) cc))) [])
/-- me.f = p as the text has it -/
structure FldSt (st : Stmt) (me f p : Str) (qual : Str) (scope : Scope) : Prop where
  ex : ∃ q0 q1 q2 q3 : Pos, st = .Assign [.Attribute (.Name me q0) f q1] (.Name p q2) q3 ∧ ∀ (L fI cda cc : Addr), swapsWith (.Name p q2) (some (.Attribute (.Name me q0) f q1)) q3.line (W.ksEnv qual scope L fI (.ref cda) cc) = pure false
  loc : scope.names.lookup p = some .local
  dbg : (p == ("__debug__" : Str)) = false
/-- the head of such an __init__ -/
structure IniH (name qual : Str) (params : Arguments) (body : List Stmt) (scope : Scope) (me : Str) (ps : List Str) : Prop where
  hd : ∃ ar : Arg, (params.posonlyargs ++ params.args).head? = some ar ∧ ar.arg = me
  sup : scope.names.lookup ("super" : Str) = some .globalImplicit
  cls : scope.names.lookup ("__class__" : Str) = some .free
  slf : scope.names.lookup me = some .local
  dbg : (me == ("__debug__" : Str)) = false
  knd : scope.kind = .function
  cor : scope.isCoroutine = false
  gen : scope.isGenerator = false
  cel : ∀ x ∈ scope.names, x.2 ≠ .cell
  bnd : ∀ (kV doc pm : Value) (an : Option Addr) (cdv ct : Value) (cc : Addr) (us : List Value), us.length = (me :: ps).length → bindArgs (W.ksFn name qual params body scope .none kV doc pm an cdv ct cc) ⟨us, []⟩ = pure ((me :: ps).zip us)
section
variable {prog : Program} {w : World} {A : Around} {h base : Heap} {g : Array GenState} {d : Drawn} {t : Nat} {os : OsState} {K : W.Frag} {mg : Str → Option Value} {R : Result → Shared → Prop}
variable {tl : List Value} {B Nn newId initId : String} {C fI : Addr} {name qual : Str} {params : Arguments} {scope : Scope} {me : Str}
/-- C(v) -/
theorem err_call1 {s1 s2 : Stmt} {p1 f1 : Str} {v1 : Value} (F : BaseF tl B Nn newId initId) (T : ErrC prog K tl B newId initId C fI name qual params [s1, s2] scope) (Md : Mod K mg base) (st : ∀ b o, base.get? b = some o → h.get? b = some o) (X : K.In h) (hms : mg "super" = none)
    (I : IniH name qual params [s1, s2] scope me [p1]) (S1 : SupSt s1 qual scope) (S2 : FldSt s2 me f1 p1 qual scope) (hps : me ≠ p1) (hn1 : W.findIn K (.ref C) f1 = some none) (hroom : (A.under (.builtin "type.__call__" ⟨.ref C :: [v1], []⟩)).depth < recursionLimit)
    (hq : ∀ h' tk dx t1, (∀ b o, h.get? b = some o → h'.get? b = some o) → h.objs.size ≤ dx → dx ≠ h.objs.size + 1 → h'.get? (h.objs.size + 1) = some { cls := .ref C, dict := some dx, data := .fields #[.ref t1, .none, .none, .none, .bool false, .none] } → h'.Ns1 dx (fun y => if y = f1 then some v1 else none) → R (.ok (.ret (.ref (h.objs.size + 1)))) ⟨h', g, d, tk, os⟩) :
    codeAny (model prog w) A (.call (.ref C) ⟨[v1], []⟩) R ⟨h, g, d, t, os⟩ := by
  obtain ⟨nm, q, N, bs, bm, sn, sub, ab, col, dd, k0, k1, k2, k3, k5, hcd, hbm, hal⟩ := T.cls
  obtain ⟨oc, od, osl, dV, kV, doc, pm, an, cda, ct, cc, hfI, ⟨ccl, cdd, vs, ccs, file, tf, hcode, hvs, hfile⟩, ⟨cl, cld, csl, hcell⟩, hcdI, rfl⟩ := T.fn
  obtain ⟨iN, bmN, FN⟩ := F.new
  obtain ⟨ar, har, hars⟩ := I.hd
  obtain ⟨p0, pp1, p2, p3, p4, p5, text, kk, pl, rfl, he1⟩ := S1.ex
  obtain ⟨q0, q1, q2, q3, rfl, he2⟩ := S2.ex
  have cont : ∀ {Y : String} {b : Bool}, tl.contains (.type Y) = b → (Value.ref C :: bm).contains (.type Y) = b := fun {Y b} e => by rw [List.contains_cons, refsT_contains Y bm hbm, e]; rfl
  refine callG FN (cont F.hN) (cont F.hA) (cont F.hE) (X _ _ hcd) (W.looks_findIn X T.ini) (fun me => W.bind_fn X me T.ity) (by rw [sizeLine_eq]; show (1 : Nat) ≤ 16777216; decide) ?_
  have up : ∀ b o, h.get? b = some o → ((h.push (W.kdv_tup [v1])).push (HandSPX.excO C h.objs.size)).get? b = some o := fun b o e => Heap.get?_push_of_some _ (Heap.get?_push_of_some _ e)
  have hget : ((h.push (W.kdv_tup [v1])).push (HandSPX.excO C h.objs.size)).get? (h.objs.size + 1) = some (HandSPX.excO C h.objs.size) := by heap_get
  generalize hh1 : (h.push (W.kdv_tup [v1])).push (HandSPX.excO C h.objs.size) = h1 at up hget
  generalize haa : h.objs.size + 1 = a at *
  have hna : ∀ {b : Addr} {o : Obj}, h.get? b = some o → b ≠ a := fun {b o} e => Nat.ne_of_lt (Nat.lt_of_lt_of_le (Heap.lt_size e) (by rw [← haa]; exact Nat.le_succ _))
  have hsz1 : h.objs.size ≤ h1.objs.size := by rw [← hh1, PyProof.Rows.size_push', PyProof.Rows.size_push']; exact Nat.le_trans (Nat.le_succ _) (Nat.le_succ _)
  refine ks_codeAny_call_defAt (fd := W.ksFn name qual params _ scope .none kV doc pm an (.ref cda) ct cc) (body := _) (binds := [(me, .ref a), (p1, v1)]) hroom (up _ _ (X _ _ hfI)) rfl (Md.nolimit.keeps fun b o e => up _ _ (st b o e)) (W.codeRec_of (fun b o e => up _ _ (X b o e)) hcdI) rfl (.of_eq (I.bnd kV doc pm an (.ref cda) ct cc [.ref a, v1] rfl)) I.cel ?_ (fun h2 hns hk2 => ?_) I.cor I.gen I.knd
  · intro x hx
    simp only [List.mem_cons, List.not_mem_nil, or_false] at hx
    rcases hx with rfl | rfl
    · exact I.slf
    · exact S2.loc
  have hself : ([(me, Value.ref a), (p1, v1)].reverse.lookup me : Option Value) = some (.ref a) := by
    show ([(p1, v1), (me, Value.ref a)].lookup me : Option Value) = _
    have b1 : (me == p1) = false := beq_eq_false_iff_ne.mpr hps
    have b2 : (me == me) = true := beq_self_eq_true me
    simp only [List.lookup, b1, b2]
  have hp1 : ([(me, Value.ref a), (p1, v1)].reverse.lookup p1 : Option Value) = some v1 := by
    show ([(p1, v1), (me, Value.ref a)].lookup p1 : Option Value) = _
    have b2 : (p1 == p1) = true := beq_self_eq_true p1
    simp only [List.lookup, b2]
  have ha2 := hk2 _ _ hget
  have X2 : K.In h2 := fun b o e => hk2 _ _ (up _ _ (X b o e))
  have L1 : h1.objs.size ≠ a := fun z => absurd (Heap.lt_size hget) (by rw [z]; exact Nat.lt_irrefl _)
  have haC : a ≠ C := fun z => hna (X _ _ hcd) z.symm
  refine ks_wpAt_execs_cons (sup_stmt F Md hcd hbm hal hfI hcode hvs hfile hcell T.opq T.top har I.sup I.cls (by rw [hars]; exact I.slf) I.knd hns (by rw [hars]; exact hself) X2 (fun b o e => hk2 _ _ (up _ _ (st b o e))) hms ha2 haC (he1 _ _ _ _).1 (he1 _ _ _ _).2.1 (he1 _ _ _ _).2.2 fun h3 t3 tk3 k3 e3 => ?_)
  dsimp only
  have X3 : K.In h3 := fun b o e => k3 b o (hna (X b o e)) (X2 b o e)
  have hns3 := Ns.but hns k3 L1
  refine ks_wpAt_execs_cons (fld_new F hcd hbm T.sa hn1 rfl I.knd I.slf S2.loc I.dbg S2.dbg (he2 _ _ _ _) hns3 hself hp1 X3 e3 fun h4 tk4 dx k4 d1 d2 e4 n4 => ?_)
  dsimp only
  refine wpAt_of_wpAny ?_
  show wpAny _ _ (execs [] _) _ _ _
  rw [execs_nil]
  refine wpAny_pure ?_
  show W.InitBack a R _ _
  refine ⟨rfl, hq h4 tk4 dx t3 (fun b o e => k4 b o (hna e) (k3 b o (hna e) (hk2 _ _ (up _ _ e)))) ?_ d2 e4 n4⟩
  obtain ⟨oL, _, _, hL, _⟩ := hns
  exact Nat.le_trans hsz1 (Nat.le_trans (Nat.le_of_lt (Heap.lt_size (k3 _ _ L1 hL))) d1)
end
end T

namespace T
open PySem L2
section
variable {X : Cx} {pos p : Pos}
/-- C(e, ..), an own error class -/
def tErr (C : Addr) (fs : List Str) (ta : TA) : St → Hp → XK → Prop := fun σ H Q => ta σ H fun vs H1 => vs.length = fs.length ∧ ∀ d, H1 d = none → Q (.ref C) (some d) (upd H1 d (.xd (fs.zip vs)))
theorem mk_err {pins : List (Addr × Obj)} {σ : St} {H1 : Hp} {Q : XK} {hp h2 : Heap} {g1 : Array GenState} {d1 : Drawn} {t1 t2 : Nat} {os1 : OsState} {C dx t0 : Addr} {fvs : List (Str × V)} {mA : Str → Option Value} (T : Raises X (.ref C)) (I1 : Inv X pins σ H1 ⟨hp, g1, d1, t1, os1⟩)
    (k : ∀ b o, hp.get? b = some o → h2.get? b = some o) (hdx : hp.objs.size ≤ dx) (hda : dx ≠ hp.objs.size + 1) (he : h2.get? (hp.objs.size + 1) = some ({ cls := .ref C, dict := some dx, data := .fields #[.ref t0, .none, .none, .none, .bool false, .none] } : Obj))
    (hn : h2.Ns1 dx mA) (rel : ∀ f, RelO (fvs.lookup f) (mA f)) (q : ∀ d, H1 d = none → Q (.ref C) (some d) (upd H1 d (.xd fvs))) : MkP X pins σ Q (.ref (hp.objs.size + 1)) ⟨h2, g1, d1, t2, os1⟩ := by
  obtain ⟨G, g1', g2'⟩ := restrict h2 fun b => decide (b ≠ hp.objs.size + 1)
  have gk : ∀ b, b ≠ hp.objs.size + 1 → G.get? b = h2.get? b := fun b hb => g1' b (decide_eq_true hb)
  have ge : G.get? (hp.objs.size + 1) = none := g2' _ (by simp)
  have nha : ∀ {b : Addr} {o : Obj}, hp.get? b = some o → b ≠ hp.objs.size + 1 := fun {b o} z => Nat.ne_of_lt (Nat.lt_of_lt_of_le (Heap.lt_size z) (Nat.le_succ _))
  have nd : H1 dx = none := I1.hok.fresh hdx
  have J : Inv X pins σ (upd H1 dx (.xd fvs)) ⟨G, g1, d1, t2, os1⟩ := I1.laid (t' := t2) (a := dx) (o := .xd fvs) (h' := G) (fun b o e => by rw [gk b (nha e)]; exact k b o e) hdx (show ObjOk X.prog X.w _ G dx (.xd fvs) from ⟨mA, hn.at fun o y => (gk dx hda).trans y, rel⟩)
  refine ⟨_, _, _, ⟨G, g1, d1, t2, os1⟩, _, .ref C, some dx, rfl, J, fun b o z => ?_, ge, he, ⟨rfl, rfl⟩, rfl, rfl, ?_, rfl, I1.bare, T, q dx nd⟩
  · by_cases hb : b = hp.objs.size + 1
    · rw [hb, ge] at z; cases z
    · exact (gk b hb).symm.trans z
  · rw [upd_ne (Ne.symm hda)]
    exact I1.hok.fresh (Nat.le_succ _)
variable {tl : List Value} {B Nn newId initId : String} {C fI : Addr} {name qual : Str} {params : Arguments} {scope : Scope} {me : Str}
theorem pmk_err1 {k : Nat} {x : Str} {s1 s2 : Stmt} {p1 f1 : Str} {e : Expr} {ta : TA} (F : BaseF tl B Nn newId initId) (Ce : ErrC X.prog X.K tl B newId initId C fI name qual params [s1, s2] scope) (hms : X.mg "super" = none)
    (I0 : IniH name qual params [s1, s2] scope me [p1]) (S1 : SupSt s1 qual scope) (S2 : FldSt s2 me f1 p1 qual scope) (hps : me ≠ p1) (hn1 : W.findIn X.K (.ref C) f1 = some none) (hr : Room (k + 1) X.A) (hg : Gl X x) (hm : X.mg x = some (.ref C)) (ha : PA X [e] ta)
    (hdb : (x == ("__debug__" : Str)) = false := by decide) (he : starEach [e] X.env = (false, eval e X.env) :: starEach [] X.env := by rfl) (hpl : (backTo pos (starEach [] X.env)).any (·.1) = false := by rfl) :
    PMk X (.Call (.Name x p) [e] [] pos) (tErr C [f1] ta) := by
  intro pins s σ H Q I h
  refine wpAny_Call_Name_kw (ld_glob I hg hm ?_ hdb)
  refine PySem.W.callWith_K (h₀ := X.base) I.ok.mod.kin Ce.kC (thn (ha.run pos pins s σ H _ I h) fun us s1 ⟨vs, H1, I1, r1, hz, q1⟩ => ⟨I1.kIn, ?_⟩) he hpl
  show wpAny _ _ (call (.ref C) us) _ _ _
  obtain ⟨v1, rfl⟩ : ∃ v, vs = [v] := List.length_eq_one_iff.mp hz
  cases r1 with
  | @cons _ u1 _ ur r1 rr =>
    cases rr
    obtain ⟨hp, g, dr, tk, os⟩ := s1
    have hroom := (hr.make C [u1] []).dp
    have hroom2 : (X.A.under (.builtin "type.__call__" ⟨.ref C :: [u1], []⟩)).depth < recursionLimit := Nat.lt_of_le_of_lt (Nat.le_trans (Nat.le_add_right _ _) (Nat.le_add_right _ _)) hroom
    refine wpAny_call (err_call1 F Ce I1.ok.mod I1.bk I1.kIn hms I0 S1 S2 hps hn1 hroom2 fun h2 tk2 dx t0 k1 k2 k3 k4 k5 => ?_)
    refine mk_err (raises_own Ce.exC Ce.tyC) I1 k1 k2 k3 k4 k5 (fun y => ?_) q1
    show RelO ([(f1, v1)].lookup y) _
    by_cases z : y = f1
    · have b : (y == f1) = true := beq_iff_eq.mpr z
      simp only [List.lookup, b, if_pos z]
      exact r1
    · have b : (y == f1) = false := beq_eq_false_iff_ne.mpr z
      simp only [List.lookup, b, if_neg z]
      trivial
end
end T

namespace T
open PySem L2
section
variable {X : Cx} {e : Ent} {pos : Pos}
/-! ### statements where nothing is held aside: what is raised may be wished for -/
def liftS0 (K : PySem.W.Frag) (e : Ent) (t : TDS) : TS := fun E σ H => ∃ (G : Gh) (δ : DSt) (F : DEnds), SS K e .nil G H σ δ ∧ t F δ ∧
  (∀ σ' δ' G' H', Le G G' → SS K e .nil G' H' σ' δ' → F.nx δ' → E.nx σ' H') ∧
  (∀ v d σ' δ' G' H', SS K e .nil G' H' σ' δ' → Rep K G' v d → F.rt d δ' → E.rt v H') ∧
  (∀ σ' δ' G' H', Le G G' → SS K e .nil G' H' σ' δ' → F.bk δ' → E.bk σ' H') ∧
  (∀ σ' δ' G' H', Le G G' → SS K e .nil G' H' σ' δ' → F.ct δ' → E.ct σ' H')
def DS0 (X : Cx) (e : Ent) (st : Stmt) (t : TDS) : Prop := PS X st (liftS0 X.K e t)
def DSs0 (X : Cx) (e : Ent) (st : List Stmt) (t : TDS) : Prop := PSs X st (liftS0 X.K e t)
theorem ds0_of {st : Stmt} {t : TDS} (h : DS X e st t) : DS0 X e st t := ps_imp h fun E σ H ⟨G, δ, F, S, q, n, r, b, c⟩ => ⟨.nil, G, δ, F, S, q, n, r, b, c⟩
theorem dss0_nil : DSs0 X e [] dNext := pss_imp pss_nil fun E σ H ⟨G, δ, F, S, q, n, r, b, c⟩ => n σ δ G H (Le.refl _) S q
theorem dss0_cons {st : Stmt} {rest : List Stmt} {t u : TDS} (h : DS0 X e st t) (hr : DSs0 X e rest u) : DSs0 X e (st :: rest) (dSeq t u) :=
  pss_imp (pss_cons h hr) fun E σ H ⟨G, δ, F, S, q, n, r, b, c⟩ => ⟨G, δ, _, S, q, fun σ' δ' G' H' le S' q' => ⟨G', δ', F, S', q', fun a b' c' d' l2 => n a b' c' d' (le.trans l2), r, fun a b' c' d' l2 => b a b' c' d' (le.trans l2), fun a b' c' d' l2 => c a b' c' d' (le.trans l2)⟩, r, b, c⟩
theorem dss0_one {st : Stmt} {t : TDS} (h : DS0 X e st t) : DSs0 X e [st] t := pss_one h
theorem ds0_if {c : Expr} {a b : List Stmt} {tc : TDT} {t u : TDS} (hc : DT X e c tc) (ha : DSs0 X e a t) (hb : DSs0 X e b u) : DS0 X e (.If c a b pos) (dIfS tc t u) :=
  ps_imp (ps_if hc ha hb) fun E σ H ⟨G, δ, F, S, q, n, r, bk, ct⟩ => ⟨.nil, G, δ, _, S, q, fun k H' G' δ' S' st q' => by
    cases k with
    | true => exact iteT ⟨G', δ', F, S', q', fun a b' c' d' l2 => n a b' c' d' (st.le.trans l2), r, fun a b' c' d' l2 => bk a b' c' d' (st.le.trans l2), fun a b' c' d' l2 => ct a b' c' d' (st.le.trans l2)⟩
    | false => exact iteF ⟨G', δ', F, S', q', fun a b' c' d' l2 => n a b' c' d' (st.le.trans l2), r, fun a b' c' d' l2 => bk a b' c' d' (st.le.trans l2), fun a b' c' d' l2 => ct a b' c' d' (st.le.trans l2)⟩⟩
/-! ### expressions where nothing is held aside -/
def lift0 (K : PySem.W.Frag) (e : Ent) (t : TDE) : TE := fun σ H Q => ∃ (G : Gh) (δ : DSt) (Qd : D → DSt → Prop), SS K e .nil G H σ δ ∧ t δ Qd ∧ ∀ v d H' G' δ', SS K e .nil G' H' σ δ' → Step e G H G' H' → Rep K G' v d → Qd d δ' → Q v H'
def DE0 (X : Cx) (e : Ent) (ex : Expr) (t : TDE) : Prop := PE X ex (lift0 X.K e t)
theorem de0_of {ex : Expr} {t : TDE} (h : DE X e ex t) : DE0 X e ex t := pe_imp h fun σ H Q ⟨G, δ, Qd, S, q, k⟩ => ⟨.nil, G, δ, Qd, S, q, k⟩
theorem ds0_set {i : Nat} {x : Str} {ex : Expr} {t : TDE} {pos' : Pos} (hN : X.N.Nodup) (hi : X.N[i]? = some x) (hx : Loc X.env.scope x) (h : DE0 X e ex t) (hs : swapsWith ex (some (.Name x pos')) pos.line X.env = pure false := by rfl)
    (hf : X.fn x = true ∨ X.env.scope.names.lookup x = some .local := by first | exact .inl rfl | exact .inr rfl | assumption) : DS0 X e (.Assign [.Name x pos'] ex pos) (dAsg t i) :=
  ps_imp (ps_set hN hi hx h hs hf) fun E σ H ⟨G, δ, F, S, q, n, r, b, c⟩ => ⟨G, δ, _, S, q, fun v d H' G' δ' S' st rep q' => n _ _ G' H' st.le (S'.asg rep) q'⟩
/-! ### what is raised -/
abbrev ExD := DSt → Str → List (Str × D) → Prop
def WD (K : PySem.W.Frag) (e : Ent) (ex : ExD) : WX := fun cls d σ H => ∃ (G : Gh) (δ : DSt) (C : Str) (fs : List (Str × D)) (da : Addr) (fvs : List (Str × V)), SS K e .nil G H σ δ ∧ cls = .ref (He.ga K C) ∧ d = some da ∧ G.I da = some (.xd fvs) ∧ fvs.map (·.1) = fs.map (·.1) ∧ RepL K G (fvs.map (·.2)) (fs.map (·.2)) ∧ ex δ C fs
theorem SS.newFz {K : PySem.W.Frag} {T : Tm} {G : Gh} {H : Hp} {σ : St} {δ : DSt} (S : SS K e T G H σ δ) {p : Addr} {o : HO} (hp : H p = none) :
    ∃ G', SS K e T G' (upd H p o) σ δ ∧ Step e G H G' (upd H p o) ∧ G'.I p = some o := by
  obtain ⟨S1, st1, nI, nB, new, ap⟩ := S.new (o := o) hp
  have le := Gh.fz_le (G := G) (l := p) (o := o) nI
  refine ⟨G.fz p o, ⟨S1.ln, S1.ok.fz upd_same nB, S1.stp.trans (Step.fz nI new), S1.s.len, fun i s hs => ?_, S1.s.sep⟩, st1.trans (Step.fz nI new), upd_same⟩
  obtain ⟨x, hx, h⟩ := S1.s.sl i s hs
  refine ⟨x, hx, ?_⟩
  cases s with
  | no => trivial
  | im d => obtain ⟨v, e1, r⟩ := h; exact ⟨v, e1, r.mono le⟩
  | ow d' =>
    obtain ⟨l', rfl, m'⟩ := h
    exact ⟨l', rfl, m'.fz (fun z => ap i d' hs (by rw [hx, z])) nI⟩
/-- raise C(..) -/
def dRaise (ex : ExD) (C : Str) (fs : List Str) (t : TDA) : TDS := fun _ δ => t δ fun ds δ1 => ds.length = fs.length ∧ ex δ1 C (fs.zip ds)
theorem zip_fst {α β : Type} : ∀ {a : List α} {b : List β}, b.length = a.length → (a.zip b).map (·.1) = a
  | [], [], _ => rfl
  | x :: a, y :: b, h => by rw [List.zip_cons_cons, List.map_cons, zip_fst (by simpa using h)]
theorem zip_snd {α β : Type} : ∀ {a : List α} {b : List β}, b.length = a.length → (a.zip b).map (·.2) = b
  | [], [], _ => rfl
  | x :: a, y :: b, h => by rw [List.zip_cons_cons, List.map_cons, zip_snd (by simpa using h)]
theorem ds0_raise {C : Str} {fs : List Str} {ce : Expr} {n : Nat} {t : TDA} {ex : ExD} (hc : X.calm = true) (tk : Takes X (WD X.K e ex)) (he : PMk X ce (tErr (He.ga X.K C) fs (liftA X.K e n t))) : DS0 X e (.Raise (some ce) none pos) (dRaise ex C fs t) :=
  ps_imp (ps_raise hc tk he) fun E σ H ⟨G, δ, F, S, q, _⟩ => ⟨.nil, G, δ, _, S, q, fun vs ds H1 G1 δ1 S1 st1 r _ ⟨hl, hx⟩ => by
    have hl2 : vs.length = fs.length := by rw [r.length]; exact hl
    refine ⟨hl2, fun d hd => ?_⟩
    obtain ⟨G2, S2, st2, i2⟩ := S1.newFz (o := .xd (fs.zip vs)) hd
    refine ⟨G2, δ1, C, fs.zip ds, d, fs.zip vs, S2, rfl, rfl, i2, by rw [zip_fst hl2, zip_fst hl], ?_, hx⟩
    rw [zip_snd hl2, zip_snd hl]
    exact r.mono st2.le⟩
/-- one field, two fields: what the text must say -/
structure Err1 (P : Program) (K : PySem.W.Frag) (mg : Str → Option Value) (C f1 : Str) : Prop where
  ex : ∃ tl B Nn newId initId fI name qual params scope me s1 s2 p1, BaseF tl B Nn newId initId ∧ ErrC P K tl B newId initId (He.ga K C) fI name qual params [s1, s2] scope ∧ IniH name qual params [s1, s2] scope me [p1] ∧ SupSt s1 qual scope ∧ FldSt s2 me f1 p1 qual scope ∧ me ≠ p1 ∧ W.findIn K (.ref (He.ga K C)) f1 = some none
  sup : mg "super" = none
  glo : mg C = some (.ref (He.ga K C))
theorem ds0_raise1 {j : Nat} {C f1 : Str} {a : Expr} {t : TDA} {ex : ExD} {p pos' : Pos} (c : Err1 X.prog X.K X.mg C f1) (hr : Room (j + 1) X.A) (hc : X.calm = true) (tk : Takes X (WD X.K e ex)) (hg : Gl X C) (ha : DA X e [a] t)
    (hdb : (C == ("__debug__" : Str)) = false := by decide) (he : starEach [a] X.env = (false, eval a X.env) :: starEach [] X.env := by rfl) (hpl : (backTo pos' (starEach [] X.env)).any (·.1) = false := by rfl) :
    DS0 X e (.Raise (some (.Call (.Name C p) [a] [] pos')) none pos) (dRaise ex C [f1] t) := by
  obtain ⟨tl, B, Nn, newId, initId, fI, name, qual, params, scope, me, s1, s2, p1, F, Ce, I0, S1, S2, h1, h2⟩ := c.ex
  exact ds0_raise hc tk (pmk_err1 F Ce c.sup I0 S1 S2 h1 h2 hr hg c.glo ha hdb he hpl)
end
end T

namespace T
open PySem L2
/-! ### promises of defs that may raise -/
abbrev SpX := List D → (D → Prop) → (Str → List (Str × D) → Prop) → Prop
/-- an error in hand: its dict, frozen -/
structure XdAt (K : PySem.W.Frag) (G : Gh) (da : Addr) (fs : List (Str × D)) (fvs : List (Str × V)) : Prop where
  at_ : G.I da = some (.xd fvs)
  nm : fvs.map (·.1) = fs.map (·.1)
  rp : RepL K G (fvs.map (·.2)) (fs.map (·.2))
def toSpX (K : PySem.W.Frag) (sd : SpX) : Sp := fun vs H Q E => ∃ (G : Gh) (ds : List D) (Qd : D → Prop) (Ed : Str → List (Str × D) → Prop), GOk G H ∧ RepL K G vs ds ∧ sd ds Qd Ed ∧
  (∀ d v G' H', GOk G' H' → Step ⟨G, H⟩ G H G' H' → Rep K G' v d → Qd d → Q v H') ∧
  (∀ C fs da fvs G' H', GOk G' H' → Step ⟨G, H⟩ G H G' H' → XdAt K G' da fs fvs → Ed C fs → E (.ref (He.ga K C)) (some da) H')
abbrev FnX (P : Program) (w : World) (K : PySem.W.Frag) (mg : Str → Option Value) (base : Heap) (k : Nat) (f : Addr) (sd : SpX) : Prop := FnR P w K mg base (L2.CX P w) k f (toSpX K sd)
section
variable {X : Cx} {e : Ent} {pos : Pos}
/-- f(..), which may raise -/
def dCallX (ex : ExD) (sd : SpX) (t : TDA) : TDE := fun δ Q => t δ fun ds δ1 => sd ds (fun z => Q z δ1) fun C fs => ex δ1 C fs
theorem spX_go {ex : ExD} {sd : SpX} {G G1 : Gh} {H H1 : Hp} {σ : St} {δ1 : DSt} {vs : List V} {ds : List D} {Qd : D → DSt → Prop} {Q : VK} (S1 : SS X.K e .nil G1 H1 σ δ1) (st : Step e G H G1 H1) (rs : RepL X.K G1 vs ds)
    (q : sd ds (fun z => Qd z δ1) fun C fs => ex δ1 C fs) (k : ∀ v d H' G' δ', SS X.K e .nil G' H' σ δ' → Step e G H G' H' → Rep X.K G' v d → Qd d δ' → Q v H') : toSpX X.K sd vs H1 Q (WE (WD X.K e ex) σ) :=
  ⟨G1, ds, _, _, S1.ok, rs, q, fun d' v' G' H' ok c rep qd => by
    obtain ⟨S2, st2⟩ := S1.after ok c
    exact k v' d' H' G' δ1 S2 (st.trans st2) rep qd, fun C fs da fvs G' H' ok c xd hx => by
    obtain ⟨S2, st2⟩ := S1.after ok c
    exact ⟨G', δ1, C, fs, da, fvs, S2, rfl, rfl, xd.at_, xd.nm, xd.rp, hx⟩⟩
/-- o.m(..), which may raise -/
def dMethX (ex : ExD) (C m : Str) (sd : SpX) (ta : TDE) (t : TDA) : TDE := fun δ Q => ta δ fun d δ1 => match insOf d with
  | some (C', fs) => C' = C ∧ fs.lookup m = none ∧ t δ1 fun ds δ2 => sd (.ins C fs :: ds) (fun z => Q z δ2) fun C fs => ex δ2 C fs
  | none => False
end
/-! ### defs that may raise -/
theorem fn_dX {P : Program} {w : World} {K : PySem.W.Frag} {mg : Str → Option Value} {base : Heap} {x qual : Str} {params : Arguments} {body : List Stmt} {scope : Scope} {kws : List (Str × V)} {f : Addr} {fd : FuncData} {N ps : List Str} {k : Nat} {sd : SpX} {t : ExD → TDS}
    (F : FunD K x qual params body scope [] kws f fd) (S : FnScope N ps scope) (B : Binds K fd ps []) (len : ∀ ds Q Ed, sd ds Q Ed → ds.length = ps.length)
    (hb : ∀ (cdv : Value) (A : Around) (outer : List Env) (s : Shared) (H : Hp) (E : XK) (e : Ent) (ex : ExD), Room k (A.deeper (PyProof.Rows.envOfC qual scope s.heap.objs.size f cdv)) → Takes (cxOf (L2.CX P w) P w K mg base N qual scope f cdv A outer s H E) (WD K e ex) →
      PassesOwn (model P w) (cxOf (L2.CX P w) P w K mg base N qual scope f cdv A outer s H E).A (cxOf (L2.CX P w) P w K mg base N qual scope f cdv A outer s H E).env (cxOf (L2.CX P w) P w K mg base N qual scope f cdv A outer s H E).xe → DSs0 (cxOf (L2.CX P w) P w K mg base N qual scope f cdv A outer s H E) e body (t ex))
    (hp : ∀ ds Q Ed, sd ds Q Ed → t (fun _ C fs => Ed C fs) (ends Q) (startD N.length ds)) : FnX P w K mg base (k + 1) f sd := by
  obtain ⟨oc, od, dV, kV, doc, pm, an, cdv, ct, osl, rfl, lk, hcd, hD, _⟩ := F.ex
  have F1 := fn_of (CX := L2.CX P w) (P := P) (w := w) (mg := mg) (base := base) (k := k) (sp := toSpX K sd) lk hcd S (fun vs H Q E h => by
    obtain ⟨G, ds, Qd, Ed, ok, r, q, _⟩ := h
    rw [r.length]
    exact len ds Qd Ed q) (fun A outer s H vs Q E hr h => by
    obtain ⟨G, ds, Qd, Ed, ok, r, q, kn, kx⟩ := h
    have tk : Takes (cxOf (L2.CX P w) P w K mg base N qual scope f cdv A outer s H E) (fun cls d _ H => E cls d H) := takes_of rfl rfl rfl rfl
    refine ⟨_, hb cdv A outer s H E ⟨G, H⟩ (fun _ C fs => Ed C fs) hr (tk.imp fun cls d σ H' ⟨G', δ, C, fs, da, fvs, S', h1, h2, h3, h4, h5, h6⟩ => ?_) (passes_of rfl), G, startD N.length ds, _, start_ss ok r, hp ds Qd Ed q, fun σ' δ' G' H' le S' q' => kn .non .non G' H' S'.ok S'.stp .non q', fun v d σ' δ' G' H' S' rep q' => kn d v G' H' S'.ok S'.stp rep q', fun _ _ _ _ _ _ q' => q'.elim, fun _ _ _ _ _ _ q' => q'.elim⟩
    subst h1
    subst h2
    exact kx C fs da fvs G' H' S'.ok S'.stp ⟨h3, h4, h5⟩ h6)
  exact (F1.raw B .nil).imp fun vs H Q E h => by rw [List.append_nil]; exact h
end T

namespace T
open PySem L2
/-! ### def f(a, .., *v) that may raise -/
/-! ### except suites -/
theorem XdAt.mono {K : PySem.W.Frag} {G G' : Gh} {da : Addr} {fs : List (Str × D)} {fvs : List (Str × V)} (x : XdAt K G da fs fvs) (l : Le G G') : XdAt K G' da fs fvs := ⟨l.I _ _ x.at_, x.nm, x.rp.mono l⟩
theorem Sts.setNone {K : PySem.W.Frag} {e : Ent} {G : Gh} {H : Hp} {σ : St} {δ : DSt} (S : Sts K e G H σ δ) (i : Nat) : Sts K e G H (σ.set i none) (δ.set i .no) where
  ok := S.ok
  stp := S.stp
  len := by rw [List.length_set, List.length_set]; exact S.len
  sl := fun j s h => by
    by_cases hj : i = j
    · subst hj
      have hl : i < δ.length := by have := lt_of_get h; rwa [List.length_set] at this
      rw [List.getElem?_set_self hl] at h
      cases h
      exact ⟨none, List.getElem?_set_self (by rw [S.len]; exact hl), trivial⟩
    · rw [List.getElem?_set_ne hj] at h
      obtain ⟨o, h1, h2⟩ := S.sl j s h
      exact ⟨o, by rw [List.getElem?_set_ne hj]; exact h1, h2⟩
  sep := fun a b da db l hab h1 h2 h3 h4 => by
    have na : i ≠ a := fun z => by
      subst z
      have hl : i < δ.length := by have := lt_of_get h1; rwa [List.length_set] at this
      rw [List.getElem?_set_self hl] at h1
      cases h1
    have nb : i ≠ b := fun z => by
      subst z
      have hl : i < δ.length := by have := lt_of_get h2; rwa [List.length_set] at this
      rw [List.getElem?_set_self hl] at h2
      cases h2
    rw [List.getElem?_set_ne na] at h1 h3
    rw [List.getElem?_set_ne nb] at h2 h4
    exact S.sep a b da db l hab h1 h2 h3 h4
end T

namespace T
open PySem L2
section
variable {X : Cx} {e : Ent} {pos : Pos}
theorem SS.setNone {K : PySem.W.Frag} {T : Tm} {G : Gh} {H : Hp} {σ : St} {δ : DSt} (S : SS K e T G H σ δ) (i : Nat) : SS K e T G H (σ.set i none) (δ.set i .no) := by
  by_cases hi : i < δ.length
  · have a := S.s.setNone i
    rw [set_app hi, set_app (by rw [← S.ln]; exact hi)] at a
    exact ⟨by rw [List.length_set, List.length_set]; exact S.ln, a⟩
  · rw [set_out hi, set_out (by rw [← S.ln]; exact hi)]
    exact S
/-- what is known in a suite: the error at a, of the class C, with these fields, in slot i -/
structure Su where
  i : Nat
  a : Addr
  C : Str
  da : Addr
  fs : List (Str × D)
  fvs : List (Str × V)
def liftSu (K : PySem.W.Frag) (e : Ent) (u : Su) (t : TDS) : TS := fun E σ H => ∃ (G : Gh) (δ : DSt) (F : DEnds), SS K e .nil G H σ δ ∧ XdAt K G u.da u.fs u.fvs ∧ δ[u.i]? = some (.im (.ref u.a)) ∧ t F δ ∧
  (∀ σ' δ' G' H', Le G G' → SS K e .nil G' H' σ' δ' → F.nx δ' → E.nx σ' H') ∧
  (∀ v d σ' δ' G' H', SS K e .nil G' H' σ' δ' → Rep K G' v d → F.rt d δ' → E.rt v H') ∧
  (∀ σ' δ' G' H', Le G G' → SS K e .nil G' H' σ' δ' → F.bk δ' → E.bk σ' H') ∧
  (∀ σ' δ' G' H', Le G G' → SS K e .nil G' H' σ' δ' → F.ct δ' → E.ct σ' H')
def liftEu (K : PySem.W.Frag) (e : Ent) (u : Su) (t : TDE) : TE := fun σ H Q => ∃ (G : Gh) (δ : DSt) (Qd : D → DSt → Prop), SS K e .nil G H σ δ ∧ XdAt K G u.da u.fs u.fvs ∧ δ[u.i]? = some (.im (.ref u.a)) ∧ t δ Qd ∧ ∀ v d H' G', SS K e .nil G' H' σ δ → Step e G H G' H' → Rep K G' v d → Qd d δ → Q v H'
def liftAu (K : PySem.W.Frag) (e : Ent) (u : Su) (n : Nat) (t : TDA) : TA := fun σ H Q => ∃ (G : Gh) (δ : DSt) (Qd : List D → DSt → Prop), SS K e .nil G H σ δ ∧ XdAt K G u.da u.fs u.fvs ∧ δ[u.i]? = some (.im (.ref u.a)) ∧ t δ Qd ∧ ∀ vs ds H' G', SS K e .nil G' H' σ δ → Step e G H G' H' → RepL K G' vs ds → ds.length = n → Qd ds δ → Q vs H'
/-- an expression of a suite (it leaves the names alone) -/
def DEu (X : Cx) (e : Ent) (u : Su) (ex : Expr) (t : TDE) : Prop := PE X ex (liftEu X.K e u t)
def DAu (X : Cx) (e : Ent) (u : Su) (es : List Expr) (t : TDA) : Prop := PA X es (liftAu X.K e u es.length t)
def DSu (X : Cx) (e : Ent) (u : Su) (st : Stmt) (t : TDS) : Prop := PS X st (liftSu X.K e u t)
def DSsu (X : Cx) (e : Ent) (u : Su) (st : List Stmt) (t : TDS) : Prop := PSs X st (liftSu X.K e u t)
/-- a reading that leaves the slots alone -/
def Still (t : TDE) : Prop := ∀ δ Q, t δ Q → t δ fun d δ' => δ' = δ ∧ Q d δ
theorem eu_of {u : Su} {ex : Expr} {t : TDE} (h : DE X e ex t) (hs : Still t) : DEu X e u ex t := pe_imp h fun σ H Q ⟨G, δ, Qd, S, x, hi, q, k⟩ => ⟨.nil, G, δ, _, S, hs δ Qd q, fun v d H' G' δ' S' st rep q' => by
  obtain ⟨rfl, q'⟩ := q'
  exact k v d H' G' S' st rep q'⟩
theorem still_c {d : D} : Still (dC d) := fun δ Q q => ⟨rfl, q⟩
theorem au_nil {u : Su} : DAu X e u [] dNil := pa_imp pa_nil fun σ H Q ⟨G, δ, Qd, S, x, hi, q, k⟩ => k [] [] H G S Step.refl .nil rfl q
theorem au_cons {u : Su} {ex : Expr} {es : List Expr} {t : TDE} {r : TDA} (h : DEu X e u ex t) (hr : DAu X e u es r) (hs : starEach (ex :: es) X.env = (false, eval ex X.env) :: starEach es X.env := by rfl) (st1 : ∀ δ Q, t δ Q → t δ fun d δ' => δ' = δ ∧ Q d δ) : DAu X e u (ex :: es) (dCons t r) :=
  pa_imp (pa_cons h hr hs) fun σ H Q ⟨G, δ, Qd, S, x, hi, q, k⟩ => ⟨G, δ, _, S, x, hi, st1 δ _ q, fun v d H' G' S' st' rep q' => ⟨G', δ, fun ds δ2 => Qd (d :: ds) δ2, S', x.mono st'.le, hi, q'.2, fun vs ds H2 G2 S2 st2 rl len q2 =>
    k (v :: vs) (d :: ds) H2 G2 S2 (st'.trans st2) (.cons (rep.mono st2.le) rl) (by simp [len]) q2⟩⟩
theorem eu_tup {u : Su} {es : List Expr} {t : TDA} {x1} (h : DAu X e u es t) (hl : es.length ≤ 1000 := by decide) : DEu X e u (.Tuple es x1 pos) (dTup t) :=
  pe_imp (pe_tup h) fun σ H Q ⟨G, δ, Qd, S, x, hi, q, k⟩ => ⟨G, δ, _, S, x, hi, q, fun vs ds H1 G1 S1 st1 r len q1 => ⟨by rw [r.length, len]; exact le_line hl, fun p hp => by
    obtain ⟨G2, S2, st2, rep⟩ := S1.newTup r hp
    exact k _ _ _ G2 S2 (st1.trans st2) rep q1⟩⟩
/-- err.f -/
def dXf (fs : List (Str × D)) (f : Str) : TDE := fun δ Q => ∃ d, fs.lookup f = some d ∧ Q d δ
theorem look_repX {K : PySem.W.Frag} {G : Gh} {f : Str} {d : D} : ∀ {fvs : List (Str × V)} {fs : List (Str × D)}, fvs.map (·.1) = fs.map (·.1) → RepL K G (fvs.map (·.2)) (fs.map (·.2)) → fs.lookup f = some d → ∃ v, fvs.lookup f = some v ∧ Rep K G v d
  | [], [], _, _, h => by cases h
  | [], _ :: _, h, _, _ => by cases h
  | _ :: _, [], h, _, _ => by cases h
  | (a, v) :: r, (b, d') :: s, h, rl, hd => by
    simp only [List.map_cons, List.cons.injEq] at h
    obtain ⟨h1, h2⟩ := h
    cases rl with
    | cons r1 r2 =>
      have h1 : a = b := h1
      subst h1
      unfold List.lookup at hd ⊢
      cases hb : f == a with
      | true => rw [hb] at hd; cases hd; exact ⟨v, rfl, r1⟩
      | false => rw [hb] at hd; exact look_repX h2 r2 hd
theorem eu_xf {u : Su} {oe : Obj} {pn : List (Addr × Obj)} {ex : Expr} {f : Str} (Tx : XfC X.K (He.ga X.K u.C)) (hno : PySem.W.findIn X.K (.ref (He.ga X.K u.C)) f = some none) (hz : Zc (.ref (He.ga X.K u.C)) (some u.da) oe) (hf : ∃ vs, oe.data = .fields vs)
    (he : PE (X.suite u.a ((u.a, oe) :: pn)) ex (tVar u.i)) (hb : attributeBase ex f X.env (eval ex X.env) = eval ex X.env := by rfl) : DEu (X.suite u.a ((u.a, oe) :: pn)) e u (.Attribute ex f pos) (dXf u.fs f) :=
  pe_imp (pe_xf Tx hno hz hf he hb) fun σ H Q ⟨G, δ, Qd, S, x, hi, ⟨d, hd, q⟩, k⟩ => by
    obtain ⟨o, ho, v, rfl, rv⟩ := S.sl _ _ hi
    obtain ⟨w, hw, rw'⟩ := look_repX x.nm x.rp hd
    refine ⟨v, ho, ?_, rfl, u.da, u.fvs, w, rfl, S.ok.sub _ _ x.at_, hw, k w d H G S Step.refl rw' q⟩
    cases rv
    rfl
theorem still_xf {fs : List (Str × D)} {f : Str} : Still (dXf fs f) := fun δ Q ⟨d, hd, q⟩ => ⟨d, hd, rfl, q⟩
/-- isinstance(err, c) -/
def dIsE (ms : List (Str × Bool)) (C : Str) : TDE := fun δ Q => ∃ b, (C, b) ∈ ms ∧ Q (.bl b) δ
def IsEOk (K : PySem.W.Frag) (c : Value) (ms : List (Str × Bool)) : Prop := ∀ p ∈ ms, PySem.W.kitOne K (.ref (He.ga K p.1)) c = some p.2
theorem call_isX {a D da : Addr} {oe : Obj} {pn : List (Addr × Obj)} (C : ExcC X.K D) (hz : Zc (.ref D) (some da) oe) (hf : ∃ vs, oe.data = .fields vs) : CallR (X.suite a ((a, oe) :: pn)) (.builtin "isinstance") (fun xs H Q => ∃ (c : V) (cv : Value) (b : Bool) (fvs : List (Str × V)), xs = [.ref a, c] ∧ (∀ u, RelV c u → u = cv) ∧ PySem.W.kitOne X.K (.ref D) cv = some b ∧ H da = some (.xd fvs) ∧ Q (.bl b) H) := by
  intro pins s σ H xs us Q I r h
  obtain ⟨c, cv, b, fvs, rfl, hcv, e, hda, q⟩ := h
  cases r with
  | cons rx rr =>
    cases rr with
    | cons rt rr =>
      cases rr
      cases rx
      have ec := hcv _ rt
      subst ec
      obtain ⟨hget, _⟩ := I.pin (a, oe) (List.mem_append.mpr (.inl List.mem_cons_self))
      obtain ⟨vs, hv⟩ := hf
      have hx : ObjOk X.prog X.w H s.heap da (.xd fvs) := I.hok da _ hda
      obtain ⟨mA, hns, _⟩ := hx
      obtain ⟨od, ho, hl⟩ := lookIn_ns hns
      have J : PySem.W.InstAt s.heap a oe D (some od) := ⟨hget, hz.1, by unfold PySem.W.notCls; rw [hv] <;> rfl, by rw [hz.2]; exact ho⟩
      obtain ⟨cd, hcd, _⟩ := PySem.W.any_some C.hd
      exact PySem.W.kia_one (PySem.W.kitx_exc (by rw [hcd]; rfl) C.hg C.hk C.hs C.ha C.hn C.ht C.hm) I.kIn J e (fun z => nomatch z) fun tk => ⟨.bl b, H, I.kept (t' := tk) fun _ _ z => z, rfl, q⟩
/-- the class that isinstance is asked: a global class, or a built-in one -/
theorem eu_isE {u : Su} {oe : Obj} {pn : List (Addr × Obj)} {ex cx : Expr} {cv : V} {c : Value} {ms : List (Str × Bool)} {p : Pos} (C : ExcC X.K (He.ga X.K u.C)) (hz : Zc (.ref (He.ga X.K u.C)) (some u.da) oe) (hf : ∃ vs, oe.data = .fields vs) (hms : IsEOk X.K c ms)
    (he : PE (X.suite u.a ((u.a, oe) :: pn)) ex (tVar u.i)) (hc : PE (X.suite u.a ((u.a, oe) :: pn)) cx (tC cv)) (hcv : ∀ w, RelV cv w → w = c) (hg : Gl X "isinstance") (hm : X.mg "isinstance" = none)
    (hs : starEach (ex :: [cx]) X.env = (false, eval ex X.env) :: starEach [cx] X.env := by rfl) (hs2 : starEach (cx :: []) X.env = (false, eval cx X.env) :: starEach [] X.env := by rfl) (hpl : (backTo pos (starEach [cx] X.env)).any (·.1) = false := by rfl) :
    DEu (X.suite u.a ((u.a, oe) :: pn)) e u (.Call (.Name "isinstance" p) [ex, cx] [] pos) (dIsE ms u.C) := by
  have hm' : (X.suite u.a ((u.a, oe) :: pn)).mg "isinstance" = none := hm
  refine pe_imp (pe_callB (X := X.suite u.a ((u.a, oe) :: pn)) (call_isX C hz hf) hg hm' (by decide +kernel) (pa_cons he (pa_cons hc pa_nil hs2) hs) (by decide) (by decide) hs hpl) fun σ H Q ⟨G, δ, Qd, S, x, hi, ⟨b, hb, q⟩, k⟩ => ?_
  obtain ⟨o, ho, v, rfl, rv⟩ := S.sl _ _ hi
  have ev : v = .ref u.a := by cases rv; rfl
  subst ev
  exact ⟨_, ho, cv, c, b, u.fvs, rfl, hcv, hms _ hb, S.ok.sub _ _ x.at_, k _ _ H G S Step.refl (.bl b) q⟩
theorem su_set {u : Su} {i : Nat} {x : Str} {ex : Expr} {t : TDE} {pos' : Pos} (hN : X.N.Nodup) (hi : X.N[i]? = some x) (hx : Loc X.env.scope x) (h : DEu X e u ex t) (hs : swapsWith ex (some (.Name x pos')) pos.line X.env = pure false := by rfl)
    (hf : X.fn x = true ∨ X.env.scope.names.lookup x = some .local := by first | exact .inl rfl | exact .inr rfl | assumption) : DSu X e u (.Assign [.Name x pos'] ex pos) (dAsg t i) :=
  ps_imp (ps_set hN hi hx h hs hf) fun E σ H ⟨G, δ, F, S, xd, hi, q, n, r, b, c⟩ => ⟨G, δ, _, S, xd, hi, q, fun v d H' G' S' st rep q' => n _ _ G' H' st.le (S'.asg rep) q'⟩
theorem sus_one {u : Su} {st : Stmt} {t : TDS} (h : DSu X e u st t) : DSsu X e u [st] t := pss_one h
/-! ### a try's body: entered anew -/
def noOw (δ : DSt) : Bool := δ.all fun s => match s with | .ow _ => false | _ => true
theorem noOw_get {δ : DSt} (h : noOw δ = true) {i : Nat} {d : D} (hi : δ[i]? = some (.ow d)) : False := by
  have := List.all_eq_true.mp h _ (List.mem_of_getElem? hi)
  cases this
theorem SS.enter {K : PySem.W.Frag} {G : Gh} {H : Hp} {σ : St} {δ : DSt} (S : SS K e .nil G H σ δ) (h : noOw δ = true) : SS K ⟨G, H⟩ .nil G H σ δ := by
  refine ⟨S.ln, S.ok, Step.refl, S.s.len, fun i s hs => ?_, fun i j di dj l hij h1 _ _ _ => ?_⟩
  · obtain ⟨o, ho, q⟩ := S.s.sl i s hs
    refine ⟨o, ho, ?_⟩
    cases s with
    | no => trivial
    | im d => exact q
    | ow d =>
      simp only [Tm.nil, List.append_nil] at hs
      exact (noOw_get h hs).elim
  · simp only [Tm.nil, List.append_nil] at h1
    exact noOw_get h h1
theorem SS.back {K : PySem.W.Frag} {G G1 : Gh} {H H1 : Hp} {σ0 σ : St} {δ0 δ : DSt} (S0 : SS K e .nil G H σ0 δ0) (S : SS K ⟨G, H⟩ .nil G1 H1 σ δ) : SS K e .nil G1 H1 σ δ ∧ Le G G1 := by
  have c : Step ⟨G, H⟩ G H G1 H1 := S.stp
  have hs : ∀ a, (e.H a).isSome = true → (H a).isSome = true := fun a h => S0.stp.dom a h h
  have st : Step e G H G1 H1 := ⟨c.le, fun a h n => c.old a (hs a h) (S0.stp.noB a h n), fun a h n => c.noI a (hs a h) n, fun a h n => c.noB a (hs a h) n, fun a h q => c.dom a (hs a h) q⟩
  refine ⟨⟨S.ln, S.ok, S0.stp.trans st, S.s.len, fun i s h => ?_, S.s.sep⟩, c.le⟩
  obtain ⟨o, ho, q⟩ := S.s.sl i s h
  refine ⟨o, ho, ?_⟩
  cases s with
  | no => trivial
  | im d => exact q
  | ow d =>
    obtain ⟨l, e1, m⟩ := q
    refine ⟨l, e1, m.own, m.nI, m.nB, ?_⟩
    cases he : e.H l with
    | none => rfl
    | some o' =>
      have h1 := hs l (by rw [he]; rfl)
      have h2 : H l = none := m.new
      rw [h2] at h1
      cases h1
/-! ### try .. except c as n -/
def ExOk (K : PySem.W.Frag) (c : Value) (ms : List (Str × Bool)) : Prop := ∀ p ∈ ms, PySem.W.exmOne K (.ref (He.ga K p.1)) c = some p.2
/-- what the body's errors meet -/
def exTry (i : Nat) (ms : List (Str × Bool)) (exo : ExD) (ts : Str → List (Str × D) → TDS) (F : DEnds) : ExD := fun δ C fs => i < δ.length ∧ ∃ b, (C, b) ∈ ms ∧
  (b = true → ∀ a, ts C fs { nx := fun δ2 => F.nx (δ2.set i .no), rt := F.rt, bk := fun δ2 => F.bk (δ2.set i .no), ct := fun δ2 => F.ct (δ2.set i .no) } (δ.set i (.im (.ref a)))) ∧ (b = false → exo δ C fs)
def dTryAs (i : Nat) (ms : List (Str × Bool)) (exo : ExD) (tb : ExD → TDS) (ts : Str → List (Str × D) → TDS) : TDS := fun F δ => noOw δ = true ∧ tb (exTry i ms exo ts F) F δ
theorem pss_ex {α : Type} {st : List Stmt} {t : α → TS} (h : ∀ x, PSs X st (t x)) : PSs X st (fun E σ H => ∃ x, t x E σ H) := ⟨fun pins s σ H E I ⟨x, q⟩ => (h x).run pins s σ H E I q⟩
theorem pss_and {p : Prop} {st : List Stmt} {t : TS} (h : p → PSs X st t) : PSs X st (fun E σ H => p ∧ t E σ H) := ⟨fun pins s σ H E I ⟨x, q⟩ => (h x).run pins s σ H E I q⟩
end
end T

namespace T
open PySem L2
/-! ### the head: __init__ defs that say super() -/
theorem obYG_eq {n : Nat} {ts : List Tst} {ds ys : List DefX} {g : Addr → Option Obj} {s : Shared} (h : ∀ a, g a = s.heap.get? a) : obYG n ts ds ys g = (hookY n ts ds ys).obs s := by
  have z : g = s.heap.get? := funext h
  subst z
  rfl
section
variable {ts : List Tst} {ds ys : List DefX} {K : PySem.W.Frag}
theorem SaysY.x (c : SaysY ts ds ys K) : SaysX ts ds K := by
  have h1 := congrArg Prod.fst c
  have h2 : (ds.map fun d => fnAt K (d.ad K)) ++ (ys.map fun d => fnAtY K (d.ad K)) = ds.map DefX.says ++ ys.map DefX.says := congrArg Prod.snd c
  have h3 := (List.append_inj h2 (by rw [List.length_map, List.length_map])).1
  exact Prod.ext h1 h3
theorem SaysY.y (c : SaysY ts ds ys K) (i : Nat) {d : DefX} (h : ys[i]? = some d := by rfl) : fnAtY K (d.ad K) = d.says := by
  have h2 : (ds.map fun d => fnAt K (d.ad K)) ++ (ys.map fun d => fnAtY K (d.ad K)) = ds.map DefX.says ++ ys.map DefX.says := congrArg Prod.snd c
  have h3 := (List.append_inj h2 (by rw [List.length_map, List.length_map])).2
  have e2 : (ys.map fun d => fnAtY K (d.ad K))[i]? = (ys.map DefX.says)[i]? := by rw [h3]
  rw [List.getElem?_map, List.getElem?_map, h] at e2
  exact Option.some.inj e2
end
theorem arr6 {α : Type} {a : Array α} (h : a.size = 6) : ∃ x0 x1 x2 x3 x4 x5, a = #[x0, x1, x2, x3, x4, x5] := by
  obtain ⟨l⟩ := a
  match l, h with
  | [x0, x1, x2, x3, x4, x5], _ => exact ⟨x0, x1, x2, x3, x4, x5, rfl⟩
theorem clsT_ok {K : PySem.W.Frag} {C : Addr} {tl : List Value} {newId initId : String} (h : clsT K C tl newId initId = true) :
    ∃ nm q N bs bm sn sub ab col dd k0 k1 k2 k3 k5, K.lookup C = some (excClassObj nm q C N bs bm true sn sub ab col dd k0 k1 k2 k3 k5 newId) ∧ refsT tl bm = true ∧ PySem.W.alongIn K "__init__" bm = some (some (.builtin initId)) := by
  unfold clsT at h
  cases hl : K.lookup C with
  | none => rw [hl] at h; cases h
  | some o =>
    rw [hl] at h
    obtain ⟨oc, od, dt, osl⟩ := o
    cases dt with
    | cls cd =>
      obtain ⟨nm, bs, mro, ns, qn, hd, sn, sb, ab, col, del⟩ := cd
      obtain ⟨c1, h⟩ := He.ba (show ((oc == Value.type "type") && ((osl.size == 6) && ((osl[4]? == some (some (.builtin newId))) && (hd && (!del && ((mro.head? == some (.ref C)) && (refsT tl mro.tail && He.eqO (PySem.W.alongIn K "__init__" mro.tail) (some (some (.builtin initId)))))))))) = true from h)
      obtain ⟨c2, h⟩ := He.ba h
      obtain ⟨c3, h⟩ := He.ba h
      obtain ⟨c4, h⟩ := He.ba h
      obtain ⟨c5, h⟩ := He.ba h
      obtain ⟨c6, h⟩ := He.ba h
      obtain ⟨c7, c8⟩ := He.ba h
      obtain ⟨x0, x1, x2, x3, x4, x5, rfl⟩ := arr6 (beq_iff_eq.mp c2)
      have e1 : oc = .type "type" := beq_iff_eq.mp c1
      have e3 : some x4 = some (some (Value.builtin newId)) := beq_iff_eq.mp c3
      have e4 : hd = true := c4
      have e5 : del = false := by simpa using c5
      have e6 := beq_iff_eq.mp c6
      cases mro with
      | nil => cases e6
      | cons a r =>
        have e7 : a = .ref C := Option.some.inj e6
        have e8 := Option.some.inj e3
        subst e1 e4 e5 e7 e8
        exact ⟨nm, qn, ns, bs, r, sn, sb, ab, col, od, x0, x1, x2, x3, x5, rfl, c7, He.eqO_ok c8⟩
    | _ => cases h
theorem iniT_ok {P : Program} {K : PySem.W.Frag} {f C : Addr} {d : DefX} {file : Str} (h : iniT K f C d.ql file = true) (e : fnAtY K f = d.says) (hP : P.main.file = file) :
    ∃ oc od osl dV kV doc pm an cda ct cc, K.lookup f = some ⟨oc, od, .func (PySem.W.ksFn d.nm d.ql (defArgs d.st) (defBody d.st) (defScope d.st) dV kV doc pm an (.ref cda) ct cc), osl⟩ ∧
    (∃ ccl cdd vs ccs file tf, K.lookup cda = some ⟨ccl, cdd, .fields vs, ccs⟩ ∧ vs[2]? = some (.str file tf) ∧ ((P.main.file : Str) == file) = true) ∧
    (∃ cl cld csl, K.lookup cc = some ⟨cl, cld, .cell (some (.ref C)), csl⟩) ∧ PySem.W.codeIn K (.ref cda) d.ql = true ∧ dV = .none := by
  unfold iniT at h
  unfold fnAtY at e
  cases hl : K.lookup f with
  | none => rw [hl] at h; cases h
  | some o =>
    rw [hl] at h e
    obtain ⟨oc, od, dt, osl⟩ := o
    cases dt with
    | func u =>
      obtain ⟨y1, y2, y3, y4, y5, y6, y7, y8, y9, y10, y11, y12, y13, y14, y15⟩ := u
      have e2 : (some (y1, y2, y3, y4, y5, y6, [], y15) : He.FnW) = some (d.nm, d.ql, defArgs d.st, .stmts (defBody d.st), defScope d.st, mainGlobals, [], builtinsNs) := e
      simp only [Option.some.injEq, Prod.mk.injEq] at e2
      obtain ⟨z1, z2, z3, z4, z5, z6, _, z8⟩ := e2
      subst z1 z2 z3 z4 z5 z6 z8
      obtain ⟨c1, h⟩ := He.ba h
      obtain ⟨c2, c3⟩ := He.ba h
      have c2 : y8 = .none := beq_iff_eq.mp c2
      subst c2
      cases y7 with
      | nil => cases c1
      | cons p r => cases r with
        | cons _ _ => cases c1
        | nil =>
          obtain ⟨n, cc⟩ := p
          obtain ⟨c4, c5⟩ := He.ba (show ((n == "__class__") && (match K.lookup cc with | some oc => (match oc.data with | .cell (some (.ref D)) => D == C | _ => false) | none => false)) = true from c1)
          have c4 : n = "__class__" := beq_iff_eq.mp c4
          subst c4
          cases hcc : K.lookup cc with
          | none => rw [hcc] at c5; cases c5
          | some oc2 =>
            rw [hcc] at c5
            obtain ⟨a1, a2, dt2, a4⟩ := oc2
            cases dt2 with
            | cell ov => cases ov with
              | none => cases c5
              | some v => cases v with
                | ref D =>
                  have c5 : D = C := beq_iff_eq.mp (show (D == C) = true from c5)
                  subst c5
                  cases y13 with
                  | ref cda =>
                    obtain ⟨c6, c7⟩ := He.ba (show (PySem.W.codeIn K (.ref cda) d.ql && (match K.lookup cda with | some o2 => (match o2.data with | .fields vs => (match (vs[2]? : Option Value) with | some (.str fl _) => fl == file | _ => false) | _ => false) | none => false)) = true from c3)
                    cases ho2 : K.lookup cda with
                    | none => rw [ho2] at c7; cases c7
                    | some o2 =>
                      rw [ho2] at c7
                      obtain ⟨b1, b2, dt3, b4⟩ := o2
                      cases dt3 with
                      | fields vs =>
                        cases hfl : (vs[2]? : Option Value) with
                        | none =>
                          have c7 : (match (vs[2]? : Option Value) with | some (.str fl _) => fl == file | _ => false) = true := c7
                          rw [hfl] at c7; cases c7
                        | some fv =>
                          have c7 : (match (vs[2]? : Option Value) with | some (.str fl _) => fl == file | _ => false) = true := c7
                          rw [hfl] at c7
                          cases fv with
                          | str fl tf =>
                            have c7 : fl = file := beq_iff_eq.mp (show (fl == file) = true from c7)
                            subst c7
                            exact ⟨oc, od, osl, .none, y9, y10, y11, y12, cda, y14, cc, rfl, ⟨b1, b2, vs, b4, fl, tf, ho2, hfl, by rw [hP]; exact beq_self_eq_true _⟩, ⟨a1, a2, a4, hcc⟩, c6, rfl⟩
                          | _ => cases c7
                      | _ => cases c7
                  | _ => cases c3
                | _ => cases c5
            | _ => cases c5
    | _ => cases h
theorem errT_ok {P : Program} {K : PySem.W.Frag} {C : Str} {tl : List Value} {B newId initId : String} {d : DefX} {file : Str} {fs : List Str} (h : errT C tl newId initId d.ql file fs K = true) (e : fnAtY K (He.ma K (He.ga K C) "__init__") = d.says) (hP : P.main.file = file) (hS : (P.main.scope.names.lookup ("super" : Str)).isSome = false) :
    ErrC P K tl B newId initId (He.ga K C) (He.ma K (He.ga K C) "__init__") d.nm d.ql (defArgs d.st) (defBody d.st) (defScope d.st) ∧ ∀ f ∈ fs, PySem.W.findIn K (.ref (He.ga K C)) f = some none := by
  obtain ⟨c1, h⟩ := He.ba h
  obtain ⟨c2, h⟩ := He.ba h
  obtain ⟨c3, h⟩ := He.ba h
  obtain ⟨c4, h⟩ := He.ba h
  obtain ⟨c5, h⟩ := He.ba h
  obtain ⟨c6, h⟩ := He.ba h
  obtain ⟨c7, h⟩ := He.ba h
  obtain ⟨c8, h⟩ := He.ba h
  obtain ⟨c9, c10⟩ := He.ba h
  exact ⟨⟨clsT_ok c1, iniT_ok c2 e hP, He.eqO_ok c3, of_decide_eq_true c4, He.eqO_ok c5, of_decide_eq_true c6, of_decide_eq_true c7, c8, He.eqO_ok c9, hS⟩, fun f hf => He.eqO_ok (List.all_eq_true.mp c10 f hf)⟩
theorem excT_ok {K : PySem.W.Frag} {C : Str} (h : excT C K = true) : ExcC K (He.ga K C) ∧ XfC K (He.ga K C) := by
  obtain ⟨c1, h⟩ := He.ba h
  obtain ⟨c2, h⟩ := He.ba h
  obtain ⟨c3, h⟩ := He.ba h
  obtain ⟨c4, h⟩ := He.ba h
  obtain ⟨c5, h⟩ := He.ba h
  obtain ⟨c6, h⟩ := He.ba h
  obtain ⟨c7, c8⟩ := He.ba h
  exact ⟨⟨He.eqO_ok c1, He.eqO_ok c2, of_decide_eq_true c3, c4, He.eqO_ok c5, He.eqO_ok c6, of_decide_eq_true c7, of_decide_eq_true c8⟩, ⟨He.eqO_ok c1, He.eqO_ok c2, of_decide_eq_true c3, c4⟩⟩
theorem exT_ok {K : PySem.W.Frag} {c : PySem.W.Frag → Value} {ms : List (Str × Bool)} (h : exT c ms K = true) : ExOk K (c K) ms := fun p hp => of_decide_eq_true (List.all_eq_true.mp h p hp)
theorem isT_ok {K : PySem.W.Frag} {c : PySem.W.Frag → Value} {ms : List (Str × Bool)} (h : isT c ms K = true) : IsEOk K (c K) ms := fun p hp => of_decide_eq_true (List.all_eq_true.mp h p hp)
/-- a def with a try, that nothing leaves -/
theorem fn_d0 {P : Program} {w : World} {K : PySem.W.Frag} {mg : Str → Option Value} {base : Heap} {x qual : Str} {params : Arguments} {body : List Stmt} {scope : Scope} {dvs : List V} {kws : List (Str × V)} {f : Addr} {fd : FuncData} {N ps : List Str} {k : Nat} {sd : SpD} {t : TDS}
    (F : FunD K x qual params body scope dvs kws f fd) (S : FnScope N ps scope) (len : ∀ ds Q, sd ds Q → ds.length = ps.length)
    (hb : ∀ (cdv : Value) (A : Around) (outer : List Env) (s : Shared) (H : Hp) (E : XK) (e : Ent), Room k (A.deeper (PyProof.Rows.envOfC qual scope s.heap.objs.size f cdv)) → DSs0 (cxF P w K mg base N qual scope f cdv A outer s H E) e body t)
    (hp : ∀ ds Q, sd ds Q → t (ends Q) (startD N.length ds)) : FnOk P w K mg base CX0 (k + 1) f fd ps (toSp K sd) := by
  refine F.ok S (fun vs H Q E h => ?_) (fun cdv A outer s H vs Q E hr h => ?_)
  · obtain ⟨G, ds, Qd, ok, r, q, _⟩ := h
    rw [r.length]
    exact len ds Qd q
  · obtain ⟨G, ds, Qd, ok, r, q, kk⟩ := h
    refine ⟨_, PSs.nox (hb cdv A outer s H E ⟨G, H⟩ hr), G, startD N.length ds, _, start_ss ok r, hp ds Qd q, fun σ' δ' G' H' le S' q' => ?_, fun v d σ' δ' G' H' S' rep q' => kk d v G' H' S'.ok S'.stp rep q', fun _ _ _ _ _ _ q' => q'.elim, fun _ _ _ _ _ _ q' => q'.elim⟩
    exact kk .non .non G' H' S'.ok S'.stp .non q'
theorem takes_never {X : Cx} {e : Ent} : Takes X (WD X.K e fun _ _ _ => False) := takes0.imp fun _ _ _ _ ⟨_, _, _, _, _, _, _, _, _, _, _, _, z⟩ => z
end T

namespace T
open PySem L2
section
variable {X : Cx} {e : Ent} {pos : Pos}
theorem pe_bty {x : Str} {n : String} (hg : Gl X x) (hm : X.mg x = none) (hv : bootBuiltins x = some (.type n)) (hn : x ≠ "__name__" := by decide) (hd : (x == ("__debug__" : Str)) = false := by decide) : PE X (.Name x pos) (tC (.ty n)) := pe_bltn (v := .ty n) hg hm hv rfl hn hd
theorem ty_rel {n : String} : ∀ w, RelV (.ty n) w → w = .type n := fun w h => h
theorem ref_rel {a : Addr} : ∀ w, RelV (.ref a) w → w = .ref a := fun w h => h
theorem eu_xf1 {i : Nat} {a : Addr} {C : Str} {da : Addr} {fs : List (Str × D)} {fvs : List (Str × V)} {oe : Obj} {pn : List (Addr × Obj)} {ex : Expr} {f : Str} (Tx : XfC X.K (He.ga X.K C)) (hno : PySem.W.findIn X.K (.ref (He.ga X.K C)) f = some none) (hz : Zc (.ref (He.ga X.K C)) (some da) oe) (hf : ∃ vs, oe.data = .fields vs)
    (he : PE (X.suite a ((a, oe) :: pn)) ex (tVar i)) (hb : attributeBase ex f X.env (eval ex X.env) = eval ex X.env := by rfl) : DEu (X.suite a ((a, oe) :: pn)) e ⟨i, a, C, da, fs, fvs⟩ (.Attribute ex f pos) (dXf fs f) := eu_xf (u := ⟨i, a, C, da, fs, fvs⟩) Tx hno hz hf he hb
theorem eu_isE1 {i : Nat} {a : Addr} {C : Str} {da : Addr} {fs : List (Str × D)} {fvs : List (Str × V)} {oe : Obj} {pn : List (Addr × Obj)} {ex cx : Expr} {cv : V} {c : Value} {ms : List (Str × Bool)} {p : Pos} (hC : ExcC X.K (He.ga X.K C)) (hz : Zc (.ref (He.ga X.K C)) (some da) oe) (hf : ∃ vs, oe.data = .fields vs) (hms : IsEOk X.K c ms)
    (he : PE (X.suite a ((a, oe) :: pn)) ex (tVar i)) (hc : PE (X.suite a ((a, oe) :: pn)) cx (tC cv)) (hcv : ∀ w, RelV cv w → w = c) (hg : Gl X "isinstance") (hm : X.mg "isinstance" = none)
    (hs : starEach (ex :: [cx]) X.env = (false, eval ex X.env) :: starEach [cx] X.env := by rfl) (hs2 : starEach (cx :: []) X.env = (false, eval cx X.env) :: starEach [] X.env := by rfl) (hpl : (backTo pos (starEach [cx] X.env)).any (·.1) = false := by rfl) :
    DEu (X.suite a ((a, oe) :: pn)) e ⟨i, a, C, da, fs, fvs⟩ (.Call (.Name "isinstance" p) [ex, cx] [] pos) (dIsE ms C) := eu_isE (u := ⟨i, a, C, da, fs, fvs⟩) hC hz hf hms he hc hcv hg hm hs hs2 hpl
/-! ### a list * a number -/
end
end T

namespace T
open PySem L2 PyProof.Rows
/-! ### try with several clauses, each with the same name -/
def asE (i : Nat) (D : Ends) : Ends := { nx := fun s H => D.nx (s.set i none) H, rt := D.rt, bk := fun s H => D.bk (s.set i none) H, ct := fun s H => D.ct (s.set i none) H }
abbrev Cl := Value × (Addr → Value → Option Addr → TS)
def wCl (K : PySem.W.Frag) (Wo : WX) (i : Nat) (D : Ends) : List Cl → WX
  | [] => Wo
  | (c, ts) :: r => fun cls d s H => ∃ b, PySem.W.exmOne K cls c = some b ∧ (b = true → ∀ a, H a = none → ts a cls d (asE i D) (s.set i (some (.ref a))) H) ∧ (b = false → wCl K Wo i D r cls d s H)
inductive ClsOk (X : Cx) (n : Str) : List ExceptHandler → List Cl → Prop
  | nil : ClsOk X n [] []
  | cons {x : Str} {c : Value} {ts : Addr → Value → Option Addr → TS} {b0 : Stmt} {st : List Stmt} {np ps : Pos} {hl : List ExceptHandler} {l : List Cl} (hc : Names X x c)
      (su : ∀ (a : Addr) (o : Obj) (cls : Value) (d : Option Addr) (pn : List (Addr × Obj)), Zc cls d o → (∃ vs, o.data = .fields vs) → PSs (X.suite a ((a, o) :: pn)) (b0 :: st) (ts a cls d)) (r : ClsOk X n hl l) :
      ClsOk X n (.ExceptHandler (some (.Name x np)) (some n) (b0 :: st) ps :: hl) ((c, ts) :: l)
section
variable {X : Cx} {i : Nat} {n : Str} {body : List Stmt} {h0 : ExceptHandler} {hl : List ExceptHandler} {l : List Cl} {pos : Pos} {tb : WX → TS} {Wo : WX}
theorem ps_tryM (e1 : X.stack = X.env :: X.outer) (e2 : X.env.frame = some X.env.locals) (nd : X.N.Nodup) (ni : X.N[i]? = some n) (kn : X.env.kindOf n = some .local) (tk : Takes X Wo)
    (bd : ∀ (W : WX) (pn : List (Addr × Obj)) (xe : Value → Shared → Prop), Takes (X.tr pn xe) W → PassesOwn (model X.prog X.w) X.A X.env xe → PSs (X.tr pn xe) body (tb W))
    (cl : ClsOk X n (h0 :: hl) l) : PS X (.Try body (h0 :: hl) [] [] pos) (fun D s H => tb (wCl X.K Wo i D l) D s H) := by
  refine ⟨fun pins s sg H D I hh => ?_⟩
  have okk := I.ok
  have fr : X.A.frames = some (X.env :: X.outer) := by rw [okk.frames, e1]
  refine wpAny_Try_except (wpAny_mono ((bd (wCl X.K Wo i D l) (X.pn ++ pins) (fun e s1 => wpAny (model X.prog X.w) X.A (noteFrame e X.env) (fun _ s2 => wpAny (model X.prog X.w) X.A (setFlight e none) (fun _ s3 => wpAny (model X.prog X.w) X.A (handleBy e X.env (h0 :: hl)) (SP X pins D) X.xe s3) X.xe s2) X.xe s1) (fun u s' xx => ?_) PassesOwn.looking).run [] s sg H D (I.toTry _) hh) (fun f s1 hsp => ?_) (fun e s1 he => he))
  · obtain ⟨a, B, sI, pins', t, H', cls, d, rfl, J', nb, up, sky, na, os, ag, w⟩ := xx
    have J : Inv X pins t H' sI := J'.ofTry okk
    have sk2 : Sky B (X.env :: X.outer) a (Zc cls d) X.env.locals s'.heap := by rw [← e1]; exact sky
    show wpAny (model X.prog X.w) X.A (noteFrame (.ref a) X.env) _ _ _
    refine Sky.land Zc.steady fr e2 sk2 fun h3 f3 up3 => ?_
    have J3 : Inv X pins t H' { s' with heap := h3 } := J.landed nb f3.1 (up.trans up3) os ag
    obtain ⟨o3, w3, g3, z3, d3⟩ := f3.there
    have nfr : a ∉ frs (X.env :: X.outer) := fun hm => by
      obtain ⟨_, o', g', nf⟩ := f3.2.2.1.mem hm
      rw [g3] at g'; cases g'; exact nf _ d3
    have nL : a ≠ X.env.locals := fun z => nfr (List.mem_filterMap.mpr ⟨X.env, List.mem_cons_self, by rw [e2, z]⟩)
    have nF : a ∉ X.fs := fun hm => by
      obtain ⟨e, he, q⟩ := List.mem_filterMap.mp hm; exact nfr (List.mem_filterMap.mpr ⟨e, List.mem_cons_of_mem _ he, q⟩)
    have S3 := J3.suite g3 d3 na nL nF
    have go : ∀ {hl' : List ExceptHandler} {l' : List Cl}, ClsOk X n hl' l' → wCl X.K Wo i D l' cls d t H' → wpAny (model X.prog X.w) X.A (handleBy (.ref a) X.env hl') (SP X pins D) X.xe { s' with heap := h3 } := by
      intro hl' l' hk
      induction hk with
      | nil =>
        intro w
        refine wpAny_handleBy_nil ?_
        obtain ⟨k1, k2, k3, oe, vs, T, oT, ts', he, hz, hd, h1, hr⟩ := id f3
        unfold PySem.passOn
        refine wpAny_bind (wpAny_field he hd h1 ?_)
        rw [if_neg (show ¬ ((Value.ref T == Value.none) = true) from by simp)]
        have fin : wpAny (model X.prog X.w) X.A (setFlight (.ref a) X.env.frame) (fun _ s4 => wpAny (model X.prog X.w) X.A (throw (.ref a) : Sem Flow) (SP X pins D) X.xe s4) X.xe { s' with heap := h3 } := by
          rw [e2]; exact HandSPX.setFlight_upZ f3 fun h4 hh4 up4 => wpAny_throw (tk _ _ ⟨a, B, sI, pins, t, H', cls, d, rfl, J, nb, (up.trans up3).trans up4, .inr (.inr (by rw [e1]; exact hh4)), na, os, ag, w⟩)
        first | exact wpAny_bind (wpAny_pure (wpAny_bind fin)) | exact wpAny_bind fin
      | @cons x c ts b0 st np ps hl2 l2 hc su r ih =>
        rintro ⟨b, hb1, yes, no⟩
        refine wpAny_handleBy_cons (codeAny_handlers_test ?_) (by intro q; cases q)
        have lt : PySem.W.Looks (model X.prog X.w) h3 (typeOf (.ref a)) cls := fun A Q E s k q => wpAny_typeOf_ref (k _ _ g3) (by rw [z3.1]; exact q)
        have lm := PySem.W.exm_one (M := model X.prog X.w) (J3.kIn) lt hb1
        have tst : ∀ {Q : Value → Shared → Prop} {E : Value → Shared → Prop}, Q c { s' with heap := h3 } → wpAny (model X.prog X.w) (X.A.mark (some (.ref a))) (eval (.Name x np) X.env) Q E { s' with heap := h3 } := fun {Q E} q => by
          obtain ⟨hg, hd, hm | ⟨hm, hv, hn⟩⟩ := hc
          · exact ld_glob (X := X.suite a ((a, o3) :: (X.pn ++ pins))) S3 hg hm q hd
          · exact ld_blt (X := X.suite a ((a, o3) :: (X.pn ++ pins))) S3 hg hm hv q hn hd
        refine tst (lm.here ?_)
        cases b with
        | true =>
          refine codeAny_handlers_suite_as (HandSPX.lands_againZ f3 fun h4 f4 up4 => ?_)
          have J4 : Inv X pins t H' { s' with heap := h4 } := J.landed nb f4.1 ((up.trans up3).trans up4) os ag
          obtain ⟨o4, w4, g4, z4, d4⟩ := f4.there
          have S4 := J4.suite g4 d4 na nL nF
          refine store_ok (X := X.suite a ((a, o4) :: (X.pn ++ pins))) (v := .ref a) S4 nd ni (.inl kn) rfl (fun s5 S5 => ?_) (.inr kn)
          refine wpAny_mono ((su a o4 cls d (X.pn ++ pins) z4 ⟨_, d4⟩).run [] s5 _ H' _ S5 (yes rfl a na)) (fun f s6 hsp => ?_) (fun _ _ z => False.elim z)
          have fin : ∀ {s6' : L2.St} {H6 : Hp} {Q : Shared → Prop}, Inv (X.suite a ((a, o4) :: (X.pn ++ pins))) [] s6' H6 s6 → (∀ s7, Inv X pins (s6'.set i none) H6 s7 → Q s7) →
              wpAny (model X.prog X.w) X.A (do bindName X.env n .none; unbindBehindTheSuite X.env n ps) (fun _ s7 => Q s7) X.xe s6 := fun S6 hq => gone_ok (S6.unsuite okk) nd ni kn hq
          cases f with
          | next => obtain ⟨_, _, S6, q6⟩ := hsp; exact fin S6 fun s7 J7 => ⟨_, _, J7, q6⟩
          | brk => obtain ⟨_, _, S6, q6⟩ := hsp; exact fin S6 fun s7 J7 => ⟨_, _, J7, q6⟩
          | cont => obtain ⟨_, _, S6, q6⟩ := hsp; exact fin S6 fun s7 J7 => ⟨_, _, J7, q6⟩
          | ret u => obtain ⟨_, _, _, S6, r6, q6⟩ := hsp; exact fin S6 fun s7 J7 => ⟨_, _, _, J7, r6, q6⟩
        | false =>
          show wpAny _ X.A (handleBy (.ref a) X.env hl2) _ _ _
          exact ih (no rfl)
    exact go cl w
  · cases f with
    | next => obtain ⟨_, _, J', q⟩ := hsp; exact wpAny_execs_nil ⟨_, _, J'.ofTry okk, q⟩
    | brk => obtain ⟨_, _, J', q⟩ := hsp; exact ⟨_, _, J'.ofTry okk, q⟩
    | cont => obtain ⟨_, _, J', q⟩ := hsp; exact ⟨_, _, J'.ofTry okk, q⟩
    | ret u => obtain ⟨_, _, _, J', r, q⟩ := hsp; exact ⟨_, _, _, J'.ofTry okk, r, q⟩
/-! over data -/
abbrev ClD := List (Str × Bool) × (Str → List (Str × D) → TDS)
def exTryM (i : Nat) (exo : ExD) (F : DEnds) : List ClD → ExD
  | [] => exo
  | (ms, ts) :: r => exTry i ms (exTryM i exo F r) ts F
def dTryM (i : Nat) (exo : ExD) (tb : ExD → TDS) (hs : List ClD) : TDS := fun F δ => noOw δ = true ∧ tb (exTryM i exo F hs) F δ
inductive ClDOk (X : Cx) (e : Ent) (i : Nat) (n : Str) : List ExceptHandler → List ClD → Prop
  | nil : ClDOk X e i n [] []
  | cons {x : Str} {c : Value} {ms : List (Str × Bool)} {ts : Str → List (Str × D) → TDS} {b0 : Stmt} {st : List Stmt} {np ps : Pos} {hl : List ExceptHandler} {l : List ClD} (hc : Names X x c) (hm : ExOk X.K c ms)
      (su : ∀ (a : Addr) (oe : Obj) (C : Str) (da : Addr) (fs : List (Str × D)) (fvs : List (Str × V)) (pn : List (Addr × Obj)), (∃ b, (C, b) ∈ ms ∧ b = true) → Zc (.ref (He.ga X.K C)) (some da) oe → (∃ vs, oe.data = .fields vs) → DSsu (X.suite a ((a, oe) :: pn)) e ⟨i, a, C, da, fs, fvs⟩ (b0 :: st) (ts C fs)) (r : ClDOk X e i n hl l) :
      ClDOk X e i n (.ExceptHandler (some (.Name x np)) (some n) (b0 :: st) ps :: hl) ((ms, ts) :: l)
variable {e : Ent}
theorem cls_of {hl : List ExceptHandler} {l : List ClD} (h : ClDOk X e i n hl l) : ∃ cs : List Cl, ClsOk X n hl cs ∧ ∀ {exo : ExD} {G : Gh} {H : Hp} {σ0 : L2.St} {δ0 : DSt} {F : DEnds} {E : Ends}, SS X.K e .nil G H σ0 δ0 →
    (∀ σ' δ' G' H', Le G G' → SS X.K e .nil G' H' σ' δ' → F.nx δ' → E.nx σ' H') → (∀ v d σ' δ' G' H', SS X.K e .nil G' H' σ' δ' → Rep X.K G' v d → F.rt d δ' → E.rt v H') →
    (∀ σ' δ' G' H', Le G G' → SS X.K e .nil G' H' σ' δ' → F.bk δ' → E.bk σ' H') → (∀ σ' δ' G' H', Le G G' → SS X.K e .nil G' H' σ' δ' → F.ct δ' → E.ct σ' H') →
    ∀ cls d σ1 H1, WD X.K ⟨G, H⟩ (exTryM i exo F l) cls d σ1 H1 → wCl X.K (WD X.K e exo) i E cs cls d σ1 H1 := by
  induction h with
  | nil =>
    refine ⟨[], .nil, fun {exo G H σ0 δ0 F E} S n' r b c' cls d σ1 H1 w => ?_⟩
    obtain ⟨G1, δ1, C, fs, da, fvs, S1, h1, h2, h3, h4, h5, q⟩ := w
    exact ⟨G1, δ1, C, fs, da, fvs, (S.back S1).1, h1, h2, h3, h4, h5, q⟩
  | @cons x c ms ts b0 st np ps hl l hc hm su r ih =>
    obtain ⟨cs, hcs, go⟩ := ih
    refine ⟨(c, fun a cls d E σ H => ∃ (C : Str) (fs : List (Str × D)) (da : Addr) (fvs : List (Str × V)), (cls = .ref (He.ga X.K C) ∧ d = some da ∧ ∃ b, (C, b) ∈ ms ∧ b = true) ∧ liftSu X.K e ⟨i, a, C, da, fs, fvs⟩ (ts C fs) E σ H) :: cs, .cons hc ?_ hcs, ?_⟩
    · intro a oe cls d pn hz hv
      refine pss_ex fun C => pss_ex fun fs => pss_ex fun da => pss_ex fun fvs => pss_and fun h => ?_
      obtain ⟨rfl, rfl, hbm⟩ := h
      exact su a oe C da fs fvs pn hbm hz hv
    · intro exo G H σ0 δ0 F E S n' r' b c' cls d σ1 H1 w
      obtain ⟨G1, δ1, C, fs, da, fvs, S1, h1, h2, h3, h4, h5, hl1, bb, hmem, ht, hff⟩ := w
      obtain ⟨S2, le2⟩ := S.back S1
      refine ⟨bb, by rw [h1]; exact hm _ hmem, fun hbt a na => ?_, fun hbf => go S n' r' b c' cls d σ1 H1 ⟨G1, δ1, C, fs, da, fvs, S1, h1, h2, h3, h4, h5, hff hbf⟩⟩
      exact ⟨C, fs, da, fvs, ⟨h1, h2, bb, hmem, hbt⟩, G1, δ1.set i (.im (.ref a)), _, S2.asg (.ref a), ⟨h3, h4, h5⟩, List.getElem?_set_self hl1, ht hbt a,
        fun σ' δ' G' H' le S' q' => n' _ _ G' H' (le2.trans le) (S'.setNone i) q', fun v d σ' δ' G' H' S' rep q' => r' v d σ' δ' G' H' S' rep q',
        fun σ' δ' G' H' le S' q' => b _ _ G' H' (le2.trans le) (S'.setNone i) q', fun σ' δ' G' H' le S' q' => c' _ _ G' H' (le2.trans le) (S'.setNone i) q'⟩
theorem ds0_tryM {exo : ExD} {tb : ExD → TDS} {hs : List ClD} (e1 : X.stack = X.env :: X.outer) (e2 : X.env.frame = some X.env.locals) (nd : X.N.Nodup) (ni : X.N[i]? = some n) (kn : X.env.kindOf n = some .local) (tk : Takes X (WD X.K e exo))
    (bd : ∀ (e' : Ent) (pn : List (Addr × Obj)) (xe : Value → Shared → Prop) (ex : ExD), Takes (X.tr pn xe) (WD X.K e' ex) → PassesOwn (model X.prog X.w) X.A X.env xe → DSs0 (X.tr pn xe) e' body (tb ex))
    (cl : ClDOk X e i n (h0 :: hl) hs) : DS0 X e (.Try body (h0 :: hl) [] [] pos) (dTryM i exo tb hs) := by
  obtain ⟨cs, hcs, go⟩ := cls_of cl
  refine ps_imp (ps_tryM (i := i) (tb := fun W E σ H => ∃ (e' : Ent) (ex : ExD), (∀ cls d σ H, WD X.K e' ex cls d σ H → W cls d σ H) ∧ liftS0 X.K e' (tb ex) E σ H) e1 e2 nd ni kn tk (fun W pn xe tkW po => ?_) hcs) fun E σ H ⟨G, δ, F, S, ⟨hno, q⟩, n', r, b, c'⟩ => ?_
  · exact pss_ex fun e' => pss_ex fun ex => pss_and fun hW => bd e' pn xe ex (tkW.imp hW) po
  · exact ⟨⟨G, H⟩, exTryM i exo F hs, go S n' r b c', G, δ, F, S.enter hno, q, fun σ' δ' G' H' le S' q' => n' σ' δ' G' H' le (S.back S').1 q', fun v d σ' δ' G' H' S' rep q' => r v d σ' δ' G' H' (S.back S').1 rep q', fun σ' δ' G' H' le S' q' => b σ' δ' G' H' le (S.back S').1 q', fun σ' δ' G' H' le S' q' => c' σ' δ' G' H' le (S.back S').1 q'⟩
end

theorem one_in {C C0 : Str} {ms : List (Str × Bool)} (h1 : ∀ p ∈ ms, p.2 = true → p.1 = C0) (h : ∃ b, (C, b) ∈ ms ∧ b = true) : C0 = C := by
  obtain ⟨b, hb, rfl⟩ := h
  exact (h1 _ hb rfl).symm
end T

namespace T
open PySem L2
/-! ### one total promise for a def that may raise: the plain promise follows -/
abbrev noX : Str → List (Str × D) → Prop := fun _ _ => False
theorem fnD_ofX {P : Program} {w : World} {K : PySem.W.Frag} {mg : Str → Option Value} {base : Heap} {k : Nat} {f : Addr} {sx : SpX} (F : FnX P w K mg base k f sx) : FnD P w K mg base k f (fun ds Q => sx ds Q noX) := by
  intro A outer s H us vs Q E hr e0 r hs
  obtain ⟨G, ds, Qd, ok, rp, q, kk⟩ := hs
  refine codeAny_mono (F A outer s H us vs Q (fun _ _ _ => False) hr e0 r ⟨G, ds, Qd, noX, ok, rp, q, kk, fun _ _ _ _ _ _ _ _ _ z => z.elim⟩) fun r s' hq => ?_
  cases r with
  | error u =>
    obtain ⟨a, B, H', cls, d, _, _, _, _, _, _, _, z⟩ := hq
    exact z.elim
  | ok fl => cases fl <;> exact hq
section
variable {X : Cx} {e : Ent} {pos : Pos}
end
end T

namespace T
open PySem L2
/-! ### a thing equals itself -/
mutual
theorem eqv_self : ∀ a : D, isDat a = true → PyData.eqv (py a) (py a) = true
  | .non, _ => rfl
  | .bl b, _ => by show (b == b) = true; exact beq_self_eq_true b
  | .int i, _ => by show (i == i) = true; exact beq_self_eq_true i
  | .str s, _ => by show (s == s) = true; exact beq_self_eq_true s
  | .tup l, h => by rw [show py (.tup l) = .tuple (pyL l) from rfl, PyData.eqv]; exact eqvL_self l h
  | .lst l, h => by rw [show py (.lst l) = .list (pyL l) from rfl, PyData.eqv]; exact eqvL_self l h
  | .dct _, h => by cases h
  | .dtp _, h => by cases h
  | .ins _ _, h => by cases h
  | .self _ _ _, h => by cases h
  | .box _, h => by cases h
  | .ty _, h => by cases h
  | .ref _, h => by cases h
  | .scr _, h => by cases h
  | .cls _, h => by cases h
  | .dself _ _, h => by cases h
theorem eqvL_self : ∀ l : List D, isDatL l = true → PyData.eqvAll (pyL l) (pyL l) = true
  | [], _ => rfl
  | d :: r, h => by
    have h : isDat d = true ∧ isDatL r = true := by simpa [isDatL] using h
    rw [show pyL (d :: r) = py d :: pyL r from rfl, PyData.eqvAll, eqv_self d h.1, eqvL_self r h.2]
    rfl
end
theorem eqB_self {a : D} (h : isDat a = true) : eqB a a = true := eqv_self a h
theorem eq_self {a : D} {Q : D → Prop} (h : isDat a = true) (hd : dep a ≤ 64) (q : Q (.bl true)) : eqX a a Q := by
  have gen : (isDat a = true ∧ isDat a = true ∧ dep a ≤ 64 ∧ dep a ≤ 64) ∧ Q (.bl (eqB a a)) := ⟨⟨h, h, hd, hd⟩, by rw [eqB_self h]; exact q⟩
  unfold eqX
  cases a <;> first | exact gen | (refine (show Q (.bl (decide _)) from ?_); simpa using q)
end T

namespace T
open PySem L2
section
open PySem.W PySem.Calls PyProof.Rows
variable {α : Type} {prog : Program} {w : World} {A : Around} {E : Value → Shared → Prop} {s : Shared} {K : Frag} {x y C C' L f g : Addr} {h₀ : Heap} {m : Str → Option Value} {ox oy : Obj} {od od' : Option Obj}
/-! ### an attribute that a class has not -/
/-! ### x op y, both of own classes, neither with a reflected def -/
end
end T

namespace T
open PySem L2
/-! ### classes that share their defs (a class and those below it) -/
section
variable {X : Cx} {e : Ent} {pos : Pos}
/-! x op y -/
/-! o.m(..) -/
def dMethS (Cs : List Str) (m : Str) (sd : SpD) (ta : TDE) (t : TDA) : TDE := fun δ Q => ta δ fun d δ1 => match insOf d with
  | some (C, fs) => C ∈ Cs ∧ fs.lookup m = none ∧ t δ1 fun ds δ2 => sd (.ins C fs :: ds) fun z => Q z δ2
  | none => False
end
end T

namespace T
open PySem L2
section
open PySem.W PyProof.Rows
variable {prog : Program} {w : World} {A : Around} {E : Value → Shared → Prop} {s : Shared} {K : Frag} {x y C C' L f g : Addr} {h₀ : Heap} {m : Str → Option Value} {ox oy : Obj} {od od' : Option Obj}
theorem callO_with {M : Model} {env : Env} {pos : Pos} {ex : Expr} {rest : List Expr} {Q : Value → Shared → Prop}
    (h : wpAny M A (spliced (backTo pos (starEach (ex :: rest) env))) (fun vs s1 => (∃ (ox : Obj) (od : Option Obj), ox.data = .plain ∧ InstAt s1.heap x ox C od) ∧ wpAny M A (call (.ref x) vs) Q E s1) E s)
    (he : starEach (ex :: rest) env = (false, eval ex env) :: starEach rest env) (hp : (backTo pos (starEach rest env)).any (·.1) = false) : wpAny M A (callWith pos (.ref x) [] (backTo pos (starEach (ex :: rest) env)) []) Q E s := by
  rw [he] at h ⊢
  have hq : (((backTo pos ((false, eval ex env) :: starEach rest env)).any (·.1)) || ([] : List (Option Str × Sem Value)).any (·.1.isNone)) = false := by show ((false || (backTo pos (starEach rest env)).any (·.1)) || false) = false; rw [hp]; rfl
  unfold callWith
  refine wpAny_bind (wpAny_holding (wpAny_mono (PySem.Calls.evalArgs_plain (Q := fun a s1 => (∃ (ox : Obj) (od : Option Obj), ox.data = .plain ∧ InstAt s1.heap x ox C od) ∧ wpAny M A (call (.ref x) a.pos a.kw) Q E s1) h) (fun a s1 h1 => wpAny_bind (wpAny_standAt ?_)) fun _ _ y => y))
  obtain ⟨⟨ox, od, hd, J⟩, h2⟩ := h1
  have L := kco_keeper (M := M) J hd
  simp only [hq]
  refine wpAny_bind (L.here ?_)
  exact wpAny_bind (wpAny_mono (wpAny_operateT (by exact h2)) (fun r s2 hr => wpAny_bind (wpAny_holding (wpAny_point (wpAny_pure hr)))) fun _ _ y => y)
end
section
variable {X : Cx} {e : Ent} {pos : Pos}
/-! == and != of things of such classes -/
/-! len(x) -/
/-! o(..): the class's own __call__, o a name -/
structure CallC (K : PySem.W.Frag) (Cs : List Addr) (g : Addr) : Prop where
  at_ : ∀ C ∈ Cs, PySem.W.findIn K (.ref C) "__call__" = some (some (.ref g))
  fn : PySem.W.isFn K (.ref g) = true
  fi : PySem.W.fnIn K g = true
def tCallO (i : Nat) (Cs : List Addr) (sp : Sp) (E : St → XK) (t : TA) : TE := fun σ H Q => ∃ a C dx fs, σ[i]? = some (some (.ref a)) ∧ C ∈ Cs ∧ H a = some (.ins C dx fs) ∧ t σ H fun vs H1 => (∃ dx fs, H1 a = some (.ins C dx fs)) ∧ sp (.ref a :: vs) H1 Q (E σ)
theorem pe_callO {CX : CXT} {k i : Nat} {g : Addr} {Cs : List Addr} {sp : Sp} {E : St → XK} {x : Str} {p : Pos} {ex : Expr} {es : List Expr} {t : TA} (c : CallC X.K Cs g) (F : FnR X.prog X.w X.K X.mg X.base CX k g sp) (hr : Room (k + 1) X.A) (hv : PE X (.Name x p) (tVar i)) (hx : ∀ σ, PassesAt CX X σ (E σ)) (ha : PA X (ex :: es) t)
    (he : starEach (ex :: es) X.env = (false, eval ex X.env) :: starEach es X.env) (hpl : (backTo pos (starEach es X.env)).any (·.1) = false) : PE X (.Call (.Name x p) (ex :: es) [] pos) (tCallO i Cs sp E t) := by
  refine ⟨fun pins s σ H Q I h => ?_⟩
  obtain ⟨a, C, dx, fs, hs, mC, h1, ht⟩ := h
  refine wpAny_Call_Name_kw (thn (hv.run pins s σ H (fun v H1 => v = .ref a ∧ H1 = H) I ⟨.ref a, hs, rfl, rfl⟩) fun u s1 ⟨v, H1, I1, r1, q1⟩ => ?_)
  obtain ⟨rfl, rfl⟩ := q1
  cases r1
  refine callO_with (C := C) (thn (ha.run pos pins s1 σ _ _ I1 ht) fun us s2 ⟨vs, H2, I2, r, ⟨dx2, fs2, h2⟩, q⟩ => ?_) he hpl
  obtain ⟨mA2, O2, _⟩ := ins_get I2.hok h2
  obtain ⟨od2, J2, _⟩ := O2.look
  refine ⟨⟨_, _, rfl, J2⟩, wpAny_call (PySem.W.kco_code (a := ⟨us, []⟩) I2.kIn J2 rfl (c.at_ C mC) c.fn c.fi ?_)⟩
  have z := F X.A X.stack s2 H2 (.ref a :: us) (.ref a :: vs) Q (E σ) (hr.mono (Nat.le_succ _)) I2.env0 (.cons rfl r) q
  refine codeAny_mono z fun r s' hq => ?_
  cases r with
  | error e => exact hx σ pins H2 s2 e s' I2 hq
  | ok fl =>
    cases fl with
    | ret u => exact I2.after hq
    | next => exact False.elim hq
    | brk => exact False.elim hq
    | cont => exact False.elim hq
end
end T

namespace T
open PySem L2
section
variable {X : Cx} {e : Ent} {pos : Pos}
/-! ### o(..), over data -/
structure CalOsX (P : Program) (w : World) (K : PySem.W.Frag) (mg : Str → Option Value) (base : Heap) (k : Nat) (Cs : List Str) (sd : SpX) : Prop where
  ex : ∃ g, FnX P w K mg base k g sd ∧ CallC K (Cs.map (He.ga K)) g
def dCallO (i : Nat) (Cs : List Str) (sd : SpD) (t : TDA) : TDE := fun δ Q => dVar i δ fun d δ1 => match insOf d with
  | some (C, fs) => C ∈ Cs ∧ t δ1 fun ds δ2 => sd (.ins C fs :: ds) fun z => Q z δ2
  | none => False
/-- the slot, frozen -/
theorem var_at {T : Tm} {G : Gh} {H : Hp} {σ : St} {δ : DSt} {i : Nat} {K : D → DSt → Prop} (S : SS X.K e T G H σ δ) (q : dVar i δ K) : ∃ G' δ1 v d, σ[i]? = some (some v) ∧ SS X.K e T G' H σ δ1 ∧ Step e G H G' H ∧ Rep X.K G' v d ∧ K d δ1 := by
  unfold dVar at q
  split at q
  · rename_i d hs
    obtain ⟨o, ho, v, rfl, rv⟩ := S.sl i _ hs
    exact ⟨G, δ, v, d, ho, S, Step.refl, rv, q⟩
  · rename_i d hs
    obtain ⟨G', v, ho, S', st, rv⟩ := S.fzSlot hs
    exact ⟨G', _, v, d, ho, S', st, rv, q⟩
  · exact q.elim
def dCallOX (ex : ExD) (i : Nat) (Cs : List Str) (sd : SpX) (t : TDA) : TDE := fun δ Q => dVar i δ fun d δ1 => match insOf d with
  | some (C, fs) => C ∈ Cs ∧ t δ1 fun ds δ2 => sd (.ins C fs :: ds) (fun z => Q z δ2) fun C fs => ex δ2 C fs
  | none => False
theorem de0_callO {k j i : Nat} {Cs : List Str} {sd : SpX} {ex : ExD} {x : Str} {p : Pos} {a : Expr} {es : List Expr} {t : TDA} (c : CalOsX X.prog X.w X.K X.mg X.base k Cs sd) (hr : Room j X.A) (hk : k + 1 ≤ j) (tk : Takes X (WD X.K e ex)) (hv : PE X (.Name x p) (tVar i)) (ha : DA X e (a :: es) t)
    (he : starEach (a :: es) X.env = (false, eval a X.env) :: starEach es X.env := by rfl) (hpl : (backTo pos (starEach es X.env)).any (·.1) = false := by rfl) : DE0 X e (.Call (.Name x p) (a :: es) [] pos) (dCallOX ex i Cs sd t) := by
  obtain ⟨g, F, hC⟩ := c.ex
  refine pe_imp (pe_callO (E := WE (WD X.K e ex)) hC F (hr.mono hk) hv (fun σ => passAt tk σ) ha he hpl) fun σ H Q ⟨G, δ, Qd, S, q, kk⟩ => ?_
  obtain ⟨G1, δ1, v, d, ho, S1, st1, rv, q⟩ := var_at S q
  cases hi : insOf d with
  | none => rw [hi] at q; exact q.elim
  | some cf =>
  obtain ⟨C, fs⟩ := cf
  rw [hi] at q
  obtain ⟨mC, q⟩ := q
  obtain ⟨pa, dx, fa, rfl, hp, e1, r1⟩ := insOf_ok S1.ok (.inl rv) hi
  refine ⟨pa, _, dx, fa, ho, List.mem_map_of_mem mC, hp, .nil, G1, δ1, _, S1, q, fun vs ds H2 G2 δ2 S2 st2 r2 _ q2 => ?_⟩
  obtain ⟨pa', dx', fa', e2, hp2, _⟩ := insOf_ok S2.ok (.inl (rv.mono st2.le)) hi
  cases e2
  exact ⟨⟨_, _, hp2⟩, spX_go S2 (st1.trans st2) (.cons ((rv.toIns hi).mono st2.le) r2) q2 kk⟩
/-! ### o.f, a property -/
structure CalPs (P : Program) (w : World) (K : PySem.W.Frag) (mg : Str → Option Value) (base : Heap) (k : Nat) (Cs : List Str) (f : Str) (sd : SpD) : Prop where
  ex : ∃ g fd ps, FnOk P w K mg base CX0 k g fd ps (toSp K sd) ∧ Binds K fd ps [] ∧ ∀ C ∈ Cs, Cls K (He.ga K C) ∧ ∃ p, PropOf K (He.ga K C) f p g
def dPropS (Cs : List Str) (sd : SpD) (ta : TDE) : TDE := fun δ Q => ta δ fun d δ1 => match insOf d with
  | some (C, fs) => C ∈ Cs ∧ sd [.ins C fs] fun z => Q z δ1
  | none => False
theorem pe_propS {k : Nat} {g : Addr} {Cs : List Addr} {f : Str} {fd : FuncData} {ps : List Str} {sp : Sp} {E : XK} {ex : Expr} {ta : TE} (he : PE X ex ta) (c : ∀ C ∈ Cs, Cls X.K C ∧ ∃ p, PropOf X.K C f p g) (F : FnOk X.prog X.w X.K X.mg X.base CX0 k g fd ps sp) (hr : Room (k + 1) X.A) (hb : Binds X.K fd ps []) (hx : Passes CX0 X.nox E)
    (hab : attributeBase ex f X.env (eval ex X.env) = eval ex X.env) : PE X (.Attribute ex f pos) (fun σ H Q => ta σ H fun x H1 => ∃ C a dx fs, C ∈ Cs ∧ x = .ref a ∧ H1 a = some (.ins C dx fs) ∧ sp (.ref a :: []) H1 Q E) := by
  refine ⟨fun pins s σ H Q I h => ?_⟩
  refine attr_of hab (thn (he.run pins s σ H _ I h) fun u s1 ⟨x, H1, I1, rx, C, a, dx, fs, mC, ex, ea, q⟩ => ?_)
  subst ex
  obtain rfl : u = Value.ref a := rx
  obtain ⟨c1, p, c2⟩ := c C mC
  exact getprop_ok I1 ea c1 c2 F hr hb .nil hx q
theorem de_propS {k j : Nat} {Cs : List Str} {f : Str} {sd : SpD} {o : Expr} {ta : TDE} (c : CalPs X.prog X.w X.K X.mg X.base k Cs f sd) (hr : Room j X.A) (hk : k + 1 ≤ j) (ho : DE X e o ta) (hab : attributeBase o f X.env (eval o X.env) = eval o X.env := by rfl) :
    DE X e (.Attribute o f pos) (dPropS Cs sd ta) := by
  obtain ⟨g, fd, ps, F, hb, hC⟩ := c.ex
  refine pe_imp (pe_propS (Cs := Cs.map (He.ga X.K)) (E := E0) ho (fun C hC' => by obtain ⟨c, hc, rfl⟩ := List.mem_map.mp hC'; exact hC c hc) F (hr.mono hk) hb pass0 hab) fun σ H Q ⟨T, G, δ, Qd, S, q, k⟩ => ?_
  refine ⟨T, G, δ, _, S, q, fun v d H1 G1 δ1 S1 st1 rd q1 => ?_⟩
  cases hi : insOf d with
  | none => rw [hi] at q1; exact q1.elim
  | some cf =>
    obtain ⟨C', fs⟩ := cf
    rw [hi] at q1
    obtain ⟨mC, q1⟩ := q1
    obtain ⟨a, dx, fvs, rfl, hp, e1, r1⟩ := insOf_ok S1.ok (.inl rd) hi
    exact ⟨_, a, dx, fvs, List.mem_map_of_mem mC, rfl, hp, meth_go (vs := []) S1 st1 (rd.toIns hi) .nil q1 k⟩
end
/-! ### the tests of the text -/
theorem same_ok {K : PySem.W.Frag} {Cs : List Str} {B m : Str} (c : tSame Cs B m K = true) : PySem.W.isFn K (.ref (He.ma K (He.ga K B) m)) = true ∧ ∀ C ∈ Cs, PySem.W.findIn K (.ref (He.ga K C)) m = some (some (.ref (He.ma K (He.ga K B) m))) := by
  obtain ⟨c1, c2⟩ := He.ba c
  exact ⟨c1, fun C hC => He.eqO_ok (List.all_eq_true.mp c2 C hC)⟩
theorem callS_ok {K : PySem.W.Frag} {Cs : List Str} {B : Str} (c : tCallS Cs B K = true) : CallC K (Cs.map (He.ga K)) (He.ma K (He.ga K B) "__call__") := by
  obtain ⟨c1, c2⟩ := He.ba c
  obtain ⟨a1, a2⟩ := same_ok c1
  exact ⟨fun C hC => by obtain ⟨c, hc, rfl⟩ := List.mem_map.mp hC; exact a2 c hc, a1, c2⟩
theorem propS_ok {K : PySem.W.Frag} {Cs : List Str} {B f : Str} (c : tPropS Cs B f K = true) : ∀ C ∈ Cs, Cls K (He.ga K C) ∧ ∃ p, PropOf K (He.ga K C) f p (pGet K B f) := fun C hC => by
  obtain ⟨c1, c⟩ := He.ba (List.all_eq_true.mp c C hC)
  obtain ⟨c2, c3⟩ := He.ba c
  refine ⟨He.cls_ok c1, pAd K C f, ?_⟩
  rw [← of_decide_eq_true c3]
  exact prop_ok c2
end T

namespace T
open PySem L2
/-! ### a list of texts that is ours is only read by a statement: it is known by its address -/
structure Lent (e : Ent) (l : Addr) (ss : List Str) : Prop where
  at_ : e.H l = some (.lst (ss.map V.str))
  nf : ¬ foot e.G l
  ok : ∀ s ∈ ss, sOk s
section
variable {X : Cx} {e : Ent} {pos : Pos}
theorem Lent.now {K : PySem.W.Frag} {l : Addr} {ss : List Str} {T : Tm} {G : Gh} {H : Hp} {σ : St} {δ : DSt} (h : Lent e l ss) (S : SS K e T G H σ δ) : H l = some (.lst (ss.map V.str)) := by
  rw [S.stp.old l (by rw [h.at_]; rfl) h.nf]
  exact h.at_
theorem Lent.rd {K : PySem.W.Frag} {l : Addr} {ss : List Str} {T : Tm} {G : Gh} {H : Hp} {σ : St} {δ : DSt} {v : V} (h : Lent e l ss) (S : SS K e T G H σ δ) (r : RdO K G H v (.ref l)) : RdO K G H v (.lst (ss.map D.str)) := by
  rcases r with r | ⟨_, _, r⟩
  · cases r
    exact .inr ⟨l, rfl, _, h.now S, RepL.ofStrs ss h.ok⟩
  · exact r.elim
/-- an operation whose right side is the list -/
def borR (l : Addr) (ss : List Str) (g : Op2) : Op2 := fun a b Q => b = .ref l ∧ g a (.lst (ss.map D.str)) Q
theorem opd_bor {l : Addr} {ss : List Str} {W : R2} {g : Op2} (h : Lent e l ss) (ho : OpD X e W g) : OpD X e W (borR l ss g) := by
  intro T G H σ δ x y a b Qd Q S ra rb q k
  obtain ⟨rfl, q⟩ := q
  exact ho T G H σ δ x y a _ Qd Q S ra (h.rd S rb) q k
/-- over the list -/
def iBor (i : Nat) (l : Addr) (ss : List Str) : TDA := fun δ Q => δ[i]? = some (.im (.ref l)) ∧ Q (ss.map D.str) δ
theorem di_bor {i : Nat} {l : Addr} {ss : List Str} {tg n : Expr} (h : Lent e l ss) (hv : PE X n (tVar i)) : DI X e tg n (iBor i l ss) := by
  refine ⟨fun pins s σ H R I ⟨T, G, δ, Qd, S, ⟨hs, q⟩, k⟩ => ?_⟩
  obtain ⟨o, ho, v, rfl, rv⟩ := S.sl i _ hs
  cases rv
  have y : Yields X.K e G (Itl X.K l) (ss.map D.str) := {
    go := fun j T G' H' σ' δ' le S' hj => by
      rw [List.length_map] at hj
      exact ⟨ss.map V.str, V.str ss[j], .inl (.inl (h.now S')), by rw [List.getElem?_map, List.getElem?_eq_getElem hj]; rfl⟩
    yld := fun j T G' H' σ' δ' x H2 le S' hj y => by
      obtain ⟨rfl, y⟩ := y
      have := y (ss.map V.str) (.inl (.inl (h.now S')))
      rw [List.getElem?_map, Option.map_eq_some_iff] at this
      obtain ⟨s, hs, rfl⟩ := this
      exact ⟨.str s, G', by rw [List.getElem?_map, hs]; rfl, S', Step.refl, .str (h.ok s (List.mem_of_getElem? hs))⟩
    stop := fun j T G' H' σ' δ' le S' hj => ⟨ss.map V.str, .inl (.inl (h.now S')), by rw [List.length_map] at hj ⊢; exact hj⟩ }
  have kk := k (Itl X.K l) (ss.map D.str) H G δ S Step.refl y q
  exact (pi_list hv).run pins s σ H R I ⟨.ref l, ho, ⟨l, rfl, ⟨_, .inl (.inl (h.now S))⟩, kk⟩⟩
theorem ps_ex {α : Type} {st : Stmt} {t : α → TS} (h : ∀ x, PS X st (t x)) : PS X st (fun E σ H => ∃ x, t x E σ H) := ⟨fun pins s σ H E I ⟨x, q⟩ => (h x).run pins s σ H E I q⟩
theorem ps_and {p : Prop} {st : Stmt} {t : TS} (h : p → PS X st t) : PS X st (fun E σ H => p ∧ t E σ H) := ⟨fun pins s σ H E I ⟨x, q⟩ => (h x).run pins s σ H E I q⟩
def dBor (i : Nat) (tb : Addr → List Str → TDS) : TDS := fun F δ => ∃ ss : List Str, δ[i]? = some (.ow (.lst (ss.map D.str))) ∧ ∀ l, tb l ss { nx := fun δ' => δ'[i]? = some (.im (.ref l)) ∧ F.nx (δ'.set i (.ow (.lst (ss.map D.str)))), rt := fun _ _ => False, bk := fun _ => False, ct := fun _ => False } (δ.set i (.im (.ref l)))
open Classical in
theorem ds_bor {i : Nat} {st : Stmt} {tb : Addr → List Str → TDS} (h : ∀ (e' : Ent) (l : Addr) (ss : List Str), Lent e' l ss → DS X e' st (tb l ss)) : DS X e st (dBor i tb) := by
  refine ps_imp (ps_ex fun e' => ps_ex fun l => ps_ex fun ss => ps_and fun hl => h e' l ss hl) fun E σ H ⟨T, G, δ, F, S, ⟨ss, hs, q⟩, n', r, b, c⟩ => ?_
  obtain ⟨o, ho, l, rfl, m⟩ := S.sl i _ hs
  obtain ⟨vs, hl, rr⟩ := m.own
  have hvs := rr.strs
  subst hvs
  have hok := rr.okStrs
  have hi := lt_of_get hs
  -- the entry: all that is ours but the list is taken out
  let ow : Addr → Prop := fun a => a ≠ l ∧ ∃ (j : Nat) (d : D), (δ ++ T.d)[j]? = some (.ow d) ∧ (σ ++ T.v)[j]? = some (some (.ref a))
  let e' : Ent := ⟨G, fun a => if ow a then none else H a⟩
  have e1 : ∀ a, ¬ ow a → e'.H a = H a := fun a ha => if_neg ha
  have e2 : ∀ a, ow a → e'.H a = none := fun a ha => if_pos ha
  have e3 : e'.H l = some (.lst (ss.map V.str)) := by rw [e1 l (fun z => z.1 rfl)]; exact hl
  have e4 : ∀ a o, e'.H a = some o → H a = some o ∧ ¬ ow a := fun a o ha => by
    by_cases z : ow a
    · rw [e2 a z] at ha; cases ha
    · rw [e1 a z] at ha; exact ⟨ha, z⟩
  have st0 : Step e' e'.G e'.H G H := ⟨Le.refl _, fun a ha _ => by obtain ⟨o, ho⟩ := some_of ha; rw [(e4 a o ho).1, ho], fun _ _ z => z, fun _ _ z => z, fun a ha _ => by obtain ⟨o, ho⟩ := some_of ha; rw [(e4 a o ho).1]; rfl⟩
  have S0 : SS X.K e' T G H σ (δ.set i (.im (.ref l))) := by
    refine ⟨by rw [List.length_set]; exact S.ln, ⟨S.ok, st0, ?_, ?_, ?_⟩⟩
    · have := S.s.len
      simp only [List.length_append, List.length_set] at this ⊢
      exact this
    · intro j s hj
      rw [← set_app hi] at hj
      by_cases hji : j = i
      · subst hji
        rw [List.getElem?_set_self (by rw [List.length_append]; omega)] at hj
        cases hj
        obtain ⟨o, ho', _⟩ := S.s.sl j _ (by rw [get_l hi]; exact hs)
        have := lt_of_get ho
        rw [get_l this, ho] at ho'
        exact ⟨some (.ref l), by rw [get_l this]; exact ho, _, rfl, .ref l⟩
      · rw [List.getElem?_set_ne (Ne.symm hji)] at hj
        obtain ⟨o, ho', ok'⟩ := S.s.sl j s hj
        refine ⟨o, ho', ?_⟩
        cases s with
        | no => trivial
        | im d => exact ok'
        | ow d =>
          obtain ⟨l2, rfl, m2⟩ := ok'
          have hne : l2 ≠ l := fun z => by
            subst z
            have := lt_of_get ho
            exact S.s.sep i j _ _ _ (Ne.symm hji) (by rw [get_l hi]; exact hs) hj (by rw [get_l this]; exact ho) ho'
          exact ⟨l2, rfl, m2.own, m2.nI, m2.nB, e2 l2 ⟨hne, j, d, hj, ho'⟩⟩
    · intro j k dj dk l2 hjk hj hk
      rw [← set_app hi] at hj hk
      have nj : j ≠ i := fun z => by subst z; rw [List.getElem?_set_self (by rw [List.length_append]; omega)] at hj; cases hj
      have nk : k ≠ i := fun z => by subst z; rw [List.getElem?_set_self (by rw [List.length_append]; omega)] at hk; cases hk
      rw [List.getElem?_set_ne (Ne.symm nj)] at hj
      rw [List.getElem?_set_ne (Ne.symm nk)] at hk
      exact S.s.sep j k dj dk l2 hjk hj hk
  refine ⟨e', l, ss, ⟨e3, m.nB, hok⟩, T, G, _, _, S0, q l, fun σ' δ' G' H' le S' ⟨hs', q'⟩ => ?_, fun _ _ _ _ _ _ _ _ z => z.elim, fun _ _ _ _ _ _ z => z.elim, fun _ _ _ _ _ _ z => z.elim⟩
  have hi' := lt_of_get hs'
  obtain ⟨o', ho', v', rfl, rv'⟩ := S'.sl i _ hs'
  cases rv'
  have hl' : H' l = some (.lst (ss.map V.str)) := by
    rw [S'.stp.old l (by rw [e3]; rfl) m.nB]
    exact e3
  have ne_ow : ∀ a, (e.H a).isSome = true → ¬ ow a := fun a ha z => by
    obtain ⟨_, j, d, h1, h2⟩ := z
    obtain ⟨o, ho2, l2, rfl, m2⟩ := S.s.sl j _ h1
    rw [h2] at ho2
    cases ho2
    rw [m2.new] at ha
    cases ha
  have st2 : Step e G H G' H' := by
    refine ⟨S'.stp.le, fun a ha hf => ?_, fun a ha hI => ?_, fun a ha hf => ?_, fun a ha hd => ?_⟩
    · have hd := S.stp.dom a ha ha
      have hfG : ¬ foot G a := S.stp.noB a ha hf
      rw [S'.stp.old a (by rw [e1 a (ne_ow a ha)]; exact hd) hfG, e1 a (ne_ow a ha)]
    · have hd := S.stp.dom a ha ha
      exact S'.stp.noI a (by rw [e1 a (ne_ow a ha)]; exact hd) hI
    · have hd := S.stp.dom a ha ha
      exact S'.stp.noB a (by rw [e1 a (ne_ow a ha)]; exact hd) hf
    · exact S'.stp.dom a (by rw [e1 a (ne_ow a ha)]; exact hd) (by rw [e1 a (ne_ow a ha)]; exact hd)
  have new' : ∀ (j : Nat) (d : D), (δ' ++ T.d)[j]? = some (.ow d) → ∀ l2, (σ' ++ T.v)[j]? = some (some (.ref l2)) → e.H l2 = none := fun j d hj l2 hl2 => by
    obtain ⟨o, ho2, l3, rfl, m3⟩ := S'.s.sl j _ hj
    rw [hl2] at ho2
    cases ho2
    cases hh : e.H l2 with
    | none => rfl
    | some ob =>
      have ha : (e.H l2).isSome = true := by rw [hh]; rfl
      have hd := S.stp.dom l2 ha ha
      have := m3.new
      rw [e1 l2 (ne_ow l2 ha)] at this
      rw [this] at hd
      cases hd
  refine n' σ' _ G' H' le ⟨by rw [List.length_set]; exact S'.ln, ⟨S'.ok, S.stp.trans st2, ?_, ?_, ?_⟩⟩ q'
  · have := S'.s.len
    simp only [List.length_append, List.length_set] at this ⊢
    exact this
  · intro j s hj
    rw [← set_app hi'] at hj
    by_cases hji : j = i
    · subst hji
      rw [List.getElem?_set_self (by rw [List.length_append]; omega)] at hj
      cases hj
      have := lt_of_get ho'
      exact ⟨some (.ref l), by rw [get_l this]; exact ho', l, rfl, ⟨_, hl', RepL.ofStrs ss hok⟩, S'.stp.noI l (by rw [e3]; rfl) m.nI, S'.stp.noB l (by rw [e3]; rfl) m.nB, m.new⟩
    · rw [List.getElem?_set_ne (Ne.symm hji)] at hj
      obtain ⟨o, ho2, ok2⟩ := S'.s.sl j s hj
      refine ⟨o, ho2, ?_⟩
      cases s with
      | no => trivial
      | im d => exact ok2
      | ow d =>
        obtain ⟨l2, rfl, m2⟩ := ok2
        exact ⟨l2, rfl, m2.own, m2.nI, m2.nB, new' j d hj l2 ho2⟩
  · have key : ∀ (k : Nat) (d : D), k ≠ i → (δ' ++ T.d)[k]? = some (.ow d) → (σ' ++ T.v)[k]? = some (some (.ref l)) → False := fun k d hk h1 h2 => by
      obtain ⟨o, ho2, l3, rfl, m3⟩ := S'.s.sl k _ h1
      rw [h2] at ho2
      cases ho2
      rw [m3.new] at e3
      cases e3
    have hil : ∀ l2, (σ' ++ T.v)[i]? = some (some (.ref l2)) → l2 = l := fun l2 h2 => by
      rw [get_l (lt_of_get ho'), ho'] at h2
      cases h2; rfl
    intro j k dj dk l2 hjk hj hk h1 h2
    rw [← set_app hi'] at hj hk
    by_cases hji : j = i
    · subst hji
      rw [List.getElem?_set_ne hjk] at hk
      rw [hil l2 h1] at h2
      exact key k dk (Ne.symm hjk) hk h2
    · rw [List.getElem?_set_ne (Ne.symm hji)] at hj
      by_cases hki : k = i
      · subst hki
        rw [hil l2 h2] at h1
        exact key j dj hji hj h1
      · rw [List.getElem?_set_ne (Ne.symm hki)] at hk
        exact S'.s.sep j k dj dk l2 hjk hj hk h1 h2
end
end T

namespace T
open PySem L2
section
variable {X : Cx} {e : Ent} {pos : Pos}
/-! ### tuples of things that may raise -/
def liftA0 (K : PySem.W.Frag) (e : Ent) (n : Nat) (t : TDA) : TA := fun σ H Q => ∃ (G : Gh) (δ : DSt) (Qd : List D → DSt → Prop), SS K e .nil G H σ δ ∧ t δ Qd ∧ ∀ vs ds H' G' δ', SS K e .nil G' H' σ δ' → Step e G H G' H' → RepL K G' vs ds → ds.length = n → Qd ds δ' → Q vs H'
def DA0 (X : Cx) (e : Ent) (es : List Expr) (t : TDA) : Prop := PA X es (liftA0 X.K e es.length t)
theorem da0_nil : DA0 X e [] dNil := pa_imp pa_nil fun σ H Q ⟨G, δ, Qd, S, q, k⟩ => k [] [] H G δ S Step.refl .nil rfl q
theorem da0_cons {ex : Expr} {es : List Expr} {t : TDE} {r : TDA} (h : DE0 X e ex t) (hr : DA0 X e es r) (hs : starEach (ex :: es) X.env = (false, eval ex X.env) :: starEach es X.env := by rfl) : DA0 X e (ex :: es) (dCons t r) :=
  pa_imp (pa_cons h hr hs) fun σ H Q ⟨G, δ, Qd, S, q, k⟩ => ⟨G, δ, _, S, q, fun v d H' G' δ' S' st' rep q' => ⟨G', δ', fun ds δ2 => Qd (d :: ds) δ2, S', q', fun vs ds H2 G2 δ2 S2 st2 rl len q2 =>
    k (v :: vs) (d :: ds) H2 G2 δ2 S2 (st'.trans st2) (.cons (rep.mono st2.le) rl) (by simp [len]) q2⟩⟩
theorem de0_tup {es : List Expr} {t : TDA} {x1} (h : DA0 X e es t) (hl : es.length ≤ 1000 := by decide) : DE0 X e (.Tuple es x1 pos) (dTup t) :=
  pe_imp (pe_tup h) fun σ H Q ⟨G, δ, Qd, S, q, k⟩ => ⟨G, δ, _, S, q, fun vs ds H1 G1 δ1 S1 st1 r len q1 => ⟨by rw [r.length, len]; exact le_line hl, fun p hp => by
    obtain ⟨G2, S2, st2, rep⟩ := S1.newTup r hp
    exact k _ _ _ G2 δ1 S2 (st1.trans st2) rep q1⟩⟩
/-! ### suites: tests -/
def liftTu (K : PySem.W.Frag) (e : Ent) (u : Su) (t : TDT) : TT := fun σ H Q => ∃ (G : Gh) (δ : DSt) (Qd : Bool → DSt → Prop), SS K e .nil G H σ δ ∧ XdAt K G u.da u.fs u.fvs ∧ δ[u.i]? = some (.im (.ref u.a)) ∧ t δ Qd ∧ ∀ b H' G', SS K e .nil G' H' σ δ → Step e G H G' H' → Qd b δ → Q b H'
def DTu (X : Cx) (e : Ent) (u : Su) (ex : Expr) (t : TDT) : Prop := PT X ex (liftTu X.K e u t)
def dTruB (t : TDE) : TDT := fun δ Q => t δ fun d δ1 => onBl d fun b => Q b δ1
theorem tu_val {u : Su} {ex : Expr} {t : TDE} (h : DEu X e u ex t) (he : ∀ whole, isTrue ex X.env whole = (do let v ← whole; standAt ex.pos; holding [v] (truthy v)) := by intro _; rfl) : DTu X e u ex (dTruB t) :=
  pt_imp (pt_truth h he) fun σ H Q ⟨G, δ, Qd, S, x, hi, q, k⟩ => ⟨G, δ, _, S, x, hi, q, fun v d H1 G1 S1 st1 r q1 => by
    obtain ⟨b, rfl, q1⟩ := onBl_ok q1
    exact ⟨b, truD_ok S1.ok (.inl r) rfl, k b H1 G1 S1 st1 q1⟩⟩
theorem tu_not {u : Su} {a : Expr} {t : TDT} (h : DTu X e u a t) : DTu X e u (.UnaryOp .Not a pos) (dNot t) :=
  pt_imp (pt_not h) fun σ H Q ⟨G, δ, Qd, S, x, hi, q, k⟩ => ⟨G, δ, _, S, x, hi, q, fun c H1 G1 S1 st1 q1 => k (!c) H1 G1 S1 st1 q1⟩
def DWu (X : Cx) (e : Ent) (u : Su) (ex : Expr) (t : TDT) : Prop := PW X ex (liftTu X.K e u t)
theorem wu_and1 {u : Su} {a : Expr} {t : TDT} (h : DTu X e u a t) : DWu X e u (.BoolOp .And [a] pos) t := pw_and1 h
theorem wu_and {u : Su} {a b : Expr} {r : List Expr} {t v : TDT} (h : DTu X e u a t) (hr : DWu X e u (.BoolOp .And (b :: r) pos) v) : DWu X e u (.BoolOp .And (a :: b :: r) pos) (dAnd t v) :=
  pw_imp (pw_and h hr) fun σ H Q ⟨G, δ, Qd, S, x, hi, q, k⟩ => ⟨G, δ, _, S, x, hi, q, fun c H1 G1 S1 st1 q1 => by
    cases c with
    | true => exact iteT ⟨G1, δ, Qd, S1, x.mono st1.le, hi, q1, fun b H2 G2 S2 st2 q2 => k b H2 G2 S2 (st1.trans st2) q2⟩
    | false => exact iteF (k false H1 G1 S1 st1 q1)⟩
theorem eu_if {u : Su} {c a b : Expr} {t : TDT} {ta tb : TDE} (hc : DTu X e u c t) (ha : DEu X e u a ta) (hb : DEu X e u b tb) : DEu X e u (.IfExp c a b pos) (dIf t ta tb) :=
  pe_imp (pe_ifExp hc ha hb) fun σ H Q ⟨G, δ, Qd, S, x, hi, q, k⟩ => ⟨G, δ, _, S, x, hi, q, fun c H1 G1 S1 st1 q1 => by
    cases c with
    | true => exact iteT ⟨G1, δ, Qd, S1, x.mono st1.le, hi, q1, fun v b H2 G2 S2 st2 r2 q2 => k v b H2 G2 S2 (st1.trans st2) r2 q2⟩
    | false => exact iteF ⟨G1, δ, Qd, S1, x.mono st1.le, hi, q1, fun v b H2 G2 S2 st2 r2 q2 => k v b H2 G2 S2 (st1.trans st2) r2 q2⟩⟩
/-! isinstance(err, (C, ..)) -/
def IsEOkT (K : PySem.W.Frag) (cs : List Str) (ms : List (Str × Bool)) : Prop := ∀ p ∈ ms, PySem.W.kitAny K (.ref (He.ga K p.1)) (cs.map fun c => .ref (He.ga K c)) = some p.2
theorem repL_cls {K : PySem.W.Frag} {G : Gh} : ∀ {vs : List V} {cs : List Str}, RepL K G vs (cs.map D.cls) → vs = cs.map fun c => V.ref (He.ga K c)
  | _, [], .nil => rfl
  | _, c :: r, .cons h t => by
    cases h
    rw [List.map_cons, repL_cls t]
theorem vals_refs : ∀ {l : List Addr} {us : List Value}, Vals (l.map V.ref) us → us = l.map Value.ref
  | [], _, .nil => rfl
  | a :: r, _, .cons h t => by
    cases h
    rw [List.map_cons, vals_refs t]
theorem call_isXT {a D da : Addr} {oe : Obj} {pn : List (Addr × Obj)} (C : ExcC X.K D) (hz : Zc (.ref D) (some da) oe) (hf : ∃ vs, oe.data = .fields vs) : CallR (X.suite a ((a, oe) :: pn)) (.builtin "isinstance") (fun xs H Q => ∃ (tp : Addr) (l : List Addr) (b : Bool) (fvs : List (Str × V)), xs = [.ref a, .ref tp] ∧ H tp = some (.tup (l.map V.ref)) ∧ PySem.W.kitAny X.K (.ref D) (l.map Value.ref) = some b ∧ H da = some (.xd fvs) ∧ Q (.bl b) H) := by
  intro pins s σ H xs us Q I r h
  obtain ⟨tp, l, b, fvs, rfl, hT, ek, hda, q⟩ := h
  obtain ⟨u1, u2, rfl, r1, r2⟩ := vals2 r
  cases (show u2 = Value.ref tp from r2)
  cases (show u1 = Value.ref a from r1)
  obtain ⟨hget, _⟩ := I.pin (a, oe) (List.mem_append.mpr (.inl List.mem_cons_self))
  obtain ⟨vs, hv⟩ := hf
  have hx : ObjOk X.prog X.w H s.heap da (.xd fvs) := I.hok da _ hda
  obtain ⟨mA, hns, _⟩ := hx
  obtain ⟨od, ho, hl⟩ := lookIn_ns hns
  have J : PySem.W.InstAt s.heap a oe D (some od) := ⟨hget, hz.1, by unfold PySem.W.notCls; rw [hv] <;> rfl, by rw [hz.2]; exact ho⟩
  obtain ⟨cd, hcd, _⟩ := PySem.W.any_some C.hd
  obtain ⟨_, its, rv, o, h1, h2, n, h3⟩ := (show ObjOk X.prog X.w H s.heap tp (.tup (l.map V.ref)) from I.hok tp _ hT)
  have e3 := vals_refs rv
  subst e3
  obtain ⟨oc, od2, dt, sl⟩ := o
  simp only at h2 h3
  subst h2 h3
  exact PySem.W.kia_tup (PySem.W.kitx_exc (by rw [hcd]; rfl) C.hg C.hk C.hs C.ha C.hn C.ht C.hm) I.kIn J h1 ek (fun z => nomatch z) fun tk => ⟨.bl b, H, I.kept (t' := tk) fun _ _ z => z, rfl, q⟩
theorem eu_isET {i : Nat} {a : Addr} {C : Str} {da : Addr} {fs : List (Str × D)} {fvs : List (Str × V)} {oe : Obj} {pn : List (Addr × Obj)} {ex cx : Expr} {cs : List Str} {ms : List (Str × Bool)} {t : TDE} {p : Pos} (hC : ExcC X.K (He.ga X.K C)) (hz : Zc (.ref (He.ga X.K C)) (some da) oe) (hf : ∃ vs, oe.data = .fields vs) (hms : IsEOkT X.K cs ms)
    (he : PE (X.suite a ((a, oe) :: pn)) ex (tVar i)) (hc : DE (X.suite a ((a, oe) :: pn)) e cx t) (ht : ∀ δ (Q : D → DSt → Prop), Q (.tup (cs.map D.cls)) δ → t δ Q) (hg : Gl X "isinstance") (hm : X.mg "isinstance" = none)
    (hs : starEach (ex :: [cx]) X.env = (false, eval ex X.env) :: starEach [cx] X.env := by rfl) (hs2 : starEach (cx :: []) X.env = (false, eval cx X.env) :: starEach [] X.env := by rfl) (hpl : (backTo pos (starEach [cx] X.env)).any (·.1) = false := by rfl) :
    DEu (X.suite a ((a, oe) :: pn)) e ⟨i, a, C, da, fs, fvs⟩ (.Call (.Name "isinstance" p) [ex, cx] [] pos) (dIsE ms C) := by
  have hm' : (X.suite a ((a, oe) :: pn)).mg "isinstance" = none := hm
  refine pe_imp (pe_callB (X := X.suite a ((a, oe) :: pn)) (call_isXT hC hz hf) hg hm' (by decide +kernel) (pa_cons he (pa_cons hc pa_nil hs2) hs) (by decide) (by decide) hs hpl) fun σ H Q ⟨G, δ, Qd, S, x, hi, ⟨b, hb, q⟩, k⟩ => ?_
  obtain ⟨o, ho, v, rfl, rv⟩ := S.sl _ _ hi
  have ev : v = .ref a := by cases rv; rfl
  subst ev
  refine ⟨_, ho, .nil, G, δ, fun d δ1 => δ1 = δ ∧ d = .tup (cs.map D.cls), S, ht δ _ ⟨rfl, rfl⟩, fun v d H1 G1 δ1 S1 st1 rd q1 => ?_⟩
  obtain ⟨rfl, rfl⟩ := q1
  cases rd with
  | tup hp rr =>
    rename_i tp vs
    have := repL_cls rr
    subst this
    refine ⟨tp, cs.map (He.ga X.K), b, fvs, rfl, ?_, ?_, S1.ok.sub _ _ ((x.mono st1.le).at_), k _ _ H1 G1 S1 st1 (.bl b) q⟩
    · have := S1.ok.sub _ _ hp
      rw [List.map_map]
      exact this
    · rw [List.map_map]
      exact hms _ hb
theorem isTT_ok {K : PySem.W.Frag} {cs : List Str} {ms : List (Str × Bool)} (h : isTT cs ms K = true) : IsEOkT K cs ms := fun p hp => of_decide_eq_true (List.all_eq_true.mp h p hp)
end
end T

namespace T
open PySem L2
abbrev FnQ (K : PySem.W.Frag) (x ql : Str) (st : Stmt) (f : Addr) (fd : FuncData) : Prop := FunD K x ql (defArgs st) (defBody st) (defScope st) [] [] f fd
/-! ### names: plain data -/
def alpha (l : List Nat) : Prop := ∀ c ∈ l, 97 ≤ c ∧ c ≤ 122
structure isW (s : Str) : Prop where
  lo : 1 ≤ (cs s).length
  hi : (cs s).length ≤ 6
  al : alpha (cs s)
theorem str_ext {a b : Str} (h : cs a = cs b) : a = b := by
  cases a; cases b
  have : _ = _ := Array.toList_inj.mp h
  cases this; rfl
theorem cs_app (a b : Str) : cs (a ++ b) = cs a ++ cs b := by
  show (a.cps ++ b.cps).toList = _
  rw [Array.toList_append]; rfl
theorem cs_len (s : Str) : (cs s).length = s.length := Array.length_toList
def lt1 (k : Nat) : Str := ⟨#[97 + k]⟩
theorem cs_lt1 (k : Nat) : cs (lt1 k) = [97 + k] := rfl
def abc : Str := "abcdefghijklmnopqrstuvwxyz"
theorem abc_cs : cs abc = (List.range 26).map (97 + ·) := by decide +kernel
theorem ix_abc {i : Int} {Q : D → Prop} (h0 : 0 ≤ i) (h1 : i < 26) (q : Q (.str (lt1 i.toNat))) : ixX (.str abc) (.int i) Q := by
  refine ix_str (by decide +kernel) h0 (by show i < ((abc.length : Nat) : Int); rw [← cs_len, abc_cs]; simpa using h1) fun c hc => ?_
  have hc : (cs abc)[i.toNat]? = some c := hc
  rw [abc_cs, List.getElem?_map, List.getElem?_range (by omega)] at hc
  cases hc
  exact q
theorem alpha_app {a b : List Nat} (h : alpha a) (k : alpha b) : alpha (a ++ b) := fun c hc => (List.mem_append.mp hc).elim (h c) (k c)
theorem alpha_take {a : List Nat} (n : Nat) (h : alpha a) : alpha (a.take n) := fun c hc => h c (List.mem_of_mem_take hc)
theorem alpha_drop {a : List Nat} (n : Nat) (h : alpha a) : alpha (a.drop n) := fun c hc => h c (List.mem_of_mem_drop hc)
theorem alpha_lt1 {k : Nat} (h : k < 26) : alpha (cs (lt1 k)) := fun c hc => by
  rw [cs_lt1, List.mem_singleton] at hc
  omega
theorem cs_join : ∀ ss : List Str, cs (Str.join "" ss) = (ss.map cs).flatten
  | [] => rfl
  | [x] => by simp [Str.join]
  | x :: y :: r => by
    have ih := cs_join (y :: r)
    show cs ((x ++ ("" : Str)) ++ Str.join "" (y :: r)) = _
    rw [cs_app, cs_app, ih]
    have : cs ("" : Str) = [] := rfl
    rw [this, List.append_nil]
    rfl
theorem cs_cut (s : Str) (lo hi : Option Int) : cs (cutS s lo hi) = cutL (cs s) lo hi := by
  unfold cs cutS cutL
  simp
  rfl
/-- the letters of the k-th found name -/
def tag (f k : Nat) : List Nat := if k < 26 then [97 + (f + 7 * k) % 26] else [97 + (f + 7 * k) % 26, 97 + k / 26]
theorem tag_inj {f k l : Nat} (hk : k < 52) (hl : l < 52) (h : tag f k = tag f l) : k = l := by
  unfold tag at h
  split at h <;> split at h
  · simp only [List.cons.injEq, and_true] at h; omega
  · simp at h
  · simp at h
  · simp only [List.cons.injEq, and_true] at h; omega
theorem mid_inj {α : Type} {a b x y : List α} (h : a ++ x ++ b = a ++ y ++ b) : x = y := by
  rw [List.append_assoc, List.append_assoc] at h
  exact List.append_cancel_right (List.append_cancel_left h)
/-- strings of a and b -/
def plist : Nat → List (List Nat)
  | 0 => [[97], [98]]
  | i + 1 => plist i ++ [((plist i).getD i []) ++ [97], ((plist i).getD i []) ++ [98]]
theorem plist_len (i : Nat) : (plist i).length = 2 * i + 2 := by
  induction i with
  | zero => rfl
  | succ i ih => rw [plist, List.length_append, ih]; rfl
theorem plist_pre {i j : Nat} (h : i ≤ j) : plist i <+: plist j := by
  induction h with
  | refl => exact List.prefix_rfl
  | step _ ih => exact ih.trans (by rw [plist]; exact List.prefix_append _ _)
theorem plist_ok : ((plist 40).take 40).Nodup ∧ ∀ l ∈ (plist 40).take 40, 1 ≤ l.length ∧ l.length ≤ 6 ∧ alpha l := by
  unfold alpha
  decide +kernel
def mk (l : List Nat) : Str := ⟨l.toArray⟩
theorem cs_mk (l : List Nat) : cs (mk l) = l := by simp [cs, mk]
theorem mk_inj {a b : List Nat} (h : mk a = mk b) : a = b := by rw [← cs_mk a, ← cs_mk b, h]
/-- the k-th found name -/
def fnd (st : Str) (a f k : Nat) : Str := mk ((cs st).take a ++ tag f k ++ (cs st).drop a)
theorem fnd_inj {st : Str} {a f k l : Nat} (hk : k < 52) (hl : l < 52) (h : fnd st a f k = fnd st a f l) : k = l := tag_inj hk hl (mid_inj (mk_inj h))
theorem tag_len (f k : Nat) : 1 ≤ (tag f k).length ∧ (tag f k).length ≤ 2 := by unfold tag; split <;> simp
theorem tag_al {f k : Nat} (h : k < 52) : alpha (tag f k) := by
  intro c hc
  unfold tag at hc
  split at hc
  · rw [List.mem_singleton] at hc; omega
  · simp only [List.mem_cons, List.not_mem_nil, or_false] at hc
    rcases hc with rfl | rfl <;> omega
theorem fnd_isW {st : Str} {a f k : Nat} (hk : k < 52) (hs : alpha (cs st)) (hl : (cs st).length ≤ 4) : isW (fnd st a f k) := by
  have h := tag_len f k
  have e : (cs (fnd st a f k)).length = (cs st).length + (tag f k).length := by
    unfold fnd
    rw [cs_mk, List.length_append, List.length_append, List.length_take, List.length_drop]
    omega
  refine ⟨by omega, by omega, ?_⟩
  unfold fnd
  rw [cs_mk]
  exact alpha_app (alpha_app (alpha_take _ hs) (tag_al hk)) (alpha_drop _ hs)
theorem range_nodup {n : Nat} {f : Nat → Str} (h : ∀ k l, k < n → l < n → f k = f l → k = l) : ((List.range n).map f).Nodup := by
  rw [List.nodup_iff_pairwise_ne, List.pairwise_map]
  have := List.nodup_iff_pairwise_ne.mp (List.nodup_range (n := n))
  refine List.Pairwise.imp_of_mem (fun {x y} hx hy hne e => hne (h x y (List.mem_range.mp hx) (List.mem_range.mp hy) e)) this
def wds : List Str := ["places", "edge", "rope", "party", "pull", "row", "undo", "show", "reach", "haul", "rest", "free", "nobody", "still", "length", "a"]
theorem wds_ok : wds.Nodup ∧ ∀ s ∈ wds, 1 ≤ (cs s).length ∧ (cs s).length ≤ 6 ∧ alpha (cs s) := by
  unfold alpha
  decide +kernel
theorem wds_isW {s : Str} (h : s ∈ wds) : isW s := let ⟨a, b, c⟩ := wds_ok.2 s h; ⟨a, b, c⟩

/-- a name that is drawn: a word, not zzzzzz -/
def zz6 : List Nat := [122, 122, 122, 122, 122, 122]
def isNm (s : Str) : Prop := isW s ∧ cs s ≠ zz6
theorem fnd_isNm {st : Str} {a f k : Nat} (hk : k < 52) (hs : alpha (cs st)) (hl : (cs st).length ≤ 4) : isNm (fnd st a f k) := by
  refine ⟨fnd_isW hk hs hl, fun z => ?_⟩
  have e : (cs (fnd st a f k)).length = (cs st).length + (tag f k).length := by
    unfold fnd
    rw [cs_mk, List.length_append, List.length_append, List.length_take, List.length_drop]
    omega
  rw [z] at e
  have e : 6 = (cs st).length + (tag f k).length := e
  by_cases h : k < 26
  · have : (tag f k).length = 1 := by unfold tag; rw [if_pos h]; rfl
    omega
  · have hm : (97 + k / 26) ∈ cs (fnd st a f k) := by
      unfold fnd
      rw [cs_mk]
      refine List.mem_append_left _ (List.mem_append_right _ ?_)
      unfold tag
      rw [if_neg h]
      simp
    rw [z] at hm
    unfold zz6 at hm
    simp at hm
    omega
theorem wds_nz : ∀ s ∈ wds, cs s ≠ zz6 := by decide +kernel
theorem wds_isNm {s : Str} (h : s ∈ wds) : isNm s := ⟨wds_isW h, wds_nz s h⟩
theorem plist_nz : ∀ l ∈ (plist 40).take 40, l ≠ zz6 := by decide +kernel

/-! ### trees: plain data -/
abbrev Ed := Str × Str
structure IsTree (ps : List Str) (es : List Ed) : Prop where
  nd : ps.Nodup
  wd : ∀ p ∈ ps, isW p
  lo : 1 ≤ ps.length
  hi : ps.length ≤ 40
  ends : ∀ e ∈ es, e.1 ∈ ps ∧ e.2 ∈ ps
  len : es.length + 1 = ps.length
  conn : ∀ g : Str → Str, (∀ e ∈ es, g e.1 = g e.2) → ∀ p ∈ ps, ∀ q ∈ ps, g p = g q
def gJoin (g : Str → Str) (e : Ed) : Str → Str := fun p => if g p = g e.2 then g e.1 else g p
def ufAll : (Str → Str) → List Ed → Prop
  | _, [] => True
  | g, e :: r => g e.1 ≠ g e.2 ∧ ufAll (gJoin g e) r
def ufEnd : (Str → Str) → List Ed → (Str → Str)
  | g, [] => g
  | g, e :: r => ufEnd (gJoin g e) r
def RI (ps : List Str) (g : Str → Str) : Prop := ∀ p ∈ ps, g p ∈ ps ∧ g (g p) = g p
theorem ri_join {ps : List Str} {g : Str → Str} {e : Ed} (h : RI ps g) (h1 : e.1 ∈ ps) (h2 : e.2 ∈ ps) : RI ps (gJoin g e) := by
  intro p hp
  unfold gJoin
  have a1 := h e.1 h1
  have a2 := h p hp
  by_cases hb : g p = g e.2
  · simp only [hb, if_true]
    refine ⟨a1.1, ?_⟩
    rw [a1.2]
    split <;> rfl
  · simp only [if_neg hb]
    refine ⟨a2.1, ?_⟩
    rw [a2.2, if_neg hb]
def fx (ps : List Str) (g : Str → Str) : Nat := (ps.filter fun p => decide (g p = p)).length
theorem filt_ne {l : List Str} {b : Str} (h : l.Nodup) (hb : b ∈ l) : (l.filter fun p => decide (p ≠ b)).length + 1 = l.length := by
  have e : l.filter (fun p => decide (p ≠ b)) = l.erase b := by
    rw [h.erase_eq_filter]
    congr 1
    funext p
    by_cases hp : p = b <;> simp [hp]
  rw [e, List.length_erase_of_mem hb]
  have := List.length_pos_of_mem hb
  omega
theorem fx_join {ps : List Str} {g : Str → Str} {e : Ed} (nd : ps.Nodup) (h : RI ps g) (h1 : e.1 ∈ ps) (h2 : e.2 ∈ ps) (hne : g e.1 ≠ g e.2) : fx ps (gJoin g e) + 1 = fx ps g := by
  have a1 := h e.1 h1
  have a2 := h e.2 h2
  have key : ps.filter (fun p => decide (gJoin g e p = p)) = (ps.filter fun p => decide (g p = p)).filter fun p => decide (p ≠ g e.2) := by
    rw [List.filter_filter]
    refine List.filter_congr fun p hp => ?_
    rw [Bool.eq_iff_iff]
    simp only [decide_eq_true_iff, Bool.and_eq_true]
    unfold gJoin
    by_cases hb : g p = g e.2
    · rw [if_pos hb]
      constructor
      · intro z
        exfalso
        rw [← z, a1.2] at hb
        exact hne hb
      · rintro ⟨z1, z2⟩
        rw [z2] at hb
        exact absurd hb z1
    · rw [if_neg hb]
      constructor
      · intro z; exact ⟨fun y => hb (by rw [z, y]), z⟩
      · exact fun z => z.2
  unfold fx
  rw [key]
  exact filt_ne (nd.sublist List.filter_sublist) (List.mem_filter.mpr ⟨a2.1, decide_eq_true a2.2⟩)
theorem join_same {g : Str → Str} {e : Ed} (h : g e.1 = g e.2) : gJoin g e = g := by
  funext p
  unfold gJoin
  split
  · rename_i z; rw [h, z]
  · rfl
theorem uf_count {ps : List Str} (nd : ps.Nodup) : ∀ (es : List Ed) (g : Str → Str), RI ps g → (∀ e ∈ es, e.1 ∈ ps ∧ e.2 ∈ ps) → fx ps g ≤ fx ps (ufEnd g es) + es.length ∧ (fx ps g = fx ps (ufEnd g es) + es.length → ufAll g es) ∧ RI ps (ufEnd g es)
  | [], g, h, _ => ⟨Nat.le_refl _, fun _ => trivial, h⟩
  | e :: r, g, h, he => by
    obtain ⟨e1, e2⟩ := he e List.mem_cons_self
    have ih := uf_count nd r (gJoin g e) (ri_join h e1 e2) fun x hx => he x (List.mem_cons_of_mem _ hx)
    show _ ≤ fx ps (ufEnd (gJoin g e) r) + (r.length + 1) ∧ (_ = fx ps (ufEnd (gJoin g e) r) + (r.length + 1) → g e.1 ≠ g e.2 ∧ ufAll (gJoin g e) r) ∧ RI ps (ufEnd (gJoin g e) r)
    by_cases hb : g e.1 = g e.2
    · rw [join_same hb] at ih ⊢
      exact ⟨by omega, fun z => by omega, ih.2.2⟩
    · have := fx_join nd h e1 e2 hb
      exact ⟨by omega, fun z => ⟨hb, ih.2.1 (by omega)⟩, ih.2.2⟩
theorem uf_mono : ∀ (es : List Ed) (g : Str → Str) {p q : Str}, g p = g q → ufEnd g es p = ufEnd g es q
  | [], _, _, _, h => h
  | e :: r, g, p, q, h => uf_mono r (gJoin g e) (by unfold gJoin; rw [h])
theorem uf_edge : ∀ (es : List Ed) (g : Str → Str), ∀ e ∈ es, ufEnd g es e.1 = ufEnd g es e.2
  | [], _, _, h => nomatch h
  | x :: r, g, e, h => by
    rcases List.mem_cons.mp h with rfl | h
    · refine uf_mono r _ ?_
      unfold gJoin
      rw [if_pos rfl]
      split
      · rfl
      · rfl
    · exact uf_edge r _ e h
theorem uf_tree {ps : List Str} {es : List Ed} (t : IsTree ps es) : ufAll id es ∧ ∀ p ∈ ps, ∀ q ∈ ps, ufEnd id es p = ufEnd id es q := by
  have ri0 : RI ps id := fun p hp => ⟨hp, rfl⟩
  obtain ⟨h1, h2, h3⟩ := uf_count t.nd es id ri0 t.ends
  have eq := t.conn (ufEnd id es) (uf_edge es id)
  refine ⟨h2 ?_, eq⟩
  obtain ⟨r, hr⟩ : ∃ r, r ∈ ps := List.exists_mem_of_length_pos t.lo
  have e0 : fx ps id = ps.length := by unfold fx; rw [List.filter_eq_self.mpr (fun a _ => decide_eq_true (show id a = a from rfl))]
  have hrep := h3 r hr
  have e1 : fx ps (ufEnd id es) = 1 := by
    unfold fx
    have : ps.filter (fun p => decide (ufEnd id es p = p)) = ps.filter fun p => decide (p = ufEnd id es r) := List.filter_congr fun p hp => by
      rw [Bool.eq_iff_iff, decide_eq_true_iff, decide_eq_true_iff, eq p hp r hr]
      exact ⟨fun z => z.symm, fun z => z.symm⟩
    rw [this]
    have c := t.nd.count (a := ufEnd id es r)
    rw [if_pos hrep.1] at c
    rw [← c, List.count_eq_length_filter]
    congr 1
  have := t.len
  omega
theorem uf_get : ∀ {es : List Ed} {g : Str → Str} {i : Nat} {e : Ed}, ufAll g es → es[i]? = some e → ufEnd g (es.take i) e.1 ≠ ufEnd g (es.take i) e.2
  | [], _, _, _, _, h => by simp at h
  | x :: r, g, 0, e, h, hi => by simp at hi; subst hi; exact h.1
  | x :: r, g, i + 1, e, h, hi => uf_get (es := r) (g := gJoin g x) h.2 (by simpa using hi)
theorem uf_take : ∀ {es : List Ed} {g : Str → Str} {i : Nat} {e : Ed}, es[i]? = some e → ufEnd g (es.take (i + 1)) = gJoin (ufEnd g (es.take i)) e
  | [], _, _, _, h => by simp at h
  | x :: r, g, 0, e, h => by simp at h; subst h; rfl
  | x :: r, g, i + 1, e, h => uf_take (es := r) (g := gJoin g x) (by simpa using h)
/-- an edge is no loop and does not come twice -/
theorem tree_edge {ps : List Str} {es : List Ed} (t : IsTree ps es) {i : Nat} {e : Ed} (h : es[i]? = some e) : e.1 ∈ ps ∧ e.2 ∈ ps ∧ e.1 ≠ e.2 ∧ (e.1, e.2) ∉ es.take i ∧ (e.2, e.1) ∉ es.take i := by
  have hm := t.ends e (List.mem_of_getElem? h)
  have hg := uf_get (uf_tree t).1 h
  refine ⟨hm.1, hm.2, fun z => hg (by rw [z]), fun z => hg (uf_edge _ _ _ z), fun z => hg (uf_edge _ _ _ z).symm⟩
theorem IsTree.perm {ps ps' : List Str} {es es' : List Ed} (t : IsTree ps es) (hp : ps'.Perm ps) (he : ∀ e, (e ∈ es' ∨ (e.2, e.1) ∈ es') ↔ (e ∈ es ∨ (e.2, e.1) ∈ es)) (hl : es'.length = es.length) : IsTree ps' es' where
  nd := hp.nodup_iff.mpr t.nd
  wd := fun p h => t.wd p (hp.mem_iff.mp h)
  lo := by rw [hp.length_eq]; exact t.lo
  hi := by rw [hp.length_eq]; exact t.hi
  ends := fun e h => by
    rcases (he e).mp (.inl h) with h | h
    · exact ⟨hp.mem_iff.mpr (t.ends e h).1, hp.mem_iff.mpr (t.ends e h).2⟩
    · exact ⟨hp.mem_iff.mpr (t.ends _ h).2, hp.mem_iff.mpr (t.ends _ h).1⟩
  len := by rw [hl, hp.length_eq]; exact t.len
  conn := fun g hg p h q k => t.conn g (fun e h => by
    rcases (he e).mpr (.inl h) with h | h
    · exact hg e h
    · exact (hg _ h).symm) p (hp.mem_iff.mp h) q (hp.mem_iff.mp k)
/-- neighbours, in place order -/
def adj (es : List Ed) (p q : Str) : Bool := decide ((p, q) ∈ es) || decide ((q, p) ∈ es)
def nbs (ps : List Str) (es : List Ed) (p : Str) : List Str := ps.filter fun q => adj es p q
theorem adj_iff {es : List Ed} {p q : Str} : adj es p q = true ↔ (p, q) ∈ es ∨ (q, p) ∈ es := by
  unfold adj; rw [Bool.or_eq_true_iff, decide_eq_true_iff, decide_eq_true_iff]
theorem adj_comm {es : List Ed} (p q : Str) : adj es p q = adj es q p := by unfold adj; rw [Bool.or_comm]
theorem nbs_mem {ps : List Str} {es : List Ed} {p q : Str} : q ∈ nbs ps es p ↔ q ∈ ps ∧ adj es p q = true := List.mem_filter
/-- a set that holds a place and all neighbours of what it holds holds all places -/
theorem tree_reach {ps : List Str} {es : List Ed} (t : IsTree ps es) {S : Str → Prop} {s : Str} (hs : s ∈ ps) (h0 : S s) (hc : ∀ p ∈ ps, S p → ∀ q ∈ ps, adj es p q = true → S q) : ∀ p ∈ ps, S p := by
  classical
  intro p hp
  have := t.conn (fun x => if S x then "a" else "b") (fun e he => by
    obtain ⟨h1, h2⟩ := t.ends e he
    have a1 : adj es e.1 e.2 = true := adj_iff.mpr (.inl he)
    by_cases z : S e.1
    · have z2 := hc e.1 h1 z e.2 h2 a1
      simp only [if_pos z, if_pos z2]
    · have z2 : ¬ S e.2 := fun y => z (hc e.2 h2 y e.1 h1 (by rw [adj_comm]; exact a1))
      simp only [if_neg z, if_neg z2]) s hs p hp
  simp only [if_pos h0] at this
  by_cases z : S p
  · exact z
  · rw [if_neg z] at this
    exact absurd this (by decide)

local macro_rules | `(tactic| walk_at "dt") => `(tactic| try simp only [↓s_next, ↓s_seq, ↓s_sto, ↓s_drop, ↓s_ret, ↓s_if, ↓s_never, ↓s_asg, ↓s_asgO, ↓s_pars, ↓s_great, ↓g_name, ↓g_nil, ↓g_cons, ↓g_seqT, ↓g_seqL, ↓g_box, ↓for_eq, ↓lc_eq, ↓dc_eq, ↓i_seq, ↓i_enum, ↓i_range1,
  ↓vi0, ↓vo0, ↓ri0, ↓ro0, ↓ol0, ↓as0, ↓vi1, ↓vo1, ↓ri1, ↓ro1, ↓ol1, ↓as1, ↓vi2, ↓vo2, ↓ri2, ↓ro2, ↓ol2, ↓as2, ↓vi3, ↓vo3, ↓ri3, ↓ro3, ↓ol3, ↓as3, ↓vi4, ↓vo4, ↓ri4, ↓ro4, ↓ol4, ↓as4, ↓vi5, ↓vo5, ↓ri5, ↓ro5, ↓ol5, ↓as5, ↓vi6, ↓vo6, ↓ri6, ↓ro6, ↓ol6, ↓as6, ↓vi7, ↓vo7, ↓ri7, ↓ro7, ↓ol7, ↓as7, ↓vi8, ↓vo8, ↓ri8, ↓ro8, ↓ol8, ↓as8, ↓vi9, ↓vo9, ↓ri9, ↓ro9, ↓ol9, ↓as9, ↓vi10, ↓vo10, ↓ri10, ↓ro10, ↓ol10, ↓as10, ↓vi11, ↓vo11, ↓ri11, ↓ro11, ↓ol11, ↓as11, ↓vi12, ↓vo12, ↓ri12, ↓ro12, ↓ol12, ↓as12, ↓vi13, ↓vo13, ↓ri13, ↓ro13, ↓ol13, ↓as13, ↓vi14, ↓vo14, ↓ri14, ↓ro14, ↓ol14, ↓as14, ↓vi15, ↓vo15, ↓ri15, ↓ro15, ↓ol15, ↓as15, ↓vi16, ↓vo16, ↓ri16, ↓ro16, ↓ol16, ↓as16, ↓vi17, ↓vo17, ↓ri17, ↓ro17, ↓ol17, ↓as17, ↓vi18, ↓vo18, ↓ri18, ↓ro18, ↓ol18, ↓as18, ↓vi19, ↓vo19, ↓ri19, ↓ro19, ↓ol19, ↓as19, ↓vi20, ↓vo20, ↓ri20, ↓ro20, ↓ol20, ↓as20, ↓vi21, ↓vo21, ↓ri21, ↓ro21, ↓ol21, ↓as21, ↓vi22, ↓vo22, ↓ri22, ↓ro22, ↓ol22, ↓as22, ↓vi23, ↓vo23, ↓ri23, ↓ro23, ↓ol23, ↓as23, ↓vi24, ↓vo24, ↓ri24, ↓ro24, ↓ol24, ↓as24, ↓vi25, ↓vo25, ↓ri25, ↓ro25, ↓ol25, ↓as25, ↓at_s1, ↓at_s0, ↓at_w1, ↓at_w0, ↓mt_b, ↓mt_l, ↓mt_t, ↓mt_i,
  ↓e_c, ↓e_nil, ↓e_cons, ↓e_tup, ↓e_lst, ↓e_two1, ↓e_two2, ↓e_two3, ↓e_two4, ↓e_bin, ↓e_tbin, ↓e_chain, ↓e_and, ↓e_or, ↓e_not, ↓e_tru1, ↓e_tru2, ↓e_andV, ↓e_orV, ↓e_notV, ↓e_if, ↓e_call, ↓e_p0, ↓e_p1, ↓e_one1, ↓e_one2, ↓e_b1, ↓e_b2, ↓e_tb2, ↓e_sl1, ↓e_sl2, ↓e_append, ↓e_extend, ↓e_popAt, ↓e_yes, ↓e_join, ↓in_strL, ↓in_strT, ↓x_mulS, ↓e_new, ↓e_newV, ↓e_meth, ↓e_prop, ↓e_stat, ↓e_statI, ↓e_clsM, ↓e_evN, ↓e_evI, ↓e_evO, ↓e_boxNew,
  z0, z1, z2, h0, h1, h2, ↓bx0, ↓rgI, ↓sqL, ↓sqT, ↓sqR, ↓enL, ↓enT, ↓lsL, wipeD, e_var, v0, v1, r0, r1, o0, m0, at0, setD, startD, startI, dFldSet,
  List.map_cons, List.map_nil, List.replicate, List.cons_append, List.nil_append, List.length_cons, List.length_nil, List.getElem?_cons_zero, List.getElem?_cons_succ, List.getElem?_nil, List.set_cons_zero, List.set_cons_succ, List.set_nil, Nat.reduceAdd, Nat.reduceSub, Nat.sub_zero, Nat.sub_self, Nat.zero_add, Nat.add_zero,
  true_and, and_true, if_true, if_false, Bool.false_eq_true, Bool.not_true, Bool.not_false, Bool.not_eq_true, decide_true, decide_false, Bool.true_eq_false, reduceCtorEq, ite_true, ite_false, List.mem_cons, List.not_mem_nil, or_false, beq_self_eq_true, Nat.reduceLT, Nat.reduceLeDiff, Int.reduceLT, Int.reduceLE, Int.reduceAdd, Int.reduceSub, Int.reduceMul, Int.reducePow, Int.reduceToNat, Int.reduceEq, Int.reduceNeg, Int.reduceMod, Int.reduceDiv, Nat.reduceEqDiff, and_self, Bool.not_not,
  ↓x_bl, x_truB, x_truL, x_truT, x_truI, ↓x_eqI, ↓x_eqS, ↓x_eqB, ↓x_neI, ↓x_neS, ↓x_neB, ↓x_addI, ↓x_addL, ↓x_addT, ↓x_addS, ↓x_subI, ↓x_mulI, ↓x_modI, ↓x_fdivI, ↓x_powI, ↓x_lt, ↓x_le, ↓x_gt, ↓x_ge, ↓x_ltP, ↓x_leP, ↓x_gtP, ↓x_geP, ↓x_lenL, ↓x_lenT, ↓x_lenS, ↓x_tupL, ↓x_tupT, ↓x_lisL, ↓x_lisT, ↓x_rev, ↓x_intI, ↓x_intB, ↓x_abs, ↓x_min, ↓x_max, ↓x_is, ↓x_isNot, x_isN0, x_isN1, x_isN2, x_isN3, x_isN4, ↓x_nil, ↓x_nnil, ↓x_ix0, ↓x_ix1, ↓x_ix2, ↓x_ix3, ↓x_ix4, ↓x_ix5, ↓x_ix6, ↓x_ix7, ↓x_it0, ↓x_it1, ↓x_it2, ↓x_ixB, x_kn, x_ks, x_kt, ↓x_slL, ↓x_slT, ↓x_slS, ↓x_slR,
  ↓s_aug, ↓g_put, ↓g_item, ↓e_callB, ↓e_disp, ↓e_ps0, ↓e_ps1, ↓i_str, ↓i_range2, ↓e_get2, ↓e_step, ↓x_step, ↓e_f1, ↓e_fstr, ↓e_fs0, ↓e_fs1, ↓e_fs2, ↓x_repr, ↓x_strI, ↓x_strS, ↓x_onStr, ↓x_onInt, ↓oa0, ↓od0, ↓oa1, ↓od1, ↓oa2, ↓od2, ↓oa3, ↓od3, ↓oa4, ↓od4, ↓oa5, ↓od5, ↓oa6, ↓od6, ↓oa7, ↓od7, ↓oa8, ↓od8, ↓oa9, ↓od9, ↓oa10, ↓od10, ↓oa11, ↓od11, ↓oa12, ↓od12, h3, h4, x_ko0, x_ko1, x_ko2, ↓x_ixK, ↓x_ixZ, ↓x_inK, ↓x_listK, ↓x_listZ, ↓x_listT, ↓x_isS, ↓x_isT, ↓x_inS])

/-! ### trees: data -/
def dps (ps : List Str) : D := .tup (ps.map D.str)
def edD (e : Ed) : D := .tup [.str e.1, .str e.2]
def des (es : List Ed) : D := .tup (es.map edD)
def grD (ps : List Str) (g : Str → Str) : List (Key × D) := ps.map fun p => (kS p, .str (g p))
/-- a word, by its signs -/
def wordB (s : Str) : Bool := decide (1 ≤ s.length) && (decide (s.length ≤ 6) && (cs s).all fun c => decide (c ∈ abc.cps.toList))
theorem mem_abc {c : Nat} : c ∈ abc.cps.toList ↔ 97 ≤ c ∧ c ≤ 122 := by
  have e : abc.cps.toList = (List.range 26).map (97 + ·) := abc_cs
  rw [e, List.mem_map]
  constructor
  · rintro ⟨k, hk, rfl⟩; have := List.mem_range.mp hk; omega
  · exact fun h => ⟨c - 97, List.mem_range.mpr (by omega), by omega⟩
theorem wordB_iff {s : Str} : wordB s = true ↔ isW s := by
  unfold wordB
  rw [Bool.and_eq_true, Bool.and_eq_true, decide_eq_true_iff, decide_eq_true_iff, List.all_eq_true]
  constructor
  · rintro ⟨h1, h2, h3⟩
    exact ⟨by rw [cs_len]; exact h1, by rw [cs_len]; exact h2, fun c hc => mem_abc.mp (of_decide_eq_true (h3 c hc))⟩
  · rintro ⟨h1, h2, h3⟩
    exact ⟨by rw [← cs_len]; exact h1, by rw [← cs_len]; exact h2, fun c hc => decide_eq_true (mem_abc.mpr (h3 c hc))⟩
/-- whether any plain thing is a word -/
def wordD : D → Bool
  | .str s => wordB s
  | _ => false
/-- a thing of which is_word may be asked -/
def askB : D → Prop
  | .str s => s.length ≤ 100000
  | .non => True
  | .bl _ => True
  | .int _ => True
  | .tup _ => True
  | _ => False
def sd_is_word : SpD := fun ds Q => ∃ v, ds = [v] ∧ askB v ∧ Q (.bl (wordD v))
theorem len_is_word (ds : List D) (Q : D → Prop) (h : sd_is_word ds Q) : ds.length = 1 := by obtain ⟨a, rfl, _⟩ := h; rfl
theorem word_at {v : D} {Q : D → Prop} : sd_is_word [v] Q = (askB v ∧ Q (.bl (wordD v))) := by
  rw [eq_iff_iff]
  exact ⟨fun ⟨a, e, h⟩ => by cases e; exact h, fun h => ⟨v, rfl, h⟩⟩
abbrev N_is_word : List Str := ["value", "letter"]
theorem sc_is_word : FnScope N_is_word ["value"] (defScope st_is_word) := ⟨rfl, rfl, rfl, by decide +kernel, rfl, by decide +kernel, by decide +kernel⟩
def t_is_word : TDS :=
  dSeq (dIfS (dOr (dNot (dTru (.ex (dB2 isiX (dVar 0) (dC (.ty "str")))))) (dNot (fun δ Q => dChain (leD) (leD) (dC (.int 1)) (dB1 lenD (.sl 0)) (dC (.int 6)) δ fun z δ' => onBl z fun b => Q b δ'))) (dRet (dC (.bl false))) (dNext))
  (dRet (dB1 (anyD true) (.ex (dLc (iStrD (dVar 0)) (dgName 1) (dYes) (dBin (inX false) (.sl 1) (.ex (dC (.str "abcdefghijklmnopqrstuvwxyz")))) [1]))))
theorem pure_is_word (ds : List D) (Q : D → Prop) (h : sd_is_word ds Q) : t_is_word (ends Q) (startD 2 ds) := by
  obtain ⟨v, rfl, ha, q⟩ := h
  unfold t_is_word
  cases v with
  | str s =>
    have hl : s.length ≤ sizeLine := Nat.le_of_lt (line_of ha)
    walk_at "dt"
    refine ⟨hl, if_b (fun h1 => if_b (fun h2 => ?_) fun h2 => ?_) fun h1 => ?_⟩
    · have e : wordD (.str s) = false := by
        show wordB s = false
        have : decide (s.length ≤ 6) = false := decide_eq_false fun z => by
          have z2 : decide ((s.length : Int) ≤ 6) = true := decide_eq_true (by omega)
          rw [z2] at h2; cases h2
        unfold wordB
        rw [this, Bool.false_and, Bool.and_false]
      rw [e] at q; exact q
    · refine lc_m (cs s) (fun c => D.str ⟨#[c]⟩) (fun c => .bl (decide (c ∈ abc.cps.toList))) rfl (by rw [cs_len]; exact ha) (fun x hx K1 k1 => ?_) ?_
      · walk_at "dt"
        exact k1
      · dsimp only [atS]
        rw [all_at (fun c => decide (c ∈ abc.cps.toList))]
        have e : wordD (.str s) = (cs s).all fun c => decide (c ∈ abc.cps.toList) := by
          show wordB s = _
          have a1 : decide (1 ≤ s.length) = true := decide_eq_true (by have := of_decide_eq_true h1; omega)
          have a2 : decide (s.length ≤ 6) = true := decide_eq_true (by
            rw [Bool.not_eq_false'] at h2
            have := of_decide_eq_true h2; omega)
          unfold wordB
          rw [a1, a2, Bool.true_and, Bool.true_and]
        rw [e] at q; exact q
    · have e : wordD (.str s) = false := by
        show wordB s = false
        have : decide (1 ≤ s.length) = false := decide_eq_false fun z => by
          have := of_decide_eq_false h1
          omega
        unfold wordB
        rw [this, Bool.false_and]
      rw [e] at q; exact q
  | non => walk_at "dt"; rw [isi_no (t := "NoneType") rfl (by decide)]; walk_at "dt"; exact q
  | bl b => walk_at "dt"; rw [isi_no (t := "bool") rfl (by decide)]; walk_at "dt"; exact q
  | int i => walk_at "dt"; rw [isi_no (t := "int") rfl (by decide)]; walk_at "dt"; exact q
  | tup l => walk_at "dt"; rw [isi_no (t := "tuple") rfl (by decide)]; walk_at "dt"; exact q
  | _ => exact ha.elim

def sd_is_strings : SpD := fun ds Q => ∃ (l : List Str) (m : Option Nat), ds = [.tup (l.map D.str), (match m with | none => .non | some n => .int (n : Int))] ∧ l.length ≤ 1000 ∧ (∀ n, m = some n → l.length = n) ∧ Q (.bl true)
theorem len_is_strings (ds : List D) (Q : D → Prop) (h : sd_is_strings ds Q) : ds.length = 2 := by obtain ⟨a, m, rfl, _⟩ := h; rfl
abbrev N_is_strings : List Str := ["value", "many", "item"]
theorem sc_is_strings : FnScope N_is_strings ["value", "many"] (defScope st_is_strings) := ⟨rfl, rfl, rfl, by decide +kernel, rfl, by decide +kernel, by decide +kernel⟩
def t_is_strings : TDS :=
  dSeq (dIfS (dOr (dNot (dTru (.ex (dB2 isiX (dVar 0) (dC (.ty "tuple")))))) (dNot (dTru (.ex (dB1 (anyD true) (.ex (dLc (iSeq (dVar 0)) (dgName 2) (dYes) (dB2 isiX (dVar 2) (dC (.ty "str"))) [2]))))))) (dRet (dC (.bl false))) (dNext))
  (dRet (dOrV (dBin (isD) (.sl 1) (.ex (dC .non))) (dBin (eqX) (.ex (dB1 lenD (.sl 0))) (.sl 1))))
theorem pure_is_strings (ds : List D) (Q : D → Prop) (h : sd_is_strings ds Q) : t_is_strings (ends Q) (startD 3 ds) := by
  obtain ⟨l, m, rfl, hl, hm, q⟩ := h
  unfold t_is_strings
  walk_at "dt"
  refine lc_m l D.str (fun _ => .bl true) rfl (by omega) (fun x hx K1 k1 => ?_) ?_
  · walk_at "dt"
    exact k1
  · walk_at "dt"
    rw [all_at (fun _ => true) l, show l.all (fun _ => true) = true from by simp]
    walk_at "dt"
    cases m with
    | none => walk_at "dt"; exact q
    | some n =>
      walk_at "dt"
      have := hm n rfl
      have e : decide (((l.map D.str).length : Int) = (n : Int)) = true := decide_eq_true (by rw [List.length_map]; omega)
      rw [e]
      exact q
def sd_check_places : SpD := fun ds Q => ∃ ps : List Str, ds = [dps ps] ∧ 1 ≤ ps.length ∧ ps.length ≤ 40 ∧ ps.Nodup ∧ (∀ p ∈ ps, isW p) ∧ Q .non
theorem len_check_places (ds : List D) (Q : D → Prop) (h : sd_check_places ds Q) : ds.length = 1 := by obtain ⟨a, rfl, _⟩ := h; rfl
theorem take_nodup {ps : List Str} {i : Nat} {p : Str} (nd : ps.Nodup) (h : ps[i]? = some p) : p ∉ ps.take i := fun z => by
  obtain ⟨j, hj, e⟩ := List.mem_iff_getElem.mp z
  rw [List.length_take] at hj
  rw [List.getElem_take] at e
  have hi := lt_of_get h
  have e2 : ps[j] = ps[i] := by rw [e]; exact (List.getElem?_eq_some_iff.mp h).2.symm
  have := (List.getElem_inj nd).mp e2
  omega
theorem nd' {p : Prop} [Decidable p] (h : p) : (!decide p) = false := by rw [decide_eq_true h]; rfl
theorem ask_word {p : Str} (h : isW p) : askB (.str p) := by
  have := h.hi
  rw [cs_len] at this
  show p.length ≤ 100000
  omega
theorem word_yes {p : Str} (h : isW p) : wordD (.str p) = true := wordB_iff.mpr h
abbrev N_check_places : List Str := ["places", "at", "place"]
theorem sc_check_places : FnScope N_check_places ["places"] (defScope st_check_places) := ⟨rfl, rfl, rfl, by decide +kernel, rfl, by decide +kernel, by decide +kernel⟩
def t_check_places : TDS :=
  dSeq (dIfS (dNot (fun δ Q => dChain (leD) (leD) (dC (.int 1)) (dB1 lenD (.sl 0)) (dC (.int 40)) δ fun z δ' => onBl z fun b => Q b δ')) (dNever) (dNext))
  (dFor (iEnum (dVar 0)) (dgSeq 2 (dgCons (dgName 1) (dgCons (dgName 2) (dgNil)))) (dIfS (dOr (dNot (dTru (.ex (dCall sd_is_word (dCons (dVar 2) (dNil)))))) (dtBin (inX false) (.sl 2) (.ex (dSl (.sl 0) (dP0) (dP1 (dVar 1)))))) (dNever) (dNext)))
theorem pure_check_places (ds : List D) (Q : D → Prop) (h : sd_check_places ds Q) : t_check_places (ends Q) (startD 3 ds) := by
  obtain ⟨ps, rfl, h1, h2, nd, hw, q⟩ := h
  unfold t_check_places dps
  walk_at "dt"
  refine if_t (decide_eq_true (by rw [List.length_map]; omega)) (if_f (nd' (by rw [List.length_map]; omega)) ?_)
  refine for_go (fun (i : Nat) (δ : DSt) => ∃ c1 c2, δ = [.im (.tup (ps.map D.str)), c1, c2]) ⟨_, _, rfl⟩ ?_ ?_
  · rintro i d δ' hd ⟨c1, c2, rfl⟩
    obtain ⟨x, hx, rfl⟩ := enum_get hd
    rw [List.getElem?_map] at hx
    cases hp : ps[i]? with
    | none => rw [hp] at hx; cases hx
    | some p =>
      rw [hp] at hx
      cases hx
      have hm := List.mem_of_getElem? hp
      walk_at "dt"
      rw [word_at]
      refine ⟨ask_word (hw p hm), ?_⟩
      rw [word_yes (hw p hm)]
      walk_at "dt"
      rw [cut_to (by omega), Int.toNat_natCast, ← List.map_take]
      walk_at "dt"
      refine if_f (decide_eq_false (take_nodup nd hp)) ?_
      exact ⟨_, _, rfl⟩
  · rintro δ' ⟨c1, c2, rfl⟩
    exact q
/-! edges -/
theorem edD_inj {a b : Ed} (h : edD a = edD b) : a = b := by
  obtain ⟨a1, a2⟩ := a
  obtain ⟨b1, b2⟩ := b
  unfold edD at h
  simp at h
  rw [h.1, h.2]
theorem ed_mem {e : Ed} {es : List Ed} : edD e ∈ es.map edD ↔ e ∈ es := by
  rw [List.mem_map]
  constructor
  · rintro ⟨x, hx, h⟩; rw [← edD_inj h]; exact hx
  · exact fun h => ⟨e, h, rfl⟩
theorem ed_plain (es : List Ed) : plainL (es.map edD) = true := plainL_all.mpr fun d hd => by
  obtain ⟨e, _, rfl⟩ := List.mem_map.mp hd
  rfl
theorem dep_ed (e : Ed) : dep (edD e) ≤ 2 := by
  show _ + 1 ≤ 2
  simp [pyL, py, PyData.depthAll, PyData.depth]
theorem dep_eds (es : List Ed) : dep (.lst (es.map edD)) ≤ 64 := by
  show _ + 1 ≤ 64
  have : PyData.depthAll (pyL (es.map edD)) ≤ 2 := depth_all fun x hx => by
    rw [pyL_map] at hx
    obtain ⟨d, hd, rfl⟩ := List.mem_map.mp hx
    obtain ⟨e, _, rfl⟩ := List.mem_map.mp hd
    exact dep_ed e
  omega
theorem in_ed {neg : Bool} {a b : Str} {es : List Ed} {Q : D → Prop} : inX neg (.tup [.str a, .str b]) (.tup (es.map edD)) Q = Q (.bl (if neg = true then !decide ((a, b) ∈ es) else decide ((a, b) ∈ es))) := by
  have hd : dep (edD (a, b)) ≤ 64 := Nat.le_trans (dep_ed (a, b)) (by decide)
  have e : inX neg (edD (a, b)) (.tup (es.map edD)) Q = ((isDat (edD (a, b)) = true ∧ isDatL (es.map edD) = true ∧ dep (edD (a, b)) ≤ 64 ∧ dep (.tup (es.map edD)) ≤ 64) ∧ Q (.bl (if neg = true then !inL (edD (a, b)) (es.map edD) else inL (edD (a, b)) (es.map edD)))) := by unfold inX; cases neg <;> rfl
  have e2 : inL (edD (a, b)) (es.map edD) = decide ((a, b) ∈ es) := by
    rw [Bool.eq_iff_iff, inL_plain rfl (ed_plain es), ed_mem, decide_eq_true_iff]
  rw [show D.tup [.str a, .str b] = edD (a, b) from rfl, e, e2, eq_iff_iff]
  exact ⟨fun h => h.2, fun h => ⟨⟨rfl, isDatL_iff.mpr fun d hd => plain_dat (plainL_all.mp (ed_plain es) d hd), hd, dep_eds es⟩, h⟩⟩
theorem g_ed {e : Ed} {t : TDGs} {δ : DSt} {Q : DSt → Prop} : dgSeq 2 t (edD e) δ Q = t [.str e.1, .str e.2] δ Q := by
  show ((2 : Nat) = 2 ∧ t [.str e.1, .str e.2] δ Q) = _
  simp

local macro_rules | `(tactic| walk_at "du") => `(tactic| try simp only [↓s_next, ↓s_seq, ↓s_sto, ↓s_drop, ↓s_ret, ↓s_if, ↓s_never, ↓s_asg, ↓s_asgO, ↓s_pars, ↓s_great, ↓g_name, ↓g_nil, ↓g_cons, ↓g_seqT, ↓g_seqL, ↓g_box, ↓for_eq, ↓lc_eq, ↓dc_eq, ↓i_seq, ↓i_enum, ↓i_range1,
  ↓vi0, ↓vo0, ↓ri0, ↓ro0, ↓ol0, ↓as0, ↓vi1, ↓vo1, ↓ri1, ↓ro1, ↓ol1, ↓as1, ↓vi2, ↓vo2, ↓ri2, ↓ro2, ↓ol2, ↓as2, ↓vi3, ↓vo3, ↓ri3, ↓ro3, ↓ol3, ↓as3, ↓vi4, ↓vo4, ↓ri4, ↓ro4, ↓ol4, ↓as4, ↓vi5, ↓vo5, ↓ri5, ↓ro5, ↓ol5, ↓as5, ↓vi6, ↓vo6, ↓ri6, ↓ro6, ↓ol6, ↓as6, ↓vi7, ↓vo7, ↓ri7, ↓ro7, ↓ol7, ↓as7, ↓vi8, ↓vo8, ↓ri8, ↓ro8, ↓ol8, ↓as8, ↓vi9, ↓vo9, ↓ri9, ↓ro9, ↓ol9, ↓as9, ↓vi10, ↓vo10, ↓ri10, ↓ro10, ↓ol10, ↓as10, ↓vi11, ↓vo11, ↓ri11, ↓ro11, ↓ol11, ↓as11, ↓vi12, ↓vo12, ↓ri12, ↓ro12, ↓ol12, ↓as12, ↓vi13, ↓vo13, ↓ri13, ↓ro13, ↓ol13, ↓as13, ↓vi14, ↓vo14, ↓ri14, ↓ro14, ↓ol14, ↓as14, ↓vi15, ↓vo15, ↓ri15, ↓ro15, ↓ol15, ↓as15, ↓vi16, ↓vo16, ↓ri16, ↓ro16, ↓ol16, ↓as16, ↓vi17, ↓vo17, ↓ri17, ↓ro17, ↓ol17, ↓as17, ↓vi18, ↓vo18, ↓ri18, ↓ro18, ↓ol18, ↓as18, ↓vi19, ↓vo19, ↓ri19, ↓ro19, ↓ol19, ↓as19, ↓vi20, ↓vo20, ↓ri20, ↓ro20, ↓ol20, ↓as20, ↓vi21, ↓vo21, ↓ri21, ↓ro21, ↓ol21, ↓as21, ↓vi22, ↓vo22, ↓ri22, ↓ro22, ↓ol22, ↓as22, ↓vi23, ↓vo23, ↓ri23, ↓ro23, ↓ol23, ↓as23, ↓vi24, ↓vo24, ↓ri24, ↓ro24, ↓ol24, ↓as24, ↓vi25, ↓vo25, ↓ri25, ↓ro25, ↓ol25, ↓as25, ↓at_s1, ↓at_s0, ↓at_w1, ↓at_w0, ↓mt_b, ↓mt_l, ↓mt_t, ↓mt_i,
  ↓e_c, ↓e_nil, ↓e_cons, ↓e_tup, ↓e_lst, ↓e_two1, ↓e_two2, ↓e_two3, ↓e_two4, ↓e_bin, ↓e_tbin, ↓e_chain, ↓e_and, ↓e_or, ↓e_not, ↓e_tru1, ↓e_tru2, ↓e_andV, ↓e_orV, ↓e_notV, ↓e_if, ↓e_call, ↓e_p0, ↓e_p1, ↓e_one1, ↓e_one2, ↓e_b1, ↓e_b2, ↓e_tb2, ↓e_sl1, ↓e_sl2, ↓e_append, ↓e_extend, ↓e_popAt, ↓e_yes, ↓e_join, ↓in_strL, ↓in_strT, ↓x_mulS, ↓e_new, ↓e_newV, ↓e_meth, ↓e_prop, ↓e_stat, ↓e_statI, ↓e_clsM, ↓e_evN, ↓e_evI, ↓e_evO, ↓e_boxNew,
  z0, z1, z2, h0, h1, h2, ↓bx0, ↓rgI, ↓sqL, ↓sqT, ↓sqR, ↓enL, ↓enT, ↓lsL, wipeD, e_var, v0, v1, r0, r1, o0, m0, at0, setD, startD, startI, dFldSet,
  List.map_cons, List.map_nil, List.replicate, List.cons_append, List.nil_append, List.length_cons, List.length_nil, List.getElem?_cons_zero, List.getElem?_cons_succ, List.getElem?_nil, List.set_cons_zero, List.set_cons_succ, List.set_nil, Nat.reduceAdd, Nat.reduceSub, Nat.sub_zero, Nat.sub_self, Nat.zero_add, Nat.add_zero,
  true_and, and_true, if_true, if_false, Bool.false_eq_true, Bool.not_true, Bool.not_false, Bool.not_eq_true, decide_true, decide_false, Bool.true_eq_false, reduceCtorEq, ite_true, ite_false, List.mem_cons, List.not_mem_nil, or_false, beq_self_eq_true, Nat.reduceLT, Nat.reduceLeDiff, Int.reduceLT, Int.reduceLE, Int.reduceAdd, Int.reduceSub, Int.reduceMul, Int.reducePow, Int.reduceToNat, Int.reduceEq, Int.reduceNeg, Int.reduceMod, Int.reduceDiv, Nat.reduceEqDiff, and_self, Bool.not_not,
  ↓x_bl, x_truB, x_truL, x_truT, x_truI, ↓x_eqI, ↓x_eqS, ↓x_eqB, ↓x_neI, ↓x_neS, ↓x_neB, ↓x_addI, ↓x_addL, ↓x_addT, ↓x_addS, ↓x_subI, ↓x_mulI, ↓x_modI, ↓x_fdivI, ↓x_powI, ↓x_lt, ↓x_le, ↓x_gt, ↓x_ge, ↓x_ltP, ↓x_leP, ↓x_gtP, ↓x_geP, ↓x_lenL, ↓x_lenT, ↓x_lenS, ↓x_tupL, ↓x_tupT, ↓x_lisL, ↓x_lisT, ↓x_rev, ↓x_intI, ↓x_intB, ↓x_abs, ↓x_min, ↓x_max, ↓x_is, ↓x_isNot, x_isN0, x_isN1, x_isN2, x_isN3, x_isN4, ↓x_nil, ↓x_nnil, ↓x_ix0, ↓x_ix1, ↓x_ix2, ↓x_ix3, ↓x_ix4, ↓x_ix5, ↓x_ix6, ↓x_ix7, ↓x_it0, ↓x_it1, ↓x_it2, ↓x_ixB, x_kn, x_ks, x_kt, ↓x_slL, ↓x_slT, ↓x_slS, ↓x_slR,
  ↓s_aug, ↓g_put, ↓g_item, ↓e_callB, ↓e_disp, ↓e_ps0, ↓e_ps1, ↓i_str, ↓i_range2, ↓e_get2, ↓e_step, ↓x_step, ↓e_f1, ↓e_fstr, ↓e_fs0, ↓e_fs1, ↓e_fs2, ↓x_repr, ↓x_strI, ↓x_strS, ↓x_onStr, ↓x_onInt, ↓oa0, ↓od0, ↓oa1, ↓od1, ↓oa2, ↓od2, ↓oa3, ↓od3, ↓oa4, ↓od4, ↓oa5, ↓od5, ↓oa6, ↓od6, ↓oa7, ↓od7, ↓oa8, ↓od8, ↓oa9, ↓od9, ↓oa10, ↓od10, ↓oa11, ↓od11, ↓oa12, ↓od12, h3, h4, x_ko0, x_ko1, x_ko2, ↓x_ixK, ↓x_ixZ, ↓x_inK, ↓x_listK, ↓x_listZ, ↓x_listT, ↓x_isS, ↓x_isT, ↓x_inS, ↓g_ed, ↓in_ed, ↓word_at])

def sd_check_edges : SpD := fun ds Q => ∃ (ps : List Str) (es : List Ed), ds = [dps ps, des es] ∧ IsTree ps es ∧ Q .non
theorem len_check_edges (ds : List D) (Q : D → Prop) (h : sd_check_edges ds Q) : ds.length = 2 := by obtain ⟨a, b, rfl, _⟩ := h; rfl
abbrev N_check_edges : List Str := ["places", "edges", "at", "one", "other"]
theorem sc_check_edges : FnScope N_check_edges ["places", "edges"] (defScope st_check_edges) := ⟨rfl, rfl, rfl, by decide +kernel, rfl, by decide +kernel, by decide +kernel⟩
def t_check_edges : TDS :=
  dFor (iEnum (dVar 1)) (dgSeq 2 (dgCons (dgName 2) (dgCons (dgSeq 2 (dgCons (dgName 3) (dgCons (dgName 4) (dgNil)))) (dgNil)))) (dSeq (dIfS (dOr (dtBin (inX true) (.sl 3) (.sl 0)) (dOr (dtBin (inX true) (.sl 4) (.sl 0)) (dtBin (eqX) (.sl 3) (.sl 4)))) (dNever) (dNext))
  (dIfS (dOr (dtBin (inX false) (.ex (dTup (dCons (dVar 3) (dCons (dVar 4) (dNil))))) (.ex (dSl (.sl 1) (dP0) (dP1 (dVar 2))))) (dtBin (inX false) (.ex (dTup (dCons (dVar 4) (dCons (dVar 3) (dNil))))) (.ex (dSl (.sl 1) (dP0) (dP1 (dVar 2)))))) (dNever) (dNext)))
theorem pure_check_edges (ds : List D) (Q : D → Prop) (h : sd_check_edges ds Q) : t_check_edges (ends Q) (startD 5 ds) := by
  obtain ⟨ps, es, rfl, t, q⟩ := h
  unfold t_check_edges dps des
  walk_at "du"
  refine for_go (fun (i : Nat) (δ : DSt) => ∃ c1 c2 c3, δ = [.im (.tup (ps.map D.str)), .im (.tup (es.map edD)), c1, c2, c3]) ⟨_, _, _, rfl⟩ ?_ ?_
  · rintro i d δ' hd ⟨c1, c2, c3, rfl⟩
    obtain ⟨x, hx, rfl⟩ := enum_get hd
    rw [List.getElem?_map] at hx
    cases hp : es[i]? with
    | none => rw [hp] at hx; cases hx
    | some e =>
      rw [hp] at hx
      cases hx
      obtain ⟨h1, h2, h3, h4, h5⟩ := tree_edge t hp
      walk_at "du"
      refine if_f (nd' h1) (if_f (nd' h2) (if_f (decide_eq_false h3) ?_))
      rw [cut_to (by omega), Int.toNat_natCast, ← List.map_take]
      walk_at "du"
      refine if_f (decide_eq_false h4) (if_f (decide_eq_false h5) ?_)
      exact ⟨_, _, _, rfl⟩
  · rintro δ' ⟨c1, c2, c3, rfl⟩
    exact q

/-! groups -/
theorem gr_look {ps : List Str} {g : Str → Str} {p : Str} (h : p ∈ ps) : lookD (grD ps g) (kS p) = some (.str (g p)) := by
  unfold grD
  rw [look_map (v := fun p => D.str (g p)), if_pos h]
def sd_joined : SpB := fun k0 ds Q => ∃ (ps : List Str) (g : Str → Str) (a b : Str), k0 = grD ps g ∧ ds = [.str a, .str b] ∧ a ∈ ps ∧ b ∈ ps ∧ ps.Nodup ∧ ps.length ≤ 1000 ∧ (if g a = g b then Q (grD ps g) (.bl false) else Q (grD ps (gJoin g (a, b))) (.bl true))
theorem len_joined (k0 : List (Key × D)) (ds : List D) (Q : List (Key × D) → D → Prop) (h : sd_joined k0 ds Q) : ds.length + 1 = 3 := by obtain ⟨ps, g, a, b, rfl, rfl, _⟩ := h; rfl
theorem grD_keys (ps : List Str) (g : Str → Str) : (grD ps g).map (fun p => unK p.1) = ps.map D.str := by
  unfold grD
  rw [List.map_map]
  rfl
abbrev N_joined : List Str := ["groups", "one", "other", "first", "second", "place"]
theorem sc_joined : FnScope N_joined ["groups", "one", "other"] (defScope st_joined) := ⟨rfl, rfl, rfl, by decide +kernel, rfl, by decide +kernel, by decide +kernel⟩
def t_joined : TDS :=
  dSeq (dPars [.im (dBin ixX (.sl 0) (.sl 1)), .im (dBin ixX (.sl 0) (.sl 2))] [3, 4])
  (dSeq (dIfS (dtBin (eqX) (.sl 3) (.sl 4)) (dRet (dC (.bl false))) (dNext))
  (dSeq (dFor (iSeq (dB1 listA (.sl 0))) (dgName 5) (dIfS (dtBin (eqX) (.ex (dBin ixX (.sl 0) (.sl 5))) (.sl 4)) (dSto (dVar 3) (dgPut 0 (dVar 5))) (dNext)))
  (dRet (dC (.bl true)))))
theorem pure_joined (l : Addr) (k0 : List (Key × D)) (ds : List D) (Q : List (Key × D) → D → Prop) (h : sd_joined k0 ds Q) : t_joined (endsB Q l) (startB 6 l k0 ds) := by
  obtain ⟨ps, g, a, b, rfl, rfl, ha, hb, nd, hl, q⟩ := h
  rw [show startB 6 l (grD ps g) [.str a, .str b] = [.ow (.dself l (grD ps g)), .im (.str a), .im (.str b), .no, .no, .no] from rfl]
  unfold t_joined
  walk_at "du"
  rw [gr_look ha]
  walk_at "du"
  rw [gr_look hb]
  walk_at "du"
  refine if_b (fun h1 => ?_) (fun h1 => ?_)
  · rw [if_pos (of_decide_eq_true h1)] at q
    exact ⟨_, rfl, q⟩
  · have h1 := of_decide_eq_false h1
    rw [if_neg h1] at q
    rw [grD_keys]
    refine for_go (fun (i : Nat) (δ : DSt) => ∃ c, δ = [.ow (.dself l (grD ps fun p => if p ∈ ps.take i then gJoin g (a, b) p else g p)), .im (.str a), .im (.str b), .im (.str (g a)), .im (.str (g b)), c]) ⟨.no, by simp⟩ ?_ ?_
    · rintro i d δ' hd ⟨c, rfl⟩
      rw [List.getElem?_map] at hd
      cases hp : ps[i]? with
      | none => rw [hp] at hd; cases hd
      | some p =>
        rw [hp] at hd
        cases hd
        have hm := List.mem_of_getElem? hp
        have hn := take_nodup nd hp
        walk_at "du"
        rw [gr_look hm]
        walk_at "du"
        rw [if_neg hn]
        have et : ∀ x, (x ∈ ps.take (i + 1)) ↔ (x ∈ ps.take i ∨ x = p) := fun x => by
          rw [List.take_succ, hp]
          simp
        refine if_b (fun h2 => ?_) (fun h2 => ?_)
        · have h2 := of_decide_eq_true h2
          rw [x_putZ (by unfold grD; rw [List.length_map]; omega)]
          walk_at "du"
          refine ⟨.im (.str p), ?_⟩
          have e : putKD (grD ps fun p => if p ∈ ps.take i then gJoin g (a, b) p else g p) (kS p) (.str (g a)) = grD ps fun p => if p ∈ ps.take (i + 1) then gJoin g (a, b) p else g p := by
            unfold grD
            rw [put_map (v := fun q => D.str (if q ∈ ps.take i then gJoin g (a, b) q else g q)) hm]
            refine List.map_congr_left fun x hx => ?_
            dsimp only
            by_cases hxp : x = p
            · subst hxp
              rw [if_pos rfl, if_pos ((et x).mpr (.inr rfl))]
              unfold gJoin
              rw [if_pos h2]
            · rw [if_neg hxp]
              by_cases hx2 : x ∈ ps.take i
              · rw [if_pos hx2, if_pos ((et x).mpr (.inl hx2))]
              · rw [if_neg hx2, if_neg (fun z => ((et x).mp z).elim hx2 hxp)]
          rw [e]
        · have h2 := of_decide_eq_false h2
          refine ⟨.im (.str p), ?_⟩
          have e : (grD ps fun p => if p ∈ ps.take i then gJoin g (a, b) p else g p) = grD ps fun p => if p ∈ ps.take (i + 1) then gJoin g (a, b) p else g p := by
            unfold grD
            refine List.map_congr_left fun x hx => ?_
            dsimp only
            by_cases hxp : x = p
            · subst hxp
              rw [if_neg hn, if_pos ((et x).mpr (.inr rfl))]
              unfold gJoin
              rw [if_neg h2]
            · by_cases hx2 : x ∈ ps.take i
              · rw [if_pos hx2, if_pos ((et x).mpr (.inl hx2))]
              · rw [if_neg hx2, if_neg (fun z => ((et x).mp z).elim hx2 hxp)]
          rw [e]
    · rintro δ' ⟨c, rfl⟩
      rw [List.length_map, List.take_length]
      walk_at "du"
      refine ⟨_, rfl, ?_⟩
      have e : (grD ps fun p => if p ∈ ps then gJoin g (a, b) p else g p) = grD ps (gJoin g (a, b)) := List.map_congr_left fun x hx => by dsimp only; rw [if_pos hx]
      rw [e]
      exact q

theorem joined_at {ps : List Str} {g : Str → Str} {a b : Str} {Q : List (Key × D) → D → Prop} (ha : a ∈ ps) (hb : b ∈ ps) (nd : ps.Nodup) (hl : ps.length ≤ 1000) (hne : g a ≠ g b) (q : Q (grD ps (gJoin g (a, b))) (.bl true)) : sd_joined (grD ps g) [.str a, .str b] Q :=
  ⟨ps, g, a, b, rfl, rfl, ha, hb, nd, hl, by rw [if_neg hne]; exact q⟩
theorem strings_at {l : List Str} {Q : D → Prop} (h : l.length ≤ 1000) : sd_is_strings [.tup (l.map D.str), .non] Q = Q (.bl true) := by
  rw [eq_iff_iff]
  exact ⟨fun ⟨_, _, _, _, _, q⟩ => q, fun q => ⟨l, none, rfl, h, (fun _ z => by cases z), q⟩⟩
theorem strings_ed {e : Ed} {Q : D → Prop} : sd_is_strings [edD e, .int 2] Q = Q (.bl true) := by
  rw [eq_iff_iff]
  exact ⟨fun ⟨_, _, _, _, _, q⟩ => q, fun q => ⟨[e.1, e.2], some 2, rfl, by simp, (fun n z => by cases z; rfl), q⟩⟩
def sd_check_tree : SpD := fun ds Q => ∃ (ps : List Str) (es : List Ed), ds = [dps ps, des es] ∧ IsTree ps es ∧ Q .non
theorem len_check_tree (ds : List D) (Q : D → Prop) (h : sd_check_tree ds Q) : ds.length = 2 := by obtain ⟨a, b, rfl, _⟩ := h; rfl
abbrev N_check_tree : List Str := ["places", "edges", "groups", "at", "one", "other", "place", "edge"]
theorem sc_check_tree : FnScope N_check_tree ["places", "edges"] (defScope st_check_tree) := ⟨rfl, rfl, rfl, by decide +kernel, rfl, by decide +kernel, by decide +kernel⟩
def t_check_tree : TDS :=
  dSeq (dIfS (dOr (dNot (dTru (.ex (dCall sd_is_strings (dCons (dVar 0) (dCons (dC .non) (dNil))))))) (dNot (dTru (.ex (dB2 isiX (dVar 1) (dC (.ty "tuple"))))))) (dNever) (dNext))
  (dSeq (dIfS (dNot (dTru (.ex (dB1 (anyD true) (.ex (dLc (iSeq (dVar 1)) (dgName 7) (dYes) (dCall sd_is_strings (dCons (dVar 7) (dCons (dC (.int 2)) (dNil)))) [7])))))) (dNever) (dNext))
  (dSeq (dDrop (dCall sd_check_places (dCons (dVar 0) (dNil))))
  (dSeq (dDrop (dCall sd_check_edges (dCons (dVar 0) (dCons (dVar 1) (dNil)))))
  (dSeq (dAsgO (dDc (iSeq (dVar 0)) (dgName 6) (dYes) (dVar 6) (dVar 6) [6]) 2)
  (dSeq (dFor (iEnum (dVar 1)) (dgSeq 2 (dgCons (dgName 3) (dgCons (dgSeq 2 (dgCons (dgName 4) (dgCons (dgName 5) (dgNil)))) (dgNil)))) (dIfS (dNot (dTru (.ex (dCallB 2 sd_joined (dCons (dVar 4) (dCons (dVar 5) (dNil))))))) (dNever) (dNext)))
  (dFor (iEnum (dVar 0)) (dgSeq 2 (dgCons (dgName 3) (dgCons (dgName 6) (dgNil)))) (dIfS (dtBin (neX) (.ex (dBin ixX (.sl 2) (.sl 6))) (.ex (dBin ixX (.sl 2) (.ex (dBin ixX (.sl 0) (.ex (dC (.int 0)))))))) (dNever) (dNext))))))))
theorem pure_check_tree (ds : List D) (Q : D → Prop) (h : sd_check_tree ds Q) : t_check_tree (ends Q) (startD 8 ds) := by
  obtain ⟨ps, es, rfl, t, q⟩ := h
  have hl := t.hi
  have hle := t.len
  unfold t_check_tree dps des
  walk_at "du"
  rw [strings_at (by omega)]
  walk_at "du"
  refine lc_m es edD (fun _ => .bl true) rfl (by omega) (fun x hx K1 k1 => ?_) ?_
  · walk_at "du"
    rw [strings_ed]
    exact k1
  · walk_at "du"
    rw [all_at (fun _ => true) es, show es.all (fun _ => true) = true from by simp]
    walk_at "du"
    refine ⟨ps, rfl, t.lo, t.hi, t.nd, t.wd, ?_⟩
    walk_at "du"
    refine ⟨ps, es, rfl, t, ?_⟩
    walk_at "du"
    refine dc_go ps D.str rfl t.nd (by omega) (fun x hx K k1 => ?_) ?_
    · walk_at "du"
      exact k1
    · walk_at "du"
      refine for_go (fun (i : Nat) (δ : DSt) => ∃ c3 c4 c5 c6 c7, δ = [.im (.tup (ps.map D.str)), .im (.tup (es.map edD)), .ow (.dct (grD ps (ufEnd id (es.take i)))), c3, c4, c5, c6, c7]) ⟨_, _, _, _, _, rfl⟩ ?_ ?_
      · rintro i d δ' hd ⟨c3, c4, c5, c6, c7, rfl⟩
        obtain ⟨x, hx, rfl⟩ := enum_get hd
        rw [List.getElem?_map] at hx
        cases hp : es[i]? with
        | none => rw [hp] at hx; cases hx
        | some e =>
          rw [hp] at hx
          cases hx
          obtain ⟨h1, h2, h3, h4, h5⟩ := tree_edge t hp
          walk_at "du"
          refine joined_at h1 h2 t.nd (by omega) (uf_get (uf_tree t).1 hp) ?_
          walk_at "du"
          rw [uf_take hp]
          exact ⟨_, _, _, _, _, rfl⟩
      · rintro δ' ⟨c3, c4, c5, c6, c7, rfl⟩
        rw [enumD_len, List.length_map, List.take_length]
        walk_at "du"
        refine for_go (fun (i : Nat) (δ : DSt) => ∃ c3 c4 c5 c6 c7, δ = [.im (.tup (ps.map D.str)), .im (.tup (es.map edD)), .ow (.dct (grD ps (ufEnd id es))), c3, c4, c5, c6, c7]) ⟨_, _, _, _, _, rfl⟩ ?_ ?_
        · rintro i d δ' hd ⟨c3, c4, c5, c6, c7, rfl⟩
          obtain ⟨x, hx, rfl⟩ := enum_get hd
          rw [List.getElem?_map] at hx
          cases hp : ps[i]? with
          | none => rw [hp] at hx; cases hx
          | some p =>
            rw [hp] at hx
            cases hx
            have hm := List.mem_of_getElem? hp
            obtain ⟨p0, r, hps⟩ : ∃ p0 r, ps = p0 :: r := by
              cases ps with
              | nil => have := t.lo; simp at this
              | cons a b => exact ⟨a, b, rfl⟩
            have hm0 : p0 ∈ ps := by rw [hps]; exact List.mem_cons_self
            have h0 : (ps.map D.str)[0]? = some (.str p0) := by rw [hps]; rfl
            walk_at "du"
            rw [gr_look hm]
            walk_at "du"
            rw [ixT_eq, show (0 : Int) = ((0 : Nat) : Int) from rfl, atI_nat h0]
            walk_at "du"
            rw [gr_look hm0]
            walk_at "du"
            refine if_f (nd' ((uf_tree t).2 p hm p0 hm0)) ?_
            exact ⟨_, _, _, _, _, rfl⟩
        · rintro δ' ⟨c3, c4, c5, c6, c7, rfl⟩
          exact q

/-! ### searches -/
def gD (w : List Str) (f : Str → Int) : List (Key × D) := w.map fun p => (kS p, .int (f p))
def upF (f : Str → Int) (p : Str) (v : Int) : Str → Int := fun x => if x = p then v else f x
theorem gD_put {w : List Str} {f : Str → Int} {p : Str} {v : Int} (h : p ∉ w) : putKD (gD w f) (kS p) (.int v) = gD (w ++ [p]) (upF f p v) := by
  unfold gD
  rw [put_new (v := fun p => D.int (f p)) h, List.map_append]
  congr 1
  · refine List.map_congr_left fun x hx => ?_
    unfold upF
    rw [if_neg (fun z : x = p => h (z ▸ hx))]
  · unfold upF
    simp
theorem gD_look {w : List Str} {f : Str → Int} {p : Str} : lookD (gD w f) (kS p) = if p ∈ w then some (.int (f p)) else none := look_map (v := fun p => D.int (f p))
theorem gD_len (w : List Str) (f : Str → Int) : (gD w f).length = w.length := List.length_map _
/-- what a search has found -/
structure Fnd (ps : List Str) (es : List Ed) (s : Str) (w : List Str) (f : Str → Int) : Prop where
  nd : w.Nodup
  sub : ∀ x ∈ w, x ∈ ps
  mem : s ∈ w
  zero : f s = 0
  pos : ∀ x ∈ w, 0 ≤ f x
  back : ∀ x ∈ w, x ≠ s → ∃ y ∈ w, adj es y x = true ∧ f x = f y + 1
theorem Fnd.one {ps : List Str} {es : List Ed} {s : Str} (h : s ∈ ps) : Fnd ps es s [s] fun _ => 0 where
  nd := by simp
  sub := fun x hx => by rw [List.mem_singleton] at hx; subst hx; exact h
  mem := by simp
  zero := rfl
  pos := fun _ _ => Int.le_refl _
  back := fun x hx hne => by rw [List.mem_singleton] at hx; exact absurd hx hne
theorem Fnd.add {ps : List Str} {es : List Ed} {s : Str} {w : List Str} {f : Str → Int} {a b : Str} (F : Fnd ps es s w f) (ha : a ∈ w) (hb : b ∉ w) (hp : b ∈ ps) (h : adj es a b = true) : Fnd ps es s (w ++ [b]) (upF f b (f a + 1)) where
  nd := by
    rw [List.nodup_append]
    exact ⟨F.nd, by simp, fun x hx y hy e => hb (by rw [List.mem_singleton] at hy; subst hy; subst e; exact hx)⟩
  sub := fun x hx => by
    rcases List.mem_append.mp hx with h | h
    · exact F.sub x h
    · rw [List.mem_singleton] at h; subst h; exact hp
  mem := List.mem_append_left _ F.mem
  zero := by unfold upF; rw [if_neg (fun z : s = b => hb (z ▸ F.mem))]; exact F.zero
  pos := fun x hx => by
    unfold upF
    have := F.pos a ha
    split
    · omega
    · rename_i hne
      rcases List.mem_append.mp hx with h | h
      · exact F.pos x h
      · rw [List.mem_singleton] at h; exact absurd h hne
  back := fun x hx hne => by
    have ea : upF f b (f a + 1) a = f a := by unfold upF; rw [if_neg (fun z : a = b => hb (z ▸ ha))]
    by_cases hxb : x = b
    · subst hxb
      exact ⟨a, List.mem_append_left _ ha, h, by rw [ea]; unfold upF; rw [if_pos rfl]⟩
    · rcases List.mem_append.mp hx with h | h
      · obtain ⟨y, hy, h1, h2⟩ := F.back x h hne
        refine ⟨y, List.mem_append_left _ hy, h1, ?_⟩
        unfold upF
        rw [if_neg hxb, if_neg (fun z : y = b => hb (z ▸ hy))]
        exact h2
      · rw [List.mem_singleton] at h; exact absurd h hxb
theorem nodup_len : ∀ {l m : List Str}, l.Nodup → (∀ x ∈ l, x ∈ m) → l.length ≤ m.length
  | [], _, _, _ => Nat.zero_le _
  | a :: r, m, h, hs => by
    have hm := hs a List.mem_cons_self
    obtain ⟨h1, h2⟩ := List.nodup_cons.mp h
    have := nodup_len (l := r) (m := m.erase a) h2 fun x hx => (List.mem_erase_of_ne (fun z : x = a => h1 (z ▸ hx))).mpr (hs x (List.mem_cons_of_mem _ hx))
    rw [List.length_erase_of_mem hm] at this
    have := List.length_pos_of_mem hm
    rw [List.length_cons]
    omega
theorem Fnd.len {ps : List Str} {es : List Ed} {s : Str} {w : List Str} {f : Str → Int} (F : Fnd ps es s w f) : w.length ≤ ps.length := nodup_len F.nd F.sub
/-- the search is over: everything is found -/
structure Far (ps : List Str) (es : List Ed) (s : Str) (w : List Str) (f : Str → Int) : Prop extends Fnd ps es s w f where
  all : ∀ x ∈ ps, x ∈ w
theorem Fnd.far {ps : List Str} {es : List Ed} {s : Str} {w : List Str} {f : Str → Int} (F : Fnd ps es s w f) (t : IsTree ps es) (h : ∀ x ∈ w, ∀ y ∈ ps, adj es x y = true → y ∈ w) : Far ps es s w f :=
  ⟨F, tree_reach t (S := fun x => x ∈ w) (F.sub s F.mem) F.mem fun p _ hw q hq ha => h p hw q hq ha⟩
/-- the neighbours of all places, as tuples -/
def nrT (ps : List Str) (es : List Ed) : List (Key × D) := ps.map fun p => (kS p, .tup ((nbs ps es p).map D.str))
theorem nr_look {ps : List Str} {es : List Ed} {p : Str} (h : p ∈ ps) : lookD (nrT ps es) (kS p) = some (.tup ((nbs ps es p).map D.str)) := by
  unfold nrT
  rw [look_map (v := fun p => D.tup ((nbs ps es p).map D.str)), if_pos h]
def sd_gaps_from : SpD := fun ds Q => ∃ (ps : List Str) (es : List Ed) (s : Str), ds = [.dct (nrT ps es), .str s] ∧ IsTree ps es ∧ s ∈ ps ∧ ∀ (w : List Str) (f : Str → Int), Far ps es s w f → Q (.dct (gD w f))
theorem len_gaps_from (ds : List D) (Q : D → Prop) (h : sd_gaps_from ds Q) : ds.length = 2 := by obtain ⟨a, b, c, rfl, _⟩ := h; rfl
def muI (n : Nat) : DSt → Nat
  | [_, _, _, _, .im (.int i), _, _] => n - i.toNat
  | _ => 0
abbrev N_gaps_from : List Str := ["near", "start", "gaps", "waiting", "index", "here", "place"]
theorem sc_gaps_from : FnScope N_gaps_from ["near", "start"] (defScope st_gaps_from) := ⟨rfl, rfl, rfl, by decide +kernel, rfl, by decide +kernel, by decide +kernel⟩
def t_gaps_from : TDS :=
  dSeq (dPars [.ow (dDisp [(dVar 1, dC (.int 0))]), .ow (dLst (dCons (dVar 1) (dNil))), .im (dC (.int 0))] [2, 3, 4])
  (dSeq (dWhile (dtBin (ltD) (.sl 4) (.ex (dB1 lenD (.sl 3)))) (dSeq (dAsg (dBin ixX (.sl 3) (.sl 4)) 5)
  (dSeq (dAug 4 (dC (.int 1)))
  (dFor (iSeq (dBin ixX (.sl 0) (.sl 5))) (dgName 6) (dIfS (dtBin (inX true) (.sl 6) (.sl 2)) (dSeq (dSto (dBin addX (.ex (dBin ixX (.sl 2) (.sl 5))) (.ex (dC (.int 1)))) (dgPut 2 (dVar 6)))
  (dDrop (dAppend 3 (dVar 6)))) (dNext))))))
  (dRet (dVar 2)))
theorem pure_gaps_from (ds : List D) (Q : D → Prop) (h : sd_gaps_from ds Q) : t_gaps_from (ends Q) (startD 7 ds) := by
  obtain ⟨ps, es, s, rfl, t, hs, q⟩ := h
  have hhi := t.hi
  unfold t_gaps_from
  walk_at "du"
  refine ⟨fun δ => ∃ w f i c5 c6, δ = [.im (.dct (nrT ps es)), .im (.str s), .ow (.dct (gD w f)), .ow (.lst (w.map D.str)), .im (.int ((i : Nat) : Int)), c5, c6] ∧ Fnd ps es s w f ∧ i ≤ w.length ∧ ∀ j x, j < i → w[j]? = some x → ∀ y ∈ ps, adj es x y = true → y ∈ w, muI ps.length, ⟨[s], fun _ => 0, 0, .no, .no, rfl, Fnd.one hs, Nat.zero_le _, fun j x hj => absurd hj (Nat.not_lt_zero j)⟩, ?_⟩
  rintro δ ⟨w, f, i, c5, c6, rfl, F, hi, hc⟩
  have hw := F.len
  walk_at "du"
  refine if_b (fun h1 => ?_) (fun h1 => ?_)
  · have h1 : i < w.length := by have := of_decide_eq_true h1; rw [List.length_map] at this; omega
    obtain ⟨a, hga⟩ : ∃ a, w[i]? = some a := ⟨_, List.getElem?_eq_getElem h1⟩
    have ha : a ∈ w := List.mem_of_getElem? hga
    have hap := F.sub a ha
    rw [ixL_eq, atI_nat (show (w.map D.str)[i]? = some (.str a) by rw [List.getElem?_map, hga]; rfl)]
    walk_at "du"
    rw [nr_look hap]
    walk_at "du"
    refine for_go (fun (j : Nat) (δ : DSt) => ∃ w' f' c6, δ = [.im (.dct (nrT ps es)), .im (.str s), .ow (.dct (gD w' f')), .ow (.lst (w'.map D.str)), .im (.int ((i : Int) + 1)), .im (.str a), c6] ∧ Fnd ps es s w' f' ∧ w <+: w' ∧ ∀ y ∈ (nbs ps es a).take j, y ∈ w') ⟨w, f, c6, rfl, F, List.prefix_rfl, fun y hy => by simp at hy⟩ ?_ ?_
    · rintro j d δ' hd ⟨w', f', c6, rfl, F', hpre, hn⟩
      have hw' := F'.len
      rw [List.getElem?_map] at hd
      cases hb : (nbs ps es a)[j]? with
      | none => rw [hb] at hd; cases hd
      | some b =>
        rw [hb] at hd
        cases hd
        obtain ⟨hbp, hab⟩ := nbs_mem.mp (List.mem_of_getElem? hb)
        have ha' : a ∈ w' := hpre.subset ha
        have et : ∀ x, x ∈ (nbs ps es a).take (j + 1) → x ∈ (nbs ps es a).take j ∨ x = b := fun x hx => by
          rw [List.take_succ, hb] at hx
          simpa using hx
        walk_at "du"
        rw [gD_look]
        by_cases hbw : b ∈ w'
        · rw [if_pos hbw]
          refine if_f rfl ?_
          exact ⟨w', f', _, rfl, F', hpre, fun y hy => (et y hy).elim (hn y) fun z => z ▸ hbw⟩
        · rw [if_neg hbw]
          refine if_t rfl ?_
          rw [gD_look, if_pos ha']
          walk_at "du"
          rw [x_putK (by rw [gD_len]; omega), gD_put hbw]
          walk_at "du"
          refine ⟨line_of (by rw [List.length_map]; omega), w' ++ [b], upF f' b (f' a + 1), .im (.str b), by rw [List.map_append]; rfl, F'.add ha' hbw hbp hab, hpre.trans (List.prefix_append _ _), fun y hy => ?_⟩
          rcases et y hy with h | rfl
          · exact List.mem_append_left _ (hn y h)
          · exact List.mem_append_right _ (List.mem_singleton.mpr rfl)
    · rintro δ' ⟨w', f', c6, rfl, F', hpre, hn⟩
      rw [List.length_map, List.take_length] at hn
      refine ⟨⟨w', f', i + 1, _, _, rfl, F', Nat.le_trans h1 hpre.length_le, fun j x hj hx y hy hxy => ?_⟩, ?_⟩
      · have hjw : j < w.length := by omega
        have hx2 : w[j]? = some x := by
          obtain ⟨r, rfl⟩ := hpre
          rw [List.getElem?_append_left hjw] at hx
          exact hx
        by_cases hji : j < i
        · exact hpre.subset (hc j x hji hx2 y hy hxy)
        · have : j = i := by omega
          subst this
          rw [hga] at hx2
          cases hx2
          exact hn y (nbs_mem.mpr ⟨hy, hxy⟩)
      · show ps.length - ((i : Int) + 1).toNat < ps.length - ((i : Int)).toNat
        omega
  · have h1 : i = w.length := by have := of_decide_eq_false h1; rw [List.length_map] at this; omega
    refine q w f (F.far t fun x hx y hy ha => ?_)
    obtain ⟨j, hj, e⟩ := List.mem_iff_getElem.mp hx
    exact hc j x (by omega) (by rw [List.getElem?_eq_getElem hj, e]) y hy ha

/-! the class Tree -/
theorem ne_pe : ¬ ("own_places" : Str) = "own_edges" := by decide +kernel
theorem ne_pn : ¬ ("own_places" : Str) = "near" := by decide +kernel
theorem ne_en : ¬ ("own_edges" : Str) = "near" := by decide +kernel
theorem ne_pg : ¬ ("own_places" : Str) = "gaps" := by decide +kernel
theorem ne_eg : ¬ ("own_edges" : Str) = "gaps" := by decide +kernel
theorem ne_ng : ¬ ("near" : Str) = "gaps" := by decide +kernel
theorem be_pe : (("own_edges" : Str) == ("own_places" : Str)) = false := by decide +kernel
theorem be_np : (("near" : Str) == ("own_places" : Str)) = false := by decide +kernel
theorem be_ne : (("near" : Str) == ("own_edges" : Str)) = false := by decide +kernel
theorem be_gp : (("gaps" : Str) == ("own_places" : Str)) = false := by decide +kernel
theorem be_ge : (("gaps" : Str) == ("own_edges" : Str)) = false := by decide +kernel
theorem be_gn : (("gaps" : Str) == ("near" : Str)) = false := by decide +kernel
def treeE (ps : List Str) (es : List Ed) (g : D) : D := .ins "Tree" [("own_places", dps ps), ("own_edges", des es), ("near", .dct (nrT ps es)), ("gaps", g)]
/-- the distances that a tree holds -/
def GpOk (ps : List Str) (es : List Ed) (g : D) : Prop := ∃ (w : Str → List Str) (f : Str → Str → Int), (∀ s ∈ ps, Far ps es s (w s) (f s)) ∧ g = .dct (ps.map fun s => (kS s, .dct (gD (w s) (f s))))
def sd_Tree___init__ : SpI := fun ds Q => ∃ (ps : List Str) (es : List Ed), ds = [dps ps, des es] ∧ IsTree ps es ∧ ∀ g, GpOk ps es g → Q [("own_places", dps ps), ("own_edges", des es), ("near", .dct (nrT ps es)), ("gaps", g)]
theorem len_Tree___init__ (ds : List D) (Q : List (Str × D) → Prop) (h : sd_Tree___init__ ds Q) : ds.length + 1 = 3 := by obtain ⟨a, b, rfl, _⟩ := h; rfl
theorem ends_mem {es : List Ed} {p q : Str} : q ∈ (es.filter fun e => decide (e.2 = p)).map (·.1) ++ (es.filter fun e => decide (e.1 = p)).map (·.2) ↔ adj es p q = true := by
  rw [adj_iff, List.mem_append, List.mem_map, List.mem_map]
  constructor
  · rintro (⟨e, he, rfl⟩ | ⟨e, he, rfl⟩)
    · obtain ⟨h1, h2⟩ := List.mem_filter.mp he
      have h2 := of_decide_eq_true h2
      right
      rw [← h2]
      exact h1
    · obtain ⟨h1, h2⟩ := List.mem_filter.mp he
      have h2 := of_decide_eq_true h2
      left
      rw [← h2]
      exact h1
  · rintro (h | h)
    · exact .inr ⟨(p, q), List.mem_filter.mpr ⟨h, decide_eq_true rfl⟩, rfl⟩
    · exact .inl ⟨(q, p), List.mem_filter.mpr ⟨h, decide_eq_true rfl⟩, rfl⟩
abbrev N_Tree___init__ : List Str := ["self", "places", "edges", "place", "ends", "one", "other", "end"]
theorem sc_Tree___init__ : FnScope N_Tree___init__ ["self", "places", "edges"] (defScope st_Tree___init__) := ⟨rfl, rfl, rfl, by decide +kernel, rfl, by decide +kernel, by decide +kernel⟩
def t_Tree___init__ : TDS :=
  dSeq (dDrop (dCall sd_check_tree (dCons (dVar 1) (dCons (dVar 2) (dNil)))))
  (dSeq (dFldSet 0 "own_places" ["Tree"] (dVar 1))
  (dSeq (dFldSet 0 "own_edges" ["Tree"] (dVar 2))
  (dFldDict 0 "near" ["Tree"] (iSeq (dVar 1)) (dgName 3) (dAsg (dBin addX (.ex (dLc (iSeq (dVar 2)) (dgSeq 2 (dgCons (dgName 5) (dgCons (dgName 6) (dgNil)))) (dtBin (eqX) (.sl 6) (.sl 3)) (dVar 5) [5, 6])) (.ex (dLc (iSeq (dVar 2)) (dgSeq 2 (dgCons (dgName 5) (dgCons (dgName 6) (dgNil)))) (dtBin (eqX) (.sl 5) (.sl 3)) (dVar 6) [5, 6]))) 4) (dVar 3) (dB1 tupleD (.ex (dLc (iSeq (dVar 1)) (dgName 7) (dtBin (inX false) (.sl 7) (.sl 4)) (dVar 7) [7])))
  (dFldSet 0 "gaps" ["Tree"] (dDc (iSeq (dVar 1)) (dgName 3) (dYes) (dVar 3) (dCall sd_gaps_from (dCons (dB1 (fldD "near" ["Tree"]) (.sl 0)) (dCons (dVar 3) (dNil)))) [3])))))
theorem pure_Tree___init__ (y : Addr) (ds : List D) (Q : List (Str × D) → Prop) (h : sd_Tree___init__ ds Q) : t_Tree___init__ { nx := fun δ => ∃ fs, δ[0]? = some (.ow (.self y "Tree" fs)) ∧ Q fs, rt := fun _ _ => False } (startI 8 y "Tree" ds) := by
  obtain ⟨ps, es, rfl, t, q⟩ := h
  have hhi := t.hi
  unfold t_Tree___init__
  walk_at "du"
  refine ⟨ps, es, rfl, t, ?_⟩
  walk_at "du"
  refine ⟨by simp [putFD], ?_⟩
  have e0 : putFD "own_edges" (des es) (putFD "own_places" (dps ps) []) = [(("own_places" : Str), dps ps), (("own_edges" : Str), des es)] := by simp [putFD, ne_pe]
  rw [e0]
  unfold dFldDict
  dsimp only [List.getElem?_cons_zero]
  refine ⟨List.mem_singleton.mpr rfl, by simp, ?_⟩
  unfold dps
  simp only [List.set_cons_zero]
  walk_at "du"
  refine ⟨fun j acc δ' => ∃ c3 c4 c5 c6 c7, δ' = [.im (.ref y), .im (.tup (ps.map D.str)), .im (des es), c3, c4, c5, c6, c7] ∧ acc = (ps.take j).map fun p => (kS p, .tup ((nbs ps es p).map D.str)), ⟨_, _, _, _, _, rfl, rfl⟩, ?_, ?_⟩
  · rintro j d acc δ' hd ⟨c3, c4, c5, c6, c7, rfl, rfl⟩
    rw [List.getElem?_map] at hd
    cases hp : ps[j]? with
    | none => rw [hp] at hd; cases hd
    | some p =>
      rw [hp] at hd
      cases hd
      have hm := List.mem_of_getElem? hp
      have hj := lt_of_get hp
      have hle := t.len
      unfold des
      walk_at "du"
      refine lc_go es edD (fun e => decide (e.2 = p)) (fun e => .str e.1) rfl (by omega) (fun e he K1 K2 k1 k2 => ?_) ?_
      · walk_at "du"
        exact if_b k1 k2
      walk_at "du"
      refine lc_go es edD (fun e => decide (e.1 = p)) (fun e => .str e.2) rfl (by omega) (fun e he K1 K2 k1 k2 => ?_) ?_
      · walk_at "du"
        exact if_b k1 k2
      walk_at "du"
      have f1 := List.length_filter_le (fun e : Ed => decide (e.2 = p)) es
      have f2 := List.length_filter_le (fun e : Ed => decide (e.1 = p)) es
      refine ⟨Nat.le_of_lt (line_of (by rw [List.length_map, List.length_map]; omega)), ?_⟩
      have e1 : (es.filter fun e => decide (e.2 = p)).map (fun e => D.str e.1) ++ (es.filter fun e => decide (e.1 = p)).map (fun e => D.str e.2) = ((es.filter fun e => decide (e.2 = p)).map (·.1) ++ (es.filter fun e => decide (e.1 = p)).map (·.2)).map D.str := by
        rw [List.map_append, List.map_map, List.map_map]; rfl
      rw [e1]
      refine lc_go ps D.str (fun q => adj es p q) D.str rfl (by omega) (fun q hq K1 K2 k1 k2 => ?_) ?_
      · walk_at "du"
        have e2 : decide (q ∈ (es.filter fun e => decide (e.2 = p)).map (·.1) ++ (es.filter fun e => decide (e.1 = p)).map (·.2)) = adj es p q := by
          rw [Bool.eq_iff_iff, decide_eq_true_iff, ends_mem]
        rw [e2]
        exact if_b k1 k2
      walk_at "du"
      show _ ∧ _
      refine ⟨by rw [List.length_map, List.length_take]; omega, _, _, _, _, _, rfl, ?_⟩
      show putKD _ (kS p) _ = _
      rw [put_new (v := fun p => D.tup ((nbs ps es p).map D.str)) (take_nodup t.nd hp), List.take_succ, hp]
      simp [nbs]
  · rintro acc δ' ⟨c3, c4, c5, c6, c7, rfl, rfl⟩
    rw [List.length_map, List.take_length]
    refine ⟨rfl, ?_⟩
    simp only [List.set_cons_zero]
    have e3 : putFD "near" (.dct (ps.map fun p => (kS p, D.tup ((nbs ps es p).map D.str)))) [(("own_places" : Str), D.tup (ps.map D.str)), (("own_edges" : Str), des es)] = [(("own_places" : Str), D.tup (ps.map D.str)), (("own_edges" : Str), des es), (("near" : Str), .dct (nrT ps es))] := by simp [putFD, nrT, ne_pn, ne_en]
    rw [e3]
    walk_at "du"
    have e4 : ∀ R : D → Prop, fldD "near" ["Tree"] (.self y "Tree" [(("own_places" : Str), D.tup (ps.map D.str)), (("own_edges" : Str), des es), (("near" : Str), .dct (nrT ps es))]) R = R (.dct (nrT ps es)) := fun R => by
      unfold fldD insOf
      simp [List.lookup_cons, be_np, be_ne]
    refine dc_nd ps (fun s z => ∃ w f, Far ps es s w f ∧ z = .dct (gD w f)) rfl t.nd (by omega) (fun x hx K k1 => ?_) fun v hv => ?_
    · walk_at "du"
      rw [e4]
      walk_at "du"
      exact ⟨ps, es, x, rfl, t, hx, fun w f hF => k1 _ ⟨w, f, hF, rfl⟩⟩
    · walk_at "du"
      refine ⟨_, rfl, ?_⟩
      have e5 : ∀ g, putFD "gaps" g [(("own_places" : Str), D.tup (ps.map D.str)), (("own_edges" : Str), des es), (("near" : Str), .dct (nrT ps es))] = [(("own_places" : Str), D.tup (ps.map D.str)), (("own_edges" : Str), des es), (("near" : Str), .dct (nrT ps es)), (("gaps" : Str), g)] := fun g => by simp [putFD, ne_pg, ne_eg, ne_ng]
      rw [e5]
      refine q _ ?_
      refine ⟨fun s => if h : s ∈ ps then (hv s h).choose else [], fun s => if h : s ∈ ps then (hv s h).choose_spec.choose else fun _ => 0, fun s h => ?_, ?_⟩
      · simp only [dif_pos h]
        exact (hv s h).choose_spec.choose_spec.1
      · congr 1
        refine List.map_congr_left fun s h => ?_
        simp only [dif_pos h]
        rw [← (hv s h).choose_spec.choose_spec.2]

theorem strs_plain (l : List Str) : plainL (l.map D.str) = true := plainL_all.mpr fun d hd => by obtain ⟨s, _, rfl⟩ := List.mem_map.mp hd; rfl
theorem strs_inj {a b : List Str} : a.map D.str = b.map D.str ↔ a = b := ⟨fun h => by
  induction a generalizing b with
  | nil => cases b with | nil => rfl | cons _ _ => cases h
  | cons x r ih => cases b with
    | nil => cases h
    | cons y t =>
      simp only [List.map_cons, List.cons.injEq, D.str.injEq] at h
      rw [h.1, ih h.2], fun h => h ▸ rfl⟩
theorem dep_txt (l : List Str) : dep (.tup (l.map D.str)) ≤ 1 ∧ dep (.lst (l.map D.str)) ≤ 1 := by
  have : PyData.depthAll (pyL (l.map D.str)) ≤ 0 := depth_all fun x hx => by
    rw [pyL_map] at hx
    obtain ⟨d, hd, rfl⟩ := List.mem_map.mp hx
    obtain ⟨e, _, rfl⟩ := List.mem_map.mp hd
    exact Nat.le_refl _
  exact ⟨by show _ + 1 ≤ 1; omega, by show _ + 1 ≤ 1; omega⟩
theorem eqB_tup (a b : List Str) : eqB (.tup (a.map D.str)) (.tup (b.map D.str)) = decide (a = b) := by
  rw [Bool.eq_iff_iff, eqB_plain (show plain (.tup (a.map D.str)) = true from strs_plain a) (show plain (.tup (b.map D.str)) = true from strs_plain b), decide_eq_true_iff]
  exact ⟨fun h => strs_inj.mp (by injection h), fun h => by rw [h]⟩
theorem ins_tree (ps : List Str) (es : List Ed) (g : D) : insOf (treeE ps es g) = some (("Tree" : Str), [(("own_places" : Str), dps ps), (("own_edges" : Str), des es), (("near" : Str), .dct (nrT ps es)), (("gaps" : Str), g)]) := rfl
theorem fld_places {ps : List Str} {es : List Ed} {g : D} {Q : D → Prop} : fldD "own_places" ["Tree"] (treeE ps es g) Q = Q (dps ps) := by
  unfold fldD; simp only [ins_tree]; simp [List.lookup_cons]
theorem fld_edges {ps : List Str} {es : List Ed} {g : D} {Q : D → Prop} : fldD "own_edges" ["Tree"] (treeE ps es g) Q = Q (des es) := by
  unfold fldD; simp only [ins_tree]; simp [List.lookup_cons, be_pe]
theorem fld_near {ps : List Str} {es : List Ed} {g : D} {Q : D → Prop} : fldD "near" ["Tree"] (treeE ps es g) Q = Q (.dct (nrT ps es)) := by
  unfold fldD; simp only [ins_tree]; simp [List.lookup_cons, be_np, be_ne]
theorem fld_gaps {ps : List Str} {es : List Ed} {g : D} {Q : D → Prop} : fldD "gaps" ["Tree"] (treeE ps es g) Q = Q g := by
  unfold fldD; simp only [ins_tree]; simp [List.lookup_cons, be_gp, be_ge, be_gn]
theorem be_TG : (("Tree" : Str) == ("Grove" : Str)) = false := by decide +kernel
theorem be_TM : (("Tree" : Str) == ("Made" : Str)) = false := by decide +kernel
theorem isi_tree {ps : List Str} {es : List Ed} {g : D} {Q : D → Prop} : isiC [("Grove", false), ("Made", false), ("Tree", true)] (treeE ps es g) Q = Q (.bl true) := by
  unfold isiC; simp only [ins_tree]; simp [List.lookup_cons, be_TG, be_TM]

local macro_rules | `(tactic| walk_at "dv") => `(tactic| try simp only [↓s_next, ↓s_seq, ↓s_sto, ↓s_drop, ↓s_ret, ↓s_if, ↓s_never, ↓s_asg, ↓s_asgO, ↓s_pars, ↓s_great, ↓g_name, ↓g_nil, ↓g_cons, ↓g_seqT, ↓g_seqL, ↓g_box, ↓for_eq, ↓lc_eq, ↓dc_eq, ↓i_seq, ↓i_enum, ↓i_range1,
  ↓vi0, ↓vo0, ↓ri0, ↓ro0, ↓ol0, ↓as0, ↓vi1, ↓vo1, ↓ri1, ↓ro1, ↓ol1, ↓as1, ↓vi2, ↓vo2, ↓ri2, ↓ro2, ↓ol2, ↓as2, ↓vi3, ↓vo3, ↓ri3, ↓ro3, ↓ol3, ↓as3, ↓vi4, ↓vo4, ↓ri4, ↓ro4, ↓ol4, ↓as4, ↓vi5, ↓vo5, ↓ri5, ↓ro5, ↓ol5, ↓as5, ↓vi6, ↓vo6, ↓ri6, ↓ro6, ↓ol6, ↓as6, ↓vi7, ↓vo7, ↓ri7, ↓ro7, ↓ol7, ↓as7, ↓vi8, ↓vo8, ↓ri8, ↓ro8, ↓ol8, ↓as8, ↓vi9, ↓vo9, ↓ri9, ↓ro9, ↓ol9, ↓as9, ↓vi10, ↓vo10, ↓ri10, ↓ro10, ↓ol10, ↓as10, ↓vi11, ↓vo11, ↓ri11, ↓ro11, ↓ol11, ↓as11, ↓vi12, ↓vo12, ↓ri12, ↓ro12, ↓ol12, ↓as12, ↓vi13, ↓vo13, ↓ri13, ↓ro13, ↓ol13, ↓as13, ↓vi14, ↓vo14, ↓ri14, ↓ro14, ↓ol14, ↓as14, ↓vi15, ↓vo15, ↓ri15, ↓ro15, ↓ol15, ↓as15, ↓vi16, ↓vo16, ↓ri16, ↓ro16, ↓ol16, ↓as16, ↓vi17, ↓vo17, ↓ri17, ↓ro17, ↓ol17, ↓as17, ↓vi18, ↓vo18, ↓ri18, ↓ro18, ↓ol18, ↓as18, ↓vi19, ↓vo19, ↓ri19, ↓ro19, ↓ol19, ↓as19, ↓vi20, ↓vo20, ↓ri20, ↓ro20, ↓ol20, ↓as20, ↓vi21, ↓vo21, ↓ri21, ↓ro21, ↓ol21, ↓as21, ↓vi22, ↓vo22, ↓ri22, ↓ro22, ↓ol22, ↓as22, ↓vi23, ↓vo23, ↓ri23, ↓ro23, ↓ol23, ↓as23, ↓vi24, ↓vo24, ↓ri24, ↓ro24, ↓ol24, ↓as24, ↓vi25, ↓vo25, ↓ri25, ↓ro25, ↓ol25, ↓as25, ↓at_s1, ↓at_s0, ↓at_w1, ↓at_w0, ↓mt_b, ↓mt_l, ↓mt_t, ↓mt_i,
  ↓e_c, ↓e_nil, ↓e_cons, ↓e_tup, ↓e_lst, ↓e_two1, ↓e_two2, ↓e_two3, ↓e_two4, ↓e_bin, ↓e_tbin, ↓e_chain, ↓e_and, ↓e_or, ↓e_not, ↓e_tru1, ↓e_tru2, ↓e_andV, ↓e_orV, ↓e_notV, ↓e_if, ↓e_call, ↓e_p0, ↓e_p1, ↓e_one1, ↓e_one2, ↓e_b1, ↓e_b2, ↓e_tb2, ↓e_sl1, ↓e_sl2, ↓e_append, ↓e_extend, ↓e_popAt, ↓e_yes, ↓e_join, ↓in_strL, ↓in_strT, ↓x_mulS, ↓e_new, ↓e_newV, ↓e_meth, ↓e_prop, ↓e_stat, ↓e_statI, ↓e_clsM, ↓e_evN, ↓e_evI, ↓e_evO, ↓e_boxNew,
  z0, z1, z2, h0, h1, h2, ↓bx0, ↓rgI, ↓sqL, ↓sqT, ↓sqR, ↓enL, ↓enT, ↓lsL, wipeD, e_var, v0, v1, r0, r1, o0, m0, at0, setD, startD, startI, dFldSet,
  List.map_cons, List.map_nil, List.replicate, List.cons_append, List.nil_append, List.length_cons, List.length_nil, List.getElem?_cons_zero, List.getElem?_cons_succ, List.getElem?_nil, List.set_cons_zero, List.set_cons_succ, List.set_nil, Nat.reduceAdd, Nat.reduceSub, Nat.sub_zero, Nat.sub_self, Nat.zero_add, Nat.add_zero,
  true_and, and_true, if_true, if_false, Bool.false_eq_true, Bool.not_true, Bool.not_false, Bool.not_eq_true, decide_true, decide_false, Bool.true_eq_false, reduceCtorEq, ite_true, ite_false, List.mem_cons, List.not_mem_nil, or_false, beq_self_eq_true, Nat.reduceLT, Nat.reduceLeDiff, Int.reduceLT, Int.reduceLE, Int.reduceAdd, Int.reduceSub, Int.reduceMul, Int.reducePow, Int.reduceToNat, Int.reduceEq, Int.reduceNeg, Int.reduceMod, Int.reduceDiv, Nat.reduceEqDiff, and_self, Bool.not_not,
  ↓x_bl, x_truB, x_truL, x_truT, x_truI, ↓x_eqI, ↓x_eqS, ↓x_eqB, ↓x_neI, ↓x_neS, ↓x_neB, ↓x_addI, ↓x_addL, ↓x_addT, ↓x_addS, ↓x_subI, ↓x_mulI, ↓x_modI, ↓x_fdivI, ↓x_powI, ↓x_lt, ↓x_le, ↓x_gt, ↓x_ge, ↓x_ltP, ↓x_leP, ↓x_gtP, ↓x_geP, ↓x_lenL, ↓x_lenT, ↓x_lenS, ↓x_tupL, ↓x_tupT, ↓x_lisL, ↓x_lisT, ↓x_rev, ↓x_intI, ↓x_intB, ↓x_abs, ↓x_min, ↓x_max, ↓x_is, ↓x_isNot, x_isN0, x_isN1, x_isN2, x_isN3, x_isN4, ↓x_nil, ↓x_nnil, ↓x_ix0, ↓x_ix1, ↓x_ix2, ↓x_ix3, ↓x_ix4, ↓x_ix5, ↓x_ix6, ↓x_ix7, ↓x_it0, ↓x_it1, ↓x_it2, ↓x_ixB, x_kn, x_ks, x_kt, ↓x_slL, ↓x_slT, ↓x_slS, ↓x_slR,
  ↓s_aug, ↓g_put, ↓g_item, ↓e_callB, ↓e_disp, ↓e_ps0, ↓e_ps1, ↓i_str, ↓i_range2, ↓e_get2, ↓e_step, ↓x_step, ↓e_f1, ↓e_fstr, ↓e_fs0, ↓e_fs1, ↓e_fs2, ↓x_repr, ↓x_strI, ↓x_strS, ↓x_onStr, ↓x_onInt, ↓oa0, ↓od0, ↓oa1, ↓od1, ↓oa2, ↓od2, ↓oa3, ↓od3, ↓oa4, ↓od4, ↓oa5, ↓od5, ↓oa6, ↓od6, ↓oa7, ↓od7, ↓oa8, ↓od8, ↓oa9, ↓od9, ↓oa10, ↓od10, ↓oa11, ↓od11, ↓oa12, ↓od12, h3, h4, x_ko0, x_ko1, x_ko2, ↓x_ixK, ↓x_ixZ, ↓x_inK, ↓x_listK, ↓x_listZ, ↓x_listT, ↓x_isS, ↓x_isT, ↓x_inS, ↓g_ed, ↓in_ed, ↓word_at, ↓fld_places, ↓fld_edges, ↓fld_near, ↓fld_gaps, ↓isi_tree, ins_tree])

/-- any plain thing against texts -/
def inTxt (v : D) (l : List Str) : Bool := match v with | .str s => decide (s ∈ l) | _ => false
theorem inL_txt {v : D} (hv : isDat v = true) (l : List Str) : inL v (l.map D.str) = inTxt v l := by
  induction l with
  | nil => cases v <;> rfl
  | cons a r ih =>
    have e : inL v ((a :: r).map D.str) = (eqB (.str a) v || inL v (r.map D.str)) := rfl
    rw [e, ih]
    cases v with
    | str s =>
      have e2 : eqB (.str a) (.str s) = decide (a = s) := by
        rw [Bool.eq_iff_iff, eqB_plain rfl rfl, decide_eq_true_iff]
        exact ⟨fun h => by injection h, fun h => by rw [h]⟩
      show (eqB (.str a) (.str s) || decide (s ∈ r)) = decide (s ∈ a :: r)
      rw [e2, Bool.eq_iff_iff, Bool.or_eq_true_iff, decide_eq_true_iff, decide_eq_true_iff, decide_eq_true_iff, List.mem_cons]
      exact ⟨fun h => h.imp (fun z => z.symm) id, fun h => h.imp (fun z => z.symm) id⟩
    | non => rfl
    | bl b => rfl
    | int i => rfl
    | tup l => rfl
    | lst l => rfl
    | _ => cases hv
theorem in_txt {v : D} {l : List Str} {Q : D → Prop} (hv : isDat v = true) (hd : dep v ≤ 64) (q : Q (.bl (inTxt v l))) : inX false v (.tup (l.map D.str)) Q := by
  have e : inX false v (.tup (l.map D.str)) Q = ((isDat v = true ∧ isDatL (l.map D.str) = true ∧ dep v ≤ 64 ∧ dep (.tup (l.map D.str)) ≤ 64) ∧ Q (.bl (inL v (l.map D.str)))) := by
    unfold inX
    cases v <;> first | rfl | cases hv
  rw [e, inL_txt hv]
  exact ⟨⟨hv, isDatL_iff.mpr fun d h => plain_dat (plainL_all.mp (strs_plain l) d h), hd, Nat.le_trans (dep_txt l).1 (by decide)⟩, q⟩
def sd_Tree___contains__ : SpD := fun ds Q => ∃ ps es g v, ds = [treeE ps es g, v] ∧ isDat v = true ∧ dep v ≤ 64 ∧ Q (.bl (inTxt v ps))
theorem len_Tree___contains__ (ds : List D) (Q : D → Prop) (h : sd_Tree___contains__ ds Q) : ds.length = 2 := by obtain ⟨a, b, c, d, rfl, _⟩ := h; rfl
abbrev N_Tree___contains__ : List Str := ["self", "value"]
theorem sc_Tree___contains__ : FnScope N_Tree___contains__ ["self", "value"] (defScope st_Tree___contains__) := ⟨rfl, rfl, rfl, by decide +kernel, rfl, by decide +kernel, by decide +kernel⟩
def t_Tree___contains__ : TDS :=
  dRet (dBin (inX false) (.sl 1) (.ex (dB1 (fldD "own_places" ["Tree"]) (.sl 0))))
theorem pure_Tree___contains__ (ds : List D) (Q : D → Prop) (h : sd_Tree___contains__ ds Q) : t_Tree___contains__ (ends Q) (startD 2 ds) := by
  obtain ⟨ps, es, g, v, rfl, hv, hd, q⟩ := h
  unfold t_Tree___contains__
  walk_at "dv"
  exact in_txt hv hd q

local macro_rules | `(tactic| walk_at "ds") => `(tactic| try simp only [↓s_next, ↓s_seq, ↓s_sto, ↓s_drop, ↓s_ret, ↓s_if, ↓s_never, ↓s_asg, ↓s_asgO, ↓s_pars, ↓s_great, ↓g_name, ↓g_nil, ↓g_cons, ↓g_seqT, ↓g_seqL, ↓g_box, ↓for_eq, ↓lc_eq, ↓dc_eq, ↓i_seq, ↓i_enum, ↓i_range1,
  ↓vi0, ↓vo0, ↓ri0, ↓ro0, ↓ol0, ↓as0, ↓vi1, ↓vo1, ↓ri1, ↓ro1, ↓ol1, ↓as1, ↓vi2, ↓vo2, ↓ri2, ↓ro2, ↓ol2, ↓as2, ↓vi3, ↓vo3, ↓ri3, ↓ro3, ↓ol3, ↓as3, ↓vi4, ↓vo4, ↓ri4, ↓ro4, ↓ol4, ↓as4, ↓vi5, ↓vo5, ↓ri5, ↓ro5, ↓ol5, ↓as5, ↓vi6, ↓vo6, ↓ri6, ↓ro6, ↓ol6, ↓as6, ↓vi7, ↓vo7, ↓ri7, ↓ro7, ↓ol7, ↓as7, ↓vi8, ↓vo8, ↓ri8, ↓ro8, ↓ol8, ↓as8, ↓vi9, ↓vo9, ↓ri9, ↓ro9, ↓ol9, ↓as9, ↓vi10, ↓vo10, ↓ri10, ↓ro10, ↓ol10, ↓as10, ↓vi11, ↓vo11, ↓ri11, ↓ro11, ↓ol11, ↓as11, ↓vi12, ↓vo12, ↓ri12, ↓ro12, ↓ol12, ↓as12, ↓vi13, ↓vo13, ↓ri13, ↓ro13, ↓ol13, ↓as13, ↓vi14, ↓vo14, ↓ri14, ↓ro14, ↓ol14, ↓as14, ↓vi15, ↓vo15, ↓ri15, ↓ro15, ↓ol15, ↓as15, ↓vi16, ↓vo16, ↓ri16, ↓ro16, ↓ol16, ↓as16, ↓vi17, ↓vo17, ↓ri17, ↓ro17, ↓ol17, ↓as17, ↓vi18, ↓vo18, ↓ri18, ↓ro18, ↓ol18, ↓as18, ↓vi19, ↓vo19, ↓ri19, ↓ro19, ↓ol19, ↓as19, ↓vi20, ↓vo20, ↓ri20, ↓ro20, ↓ol20, ↓as20, ↓vi21, ↓vo21, ↓ri21, ↓ro21, ↓ol21, ↓as21, ↓vi22, ↓vo22, ↓ri22, ↓ro22, ↓ol22, ↓as22, ↓vi23, ↓vo23, ↓ri23, ↓ro23, ↓ol23, ↓as23, ↓vi24, ↓vo24, ↓ri24, ↓ro24, ↓ol24, ↓as24, ↓vi25, ↓vo25, ↓ri25, ↓ro25, ↓ol25, ↓as25, ↓at_s1, ↓at_s0, ↓at_w1, ↓at_w0, ↓mt_b, ↓mt_l, ↓mt_t, ↓mt_i,
  ↓e_c, ↓e_nil, ↓e_cons, ↓e_tup, ↓e_lst, ↓e_two1, ↓e_two2, ↓e_two3, ↓e_two4, ↓e_bin, ↓e_tbin, ↓e_chain, ↓e_and, ↓e_or, ↓e_not, ↓e_tru1, ↓e_tru2, ↓e_andV, ↓e_orV, ↓e_notV, ↓e_if, ↓e_call, ↓e_p0, ↓e_p1, ↓e_one1, ↓e_one2, ↓e_b1, ↓e_b2, ↓e_tb2, ↓e_sl1, ↓e_sl2, ↓e_append, ↓e_extend, ↓e_popAt, ↓e_yes, ↓e_join, ↓in_strL, ↓in_strT, ↓x_mulS, ↓e_new, ↓e_newV, ↓e_meth, ↓e_prop, ↓e_stat, ↓e_statI, ↓e_clsM, ↓e_evN, ↓e_evI, ↓e_evO, ↓e_boxNew,
  z0, z1, z2, h0, h1, h2, ↓bx0, ↓rgI, ↓sqL, ↓sqT, ↓sqR, ↓enL, ↓enT, ↓lsL, wipeD, e_var, v0, v1, r0, r1, o0, m0, at0, setD, startD, startI, dFldSet,
  List.map_cons, List.map_nil, List.replicate, List.cons_append, List.nil_append, List.length_cons, List.length_nil, List.getElem?_cons_zero, List.getElem?_cons_succ, List.getElem?_nil, List.set_cons_zero, List.set_cons_succ, List.set_nil, Nat.reduceAdd, Nat.reduceSub, Nat.sub_zero, Nat.sub_self, Nat.zero_add, Nat.add_zero,
  true_and, and_true, if_true, if_false, Bool.false_eq_true, Bool.not_true, Bool.not_false, Bool.not_eq_true, decide_true, decide_false, Bool.true_eq_false, reduceCtorEq, ite_true, ite_false, List.mem_cons, List.not_mem_nil, or_false, beq_self_eq_true, Nat.reduceLT, Nat.reduceLeDiff, Int.reduceLT, Int.reduceLE, Int.reduceAdd, Int.reduceSub, Int.reduceMul, Int.reducePow, Int.reduceToNat, Int.reduceEq, Int.reduceNeg, Int.reduceMod, Int.reduceDiv, Nat.reduceEqDiff, and_self, Bool.not_not,
  ↓x_bl, x_truB, x_truL, x_truT, x_truI, ↓x_eqI, ↓x_eqS, ↓x_eqB, ↓x_neI, ↓x_neS, ↓x_neB, ↓x_addI, ↓x_addL, ↓x_addT, ↓x_addS, ↓x_subI, ↓x_mulI, ↓x_modI, ↓x_fdivI, ↓x_powI, ↓x_lt, ↓x_le, ↓x_gt, ↓x_ge, ↓x_ltP, ↓x_leP, ↓x_gtP, ↓x_geP, ↓x_lenL, ↓x_lenT, ↓x_lenS, ↓x_tupL, ↓x_tupT, ↓x_lisL, ↓x_lisT, ↓x_rev, ↓x_intI, ↓x_intB, ↓x_abs, ↓x_min, ↓x_max, ↓x_is, ↓x_isNot, x_isN0, x_isN1, x_isN2, x_isN3, x_isN4, ↓x_nil, ↓x_nnil, ↓x_ix0, ↓x_ix1, ↓x_ix2, ↓x_ix3, ↓x_ix4, ↓x_ix5, ↓x_ix6, ↓x_ix7, ↓x_it0, ↓x_it1, ↓x_it2, ↓x_ixB, x_kn, x_ks, x_kt, ↓x_slL, ↓x_slT, ↓x_slS, ↓x_slR])

def sd__law_take : SpD := fun ds Q => ∃ a m, ds = [.box a, .int m] ∧ 0 < m ∧ m < 1267650600228229401496703205376 ∧ ∀ i, 0 ≤ i → i < m → Q (.int i)
theorem len__law_take (ds : List D) (Q : D → Prop) (h : sd__law_take ds Q) : ds.length = 2 := by obtain ⟨a, m, rfl, _⟩ := h; rfl
theorem take_at {a : Addr} {m : Int} {Q : D → Prop} : sd__law_take [.box a, .int m] Q = (0 < m ∧ m < 1267650600228229401496703205376 ∧ ∀ i, 0 ≤ i → i < m → Q (.int i)) := by
  rw [eq_iff_iff]
  constructor
  · rintro ⟨a', m', e, h1, h2, h3⟩
    cases e
    exact ⟨h1, h2, h3⟩
  · rintro ⟨h1, h2, h3⟩
    exact ⟨a, m, rfl, h1, h2, h3⟩
abbrev N__law_take : List Str := ["_law_box_here", "_law_many", "_law_digit", "_law_one"]
theorem sc__law_take : FnScope N__law_take ["_law_box_here", "_law_many"] (defScope st__law_take) := ⟨rfl, rfl, rfl, by decide +kernel, rfl, by decide +kernel, by decide +kernel⟩
def t__law_take : TDS :=
  dSeq (dGreat 0)
  (dSeq (dIfS (dtBin (gtD) (.ex (dBin ixB (.sl 0) (.ex (dC (.str "now"))))) (.ex (dC (.int 0)))) (dSeq (dAsg (dBin modD (.ex (dBin ixB (.sl 0) (.ex (dC (.str "now"))))) (.sl 1)) 2)
  (dSeq (dSto (dBin fdivD (.ex (dBin ixB (.sl 0) (.ex (dC (.str "now"))))) (.sl 1)) (dgBox 0 "now"))
  (dRet (dVar 2)))) (dNext))
  (dSeq (dSto (dBin addX (.ex (dBin ixB (.sl 0) (.ex (dC (.str "turn"))))) (.ex (dC (.int 1)))) (dgBox 0 "turn"))
  (dSeq (dAsg (dBin modD (.ex (dBin mulX (.ex (dBin modD (.ex (dBin addX (.ex (dBin ixB (.sl 0) (.ex (dC (.str "seed"))))) (.ex (dBin mulX (.ex (dC (.int 69623))) (.ex (dBin ixB (.sl 0) (.ex (dC (.str "turn"))))))))) (.ex (dC (.int 2147483647))))) (.ex (dC (.int 16807))))) (.ex (dC (.int 2147483647)))) 3)
  (dSeq (dSto (dBin addX (.ex (dBin modD (.ex (dBin addX (.sl 3) (.ex (dBin mulX (.ex (dC (.int 3))) (.ex (dBin ixB (.sl 0) (.ex (dC (.str "seed"))))))))) (.ex (dC (.int 2147483629))))) (.ex (dC (.int 1)))) (dgBox 0 "seed"))
  (dRet (dBin modD (.ex (dBin fdivD (.ex (dBin addX (.ex (dBin mulX (.sl 3) (.ex (dC (.int 30269))))) (.ex (dBin ixB (.sl 0) (.ex (dC (.str "seed"))))))) (.ex (dC (.int 4099))))) (.sl 1)))))))
theorem pure__law_take (ds : List D) (Q : D → Prop) (h : sd__law_take ds Q) : t__law_take (ends Q) (startD 4 ds) := by
  obtain ⟨a, m, rfl, h0, h1, q⟩ := h
  unfold t__law_take
  walk_at "ds"
  intro n hn
  refine if_b (fun hb => ?_) (fun hb => ?_)
  · intro n2 hn2
    refine ⟨h0, fun n3 hn3 => ⟨⟨h0, h1⟩, Int.ediv_nonneg hn3 (Int.le_of_lt h0), ?_⟩⟩
    exact q _ (Int.emod_nonneg _ (by omega)) (Int.emod_lt_of_pos _ h0)
  · intro n2 hn2
    refine ⟨by omega, fun n3 hn3 n4 hn4 => ⟨cm1 (by decide), cm2 (by decide), fun n5 hn5 => ⟨cm1 (by decide), by omega, cm2 (by decide), fun n6 hn6 => ⟨h0, ?_⟩⟩⟩⟩
    exact q _ (Int.emod_nonneg _ (by omega)) (Int.emod_lt_of_pos _ h0)
def sd__law_box : SpD := fun ds Q => ∃ ns b, ds = [.scr ns, .int b] ∧ 0 ≤ b ∧ ∀ a, Q (.box a)
theorem len__law_box (ds : List D) (Q : D → Prop) (h : sd__law_box ds Q) : ds.length = 2 := by obtain ⟨a, m, rfl, _⟩ := h; rfl
theorem box_at {ns : List Int} {b : Int} {Q : D → Prop} (h : 0 ≤ b) : sd__law_box [.scr ns, .int b] Q = ∀ a, Q (.box a) := by
  rw [eq_iff_iff]
  constructor
  · rintro ⟨a', m', e, h1, h2⟩
    cases e
    exact h2
  · exact fun h2 => ⟨ns, b, rfl, h, h2⟩
abbrev N__law_box : List Str := ["_law_script", "_law_base", "_law_seed", "_law_cell", "_law_great"]
theorem sc__law_box : FnScope N__law_box ["_law_script", "_law_base"] (defScope st__law_box) := ⟨rfl, rfl, rfl, by decide +kernel, rfl, by decide +kernel, by decide +kernel⟩
def t__law_box : TDS :=
  dSeq (dAsg (dBin addX (.ex (dC (.int 7001))) (.ex (dBin mulX (.ex (dC (.int 211))) (.sl 1)))) 2)
  (dSeq (dFor (iSeq (dSl (.sl 0) (dP0) (dP1 (dC (.int 50))))) (dgName 3) (dAsg (dBin modD (.ex (dBin addX (.ex (dBin addX (.ex (dBin mulX (.sl 2) (.ex (dC (.int 48271))))) (.ex (dBin modD (.ex (dB1 absD (.sl 3))) (.ex (dC (.int 2147483629))))))) (.ex (dC (.int 29))))) (.ex (dC (.int 2147483647)))) 2))
  (dSeq (dAsg (dLc (iSeq (dSl (.sl 0) (dP1 (dVar 1)) (dP1 (dC (.int 50))))) (dgName 3) (dtBin (geD) (.ex (dB1 absD (.sl 3))) (.ex (dBin powD (.ex (dC (.int 10))) (.ex (dC (.int 18)))))) (dB1 absD (.sl 3)) [3]) 4)
  (dRet (dBoxNew (dB1 revD (.sl 4)) (dBin addX (.sl 2) (.ex (dC (.int 1))))))))
theorem pure__law_box (ds : List D) (Q : D → Prop) (h : sd__law_box ds Q) : t__law_box (ends Q) (startD 5 ds) := by
  obtain ⟨ns, b, rfl, h0, q⟩ := h
  unfold t__law_box
  walk_at "ds"
  refine ⟨cm1 (by decide), ?_⟩
  refine for_go (fun (_ : Nat) (δ : DSt) => ∃ s c, δ = [.im (.scr ns), .im (.int b), .im (.int s), c, .no] ∧ 0 ≤ s) ⟨7001 + 211 * b, .no, rfl, by omega⟩ ?_ ?_
  · rintro i d δ' hd ⟨s, c, rfl, hs⟩
    obtain ⟨n, rfl⟩ := map_int_get hd
    walk_at "ds"
    exact ⟨cm2 (by decide), _, _, rfl, Int.emod_nonneg _ (by decide)⟩
  · rintro δ' ⟨s, c, rfl, hs⟩
    walk_at "ds"
    have hlen := cutL_len50 ns (some b)
    refine lc_go (cutL ns (some b) (some 50)) D.int (fun n => decide (10 ^ 18 ≤ (if n < 0 then -n else n))) (fun n => .int (if n < 0 then -n else n)) rfl (by omega) (fun x hx K1 K2 k1 k2 => ?_) ?_
    · walk_at "ds"
      refine ⟨by decide, ?_⟩
      refine if_b (fun hb => ?_) (fun hb => ?_)
      · exact k1 hb
      · exact k2 hb
    · walk_at "ds"
      have hl2 := List.length_filter_le (fun n : Int => decide (10 ^ 18 ≤ (if n < 0 then -n else n))) (cutL ns (some b) (some 50))
      refine ⟨(((cutL ns (some b) (some 50)).filter fun n => decide (10 ^ 18 ≤ (if n < 0 then -n else n))).map fun n => if n < 0 then -n else n).reverse, ?_, ?_, ?_, ?_⟩
      · rw [List.map_reverse, List.map_map]; rfl
      · intro x hx
        rw [List.mem_reverse, List.mem_map] at hx
        obtain ⟨n, _, rfl⟩ := hx
        split <;> omega
      · rw [List.length_reverse, List.length_map]; omega
      · exact ⟨_, rfl, by omega, q⟩
def sd__law_mixed : SpD := fun ds Q => ∃ a l, (ds = [.box a, .lst l] ∨ ds = [.box a, .tup l]) ∧ l.length ≤ 1000 ∧ ∀ l' : List D, l'.Perm l → Q (.lst l')
theorem len__law_mixed (ds : List D) (Q : D → Prop) (h : sd__law_mixed ds Q) : ds.length = 2 := by obtain ⟨a, m, rfl | rfl, _⟩ := h <;> rfl
theorem mixed_at {a : Addr} {l : List D} {Q : D → Prop} : sd__law_mixed [.box a, .lst l] Q = (l.length ≤ 1000 ∧ ∀ l' : List D, l'.Perm l → Q (.lst l')) := by
  rw [eq_iff_iff]
  constructor
  · rintro ⟨a', l', e | e, h1, h2⟩
    · cases e; exact ⟨h1, h2⟩
    · cases e
  · exact fun h => ⟨a, l, .inl rfl, h.1, h.2⟩
theorem mixed_atT {a : Addr} {l : List D} {Q : D → Prop} : sd__law_mixed [.box a, .tup l] Q = (l.length ≤ 1000 ∧ ∀ l' : List D, l'.Perm l → Q (.lst l')) := by
  rw [eq_iff_iff]
  constructor
  · rintro ⟨a', l', e | e, h1, h2⟩
    · cases e
    · cases e; exact ⟨h1, h2⟩
  · exact fun h => ⟨a, l, .inr rfl, h.1, h.2⟩
abbrev N__law_mixed : List Str := ["_law_box_here", "_law_items", "_law_left", "_law_found", "_law_turn"]
theorem sc__law_mixed : FnScope N__law_mixed ["_law_box_here", "_law_items"] (defScope st__law_mixed) := ⟨rfl, rfl, rfl, by decide +kernel, rfl, by decide +kernel, by decide +kernel⟩
def t__law_mixed : TDS :=
  dSeq (dPars [.ow (dB1 listA (.sl 1)), .ow (dLst (dNil))] [2, 3])
  (dSeq (dFor (iRange1 (dB1 lenD (.sl 2))) (dgName 4) (dDrop (dAppend 3 (dPopAt 2 (dCall sd__law_take (dCons (dVar 0) (dCons (dB1 lenD (.sl 2)) (dNil))))))))
  (dRet (dVar 3)))
theorem pure__law_mixed (ds : List D) (Q : D → Prop) (h : sd__law_mixed ds Q) : t__law_mixed (ends Q) (startD 5 ds) := by
  obtain ⟨a, l, hds, hl, q⟩ := h
  unfold t__law_mixed
  have key : ∀ it, (it = .lst l ∨ it = .tup l) → dFor (iRange1 (dB1 lenD (.sl 2))) (dgName 4) (dDrop (dAppend 3 (dPopAt 2 (dCall sd__law_take (dCons (dVar 0) (dCons (dB1 lenD (.sl 2)) dNil)))))) { nx := fun δ => (dRet (dVar 3)) (ends Q) δ, rt := fun d _ => Q d } [.im (.box a), .im it, .ow (.lst l), .ow (.lst []), .no] := by
    intro it hit
    walk_at "ds"
    refine ⟨⟨by omega, by omega⟩, for_go (fun (i : Nat) (δ : DSt) => ∃ left found c, δ = [.im (.box a), .im it, .ow (.lst left), .ow (.lst found), c] ∧ (left ++ found).Perm l ∧ found.length = i) ⟨l, [], .no, rfl, by simp, rfl⟩ ?_ ?_⟩
    · rintro i d δ' hd ⟨left, found, c, rfl, hp, hi⟩
      have hi2 := lt_of_get hd
      rw [rngD_len] at hi2
      have hlen := hp.length_eq
      rw [List.length_append] at hlen
      have hi2 : i < l.length := by simpa using hi2
      walk_at "ds"
      simp only [take_at]
      refine ⟨by omega, by omega, fun j j0 j1 => ?_⟩
      obtain ⟨y, hy⟩ : ∃ y, left[j.toNat]? = some y := ⟨_, List.getElem?_eq_getElem (by omega)⟩
      walk_at "ds"
      rw [hy]
      refine ⟨⟨j0, j1, by omega⟩, line_of (by omega), ?_⟩
      exact ⟨left.eraseIdx j.toNat, found ++ [y], _, rfl, perm_pop hp hy, by simp; omega⟩
    · rintro δ' ⟨left, found, c, rfl, hp, hi⟩
      rw [rngD_len] at hi
      have hlen := hp.length_eq
      rw [List.length_append] at hlen
      have : left = [] := List.length_eq_zero_iff.mp (by simp at hi; omega)
      subst this
      walk_at "ds"
      exact q found (by simpa using hp)
  rcases hds with rfl | rfl
  · walk_at "ds"
    exact key _ (.inl rfl)
  · walk_at "ds"
    exact key _ (.inr rfl)

local macro_rules | `(tactic| walk_at "db") => `(tactic| try simp only [↓s_next, ↓s_seq, ↓s_sto, ↓s_drop, ↓s_ret, ↓s_if, ↓s_never, ↓s_asg, ↓s_asgO, ↓s_pars, ↓s_great, ↓g_name, ↓g_nil, ↓g_cons, ↓g_seqT, ↓g_seqL, ↓g_box, ↓for_eq, ↓lc_eq, ↓dc_eq, ↓i_seq, ↓i_enum, ↓i_range1,
  ↓vi0, ↓vo0, ↓ri0, ↓ro0, ↓ol0, ↓as0, ↓vi1, ↓vo1, ↓ri1, ↓ro1, ↓ol1, ↓as1, ↓vi2, ↓vo2, ↓ri2, ↓ro2, ↓ol2, ↓as2, ↓vi3, ↓vo3, ↓ri3, ↓ro3, ↓ol3, ↓as3, ↓vi4, ↓vo4, ↓ri4, ↓ro4, ↓ol4, ↓as4, ↓vi5, ↓vo5, ↓ri5, ↓ro5, ↓ol5, ↓as5, ↓vi6, ↓vo6, ↓ri6, ↓ro6, ↓ol6, ↓as6, ↓vi7, ↓vo7, ↓ri7, ↓ro7, ↓ol7, ↓as7, ↓vi8, ↓vo8, ↓ri8, ↓ro8, ↓ol8, ↓as8, ↓vi9, ↓vo9, ↓ri9, ↓ro9, ↓ol9, ↓as9, ↓vi10, ↓vo10, ↓ri10, ↓ro10, ↓ol10, ↓as10, ↓vi11, ↓vo11, ↓ri11, ↓ro11, ↓ol11, ↓as11, ↓vi12, ↓vo12, ↓ri12, ↓ro12, ↓ol12, ↓as12, ↓vi13, ↓vo13, ↓ri13, ↓ro13, ↓ol13, ↓as13, ↓vi14, ↓vo14, ↓ri14, ↓ro14, ↓ol14, ↓as14, ↓vi15, ↓vo15, ↓ri15, ↓ro15, ↓ol15, ↓as15, ↓vi16, ↓vo16, ↓ri16, ↓ro16, ↓ol16, ↓as16, ↓vi17, ↓vo17, ↓ri17, ↓ro17, ↓ol17, ↓as17, ↓vi18, ↓vo18, ↓ri18, ↓ro18, ↓ol18, ↓as18, ↓vi19, ↓vo19, ↓ri19, ↓ro19, ↓ol19, ↓as19, ↓vi20, ↓vo20, ↓ri20, ↓ro20, ↓ol20, ↓as20, ↓vi21, ↓vo21, ↓ri21, ↓ro21, ↓ol21, ↓as21, ↓vi22, ↓vo22, ↓ri22, ↓ro22, ↓ol22, ↓as22, ↓vi23, ↓vo23, ↓ri23, ↓ro23, ↓ol23, ↓as23, ↓vi24, ↓vo24, ↓ri24, ↓ro24, ↓ol24, ↓as24, ↓vi25, ↓vo25, ↓ri25, ↓ro25, ↓ol25, ↓as25, ↓at_s1, ↓at_s0, ↓at_w1, ↓at_w0, ↓mt_b, ↓mt_l, ↓mt_t, ↓mt_i,
  ↓e_c, ↓e_nil, ↓e_cons, ↓e_tup, ↓e_lst, ↓e_two1, ↓e_two2, ↓e_two3, ↓e_two4, ↓e_bin, ↓e_tbin, ↓e_chain, ↓e_and, ↓e_or, ↓e_not, ↓e_tru1, ↓e_tru2, ↓e_andV, ↓e_orV, ↓e_notV, ↓e_if, ↓e_call, ↓e_p0, ↓e_p1, ↓e_one1, ↓e_one2, ↓e_b1, ↓e_b2, ↓e_tb2, ↓e_sl1, ↓e_sl2, ↓e_append, ↓e_extend, ↓e_popAt, ↓e_yes, ↓e_join, ↓in_strL, ↓in_strT, ↓x_mulS, ↓e_new, ↓e_newV, ↓e_meth, ↓e_prop, ↓e_stat, ↓e_statI, ↓e_clsM, ↓e_evN, ↓e_evI, ↓e_evO, ↓e_boxNew,
  z0, z1, z2, h0, h1, h2, ↓bx0, ↓rgI, ↓sqL, ↓sqT, ↓sqR, ↓enL, ↓enT, ↓lsL, wipeD, e_var, v0, v1, r0, r1, o0, m0, at0, setD, startD, startI, dFldSet,
  List.map_cons, List.map_nil, List.replicate, List.cons_append, List.nil_append, List.length_cons, List.length_nil, List.getElem?_cons_zero, List.getElem?_cons_succ, List.getElem?_nil, List.set_cons_zero, List.set_cons_succ, List.set_nil, Nat.reduceAdd, Nat.reduceSub, Nat.sub_zero, Nat.sub_self, Nat.zero_add, Nat.add_zero,
  true_and, and_true, if_true, if_false, Bool.false_eq_true, Bool.not_true, Bool.not_false, Bool.not_eq_true, decide_true, decide_false, Bool.true_eq_false, reduceCtorEq, ite_true, ite_false, List.mem_cons, List.not_mem_nil, or_false, beq_self_eq_true, Nat.reduceLT, Nat.reduceLeDiff, Int.reduceLT, Int.reduceLE, Int.reduceAdd, Int.reduceSub, Int.reduceMul, Int.reducePow, Int.reduceToNat, Int.reduceEq, Int.reduceNeg, Int.reduceMod, Int.reduceDiv, Nat.reduceEqDiff, and_self, Bool.not_not,
  ↓x_bl, x_truB, x_truL, x_truT, x_truI, ↓x_eqI, ↓x_eqS, ↓x_eqB, ↓x_neI, ↓x_neS, ↓x_neB, ↓x_addI, ↓x_addL, ↓x_addT, ↓x_addS, ↓x_subI, ↓x_mulI, ↓x_modI, ↓x_fdivI, ↓x_powI, ↓x_lt, ↓x_le, ↓x_gt, ↓x_ge, ↓x_ltP, ↓x_leP, ↓x_gtP, ↓x_geP, ↓x_lenL, ↓x_lenT, ↓x_lenS, ↓x_tupL, ↓x_tupT, ↓x_lisL, ↓x_lisT, ↓x_rev, ↓x_intI, ↓x_intB, ↓x_abs, ↓x_min, ↓x_max, ↓x_is, ↓x_isNot, x_isN0, x_isN1, x_isN2, x_isN3, x_isN4, ↓x_nil, ↓x_nnil, ↓x_ix0, ↓x_ix1, ↓x_ix2, ↓x_ix3, ↓x_ix4, ↓x_ix5, ↓x_ix6, ↓x_ix7, ↓x_it0, ↓x_it1, ↓x_it2, ↓x_ixB, x_kn, x_ks, x_kt, ↓x_slL, ↓x_slT, ↓x_slS, ↓x_slR,
  ↓take_at, ↓mixed_at, ↓mixed_atT])

def sd__law_names : SpD := fun ds Q => ∃ a m, ds = [.box a, .int m] ∧ 0 ≤ m ∧ m ≤ 40 ∧ ∀ ss : List Str, (ss.length : Int) = m → ss.Nodup → (∀ s ∈ ss, isNm s) → Q (.lst (ss.map D.str))
theorem len__law_names (ds : List D) (Q : D → Prop) (h : sd__law_names ds Q) : ds.length = 2 := by obtain ⟨a, m, rfl, _⟩ := h; rfl
theorem names_at {a : Addr} {m : Int} {Q : D → Prop} : sd__law_names [.box a, .int m] Q = (0 ≤ m ∧ m ≤ 40 ∧ ∀ ss : List Str, (ss.length : Int) = m → ss.Nodup → (∀ s ∈ ss, isNm s) → Q (.lst (ss.map D.str))) := by
  rw [eq_iff_iff]
  constructor
  · rintro ⟨a', m', e, h⟩; cases e; exact h
  · exact fun h => ⟨a, m, rfl, h⟩
theorem join_at {ss : List Str} {Q : D → Prop} (h : (ss.map (·.length)).sum ≤ 1000) : joinD "" (.lst (ss.map D.str)) Q = Q (.str (Str.join "" ss)) := by
  rw [eq_iff_iff]
  have e : joinD "" (.lst (ss.map D.str)) Q = (match strsOf (ss.map D.str) with | some ss => (ss.map (·.length)).sum + ss.length * ("" : Str).length ≤ 16777216 ∧ Q (.str (Str.join "" ss)) | none => False) := rfl
  rw [e, strsOf_map]
  have z : ("" : Str).length = 0 := rfl
  exact ⟨fun h => h.2, fun h' => ⟨by rw [z]; omega, h'⟩⟩
theorem letters_of : ∀ {l : List D}, (∀ y ∈ l, ∃ k, k < 26 ∧ y = .str (lt1 k)) → ∃ ss : List Str, l = ss.map D.str ∧ ss.length = l.length ∧ (∀ s ∈ ss, s.length = 1) ∧ alpha (cs (Str.join "" ss)) ∧ (cs (Str.join "" ss)).length = l.length
  | [], _ => ⟨[], rfl, rfl, fun _ h => (nomatch h), fun _ h => (nomatch h), rfl⟩
  | d :: r, h => by
    obtain ⟨k, hk, rfl⟩ := h d List.mem_cons_self
    obtain ⟨ss, rfl, h2, h3, h4, h5⟩ := letters_of fun y hy => h y (List.mem_cons_of_mem _ hy)
    have e : cs (Str.join "" (lt1 k :: ss)) = cs (lt1 k) ++ cs (Str.join "" ss) := by rw [cs_join, cs_join]; rfl
    refine ⟨lt1 k :: ss, rfl, by simp, fun s hs => ?_, ?_, ?_⟩
    · rcases List.mem_cons.mp hs with rfl | hs
      · rfl
      · exact h3 s hs
    · rw [e]; exact alpha_app (alpha_lt1 hk) h4
    · rw [e, List.length_append, h5]; simp [cs_lt1]; omega
theorem letters_lt {ss : List Str} (h : ∀ y ∈ ss.map D.str, ∃ k, k < 25 ∧ y = .str (lt1 k)) : ∀ c ∈ cs (Str.join "" ss), c ≤ 121 := by
  intro c hc
  rw [cs_join] at hc
  obtain ⟨l, hl, hc⟩ := List.mem_flatten.mp hc
  obtain ⟨x, hx, rfl⟩ := List.mem_map.mp hl
  obtain ⟨k, hk, e⟩ := h (.str x) (List.mem_map.mpr ⟨x, hx, rfl⟩)
  injection e with e
  subst e
  rw [cs_lt1, List.mem_singleton] at hc
  omega
theorem ones_sum {ss : List Str} (h : ∀ s ∈ ss, s.length = 1) : (ss.map (·.length)).sum = ss.length := by
  induction ss with
  | nil => rfl
  | cons s r ih =>
    rw [List.map_cons, List.sum_cons, h s List.mem_cons_self, ih fun x hx => h x (List.mem_cons_of_mem _ hx), List.length_cons]; omega
abbrev N__law_names : List Str := ["_law_box_here", "_law_many", "_law_letters", "_law_words", "_law_stem", "_law_at", "_law_first", "_law_form", "_law_found", "_law_pairs", "_law_k", "_law_letter", "_law_long", "_law_ends", "_law_odd", "_law_some", "_law_word"]
theorem sc__law_names : FnScope N__law_names ["_law_box_here", "_law_many"] (defScope st__law_names) := ⟨rfl, rfl, rfl, by decide +kernel, rfl, by decide +kernel, by decide +kernel⟩
def t__law_names : TDS :=
  dSeq (dAsg (dC (.str "abcdefghijklmnopqrstuvwxyz")) 2)
  (dSeq (dAsg (dC (.lst (List.map D.str ["places", "edge", "rope", "party", "pull", "row", "undo", "show", "reach", "haul", "rest", "free", "nobody", "still", "length", "a"]))) 3)
  (dSeq (dAsg (dJoin (dC (.str "")) (dLc (iRange1 (dCall sd__law_take (dCons (dVar 0) (dCons (dC (.int 5)) (dNil))))) (dgName 10) (dYes) (dBin ixX (.sl 2) (.ex (dCall sd__law_take (dCons (dVar 0) (dCons (dC (.int 26)) (dNil)))))) [10])) 4)
  (dSeq (dPars [.im (dCall sd__law_take (dCons (dVar 0) (dCons (dBin addX (.ex (dB1 lenD (.sl 4))) (.ex (dC (.int 1)))) (dNil)))), .im (dCall sd__law_take (dCons (dVar 0) (dCons (dC (.int 26)) (dNil)))), .im (dCall sd__law_take (dCons (dVar 0) (dCons (dC (.int 5)) (dNil))))] [5, 6, 7])
  (dSeq (dPars [.ow (dLst (dNil)), .im (dCall sd__law_mixed (dCons (dVar 0) (dCons (dVar 3) (dNil)))), .ow (dLst (dCons (dC (.str "a")) (dCons (dC (.str "b")) (dNil))))] [8, 3, 9])
  (dSeq (dFor (iRange1 (dVar 1)) (dgName 10) (dSeq (dAsg (dBin addX (.ex (dBin ixX (.sl 2) (.ex (dBin modD (.ex (dBin addX (.sl 6) (.ex (dBin mulX (.ex (dC (.int 7))) (.sl 10))))) (.ex (dC (.int 26))))))) (.ex (dBin mulX (.ex (dBin ixX (.sl 2) (.ex (dBin fdivD (.sl 10) (.ex (dC (.int 26))))))) (.ex (dB1 intD (.ex (dBin (gtD) (.sl 10) (.ex (dC (.int 25)))))))))) 11)
  (dSeq (dDrop (dAppend 8 (dBin addX (.ex (dBin addX (.ex (dSl (.sl 4) (dP0) (dP1 (dVar 5)))) (.sl 11))) (.ex (dSl (.sl 4) (dP1 (dVar 5)) (dP0))))))
  (dDrop (dExtend 9 (dLst (dCons (dBin addX (.ex (dBin ixX (.sl 9) (.sl 10))) (.ex (dC (.str "a")))) (dCons (dBin addX (.ex (dBin ixX (.sl 9) (.sl 10))) (.ex (dC (.str "b")))) (dNil)))))))))
  (dSeq (dAsg (dJoin (dC (.str "")) (dLc (iRange1 (dC (.int 5))) (dgName 10) (dYes) (dBin ixX (.sl 2) (.ex (dCall sd__law_take (dCons (dVar 0) (dCons (dC (.int 25)) (dNil)))))) [10])) 12)
  (dSeq (dAsg (dLc (iRange1 (dB2 min2D (dVar 1) (dC (.int 26)))) (dgName 10) (dYes) (dBin addX (.sl 12) (.ex (dBin ixX (.sl 2) (.ex (dBin modD (.ex (dBin addX (.sl 6) (.ex (dBin mulX (.ex (dC (.int 7))) (.sl 10))))) (.ex (dC (.int 26)))))))) [10]) 13)
  (dSeq (dAsg (dBin addX (.ex (dLc (iSeq (dVar 3)) (dgName 16) (dtBin (inX true) (.sl 16) (.sl 8)) (dVar 16) [16])) (.sl 8)) 14)
  (dSeq (dAsg (dLst (dCons (dVar 14) (dCons (dVar 9) (dCons (dBin ixX (.ex (dLst (dCons (dVar 13) (dCons (dVar 8) (dNil))))) (.ex (dB1 intD (.ex (dBin (gtD) (.sl 1) (.ex (dC (.int 26)))))))) (dCons (dVar 8) (dCons (dVar 8) (dNil))))))) 15)
  (dRet (dCall sd__law_mixed (dCons (dVar 0) (dCons (dSl (.ex (dBin ixX (.sl 15) (.sl 7))) (dP0) (dP1 (dVar 1))) (dNil))))))))))))))
theorem pure__law_names (ds : List D) (Q : D → Prop) (h : sd__law_names ds Q) : t__law_names (ends Q) (startD 17 ds) := by
  obtain ⟨a, m, rfl, m0, m1, q⟩ := h
  obtain ⟨n, rfl⟩ := Int.eq_ofNat_of_zero_le m0
  unfold t__law_names
  walk_at "db"
  intro sl s0 s1
  refine ⟨⟨by omega, by omega⟩, ?_⟩
  refine lc_nd (fun y => ∃ k, k < 26 ∧ y = .str (lt1 k)) (by rw [rngD_len]; omega) (fun x hx K1 k1 => ?_) fun acc hl ha => ?_
  · walk_at "db"
    intro i i0 i1
    exact ix_abc i0 i1 (k1 _ ⟨i.toNat, by omega, rfl⟩)
  obtain ⟨ss, rfl, hl2, h1, hal, hlen⟩ := letters_of ha
  rw [rngD_len] at hl
  walk_at "db"
  rw [join_at (by rw [ones_sum h1, hl2, hl]; omega)]
  generalize Str.join "" ss = st at hal hlen
  walk_at "db"
  rw [List.length_map] at hlen hl
  have hst : st.length ≤ 4 := by rw [← cs_len]; omega
  refine ⟨le_line (by omega), by omega, by omega, fun at_ at0 at1 fi f0 f1 fo fo0 fo1 l' hp => ⟨⟨by omega, by omega⟩, ?_⟩⟩
  obtain ⟨w, rfl, wl, wm, wn⟩ := perm_strs (w := wds) hp
  obtain ⟨p, rfl⟩ := Int.eq_ofNat_of_zero_le at0
  obtain ⟨f, rfl⟩ := Int.eq_ofNat_of_zero_le f0
  rw [Int.toNat_natCast]
  have hn : n ≤ 40 := by omega
  have hst' : (cs st).length ≤ 4 := by rw [cs_len]; exact hst
  refine for_go (fun (i : Nat) (δ : DSt) => ∃ c10 c11 : Sl, δ = [.im (.box a), .im (.int n), .im (.str abc), .im (.lst (w.map D.str)), .im (.str st), .im (.int p), .im (.int f), .im (.int fo), .ow (.lst (((List.range i).map (fnd st p f)).map D.str)), .ow (.lst (((plist i).map mk).map D.str)), c10, c11, .no, .no, .no, .no, .no]) ⟨_, _, rfl⟩ ?_ ?_
  · rintro i d δ' hd ⟨c10, c11, rfl⟩
    obtain ⟨hi, rfl⟩ := rng_get hd
    walk_at "db"
    refine ⟨cm1 (by decide), ?_⟩
    refine ix_abc (Int.emod_nonneg _ (by decide)) (Int.emod_lt_of_pos _ (by decide)) ?_
    walk_at "db"
    refine ix_abc (by omega) (by omega) ?_
    walk_at "db"
    refine ⟨by split <;> simp, ?_⟩
    have hL : cs (lt1 ((f + 7 * i : Int) % 26).toNat ++ if (if decide (25 < (i : Int)) = true then (1 : Int) else 0) = 0 then Str.empty else lt1 ((i : Int) / 26).toNat) = tag f i := by
      have e1 : ((f + 7 * i : Int) % 26).toNat = (f + 7 * i) % 26 := by omega
      have e2 : ((i : Int) / 26).toNat = i / 26 := by omega
      rw [cs_app, e1, e2]
      unfold tag
      by_cases hi2 : i < 26
      · have : decide (25 < (i : Int)) = false := decide_eq_false (by omega)
        rw [this, if_pos hi2]
        rfl
      · have : decide (25 < (i : Int)) = true := decide_eq_true (by omega)
        rw [this, if_neg hi2]
        rfl
    have hLl := tag_len f i
    rw [← hL, cs_len] at hLl
    have hsum := Str.length_append (lt1 ((f + 7 * i : Int) % 26).toNat) (if (if decide (25 < (i : Int)) = true then (1 : Int) else 0) = 0 then Str.empty else lt1 ((i : Int) / 26).toNat)
    generalize (lt1 ((f + 7 * i : Int) % 26).toNat ++ if (if decide (25 < (i : Int)) = true then (1 : Int) else 0) = 0 then Str.empty else lt1 ((i : Int) / 26).toNat) = L at hL hLl hsum
    have l1 := cutS_len st none (some (p : Int))
    have l2 := cutS_len st (some (p : Int)) none
    have hfn : cutS st none (some (p : Int)) ++ L ++ cutS st (some (p : Int)) none = fnd st p f i := by
      refine str_ext ?_
      unfold fnd
      rw [cs_mk, cs_app, cs_app, cs_cut, cs_cut, hL, cut_to (by omega), cut_from (by omega), Int.toNat_natCast]
    refine ⟨le_line (by omega), le_line (by omega), le_line (by omega), le_line (by omega), le_line (by rw [Str.length_append]; omega), line_of (by simp; omega), ?_⟩
    obtain ⟨z, hz⟩ : ∃ z, (plist i)[i]? = some z := ⟨_, List.getElem?_eq_getElem (by rw [plist_len]; omega)⟩
    have hzl : z.length ≤ 6 := (plist_ok.2 z (by
      have hp2 := plist_pre (i := i) (j := 40) (by omega)
      obtain ⟨r, hr⟩ := hp2
      have : ((plist 40).take 40)[i]? = some z := by
        rw [List.getElem?_take_of_lt (by omega), ← hr, List.getElem?_append_left (by rw [plist_len]; omega)]; exact hz
      exact List.mem_of_getElem? this)).2.1
    have hz2 : (((plist i).map mk).map D.str)[i]? = some (.str (mk z)) := by rw [List.getElem?_map, List.getElem?_map, hz]; rfl
    rw [ixL_eq, atI_nat hz2]
    have hmz : (mk z).length ≤ 6 := by rw [← cs_len, cs_mk]; exact hzl
    walk_at "db"
    refine ⟨le_line (by show (mk z).length + 1 ≤ 1000; omega), ?_⟩
    rw [ixL_eq, atI_nat hz2]
    walk_at "db"
    refine ⟨le_line (by show (mk z).length + 1 ≤ 1000; omega), Nat.le_of_lt (line_of (by rw [List.length_map, List.length_map, plist_len]; omega)), .im (.int i), .im (.str L), ?_⟩
    have e3 : ((List.range (i + 1)).map (fnd st p f)).map D.str = ((List.range i).map (fnd st p f)).map D.str ++ [.str (fnd st p f i)] := by rw [List.range_succ, List.map_append, List.map_append]; rfl
    have e4 : ((plist (i + 1)).map mk).map D.str = ((plist i).map mk).map D.str ++ [.str (mk z ++ "a"), .str (mk z ++ "b")] := by
      have ez : (plist i).getD i [] = z := by rw [List.getD_eq_getElem?_getD, hz]; rfl
      have ea : mk (z ++ [97]) = mk z ++ "a" := str_ext (by rw [cs_mk, cs_app, cs_mk]; rfl)
      have eb : mk (z ++ [98]) = mk z ++ "b" := str_ext (by rw [cs_mk, cs_app, cs_mk]; rfl)
      rw [plist, ez, List.map_append, List.map_append, List.map_cons, List.map_cons, List.map_cons, ea, eb]; rfl
    rw [e3, e4, hfn]
  · rintro δ' ⟨c10, c11, rfl⟩
    rw [rngD_len]
    walk_at "db"
    refine lc_nd (fun y => ∃ k, k < 25 ∧ y = .str (lt1 k)) (by rw [rngD_len]; decide) (fun x hx K1 k1 => ?_) fun acc hl ha => ?_
    · walk_at "db"
      intro i i0 i1
      exact ix_abc i0 (by omega) (k1 _ ⟨i.toNat, by omega, rfl⟩)
    obtain ⟨ss2, rfl, hl3, h2, hal2, hlen2⟩ := letters_of fun y hy => let ⟨k, hk, e⟩ := ha y hy; ⟨k, by omega, e⟩
    have hlt := letters_lt ha
    rw [rngD_len] at hl
    have hl : (ss2.map D.str).length = 5 := hl
    walk_at "db"
    rw [join_at (by rw [ones_sum h2, hl3, hl]; omega)]
    generalize Str.join "" ss2 = lg at hal2 hlen2 hlt
    rw [hl] at hlen2
    walk_at "db"
    refine ⟨⟨by split <;> omega, by split <;> omega⟩, ?_⟩
    have hN : (if 26 < (n : Int) then (26 : Int) else n).toNat = min n 26 := by split <;> omega
    rw [hN]
    refine lc_m (List.range (min n 26)) (fun k => .int (0 + (k : Int))) (fun k => .str (mk (cs lg ++ [97 + (f + 7 * k) % 26]))) rfl (by simp; omega) (fun k hk K1 k1 => ?_) ?_
    · walk_at "db"
      refine ⟨cm1 (by decide), ?_⟩
      refine ix_abc (Int.emod_nonneg _ (by decide)) (Int.emod_lt_of_pos _ (by decide)) ?_
      walk_at "db"
      have e1 : ((f + 7 * (0 + (k : Int)) : Int) % 26).toNat = (f + 7 * k) % 26 := by omega
      rw [e1]
      have e2 : lg ++ lt1 ((f + 7 * k) % 26) = mk (cs lg ++ [97 + (f + 7 * k) % 26]) := str_ext (by rw [cs_mk, cs_app, cs_lt1])
      rw [e2]
      exact ⟨le_line (by show lg.length + 1 ≤ 1000; rw [← cs_len]; omega), k1⟩
    walk_at "db"
    refine lc_go w D.str (fun s => !decide (s ∈ (List.range n).map (fnd st p f))) D.str rfl (by rw [wl]; decide) (fun s hs K1 K2 k1 k2 => ?_) ?_
    · walk_at "db"
      exact if_b k1 k2
    walk_at "db"
    have fin : ∀ l : List Str, n ≤ l.length → (l.take n).Nodup → (∀ s ∈ l.take n, isNm s) → slD (.lst (l.map D.str)) none (some (n : Int)) fun z => sd__law_mixed [.box a, z] fun d => Q d := by
      intro l h1 h2 h3
      rw [x_slL, cut_to (by omega), Int.toNat_natCast, ← List.map_take, mixed_at]
      refine ⟨by rw [List.length_map, List.length_take]; omega, fun l' hp => ?_⟩
      obtain ⟨w', rfl, wl', wm', wn'⟩ := perm_strs hp
      refine q w' (by rw [wl', List.length_take]; omega) (wn' h2) fun s hs => h3 s ((wm' s).mp hs)
    have F1 : ((List.range n).map (fnd st p f)).Nodup := range_nodup fun k l hk hl e => fnd_inj (by omega) (by omega) e
    have F2 : ∀ s ∈ (List.range n).map (fnd st p f), isNm s := fun s hs => by
      obtain ⟨k, hk, rfl⟩ := List.mem_map.mp hs
      exact fnd_isNm (by have := List.mem_range.mp hk; omega) hal hst'
    have F3 : ((List.range n).map (fnd st p f)).length = n := by simp
    have FF := fin _ (by omega) (F1.sublist (List.take_sublist _ _)) fun s hs => F2 s (List.mem_of_mem_take hs)
    have O := fin ((w.filter fun s => !decide (s ∈ (List.range n).map (fnd st p f))) ++ (List.range n).map (fnd st p f)) (by rw [List.length_append]; omega)
      (List.Nodup.sublist (List.take_sublist _ _) (by
        rw [List.nodup_append]
        refine ⟨(wn wds_ok.1).sublist List.filter_sublist, F1, fun x hx y hy e => ?_⟩
        subst e
        have := (List.mem_filter.mp hx).2
        simp only [Bool.not_eq_true', decide_eq_false_iff_not] at this
        exact this hy)) fun s hs => by
        rcases List.mem_append.mp (List.mem_of_mem_take hs) with h | h
        · exact wds_isNm ((wm s).mp (List.mem_filter.mp h).1)
        · exact F2 s h
    have Pp : ((plist n).map mk).take n = (((plist 40).take 40).map mk).take n := by
      rw [← List.map_take, ← List.map_take, List.take_take, Nat.min_eq_left hn]
      obtain ⟨r, hr⟩ := plist_pre (i := n) (j := 40) hn
      rw [← hr, List.take_append_of_le_length (by rw [plist_len]; omega)]
    have P := fin ((plist n).map mk) (by rw [List.length_map, plist_len]; omega) (by
        rw [Pp]
        refine List.Nodup.sublist (List.take_sublist _ _) ?_
        rw [List.nodup_iff_pairwise_ne, List.pairwise_map]
        exact (List.nodup_iff_pairwise_ne.mp plist_ok.1).imp fun h e => h (mk_inj e)) fun s hs => by
        rw [Pp] at hs
        obtain ⟨z, hz, rfl⟩ := List.mem_map.mp (List.mem_of_mem_take hs)
        have := plist_ok.2 z hz
        exact ⟨⟨by rw [cs_mk]; exact this.1, by rw [cs_mk]; exact this.2.1, by rw [cs_mk]; exact this.2.2⟩, by rw [cs_mk]; exact plist_nz z hz⟩
    refine ⟨Nat.le_of_lt (line_of (by
      have := List.length_filter_le (fun s => !decide (s ∈ (List.range n).map (fnd st p f))) w
      rw [List.length_map, List.length_map, F3]
      have : wds.length = 16 := rfl
      omega)), ?_⟩
    have last : ∀ z, (slD z none (some (n : Int)) fun z => sd__law_mixed [.box a, z] fun d => Q d) → ixX (.lst [.lst ((w.filter fun s => !decide (s ∈ (List.range n).map (fnd st p f))).map D.str ++ ((List.range n).map (fnd st p f)).map D.str), .lst (((plist n).map mk).map D.str), z, .lst (((List.range n).map (fnd st p f)).map D.str), .lst (((List.range n).map (fnd st p f)).map D.str)]) (.int fo) fun z => slD z none (some (n : Int)) fun z => sd__law_mixed [.box a, z] fun d => Q d := by
      intro z hz
      rw [← List.map_append]
      have : fo = 0 ∨ fo = 1 ∨ fo = 2 ∨ fo = 3 ∨ fo = 4 := by omega
      rcases this with rfl | rfl | rfl | rfl | rfl
      · rw [x_ix0]; exact O
      · rw [x_ix1]; exact P
      · rw [x_ix2]; exact hz
      · rw [x_ix3]; exact FF
      · rw [x_ix4]; exact FF
    by_cases h26 : 26 < n
    · have : decide (26 < (n : Int)) = true := decide_eq_true (by omega)
      rw [this, if_pos rfl, x_ix1]
      exact last _ FF
    · have : decide (26 < (n : Int)) = false := decide_eq_false (by omega)
      rw [this, if_neg Bool.false_ne_true, x_ix0]
      refine last _ ?_
      have hm : min n 26 = n := by omega
      rw [hm]
      have e5 : (List.range n).map (fun k => D.str (mk (cs lg ++ [97 + (f + 7 * k) % 26]))) = ((List.range n).map fun k => mk (cs lg ++ [97 + (f + 7 * k) % 26])).map D.str := by rw [List.map_map]; rfl
      rw [e5]
      refine fin _ (by simp) (List.Nodup.sublist (List.take_sublist _ _) (range_nodup fun k l hk hl e => ?_)) fun s hs => ?_
      · have := List.append_cancel_left (mk_inj e)
        simp only [List.cons.injEq, and_true] at this
        omega
      · obtain ⟨k, hk, rfl⟩ := List.mem_map.mp (List.mem_of_mem_take hs)
        refine ⟨⟨by rw [cs_mk]; simp, by rw [cs_mk, List.length_append, hlen2]; simp, ?_⟩, ?_⟩
        · rw [cs_mk]
          exact alpha_app hal2 fun c hc => by rw [List.mem_singleton] at hc; omega
        · rw [cs_mk]
          intro z
          cases hlg : cs lg with
          | nil => rw [hlg] at hlen2; simp at hlen2
          | cons c r =>
            have := hlt c (by rw [hlg]; exact List.mem_cons_self)
            rw [hlg] at z
            unfold zz6 at z
            simp only [List.cons_append, List.cons.injEq] at z
            omega

local macro_rules | `(tactic| walk_at "dw") => `(tactic| try simp only [↓s_next, ↓s_seq, ↓s_sto, ↓s_drop, ↓s_ret, ↓s_if, ↓s_never, ↓s_asg, ↓s_asgO, ↓s_pars, ↓s_great, ↓g_name, ↓g_nil, ↓g_cons, ↓g_seqT, ↓g_seqL, ↓g_box, ↓for_eq, ↓lc_eq, ↓dc_eq, ↓i_seq, ↓i_enum, ↓i_range1,
  ↓vi0, ↓vo0, ↓ri0, ↓ro0, ↓ol0, ↓as0, ↓vi1, ↓vo1, ↓ri1, ↓ro1, ↓ol1, ↓as1, ↓vi2, ↓vo2, ↓ri2, ↓ro2, ↓ol2, ↓as2, ↓vi3, ↓vo3, ↓ri3, ↓ro3, ↓ol3, ↓as3, ↓vi4, ↓vo4, ↓ri4, ↓ro4, ↓ol4, ↓as4, ↓vi5, ↓vo5, ↓ri5, ↓ro5, ↓ol5, ↓as5, ↓vi6, ↓vo6, ↓ri6, ↓ro6, ↓ol6, ↓as6, ↓vi7, ↓vo7, ↓ri7, ↓ro7, ↓ol7, ↓as7, ↓vi8, ↓vo8, ↓ri8, ↓ro8, ↓ol8, ↓as8, ↓vi9, ↓vo9, ↓ri9, ↓ro9, ↓ol9, ↓as9, ↓vi10, ↓vo10, ↓ri10, ↓ro10, ↓ol10, ↓as10, ↓vi11, ↓vo11, ↓ri11, ↓ro11, ↓ol11, ↓as11, ↓vi12, ↓vo12, ↓ri12, ↓ro12, ↓ol12, ↓as12, ↓vi13, ↓vo13, ↓ri13, ↓ro13, ↓ol13, ↓as13, ↓vi14, ↓vo14, ↓ri14, ↓ro14, ↓ol14, ↓as14, ↓vi15, ↓vo15, ↓ri15, ↓ro15, ↓ol15, ↓as15, ↓vi16, ↓vo16, ↓ri16, ↓ro16, ↓ol16, ↓as16, ↓vi17, ↓vo17, ↓ri17, ↓ro17, ↓ol17, ↓as17, ↓vi18, ↓vo18, ↓ri18, ↓ro18, ↓ol18, ↓as18, ↓vi19, ↓vo19, ↓ri19, ↓ro19, ↓ol19, ↓as19, ↓vi20, ↓vo20, ↓ri20, ↓ro20, ↓ol20, ↓as20, ↓vi21, ↓vo21, ↓ri21, ↓ro21, ↓ol21, ↓as21, ↓vi22, ↓vo22, ↓ri22, ↓ro22, ↓ol22, ↓as22, ↓vi23, ↓vo23, ↓ri23, ↓ro23, ↓ol23, ↓as23, ↓vi24, ↓vo24, ↓ri24, ↓ro24, ↓ol24, ↓as24, ↓vi25, ↓vo25, ↓ri25, ↓ro25, ↓ol25, ↓as25, ↓at_s1, ↓at_s0, ↓at_w1, ↓at_w0, ↓mt_b, ↓mt_l, ↓mt_t, ↓mt_i,
  ↓e_c, ↓e_nil, ↓e_cons, ↓e_tup, ↓e_lst, ↓e_two1, ↓e_two2, ↓e_two3, ↓e_two4, ↓e_bin, ↓e_tbin, ↓e_chain, ↓e_and, ↓e_or, ↓e_not, ↓e_tru1, ↓e_tru2, ↓e_andV, ↓e_orV, ↓e_notV, ↓e_if, ↓e_call, ↓e_p0, ↓e_p1, ↓e_one1, ↓e_one2, ↓e_b1, ↓e_b2, ↓e_tb2, ↓e_sl1, ↓e_sl2, ↓e_append, ↓e_extend, ↓e_popAt, ↓e_yes, ↓e_join, ↓in_strL, ↓in_strT, ↓x_mulS, ↓e_new, ↓e_newV, ↓e_meth, ↓e_prop, ↓e_stat, ↓e_statI, ↓e_clsM, ↓e_evN, ↓e_evI, ↓e_evO, ↓e_boxNew,
  z0, z1, z2, h0, h1, h2, ↓bx0, ↓rgI, ↓sqL, ↓sqT, ↓sqR, ↓enL, ↓enT, ↓lsL, wipeD, e_var, v0, v1, r0, r1, o0, m0, at0, setD, startD, startI, dFldSet,
  List.map_cons, List.map_nil, List.replicate, List.cons_append, List.nil_append, List.length_cons, List.length_nil, List.getElem?_cons_zero, List.getElem?_cons_succ, List.getElem?_nil, List.set_cons_zero, List.set_cons_succ, List.set_nil, Nat.reduceAdd, Nat.reduceSub, Nat.sub_zero, Nat.sub_self, Nat.zero_add, Nat.add_zero,
  true_and, and_true, if_true, if_false, Bool.false_eq_true, Bool.not_true, Bool.not_false, Bool.not_eq_true, decide_true, decide_false, Bool.true_eq_false, reduceCtorEq, ite_true, ite_false, List.mem_cons, List.not_mem_nil, or_false, beq_self_eq_true, Nat.reduceLT, Nat.reduceLeDiff, Int.reduceLT, Int.reduceLE, Int.reduceAdd, Int.reduceSub, Int.reduceMul, Int.reducePow, Int.reduceToNat, Int.reduceEq, Int.reduceNeg, Int.reduceMod, Int.reduceDiv, Nat.reduceEqDiff, and_self, Bool.not_not,
  ↓x_bl, x_truB, x_truL, x_truT, x_truI, ↓x_eqI, ↓x_eqS, ↓x_eqB, ↓x_neI, ↓x_neS, ↓x_neB, ↓x_addI, ↓x_addL, ↓x_addT, ↓x_addS, ↓x_subI, ↓x_mulI, ↓x_modI, ↓x_fdivI, ↓x_powI, ↓x_lt, ↓x_le, ↓x_gt, ↓x_ge, ↓x_ltP, ↓x_leP, ↓x_gtP, ↓x_geP, ↓x_lenL, ↓x_lenT, ↓x_lenS, ↓x_tupL, ↓x_tupT, ↓x_lisL, ↓x_lisT, ↓x_rev, ↓x_intI, ↓x_intB, ↓x_abs, ↓x_min, ↓x_max, ↓x_is, ↓x_isNot, x_isN0, x_isN1, x_isN2, x_isN3, x_isN4, ↓x_nil, ↓x_nnil, ↓x_ix0, ↓x_ix1, ↓x_ix2, ↓x_ix3, ↓x_ix4, ↓x_ix5, ↓x_ix6, ↓x_ix7, ↓x_it0, ↓x_it1, ↓x_it2, ↓x_ixB, x_kn, x_ks, x_kt, ↓x_slL, ↓x_slT, ↓x_slS, ↓x_slR,
  ↓s_aug, ↓g_put, ↓g_item, ↓e_callB, ↓e_disp, ↓e_ps0, ↓e_ps1, ↓i_str, ↓i_range2, ↓e_get2, ↓e_step, ↓x_step, ↓e_f1, ↓e_fstr, ↓e_fs0, ↓e_fs1, ↓e_fs2, ↓x_repr, ↓x_strI, ↓x_strS, ↓x_onStr, ↓x_onInt, ↓oa0, ↓od0, ↓oa1, ↓od1, ↓oa2, ↓od2, ↓oa3, ↓od3, ↓oa4, ↓od4, ↓oa5, ↓od5, ↓oa6, ↓od6, ↓oa7, ↓od7, ↓oa8, ↓od8, ↓oa9, ↓od9, ↓oa10, ↓od10, ↓oa11, ↓od11, ↓oa12, ↓od12, h3, h4, x_ko0, x_ko1, x_ko2, ↓x_ixK, ↓x_ixZ, ↓x_inK, ↓x_listK, ↓x_listZ, ↓x_listT, ↓x_isS, ↓x_isT, ↓x_inS, ↓g_ed, ↓in_ed, ↓word_at, ↓fld_places, ↓fld_edges, ↓fld_near, ↓fld_gaps, ↓isi_tree, ins_tree, ↓take_at, ↓mixed_at, ↓mixed_atT, ↓names_at])

def sd__law_tree : SpD := fun ds Q => ∃ a m, ds = [.box a, .int m] ∧ 1 ≤ m ∧ m ≤ 40 ∧ ∀ (ps : List Str) (es : List Ed), IsTree ps es → (∀ p ∈ ps, isNm p) → Q (.tup [dps ps, des es])
theorem len__law_tree (ds : List D) (Q : D → Prop) (h : sd__law_tree ds Q) : ds.length = 2 := by obtain ⟨a, m, rfl, _⟩ := h; rfl
theorem tree_at {a : Addr} {m : Int} {Q : D → Prop} : sd__law_tree [.box a, .int m] Q = (1 ≤ m ∧ m ≤ 40 ∧ ∀ (ps : List Str) (es : List Ed), IsTree ps es → (∀ p ∈ ps, isNm p) → Q (.tup [dps ps, des es])) := by
  rw [eq_iff_iff]
  exact ⟨fun ⟨_, _, e, h⟩ => by cases e; exact h, fun h => ⟨a, m, rfl, h⟩⟩
/-- edges that hang the first names together -/
structure Hang (ss : List Str) (j : Nat) (es : List Ed) : Prop where
  len : es.length = j
  ends : ∀ e ∈ es, e.1 ∈ ss ∧ e.2 ∈ ss
  conn : ∀ g : Str → Str, (∀ e ∈ es, g e.1 = g e.2) → ∀ i x y, i ≤ j → ss[i]? = some x → ss[0]? = some y → g x = g y
theorem Hang.zero (ss : List Str) : Hang ss 0 [] := ⟨rfl, (fun _ h => nomatch h), fun g _ i x y hi hx hy => by
  have : i = 0 := by omega
  subst this
  rw [hx] at hy
  cases hy
  rfl⟩
theorem Hang.add {ss : List Str} {j a : Nat} {es : List Ed} {x y : Str} (H : Hang ss j es) (ha : a ≤ j) (hx : ss[j + 1]? = some x) (hy : ss[a]? = some y) {e : Ed} (he : e = (x, y) ∨ e = (y, x)) : Hang ss (j + 1) (es ++ [e]) where
  len := by rw [List.length_append, H.len]; rfl
  ends := fun z hz => by
    rcases List.mem_append.mp hz with h | h
    · exact H.ends z h
    · rw [List.mem_singleton] at h
      subst h
      rcases he with rfl | rfl
      · exact ⟨List.mem_of_getElem? hx, List.mem_of_getElem? hy⟩
      · exact ⟨List.mem_of_getElem? hy, List.mem_of_getElem? hx⟩
  conn := fun g hg i u v hi hu hv => by
    have hg' : ∀ e ∈ es, g e.1 = g e.2 := fun z hz => hg z (List.mem_append_left _ hz)
    by_cases hij : i ≤ j
    · exact H.conn g hg' i u v hij hu hv
    · have : i = j + 1 := by omega
      subst this
      rw [hx] at hu
      cases hu
      have h1 := hg e (List.mem_append_right _ (List.mem_singleton.mpr rfl))
      have h2 := H.conn g hg' a y v ha hy hv
      rcases he with rfl | rfl
      · exact h1.trans h2
      · exact h1.symm.trans h2
theorem Hang.tree {ss : List Str} {es : List Ed} {n : Nat} (H : Hang ss n es) (hl : ss.length = n + 1) (hn : ss.length ≤ 40) (nd : ss.Nodup) (hw : ∀ s ∈ ss, isW s) : IsTree ss es where
  nd := nd
  wd := hw
  lo := by omega
  hi := hn
  ends := H.ends
  len := by rw [H.len, hl]
  conn := fun g hg p hp q hq => by
    obtain ⟨i, hi, e1⟩ := List.mem_iff_getElem.mp hp
    obtain ⟨j, hj, e2⟩ := List.mem_iff_getElem.mp hq
    have h0 : ss[0]? = some ss[0] := List.getElem?_eq_getElem (by omega)
    have a1 := H.conn g hg i p ss[0] (by omega) (by rw [List.getElem?_eq_getElem hi, e1]) h0
    have a2 := H.conn g hg j q ss[0] (by omega) (by rw [List.getElem?_eq_getElem hj, e2]) h0
    exact a1.trans a2.symm
theorem perm_eds {l : List D} {es : List Ed} (h : l.Perm (es.map edD)) : ∃ es' : List Ed, l = es'.map edD ∧ es'.Perm es := by
  have key : ∀ l : List D, (∀ d ∈ l, ∃ e : Ed, d = edD e) → ∃ w : List Ed, l = w.map edD := by
    intro l
    induction l with
    | nil => exact fun _ => ⟨[], rfl⟩
    | cons d r ih =>
      intro h
      obtain ⟨o, rfl⟩ := h d List.mem_cons_self
      obtain ⟨w, rfl⟩ := ih fun x hx => h x (List.mem_cons_of_mem _ hx)
      exact ⟨o :: w, rfl⟩
  obtain ⟨w, rfl⟩ := key l fun d hd => by
    obtain ⟨e, _, rfl⟩ := List.mem_map.mp (h.mem_iff.mp hd)
    exact ⟨e, rfl⟩
  refine ⟨w, rfl, ?_⟩
  have unE : ∀ e : Ed, (match edD e with | .tup [.str a, .str b] => (a, b) | _ => (("" : Str), ("" : Str))) = e := fun e => rfl
  have h2 := h.map fun d => (match d with | .tup [.str a, .str b] => (a, b) | _ => (("" : Str), ("" : Str)))
  rw [List.map_map, List.map_map] at h2
  have e : ((fun d => (match d with | D.tup [.str a, .str b] => (a, b) | _ => (("" : Str), ("" : Str)))) ∘ edD) = id := by funext e; rfl
  rw [e, List.map_id, List.map_id] at h2
  exact h2
theorem perm_txt {l : List D} {ss : List Str} (h : l.Perm (ss.map D.str)) : ∃ ss' : List Str, l = ss'.map D.str ∧ ss'.Perm ss := by
  obtain ⟨w, rfl, wl, wm, wn⟩ := perm_strs h
  refine ⟨w, rfl, ?_⟩
  have h2 := h.map fun d => (match d with | D.str a => a | _ => ("" : Str))
  rw [List.map_map, List.map_map] at h2
  have e : ((fun d => (match d with | D.str a => a | _ => ("" : Str))) ∘ D.str) = id := by funext e; rfl
  rw [e, List.map_id, List.map_id] at h2
  exact h2
theorem rng_get1 {N j : Nat} {d : D} (h : (rngD 1 N)[j]? = some d) : j < N ∧ d = .int (1 + (j : Int)) := by
  have hj := lt_of_get h
  rw [rngD_len] at hj
  unfold rngD at h
  rw [List.getElem?_map, List.getElem?_range hj] at h
  cases h
  exact ⟨hj, rfl⟩
abbrev N__law_tree : List Str := ["_law_box_here", "_law_most", "_law_many", "_law_form", "_law_places", "_law_edges", "_law_k", "_law_above"]
theorem sc__law_tree : FnScope N__law_tree ["_law_box_here", "_law_most"] (defScope st__law_tree) := ⟨rfl, rfl, rfl, by decide +kernel, rfl, by decide +kernel, by decide +kernel⟩
def t__law_tree : TDS :=
  dSeq (dPars [.im (dBin addX (.ex (dC (.int 1))) (.ex (dCall sd__law_take (dCons (dVar 0) (dCons (dVar 1) (dNil)))))), .im (dCall sd__law_take (dCons (dVar 0) (dCons (dC (.int 5)) (dNil))))] [2, 3])
  (dSeq (dPars [.im (dCall sd__law_names (dCons (dVar 0) (dCons (dVar 2) (dNil)))), .ow (dLst (dNil))] [4, 5])
  (dSeq (dFor (iRange2 (dC (.int 1)) (dVar 2)) (dgName 6) (dSeq (dAsg (dBin ixX (.ex (dLst (dCons (dCall sd__law_take (dCons (dVar 0) (dCons (dVar 6) (dNil)))) (dCons (dCall sd__law_take (dCons (dVar 0) (dCons (dVar 6) (dNil)))) (dCons (dBin subD (.sl 6) (.ex (dC (.int 1)))) (dCons (dC (.int 0)) (dCons (dB2 max2D (dC (.int 0)) (dBin subD (.ex (dBin subD (.sl 6) (.ex (dC (.int 1))))) (.ex (dCall sd__law_take (dCons (dVar 0) (dCons (dC (.int 3)) (dNil))))))) (dNil)))))))) (.sl 3)) 7)
  (dDrop (dAppend 5 (dBin ixX (.ex (dLst (dCons (dTup (dCons (dBin ixX (.sl 4) (.sl 6)) (dCons (dBin ixX (.sl 4) (.sl 7)) (dNil)))) (dCons (dTup (dCons (dBin ixX (.sl 4) (.sl 7)) (dCons (dBin ixX (.sl 4) (.sl 6)) (dNil)))) (dNil))))) (.ex (dCall sd__law_take (dCons (dVar 0) (dCons (dC (.int 2)) (dNil))))))))))
  (dRet (dTup (dCons (dB1 tupleD (.ex (dCall sd__law_mixed (dCons (dVar 0) (dCons (dVar 4) (dNil)))))) (dCons (dB1 tupleD (.ex (dCall sd__law_mixed (dCons (dVar 0) (dCons (dVar 5) (dNil)))))) (dNil)))))))
theorem pure__law_tree (ds : List D) (Q : D → Prop) (h : sd__law_tree ds Q) : t__law_tree (ends Q) (startD 8 ds) := by
  obtain ⟨a, m, rfl, m1, m2, q⟩ := h
  unfold t__law_tree
  walk_at "dw"
  refine ⟨by omega, by omega, fun n n0 n1 fo f0 f1 => ?_⟩
  refine ⟨by omega, by omega, fun ss hl nd hw => ?_⟩
  walk_at "dw"
  obtain ⟨N, rfl⟩ := Int.eq_ofNat_of_zero_le n0
  have hl : ss.length = N + 1 := by omega
  refine ⟨⟨by omega, by omega⟩, ?_⟩
  refine for_go (fun (j : Nat) (δ : DSt) => ∃ es c6 c7, δ = [.im (.box a), .im (.int m), .im (.int (1 + (N : Int))), .im (.int fo), .im (.lst (ss.map D.str)), .ow (.lst (es.map edD)), c6, c7] ∧ Hang ss j es) ⟨[], _, _, rfl, Hang.zero ss⟩ ?_ ?_
  · rintro j d δ' hd ⟨es, c6, c7, rfl, H⟩
    obtain ⟨hj, rfl⟩ := rng_get1 hd
    have hj : j < N := by omega
    have hlen := H.len
    walk_at "dw"
    refine ⟨by omega, by omega, fun t1 t10 t11 => ⟨by omega, by omega, fun t2 t20 t21 t3 t30 t31 => ?_⟩⟩
    rw [ixL_eq]
    obtain ⟨x, h1, h2⟩ := at_of (xs := [D.int t1, .int t2, .int (1 + (j : Int) - 1), .int 0, .int (if 1 + (j : Int) - 1 - t3 > 0 then 1 + (j : Int) - 1 - t3 else 0)]) f0 (by show fo < 5; omega)
    have hx : ∃ b : Nat, b ≤ j ∧ x = .int (b : Int) := by
      have := List.mem_of_getElem? h1
      simp only [List.mem_cons, List.not_mem_nil, or_false] at this
      rcases this with rfl | rfl | rfl | rfl | rfl
      · exact ⟨t1.toNat, by omega, by congr 1; omega⟩
      · exact ⟨t2.toNat, by omega, by congr 1; omega⟩
      · exact ⟨j, by omega, by congr 1; omega⟩
      · exact ⟨0, by omega, rfl⟩
      · refine ⟨(if 1 + (j : Int) - 1 - t3 > 0 then 1 + (j : Int) - 1 - t3 else 0).toNat, ?_, ?_⟩
        · split <;> omega
        · congr 1; split <;> omega
    rw [h2]
    obtain ⟨b, hb, rfl⟩ := hx
    obtain ⟨x, hx⟩ : ∃ x, ss[j + 1]? = some x := ⟨_, List.getElem?_eq_getElem (by omega)⟩
    obtain ⟨y, hy⟩ : ∃ y, ss[b]? = some y := ⟨_, List.getElem?_eq_getElem (by omega)⟩
    have ex : atI (ss.map D.str) (1 + (j : Int)) = some (.str x) := by
      rw [show (1 + (j : Int)) = ((j + 1 : Nat) : Int) from by omega]
      exact atI_nat (by rw [List.getElem?_map, hx]; rfl)
    have ey : atI (ss.map D.str) (b : Int) = some (.str y) := atI_nat (by rw [List.getElem?_map, hy]; rfl)
    show ixX _ _ _
    rw [ixL_eq, ex]
    show ixX _ _ _
    rw [ixL_eq, ey]
    show ixX _ _ _
    rw [ixL_eq, ey]
    show ixX _ _ _
    rw [ixL_eq, ex]
    intro z z0 z1
    have fin : ∀ e : Ed, (e = (x, y) ∨ e = (y, x)) → (es.map edD).length < sizeLine ∧ ∃ es_1 c6 c7, [Sl.im (D.box a), Sl.im (D.int m), Sl.im (D.int (1 + (N : Int))), Sl.im (D.int fo), Sl.im (D.lst (ss.map D.str)), Sl.ow (D.lst (es.map edD ++ [edD e])), Sl.im (D.int (1 + (j : Int))), Sl.im (.int (b : Int))] = [Sl.im (D.box a), Sl.im (D.int m), Sl.im (D.int (1 + (N : Int))), Sl.im (D.int fo), Sl.im (D.lst (ss.map D.str)), Sl.ow (D.lst (List.map edD es_1)), c6, c7] ∧ Hang ss (j + 1) es_1 :=
      fun e he => ⟨line_of (by rw [List.length_map]; omega), es ++ [e], _, _, by rw [List.map_append]; rfl, H.add hb hx hy he⟩
    have hz : z = 0 ∨ z = 1 := by omega
    rcases hz with rfl | rfl
    · rw [x_ix0]; exact fin (x, y) (.inl rfl)
    · rw [x_ix1]; exact fin (y, x) (.inr rfl)
  · rintro δ' ⟨es, c6, c7, rfl, H⟩
    rw [rngD_len] at H
    have hN : (1 + (N : Int) - 1).toNat = N := by omega
    rw [hN] at H
    have t := H.tree hl (by omega) nd fun s h => (hw s h).1
    have hle := H.len
    walk_at "dw"
    refine ⟨by rw [List.length_map]; omega, fun l' hp => ?_⟩
    obtain ⟨ps, rfl, hps⟩ := perm_txt hp
    walk_at "dw"
    refine ⟨by rw [List.length_map]; omega, fun l' hp => ?_⟩
    obtain ⟨es', rfl, hes⟩ := perm_eds hp
    walk_at "dw"
    exact q ps es' (t.perm hps (fun e => by rw [hes.mem_iff, hes.mem_iff]) hes.length_eq) fun p hp => hw p (hps.mem_iff.mp hp)
/-! the law's own search -/
def nrL (ps : List Str) (es : List Ed) : List (Key × D) := ps.map fun p => (kS p, .lst ((nbs ps es p).map D.str))
theorem nrl_look {ps : List Str} {es : List Ed} {p : Str} (h : p ∈ ps) : lookD (nrL ps es) (kS p) = some (.lst ((nbs ps es p).map D.str)) := by
  unfold nrL
  rw [look_map (v := fun p => D.lst ((nbs ps es p).map D.str)), if_pos h]
def sd__law_near : SpD := fun ds Q => ∃ (ps : List Str) (es : List Ed), ds = [dps ps, des es] ∧ ps.Nodup ∧ ps.length ≤ 40 ∧ Q (.dct (nrL ps es))
theorem len__law_near (ds : List D) (Q : D → Prop) (h : sd__law_near ds Q) : ds.length = 2 := by obtain ⟨a, m, rfl, _⟩ := h; rfl
abbrev N__law_near : List Str := ["_law_places", "_law_edges", "_law_found", "_law_place", "_law_other"]
theorem sc__law_near : FnScope N__law_near ["_law_places", "_law_edges"] (defScope st__law_near) := ⟨rfl, rfl, rfl, by decide +kernel, rfl, by decide +kernel, by decide +kernel⟩
def t__law_near : TDS :=
  dSeq (dAsgO (fun δ Q => Q (.dct []) δ) 2)
  (dSeq (dFor (iSeq (dVar 0)) (dgName 3) (dSto (dLc (iSeq (dVar 0)) (dgName 4) (dOr (dtBin (inX false) (.ex (dTup (dCons (dVar 3) (dCons (dVar 4) (dNil))))) (.sl 1)) (dtBin (inX false) (.ex (dTup (dCons (dVar 4) (dCons (dVar 3) (dNil))))) (.sl 1))) (dVar 4) [4]) (dgPut 2 (dVar 3))))
  (dRet (dVar 2)))
theorem pure__law_near (ds : List D) (Q : D → Prop) (h : sd__law_near ds Q) : t__law_near (ends Q) (startD 5 ds) := by
  obtain ⟨ps, es, rfl, nd, hl, q⟩ := h
  unfold t__law_near dps des
  walk_at "dw"
  refine for_go (fun (j : Nat) (δ : DSt) => ∃ c3 c4, δ = [.im (.tup (ps.map D.str)), .im (.tup (es.map edD)), .ow (.dct ((ps.take j).map fun p => (kS p, .lst ((nbs ps es p).map D.str)))), c3, c4]) ⟨_, _, rfl⟩ ?_ ?_
  · rintro j d δ' hd ⟨c3, c4, rfl⟩
    rw [List.getElem?_map] at hd
    cases hp : ps[j]? with
    | none => rw [hp] at hd; cases hd
    | some p =>
      rw [hp] at hd
      cases hd
      walk_at "dw"
      refine lc_go ps D.str (fun x => adj es p x) D.str rfl (by omega) (fun x hx K1 K2 k1 k2 => ?_) ?_
      · walk_at "dw"
        have e : adj es p x = (decide ((p, x) ∈ es) || decide ((x, p) ∈ es)) := rfl
        cases h1 : decide ((p, x) ∈ es) with
        | true => exact if_t rfl (k1 (by rw [e, h1]; rfl))
        | false =>
          refine if_f rfl ?_
          refine if_b (fun h2 => k1 (by rw [e, h1, h2]; rfl)) (fun h2 => k2 (by rw [e, h1, h2]; rfl))
      · walk_at "dw"
        rw [x_putK (by rw [List.length_map, List.length_take]; omega), put_new (v := fun p => D.lst ((nbs ps es p).map D.str)) (take_nodup nd hp)]
        walk_at "dw"
        refine ⟨.im (.str p), .no, ?_⟩
        rw [List.take_succ, hp]
        simp only [Option.toList_some, List.map_append, List.map_cons, List.map_nil]
        rfl
  · rintro δ' ⟨c3, c4, rfl⟩
    rw [List.length_map, List.take_length]
    walk_at "dw"
    exact q

def sd__law_gaps : SpD := fun ds Q => ∃ (ps : List Str) (es : List Ed) (s : Str), ds = [.dct (nrL ps es), .str s] ∧ IsTree ps es ∧ s ∈ ps ∧ ∀ (w : List Str) (f : Str → Int), Far ps es s w f → Q (.dct (gD w f))
theorem len__law_gaps (ds : List D) (Q : D → Prop) (h : sd__law_gaps ds Q) : ds.length = 2 := by obtain ⟨a, b, c, rfl, _⟩ := h; rfl
def muL (n : Nat) : DSt → Nat
  | [_, _, .ow (.dct k), .im (.lst l), _, _, _] => 2 * (n - k.length) + (if l.length = 0 then 0 else 1)
  | _ => 0
abbrev N__law_gaps : List Str := ["_law_near_here", "_law_start", "_law_found", "_law_layer", "_law_later", "_law_place", "_law_other"]
theorem sc__law_gaps : FnScope N__law_gaps ["_law_near_here", "_law_start"] (defScope st__law_gaps) := ⟨rfl, rfl, rfl, by decide +kernel, rfl, by decide +kernel, by decide +kernel⟩
def t__law_gaps : TDS :=
  dSeq (dPars [.ow (dDisp [(dVar 1, dC (.int 0))]), .im (dLst (dCons (dVar 1) (dNil)))] [2, 3])
  (dSeq (dWhile (dtBin (gtD) (.ex (dB1 lenD (.sl 3))) (.ex (dC (.int 0)))) (dSeq (dAsgO (dLst (dNil)) 4)
  (dSeq (dFor (iSeq (dVar 3)) (dgName 5) (dFor (iSeq (dBin ixX (.sl 0) (.sl 5))) (dgName 6) (dIfS (dtBin (inX true) (.sl 6) (.sl 2)) (dSeq (dSto (dBin addX (.ex (dBin ixX (.sl 2) (.sl 5))) (.ex (dC (.int 1)))) (dgPut 2 (dVar 6)))
  (dDrop (dAppend 4 (dVar 6)))) (dNext))))
  (dAsg (dVar 4) 3))))
  (dRet (dVar 2)))
theorem pure__law_gaps (ds : List D) (Q : D → Prop) (h : sd__law_gaps ds Q) : t__law_gaps (ends Q) (startD 7 ds) := by
  obtain ⟨ps, es, s, rfl, t, hs, q⟩ := h
  have hhi := t.hi
  unfold t__law_gaps
  walk_at "dw"
  refine ⟨fun δ => ∃ w f L c4 c5 c6, δ = [.im (.dct (nrL ps es)), .im (.str s), .ow (.dct (gD w f)), .im (.lst (L.map D.str)), c4, c5, c6] ∧ Fnd ps es s w f ∧ (∀ x ∈ L, x ∈ w) ∧ L.length ≤ 1000 ∧ ∀ x ∈ w, x ∉ L → ∀ y ∈ ps, adj es x y = true → y ∈ w, muL ps.length, ⟨[s], fun _ => 0, [s], .no, .no, .no, rfl, Fnd.one hs, fun x h => h, by simp, fun x hx hn => absurd hx hn⟩, ?_⟩
  rintro δ ⟨w, f, L, c4, c5, c6, rfl, F, hL, hLl, hc⟩
  have hw := F.len
  walk_at "dw"
  refine if_b (fun h1 => ?_) (fun h1 => ?_)
  · have h1 : 0 < L.length := by have := of_decide_eq_true h1; rw [List.length_map] at this; omega
    refine for_go (fun (i : Nat) (δ : DSt) => ∃ w' f' T c5 c6, δ = [.im (.dct (nrL ps es)), .im (.str s), .ow (.dct (gD w' f')), .im (.lst (L.map D.str)), .ow (.lst (T.map D.str)), c5, c6] ∧ Fnd ps es s w' f' ∧ w' = w ++ T ∧ ∀ x ∈ L.take i, ∀ y ∈ ps, adj es x y = true → y ∈ w') ⟨w, f, [], _, _, rfl, F, by simp, fun x hx => by simp at hx⟩ ?_ ?_
    · rintro i d δ' hd ⟨w', f', T, c5, c6, rfl, F', hT, hcl⟩
      rw [List.getElem?_map] at hd
      cases hp : L[i]? with
      | none => rw [hp] at hd; cases hd
      | some a =>
        rw [hp] at hd
        cases hd
        have haw : a ∈ w := hL a (List.mem_of_getElem? hp)
        have haw' : a ∈ w' := by rw [hT]; exact List.mem_append_left _ haw
        have hap := F.sub a haw
        walk_at "dw"
        rw [nrl_look hap]
        walk_at "dw"
        refine for_go (fun (j : Nat) (δ : DSt) => ∃ w2 f2 T2 c6, δ = [.im (.dct (nrL ps es)), .im (.str s), .ow (.dct (gD w2 f2)), .im (.lst (L.map D.str)), .ow (.lst (T2.map D.str)), .im (.str a), c6] ∧ Fnd ps es s w2 f2 ∧ w2 = w ++ T2 ∧ (∀ x ∈ w', x ∈ w2) ∧ ∀ y ∈ (nbs ps es a).take j, y ∈ w2) ⟨w', f', T, _, rfl, F', hT, fun x h => h, fun y hy => by simp at hy⟩ ?_ ?_
        · rintro j d δ' hd ⟨w2, f2, T2, c6, rfl, F2, hT2, hsub, hn⟩
          have hw2 := F2.len
          rw [List.getElem?_map] at hd
          cases hb : (nbs ps es a)[j]? with
          | none => rw [hb] at hd; cases hd
          | some b =>
            rw [hb] at hd
            cases hd
            obtain ⟨hbp, hab⟩ := nbs_mem.mp (List.mem_of_getElem? hb)
            have ha2 : a ∈ w2 := hsub a haw'
            have et : ∀ x, x ∈ (nbs ps es a).take (j + 1) → x ∈ (nbs ps es a).take j ∨ x = b := fun x hx => by
              rw [List.take_succ, hb] at hx
              simpa using hx
            walk_at "dw"
            rw [gD_look]
            by_cases hbw : b ∈ w2
            · rw [if_pos hbw]
              refine if_f rfl ?_
              exact ⟨w2, f2, T2, _, rfl, F2, hT2, hsub, fun y hy => (et y hy).elim (hn y) fun z => z ▸ hbw⟩
            · rw [if_neg hbw]
              refine if_t rfl ?_
              rw [gD_look, if_pos ha2]
              walk_at "dw"
              rw [x_putK (by rw [gD_len]; omega), gD_put hbw]
              walk_at "dw"
              have hT2l : T2.length ≤ w2.length := by rw [hT2, List.length_append]; omega
              refine ⟨line_of (by rw [List.length_map]; omega), w2 ++ [b], upF f2 b (f2 a + 1), T2 ++ [b], .im (.str b), by rw [List.map_append]; rfl, F2.add ha2 hbw hbp hab, by rw [hT2, List.append_assoc], fun x hx => List.mem_append_left _ (hsub x hx), fun y hy => ?_⟩
              rcases et y hy with h | rfl
              · exact List.mem_append_left _ (hn y h)
              · exact List.mem_append_right _ (List.mem_singleton.mpr rfl)
        · rintro δ' ⟨w2, f2, T2, c6, rfl, F2, hT2, hsub, hn⟩
          rw [List.length_map, List.take_length] at hn
          refine ⟨w2, f2, T2, _, _, rfl, F2, hT2, fun x hx y hy hxy => ?_⟩
          rw [List.take_succ, hp] at hx
          rcases List.mem_append.mp hx with h | h
          · exact hsub y (hcl x h y hy hxy)
          · have : x = a := by simpa using h
            subst this
            exact hn y (nbs_mem.mpr ⟨hy, hxy⟩)
    · rintro δ' ⟨w', f', T, c5, c6, rfl, F', hT, hcl⟩
      rw [List.length_map, List.take_length] at hcl
      have hw' := F'.len
      have hTl : w'.length = w.length + T.length := by rw [hT, List.length_append]
      walk_at "dw"
      refine ⟨⟨w', f', T, _, _, _, rfl, F', fun x h => by rw [hT]; exact List.mem_append_right _ h, by omega, fun x hx hn y hy hxy => ?_⟩, ?_⟩
      · have hxw : x ∈ w := by
          rw [hT] at hx
          exact (List.mem_append.mp hx).resolve_right hn
        by_cases hxL : x ∈ L
        · exact hcl x hxL y hy hxy
        · rw [hT]
          exact List.mem_append_left _ (hc x hxw hxL y hy hxy)
      · show 2 * (ps.length - (gD w' f').length) + (if (T.map D.str).length = 0 then 0 else 1) < 2 * (ps.length - (gD w f).length) + (if (L.map D.str).length = 0 then 0 else 1)
        rw [gD_len, gD_len, List.length_map, List.length_map, if_neg (show ¬ L.length = 0 by omega)]
        split <;> omega
  · have h1 : L = [] := by
      have := of_decide_eq_false h1
      rw [List.length_map] at this
      exact List.length_eq_zero_iff.mp (by omega)
    subst h1
    exact q w f (F.far t fun x hx y hy ha => hc x hx (by simp) y hy ha)

/-! ### distances -/
section
variable {ps : List Str} {es : List Ed}
/-- without one of its edges a tree is not whole -/
theorem tree_min (t : IsTree ps es) {i : Nat} {e : Ed} (he : es[i]? = some e) (h : ∀ g : Str → Str, (∀ x ∈ es.eraseIdx i, g x.1 = g x.2) → ∀ p ∈ ps, ∀ q ∈ ps, g p = g q) : False := by
  have hi := lt_of_get he
  have ri0 : RI ps id := fun p hp => ⟨hp, rfl⟩
  obtain ⟨h1, h2, h3⟩ := uf_count t.nd (es.eraseIdx i) id ri0 fun x hx => t.ends x (List.mem_of_mem_eraseIdx hx)
  have eq := h (ufEnd id (es.eraseIdx i)) (uf_edge _ id)
  obtain ⟨r, hr⟩ : ∃ r, r ∈ ps := List.exists_mem_of_length_pos t.lo
  have e0 : fx ps id = ps.length := by unfold fx; rw [List.filter_eq_self.mpr (fun a _ => decide_eq_true (show id a = a from rfl))]
  have hrep := h3 r hr
  have e1 : fx ps (ufEnd id (es.eraseIdx i)) = 1 := by
    unfold fx
    have : ps.filter (fun p => decide (ufEnd id (es.eraseIdx i) p = p)) = ps.filter fun p => decide (p = ufEnd id (es.eraseIdx i) r) := List.filter_congr fun p hp => by
      rw [Bool.eq_iff_iff, decide_eq_true_iff, decide_eq_true_iff, eq p hp r hr]
      exact ⟨fun z => z.symm, fun z => z.symm⟩
    rw [this]
    have c := t.nd.count (a := ufEnd id (es.eraseIdx i) r)
    rw [if_pos hrep.1] at c
    rw [← c, List.count_eq_length_filter]
    congr 1
  have := t.len
  have := List.length_eraseIdx_of_lt hi
  omega
theorem mem_erase_ne {i : Nat} {y e : Ed} (h : e ∈ es) (hi : es[i]? = some y) (hne : e ≠ y) : e ∈ es.eraseIdx i := by
  obtain ⟨j, hj⟩ := List.mem_iff_getElem?.mp h
  have hji : i ≠ j := fun z => by subst z; rw [hi] at hj; exact hne (by injection hj with q; exact q.symm)
  exact List.mem_eraseIdx_iff_getElem?.mpr ⟨j, hji.symm, hj⟩
section
variable {s : Str} {w : List Str} {f : Str → Int}
/-- induction along the distances -/
theorem Far.ind (F : Far ps es s w f) {P : Str → Prop} (h0 : P s) (h1 : ∀ x ∈ ps, ∀ y ∈ ps, adj es y x = true → f x = f y + 1 → P y → P x) : ∀ x ∈ ps, P x := by
  have key : ∀ n : Nat, ∀ x ∈ w, f x = (n : Int) → P x := by
    intro n
    induction n with
    | zero =>
      intro x hx hn
      by_cases hxs : x = s
      · rw [hxs]; exact h0
      · obtain ⟨z, hz, _, h2⟩ := F.back x hx hxs
        have := F.pos z hz
        omega
    | succ n ih =>
      intro x hx hn
      by_cases hxs : x = s
      · rw [hxs]; exact h0
      · obtain ⟨z, hz, h2, h3⟩ := F.back x hx hxs
        exact h1 x (F.sub x hx) z (F.sub z hz) h2 h3 (ih z hz (by omega))
  intro x hx
  have hw := F.all x hx
  have := F.pos x hw
  exact key (f x).toNat x hw (by omega)
theorem Far.edge (F : Far ps es s w f) (t : IsTree ps es) {u v : Str} (h : (u, v) ∈ es) : f v = f u + 1 ∨ f u = f v + 1 := by
  obtain ⟨i, hi⟩ := List.mem_iff_getElem?.mp h
  refine Classical.byContradiction fun hc => tree_min t hi fun g hg p hp q hq => ?_
  have all : ∀ x ∈ ps, g x = g s := F.ind rfl fun x hx y hy ha hf ih => by
    rw [← ih]
    rcases adj_iff.mp ha with h3 | h3
    · exact (hg (y, x) (mem_erase_ne h3 hi fun z => hc (by injection z with z1 z2; rw [← z1, ← z2]; exact .inl hf))).symm
    · exact hg (x, y) (mem_erase_ne h3 hi fun z => hc (by injection z with z1 z2; rw [← z1, ← z2]; exact .inr hf))
  rw [all p hp, all q hq]
theorem Far.adj1 (F : Far ps es s w f) (t : IsTree ps es) {u v : Str} (h : adj es u v = true) : f v = f u + 1 ∨ f u = f v + 1 := by
  rcases adj_iff.mp h with h | h
  · exact F.edge t h
  · exact (F.edge t h).symm
theorem Far.le (F : Far ps es s w f) {f' : Str → Int} {w' : List Str} (F' : Far ps es s w' f') (t : IsTree ps es) : ∀ x ∈ ps, f x ≤ f' x :=
  F'.ind (by rw [F.zero, F'.zero]; exact Int.le_refl _) fun x hx y hy ha hf ih => by
    rcases F.adj1 t ha with h | h <;> omega
theorem Far.one (F : Far ps es s w f) {f' : Str → Int} {w' : List Str} (F' : Far ps es s w' f') (t : IsTree ps es) : ∀ x ∈ ps, f x = f' x := fun x hx => Int.le_antisymm (F.le F' t x hx) (F'.le F t x hx)
end
open Classical in
/-- THE distance -/
noncomputable def dst (ps : List Str) (es : List Ed) (s x : Str) : Int := if h : ∃ w f, Far ps es s w f then h.choose_spec.choose x else 0
theorem dst_of {s : Str} {w : List Str} {f : Str → Int} (t : IsTree ps es) (F : Far ps es s w f) : ∀ x ∈ ps, f x = dst ps es s x := fun x hx => by
  have h : ∃ w f, Far ps es s w f := ⟨w, f, F⟩
  unfold dst
  rw [dif_pos h]
  exact F.one h.choose_spec.choose_spec t x hx
theorem dst_far {s : Str} {w : List Str} {f : Str → Int} (F : Far ps es s w f) : ∃ w', Far ps es s w' (dst ps es s) := by
  have h : ∃ w f, Far ps es s w f := ⟨w, f, F⟩
  refine ⟨h.choose, ?_⟩
  have e : dst ps es s = h.choose_spec.choose := by funext x; unfold dst; rw [dif_pos h]
  rw [e]
  exact h.choose_spec.choose_spec
theorem Far.congr {s : Str} {w : List Str} {f f' : Str → Int} (F : Far ps es s w f) (h : ∀ x ∈ ps, f' x = f x) : Far ps es s w f' where
  nd := F.nd
  sub := F.sub
  mem := F.mem
  zero := by rw [h s (F.sub s F.mem)]; exact F.zero
  pos := fun x hx => by rw [h x (F.sub x hx)]; exact F.pos x hx
  back := fun x hx hne => by
    obtain ⟨y, hy, h1, h2⟩ := F.back x hx hne
    exact ⟨y, hy, h1, by rw [h x (F.sub x hx), h y (F.sub y hy)]; exact h2⟩
  all := F.all
/-- a tree with a distance from each place -/
structure Tr (ps : List Str) (es : List Ed) : Prop extends IsTree ps es where
  far : ∀ s ∈ ps, ∃ w, Far ps es s w (dst ps es s)
theorem tr_of (t : IsTree ps es) {g : D} (h : GpOk ps es g) : Tr ps es := ⟨t, fun s hs => by obtain ⟨w, f, hF, _⟩ := h; exact dst_far (hF s hs)⟩
namespace Tr
variable (t : Tr ps es)
include t
theorem zero {s : Str} (hs : s ∈ ps) : dst ps es s s = 0 := (t.far s hs).choose_spec.zero
theorem nonneg {s x : Str} (hs : s ∈ ps) (hx : x ∈ ps) : 0 ≤ dst ps es s x := (t.far s hs).choose_spec.pos x ((t.far s hs).choose_spec.all x hx)
theorem step {s u v : Str} (hs : s ∈ ps) (h : adj es u v = true) : dst ps es s v = dst ps es s u + 1 ∨ dst ps es s u = dst ps es s v + 1 := (t.far s hs).choose_spec.adj1 t.toIsTree h
theorem ind {s : Str} (hs : s ∈ ps) {P : Str → Prop} (h0 : P s) (h1 : ∀ x ∈ ps, ∀ y ∈ ps, adj es y x = true → dst ps es s x = dst ps es s y + 1 → P y → P x) : ∀ x ∈ ps, P x := (t.far s hs).choose_spec.ind h0 h1
theorem back {s x : Str} (hs : s ∈ ps) (hx : x ∈ ps) (hne : x ≠ s) : ∃ y ∈ ps, adj es y x = true ∧ dst ps es s x = dst ps es s y + 1 := by
  obtain ⟨y, hy, h1, h2⟩ := (t.far s hs).choose_spec.back x ((t.far s hs).choose_spec.all x hx) hne
  exact ⟨y, (t.far s hs).choose_spec.sub y hy, h1, h2⟩
theorem pos {s x : Str} (hs : s ∈ ps) (hx : x ∈ ps) (hne : x ≠ s) : 0 < dst ps es s x := by
  obtain ⟨y, hy, _, h⟩ := t.back hs hx hne
  have := t.nonneg hs hy
  omega
theorem in_of_adj {u v : Str} (h : adj es u v = true) : u ∈ ps ∧ v ∈ ps := by
  rcases adj_iff.mp h with h | h
  · exact t.ends _ h
  · exact (t.ends _ h).symm
theorem one_of_adj {u v : Str} (h : adj es u v = true) : dst ps es u v = 1 := by
  obtain ⟨hu, hv⟩ := t.in_of_adj h
  have h0 := t.zero hu
  have h1 := t.nonneg hu hv
  rcases t.step hu h with h | h <;> omega
/-- a neighbour is at most one nearer -/
theorem lip {x y z : Str} (hz : z ∈ ps) (h : adj es x y = true) : dst ps es x z ≤ dst ps es y z + 1 := by
  obtain ⟨hx, hy⟩ := t.in_of_adj h
  refine t.ind hy (P := fun z => dst ps es x z ≤ dst ps es y z + 1) ?_ (fun a ha b hb hab hf ih => ?_) z hz
  · rw [t.zero hy, t.one_of_adj h]; decide
  · rcases t.step hx hab with q | q <;> omega
theorem symm {x y : Str} (hx : x ∈ ps) (hy : y ∈ ps) : dst ps es x y = dst ps es y x := by
  have key : ∀ x ∈ ps, ∀ y ∈ ps, dst ps es y x ≤ dst ps es x y := fun x hx => t.ind hx (by rw [t.zero hx]; decide) fun a ha b hb hab hf ih => by
    have hab' : adj es a b = true := by rw [adj_comm]; exact hab
    have := t.lip hx hab'
    omega
  exact Int.le_antisymm (key y hy x hx) (key x hx y hy)
/-- the ends of an edge are not equally far -/
theorem parted {a b x : Str} (h : adj es a b = true) (hx : x ∈ ps) : dst ps es b x = dst ps es a x + 1 ∨ dst ps es a x = dst ps es b x + 1 := by
  obtain ⟨ha, hb⟩ := t.in_of_adj h
  rw [t.symm ha hx, t.symm hb hx]
  exact t.step hx h
theorem triangle {x y z : Str} (hx : x ∈ ps) (hy : y ∈ ps) (hz : z ∈ ps) : dst ps es x z ≤ dst ps es x y + dst ps es y z := by
  refine t.ind hy (P := fun z => dst ps es x z ≤ dst ps es x y + dst ps es y z) ?_ (fun a ha b hb hab hf ih => ?_) z hz
  · rw [t.zero hy]; omega
  · rcases t.step hx hab with q | q <;> omega


end Tr
end

/-! ### both sides of an edge -/
noncomputable def sdP (ps : List Str) (es : List Ed) (a b : Str) : List Str := ps.filter fun p => decide (dst ps es a p < dst ps es b p)
noncomputable def sdE (ps : List Str) (es : List Ed) (a b : Str) : List Ed := es.filter fun e => decide (e.1 ∈ sdP ps es a b) && decide (e.2 ∈ sdP ps es a b)
theorem sdP_mem {ps : List Str} {es : List Ed} {a b x : Str} : x ∈ sdP ps es a b ↔ x ∈ ps ∧ dst ps es a x < dst ps es b x := by
  unfold sdP; rw [List.mem_filter, decide_eq_true_iff]
theorem sdE_mem {ps : List Str} {es : List Ed} {a b : Str} {e : Ed} : e ∈ sdE ps es a b ↔ e ∈ es ∧ e.1 ∈ sdP ps es a b ∧ e.2 ∈ sdP ps es a b := by
  unfold sdE; rw [List.mem_filter, Bool.and_eq_true, decide_eq_true_iff, decide_eq_true_iff]
namespace Tr
section
variable {ps : List Str} {es : List Ed} {a b : Str} (t : Tr ps es) (h : adj es a b = true)
include t h
theorem sd_a : a ∈ sdP ps es a b := by
  obtain ⟨ha, hb⟩ := t.in_of_adj h
  rw [sdP_mem, t.zero ha]
  exact ⟨ha, by rw [t.symm hb ha, t.one_of_adj h]; decide⟩
theorem sd_or {x : Str} (hx : x ∈ ps) : x ∈ sdP ps es a b ∨ x ∈ sdP ps es b a := by
  rw [sdP_mem, sdP_mem]
  rcases t.parted h hx with q | q
  · exact .inl ⟨hx, by omega⟩
  · exact .inr ⟨hx, by omega⟩
omit t h in
theorem sd_not {x : Str} (hx : x ∈ sdP ps es a b) : x ∉ sdP ps es b a := fun z => by
  rw [sdP_mem] at hx z
  omega
theorem sd_eq {x : Str} (hx : x ∈ sdP ps es a b) : dst ps es b x = dst ps es a x + 1 := by
  rw [sdP_mem] at hx
  rcases t.parted h hx.1 with q | q <;> omega
theorem sd_ind {P : Str → Prop} (h0 : P a) (h1 : ∀ x ∈ sdP ps es a b, ∀ y ∈ sdP ps es a b, adj es y x = true → dst ps es a x = dst ps es a y + 1 → P y → P x) : ∀ x ∈ sdP ps es a b, P x := by
  obtain ⟨ha, hb⟩ := t.in_of_adj h
  have := t.ind ha (P := fun x => x ∈ sdP ps es a b → P x) (fun _ => h0) fun x hx y hy hab hf ih hxA => by
    have hyA : y ∈ sdP ps es a b := by
      rw [sdP_mem]
      refine ⟨hy, ?_⟩
      have e := t.sd_eq h hxA
      rcases t.step hb hab with q | q <;> omega
    exact h1 x hxA y hyA hab hf (ih hyA)
  exact fun x hx => this x (sdP_mem.mp hx).1 hx
/-- the chain to a neighbour that is nearer stays on the side -/
theorem sd_back {x : Str} (hx : x ∈ sdP ps es a b) (hne : x ≠ a) : ∃ y ∈ sdP ps es a b, adj es y x = true ∧ dst ps es a x = dst ps es a y + 1 := by
  obtain ⟨ha, hb⟩ := t.in_of_adj h
  obtain ⟨y, hy, h1, h2⟩ := t.back ha (sdP_mem.mp hx).1 hne
  refine ⟨y, sdP_mem.mpr ⟨hy, ?_⟩, h1, h2⟩
  have e := t.sd_eq h hx
  rcases t.step hb h1 with q | q <;> omega
omit t h in
theorem sd_adj {x y : Str} (hx : x ∈ sdP ps es a b) (hy : y ∈ sdP ps es a b) (hab : adj es y x = true) : adj (sdE ps es a b) y x = true := by
  rcases adj_iff.mp hab with q | q
  · exact adj_iff.mpr (.inl (sdE_mem.mpr ⟨q, hy, hx⟩))
  · exact adj_iff.mpr (.inr (sdE_mem.mpr ⟨q, hx, hy⟩))
theorem sd_conn {g : Str → Str} (hg : ∀ e ∈ sdE ps es a b, g e.1 = g e.2) : ∀ x ∈ sdP ps es a b, g x = g a := t.sd_ind h rfl fun x hx y hy hab hf ih => by
  rw [← ih]
  rcases adj_iff.mp (sd_adj hx hy hab) with q | q
  · exact (hg _ q).symm
  · exact hg _ q
theorem comm' : adj es b a = true := by rw [adj_comm]; exact h
/-- only the edge itself leads across -/
theorem sd_cross {u v : Str} (hu : u ∈ sdP ps es a b) (hv : v ∈ sdP ps es b a) (huv : adj es u v = true) : u = a ∧ v = b := by
  refine Classical.byContradiction fun hc => ?_
  have main : ∀ (i : Nat) (e : Ed), es[i]? = some e → (e = (a, b) ∨ e = (b, a)) → False := fun i e he hab => by
    refine tree_min t.toIsTree he fun g hg p hp q hq => ?_
    have nA : ∀ x ∈ sdE ps es a b, g x.1 = g x.2 := fun x hx => hg x (mem_erase_ne (sdE_mem.mp hx).1 he fun z => by
      obtain ⟨_, h1, h2⟩ := sdE_mem.mp hx
      have hb' := t.sd_a (t.comm' h)
      rcases hab with rfl | rfl <;> subst z
      · exact sd_not h2 hb'
      · exact sd_not h1 hb')
    have nB : ∀ x ∈ sdE ps es b a, g x.1 = g x.2 := fun x hx => hg x (mem_erase_ne (sdE_mem.mp hx).1 he fun z => by
      obtain ⟨_, h1, h2⟩ := sdE_mem.mp hx
      have ha' := t.sd_a h
      rcases hab with rfl | rfl <;> subst z
      · exact sd_not h1 ha'
      · exact sd_not h2 ha')
    have cA := t.sd_conn h nA
    have cB := t.sd_conn (t.comm' h) nB
    have guv : g u = g v := by
      have hva := sd_not hu
      rcases adj_iff.mp huv with r | r
      · refine hg (u, v) (mem_erase_ne r he fun z => ?_)
        rcases hab with rfl | rfl
        · injection z with z1 z2; exact hc ⟨z1, z2⟩
        · injection z with z1 z2; subst z1; exact hva (t.sd_a (t.comm' h))
      · refine (hg (v, u) (mem_erase_ne r he fun z => ?_)).symm
        rcases hab with rfl | rfl
        · injection z with z1 z2; subst z2; exact hva (t.sd_a (t.comm' h))
        · injection z with z1 z2; exact hc ⟨z2, z1⟩
    have gab : g a = g b := by rw [← cA u hu, guv, cB v hv]
    have all : ∀ x ∈ ps, g x = g a := fun x hx => by
      rcases t.sd_or h hx with q | q
      · exact cA x q
      · rw [cB x q, gab]
    rw [all p hp, all q hq]
  rcases adj_iff.mp h with q | q
  · obtain ⟨i, hi⟩ := List.mem_iff_getElem?.mp q; exact main i _ hi (.inl rfl)
  · obtain ⟨i, hi⟩ := List.mem_iff_getElem?.mp q; exact main i _ hi (.inr rfl)
end
section
variable {ps : List Str} {es : List Ed} {a b : Str} (t : Tr ps es) (h : adj es a b = true)
include t h
/-- the chain from any place of the side stays there -/
theorem sd_back2 {s x : Str} (hs : s ∈ sdP ps es a b) (hx : x ∈ sdP ps es a b) (hne : x ≠ s) : ∃ y ∈ sdP ps es a b, adj (sdE ps es a b) y x = true ∧ dst ps es s x = dst ps es s y + 1 := by
  have hs' := (sdP_mem.mp hs).1
  obtain ⟨y, hy, h1, h2⟩ := t.back hs' (sdP_mem.mp hx).1 hne
  have hyA : y ∈ sdP ps es a b := by
    rcases t.sd_or h hy with q | q
    · exact q
    · exfalso
      obtain ⟨z1, z2⟩ := t.sd_cross (t.comm' h) q hx h1
      subst z1; subst z2
      have := (sdP_mem.mp hs).2
      obtain ⟨ha, hb⟩ := t.in_of_adj h
      rw [t.symm ha hs', t.symm hb hs'] at this
      omega
  exact ⟨y, hyA, sd_adj hx hyA h1, h2⟩
/-- the distance across -/
theorem sd_across {x y : Str} (hx : x ∈ sdP ps es a b) (hy : y ∈ sdP ps es b a) : dst ps es x y = dst ps es x a + 1 + dst ps es b y := by
  obtain ⟨ha, hb⟩ := t.in_of_adj h
  have hx' := (sdP_mem.mp hx).1
  have hA := t.sd_a h
  have hB := t.sd_a (t.comm' h)
  let k : Str → Int := fun z => if z ∈ sdP ps es a b then dst ps es x z else dst ps es x a + 1 + dst ps es b z
  have kA : ∀ z ∈ sdP ps es a b, k z = dst ps es x z := fun z hz => if_pos hz
  have kB : ∀ z ∈ sdP ps es b a, k z = dst ps es x a + 1 + dst ps es b z := fun z hz => if_neg fun q => sd_not q hz
  have F : Far ps es x ps k := by
    refine ⟨⟨t.nd, fun z hz => hz, hx', by rw [kA x hx]; exact t.zero hx', fun z hz => ?_, fun z hz hne => ?_⟩, fun z hz => hz⟩
    · rcases t.sd_or h hz with q | q
      · rw [kA z q]; exact t.nonneg hx' hz
      · rw [kB z q]
        have := t.nonneg hx' ha
        have := t.nonneg hb hz
        omega
    · rcases t.sd_or h hz with q | q
      · obtain ⟨y, hy, h1, h2⟩ := t.sd_back2 h hx q hne
        have h1' : adj es y z = true := by
          rcases adj_iff.mp h1 with r | r
          · exact adj_iff.mpr (.inl (sdE_mem.mp r).1)
          · exact adj_iff.mpr (.inr (sdE_mem.mp r).1)
        exact ⟨y, (sdP_mem.mp hy).1, h1', by rw [kA z q, kA y hy]; exact h2⟩
      · by_cases hzb : z = b
        · subst hzb
          exact ⟨a, ha, h, by rw [kB z q, kA a hA, t.zero hb]; omega⟩
        · obtain ⟨y, hy, h1, h2⟩ := t.sd_back (t.comm' h) q hzb
          exact ⟨y, (sdP_mem.mp hy).1, h1, by rw [kB z q, kB y hy]; omega⟩
  rw [← dst_of t.toIsTree F y (sdP_mem.mp hy).1, kB y hy]
end
end Tr

/-! ### paths and medians -/
def btw (ps : List Str) (es : List Ed) (x a b : Str) : Prop := dst ps es a x + dst ps es x b = dst ps es a b
noncomputable instance (ps : List Str) (es : List Ed) (x a b : Str) : Decidable (btw ps es x a b) := inferInstanceAs (Decidable (_ = _))
/-- the place behind a on the way to b -/
noncomputable def nxt (ps : List Str) (es : List Ed) (a b : Str) : Str := ((nbs ps es a).find? fun p => decide (dst ps es p b < dst ps es a b)).getD a
structure Med (ps : List Str) (es : List Ed) (a b c m : Str) : Prop where
  mem : m ∈ ps
  uni : ∀ x ∈ ps, (btw ps es x a b ∧ btw ps es x b c ∧ btw ps es x a c) ↔ x = m
section
variable {ps : List Str} {es : List Ed} (t : Tr ps es)
include t
theorem Tr.btw_symm {x a b : Str} (hx : x ∈ ps) (ha : a ∈ ps) (hb : b ∈ ps) : btw ps es x a b ↔ btw ps es x b a := by
  unfold btw
  rw [t.symm hb hx, t.symm hx ha, t.symm hb ha]
  omega
theorem Tr.nx {a b : Str} (ha : a ∈ ps) (hb : b ∈ ps) (hne : a ≠ b) : nxt ps es a b ∈ ps ∧ adj es a (nxt ps es a b) = true ∧ dst ps es a b = dst ps es (nxt ps es a b) b + 1 := by
  obtain ⟨y, hy, h1, h2⟩ := t.back hb ha hne
  have hd : dst ps es y b < dst ps es a b := by rw [t.symm hy hb, t.symm ha hb]; omega
  have hym : y ∈ nbs ps es a := nbs_mem.mpr ⟨hy, by rw [adj_comm]; exact h1⟩
  have hs : ((nbs ps es a).find? fun p => decide (dst ps es p b < dst ps es a b)).isSome = true := List.find?_isSome.mpr ⟨y, hym, decide_eq_true hd⟩
  obtain ⟨p, hp⟩ := Option.isSome_iff_exists.mp hs
  have e : nxt ps es a b = p := by unfold nxt; rw [hp]; rfl
  rw [e]
  have h3 := List.find?_some hp
  have h4 := nbs_mem.mp (List.mem_of_find?_eq_some hp)
  have h3 := of_decide_eq_true h3
  refine ⟨h4.1, h4.2, ?_⟩
  have := t.step hb h4.2
  rw [t.symm hb ha, t.symm hb h4.1] at this
  omega
theorem Tr.zero_eq {a b : Str} (ha : a ∈ ps) (hb : b ∈ ps) (h : dst ps es a b = 0) : a = b := by
  by_cases e : b = a
  · exact e.symm
  · have := t.pos ha hb e
    omega
/-- the edge behind x on the way to y parts them -/
theorem Tr.gate {x y : Str} (hx : x ∈ ps) (hy : y ∈ ps) (hne : x ≠ y) : ∃ z, adj es x z = true ∧ z ∈ ps ∧ y ∈ sdP ps es z x ∧ x ∈ sdP ps es x z := by
  obtain ⟨h1, h2, h3⟩ := t.nx hx hy hne
  exact ⟨_, h2, h1, sdP_mem.mpr ⟨hy, by omega⟩, t.sd_a h2⟩
/-- on the way from a to b there is one place at each distance -/
theorem Tr.one_at {a b x y : Str} (ha : a ∈ ps) (hb : b ∈ ps) (hx : x ∈ ps) (hy : y ∈ ps) (h1 : btw ps es x a b) (h2 : btw ps es y a b) (hd : dst ps es a x = dst ps es a y) : x = y := by
  by_cases hne : x = y
  · exact hne
  exfalso
  obtain ⟨z, hz, hzp, yz, xx⟩ := t.gate hx hy hne
  have hz' := t.comm' hz
  unfold btw at h1 h2
  rcases t.sd_or hz ha with a1 | a1
  · rcases t.sd_or hz hb with b1 | b1
    · have e1 := t.sd_across hz a1 yz
      have e2 := t.sd_across hz b1 yz
      have e3 := t.triangle ha hx hb
      have e4 := t.nonneg hzp hy
      rw [t.symm hy hb] at h2
      rw [t.symm hx hb] at e3
      omega
    · have e1 := t.sd_across hz a1 yz
      have e4 := t.nonneg hzp hy
      omega
  · rcases t.sd_or hz hb with b1 | b1
    · have e1 := t.sd_across hz b1 a1
      have e2 := t.sd_across hz b1 yz
      have e3 := t.sd_across hz xx a1
      have e5 := t.zero hx
      have e6 := t.triangle hzp hy ha
      have e7 := t.triangle ha hy hzp
      have e8 := t.nonneg hzp hy
      rw [t.symm hy hb] at h2
      rw [t.symm hx hb, t.symm ha hx] at h1
      rw [t.symm ha hb] at h1 h2
      rw [t.symm ha hx] at hd
      rw [t.symm ha hy] at hd h2
      omega
    · have e1 := t.sd_across hz xx a1
      have e2 := t.sd_across hz xx b1
      have e3 := t.triangle ha hzp hb
      have e5 := t.zero hx
      rw [t.symm ha hx] at h1
      rw [t.symm ha hzp] at e3
      omega
theorem Tr.btw_nx {a b h : Str} (ha : a ∈ ps) (hb : b ∈ ps) (hh : h ∈ ps) (hbt : btw ps es h a b) (hne : h ≠ b) : btw ps es (nxt ps es h b) a b ∧ dst ps es a (nxt ps es h b) = dst ps es a h + 1 := by
  obtain ⟨h1, h2, h3⟩ := t.nx hh hb hne
  have e1 := t.step ha h2
  have e2 := t.triangle ha h1 hb
  unfold btw at hbt ⊢
  constructor <;> omega
theorem Tr.med_uni {a b c x y : Str} (ha : a ∈ ps) (hb : b ∈ ps) (hc : c ∈ ps) (hx : x ∈ ps) (hy : y ∈ ps) (h1 : btw ps es x a b ∧ btw ps es x b c ∧ btw ps es x a c) (h2 : btw ps es y a b ∧ btw ps es y b c ∧ btw ps es y a c) : x = y := by
  by_cases hne : x = y
  · exact hne
  exfalso
  obtain ⟨z, hz, hzp, yz, xx⟩ := t.gate hx hy hne
  have near : ∀ {u v : Str}, u ∈ ps → v ∈ ps → u ∈ sdP ps es x z → v ∈ sdP ps es x z → btw ps es y u v → False := fun {u v} hu hv u1 v1 hbt => by
    have e1 := t.sd_across hz u1 yz
    have e2 := t.sd_across hz v1 yz
    have e3 := t.triangle hu hx hv
    have e4 := t.nonneg hzp hy
    unfold btw at hbt
    rw [t.symm hy hv] at hbt
    rw [t.symm hx hv] at e3
    omega
  have far : ∀ {u v : Str}, u ∈ ps → v ∈ ps → u ∈ sdP ps es z x → v ∈ sdP ps es z x → btw ps es x u v → False := fun {u v} hu hv u1 v1 hbt => by
    have e1 := t.sd_across hz xx u1
    have e2 := t.sd_across hz xx v1
    have e3 := t.triangle hu hzp hv
    have e5 := t.zero hx
    unfold btw at hbt
    rw [t.symm hu hx] at hbt
    rw [t.symm hu hzp] at e3
    omega
  rcases t.sd_or hz ha with a1 | a1 <;> rcases t.sd_or hz hb with b1 | b1 <;> rcases t.sd_or hz hc with c1 | c1
  · exact near ha hb a1 b1 h2.1
  · exact near ha hb a1 b1 h2.1
  · exact near ha hc a1 c1 h2.2.2
  · exact far hb hc b1 c1 h1.2.1
  · exact near hb hc b1 c1 h2.2.1
  · exact far ha hc a1 c1 h1.2.2
  · exact far ha hb a1 b1 h1.1
  · exact far ha hb a1 b1 h1.1
omit t in
theorem min_ex {l : List Str} {P : Str → Prop} {f : Str → Int} (h0 : ∀ x ∈ l, 0 ≤ f x) (h : ∃ x ∈ l, P x) : ∃ x ∈ l, P x ∧ ∀ y ∈ l, P y → f x ≤ f y := by
  have key : ∀ n : Nat, ∀ x ∈ l, P x → f x ≤ n → ∃ x ∈ l, P x ∧ ∀ y ∈ l, P y → f x ≤ f y := by
    intro n
    induction n with
    | zero => exact fun x hx px hf => ⟨x, hx, px, fun y hy _ => by have := h0 y hy; omega⟩
    | succ n ih =>
      intro x hx px hf
      by_cases hz : ∃ y ∈ l, P y ∧ f y < f x
      · obtain ⟨y, hy, py, hlt⟩ := hz
        exact ih y hy py (by omega)
      · refine ⟨x, hx, px, fun y hy py => ?_⟩
        by_cases hlt : f y < f x
        · exact absurd ⟨y, hy, py, hlt⟩ hz
        · omega
  obtain ⟨x, hx, px⟩ := h
  exact key (f x).toNat x hx px (by have := h0 x hx; omega)
theorem Tr.med {a b c : Str} (ha : a ∈ ps) (hb : b ∈ ps) (hc : c ∈ ps) : ∃ m, Med ps es a b c m := by
  obtain ⟨m, hm, hbt, hmin⟩ := min_ex (l := ps) (P := fun x => btw ps es x a b) (f := fun x => dst ps es x c) (fun x hx => t.nonneg hx hc) ⟨a, ha, by unfold btw; rw [t.zero ha]; omega⟩
  have ok : btw ps es m a b ∧ btw ps es m b c ∧ btw ps es m a c := by
    by_cases hmc : m = c
    · subst hmc
      refine ⟨hbt, ?_, ?_⟩
      · unfold btw; rw [t.zero hm]; omega
      · unfold btw; rw [t.zero hm]; omega
    obtain ⟨h1, h2, h3⟩ := t.nx hm hc hmc
    have hnot : ¬ btw ps es (nxt ps es m c) a b := fun z => by
      have := hmin _ h1 z
      have : dst ps es m c ≤ dst ps es (nxt ps es m c) c := this
      omega
    have c1 : c ∈ sdP ps es (nxt ps es m c) m := sdP_mem.mpr ⟨hc, by omega⟩
    have mm := t.sd_a h2
    have e5 := t.zero hm
    have hz' := t.comm' h2
    have zz := t.sd_a hz'
    have e6 := t.zero h1
    have e7 := t.one_of_adj h2
    have both : a ∈ sdP ps es m (nxt ps es m c) ∧ b ∈ sdP ps es m (nxt ps es m c) := by
      unfold btw at hbt hnot
      rcases t.sd_or h2 ha with a1 | a1 <;> rcases t.sd_or h2 hb with b1 | b1
      · exact ⟨a1, b1⟩
      · exfalso
        have e1 := t.sd_across h2 a1 b1
        have e2 := t.sd_across h2 a1 zz
        exact hnot (by omega)
      · exfalso
        have e1 := t.sd_across h2 b1 a1
        have e2 := t.sd_across h2 b1 zz
        have e3 := t.sd_across h2 mm a1
        have e4 := t.symm ha hb
        have e8 := t.symm ha hm
        have e9 := t.symm ha h1
        have e10 := t.symm hm hb
        have e11 := t.symm h1 hb
        exact hnot (by omega)
      · exfalso
        have e1 := t.sd_across h2 mm a1
        have e2 := t.sd_across h2 mm b1
        have e3 := t.triangle ha h1 hb
        have e8 := t.symm ha hm
        have e9 := t.symm ha h1
        omega
    obtain ⟨a1, b1⟩ := both
    have e1 := t.sd_across h2 a1 c1
    have e2 := t.sd_across h2 b1 c1
    exact ⟨hbt, by unfold btw; omega, by unfold btw; omega⟩
  exact ⟨m, hm, fun x hx => ⟨fun h => t.med_uni ha hb hc hx hm h ok, fun h => by subst h; exact ok⟩⟩
omit t in
theorem one_filter {l : List Str} {p : Str → Bool} {m : Str} (nd : l.Nodup) (hm : m ∈ l) (h : ∀ x ∈ l, p x = true ↔ x = m) : l.filter p = [m] := by
  have e : l.filter p = l.filter fun x => decide (x = m) := List.filter_congr fun x hx => by rw [Bool.eq_iff_iff, h x hx, decide_eq_true_iff]
  rw [e]
  have c := nd.count (a := m)
  rw [if_pos hm] at c
  have c2 : (l.filter fun x => decide (x = m)).length = 1 := by
    rw [← c, List.count_eq_length_filter]
    congr 1
  match hl : l.filter (fun x => decide (x = m)), c2 with
  | [y], _ =>
    have : y ∈ l.filter fun x => decide (x = m) := by rw [hl]; exact List.mem_cons_self
    rw [of_decide_eq_true (List.mem_filter.mp this).2]
end
/-- a way begun: the places at the distances 0, 1, .. up to h -/
structure Way (ps : List Str) (es : List Ed) (a b : Str) (l : List Str) (h : Str) : Prop where
  at_ : ∀ (i : Nat) x, l[i]? = some x → x ∈ ps ∧ btw ps es x a b ∧ dst ps es a x = i
  len : (l.length : Int) = dst ps es a h + 1
  lst : l.getLast? = some h
theorem Way.start {ps : List Str} {es : List Ed} (t : Tr ps es) {a b : Str} (ha : a ∈ ps) : Way ps es a b [a] a where
  at_ := fun i x hx => by
    have : i < 1 := (List.getElem?_eq_some_iff.mp hx).1
    have : i = 0 := by omega
    subst this
    cases hx
    have := t.zero ha
    exact ⟨ha, by unfold btw; omega, this⟩
  len := by rw [t.zero ha]; rfl
  lst := rfl
theorem Way.mem {ps : List Str} {es : List Ed} {a b : Str} {l : List Str} {h : Str} (w : Way ps es a b l h) : h ∈ ps ∧ btw ps es h a b := by
  have := w.lst
  rw [List.getLast?_eq_getElem?] at this
  have := w.at_ _ _ this
  exact ⟨this.1, this.2.1⟩
theorem Way.go {ps : List Str} {es : List Ed} (t : Tr ps es) {a b : Str} {l : List Str} {h : Str} (ha : a ∈ ps) (hb : b ∈ ps) (w : Way ps es a b l h) (hne : h ≠ b) : Way ps es a b (l ++ [nxt ps es h b]) (nxt ps es h b) := by
  obtain ⟨hm, hbt⟩ := w.mem
  obtain ⟨b1, b2⟩ := t.btw_nx ha hb hm hbt hne
  have hl := w.len
  refine ⟨fun i x hx => ?_, ?_, by simp⟩
  · by_cases hi : i < l.length
    · rw [List.getElem?_append_left hi] at hx
      exact w.at_ i x hx
    · have h1 := (List.getElem?_eq_some_iff.mp hx).1
      rw [List.length_append] at h1
      have h1 : i < l.length + 1 := h1
      have h2 : i = l.length := by omega
      subst h2
      rw [List.getElem?_append_right (Nat.le_refl _), Nat.sub_self] at hx
      cases hx
      exact ⟨(t.nx hm hb hne).1, b1, by omega⟩
  · rw [List.length_append, b2]
    show ((l.length + 1 : Nat) : Int) = _
    omega
/-! ### groves: plain data -/
section
variable {ps : List Str} {es : List Ed} (t : Tr ps es)
include t
/-- a place at each distance on the way -/
theorem Tr.at_dist {a b : Str} (ha : a ∈ ps) (hb : b ∈ ps) : ∀ n : Nat, (n : Int) ≤ dst ps es a b → ∃ z ∈ ps, btw ps es z a b ∧ dst ps es a z = n
  | 0, _ => ⟨a, ha, by unfold btw; rw [t.zero ha]; omega, by rw [t.zero ha]; rfl⟩
  | n + 1, h => by
    obtain ⟨z, hz, hb1, hd⟩ := Tr.at_dist ha hb n (by omega)
    have hne : z ≠ b := by
      intro e
      rw [e] at hd
      omega
    obtain ⟨h1, h2⟩ := t.btw_nx ha hb hz hb1 hne
    exact ⟨nxt ps es z b, (t.nx hz hb hne).1, h1, by omega⟩
theorem Tr.btw_trans {a b y z : Str} (ha : a ∈ ps) (hb : b ∈ ps) (hy : y ∈ ps) (hz : z ∈ ps) (h1 : btw ps es z a y) (h2 : btw ps es y a b) : btw ps es z a b ∧ btw ps es y z b := by
  unfold btw at *
  have e1 := t.triangle hz hy hb
  have e2 := t.triangle ha hz hb
  omega
/-- places of a way are ordered -/
theorem Tr.btw_ord {a b x y : Str} (ha : a ∈ ps) (hb : b ∈ ps) (hx : x ∈ ps) (hy : y ∈ ps) (h1 : btw ps es x a b) (h2 : btw ps es y a b) (h : dst ps es a x ≤ dst ps es a y) : btw ps es x a y := by
  have n0 := t.nonneg ha hx
  obtain ⟨z, hz, z1, z2⟩ := t.at_dist ha hy (dst ps es a x).toNat (by omega)
  have z3 := (t.btw_trans ha hb hy hz z1 h2).1
  have e := t.one_at ha hb hz hx z3 h1 (by omega)
  rw [e] at z1
  exact z1
end
/-- a set that holds all ways between its places -/
structure Cvx (ps : List Str) (es : List Ed) (qs : List Str) : Prop where
  sub : ∀ x ∈ qs, x ∈ ps
  cvx : ∀ a ∈ qs, ∀ b ∈ qs, ∀ x ∈ ps, btw ps es x a b → x ∈ qs
def IsGt (ps : List Str) (es : List Ed) (qs : List Str) (p x : Str) : Prop := x ∈ qs ∧ ∀ y ∈ qs, btw ps es x p y
open Classical in
noncomputable def gt (ps : List Str) (es : List Ed) (qs : List Str) (p : Str) : Str := if h : ∃ x, IsGt ps es qs p x then h.choose else p
section
variable {ps : List Str} {es : List Ed} (t : Tr ps es)
include t
theorem Tr.gt_min {qs : List Str} {p x : Str} (c : Cvx ps es qs) (hp : p ∈ ps) (hx : x ∈ qs) (hm : ∀ y ∈ qs, dst ps es p x ≤ dst ps es p y) : IsGt ps es qs p x := by
  refine ⟨hx, fun y hy => ?_⟩
  have hxp := c.sub x hx
  have hyp := c.sub y hy
  obtain ⟨m, hmd⟩ := t.med hp hxp hyp
  obtain ⟨h1, h2, h3⟩ := (hmd.uni m hmd.mem).mpr rfl
  have hin := c.cvx x hx y hy m hmd.mem h2
  have h4 := hm m hin
  have h5 := t.nonneg hmd.mem hxp
  have e : m = x := t.zero_eq hmd.mem hxp (by unfold btw at h1; omega)
  rw [e] at h3
  exact h3
theorem Tr.gt_one {qs : List Str} {p x y : Str} (c : Cvx ps es qs) (hp : p ∈ ps) (hx : IsGt ps es qs p x) (hy : IsGt ps es qs p y) : x = y := by
  have h1 := hx.2 y hy.1
  have h2 := hy.2 x hx.1
  have hxp := c.sub x hx.1
  have hyp := c.sub y hy.1
  have e := t.symm hxp hyp
  exact t.zero_eq hxp hyp (by unfold btw at h1 h2; omega)
theorem Tr.gt_of {qs : List Str} {p x : Str} (c : Cvx ps es qs) (hp : p ∈ ps) (hx : IsGt ps es qs p x) : gt ps es qs p = x := by
  unfold gt
  rw [dif_pos ⟨x, hx⟩]
  exact t.gt_one c hp (Exists.choose_spec (p := fun x => IsGt ps es qs p x) ⟨x, hx⟩) hx
theorem Tr.gt_is {qs : List Str} {p : Str} (c : Cvx ps es qs) (hn : ∃ x, x ∈ qs) (hp : p ∈ ps) : IsGt ps es qs p (gt ps es qs p) := by
  obtain ⟨x, hx, _, hm⟩ := min_ex (l := qs) (P := fun _ => True) (f := dst ps es p) (fun x hx => t.nonneg hp (c.sub x hx)) (by obtain ⟨x, hx⟩ := hn; exact ⟨x, hx, trivial⟩)
  have g := t.gt_min c hp hx fun y hy => hm y hy trivial
  rw [t.gt_of c hp g]
  exact g
end
/-- a grove that is not empty, in place order -/
structure Grv (ps : List Str) (es : List Ed) (qs : List Str) : Prop extends Cvx ps es qs where
  ord : qs = ps.filter fun x => decide (x ∈ qs)
theorem Grv.ext {ps : List Str} {es : List Ed} {A B : List Str} (a : Grv ps es A) (b : Grv ps es B) (h : ∀ x ∈ ps, x ∈ A ↔ x ∈ B) : A = B := by
  rw [a.ord, b.ord]
  exact List.filter_congr fun x hx => by rw [decide_eq_decide]; exact h x hx
theorem head_mem {A : List Str} (h : A ≠ []) : A.headD "" ∈ A := by
  cases A with
  | nil => exact absurd rfl h
  | cons a r => exact List.mem_cons_self
theorem ne_nil {A : List Str} (h : A ≠ []) : ∃ x, x ∈ A := ⟨_, head_mem h⟩
section
variable {ps : List Str} {es : List Ed} (t : Tr ps es)
include t
theorem Tr.single {y : Str} (hy : y ∈ ps) : Grv ps es [y] where
  sub x hx := by rw [List.mem_singleton.mp hx]; exact hy
  cvx a ha b hb x hx h := by
    rw [List.mem_singleton.mp ha, List.mem_singleton.mp hb] at h
    unfold btw at h
    rw [t.zero hy] at h
    have h1 := t.nonneg hy hx
    have h2 := t.nonneg hx hy
    rw [t.zero_eq hx hy (by omega)]
    exact List.mem_singleton.mpr rfl
  ord := (one_filter t.nd hy fun x _ => by rw [decide_eq_true_iff, List.mem_singleton]).symm
/-! Helly -/
end

section
variable {δ : DSt} {Q : D → DSt → Prop}
theorem e_callX {ex : ExD} {sd : SpX} {t : TDA} : dCallX ex sd t δ Q = t δ fun ds δ1 => sd ds (fun z => Q z δ1) fun C fs => ex δ1 C fs := propext Iff.rfl
theorem e_methX {ex : ExD} {C m : Str} {sd : SpX} {ta : TDE} {t : TDA} : dMethX ex C m sd ta t δ Q = ta δ fun d δ1 => mX (insOf d) fun p => p.1 = C ∧ p.2.lookup m = none ∧ t δ1 fun ds δ2 => sd (.ins C p.2 :: ds) (fun z => Q z δ2) fun C fs => ex δ2 C fs := by
  have : (fun (d : D) (δ1 : DSt) => match insOf d with | some (C', fs) => C' = C ∧ fs.lookup m = none ∧ t δ1 fun ds δ2 => sd (.ins C fs :: ds) (fun z => Q z δ2) fun C fs => ex δ2 C fs | none => False) = fun d δ1 => mX (insOf d) fun p => p.1 = C ∧ p.2.lookup m = none ∧ t δ1 fun ds δ2 => sd (.ins C p.2 :: ds) (fun z => Q z δ2) fun C fs => ex δ2 C fs := by
    funext d δ1
    cases insOf d <;> rfl
  exact congrArg (fun K => ta δ K) this
theorem e_xf {fs : List (Str × D)} {f : Str} : dXf fs f δ Q = ∃ d, fs.lookup f = some d ∧ Q d δ := propext Iff.rfl
theorem e_isE {ms : List (Str × Bool)} {C : Str} : dIsE ms C δ Q = ∃ b, (C, b) ∈ ms ∧ Q (.bl b) δ := propext Iff.rfl
theorem s_raise {ex : ExD} {C : Str} {fs : List Str} {t : TDA} {F : DEnds} : dRaise ex C fs t F δ = t δ fun ds δ1 => ds.length = fs.length ∧ ex δ1 C (fs.zip ds) := propext Iff.rfl
end
/-- the first of some texts that is no place -/
def Lost (ps : List Str) (l : List Str) (x : Str) : Prop := ∃ pre post, l = pre ++ x :: post ∧ (∀ y ∈ pre, y ∈ ps) ∧ x ∉ ps
theorem Lost.nil {ps : List Str} {x : Str} (h : Lost ps [] x) : False := by
  obtain ⟨pre, post, e, _⟩ := h
  cases pre <;> cases e
theorem Lost.cons {ps : List Str} {y x : Str} {l : List Str} (h : Lost ps (y :: l) x) : (y = x ∧ x ∉ ps) ∨ (y ∈ ps ∧ Lost ps l x) := by
  obtain ⟨pre, post, e, h1, h2⟩ := h
  cases pre with
  | nil => cases e; exact .inl ⟨rfl, h2⟩
  | cons a r => cases e; exact .inr ⟨h1 _ List.mem_cons_self, r, post, rfl, fun y hy => h1 y (List.mem_cons_of_mem _ hy), h2⟩
section
variable {δ : DSt} {Q : D → DSt → Prop} {F : DEnds}
theorem s_tryM {i : Nat} {exo : ExD} {tb : ExD → TDS} {hs : List ClD} : dTryM i exo tb hs F δ = (noOw δ = true ∧ tb (exTryM i exo F hs) F δ) := propext Iff.rfl
theorem s_tryA {i : Nat} {ms : List (Str × Bool)} {exo : ExD} {tb : ExD → TDS} {ts : Str → List (Str × D) → TDS} : dTryAs i ms exo tb ts F δ = (noOw δ = true ∧ tb (exTry i ms exo ts F) F δ) := propext Iff.rfl
end
/-- the clause that takes the error, the clause that does not -/
theorem ex_hit {i : Nat} {C : Str} {ms : List (Str × Bool)} {r : List ClD} {exo : ExD} {ts : Str → List (Str × D) → TDS} {F : DEnds} {δ : DSt} {fs : List (Str × D)} (hi : i < δ.length) (hm : (C, true) ∈ ms) (k : ∀ a, ts C fs { nx := fun δ2 => F.nx (δ2.set i .no), rt := F.rt, bk := fun δ2 => F.bk (δ2.set i .no), ct := fun δ2 => F.ct (δ2.set i .no) } (δ.set i (.im (.ref a)))) : exTryM i exo F ((ms, ts) :: r) δ C fs :=
  ⟨hi, true, hm, fun _ => k, fun z => by cases z⟩
theorem ex_miss {i : Nat} {C : Str} {ms : List (Str × Bool)} {r : List ClD} {exo : ExD} {ts : Str → List (Str × D) → TDS} {F : DEnds} {δ : DSt} {fs : List (Str × D)} (hi : i < δ.length) (hm : (C, false) ∈ ms) (k : exTryM i exo F r δ C fs) : exTryM i exo F ((ms, ts) :: r) δ C fs :=
  ⟨hi, false, hm, (fun z => by cases z), fun _ => k⟩
def inC (Cs : List Str) (C : Str) : Prop := C ∈ Cs
section
variable {δ : DSt} {Q : D → DSt → Prop}
theorem e_callO {i : Nat} {Cs : List Str} {sd : SpD} {t : TDA} : dCallO i Cs sd t δ Q = dVar i δ fun d δ1 => mX (insOf d) fun p => inC Cs p.1 ∧ t δ1 fun ds δ2 => sd (.ins p.1 p.2 :: ds) fun z => Q z δ2 := by
  have : (fun (d : D) (δ1 : DSt) => match insOf d with | some (C, fs) => C ∈ Cs ∧ t δ1 fun ds δ2 => sd (.ins C fs :: ds) fun z => Q z δ2 | none => False) = fun d δ1 => mX (insOf d) fun p => inC Cs p.1 ∧ t δ1 fun ds δ2 => sd (.ins p.1 p.2 :: ds) fun z => Q z δ2 := by
    funext d δ1; cases insOf d <;> rfl
  exact congrArg (fun K => dVar i δ K) this
theorem e_methS {Cs : List Str} {m : Str} {sd : SpD} {ta : TDE} {t : TDA} : dMethS Cs m sd ta t δ Q = ta δ fun d δ1 => mX (insOf d) fun p => inC Cs p.1 ∧ p.2.lookup m = none ∧ t δ1 fun ds δ2 => sd (.ins p.1 p.2 :: ds) fun z => Q z δ2 := by
  have : (fun (d : D) (δ1 : DSt) => match insOf d with | some (C, fs) => C ∈ Cs ∧ fs.lookup m = none ∧ t δ1 fun ds δ2 => sd (.ins C fs :: ds) fun z => Q z δ2 | none => False) = fun d δ1 => mX (insOf d) fun p => inC Cs p.1 ∧ p.2.lookup m = none ∧ t δ1 fun ds δ2 => sd (.ins p.1 p.2 :: ds) fun z => Q z δ2 := by
    funext d δ1; cases insOf d <;> rfl
  exact congrArg (fun K => ta δ K) this
theorem e_propS {Cs : List Str} {sd : SpD} {ta : TDE} : dPropS Cs sd ta δ Q = ta δ fun d δ1 => mX (insOf d) fun p => inC Cs p.1 ∧ sd [.ins p.1 p.2] fun z => Q z δ1 := by
  have : (fun (d : D) (δ1 : DSt) => match insOf d with | some (C, fs) => C ∈ Cs ∧ sd [.ins C fs] fun z => Q z δ1 | none => False) = fun d δ1 => mX (insOf d) fun p => inC Cs p.1 ∧ sd [.ins p.1 p.2] fun z => Q z δ1 := by
    funext d δ1; cases insOf d <;> rfl
  exact congrArg (fun K => ta δ K) this
end
/-! ### groves as data -/
theorem be_wt : (("own" : Str) == ("own_tree" : Str)) = false := by decide +kernel
theorem ne_wt : ¬ ("own_tree" : Str) = "own" := by decide +kernel
def grvE (C : Str) (ps : List Str) (es : List Ed) (g : D) (qs : List Str) : D := .ins C [("own_tree", treeE ps es g), ("own", dps qs)]
abbrev gCs : List Str := ["Grove", "Made"]
def isG (C : Str) : Prop := C ∈ gCs
theorem ins_grv (C : Str) (ps : List Str) (es : List Ed) (g : D) (qs : List Str) : insOf (grvE C ps es g qs) = some (C, [(("own_tree" : Str), treeE ps es g), (("own" : Str), dps qs)]) := rfl
theorem fld_gtree {C : Str} {ps : List Str} {es : List Ed} {g : D} {qs : List Str} {Q : D → Prop} : fldD "own_tree" ["Grove", "Made"] (grvE C ps es g qs) Q = (isG C ∧ Q (treeE ps es g)) := by
  unfold fldD isG; simp only [ins_grv]; simp [List.lookup_cons]
theorem fld_gown {C : Str} {ps : List Str} {es : List Ed} {g : D} {qs : List Str} {Q : D → Prop} : fldD "own" ["Grove", "Made"] (grvE C ps es g qs) Q = (isG C ∧ Q (dps qs)) := by
  unfold fldD isG; simp only [ins_grv]; simp [List.lookup_cons, be_wt]
theorem grove_in : isG "Grove" := by unfold isG; decide +kernel
local macro_rules | `(tactic| walk_at "dg") => `(tactic| try simp only [↓s_next, ↓s_seq, ↓s_sto, ↓s_drop, ↓s_ret, ↓s_if, ↓s_never, ↓s_asg, ↓s_asgO, ↓s_pars, ↓s_great, ↓g_name, ↓g_nil, ↓g_cons, ↓g_seqT, ↓g_seqL, ↓g_box, ↓for_eq, ↓lc_eq, ↓dc_eq, ↓i_seq, ↓i_enum, ↓i_range1,
  ↓vi0, ↓vo0, ↓ri0, ↓ro0, ↓ol0, ↓as0, ↓vi1, ↓vo1, ↓ri1, ↓ro1, ↓ol1, ↓as1, ↓vi2, ↓vo2, ↓ri2, ↓ro2, ↓ol2, ↓as2, ↓vi3, ↓vo3, ↓ri3, ↓ro3, ↓ol3, ↓as3, ↓vi4, ↓vo4, ↓ri4, ↓ro4, ↓ol4, ↓as4, ↓vi5, ↓vo5, ↓ri5, ↓ro5, ↓ol5, ↓as5, ↓vi6, ↓vo6, ↓ri6, ↓ro6, ↓ol6, ↓as6, ↓vi7, ↓vo7, ↓ri7, ↓ro7, ↓ol7, ↓as7, ↓vi8, ↓vo8, ↓ri8, ↓ro8, ↓ol8, ↓as8, ↓vi9, ↓vo9, ↓ri9, ↓ro9, ↓ol9, ↓as9, ↓vi10, ↓vo10, ↓ri10, ↓ro10, ↓ol10, ↓as10, ↓vi11, ↓vo11, ↓ri11, ↓ro11, ↓ol11, ↓as11, ↓vi12, ↓vo12, ↓ri12, ↓ro12, ↓ol12, ↓as12, ↓vi13, ↓vo13, ↓ri13, ↓ro13, ↓ol13, ↓as13, ↓vi14, ↓vo14, ↓ri14, ↓ro14, ↓ol14, ↓as14, ↓vi15, ↓vo15, ↓ri15, ↓ro15, ↓ol15, ↓as15, ↓vi16, ↓vo16, ↓ri16, ↓ro16, ↓ol16, ↓as16, ↓vi17, ↓vo17, ↓ri17, ↓ro17, ↓ol17, ↓as17, ↓vi18, ↓vo18, ↓ri18, ↓ro18, ↓ol18, ↓as18, ↓vi19, ↓vo19, ↓ri19, ↓ro19, ↓ol19, ↓as19, ↓vi20, ↓vo20, ↓ri20, ↓ro20, ↓ol20, ↓as20, ↓vi21, ↓vo21, ↓ri21, ↓ro21, ↓ol21, ↓as21, ↓vi22, ↓vo22, ↓ri22, ↓ro22, ↓ol22, ↓as22, ↓vi23, ↓vo23, ↓ri23, ↓ro23, ↓ol23, ↓as23, ↓vi24, ↓vo24, ↓ri24, ↓ro24, ↓ol24, ↓as24, ↓vi25, ↓vo25, ↓ri25, ↓ro25, ↓ol25, ↓as25, ↓at_s1, ↓at_s0, ↓at_w1, ↓at_w0, ↓mt_b, ↓mt_l, ↓mt_t, ↓mt_i,
  ↓e_c, ↓e_nil, ↓e_cons, ↓e_tup, ↓e_lst, ↓e_two1, ↓e_two2, ↓e_two3, ↓e_two4, ↓e_bin, ↓e_tbin, ↓e_chain, ↓e_and, ↓e_or, ↓e_not, ↓e_tru1, ↓e_tru2, ↓e_andV, ↓e_orV, ↓e_notV, ↓e_if, ↓e_call, ↓e_p0, ↓e_p1, ↓e_one1, ↓e_one2, ↓e_b1, ↓e_b2, ↓e_tb2, ↓e_sl1, ↓e_sl2, ↓e_append, ↓e_extend, ↓e_popAt, ↓e_yes, ↓e_join, ↓in_strL, ↓in_strT, ↓x_mulS, ↓e_new, ↓e_newV, ↓e_meth, ↓e_prop, ↓e_stat, ↓e_statI, ↓e_clsM, ↓e_evN, ↓e_evI, ↓e_evO, ↓e_boxNew,
  z0, z1, z2, h0, h1, h2, ↓bx0, ↓rgI, ↓sqL, ↓sqT, ↓sqR, ↓enL, ↓enT, ↓lsL, wipeD, e_var, v0, v1, r0, r1, o0, m0, at0, setD, startD, startI, dFldSet,
  List.map_cons, List.map_nil, List.replicate, List.cons_append, List.nil_append, List.length_cons, List.length_nil, List.getElem?_cons_zero, List.getElem?_cons_succ, List.getElem?_nil, List.set_cons_zero, List.set_cons_succ, List.set_nil, Nat.reduceAdd, Nat.reduceSub, Nat.sub_zero, Nat.sub_self, Nat.zero_add, Nat.add_zero,
  true_and, and_true, if_true, if_false, Bool.false_eq_true, Bool.not_true, Bool.not_false, Bool.not_eq_true, decide_true, decide_false, Bool.true_eq_false, reduceCtorEq, ite_true, ite_false, List.mem_cons, List.not_mem_nil, or_false, beq_self_eq_true, Nat.reduceLT, Nat.reduceLeDiff, Int.reduceLT, Int.reduceLE, Int.reduceAdd, Int.reduceSub, Int.reduceMul, Int.reducePow, Int.reduceToNat, Int.reduceEq, Int.reduceNeg, Int.reduceMod, Int.reduceDiv, Nat.reduceEqDiff, and_self, Bool.not_not,
  ↓x_bl, x_truB, x_truL, x_truT, x_truI, ↓x_eqI, ↓x_eqS, ↓x_eqB, ↓x_neI, ↓x_neS, ↓x_neB, ↓x_addI, ↓x_addL, ↓x_addT, ↓x_addS, ↓x_subI, ↓x_mulI, ↓x_modI, ↓x_fdivI, ↓x_powI, ↓x_lt, ↓x_le, ↓x_gt, ↓x_ge, ↓x_ltP, ↓x_leP, ↓x_gtP, ↓x_geP, ↓x_lenL, ↓x_lenT, ↓x_lenS, ↓x_tupL, ↓x_tupT, ↓x_lisL, ↓x_lisT, ↓x_rev, ↓x_intI, ↓x_intB, ↓x_abs, ↓x_min, ↓x_max, ↓x_is, ↓x_isNot, x_isN0, x_isN1, x_isN2, x_isN3, x_isN4, ↓x_nil, ↓x_nnil, ↓x_ix0, ↓x_ix1, ↓x_ix2, ↓x_ix3, ↓x_ix4, ↓x_ix5, ↓x_ix6, ↓x_ix7, ↓x_it0, ↓x_it1, ↓x_it2, ↓x_ixB, x_kn, x_ks, x_kt, ↓x_slL, ↓x_slT, ↓x_slS, ↓x_slR,
  ↓s_aug, ↓g_put, ↓g_item, ↓e_callB, ↓e_disp, ↓e_ps0, ↓e_ps1, ↓i_str, ↓i_range2, ↓e_get2, ↓e_step, ↓x_step, ↓e_f1, ↓e_fstr, ↓e_fs0, ↓e_fs1, ↓e_fs2, ↓x_repr, ↓x_strI, ↓x_strS, ↓x_onStr, ↓x_onInt, ↓oa0, ↓od0, ↓oa1, ↓od1, ↓oa2, ↓od2, ↓oa3, ↓od3, ↓oa4, ↓od4, ↓oa5, ↓od5, ↓oa6, ↓od6, ↓oa7, ↓od7, ↓oa8, ↓od8, ↓oa9, ↓od9, ↓oa10, ↓od10, ↓oa11, ↓od11, ↓oa12, ↓od12, h3, h4, x_ko0, x_ko1, x_ko2, ↓x_ixK, ↓x_ixZ, ↓x_inK, ↓x_listK, ↓x_listZ, ↓x_listT, ↓x_isS, ↓x_isT, ↓x_inS, ↓g_ed, ↓in_ed, ↓word_at, ↓fld_places, ↓fld_edges, ↓fld_near, ↓fld_gaps, ↓isi_tree, ins_tree, ↓take_at, ↓mixed_at, ↓mixed_atT, ↓names_at, ↓tree_at, ↓e_callX, ↓e_methX, ↓s_raise, ↓e_xf, ↓e_isE, List.zip_cons_cons, List.zip_nil_left, List.zip_nil_right, ↓s_tryM, ↓s_tryA, dps, des, ↓e_callO, ↓e_methS, ↓e_propS, ins_grv, ↓fld_gtree, ↓fld_gown])

/-! ### groves: the program's defs -/
theorem gap_at {ps : List Str} {es : List Ed} {g : D} {a : Str} {Q : D → Prop} (t : IsTree ps es) (hg : GpOk ps es g) (ha : a ∈ ps) (q : ∀ m, (∀ b ∈ ps, ∀ R : D → Prop, R (.int (dst ps es a b)) → ixX m (.str b) R) → Q m) : ixX g (.str a) Q := by
  obtain ⟨w, f, hF, rfl⟩ := hg
  rw [x_ixK, look_map (v := fun s => D.dct (gD (w s) (f s))), if_pos ha]
  refine q _ fun b hb R r => ?_
  rw [x_ixK, gD_look, if_pos ((hF a ha).all b hb), dst_of t (hF a ha) b hb]
  exact r
theorem gap2 {ps : List Str} {es : List Ed} {g : D} {a b : Str} {R : D → Prop} (t : IsTree ps es) (hg : GpOk ps es g) (ha : a ∈ ps) (hb : b ∈ ps) (r : R (.int (dst ps es a b))) : ixX g (.str a) fun m => ixX m (.str b) R := gap_at t hg ha fun m hm => hm b hb _ r
def sd_is_between : SpD := fun ds Q => ∃ ps es g a x b, ds = [treeE ps es g, .str a, .str x, .str b] ∧ IsTree ps es ∧ GpOk ps es g ∧ a ∈ ps ∧ x ∈ ps ∧ b ∈ ps ∧ Q (.bl (decide (btw ps es x a b)))
theorem len_is_between (ds : List D) (Q : D → Prop) (h : sd_is_between ds Q) : ds.length = 4 := by obtain ⟨_, _, _, _, _, _, rfl, _⟩ := h; rfl
abbrev N_is_between : List Str := ["tree", "one", "place", "other"]
theorem sc_is_between : FnScope N_is_between ["tree", "one", "place", "other"] (defScope st_is_between) := ⟨rfl, rfl, rfl, by decide +kernel, rfl, by decide +kernel, by decide +kernel⟩
def t_is_between : TDS :=
  dRet (dBin (eqX) (.ex (dBin addX (.ex (dBin ixX (.ex (dBin ixX (.ex (dB1 (fldD "gaps" ["Tree"]) (.sl 0))) (.sl 1))) (.sl 2))) (.ex (dBin ixX (.ex (dBin ixX (.ex (dB1 (fldD "gaps" ["Tree"]) (.sl 0))) (.sl 2))) (.sl 3))))) (.ex (dBin ixX (.ex (dBin ixX (.ex (dB1 (fldD "gaps" ["Tree"]) (.sl 0))) (.sl 1))) (.sl 3))))
theorem pure_is_between (ds : List D) (Q : D → Prop) (h : sd_is_between ds Q) : t_is_between (ends Q) (startD 4 ds) := by
  obtain ⟨ps, es, g, a, x, b, rfl, t, hg, ha, hx, hb, q⟩ := h
  unfold t_is_between
  walk_at "dg"
  refine gap2 t hg ha hx ?_
  walk_at "dg"
  refine gap2 t hg hx hb ?_
  walk_at "dg"
  refine gap2 t hg ha hb ?_
  walk_at "dg"
  exact q
def sd_gate_of : SpD := fun ds Q => ∃ ps es g qs p, ds = [treeE ps es g, dps qs, .str p] ∧ IsTree ps es ∧ GpOk ps es g ∧ Cvx ps es qs ∧ qs ≠ [] ∧ p ∈ ps ∧ Q (.str (gt ps es qs p))
theorem len_gate_of (ds : List D) (Q : D → Prop) (h : sd_gate_of ds Q) : ds.length = 3 := by obtain ⟨_, _, _, _, _, rfl, _⟩ := h; rfl
theorem ix_head {l : List Str} {Q : D → Prop} (h : l ≠ []) (q : Q (.str (l.headD ""))) : ixX (.tup (l.map D.str)) (.int 0) Q := by
  cases l with
  | nil => exact absurd rfl h
  | cons a r => exact x_it0 ▸ q
abbrev N_gate_of : List Str := ["tree", "places", "place", "gaps", "best", "one"]
theorem sc_gate_of : FnScope N_gate_of ["tree", "places", "place"] (defScope st_gate_of) := ⟨rfl, rfl, rfl, by decide +kernel, rfl, by decide +kernel, by decide +kernel⟩
def t_gate_of : TDS :=
  dSeq (dPars [.im (dBin ixX (.ex (dB1 (fldD "gaps" ["Tree"]) (.sl 0))) (.sl 2)), .im (dBin ixX (.sl 1) (.ex (dC (.int 0))))] [3, 4])
  (dSeq (dFor (iSeq (dVar 1)) (dgName 5) (dIfS (dtBin (ltD) (.ex (dBin ixX (.sl 3) (.sl 5))) (.ex (dBin ixX (.sl 3) (.sl 4)))) (dAsg (dVar 5) 4) (dNext)))
  (dRet (dVar 4)))
theorem pure_gate_of (ds : List D) (Q : D → Prop) (h : sd_gate_of ds Q) : t_gate_of (ends Q) (startD 6 ds) := by
  obtain ⟨ps, es, g, qs, p, rfl, t, hg, c, hn, hp, q⟩ := h
  have tr := tr_of t hg
  unfold t_gate_of
  walk_at "dg"
  refine gap_at t hg hp fun m hm => ?_
  refine ix_head hn ?_
  walk_at "dg"
  refine for_go (fun j δ => ∃ b c5, (b ∈ qs ∧ ∀ y ∈ qs.take j, dst ps es p b ≤ dst ps es p y) ∧ δ = [.im (treeE ps es g), .im (.tup (qs.map D.str)), .im (.str p), .im m, .im (.str b), c5]) ⟨_, _, ⟨head_mem hn, by simp⟩, rfl⟩ ?_ ?_
  · rintro j d δ' hd ⟨b, c5, ⟨hb, hmin⟩, rfl⟩
    rw [List.getElem?_map, Option.map_eq_some_iff] at hd
    obtain ⟨x, hx, rfl⟩ := hd
    have hxq := List.mem_of_getElem? hx
    walk_at "dg"
    refine hm x (c.sub x hxq) _ ?_
    refine hm b (c.sub b hb) _ ?_
    walk_at "dg"
    refine if_b (fun h1 => ?_) (fun h1 => ?_)
    · have h1 := of_decide_eq_true h1
      refine ⟨x, _, ⟨hxq, fun y hy => ?_⟩, rfl⟩
      rw [List.take_succ, hx] at hy
      rcases List.mem_append.mp hy with hy | hy
      · have := hmin y hy; omega
      · have : y = x := by simpa using hy
        rw [this]; omega
    · have h1 := of_decide_eq_false h1
      refine ⟨b, _, ⟨hb, fun y hy => ?_⟩, rfl⟩
      rw [List.take_succ, hx] at hy
      rcases List.mem_append.mp hy with hy | hy
      · exact hmin y hy
      · have : y = x := by simpa using hy
        rw [this]; omega
  · rintro δ' ⟨b, c5, ⟨hb, hmin⟩, rfl⟩
    rw [List.length_map, List.take_length] at hmin
    walk_at "dg"
    rw [tr.gt_of c hp (tr.gt_min c hp hb hmin)] at q
    exact q

theorem ownIn_tree {ps : List Str} {es : List Ed} {g : D} {a : Str} {neg : Bool} {Q : D → Prop} (q : Q (.bl (if neg = true then !decide (a ∈ ps) else decide (a ∈ ps)))) : ownIn "Tree" sd_Tree___contains__ neg (.str a) (treeE ps es g) Q := by
  unfold ownIn
  simp only [ins_tree, true_and]
  exact ⟨ps, es, g, .str a, rfl, rfl, by show (0 : Nat) ≤ 64; decide, q⟩
def sd_Grove___init__ : SpI := fun ds Q => ∃ ps es g xs, ds = [treeE ps es g, dps xs] ∧ IsTree ps es ∧ GpOk ps es g ∧ (∀ x ∈ xs, x ∈ ps) ∧ xs.length ≤ 1000 ∧ Cvx ps es (ps.filter fun x => decide (x ∈ xs)) ∧ Q [("own_tree", treeE ps es g), ("own", dps (ps.filter fun x => decide (x ∈ xs)))]
theorem len_Grove___init__ (ds : List D) (Q : List (Str × D) → Prop) (h : sd_Grove___init__ ds Q) : ds.length + 1 = 3 := by obtain ⟨_, _, _, _, rfl, _⟩ := h; rfl
abbrev N_Grove___init__ : List Str := ["self", "tree", "places", "place", "own", "other"]
theorem sc_Grove___init__ : FnScope N_Grove___init__ ["self", "tree", "places"] (defScope st_Grove___init__) := ⟨rfl, rfl, rfl, by decide +kernel, rfl, by decide +kernel, by decide +kernel⟩
def t_Grove___init__ : TDS :=
  dSeq (dFor (iSeq (dVar 2)) (dgName 3) (dIfS (dtB2 (ownIn "Tree" sd_Tree___contains__ true) (dVar 3) (dVar 1)) (dNever) (dNext)))
  (dSeq (dAsg (dB1 tupleD (.ex (dLc (iSeq (dB1 (fldD "own_places" ["Tree"]) (.sl 1))) (dgName 3) (dtBin (inX false) (.sl 3) (.sl 2)) (dVar 3) [3]))) 4)
  (dSeq (dFor (iSeq (dVar 4)) (dgName 5) (dFor (iSeq (dB1 (fldD "own_places" ["Tree"]) (.sl 1))) (dgName 3) (dIfS (dAnd (dTru (.ex (dCall sd_is_between (dCons (dVar 1) (dCons (dBin ixX (.sl 4) (.ex (dC (.int 0)))) (dCons (dVar 3) (dCons (dVar 5) (dNil)))))))) (dtBin (inX true) (.sl 3) (.sl 4))) (dNever) (dNext))))
  (dSeq (dFldSet 0 "own_tree" ["Grove", "Made"] (dVar 1))
  (dFldSet 0 "own" ["Grove", "Made"] (dVar 4)))))
theorem pure_Grove___init__ (y : Addr) (ds : List D) (Q : List (Str × D) → Prop) (h : sd_Grove___init__ ds Q) : t_Grove___init__ { nx := fun δ => ∃ fs, δ[0]? = some (.ow (.self y "Grove" fs)) ∧ Q fs, rt := fun _ _ => False } (startI 6 y "Grove" ds) := by
  obtain ⟨ps, es, g, xs, rfl, t, hg, hx, hl, c, q⟩ := h
  have hh := t.hi
  unfold t_Grove___init__
  walk_at "dg"
  refine for_go (fun j δ => ∃ c3, δ = [.ow (.self y "Grove" []), .im (treeE ps es g), .im (.tup (xs.map D.str)), c3, .no, .no]) ⟨_, rfl⟩ ?_ ?_
  · rintro j d δ' hd ⟨c3, rfl⟩
    rw [List.getElem?_map, Option.map_eq_some_iff] at hd
    obtain ⟨x, hxj, rfl⟩ := hd
    walk_at "dg"
    refine ownIn_tree ?_
    walk_at "dg"
    exact if_f (nd (hx x (List.mem_of_getElem? hxj))) ⟨_, rfl⟩
  rintro δ' ⟨c3, rfl⟩
  walk_at "dg"
  refine lc_go ps D.str (fun x => decide (x ∈ xs)) D.str rfl (by omega) (fun x hx K1 K2 k1 k2 => ?_) ?_
  · walk_at "dg"
    exact if_b k1 k2
  walk_at "dg"
  generalize (ps.filter fun x => decide (x ∈ xs)) = qs at c q
  refine for_go (fun j δ => ∃ c3 c5, δ = [.ow (.self y "Grove" []), .im (treeE ps es g), .im (.tup (xs.map D.str)), c3, .im (.tup (qs.map D.str)), c5]) ⟨_, _, rfl⟩ ?_ ?_
  · rintro j d δ' hd ⟨c3, c5, rfl⟩
    rw [List.getElem?_map, Option.map_eq_some_iff] at hd
    obtain ⟨b, hbj, rfl⟩ := hd
    have hb := List.mem_of_getElem? hbj
    have hne : qs ≠ [] := by rintro rfl; cases hb
    walk_at "dg"
    refine for_go (fun j δ => ∃ c3, δ = [.ow (.self y "Grove" []), .im (treeE ps es g), .im (.tup (xs.map D.str)), c3, .im (.tup (qs.map D.str)), .im (.str b)]) ⟨_, rfl⟩ ?_ ?_
    · rintro j d δ' hd ⟨c3, rfl⟩
      rw [List.getElem?_map, Option.map_eq_some_iff] at hd
      obtain ⟨x, hxj, rfl⟩ := hd
      have hx := List.mem_of_getElem? hxj
      walk_at "dg"
      refine ix_head hne ⟨ps, es, g, _, x, b, rfl, t, hg, c.sub _ (head_mem hne), hx, c.sub b hb, ?_⟩
      walk_at "dg"
      refine and2 (fun h1 => nd ?_) ⟨_, rfl⟩
      exact c.cvx _ (head_mem hne) b hb x hx (of_decide_eq_true h1)
    · rintro δ' ⟨c3, rfl⟩
      exact ⟨_, _, rfl⟩
  · rintro δ' ⟨c3, c5, rfl⟩
    walk_at "dg"
    have e0 : ∀ a b : D, putFD "own" b (putFD "own_tree" a []) = [(("own_tree" : Str), a), (("own" : Str), b)] := fun a b => by simp [putFD, ne_wt]
    exact ⟨.inl trivial, .inl trivial, by simp [putFD], _, rfl, by rw [e0]; exact q⟩

section
variable {δ : DSt}
theorem i_bor {i : Nat} {l : Addr} {ss : List Str} {R : List D → DSt → Prop} : iBor i l ss δ R = (δ[i]? = some (.im (.ref l)) ∧ R (ss.map D.str) δ) := propext Iff.rfl
end
theorem x_bor {l : Addr} {ss : List Str} {g : Op2} {a : D} {Q : D → Prop} : borR l ss g a (.ref l) Q = g a (.lst (ss.map D.str)) Q := by unfold borR; simp
/-! the ground: places, edges, neighbours, distances -/
def grdK (ps : List Str) (es : List Ed) (g : D) : List (Key × D) := [(kS "places", dps ps), (kS "edges", des es), (kS "near", .dct (nrL ps es)), (kS "gaps", g)]
def grdE (ps : List Str) (es : List Ed) (g : D) : D := .dct (grdK ps es g)
theorem grd_places {ps : List Str} {es : List Ed} {g : D} : lookD (grdK ps es g) (kS "places") = some (dps ps) := rfl
theorem grd_edges {ps : List Str} {es : List Ed} {g : D} : lookD (grdK ps es g) (kS "edges") = some (des es) := rfl
theorem grd_near {ps : List Str} {es : List Ed} {g : D} : lookD (grdK ps es g) (kS "near") = some (.dct (nrL ps es)) := rfl
theorem grd_gaps {ps : List Str} {es : List Ed} {g : D} : lookD (grdK ps es g) (kS "gaps") = some g := rfl
theorem ix_grd {ps : List Str} {es : List Ed} {g : D} {s : Str} {Q : D → Prop} : ixX (grdE ps es g) (.str s) Q = mX (lookD (grdK ps es g) (kS s)) Q := x_ixK
theorem grd_merge {ps : List Str} {es : List Ed} {g : D} : mergeD [] [(kS "places", D.tup (ps.map D.str)), (kS "edges", D.tup (es.map edD)), (kS "near", .dct (nrL ps es)), (kS "gaps", g)] = grdK ps es g := rfl
theorem gp_of {ps : List Str} {es : List Ed} {v : Str → D} (h : ∀ s ∈ ps, ∃ w f, Far ps es s w f ∧ v s = .dct (gD w f)) : GpOk ps es (.dct (ps.map fun p => (kS p, v p))) := by
  refine ⟨fun s => if h' : s ∈ ps then (h s h').choose else [], fun s => if h' : s ∈ ps then (h s h').choose_spec.choose else fun _ => 0, fun s h' => ?_, ?_⟩
  · simp only [dif_pos h']
    exact (h s h').choose_spec.choose_spec.1
  · congr 1
    refine List.map_congr_left fun s h' => ?_
    simp only [dif_pos h']
    rw [← (h s h').choose_spec.choose_spec.2]

local macro_rules | `(tactic| walk_at "dh") => `(tactic| try simp only [↓s_next, ↓s_seq, ↓s_sto, ↓s_drop, ↓s_ret, ↓s_if, ↓s_never, ↓s_asg, ↓s_asgO, ↓s_pars, ↓s_great, ↓g_name, ↓g_nil, ↓g_cons, ↓g_seqT, ↓g_seqL, ↓g_box, ↓for_eq, ↓lc_eq, ↓dc_eq, ↓i_seq, ↓i_enum, ↓i_range1,
  ↓vi0, ↓vo0, ↓ri0, ↓ro0, ↓ol0, ↓as0, ↓vi1, ↓vo1, ↓ri1, ↓ro1, ↓ol1, ↓as1, ↓vi2, ↓vo2, ↓ri2, ↓ro2, ↓ol2, ↓as2, ↓vi3, ↓vo3, ↓ri3, ↓ro3, ↓ol3, ↓as3, ↓vi4, ↓vo4, ↓ri4, ↓ro4, ↓ol4, ↓as4, ↓vi5, ↓vo5, ↓ri5, ↓ro5, ↓ol5, ↓as5, ↓vi6, ↓vo6, ↓ri6, ↓ro6, ↓ol6, ↓as6, ↓vi7, ↓vo7, ↓ri7, ↓ro7, ↓ol7, ↓as7, ↓vi8, ↓vo8, ↓ri8, ↓ro8, ↓ol8, ↓as8, ↓vi9, ↓vo9, ↓ri9, ↓ro9, ↓ol9, ↓as9, ↓vi10, ↓vo10, ↓ri10, ↓ro10, ↓ol10, ↓as10, ↓vi11, ↓vo11, ↓ri11, ↓ro11, ↓ol11, ↓as11, ↓vi12, ↓vo12, ↓ri12, ↓ro12, ↓ol12, ↓as12, ↓vi13, ↓vo13, ↓ri13, ↓ro13, ↓ol13, ↓as13, ↓vi14, ↓vo14, ↓ri14, ↓ro14, ↓ol14, ↓as14, ↓vi15, ↓vo15, ↓ri15, ↓ro15, ↓ol15, ↓as15, ↓vi16, ↓vo16, ↓ri16, ↓ro16, ↓ol16, ↓as16, ↓vi17, ↓vo17, ↓ri17, ↓ro17, ↓ol17, ↓as17, ↓vi18, ↓vo18, ↓ri18, ↓ro18, ↓ol18, ↓as18, ↓vi19, ↓vo19, ↓ri19, ↓ro19, ↓ol19, ↓as19, ↓vi20, ↓vo20, ↓ri20, ↓ro20, ↓ol20, ↓as20, ↓vi21, ↓vo21, ↓ri21, ↓ro21, ↓ol21, ↓as21, ↓vi22, ↓vo22, ↓ri22, ↓ro22, ↓ol22, ↓as22, ↓vi23, ↓vo23, ↓ri23, ↓ro23, ↓ol23, ↓as23, ↓vi24, ↓vo24, ↓ri24, ↓ro24, ↓ol24, ↓as24, ↓vi25, ↓vo25, ↓ri25, ↓ro25, ↓ol25, ↓as25, ↓at_s1, ↓at_s0, ↓at_w1, ↓at_w0, ↓mt_b, ↓mt_l, ↓mt_t, ↓mt_i,
  ↓e_c, ↓e_nil, ↓e_cons, ↓e_tup, ↓e_lst, ↓e_two1, ↓e_two2, ↓e_two3, ↓e_two4, ↓e_bin, ↓e_tbin, ↓e_chain, ↓e_and, ↓e_or, ↓e_not, ↓e_tru1, ↓e_tru2, ↓e_andV, ↓e_orV, ↓e_notV, ↓e_if, ↓e_call, ↓e_p0, ↓e_p1, ↓e_one1, ↓e_one2, ↓e_b1, ↓e_b2, ↓e_tb2, ↓e_sl1, ↓e_sl2, ↓e_append, ↓e_extend, ↓e_popAt, ↓e_yes, ↓e_join, ↓in_strL, ↓in_strT, ↓x_mulS, ↓e_new, ↓e_newV, ↓e_meth, ↓e_prop, ↓e_stat, ↓e_statI, ↓e_clsM, ↓e_evN, ↓e_evI, ↓e_evO, ↓e_boxNew,
  z0, z1, z2, h0, h1, h2, ↓bx0, ↓rgI, ↓sqL, ↓sqT, ↓sqR, ↓enL, ↓enT, ↓lsL, wipeD, e_var, v0, v1, r0, r1, o0, m0, at0, setD, startD, startI, dFldSet,
  List.map_cons, List.map_nil, List.replicate, List.cons_append, List.nil_append, List.length_cons, List.length_nil, List.getElem?_cons_zero, List.getElem?_cons_succ, List.getElem?_nil, List.set_cons_zero, List.set_cons_succ, List.set_nil, Nat.reduceAdd, Nat.reduceSub, Nat.sub_zero, Nat.sub_self, Nat.zero_add, Nat.add_zero,
  true_and, and_true, if_true, if_false, Bool.false_eq_true, Bool.not_true, Bool.not_false, Bool.not_eq_true, decide_true, decide_false, Bool.true_eq_false, reduceCtorEq, ite_true, ite_false, List.mem_cons, List.not_mem_nil, or_false, beq_self_eq_true, Nat.reduceLT, Nat.reduceLeDiff, Int.reduceLT, Int.reduceLE, Int.reduceAdd, Int.reduceSub, Int.reduceMul, Int.reducePow, Int.reduceToNat, Int.reduceEq, Int.reduceNeg, Int.reduceMod, Int.reduceDiv, Nat.reduceEqDiff, and_self, Bool.not_not,
  ↓x_bl, x_truB, x_truL, x_truT, x_truI, ↓x_eqI, ↓x_eqS, ↓x_eqB, ↓x_neI, ↓x_neS, ↓x_neB, ↓x_addI, ↓x_addL, ↓x_addT, ↓x_addS, ↓x_subI, ↓x_mulI, ↓x_modI, ↓x_fdivI, ↓x_powI, ↓x_lt, ↓x_le, ↓x_gt, ↓x_ge, ↓x_ltP, ↓x_leP, ↓x_gtP, ↓x_geP, ↓x_lenL, ↓x_lenT, ↓x_lenS, ↓x_tupL, ↓x_tupT, ↓x_lisL, ↓x_lisT, ↓x_rev, ↓x_intI, ↓x_intB, ↓x_abs, ↓x_min, ↓x_max, ↓x_is, ↓x_isNot, x_isN0, x_isN1, x_isN2, x_isN3, x_isN4, ↓x_nil, ↓x_nnil, ↓x_ix0, ↓x_ix1, ↓x_ix2, ↓x_ix3, ↓x_ix4, ↓x_ix5, ↓x_ix6, ↓x_ix7, ↓x_it0, ↓x_it1, ↓x_it2, ↓x_ixB, x_kn, x_ks, x_kt, ↓x_slL, ↓x_slT, ↓x_slS, ↓x_slR,
  ↓s_aug, ↓g_put, ↓g_item, ↓e_callB, ↓e_disp, ↓e_ps0, ↓e_ps1, ↓i_str, ↓i_range2, ↓e_get2, ↓e_step, ↓x_step, ↓e_f1, ↓e_fstr, ↓e_fs0, ↓e_fs1, ↓e_fs2, ↓x_repr, ↓x_strI, ↓x_strS, ↓x_onStr, ↓x_onInt, ↓oa0, ↓od0, ↓oa1, ↓od1, ↓oa2, ↓od2, ↓oa3, ↓od3, ↓oa4, ↓od4, ↓oa5, ↓od5, ↓oa6, ↓od6, ↓oa7, ↓od7, ↓oa8, ↓od8, ↓oa9, ↓od9, ↓oa10, ↓od10, ↓oa11, ↓od11, ↓oa12, ↓od12, h3, h4, x_ko0, x_ko1, x_ko2, ↓x_ixK, ↓x_ixZ, ↓x_inK, ↓x_listK, ↓x_listZ, ↓x_listT, ↓x_isS, ↓x_isT, ↓x_inS, ↓g_ed, ↓in_ed, ↓word_at, ↓fld_places, ↓fld_edges, ↓fld_near, ↓fld_gaps, ↓isi_tree, ins_tree, ↓take_at, ↓mixed_at, ↓mixed_atT, ↓names_at, ↓tree_at, ↓e_callX, ↓e_methX, ↓s_raise, ↓e_xf, ↓e_isE, List.zip_cons_cons, List.zip_nil_left, List.zip_nil_right, ↓s_tryM, ↓s_tryA, dps, des, ↓e_callO, ↓e_methS, ↓e_propS, ins_grv, ↓fld_gtree, ↓fld_gown, ↓i_bor, ↓x_bor, eq_self, ↓ix_grd, grd_places, grd_edges, grd_near, grd_gaps])

def sd__law_size : SpD := fun ds Q => ∃ a, ds = [.box a] ∧ ∀ m : Int, (m = 5 ∨ m = 12 ∨ m = 40) → Q (.int m)
theorem len__law_size (ds : List D) (Q : D → Prop) (h : sd__law_size ds Q) : ds.length = 1 := by obtain ⟨a, rfl, _⟩ := h; rfl
abbrev N__law_size : List Str := ["_law_box_here"]
theorem sc__law_size : FnScope N__law_size ["_law_box_here"] (defScope st__law_size) := ⟨rfl, rfl, rfl, by decide +kernel, rfl, by decide +kernel, by decide +kernel⟩
def t__law_size : TDS :=
  dRet (dBin ixX (.ex (dLst (dCons (dC (.int 12)) (dCons (dC (.int 12)) (dCons (dC (.int 12)) (dCons (dC (.int 5)) (dCons (dC (.int 12)) (dCons (dC (.int 12)) (dCons (dC (.int 12)) (dCons (dC (.int 40)) (dNil))))))))))) (.ex (dCall sd__law_take (dCons (dVar 0) (dCons (dC (.int 8)) (dNil))))))
theorem pure__law_size (ds : List D) (Q : D → Prop) (h : sd__law_size ds Q) : t__law_size (ends Q) (startD 1 ds) := by
  obtain ⟨a, rfl, q⟩ := h
  unfold t__law_size
  walk_at "dh"
  intro i i0 i1
  refine ix_lst i0 (by simpa using i1) fun d hd => ?_
  obtain ⟨k, rfl⟩ := Int.eq_ofNat_of_zero_le i0
  rw [Int.toNat_natCast] at hd
  have hk : k < 8 := by omega
  match k, hk, hd with
  | 0, _, hd => cases hd; exact q 12 (by omega)
  | 1, _, hd => cases hd; exact q 12 (by omega)
  | 2, _, hd => cases hd; exact q 12 (by omega)
  | 3, _, hd => cases hd; exact q 5 (by omega)
  | 4, _, hd => cases hd; exact q 12 (by omega)
  | 5, _, hd => cases hd; exact q 12 (by omega)
  | 6, _, hd => cases hd; exact q 12 (by omega)
  | 7, _, hd => cases hd; exact q 40 (by omega)
def sd__law_ground : SpD := fun ds Q => ∃ x m, ds = [.box x, .int m] ∧ 1 ≤ m ∧ m ≤ 40 ∧ ∀ ps es g, IsTree ps es → (∀ p ∈ ps, isNm p) → GpOk ps es g → Q (grdE ps es g)
theorem len__law_ground (ds : List D) (Q : D → Prop) (h : sd__law_ground ds Q) : ds.length = 2 := by obtain ⟨a, m, rfl, _⟩ := h; rfl
abbrev N__law_ground : List Str := ["_law_box_here", "_law_most", "_law_places", "_law_edges", "_law_near_here", "_law_gaps_here", "_law_place"]
theorem sc__law_ground : FnScope N__law_ground ["_law_box_here", "_law_most"] (defScope st__law_ground) := ⟨rfl, rfl, rfl, by decide +kernel, rfl, by decide +kernel, by decide +kernel⟩
def t__law_ground : TDS :=
  dSeq (dSto (dCall sd__law_tree (dCons (dVar 0) (dCons (dVar 1) (dNil)))) (dgSeq 2 (dgCons (dgName 2) (dgCons (dgName 3) (dgNil)))))
  (dSeq (dPars [.im (dCall sd__law_near (dCons (dVar 2) (dCons (dVar 3) (dNil)))), .ow (fun δ Q => Q (.dct []) δ)] [4, 5])
  (dSeq (dFor (iSeq (dVar 2)) (dgName 6) (dSto (dCall sd__law_gaps (dCons (dVar 4) (dCons (dVar 6) (dNil)))) (dgPut 5 (dVar 6))))
  (dRet (dDisp [(dC (.str "places"), dVar 2), (dC (.str "edges"), dVar 3), (dC (.str "near"), dVar 4), (dC (.str "gaps"), dVar 5)]))))
theorem pure__law_ground (ds : List D) (Q : D → Prop) (h : sd__law_ground ds Q) : t__law_ground (ends Q) (startD 7 ds) := by
  obtain ⟨x, m, rfl, m1, m2, q⟩ := h
  unfold t__law_ground
  walk_at "dh"
  refine ⟨m1, m2, fun ps es t hnm => ?_⟩
  have hhi := t.hi
  walk_at "dh"
  refine ⟨ps, es, rfl, t.nd, t.hi, ?_⟩
  walk_at "dh"
  refine for_go (fun (j : Nat) (δ : DSt) => ∃ v c6, δ = [.im (.box x), .im (.int m), .im (.tup (ps.map D.str)), .im (.tup (es.map edD)), .im (.dct (nrL ps es)), .ow (.dct ((ps.take j).map fun p => (kS p, v p))), c6] ∧ ∀ s ∈ ps.take j, ∃ w f, Far ps es s w f ∧ v s = .dct (gD w f)) ⟨fun _ => .non, _, rfl, fun s h => by simp at h⟩ ?_ ?_
  · rintro j d δ' hd ⟨v, c6, rfl, hv⟩
    rw [List.getElem?_map] at hd
    cases hp : ps[j]? with
    | none => rw [hp] at hd; cases hd
    | some p =>
      rw [hp] at hd
      cases hd
      have hm := List.mem_of_getElem? hp
      have hn := take_nodup t.nd hp
      walk_at "dh"
      refine ⟨ps, es, p, rfl, t, hm, fun w f hF => ?_⟩
      walk_at "dh"
      rw [x_putK (by rw [List.length_map, List.length_take]; omega), put_new hn]
      walk_at "dh"
      refine ⟨fun y => if y = p then .dct (gD w f) else v y, .im (.str p), ?_, fun s hs => ?_⟩
      · rw [List.take_succ, hp]
        simp only [Option.toList_some, List.map_append, List.map_cons, List.map_nil, if_true]
        have : (ps.take j).map (fun q => (kS q, if q = p then D.dct (gD w f) else v q)) = (ps.take j).map fun q => (kS q, v q) := List.map_congr_left fun q hq => by rw [if_neg (fun e : q = p => hn (e ▸ hq))]
        rw [this]
      · rw [List.take_succ, hp] at hs
        rcases List.mem_append.mp hs with h | h
        · obtain ⟨w', f', h1, h2⟩ := hv s h
          exact ⟨w', f', h1, by dsimp only; rw [if_neg (fun e : s = p => hn (e ▸ h))]; exact h2⟩
        · have : s = p := by simpa using h
          subst this
          exact ⟨w, f, hF, by dsimp only; rw [if_pos rfl]⟩
  · rintro δ' ⟨v, c6, rfl, hv⟩
    rw [List.length_map, List.take_length] at hv ⊢
    walk_at "dh"
    rw [grd_merge]
    exact q ps es _ t hnm (gp_of hv)
section
variable {ps : List Str} {es : List Ed} (t : Tr ps es)
include t
theorem Tr.cvx_grow {hs : List Str} {h x : Str} (c : Cvx ps es hs) (hh : h ∈ hs) (hx : x ∈ ps) (hn : x ∉ hs) (hadj : adj es h x = true) : Cvx ps es (hs ++ [x]) := by
  have hhp := c.sub h hh
  have one := t.one_of_adj hadj
  have key : ∀ a ∈ hs, ∀ y ∈ ps, btw ps es y a x → y ∈ hs ++ [x] := fun a ha y hy hb => by
    have hap := c.sub a ha
    by_cases hyx : y = x
    · rw [hyx]; simp
    · rcases t.step hap hadj with h1 | h1
      · have b1 : btw ps es h a x := by unfold btw; omega
        have p1 := t.pos hx hy hyx
        have p2 := t.symm hx hy
        have b2 : dst ps es a y ≤ dst ps es a h := by unfold btw at hb; omega
        exact List.mem_append_left _ (c.cvx a ha h hh y hy (t.btw_ord hap hx hy hhp hb b1 b2))
      · have p2 := t.symm hhp hx
        exact absurd (c.cvx a ha h hh x hx (by unfold btw; omega)) hn
  refine ⟨fun y hy => (List.mem_append.mp hy).elim (c.sub y) fun h => by rw [List.mem_singleton.mp h]; exact hx, fun a ha b hb y hy hbt => ?_⟩
  rcases List.mem_append.mp ha with ha | ha
  · rcases List.mem_append.mp hb with hb | hb
    · exact List.mem_append_left _ (c.cvx a ha b hb y hy hbt)
    · rw [List.mem_singleton.mp hb] at hbt
      exact key a ha y hy hbt
  · rw [List.mem_singleton.mp ha] at hbt
    rcases List.mem_append.mp hb with hb | hb
    · exact key b hb y hy ((t.btw_symm hy hx (c.sub b hb)).mp hbt)
    · rw [List.mem_singleton.mp hb] at hbt
      exact List.mem_append_right _ ((t.single hx).cvx x (List.mem_singleton.mpr rfl) x (List.mem_singleton.mpr rfl) y hy hbt)
omit t in
theorem grv_of {hs : List Str} (c : Cvx ps es hs) : Grv ps es (ps.filter fun x => decide (x ∈ hs)) where
  sub x hx := (List.mem_filter.mp hx).1
  cvx a ha b hb x hx h := List.mem_filter.mpr ⟨hx, decide_eq_true (c.cvx a (of_decide_eq_true (List.mem_filter.mp ha).2) b (of_decide_eq_true (List.mem_filter.mp hb).2) x hx h)⟩
  ord := List.filter_congr fun x hx => by
    rw [decide_eq_decide, List.mem_filter, decide_eq_true_iff]
    exact ⟨fun h => ⟨hx, h⟩, fun h => h.2⟩
end
theorem nrL_look {ps : List Str} {es : List Ed} {p : Str} (h : p ∈ ps) : lookD (nrL ps es) (kS p) = some (.lst ((nbs ps es p).map D.str)) := by
  unfold nrL
  rw [look_map (v := fun p => D.lst ((nbs ps es p).map D.str)), if_pos h]
theorem ix_in {l : List Str} {i : Int} {Q : D → Prop} (h0 : 0 ≤ i) (h1 : i < ((l.length : Nat) : Int)) (h : ∀ x ∈ l, Q (.str x)) : ixX (.lst (l.map D.str)) (.int i) Q ∧ ixX (.tup (l.map D.str)) (.int i) Q := by
  have h1' : i < ((l.map D.str).length : Int) := by rw [List.length_map]; exact h1
  exact ⟨ix_lst h0 h1' fun d hd => by obtain ⟨s, hs, rfl, _⟩ := get_str hd; exact h s hs, ix_tup h0 h1' fun d hd => by obtain ⟨s, hs, rfl, _⟩ := get_str hd; exact h s hs⟩
def sd__law_grove : SpD := fun ds Q => ∃ x ps es g, ds = [.box x, grdE ps es g] ∧ IsTree ps es ∧ GpOk ps es g ∧ ∀ qs, Grv ps es qs → qs ≠ [] → Q (dps qs)
theorem len__law_grove (ds : List D) (Q : D → Prop) (h : sd__law_grove ds Q) : ds.length = 2 := by obtain ⟨_, _, _, _, rfl, _⟩ := h; rfl
abbrev N__law_grove : List Str := ["_law_box_here", "_law_model", "_law_held", "_law_turn", "_law_border", "_law_place", "_law_other"]
theorem sc__law_grove : FnScope N__law_grove ["_law_box_here", "_law_model"] (defScope st__law_grove) := ⟨rfl, rfl, rfl, by decide +kernel, rfl, by decide +kernel, by decide +kernel⟩
def t__law_grove : TDS :=
  dSeq (dAsgO (dLst (dCons (dBin ixX (.ex (dBin ixX (.sl 1) (.ex (dC (.str "places"))))) (.ex (dCall sd__law_take (dCons (dVar 0) (dCons (dB1 lenD (.ex (dBin ixX (.sl 1) (.ex (dC (.str "places")))))) (dNil)))))) (dNil))) 2)
  (dSeq (dFor (iRange1 (dCall sd__law_take (dCons (dVar 0) (dCons (dB1 lenD (.ex (dBin ixX (.sl 1) (.ex (dC (.str "places")))))) (dNil))))) (dgName 3) (dSeq (dAsgO (dLst (dNil)) 4)
  (dSeq (dBor 2 (fun l ss => dFor (iBor 2 l ss) (dgName 5) (dDrop (dExtend 4 (dLc (iSeq (dBin ixX (.ex (dBin ixX (.sl 1) (.ex (dC (.str "near"))))) (.sl 5))) (dgName 6) (dtBin (borR l ss (inX true)) (.sl 6) (.sl 2)) (dVar 6) [6])))))
  (dIfS (dtBin (gtD) (.ex (dB1 lenD (.sl 4))) (.ex (dC (.int 0)))) (dDrop (dAppend 2 (dBin ixX (.sl 4) (.ex (dCall sd__law_take (dCons (dVar 0) (dCons (dB1 lenD (.sl 4)) (dNil)))))))) (dNext)))))
  (dRet (dB1 tupleD (.ex (dLc (iSeq (dBin ixX (.sl 1) (.ex (dC (.str "places"))))) (dgName 5) (dtBin (inX false) (.sl 5) (.sl 2)) (dVar 5) [5])))))
theorem pure__law_grove (ds : List D) (Q : D → Prop) (h : sd__law_grove ds Q) : t__law_grove (ends Q) (startD 7 ds) := by
  obtain ⟨x, ps, es, g, rfl, t, hg, q⟩ := h
  have tr := tr_of t hg
  have hh := t.hi
  have hlo := t.lo
  unfold t__law_grove
  walk_at "dh"
  simp only [List.length_map]
  refine ⟨by omega, by omega, fun i i0 i1 => (ix_in i0 i1 fun p hp => ⟨by omega, by omega, fun k k0 k1 => ⟨by omega, ?_⟩⟩).2⟩
  refine for_go (fun (j : Nat) (δ : DSt) => ∃ hs c3 c4 c5 c6, (Cvx ps es hs ∧ hs ≠ [] ∧ hs.length ≤ j + 1) ∧ δ = [.im (.box x), .im (grdE ps es g), .ow (.lst (hs.map D.str)), c3, c4, c5, c6]) ⟨[p], _, _, _, _, ⟨(tr.single hp).toCvx, by simp, by simp⟩, rfl⟩ ?_ ?_
  · rintro j d δ' hd ⟨hs, c3, c4, c5, c6, ⟨cv, hne, hlen⟩, rfl⟩
    have hj : j < 40 := by have := lt_of_get hd; rw [rngD_len] at this; omega
    walk_at "dh"
    refine ⟨hs, rfl, fun l => ?_⟩
    simp only [List.set_cons_succ, List.set_cons_zero]
    walk_at "dh"
    refine for_go (fun (n : Nat) (δ : DSt) => ∃ bs c5 c6, ((∀ y ∈ bs, y ∈ ps ∧ y ∉ hs ∧ ∃ z ∈ hs, adj es z y = true) ∧ bs.length ≤ n * 40) ∧ δ = [.im (.box x), .im (grdE ps es g), .im (.ref l), .im d, .ow (.lst (bs.map D.str)), c5, c6]) ⟨[], _, _, ⟨by simp, by simp⟩, rfl⟩ ?_ ?_
    · rintro n d2 δ' hd2 ⟨bs, c5, c6, ⟨hbs, hbl⟩, rfl⟩
      rw [List.getElem?_map, Option.map_eq_some_iff] at hd2
      obtain ⟨z, hz, rfl⟩ := hd2
      have hn : n < 41 := by have := lt_of_get hz; omega
      have hzm := List.mem_of_getElem? hz
      have hzp := cv.sub z hzm
      walk_at "dh"
      rw [nrL_look hzp]
      walk_at "dh"
      have hnl := List.length_filter_le (fun q => adj es z q) ps
      refine lc_go (nbs ps es z) D.str (fun y => !decide (y ∈ hs)) D.str rfl (by unfold nbs; omega) (fun y hy K1 K2 k1 k2 => ?_) ?_
      · walk_at "dh"
        exact if_b k1 k2
      walk_at "dh"
      have hfl := List.length_filter_le (fun y => !decide (y ∈ hs)) (nbs ps es z)
      have hnb : (nbs ps es z).length ≤ 40 := by unfold nbs; omega
      rw [← List.map_append]
      refine ⟨?_, bs ++ (nbs ps es z).filter (fun y => !decide (y ∈ hs)), _, _, ⟨fun y hy => ?_, ?_⟩, rfl⟩
      · simp only [List.length_map]
        exact Nat.le_of_lt (line_of (by omega))
      · rcases List.mem_append.mp hy with hy | hy
        · exact hbs y hy
        · obtain ⟨h1, h2⟩ := List.mem_filter.mp hy
          obtain ⟨h3, h4⟩ := nbs_mem.mp h1
          exact ⟨h3, by simpa using h2, z, hzm, h4⟩
      · rw [List.length_append]; omega
    · rintro δ' ⟨bs, c5, c6, ⟨hbs, hbl⟩, rfl⟩
      rw [List.length_map] at hbl
      refine ⟨rfl, ?_⟩
      simp only [List.set_cons_succ, List.set_cons_zero]
      walk_at "dh"
      simp only [List.length_map]
      refine if_b (fun h1 => ?_) (fun _ => ⟨hs, _, _, _, _, ⟨cv, hne, by omega⟩, rfl⟩)
      have h1 := of_decide_eq_true h1
      refine ⟨by omega, by omega, fun n n0 n1 => (ix_in n0 n1 fun y hy => ?_).1⟩
      obtain ⟨h3, h4, z, h5, h6⟩ := hbs y hy
      walk_at "dh"
      rw [show hs.map D.str ++ [D.str y] = (hs ++ [y]).map D.str from by rw [List.map_append]; rfl]
      exact ⟨line_of (by omega), hs ++ [y], _, _, _, _, ⟨tr.cvx_grow cv h5 h3 h4 h6, by simp, by rw [List.length_append]; simp; omega⟩, rfl⟩
  · rintro δ' ⟨hs, c3, c4, c5, c6, ⟨cv, hne, hlen⟩, rfl⟩
    walk_at "dh"
    refine lc_go ps D.str (fun y => decide (y ∈ hs)) D.str rfl (by omega) (fun y hy K1 K2 k1 k2 => ?_) ?_
    · walk_at "dh"
      exact if_b k1 k2
    walk_at "dh"
    refine q _ (grv_of cv) fun e => ?_
    obtain ⟨y, hy⟩ := ne_nil hne
    have : y ∈ ps.filter fun x => decide (x ∈ hs) := List.mem_filter.mpr ⟨cv.sub y hy, decide_eq_true hy⟩
    rw [e] at this
    cases this

section
variable {δ : DSt}
theorem e_callOX {ex : ExD} {i : Nat} {Cs : List Str} {sd : SpX} {t : TDA} {Q : D → DSt → Prop} : dCallOX ex i Cs sd t δ Q = dVar i δ fun d δ1 => mX (insOf d) fun p => inC Cs p.1 ∧ t δ1 fun ds δ2 => sd (.ins p.1 p.2 :: ds) (fun z => Q z δ2) fun C fs => ex δ2 C fs := by
  have : (fun (d : D) (δ1 : DSt) => match insOf d with | some (C, fs) => C ∈ Cs ∧ t δ1 fun ds δ2 => sd (.ins C fs :: ds) (fun z => Q z δ2) fun C fs => ex δ2 C fs | none => False) = fun d δ1 => mX (insOf d) fun p => inC Cs p.1 ∧ t δ1 fun ds δ2 => sd (.ins p.1 p.2 :: ds) (fun z => Q z δ2) fun C fs => ex δ2 C fs := by
    funext d δ1; cases insOf d <;> rfl
  exact congrArg (fun K => dVar i δ K) this
theorem e_truB {t : TDE} {Q : Bool → DSt → Prop} : dTruB t δ Q = t δ fun d δ1 => onBl d fun b => Q b δ1 := propext Iff.rfl
end

local macro_rules | `(tactic| walk_at "dk") => `(tactic| try simp only [↓s_next, ↓s_seq, ↓s_sto, ↓s_drop, ↓s_ret, ↓s_if, ↓s_never, ↓s_asg, ↓s_asgO, ↓s_pars, ↓s_great, ↓g_name, ↓g_nil, ↓g_cons, ↓g_seqT, ↓g_seqL, ↓g_box, ↓for_eq, ↓lc_eq, ↓dc_eq, ↓i_seq, ↓i_enum, ↓i_range1,
  ↓vi0, ↓vo0, ↓ri0, ↓ro0, ↓ol0, ↓as0, ↓vi1, ↓vo1, ↓ri1, ↓ro1, ↓ol1, ↓as1, ↓vi2, ↓vo2, ↓ri2, ↓ro2, ↓ol2, ↓as2, ↓vi3, ↓vo3, ↓ri3, ↓ro3, ↓ol3, ↓as3, ↓vi4, ↓vo4, ↓ri4, ↓ro4, ↓ol4, ↓as4, ↓vi5, ↓vo5, ↓ri5, ↓ro5, ↓ol5, ↓as5, ↓vi6, ↓vo6, ↓ri6, ↓ro6, ↓ol6, ↓as6, ↓vi7, ↓vo7, ↓ri7, ↓ro7, ↓ol7, ↓as7, ↓vi8, ↓vo8, ↓ri8, ↓ro8, ↓ol8, ↓as8, ↓vi9, ↓vo9, ↓ri9, ↓ro9, ↓ol9, ↓as9, ↓vi10, ↓vo10, ↓ri10, ↓ro10, ↓ol10, ↓as10, ↓vi11, ↓vo11, ↓ri11, ↓ro11, ↓ol11, ↓as11, ↓vi12, ↓vo12, ↓ri12, ↓ro12, ↓ol12, ↓as12, ↓vi13, ↓vo13, ↓ri13, ↓ro13, ↓ol13, ↓as13, ↓vi14, ↓vo14, ↓ri14, ↓ro14, ↓ol14, ↓as14, ↓vi15, ↓vo15, ↓ri15, ↓ro15, ↓ol15, ↓as15, ↓vi16, ↓vo16, ↓ri16, ↓ro16, ↓ol16, ↓as16, ↓vi17, ↓vo17, ↓ri17, ↓ro17, ↓ol17, ↓as17, ↓vi18, ↓vo18, ↓ri18, ↓ro18, ↓ol18, ↓as18, ↓vi19, ↓vo19, ↓ri19, ↓ro19, ↓ol19, ↓as19, ↓vi20, ↓vo20, ↓ri20, ↓ro20, ↓ol20, ↓as20, ↓vi21, ↓vo21, ↓ri21, ↓ro21, ↓ol21, ↓as21, ↓vi22, ↓vo22, ↓ri22, ↓ro22, ↓ol22, ↓as22, ↓vi23, ↓vo23, ↓ri23, ↓ro23, ↓ol23, ↓as23, ↓vi24, ↓vo24, ↓ri24, ↓ro24, ↓ol24, ↓as24, ↓vi25, ↓vo25, ↓ri25, ↓ro25, ↓ol25, ↓as25, ↓at_s1, ↓at_s0, ↓at_w1, ↓at_w0, ↓mt_b, ↓mt_l, ↓mt_t, ↓mt_i,
  ↓e_c, ↓e_nil, ↓e_cons, ↓e_tup, ↓e_lst, ↓e_two1, ↓e_two2, ↓e_two3, ↓e_two4, ↓e_bin, ↓e_tbin, ↓e_chain, ↓e_and, ↓e_or, ↓e_not, ↓e_tru1, ↓e_tru2, ↓e_andV, ↓e_orV, ↓e_notV, ↓e_if, ↓e_call, ↓e_p0, ↓e_p1, ↓e_one1, ↓e_one2, ↓e_b1, ↓e_b2, ↓e_tb2, ↓e_sl1, ↓e_sl2, ↓e_append, ↓e_extend, ↓e_popAt, ↓e_yes, ↓e_join, ↓in_strL, ↓in_strT, ↓x_mulS, ↓e_new, ↓e_newV, ↓e_meth, ↓e_prop, ↓e_stat, ↓e_statI, ↓e_clsM, ↓e_evN, ↓e_evI, ↓e_evO, ↓e_boxNew,
  z0, z1, z2, h0, h1, h2, ↓bx0, ↓rgI, ↓sqL, ↓sqT, ↓sqR, ↓enL, ↓enT, ↓lsL, wipeD, e_var, v0, v1, r0, r1, o0, m0, at0, setD, startD, startI, dFldSet,
  List.map_cons, List.map_nil, List.replicate, List.cons_append, List.nil_append, List.length_cons, List.length_nil, List.getElem?_cons_zero, List.getElem?_cons_succ, List.getElem?_nil, List.set_cons_zero, List.set_cons_succ, List.set_nil, Nat.reduceAdd, Nat.reduceSub, Nat.sub_zero, Nat.sub_self, Nat.zero_add, Nat.add_zero,
  true_and, and_true, if_true, if_false, Bool.false_eq_true, Bool.not_true, Bool.not_false, Bool.not_eq_true, decide_true, decide_false, Bool.true_eq_false, reduceCtorEq, ite_true, ite_false, List.mem_cons, List.not_mem_nil, or_false, beq_self_eq_true, Nat.reduceLT, Nat.reduceLeDiff, Int.reduceLT, Int.reduceLE, Int.reduceAdd, Int.reduceSub, Int.reduceMul, Int.reducePow, Int.reduceToNat, Int.reduceEq, Int.reduceNeg, Int.reduceMod, Int.reduceDiv, Nat.reduceEqDiff, and_self, Bool.not_not,
  ↓x_bl, x_truB, x_truL, x_truT, x_truI, ↓x_eqI, ↓x_eqS, ↓x_eqB, ↓x_neI, ↓x_neS, ↓x_neB, ↓x_addI, ↓x_addL, ↓x_addT, ↓x_addS, ↓x_subI, ↓x_mulI, ↓x_modI, ↓x_fdivI, ↓x_powI, ↓x_lt, ↓x_le, ↓x_gt, ↓x_ge, ↓x_ltP, ↓x_leP, ↓x_gtP, ↓x_geP, ↓x_lenL, ↓x_lenT, ↓x_lenS, ↓x_tupL, ↓x_tupT, ↓x_lisL, ↓x_lisT, ↓x_rev, ↓x_intI, ↓x_intB, ↓x_abs, ↓x_min, ↓x_max, ↓x_is, ↓x_isNot, x_isN0, x_isN1, x_isN2, x_isN3, x_isN4, ↓x_nil, ↓x_nnil, ↓x_ix0, ↓x_ix1, ↓x_ix2, ↓x_ix3, ↓x_ix4, ↓x_ix5, ↓x_ix6, ↓x_ix7, ↓x_it0, ↓x_it1, ↓x_it2, ↓x_ixB, x_kn, x_ks, x_kt, ↓x_slL, ↓x_slT, ↓x_slS, ↓x_slR,
  ↓s_aug, ↓g_put, ↓g_item, ↓e_callB, ↓e_disp, ↓e_ps0, ↓e_ps1, ↓i_str, ↓i_range2, ↓e_get2, ↓e_step, ↓x_step, ↓e_f1, ↓e_fstr, ↓e_fs0, ↓e_fs1, ↓e_fs2, ↓x_repr, ↓x_strI, ↓x_strS, ↓x_onStr, ↓x_onInt, ↓oa0, ↓od0, ↓oa1, ↓od1, ↓oa2, ↓od2, ↓oa3, ↓od3, ↓oa4, ↓od4, ↓oa5, ↓od5, ↓oa6, ↓od6, ↓oa7, ↓od7, ↓oa8, ↓od8, ↓oa9, ↓od9, ↓oa10, ↓od10, ↓oa11, ↓od11, ↓oa12, ↓od12, h3, h4, x_ko0, x_ko1, x_ko2, ↓x_ixK, ↓x_ixZ, ↓x_inK, ↓x_listK, ↓x_listZ, ↓x_listT, ↓x_isS, ↓x_isT, ↓x_inS, ↓g_ed, ↓in_ed, ↓word_at, ↓fld_places, ↓fld_edges, ↓fld_near, ↓fld_gaps, ↓isi_tree, ins_tree, ↓take_at, ↓mixed_at, ↓mixed_atT, ↓names_at, ↓tree_at, ↓e_callX, ↓e_methX, ↓s_raise, ↓e_xf, ↓e_isE, List.zip_cons_cons, List.zip_nil_left, List.zip_nil_right, ↓s_tryM, ↓s_tryA, dps, des, ↓e_callO, ↓e_methS, ↓e_propS, ins_grv, ↓fld_gtree, ↓fld_gown, ↓i_bor, ↓x_bor, eq_self, ↓ix_grd, grd_places, grd_edges, grd_near, grd_gaps, ↓e_callOX, ↓e_truB])

def sd_Grove_places : SpD := fun ds Q => ∃ C ps es g A, ds = [grvE C ps es g A] ∧ isG C ∧ Q (dps A)
theorem len_Grove_places (ds : List D) (Q : D → Prop) (h : sd_Grove_places ds Q) : ds.length = 1 := by obtain ⟨_, _, _, _, _, rfl, _⟩ := h; rfl
abbrev N_Grove_places : List Str := ["self"]
theorem sc_Grove_places : FnScope N_Grove_places ["self"] (defScope st_Grove_places) := ⟨rfl, rfl, rfl, by decide +kernel, rfl, by decide +kernel, by decide +kernel⟩
def t_Grove_places : TDS :=
  dRet (dB1 (fldD "own" ["Grove", "Made"]) (.sl 0))
theorem pure_Grove_places (ds : List D) (Q : D → Prop) (h : sd_Grove_places ds Q) : t_Grove_places (ends Q) (startD 1 ds) := by
  obtain ⟨C, ps, es, g, A, rfl, hC, q⟩ := h
  unfold t_Grove_places
  walk_at "dk"
  exact ⟨hC, q⟩
def sx_Grove___call__ : SpX := fun ds Q Ed => ∃ C ps es g A p, ds = [grvE C ps es g A, .str p] ∧ isG C ∧ IsTree ps es ∧ GpOk ps es g ∧ Cvx ps es A ∧ (p ∈ ps → A ≠ [] → Q (.str (gt ps es A p))) ∧ (p ∉ ps → Ed "NoPlace" [("place", .str p)]) ∧ (p ∈ ps → A = [] → Ed "NoMatch" [("word", .str "empty")])
def sd_Grove___call__ : SpD := fun ds Q => sx_Grove___call__ ds Q noX
theorem lenx_Grove___call__ (ds : List D) (Q : D → Prop) (Ed : Str → List (Str × D) → Prop) (h : sx_Grove___call__ ds Q Ed) : ds.length = 2 := by obtain ⟨_, _, _, _, _, _, rfl, _⟩ := h; rfl
abbrev N_Grove___call__ : List Str := ["self", "place"]
theorem sc_Grove___call__ : FnScope N_Grove___call__ ["self", "place"] (defScope st_Grove___call__) := ⟨rfl, rfl, rfl, by decide +kernel, rfl, by decide +kernel, by decide +kernel⟩
def tx_Grove___call__ (ex : ExD) : TDS :=
  dSeq (dIfS (dtB2 (ownIn "Tree" sd_Tree___contains__ true) (dVar 1) (dB1 (fldD "own_tree" ["Grove", "Made"]) (.sl 0))) (dRaise ex "NoPlace" ["place"] (dCons (dVar 1) (dNil))) (dNext))
  (dSeq (dIfS (dtBin (eqX) (.ex (dB1 lenD (.ex (dB1 (fldD "own" ["Grove", "Made"]) (.sl 0))))) (.ex (dC (.int 0)))) (dRaise ex "NoMatch" ["word"] (dCons (dC (.str "empty")) (dNil))) (dNext))
  (dRet (dCall sd_gate_of (dCons (dB1 (fldD "own_tree" ["Grove", "Made"]) (.sl 0)) (dCons (dB1 (fldD "own" ["Grove", "Made"]) (.sl 0)) (dCons (dVar 1) (dNil)))))))
theorem purex_Grove___call__ (ds : List D) (Q : D → Prop) (Ed : Str → List (Str × D) → Prop) (h : sx_Grove___call__ ds Q Ed) : tx_Grove___call__ (fun _ C fs => Ed C fs) (ends Q) (startD 2 ds) := by
  obtain ⟨C, ps, es, g, A, p, rfl, h1, t, hg, c, q, e1, e2⟩ := h
  unfold tx_Grove___call__
  walk_at "dk"
  refine ⟨h1, ownIn_tree ?_⟩
  walk_at "dk"
  by_cases hp : p ∈ ps
  · refine if_f (nd hp) ⟨h1, ?_⟩
    by_cases hA : A = []
    · subst hA
      exact if_t rfl (e2 hp rfl)
    · have lA := List.length_pos_iff.mpr hA
      refine if_f (by rw [List.length_map]; simp; omega) ?_
      walk_at "dk"
      exact ⟨h1, h1, ps, es, g, A, p, rfl, t, hg, c, hA, hp, q hp hA⟩
  · refine if_t (by simpa using hp) ?_
    exact e1 hp
/-- what a grove tells at a place -/
noncomputable def told (ps : List Str) (es : List Ed) (A : List Str) (p : Str) : D := if p ∈ ps then (if A = [] then .tup [.str "match", .str "empty"] else .tup [.str "told", .str (gt ps es A p)]) else .tup [.str "place", .str p]
def sd__law_called : SpD := fun ds Q => ∃ C ps es g A p, ds = [grvE C ps es g A, .str p] ∧ isG C ∧ IsTree ps es ∧ GpOk ps es g ∧ Cvx ps es A ∧ Q (told ps es A p)
theorem len__law_called (ds : List D) (Q : D → Prop) (h : sd__law_called ds Q) : ds.length = 2 := by obtain ⟨_, _, _, _, _, _, rfl, _⟩ := h; rfl
abbrev N__law_called : List Str := ["_law_grove_here", "_law_place", "_law_found", "e"]
theorem sc__law_called : FnScope N__law_called ["_law_grove_here", "_law_place"] (defScope st__law_called) := ⟨rfl, rfl, rfl, by decide +kernel, rfl, by decide +kernel, by decide +kernel⟩
def t__law_called : TDS :=
  dSeq (dAsg (dC .non) 2)
  (dSeq (dTryM 3 (fun _ _ _ => False) (fun ex => dAsg (dTup (dCons (dC (.str "told")) (dCons (dCallOX ex 0 ["Grove", "Made"] sx_Grove___call__ (dCons (dVar 1) (dNil))) (dNil)))) 2) [([("NoPlace", true), ("NoMatch", false)], fun C fs => dAsg (dIf (dAnd (dTruB (dIsE [("NoPlace", true)] C)) (dNot (dTruB (dIsE [("NoPlace", false)] C)))) (dTup (dCons (dC (.str "place")) (dCons (dXf fs "place") (dNil)))) (dC .non)) 2), ([("NoMatch", true)], fun C fs => dAsg (dIf (dAnd (dNot (dTruB (dIsE [("NoMatch", false)] C))) (dTruB (dIsE [("NoMatch", true)] C))) (dTup (dCons (dC (.str "match")) (dCons (dXf fs "word") (dNil)))) (dC .non)) 2)])
  (dRet (dVar 2)))
theorem pure__law_called (ds : List D) (Q : D → Prop) (h : sd__law_called ds Q) : t__law_called (ends Q) (startD 4 ds) := by
  obtain ⟨C, ps, es, g, A, p, rfl, h1, t, hg, c, q⟩ := h
  unfold t__law_called
  walk_at "dk"
  refine ⟨rfl, h1, C, ps, es, g, A, p, rfl, h1, t, hg, c, fun hp hA => ?_, fun hp => ?_, fun hp hA => ?_⟩
  · walk_at "dk"
    unfold told at q
    rw [if_pos hp, if_neg hA] at q
    exact q
  · unfold told at q
    rw [if_neg hp] at q
    refine ex_hit (by simp) (by simp) fun ad => ?_
    walk_at "dk"
    exact ⟨_, rfl, if_t rfl ⟨_, rfl, if_t rfl ⟨_, rfl, q⟩⟩⟩
  · unfold told at q
    rw [if_pos hp, if_pos hA] at q
    refine ex_miss (by simp) (by simp) (ex_hit (by simp) (by simp) fun ad => ?_)
    walk_at "dk"
    exact ⟨_, rfl, if_t rfl ⟨_, rfl, if_t rfl ⟨_, rfl, q⟩⟩⟩
def sd__law_gate : SpD := fun ds Q => ∃ ps es g qs p, ds = [grdE ps es g, dps qs, .str p] ∧ IsTree ps es ∧ GpOk ps es g ∧ Cvx ps es qs ∧ qs ≠ [] ∧ p ∈ ps ∧ Q (.str (gt ps es qs p))
theorem len__law_gate (ds : List D) (Q : D → Prop) (h : sd__law_gate ds Q) : ds.length = 3 := by obtain ⟨_, _, _, _, _, rfl, _⟩ := h; rfl
abbrev N__law_gate : List Str := ["_law_model", "_law_grove_here", "_law_place", "_law_best", "_law_other"]
theorem sc__law_gate : FnScope N__law_gate ["_law_model", "_law_grove_here", "_law_place"] (defScope st__law_gate) := ⟨rfl, rfl, rfl, by decide +kernel, rfl, by decide +kernel, by decide +kernel⟩
def t__law_gate : TDS :=
  dSeq (dAsg (dBin ixX (.sl 1) (.ex (dC (.int 0)))) 3)
  (dSeq (dFor (iSeq (dVar 1)) (dgName 4) (dIfS (dtBin (ltD) (.ex (dBin ixX (.ex (dBin ixX (.ex (dBin ixX (.sl 0) (.ex (dC (.str "gaps"))))) (.sl 2))) (.sl 4))) (.ex (dBin ixX (.ex (dBin ixX (.ex (dBin ixX (.sl 0) (.ex (dC (.str "gaps"))))) (.sl 2))) (.sl 3)))) (dAsg (dVar 4) 3) (dNext)))
  (dRet (dVar 3)))
theorem pure__law_gate (ds : List D) (Q : D → Prop) (h : sd__law_gate ds Q) : t__law_gate (ends Q) (startD 5 ds) := by
  obtain ⟨ps, es, g, qs, p, rfl, t, hg, c, hn, hp, q⟩ := h
  have tr := tr_of t hg
  unfold t__law_gate
  walk_at "dk"
  refine ix_head hn ?_
  walk_at "dk"
  refine for_go (fun j δ => ∃ b c5, (b ∈ qs ∧ ∀ y ∈ qs.take j, dst ps es p b ≤ dst ps es p y) ∧ δ = [.im (grdE ps es g), .im (.tup (qs.map D.str)), .im (.str p), .im (.str b), c5]) ⟨_, _, ⟨head_mem hn, by simp⟩, rfl⟩ ?_ ?_
  · rintro j d δ' hd ⟨b, c5, ⟨hb, hmin⟩, rfl⟩
    rw [List.getElem?_map, Option.map_eq_some_iff] at hd
    obtain ⟨x, hx, rfl⟩ := hd
    have hxq := List.mem_of_getElem? hx
    walk_at "dk"
    refine gap2 t hg hp (c.sub x hxq) ?_
    refine gap2 t hg hp (c.sub b hb) ?_
    walk_at "dk"
    refine if_b (fun h1 => ?_) (fun h1 => ?_)
    · have h1 := of_decide_eq_true h1
      refine ⟨x, _, ⟨hxq, fun y hy => ?_⟩, rfl⟩
      rw [List.take_succ, hx] at hy
      rcases List.mem_append.mp hy with hy | hy
      · have := hmin y hy; omega
      · have : y = x := by simpa using hy
        rw [this]; omega
    · have h1 := of_decide_eq_false h1
      refine ⟨b, _, ⟨hb, fun y hy => ?_⟩, rfl⟩
      rw [List.take_succ, hx] at hy
      rcases List.mem_append.mp hy with hy | hy
      · exact hmin y hy
      · have : y = x := by simpa using hy
        rw [this]; omega
  · rintro δ' ⟨b, c5, ⟨hb, hmin⟩, rfl⟩
    rw [List.length_map, List.take_length] at hmin
    walk_at "dk"
    rw [tr.gt_of c hp (tr.gt_min c hp hb hmin)] at q
    exact q
theorem grv_nil (ps : List Str) (es : List Ed) : Grv ps es [] where
  sub x hx := by cases hx
  cvx a ha := by cases ha
  ord := by simp
def sd__law_maybe : SpD := fun ds Q => ∃ x ps es g, ds = [.box x, grdE ps es g] ∧ IsTree ps es ∧ GpOk ps es g ∧ ∀ qs, Grv ps es qs → Q (dps qs)
theorem len__law_maybe (ds : List D) (Q : D → Prop) (h : sd__law_maybe ds Q) : ds.length = 2 := by obtain ⟨_, _, _, _, rfl, _⟩ := h; rfl
abbrev N__law_maybe : List Str := ["_law_box_here", "_law_model"]
theorem sc__law_maybe : FnScope N__law_maybe ["_law_box_here", "_law_model"] (defScope st__law_maybe) := ⟨rfl, rfl, rfl, by decide +kernel, rfl, by decide +kernel, by decide +kernel⟩
def t__law_maybe : TDS :=
  dRet (dBin ixX (.ex (dLst (dCons (dCall sd__law_grove (dCons (dVar 0) (dCons (dVar 1) (dNil)))) (dCons (dTup (dNil)) (dNil))))) (.ex (dB1 intD (.ex (dBin (eqX) (.ex (dCall sd__law_take (dCons (dVar 0) (dCons (dC (.int 8)) (dNil))))) (.ex (dC (.int 0))))))))
theorem pure__law_maybe (ds : List D) (Q : D → Prop) (h : sd__law_maybe ds Q) : t__law_maybe (ends Q) (startD 2 ds) := by
  obtain ⟨x, ps, es, g, rfl, t, hg, q⟩ := h
  unfold t__law_maybe
  walk_at "dk"
  refine ⟨x, ps, es, g, rfl, t, hg, fun qs hq hne => ?_⟩
  walk_at "dk"
  intro i i0 i1
  by_cases h : i = 0
  · rw [if_pos (decide_eq_true h), x_ix1]
    exact q [] (grv_nil ps es)
  · rw [if_neg (by simpa using h), x_ix0]
    exact q qs hq

theorem ne_strsT {a b : List Str} {Q : D → Prop} (q : Q (.bl (!decide (a = b)))) : neX (.tup (a.map D.str)) (.tup (b.map D.str)) Q := by
  have e : neX (.tup (a.map D.str)) (.tup (b.map D.str)) Q = ((isDat (.tup (a.map D.str)) = true ∧ isDat (.tup (b.map D.str)) = true ∧ dep (.tup (a.map D.str)) ≤ 64 ∧ dep (.tup (b.map D.str)) ≤ 64) ∧ Q (.bl (!eqB (.tup (a.map D.str)) (.tup (b.map D.str))))) := by unfold neX; rfl
  rw [e, eqB_tup]
  exact ⟨⟨plain_dat (strs_plain a), plain_dat (strs_plain b), Nat.le_trans (dep_txt a).1 (by decide), Nat.le_trans (dep_txt b).1 (by decide)⟩, q⟩
theorem grv_len {ps : List Str} {es : List Ed} {A : List Str} (a : Grv ps es A) : A.length ≤ ps.length := by
  rw [a.ord]
  exact List.length_filter_le _ _
theorem x_addSS {a b : Str} {Q : D → Prop} (h : a.length + b.length ≤ 1000000) (q : Q (.str (a ++ b))) : addX (.str a) (.str b) Q := by
  have : sizeLine = 16777216 := by decide
  unfold addX
  exact ⟨by omega, q⟩
theorem len_word' {p : Str} (h : isW p) : 1 ≤ p.length ∧ p.length ≤ 6 := by rw [← cs_len]; exact ⟨h.1, h.2⟩
def okS (x : Str) : Prop := x.length ≤ 1000 ∧ sOk x
theorem ok_word {p : Str} (h : isW p) : okS p := ⟨by have := len_word' h; omega, fun c hc => by have := h.al c hc; omega⟩
theorem ok_two {a b : Str} (ha : a.length ≤ 400) (oa : sOk a) (hb : b.length ≤ 400) (ob : sOk b) : okS (a ++ b) := ⟨by rw [← cs_len, cs_app, List.length_append, cs_len, cs_len]; omega, fun c hc => by
  have hc : c ∈ cs (a ++ b) := hc
  rw [cs_app] at hc
  rcases List.mem_append.mp hc with h | h
  · exact oa c h
  · exact ob c h⟩
theorem ok_cut {a : Str} (ha : isW a) (lo hi : Option Int) : (cutS a lo hi).length ≤ 6 ∧ sOk (cutS a lo hi) := ⟨by have := len_word' ha; have := cutS_len a lo hi; omega, fun c hc => by
  have hc : c ∈ cs (cutS a lo hi) := hc
  rw [cs_cut] at hc
  have := ha.al c (List.mem_of_mem_drop (List.mem_of_mem_take hc))
  omega⟩
theorem sh_two' (a b : Str) (ha : okS a) (hb : okS b) : Sh 1 20011 (.tup [.str a, .str b]) := by
  have h1 := ha.1
  have h2 := hb.1
  have := sh_tup (l := [.str a, .str b]) (n := 0) (L := 10002) fun d hd => by
    simp only [List.mem_cons, List.not_mem_nil, or_false] at hd
    rcases hd with rfl | rfl
    · exact (sh_str ha.2).mono (Nat.le_refl _) (by omega)
    · exact (sh_str hb.2).mono (Nat.le_refl _) (by omega)
  exact this
theorem sh_told {ps : List Str} {es : List Ed} {g : D} {A : List Str} {p : Str} (t : IsTree ps es) (hg : GpOk ps es g) (c : Cvx ps es A) (hp : okS p) : Sh 1 20011 (told ps es A p) := by
  have tr := tr_of t hg
  unfold told
  split
  · next hm =>
    split
    · exact sh_two' _ _ ⟨by decide, by decide⟩ ⟨by decide, by decide⟩
    · next hA => exact sh_two' _ _ ⟨by decide, by decide⟩ (ok_word (t.wd _ (c.sub _ (tr.gt_is c (ne_nil hA) hm).1)))
  · exact sh_two' _ _ ⟨by decide, by decide⟩ hp
def sd_law : SpD := fun ds Q => ∃ ns, ds = [.scr ns] ∧ Q (.bl true)
theorem len_law (ds : List D) (Q : D → Prop) (h : sd_law ds Q) : ds.length = 1 := by obtain ⟨_, rfl, _⟩ := h; rfl
abbrev N_law : List Str := ["_law_script", "_law_box_here", "_law_turn", "_law_model", "_law_tree_here", "_law_places", "_law_more", "_law_own", "_law_grove_here", "_law_due", "_law_some", "_law_odd", "_law_asked", "_law_place", "_law_again", "_law_name"]
theorem sc_law : FnScope N_law ["_law_script"] (defScope st_law) := ⟨rfl, rfl, rfl, by decide +kernel, rfl, by decide +kernel, by decide +kernel⟩
def t_law : TDS :=
  dSeq (dAsg (dCall sd__law_box (dCons (dVar 0) (dCons (dC (.int 0)) (dNil)))) 1)
  (dSeq (dFor (iRange1 (dC (.int 3))) (dgName 2) (dSeq (dAsg (dCall sd__law_ground (dCons (dVar 1) (dCons (dCall sd__law_size (dCons (dVar 1) (dNil))) (dNil)))) 3)
  (dSeq (dPars [.im (dNew "Tree" sd_Tree___init__ (dCons (dBin ixX (.sl 3) (.ex (dC (.str "places")))) (dCons (dBin ixX (.sl 3) (.ex (dC (.str "edges")))) (dNil)))), .im (dBin ixX (.sl 3) (.ex (dC (.str "places"))))] [4, 5])
  (dFor (iRange1 (dC (.int 3))) (dgName 6) (dSeq (dAsg (dCall sd__law_maybe (dCons (dVar 1) (dCons (dVar 3) (dNil)))) 7)
  (dSeq (dPars [.im (dNew "Grove" sd_Grove___init__ (dCons (dVar 4) (dCons (dVar 7) (dNil)))), .ow (dLst (dNil))] [8, 9])
  (dSeq (dAsg (dLst (dCons (dC (.str "")) (dCons (dC (.str "A")) (dCons (dC (.str "a b")) (dCons (dBin addX (.ex (dBin ixX (.sl 5) (.ex (dC (.int 0))))) (.ex (dC (.str " ")))) (dCons (dBin addX (.ex (dC (.str "\n"))) (.ex (dBin ixX (.sl 5) (.ex (dC (.int 0)))))) (dNil))))))) 10)
  (dSeq (dAsg (dBin addX (.sl 10) (.ex (dLc (iSeq (dTup (dCons (dC (.str "zzzzzz")) (dCons (dBin addX (.ex (dSl (.ex (dBin ixX (.sl 5) (.ex (dC (.int 0))))) (dP0) (dP1 (dC (.int 5))))) (.ex (dC (.str "q")))) (dCons (dC (.str "q")) (dNil)))))) (dgName 15) (dtBin (inX true) (.sl 15) (.sl 5)) (dVar 15) [15]))) 10)
  (dSeq (dAsg (dBin ixX (.sl 10) (.ex (dCall sd__law_take (dCons (dVar 1) (dCons (dB1 lenD (.sl 10)) (dNil)))))) 11)
  (dSeq (dAsg (dCall sd__law_mixed (dCons (dVar 1) (dCons (dBin addX (.sl 5) (.ex (dTup (dCons (dVar 11) (dNil))))) (dNil)))) 12)
  (dSeq (dFor (iSeq (dVar 12)) (dgName 13) (dIfS (dtBin (inX true) (.sl 13) (.sl 5)) (dDrop (dAppend 9 (dTup (dCons (dC (.str "place")) (dCons (dVar 13) (dNil)))))) (dDrop (dAppend 9 (dIf (dtBin (neX) (.sl 7) (.ex (dTup (dNil)))) (dTup (dCons (dC (.str "told")) (dCons (dCall sd__law_gate (dCons (dVar 3) (dCons (dVar 7) (dCons (dVar 13) (dNil))))) (dNil)))) (dTup (dCons (dC (.str "match")) (dCons (dC (.str "empty")) (dNil)))))))))
  (dFor (iRange1 (dC (.int 2))) (dgName 14) (dIfS (dOr (dtBin (neX) (.ex (dB1 reprD (.ex (dLc (iSeq (dVar 12)) (dgName 13) (dYes) (dCall sd__law_called (dCons (dVar 8) (dCons (dVar 13) (dNil)))) [13])))) (.ex (dB1 reprD (.sl 9)))) (dtBin (neX) (.ex (dPropS ["Grove", "Made"] sd_Grove_places (dVar 8))) (.sl 7))) (dRet (dC (.bl false))) (dNext))))))))))))))
  (dRet (dC (.bl true))))
theorem pure_law (ds : List D) (Q : D → Prop) (h : sd_law ds Q) : t_law (ends Q) (startD 16 ds) := by
  obtain ⟨ns, rfl, q⟩ := h
  unfold t_law
  walk_at "dk"
  rw [box_at (by decide)]
  intro bx
  walk_at "dk"
  refine for_go (fun (i : Nat) (δ : DSt) => ∃ c2 c3 c4 c5 c6 c7 c8 c9 c10 c11 c12 c13 c14 c15, δ = [.im (.scr ns), .im (.box bx), c2, c3, c4, c5, c6, c7, c8, c9, c10, c11, c12, c13, c14, c15]) ⟨_, _, _, _, _, _, _, _, _, _, _, _, _, _, rfl⟩ ?_ ?_
  · rintro i dd δ' hd ⟨c2, c3, c4, c5, c6, c7, c8, c9, c10, c11, c12, c13, c14, c15, rfl⟩
    walk_at "dk"
    refine ⟨bx, rfl, fun m hm => ⟨bx, m, rfl, by omega, by omega, fun ps es g t hnm hg => ?_⟩⟩
    have hh := t.hi
    have hlo := t.lo
    obtain ⟨p0, r, hps⟩ : ∃ p0 r, ps = p0 :: r := by
      cases ps with
      | nil => simp at hlo
      | cons a b => exact ⟨a, b, rfl⟩
    have hm0 : p0 ∈ ps := by rw [hps]; exact List.mem_cons_self
    have w0 := t.wd p0 hm0
    have l0 := len_word' w0
    have o0 := ok_word w0
    have first : ∀ Q : D → Prop, Q (.str p0) → ixX (.tup (ps.map D.str)) (.int 0) Q := fun Q q => by rw [hps]; exact x_it0 ▸ q
    walk_at "dk"
    refine ⟨ps, es, rfl, t, fun g1 hg1 => ?_⟩
    walk_at "dk"
    refine for_go (fun (i : Nat) (δ : DSt) => ∃ c2 c6 c7 c8 c9 c10 c11 c12 c13 c14 c15, δ = [.im (.scr ns), .im (.box bx), c2, .im (grdE ps es g), .im (treeE ps es g1), .im (.tup (ps.map D.str)), c6, c7, c8, c9, c10, c11, c12, c13, c14, c15]) ⟨_, _, _, _, _, _, _, _, _, _, _, rfl⟩ ?_ ?_
    · rintro j dj δ' hdj ⟨c2, c6, c7, c8, c9, c10, c11, c12, c13, c14, c15, rfl⟩
      walk_at "dk"
      refine ⟨bx, ps, es, g, rfl, t, hg, fun A hA => ?_⟩
      have hAl := grv_len hA
      walk_at "dk"
      refine ⟨ps, es, g1, A, rfl, t, hg1, hA.sub, by omega, by rw [← hA.ord]; exact hA.toCvx, ?_⟩
      rw [← hA.ord]
      walk_at "dk"
      refine first _ ?_
      have hsp : (Str.ofString " ").length = 1 := by decide
      have hnl : (Str.ofString "\n").length = 1 := by decide
      have hqq : (Str.ofString "q").length = 1 := by decide
      refine x_addSS (by omega) (first _ ?_)
      refine x_addSS (by omega) (first _ ?_)
      walk_at "dk"
      have hct := ok_cut w0 none (some 5)
      have hz : sizeLine = 16777216 := by decide
      refine ⟨by omega, by omega, ?_⟩
      refine lc_go [Str.ofString "zzzzzz", cutS p0 none (some 5) ++ Str.ofString "q", Str.ofString "q"] D.str (fun x => !decide (x ∈ ps)) D.str rfl (by simp) (fun x hx K1 K2 k1 k2 => ?_) ?_
      · walk_at "dk"
        exact if_b k1 k2
      walk_at "dk"
      generalize hL2 : ([Str.ofString "zzzzzz", cutS p0 none (some 5) ++ Str.ofString "q", Str.ofString "q"].filter fun x => !decide (x ∈ ps)) = L2
      have hl2 : L2.length ≤ 3 := by rw [← hL2]; exact Nat.le_trans (List.length_filter_le _ _) (by simp)
      have ok2 : ∀ x ∈ L2, okS x := fun x hx => by
        rw [← hL2] at hx
        have hx := (List.mem_filter.mp hx).1
        simp only [List.mem_cons, List.not_mem_nil, or_false] at hx
        rcases hx with rfl | rfl | rfl
        · exact ⟨by decide, by decide⟩
        · exact ok_two (by omega) hct.2 (by decide) (by decide)
        · exact ⟨by decide, by decide⟩
      have hall : ∀ x ∈ Str.ofString "" :: Str.ofString "A" :: Str.ofString "a b" :: (p0 ++ Str.ofString " ") :: (Str.ofString "\n" ++ p0) :: L2, okS x := fun x hx => by
        simp only [List.mem_cons] at hx
        rcases hx with rfl | rfl | rfl | rfl | rfl | hx
        · exact ⟨by decide, by decide⟩
        · exact ⟨by decide, by decide⟩
        · exact ⟨by decide, by decide⟩
        · exact ok_two (by omega) o0.2 (by decide) (by decide)
        · exact ok_two (by decide) (by decide) (by omega) o0.2
        · exact ok2 x hx
      refine ⟨by rw [List.length_map]; omega, by omega, by rw [List.length_map]; omega, fun i i0 i1 => (ix_in (l := Str.ofString "" :: Str.ofString "A" :: Str.ofString "a b" :: (p0 ++ Str.ofString " ") :: (Str.ofString "\n" ++ p0) :: L2) i0 (by simpa using i1) fun odd ho => ?_).1⟩
      have okO := hall odd ho
      refine ⟨by rw [List.length_map]; omega, by simp; omega, fun l' hl' => ?_⟩
      obtain ⟨asked, rfl, hpm⟩ := perm_txt (ss := ps ++ [odd]) (by simpa using hl')
      have hal : asked.length ≤ 41 := by have := hpm.length_eq; simp at this; omega
      have hok : ∀ x ∈ asked, okS x := fun x hx => by
        rcases List.mem_append.mp (hpm.mem_iff.mp hx) with h | h
        · exact ok_word (t.wd x h)
        · rw [List.mem_singleton.mp h]; exact okO
      refine for_go (fun (n : Nat) (δ : DSt) => ∃ c2 c6 c10 c11 c13 c14 c15, δ = [.im (.scr ns), .im (.box bx), c2, .im (grdE ps es g), .im (treeE ps es g1), .im (.tup (ps.map D.str)), c6, .im (.tup (A.map D.str)), .im (grvE "Grove" ps es g1 A), .ow (.lst ((asked.take n).map (told ps es A))), c10, c11, .im (.lst (asked.map D.str)), c13, c14, c15]) ⟨_, _, _, _, _, _, _, rfl⟩ ?_ ?_
      · rintro n d δ' hd ⟨c2, c6, c10, c11, c13, c14, c15, rfl⟩
        rw [List.getElem?_map, Option.map_eq_some_iff] at hd
        obtain ⟨p, hp, rfl⟩ := hd
        walk_at "dk"
        have stp : (asked.take (n + 1)).map (told ps es A) = (asked.take n).map (told ps es A) ++ [told ps es A p] := by rw [List.take_succ, hp]; simp
        have hln : ((asked.take n).map (told ps es A)).length < sizeLine := by simp; omega
        rw [stp]
        by_cases hin : p ∈ ps
        · refine if_f (nd hin) ?_
          by_cases hA0 : A = []
          · have e : told ps es A p = .tup [.str "match", .str "empty"] := by unfold told; rw [if_pos hin, if_pos hA0]
            rw [e]
            subst hA0
            walk_at "dk"
            refine ne_strsT (a := []) (b := []) ?_
            walk_at "dk"
            exact ⟨hln, ⟨_, _, _, _, _, _, _, rfl⟩⟩
          · have e : told ps es A p = .tup [.str "told", .str (gt ps es A p)] := by unfold told; rw [if_pos hin, if_neg hA0]
            rw [e]
            walk_at "dk"
            refine ne_strsT (b := []) ?_
            rw [decide_eq_false hA0]
            walk_at "dk"
            exact ⟨ps, es, g, A, p, rfl, t, hg, hA.toCvx, hA0, hin, hln, ⟨_, _, _, _, _, _, _, rfl⟩⟩
        · have e : told ps es A p = .tup [.str "place", .str p] := by unfold told; rw [if_neg hin]
          rw [e]
          refine if_t (by simpa using hin) ?_
          walk_at "dk"
          exact ⟨hln, ⟨_, _, _, _, _, _, _, rfl⟩⟩
      · rintro δ' ⟨c2, c6, c10, c11, c13, c14, c15, rfl⟩
        rw [List.length_map, List.take_length]
        have sh : ShOk (.lst (asked.map (told ps es A))) := by
          refine (sh_lst (l := asked.map (told ps es A)) (n := 1) (L := 20011) fun d hd => ?_).to (by decide) ?_
          · obtain ⟨p, hp, rfl⟩ := List.mem_map.mp hd
            exact sh_told t hg1 hA.toCvx (hok p hp)
          · rw [List.length_map, hz]; omega
        walk_at "dk"
        refine for_go (fun (n : Nat) (δ : DSt) => ∃ c2 c6 c10 c11 c13 c14 c15, δ = [.im (.scr ns), .im (.box bx), c2, .im (grdE ps es g), .im (treeE ps es g1), .im (.tup (ps.map D.str)), c6, .im (.tup (A.map D.str)), .im (grvE "Grove" ps es g1 A), .ow (.lst (asked.map (told ps es A))), c10, c11, .im (.lst (asked.map D.str)), c13, c14, c15]) ⟨_, _, _, _, _, _, _, rfl⟩ ?_ ?_
        · rintro n d δ' hd ⟨c2, c6, c10, c11, c13, c14, c15, rfl⟩
          walk_at "dk"
          refine lc_m asked D.str (told ps es A) rfl (by omega) (fun p hp K1 k1 => ?_) ?_
          · walk_at "dk"
            exact ⟨_, ps, es, g1, A, p, rfl, grove_in, t, hg1, hA.toCvx, k1⟩
          walk_at "dk"
          refine ⟨sh, sh, grove_in, _, ps, es, g1, A, rfl, grove_in, ne_strsT ?_⟩
          rw [decide_eq_true rfl]
          walk_at "dk"
          exact ⟨_, _, _, _, _, _, _, rfl⟩
        · rintro δ' ⟨c2, c6, c10, c11, c13, c14, c15, rfl⟩
          exact ⟨_, _, _, _, _, _, _, _, _, _, _, rfl⟩
    · rintro δ' ⟨c2, c6, c7, c8, c9, c10, c11, c12, c13, c14, c15, rfl⟩
      exact ⟨_, _, _, _, _, _, _, _, _, _, _, _, _, _, rfl⟩
  · rintro δ' ⟨c2, c3, c4, c5, c6, c7, c8, c9, c10, c11, c12, c13, c14, c15, rfl⟩
    walk_at "dk"
    exact q

theorem ok_is_word {P : Program} {w : World} {K : PySem.W.Frag} {mg : Str → Option Value} {base : Heap} {f : Addr} {fd : FuncData} (F : FnQ K "is_word" "is_word" st_is_word f fd) (m_all : mg "all" = none) (g_LETTERS : ∃ t, mg "LETTERS" = some (.str "abcdefghijklmnopqrstuvwxyz" t)) (m_len : mg "len" = none) (m_isinstance : mg "isinstance" = none) (m_str : mg "str" = none) : FnOk P w K mg base CX0 2 f fd ["value"] (toSp K sd_is_word) :=
  fn_d (k := 1) (t := t_is_word) F sc_is_word len_is_word (fun cdv A outer s H E e hr => dss_cons (ds_if (DW.dt (dw_or (dt_not (dt_tru (oex (de_isiX (de_var (pv 0)) (de_ty rfl m_str (by decide +kernel)) rfl m_isinstance)))) (dw_or1 (dt_not (dt_chain opd_le opd_le (de_int) (de_len (osl (pv 0)) rfl m_len) (de_int)))))) (dss_one (ds_ret (de_bl))) (dss_nil))
    (dss_one (ds_ret (de_all rfl (oex (DO.de (do_lc (own := [("letter", 1)]) (fp := [1]) rfl sc_is_word.nd (di_str (de_var (pv 0))) (blkOk_by (N := N_is_word) (sc := defScope st_is_word) (own := [("letter", 1)]) (by decide +kernel)) (fun _ _ _ _ _ => dg_name (i := 1) sc_is_word.nd rfl (Or.inl rfl)) (fun _ _ _ _ _ => dts_nil) (fun _ _ _ _ _ => de_cmp (opd_inX (k0 := 0) (Room.mono (j := 0 + 1) hr (by decide))) (osl (pv 1)) (oex (de_gstrX rfl g_LETTERS (by decide +kernel))) rfl)))) rfl m_all)))) pure_is_word
theorem ok_is_strings {P : Program} {w : World} {K : PySem.W.Frag} {mg : Str → Option Value} {base : Heap} {f : Addr} {fd : FuncData} (F : FnQ K "is_strings" "is_strings" st_is_strings f fd) (m_len : mg "len" = none) (m_all : mg "all" = none) (m_isinstance : mg "isinstance" = none) (m_str : mg "str" = none) (m_tuple : mg "tuple" = none) : FnOk P w K mg base CX0 2 f fd ["value", "many"] (toSp K sd_is_strings) :=
  fn_d (k := 1) (t := t_is_strings) F sc_is_strings len_is_strings (fun cdv A outer s H E e hr => dss_cons (ds_if (DW.dt (dw_or (dt_not (dt_tru (oex (de_isiX (de_var (pv 0)) (de_ty rfl m_tuple (by decide +kernel)) rfl m_isinstance)))) (dw_or1 (dt_not (dt_tru (oex (de_all rfl (oex (DO.de (do_lc (own := [("item", 2)]) (fp := [2]) rfl sc_is_strings.nd (di_seq (de_var (pv 0))) (blkOk_by (N := N_is_strings) (sc := defScope st_is_strings) (own := [("item", 2)]) (by decide +kernel)) (fun _ _ _ _ _ => dg_name (i := 2) sc_is_strings.nd rfl (Or.inl rfl)) (fun _ _ _ _ _ => dts_nil) (fun _ _ _ _ _ => de_isiX (de_var (pv 2)) (de_ty rfl m_str (by decide +kernel)) rfl m_isinstance)))) rfl m_all))))))) (dss_one (ds_ret (de_bl))) (dss_nil))
    (dss_one (ds_ret (de_or (de_cmp opd_is (osl (pv 1)) (oex (de_non)) rfl) (de_one (de_cmp (opd_eqX hr) (oex (de_len (osl (pv 0)) rfl m_len)) (osl (pv 1)) rfl)))))) pure_is_strings
theorem ok_check_places {P : Program} {w : World} {K : PySem.W.Frag} {mg : Str → Option Value} {base : Heap} {f : Addr} {fd : FuncData} (F : FnQ K "check_places" "check_places" st_check_places f fd) (m_enumerate : mg "enumerate" = none) (c_is_word : CalR P w K mg base 2 "is_word" sd_is_word) (m_len : mg "len" = none) (k_Tree_LARGEST : CConOk K "Tree" "LARGEST" 40) (g_Tree : mg "Tree" = some (.ref (He.ga K "Tree"))) : FnOk P w K mg base CX0 3 f fd ["places"] (toSp K sd_check_places) :=
  fn_d (k := 2) (t := t_check_places) F sc_check_places len_check_places (fun cdv A outer s H E e hr => dss_cons (ds_if (dt_not (dt_chain opd_le opd_le (de_int) (de_len (osl (pv 0)) rfl m_len) (de_ccon k_Tree_LARGEST rfl g_Tree))) (dss_one (ds_never)) (dss_nil))
    (dss_one (ds_for PassesOwn.never rfl (di_enum rfl m_enumerate (de_var (pv 0))) (dg_tup rfl (dgs_cons (dg_name (i := 1) sc_check_places.nd rfl (Or.inl rfl)) (dgs_cons (dg_name (i := 2) sc_check_places.nd rfl (Or.inl rfl)) (dgs_nil)))) (dss_one (ds_if (DW.dt (dw_or (dt_not (dt_tru (oex (de_callR c_is_word hr (by decide) rfl (da_cons (de_var (pv 2)) (da_nil)))))) (dw_or1 (dt_cmp (opd_inX (k0 := 0) (Room.mono (j := 0 + 1) hr (by decide))) (osl (pv 2)) (oex (de_slice (osl (pv 0)) (dp_none) (dp_some (de_var (pv 1))))) rfl)))) (dss_one (ds_never)) (dss_nil)))))) pure_check_places
theorem ok_check_edges {P : Program} {w : World} {K : PySem.W.Frag} {mg : Str → Option Value} {base : Heap} {f : Addr} {fd : FuncData} (F : FnQ K "check_edges" "check_edges" st_check_edges f fd) (m_enumerate : mg "enumerate" = none) : FnOk P w K mg base CX0 2 f fd ["places", "edges"] (toSp K sd_check_edges) :=
  fn_d (k := 1) (t := t_check_edges) F sc_check_edges len_check_edges (fun cdv A outer s H E e hr => dss_one (ds_for PassesOwn.never rfl (di_enum rfl m_enumerate (de_var (pv 1))) (dg_tup rfl (dgs_cons (dg_name (i := 2) sc_check_edges.nd rfl (Or.inl rfl)) (dgs_cons (dg_tup rfl (dgs_cons (dg_name (i := 3) sc_check_edges.nd rfl (Or.inl rfl)) (dgs_cons (dg_name (i := 4) sc_check_edges.nd rfl (Or.inl rfl)) (dgs_nil)))) (dgs_nil)))) (dss_cons (ds_if (DW.dt (dw_or (dt_cmp (opd_notInX (k0 := 0) (Room.mono (j := 0 + 1) hr (by decide))) (osl (pv 3)) (osl (pv 0)) rfl) (dw_or (dt_cmp (opd_notInX (k0 := 0) (Room.mono (j := 0 + 1) hr (by decide))) (osl (pv 4)) (osl (pv 0)) rfl) (dw_or1 (dt_cmp (opd_eqX hr) (osl (pv 3)) (osl (pv 4)) rfl))))) (dss_one (ds_never)) (dss_nil))
    (dss_one (ds_if (DW.dt (dw_or (dt_cmp (opd_inX (k0 := 0) (Room.mono (j := 0 + 1) hr (by decide))) (oex (de_tup (da_cons (de_var (pv 3)) (da_cons (de_var (pv 4)) (da_nil))))) (oex (de_slice (osl (pv 1)) (dp_none) (dp_some (de_var (pv 2))))) rfl) (dw_or1 (dt_cmp (opd_inX (k0 := 0) (Room.mono (j := 0 + 1) hr (by decide))) (oex (de_tup (da_cons (de_var (pv 4)) (da_cons (de_var (pv 3)) (da_nil))))) (oex (de_slice (osl (pv 1)) (dp_none) (dp_some (de_var (pv 2))))) rfl)))) (dss_one (ds_never)) (dss_nil)))))) pure_check_edges
theorem ok_joined {P : Program} {w : World} {K : PySem.W.Frag} {mg : Str → Option Value} {base : Heap} {f : Addr} {fd : FuncData} (F : FnQ K "joined" "joined" st_joined f fd) (m_list : mg "list" = none) : FnOk P w K mg base CX0 2 f fd ["groups", "one", "other"] (toSpB K sd_joined) :=
  fn_b (k := 1) (t := t_joined) F sc_joined len_joined (fun cdv A outer s H E e hr => dss_cons (ds_par2 (i := 3) (j := 4) rfl sc_joined.nd rfl rfl (by decide) rfl rfl (ea_cons (v := .im (dBin ixX (.sl 0) (.sl 1))) (eim (de_ixX hr (osl (pv 0)) (osl (pv 1)))) (ea_cons (v := .im (dBin ixX (.sl 0) (.sl 2))) (eim (de_ixX hr (osl (pv 0)) (osl (pv 2)))) (ea_nil))) rfl)
    (dss_cons (ds_if (dt_cmp (opd_eqX hr) (osl (pv 3)) (osl (pv 4)) rfl) (dss_one (ds_ret (de_bl))) (dss_nil))
    (dss_cons (ds_for PassesOwn.never rfl (di_seq (DO.de (do_listA rfl (osl (pv 0)) rfl m_list))) (dg_name (i := 5) sc_joined.nd rfl (Or.inl rfl)) (dss_one (ds_if (dt_cmp (opd_eqX hr) (oex (de_ixX hr (osl (pv 0)) (osl (pv 5)))) (osl (pv 4)) rfl) (dss_one (ds_asg (de_var (pv 3)) (dg_put hr (pv 0) (de_var (pv 5))))) (dss_nil))))
    (dss_one (ds_ret (de_bl)))))) pure_joined
theorem ok_check_tree {P : Program} {w : World} {K : PySem.W.Frag} {mg : Str → Option Value} {base : Heap} {f : Addr} {fd : FuncData} (F : FnQ K "check_tree" "check_tree" st_check_tree f fd) (m_enumerate : mg "enumerate" = none) (c_joined : CalB2 P w K mg base 2 "joined" sd_joined) (c_check_edges : CalR P w K mg base 2 "check_edges" sd_check_edges) (c_check_places : CalR P w K mg base 3 "check_places" sd_check_places) (m_all : mg "all" = none) (c_is_strings : CalR P w K mg base 2 "is_strings" sd_is_strings) (m_isinstance : mg "isinstance" = none) (m_tuple : mg "tuple" = none) : FnOk P w K mg base CX0 4 f fd ["places", "edges"] (toSp K sd_check_tree) :=
  fn_d (k := 3) (t := t_check_tree) F sc_check_tree len_check_tree (fun cdv A outer s H E e hr => dss_cons (ds_if (DW.dt (dw_or (dt_not (dt_tru (oex (de_callR c_is_strings hr (by decide) rfl (da_cons (de_var (pv 0)) (da_cons (de_non) (da_nil))))))) (dw_or1 (dt_not (dt_tru (oex (de_isiX (de_var (pv 1)) (de_ty rfl m_tuple (by decide +kernel)) rfl m_isinstance))))))) (dss_one (ds_never)) (dss_nil))
    (dss_cons (ds_if (dt_not (dt_tru (oex (de_all rfl (oex (DO.de (do_lc (own := [("edge", 7)]) (fp := [7]) rfl sc_check_tree.nd (di_seq (de_var (pv 1))) (blkOk_by (N := N_check_tree) (sc := defScope st_check_tree) (own := [("edge", 7)]) (by decide +kernel)) (fun _ _ _ _ _ => dg_name (i := 7) sc_check_tree.nd rfl (Or.inl rfl)) (fun _ _ _ _ _ => dts_nil) (fun _ _ _ _ _ => de_callR c_is_strings hr (by decide) rfl (da_cons (de_var (pv 7)) (da_cons (de_int) (da_nil))))))) rfl m_all)))) (dss_one (ds_never)) (dss_nil))
    (dss_cons (ds_expr (de_callR c_check_places hr (by decide) rfl (da_cons (de_var (pv 0)) (da_nil))))
    (dss_cons (ds_expr (de_callR c_check_edges hr (by decide) rfl (da_cons (de_var (pv 0)) (da_cons (de_var (pv 1)) (da_nil)))))
    (dss_cons (ds_setDcO (i := 2) (own := [("place", 6)]) (fp := [6]) rfl sc_check_tree.nd rfl rfl (swD rfl rfl rfl (by decide +kernel)) (di_seq (de_var (pv 0))) (blkOk_by (N := N_check_tree) (sc := defScope st_check_tree) (own := [("place", 6)]) (by decide +kernel)) (fun _ _ _ _ _ => dg_name (i := 6) sc_check_tree.nd rfl (Or.inl rfl)) (fun _ _ _ _ _ => dts_nil) (fun _ _ _ _ _ => de_var (pv 6)) (fun _ _ _ _ _ => de_var (pv 6)))
    (dss_cons (ds_for PassesOwn.never rfl (di_enum rfl m_enumerate (de_var (pv 1))) (dg_tup rfl (dgs_cons (dg_name (i := 3) sc_check_tree.nd rfl (Or.inl rfl)) (dgs_cons (dg_tup rfl (dgs_cons (dg_name (i := 4) sc_check_tree.nd rfl (Or.inl rfl)) (dgs_cons (dg_name (i := 5) sc_check_tree.nd rfl (Or.inl rfl)) (dgs_nil)))) (dgs_nil)))) (dss_one (ds_if (dt_not (dt_tru (oex (de_callB c_joined hr (by decide) rfl (pv 2) (da_cons (de_var (pv 4)) (da_cons (de_var (pv 5)) (da_nil))))))) (dss_one (ds_never)) (dss_nil))))
    (dss_one (ds_for PassesOwn.never rfl (di_enum rfl m_enumerate (de_var (pv 0))) (dg_tup rfl (dgs_cons (dg_name (i := 3) sc_check_tree.nd rfl (Or.inl rfl)) (dgs_cons (dg_name (i := 6) sc_check_tree.nd rfl (Or.inl rfl)) (dgs_nil)))) (dss_one (ds_if (dt_cmp (opd_neX hr) (oex (de_ixX hr (osl (pv 2)) (osl (pv 6)))) (oex (de_ixX hr (osl (pv 2)) (oex (de_ixX hr (osl (pv 0)) (oex (de_int)))))) rfl) (dss_one (ds_never)) (dss_nil))))))))))) pure_check_tree
theorem ok_gaps_from {P : Program} {w : World} {K : PySem.W.Frag} {mg : Str → Option Value} {base : Heap} {f : Addr} {fd : FuncData} (F : FnQ K "gaps_from" "gaps_from" st_gaps_from f fd) (m_len : mg "len" = none) : FnOk P w K mg base CX0 2 f fd ["near", "start"] (toSp K sd_gaps_from) :=
  fn_d (k := 1) (t := t_gaps_from) F sc_gaps_from len_gaps_from (fun cdv A outer s H E e hr => dss_cons (ds_par3 (i := 2) (j := 3) (l := 4) rfl sc_gaps_from.nd rfl rfl rfl (by decide) (by decide) (by decide) rfl rfl rfl (ea_cons (v := .ow (dDisp [(dVar 1, dC (.int 0))])) (eow (do_disp (trs := [(dVar 1, dC (.int 0))]) (pps_cons (de_var (pv 1)) (de_int) (pps_nil)) rfl rfl (fun z => by cases z) (by decide) (by decide))) (ea_cons (v := .ow (dLst (dCons (dVar 1) (dNil)))) (eow (do_lst (da_cons (de_var (pv 1)) (da_nil)))) (ea_cons (v := .im (dC (.int 0))) (eim (de_int)) (ea_nil)))) rfl)
    (dss_cons (ds_while PassesOwn.never (dt_cmp opd_lt (osl (pv 4)) (oex (de_len (osl (pv 3)) rfl m_len)) rfl) (dss_cons (ds_set (i := 5) sc_gaps_from.nd rfl (Or.inl rfl) (de_ixX hr (osl (pv 3)) (osl (pv 4))))
    (dss_cons (ds_aug (i := 4) sc_gaps_from.nd rfl (Or.inl rfl) (de_int))
    (dss_one (ds_for PassesOwn.never rfl (di_seq (de_ixX hr (osl (pv 0)) (osl (pv 5)))) (dg_name (i := 6) sc_gaps_from.nd rfl (Or.inl rfl)) (dss_one (ds_if (dt_cmp (opd_notInX (k0 := 0) (Room.mono (j := 0 + 1) hr (by decide))) (osl (pv 6)) (osl (pv 2)) rfl) (dss_cons (ds_asg (de_bin opd_addX (oex (de_ixX hr (osl (pv 2)) (osl (pv 5)))) (oex (de_int))) (dg_put hr (pv 2) (de_var (pv 6))))
    (dss_one (ds_expr (de_append (pv 3) (de_var (pv 6)))))) (dss_nil))))))))
    (dss_one (ds_ret (de_var (pv 2)))))) pure_gaps_from
theorem ok_Tree___init__ {P : Program} {w : World} {K : PySem.W.Frag} {mg : Str → Option Value} {base : Heap} {f : Addr} {fd : FuncData} (F : FnQ K "__init__" "Tree.__init__" st_Tree___init__ f fd) (h_near : FldOk K "near" ["Tree"]) (m_tuple : mg "tuple" = none) (h_gaps : FldOk K "gaps" ["Tree"]) (c_gaps_from : CalR P w K mg base 2 "gaps_from" sd_gaps_from) (h_own_edges : FldOk K "own_edges" ["Tree"]) (h_own_places : FldOk K "own_places" ["Tree"]) (c_check_tree : CalR P w K mg base 4 "check_tree" sd_check_tree) : FnOk P w K mg base CX0 5 f fd ["self", "places", "edges"] (toSpI K "Tree" sd_Tree___init__) :=
  fn_i (k := 4) (t := t_Tree___init__) F sc_Tree___init__ len_Tree___init__ (fun cdv A outer s H E e hr => dss_cons (ds_expr (de_callR c_check_tree hr (by decide) rfl (da_cons (de_var (pv 1)) (da_cons (de_var (pv 2)) (da_nil)))))
    (dss_cons (ds_fld (pv 0) (de_var (pv 1)) h_own_places)
    (dss_cons (ds_fld (pv 0) (de_var (pv 2)) h_own_edges)
    (dss_fldDict hr rfl PassesOwn.never (pv 0) (pv 0) h_near (di_seq (de_var (pv 1))) (dg_name (i := 3) sc_Tree___init__.nd rfl ((by first | exact Or.inl rfl | exact Or.inr rfl))) (ds_set (i := 4) sc_Tree___init__.nd rfl (Or.inr rfl) (de_bin opd_addX (oex (DO.de (do_lc (own := [("one", 5), ("other", 6)]) (fp := ([5] ++ ([6] ++ []))) rfl sc_Tree___init__.nd (di_seq (de_var (pv 2))) (blkOk_by (N := N_Tree___init__) (sc := defScope st_Tree___init__) (own := [("one", 5), ("other", 6)]) (by decide +kernel)) (fun _ _ _ _ _ => dg_tup rfl (dgs_cons (dg_name (i := 5) sc_Tree___init__.nd rfl (Or.inl rfl)) (dgs_cons (dg_name (i := 6) sc_Tree___init__.nd rfl (Or.inl rfl)) (dgs_nil)))) (fun _ _ _ _ _ => dts_one (dt_cmp (opd_eqX hr) (osl (pv 6)) (osl (pv 3)) rfl)) (fun _ _ _ _ _ => de_var (pv 5))))) (oex (DO.de (do_lc (own := [("one", 5), ("other", 6)]) (fp := ([5] ++ ([6] ++ []))) rfl sc_Tree___init__.nd (di_seq (de_var (pv 2))) (blkOk_by (N := N_Tree___init__) (sc := defScope st_Tree___init__) (own := [("one", 5), ("other", 6)]) (by decide +kernel)) (fun _ _ _ _ _ => dg_tup rfl (dgs_cons (dg_name (i := 5) sc_Tree___init__.nd rfl (Or.inl rfl)) (dgs_cons (dg_name (i := 6) sc_Tree___init__.nd rfl (Or.inl rfl)) (dgs_nil)))) (fun _ _ _ _ _ => dts_one (dt_cmp (opd_eqX hr) (osl (pv 5)) (osl (pv 3)) rfl)) (fun _ _ _ _ _ => de_var (pv 6))))))) (de_var (pv 3)) (de_tuple1 (oex (DO.de (do_lc (own := [("end", 7)]) (fp := [7]) rfl sc_Tree___init__.nd (di_seq (de_var (pv 1))) (blkOk_by (N := N_Tree___init__) (sc := defScope st_Tree___init__) (own := [("end", 7)]) (by decide +kernel)) (fun _ _ _ _ _ => dg_name (i := 7) sc_Tree___init__.nd rfl (Or.inl rfl)) (fun _ _ _ _ _ => dts_one (dt_cmp (opd_inX (k0 := 0) (Room.mono (j := 0 + 1) hr (by decide))) (osl (pv 7)) (osl (pv 4)) rfl)) (fun _ _ _ _ _ => de_var (pv 7))))) rfl m_tuple)
    (dss_one (ds_fld (pv 0) (DO.de (do_dc (own := [("place", 3)]) (fp := [3]) rfl sc_Tree___init__.nd (di_seq (de_var (pv 1))) (blkOk_by (N := N_Tree___init__) (sc := defScope st_Tree___init__) (own := [("place", 3)]) (by decide +kernel)) (fun _ _ _ _ _ => dg_name (i := 3) sc_Tree___init__.nd rfl ((by first | exact Or.inl rfl | exact Or.inr rfl))) (fun _ _ _ _ _ => dts_nil) (fun _ _ _ _ _ => de_var (pv 3)) (fun _ _ _ _ _ => de_callR c_gaps_from hr (by decide) rfl (da_cons (de_fld (osl (pv 0)) h_near) (da_cons (de_var (pv 3)) (da_nil)))))) h_gaps)))))) pure_Tree___init__
theorem ok_Tree___contains__ {P : Program} {w : World} {K : PySem.W.Frag} {mg : Str → Option Value} {base : Heap} {f : Addr} {fd : FuncData} (F : FnQ K "__contains__" "Tree.__contains__" st_Tree___contains__ f fd) (h_own_places : FldOk K "own_places" ["Tree"]) : FnOk P w K mg base CX0 2 f fd ["self", "value"] (toSp K sd_Tree___contains__) :=
  fn_d (k := 1) (t := t_Tree___contains__) F sc_Tree___contains__ len_Tree___contains__ (fun cdv A outer s H E e hr => dss_one (ds_ret (de_cmp (opd_inX (k0 := 0) (Room.mono (j := 0 + 1) hr (by decide))) (osl (pv 1)) (oex (de_fld (osl (pv 0)) h_own_places)) rfl))) pure_Tree___contains__
theorem ok__law_take {P : Program} {w : World} {K : PySem.W.Frag} {mg : Str → Option Value} {base : Heap} {f : Addr} {fd : FuncData} (F : FnQ K "_law_take" "_law_take" st__law_take f fd) (m_len : mg "len" = none) : FnOk P w K mg base CX0 2 f fd ["_law_box_here", "_law_many"] (toSp K sd__law_take) :=
  fn_d (k := 1) (t := t__law_take) F sc__law_take len__law_take (fun cdv A outer s H E e hr => dss_cons (ds_great hr (pv 0) (pv 0) (pv 0) (pv 0) rfl m_len)
    (dss_cons (ds_if (dt_cmp opd_gt (oex (de_ixB hr (osl (pv 0)) (oex (de_str (by decide +kernel))))) (oex (de_int)) rfl) (dss_cons (ds_set (i := 2) sc__law_take.nd rfl (Or.inl rfl) (de_bin opd_mod (oex (de_ixB hr (osl (pv 0)) (oex (de_str (by decide +kernel))))) (osl (pv 1))))
    (dss_cons (ds_asg (de_bin opd_fdiv (oex (de_ixB hr (osl (pv 0)) (oex (de_str (by decide +kernel))))) (osl (pv 1))) (dg_box hr (pv 0) (by decide +kernel)))
    (dss_one (ds_ret (de_var (pv 2)))))) (dss_nil))
    (dss_cons (ds_asg (de_bin opd_addX (oex (de_ixB hr (osl (pv 0)) (oex (de_str (by decide +kernel))))) (oex (de_int))) (dg_box hr (pv 0) (by decide +kernel)))
    (dss_cons (ds_set (i := 3) sc__law_take.nd rfl (Or.inl rfl) (de_bin opd_mod (oex (de_bin opd_mulX (oex (de_bin opd_mod (oex (de_bin opd_addX (oex (de_ixB hr (osl (pv 0)) (oex (de_str (by decide +kernel))))) (oex (de_bin opd_mulX (oex (de_int)) (oex (de_ixB hr (osl (pv 0)) (oex (de_str (by decide +kernel))))))))) (oex (de_int)))) (oex (de_int)))) (oex (de_int))))
    (dss_cons (ds_asg (de_bin opd_addX (oex (de_bin opd_mod (oex (de_bin opd_addX (osl (pv 3)) (oex (de_bin opd_mulX (oex (de_int)) (oex (de_ixB hr (osl (pv 0)) (oex (de_str (by decide +kernel))))))))) (oex (de_int)))) (oex (de_int))) (dg_box hr (pv 0) (by decide +kernel)))
    (dss_one (ds_ret (de_bin opd_mod (oex (de_bin opd_fdiv (oex (de_bin opd_addX (oex (de_bin opd_mulX (osl (pv 3)) (oex (de_int)))) (oex (de_ixB hr (osl (pv 0)) (oex (de_str (by decide +kernel))))))) (oex (de_int)))) (osl (pv 1)))))))))) pure__law_take
theorem ok__law_box {P : Program} {w : World} {K : PySem.W.Frag} {mg : Str → Option Value} {base : Heap} {f : Addr} {fd : FuncData} (F : FnQ K "_law_box" "_law_box" st__law_box f fd) (m_abs : mg "abs" = none) : FnOk P w K mg base CX0 2 f fd ["_law_script", "_law_base"] (toSp K sd__law_box) :=
  fn_d (k := 1) (t := t__law_box) F sc__law_box len__law_box (fun cdv A outer s H E e hr => dss_cons (ds_set (i := 2) sc__law_box.nd rfl (Or.inl rfl) (de_bin opd_addX (oex (de_int)) (oex (de_bin opd_mulX (oex (de_int)) (osl (pv 1))))))
    (dss_cons (ds_for PassesOwn.never rfl (di_seq (de_slice (osl (pv 0)) (dp_none) (dp_some (de_int)))) (dg_name (i := 3) sc__law_box.nd rfl (Or.inl rfl)) (dss_one (ds_set (i := 2) sc__law_box.nd rfl (Or.inl rfl) (de_bin opd_mod (oex (de_bin opd_addX (oex (de_bin opd_addX (oex (de_bin opd_mulX (osl (pv 2)) (oex (de_int)))) (oex (de_bin opd_mod (oex (de_abs (osl (pv 3)) rfl m_abs)) (oex (de_int)))))) (oex (de_int)))) (oex (de_int))))))
    (dss_cons (ds_setLc (i := 4) (own := [("_law_cell", 3)]) (fp := [3]) rfl sc__law_box.nd rfl rfl (sw_true rfl rfl rfl (by decide +kernel)) (di_seq (de_slice (osl (pv 0)) (dp_some (de_var (pv 1))) (dp_some (de_int)))) (blkOk_by (N := N__law_box) (sc := defScope st__law_box) (own := [("_law_cell", 3)]) (by decide +kernel)) (fun _ _ _ _ _ => dg_name (i := 3) sc__law_box.nd rfl (Or.inl rfl)) (fun _ _ _ _ _ => dts_one (dt_cmp opd_ge (oex (de_abs (osl (pv 3)) rfl m_abs)) (oex (de_bin opd_pow (oex (de_int)) (oex (de_int)))) rfl)) (fun _ _ _ _ _ => de_abs (osl (pv 3)) rfl m_abs))
    (dss_one (ds_ret (de_boxNew (do_rev (osl (pv 4))) (de_bin opd_addX (osl (pv 2)) (oex (de_int))))))))) pure__law_box
theorem ok__law_mixed {P : Program} {w : World} {K : PySem.W.Frag} {mg : Str → Option Value} {base : Heap} {f : Addr} {fd : FuncData} (F : FnQ K "_law_mixed" "_law_mixed" st__law_mixed f fd) (m_range : mg "range" = none) (m_len : mg "len" = none) (c__law_take : CalR P w K mg base 2 "_law_take" sd__law_take) (m_list : mg "list" = none) : FnOk P w K mg base CX0 3 f fd ["_law_box_here", "_law_items"] (toSp K sd__law_mixed) :=
  fn_d (k := 2) (t := t__law_mixed) F sc__law_mixed len__law_mixed (fun cdv A outer s H E e hr => dss_cons (ds_par2 (i := 2) (j := 3) rfl sc__law_mixed.nd rfl rfl (by decide) rfl rfl (ea_cons (v := .ow (dB1 listA (.sl 1))) (eow (do_listA rfl (osl (pv 1)) rfl m_list)) (ea_cons (v := .ow (dLst (dNil))) (eow (do_lst (da_nil))) (ea_nil))) rfl)
    (dss_cons (ds_for PassesOwn.never rfl (di_range1 rfl m_range (de_len (osl (pv 2)) rfl m_len)) (dg_name (i := 4) sc__law_mixed.nd rfl (Or.inl rfl)) (dss_one (ds_expr (de_append (pv 3) (de_popAt (pv 2) (de_callR c__law_take hr (by decide) rfl (da_cons (de_var (pv 0)) (da_cons (de_len (osl (pv 2)) rfl m_len) (da_nil)))))))))
    (dss_one (ds_ret (de_var (pv 3)))))) pure__law_mixed
theorem ok__law_names {P : Program} {w : World} {K : PySem.W.Frag} {mg : Str → Option Value} {base : Heap} {f : Addr} {fd : FuncData} (F : FnQ K "_law_names" "_law_names" st__law_names f fd) (c__law_mixed : CalR P w K mg base 3 "_law_mixed" sd__law_mixed) (m_int : mg "int" = none) (m_range : mg "range" = none) (m_min : mg "min" = none) (c__law_take : CalR P w K mg base 2 "_law_take" sd__law_take) (m_len : mg "len" = none) : FnOk P w K mg base CX0 4 f fd ["_law_box_here", "_law_many"] (toSp K sd__law_names) :=
  fn_d (k := 3) (t := t__law_names) F sc__law_names len__law_names (fun cdv A outer s H E e hr => dss_cons (ds_set (i := 2) sc__law_names.nd rfl (Or.inr rfl) (de_str (by decide +kernel)))
    (dss_cons (ds_set (i := 3) sc__law_names.nd rfl (Or.inl rfl) (DO.de (de_splitW (by decide +kernel) (by decide +kernel) rfl (by decide +kernel))))
    (dss_cons (ds_set (i := 4) sc__law_names.nd rfl (Or.inl rfl) (de_join (de_str (by decide +kernel)) (DO.de (do_lc (own := [("_law_k", 10)]) (fp := [10]) rfl sc__law_names.nd (di_range1 rfl m_range (de_callR c__law_take hr (by decide) rfl (da_cons (de_var (pv 0)) (da_cons (de_int) (da_nil))))) (blkOk_by (N := N__law_names) (sc := defScope st__law_names) (own := [("_law_k", 10)]) (by decide +kernel)) (fun _ _ _ _ _ => dg_name (i := 10) sc__law_names.nd rfl (Or.inl rfl)) (fun _ _ _ _ _ => dts_nil) (fun _ _ _ _ _ => de_ixX hr (osl (pv 2)) (oex (de_callR c__law_take hr (by decide) rfl (da_cons (de_var (pv 0)) (da_cons (de_int) (da_nil))))))))))
    (dss_cons (ds_parT (is := [5, 6, 7]) rfl (.cons (pg_name (i := 5) sc__law_names.nd rfl (Or.inl rfl)) (.cons (pg_name (i := 6) sc__law_names.nd rfl (Or.inr rfl)) (.cons (pg_name (i := 7) sc__law_names.nd rfl (Or.inl rfl)) (Nms.nil)))) (ea_cons (v := .im (dCall sd__law_take (dCons (dVar 0) (dCons (dBin addX (.ex (dB1 lenD (.sl 4))) (.ex (dC (.int 1)))) (dNil))))) (eim (de_callR c__law_take hr (by decide) rfl (da_cons (de_var (pv 0)) (da_cons (de_bin opd_addX (oex (de_len (osl (pv 4)) rfl m_len)) (oex (de_int))) (da_nil))))) (ea_cons (v := .im (dCall sd__law_take (dCons (dVar 0) (dCons (dC (.int 26)) (dNil))))) (eim (de_callR c__law_take hr (by decide) rfl (da_cons (de_var (pv 0)) (da_cons (de_int) (da_nil))))) (ea_cons (v := .im (dCall sd__law_take (dCons (dVar 0) (dCons (dC (.int 5)) (dNil))))) (eim (de_callR c__law_take hr (by decide) rfl (da_cons (de_var (pv 0)) (da_cons (de_int) (da_nil))))) (ea_nil)))) rfl (by decide))
    (dss_cons (ds_parT (is := [8, 3, 9]) rfl (.cons (pg_name (i := 8) sc__law_names.nd rfl (Or.inr rfl)) (.cons (pg_name (i := 3) sc__law_names.nd rfl (Or.inl rfl)) (.cons (pg_name (i := 9) sc__law_names.nd rfl (Or.inl rfl)) (Nms.nil)))) (ea_cons (v := .ow (dLst (dNil))) (eow (do_lst (da_nil))) (ea_cons (v := .im (dCall sd__law_mixed (dCons (dVar 0) (dCons (dVar 3) (dNil))))) (eim (de_callR c__law_mixed hr (by decide) rfl (da_cons (de_var (pv 0)) (da_cons (de_var (pv 3)) (da_nil))))) (ea_cons (v := .ow (dLst (dCons (dC (.str "a")) (dCons (dC (.str "b")) (dNil))))) (eow (do_lst (da_cons (de_str (by decide +kernel)) (da_cons (de_str (by decide +kernel)) (da_nil))))) (ea_nil)))) rfl (by decide))
    (dss_cons (ds_for PassesOwn.never rfl (di_range1 rfl m_range (de_var (pv 1))) (dg_name (i := 10) sc__law_names.nd rfl (Or.inl rfl)) (dss_cons (ds_set (i := 11) sc__law_names.nd rfl (Or.inl rfl) (de_bin opd_addX (oex (de_ixX hr (osl (pv 2)) (oex (de_bin opd_mod (oex (de_bin opd_addX (osl (pv 6)) (oex (de_bin opd_mulX (oex (de_int)) (osl (pv 10)))))) (oex (de_int)))))) (oex (de_bin opd_mulX (oex (de_ixX hr (osl (pv 2)) (oex (de_bin opd_fdiv (osl (pv 10)) (oex (de_int)))))) (oex (de_int1 (oex (de_cmp opd_gt (osl (pv 10)) (oex (de_int)) rfl)) rfl m_int))))))
    (dss_cons (ds_expr (de_append (pv 8) (de_bin opd_addX (oex (de_bin opd_addX (oex (de_slice (osl (pv 4)) (dp_none) (dp_some (de_var (pv 5))))) (osl (pv 11)))) (oex (de_slice (osl (pv 4)) (dp_some (de_var (pv 5))) (dp_none))))))
    (dss_one (ds_expr (de_extend (pv 9) (DO.de (do_lst (da_cons (de_bin opd_addX (oex (de_ixX hr (osl (pv 9)) (osl (pv 10)))) (oex (de_str (by decide +kernel)))) (da_cons (de_bin opd_addX (oex (de_ixX hr (osl (pv 9)) (osl (pv 10)))) (oex (de_str (by decide +kernel)))) (da_nil)))))))))))
    (dss_cons (ds_set (i := 12) sc__law_names.nd rfl (Or.inr rfl) (de_join (de_str (by decide +kernel)) (DO.de (do_lc (own := [("_law_k", 10)]) (fp := [10]) rfl sc__law_names.nd (di_range1 rfl m_range (de_int)) (blkOk_by (N := N__law_names) (sc := defScope st__law_names) (own := [("_law_k", 10)]) (by decide +kernel)) (fun _ _ _ _ _ => dg_name (i := 10) sc__law_names.nd rfl (Or.inl rfl)) (fun _ _ _ _ _ => dts_nil) (fun _ _ _ _ _ => de_ixX hr (osl (pv 2)) (oex (de_callR c__law_take hr (by decide) rfl (da_cons (de_var (pv 0)) (da_cons (de_int) (da_nil))))))))))
    (dss_cons (ds_setLc (i := 13) (own := [("_law_k", 10)]) (fp := [10]) rfl sc__law_names.nd rfl rfl (sw_true rfl rfl rfl (by decide +kernel)) (di_range1 rfl m_range (de_min2 rfl (de_var (pv 1)) (de_int) rfl m_min)) (blkOk_by (N := N__law_names) (sc := defScope st__law_names) (own := [("_law_k", 10)]) (by decide +kernel)) (fun _ _ _ _ _ => dg_name (i := 10) sc__law_names.nd rfl (Or.inl rfl)) (fun _ _ _ _ _ => dts_nil) (fun _ _ _ _ _ => de_bin opd_addX (osl (pv 12)) (oex (de_ixX hr (osl (pv 2)) (oex (de_bin opd_mod (oex (de_bin opd_addX (osl (pv 6)) (oex (de_bin opd_mulX (oex (de_int)) (osl (pv 10)))))) (oex (de_int))))))))
    (dss_cons (ds_set (i := 14) sc__law_names.nd rfl (Or.inl rfl) (de_bin opd_addX (oex (DO.de (do_lc (own := [("_law_word", 16)]) (fp := [16]) rfl sc__law_names.nd (di_seq (de_var (pv 3))) (blkOk_by (N := N__law_names) (sc := defScope st__law_names) (own := [("_law_word", 16)]) (by decide +kernel)) (fun _ _ _ _ _ => dg_name (i := 16) sc__law_names.nd rfl (Or.inl rfl)) (fun _ _ _ _ _ => dts_one (dt_cmp (opd_notInX (k0 := 0) (Room.mono (j := 0 + 1) hr (by decide))) (osl (pv 16)) (osl (pv 8)) rfl)) (fun _ _ _ _ _ => de_var (pv 16))))) (osl (pv 8))))
    (dss_cons (ds_set (i := 15) sc__law_names.nd rfl (Or.inl rfl) (DO.de (do_lst (da_cons (de_var (pv 14)) (da_cons (de_var (pv 9)) (da_cons (de_ixX hr (oex (DO.de (do_lst (da_cons (de_var (pv 13)) (da_cons (de_var (pv 8)) (da_nil)))))) (oex (de_int1 (oex (de_cmp opd_gt (osl (pv 1)) (oex (de_int)) rfl)) rfl m_int))) (da_cons (de_var (pv 8)) (da_cons (de_var (pv 8)) (da_nil)))))))))
    (dss_one (ds_ret (de_callR c__law_mixed hr (by decide) rfl (da_cons (de_var (pv 0)) (da_cons (de_slice (oex (de_ixX hr (osl (pv 15)) (osl (pv 7)))) (dp_none) (dp_some (de_var (pv 1)))) (da_nil)))))))))))))))) pure__law_names
theorem ok__law_tree {P : Program} {w : World} {K : PySem.W.Frag} {mg : Str → Option Value} {base : Heap} {f : Addr} {fd : FuncData} (F : FnQ K "_law_tree" "_law_tree" st__law_tree f fd) (m_tuple : mg "tuple" = none) (c__law_mixed : CalR P w K mg base 3 "_law_mixed" sd__law_mixed) (m_range : mg "range" = none) (c__law_take : CalR P w K mg base 2 "_law_take" sd__law_take) (m_max : mg "max" = none) (c__law_names : CalR P w K mg base 4 "_law_names" sd__law_names) : FnOk P w K mg base CX0 5 f fd ["_law_box_here", "_law_most"] (toSp K sd__law_tree) :=
  fn_d (k := 4) (t := t__law_tree) F sc__law_tree len__law_tree (fun cdv A outer s H E e hr => dss_cons (ds_par2 (i := 2) (j := 3) rfl sc__law_tree.nd rfl rfl (by decide) rfl rfl (ea_cons (v := .im (dBin addX (.ex (dC (.int 1))) (.ex (dCall sd__law_take (dCons (dVar 0) (dCons (dVar 1) (dNil))))))) (eim (de_bin opd_addX (oex (de_int)) (oex (de_callR c__law_take hr (by decide) rfl (da_cons (de_var (pv 0)) (da_cons (de_var (pv 1)) (da_nil))))))) (ea_cons (v := .im (dCall sd__law_take (dCons (dVar 0) (dCons (dC (.int 5)) (dNil))))) (eim (de_callR c__law_take hr (by decide) rfl (da_cons (de_var (pv 0)) (da_cons (de_int) (da_nil))))) (ea_nil))) rfl)
    (dss_cons (ds_par2 (i := 4) (j := 5) rfl sc__law_tree.nd rfl rfl (by decide) rfl rfl (ea_cons (v := .im (dCall sd__law_names (dCons (dVar 0) (dCons (dVar 2) (dNil))))) (eim (de_callR c__law_names hr (by decide) rfl (da_cons (de_var (pv 0)) (da_cons (de_var (pv 2)) (da_nil))))) (ea_cons (v := .ow (dLst (dNil))) (eow (do_lst (da_nil))) (ea_nil))) rfl)
    (dss_cons (ds_for PassesOwn.never rfl (di_range2 rfl m_range (de_int) (de_var (pv 2))) (dg_name (i := 6) sc__law_tree.nd rfl (Or.inl rfl)) (dss_cons (ds_set (i := 7) sc__law_tree.nd rfl (Or.inl rfl) (de_ixX hr (oex (DO.de (do_lst (da_cons (de_callR c__law_take hr (by decide) rfl (da_cons (de_var (pv 0)) (da_cons (de_var (pv 6)) (da_nil)))) (da_cons (de_callR c__law_take hr (by decide) rfl (da_cons (de_var (pv 0)) (da_cons (de_var (pv 6)) (da_nil)))) (da_cons (de_bin opd_sub (osl (pv 6)) (oex (de_int))) (da_cons (de_int) (da_cons (de_max2 rfl (de_int) (de_bin opd_sub (oex (de_bin opd_sub (osl (pv 6)) (oex (de_int)))) (oex (de_callR c__law_take hr (by decide) rfl (da_cons (de_var (pv 0)) (da_cons (de_int) (da_nil)))))) rfl m_max) (da_nil))))))))) (osl (pv 3))))
    (dss_one (ds_expr (de_append (pv 5) (de_ixX hr (oex (DO.de (do_lst (da_cons (de_tup (da_cons (de_ixX hr (osl (pv 4)) (osl (pv 6))) (da_cons (de_ixX hr (osl (pv 4)) (osl (pv 7))) (da_nil)))) (da_cons (de_tup (da_cons (de_ixX hr (osl (pv 4)) (osl (pv 7))) (da_cons (de_ixX hr (osl (pv 4)) (osl (pv 6))) (da_nil)))) (da_nil)))))) (oex (de_callR c__law_take hr (by decide) rfl (da_cons (de_var (pv 0)) (da_cons (de_int) (da_nil)))))))))))
    (dss_one (ds_ret (de_tup (da_cons (de_tuple1 (oex (de_callR c__law_mixed hr (by decide) rfl (da_cons (de_var (pv 0)) (da_cons (de_var (pv 4)) (da_nil))))) rfl m_tuple) (da_cons (de_tuple1 (oex (de_callR c__law_mixed hr (by decide) rfl (da_cons (de_var (pv 0)) (da_cons (de_var (pv 5)) (da_nil))))) rfl m_tuple) (da_nil))))))))) pure__law_tree
theorem ok__law_near {P : Program} {w : World} {K : PySem.W.Frag} {mg : Str → Option Value} {base : Heap} {f : Addr} {fd : FuncData} (F : FnQ K "_law_near" "_law_near" st__law_near f fd)  : FnOk P w K mg base CX0 2 f fd ["_law_places", "_law_edges"] (toSp K sd__law_near) :=
  fn_d (k := 1) (t := t__law_near) F sc__law_near len__law_near (fun cdv A outer s H E e hr => dss_cons (ds_setO (i := 2) sc__law_near.nd rfl (Or.inl rfl) (do_dnew))
    (dss_cons (ds_for PassesOwn.never rfl (di_seq (de_var (pv 0))) (dg_name (i := 3) sc__law_near.nd rfl ((by first | exact Or.inl rfl | exact Or.inr rfl))) (dss_one (ds_asg (DO.de (do_lc (own := [("_law_other", 4)]) (fp := [4]) rfl sc__law_near.nd (di_seq (de_var (pv 0))) (blkOk_by (N := N__law_near) (sc := defScope st__law_near) (own := [("_law_other", 4)]) (by decide +kernel)) (fun _ _ _ _ _ => dg_name (i := 4) sc__law_near.nd rfl (Or.inl rfl)) (fun _ _ _ _ _ => dts_one (DW.dt (dw_or (dt_cmp (opd_inX (k0 := 0) (Room.mono (j := 0 + 1) hr (by decide))) (oex (de_tup (da_cons (de_var (pv 3)) (da_cons (de_var (pv 4)) (da_nil))))) (osl (pv 1)) rfl) (dw_or1 (dt_cmp (opd_inX (k0 := 0) (Room.mono (j := 0 + 1) hr (by decide))) (oex (de_tup (da_cons (de_var (pv 4)) (da_cons (de_var (pv 3)) (da_nil))))) (osl (pv 1)) rfl))))) (fun _ _ _ _ _ => de_var (pv 4)))) (dg_put hr (pv 2) (de_var (pv 3))))))
    (dss_one (ds_ret (de_var (pv 2)))))) pure__law_near
theorem ok__law_gaps {P : Program} {w : World} {K : PySem.W.Frag} {mg : Str → Option Value} {base : Heap} {f : Addr} {fd : FuncData} (F : FnQ K "_law_gaps" "_law_gaps" st__law_gaps f fd) (m_len : mg "len" = none) : FnOk P w K mg base CX0 2 f fd ["_law_near_here", "_law_start"] (toSp K sd__law_gaps) :=
  fn_d (k := 1) (t := t__law_gaps) F sc__law_gaps len__law_gaps (fun cdv A outer s H E e hr => dss_cons (ds_par2 (i := 2) (j := 3) rfl sc__law_gaps.nd rfl rfl (by decide) rfl rfl (ea_cons (v := .ow (dDisp [(dVar 1, dC (.int 0))])) (eow (do_disp (trs := [(dVar 1, dC (.int 0))]) (pps_cons (de_var (pv 1)) (de_int) (pps_nil)) rfl rfl (fun z => by cases z) (by decide) (by decide))) (ea_cons (v := .im (dLst (dCons (dVar 1) (dNil)))) (eim (DO.de (do_lst (da_cons (de_var (pv 1)) (da_nil))))) (ea_nil))) rfl)
    (dss_cons (ds_while PassesOwn.never (dt_cmp opd_gt (oex (de_len (osl (pv 3)) rfl m_len)) (oex (de_int)) rfl) (dss_cons (ds_setO (i := 4) sc__law_gaps.nd rfl (Or.inl rfl) (do_lst (da_nil)))
    (dss_cons (ds_for PassesOwn.never rfl (di_seq (de_var (pv 3))) (dg_name (i := 5) sc__law_gaps.nd rfl (Or.inl rfl)) (dss_one (ds_for PassesOwn.never rfl (di_seq (de_ixX hr (osl (pv 0)) (osl (pv 5)))) (dg_name (i := 6) sc__law_gaps.nd rfl (Or.inl rfl)) (dss_one (ds_if (dt_cmp (opd_notInX (k0 := 0) (Room.mono (j := 0 + 1) hr (by decide))) (osl (pv 6)) (osl (pv 2)) rfl) (dss_cons (ds_asg (de_bin opd_addX (oex (de_ixX hr (osl (pv 2)) (osl (pv 5)))) (oex (de_int))) (dg_put hr (pv 2) (de_var (pv 6))))
    (dss_one (ds_expr (de_append (pv 4) (de_var (pv 6)))))) (dss_nil))))))
    (dss_one (ds_set (i := 3) sc__law_gaps.nd rfl (Or.inl rfl) (de_var (pv 4)))))))
    (dss_one (ds_ret (de_var (pv 2)))))) pure__law_gaps
theorem ok_is_between {P : Program} {w : World} {K : PySem.W.Frag} {mg : Str → Option Value} {base : Heap} {f : Addr} {fd : FuncData} (F : FnQ K "is_between" "is_between" st_is_between f fd) (h_gaps : FldOk K "gaps" ["Tree"]) : FnOk P w K mg base CX0 2 f fd ["tree", "one", "place", "other"] (toSp K sd_is_between) :=
  fn_d (k := 1) (t := t_is_between) F sc_is_between len_is_between (fun cdv A outer s H E e hr => dss_one (ds_ret (de_cmp (opd_eqX hr) (oex (de_bin opd_addX (oex (de_ixX hr (oex (de_ixX hr (oex (de_fld (osl (pv 0)) h_gaps)) (osl (pv 1)))) (osl (pv 2)))) (oex (de_ixX hr (oex (de_ixX hr (oex (de_fld (osl (pv 0)) h_gaps)) (osl (pv 2)))) (osl (pv 3)))))) (oex (de_ixX hr (oex (de_ixX hr (oex (de_fld (osl (pv 0)) h_gaps)) (osl (pv 1)))) (osl (pv 3)))) rfl))) pure_is_between
theorem ok_gate_of {P : Program} {w : World} {K : PySem.W.Frag} {mg : Str → Option Value} {base : Heap} {f : Addr} {fd : FuncData} (F : FnQ K "gate_of" "gate_of" st_gate_of f fd) (h_gaps : FldOk K "gaps" ["Tree"]) : FnOk P w K mg base CX0 2 f fd ["tree", "places", "place"] (toSp K sd_gate_of) :=
  fn_d (k := 1) (t := t_gate_of) F sc_gate_of len_gate_of (fun cdv A outer s H E e hr => dss_cons (ds_par2 (i := 3) (j := 4) rfl sc_gate_of.nd rfl rfl (by decide) rfl rfl (ea_cons (v := .im (dBin ixX (.ex (dB1 (fldD "gaps" ["Tree"]) (.sl 0))) (.sl 2))) (eim (de_ixX hr (oex (de_fld (osl (pv 0)) h_gaps)) (osl (pv 2)))) (ea_cons (v := .im (dBin ixX (.sl 1) (.ex (dC (.int 0))))) (eim (de_ixX hr (osl (pv 1)) (oex (de_int)))) (ea_nil))) rfl)
    (dss_cons (ds_for PassesOwn.never rfl (di_seq (de_var (pv 1))) (dg_name (i := 5) sc_gate_of.nd rfl (Or.inl rfl)) (dss_one (ds_if (dt_cmp opd_lt (oex (de_ixX hr (osl (pv 3)) (osl (pv 5)))) (oex (de_ixX hr (osl (pv 3)) (osl (pv 4)))) rfl) (dss_one (ds_set (i := 4) sc_gate_of.nd rfl (Or.inl rfl) (de_var (pv 5)))) (dss_nil))))
    (dss_one (ds_ret (de_var (pv 4)))))) pure_gate_of
theorem ok_Grove___init__ {P : Program} {w : World} {K : PySem.W.Frag} {mg : Str → Option Value} {base : Heap} {f : Addr} {fd : FuncData} (F : FnQ K "__init__" "Grove.__init__" st_Grove___init__ f fd) (h_own : FldOk K "own" ["Grove", "Made"]) (h_own_tree : FldOk K "own_tree" ["Grove", "Made"]) (h_own_places : FldOk K "own_places" ["Tree"]) (c_is_between : CalR P w K mg base 2 "is_between" sd_is_between) (m_tuple : mg "tuple" = none) (u_Tree_contains : CalU P w K mg base 2 "Tree" "__contains__" sd_Tree___contains__) : FnOk P w K mg base CX0 3 f fd ["self", "tree", "places"] (toSpI K "Grove" sd_Grove___init__) :=
  fn_i (k := 2) (t := t_Grove___init__) F sc_Grove___init__ len_Grove___init__ (fun cdv A outer s H E e hr => dss_cons (ds_for PassesOwn.never rfl (di_seq (de_var (pv 2))) (dg_name (i := 3) sc_Grove___init__.nd rfl (Or.inl rfl)) (dss_one (ds_if (dt_cmpF (opf_inOwn (Or.inr ⟨rfl, rfl⟩) u_Tree_contains hr (by decide)) (de_var (pv 3)) (de_var (pv 1)) rfl) (dss_one (ds_never)) (dss_nil))))
    (dss_cons (ds_set (i := 4) sc_Grove___init__.nd rfl (Or.inl rfl) (de_tuple1 (oex (DO.de (do_lc (own := [("place", 3)]) (fp := [3]) rfl sc_Grove___init__.nd (di_seq (de_fld (osl (pv 1)) h_own_places)) (blkOk_by (N := N_Grove___init__) (sc := defScope st_Grove___init__) (own := [("place", 3)]) (by decide +kernel)) (fun _ _ _ _ _ => dg_name (i := 3) sc_Grove___init__.nd rfl (Or.inl rfl)) (fun _ _ _ _ _ => dts_one (dt_cmp (opd_inX (k0 := 0) (Room.mono (j := 0 + 1) hr (by decide))) (osl (pv 3)) (osl (pv 2)) rfl)) (fun _ _ _ _ _ => de_var (pv 3))))) rfl m_tuple))
    (dss_cons (ds_for PassesOwn.never rfl (di_seq (de_var (pv 4))) (dg_name (i := 5) sc_Grove___init__.nd rfl (Or.inl rfl)) (dss_one (ds_for PassesOwn.never rfl (di_seq (de_fld (osl (pv 1)) h_own_places)) (dg_name (i := 3) sc_Grove___init__.nd rfl (Or.inl rfl)) (dss_one (ds_if (DW.dt (dw_and (dt_tru (oex (de_callR c_is_between hr (by decide) rfl (da_cons (de_var (pv 1)) (da_cons (de_ixX hr (osl (pv 4)) (oex (de_int))) (da_cons (de_var (pv 3)) (da_cons (de_var (pv 5)) (da_nil)))))))) (dw_and1 (dt_cmp (opd_notInX (k0 := 0) (Room.mono (j := 0 + 1) hr (by decide))) (osl (pv 3)) (osl (pv 4)) rfl)))) (dss_one (ds_never)) (dss_nil))))))
    (dss_cons (ds_fld (pv 0) (de_var (pv 1)) h_own_tree)
    (dss_one (ds_fld (pv 0) (de_var (pv 4)) h_own)))))) pure_Grove___init__
theorem ok__law_size {P : Program} {w : World} {K : PySem.W.Frag} {mg : Str → Option Value} {base : Heap} {f : Addr} {fd : FuncData} (F : FnQ K "_law_size" "_law_size" st__law_size f fd) (c__law_take : CalR P w K mg base 2 "_law_take" sd__law_take) : FnOk P w K mg base CX0 3 f fd ["_law_box_here"] (toSp K sd__law_size) :=
  fn_d (k := 2) (t := t__law_size) F sc__law_size len__law_size (fun cdv A outer s H E e hr => dss_one (ds_ret (de_ixX hr (oex (DO.de (do_lst (da_cons (de_int) (da_cons (de_int) (da_cons (de_int) (da_cons (de_int) (da_cons (de_int) (da_cons (de_int) (da_cons (de_int) (da_cons (de_int) (da_nil)))))))))))) (oex (de_callR c__law_take hr (by decide) rfl (da_cons (de_var (pv 0)) (da_cons (de_int) (da_nil)))))))) pure__law_size
theorem ok__law_ground {P : Program} {w : World} {K : PySem.W.Frag} {mg : Str → Option Value} {base : Heap} {f : Addr} {fd : FuncData} (F : FnQ K "_law_ground" "_law_ground" st__law_ground f fd) (c__law_gaps : CalR P w K mg base 2 "_law_gaps" sd__law_gaps) (c__law_near : CalR P w K mg base 2 "_law_near" sd__law_near) (c__law_tree : CalR P w K mg base 5 "_law_tree" sd__law_tree) : FnOk P w K mg base CX0 6 f fd ["_law_box_here", "_law_most"] (toSp K sd__law_ground) :=
  fn_d (k := 5) (t := t__law_ground) F sc__law_ground len__law_ground (fun cdv A outer s H E e hr => dss_cons (ds_asg (de_callR c__law_tree hr (by decide) rfl (da_cons (de_var (pv 0)) (da_cons (de_var (pv 1)) (da_nil)))) (dg_tup rfl (dgs_cons (dg_name (i := 2) sc__law_ground.nd rfl (Or.inl rfl)) (dgs_cons (dg_name (i := 3) sc__law_ground.nd rfl (Or.inl rfl)) (dgs_nil)))))
    (dss_cons (ds_par2 (i := 4) (j := 5) rfl sc__law_ground.nd rfl rfl (by decide) rfl rfl (ea_cons (v := .im (dCall sd__law_near (dCons (dVar 2) (dCons (dVar 3) (dNil))))) (eim (de_callR c__law_near hr (by decide) rfl (da_cons (de_var (pv 2)) (da_cons (de_var (pv 3)) (da_nil))))) (ea_cons (v := .ow (fun δ Q => Q (.dct []) δ)) (eow (do_dnew)) (ea_nil))) rfl)
    (dss_cons (ds_for PassesOwn.never rfl (di_seq (de_var (pv 2))) (dg_name (i := 6) sc__law_ground.nd rfl (Or.inl rfl)) (dss_one (ds_asg (de_callR c__law_gaps hr (by decide) rfl (da_cons (de_var (pv 4)) (da_cons (de_var (pv 6)) (da_nil)))) (dg_put hr (pv 5) (de_var (pv 6))))))
    (dss_one (ds_ret (DO.de (do_disp (trs := [(dC (.str "places"), dVar 2), (dC (.str "edges"), dVar 3), (dC (.str "near"), dVar 4), (dC (.str "gaps"), dVar 5)]) (pps_cons (de_str (by decide +kernel)) (de_var (pv 2)) (pps_cons (de_str (by decide +kernel)) (de_var (pv 3)) (pps_cons (de_str (by decide +kernel)) (de_var (pv 4)) (pps_cons (de_str (by decide +kernel)) (de_var (pv 5)) (pps_nil))))) rfl rfl (fun z => by cases z) (by decide) (by decide)))))))) pure__law_ground
theorem ok__law_grove {P : Program} {w : World} {K : PySem.W.Frag} {mg : Str → Option Value} {base : Heap} {f : Addr} {fd : FuncData} (F : FnQ K "_law_grove" "_law_grove" st__law_grove f fd) (m_tuple : mg "tuple" = none) (m_range : mg "range" = none) (c__law_take : CalR P w K mg base 2 "_law_take" sd__law_take) (m_len : mg "len" = none) : FnOk P w K mg base CX0 3 f fd ["_law_box_here", "_law_model"] (toSp K sd__law_grove) :=
  fn_d (k := 2) (t := t__law_grove) F sc__law_grove len__law_grove (fun cdv A outer s H E e hr => dss_cons (ds_setO (i := 2) sc__law_grove.nd rfl (Or.inr rfl) (do_lst (da_cons (de_ixX hr (oex (de_ixX hr (osl (pv 1)) (oex (de_str (by decide +kernel))))) (oex (de_callR c__law_take hr (by decide) rfl (da_cons (de_var (pv 0)) (da_cons (de_len (oex (de_ixX hr (osl (pv 1)) (oex (de_str (by decide +kernel))))) rfl m_len) (da_nil)))))) (da_nil))))
    (dss_cons (ds_for PassesOwn.never rfl (di_range1 rfl m_range (de_callR c__law_take hr (by decide) rfl (da_cons (de_var (pv 0)) (da_cons (de_len (oex (de_ixX hr (osl (pv 1)) (oex (de_str (by decide +kernel))))) rfl m_len) (da_nil))))) (dg_name (i := 3) sc__law_grove.nd rfl (Or.inl rfl)) (dss_cons (ds_setO (i := 4) sc__law_grove.nd rfl (Or.inl rfl) (do_lst (da_nil)))
    (dss_cons (ds_bor (fun e l ss hB => ds_for PassesOwn.never rfl (di_bor hB (pv 2)) (dg_name (i := 5) sc__law_grove.nd rfl (Or.inl rfl)) (dss_one (ds_expr (de_extend (pv 4) (DO.de (do_lc (own := [("_law_other", 6)]) (fp := [6]) rfl sc__law_grove.nd (di_seq (de_ixX hr (oex (de_ixX hr (osl (pv 1)) (oex (de_str (by decide +kernel))))) (osl (pv 5)))) (blkOk_by (N := N__law_grove) (sc := defScope st__law_grove) (own := [("_law_other", 6)]) (by decide +kernel)) (fun _ _ _ _ _ => dg_name (i := 6) sc__law_grove.nd rfl (Or.inl rfl)) (fun _ _ _ _ _ => dts_one (dt_cmp (opd_bor hB (opd_notInX (k0 := 0) (Room.mono (j := 0 + 1) hr (by decide)))) (osl (pv 6)) (osl (pv 2)) rfl)) (fun _ _ _ _ _ => de_var (pv 6)))))))))
    (dss_one (ds_if (dt_cmp opd_gt (oex (de_len (osl (pv 4)) rfl m_len)) (oex (de_int)) rfl) (dss_one (ds_expr (de_append (pv 2) (de_ixX hr (osl (pv 4)) (oex (de_callR c__law_take hr (by decide) rfl (da_cons (de_var (pv 0)) (da_cons (de_len (osl (pv 4)) rfl m_len) (da_nil))))))))) (dss_nil))))))
    (dss_one (ds_ret (de_tuple1 (oex (DO.de (do_lc (own := [("_law_place", 5)]) (fp := [5]) rfl sc__law_grove.nd (di_seq (de_ixX hr (osl (pv 1)) (oex (de_str (by decide +kernel))))) (blkOk_by (N := N__law_grove) (sc := defScope st__law_grove) (own := [("_law_place", 5)]) (by decide +kernel)) (fun _ _ _ _ _ => dg_name (i := 5) sc__law_grove.nd rfl (Or.inl rfl)) (fun _ _ _ _ _ => dts_one (dt_cmp (opd_inX (k0 := 0) (Room.mono (j := 0 + 1) hr (by decide))) (osl (pv 5)) (osl (pv 2)) rfl)) (fun _ _ _ _ _ => de_var (pv 5))))) rfl m_tuple))))) pure__law_grove
theorem ok_Grove_places {P : Program} {w : World} {K : PySem.W.Frag} {mg : Str → Option Value} {base : Heap} {f : Addr} {fd : FuncData} (F : FnQ K "places" "Grove.places" st_Grove_places f fd) (h_own : FldOk K "own" ["Grove", "Made"]) : FnOk P w K mg base CX0 2 f fd ["self"] (toSp K sd_Grove_places) :=
  fn_d (k := 1) (t := t_Grove_places) F sc_Grove_places len_Grove_places (fun cdv A outer s H E e hr => dss_one (ds_ret (de_fld (osl (pv 0)) h_own))) pure_Grove_places
theorem okx_Grove___call__ {P : Program} {w : World} {K : PySem.W.Frag} {mg : Str → Option Value} {base : Heap} {f : Addr} {fd : FuncData} (F : FnQ K "__call__" "Grove.__call__" st_Grove___call__ f fd) (u_Tree_contains : CalU P w K mg base 2 "Tree" "__contains__" sd_Tree___contains__) (h_own_tree : FldOk K "own_tree" ["Grove", "Made"]) (er_NoPlace : Err1 P K mg "NoPlace" "place") (m_len : mg "len" = none) (h_own : FldOk K "own" ["Grove", "Made"]) (er_NoMatch : Err1 P K mg "NoMatch" "word") (c_gate_of : CalR P w K mg base 2 "gate_of" sd_gate_of) (B : Binds K fd ["self", "place"] []) : FnX P w K mg base 3 f sx_Grove___call__ :=
  fn_dX (k := 2) (t := tx_Grove___call__) F sc_Grove___call__ B lenx_Grove___call__ (fun cdv A outer s H E e ex hr tk po => dss0_cons (ds0_if (dt_cmpF (opf_inOwn (Or.inr ⟨rfl, rfl⟩) u_Tree_contains hr (by decide)) (de_var (pv 1)) (de_fld (osl (pv 0)) h_own_tree) rfl) (dss0_one (ds0_raise1 er_NoPlace hr rfl tk rfl (da_cons (de_var (pv 1)) (da_nil)))) (dss0_nil))
    (dss0_cons (ds0_if (dt_cmp (opd_eqX hr) (oex (de_len (oex (de_fld (osl (pv 0)) h_own)) rfl m_len)) (oex (de_int)) rfl) (dss0_one (ds0_raise1 er_NoMatch hr rfl tk rfl (da_cons (de_str (by decide +kernel)) (da_nil)))) (dss0_nil))
    (dss0_one (ds0_of (ds_ret (de_callR c_gate_of hr (by decide) rfl (da_cons (de_fld (osl (pv 0)) h_own_tree) (da_cons (de_fld (osl (pv 0)) h_own) (da_cons (de_var (pv 1)) (da_nil)))))))))) purex_Grove___call__
theorem ok__law_called {P : Program} {w : World} {K : PySem.W.Frag} {mg : Str → Option Value} {base : Heap} {f : Addr} {fd : FuncData} (F : FnQ K "_law_called" "_law_called" st__law_called f fd) (ox_Grove : CalOsX P w K mg base 3 ["Grove", "Made"] sx_Grove___call__) (g_NoPlace : mg "NoPlace" = some (.ref (He.ga K "NoPlace"))) (ex_NoPlace : ExOk K (.ref (He.ga K "NoPlace")) [("NoPlace", true), ("NoMatch", false)]) (xc_NoPlace : ExcC K (He.ga K "NoPlace") ∧ XfC K (He.ga K "NoPlace")) (m_isinstance : mg "isinstance" = none) (ie_KeyError_NoPlace : IsEOk K (.type "KeyError") [("NoPlace", true)]) (m_KeyError : mg "KeyError" = none) (ie_TowError_NoPlace : IsEOk K (.ref (He.ga K "TowError")) [("NoPlace", false)]) (g_TowError : mg "TowError" = some (.ref (He.ga K "TowError"))) (er_NoPlace : Err1 P K mg "NoPlace" "place") (xn_NoPlace_place : PySem.W.findIn K (.ref (He.ga K "NoPlace")) "place" = some none) (g_NoMatch : mg "NoMatch" = some (.ref (He.ga K "NoMatch"))) (ex_NoMatch : ExOk K (.ref (He.ga K "NoMatch")) [("NoMatch", true)]) (xc_NoMatch : ExcC K (He.ga K "NoMatch") ∧ XfC K (He.ga K "NoMatch")) (it_Broken_NoStanding_NoMatch : IsEOkT K ["Broken", "NoStanding"] [("NoMatch", false)]) (g_NoStanding : mg "NoStanding" = some (.ref (He.ga K "NoStanding"))) (g_Broken : mg "Broken" = some (.ref (He.ga K "Broken"))) (ie_UseError_NoMatch : IsEOk K (.ref (He.ga K "UseError")) [("NoMatch", true)]) (g_UseError : mg "UseError" = some (.ref (He.ga K "UseError"))) (er_NoMatch : Err1 P K mg "NoMatch" "word") (xn_NoMatch_word : PySem.W.findIn K (.ref (He.ga K "NoMatch")) "word" = some none) : FnOk P w K mg base CX0 5 f fd ["_law_grove_here", "_law_place"] (toSp K sd__law_called) :=
  fn_d0 (k := 4) (t := t__law_called) F sc__law_called len__law_called (fun cdv A outer s H E e hr => dss0_cons (ds0_of (ds_set (i := 2) sc__law_called.nd rfl (Or.inl rfl) (de_non)))
    (dss0_cons (ds0_tryM (i := 3) (exo := fun _ _ _ => False) rfl rfl sc__law_called.nd rfl (by rfl) takes_never (fun e' pn xe ex tk po => dss0_one (ds0_set (i := 2) sc__law_called.nd rfl (Or.inl rfl) (de0_tup (da0_cons (de0_of (de_str (by decide +kernel))) (da0_cons (de0_callO ox_Grove hr (by decide) tk (pv 0) (da_cons (de_var (pv 1)) (da_nil))) (da0_nil)))))) (.cons (ms := [("NoPlace", true), ("NoMatch", false)]) ⟨rfl, by decide, .inl g_NoPlace⟩ ex_NoPlace (fun a oe C da fs fvs pn hC hz hv => by
      obtain rfl := one_in (C0 := "NoPlace") (by decide) hC
      exact sus_one (su_set (i := 2) sc__law_called.nd rfl (Or.inl rfl) (eu_if (PW.pt (wu_and (tu_val (eu_isE1 xc_NoPlace.1 hz hv ie_KeyError_NoPlace (pv 3) (pe_bty rfl m_KeyError (by decide +kernel)) ty_rel rfl m_isinstance)) (wu_and1 (tu_not (tu_val (eu_isE1 xc_NoPlace.1 hz hv ie_TowError_NoPlace (pv 3) (de_gref rfl g_TowError) ref_rel rfl m_isinstance)))))) (eu_tup (au_cons (st1 := still_c) (eu_of (de_str (by decide +kernel)) still_c) (au_cons (st1 := still_xf) (eu_xf1 xc_NoPlace.2 xn_NoPlace_place hz hv (pv 3)) (au_nil)))) (eu_of (de_non) still_c)))) (.cons (ms := [("NoMatch", true)]) ⟨rfl, by decide, .inl g_NoMatch⟩ ex_NoMatch (fun a oe C da fs fvs pn hC hz hv => by
      obtain rfl := one_in (C0 := "NoMatch") (by decide) hC
      exact sus_one (su_set (i := 2) sc__law_called.nd rfl (Or.inl rfl) (eu_if (PW.pt (wu_and (tu_not (tu_val (eu_isET (cs := ["Broken", "NoStanding"]) xc_NoMatch.1 hz hv it_Broken_NoStanding_NoMatch (pv 3) (de_tup (da_cons (de_cls rfl g_Broken) (da_cons (de_cls rfl g_NoStanding) (da_nil)))) (fun δ Q q => q) rfl m_isinstance))) (wu_and1 (tu_val (eu_isE1 xc_NoMatch.1 hz hv ie_UseError_NoMatch (pv 3) (de_gref rfl g_UseError) ref_rel rfl m_isinstance))))) (eu_tup (au_cons (st1 := still_c) (eu_of (de_str (by decide +kernel)) still_c) (au_cons (st1 := still_xf) (eu_xf1 xc_NoMatch.2 xn_NoMatch_word hz hv (pv 3)) (au_nil)))) (eu_of (de_non) still_c)))) .nil)))
    (dss0_one (ds0_of (ds_ret (de_var (pv 2))))))) pure__law_called
theorem ok__law_gate {P : Program} {w : World} {K : PySem.W.Frag} {mg : Str → Option Value} {base : Heap} {f : Addr} {fd : FuncData} (F : FnQ K "_law_gate" "_law_gate" st__law_gate f fd)  : FnOk P w K mg base CX0 2 f fd ["_law_model", "_law_grove_here", "_law_place"] (toSp K sd__law_gate) :=
  fn_d (k := 1) (t := t__law_gate) F sc__law_gate len__law_gate (fun cdv A outer s H E e hr => dss_cons (ds_set (i := 3) sc__law_gate.nd rfl (Or.inl rfl) (de_ixX hr (osl (pv 1)) (oex (de_int))))
    (dss_cons (ds_for PassesOwn.never rfl (di_seq (de_var (pv 1))) (dg_name (i := 4) sc__law_gate.nd rfl (Or.inl rfl)) (dss_one (ds_if (dt_cmp opd_lt (oex (de_ixX hr (oex (de_ixX hr (oex (de_ixX hr (osl (pv 0)) (oex (de_str (by decide +kernel))))) (osl (pv 2)))) (osl (pv 4)))) (oex (de_ixX hr (oex (de_ixX hr (oex (de_ixX hr (osl (pv 0)) (oex (de_str (by decide +kernel))))) (osl (pv 2)))) (osl (pv 3)))) rfl) (dss_one (ds_set (i := 3) sc__law_gate.nd rfl (Or.inl rfl) (de_var (pv 4)))) (dss_nil))))
    (dss_one (ds_ret (de_var (pv 3)))))) pure__law_gate
theorem ok__law_maybe {P : Program} {w : World} {K : PySem.W.Frag} {mg : Str → Option Value} {base : Heap} {f : Addr} {fd : FuncData} (F : FnQ K "_law_maybe" "_law_maybe" st__law_maybe f fd) (c__law_grove : CalR P w K mg base 3 "_law_grove" sd__law_grove) (m_int : mg "int" = none) (c__law_take : CalR P w K mg base 2 "_law_take" sd__law_take) : FnOk P w K mg base CX0 4 f fd ["_law_box_here", "_law_model"] (toSp K sd__law_maybe) :=
  fn_d (k := 3) (t := t__law_maybe) F sc__law_maybe len__law_maybe (fun cdv A outer s H E e hr => dss_one (ds_ret (de_ixX hr (oex (DO.de (do_lst (da_cons (de_callR c__law_grove hr (by decide) rfl (da_cons (de_var (pv 0)) (da_cons (de_var (pv 1)) (da_nil)))) (da_cons (de_tup (da_nil)) (da_nil)))))) (oex (de_int1 (oex (de_cmp (opd_eqX hr) (oex (de_callR c__law_take hr (by decide) rfl (da_cons (de_var (pv 0)) (da_cons (de_int) (da_nil))))) (oex (de_int)) rfl)) rfl m_int))))) pure__law_maybe
theorem ok_law {P : Program} {w : World} {K : PySem.W.Frag} {mg : Str → Option Value} {base : Heap} {f : Addr} {fd : FuncData} (F : FnQ K "law" "law" st_law f fd) (m_range : mg "range" = none) (ps_Grove_places : CalPs P w K mg base 2 ["Grove", "Made"] "places" sd_Grove_places) (m_repr : mg "repr" = none) (c__law_called : CalR P w K mg base 5 "_law_called" sd__law_called) (c__law_gate : CalR P w K mg base 2 "_law_gate" sd__law_gate) (c__law_mixed : CalR P w K mg base 3 "_law_mixed" sd__law_mixed) (c__law_take : CalR P w K mg base 2 "_law_take" sd__law_take) (m_len : mg "len" = none) (n_Grove : CalI P w K mg base 3 "Grove" sd_Grove___init__) (c__law_maybe : CalR P w K mg base 4 "_law_maybe" sd__law_maybe) (n_Tree : CalI P w K mg base 5 "Tree" sd_Tree___init__) (c__law_ground : CalR P w K mg base 6 "_law_ground" sd__law_ground) (c__law_size : CalR P w K mg base 3 "_law_size" sd__law_size) (c__law_box : CalR P w K mg base 2 "_law_box" sd__law_box) (B : Binds K fd ["_law_script"] []) : FnG P w K mg base 7 f (toSp K sd_law) :=
  fn_dG (k := 6) (t := t_law) F sc_law B len_law (fun cdv A outer s H E e hr hG => dss_cons (ds_set (i := 1) sc_law.nd rfl (Or.inl rfl) (de_callR c__law_box hr (by decide) rfl (da_cons (de_var (pv 0)) (da_cons (de_int) (da_nil)))))
    (dss_cons (ds_for PassesOwn.never rfl (di_range1 rfl m_range (de_int)) (dg_name (i := 2) sc_law.nd rfl (Or.inl rfl)) (dss_cons (ds_set (i := 3) sc_law.nd rfl (Or.inl rfl) (de_callR c__law_ground hr (by decide) rfl (da_cons (de_var (pv 1)) (da_cons (de_callR c__law_size hr (by decide) rfl (da_cons (de_var (pv 1)) (da_nil))) (da_nil)))))
    (dss_cons (ds_parT (is := [4, 5]) rfl (.cons (pg_name (i := 4) sc_law.nd rfl (Or.inl rfl)) (.cons (pg_name (i := 5) sc_law.nd rfl (Or.inr rfl)) (Nms.nil))) (ea_cons (v := .im (dNew "Tree" sd_Tree___init__ (dCons (dBin ixX (.sl 3) (.ex (dC (.str "places")))) (dCons (dBin ixX (.sl 3) (.ex (dC (.str "edges")))) (dNil))))) (eim (DO.de (do_new n_Tree hr (by decide) rfl (da_cons (de_ixX hr (osl (pv 3)) (oex (de_str (by decide +kernel)))) (da_cons (de_ixX hr (osl (pv 3)) (oex (de_str (by decide +kernel)))) (da_nil)))))) (ea_cons (v := .im (dBin ixX (.sl 3) (.ex (dC (.str "places"))))) (eim (de_ixX hr (osl (pv 3)) (oex (de_str (by decide +kernel))))) (ea_nil))) rfl (by decide))
    (dss_one (ds_for PassesOwn.never rfl (di_range1 rfl m_range (de_int)) (dg_name (i := 6) sc_law.nd rfl (Or.inl rfl)) (dss_cons (ds_set (i := 7) sc_law.nd rfl (Or.inl rfl) (de_callR c__law_maybe hr (by decide) rfl (da_cons (de_var (pv 1)) (da_cons (de_var (pv 3)) (da_nil)))))
    (dss_cons (ds_parT (is := [8, 9]) rfl (.cons (pg_name (i := 8) sc_law.nd rfl (Or.inr rfl)) (.cons (pg_name (i := 9) sc_law.nd rfl (Or.inl rfl)) (Nms.nil))) (ea_cons (v := .im (dNew "Grove" sd_Grove___init__ (dCons (dVar 4) (dCons (dVar 7) (dNil))))) (eim (DO.de (do_new n_Grove hr (by decide) rfl (da_cons (de_var (pv 4)) (da_cons (de_var (pv 7)) (da_nil)))))) (ea_cons (v := .ow (dLst (dNil))) (eow (do_lst (da_nil))) (ea_nil))) rfl (by decide))
    (dss_cons (ds_set (i := 10) sc_law.nd rfl (Or.inl rfl) (DO.de (do_lst (da_cons (de_str (by decide +kernel)) (da_cons (de_str (by decide +kernel)) (da_cons (de_str (by decide +kernel)) (da_cons (de_bin opd_addX (oex (de_ixX hr (osl (pv 5)) (oex (de_int)))) (oex (de_str (by decide +kernel)))) (da_cons (de_bin opd_addX (oex (de_str (by decide +kernel))) (oex (de_ixX hr (osl (pv 5)) (oex (de_int))))) (da_nil)))))))))
    (dss_cons (ds_set (i := 10) sc_law.nd rfl (Or.inl rfl) (de_bin opd_addX (osl (pv 10)) (oex (DO.de (do_lc (own := [("_law_name", 15)]) (fp := [15]) rfl sc_law.nd (di_seq (de_tup (da_cons (de_str (by decide +kernel)) (da_cons (de_bin opd_addX (oex (de_slice (oex (de_ixX hr (osl (pv 5)) (oex (de_int)))) (dp_none) (dp_some (de_int)))) (oex (de_str (by decide +kernel)))) (da_cons (de_str (by decide +kernel)) (da_nil)))))) (blkOk_by (N := N_law) (sc := defScope st_law) (own := [("_law_name", 15)]) (by decide +kernel)) (fun _ _ _ _ _ => dg_name (i := 15) sc_law.nd rfl (Or.inl rfl)) (fun _ _ _ _ _ => dts_one (dt_cmp (opd_notInX (k0 := 0) (Room.mono (j := 0 + 1) hr (by decide))) (osl (pv 15)) (osl (pv 5)) rfl)) (fun _ _ _ _ _ => de_var (pv 15)))))))
    (dss_cons (ds_set (i := 11) sc_law.nd rfl (Or.inl rfl) (de_ixX hr (osl (pv 10)) (oex (de_callR c__law_take hr (by decide) rfl (da_cons (de_var (pv 1)) (da_cons (de_len (osl (pv 10)) rfl m_len) (da_nil)))))))
    (dss_cons (ds_set (i := 12) sc_law.nd rfl (Or.inl rfl) (de_callR c__law_mixed hr (by decide) rfl (da_cons (de_var (pv 1)) (da_cons (de_bin opd_addX (osl (pv 5)) (oex (de_tup (da_cons (de_var (pv 11)) (da_nil))))) (da_nil)))))
    (dss_cons (ds_for PassesOwn.never rfl (di_seq (de_var (pv 12))) (dg_name (i := 13) sc_law.nd rfl (Or.inl rfl)) (dss_one (ds_if (dt_cmp (opd_notInX (k0 := 0) (Room.mono (j := 0 + 1) hr (by decide))) (osl (pv 13)) (osl (pv 5)) rfl) (dss_one (ds_expr (de_append (pv 9) (de_tup (da_cons (de_str (by decide +kernel)) (da_cons (de_var (pv 13)) (da_nil))))))) (dss_one (ds_expr (de_append (pv 9) (de_ifExp (dt_cmp (opd_neX hr) (osl (pv 7)) (oex (de_tup (da_nil))) rfl) (de_tup (da_cons (de_str (by decide +kernel)) (da_cons (de_callR c__law_gate hr (by decide) rfl (da_cons (de_var (pv 3)) (da_cons (de_var (pv 7)) (da_cons (de_var (pv 13)) (da_nil))))) (da_nil)))) (de_tup (da_cons (de_str (by decide +kernel)) (da_cons (de_str (by decide +kernel)) (da_nil)))))))))))
    (dss_one (ds_for PassesOwn.never rfl (di_range1 rfl m_range (de_int)) (dg_name (i := 14) sc_law.nd rfl (Or.inl rfl)) (dss_one (ds_if (DW.dt (dw_or (dt_cmp (opd_neX hr) (oex (de_repr hr hG (oex (DO.de (do_lc (own := [("_law_place", 13)]) (fp := [13]) rfl sc_law.nd (di_seq (de_var (pv 12))) (blkOk_by (N := N_law) (sc := defScope st_law) (own := [("_law_place", 13)]) (by decide +kernel)) (fun _ _ _ _ _ => dg_name (i := 13) sc_law.nd rfl (Or.inl rfl)) (fun _ _ _ _ _ => dts_nil) (fun _ _ _ _ _ => de_callR c__law_called hr (by decide) rfl (da_cons (de_var (pv 8)) (da_cons (de_var (pv 13)) (da_nil))))))) rfl m_repr)) (oex (de_repr hr hG (osl (pv 9)) rfl m_repr)) rfl) (dw_or1 (dt_cmp (opd_neX hr) (oex (de_propS ps_Grove_places hr (by decide) (de_var (pv 8)))) (osl (pv 7)) rfl)))) (dss_one (ds_ret (de_bl))) (dss_nil)))))))))))))))))
    (dss_one (ds_ret (de_bl))))) pure_law
theorem entry {K : PySem.W.Frag} {H : Hp} {a : Addr} {ns : List Int} {sd : SpD} (hS : SqL K H a (ns.map V.int)) (h : sd [.scr ns] fun d => d = .bl true) : toSp K sd [.ref a] H (fun v _ => v = .bl true) fun _ _ _ => False :=
  ⟨⟨H, fun _ => none⟩, [.scr ns], _, ⟨Same.refl _, (fun _ _ h => nomatch h), (fun _ _ _ _ h => nomatch h)⟩, .cons (.scr hS) .nil, h, fun d v G' H' _ _ r q => by subst q; exact r.blI⟩
/-! ### the head -/
theorem ih_NoPlace : IniH "__init__" "NoPlace.__init__" (defArgs st_ENoPlace) (defBody st_ENoPlace) (defScope st_ENoPlace) "self" ["place"] := ⟨⟨_, rfl, rfl⟩, rfl, rfl, rfl, rfl, rfl, rfl, rfl, by decide +kernel, fun _ _ _ _ _ _ _ us h => match us, h with | [_, _], _ => rfl⟩
theorem su_NoPlace : SupSt ((defBody st_ENoPlace).getD 0 (.Pass ⟨0, 0, 0, 0⟩)) "NoPlace.__init__" (defScope st_ENoPlace) := ⟨⟨_, _, _, _, _, _, _, _, _, rfl, fun _ _ _ _ => ⟨rfl, rfl, rfl⟩⟩⟩
theorem fl0_NoPlace : FldSt ((defBody st_ENoPlace).getD 1 (.Pass ⟨0, 0, 0, 0⟩)) "self" "place" "place" "NoPlace.__init__" (defScope st_ENoPlace) := ⟨⟨_, _, _, _, rfl, fun _ _ _ _ => rfl⟩, rfl, rfl⟩
theorem ih_NoMatch : IniH "__init__" "NoMatch.__init__" (defArgs st_ENoMatch) (defBody st_ENoMatch) (defScope st_ENoMatch) "self" ["word"] := ⟨⟨_, rfl, rfl⟩, rfl, rfl, rfl, rfl, rfl, rfl, rfl, by decide +kernel, fun _ _ _ _ _ _ _ us h => match us, h with | [_, _], _ => rfl⟩
theorem su_NoMatch : SupSt ((defBody st_ENoMatch).getD 0 (.Pass ⟨0, 0, 0, 0⟩)) "NoMatch.__init__" (defScope st_ENoMatch) := ⟨⟨_, _, _, _, _, _, _, _, _, rfl, fun _ _ _ _ => ⟨rfl, rfl, rfl⟩⟩⟩
theorem fl0_NoMatch : FldSt ((defBody st_ENoMatch).getD 1 (.Pass ⟨0, 0, 0, 0⟩)) "self" "word" "word" "NoMatch.__init__" (defScope st_ENoMatch) := ⟨⟨_, _, _, _, rfl, fun _ _ _ _ => rfl⟩, rfl, rfl⟩
theorem ob_eq (s : PySem.W.SharedT) : ob s = hk.obs s.abs := obYG_eq (HandSHeadRun.getT_eq s)
theorem facts {P : Program} {w : World} {K : PySem.W.Frag} {h : Heap} {mg : Str → Option Value} {f : Addr} (hP : P.main.file = "/claim/cut.py") (hS : (P.main.scope.names.lookup ("super" : Str)).isSome = false) (X : K.In h) (G : h.Ns mainGlobals mg) (hfa : mg ("law" : Str) = some (.ref f)) (cY : SaysY fa fn fy K) :
    ∀ base : Heap, K.In base → base.Ns mainGlobals mg → FnG P w K mg base 7 f (toSp K sd_law) := by
  have c := cY.x
  obtain ⟨fd_Grove_places, F_Grove_places⟩ := c.dfn 0 (d := d_Grove_places) rfl
  obtain ⟨fd_Tree___contains__, F_Tree___contains__⟩ := c.dfn 1 (d := d_Tree___contains__) rfl
  obtain ⟨fd_gate_of, F_gate_of⟩ := c.dfn 2 (d := d_gate_of) rfl
  obtain ⟨fd_Grove___call__, F_Grove___call__⟩ := c.dfn 3 (d := d_Grove___call__) rfl
  obtain ⟨fd__law_called, F__law_called⟩ := c.dfn 4 (d := d__law_called) rfl
  obtain ⟨fd__law_gate, F__law_gate⟩ := c.dfn 5 (d := d__law_gate) rfl
  obtain ⟨fd__law_take, F__law_take⟩ := c.dfn 6 (d := d__law_take) rfl
  obtain ⟨fd__law_mixed, F__law_mixed⟩ := c.dfn 7 (d := d__law_mixed) rfl
  obtain ⟨fd_is_between, F_is_between⟩ := c.dfn 8 (d := d_is_between) rfl
  obtain ⟨fd_Grove___init__, F_Grove___init__⟩ := c.dfn 9 (d := d_Grove___init__) rfl
  obtain ⟨fd__law_grove, F__law_grove⟩ := c.dfn 10 (d := d__law_grove) rfl
  obtain ⟨fd__law_maybe, F__law_maybe⟩ := c.dfn 11 (d := d__law_maybe) rfl
  obtain ⟨fd_gaps_from, F_gaps_from⟩ := c.dfn 12 (d := d_gaps_from) rfl
  obtain ⟨fd_joined, F_joined⟩ := c.dfn 13 (d := d_joined) rfl
  obtain ⟨fd_check_edges, F_check_edges⟩ := c.dfn 14 (d := d_check_edges) rfl
  obtain ⟨fd_is_word, F_is_word⟩ := c.dfn 15 (d := d_is_word) rfl
  obtain ⟨fd_check_places, F_check_places⟩ := c.dfn 16 (d := d_check_places) rfl
  obtain ⟨fd_is_strings, F_is_strings⟩ := c.dfn 17 (d := d_is_strings) rfl
  obtain ⟨fd_check_tree, F_check_tree⟩ := c.dfn 18 (d := d_check_tree) rfl
  obtain ⟨fd_Tree___init__, F_Tree___init__⟩ := c.dfn 19 (d := d_Tree___init__) rfl
  obtain ⟨fd__law_gaps, F__law_gaps⟩ := c.dfn 20 (d := d__law_gaps) rfl
  obtain ⟨fd__law_near, F__law_near⟩ := c.dfn 21 (d := d__law_near) rfl
  obtain ⟨fd__law_names, F__law_names⟩ := c.dfn 22 (d := d__law_names) rfl
  obtain ⟨fd__law_tree, F__law_tree⟩ := c.dfn 23 (d := d__law_tree) rfl
  obtain ⟨fd__law_ground, F__law_ground⟩ := c.dfn 24 (d := d__law_ground) rfl
  obtain ⟨fd__law_size, F__law_size⟩ := c.dfn 25 (d := d__law_size) rfl
  obtain ⟨fd__law_box, F__law_box⟩ := c.dfn 26 (d := d__law_box) rfl
  obtain ⟨fd_law, F_law⟩ := c.dfn 27 (d := d_law) rfl
  have g_law : mg "law" = some (.ref (He.ga K "law")) := He.glo_ok X G (c.tst 22 (t := tFa (.glo "law")) rfl)
  have e := hfa.symm.trans g_law
  cases e
  have B_law : Binds K fd_law ["_law_script"] [] := F_law.bindsN fun _ _ _ _ _ _ us hl => match us, hl with | [_], _ => rfl
  intro base _ _
  have h_own := fld_ok (c.tst 23 (t := tFld "own" ["Grove", "Made"]) rfl)
  have r_Grove_places := ok_Grove_places (P := P) (w := w) (mg := mg) (base := base) F_Grove_places h_own
  have B_Grove_places : Binds K fd_Grove_places ["self"] [] := F_Grove_places.bindsN fun _ _ _ _ _ _ us hl => match us, hl with | [_], _ => rfl
  have k_Grove_places := fnD_of r_Grove_places B_Grove_places
  have h_own_places := fld_ok (c.tst 24 (t := tFld "own_places" ["Tree"]) rfl)
  have r_Tree___contains__ := ok_Tree___contains__ (P := P) (w := w) (mg := mg) (base := base) F_Tree___contains__ h_own_places
  have B_Tree___contains__ : Binds K fd_Tree___contains__ ["self", "value"] [] := F_Tree___contains__.bindsN fun _ _ _ _ _ _ us hl => match us, hl with | [_, _], _ => rfl
  have k_Tree___contains__ := fnD_of r_Tree___contains__ B_Tree___contains__
  have h_gaps := fld_ok (c.tst 25 (t := tFld "gaps" ["Tree"]) rfl)
  have r_gate_of := ok_gate_of (P := P) (w := w) (mg := mg) (base := base) F_gate_of h_gaps
  have B_gate_of : Binds K fd_gate_of ["tree", "places", "place"] [] := F_gate_of.bindsN fun _ _ _ _ _ _ us hl => match us, hl with | [_, _, _], _ => rfl
  have k_gate_of := fnD_of r_gate_of B_gate_of
  have u_Tree_contains : CalU P w K mg base 2 "Tree" "__contains__" sd_Tree___contains__ := ⟨_, k_Tree___contains__, (own_ok (c.tst 26 (t := tOwn "Tree" "__contains__") rfl)).1, (own_ok (c.tst 26 (t := tOwn "Tree" "__contains__") rfl)).2⟩
  have h_own_tree := fld_ok (c.tst 27 (t := tFld "own_tree" ["Grove", "Made"]) rfl)
  have eok_NoPlace := errT_ok (P := P) (B := "KeyError") (d := y_NoPlace) (c.tst 28 (t := errT "NoPlace" keTail "LookupError.__new__" "KeyError.__init__" "NoPlace.__init__" "/claim/cut.py" ["place"]) rfl) (cY.y 0 (d := y_NoPlace) rfl) hP hS
  have g_NoPlace : mg "NoPlace" = some (.ref (He.ga K "NoPlace")) := He.glo_ok X G (c.tst 29 (t := tFa (.glo "NoPlace")) rfl)
  have m_super := He.free_ok X G (c.tst 30 (t := tFa (.free "super")) rfl)
  have er_NoPlace : Err1 P K mg "NoPlace" "place" := ⟨⟨_, _, _, _, _, _, _, _, _, _, _, _, _, _, baseKE, eok_NoPlace.1, ih_NoPlace, su_NoPlace, fl0_NoPlace, by decide, eok_NoPlace.2 _ List.mem_cons_self⟩, m_super, g_NoPlace⟩
  have m_len := He.free_ok X G (c.tst 31 (t := tFa (.free "len")) rfl)
  have eok_NoMatch := errT_ok (P := P) (B := "ValueError") (d := y_NoMatch) (c.tst 32 (t := errT "NoMatch" veTl "ValueError.__new__" "ValueError.__init__" "NoMatch.__init__" "/claim/cut.py" ["word"]) rfl) (cY.y 1 (d := y_NoMatch) rfl) hP hS
  have g_NoMatch : mg "NoMatch" = some (.ref (He.ga K "NoMatch")) := He.glo_ok X G (c.tst 33 (t := tFa (.glo "NoMatch")) rfl)
  have er_NoMatch : Err1 P K mg "NoMatch" "word" := ⟨⟨_, _, _, _, _, _, _, _, _, _, _, _, _, _, baseVE, eok_NoMatch.1, ih_NoMatch, su_NoMatch, fl0_NoMatch, by decide, eok_NoMatch.2 _ List.mem_cons_self⟩, m_super, g_NoMatch⟩
  have g_gate_of : mg "gate_of" = some (.ref (He.ga K "gate_of")) := He.glo_ok X G (c.tst 0 (t := tFa (.glo "gate_of")) rfl)
  have c_gate_of : CalR P w K mg base 2 "gate_of" sd_gate_of := ⟨_, k_gate_of, g_gate_of, F_gate_of.kp⟩
  have B_Grove___call__ : Binds K fd_Grove___call__ ["self", "place"] [] := F_Grove___call__.bindsN fun _ _ _ _ _ _ us hl => match us, hl with | [_, _], _ => rfl
  have kx_Grove___call__ := okx_Grove___call__ (P := P) (w := w) (mg := mg) (base := base) F_Grove___call__ u_Tree_contains h_own_tree er_NoPlace m_len h_own er_NoMatch c_gate_of B_Grove___call__
  have k_Grove___call__ : FnD P w K mg base 3 _ sd_Grove___call__ := fnD_ofX kx_Grove___call__
  have ox_Grove : CalOsX P w K mg base 3 ["Grove", "Made"] sx_Grove___call__ := ⟨_, kx_Grove___call__, callS_ok (c.tst 34 (t := tCallS ["Grove", "Made"] "Grove") rfl)⟩
  have ex_NoPlace : ExOk K (.ref (He.ga K "NoPlace")) [("NoPlace", true), ("NoMatch", false)] := exT_ok (c := (fun K => .ref (He.ga K "NoPlace"))) (c.tst 35 (t := exT (fun K => .ref (He.ga K "NoPlace")) [("NoPlace", true), ("NoMatch", false)]) rfl)
  have xc_NoPlace := excT_ok (c.tst 36 (t := excT "NoPlace") rfl)
  have m_isinstance := He.free_ok X G (c.tst 37 (t := tFa (.free "isinstance")) rfl)
  have ie_KeyError_NoPlace : IsEOk K (.type "KeyError") [("NoPlace", true)] := isT_ok (c := (fun _ => .type "KeyError")) (c.tst 38 (t := isT (fun _ => .type "KeyError") [("NoPlace", true)]) rfl)
  have m_KeyError := He.free_ok X G (c.tst 39 (t := tFa (.free "KeyError")) rfl)
  have ie_TowError_NoPlace : IsEOk K (.ref (He.ga K "TowError")) [("NoPlace", false)] := isT_ok (c := (fun K => .ref (He.ga K "TowError"))) (c.tst 40 (t := isT (fun K => .ref (He.ga K "TowError")) [("NoPlace", false)]) rfl)
  have g_TowError : mg "TowError" = some (.ref (He.ga K "TowError")) := He.glo_ok X G (c.tst 41 (t := tFa (.glo "TowError")) rfl)
  have xn_NoPlace_place := eok_NoPlace.2 "place" List.mem_cons_self
  have ex_NoMatch : ExOk K (.ref (He.ga K "NoMatch")) [("NoMatch", true)] := exT_ok (c := (fun K => .ref (He.ga K "NoMatch"))) (c.tst 42 (t := exT (fun K => .ref (He.ga K "NoMatch")) [("NoMatch", true)]) rfl)
  have xc_NoMatch := excT_ok (c.tst 43 (t := excT "NoMatch") rfl)
  have it_Broken_NoStanding_NoMatch : IsEOkT K ["Broken", "NoStanding"] [("NoMatch", false)] := isTT_ok (c.tst 44 (t := isTT ["Broken", "NoStanding"] [("NoMatch", false)]) rfl)
  have g_NoStanding : mg "NoStanding" = some (.ref (He.ga K "NoStanding")) := He.glo_ok X G (c.tst 45 (t := tFa (.glo "NoStanding")) rfl)
  have g_Broken : mg "Broken" = some (.ref (He.ga K "Broken")) := He.glo_ok X G (c.tst 46 (t := tFa (.glo "Broken")) rfl)
  have ie_UseError_NoMatch : IsEOk K (.ref (He.ga K "UseError")) [("NoMatch", true)] := isT_ok (c := (fun K => .ref (He.ga K "UseError"))) (c.tst 47 (t := isT (fun K => .ref (He.ga K "UseError")) [("NoMatch", true)]) rfl)
  have g_UseError : mg "UseError" = some (.ref (He.ga K "UseError")) := He.glo_ok X G (c.tst 48 (t := tFa (.glo "UseError")) rfl)
  have xn_NoMatch_word := eok_NoMatch.2 "word" List.mem_cons_self
  have r__law_called := ok__law_called (P := P) (w := w) (mg := mg) (base := base) F__law_called ox_Grove g_NoPlace ex_NoPlace xc_NoPlace m_isinstance ie_KeyError_NoPlace m_KeyError ie_TowError_NoPlace g_TowError er_NoPlace xn_NoPlace_place g_NoMatch ex_NoMatch xc_NoMatch it_Broken_NoStanding_NoMatch g_NoStanding g_Broken ie_UseError_NoMatch g_UseError er_NoMatch xn_NoMatch_word
  have B__law_called : Binds K fd__law_called ["_law_grove_here", "_law_place"] [] := F__law_called.bindsN fun _ _ _ _ _ _ us hl => match us, hl with | [_, _], _ => rfl
  have k__law_called := fnD_of r__law_called B__law_called
  have r__law_gate := ok__law_gate (P := P) (w := w) (mg := mg) (base := base) F__law_gate 
  have B__law_gate : Binds K fd__law_gate ["_law_model", "_law_grove_here", "_law_place"] [] := F__law_gate.bindsN fun _ _ _ _ _ _ us hl => match us, hl with | [_, _, _], _ => rfl
  have k__law_gate := fnD_of r__law_gate B__law_gate
  have r__law_take := ok__law_take (P := P) (w := w) (mg := mg) (base := base) F__law_take m_len
  have B__law_take : Binds K fd__law_take ["_law_box_here", "_law_many"] [] := F__law_take.bindsN fun _ _ _ _ _ _ us hl => match us, hl with | [_, _], _ => rfl
  have k__law_take := fnD_of r__law_take B__law_take
  have m_range := He.free_ok X G (c.tst 49 (t := tFa (.free "range")) rfl)
  have g__law_take : mg "_law_take" = some (.ref (He.ga K "_law_take")) := He.glo_ok X G (c.tst 3 (t := tFa (.glo "_law_take")) rfl)
  have c__law_take : CalR P w K mg base 2 "_law_take" sd__law_take := ⟨_, k__law_take, g__law_take, F__law_take.kp⟩
  have m_list := He.free_ok X G (c.tst 50 (t := tFa (.free "list")) rfl)
  have r__law_mixed := ok__law_mixed (P := P) (w := w) (mg := mg) (base := base) F__law_mixed m_range m_len c__law_take m_list
  have B__law_mixed : Binds K fd__law_mixed ["_law_box_here", "_law_items"] [] := F__law_mixed.bindsN fun _ _ _ _ _ _ us hl => match us, hl with | [_, _], _ => rfl
  have k__law_mixed := fnD_of r__law_mixed B__law_mixed
  have r_is_between := ok_is_between (P := P) (w := w) (mg := mg) (base := base) F_is_between h_gaps
  have B_is_between : Binds K fd_is_between ["tree", "one", "place", "other"] [] := F_is_between.bindsN fun _ _ _ _ _ _ us hl => match us, hl with | [_, _, _, _], _ => rfl
  have k_is_between := fnD_of r_is_between B_is_between
  have g_is_between : mg "is_between" = some (.ref (He.ga K "is_between")) := He.glo_ok X G (c.tst 5 (t := tFa (.glo "is_between")) rfl)
  have c_is_between : CalR P w K mg base 2 "is_between" sd_is_between := ⟨_, k_is_between, g_is_between, F_is_between.kp⟩
  have m_tuple := He.free_ok X G (c.tst 51 (t := tFa (.free "tuple")) rfl)
  have r_Grove___init__ := ok_Grove___init__ (P := P) (w := w) (mg := mg) (base := base) F_Grove___init__ h_own h_own_tree h_own_places c_is_between m_tuple u_Tree_contains
  have B_Grove___init__ : Binds K fd_Grove___init__ ["self", "tree", "places"] [] := F_Grove___init__.bindsN fun _ _ _ _ _ _ us hl => match us, hl with | [_, _, _], _ => rfl
  have k_Grove___init__ := r_Grove___init__
  have r__law_grove := ok__law_grove (P := P) (w := w) (mg := mg) (base := base) F__law_grove m_tuple m_range c__law_take m_len
  have B__law_grove : Binds K fd__law_grove ["_law_box_here", "_law_model"] [] := F__law_grove.bindsN fun _ _ _ _ _ _ us hl => match us, hl with | [_, _], _ => rfl
  have k__law_grove := fnD_of r__law_grove B__law_grove
  have g__law_grove : mg "_law_grove" = some (.ref (He.ga K "_law_grove")) := He.glo_ok X G (c.tst 6 (t := tFa (.glo "_law_grove")) rfl)
  have c__law_grove : CalR P w K mg base 3 "_law_grove" sd__law_grove := ⟨_, k__law_grove, g__law_grove, F__law_grove.kp⟩
  have m_int := He.free_ok X G (c.tst 52 (t := tFa (.free "int")) rfl)
  have r__law_maybe := ok__law_maybe (P := P) (w := w) (mg := mg) (base := base) F__law_maybe c__law_grove m_int c__law_take
  have B__law_maybe : Binds K fd__law_maybe ["_law_box_here", "_law_model"] [] := F__law_maybe.bindsN fun _ _ _ _ _ _ us hl => match us, hl with | [_, _], _ => rfl
  have k__law_maybe := fnD_of r__law_maybe B__law_maybe
  have r_gaps_from := ok_gaps_from (P := P) (w := w) (mg := mg) (base := base) F_gaps_from m_len
  have B_gaps_from : Binds K fd_gaps_from ["near", "start"] [] := F_gaps_from.bindsN fun _ _ _ _ _ _ us hl => match us, hl with | [_, _], _ => rfl
  have k_gaps_from := fnD_of r_gaps_from B_gaps_from
  have r_joined := ok_joined (P := P) (w := w) (mg := mg) (base := base) F_joined m_list
  have B_joined : Binds K fd_joined ["groups", "one", "other"] [] := F_joined.bindsN fun _ _ _ _ _ _ us hl => match us, hl with | [_, _, _], _ => rfl
  have m_enumerate := He.free_ok X G (c.tst 53 (t := tFa (.free "enumerate")) rfl)
  have r_check_edges := ok_check_edges (P := P) (w := w) (mg := mg) (base := base) F_check_edges m_enumerate
  have B_check_edges : Binds K fd_check_edges ["places", "edges"] [] := F_check_edges.bindsN fun _ _ _ _ _ _ us hl => match us, hl with | [_, _], _ => rfl
  have k_check_edges := fnD_of r_check_edges B_check_edges
  have m_all := He.free_ok X G (c.tst 54 (t := tFa (.free "all")) rfl)
  have g_LETTERS := He.str_ok X G (c.tst 55 (t := tFa (.str "LETTERS" "abcdefghijklmnopqrstuvwxyz")) rfl)
  have m_str := He.free_ok X G (c.tst 56 (t := tFa (.free "str")) rfl)
  have r_is_word := ok_is_word (P := P) (w := w) (mg := mg) (base := base) F_is_word m_all g_LETTERS m_len m_isinstance m_str
  have B_is_word : Binds K fd_is_word ["value"] [] := F_is_word.bindsN fun _ _ _ _ _ _ us hl => match us, hl with | [_], _ => rfl
  have k_is_word := fnD_of r_is_word B_is_word
  have g_is_word : mg "is_word" = some (.ref (He.ga K "is_word")) := He.glo_ok X G (c.tst 11 (t := tFa (.glo "is_word")) rfl)
  have c_is_word : CalR P w K mg base 2 "is_word" sd_is_word := ⟨_, k_is_word, g_is_word, F_is_word.kp⟩
  have k_Tree_LARGEST := ccon_ok (c.tst 57 (t := tCCon "Tree" "LARGEST" 40) rfl)
  have g_Tree : mg "Tree" = some (.ref (He.ga K "Tree")) := He.glo_ok X G (c.tst 58 (t := tFa (.glo "Tree")) rfl)
  have r_check_places := ok_check_places (P := P) (w := w) (mg := mg) (base := base) F_check_places m_enumerate c_is_word m_len k_Tree_LARGEST g_Tree
  have B_check_places : Binds K fd_check_places ["places"] [] := F_check_places.bindsN fun _ _ _ _ _ _ us hl => match us, hl with | [_], _ => rfl
  have k_check_places := fnD_of r_check_places B_check_places
  have r_is_strings := ok_is_strings (P := P) (w := w) (mg := mg) (base := base) F_is_strings m_len m_all m_isinstance m_str m_tuple
  have B_is_strings : Binds K fd_is_strings ["value", "many"] [] := F_is_strings.bindsN fun _ _ _ _ _ _ us hl => match us, hl with | [_, _], _ => rfl
  have k_is_strings := fnD_of r_is_strings B_is_strings
  have g_joined : mg "joined" = some (.ref (He.ga K "joined")) := He.glo_ok X G (c.tst 9 (t := tFa (.glo "joined")) rfl)
  have c_joined : CalB2 P w K mg base 2 "joined" sd_joined := ⟨_, _, _, r_joined, g_joined, F_joined.kp, B_joined⟩
  have g_check_edges : mg "check_edges" = some (.ref (He.ga K "check_edges")) := He.glo_ok X G (c.tst 10 (t := tFa (.glo "check_edges")) rfl)
  have c_check_edges : CalR P w K mg base 2 "check_edges" sd_check_edges := ⟨_, k_check_edges, g_check_edges, F_check_edges.kp⟩
  have g_check_places : mg "check_places" = some (.ref (He.ga K "check_places")) := He.glo_ok X G (c.tst 12 (t := tFa (.glo "check_places")) rfl)
  have c_check_places : CalR P w K mg base 3 "check_places" sd_check_places := ⟨_, k_check_places, g_check_places, F_check_places.kp⟩
  have g_is_strings : mg "is_strings" = some (.ref (He.ga K "is_strings")) := He.glo_ok X G (c.tst 13 (t := tFa (.glo "is_strings")) rfl)
  have c_is_strings : CalR P w K mg base 2 "is_strings" sd_is_strings := ⟨_, k_is_strings, g_is_strings, F_is_strings.kp⟩
  have r_check_tree := ok_check_tree (P := P) (w := w) (mg := mg) (base := base) F_check_tree m_enumerate c_joined c_check_edges c_check_places m_all c_is_strings m_isinstance m_tuple
  have B_check_tree : Binds K fd_check_tree ["places", "edges"] [] := F_check_tree.bindsN fun _ _ _ _ _ _ us hl => match us, hl with | [_, _], _ => rfl
  have k_check_tree := fnD_of r_check_tree B_check_tree
  have h_near := fld_ok (c.tst 59 (t := tFld "near" ["Tree"]) rfl)
  have g_gaps_from : mg "gaps_from" = some (.ref (He.ga K "gaps_from")) := He.glo_ok X G (c.tst 8 (t := tFa (.glo "gaps_from")) rfl)
  have c_gaps_from : CalR P w K mg base 2 "gaps_from" sd_gaps_from := ⟨_, k_gaps_from, g_gaps_from, F_gaps_from.kp⟩
  have h_own_edges := fld_ok (c.tst 60 (t := tFld "own_edges" ["Tree"]) rfl)
  have g_check_tree : mg "check_tree" = some (.ref (He.ga K "check_tree")) := He.glo_ok X G (c.tst 14 (t := tFa (.glo "check_tree")) rfl)
  have c_check_tree : CalR P w K mg base 4 "check_tree" sd_check_tree := ⟨_, k_check_tree, g_check_tree, F_check_tree.kp⟩
  have r_Tree___init__ := ok_Tree___init__ (P := P) (w := w) (mg := mg) (base := base) F_Tree___init__ h_near m_tuple h_gaps c_gaps_from h_own_edges h_own_places c_check_tree
  have B_Tree___init__ : Binds K fd_Tree___init__ ["self", "places", "edges"] [] := F_Tree___init__.bindsN fun _ _ _ _ _ _ us hl => match us, hl with | [_, _, _], _ => rfl
  have k_Tree___init__ := r_Tree___init__
  have r__law_gaps := ok__law_gaps (P := P) (w := w) (mg := mg) (base := base) F__law_gaps m_len
  have B__law_gaps : Binds K fd__law_gaps ["_law_near_here", "_law_start"] [] := F__law_gaps.bindsN fun _ _ _ _ _ _ us hl => match us, hl with | [_, _], _ => rfl
  have k__law_gaps := fnD_of r__law_gaps B__law_gaps
  have r__law_near := ok__law_near (P := P) (w := w) (mg := mg) (base := base) F__law_near 
  have B__law_near : Binds K fd__law_near ["_law_places", "_law_edges"] [] := F__law_near.bindsN fun _ _ _ _ _ _ us hl => match us, hl with | [_, _], _ => rfl
  have k__law_near := fnD_of r__law_near B__law_near
  have g__law_mixed : mg "_law_mixed" = some (.ref (He.ga K "_law_mixed")) := He.glo_ok X G (c.tst 4 (t := tFa (.glo "_law_mixed")) rfl)
  have c__law_mixed : CalR P w K mg base 3 "_law_mixed" sd__law_mixed := ⟨_, k__law_mixed, g__law_mixed, F__law_mixed.kp⟩
  have m_min := He.free_ok X G (c.tst 61 (t := tFa (.free "min")) rfl)
  have r__law_names := ok__law_names (P := P) (w := w) (mg := mg) (base := base) F__law_names c__law_mixed m_int m_range m_min c__law_take m_len
  have B__law_names : Binds K fd__law_names ["_law_box_here", "_law_many"] [] := F__law_names.bindsN fun _ _ _ _ _ _ us hl => match us, hl with | [_, _], _ => rfl
  have k__law_names := fnD_of r__law_names B__law_names
  have m_max := He.free_ok X G (c.tst 62 (t := tFa (.free "max")) rfl)
  have g__law_names : mg "_law_names" = some (.ref (He.ga K "_law_names")) := He.glo_ok X G (c.tst 17 (t := tFa (.glo "_law_names")) rfl)
  have c__law_names : CalR P w K mg base 4 "_law_names" sd__law_names := ⟨_, k__law_names, g__law_names, F__law_names.kp⟩
  have r__law_tree := ok__law_tree (P := P) (w := w) (mg := mg) (base := base) F__law_tree m_tuple c__law_mixed m_range c__law_take m_max c__law_names
  have B__law_tree : Binds K fd__law_tree ["_law_box_here", "_law_most"] [] := F__law_tree.bindsN fun _ _ _ _ _ _ us hl => match us, hl with | [_, _], _ => rfl
  have k__law_tree := fnD_of r__law_tree B__law_tree
  have g__law_gaps : mg "_law_gaps" = some (.ref (He.ga K "_law_gaps")) := He.glo_ok X G (c.tst 15 (t := tFa (.glo "_law_gaps")) rfl)
  have c__law_gaps : CalR P w K mg base 2 "_law_gaps" sd__law_gaps := ⟨_, k__law_gaps, g__law_gaps, F__law_gaps.kp⟩
  have g__law_near : mg "_law_near" = some (.ref (He.ga K "_law_near")) := He.glo_ok X G (c.tst 16 (t := tFa (.glo "_law_near")) rfl)
  have c__law_near : CalR P w K mg base 2 "_law_near" sd__law_near := ⟨_, k__law_near, g__law_near, F__law_near.kp⟩
  have g__law_tree : mg "_law_tree" = some (.ref (He.ga K "_law_tree")) := He.glo_ok X G (c.tst 18 (t := tFa (.glo "_law_tree")) rfl)
  have c__law_tree : CalR P w K mg base 5 "_law_tree" sd__law_tree := ⟨_, k__law_tree, g__law_tree, F__law_tree.kp⟩
  have r__law_ground := ok__law_ground (P := P) (w := w) (mg := mg) (base := base) F__law_ground c__law_gaps c__law_near c__law_tree
  have B__law_ground : Binds K fd__law_ground ["_law_box_here", "_law_most"] [] := F__law_ground.bindsN fun _ _ _ _ _ _ us hl => match us, hl with | [_, _], _ => rfl
  have k__law_ground := fnD_of r__law_ground B__law_ground
  have r__law_size := ok__law_size (P := P) (w := w) (mg := mg) (base := base) F__law_size c__law_take
  have B__law_size : Binds K fd__law_size ["_law_box_here"] [] := F__law_size.bindsN fun _ _ _ _ _ _ us hl => match us, hl with | [_], _ => rfl
  have k__law_size := fnD_of r__law_size B__law_size
  have m_abs := He.free_ok X G (c.tst 63 (t := tFa (.free "abs")) rfl)
  have r__law_box := ok__law_box (P := P) (w := w) (mg := mg) (base := base) F__law_box m_abs
  have B__law_box : Binds K fd__law_box ["_law_script", "_law_base"] [] := F__law_box.bindsN fun _ _ _ _ _ _ us hl => match us, hl with | [_, _], _ => rfl
  have k__law_box := fnD_of r__law_box B__law_box
  have ps_Grove_places : CalPs P w K mg base 2 ["Grove", "Made"] "places" sd_Grove_places := ⟨_, _, _, r_Grove_places, B_Grove_places, propS_ok (c.tst 64 (t := tPropS ["Grove", "Made"] "Grove" "places") rfl)⟩
  have m_repr := He.free_ok X G (c.tst 65 (t := tFa (.free "repr")) rfl)
  have g__law_called : mg "_law_called" = some (.ref (He.ga K "_law_called")) := He.glo_ok X G (c.tst 1 (t := tFa (.glo "_law_called")) rfl)
  have c__law_called : CalR P w K mg base 5 "_law_called" sd__law_called := ⟨_, k__law_called, g__law_called, F__law_called.kp⟩
  have g__law_gate : mg "_law_gate" = some (.ref (He.ga K "_law_gate")) := He.glo_ok X G (c.tst 2 (t := tFa (.glo "_law_gate")) rfl)
  have c__law_gate : CalR P w K mg base 2 "_law_gate" sd__law_gate := ⟨_, k__law_gate, g__law_gate, F__law_gate.kp⟩
  have g_Grove : mg "Grove" = some (.ref (He.ga K "Grove")) := He.glo_ok X G (c.tst 67 (t := tFa (.glo "Grove")) rfl)
  have n_Grove : CalI P w K mg base 3 "Grove" sd_Grove___init__ := ⟨_, _, _, k_Grove___init__, g_Grove, He.mkr_ok (c.tst 66 (t := tFa (.mkr "Grove")) rfl), B_Grove___init__⟩
  have g__law_maybe : mg "_law_maybe" = some (.ref (He.ga K "_law_maybe")) := He.glo_ok X G (c.tst 7 (t := tFa (.glo "_law_maybe")) rfl)
  have c__law_maybe : CalR P w K mg base 4 "_law_maybe" sd__law_maybe := ⟨_, k__law_maybe, g__law_maybe, F__law_maybe.kp⟩
  have n_Tree : CalI P w K mg base 5 "Tree" sd_Tree___init__ := ⟨_, _, _, k_Tree___init__, g_Tree, He.mkr_ok (c.tst 68 (t := tFa (.mkr "Tree")) rfl), B_Tree___init__⟩
  have g__law_ground : mg "_law_ground" = some (.ref (He.ga K "_law_ground")) := He.glo_ok X G (c.tst 19 (t := tFa (.glo "_law_ground")) rfl)
  have c__law_ground : CalR P w K mg base 6 "_law_ground" sd__law_ground := ⟨_, k__law_ground, g__law_ground, F__law_ground.kp⟩
  have g__law_size : mg "_law_size" = some (.ref (He.ga K "_law_size")) := He.glo_ok X G (c.tst 20 (t := tFa (.glo "_law_size")) rfl)
  have c__law_size : CalR P w K mg base 3 "_law_size" sd__law_size := ⟨_, k__law_size, g__law_size, F__law_size.kp⟩
  have g__law_box : mg "_law_box" = some (.ref (He.ga K "_law_box")) := He.glo_ok X G (c.tst 21 (t := tFa (.glo "_law_box")) rfl)
  have c__law_box : CalR P w K mg base 2 "_law_box" sd__law_box := ⟨_, k__law_box, g__law_box, F__law_box.kp⟩
  exact ok_law F_law m_range ps_Grove_places m_repr c__law_called c__law_gate c__law_mixed c__law_take m_len n_Grove c__law_maybe n_Tree c__law_ground c__law_size c__law_box B_law
end T
open PySem PySem.W PySem.Calls PyProof.Rows
theorem PySem.Challenge.cw_towgrove_k13_gates_holds : PySem.Challenge.rw_towgrove_k13_gates.Holds := by
  w_on; o_law
  refine HandSHeadRun.head_any (r := OpenLaw.row PySem.Challenge.rw_towgrove_k13_gates) (q := view (OpenLaw.row PySem.Challenge.rw_towgrove_k13_gates).prog [48]) (H := T.hk) (ob := T.ob) (M := 20000) (loose := ("_wall" :: "TowError" :: "BuildError" :: "UseError" :: "NoTree" :: "NoGrove" :: "NoStanding" :: "NoMatch" :: "Broken" :: "NoPlace" :: "gate_of" :: "common" :: "bridge_of" :: "after" :: "hull" :: "is_between" :: "need_tree" :: "need_some" :: "Grove" :: "Made" :: "made" :: "LETTERS" :: "is_word" :: "is_strings" :: "check_places" :: "check_edges" :: "joined" :: "check_tree" :: "gaps_from" :: "need_places" :: "Tree" :: "_law_box" :: "_law_take" :: "_law_mixed" :: "_law_names" :: "_law_tree" :: "_law_near" :: "_law_gaps" :: "_law_grove" :: "_law_gate" :: "_law_size" :: "_law_ground" :: "_law_maybe" :: "_law_called" :: [])) (d := HandSHeadRun.topDef (OpenLaw.row PySem.Challenge.rw_towgrove_k13_gates).prog 48) (kwd := []) T.ob_eq
    (by kernel_rfl) (fun s => by kernel_rfl) T.run (by kernel_rfl) (by kernel_rfl) (by kernel_rfl) (by rfl) (by first | assumption | decide +kernel) (by decide +kernel) ⟨rfl, rfl, rfl, rfl, rfl, by decide +kernel⟩ ?hw ?hc
  case hw => w_witness2
  case hc =>
    refine T.walk_ofG (l := PySem.Challenge.rw_towgrove_k13_gates) (n := 63) (k := 7) rfl (by decide) (by kernel_rfl) ⟨rfl, by decide, by decide⟩ ?F
    intro w mg fa h Y G hmg0
    obtain ⟨K, KX, c⟩ := Y
    have hmg : mg ("law" : PySem.Str) = some (.ref fa) := by
      have e : (HandSHeadRun.topDef (OpenLaw.row PySem.Challenge.rw_towgrove_k13_gates).prog 48).name = ("law" : PySem.Str) := by kernel_rfl
      rw [← e]
      exact hmg0
    have hF := T.facts (P := (PySem.Challenge.rw_towgrove_k13_gates).prog) (w := w) (by kernel_rfl) (by kernel_rfl) KX G hmg c
    exact ⟨K, T.toSp K T.sd_law, KX, fun H a ns hl _ hS => T.entry hS ⟨ns, rfl, rfl⟩, hF⟩
