import PyProof.Rows.All
import Wide.All
import OpenK.AllK
import Wide.FinOn
import HandS.ForMost
import HandS.More
import HandS.Flow
import HandS.Wide
import HandS.Gcd
import HandS.DictComp
import HandS.ClsMeth
import HandS.IsInst
import HandS.Codes
import HandS.CallLocal
import HandS.Conv
import KE.SortData
import KE.KDictKeyed
import KE.KDictLaw
import HandS.HeadHook1
import HandS.HeadHook2
import HandS.Head0
import HandS.Head1
import HandS.Head2
import HandS.Head3
import HandS.SortKw
import KE.KTypeName
import KE.KDictCopyH
import HandS.Deep
import HandS.Ends
import HandS.HeadEnd
import PySem.Challenge.RW_samphire_k45_whole_one_law_over_any_net
section
set_option Elab.async false
set_option linter.all false
set_option maxRecDepth 100000
set_option maxHeartbeats 1000000
namespace Sam
open PySem PySem.Spec PyProof.Rows L2
/-! ### the program text and its parts -/
def top (i : Nat) : Stmt := PySem.Challenge.pw_samphire_k45_whole_one_law_over_any_net.main.body.getD i (.Pass ⟨0, 0, 0, 0⟩)
abbrev sPick : Stmt := inClass (top 37) 3
abbrev nS (j : Nat) : Stmt := inClass (top 20) j
def ndN : List Str := ["name", "parcels", "letters", "sent", "known"]
abbrev eS (j : Nat) : Stmt := inClass (top 37) j
abbrev uS (j : Nat) : Stmt := inClass (top 51) j
abbrev wS (j : Nat) : Stmt := inClass (top 62) j
def smN (f2 : Str) : List Str := ["size", f2, "kept"]
def slot2 (sl : Array (Option Value)) : Option Value := (sl[2]?).join
def exN : List Str := ["path", "at", "chance", "is_open", "is_over", "many", "rows"]
open PySem.W (Frag nsIn ownIn alongIn findIn typeIn specialIn takesIn clsIn mroIn findObj hasDictIn plainGet keepIn isFn isClsIn subIn instIn makesIn plainOver takerIn kitCls kitOne findCls readsIn recIn fnIn codeIn)
open He (ga ma frG frG_in eqO eqO_ok ba FnV)
abbrev KC (K : Frag) (C : Addr) (o : Obj) : Frag := (C, o) :: K
/-! ### the head's facts, as truth values -/
inductive Loc where
  | glo (x : Str)
  | meth (x m : Str)
  | cmeth (x m : Str)
def cmA (K : Frag) (p : Addr) : Addr := match K.lookup p with
  | some ⟨_, _, .fields vs, _⟩ => (match vs.toList with
    | .ref g :: _ => g
    | _ => 0)
  | _ => 0
def Loc.at_ (K : Frag) : Loc → Addr
  | .glo x => ga K x
  | .meth x m => ma K (ga K x) m
  | .cmeth x m => cmA K (ma K (ga K x) m)
structure FD where
  loc : Loc
  name : Str
  qual : Str
  st : Stmt
def FD.val (d : FD) : FnV := some (d.name, d.qual, defArgs d.st, .stmts (defBody d.st), defScope d.st, mainGlobals, [], .none, builtinsNs)
/-- less the two classes -/
def less (K : Frag) (C D : Addr) : Frag := K.filter fun p => !(p.1 == C) && !(p.1 == D)
abbrev aU (K : Frag) : Addr := ga K "Uniform"
abbrev aW (K : Frag) : Addr := ga K "Weighted"
abbrev aE (K : Frag) : Addr := ga K "Explorer"
abbrev aN (K : Frag) : Addr := ga K "Node"
abbrev oU (K : Frag) : Obj := (K.lookup (aU K)).getD default
abbrev oW (K : Frag) : Obj := (K.lookup (aW K)).getD default
abbrev K1 (K : Frag) : Frag := less K (aU K) (aW K)
abbrev KU (K : Frag) : Frag := KC (K1 K) (aU K) (oU K)
abbrev KW (K : Frag) : Frag := KC (K1 K) (aW K) (oW K)
def fnV (K : Frag) (f : Addr) : FnV := match K.lookup f with
  | some ⟨_, _, .func fd, _⟩ => some (fd.name, fd.qualname, fd.params, fd.body, fd.scope, fd.globals, fd.closure, fd.defaults, fd.builtins)
  | _ => none
def fnB (K : Frag) (f : Addr) (q : Str) : Bool := keepIn K (.ref f) && (match K.lookup f with
  | some ⟨_, _, .func fd, _⟩ => codeIn K fd.code q
  | _ => false)
def gloB (K : Frag) (x : Str) (a : Addr) : Bool := eqO (nsIn K mainGlobals x) (some (some (.ref a)))
def freeB (K : Frag) (x : Str) : Bool := eqO (nsIn K mainGlobals x) (some none)
def clsB (K : Frag) (C : Addr) : Bool := plainGet K C Str.empty && (hasDictIn K C && (plainOver K C && eqO (findIn K (.ref C) "__setattr__") (some (some (.builtin "object.__setattr__")))))
def noatB (K : Frag) (C : Addr) (f : Str) : Bool := eqO (findIn K (.ref C) f) (some none)
def methB (K : Frag) (C : Addr) (m : Str) (f : Addr) : Bool := eqO (findIn K (.ref C) m) (some (some (.ref f))) && (isFn K (.ref f) && keepIn K (.ref f))
def mkB (K : Frag) (C f : Addr) : Bool := makesIn K C && (eqO (findIn K (.ref C) "__init__") (some (some (.ref f))) && (isFn K (.ref f) && keepIn K (.ref C)))
def getB (r : Option PySem.W.CFound) (g a b tp : Value) : Bool := match r with
  | some (.get g' a' b' tp') => decide (g' = g) && (decide (a' = a) && (decide (b' = b) && decide (tp' = tp)))
  | _ => false
def nmB (K : Frag) (C : Addr) (nm : Str) : Bool := eqO (findIn K (.ref C) "__class__") (some (some (.builtin "object.__class__"))) && (eqO (specialIn K (.builtin "object.__class__") "__get__") (some (some (.builtin "getset_descriptor.__get__"))) &&
  (decide (takesIn K (.builtin "object.__class__") = some true) && (decide (mroIn K C (.type "object") = some true) && (readsIn K C (.type "type") && (getB (findCls K (.ref C) (.type "type") "__name__") (.builtin "getset_descriptor.__get__") (.builtin "type.__name__") (.ref C) (.type "type") &&
  (decide (typeIn K (.ref C) = some (.type "type")) && (match clsIn K C with
    | some cd => decide (cd.name = nm)
    | none => false)))))))
def cmB (K KK : Frag) (C : Addr) (m : Str) (p g : Addr) : Bool := readsIn KK C (.type "type") && (eqO (specialIn KK (.ref C) "__getattribute__") (some (some (.builtin "type.__getattribute__"))) && (getB (findCls KK (.ref C) (.type "type") m) (.builtin "classmethod.__get__") (.ref p) .none (.ref C) &&
  ((match recIn K p "classmethod" with
    | some (.ref g' :: _) => decide (g' = g)
    | _ => false) && fnIn K g)))
def slotB (o : Obj) (nm : Str) : Bool := match slot2 o.slots with
  | some (.str x _) => decide (x = nm)
  | _ => false
def clsDB (o : Obj) : Bool := match o.data with
  | .cls _ => true
  | _ => false
def fds0 : List FD := [⟨.glo "lowest", "lowest", "lowest", top 25⟩,
  ⟨.glo "plus", "plus", "plus", top 26⟩,
  ⟨.glo "times", "times", "times", top 28⟩,
  ⟨.glo "less", "less", "less", top 30⟩,
  ⟨.glo "sum_of", "sum_of", "sum_of", top 31⟩,
  ⟨.glo "are_chances", "are_chances", "are_chances", top 33⟩,
  ⟨.glo "law_from", "law_from", "law_from", top 34⟩,
  ⟨.glo "check_size", "check_size", "check_size", top 49⟩,
  ⟨.glo "check_keys", "check_keys", "check_keys", top 50⟩,
  ⟨.glo "least_twice", "least_twice", "least_twice", top 17⟩,
  ⟨.glo "check_apart", "check_apart", "check_apart", top 18⟩,
  ⟨.glo "merged", "merged", "merged", top 19⟩,
  ⟨.glo "counted", "counted", "counted", top 21⟩,
  ⟨.glo "check_parcels", "check_parcels", "check_parcels", top 40⟩,
  ⟨.glo "check_mergeable", "check_mergeable", "check_mergeable", top 41⟩,
  ⟨.glo "situation", "situation", "situation", top 42⟩,
  ⟨.glo "pairs_of", "pairs_of", "pairs_of", top 43⟩,
  ⟨.glo "choice", "choice", "choice", top 44⟩,
  ⟨.glo "after", "after", "after", top 45⟩,
  ⟨.glo "merge_all", "merge_all", "merge_all", top 46⟩]
def fds1 : List FD := [⟨.glo "_law_deck", "_law_deck", "_law_deck", top 64⟩,
  ⟨.glo "_law_draw", "_law_draw", "_law_draw", top 65⟩,
  ⟨.glo "_law_things", "_law_things", "_law_things", top 66⟩,
  ⟨.glo "_law_single", "_law_single", "_law_single", top 67⟩,
  ⟨.glo "_law_low", "_law_low", "_law_low", top 69⟩,
  ⟨.glo "_law_times", "_law_times", "_law_times", top 71⟩,
  ⟨.glo "_law_sets", "_law_sets", "_law_sets", top 73⟩,
  ⟨.glo "_law_uniform", "_law_uniform", "_law_uniform", top 74⟩,
  ⟨.glo "_law_orders", "_law_orders", "_law_orders", top 75⟩,
  ⟨.glo "_law_weighted", "_law_weighted", "_law_weighted", top 76⟩,
  ⟨.glo "_law_plain", "_law_plain", "_law_plain", top 77⟩,
  ⟨.glo "_law_seen", "_law_seen", "_law_seen", top 78⟩,
  ⟨.glo "_law_deed", "_law_deed", "_law_deed", top 79⟩,
  ⟨.glo "_law_taken", "_law_taken", "_law_taken", top 80⟩,
  ⟨.glo "_law_ended", "_law_ended", "_law_ended", top 81⟩,
  ⟨.glo "_law_run", "_law_run", "_law_run", top 82⟩,
  ⟨.glo "law", "law", "law", top 83⟩,
  ⟨.meth "Explorer" "pick", "pick", "Explorer.pick", sPick⟩,
  ⟨.meth "Explorer" "__init__", "__init__", "Explorer.__init__", eS 0⟩,
  ⟨.meth "Explorer" "advance", "advance", "Explorer.advance", eS 1⟩]
def fds2 : List FD := [⟨.meth "Explorer" "begin", "begin", "Explorer.begin", eS 2⟩,
  ⟨.meth "Explorer" "end", "end", "Explorer.end", eS 4⟩,
  ⟨.meth "Explorer" "gathered", "gathered", "Explorer.gathered", eS 6⟩,
  ⟨.meth "Node" "__init__", "__init__", "Node.__init__", nS 0⟩,
  ⟨.meth "Node" "held", "held", "Node.held", nS 1⟩,
  ⟨.meth "Node" "out", "out", "Node.out", nS 2⟩,
  ⟨.meth "Node" "check_number", "check_number", "Node.check_number", nS 3⟩,
  ⟨.meth "Node" "merge", "merge", "Node.merge", nS 4⟩,
  ⟨.meth "Node" "send", "send", "Node.send", nS 5⟩,
  ⟨.meth "Node" "again", "again", "Node.again", nS 6⟩,
  ⟨.meth "Node" "has_taken", "has_taken", "Node.has_taken", nS 7⟩,
  ⟨.meth "Node" "here", "here", "Node.here", nS 8⟩,
  ⟨.meth "Node" "take", "take", "Node.take", nS 9⟩,
  ⟨.meth "Node" "confirm", "confirm", "Node.confirm", nS 10⟩,
  ⟨.meth "Node" "pending", "pending", "Node.pending", nS 11⟩,
  ⟨.meth "Uniform" "__init__", "__init__", "Uniform.__init__", uS 0⟩,
  ⟨.cmeth "Uniform" "single", "single", "Uniform.single", uS 2⟩,
  ⟨.meth "Uniform" "check", "check", "Uniform.check", uS 3⟩,
  ⟨.meth "Uniform" "merge", "merge", "Uniform.merge", uS 4⟩,
  ⟨.meth "Uniform" "view", "view", "Uniform.view", uS 5⟩]
def fds3 : List FD := [⟨.meth "Weighted" "__init__", "__init__", "Weighted.__init__", wS 0⟩,
  ⟨.cmeth "Weighted" "single", "single", "Weighted.single", wS 2⟩,
  ⟨.meth "Weighted" "check", "check", "Weighted.check", wS 3⟩,
  ⟨.meth "Weighted" "merge", "merge", "Weighted.merge", wS 4⟩,
  ⟨.meth "Weighted" "view", "view", "Weighted.view", wS 5⟩]
def fdsA : List FD := fds0 ++ fds1 ++ fds2 ++ fds3
def fa_free : Frag → Bool := fun K => ((["len", "range", "list", "tuple", "sorted", "min", "enumerate", "isinstance", "sum", "any", "int", "abs", "str"] : List Str).all fun x => freeB (K1 K) x)
def fa_gcd : Frag → Bool := fun K => eqO (nsIn (K1 K) mainGlobals "gcd") (some (some (.builtin "math.gcd")))
def fa_mS : Frag → Bool := fun K => (He.Fa.int "MOST_SIZE" 20).ok (K1 K)
def fa_mP : Frag → Bool := fun K => (He.Fa.int "MOST_PARCELS" 6).ok (K1 K)
def fa_mR : Frag → Bool := fun K => (He.Fa.int "MOST_RUNS" 20000).ok (K1 K)
def fa_nothing : Frag → Bool := fun K => (He.Fa.glo "NOTHING_ratios").ok (K1 K) && He.tupB (K1 K) "NOTHING_ratios" [.int 0, .int 1]
def fa_one : Frag → Bool := fun K => (He.Fa.glo "ONE_ratios").ok (K1 K) && He.tupB (K1 K) "ONE_ratios" [.int 1, .int 1]
def fa_cE : Frag → Bool := fun K => clsB (K1 K) (aE K) && exN.all fun f => noatB (K1 K) (aE K) f
def fa_cN : Frag → Bool := fun K => clsB (K1 K) (aN K) && ndN.all fun f => noatB (K1 K) (aN K) f
def fa_cU : Frag → Bool := fun K => clsB (KU K) (aU K) && ((smN "seen").all (fun f => noatB (KU K) (aU K) f) && (nmB (KU K) (aU K) "Uniform" && decide (kitOne (KU K) (.ref (aU K)) (.ref (aU K)) = some true)))
def fa_cW : Frag → Bool := fun K => clsB (KW K) (aW K) && ((smN "total").all (fun f => noatB (KW K) (aW K) f) && (nmB (KW K) (aW K) "Weighted" && decide (kitOne (KW K) (.ref (aW K)) (.ref (aW K)) = some true)))
def fa_gU : Frag → Bool := fun K => gloB (K1 K) "Uniform" (aU K)
def fa_gW : Frag → Bool := fun K => gloB (K1 K) "Weighted" (aW K)
def fa_gE : Frag → Bool := fun K => gloB (K1 K) "Explorer" (aE K)
def fa_gN : Frag → Bool := fun K => gloB (K1 K) "Node" (aN K)
def fa_slU : Frag → Bool := fun K => (K.lookup (aU K)).isSome && (slotB (oU K) "Uniform" && clsDB (oU K))
def fa_slW : Frag → Bool := fun K => (K.lookup (aW K)).isSome && (slotB (oW K) "Weighted" && clsDB (oW K))
def fa_neq : Frag → Bool := fun K => !(aU K == aW K)
def fa_globs : Frag → Bool := fun K => ((["lowest", "plus", "times", "less", "sum_of", "are_chances", "law_from", "check_size", "check_keys", "least_twice", "check_apart", "merged", "counted", "check_parcels", "check_mergeable", "situation", "pairs_of", "choice", "after", "merge_all"] : List Str).all fun x => gloB (K1 K) x (ga K x))
def fa_globs2 : Frag → Bool := fun K => ((["_law_deck", "_law_draw", "_law_things", "_law_single", "_law_low", "_law_times", "_law_sets", "_law_uniform", "_law_orders", "_law_weighted", "_law_plain", "_law_seen", "_law_deed", "_law_taken", "_law_ended", "_law_run", "law"] : List Str).all fun x => gloB (K1 K) x (ga K x))
def fa_meE : Frag → Bool := fun K => ((["pick", "advance", "begin", "end", "gathered"] : List Str).all fun m => methB (K1 K) (aE K) m (ma K (aE K) m)) && mkB (K1 K) (aE K) (ma K (aE K) "__init__")
def fa_meN : Frag → Bool := fun K => ((["held", "out", "check_number", "merge", "send", "again", "has_taken", "here", "take", "confirm", "pending"] : List Str).all fun m => methB (K1 K) (aN K) m (ma K (aN K) m)) && mkB (K1 K) (aN K) (ma K (aN K) "__init__")
def fa_meU : Frag → Bool := fun K => ((["check", "merge", "view"] : List Str).all fun m => methB (KU K) (aU K) m (ma K (aU K) m)) && (mkB (KU K) (aU K) (ma K (aU K) "__init__") && cmB (K1 K) (KU K) (aU K) "single" (ma K (aU K) "single") (cmA K (ma K (aU K) "single")))
def fa_meW : Frag → Bool := fun K => ((["check", "merge", "view"] : List Str).all fun m => methB (KW K) (aW K) m (ma K (aW K) m)) && (mkB (KW K) (aW K) (ma K (aW K) "__init__") && cmB (K1 K) (KW K) (aW K) "single" (ma K (aW K) "single") (cmA K (ma K (aW K) "single")))
def fa_fns : Frag → Bool := fun K => fdsA.all fun d => fnB (K1 K) (d.loc.at_ K) d.qual
def factsA : List (Frag → Bool) := [fa_free, fa_gcd, fa_mS, fa_mP, fa_mR, fa_nothing, fa_one, fa_cE, fa_cN, fa_cU, fa_cW, fa_gU, fa_gW, fa_gE, fa_gN, fa_slU, fa_slW, fa_neq, fa_globs, fa_globs2, fa_meE, fa_meN, fa_meU, fa_meW, fa_fns]
def obsS (K : Frag) : Bool × List FnV := (factsA.all fun f => f K, fdsA.map fun d => fnV (K1 K) (d.loc.at_ K))
def valS : Bool × List FnV := (true, fdsA.map FD.val)
def SaysS (K : Frag) : Prop := obsS K = valS
end Sam
end
section
set_option Elab.async false
set_option linter.all false
set_option maxRecDepth 100000
set_option maxHeartbeats 0
namespace Sam
open PySem PySem.Spec PyProof.Rows L2
open PySem.W (Frag nsIn)
open He (ga frG frG_in FnV refV)
/-! ### the part of the heap that is looked at -/
def sA0 : List Addr := [mainGlobals, cStatics]
def sN0 : List Str := ["lowest", "plus", "times", "less", "sum_of", "are_chances", "law_from", "check_size", "check_keys", "least_twice", "check_apart", "merged", "counted", "check_parcels", "check_mergeable", "situation", "pairs_of", "choice", "after", "merge_all"]
def sN1 : List Str := ["_law_deck", "_law_draw", "_law_things", "_law_single", "_law_low", "_law_times", "_law_sets", "_law_uniform", "_law_orders", "_law_weighted", "_law_plain", "_law_seen", "_law_deed", "_law_taken", "_law_ended", "_law_run", "law", "Explorer", "Node", "Uniform", "Weighted", "ONE_ratios", "NOTHING_ratios"]
def sGa (g : Addr → Option Obj) (x : Str) : Addr := ga (frG g sA0) x
def sNs (g : Addr → Option Obj) (x : Str) : Addr := match g (sGa g x) with
  | some ⟨_, _, .cls cd, _⟩ => cd.ns
  | _ => 0
def sMe (g : Addr → Option Obj) (x m : Str) : Addr := match nsIn (frG g [sNs g x]) (sNs g x) m with
  | some (some (.ref a)) => a
  | _ => 0
def sCm (g : Addr → Option Obj) (a : Addr) : Addr := match g a with
  | some ⟨_, _, .fields vs, _⟩ => (match vs.toList with
    | .ref f :: _ => f
    | _ => 0)
  | _ => 0
def sCo (g : Addr → Option Obj) (a : Addr) : List Addr := match g a with
  | some ⟨_, _, .func fd, _⟩ => refV fd.code
  | _ => []
def sFn (g : Addr → Option Obj) : List Addr := (sN0 ++ sN1).map (sGa g)
  ++ (["__init__", "pick", "advance", "begin", "end", "gathered"] : List Str).map (sMe g "Explorer")
  ++ (["__init__", "held", "out", "check_number", "merge", "send", "again", "has_taken", "here", "take", "confirm", "pending"] : List Str).map (sMe g "Node")
  ++ (["__init__", "check", "merge", "view"] : List Str).map (sMe g "Uniform")
  ++ (["__init__", "check", "merge", "view"] : List Str).map (sMe g "Weighted")
  ++ [sCm g (sMe g "Uniform" "single"), sCm g (sMe g "Weighted" "single")]
def sAll (g : Addr → Option Obj) : List Addr := sA0 ++ ((["Explorer", "Node", "Uniform", "Weighted"] : List Str).map (sNs g) ++ ([sMe g "Uniform" "single", sMe g "Weighted" "single"] ++ (sFn g ++ (sFn g).flatMap (sCo g))))
def obG (g : Addr → Option Obj) : Bool × List FnV := obsS (frG g (sAll g))
def hkS : PySem.W.Hook where
  α := Bool × List FnV
  obs := fun s => obG s.heap.get?
  val := fun _ => valS
  says := fun _ h => ∃ K : Frag, K.In h ∧ SaysS K
  of := fun _ _ e => ⟨_, frG_in, e⟩
  keeps := fun _ _ _ ⟨K, hK, c⟩ k => ⟨K, PySem.W.Frag.In.keeps hK k, c⟩
def obT (s : PySem.W.SharedT) : Bool × List FnV := obG (HandSHeadRun.getT s)
theorem obT_eq (s : PySem.W.SharedT) : obT s = hkS.obs s.abs := by
  have e : HandSHeadRun.getT s = s.abs.heap.get? := funext (HandSHeadRun.getT_eq s)
  show obG (HandSHeadRun.getT s) = obG s.abs.heap.get?
  rw [e]
abbrev sRow : PySem.W.OpenRow := PySem.W.OpenLaw.row PySem.Challenge.rw_samphire_k45_whole_one_law_over_any_net
def loose0 : List Str := (["_wall", "SamphireError", "TooLarge", "InvalidSize", "SharedKey", "SharedPart", "WrongReceiver", "UnknownLetter", "NoParcel", "WrongKind", "ZeroDenominator", "InvalidLaw", "NotEnded", "EmptyList", "least_twice", "check_apart", "merged", "Node", "counted", "NOTHING_ratios", "ONE_ratios", "lowest", "plus", "minus", "times", "over", "less", "sum_of", "are_chances", "law_from", "MOST_RUNS", "Explorer", "MOST_PARCELS"] : List String).map Str.ofString
def loose1 : List Str := (["check_parcels", "check_mergeable", "situation", "pairs_of", "choice", "after", "merge_all", "MOST_SIZE", "check_size", "check_keys", "Uniform", "NOTHING_optimal", "ONE_optimal", "greater", "threshold", "keep_chance", "whole_weights", "drop_one", "Optimal", "Weighted", "_law_deck", "_law_draw", "_law_things", "_law_single", "_law_parcels", "_law_low", "_law_plus", "_law_times", "_law_less", "_law_sets", "_law_uniform", "_law_orders", "_law_weighted", "_law_plain", "_law_seen"] : List String).map Str.ofString
def loose2 : List Str := (["_law_deed", "_law_taken", "_law_ended", "_law_run"] : List String).map Str.ofString
def looseAll : List Str := loose0 ++ loose1 ++ loose2
/-! ### the run of the top, looked at three times: each look has its own store -/
section
variable (r : PySem.W.OpenRow) (q : Program) (H : PySem.W.Hook) (ob : PySem.W.SharedT → H.α) (M : Nat) (loose : List Str) (w : World)
noncomputable def runO : Option (Shared × PySem.W.SharedT) := HandSHeadRun.wholeF (fun p => HandSHeadRun.stepQ (HandSHeadRun.denQ HandSHeadRun.tabQ) p w) HandSHeadRun.fenceQ M r.prog
def Run1 : Prop := (runO r M w).map (fun x => HandSHeadRun.looksF r.prog x.1.heap x.2.abs) = some true
def Run2 : Prop := (runO r M w).map (fun x => HandSHeadRun.seenQ q loose (importedModules r.prog.main.body) (fun s => PySem.W.xlAt q [] s && PySem.W.recOk r.toRowW.records s) x.2.abs) = some (PySem.W.openGood q loose)
def Run3 : Prop := (runO r M w).map (fun x => ob x.2) = some (H.val w)
end
theorem three_of {α β γ δ : Type} {o : Option α} {f : α → β} {g : α → γ} {h : α → δ} {b : β} {c : γ} {d : δ} (e1 : o.map f = some b) (e2 : o.map g = some c) (e3 : o.map h = some d) : o.map (fun x => (f x, g x, h x)) = some (b, c, d) := by
  cases o with
  | none => cases e1
  | some x =>
    rw [Option.map_some, Option.some.injEq] at e1 e2 e3
    rw [Option.map_some, e1, e2, e3]
theorem runI_of {r : PySem.W.OpenRow} {q : Program} {H : PySem.W.Hook} {ob : PySem.W.SharedT → H.α} {M : Nat} {loose : List Str} {w : World} (e1 : Run1 r M w) (e2 : Run2 r q M loose w) (e3 : Run3 r H ob M w) : HandSHeadRun.RunEqI r q H ob M loose w := by
  unfold HandSHeadRun.RunEqI
  exact three_of e1 e2 e3
theorem runS1 (w : World) : Run1 sRow 12000 w := by
  unfold Run1
  kernel_rfl
theorem runS2 (w : World) : Run2 sRow (PySem.W.view sRow.prog [0, 83]) 12000 looseAll w := by
  unfold Run2
  kernel_rfl
theorem runS3 (w : World) : Run3 sRow hkS obT 12000 w := by
  unfold Run3
  kernel_rfl
theorem runS (w : World) : HandSHeadRun.RunEqI sRow (PySem.W.view sRow.prog [0, 83]) hkS obT 12000 looseAll w := runI_of (runS1 w) (runS2 w) (runS3 w)
end Sam
end
section
set_option autoImplicit false
set_option linter.all false
namespace Sam

/-! ### dice trees -/
inductive Tr (α : Type) where
  | ret (a : α)
  | pick (ws : List Nat) (k : Nat → Tr α)

def Tr.bind {α β : Type} : Tr α → (α → Tr β) → Tr β
  | .ret a, f => f a
  | .pick ws k, f => .pick ws fun i => (k i).bind f

/-- the chance of place i -/
def pr (ws : List Nat) (i : Nat) : Rat := ((ws.getD i 0 : Nat) : Rat) / ((ws.sum : Nat) : Rat)

def sumR : List Rat → Rat
  | [] => 0
  | x :: r => x + sumR r

theorem sumR_append (a b : List Rat) : sumR (a ++ b) = sumR a + sumR b := by
  induction a with
  | nil => simp [sumR, Rat.zero_add]
  | cons x r ih => simp only [List.cons_append, sumR, ih]; grind
theorem sumR_map_mul {α : Type} (c : Rat) (f : α → Rat) (l : List α) : sumR (l.map fun x => c * f x) = c * sumR (l.map f) := by
  induction l with
  | nil => simp [sumR, Rat.mul_zero]
  | cons x r ih => simp only [List.map_cons, sumR, ih]; grind
theorem sumR_map_add {α : Type} (f g : α → Rat) (l : List α) : sumR (l.map fun x => f x + g x) = sumR (l.map f) + sumR (l.map g) := by
  induction l with
  | nil => simp [sumR, Rat.add_zero]
  | cons x r ih => simp only [List.map_cons, sumR, ih]; grind
theorem sumR_perm {a b : List Rat} (h : a.Perm b) : sumR a = sumR b := by
  induction h with
  | nil => rfl
  | cons x _ ih => simp only [sumR, ih]
  | swap x y l => simp only [sumR]; grind
  | trans _ _ h1 h2 => exact h1.trans h2
theorem sumR_flatMap {α : Type} (f : α → List Rat) (l : List α) : sumR (l.flatMap f) = sumR (l.map fun x => sumR (f x)) := by
  induction l with
  | nil => rfl
  | cons x r ih => simp only [List.flatMap_cons, List.map_cons, sumR, sumR_append, ih]
theorem sumR_congr {α : Type} {f g : α → Rat} {l : List α} (h : ∀ x ∈ l, f x = g x) : sumR (l.map f) = sumR (l.map g) := by
  rw [List.map_congr_left h]

/-- the mean of f over a tree's draws -/
def Tr.E {α : Type} : Tr α → (α → Rat) → Rat
  | .ret a, f => f a
  | .pick ws k, f => sumR ((List.range ws.length).map fun i => pr ws i * (k i).E f)

theorem Tr.E_bind {α β : Type} (g : β → Rat) (f : α → Tr β) : ∀ t : Tr α, (t.bind f).E g = t.E fun a => (f a).E g
  | .ret a => rfl
  | .pick ws k => by
    show sumR _ = sumR _
    refine sumR_congr fun i _ => ?_
    show pr ws i * ((k i).bind f).E g = _
    rw [Tr.E_bind g f (k i)]

/-- every pick has a positive sum of at most 24; at most d picks -/
def Tr.Ok {α : Type} : Nat → Tr α → Prop
  | _, .ret _ => True
  | 0, .pick _ _ => False
  | d + 1, .pick ws k => 0 < ws.sum ∧ ws.sum ≤ 24 ∧ ∀ i, i < ws.length → 0 < ws.getD i 0 → (k i).Ok d

theorem Tr.Ok.mono {α : Type} : ∀ {d e : Nat} {t : Tr α}, t.Ok d → d ≤ e → t.Ok e
  | _, _, .ret _, _, _ => by simp [Tr.Ok]
  | 0, _, .pick ws k, h, _ => False.elim h
  | d + 1, 0, .pick ws k, _, h => by omega
  | d + 1, e + 1, .pick ws k, h, hl => ⟨h.1, h.2.1, fun i hi hp => (h.2.2 i hi hp).mono (by omega)⟩

/-- what holds of every result that can be drawn -/
def Tr.All {α : Type} (P : α → Prop) : Tr α → Prop
  | .ret a => P a
  | .pick ws k => ∀ i, i < ws.length → 0 < ws.getD i 0 → (k i).All P

theorem Tr.All.imp {α : Type} {P Q : α → Prop} (h : ∀ a, P a → Q a) : ∀ {t : Tr α}, t.All P → t.All Q
  | .ret a, x => h a x
  | .pick ws k, x => fun i hi hp => Tr.All.imp h (x i hi hp)
theorem Tr.All.bind {α β : Type} {P : α → Prop} {Q : β → Prop} {f : α → Tr β} (h : ∀ a, P a → (f a).All Q) : ∀ {t : Tr α}, t.All P → (t.bind f).All Q
  | .ret a, x => h a x
  | .pick ws k, x => fun i hi hp => Tr.All.bind h (x i hi hp)

theorem Tr.Ok.bind {α β : Type} {P : α → Prop} {f : α → Tr β} {e : Nat} (h : ∀ a, P a → (f a).Ok e) : ∀ {d : Nat} {t : Tr α}, t.Ok d → t.All P → (t.bind f).Ok (d + e)
  | d, .ret a, _, x => (h a x).mono (by omega)
  | 0, .pick ws k, o, _ => False.elim o
  | d + 1, .pick ws k, o, x => by
    have e1 : d + 1 + e = (d + e) + 1 := by omega
    rw [e1]
    exact ⟨o.1, o.2.1, fun i hi hp => Tr.Ok.bind h (o.2.2 i hi hp) (x i hi hp)⟩

theorem pr_zero {ws : List Nat} {i : Nat} (h : ¬ 0 < ws.getD i 0) : pr ws i = 0 := by
  have : ws.getD i 0 = 0 := by omega
  unfold pr; rw [this]; simp [Rat.div_def]

theorem Tr.E_congr {α : Type} {P : α → Prop} {f g : α → Rat} (h : ∀ a, P a → f a = g a) : ∀ {t : Tr α}, t.All P → t.E f = t.E g
  | .ret a, x => h a x
  | .pick ws k, x => by
    show sumR _ = sumR _
    refine sumR_congr fun i hi => ?_
    by_cases hp : 0 < ws.getD i 0
    · rw [Tr.E_congr h (x i (List.mem_range.mp hi) hp)]
    · rw [pr_zero hp]; grind

/-! ### leaves -/
/-- the alternatives at the places js of a pick -/
def alts {α : Type} (ws : List Nat) (lv : Nat → List (α × Rat)) (js : List Nat) : List (α × Rat) := js.flatMap fun j => if 0 < ws.getD j 0 then lv j else []

def Tr.leaves {α : Type} : Tr α → Rat → List (α × Rat)
  | .ret a, c => [(a, c)]
  | .pick ws k, c => (List.range ws.length).flatMap fun j => if 0 < ws.getD j 0 then (k j).leaves (c * pr ws j) else []

theorem Tr.leaves_pick {α : Type} (ws : List Nat) (k : Nat → Tr α) (c : Rat) : (Tr.pick ws k).leaves c = alts ws (fun j => (k j).leaves (c * pr ws j)) (List.range ws.length) := rfl

theorem Tr.leaves_sum {α : Type} (f : α → Rat) : ∀ (t : Tr α) (c : Rat), sumR ((t.leaves c).map fun p => p.2 * f p.1) = c * t.E f
  | .ret a, c => by simp [Tr.leaves, sumR, Tr.E]; grind
  | .pick ws k, c => by
    show sumR (((List.range ws.length).flatMap _).map _) = c * sumR _
    rw [List.map_flatMap, sumR_flatMap, ← sumR_map_mul]
    refine sumR_congr fun j hj => ?_
    by_cases hp : 0 < ws.getD j 0
    · rw [if_pos hp, Tr.leaves_sum f (k j)]; grind
    · rw [if_neg hp, pr_zero hp]; simp [sumR]

theorem Tr.leaves_all {α : Type} {P : α → Prop} : ∀ {t : Tr α} {c : Rat}, t.All P → ∀ p ∈ t.leaves c, P p.1
  | .ret a, c, x => fun p hp => by
    simp [Tr.leaves] at hp; rw [hp]; exact x
  | .pick ws k, c, x => fun p hp => by
    obtain ⟨j, hj, hm⟩ := List.mem_flatMap.mp hp
    by_cases h0 : 0 < ws.getD j 0
    · rw [if_pos h0] at hm
      exact Tr.leaves_all (x j (List.mem_range.mp hj) h0) p hm
    · rw [if_neg h0] at hm; simp at hm

/-- at most m leaves -/
def Tr.Few {α : Type} (m : Nat) (t : Tr α) : Prop := ∀ c, (t.leaves c).length ≤ m

theorem flatMap_len {α β : Type} {f : α → List β} {m : Nat} : ∀ {l : List α}, (∀ x ∈ l, (f x).length ≤ m) → (l.flatMap f).length ≤ l.length * m
  | [], _ => by simp
  | x :: r, h => by
    rw [List.flatMap_cons, List.length_append, List.length_cons]
    have h1 := h x List.mem_cons_self
    have h2 := flatMap_len (l := r) fun y hy => h y (List.mem_cons_of_mem _ hy)
    rw [Nat.add_mul]; omega

theorem Tr.Few.ret {α : Type} (a : α) : (Tr.ret a).Few 1 := fun c => by simp [Tr.leaves]
theorem Tr.Few.pick {α : Type} {ws : List Nat} {k : Nat → Tr α} {m : Nat} (h : ∀ i, i < ws.length → 0 < ws.getD i 0 → (k i).Few m) : (Tr.pick ws k).Few (ws.length * m) := fun c => by
  have := flatMap_len (l := List.range ws.length) (f := fun j => if 0 < ws.getD j 0 then (k j).leaves (c * pr ws j) else []) (m := m) fun j hj => by
    by_cases h0 : 0 < ws.getD j 0
    · rw [if_pos h0]; exact h j (List.mem_range.mp hj) h0 _
    · rw [if_neg h0]; simp
  rw [List.length_range] at this
  exact this
theorem Tr.Few.mono {α : Type} {m n : Nat} {t : Tr α} (h : t.Few m) (hl : m ≤ n) : t.Few n := fun c => Nat.le_trans (h c) hl

theorem Tr.leaves_bind {α β : Type} (f : α → Tr β) : ∀ (t : Tr α) (c : Rat), (t.bind f).leaves c = (t.leaves c).flatMap fun p => (f p.1).leaves p.2
  | .ret a, c => by simp [Tr.leaves, Tr.bind]
  | .pick ws k, c => by
    show (List.range ws.length).flatMap _ = ((List.range ws.length).flatMap _).flatMap _
    rw [List.flatMap_assoc]
    congr 1
    funext j
    by_cases h0 : 0 < ws.getD j 0
    · rw [if_pos h0, if_pos h0]; exact Tr.leaves_bind f (k j) _
    · rw [if_neg h0, if_neg h0]; rfl
theorem Tr.Few.bind {α β : Type} {P : α → Prop} {f : α → Tr β} {t : Tr α} {m n : Nat} (h : t.Few m) (x : t.All P) (hf : ∀ a, P a → (f a).Few n) : (t.bind f).Few (m * n) := fun c => by
  rw [Tr.leaves_bind]
  have h1 := flatMap_len (l := t.leaves c) (f := fun p => (f p.1).leaves p.2) (m := n) fun p hp => hf p.1 (Tr.leaves_all x p hp) p.2
  have h2 := Nat.mul_le_mul_right n (h c)
  omega

/-! ### the explorer -/
abbrev Path := List (Nat × List Nat)
structure ES where
  path : Path
  at_ : Nat
  ch : Rat

/-- the first place behind j of a weight that is not 0 -/
def nxt (ws : List Nat) (j : Nat) : Option Nat := ((List.range ws.length).drop j).find? fun i => decide (0 < ws.getD i 0)

def pickS (ws : List Nat) (x : ES) : Nat × ES :=
  let p := if x.at_ = x.path.length then x.path ++ [((nxt ws 0).getD 0, ws)] else x.path
  let n := (p.getD x.at_ (0, [])).1
  (n, ⟨p, x.at_ + 1, x.ch * pr ws n⟩)

def Tr.exec {α : Type} : Tr α → ES → α × ES
  | .ret a, x => (a, x)
  | .pick ws k, x => (k (pickS ws x).1).exec (pickS ws x).2

theorem Tr.exec_bind {α β : Type} (f : α → Tr β) : ∀ (t : Tr α) (x : ES), (t.bind f).exec x = (f (t.exec x).1).exec (t.exec x).2
  | .ret a, x => rfl
  | .pick ws k, x => Tr.exec_bind f (k _) _

/-- what is left of the path fits the tree (the path may go on behind it) -/
def Tr.Fits {α : Type} : Tr α → Path → Prop
  | .ret _, _ => True
  | .pick _ _, [] => True
  | .pick ws k, (i, us) :: r => us = ws ∧ i < ws.length ∧ 0 < ws.getD i 0 ∧ (k i).Fits r
/-- .. and ends with it -/
def Tr.Full {α : Type} : Tr α → Path → Prop
  | .ret _, p => p = []
  | .pick _ _, [] => True
  | .pick ws k, (i, us) :: r => us = ws ∧ i < ws.length ∧ 0 < ws.getD i 0 ∧ (k i).Full r
theorem Tr.Full.fits {α : Type} : ∀ {t : Tr α} {p : Path}, t.Full p → t.Fits p
  | .ret _, _, _ => trivial
  | .pick _ _, [], _ => trivial
  | .pick ws k, (i, us) :: r, h => ⟨h.1, h.2.1, h.2.2.1, Tr.Full.fits h.2.2.2⟩

def adv : Path → Option Path
  | [] => none
  | (i, ws) :: r => match adv r with
    | some r' => some ((i, ws) :: r')
    | none => (nxt ws (i + 1)).map fun o => [(o, ws)]

theorem adv_append (q : Path) : ∀ p : Path, adv (p ++ q) = match adv q with
    | some q' => some (p ++ q')
    | none => adv p
  | [] => by
    cases h : adv q <;> simp [h, adv]
  | (i, ws) :: r => by
    show (match adv (r ++ q) with
      | some r' => some ((i, ws) :: r')
      | none => (nxt ws (i + 1)).map fun o => [(o, ws)]) = _
    rw [adv_append q r]
    cases h : adv q with
    | some q' => rfl
    | none => rfl

def Tr.leavesFrom {α : Type} : Tr α → Rat → Path → List (α × Rat)
  | .ret a, c, _ => [(a, c)]
  | .pick ws k, c, [] => (Tr.pick ws k).leaves c
  | .pick ws k, c, (i, _) :: r => (k i).leavesFrom (c * pr ws i) r ++ alts ws (fun j => (k j).leaves (c * pr ws j)) ((List.range ws.length).drop (i + 1))
theorem Tr.leavesFrom_nil {α : Type} : ∀ (t : Tr α) (c : Rat), t.leavesFrom c [] = t.leaves c
  | .ret _, _ => rfl
  | .pick _ _, _ => rfl

theorem nxt_spec {ws : List Nat} {j : Nat} : ∀ {o : Nat}, nxt ws j = some o → j ≤ o ∧ o < ws.length ∧ 0 < ws.getD o 0 ∧ ∀ i, j ≤ i → i < o → ¬ 0 < ws.getD i 0 := by
  intro o h
  unfold nxt at h
  obtain ⟨hp, as, bs, e, hn⟩ := List.find?_eq_some_iff_append.mp h
  have hm : o ∈ (List.range ws.length).drop j := by rw [e]; simp
  have hlen : ((List.range ws.length).drop j).length = ws.length - j := by simp
  have hget : ∀ m, m < ws.length - j → ((List.range ws.length).drop j)[m]? = some (j + m) := fun m hm => by
    rw [List.getElem?_drop, List.getElem?_range (by omega)]
  have hoa : ((List.range ws.length).drop j)[as.length]? = some o := by rw [e]; simp
  have hl : as.length < ws.length - j := by
    rw [← hlen, e]; simp
  rw [hget _ hl] at hoa
  have ho : j + as.length = o := Option.some.inj hoa
  refine ⟨by omega, by omega, of_decide_eq_true hp, fun i h1 h2 h3 => ?_⟩
  have hi : as[i - j]? = some i := by
    have := hget (i - j) (by omega)
    rw [e, List.getElem?_append_left (by omega)] at this
    rw [this]; congr 1; omega
  have := hn i (List.mem_of_getElem? hi)
  simp at this; simp at h3; omega
theorem nxt_none {ws : List Nat} {j : Nat} (h : nxt ws j = none) : ∀ i, j ≤ i → i < ws.length → ¬ 0 < ws.getD i 0 := fun i h1 h2 h3 => by
  unfold nxt at h
  have := List.find?_eq_none.mp h i (by
    have : ((List.range ws.length).drop j)[i - j]? = some i := by
      rw [List.getElem?_drop, List.getElem?_range (by omega)]; congr 1; omega
    exact List.mem_of_getElem? this)
  simp at this; simp at h3; omega

theorem alts_skip {α : Type} {ws : List Nat} {lv : Nat → List (α × Rat)} (h : List Nat) (hn : ∀ i ∈ h, ¬ 0 < ws.getD i 0) : alts ws lv h = [] := by
  induction h with
  | nil => rfl
  | cons x r ih =>
    show (if 0 < ws.getD x 0 then lv x else []) ++ alts ws lv r = []
    rw [if_neg (hn x List.mem_cons_self), ih fun i hi => hn i (List.mem_cons_of_mem _ hi)]; rfl
theorem alts_append {α : Type} {ws : List Nat} {lv : Nat → List (α × Rat)} (a b : List Nat) : alts ws lv (a ++ b) = alts ws lv a ++ alts ws lv b := by
  unfold alts; rw [List.flatMap_append]
theorem alts_nxt {α : Type} {ws : List Nat} {lv : Nat → List (α × Rat)} {j o : Nat} (h : nxt ws j = some o) :
    alts ws lv ((List.range ws.length).drop j) = lv o ++ alts ws lv ((List.range ws.length).drop (o + 1)) := by
  obtain ⟨h1, h2, h3, h4⟩ := nxt_spec h
  have e : (List.range ws.length).drop j = ((List.range ws.length).drop j).take (o - j) ++ (o :: (List.range ws.length).drop (o + 1)) := by
    conv => lhs; rw [← List.take_append_drop (o - j) ((List.range ws.length).drop j)]
    congr 1
    rw [List.drop_drop, show j + (o - j) = o by omega, List.drop_eq_getElem_cons (by simpa using h2)]
    simp
  rw [e, alts_append, alts_skip]
  · show [] ++ ((if 0 < ws.getD o 0 then lv o else []) ++ _) = _
    rw [if_pos h3]; rfl
  · intro i hi
    obtain ⟨m, hm⟩ := List.mem_iff_getElem?.mp hi
    rw [List.getElem?_take] at hm
    split at hm
    · rename_i hlt
      rw [List.getElem?_drop] at hm
      have hb := (List.getElem?_eq_some_iff.mp hm).1
      rw [List.getElem?_range (by simpa using hb)] at hm
      have : j + m = i := Option.some.inj hm
      exact h4 i (by omega) (by omega)
    · cases hm
theorem alts_none {α : Type} {ws : List Nat} {lv : Nat → List (α × Rat)} {j : Nat} (h : nxt ws j = none) : alts ws lv ((List.range ws.length).drop j) = [] := by
  refine alts_skip _ fun i hi => ?_
  obtain ⟨m, hm⟩ := List.mem_iff_getElem?.mp hi
  rw [List.getElem?_drop] at hm
  have hb := (List.getElem?_eq_some_iff.mp hm).1
  rw [List.getElem?_range (by simpa using hb)] at hm
  have : j + m = i := Option.some.inj hm
  exact nxt_none h i (by omega) (by simp at hb; omega)
theorem sum_pos_nxt {ws : List Nat} (h : 0 < ws.sum) : ∃ o, nxt ws 0 = some o := by
  cases e : nxt ws 0 with
  | some o => exact ⟨o, rfl⟩
  | none =>
    exfalso
    have hz := nxt_none e
    have : ∀ (l : List Nat), (∀ i, i < l.length → ¬ 0 < l.getD i 0) → l.sum = 0 := by
      intro l
      induction l with
      | nil => intro _; rfl
      | cons x r ih =>
        intro h
        have h0 := h 0 (by simp)
        have hr := ih fun i hi hp => h (i + 1) (by simp; omega) (by simpa using hp)
        simp at h0
        simp [hr, h0]
    have := this ws fun i hi => hz i (by omega) hi
    omega

/-- one run: the leaf that comes first from the path on, and what is left of the leaves when the path is advanced -/
theorem Tr.run_spec {α : Type} : ∀ (t : Tr α) (d : Nat) (pre p : Path) (c : Rat), t.Ok d → t.Full p →
    ∃ q, (t.exec ⟨pre ++ p, pre.length, c⟩).2.path = pre ++ q ∧ (t.exec ⟨pre ++ p, pre.length, c⟩).2.at_ = pre.length + q.length ∧
      t.leavesFrom c p = ((t.exec ⟨pre ++ p, pre.length, c⟩).1, (t.exec ⟨pre ++ p, pre.length, c⟩).2.ch) :: (match adv q with
        | some q' => t.leavesFrom c q'
        | none => []) ∧ ∀ q', adv q = some q' → t.Full q'
  | .ret a, d, pre, p, c, _, hf => by
    have : p = [] := hf
    subst this
    exact ⟨[], rfl, rfl, rfl, fun q' h => by simp [adv] at h⟩
  | .pick ws k, 0, pre, p, c, ok, hf => False.elim ok
  | .pick ws k, d + 1, pre, p, c, ok, hf => by
    -- the case of a path that is not at its end
    have main : ∀ (i : Nat) (r : Path), i < ws.length → 0 < ws.getD i 0 → (k i).Full r →
        ∃ q, ((k i).exec ⟨pre ++ (i, ws) :: r, pre.length + 1, c * pr ws i⟩).2.path = pre ++ q ∧ ((k i).exec ⟨pre ++ (i, ws) :: r, pre.length + 1, c * pr ws i⟩).2.at_ = pre.length + q.length ∧
          (Tr.pick ws k).leavesFrom c ((i, ws) :: r) = (((k i).exec ⟨pre ++ (i, ws) :: r, pre.length + 1, c * pr ws i⟩).1, ((k i).exec ⟨pre ++ (i, ws) :: r, pre.length + 1, c * pr ws i⟩).2.ch) :: (match adv q with
            | some q' => (Tr.pick ws k).leavesFrom c q'
            | none => []) ∧ ∀ q', adv q = some q' → (Tr.pick ws k).Full q' := by
      intro i r hi hp hr
      obtain ⟨q1, e1, e2, e3, e4⟩ := Tr.run_spec (k i) d (pre ++ [(i, ws)]) r (c * pr ws i) (ok.2.2 i hi hp) hr
      rw [show pre ++ [(i, ws)] ++ r = pre ++ (i, ws) :: r by simp, show (pre ++ [(i, ws)]).length = pre.length + 1 by simp] at e1 e2 e3
      refine ⟨(i, ws) :: q1, by rw [e1]; simp, by rw [e2]; simp; omega, ?_, ?_⟩
      · show (k i).leavesFrom (c * pr ws i) r ++ _ = _
        rw [e3]
        show _ :: (_ ++ _) = _
        congr 1
        show _ = (match (match adv q1 with
            | some r' => some ((i, ws) :: r')
            | none => (nxt ws (i + 1)).map fun o => [(o, ws)]) with
          | some q' => (Tr.pick ws k).leavesFrom c q'
          | none => [])
        cases h : adv q1 with
        | some q' => rfl
        | none =>
          cases h2 : nxt ws (i + 1) with
          | none => show [] ++ _ = []; rw [alts_none h2]; rfl
          | some o =>
            show [] ++ _ = (k o).leavesFrom (c * pr ws o) [] ++ _
            rw [alts_nxt h2, Tr.leavesFrom_nil]; rfl
      · intro q' h
        have h' : (match adv q1 with
            | some r' => some ((i, ws) :: r')
            | none => (nxt ws (i + 1)).map fun o => [(o, ws)]) = some q' := h
        cases h1 : adv q1 with
        | some r' =>
          rw [h1] at h'
          cases h'
          exact ⟨rfl, hi, hp, e4 r' h1⟩
        | none =>
          rw [h1] at h'
          cases h2 : nxt ws (i + 1) with
          | none => rw [h2] at h'; cases h'
          | some o =>
            rw [h2] at h'
            cases h'
            obtain ⟨_, a, b, _⟩ := nxt_spec h2
            refine ⟨rfl, a, b, ?_⟩
            cases k o <;> simp [Tr.Full]
    match p, hf with
    | (i, us) :: r, hf =>
      obtain ⟨rfl, hi, hp, hr⟩ := hf
      have hne : ¬ pre.length = (pre ++ (i, us) :: r).length := by simp
      have e : pickS us ⟨pre ++ (i, us) :: r, pre.length, c⟩ = (i, ⟨pre ++ (i, us) :: r, pre.length + 1, c * pr us i⟩) := by
        unfold pickS
        simp only
        rw [if_neg hne]
        simp
      show ∃ q, ((k (pickS us ⟨pre ++ (i, us) :: r, pre.length, c⟩).1).exec (pickS us ⟨pre ++ (i, us) :: r, pre.length, c⟩).2).2.path = pre ++ q ∧ _
      have := main i r hi hp hr
      simp only [Tr.exec, e]
      exact this
    | [], _ =>
      obtain ⟨o, ho⟩ := sum_pos_nxt ok.1
      obtain ⟨_, a, b, _⟩ := nxt_spec ho
      have e : pickS ws ⟨pre ++ [], pre.length, c⟩ = (o, ⟨pre ++ [(o, ws)], pre.length + 1, c * pr ws o⟩) := by
        unfold pickS
        simp [ho]
      have := main o [] a b (by cases k o <;> simp [Tr.Full])
      simp only [Tr.exec, e]
      obtain ⟨q, h1, h2, h3, h4⟩ := this
      refine ⟨q, h1, h2, ?_, h4⟩
      rw [← h3]
      show alts ws _ (List.range ws.length) = (k o).leavesFrom (c * pr ws o) [] ++ _
      have := alts_nxt (lv := fun j => (k j).leaves (c * pr ws j)) ho
      rw [List.drop_zero] at this
      rw [this, Tr.leavesFrom_nil]
end Sam
end
section
set_option autoImplicit false
set_option linter.all false
namespace Sam

structure Smp (I : Type) where
  n : Nat
  kept : List I

section
variable {I : Type} (w : I → Nat) (so : List I → List I)

/-! ### the merges, as the program draws -/
def drawU : Nat → Nat → Nat → List I → List I → List I → Tr (List I)
  | 0, _, _, _, _, f => .ret f
  | m + 1, na, nb, la, lb, f => .pick [na, nb] fun side =>
      if side = 0 then .pick (List.replicate la.length 1) fun p => match la[p]? with
        | some x => drawU m (na - 1) nb (la.eraseIdx p) lb (f ++ [x])
        | none => .ret f
      else .pick (List.replicate lb.length 1) fun p => match lb[p]? with
        | some x => drawU m na (nb - 1) la (lb.eraseIdx p) (f ++ [x])
        | none => .ret f
def mergeU (k : Nat) (a b : Smp I) : Tr (Smp I) := (drawU (min k (a.n + b.n)) a.n b.n a.kept b.kept []).bind fun f => .ret ⟨a.n + b.n, so f⟩

def drawW : Nat → Nat → Nat → List I → List I → List I → Tr (List I)
  | 0, _, _, _, _, f => .ret f
  | m + 1, na, nb, la, lb, f => if na + nb = 0 then .ret f else .pick [na, nb] fun side =>
      if side = 0 then match la with
        | x :: r => drawW m (na - w x) nb r lb (f ++ [x])
        | [] => .ret f
      else match lb with
        | x :: r => drawW m na (nb - w x) la r (f ++ [x])
        | [] => .ret f
def mergeW (k : Nat) (a b : Smp I) : Tr (Smp I) := (drawW w k a.n b.n a.kept b.kept []).bind fun f => .ret ⟨a.n + b.n, f⟩

/-- kd: true for the uniform kind -/
def merge (kd : Bool) (k : Nat) (a b : Smp I) : Tr (Smp I) := if kd then mergeU so k a b else mergeW w k a b

/-! ### what a sample of size 1 or 2 looks like -/
inductive Val : Bool → Nat → Smp I → Prop
  | u1 (n : Nat) (x : I) : 1 ≤ n → Val true 1 ⟨n, [x]⟩
  | w1 (n : Nat) (x : I) : w x ≤ n → 1 ≤ w x → Val false 1 ⟨n, [x]⟩
  | u2s (x : I) : Val true 2 ⟨1, [x]⟩
  | u2 (n : Nat) (x y : I) : 2 ≤ n → Val true 2 ⟨n, [x, y]⟩
  | w2s (x : I) : 1 ≤ w x → Val false 2 ⟨w x, [x]⟩
  | w2 (n : Nat) (x y : I) : w x + w y ≤ n → 1 ≤ w x → 1 ≤ w y → Val false 2 ⟨n, [x, y]⟩

structure SoOk : Prop where
  one : ∀ x : I, so [x] = [x]
  two : ∀ x y : I, so [x, y] = [x, y] ∨ so [x, y] = [y, x]
  sym : ∀ x y : I, so [x, y] = so [y, x]

theorem Val.pos {kd : Bool} {k : Nat} {s : Smp I} (v : Val w kd k s) : 1 ≤ s.n := by
  cases v <;> simp only <;> omega

theorem alg22 (m n a b c d e f : Rat) (h1 : m + n + 4 ≠ 0) (h2 : m + n + 3 ≠ 0) : ((m + 2) *
            ((((m + 1) * a +
                    (n + 2) * ((b + c) /2)) /
                  (m + 1 + (n + 2)) +
                ((m + 1) * a +
                    (n + 2) * ((d + e) / 2)) /
                  (m + 1 + (n + 2))) /
              2) +
          (n + 2) *
            ((((m + 2) * ((b + d) / 2) +
                    (n + 1) * f) /
                  (m + 2 + (n + 1)) +
                ((m + 2) * ((c + e) / 2) +
                    (n + 1) * f) /
                  (m + 2 + (n + 1))) /
              2)) /
        (m + 2 + (n + 2)) =
      ((m + 2) * (m + 2 - 1) * a +
            (n + 2) * (n + 2 - 1) * f +
          2 *
            ((m + 2) *
              (((n + 2) * ((b + c) / 2) +
                  (n + 2) * ((d + e) / 2)) /
                2))) /
        ((m + 2 + (n + 2)) * (m + 2 + (n + 2) - 1)) := by
  rw [show m + 2 + (n + 1) = m + 1 + (n + 2) by grind, show m + 2 + (n+2) - 1 = m + 1 + (n + 2) by grind]
  have e3 : m + 1 + (n + 2) ≠ 0 := by grind
  have e4 : m + 2 + (n + 2) ≠ 0 := by grind
  generalize hD : m + 1 + (n + 2) = D at *
  generalize hE : m + 2 + (n + 2) = F at *
  rw [Rat.div_def _ (F * D), Rat.inv_mul_rev]
  grind

theorem algw (a b p q A B C D : Rat) (h0 : a + b ≠ 0) (h1 : a + b - p ≠ 0) (h2 : a + b - q ≠ 0) :
    (a * (((a - p) * A + b * B) / ((a - p) + b)) + b * ((a * C + (b - q) * D) / (a + (b - q)))) / (a + b) =
      (a * (a - p) / (a + b - p) * A + b * (b - q) / (a + b - q) * D + a * b * (B / (a + b - p) + C / (a + b - q))) / (a + b) := by
  rw [show (a - p) + b = a + b - p by grind, show a + (b - q) = a + b - q by grind]
  generalize a + b - p = X at *
  generalize a + b - q = Y at *
  congr 1
  grind
/-! ### merges of size 1 -/
variable {w so}
theorem cast_ne {n : Nat} (h : 1 ≤ n) : (n : Rat) ≠ 0 := by
  have : (n : Rat) ≠ ((0 : Nat) : Rat) := fun e => by
    have := Rat.natCast_inj.mp e
    omega
  simpa using this


theorem E2 {α : Type} (a b : Nat) (k : Nat → Tr α) (f : α → Rat) : (Tr.pick [a, b] k).E f = ((a : Rat) * (k 0).E f + (b : Rat) * (k 1).E f) / ((a : Rat) + (b : Rat)) := by
  show sumR ([pr [a, b] 0 * (k 0).E f, pr [a, b] 1 * (k 1).E f]) = _
  simp only [sumR, pr, List.getD_cons_zero, List.getD_cons_succ, List.sum_cons, List.sum_nil, Nat.add_zero, Rat.natCast_add]
  grind
theorem E1 {α : Type} (k : Nat → Tr α) (f : α → Rat) : (Tr.pick [1] k).E f = (k 0).E f := by
  show sumR ([pr [1] 0 * (k 0).E f]) = _
  simp only [sumR, pr, List.getD_cons_zero, List.sum_cons, List.sum_nil, Nat.add_zero]
  grind
theorem E11 {α : Type} (k : Nat → Tr α) (f : α → Rat) : (Tr.pick [1, 1] k).E f = ((k 0).E f + (k 1).E f) / 2 := by
  rw [E2]; grind
theorem Eret {α : Type} (a : α) (f : α → Rat) : (Tr.ret a).E f = f a := rfl

theorem E_u1 (S : SoOk so) (na nb : Nat) (x y : I) (h1 : 1 ≤ na) (h2 : 1 ≤ nb) (f : Smp I → Rat) :
    (mergeU so 1 ⟨na, [x]⟩ ⟨nb, [y]⟩).E f = ((na : Rat) * f ⟨na + nb, [x]⟩ + (nb : Rat) * f ⟨na + nb, [y]⟩) / ((na : Rat) + (nb : Rat)) := by
  have hm : min 1 (na + nb) = 1 := by omega
  unfold mergeU
  simp only [hm, drawU, Tr.bind, E2, List.length_cons, List.length_nil, List.replicate, if_true, E1, List.getElem?_cons_zero, List.nil_append, Eret, S.one, Nat.reduceEqDiff, if_false, Nat.zero_add, Nat.reduceAdd, Nat.one_ne_zero]

theorem E_w1 (na nb : Nat) (x y : I) (h1 : 1 ≤ na) (h2 : 1 ≤ nb) (f : Smp I → Rat) :
    (mergeW w 1 ⟨na, [x]⟩ ⟨nb, [y]⟩).E f = ((na : Rat) * f ⟨na + nb, [x]⟩ + (nb : Rat) * f ⟨na + nb, [y]⟩) / ((na : Rat) + (nb : Rat)) := by
  have hz : ¬ na + nb = 0 := by omega
  unfold mergeW
  simp only [drawW, if_neg hz, Tr.bind, E2, if_true, List.nil_append, Eret, Nat.one_ne_zero, if_false]

/-- the sum over a sample of size 2 -/
def Au (s : Smp I) (h : I → Rat) : Rat := match s.kept with
  | [x] => (s.n : Rat) * h x
  | [x, y] => (s.n : Rat) * ((h x + h y) / 2)
  | _ => 0
def Bu (so : List I → List I) (s : Smp I) (g : List I → Rat) : Rat := match s.kept with
  | [x, y] => (s.n : Rat) * ((s.n : Rat) - 1) * g (so [x, y])
  | _ => 0


theorem E_u2 (S : SoOk so) {a b : Smp I} (va : Val w true 2 a) (vb : Val w true 2 b) (f : Smp I → Rat) :
    (mergeU so 2 a b).E f = (Bu so a (fun l => f ⟨a.n + b.n, l⟩) + Bu so b (fun l => f ⟨a.n + b.n, l⟩) + 2 * Au a (fun x => Au b (fun y => f ⟨a.n + b.n, so [x, y]⟩))) / (((a.n : Rat) + (b.n : Rat)) * ((a.n : Rat) + (b.n : Rat) - 1)) := by
  have pa := va.pos
  have pb := vb.pos
  have hm : min 2 (a.n + b.n) = 2 := by omega
  unfold mergeU
  rw [hm]
  generalize a.n + b.n = N
  have c1 : ∀ n : Nat, n + 2 - 1 = n + 1 := fun _ => rfl
  have k0 : ∀ n : Nat, (n : Rat) ≥ 0 := fun n => Rat.natCast_nonneg
  cases va with
  | u2s x =>
    cases vb with
    | u2s y =>
      simp only [drawU, Tr.bind, E2, List.length_cons, List.length_nil, List.replicate, if_true, E1, E11, List.getElem?_cons_zero, List.getElem?_cons_succ, List.nil_append, Eret, Nat.zero_add, Nat.reduceAdd, Nat.one_ne_zero, if_false, Nat.sub_self, List.cons_append, List.eraseIdx_cons_zero, List.eraseIdx_cons_succ, Bu, Au, S.sym y x]
      grind
    | u2 n y z hn =>
      obtain ⟨n, rfl⟩ : ∃ m, n = m + 2 := ⟨n - 2, by omega⟩
      have := k0 n
      simp only [drawU, Tr.bind, E2, List.length_cons, List.length_nil, List.replicate, if_true, E1, E11, List.getElem?_cons_zero, List.getElem?_cons_succ, List.nil_append, Eret, Nat.zero_add, Nat.reduceAdd, Nat.one_ne_zero, if_false, Nat.sub_self, List.cons_append, List.eraseIdx_cons_zero, List.eraseIdx_cons_succ, Bu, Au, S.sym y x, S.sym z x, S.sym z y, c1, Rat.natCast_add, Rat.natCast_ofNat]
      grind
  | u2 m x x' hm' =>
    obtain ⟨m, rfl⟩ : ∃ k, m = k + 2 := ⟨m - 2, by omega⟩
    have := k0 m
    cases vb with
    | u2s y =>
      simp only [drawU, Tr.bind, E2, List.length_cons, List.length_nil, List.replicate, if_true, E1, E11, List.getElem?_cons_zero, List.getElem?_cons_succ, List.nil_append, Eret, Nat.zero_add, Nat.reduceAdd, Nat.one_ne_zero, if_false, Nat.sub_self, List.cons_append, List.eraseIdx_cons_zero, List.eraseIdx_cons_succ, Bu, Au, S.sym y x, S.sym y x', S.sym x' x, c1, Rat.natCast_add, Rat.natCast_ofNat]
      grind
    | u2 n y z hn =>
      obtain ⟨n, rfl⟩ : ∃ m, n = m + 2 := ⟨n - 2, by omega⟩
      have := k0 n
      simp only [drawU, Tr.bind, E2, List.length_cons, List.length_nil, List.replicate, if_true, E1, E11, List.getElem?_cons_zero, List.getElem?_cons_succ, List.nil_append, Eret, Nat.zero_add, Nat.reduceAdd, Nat.one_ne_zero, if_false, Nat.sub_self, List.cons_append, List.eraseIdx_cons_zero, List.eraseIdx_cons_succ, Bu, Au, S.sym y x, S.sym z x, S.sym y x', S.sym z x', S.sym z y, S.sym x' x, c1, Rat.natCast_add, Rat.natCast_ofNat]
      simp only [Rat.one_mul, show (1 : Rat) + 1 = 2 by grind]
      exact alg22 (m : Rat) (n : Rat) _ _ _ _ _ _ (by grind) (by grind)

/-! ### weighted, size 2 -/
/-- both items of one sample; one of each -/
def Cw (w : I → Nat) (N : Rat) (s : Smp I) (g : List I → Rat) : Rat := match s.kept with
  | [x, y] => (s.n : Rat) * ((s.n : Rat) - (w x : Rat)) / (N - (w x : Rat)) * g [x, y]
  | _ => 0
def hd? (s : Smp I) : Option I := s.kept.head?
def Dw (w : I → Nat) (N : Rat) (a b : Smp I) (g : List I → Rat) : Rat := match a.kept.head?, b.kept.head? with
  | some x, some y => (a.n : Rat) * (b.n : Rat) * (g [x, y] / (N - (w x : Rat)) + g [y, x] / (N - (w y : Rat)))
  | _, _ => 0
theorem cast_sub {a b : Nat} (h : b ≤ a) : ((a - b : Nat) : Rat) = (a : Rat) - (b : Rat) := by
  obtain ⟨c, rfl⟩ : ∃ c, a = b + c := ⟨a - b, by omega⟩
  rw [Nat.add_sub_cancel_left, Rat.natCast_add]; grind
theorem E_w2 {a b : Smp I} (va : Val w false 2 a) (vb : Val w false 2 b) (f : Smp I → Rat) :
    (mergeW w 2 a b).E f = (Cw w ((a.n : Rat) + (b.n : Rat)) a (fun l => f ⟨a.n + b.n, l⟩) + Cw w ((a.n : Rat) + (b.n : Rat)) b (fun l => f ⟨a.n + b.n, l⟩) + Dw w ((a.n : Rat) + (b.n : Rat)) a b (fun l => f ⟨a.n + b.n, l⟩)) / ((a.n : Rat) + (b.n : Rat)) := by
  have pa := va.pos
  have pb := vb.pos
  unfold mergeW
  have hz : ¬ a.n + b.n = 0 := by omega
  generalize hN : a.n + b.n = N
  have k0 : ∀ n : Nat, (n : Rat) ≥ 0 := fun n => Rat.natCast_nonneg
  have k1 : ∀ n : Nat, 1 ≤ n → (n : Rat) ≥ 1 := fun n h => by
    have := Rat.natCast_le_natCast.mpr h
    simpa using this
  have k2 : ∀ m n : Nat, m ≤ n → (n : Rat) ≥ (m : Rat) := fun m n h => Rat.natCast_le_natCast.mpr h
  cases va with
  | w2s x hx =>
    cases vb with
    | w2s y hy =>
      simp only at pa pb hz
      have h1 : ¬ 0 + w y = 0 := by omega
      have h2 : ¬ w x + 0 = 0 := by omega
      have := k1 _ hx
      have := k1 _ hy
      simp only [drawW, if_neg hz, Nat.sub_self, if_neg h1, if_neg h2, Tr.bind, E2, if_true, Eret, Nat.one_ne_zero, if_false, List.nil_append, List.cons_append, Cw, Dw, List.head?_cons]
      grind
    | w2 n y z hn hy hz' =>
      simp only at pa pb hz
      have h1 : ¬ 0 + n = 0 := by omega
      have h2 : ¬ w x + (n - w y) = 0 := by omega
      have h3 : w y ≤ n := by omega
      have := k1 _ hx
      have := k2 _ _ h3
      have := k1 _ hy
      simp only [drawW, if_neg hz, Nat.sub_self, if_neg h1, if_neg h2, Tr.bind, E2, if_true, Eret, Nat.one_ne_zero, if_false, List.nil_append, List.cons_append, Cw, Dw, List.head?_cons, cast_sub h3]
      have := algw (w x : Rat) (n : Rat) (w x : Rat) (w y : Rat) 0 (f ⟨N, [x, y]⟩) (f ⟨N, [y, x]⟩) (f ⟨N, [y, z]⟩) (by grind) (by grind) (by grind)
      grind
  | w2 m x x' hm hx hx' =>
    have g3 : w x ≤ m := by omega
    have := k2 _ _ g3
    have := k1 _ hx
    cases vb with
    | w2s y hy =>
      simp only at pa pb hz
      have h1 : ¬ m - w x + w y = 0 := by omega
      have h2 : ¬ m + 0 = 0 := by omega
      have := k1 _ hy
      simp only [drawW, if_neg hz, Nat.sub_self, if_neg h1, if_neg h2, Tr.bind, E2, if_true, Eret, Nat.one_ne_zero, if_false, List.nil_append, List.cons_append, Cw, Dw, List.head?_cons, cast_sub g3]
      have := algw (m : Rat) (w y : Rat) (w x : Rat) (w y : Rat) (f ⟨N, [x, x']⟩) (f ⟨N, [x, y]⟩) (f ⟨N, [y, x]⟩) 0 (by grind) (by grind) (by grind)
      grind
    | w2 n y z hn hy hz' =>
      simp only at pa pb hz
      have h1 : ¬ m - w x + n = 0 := by omega
      have h2 : ¬ m + (n - w y) = 0 := by omega
      have h3 : w y ≤ n := by omega
      have := k2 _ _ h3
      have := k1 _ hy
      simp only [drawW, if_neg hz, Nat.sub_self, if_neg h1, if_neg h2, Tr.bind, E2, if_true, Eret, Nat.one_ne_zero, if_false, List.nil_append, List.cons_append, Cw, Dw, List.head?_cons, cast_sub g3, cast_sub h3]
      exact algw (m : Rat) (n : Rat) (w x : Rat) (w y : Rat) _ _ _ _ (by grind) (by grind) (by grind)
end
end Sam
end
section
set_option autoImplicit false
set_option linter.all false
namespace Sam

/-! ### the mean is linear -/
theorem Tr.E_add {α : Type} (f g : α → Rat) : ∀ t : Tr α, t.E (fun a => f a + g a) = t.E f + t.E g
  | .ret a => rfl
  | .pick ws k => by
    show sumR _ = sumR _ + sumR _
    rw [← sumR_map_add]
    refine sumR_congr fun i _ => ?_
    rw [Tr.E_add f g (k i)]; grind
theorem Tr.E_mul {α : Type} (c : Rat) (f : α → Rat) : ∀ t : Tr α, t.E (fun a => c * f a) = c * t.E f
  | .ret a => rfl
  | .pick ws k => by
    show sumR _ = c * sumR _
    rw [← sumR_map_mul]
    refine sumR_congr fun i _ => ?_
    rw [Tr.E_mul c f (k i)]; grind
theorem sum_cast : ∀ ws : List Nat, sumR (ws.map fun (n : Nat) => (n : Rat)) = ((ws.sum : Nat) : Rat)
  | [] => by simp [sumR]
  | x :: r => by simp only [List.map_cons, sumR, sum_cast r, List.sum_cons, Rat.natCast_add]
theorem sum_pr {ws : List Nat} (h : 0 < ws.sum) : sumR ((List.range ws.length).map fun i => pr ws i) = 1 := by
  have e : (List.range ws.length).map (fun i => pr ws i) = ws.map fun (n : Nat) => (1 / ((ws.sum : Nat) : Rat)) * (n : Rat) := by
    refine List.ext_getElem (by simp) fun i h1 h2 => ?_
    have h3 : i < ws.length := by simpa using h1
    simp [pr, List.getD_eq_getElem?_getD, h3]
    grind
  rw [e, sumR_map_mul, sum_cast]
  have := cast_ne (n := ws.sum) (by omega)
  grind
theorem Tr.E_const {α : Type} (c : Rat) : ∀ {d : Nat} {t : Tr α}, t.Ok d → t.E (fun _ => c) = c
  | _, .ret a, _ => rfl
  | 0, .pick ws k, o => False.elim o
  | d + 1, .pick ws k, o => by
    show sumR ((List.range ws.length).map fun i => pr ws i * (k i).E fun _ => c) = c
    have e : sumR ((List.range ws.length).map fun i => pr ws i * (k i).E fun _ => c) = sumR ((List.range ws.length).map fun i => c * pr ws i) := by
      refine sumR_congr fun i hi => ?_
      by_cases hp : 0 < ws.getD i 0
      · rw [Tr.E_const c (o.2.2 i (List.mem_range.mp hi) hp)]; grind
      · rw [pr_zero hp]; grind
    rw [e, sumR_map_mul, sum_pr o.1]; grind
theorem Tr.E_sum {α β : Type} {d : Nat} {t : Tr α} (o : t.Ok d) (h : α → β → Rat) : ∀ r : List β, t.E (fun c => sumR (r.map (h c))) = sumR (r.map fun x => t.E fun c => h c x)
  | [] => by simp only [List.map_nil, sumR]; exact Tr.E_const 0 o
  | x :: r => by
    simp only [List.map_cons, sumR]
    rw [Tr.E_add, Tr.E_sum o h r]

section
variable {I : Type} (w : I → Nat) (so : List I → List I)

/-! ### the terms -/
def q1 (kd : Bool) (k : Nat) (N : Rat) (s : Smp I) (g : List I → Rat) : Rat :=
  if k = 1 then (match s.kept with | [x] => (s.n : Rat) * g [x] | _ => 0)
  else if kd then Bu so s g else Cw w N s g
def q2 (kd : Bool) (k : Nat) (N : Rat) (a b : Smp I) (g : List I → Rat) : Rat :=
  if k = 1 then 0
  else if kd then 2 * Au a (fun x => Au b (fun y => g (so [x, y]))) else Dw w N a b g
def zz (kd : Bool) (k : Nat) (N : Rat) : Rat := if k = 1 then N else if kd then N * (N - 1) else N
def QQ (kd : Bool) (k : Nat) (N : Rat) (g : List I → Rat) : List (Smp I) → Rat
  | [] => 0
  | s :: r => q1 w so kd k N s g + sumR (r.map fun t => q2 w so kd k N s t g) + QQ kd k N g r
def tot (S : List (Smp I)) : Nat := (S.map (·.n)).sum
/-- the mean of f over the sample that all of S are merged to -/
def Phi (kd : Bool) (k : Nat) (S : List (Smp I)) (f : Smp I → Rat) : Rat := match S with
  | [s] => f s
  | S => QQ w so kd k (tot S : Nat) (fun l => f ⟨tot S, l⟩) S / zz kd k (tot S : Nat)

variable {w so}
theorem Au_comm (a b : Smp I) (h : I → I → Rat) : Au a (fun x => Au b (fun y => h x y)) = Au b (fun y => Au a (fun x => h x y)) := by
  unfold Au
  split <;> split <;> grind
theorem q2_sym (S : SoOk so) (kd : Bool) (k : Nat) (N : Rat) (a b : Smp I) (g : List I → Rat) : q2 w so kd k N a b g = q2 w so kd k N b a g := by
  unfold q2
  split
  · rfl
  · split
    · rw [Au_comm a b]
      have : (fun y => Au a fun x => g (so [x, y])) = (fun y => Au a fun x => g (so [y, x])) := by
        funext y; congr 1; funext x; rw [S.sym]
      rw [this]
    · unfold Dw
      cases a.kept.head? <;> cases b.kept.head? <;> simp only <;> grind
theorem QQ_perm (S : SoOk so) (kd : Bool) (k : Nat) (N : Rat) (g : List I → Rat) {a b : List (Smp I)} (h : a.Perm b) : QQ w so kd k N g a = QQ w so kd k N g b := by
  induction h with
  | nil => rfl
  | cons x p ih => simp only [QQ, ih, sumR_perm (p.map _)]
  | swap x y l => simp only [QQ, List.map_cons, sumR, q2_sym S kd k N y x]; grind
  | trans _ _ h1 h2 => exact h1.trans h2
theorem sum_perm {a b : List Nat} (h : a.Perm b) : a.sum = b.sum := by
  induction h with
  | nil => rfl
  | cons x _ ih => simp [ih]
  | swap x y l => simp; omega
  | trans _ _ h1 h2 => exact h1.trans h2
theorem tot_perm {a b : List (Smp I)} (h : a.Perm b) : tot a = tot b := sum_perm (h.map _)
theorem Phi_of {kd : Bool} {k : Nat} {S : List (Smp I)} (h : S.length ≠ 1) (f : Smp I → Rat) : Phi w so kd k S f = QQ w so kd k (tot S : Nat) (fun l => f ⟨tot S, l⟩) S / zz kd k (tot S : Nat) := by
  unfold Phi
  split
  · simp at h
  · rfl
theorem Phi_perm (S : SoOk so) {kd : Bool} {k : Nat} {a b : List (Smp I)} (h : a.Perm b) (f : Smp I → Rat) : Phi w so kd k a f = Phi w so kd k b f := by
  by_cases h1 : a.length = 1
  · obtain ⟨x, rfl⟩ := List.length_eq_one_iff.mp h1
    have := List.singleton_perm.mp h
    subst this
    rfl
  · rw [Phi_of h1, Phi_of (by rw [← h.length_eq]; exact h1), tot_perm h, QQ_perm S _ _ _ _ h]

/-! ### what a merge gives -/
structure MOk (kd : Bool) (k : Nat) (a b c : Smp I) : Prop where
  val : Val w kd k c
  n : c.n = a.n + b.n
  mem : ∀ x ∈ c.kept, x ∈ a.kept ∨ x ∈ b.kept

theorem so_mem (S : SoOk so) {x y z : I} (h : z ∈ so [x, y]) : z = x ∨ z = y := by
  rcases S.two x y with e | e <;> rw [e] at h <;> simp at h <;> grind
theorem Val.so2 (S : SoOk so) {n : Nat} (h : 2 ≤ n) (x y : I) : Val w true 2 ⟨n, so [x, y]⟩ := by
  rcases S.two x y with e | e <;> rw [e] <;> exact .u2 _ _ _ h

theorem All2 {α : Type} {P : α → Prop} {a b : Nat} {k : Nat → Tr α} : (Tr.pick [a, b] k).All P ↔ (0 < a → (k 0).All P) ∧ (0 < b → (k 1).All P) := by
  constructor
  · intro h
    exact ⟨fun p => h 0 (by simp) (by simpa using p), fun p => h 1 (by simp) (by simpa using p)⟩
  · rintro ⟨h0, h1⟩ i hi hp
    match i, hi with
    | 0, _ => exact h0 (by simpa using hp)
    | 1, _ => exact h1 (by simpa using hp)
theorem All1 {α : Type} {P : α → Prop} {k : Nat → Tr α} : (Tr.pick [1] k).All P ↔ (k 0).All P := by
  constructor
  · intro h
    exact h 0 (by simp) (by simp)
  · rintro h0 i hi hp
    match i, hi with
    | 0, _ => exact h0
theorem Ok2 {α : Type} {d a b : Nat} {k : Nat → Tr α} : (Tr.pick [a, b] k).Ok (d + 1) ↔ (0 < a + b ∧ a + b ≤ 24) ∧ (0 < a → (k 0).Ok d) ∧ (0 < b → (k 1).Ok d) := by
  constructor
  · rintro ⟨h0, h1, h⟩
    simp at h0 h1
    exact ⟨⟨by omega, by omega⟩, fun p => h 0 (by simp) (by simpa using p), fun p => h 1 (by simp) (by simpa using p)⟩
  · rintro ⟨hs, h0, h1⟩
    refine ⟨by simp; omega, by simp; omega, fun i hi hp => ?_⟩
    match i, hi with
    | 0, _ => exact h0 (by simpa using hp)
    | 1, _ => exact h1 (by simpa using hp)
theorem Ok1 {α : Type} {d : Nat} {k : Nat → Tr α} : (Tr.pick [1] k).Ok (d + 1) ↔ (k 0).Ok d := by
  constructor
  · rintro ⟨_, _, h⟩
    exact h 0 (by simp) (by simp)
  · intro h0
    refine ⟨by simp, by simp, fun i hi hp => ?_⟩
    match i, hi with
    | 0, _ => exact h0
theorem All_ret {α : Type} {P : α → Prop} {a : α} : (Tr.ret a).All P ↔ P a := Iff.rfl
theorem Ok_ret {α : Type} {d : Nat} {a : α} : (Tr.ret a).Ok d ↔ True := by
  cases d <;> simp [Tr.Ok]


theorem merge_all (S : SoOk so) {kd : Bool} {k : Nat} {a b : Smp I} (va : Val w kd k a) (vb : Val w kd k b) : (merge w so kd k a b).All (MOk (w := w) kd k a b) := by
  have c1 : ∀ n : Nat, n + 2 - 1 = n + 1 := fun _ => rfl
  unfold merge
  cases va with
  | u1 n x hx =>
    cases vb with
    | u1 m y hy =>
      have hm : min 1 (n + m) = 1 := by omega
      simp only [mergeU, hm, drawU, Tr.bind, All2, All1, List.length_cons, List.length_nil, List.replicate, if_true, List.getElem?_cons_zero, List.nil_append, All_ret, S.one, Nat.one_ne_zero, if_false, Nat.zero_add, Nat.reduceAdd]
      exact ⟨fun _ => ⟨.u1 _ _ (by omega), rfl, by simp⟩, fun _ => ⟨.u1 _ _ (by omega), rfl, by simp⟩⟩
  | w1 n x hx hx1 =>
    cases vb with
    | w1 m y hy hy1 =>
      have hz : ¬ n + m = 0 := by omega
      simp only [mergeW, drawW, if_neg hz, Tr.bind, All2, if_true, List.nil_append, All_ret, Nat.one_ne_zero, if_false, Bool.false_eq_true]
      exact ⟨fun _ => ⟨.w1 _ _ (by omega) hx1, rfl, by simp⟩, fun _ => ⟨.w1 _ _ (by omega) hy1, rfl, by simp⟩⟩
  | u2s x =>
    cases vb with
    | u2s y =>
      have hm : min 2 (1 + 1) = 2 := by omega
      simp only [mergeU, hm, drawU, Tr.bind, All2, All1, List.length_cons, List.length_nil, List.replicate, if_true, List.getElem?_cons_zero, List.getElem?_cons_succ, List.nil_append, All_ret, Nat.one_ne_zero, if_false, Nat.zero_add, Nat.reduceAdd, List.eraseIdx_cons_zero, List.eraseIdx_cons_succ, List.cons_append, Nat.sub_self, Nat.lt_irrefl, false_imp_iff, true_and, and_true]
      refine ⟨fun _ _ => ⟨Val.so2 S (by omega) _ _, rfl, fun z hz => ?_⟩, fun _ _ => ⟨Val.so2 S (by omega) _ _, rfl, fun z hz => ?_⟩⟩ <;> have := so_mem S hz <;> simp <;> grind
    | u2 m y z hm =>
      have hm' : min 2 (1 + m) = 2 := by omega
      simp only [mergeU, hm', drawU, Tr.bind, All2, All1, List.length_cons, List.length_nil, List.replicate, if_true, List.getElem?_cons_zero, List.getElem?_cons_succ, List.nil_append, All_ret, Nat.one_ne_zero, if_false, Nat.zero_add, Nat.reduceAdd, List.eraseIdx_cons_zero, List.eraseIdx_cons_succ, List.cons_append, Nat.sub_self, Nat.lt_irrefl, false_imp_iff, true_and, and_true]
      refine ⟨fun _ _ => ⟨fun _ => ⟨Val.so2 S (by omega) _ _, rfl, fun u hu => ?_⟩, fun _ => ⟨Val.so2 S (by omega) _ _, rfl, fun u hu => ?_⟩⟩,
        fun _ => ⟨fun _ => ⟨fun _ => ⟨Val.so2 S (by omega) _ _, rfl, fun u hu => ?_⟩, fun _ => ⟨Val.so2 S (by omega) _ _, rfl, fun u hu => ?_⟩⟩, fun _ => ⟨fun _ => ⟨Val.so2 S (by omega) _ _, rfl, fun u hu => ?_⟩, fun _ => ⟨Val.so2 S (by omega) _ _, rfl, fun u hu => ?_⟩⟩⟩⟩ <;> have := so_mem S hu <;> simp <;> grind
  | u2 n x x' hn =>
    cases vb with
    | u2s y =>
      have hm' : min 2 (n + 1) = 2 := by omega
      simp only [mergeU, hm', drawU, Tr.bind, All2, All1, List.length_cons, List.length_nil, List.replicate, if_true, List.getElem?_cons_zero, List.getElem?_cons_succ, List.nil_append, All_ret, Nat.one_ne_zero, if_false, Nat.zero_add, Nat.reduceAdd, List.eraseIdx_cons_zero, List.eraseIdx_cons_succ, List.cons_append, Nat.sub_self, Nat.lt_irrefl, false_imp_iff, true_and, and_true]
      refine ⟨fun _ => ⟨fun _ => ⟨fun _ => ⟨Val.so2 S (by omega) _ _, rfl, fun u hu => ?_⟩, fun _ => ⟨Val.so2 S (by omega) _ _, rfl, fun u hu => ?_⟩⟩, fun _ => ⟨fun _ => ⟨Val.so2 S (by omega) _ _, rfl, fun u hu => ?_⟩, fun _ => ⟨Val.so2 S (by omega) _ _, rfl, fun u hu => ?_⟩⟩⟩,
        fun _ _ => ⟨fun _ => ⟨Val.so2 S (by omega) _ _, rfl, fun u hu => ?_⟩, fun _ => ⟨Val.so2 S (by omega) _ _, rfl, fun u hu => ?_⟩⟩⟩ <;> have := so_mem S hu <;> simp <;> grind
    | u2 m y z hm =>
      have hm' : min 2 (n + m) = 2 := by omega
      simp only [mergeU, hm', drawU, Tr.bind, All2, All1, List.length_cons, List.length_nil, List.replicate, if_true, List.getElem?_cons_zero, List.getElem?_cons_succ, List.nil_append, All_ret, Nat.one_ne_zero, if_false, Nat.zero_add, Nat.reduceAdd, List.eraseIdx_cons_zero, List.eraseIdx_cons_succ, List.cons_append, Nat.sub_self, Nat.lt_irrefl, false_imp_iff, true_and, and_true]
      have key : ∀ u v : I, (u = x ∨ u = x' ∨ u = y ∨ u = z) → (v = x ∨ v = x' ∨ v = y ∨ v = z) → MOk (w := w) true 2 ⟨n, [x, x']⟩ ⟨m, [y, z]⟩ ⟨n + m, so [u, v]⟩ := fun u v hu hv =>
        ⟨Val.so2 S (by omega) _ _, rfl, fun t ht => by
          have := so_mem S ht
          simp
          grind⟩
      refine ⟨fun _ => ⟨fun _ => ⟨fun _ => ?_, fun _ => ⟨fun _ => ?_, fun _ => ?_⟩⟩, fun _ => ⟨fun _ => ?_, fun _ => ⟨fun _ => ?_, fun _ => ?_⟩⟩⟩, fun _ => ⟨fun _ => ⟨fun _ => ⟨fun _ => ?_, fun _ => ?_⟩, fun _ => ?_⟩, fun _ => ⟨fun _ => ⟨fun _ => ?_, fun _ => ?_⟩, fun _ => ?_⟩⟩⟩ <;> exact key _ _ (by simp) (by simp)
  | w2s x hx =>
    cases vb with
    | w2s y hy =>
      have hz : ¬ w x + w y = 0 := by omega
      have h1 : ¬ 0 + w y = 0 := by omega
      have h2 : ¬ w x + 0 = 0 := by omega
      simp only [mergeW, drawW, if_neg hz, Nat.sub_self, if_neg h1, if_neg h2, Tr.bind, All2, if_true, List.nil_append, List.cons_append, All_ret, Nat.one_ne_zero, if_false, Bool.false_eq_true, Nat.lt_irrefl, false_imp_iff, true_and, and_true]
      exact ⟨fun _ _ => ⟨.w2 _ _ _ (by omega) hx hy, rfl, by simp⟩, fun _ _ => ⟨.w2 _ _ _ (by omega) hy hx, rfl, by simp⟩⟩
    | w2 n y z hn hy hz' =>
      have hz : ¬ w x + n = 0 := by omega
      have h1 : ¬ 0 + n = 0 := by omega
      have h2 : ¬ w x + (n - w y) = 0 := by omega
      simp only [mergeW, drawW, if_neg hz, Nat.sub_self, if_neg h1, if_neg h2, Tr.bind, All2, if_true, List.nil_append, List.cons_append, All_ret, Nat.one_ne_zero, if_false, Bool.false_eq_true, Nat.lt_irrefl, false_imp_iff, true_and, and_true]
      exact ⟨fun _ _ => ⟨.w2 _ _ _ (by omega) hx hy, rfl, by simp⟩, fun _ => ⟨fun _ => ⟨.w2 _ _ _ (by omega) hy hx, rfl, by simp⟩, fun _ => ⟨.w2 _ _ _ (by omega) hy hz', rfl, by simp⟩⟩⟩
  | w2 m x x' hm hx hx' =>
    cases vb with
    | w2s y hy =>
      have hz : ¬ m + w y = 0 := by omega
      have h1 : ¬ m - w x + w y = 0 := by omega
      have h2 : ¬ m + 0 = 0 := by omega
      simp only [mergeW, drawW, if_neg hz, Nat.sub_self, if_neg h1, if_neg h2, Tr.bind, All2, if_true, List.nil_append, List.cons_append, All_ret, Nat.one_ne_zero, if_false, Bool.false_eq_true, Nat.lt_irrefl, false_imp_iff, true_and, and_true]
      exact ⟨fun _ => ⟨fun _ => ⟨.w2 _ _ _ (by omega) hx hx', rfl, by simp⟩, fun _ => ⟨.w2 _ _ _ (by omega) hx hy, rfl, by simp⟩⟩, fun _ _ => ⟨.w2 _ _ _ (by omega) hy hx, rfl, by simp⟩⟩
    | w2 n y z hn hy hz' =>
      have hz : ¬ m + n = 0 := by omega
      have h1 : ¬ m - w x + n = 0 := by omega
      have h2 : ¬ m + (n - w y) = 0 := by omega
      simp only [mergeW, drawW, if_neg hz, Nat.sub_self, if_neg h1, if_neg h2, Tr.bind, All2, if_true, List.nil_append, List.cons_append, All_ret, Nat.one_ne_zero, if_false, Bool.false_eq_true, Nat.lt_irrefl, false_imp_iff, true_and, and_true]
      exact ⟨fun _ => ⟨fun _ => ⟨.w2 _ _ _ (by omega) hx hx', rfl, by simp⟩, fun _ => ⟨.w2 _ _ _ (by omega) hx hy, rfl, by simp⟩⟩, fun _ => ⟨fun _ => ⟨.w2 _ _ _ (by omega) hy hx, rfl, by simp⟩, fun _ => ⟨.w2 _ _ _ (by omega) hy hz', rfl, by simp⟩⟩⟩

/-! ### how many picks, how many leaves -/
theorem Few_pick {α : Type} {a b m : Nat} {k : Nat → Tr α} (h0 : (k 0).Few m) (h1 : (k 1).Few m) : (Tr.pick [a, b] k).Few (2 * m) := by
  refine Tr.Few.pick (ws := [a, b]) fun i hi _ => ?_
  match i, hi with
  | 0, _ => exact h0
  | 1, _ => exact h1
/-- at most 16 leaves and 4 picks, where at most two items are kept -/
theorem drawU_few : ∀ (m na nb : Nat) (la lb f : List I), la.length ≤ 2 → lb.length ≤ 2 → (drawU m na nb la lb f).Few (4 ^ m)
  | 0, _, _, _, _, f, _, _ => Tr.Few.ret f
  | m + 1, na, nb, la, lb, f, ha, hb => by
    have one : ∀ g : List I, (Tr.ret g).Few (4 ^ m) := fun g => (Tr.Few.ret g).mono (Nat.one_le_pow _ _ (by decide))
    have e : 4 ^ (m + 1) = 2 * (2 * 4 ^ m) := by rw [Nat.pow_succ]; omega
    rw [e]
    refine Few_pick ?_ ?_
    · rw [if_pos rfl]
      refine (Tr.Few.pick (m := 4 ^ m) fun i hi _ => ?_).mono (Nat.mul_le_mul_right _ (by simpa using ha))
      split
      · exact drawU_few m _ _ _ _ _ (Nat.le_trans (List.length_eraseIdx_le _ _) ha) hb
      · exact one _
    · rw [if_neg (by decide)]
      refine (Tr.Few.pick (m := 4 ^ m) fun i hi _ => ?_).mono (Nat.mul_le_mul_right _ (by simpa using hb))
      split
      · exact drawU_few m _ _ _ _ _ ha (Nat.le_trans (List.length_eraseIdx_le _ _) hb)
      · exact one _
theorem drawW_few : ∀ (m na nb : Nat) (la lb f : List I), (drawW w m na nb la lb f).Few (4 ^ m)
  | 0, _, _, _, _, f => Tr.Few.ret f
  | m + 1, na, nb, la, lb, f => by
    have one : ∀ (n : Nat) (g : List I), (Tr.ret g).Few (4 ^ n) := fun n g => (Tr.Few.ret g).mono (Nat.one_le_pow _ _ (by decide))
    unfold drawW
    split
    · exact one _ _
    · have e : 4 ^ (m + 1) = 4 * 4 ^ m := by rw [Nat.pow_succ]; omega
      rw [e]
      refine (Few_pick (m := 4 ^ m) ?_ ?_).mono (by omega)
      · rw [if_pos rfl]
        split
        · exact drawW_few m _ _ _ _ _
        · exact one _ _
      · rw [if_neg (by decide)]
        split
        · exact drawW_few m _ _ _ _ _
        · exact one _ _
theorem Val.len {kd : Bool} {k : Nat} {s : Smp I} (v : Val w kd k s) : s.kept.length ≤ 2 ∧ k ≤ 2 ∧ 1 ≤ k ∧ 1 ≤ s.kept.length := by
  cases v <;> simp
theorem merge_few {kd : Bool} {k : Nat} {a b : Smp I} (va : Val w kd k a) (vb : Val w kd k b) : (merge w so kd k a b).Few 16 := by
  have ha := va.len
  have hb := vb.len
  have up : ∀ m, m ≤ 2 → 4 ^ m * 1 ≤ 16 := fun m hm => by
    have := Nat.pow_le_pow_right (n := 4) (by decide) hm
    omega
  unfold merge
  split
  · exact ((drawU_few _ _ _ _ _ _ ha.1 hb.1).bind (P := fun _ => True) (by
      have : ∀ t : Tr (List I), t.All fun _ => True := fun t => by
        induction t with
        | ret a => trivial
        | pick ws k ih => exact fun i _ _ => ih i
      exact this _) fun f _ => Tr.Few.ret _).mono (up _ (by omega))
  · exact ((drawW_few _ _ _ _ _ _).bind (P := fun _ => True) (by
      have : ∀ t : Tr (List I), t.All fun _ => True := fun t => by
        induction t with
        | ret a => trivial
        | pick ws k ih => exact fun i _ _ => ih i
      exact this _) fun f _ => Tr.Few.ret _).mono (up _ (by omega))
end
end Sam
end
section
set_option autoImplicit false
set_option linter.all false
namespace Sam
/-! ### a run of a tree from a state of the explorer: each pick on the way is in order -/
def fitsAt (ws : List Nat) (x : ES) : Prop := x.at_ = x.path.length ∨ ∃ i, x.path[x.at_]? = some (i, ws) ∧ i < ws.length ∧ 0 < ws.getD i 0
def Tr.Run {α : Type} : Tr α → ES → Prop
  | .ret _, _ => True
  | .pick ws k, x => (0 < ws.sum ∧ ws.sum ≤ 24) ∧ x.at_ < 20 ∧ fitsAt ws x ∧ (k (pickS ws x).1).Run (pickS ws x).2
theorem Tr.Run_bind {α β : Type} (f : α → Tr β) : ∀ (t : Tr α) (x : ES), (t.bind f).Run x ↔ t.Run x ∧ (f (t.exec x).1).Run (t.exec x).2
  | .ret a, x => by simp [Tr.bind, Tr.Run, Tr.exec]
  | .pick ws k, x => by
    have := Tr.Run_bind f (k (pickS ws x).1) (pickS ws x).2
    simp only [Tr.bind, Tr.Run, Tr.exec, this]
    constructor
    · rintro ⟨a, b, c, d, e⟩; exact ⟨⟨a, b, c, d⟩, e⟩
    · rintro ⟨⟨a, b, c, d⟩, e⟩; exact ⟨a, b, c, d, e⟩
theorem pickS_spec {ws : List Nat} {x : ES} (h0 : 0 < ws.sum) (hf : fitsAt ws x) : (pickS ws x).1 < ws.length ∧ 0 < ws.getD (pickS ws x).1 0 ∧ (pickS ws x).2.at_ = x.at_ + 1 ∧
    (pickS ws x).2.path[x.at_]? = some ((pickS ws x).1, ws) ∧ (∀ j, x.at_ < j → (pickS ws x).2.path[j]? = x.path[j]?) ∧ x.at_ < (pickS ws x).2.path.length := by
  obtain ⟨o, ho⟩ := sum_pos_nxt h0
  obtain ⟨_, b1, b2, _⟩ := nxt_spec ho
  by_cases eq : x.at_ = x.path.length
  · have e : pickS ws x = (o, ⟨x.path ++ [(o, ws)], x.at_ + 1, x.ch * pr ws o⟩) := by
      unfold pickS
      simp [eq, ho]
    rw [e]
    refine ⟨b1, b2, rfl, ?_, ?_, ?_⟩
    · simp [eq]
    · intro j hj
      simp only
      rw [List.getElem?_append_right (by omega), List.getElem?_eq_none (l := x.path) (by omega), List.getElem?_eq_none (by simp; omega)]
    · simp; omega
  · rcases hf with z | ⟨i, z1, z2, z3⟩
    · exact absurd z eq
    · have e : pickS ws x = (i, ⟨x.path, x.at_ + 1, x.ch * pr ws i⟩) := by
        unfold pickS
        simp only
        rw [if_neg eq, List.getD_eq_getElem?_getD, z1]
        rfl
      rw [e]
      exact ⟨z2, z3, rfl, z1, fun _ _ => rfl, (List.getElem?_eq_some_iff.mp z1).1⟩
theorem Tr.Run_of {α : Type} : ∀ (t : Tr α) (d : Nat) (x : ES), t.Ok d → x.at_ + d ≤ 20 → x.at_ ≤ x.path.length → t.Fits (x.path.drop x.at_) → t.Run x
  | .ret _, _, _, _, _, _, _ => trivial
  | .pick ws k, 0, x, ok, _, _, _ => False.elim ok
  | .pick ws k, d + 1, x, ok, ha, hl, hf => by
    obtain ⟨h0, h1, hk⟩ := ok
    have hfit : fitsAt ws x := by
      by_cases eq : x.at_ = x.path.length
      · exact .inl eq
      · rw [List.drop_eq_getElem_cons (by omega)] at hf
        generalize hp : x.path[x.at_]'(by omega) = e at hf
        obtain ⟨i, us⟩ := e
        obtain ⟨rfl, h2, h3, _⟩ := hf
        exact .inr ⟨i, by rw [List.getElem?_eq_getElem (by omega), hp], h2, h3⟩
    obtain ⟨p1, p2, p3, p4, p5, p6⟩ := pickS_spec h0 hfit
    refine ⟨⟨h0, h1⟩, by omega, hfit, Tr.Run_of (k _) d _ (hk _ p1 p2) (by omega) (by omega) ?_⟩
    by_cases eq : x.at_ = x.path.length
    · rw [p3, List.drop_eq_nil_of_le]
      · cases k (pickS ws x).1 <;> exact trivial
      · have : (pickS ws x).2.path.length ≤ x.at_ + 1 := by
          have := p5 (x.at_ + 1) (by omega)
          rw [List.getElem?_eq_none (l := x.path) (by omega)] at this
          exact List.getElem?_eq_none_iff.mp this
        exact this
    · have e2 : (pickS ws x).2.path.drop (x.at_ + 1) = x.path.drop (x.at_ + 1) := by
        apply List.ext_getElem?
        intro j
        rw [List.getElem?_drop, List.getElem?_drop]
        exact p5 _ (by omega)
      rw [p3, e2]
      rw [List.drop_eq_getElem_cons (by omega)] at hf
      have hp : x.path[x.at_]'(by omega) = ((pickS ws x).1, ws) := by
        have h4 : (pickS ws x).2.path = x.path := by
          unfold pickS
          simp only
          rw [if_neg eq]
        rw [h4, List.getElem?_eq_getElem (by omega)] at p4
        exact Option.some.inj p4
      rw [hp] at hf
      exact hf.2.2.2
end Sam
end
section
set_option autoImplicit false
set_option linter.all false
namespace Sam
section
variable {I : Type} {w : I → Nat} {so : List I → List I}
/-! ### how a merge is drawn -/
theorem ok_rep {α : Type} {d n : Nat} {k : Nat → Tr α} (h1 : 0 < n) (h2 : n ≤ 2) (h : ∀ i, i < n → (k i).Ok d) : (Tr.pick (List.replicate n 1) k).Ok (d + 1) := by
  have e : (List.replicate n 1).sum = n := by
    match n, h2 with
    | 0, _ => rfl
    | 1, _ => rfl
    | 2, _ => rfl
  refine ⟨by rw [e]; exact h1, by rw [e]; omega, fun i hi _ => h i (by simpa using hi)⟩
theorem mergeU_ok (S : SoOk so) {k : Nat} {a b : Smp I} (va : Val w true k a) (vb : Val w true k b) (hs : a.n + b.n ≤ 24) : (merge w so true k a b).Ok 4 := by
  have c1 : ∀ n : Nat, n + 2 - 1 = n + 1 := fun _ => rfl
  unfold merge
  cases va with
  | u1 n x hx =>
    cases vb with
    | u1 m y hy =>
      have hm : min 1 (n + m) = 1 := by omega
      simp only at hs
      simp only [mergeU, hm, drawU, Tr.bind, Ok2, Ok1, List.length_cons, List.length_nil, List.replicate, if_true, List.getElem?_cons_zero, List.nil_append, Ok_ret, Nat.one_ne_zero, if_false, Nat.zero_add, Nat.reduceAdd]
      grind
  | u2s x =>
    cases vb with
    | u2s y =>
      have hm : min 2 (1 + 1) = 2 := by omega
      simp only [mergeU, hm, drawU, Tr.bind, Ok2, Ok1, List.length_cons, List.length_nil, List.replicate, if_true, List.getElem?_cons_zero, List.getElem?_cons_succ, List.nil_append, Ok_ret, Nat.one_ne_zero, if_false, Nat.zero_add, Nat.reduceAdd, List.eraseIdx_cons_zero, List.eraseIdx_cons_succ, List.cons_append, Nat.sub_self, Nat.lt_irrefl, false_imp_iff, true_and, and_true]
      grind
    | u2 m y z hm =>
      have hm' : min 2 (1 + m) = 2 := by omega
      simp only at hs
      simp only [mergeU, hm', drawU, Tr.bind, Ok2, Ok1, List.length_cons, List.length_nil, List.replicate, if_true, List.getElem?_cons_zero, List.getElem?_cons_succ, List.nil_append, Ok_ret, Nat.one_ne_zero, if_false, Nat.zero_add, Nat.reduceAdd, List.eraseIdx_cons_zero, List.eraseIdx_cons_succ, List.cons_append, Nat.sub_self, Nat.lt_irrefl, false_imp_iff, true_and, and_true]
      grind
  | u2 n x x' hn =>
    cases vb with
    | u2s y =>
      have hm' : min 2 (n + 1) = 2 := by omega
      simp only at hs
      simp only [mergeU, hm', drawU, Tr.bind, Ok2, Ok1, List.length_cons, List.length_nil, List.replicate, if_true, List.getElem?_cons_zero, List.getElem?_cons_succ, List.nil_append, Ok_ret, Nat.one_ne_zero, if_false, Nat.zero_add, Nat.reduceAdd, List.eraseIdx_cons_zero, List.eraseIdx_cons_succ, List.cons_append, Nat.sub_self, Nat.lt_irrefl, false_imp_iff, true_and, and_true]
      grind
    | u2 m y z hm =>
      have hm' : min 2 (n + m) = 2 := by omega
      simp only at hs
      simp only [mergeU, hm', drawU, Tr.bind, Ok2, Ok1, List.length_cons, List.length_nil, List.replicate, if_true, List.getElem?_cons_zero, List.getElem?_cons_succ, List.nil_append, Ok_ret, Nat.one_ne_zero, if_false, Nat.zero_add, Nat.reduceAdd, List.eraseIdx_cons_zero, List.eraseIdx_cons_succ, List.cons_append, Nat.sub_self, Nat.lt_irrefl, false_imp_iff, true_and, and_true]
      grind
theorem mergeW_ok {k : Nat} {a b : Smp I} (va : Val w false k a) (vb : Val w false k b) (hs : a.n + b.n ≤ 24) : (merge w so false k a b).Ok 4 := by
  unfold merge
  cases va with
  | w1 n x hx hx1 =>
    cases vb with
    | w1 m y hy hy1 =>
      have hz : ¬ n + m = 0 := by omega
      simp only at hs
      simp only [mergeW, drawW, if_neg hz, Tr.bind, Ok2, if_true, List.nil_append, Ok_ret, Nat.one_ne_zero, if_false, Bool.false_eq_true]
      grind
  | w2s x hx =>
    cases vb with
    | w2s y hy =>
      have hz : ¬ w x + w y = 0 := by omega
      have h1 : ¬ 0 + w y = 0 := by omega
      have h2 : ¬ w x + 0 = 0 := by omega
      simp only at hs
      simp only [mergeW, drawW, if_neg hz, Nat.sub_self, if_neg h1, if_neg h2, Tr.bind, Ok2, if_true, List.nil_append, List.cons_append, Ok_ret, Nat.one_ne_zero, if_false, Bool.false_eq_true, Nat.lt_irrefl, false_imp_iff, true_and, and_true]
      grind
    | w2 n y z hn hy hz' =>
      have hz : ¬ w x + n = 0 := by omega
      have h1 : ¬ 0 + n = 0 := by omega
      have h2 : ¬ w x + (n - w y) = 0 := by omega
      simp only at hs
      simp only [mergeW, drawW, if_neg hz, Nat.sub_self, if_neg h1, if_neg h2, Tr.bind, Ok2, if_true, List.nil_append, List.cons_append, Ok_ret, Nat.one_ne_zero, if_false, Bool.false_eq_true, Nat.lt_irrefl, false_imp_iff, true_and, and_true]
      grind
  | w2 m x x' hm hx hx' =>
    cases vb with
    | w2s y hy =>
      have hz : ¬ m + w y = 0 := by omega
      have h1 : ¬ m - w x + w y = 0 := by omega
      have h2 : ¬ m + 0 = 0 := by omega
      simp only at hs
      simp only [mergeW, drawW, if_neg hz, Nat.sub_self, if_neg h1, if_neg h2, Tr.bind, Ok2, if_true, List.nil_append, List.cons_append, Ok_ret, Nat.one_ne_zero, if_false, Bool.false_eq_true, Nat.lt_irrefl, false_imp_iff, true_and, and_true]
      grind
    | w2 n y z hn hy hz' =>
      have hz : ¬ m + n = 0 := by omega
      have h1 : ¬ m - w x + n = 0 := by omega
      have h2 : ¬ m + (n - w y) = 0 := by omega
      simp only at hs
      simp only [mergeW, drawW, if_neg hz, Nat.sub_self, if_neg h1, if_neg h2, Tr.bind, Ok2, if_true, List.nil_append, List.cons_append, Ok_ret, Nat.one_ne_zero, if_false, Bool.false_eq_true, Nat.lt_irrefl, false_imp_iff, true_and, and_true]
      grind
theorem merge_ok (S : SoOk so) {kd : Bool} {k : Nat} {a b : Smp I} (va : Val w kd k a) (vb : Val w kd k b) (hs : a.n + b.n ≤ 24) : (merge w so kd k a b).Ok 4 := by
  cases kd with
  | true => exact mergeU_ok S va vb hs
  | false => exact mergeW_ok va vb hs
/-! ### the mean behind a merge -/
theorem so_so (S : SoOk so) (x y : I) : so (so [x, y]) = so [x, y] := by
  rcases S.two x y with e | e <;> rw [e]
  · exact e
  · rw [S.sym, e]
theorem Au_so (S : SoOk so) (n : Nat) (x y : I) (h : I → Rat) : Au ⟨n, so [x, y]⟩ h = (n : Rat) * ((h x + h y) / 2) := by
  rcases S.two x y with e | e <;> rw [e] <;> simp only [Au]
  grind
theorem Bu_so (S : SoOk so) (n : Nat) (x y : I) (g : List I → Rat) : Bu so ⟨n, so [x, y]⟩ g = (n : Rat) * ((n : Rat) - 1) * g (so [x, y]) := by
  have h := so_so S x y
  rcases S.two x y with e | e <;> rw [e] at h ⊢ <;> simp only [Bu, h]
theorem u_ne {n m : Nat} (h1 : 1 ≤ n) (h2 : 1 ≤ m) : ((n : Rat) + (m : Rat)) ≠ 0 ∧ ((n : Rat) + (m : Rat)) - 1 ≠ 0 := by
  have a := cast_ne (n := n + m) (by omega)
  have b := cast_ne (n := n + m - 1) (by omega)
  rw [cast_sub (by omega)] at b
  rw [Rat.natCast_add] at a b
  exact ⟨a, b⟩
theorem Au_lin (s : Smp I) (c d : Rat) (h : I → Rat) (g : I → Rat) : Au s (fun x => c * h x + d * g x) = c * Au s h + d * Au s g := by
  unfold Au
  split <;> grind
theorem Au_const {s : Smp I} (v : Val w true 2 s) (c : Rat) : Au s (fun _ => c) = (s.n : Rat) * c := by
  cases v <;> simp only [Au] <;> grind
theorem E_Bu (S : SoOk so) {a b : Smp I} (va : Val w true 2 a) (vb : Val w true 2 b) (g : List I → Rat) :
    (mergeU so 2 a b).E (fun c => Bu so c g) = Bu so a g + Bu so b g + 2 * Au a (fun x => Au b (fun y => g (so [x, y]))) := by
  obtain ⟨n0, n1⟩ := u_ne va.pos vb.pos
  rw [E_u2 S va vb]
  have e1 : ∀ l : List I, (fun c : Smp I => Bu so c g) ⟨a.n + b.n, l⟩ = Bu so ⟨a.n + b.n, l⟩ g := fun _ => rfl
  have hAA : (fun x => Au b (fun y => Bu so ⟨a.n + b.n, so [x, y]⟩ g)) = fun x => ((a.n : Rat) + (b.n : Rat)) * (((a.n : Rat) + (b.n : Rat)) - 1) * Au b (fun y => g (so [x, y])) + 0 * 0 := by
    funext x
    have : (fun y => Bu so ⟨a.n + b.n, so [x, y]⟩ g) = fun y => ((a.n : Rat) + (b.n : Rat)) * (((a.n : Rat) + (b.n : Rat)) - 1) * g (so [x, y]) + 0 * 0 := by
      funext y
      rw [Bu_so S, Rat.natCast_add]
      grind
    rw [this, Au_lin]
    grind
  rw [hAA, Au_lin]
  have hB : ∀ s : Smp I, Val w true 2 s → Bu so s (fun l => Bu so ⟨a.n + b.n, l⟩ g) = ((a.n : Rat) + (b.n : Rat)) * (((a.n : Rat) + (b.n : Rat)) - 1) * Bu so s g := by
    intro s v
    cases v with
    | u2s x => simp only [Bu]; grind
    | u2 n x y hn =>
      have e : ∀ h : List I → Rat, Bu so ⟨n, [x, y]⟩ h = (n : Rat) * ((n : Rat) - 1) * h (so [x, y]) := fun _ => rfl
      rw [e, e, Bu_so S, Rat.natCast_add]
      grind
  rw [hB a va, hB b vb]
  generalize ((a.n : Rat) + (b.n : Rat)) = N at *
  grind
theorem E_Au (S : SoOk so) {a b : Smp I} (va : Val w true 2 a) (vb : Val w true 2 b) (h : I → Rat) :
    (mergeU so 2 a b).E (fun c => Au c h) = Au a h + Au b h := by
  obtain ⟨n0, n1⟩ := u_ne va.pos vb.pos
  rw [E_u2 S va vb]
  have hAA : (fun x => Au b (fun y => Au ⟨a.n + b.n, so [x, y]⟩ h)) = fun x => (((a.n : Rat) + (b.n : Rat)) * (b.n : Rat) / 2) * h x + (((a.n : Rat) + (b.n : Rat)) / 2 * Au b h) * 1 := by
    funext x
    have : (fun y => Au ⟨a.n + b.n, so [x, y]⟩ h) = fun y => (((a.n : Rat) + (b.n : Rat)) / 2) * h y + (((a.n : Rat) + (b.n : Rat)) / 2) * h x := by
      funext y
      rw [Au_so S, Rat.natCast_add]
      grind
    rw [this, Au_lin _ _ _ (fun y => h y) (fun _ => h x), Au_const vb]
    grind
  rw [hAA, Au_lin _ _ _ (fun y => h y) (fun _ => 1), Au_const va]
  have hB : ∀ s : Smp I, Val w true 2 s → Bu so s (fun l => Au ⟨a.n + b.n, l⟩ h) = ((a.n : Rat) + (b.n : Rat)) * ((s.n : Rat) - 1) * Au s h := by
    intro s v
    cases v with
    | u2s x => simp only [Bu, Au]; grind
    | u2 n x y hn =>
      simp only [Bu]
      rw [Au_so S, Rat.natCast_add]
      simp only [Au]
      grind
  rw [hB a va, hB b vb]
  generalize hN : ((a.n : Rat) + (b.n : Rat)) = N at *
  have : (a.n : Rat) = N - (b.n : Rat) := by grind
  rw [this]
  grind
end
end Sam
end
section
set_option autoImplicit false
set_option linter.all false
namespace Sam
section
variable {I : Type} {w : I → Nat} {so : List I → List I}
theorem hd_ne {a b : Smp I} (va : Val w false 2 a) (hb : 1 ≤ b.n) {x : I} {r : List I} (e : a.kept = x :: r) : ((a.n : Rat) + (b.n : Rat)) - (w x : Rat) ≠ 0 := by
  have h : w x ≤ a.n := by
    cases va with
    | w2s y hy => simp at e; rw [e.1]; exact Nat.le_refl _
    | w2 n y z hn hy hz => simp at e; rw [← e.1]; simp only; omega
  have := cast_ne (n := a.n + b.n - w x) (by omega)
  rw [cast_sub (by omega), Rat.natCast_add] at this
  exact this
theorem hd_ne' {a b : Smp I} (vb : Val w false 2 b) (ha : 1 ≤ a.n) {x : I} {r : List I} (e : b.kept = x :: r) : ((a.n : Rat) + (b.n : Rat)) - (w x : Rat) ≠ 0 := by
  have := hd_ne vb ha e
  grind
theorem E_Cw {a b : Smp I} (va : Val w false 2 a) (vb : Val w false 2 b) (N : Rat) (g : List I → Rat) :
    (mergeW w 2 a b).E (fun c => Cw w N c g) = Cw w N a g + Cw w N b g + Dw w N a b g := by
  have n0 := (u_ne va.pos vb.pos).1
  have pa := va.pos
  have pb := vb.pos
  rw [E_w2 va vb]
  have hC : ∀ s : Smp I, Val w false 2 s → (∀ x r, s.kept = x :: r → ((a.n : Rat) + (b.n : Rat)) - (w x : Rat) ≠ 0) → Cw w ((a.n : Rat) + (b.n : Rat)) s (fun l => Cw w N ⟨a.n + b.n, l⟩ g) = ((a.n : Rat) + (b.n : Rat)) * Cw w N s g := by
    intro s v hx
    cases v with
    | w2s x h => simp only [Cw]; grind
    | w2 n x y hn h1 h2 =>
      have := hx x [y] rfl
      simp only [Cw, Rat.natCast_add]
      generalize ((a.n : Rat) + (b.n : Rat)) = M at *
      generalize N - (w x : Rat) = Z at *
      rw [Rat.div_def, Rat.div_def, Rat.div_def]
      have h3 := Rat.mul_inv_cancel _ this
      grind
  rw [hC a va fun x r e => hd_ne va pb e, hC b vb fun x r e => hd_ne' vb pa e]
  have hD : Dw w ((a.n : Rat) + (b.n : Rat)) a b (fun l => Cw w N ⟨a.n + b.n, l⟩ g) = ((a.n : Rat) + (b.n : Rat)) * Dw w N a b g := by
    unfold Dw
    split
    · rename_i x y e1 e2
      obtain ⟨ra, ea⟩ : ∃ r, a.kept = x :: r := by
        cases h : a.kept with
        | nil => rw [h] at e1; cases e1
        | cons z t => rw [h] at e1; cases e1; exact ⟨t, rfl⟩
      obtain ⟨rb, eb⟩ : ∃ r, b.kept = y :: r := by
        cases h : b.kept with
        | nil => rw [h] at e2; cases e2
        | cons z t => rw [h] at e2; cases e2; exact ⟨t, rfl⟩
      have h1 := hd_ne va pb ea
      have h2 := hd_ne' vb pa eb
      simp only [Cw, Rat.natCast_add]
      generalize ((a.n : Rat) + (b.n : Rat)) = M at *
      generalize N - (w x : Rat) = Z at *
      generalize N - (w y : Rat) = Y at *
      have i1 := Rat.mul_inv_cancel _ h1
      have i2 := Rat.mul_inv_cancel _ h2
      simp only [Rat.div_def]
      grind
    · grind
  rw [hD]
  generalize ((a.n : Rat) + (b.n : Rat)) = M at *
  grind
theorem E_hd {a b : Smp I} (va : Val w false 2 a) (vb : Val w false 2 b) (h : I → Rat) :
    (mergeW w 2 a b).E (fun c => (c.n : Rat) * (match c.kept with | x :: _ => h x | [] => 0)) = (a.n : Rat) * (match a.kept with | x :: _ => h x | [] => 0) + (b.n : Rat) * (match b.kept with | x :: _ => h x | [] => 0) := by
  have n0 := (u_ne va.pos vb.pos).1
  have pa := va.pos
  have pb := vb.pos
  rw [E_w2 va vb]
  have hn1 := fun x r (e : a.kept = x :: r) => hd_ne va pb e
  have hn2 := fun x r (e : b.kept = x :: r) => hd_ne' vb pa e
  cases va with
  | w2s x h1 =>
    have i1 := hn1 x [] rfl
    cases vb with
    | w2s y h2 =>
      have i2 := hn2 y [] rfl
      simp only [Cw, Dw, List.head?_cons, Rat.natCast_add] at *
      grind
    | w2 m y z hm h2 h3 =>
      have i2 := hn2 y [z] rfl
      simp only [Cw, Dw, List.head?_cons, Rat.natCast_add] at *
      have j1 := Rat.mul_inv_cancel _ i1
      have j2 := Rat.mul_inv_cancel _ i2
      simp only [Rat.div_def]
      grind
  | w2 n x x' hn h1 h1' =>
    have i1 := hn1 x [x'] rfl
    cases vb with
    | w2s y h2 =>
      have i2 := hn2 y [] rfl
      simp only [Cw, Dw, List.head?_cons, Rat.natCast_add] at *
      have j1 := Rat.mul_inv_cancel _ i1
      have j2 := Rat.mul_inv_cancel _ i2
      simp only [Rat.div_def]
      grind
    | w2 m y z hm h2 h3 =>
      have i2 := hn2 y [z] rfl
      simp only [Cw, Dw, List.head?_cons, Rat.natCast_add] at *
      have j1 := Rat.mul_inv_cancel _ i1
      have j2 := Rat.mul_inv_cancel _ i2
      simp only [Rat.div_def]
      grind
theorem Dw_hd (N : Rat) (c t : Smp I) (g : List I → Rat) : Dw w N c t g = (c.n : Rat) * (match c.kept with | x :: _ => (match t.kept with | y :: _ => (t.n : Rat) * (g [x, y] / (N - (w x : Rat)) + g [y, x] / (N - (w y : Rat))) | [] => 0) | [] => 0) := by
  unfold Dw
  cases c.kept with
  | nil => simp [Rat.mul_zero]
  | cons x r =>
    cases t.kept with
    | nil => simp [Rat.mul_zero]
    | cons y s => simp only [List.head?_cons]; grind
theorem E_Dw {a b : Smp I} (va : Val w false 2 a) (vb : Val w false 2 b) (N : Rat) (t : Smp I) (g : List I → Rat) :
    (mergeW w 2 a b).E (fun c => Dw w N c t g) = Dw w N a t g + Dw w N b t g := by
  have e : (fun c : Smp I => Dw w N c t g) = fun c => (c.n : Rat) * (match c.kept with | x :: _ => (match t.kept with | y :: _ => (t.n : Rat) * (g [x, y] / (N - (w x : Rat)) + g [y, x] / (N - (w y : Rat))) | [] => 0) | [] => 0) := by
    funext c
    exact Dw_hd N c t g
  rw [e]
  have := E_hd va vb (fun x => match t.kept with | y :: _ => (t.n : Rat) * (g [x, y] / (N - (w x : Rat)) + g [y, x] / (N - (w y : Rat))) | [] => 0)
  rw [Dw_hd, Dw_hd]
  exact this
end
end Sam
end
section
set_option autoImplicit false
set_option linter.all false
namespace Sam
section
variable {I : Type} {w : I → Nat} {so : List I → List I}
theorem E_q1 (S : SoOk so) {kd : Bool} {k : Nat} {a b : Smp I} (va : Val w kd k a) (vb : Val w kd k b) (N : Rat) (g : List I → Rat) :
    (merge w so kd k a b).E (fun c => q1 w so kd k N c g) = q1 w so kd k N a g + q1 w so kd k N b g + q2 w so kd k N a b g := by
  obtain ⟨n0, _⟩ := u_ne va.pos vb.pos
  have hk := va.len
  by_cases k1 : k = 1
  · subst k1
    cases va with
    | u1 n x hx =>
      cases vb with
      | u1 m y hy =>
        simp only [merge, if_true, q1, q2]
        rw [E_u1 S n m x y hx hy]
        simp only [Rat.natCast_add] at *
        grind
    | w1 n x hx hx1 =>
      cases vb with
      | w1 m y hy hy1 =>
        simp only [merge, if_true, q1, q2, Bool.false_eq_true, if_false]
        rw [E_w1 n m x y (by omega) (by omega)]
        simp only [Rat.natCast_add] at *
        grind
  · have k2 : k = 2 := by omega
    subst k2
    cases kd with
    | true =>
      simp only [merge, q1, q2, if_true, if_neg k1]
      rw [E_Bu S va vb]
    | false =>
      simp only [merge, q1, q2, if_true, if_neg k1, Bool.false_eq_true, if_false]
      rw [E_Cw va vb]
theorem E_q2 (S : SoOk so) {kd : Bool} {k : Nat} {a b : Smp I} (va : Val w kd k a) (vb : Val w kd k b) (N : Rat) (t : Smp I) (g : List I → Rat) :
    (merge w so kd k a b).E (fun c => q2 w so kd k N c t g) = q2 w so kd k N a t g + q2 w so kd k N b t g := by
  have hk := va.len
  by_cases k1 : k = 1
  · subst k1
    simp only [q2, if_true]
    have h : ∀ {α : Type} (t : Tr α), t.E (fun _ => (0 : Rat)) = 0 := by
      intro α t
      have := Tr.E_mul 0 (fun _ => (0 : Rat)) t
      simp only [Rat.zero_mul] at this
      exact this
    rw [h]
    grind
  · have k2 : k = 2 := by omega
    subst k2
    cases kd with
    | true =>
      simp only [merge, q2, if_true, if_neg k1]
      rw [Tr.E_mul, E_Au S va vb]
      grind
    | false =>
      simp only [merge, q2, if_true, if_neg k1, Bool.false_eq_true, if_false]
      rw [E_Dw va vb]
theorem E_two (S : SoOk so) {kd : Bool} {k : Nat} {a b : Smp I} (va : Val w kd k a) (vb : Val w kd k b) (f : Smp I → Rat) :
    (merge w so kd k a b).E f = Phi w so kd k [a, b] f := by
  obtain ⟨n0, n1⟩ := u_ne va.pos vb.pos
  have hk := va.len
  rw [Phi_of (by simp)]
  have ht : tot [a, b] = a.n + b.n := by simp [tot]
  rw [ht]
  simp only [QQ, List.map_cons, List.map_nil, sumR]
  by_cases k1 : k = 1
  · subst k1
    cases va with
    | u1 n x hx =>
      cases vb with
      | u1 m y hy =>
        simp only [merge, if_true, q1, q2, zz]
        rw [E_u1 S n m x y hx hy]
        simp only [Rat.natCast_add] at *
        grind
    | w1 n x hx hx1 =>
      cases vb with
      | w1 m y hy hy1 =>
        simp only [merge, if_true, q1, q2, zz, Bool.false_eq_true, if_false]
        rw [E_w1 n m x y (by omega) (by omega)]
        simp only [Rat.natCast_add] at *
        grind
  · have k2 : k = 2 := by omega
    subst k2
    cases kd with
    | true =>
      simp only [merge, q1, q2, zz, if_true, if_neg k1]
      rw [E_u2 S va vb, Rat.natCast_add]
      congr 1
      grind
    | false =>
      simp only [merge, q1, q2, zz, if_true, if_neg k1, Bool.false_eq_true, if_false]
      rw [E_w2 va vb, Rat.natCast_add]
      congr 1
      grind
theorem E_QQ (S : SoOk so) {kd : Bool} {k : Nat} {a b : Smp I} (va : Val w kd k a) (vb : Val w kd k b) (hs : a.n + b.n ≤ 24) (N : Rat) (g : List I → Rat) (r : List (Smp I)) :
    (merge w so kd k a b).E (fun c => QQ w so kd k N g (c :: r)) = QQ w so kd k N g (a :: b :: r) := by
  have o := merge_ok S va vb hs
  have e : (fun c => QQ w so kd k N g (c :: r)) = fun c => q1 w so kd k N c g + (sumR (r.map fun t => q2 w so kd k N c t g) + QQ w so kd k N g r) := by
    funext c
    simp only [QQ]
    grind
  rw [e, Tr.E_add, Tr.E_add, Tr.E_const _ o, E_q1 S va vb, Tr.E_sum o (fun c t => q2 w so kd k N c t g)]
  have e2 : sumR (r.map fun t => (merge w so kd k a b).E fun c => q2 w so kd k N c t g) = sumR (r.map fun t => q2 w so kd k N a t g) + sumR (r.map fun t => q2 w so kd k N b t g) := by
    rw [← sumR_map_add]
    exact sumR_congr fun t _ => E_q2 S va vb N t g
  rw [e2]
  simp only [QQ, List.map_cons, sumR]
  grind
theorem merge_mean (S : SoOk so) {kd : Bool} {k : Nat} {a b : Smp I} (va : Val w kd k a) (vb : Val w kd k b) (hs : a.n + b.n ≤ 24) (r : List (Smp I)) (f : Smp I → Rat) :
    (merge w so kd k a b).E (fun c => Phi w so kd k (c :: r) f) = Phi w so kd k (a :: b :: r) f := by
  cases r with
  | nil => exact E_two S va vb f
  | cons t r =>
    have h1 : (merge w so kd k a b).E (fun c => Phi w so kd k (c :: t :: r) f) = (merge w so kd k a b).E (fun c => (1 / zz kd k (tot (a :: b :: t :: r) : Nat)) * QQ w so kd k (tot (a :: b :: t :: r) : Nat) (fun l => f ⟨tot (a :: b :: t :: r), l⟩) (c :: t :: r)) := by
      refine Tr.E_congr (P := MOk (w := w) kd k a b) (fun c hc => ?_) (merge_all S va vb)
      rw [Phi_of (by simp)]
      have : tot (c :: t :: r) = tot (a :: b :: t :: r) := by simp only [tot, List.map_cons, List.sum_cons, hc.n]; omega
      rw [this]
      grind
    rw [h1, Tr.E_mul, E_QQ S va vb hs, Phi_of (by simp)]
    grind
end
end Sam
end
section
set_option Elab.async false
set_option linter.all false
set_option maxRecDepth 100000
set_option maxHeartbeats 1000000
namespace Sam
open PySem PySem.Spec PyProof.Rows L2

/-! ### a def as it stands, a def that keeps its promise -/
/-- the def st of the module stands under the name x -/
structure Df (K : PySem.W.Frag) (mg : Str → Option Value) (x : Str) (st : Stmt) (ps : List Str) : Prop where
  ex : ∃ f fd, Fun K x x st f fd ∧ mg x = some (.ref f) ∧ Binds K fd ps []
/-- the method st of the class at C -/
structure Dm (K : PySem.W.Frag) (C : Addr) (m q : Str) (st : Stmt) (ps : List Str) : Prop where
  ex : ∃ f fd, Fun K m q st f fd ∧ Meth K C m f ∧ Binds K fd ps []
structure Cl (P : Program) (w : World) (K : PySem.W.Frag) (mg : Str → Option Value) (base : Heap) (x : Str) (ps : List Str) (k : Nat) (sp : Sp) : Prop where
  ex : ∃ f fd, mg x = some (.ref f) ∧ PySem.W.keepIn K (.ref f) = true ∧ Binds K fd ps [] ∧ FnOk P w K mg base CX0 k f fd ps sp ∧ ∃ oc od osl, K.lookup f = some ⟨oc, od, .func fd, osl⟩
structure Mt (P : Program) (w : World) (K : PySem.W.Frag) (mg : Str → Option Value) (base : Heap) (C : Addr) (m : Str) (ps : List Str) (k : Nat) (sp : Sp) : Prop where
  ex : ∃ f fd, Meth K C m f ∧ Binds K fd ps [] ∧ FnOk P w K mg base CX0 k f fd ps sp ∧ ∃ oc od osl, K.lookup f = some ⟨oc, od, .func fd, osl⟩
/-- a class that is made by its __init__ -/
structure Dc (K : PySem.W.Frag) (mg : Str → Option Value) (x : Str) (C : Addr) (q : Str) (st : Stmt) (ps : List Str) : Prop where
  ex : ∃ f fd, Fun K "__init__" q st f fd ∧ Mk K C f ∧ Binds K fd ps []
  at_ : mg x = some (.ref C)
structure Ct (P : Program) (w : World) (K : PySem.W.Frag) (mg : Str → Option Value) (base : Heap) (x : Str) (C : Addr) (ps : List Str) (k : Nat) (sp : Sp) : Prop where
  ex : ∃ f fd, Mk K C f ∧ Binds K fd ps [] ∧ FnOk P w K mg base CX0 k f fd ps sp
  at_ : mg x = some (.ref C)

section
variable {P : Program} {w : World} {K : PySem.W.Frag} {mg : Str → Option Value} {base : Heap}
theorem fun_lk {x q : Str} {st : Stmt} {f : Addr} {fd : FuncData} (F : Fun K x q st f fd) : ∃ oc od osl, K.lookup f = some ⟨oc, od, .func fd, osl⟩ := by
  obtain ⟨oc, od, _, _, _, _, _, _, osl, _, e, _⟩ := F.ex
  exact ⟨oc, od, osl, e⟩
theorem Df.ok {x : Str} {st : Stmt} {N ps : List Str} {k : Nat} {sp : Sp} (d : Df K mg x st ps) (S : FnScope N ps (defScope st)) (len : ∀ vs H Q E, sp vs H Q E → vs.length = ps.length)
    (hbody : ∀ (f : Addr) (cdv : Value) (A : Around) (outer : List Env) (s : Shared) (H : Hp) (vs : List V) (Q : VK) (E : XK), Room k (A.deeper (envOfC x (defScope st) s.heap.objs.size f cdv)) → sp vs H Q E →
      ∃ t, PSs (cxOf CX0 P w K mg base N x (defScope st) f cdv A outer s H E).nox (defBody st) t ∧ t { nx := fun _ H' => Q .non H', rt := Q } (start N vs) H) : Cl P w K mg base x ps (k + 1) sp := by
  obtain ⟨f, fd, F, hm, hb⟩ := d.ex
  exact ⟨f, fd, hm, F.kp, hb, F.ok S len (hbody f), fun_lk F⟩
theorem Dm.ok {C : Addr} {m q : Str} {st : Stmt} {N ps : List Str} {k : Nat} {sp : Sp} (d : Dm K C m q st ps) (S : FnScope N ps (defScope st)) (len : ∀ vs H Q E, sp vs H Q E → vs.length = ps.length)
    (hbody : ∀ (f : Addr) (cdv : Value) (A : Around) (outer : List Env) (s : Shared) (H : Hp) (vs : List V) (Q : VK) (E : XK), Room k (A.deeper (envOfC q (defScope st) s.heap.objs.size f cdv)) → sp vs H Q E →
      ∃ t, PSs (cxOf CX0 P w K mg base N q (defScope st) f cdv A outer s H E).nox (defBody st) t ∧ t { nx := fun _ H' => Q .non H', rt := Q } (start N vs) H) : Mt P w K mg base C m ps (k + 1) sp := by
  obtain ⟨f, fd, F, hm, hb⟩ := d.ex
  exact ⟨f, fd, hm, hb, F.ok S len (hbody f), fun_lk F⟩
theorem Dc.ok {x : Str} {C : Addr} {q : Str} {st : Stmt} {N ps : List Str} {k : Nat} {sp : Sp} (d : Dc K mg x C q st ps) (S : FnScope N ps (defScope st)) (len : ∀ vs H Q E, sp vs H Q E → vs.length = ps.length)
    (hbody : ∀ (f : Addr) (cdv : Value) (A : Around) (outer : List Env) (s : Shared) (H : Hp) (vs : List V) (Q : VK) (E : XK), Room k (A.deeper (envOfC q (defScope st) s.heap.objs.size f cdv)) → sp vs H Q E →
      ∃ t, PSs (cxOf CX0 P w K mg base N q (defScope st) f cdv A outer s H E).nox (defBody st) t ∧ t { nx := fun _ H' => Q .non H', rt := Q } (start N vs) H) : Ct P w K mg base x C ps (k + 1) sp := by
  obtain ⟨f, fd, F, hm, hb⟩ := d.ex
  exact ⟨⟨f, fd, hm, hb, F.ok S len (hbody f)⟩, d.at_⟩
/-- one promise for all of a kind -/
theorem Cl.union {ι : Type} (i0 : ι) {x : Str} {ps : List Str} {k : Nat} {sp : ι → Sp} (h : ∀ i, Cl P w K mg base x ps k (sp i)) : Cl P w K mg base x ps k (fun vs H Q E => ∃ i, sp i vs H Q E) := by
  obtain ⟨f, fd, a, b, d, e, oc, od, osl, l⟩ := (h i0).ex
  refine ⟨f, fd, a, b, d, ⟨fun vs H Q E ⟨i, q⟩ => ?_, fun A outer s H args us vs Q E hr he hb hv ⟨i, q⟩ => ?_⟩, oc, od, osl, l⟩
  · obtain ⟨f', fd', a', b', d', e', _⟩ := (h i).ex
    exact e'.len _ _ _ _ q
  · obtain ⟨f', fd', a', b', d', e', oc', od', osl', l'⟩ := (h i).ex
    obtain rfl : f = f' := by
      rw [a] at a'
      exact Value.ref.inj (Option.some.inj a')
    rw [l] at l'
    cases l'
    exact e'.run A outer s H args us vs Q E hr he hb hv q
theorem Mt.union {ι : Type} (i0 : ι) {C : Addr} {m : Str} {ps : List Str} {k : Nat} {sp : ι → Sp} (h : ∀ i, Mt P w K mg base C m ps k (sp i)) : Mt P w K mg base C m ps k (fun vs H Q E => ∃ i, sp i vs H Q E) := by
  obtain ⟨f, fd, a, d, e, oc, od, osl, l⟩ := (h i0).ex
  refine ⟨f, fd, a, d, ⟨fun vs H Q E ⟨i, q⟩ => ?_, fun A outer s H args us vs Q E hr he hb hv ⟨i, q⟩ => ?_⟩, oc, od, osl, l⟩
  · obtain ⟨f', fd', a', d', e', _⟩ := (h i).ex
    exact e'.len _ _ _ _ q
  · obtain ⟨f', fd', a', d', e', oc', od', osl', l'⟩ := (h i).ex
    obtain rfl : f = f' := by
      have h1 := a.at_
      rw [a'.at_] at h1
      exact (Value.ref.inj (Option.some.inj (Option.some.inj h1))).symm
    rw [l] at l'
    cases l'
    exact e'.run A outer s H args us vs Q E hr he hb hv q
theorem Cl.mono {x : Str} {ps : List Str} {j k : Nat} {sp : Sp} (c : Cl P w K mg base x ps j sp) (h : j ≤ k) : Cl P w K mg base x ps k sp :=
  let ⟨f, fd, a, b, d, e, l⟩ := c.ex
  ⟨f, fd, a, b, d, e.mono h, l⟩
end

section
variable {X : Cx} {x m : Str} {ps : List Str} {k j : Nat} {sp : Sp} {C : Addr} {p pos apos : Pos} {e o : Expr} {es : List Expr} {ta : TE} {t : TA}
/-- f(e, ..) of a def of the module -/
theorem pe_c (c : Cl X.prog X.w X.K X.mg X.base x ps k sp) (hr : Room j X.A) (ha : PA X (e :: es) t) (hk : k ≤ j := by decide) (hg : Gl X x := by rfl)
    (hdb : (x == ("__debug__" : Str)) = false := by decide) (he : starEach (e :: es) X.env = (false, eval e X.env) :: starEach es X.env := by rfl) (hpl : (backTo pos (starEach es X.env)).any (·.1) = false := by rfl) :
    PE X (.Call (.Name x p) (e :: es) [] pos) (tCall sp [] E0 t) := by
  obtain ⟨f, fd, hm, hkp, hb, F, _⟩ := c.ex
  exact pe_call F (hr.mono hk) hg hm hkp hb .nil pass0 ha hdb he hpl
/-- o.m(e, ..) -/
theorem pe_m {pl : Sem Bool} (c : Mt X.prog X.w X.K X.mg X.base C m ps k sp) (cc : Cls X.K C) (hr : Room j X.A) (ho : PE X o ta) (ha : PA X (e :: es) t) (hk : k ≤ j := by decide)
    (hst : starEach (e :: es) X.env = (false, eval e X.env) :: starEach es X.env := by rfl) (hpl : (backTo pos (starEach es X.env)).any (·.1) = false := by rfl)
    (ht : eval (.Call (.Attribute o m apos) (e :: es) [] pos) X.env = (do
      let ov ← eval o X.env
      standAt apos.atName
      let (f, first) ← holding [ov] (getMethod ov m pl)
      callWith pos f first (backTo pos (starEach (e :: es) X.env)) (backToKw pos (keywordEach [] X.env))) := by rfl) :
    PE X (.Call (.Attribute o m apos) (e :: es) [] pos) (tMeth C m sp [] E0 ta t) := by
  obtain ⟨f, fd, hm, hb, F, _⟩ := c.ex
  exact pe_meth ho cc hm F (hr.mono hk) hb .nil pass0 ha hst hpl ht
theorem pe_m0 {pl : Sem Bool} (c : Mt X.prog X.w X.K X.mg X.base C m ps k sp) (cc : Cls X.K C) (hr : Room j X.A) (ho : PE X o ta) (hk : k ≤ j := by decide)
    (ht : eval (.Call (.Attribute o m apos) [] [] pos) X.env = (do
      let ov ← eval o X.env
      standAt apos.atName
      let (f, first) ← holding [ov] (getMethod ov m pl)
      callWith pos f first (backTo pos (starEach [] X.env)) (backToKw pos (keywordEach [] X.env))) := by rfl) :
    PE X (.Call (.Attribute o m apos) [] [] pos) (tMeth C m sp [] E0 ta tNil) := by
  obtain ⟨f, fd, hm, hb, F, _⟩ := c.ex
  exact pe_meth0 ho cc hm F (hr.mono hk) hb .nil pass0 ht
/-- C(e, ..) -/
theorem pe_k (c : Ct X.prog X.w X.K X.mg X.base x C ps k sp) (hr : Room j X.A) (ha : PA X (e :: es) t) (hk : k + 1 ≤ j := by decide) (hg : Gl X x := by rfl)
    (hdb : (x == ("__debug__" : Str)) = false := by decide) (he : starEach (e :: es) X.env = (false, eval e X.env) :: starEach es X.env := by rfl) (hpl : (backTo pos (starEach es X.env)).any (·.1) = false := by rfl) :
    PE X (.Call (.Name x p) (e :: es) [] pos) (tMake C sp [] E0 t) := by
  obtain ⟨f, fd, hm, hb, F⟩ := c.ex
  exact pe_make hm F (hr.mono hk) hg c.at_ hb .nil pass0 ha hdb he hpl
theorem pe_k0 (c : Ct X.prog X.w X.K X.mg X.base x C ps k sp) (hr : Room j X.A) (hk : k + 1 ≤ j := by decide) (hg : Gl X x := by rfl)
    (hdb : (x == ("__debug__" : Str)) = false := by decide) : PE X (.Call (.Name x p) [] [] pos) (tMake C sp [] E0 tNil) := by
  obtain ⟨f, fd, hm, hb, F⟩ := c.ex
  exact pe_make0 hm F (hr.mono hk) hg c.at_ hb .nil pass0 hdb
end

/-! ### rules with the written part named (within a comprehension's block) -/
section
variable {X : Cx} (K : PySem.W.Frag) {o e l : Expr} {tg : Expr} {f : Str} {pos : Pos} {ta tl : TE} {es : List Expr} {k n : Nat} {t : TGs}
theorem kx_list (h : X.K = K := by rfl) : IxR X (rIxL K) := by subst h; exact ix_list
theorem kx_tup (h : X.K = K := by rfl) : IxR X (rIxT K) := by subst h; exact ix_tup
theorem ke_fld (he : PE X e ta) (hb : attributeBase e f X.env (eval e X.env) = eval e X.env := by rfl) (h : X.K = K := by rfl) : PE X (.Attribute e f pos) (tFld K ta f) := by subst h; exact pe_fld he hb
theorem ki_list (hl : PE X l tl) (h : X.K = K := by rfl) : PI X tg l (iList K tl) := by subst h; exact pi_list hl
theorem ki_tup (hl : PE X l tl) (h : X.K = K := by rfl) : PI X tg l (iTup K tl) := by subst h; exact pi_tup hl
theorem ko_in (h : X.K = K := by rfl) : OpR X (compareOp .In) (rIn K false) := by subst h; exact op_in_seq
theorem ko_notIn (h : X.K = K := by rfl) : OpR X (compareOp .NotIn) (rIn K true) := by subst h; exact op_notIn_seq
theorem ko_eqD (hu : X.A.units + 64 < cLine) (h : X.K = K := by rfl) : OpR X (compareOp .Eq) (rEqD K) := by subst h; exact op_eqD hu
theorem ko_neD (hu : X.A.units + 64 < cLine) (h : X.K = K := by rfl) : OpR X (compareOp .NotEq) (rNeD K) := by subst h; exact op_neD hu
theorem ko_catT (h : X.K = K := by rfl) : OpR X (binaryOp .Add) (rCatT K) := by subst h; exact op_catT
theorem kc_len (h : X.K = K := by rfl) : CallR X (.builtin "len") (fun xs H Q => ∃ p ys, xs = [.ref p] ∧ (SqL K H p ys ∨ SqT K H p ys) ∧ Q (.int ys.length) H) := by subst h; exact call_len_seq
theorem kc_list (h : X.K = K := by rfl) : CallR X (.type "list") (fun xs H Q => ∃ p ys, xs = [.ref p] ∧ (SqL K H p ys ∨ SqT K H p ys) ∧ ∀ l, H l = none → Q (.ref l) (upd H l (.lst ys))) := by subst h; exact call_list_of
theorem kc_tuple (h : X.K = K := by rfl) : CallR X (.type "tuple") (fun xs H Q => ∃ p ys, xs = [.ref p] ∧ ((SqL K H p ys ∧ ∀ l, H l = none → Q (.ref l) (upd H l (.tup ys))) ∨ (SqT K H p ys ∧ Q (.ref p) H))) := by subst h; exact call_tuple_of
theorem kg_tup (hc : X.calm = true) (h : PGs X es t) (hn : (assignEach es X.env).length = n := by rfl) (hst : (assignEach es X.env).findIdx? (·.1) = none := by rfl) (hK : X.K = K := by rfl) : PG X (.Tuple es k pos) (gTup K n t) := by subst hK; exact pg_tup hc h hn hst
end

/-! ### heaps -/
theorem _root_.L2.Same.seqT {K : PySem.W.Frag} {H H' : Hp} {a : Addr} {xs : List V} (e : Same H H') (h : SqT K H a xs) : SqT K H' a xs := by
  rcases h with (h | ⟨o, h⟩) | h
  · exact .inl (.inl (e _ _ h))
  · exact .inl (.inr ⟨o, e _ _ h⟩)
  · exact .inr h
theorem _root_.L2.Same.new {H : Hp} {p : Addr} (o : HO) (h : H p = none) : Same H (upd H p o) := fun b u e => by
  rw [upd_ne (ne_of_none e h)]; exact e
theorem _root_.L2.Same.updS {G H : Hp} (p : Addr) (o : HO) (s : Same G H) : Same (upd G p o) (upd H p o) := fun b u e => by
  by_cases h : b = p
  · subst h; rw [upd_same] at e ⊢; exact e
  · rw [upd_ne h] at e ⊢; exact s b u e
theorem _root_.L2.Same.mut {G H : Hp} {m : Addr} (o : HO) (s : Same G H) (h : G m = none) : Same G (L2.upd H m o) := fun b u e => by
  rw [upd_ne (ne_of_none e h)]; exact s b u e
/-- what the text must have kept of the built-in names -/
structure Bn (mg : Str → Option Value) : Prop where
  len : mg "len" = none
  range : mg "range" = none
  list : mg "list" = none
  tuple : mg "tuple" = none
  sorted : mg "sorted" = none
  min : mg "min" = none
  enumerate : mg "enumerate" = none
  isinstance : mg "isinstance" = none
  sum : mg "sum" = none
  any : mg "any" = none
  int : mg "int" = none
  abs : mg "abs" = none
  str : mg "str" = none
  gcd : mg "gcd" = some (.builtin "math.gcd")
end Sam
end
section
set_option Elab.async false
set_option linter.all false
set_option maxRecDepth 100000
set_option maxHeartbeats 1000000
namespace Sam
open PySem PySem.Spec PyProof.Rows L2
/-! ### fractions -/
def frV (r : Rat) : List V := [.int r.num, .int (r.den : Int)]
def Bd (r : Rat) : Prop := r.num.natAbs < 2 ^ 2000 ∧ r.den < 2 ^ 2000
theorem mkRat_parts {p : Int} {n : Nat} (h : 0 < n) : (mkRat p n).num = p / ((Nat.gcd p.natAbs n : Nat) : Int) ∧ ((mkRat p n).den : Int) = (n : Int) / ((Nat.gcd p.natAbs n : Nat) : Int) := by
  have h0 : n ≠ 0 := by omega
  unfold mkRat
  rw [dif_neg h0, Rat.normalize_eq]
  exact ⟨rfl, by simp⟩
def spLowest : Sp := fun vs H Q _ => ∃ p q : Int, vs = [.int p, .int q] ∧ 0 < q ∧ q.natAbs < 2 ^ 8000 ∧ ∀ a, H a = none → Q (.ref a) (upd H a (.tup (frV (mkRat p q.toNat))))
section
variable {P : Program} {w : World} {K : PySem.W.Frag} {mg : Str → Option Value} {base : Heap}
theorem sc25 : FnScope ["p", "q", "divisor"] ["p", "q"] (defScope (top 25)) := ⟨rfl, rfl, rfl, by decide +kernel, rfl, by decide +kernel, by decide +kernel⟩
theorem ok_lowest (B : Bn mg) (d : Df K mg "lowest" (top 25) ["p", "q"]) : Cl P w K mg base "lowest" ["p", "q"] 1 spLowest := by
  refine d.ok sc25 (fun vs H Q E h => ?_) (fun f cdv A outer s H vs Q E hr h => ?_)
  · obtain ⟨p, q, rfl, _⟩ := h
    rfl
  · obtain ⟨p, q, rfl, hq, hb, k⟩ := h
    refine ⟨_, pss_cons (ps_if (pt_cmpR op_eq (pv 1) pe_int (nomark _)) pss_never pss_nil)
      (pss_cons (ps_set (i := 2) sc25.nd rfl (.inl rfl) (pe_callBfun cr_gcd (by rfl) B.gcd (pa_cons (pv 0) (pa_cons (pv 1) pa_nil))))
      (pss_cons (ps_if (pt_cmpR op_lt (pv 1) pe_int (nomark _)) (pss_one (ps_set (i := 2) sc25.nd rfl (.inl rfl) (pe_un un_neg (pv 2)))) pss_nil)
      (pss_one (ps_ret (pe_tup (pa_cons (pe_op op_fdivW (pv 0) (pv 2)) (pa_cons (pe_op op_fdivW (pv 1) (pv 2)) pa_nil)))))))
      , ?_⟩
    refine ⟨_, rfl, rfl, _, rfl, ite2 (fun e => ?_) (fun _ => ?_)⟩
    · exact absurd (V.int.inj (of_decide_eq_true e)) (by omega)
    refine ⟨_, rfl, _, rfl, p, q, rfl, ?_⟩
    refine ⟨_, rfl, _, _, rfl, rfl, _, rfl, ite2 (fun e => ?_) (fun _ => ?_)⟩
    · exact absurd (of_decide_eq_true e) (by omega)
    obtain ⟨n, rfl⟩ : ∃ n : Nat, q = (n : Int) := ⟨q.toNat, by omega⟩
    have hn : 0 < n := by omega
    have hg : 0 < Nat.gcd p.natAbs n := Nat.gcd_pos_of_pos_right _ hn
    have hl : Nat.gcd p.natAbs n ≤ n := Nat.gcd_le_right _ hn
    have c : CDivW 0 ((Nat.gcd p.natAbs n : Nat) : Int) := wide_div (b := 8000) (by omega) (by simp at hb ⊢; omega) (by decide) (by decide)
    refine ⟨_, rfl, _, rfl, _, _, rfl, rfl, c, _, rfl, _, rfl, _, _, rfl, rfl, c, (by show 2 ≤ sizeLine; decide), fun a ha => ?_⟩
    have := mkRat_parts (p := p) hn
    have e2 := k a ha
    simp only [frV, Int.toNat_natCast, this.1, this.2] at e2
    exact e2

/-! plus, times, less -/
def sp2 (f : Rat → Rat → Rat) : Sp := fun vs H Q _ => ∃ (x y : Addr) (X Y : Rat), vs = [.ref x, .ref y] ∧ (SqT K H x (frV X) ∧ SqT K H y (frV Y)) ∧ (Bd X ∧ Bd Y) ∧ ∀ p, H p = none → Q (.ref p) (upd H p (.tup (frV (f X Y))))
theorem bits_mul {i j : Int} (hi : i.natAbs < 2 ^ 2000) (hj : j.natAbs < 2 ^ 2000) : CMulW i j := wide_mul hi hj (by decide) (by decide) (by decide)
theorem bits_mul_lt {i j : Int} (hi : i.natAbs < 2 ^ 2000) (hj : j.natAbs < 2 ^ 2000) : (i * j).natAbs < 2 ^ 8000 := by
  refine Nat.lt_of_lt_of_le (wide_lt hi hj) (Nat.pow_le_pow_right (by decide) (by decide))
theorem Bd.d {X : Rat} (h : Bd X) : (X.den : Int).natAbs < 2 ^ 2000 := h.2
theorem den_pos (X : Rat) : (0 : Int) < (X.den : Int) := by
  have := X.den_pos
  omega
theorem sc26 : FnScope ["a", "b"] ["a", "b"] (defScope (top 26)) := ⟨rfl, rfl, rfl, by decide +kernel, rfl, by decide +kernel, by decide +kernel⟩
theorem sc28 : FnScope ["a", "b"] ["a", "b"] (defScope (top 28)) := ⟨rfl, rfl, rfl, by decide +kernel, rfl, by decide +kernel, by decide +kernel⟩
theorem sc30 : FnScope ["a", "b"] ["a", "b"] (defScope (top 30)) := ⟨rfl, rfl, rfl, by decide +kernel, rfl, by decide +kernel, by decide +kernel⟩
theorem ok_plus (B : Bn mg) (d : Df K mg "plus" (top 26) ["a", "b"]) (cL : Cl P w K mg base "lowest" ["p", "q"] 1 spLowest) : Cl P w K mg base "plus" ["a", "b"] 2 (sp2 (K := K) (· + ·)) := by
  refine d.ok sc26 (fun vs H Q E h => ?_) (fun f cdv A outer s H vs Q E hr h => ?_)
  · obtain ⟨x, y, X, Y, rfl, _⟩ := h
    rfl
  · obtain ⟨x, y, X, Y, rfl, ⟨hx, hy⟩, ⟨bx, by'⟩, k⟩ := h
    refine ⟨_, pss_one (ps_ret (pe_c cL hr (pa_cons
      (pe_op op_add (pe_op op_mulW (pe_ix ix_tup (pv 0) pe_int (fun _ _ => rfl)) (pe_ix ix_tup (pv 1) pe_int (fun _ _ => rfl)))
        (pe_op op_mulW (pe_ix ix_tup (pv 1) pe_int (fun _ _ => rfl)) (pe_ix ix_tup (pv 0) pe_int (fun _ _ => rfl))))
      (pa_cons (pe_op op_mulW (pe_ix ix_tup (pv 0) pe_int (fun _ _ => rfl)) (pe_ix ix_tup (pv 1) pe_int (fun _ _ => rfl))) pa_nil)))), ?_⟩
    refine ⟨_, rfl, x, _, 0, _, rfl, rfl, hx, rfl, ?_⟩
    refine ⟨_, rfl, y, _, 1, _, rfl, rfl, hy, rfl, ?_⟩
    refine ⟨_, _, rfl, rfl, bits_mul bx.1 by'.d, ?_⟩
    refine ⟨_, rfl, y, _, 0, _, rfl, rfl, hy, rfl, ?_⟩
    refine ⟨_, rfl, x, _, 1, _, rfl, rfl, hx, rfl, ?_⟩
    refine ⟨_, _, rfl, rfl, bits_mul by'.1 bx.d, ?_⟩
    refine ⟨_, _, rfl, rfl, ?_⟩
    refine ⟨_, rfl, x, _, 1, _, rfl, rfl, hx, rfl, ?_⟩
    refine ⟨_, rfl, y, _, 1, _, rfl, rfl, hy, rfl, ?_⟩
    refine ⟨_, _, rfl, rfl, bits_mul bx.d by'.d, ?_⟩
    refine ⟨_, _, rfl, Int.mul_pos (den_pos X) (den_pos Y), bits_mul_lt bx.d by'.d, fun p hp => ?_⟩
    have e : mkRat (X.num * (Y.den : Int) + Y.num * (X.den : Int)) ((X.den : Int) * (Y.den : Int)).toNat = X + Y := by
      rw [Rat.add_def']
      congr 1
    rw [e]
    exact k p hp
theorem ok_times (B : Bn mg) (d : Df K mg "times" (top 28) ["a", "b"]) (cL : Cl P w K mg base "lowest" ["p", "q"] 1 spLowest) : Cl P w K mg base "times" ["a", "b"] 2 (sp2 (K := K) (· * ·)) := by
  refine d.ok sc28 (fun vs H Q E h => ?_) (fun f cdv A outer s H vs Q E hr h => ?_)
  · obtain ⟨x, y, X, Y, rfl, _⟩ := h
    rfl
  · obtain ⟨x, y, X, Y, rfl, ⟨hx, hy⟩, ⟨bx, by'⟩, k⟩ := h
    refine ⟨_, pss_one (ps_ret (pe_c cL hr (pa_cons
      (pe_op op_mulW (pe_ix ix_tup (pv 0) pe_int (fun _ _ => rfl)) (pe_ix ix_tup (pv 1) pe_int (fun _ _ => rfl)))
      (pa_cons (pe_op op_mulW (pe_ix ix_tup (pv 0) pe_int (fun _ _ => rfl)) (pe_ix ix_tup (pv 1) pe_int (fun _ _ => rfl))) pa_nil)))), ?_⟩
    refine ⟨_, rfl, x, _, 0, _, rfl, rfl, hx, rfl, ?_⟩
    refine ⟨_, rfl, y, _, 0, _, rfl, rfl, hy, rfl, ?_⟩
    refine ⟨_, _, rfl, rfl, bits_mul bx.1 by'.1, ?_⟩
    refine ⟨_, rfl, x, _, 1, _, rfl, rfl, hx, rfl, ?_⟩
    refine ⟨_, rfl, y, _, 1, _, rfl, rfl, hy, rfl, ?_⟩
    refine ⟨_, _, rfl, rfl, bits_mul bx.d by'.d, ?_⟩
    refine ⟨_, _, rfl, Int.mul_pos (den_pos X) (den_pos Y), bits_mul_lt bx.d by'.d, fun p hp => ?_⟩
    have e : mkRat (X.num * Y.num) ((X.den : Int) * (Y.den : Int)).toNat = X * Y := by
      rw [Rat.mul_def']
      congr 1
    rw [e]
    exact k p hp
def spLess : Sp := fun vs H Q _ => ∃ (x y : Addr) (X Y : Rat), vs = [.ref x, .ref y] ∧ (SqT K H x (frV X) ∧ SqT K H y (frV Y)) ∧ (Bd X ∧ Bd Y) ∧ Q (.bl (decide (X < Y))) H
theorem ok_less (d : Df K mg "less" (top 30) ["a", "b"]) : Cl P w K mg base "less" ["a", "b"] 1 (spLess (K := K)) := by
  refine d.ok sc30 (fun vs H Q E h => ?_) (fun f cdv A outer s H vs Q E hr h => ?_)
  · obtain ⟨x, y, X, Y, rfl, _⟩ := h
    rfl
  · obtain ⟨x, y, X, Y, rfl, ⟨hx, hy⟩, ⟨bx, by'⟩, k⟩ := h
    refine ⟨_, pss_one (ps_ret (pe_cmpR op_lt (pe_op op_mulW (pe_ix ix_tup (pv 0) pe_int (fun _ _ => rfl)) (pe_ix ix_tup (pv 1) pe_int (fun _ _ => rfl)))
      (pe_op op_mulW (pe_ix ix_tup (pv 1) pe_int (fun _ _ => rfl)) (pe_ix ix_tup (pv 0) pe_int (fun _ _ => rfl))) (nomark _))), ?_⟩
    refine ⟨_, rfl, x, _, 0, _, rfl, rfl, hx, rfl, ?_⟩
    refine ⟨_, rfl, y, _, 1, _, rfl, rfl, hy, rfl, ?_⟩
    refine ⟨_, _, rfl, rfl, bits_mul bx.1 by'.d, ?_⟩
    refine ⟨_, rfl, y, _, 0, _, rfl, rfl, hy, rfl, ?_⟩
    refine ⟨_, rfl, x, _, 1, _, rfl, rfl, hx, rfl, ?_⟩
    refine ⟨_, _, rfl, rfl, bits_mul by'.1 bx.d, ?_⟩
    refine ⟨_, _, rfl, rfl, ?_⟩
    simp only [Rat.lt_iff] at k
    exact k
/-! sum_of -/
def sumL (l : List Rat) : Rat := l.foldl (· + ·) 0
theorem sumL_take {l : List Rat} {i : Nat} {x : Rat} (h : l[i]? = some x) : sumL (l.take (i + 1)) = sumL (l.take i) + x := by
  unfold sumL
  rw [List.take_add_one, h]
  simp
/-- the constants of the module -/
structure Kt (K : PySem.W.Frag) (mg : Str → Option Value) : Prop where
  nothing : ∃ a, mg "NOTHING_ratios" = some (.ref a) ∧ ∀ H, SqT K H a (frV 0)
  one : ∃ a, mg "ONE_ratios" = some (.ref a) ∧ ∀ H, SqT K H a (frV 1)
def FrL (K : PySem.W.Frag) (H : Hp) (rs : List Addr) (Xs : List Rat) : Prop := Paired (fun a X => SqT K H a (frV X)) rs Xs
theorem FrL.mono {H H' : Hp} {rs : List Addr} {Xs : List Rat} (s : Same H H') (h : FrL K H rs Xs) : FrL K H' rs Xs := Paired.mapP h fun _ _ z => Same.seqT s z
def spSum : Sp := fun vs H Q _ => ∃ (l : Addr) (rs : List Addr) (Xs : List Rat), vs = [.ref l] ∧ SqL K H l (rs.map V.ref) ∧ FrL K H rs Xs ∧ ((∀ i, Bd (sumL (Xs.take i))) ∧ ∀ X ∈ Xs, Bd X) ∧
  ∀ p H', Same H H' → SqT K H' p (frV (sumL Xs)) → Q (.ref p) H'
theorem sc31 : FnScope ["fractions", "total", "fraction"] ["fractions"] (defScope (top 31)) := ⟨rfl, rfl, rfl, by decide +kernel, rfl, by decide +kernel, by decide +kernel⟩
theorem ok_sum (KT : Kt K mg) (d : Df K mg "sum_of" (top 31) ["fractions"]) (cP : Cl P w K mg base "plus" ["a", "b"] 2 (sp2 (K := K) (· + ·))) : Cl P w K mg base "sum_of" ["fractions"] 3 (spSum (K := K)) := by
  refine d.ok sc31 (fun vs H Q E h => ?_) (fun f cdv A outer s H vs Q E hr h => ?_)
  · obtain ⟨l, rs, Xs, rfl, _⟩ := h
    rfl
  · obtain ⟨l, rs, Xs, rfl, hl, hX, ⟨b1, b2⟩, k⟩ := h
    obtain ⟨a0, g0, h0⟩ := KT.nothing
    refine ⟨_, pss_cons (ps_set (i := 1) sc31.nd rfl (.inl rfl) (pe_glob (v := .ref a0) (by rfl) g0 rfl))
      (pss_cons (ps_for PassesOwn.never rfl (pi_list (pv 0)) (pg_name (i := 2) sc31.nd rfl (.inl rfl)) (pss_one (ps_set (i := 1) sc31.nd rfl (.inl rfl) (pe_c cP hr (pa_cons (pv 1) (pa_cons (pv 2) pa_nil))))))
      (pss_one (ps_ret (pv 1)))), ?_⟩
    refine ⟨_, rfl, l, rfl, ⟨_, hl⟩, for_list (K := K) (a := l) (xs := rs.map V.ref) (fun i σ H2 => ∃ (p : Addr) (v : Option V), σ = [some (.ref l), some (.ref p), v] ∧ Same H H2 ∧ SqT K H2 p (frV (sumL (Xs.take i))))
      ⟨a0, none, rfl, Same.refl _, h0 _⟩ (fun i σ H2 _ ⟨_, _, _, s2, _⟩ => s2.seq hl) ?_ ?_⟩
    · rintro i y σ H2 hi ⟨p, v, rfl, s2, hp⟩
      rw [List.getElem?_map] at hi
      obtain ⟨r, hr', rfl⟩ := Option.map_eq_some_iff.mp hi
      obtain ⟨X, hx1, hx2⟩ := paired_get hX hr'
      refine ⟨_, rfl, _, rfl, p, r, _, X, rfl, ⟨hp, s2.seqT hx2⟩, ⟨b1 i, b2 X (List.mem_of_getElem? hx1)⟩, fun q hq => ?_⟩
      refine ⟨q, _, rfl, s2.trans (Same.new _ hq), ?_⟩
      rw [sumL_take hx1]
      exact SqT.of upd_same
    · rintro σ H2 ⟨p, v, rfl, s2, hp⟩
      have e : Xs.take (rs.map V.ref).length = Xs := by
        rw [List.length_map, hX.length, List.take_length]
      rw [e] at hp
      exact ⟨_, rfl, k p H2 s2 hp⟩
end
end Sam
end
section
set_option Elab.async false
set_option linter.all false
set_option maxRecDepth 100000
set_option maxHeartbeats 1000000
namespace Sam
open PySem PySem.Spec PyProof.Rows L2
/-! ### an instance's attributes by places -/
theorem zlook : ∀ {ns : List Str} {vs : List V} {i : Nat} {f : Str}, ns.Nodup → ns[i]? = some f → (ns.zip vs).lookup f = vs[i]?
  | [], vs, i, f, _, h => by simp at h
  | n :: ns, [], i, f, _, h => by simp
  | n :: ns, v :: vs, 0, f, _, h => by
    simp at h; subst h
    simp
  | n :: ns, v :: vs, i + 1, f, nd, h => by
    have h' : ns[i]? = some f := by simpa using h
    have hne : ¬ f = n := fun e => (List.nodup_cons.mp nd).1 (e ▸ List.mem_of_getElem? h')
    have e : (f == n) = false := by simpa using hne
    rw [List.zip_cons_cons, List.lookup_cons, e]
    simpa using zlook (List.nodup_cons.mp nd).2 h'
theorem zlook_none {ns : List Str} {f : Str} (h : f ∉ ns) : ∀ vs : List V, (ns.zip vs).lookup f = none := by
  induction ns with
  | nil => intro vs; rfl
  | cons n ns ih =>
    intro vs
    cases vs with
    | nil => rfl
    | cons v vs =>
      have hne : ¬ f = n := fun e => h (e ▸ List.mem_cons_self)
      have e : (f == n) = false := by simpa using hne
      rw [List.zip_cons_cons, List.lookup_cons, e]
      exact ih (fun z => h (List.mem_cons_of_mem _ z)) vs
theorem zput : ∀ {ns : List Str} {vs : List V} {i : Nat} {f : Str} {x : V}, ns.Nodup → ns[i]? = some f → i < vs.length → putF f x (ns.zip vs) = ns.zip (vs.set i x)
  | [], vs, i, f, x, _, h, _ => by simp at h
  | n :: ns, [], i, f, x, _, h, hl => by simp at hl
  | n :: ns, v :: vs, 0, f, x, _, h, _ => by
    simp at h; subst h
    simp [putF]
  | n :: ns, v :: vs, i + 1, f, x, nd, h, hl => by
    have h' : ns[i]? = some f := by simpa using h
    have hne : ¬ n = f := fun e => (List.nodup_cons.mp nd).1 (e ▸ List.mem_of_getElem? h')
    rw [List.zip_cons_cons, List.set_cons_succ, List.zip_cons_cons]
    show (if n = f then _ else (n, v) :: putF f x (ns.zip vs)) = _
    rw [if_neg hne, zput (List.nodup_cons.mp nd).2 h' (by simpa using hl)]
theorem zput_new : ∀ {ns : List Str} {vs : List V} {f : Str} {x : V}, ns.Nodup → ns[vs.length]? = some f → putF f x (ns.zip vs) = ns.zip (vs ++ [x])
  | [], vs, f, x, _, h => by simp at h
  | n :: ns, [], f, x, _, h => by
    simp at h; subst h
    simp [putF]
  | n :: ns, v :: vs, f, x, nd, h => by
    have h' : ns[vs.length]? = some f := by simpa using h
    have hne : ¬ n = f := fun e => (List.nodup_cons.mp nd).1 (e ▸ List.mem_of_getElem? h')
    rw [List.cons_append, List.zip_cons_cons, List.zip_cons_cons]
    show (if n = f then _ else (n, v) :: putF f x (ns.zip vs)) = _
    rw [if_neg hne, zput_new (List.nodup_cons.mp nd).2 h']
theorem zlen (ns : List Str) (vs : List V) (h : ns.length < 1000) : (ns.zip vs).length < 1000 := by
  rw [List.length_zip]; omega

/-! ### what a call changes: the objects at ms; G: what stands for ever -/
structure Ext (ms : List Addr) (G H G' H' : Hp) : Prop where
  gg : Same G G'
  gh : Same G' H'
  fr : ∀ a o, G' a = some o → G a = some o ∨ H a = none
  kp : ∀ b o, H b = some o → b ∉ ms → H' b = some o
  dm : ∀ b, H' b = none → H b = none
section
variable {ms ns : List Addr} {G H G' H' G2 H2 : Hp} {p m : Addr} {o : HO}
theorem Ext.refl (s : Same G H) : Ext ms G H G H := ⟨Same.refl _, s, fun _ _ e => .inl e, fun _ _ e _ => e, fun _ e => e⟩
theorem Ext.new (x : Ext ms G H G' H') (h : H' p = none) : Ext ms G H (upd G' p o) (upd H' p o) := by
  have hg : G' p = none := x.gh.free h
  refine ⟨x.gg.trans (Same.new _ hg), x.gh.updS _ _, fun a u e => ?_, fun b u e hb => ?_, fun b e => ?_⟩
  · by_cases q : a = p
    · subst q; exact .inr (x.dm _ h)
    · rw [upd_ne q] at e; exact x.fr a u e
  · have := x.kp b u e hb
    rw [upd_ne (ne_of_none this h)]; exact this
  · by_cases q : b = p
    · subst q; rw [upd_same] at e; cases e
    · rw [upd_ne q] at e; exact x.dm b e
theorem Ext.tmp (x : Ext ms G H G' H') (h : H' p = none) : Ext ms G H G' (upd H' p o) := by
  have hg : G' p = none := x.gh.free h
  refine ⟨x.gg, x.gh.mut _ hg, x.fr, fun b u e hb => ?_, fun b e => ?_⟩
  · have := x.kp b u e hb
    rw [upd_ne (ne_of_none this h)]; exact this
  · by_cases q : b = p
    · subst q; rw [upd_same] at e; cases e
    · rw [upd_ne q] at e; exact x.dm b e
theorem Ext.wr (x : Ext ms G H G' H') (hm : m ∈ ms ∨ H m = none) (hg : G' m = none) : Ext ms G H G' (upd H' m o) := by
  refine ⟨x.gg, x.gh.mut _ hg, x.fr, fun b u e hb => ?_, fun b e => ?_⟩
  · have := x.kp b u e hb
    have q : b ≠ m := by
      rintro rfl
      rcases hm with z | z
      · exact hb z
      · rw [z] at e; cases e
    rw [upd_ne q]; exact this
  · by_cases q : b = m
    · subst q; rw [upd_same] at e; cases e
    · rw [upd_ne q] at e; exact x.dm b e
/-- a thing of one's own is left as it is from now on -/
theorem Ext.frz (x : Ext ms G H G' H') (h : H m = none) (e : H' m = some o) (hg : G' m = none) : Ext ms G H (upd G' m o) H' := by
  refine ⟨x.gg.trans (Same.new _ hg), fun b u e' => ?_, fun a u e' => ?_, x.kp, x.dm⟩
  · by_cases q : b = m
    · subst q; rw [upd_same] at e'; rw [← e']; exact e
    · rw [upd_ne q] at e'; exact x.gh b u e'
  · by_cases q : a = m
    · subst q; exact .inr h
    · rw [upd_ne q] at e'; exact x.fr a u e'
theorem Ext.trans (x : Ext ms G H G' H') (y : Ext ns G' H' G2 H2) (h : ∀ b ∈ ns, b ∈ ms ∨ H b = none) : Ext ms G H G2 H2 := by
  refine ⟨x.gg.trans y.gg, y.gh, fun a u e => ?_, fun b u e hb => ?_, fun b e => x.dm b (y.dm b e)⟩
  · rcases y.fr a u e with z | z
    · exact x.fr a u z
    · exact .inr (x.dm a z)
  · refine y.kp b u (x.kp b u e hb) fun z => ?_
    rcases h b z with q | q
    · exact hb q
    · rw [q] at e; cases e
theorem Ext.mono (x : Ext ms G H G' H') (h : ∀ b ∈ ms, b ∈ ns) : Ext ns G H G' H' := ⟨x.gg, x.gh, x.fr, fun b u e hb => x.kp b u e fun z => hb (h b z), x.dm⟩
/-- what is not of G stays so -/
theorem Ext.out (x : Ext ms G H G' H') (hg : G m = none) (hh : H m = some o) : G' m = none := by
  cases e : G' m with
  | none => rfl
  | some u =>
    rcases x.fr m u e with z | z
    · rw [hg] at z; cases z
    · rw [hh] at z; cases z
theorem Ext.keep (x : Ext ms G H G' H') (h : H m = some o) (hn : m ∉ ms) : H' m = some o := x.kp m o h hn
end

/-! ### the explorer as an object -/
theorem exN_nd : exN.Nodup := by decide +kernel
/-- the class Explorer -/
structure ECl (K : PySem.W.Frag) (C : Addr) : Prop where
  cl : Cls K C
  na : ∀ f ∈ exN, NoAttr K C f
theorem ECl.n {K : PySem.W.Frag} {C : Addr} (c : ECl K C) (i : Nat) {f : Str} (h : exN[i]? = some f := by rfl) : NoAttr K C f := c.na f (List.mem_of_getElem? h)
abbrev intsV (ws : List Nat) : List V := ws.map fun (n : Nat) => V.int (n : Int)
def PickAt (G : Hp) (p : Addr) (q : Nat × List Nat) : Prop := ∃ a, G p = some (.tup [.int (q.1 : Int), .ref a]) ∧ G a = some (.lst (intsV q.2))
/-- the least common multiple of 1 to 24 -/
def LL : Nat := 5354228880
structure ChOk (x : ES) : Prop where
  at_ : x.at_ ≤ 20
  ln : x.path.length ≤ 20
  lo : 0 ≤ x.ch
  hi : x.ch ≤ 1
  dv : x.ch.den ∣ LL ^ x.at_
def exF (P : Addr) (x : ES) (c : Addr) (opn over : Bool) (many : Nat) (R : Addr) : List (Str × V) :=
  exN.zip [.ref P, .int (x.at_ : Int), .ref c, .bl opn, .bl over, .int (many : Int), .ref R]
structure ExAt (K : PySem.W.Frag) (C : Addr) (G H : Hp) (e dx P R : Addr) (x : ES) (opn over : Bool) (many : Nat) : Prop where
  ins : ∃ c, H e = some (.ins C dx (exF P x c opn over many R)) ∧ SqT K G c (frV x.ch)
  path : ∃ ps, H P = some (.lst (ps.map V.ref)) ∧ Paired (PickAt G) ps x.path
  ge : G e = none
  gp : G P = none
  ch : ChOk x
theorem PickAt.mono {G G' : Hp} {p : Addr} {q : Nat × List Nat} (s : Same G G') (h : PickAt G p q) : PickAt G' p q :=
  let ⟨a, h1, h2⟩ := h
  ⟨a, s _ _ h1, s _ _ h2⟩
theorem ExAt.ne {K : PySem.W.Frag} {C : Addr} {G H : Hp} {e dx P R : Addr} {x : ES} {opn over : Bool} {many : Nat} (h : ExAt K C G H e dx P R x opn over many) : e ≠ P := by
  obtain ⟨c, h1, _⟩ := h.ins
  obtain ⟨ps, h2, _⟩ := h.path
  exact ne_of h1 h2 (by intro z; cases z)
/-- it stands where nothing of it is changed -/
theorem ExAt.keep {K : PySem.W.Frag} {C : Addr} {G H G' H' : Hp} {e dx P R : Addr} {x : ES} {opn over : Bool} {many : Nat} {ms : List Addr} (h : ExAt K C G H e dx P R x opn over many) (E : Ext ms G H G' H') (h1 : e ∉ ms) (h2 : P ∉ ms) :
    ExAt K C G' H' e dx P R x opn over many := by
  obtain ⟨c, a1, a2⟩ := h.ins
  obtain ⟨ps, b1, b2⟩ := h.path
  exact ⟨⟨c, E.kp _ _ a1 h1, E.gg.seqT a2⟩, ⟨ps, E.kp _ _ b1 h2, Paired.mapP b2 fun _ _ z => z.mono E.gg⟩, E.out h.ge a1, E.out h.gp b1, h.ch⟩
end Sam
end
section
set_option Elab.async false
set_option linter.all false
set_option maxRecDepth 100000
set_option maxHeartbeats 1000000
namespace Sam
open PySem PySem.Spec PyProof.Rows L2
open C8 (pss_cut tCut call_isC InsC)
/-! ### one pick, as data -/
def posI (ws : List Nat) (i : Nat) : List Nat := (List.range i).filter fun j => decide (0 < ws.getD j 0)
theorem posI_succ (ws : List Nat) (i : Nat) : posI ws (i + 1) = posI ws i ++ (if 0 < ws.getD i 0 then [i] else []) := by
  unfold posI
  rw [List.range_succ, List.filter_append]
  congr 1
  by_cases h : 0 < ws.getD i 0
  · rw [if_pos h]; simp at h; simp [h]
  · rw [if_neg h]; simp at h; simp [h]
theorem posI_head (ws : List Nat) : (posI ws ws.length)[0]? = nxt ws 0 := by
  unfold posI nxt
  rw [List.drop_zero, ← List.head?_eq_getElem?, List.head?_filter]
theorem posI_len (ws : List Nat) (i : Nat) : (posI ws i).length ≤ i := by
  unfold posI
  have := List.length_filter_le (fun j => decide (0 < ws.getD j 0)) (List.range i)
  simpa using this
theorem LL_dvd24 : ∀ s : Fin 25, 0 < s.val → s.val ∣ LL := by decide +kernel
theorem LL_dvd (s : Nat) (h : 0 < s) (h' : s ≤ 24) : s ∣ LL := LL_dvd24 ⟨s, by omega⟩ h
theorem le_sum_mem : ∀ {l : List Nat} {x : Nat}, x ∈ l → x ≤ l.sum
  | y :: r, x, h => by
    rw [List.sum_cons]
    rcases List.mem_cons.mp h with rfl | h
    · omega
    · have := le_sum_mem h
      omega
theorem pr_le (ws : List Nat) (i : Nat) (h : 0 < ws.sum) : 0 ≤ pr ws i ∧ pr ws i ≤ 1 := by
  have hle : ws.getD i 0 ≤ ws.sum := by
    rw [List.getD_eq_getElem?_getD]
    cases e : ws[i]? with
    | none => simp
    | some x => exact le_sum_mem (List.mem_of_getElem? e)
  have hs : ((ws.sum : Nat) : Rat) > 0 := by
    have := Rat.natCast_lt_natCast.mpr h
    simpa using this
  have hn : ((ws.getD i 0 : Nat) : Rat) ≥ 0 := Rat.natCast_nonneg
  have hl : ((ws.getD i 0 : Nat) : Rat) ≤ ((ws.sum : Nat) : Rat) := Rat.natCast_le_natCast.mpr hle
  unfold pr
  generalize ((ws.getD i 0 : Nat) : Rat) = a at *
  generalize ((ws.sum : Nat) : Rat) = b at *
  have hb : b⁻¹ > 0 := Rat.inv_pos.mpr hs
  have h1 : b * b⁻¹ = 1 := Rat.mul_inv_cancel b (by grind)
  constructor
  · rw [Rat.div_def]; exact Rat.mul_nonneg hn (by grind)
  · have e : a / b = a * b⁻¹ := Rat.div_def a b
    have := Rat.mul_le_mul_of_nonneg_right hl (Rat.le_of_lt hb)
    grind
theorem pr_mk (ws : List Nat) (i : Nat) : mkRat ((ws.getD i 0 : Nat) : Int) ws.sum = pr ws i := by
  unfold pr
  rw [Rat.mkRat_eq_div]
  rfl
theorem den_mk {p : Int} {n : Nat} (h : 0 < n) : (mkRat p n).den ∣ n := by
  have e := (mkRat_parts (p := p) h).2
  have hg : Nat.gcd p.natAbs n ∣ n := Nat.gcd_dvd_right _ _
  have e' : (mkRat p n).den = n / Nat.gcd p.natAbs n := by
    apply Int.ofNat.inj
    show ((mkRat p n).den : Int) = _
    rw [e]; rfl
  rw [e']
  exact Nat.div_dvd_of_dvd hg
theorem den_mul (a b : Rat) : (a * b).den ∣ a.den * b.den := by
  rw [Rat.mul_def']
  exact den_mk (Nat.mul_pos a.den_pos b.den_pos)
theorem ChOk.pick {ws : List Nat} {x : ES} (h : ChOk x) (h0 : 0 < ws.sum) (h1 : ws.sum ≤ 24) (ha : x.at_ < 20) : ChOk (pickS ws x).2 := by
  unfold pickS
  simp only
  have p := pr_le ws
  refine ⟨by simp only; omega, ?_, ?_, ?_, ?_⟩
  · simp only
    split
    · rename_i e
      have := h.ln
      simp; omega
    · exact h.ln
  · exact Rat.mul_nonneg h.lo (p _ h0).1
  · have a := h.hi
    have b := h.lo
    have c := (p ((if x.at_ = x.path.length then x.path ++ [((nxt ws 0).getD 0, ws)] else x.path).getD x.at_ (0, [])).fst h0)
    simp only
    generalize pr ws _ = q at *
    have := Rat.mul_le_mul_of_nonneg_left c.2 b
    rw [Rat.mul_one] at this
    exact Rat.le_trans this a
  · simp only
    refine Nat.dvd_trans (den_mul _ _) ?_
    rw [Nat.pow_succ]
    refine Nat.mul_dvd_mul h.dv ?_
    rw [← pr_mk]
    exact Nat.dvd_trans (den_mk h0) (LL_dvd _ h0 h1)
theorem LLpow : LL ^ 20 < 2 ^ 2000 := by decide +kernel
theorem ChOk.bd {x : ES} (h : ChOk x) : Bd x.ch := by
  have d1 : x.ch.den ≤ LL ^ 20 := Nat.le_of_dvd (by decide +kernel) (Nat.dvd_trans h.dv (Nat.pow_dvd_pow _ h.at_))
  refine ⟨?_, Nat.lt_of_le_of_lt d1 LLpow⟩
  have h1 : x.ch.num ≤ (x.ch.den : Int) := by
    have := (Rat.le_iff _ _).mp h.hi
    simpa using this
  have h0 : 0 ≤ x.ch.num := Rat.num_nonneg.mpr h.lo
  have h2 := LLpow
  generalize 2 ^ 2000 = B at *
  generalize LL ^ 20 = C at *
  omega
theorem Bd_mk {p : Nat} {n : Nat} (h : 0 < n) (hp : p ≤ n) (hn : n < 2 ^ 2000) : Bd (mkRat (p : Int) n) := by
  have e := mkRat_parts (p := (p : Int)) h
  have d := Nat.le_of_dvd h (den_mk (p := (p : Int)) h)
  refine ⟨?_, by omega⟩
  rw [e.1]
  have : ((p : Int) / ((Nat.gcd (p : Int).natAbs n : Nat) : Int)) = ((p / Nat.gcd (p : Int).natAbs n : Nat) : Int) := by simp
  rw [this, Int.natAbs_natCast]
  exact Nat.lt_of_le_of_lt (Nat.div_le_self _ _) (by omega)

theorem paired_append {α β : Type} {F : α → β → Prop} : ∀ {a c : List α} {b d : List β}, Paired F a b → Paired F c d → Paired F (a ++ c) (b ++ d)
  | _, _, _, _, .nil, s => s
  | _, _, _, _, .cons r t, s => .cons r (paired_append t s)
theorem paired_get' {α β : Type} {F : α → β → Prop} : ∀ {a : List α} {b : List β} {i : Nat} {y : β}, Paired F a b → b[i]? = some y → ∃ x, a[i]? = some x ∧ F x y
  | _, _, i, y, .nil, h => by simp at h
  | _, _, 0, y, .cons r t, h => by
    simp at h; subst h
    exact ⟨_, rfl, r⟩
  | _, _, i + 1, y, .cons r t, h => by
    obtain ⟨x, h1, h2⟩ := paired_get' (i := i) t (by simpa using h)
    exact ⟨x, by simpa using h1, h2⟩

theorem pick_at {ws : List Nat} {x : ES} {o0 : Nat} (ho0 : nxt ws 0 = some o0) (hfit : x.at_ = x.path.length ∨ ∃ i, x.path[x.at_]? = some (i, ws) ∧ i < ws.length ∧ 0 < ws.getD i 0) :
    (if x.at_ = x.path.length then x.path ++ [((nxt ws 0).getD 0, ws)] else x.path)[x.at_]? = some ((pickS ws x).1, ws) ∧ (pickS ws x).1 < ws.length ∧ 0 < ws.getD (pickS ws x).1 0 := by
  obtain ⟨_, b1, b2, _⟩ := nxt_spec ho0
  by_cases eq : x.at_ = x.path.length
  · have e : (pickS ws x).1 = o0 := by
      unfold pickS
      simp [eq, ho0]
    rw [e, if_pos eq, eq, ho0]
    exact ⟨by simp, b1, b2⟩
  · rcases hfit with z | ⟨i, z1, z2, z3⟩
    · exact absurd z eq
    · have e : (pickS ws x).1 = i := by
        unfold pickS
        simp only
        rw [if_neg eq, List.getD_eq_getElem?_getD, z1]
        rfl
      rw [e, if_neg eq]
      exact ⟨z1, z2, z3⟩
theorem pick_eq (ws : List Nat) (x : ES) : (pickS ws x).2 = ⟨if x.at_ = x.path.length then x.path ++ [((nxt ws 0).getD 0, ws)] else x.path, x.at_ + 1, x.ch * pr ws (pickS ws x).1⟩ := rfl

/-! ### Explorer.pick -/
def spPick (K : PySem.W.Frag) (C : Addr) : Sp := fun vs H Q _ => ∃ (G : Hp) (e dx Pa R : Addr) (x : ES) (opn over : Bool) (many : Nat) (l : Addr) (ws : List Nat), vs = [.ref e, .ref l] ∧ Same G H ∧
  ExAt K C G H e dx Pa R x opn over many ∧ H l = some (.lst (intsV ws)) ∧ l ≠ Pa ∧ (0 < ws.sum ∧ ws.sum ≤ 24 ∧ ws.length ≤ 24) ∧ x.at_ < 20 ∧
  (x.at_ = x.path.length ∨ ∃ i, x.path[x.at_]? = some (i, ws) ∧ i < ws.length ∧ 0 < ws.getD i 0) ∧
  ∀ G' H', Ext [e, Pa] G H G' H' → ExAt K C G' H' e dx Pa R (pickS ws x).2 opn over many → Q (.int ((pickS ws x).1 : Int)) H'
section
variable {P : Program} {w : World} {K : PySem.W.Frag} {mg : Str → Option Value} {base : Heap} {C : Addr}
theorem sum_ints : ∀ ws : List Nat, (ws.map fun (n : Nat) => (n : Int)).sum = ((ws.sum : Nat) : Int)
  | [] => rfl
  | x :: r => by simp [sum_ints r]
theorem intsV_eq (ws : List Nat) : intsV ws = (ws.map fun (n : Nat) => (n : Int)).map V.int := by simp [intsV]
theorem intsV_at {ws : List Nat} {i : Nat} (h : i < ws.length) : (intsV ws)[i]? = some (.int ((ws.getD i 0 : Nat) : Int)) := by
  simp [intsV, h]
theorem scPick : FnScope ["self", "weights", "first", "number"] ["self", "weights"] (defScope sPick) := ⟨rfl, rfl, rfl, by decide +kernel, rfl, by decide +kernel, by decide +kernel⟩
theorem ok_pick (B : Bn mg) (cE : ECl K C) (d : Dm K C "pick" "Explorer.pick" sPick ["self", "weights"]) (cL : Cl P w K mg base "lowest" ["p", "q"] 1 spLowest)
    (cT : Cl P w K mg base "times" ["a", "b"] 2 (sp2 (K := K) (· * ·))) : Mt P w K mg base C "pick" ["self", "weights"] 3 (spPick K C) := by
  refine d.ok scPick (fun vs H Q E h => ?_) (fun f cdv A outer s H vs Q E hr h => ?_)
  · obtain ⟨G, e, dx, Pa, R, x, opn, over, many, l, ws, rfl, _⟩ := h
    rfl
  · obtain ⟨G, e, dx, Pa, R, x, opn, over, many, l, ws, rfl, hG, hE, hl0, nlP, ⟨hs0, hs1, hs2⟩, hat, hfit, k⟩ := h
    have nd := scPick.nd
    refine ⟨_, pss_cut (ps_if (pt_cmpR op_eq (pe_fld (pv 0) rfl) (pe_callB call_len_seq (by rfl) B.len PySem.boot_len (pa_cons (pe_fld (pv 0) rfl) pa_nil)) (nomark _))
        (pss_cons (ps_set (i := 2) nd rfl (.inl rfl) (pe_ix ix_list
          (pe_lc (own := [("number", 3)]) (g := gName 3) (by rfl) nd (pi_range1 rfl B.range (pa_cons (pe_callB call_len_seq (by rfl) B.len PySem.boot_len (pa_cons (pv 1) pa_nil)) pa_nil))
            (blkOk_by (own := [("number", 3)]) (N := ["self", "weights", "first", "number"]) (sc := defScope sPick) (by decide +kernel)) (fun _ _ _ _ _ => pg_name (i := 3) nd rfl (Or.inl rfl))
            (fun _ _ _ _ _ => pts_one (pt_cmpR op_gt (pe_ix (kx_list K) (pv 1) (pv 3) (fun _ _ => rfl)) pe_int (nomark _))) (fun _ _ _ _ _ => pv 3)) pe_int (fun _ _ => rfl)))
        (pss_one (ps_expr (pe_bm PySem.F.plainAttrs_list PySem.F.slot_list_append PySem.F.type_list_append mt_append (pe_fld (pv 0) rfl)
          (pa_cons (pe_tup (pa_cons (pv 2) (pa_cons (pe_callTy call_list_of (by rfl) B.list (by decide +kernel) (pa_cons (pv 1) pa_nil)) pa_nil))) pa_nil))))) pss_nil)
      (pss_cons (ps_set (i := 3) nd rfl (.inl rfl) (pe_ix ix_tup (pe_ix ix_list (pe_fld (pv 0) rfl) (pe_fld (pv 0) rfl) (fun _ _ => rfl)) pe_int (fun _ _ => rfl)))
      (pss_cons (ps_fldaug (pv 0) pe_int in_add)
      (pss_cons (ps_fld (pv 0) (pe_c cT hr (pa_cons (pe_fld (pv 0) rfl) (pa_cons (pe_c cL hr (pa_cons (pe_ix ix_list (pv 1) (pv 3) (fun _ _ => rfl))
          (pa_cons (pe_callB (cr_sum rfl) (by rfl) B.sum (by decide +kernel) (pa_cons (pv 1) pa_nil)) pa_nil))) pa_nil))) rfl)
      (pss_one (ps_ret (pv 3)))))), ?_⟩
    obtain ⟨c0, he, hc0⟩ := hE.ins
    obtain ⟨ps0, hP, hps⟩ := hE.path
    have neP := hE.ne
    have hl : SqL K H l (intsV ws) := SqL.of hl0
    have nle : l ≠ e := ne_of hl0 he (by intro z; cases z)
    have hlen : ps0.length = x.path.length := hps.length
    obtain ⟨o0, ho0⟩ := sum_pos_nxt hs0
    refine ⟨fun σ' H' => ∃ (G1 : Hp) (v2 v3 : Option V), σ' = [some (.ref e), some (.ref l), v2, v3] ∧ Ext [e, Pa] G H G1 H' ∧ H' e = some (.ins C dx (exF Pa x c0 opn over many R)) ∧
      ∃ ps, H' Pa = some (.lst (ps.map V.ref)) ∧ Paired (PickAt G1) ps (if x.at_ = x.path.length then x.path ++ [((nxt ws 0).getD 0, ws)] else x.path), ?_, ?_⟩
    · -- if self.at == len(self.path)
      refine ⟨_, rfl, e, C, dx, _, _, rfl, he, cE.cl, cE.n 1, zlook (i := 1) exN_nd rfl, ?_⟩
      refine ⟨_, rfl, e, C, dx, _, _, rfl, he, cE.cl, cE.n 0, zlook (i := 0) exN_nd rfl, Pa, _, rfl, .inl (SqL.of hP), rfl, _, rfl, ite2 (fun eq => ?_) (fun ne => ?_)⟩
      · have eq' : x.at_ = x.path.length := by
          have := V.int.inj (of_decide_eq_true eq)
          rw [List.length_map, hlen] at this
          omega
        -- first = [..][0]
        refine ⟨_, rfl, l, _, rfl, .inl hl, _, rfl, (by simp), (by simp; omega), fun D hD => lc_range (lo := 0) (n := ((intsV ws).length : Int).toNat) (fun i H2 => H2 = upd H D (.lst (intsV (posI ws i)))) (by rfl) ?_ ?_⟩
        · rintro i H2 hi rfl
          have hi' : i < ws.length := by simpa using hi
          have hl2 : SqL K (upd H D (.lst (intsV (posI ws i)))) l (intsV ws) := (Same.new _ hD).seq hl
          refine ⟨rfl, _, rfl, _, rfl, l, _, _, _, rfl, rfl, hl2, at_of (j := i) (by omega) (intsV_at hi'), ?_⟩
          refine ⟨_, _, rfl, rfl, _, rfl, ?_⟩
          rw [posI_succ]
          refine ite2 (fun hp => ?_) (fun hp => ?_)
          · have hp' : 0 < ws.getD i 0 := by
              have := of_decide_eq_true hp
              omega
            refine ⟨_, rfl, _, upd_same, ?_, ?_⟩
            · have := posI_len ws i
              rw [List.length_map]
              exact small1000 (by omega)
            · rw [upd_upd, if_pos hp']
              simp [intsV]
          · have hp' : ¬ 0 < ws.getD i 0 := fun z => hp (decide_eq_true (by omega))
            rw [if_neg hp', List.append_nil]
        · rintro H2 rfl
          have hn : ((intsV ws).length : Int).toNat = ws.length := by simp
          have hf : (intsV (posI ws ((intsV ws).length : Int).toNat))[0]? = some (.int (o0 : Int)) := by
            rw [hn, intsV, List.getElem?_map, posI_head, ho0]; rfl
          have X1 := (Ext.refl (ms := [e, Pa]) hG).tmp (o := .lst (intsV (posI ws ((intsV ws).length : Int).toNat))) hD
          have s1 := Same.new (.lst (intsV (posI ws ((intsV ws).length : Int).toNat))) hD
          have d1 : upd H D (.lst (intsV (posI ws ((intsV ws).length : Int).toNat))) D = some _ := upd_same
          generalize upd H D (.lst (intsV (posI ws ((intsV ws).length : Int).toNat))) = H1 at *
          refine ⟨D, _, _, _, rfl, rfl, SqL.of d1, atI_nat (j := 0) hf, ?_⟩
          -- self.path.append((first, list(weights)))
          refine ⟨_, rfl, e, C, dx, _, _, rfl, s1 _ _ he, cE.cl, cE.n 0, zlook (i := 0) exN_nd rfl, ?_⟩
          refine ⟨.inl ⟨rfl, _, SqL.of (s1 _ _ hP)⟩, _, rfl, _, rfl, l, _, rfl, .inl (s1.seq hl), fun wl hwl => ⟨(by show 2 ≤ sizeLine; decide), fun t ht => ?_⟩⟩
          have X2 := X1.new (o := .lst (intsV ws)) hwl
          have s2 := s1.trans (Same.new (.lst (intsV ws)) hwl)
          have d2 : upd H1 wl (.lst (intsV ws)) wl = some _ := upd_same
          generalize upd H1 wl (.lst (intsV ws)) = H2 at *
          have X3 := X2.new (o := .tup [.int (o0 : Int), .ref wl]) ht
          have s3 := s2.trans (Same.new (.tup [.int (o0 : Int), .ref wl]) ht)
          have d3 : upd H2 t (.tup [.int (o0 : Int), .ref wl]) t = some _ := upd_same
          have htw : wl ≠ t := ne_of_none d2 ht
          generalize upd H2 t (.tup [.int (o0 : Int), .ref wl]) = H3 at *
          have gP := X3.out hE.gp hP
          refine ⟨Pa, _, _, rfl, rfl, s3 _ _ hP, ?_, ?_⟩
          · rw [List.length_map, hlen]
            have := hE.ch.ln
            exact small1000 (by omega)
          · refine ⟨_, _, _, rfl, X3.wr (m := Pa) (.inl (by simp)) gP, ?_, ps0 ++ [t], ?_, ?_⟩
            · rw [upd_ne neP]; exact s3 _ _ he
            · rw [upd_same]; simp
            · rw [if_pos eq', ho0]
              refine paired_append (Paired.mapP hps fun _ _ z => z.mono (X3.gg)) (.cons ⟨wl, upd_same, ?_⟩ .nil)
              rw [upd_ne htw, upd_same]
      · have ne' : ¬ x.at_ = x.path.length := fun z => by
          apply ne
          rw [List.length_map, hlen, z]
          exact decide_eq_true rfl
        rw [if_neg ne']
        exact ⟨G, _, _, rfl, Ext.refl hG, he, ps0, hP, hps⟩
    · rintro σ' H' ⟨G1, v2, v3, rfl, X1, he1, ps, hP1, hp1⟩
      -- the entry of the path that is taken
      obtain ⟨hq, hn, hpos⟩ := pick_at ho0 hfit
      obtain ⟨pa, hpa, wl, ha1, ha2⟩ := paired_get' hp1 hq
      have hat' : (ps.map V.ref)[x.at_]? = some (.ref pa) := by rw [List.getElem?_map, hpa]; rfl
      -- number = self.path[self.at][0]
      refine ⟨_, rfl, e, C, dx, _, _, rfl, he1, cE.cl, cE.n 0, zlook (i := 0) exN_nd rfl, _, rfl, e, C, dx, _, _, rfl, he1, cE.cl, cE.n 1, zlook (i := 1) exN_nd rfl, Pa, _, _, _, rfl, rfl, SqL.of hP1, atI_nat hat',
        pa, _, _, _, rfl, rfl, SqT.of (X1.gh _ _ ha1), atI_nat (j := 0) rfl, ?_⟩
      -- self.at += 1
      refine ⟨_, rfl, e, C, dx, _, _, rfl, he1, cE.cl, cE.n 1, zlook (i := 1) exN_nd rfl, _, _, rfl, rfl, dx, _, he1, zlen _ _ (by decide), ?_⟩
      rw [show putF "at" (V.int ((x.at_ : Int) + 1)) (exF Pa x c0 opn over many R) = exN.zip _ from zput (i := 1) exN_nd rfl (by simp)]
      have ge1 := X1.out hE.ge he
      have X2 := X1.wr (m := e) (o := .ins C dx (exN.zip ([V.ref Pa, V.int (x.at_ : Int), V.ref c0, V.bl opn, V.bl over, V.int (many : Int), V.ref R].set 1 (V.int ((x.at_ : Int) + 1))))) (.inl (by simp)) ge1
      have he2 : upd H' e (.ins C dx (exN.zip ([V.ref Pa, V.int (x.at_ : Int), V.ref c0, V.bl opn, V.bl over, V.int (many : Int), V.ref R].set 1 (V.int ((x.at_ : Int) + 1))))) e = some _ := upd_same
      have hP2 : upd H' e (.ins C dx (exN.zip ([V.ref Pa, V.int (x.at_ : Int), V.ref c0, V.bl opn, V.bl over, V.int (many : Int), V.ref R].set 1 (V.int ((x.at_ : Int) + 1))))) Pa = some _ := (upd_ne neP.symm).trans hP1
      generalize upd H' e (.ins C dx (exN.zip ([V.ref Pa, V.int (x.at_ : Int), V.ref c0, V.bl opn, V.bl over, V.int (many : Int), V.ref R].set 1 (V.int ((x.at_ : Int) + 1))))) = H2 at *
      have hl2 : SqL K H2 l (intsV ws) := SqL.of (X2.kp _ _ hl0 (by simp [nle, nlP]))
      -- self.chance = times(self.chance, lowest(weights[number], sum(weights)))
      refine ⟨_, rfl, e, C, dx, _, _, rfl, he2, cE.cl, cE.n 2, zlook (i := 2) exN_nd rfl, ?_⟩
      refine ⟨_, rfl, _, rfl, l, _, _, _, rfl, rfl, hl2, atI_nat (intsV_at hn), ?_⟩
      refine ⟨_, rfl, l, _, rfl, (by rw [← intsV_eq]; exact hl2), ?_⟩
      rw [sum_ints]
      refine ⟨_, _, rfl, by omega, Nat.lt_of_lt_of_le (show ((ws.sum : Nat) : Int).natAbs < 2 ^ 5 by omega) (Nat.pow_le_pow_right (by decide) (by decide)), fun a ha => ?_⟩
      rw [Int.toNat_natCast, pr_mk]
      have X3 := X2.new (o := .tup (frV (pr ws (pickS ws x).1))) ha
      have s3 := Same.new (.tup (frV (pr ws (pickS ws x).1))) ha
      have d3 : upd H2 a (.tup (frV (pr ws (pickS ws x).1))) a = some _ := upd_same
      generalize upd H2 a (.tup (frV (pr ws (pickS ws x).1))) = H3 at *
      have bp : Bd (pr ws (pickS ws x).1) := by
        rw [← pr_mk]
        exact Bd_mk hs0 (by
          rw [List.getD_eq_getElem?_getD]
          exact le_sum_mem (by
            have := List.getElem?_eq_getElem hn
            rw [this]
            exact List.getElem_mem hn)) (Nat.lt_of_lt_of_le (show ws.sum < 2 ^ 5 by omega) (Nat.pow_le_pow_right (by decide) (by decide)))
      refine ⟨c0, a, _, _, rfl, ⟨s3.seqT (X2.gh.seqT (X2.gg.seqT hc0)), SqT.of d3⟩, ⟨hE.ch.bd, bp⟩, fun p hp => ?_⟩
      have X4 := X3.new (o := .tup (frV (x.ch * pr ws (pickS ws x).1))) hp
      have s4 := s3.trans (Same.new (.tup (frV (x.ch * pr ws (pickS ws x).1))) hp)
      have d4 : upd H3 p (.tup (frV (x.ch * pr ws (pickS ws x).1))) p = some _ := upd_same
      generalize hH4 : upd H3 p (.tup (frV (x.ch * pr ws (pickS ws x).1))) = H4 at *
      refine ⟨_, rfl, e, C, dx, _, rfl, s4 _ _ he2, cE.cl, cE.n 2, zlen _ _ (by decide), ?_⟩
      rw [zput (i := 2) exN_nd rfl (by simp)]
      have ge4 := X4.out hE.ge he
      have gP4 := X4.out hE.gp hP
      refine ⟨_, rfl, k _ _ (X4.wr (m := e) (.inl (by simp)) ge4) ?_⟩
      rw [pick_eq]
      refine ⟨⟨p, upd_same, SqT.of upd_same⟩, ⟨ps, (upd_ne neP.symm).trans (s4 _ _ hP2), Paired.mapP hp1 fun _ _ z => z.mono ((Same.new _ (X2.gh.free ha)).trans (Same.new _ (X3.gh.free hp)))⟩, ge4, gP4, hE.ch.pick hs0 hs1 hat⟩
end
end Sam
end
section
set_option Elab.async false
set_option linter.all false
set_option maxRecDepth 100000
set_option maxHeartbeats 2000000
namespace Sam
open PySem PySem.Spec PyProof.Rows L2
section
variable {X : Cx}
theorem args_min_d (a b : Value) : argsOk "min" ⟨[a], [(Str.ofString "default", b)]⟩ := by unfold argsOk; kernel_rfl
/-- min(xs, default = z) of an empty list -/
theorem min_default (hc : X.calm = true) : CallRK X (.builtin "min") ["default"] (fun xs zs H Q => ∃ a z, xs = [.ref a] ∧ zs = [z] ∧ SqL X.K H a [] ∧ Q z H) := by
  intro pins s σ H xs zs us ws Q I r rz h
  obtain ⟨a, z, rfl, rfl, hl, q⟩ := h
  obtain ⟨its, rv, hl, _⟩ := I.list hl
  cases rv
  rw [Vals.ref1 r]
  obtain ⟨u, rfl, ru⟩ := vals1 rz
  have hname : (toString "min" ++ toString ".loop" : String) = "min.loop" := by decide
  show wpAny _ _ (call (.builtin "min") [.ref a] [(Str.ofString "default", u)]) _ _ s
  refine wpAny_call (codeAny_call_builtin F.plain_min F.entry_min ?_)
  have hfin : wpAny (model X.prog X.w) X.A.in1 (Builtin.«min» ⟨[.ref a], [(Str.ofString "default", u)]⟩) (fun fin s' => match fin with
      | .done f => (match (Except.ok f : Result) with | .ok (.ret v) => EP X pins σ Q v s' | .ok _ => False | .error e => X.xe e s')
      | .again c' => c'.quiet = true ∧ codeAny (model X.prog X.w) X.A c' (fun r s' => match r with | .ok (.ret v) => EP X pins σ Q v s' | .ok _ => False | .error e => X.xe e s') s') X.xe s := by
    show wpAny _ X.A.in1 (Builtin.Builtins.bindParams "min" ["key", "default"] 0 ⟨[], [(Str.ofString "default", u)]⟩ >>= _) _ _ s
    refine wpAny_bind (wpAny_of_eq (show Builtin.Builtins.bindParams "min" ["key", "default"] 0 ⟨[], [(Str.ofString "default", u)]⟩ = pure [none, some u] by kernel_rfl) ?_)
    refine wpAny_bind (wpAny_pure ?_)
    refine wpAny_bind (wpAny_pyIter_list hl.isList ?_)
    refine wpAny_bind (wpAny_newObj_type ?_)
    rw [hname]
    refine wpAny_pure ⟨plainId_quiet F.plain_min_loop _, ?_⟩
    have hlI : (s.heap.push { cls := .type "list_iterator", data := .fields #[.ref a, .int 0 0] }).IsListIter s.heap.objs.size a 0 := ⟨_, Heap.get?_push_size _ rfl, rfl, rfl⟩
    have hll : (s.heap.push { cls := .type "list_iterator", data := .fields #[.ref a, .int 0 0] }).IsList a (([] : List Value).toArray) := hl.isList.push _
    have hk1 : ∀ b o, s.heap.get? b = some o → (s.heap.push { cls := .type "list_iterator", data := .fields #[.ref a, .int 0 0] }).get? b = some o := fun b o e => Heap.get?_push_of_some _ e
    generalize s.heap.push { cls := .type "list_iterator", data := .fields #[.ref a, .int 0 0] } = h1 at *
    have hk2 : ∀ b o, h1.get? b = some o → (h1.push { cls := .type "list", data := .seq #[] }).get? b = some o := fun b o e => Heap.get?_push_of_some _ e
    have hS : (h1.push { cls := .type "list", data := .seq #[] }).get? h1.objs.size = some { cls := .type "list", data := .seq #[] } := Heap.get?_push_size _ rfl
    have hlI2 : (h1.push { cls := .type "list", data := .seq #[] }).IsListIter s.heap.objs.size a 0 := by
      obtain ⟨o, e1, e2⟩ := hlI
      exact ⟨o, hk2 _ _ e1, e2⟩
    have hll2 : (h1.push { cls := .type "list", data := .seq #[] }).IsList a (([] : List Value).toArray) := hll.push _
    refine codeAny_builtin F.entry_min_loop ?_
    rw [Around.under_plainId F.plain_min_loop _]
    show wpAny _ X.A.in1 (seqItems? (.ref h1.objs.size) >>= _) _ _ _
    refine wpAny_bind (wpAny_seqItems hS rfl ?_)
    show wpAny _ X.A.in1 (tryCatch (pyNext (.ref s.heap.objs.size)) _ >>= _) _ _ _
    refine wpAny_bind (wpAny_tryCatch (wpAny_pyNext_list_end (I.ok.hd hc) hlI2 hll2 (by simp) fun h' he => ?_))
    have hold : ∀ b o, s.heap.get? b = some o → h'.get? b = some o := fun b o e => he b o (Nat.ne_of_lt (Heap.lt_size e)) (hk2 _ _ (hk1 _ _ e))
    refine wpAny_bind (m := rule _) (wpAny_rule ?_)
    exact wpAny_pure ⟨z, H, I.kept hold, ru, q⟩
  simp only [checkBuiltinCall, F.kind_min]
  cases hsig : Manifest.signature? "min" with
  | none => exact wpAny_pure hfin
  | some sig =>
    have ha := args_min_d (.ref a) u
    simp only [argsOk, hsig] at ha
    have h2 : Bind.checkArgs "min" sig ⟨[.ref a], [(Str.ofString "default", u)]⟩ = pure () := ha
    show wpAny _ X.A.in1 (Bind.checkArgs "min" sig ⟨[.ref a], [(Str.ofString "default", u)]⟩) _ _ s
    rw [h2]; exact wpAny_pure hfin

/-! ### sorted of things that read as data: the one stable sorted list -/
abbrev Zs := List (V × PyData)
abbrev srtD (zs : Zs) : Zs := zs.mergeSort (PySem.W.dataLe false Prod.snd)
structure ZOk (K : PySem.W.Frag) (H : Hp) (zs : Zs) : Prop where
  dp : ∀ z ∈ zs, Dp K H z.1 z.2
  alike : PySem.W.AllAlike (zs.map Prod.snd)
  sortable : PySem.W.Sortable (zs.map Prod.snd)
  ln : zs.length ≤ sizeLine
  depth : ∀ z ∈ zs, z.2.depth ≤ 16
theorem dpAll_of {K : PySem.W.Frag} {H : Hp} : ∀ {zs : Zs}, (∀ z ∈ zs, Dp K H z.1 z.2) → DpAll K H (zs.map Prod.fst) (zs.map Prod.snd)
  | [], _ => .nil
  | z :: r, h => .cons (h z List.mem_cons_self) (dpAll_of fun y hy => h y (List.mem_cons_of_mem _ hy))
theorem each_of {zs : Zs} : ∀ {us : List Value}, Vals (zs.map Prod.fst) us → PySem.W.EachIs (fun v (z : V × PyData) => RelV z.1 v) us zs := by
  induction zs with
  | nil => intro us h; cases h; exact .nil
  | cons z r ih =>
    intro us h
    cases h with
    | cons a b => exact .cons a (ih b)
theorem each_to {zs : Zs} : ∀ {us : List Value}, PySem.W.EachIs (fun v (z : V × PyData) => RelV z.1 v) us zs → Vals (zs.map Prod.fst) us := by
  induction zs with
  | nil => intro us h; cases h; exact .nil
  | cons z r ih =>
    intro us h
    cases h with
    | cons a b => exact .cons a (ih b)
theorem sorted_coll {pins : List (Addr × Obj)} {s : Shared} {σ : L2.St} {H : Hp} {a : Addr} {zs : Zs} {Q : VK} (hu : X.A.units + 64 < cLine) (I : Inv X pins σ H s) (Z : ZOk X.K H zs)
    (coll : ∀ (Q' : List Value → Shared → Prop), (∀ (h' : Heap) (tk : Nat) (us : List Value), (∀ b o, s.heap.get? b = some o → h'.get? b = some o) → Vals (zs.map Prod.fst) us → Q' us { s with heap := h', toks := tk }) → wpAny (model X.prog X.w) X.A.in1 (collect (.ref a)) Q' X.xe s)
    (q : ∀ p, H p = none → Q (.ref p) (upd H p (.lst ((srtD zs).map Prod.fst)))) : wpAny (model X.prog X.w) X.A (call (.builtin "sorted") [.ref a]) (EP X pins σ Q) X.xe s := by
  refine Calls.call_function_entry PyProof.Rows.kind_sorted PyProof.Rows.plain_sorted PyProof.Rows.entry_sorted (PyProof.Rows.args_sorted1 _) ?_
  unfold Builtin.«sorted»
  refine wpAny_bind (m := checkCount "sorted" 1 1 _) (wpAny_pure ?_)
  refine wpAny_bind (coll _ fun h' tk us hk rv => ?_)
  have hlen : us.length = zs.length := by rw [← rv.length, List.length_map]
  have I1 : Inv X pins σ H { s with heap := h', toks := tk } := I.kept hk
  refine wpAny_bind (wpAny_newList ?_ (by rw [hlen]; exact Z.ln))
  have hoL : (h'.push (seqObj "list" us.toArray 0)).get? h'.objs.size = some (seqObj "list" us.toArray 0) := Heap.get?_push_size _ rfl
  show wpAny _ _ _ _ _ { s with heap := h'.push (seqObj "list" us.toArray 0), toks := tk }
  obtain ⟨as, hr⟩ := Dp.readsAll I1 _ _ _ (dpAll_of Z.dp) rv
  have hold : ∀ b o, h'.get? b = some o → (PySem.W.sortingHeap (h'.push (seqObj "list" us.toArray 0)) h'.objs.size us).get? b = some o := fun b o e =>
    PySem.W.sortingHeap_old (Nat.ne_of_lt (Heap.lt_size e)) (Heap.get?_push_of_some _ e)
  have er : PySem.W.EachIs (fun v (z : V × PyData) => ∃ as, Reads (PySem.W.sortingHeap (h'.push (seqObj "list" us.toArray 0)) h'.objs.size us) v z.2 as) us zs :=
    (PySem.W.readsAll_each Prod.snd hr).mono fun _ _ ⟨as, r⟩ => ⟨as, PyProof.Rows.Reads.keeps hold r⟩
  have hS : PySem.W.SortsAt X.prog X.w X.A.in1.in1 { s with heap := PySem.W.sortingHeap (h'.push (seqObj "list" us.toArray 0)) h'.objs.size us, toks := tk } (PySem.W.dataKind (PySem.W.sortingHeap (h'.push (seqObj "list" us.toArray 0)) h'.objs.size us) (zs.map Prod.snd)) us :=
    PySem.W.SortsAt.data (s := { s with heap := PySem.W.sortingHeap (h'.push (seqObj "list" us.toArray 0)) h'.objs.size us, toks := tk }) (PySem.W.each_map (R := fun v d => ∃ as, Reads _ v d as) Prod.snd er) Z.alike Z.sortable fun d hd => by
      obtain ⟨z, hz, rfl⟩ := List.mem_map.mp hd
      have := Z.depth z hz
      show X.A.units + 1 + 1 + z.2.depth < cLine
      omega
  refine wpAny_bind (wpAny_holding (wpAny_call_entry PyProof.Rows.slot_list_sort ⟨_, hoL, rfl⟩ PyProof.Rows.entry_list_sort
    (PySem.W.list_sort_vals (s := { s with heap := h'.push (seqObj "list" us.toArray 0), toks := tk }) hoL hS (by rw [hlen]; exact Z.ln) ⟨_, rfl, ?_⟩) (PyProof.Rows.args_list_sort _)))
  have e1 := PySem.W.sortVals_data false (each_of rv) er Z.alike
  obtain ⟨c, hc⟩ := PyProof.Rows.sortedHeap_at (vs := us) (out := (PySem.W.sortVals (PySem.W.dataKind (PySem.W.sortingHeap (h'.push (seqObj "list" us.toArray 0)) h'.objs.size us) (zs.map Prod.snd)) false us us).toArray) hoL
  have hl2 : ((srtD zs).map Prod.fst).length ≤ sizeLine := by
    rw [List.length_map, List.length_mergeSort]; exact Z.ln
  refine wpAny_pure ⟨_, rfl, .ref h'.objs.size, upd H h'.objs.size (.lst ((srtD zs).map Prod.fst)), I1.laid (t' := tk) (fun b u e => ?_) (Nat.le_refl _)
    (show ObjOk X.prog X.w _ _ _ (.lst ((srtD zs).map Prod.fst)) from ⟨hl2, _, c, each_to e1, hc⟩), rfl, q _ (I1.hok.fresh (Nat.le_refl _))⟩
  have hb : b < h'.objs.size := Heap.lt_size e
  rw [PyProof.Rows.sortedHeap_old (Nat.ne_of_lt hb) (by rw [size_push']; exact Nat.lt_succ_of_lt hb)]
  exact Heap.get?_push_of_some _ e
/-- sorted of a list or a tuple -/
def rSortD (K : PySem.W.Frag) : List V → Hp → VK → Prop := fun vs H Q => ∃ (a : Addr) (zs : Zs), vs = [.ref a] ∧ (SqL K H a (zs.map Prod.fst) ∨ SqT K H a (zs.map Prod.fst)) ∧ ZOk K H zs ∧ ∀ p, H p = none → Q (.ref p) (upd H p (.lst ((srtD zs).map Prod.fst)))
theorem call_sortedSeq (hu : X.A.units + 64 < cLine) : CallR X (.builtin "sorted") (rSortD X.K) := by
  intro pins s σ H xs us Q I r h
  obtain ⟨a, zs, rfl, hs, Z, q⟩ := h
  obtain ⟨u, rfl, rx⟩ := vals1 r
  cases rx
  refine sorted_coll hu I Z (fun Q' hq => ?_) q
  rcases hs with hs | hs
  · obtain ⟨its, rv, hl, hz⟩ := I.list hs
    obtain ⟨o, ho, hc, n, hdat⟩ := hl.isList
    refine wpAny_collect_seq a (.inl rfl) ho hc hdat (fun h' hk => ?_) (by simp; rw [← rv.length]; exact hz)
    exact hq h' s.toks its hk rv
  · obtain ⟨its, rv, ⟨o, ho, hc, n, hdat⟩, hz⟩ := I.tuple hs
    refine wpAny_collect_seq a (.inr rfl) ho hc hdat (fun h' hk => ?_) (by simp; rw [← rv.length]; exact hz)
    exact hq h' s.toks its hk rv
theorem kc_sorted (K : PySem.W.Frag) (hu : X.A.units + 64 < cLine) (h : X.K = K := by rfl) : CallR X (.builtin "sorted") (rSortD K) := by subst h; exact call_sortedSeq hu
/-- sorted(d) of a dict with keys ints or texts -/
def rSortK (K : PySem.W.Frag) : List V → Hp → VK → Prop := fun vs H Q => ∃ (a : Addr) (kvs : List (Key × V)) (zs : Zs), vs = [.ref a] ∧ Rd H a (.dK kvs) ∧ zs.map Prod.fst = kvs.map (fun kv => kV kv.1) ∧ ZOk K H zs ∧ ∀ p, H p = none → Q (.ref p) (upd H p (.lst ((srtD zs).map Prod.fst)))
theorem call_sortedDK (hc : X.calm = true) (hu : X.A.units + 64 < cLine) : CallR X (.builtin "sorted") (rSortK X.K) := by
  intro pins s σ H xs us Q I r h
  obtain ⟨a, kvs, zs, rfl, hd, hz, Z, q⟩ := h
  obtain ⟨u, rfl, rx⟩ := vals1 r
  cases rx
  refine sorted_coll hu I Z (fun Q' hq => ?_) q
  obtain ⟨z, lo, vs, rel, dd⟩ := dk_rd I.hok hd
  obtain ⟨ep, hat⟩ := dd.dictAt
  have hl : kvs.length = vs.length := rel.length
  refine PySem.W.kdu_collect (A := X.A.in1) (PySem.W.kdl_dict (knd := mixKind X.prog X.w) (kvs := vs) (ep := ep) lo) (I.ok.hd hc) hat (by rw [← hl]; exact z) fun h' tk acc hk hacc => ?_
  refine hq h' tk acc.toList hk ?_
  rw [hz]
  refine vals_of_at ?_ fun j x v e1 e2 => ?_
  · have e1 := hacc.1
    have e2 : acc.toList.length = acc.size := by simp
    rw [List.length_map, e2, e1]; exact hl
  · obtain ⟨k, x', e3, e4⟩ := hacc.2 j v (by rw [← Array.getElem?_toList]; exact e2)
    rw [List.getElem?_map] at e1
    obtain ⟨kv, e5, rfl⟩ := Option.map_eq_some_iff.mp e1
    obtain ⟨u', e6, _⟩ := kv_get rel e5
    rw [e3] at e6
    cases e6
    exact keyIs_rel e4
end
end Sam
end
section
set_option Elab.async false
set_option linter.all false
set_option maxRecDepth 100000
set_option maxHeartbeats 2000000
namespace Sam
open PySem PySem.Spec PyProof.Rows L2
open PySem.W (Frag nsIn ownIn alongIn findIn typeIn specialIn takesIn clsIn mroIn findObj hasDictIn plainGet keepIn isFn isClsIn subIn instIn makesIn plainOver takerIn kitCls kitOne)
/-! ### a class whose object may get its name written into a slot -/
def OR : Option Obj → Option Obj → Prop
  | none, none => True
  | some a, some b => a.cls = b.cls ∧ a.dict = b.dict ∧ a.data = b.data ∧ a.slots.toList[4]? = b.slots.toList[4]?
  | _, _ => False
/-- the same but for slots (the fifth one stays) -/
def KR (K K' : Frag) : Prop := ∀ a, OR (K.lookup a) (K'.lookup a)
theorem OR.cases {x y : Option Obj} (h : OR x y) : (x = none ∧ y = none) ∨ ∃ c d data sl sl', x = some ⟨c, d, data, sl⟩ ∧ y = some ⟨c, d, data, sl'⟩ ∧ sl.toList[4]? = sl'.toList[4]? := by
  cases x with
  | none => cases y with
    | none => exact .inl ⟨rfl, rfl⟩
    | some b => exact False.elim h
  | some a => cases y with
    | none => exact False.elim h
    | some b =>
      obtain ⟨h1, h2, h3, h4⟩ := h
      cases a
      cases b
      simp only at h1 h2 h3 h4
      subst h1 h2 h3
      exact .inr ⟨_, _, _, _, _, rfl, rfl, h4⟩
section
variable {K K' : Frag} (r : KR K K')
include r
theorem KR.ns (ns : Addr) (name : Str) : nsIn K ns name = nsIn K' ns name := by
  unfold nsIn
  rcases (r ns).cases with ⟨e, e'⟩ | ⟨c, d, data, sl, sl', e, e', _⟩ <;> rw [e, e']
  cases data <;> rfl
theorem KR.own (name : Str) (v : Value) : ownIn K name v = ownIn K' name v := by
  cases v with
  | ref a =>
    show (match K.lookup a with | some ⟨_, _, .cls cd, _⟩ => nsIn K cd.ns name | _ => none) = (match K'.lookup a with | some ⟨_, _, .cls cd, _⟩ => nsIn K' cd.ns name | _ => none)
    rcases (r a).cases with ⟨e, e'⟩ | ⟨c, d, data, sl, sl', e, e', _⟩ <;> rw [e, e']
    cases data <;> first | rfl | exact r.ns _ _
  | _ => rfl
theorem KR.along (name : Str) : ∀ l : List Value, alongIn K name l = alongIn K' name l
  | [] => rfl
  | c :: t => by
    unfold alongIn
    rw [r.own, KR.along name t]
theorem KR.find (v : Value) (name : Str) : findIn K v name = findIn K' v name := by
  cases v with
  | ref a =>
    show (match K.lookup a with | some ⟨_, _, .cls cd, _⟩ => alongIn K name cd.mro | _ => none) = (match K'.lookup a with | some ⟨_, _, .cls cd, _⟩ => alongIn K' name cd.mro | _ => none)
    rcases (r a).cases with ⟨e, e'⟩ | ⟨c, d, data, sl, sl', e, e', _⟩ <;> rw [e, e']
    cases data <;> first | rfl | exact r.along _ _
  | _ => rfl
theorem KR.type (v : Value) : typeIn K v = typeIn K' v := by
  cases v with
  | ref a =>
    show (K.lookup a).map (·.cls) = (K'.lookup a).map (·.cls)
    rcases (r a).cases with ⟨e, e'⟩ | ⟨c, d, data, sl, sl', e, e', _⟩ <;> rw [e, e'] <;> rfl
  | _ => rfl
theorem KR.special (v : Value) (name : Str) : specialIn K v name = specialIn K' v name := by
  unfold specialIn
  rw [r.type]
  cases typeIn K' v with
  | none => rfl
  | some t => exact r.find _ _
theorem KR.takes (v : Value) : takesIn K v = takesIn K' v := by
  unfold takesIn
  rw [r.special, r.special]
theorem KR.cls (C : Addr) : clsIn K C = clsIn K' C := by
  unfold clsIn
  rcases (r C).cases with ⟨e, e'⟩ | ⟨c, d, data, sl, sl', e, e', _⟩ <;> rw [e, e']
  cases data <;> rfl
theorem KR.mro (C : Addr) (b : Value) : mroIn K C b = mroIn K' C b := by
  unfold mroIn
  rw [r.cls]
theorem KR.hasDict (C : Addr) : hasDictIn K C = hasDictIn K' C := by
  unfold hasDictIn
  rw [r.cls]
theorem KR.plainGet (C : Addr) (x : Str) : PySem.W.plainGet K C x = PySem.W.plainGet K' C x := by
  unfold PySem.W.plainGet
  rw [r.find, r.find]
theorem KR.keep (v : Value) : keepIn K v = keepIn K' v := by
  cases v with
  | ref a =>
    show (match K.lookup a with | some ⟨_, _, .func _, _⟩ => true | some ⟨_, _, .cls _, _⟩ => specialIn K (.ref a) "__call__" == some (some (Value.builtin "type.__call__")) | _ => false) = (match K'.lookup a with | some ⟨_, _, .func _, _⟩ => true | some ⟨_, _, .cls _, _⟩ => specialIn K' (.ref a) "__call__" == some (some (Value.builtin "type.__call__")) | _ => false)
    rw [r.special]
    rcases (r a).cases with ⟨e, e'⟩ | ⟨c, d, data, sl, sl', e, e', _⟩ <;> rw [e, e']
    cases data <;> rfl
  | _ => rfl
theorem KR.isFn (v : Value) : PySem.W.isFn K v = PySem.W.isFn K' v := by
  unfold PySem.W.isFn
  rw [r.type]
theorem KR.isCls (C : Addr) : isClsIn K C = isClsIn K' C := by
  unfold isClsIn
  rw [r.cls]
theorem KR.sub (t b : Value) : subIn K t b = subIn K' t b := by
  cases t with
  | ref C => exact r.mro C b
  | _ => rfl
theorem KR.inst (v b : Value) : instIn K v b = instIn K' v b := by
  unfold instIn
  rw [r.type]
  cases typeIn K' v with
  | none => rfl
  | some t => exact r.sub _ _
theorem KR.makes (C : Addr) : makesIn K C = makesIn K' C := by
  unfold makesIn
  rw [r.special, r.inst]
  rcases (r C).cases with ⟨e, e'⟩ | ⟨c, d, data, sl, sl', e, e', h4⟩ <;> rw [e, e']
  cases data <;> first | rfl | (simp only [h4])
theorem KR.over (C : Addr) : plainOver K C = plainOver K' C := by
  unfold plainOver
  rw [r.cls]
theorem KR.taker (C : Addr) (x : Str) : takerIn K C x = takerIn K' C x := by
  unfold takerIn
  rw [r.find]
  cases findIn K' (.ref C) x with
  | none => rfl
  | some a => cases a with
    | none => rfl
    | some a =>
      show (takesIn K a).map _ = (takesIn K' a).map _
      rw [r.takes]
theorem KR.kitc (t c : Value) : kitCls K t c = kitCls K' t c := by
  cases c with
  | ref C =>
    show (if ((clsIn K C).isSome && typeIn K (.ref C) == some (.type "type")) = true then subIn K t (.ref C) else none) = (if ((clsIn K' C).isSome && typeIn K' (.ref C) == some (.type "type")) = true then subIn K' t (.ref C) else none)
    rw [r.cls, r.type, r.sub]
  | type T =>
    show (if PySem.W.kitMeta T = true then subIn K t (.type T) else none) = (if PySem.W.kitMeta T = true then subIn K' t (.type T) else none)
    rw [r.sub]
  | _ => rfl
theorem KR.kit (t c : Value) : kitOne K t c = kitOne K' t c := by
  unfold kitOne
  rw [r.kitc]
theorem KR.clsOk {C : Addr} (c : Cls K' C) : Cls K C := ⟨by rw [r.plainGet]; exact c.pg, by rw [r.hasDict]; exact c.hd, by rw [r.over]; exact c.po, by rw [r.find]; exact c.sa⟩
theorem KR.noAttr {C : Addr} {f : Str} (c : NoAttr K' C f) : NoAttr K C f := (r.find _ _).trans c
theorem KR.meth {C f : Addr} {m : Str} (c : Meth K' C m f) : Meth K C m f := ⟨(r.find _ _).trans c.at_, (r.isFn _).trans c.fn, (r.keep _).trans c.kp⟩
theorem KR.mk {C f : Addr} (c : Mk K' C f) : Mk K C f := ⟨(r.makes _).trans c.makes, (r.find _ _).trans c.init, (r.isFn _).trans c.fn, (r.keep _).trans c.kp⟩
end
end Sam
end
section
set_option Elab.async false
set_option linter.all false
set_option maxRecDepth 100000
set_option maxHeartbeats 2000000
namespace Sam
open PySem PySem.Spec PyProof.Rows L2
open PySem.W (Frag nsIn ownIn alongIn findIn typeIn specialIn takesIn clsIn mroIn findObj hasDictIn plainGet keepIn isFn isClsIn subIn instIn makesIn plainOver takerIn kitCls kitOne)
/-! ### the class at C, whose object o may get its name into the third slot -/
def clsO (C : Addr) (o : Obj) (nm : Str) : HO := .ext fun h => h.get? C = some o ∧ ∃ t, slot2 o.slots = some (.str nm t)
/-- the written part with that class -/
theorem KR_cls {K : Frag} {C : Addr} {o : Obj} {sl : Array (Option Value)} (h4 : sl.toList[4]? = o.slots.toList[4]?) : KR (KC K C { o with slots := sl }) (KC K C o) := fun a => by
  by_cases e : a = C
  · subst e
    simp [List.lookup, OR, h4]
  · have e' : (a == C) = false := by simpa using e
    simp only [List.lookup, e']
    cases K.lookup a with
    | none => trivial
    | some o => exact ⟨rfl, rfl, rfl, rfl⟩
section
variable {X : Cx} {pins : List (Addr × Obj)} {σ : L2.St} {H : Hp} {s : Shared} {C : Addr} {o : Obj} {nm : Str}
/-- the class as it stands now -/
theorem cls_now (I : L2.Inv X pins σ H s) (h : H C = some (clsO C o nm)) : ∃ sl : Array (Option Value), s.heap.get? C = some { o with slots := sl } ∧ (KC X.K C { o with slots := sl }).In s.heap ∧ KR (KC X.K C { o with slots := sl }) (KC X.K C o) ∧
    sl.toList[4]? = o.slots.toList[4]? ∧ ∀ v, slot2 sl = some v → ∃ t, v = .str nm t := by
  obtain ⟨⟨h1, t, ht⟩, _⟩ := (show ObjOk X.prog X.w H s.heap C (clsO C o nm) from I.hok C _ h)
  refine ⟨o.slots, h1, fun a u e => ?_, KR_cls rfl, rfl, fun v hv => ⟨t, by rw [ht] at hv; exact (Option.some.inj hv).symm⟩⟩
  by_cases q : a = C
  · subst q
    simp [List.lookup] at e
    rw [h1]
    exact congrArg some e
  · have q' : (a == C) = false := by simpa using q
    simp only [KC, List.lookup, q'] at e
    exact I.kIn a u e
theorem cls_slot (I : L2.Inv X pins σ H s) (h : H C = some (clsO C o nm)) : s.heap.get? C = some o ∧ ∃ t, slot2 o.slots = some (.str nm t) := by
  obtain ⟨q, _⟩ := (show ObjOk X.prog X.w H s.heap C (clsO C o nm) from I.hok C _ h)
  exact q
end
/-- e.f of an instance of such a class -/
def tFldS (K : Frag) (ta : TE) (f : Str) : TE := fun σ H Q => ta σ H fun x H1 => ∃ a C o nm dx fs v, x = .ref a ∧ H1 a = some (.ins C dx fs) ∧ H1 C = some (clsO C o nm) ∧ Cls (KC K C o) C ∧ NoAttr (KC K C o) C f ∧ fs.lookup f = some v ∧ Q v H1
def sFldS (K : Frag) (ta tv : TE) (f : Str) : TS := fun D σ H => tv σ H fun y H1 => ta σ H1 fun x H2 => ∃ a C o nm dx fs, x = .ref a ∧ H2 a = some (.ins C dx fs) ∧ H2 C = some (clsO C o nm) ∧ Cls (KC K C o) C ∧ NoAttr (KC K C o) C f ∧ fs.length < 1000 ∧
  D.nx σ (upd H2 a (.ins C dx (putF f y fs)))
/-- a method of such a class -/
structure MtS (P : Program) (w : World) (K : Frag) (mg : Str → Option Value) (base : Heap) (C : Addr) (o : Obj) (m : Str) (ps : List Str) (k : Nat) (sp : Sp) : Prop where
  ex : ∃ f fd, Meth (KC K C o) C m f ∧ keepIn K (.ref f) = true ∧ Binds K fd ps [] ∧ FnOk P w K mg base CX0 k f fd ps sp
structure DmS (K : Frag) (C : Addr) (o : Obj) (m q : Str) (st : Stmt) (ps : List Str) : Prop where
  ex : ∃ f fd, Fun K m q st f fd ∧ Meth (KC K C o) C m f ∧ Binds K fd ps []
structure DcS (K : Frag) (C : Addr) (o : Obj) (q : Str) (st : Stmt) (ps : List Str) : Prop where
  ex : ∃ f fd, Fun K "__init__" q st f fd ∧ Mk (KC K C o) C f ∧ Binds K fd ps []
structure CtS (P : Program) (w : World) (K : Frag) (mg : Str → Option Value) (base : Heap) (C : Addr) (o : Obj) (ps : List Str) (k : Nat) (sp : Sp) : Prop where
  ex : ∃ f fd, Mk (KC K C o) C f ∧ Binds K fd ps [] ∧ FnOk P w K mg base CX0 k f fd ps sp
section
variable {P : Program} {w : World} {K : Frag} {mg : Str → Option Value} {base : Heap}
theorem DmS.ok {C : Addr} {o : Obj} {m q : Str} {st : Stmt} {N ps : List Str} {k : Nat} {sp : Sp} (d : DmS K C o m q st ps) (S : FnScope N ps (defScope st)) (len : ∀ vs H Q E, sp vs H Q E → vs.length = ps.length)
    (hbody : ∀ (f : Addr) (cdv : Value) (A : Around) (outer : List Env) (s : Shared) (H : Hp) (vs : List V) (Q : VK) (E : XK), Room k (A.deeper (envOfC q (defScope st) s.heap.objs.size f cdv)) → sp vs H Q E →
      ∃ t, PSs (cxOf CX0 P w K mg base N q (defScope st) f cdv A outer s H E).nox (defBody st) t ∧ t { nx := fun _ H' => Q .non H', rt := Q } (start N vs) H) : MtS P w K mg base C o m ps (k + 1) sp := by
  obtain ⟨f, fd, F, hm, hb⟩ := d.ex
  exact ⟨f, fd, hm, F.kp, hb, F.ok S len (hbody f)⟩
theorem DcS.ok {C : Addr} {o : Obj} {q : Str} {st : Stmt} {N ps : List Str} {k : Nat} {sp : Sp} (d : DcS K C o q st ps) (S : FnScope N ps (defScope st)) (len : ∀ vs H Q E, sp vs H Q E → vs.length = ps.length)
    (hbody : ∀ (f : Addr) (cdv : Value) (A : Around) (outer : List Env) (s : Shared) (H : Hp) (vs : List V) (Q : VK) (E : XK), Room k (A.deeper (envOfC q (defScope st) s.heap.objs.size f cdv)) → sp vs H Q E →
      ∃ t, PSs (cxOf CX0 P w K mg base N q (defScope st) f cdv A outer s H E).nox (defBody st) t ∧ t { nx := fun _ H' => Q .non H', rt := Q } (start N vs) H) : CtS P w K mg base C o ps (k + 1) sp := by
  obtain ⟨f, fd, F, hm, hb⟩ := d.ex
  exact ⟨f, fd, hm, hb, F.ok S len (hbody f)⟩
end
section
variable {X : Cx} {pins : List (Addr × Obj)} {σ : L2.St} {H : Hp} {s : Shared} {a C dx : Addr} {o : Obj} {nm : Str} {fs : List (Str × V)} {f : Str} {v : V} {A : Around} {E : Value → Shared → Prop}
theorem getattrS {b : Bool} {Q : Value → Shared → Prop} (I : L2.Inv X pins σ H s) (e : H a = some (.ins C dx fs)) (hC : H C = some (clsO C o nm)) (c : Cls (KC X.K C o) C) (n : NoAttr (KC X.K C o) C f) (l : fs.lookup f = some v)
    (h : ∀ u s', L2.Inv X pins σ H s' → RelV v u → Q u s') : wpAny (model X.prog X.w) A (getAttr (.ref a) f b) Q E s := by
  obtain ⟨sl, _, hin, r, _⟩ := cls_now I hC
  obtain ⟨mA, O, rr, _, _, _⟩ := ins_get I.hok e
  obtain ⟨u, hu, ru⟩ := RelO.some_of (v := v) (o := mA f) (by rw [← l]; exact rr f)
  exact get_map hin O ((r.clsOk c).get f) (r.clsOk c).hd (r.noAttr n) hu (handed_of ru) (h u _ (I.tok _) ru)
theorem getmethS {m : Str} {g : Addr} {pl : Sem Bool} {Q : Value × List Value → Shared → Prop} (I : L2.Inv X pins σ H s) (e : H a = some (.ins C dx fs)) (hC : H C = some (clsO C o nm)) (c : Cls (KC X.K C o) C) (k : Meth (KC X.K C o) C m g) (l : fs.lookup m = none)
    (h : Q (.ref g, [.ref a]) s) : wpAny (model X.prog X.w) A (getMethod (.ref a) m pl) Q E s := by
  obtain ⟨sl, _, hin, r, _⟩ := cls_now I hC
  obtain ⟨mA, O, rr, _, _, _⟩ := ins_get I.hok e
  have hn : mA m = none := RelO.none_of (by rw [← l]; exact rr m)
  exact get_meth hin O ((r.clsOk c).get m) (r.meth k).at_ (r.meth k).fn hn h
theorem setattrS {y : V} {u : Value} {Q : Unit → Shared → Prop} (I : L2.Inv X pins σ H s) (e : H a = some (.ins C dx fs)) (hC : H C = some (clsO C o nm)) (c : Cls (KC X.K C o) C) (n : NoAttr (KC X.K C o) C f) (hl : fs.length < 1000) (ry : RelV y u)
    (h : ∀ s', L2.Inv X pins σ (upd H a (.ins C dx (putF f y fs))) s' → Q () s') : wpAny (model X.prog X.w) A (setAttr (.ref a) f u) Q E s := by
  obtain ⟨sl, _, hin, r', _⟩ := cls_now I hC
  obtain ⟨mA, O, r, wi, _, ho⟩ := ins_get I.hok e
  have hz : (fs.map (·.1)).length ≤ sizeLine := by rw [List.length_map, sizeLine_eq]; omega
  refine set_map hin O (r'.clsOk c).sa (r'.clsOk c).po (r'.noAttr n).taker (r'.clsOk c).hd wi hz fun h' O' sb => h _ ?_
  have hd : ∃ o, h'.get? dx = some o := let ⟨o, _, _, e', _⟩ := O'.ns; ⟨o, e'⟩
  refine I.write (x := a) (e := dx) (by rw [e]; exact True.intro) (.inr ho) (fun b q hb z => (sb.2 b hb).trans z) hd ?_
  refine ⟨by rw [upd_ne O.ne]; exact ho, ?_, O.ne, O'.obj, _, O'.ns, fun g => ?_, fun g hg => ?_⟩
  · have := length_putF f y fs; omega
  · show RelO ((putF f y fs).lookup g) (if g = f then some u else mA g)
    rw [lookup_putF]
    by_cases q : g = f
    · rw [if_pos q, if_pos q]; exact ry
    · rw [if_neg q, if_neg q]; exact r g
  · by_cases q : g = f
    · rw [q]; exact (keys_putF f y fs).1
    · refine (keys_putF f y fs).2 g (wi g fun z => hg ?_)
      show (if g = f then some u else mA g) = none
      rw [if_neg q]; exact z
end
section
variable {X : Cx} {e o value : Expr} {es : List Expr} {f m x : Str} {pos pos' apos p : Pos} {ta tv : TE} {t : TA} {C : Addr} {co : Obj} {nm : Str} {ps : List Str} {k j i : Nat} {sp : Sp}
theorem ps_f (K : Frag) (he : PE X e ta) (hb : attributeBase e f X.env (eval e X.env) = eval e X.env := by rfl) (hK : X.K = K := by rfl) : PE X (.Attribute e f pos) (tFldS K ta f) := by
  subst hK
  refine ⟨fun pins s σ H Q I h => ?_⟩
  refine attr_of hb (thn (he.run pins s σ H _ I h) fun u s1 ⟨x, H1, I1, rx, a, C, o, nm, dx, fs, v, ex, ea, hC, c, n, l, q⟩ => ?_)
  subst ex
  obtain rfl : u = Value.ref a := rx
  exact getattrS I1 ea hC c n l fun u' s2 I2 ru => ⟨v, H1, I2, ru, q⟩
theorem ps_st (ha : PE X o ta) (hv : PE X value tv) (hs : swapsWith value (some (.Attribute o f pos')) pos.line X.env = pure false := by rfl) : PS X (.Assign [.Attribute o f pos'] value pos) (sFldS X.K ta tv f) := by
  refine ⟨fun pins s σ H D I h => ?_⟩
  refine plainObj_wpAny_Assign_Attribute (thn (hv.run pins s σ H _ I h) fun u s1 ⟨y, H1, I1, ry, q⟩ => thn (ha.run pins s1 σ H1 _ I1 q) fun ov s2 ⟨x, H2, I2, rx, a, C, o, nm, dx, fs, ex, ea, hC, c, n, l, q2⟩ => ?_) hs
  subst ex
  obtain rfl : ov = Value.ref a := rx
  exact setattrS I2 ea hC c n l ry fun s3 I3 => ⟨σ, _, I3, q2⟩
def tMethS (C : Addr) (o : Obj) (nm m : Str) (sp : Sp) (ta : TE) (t : TA) : TE := fun σ H Q => ta σ H fun x H1 => ∃ a dx fs, x = .ref a ∧ H1 a = some (.ins C dx fs) ∧ H1 C = some (clsO C o nm) ∧ fs.lookup m = none ∧ t σ H1 fun vs H2 => sp (x :: vs) H2 Q E0
theorem ps_m {pl : Sem Bool} (c : MtS X.prog X.w X.K X.mg X.base C co m ps k sp) (cc : Cls (KC X.K C co) C) (hr : Room j X.A) (ho : PE X o ta) (ha : PA X (e :: es) t) (hk : k ≤ j := by decide)
    (hst : starEach (e :: es) X.env = (false, eval e X.env) :: starEach es X.env := by rfl) (hpl : (backTo pos (starEach es X.env)).any (·.1) = false := by rfl)
    (ht : eval (.Call (.Attribute o m apos) (e :: es) [] pos) X.env = (do
      let ov ← eval o X.env
      standAt apos.atName
      let (f, first) ← holding [ov] (getMethod ov m pl)
      callWith pos f first (backTo pos (starEach (e :: es) X.env)) (backToKw pos (keywordEach [] X.env))) := by rfl) :
    PE X (.Call (.Attribute o m apos) (e :: es) [] pos) (tMethS C co nm m sp ta t) := by
  obtain ⟨f, fd, hm, hkp, hb, F⟩ := c.ex
  refine ⟨fun pins s σ H Q I h => ?_⟩
  refine PySem.W.methodCall_KW (pl := pl) (thn (ho.run pins s σ H _ I h) fun u s1 ⟨x, H1, I1, rx, a, dx, fs, ex, ea, hC, l, q⟩ => ?_) ht
  subst ex
  obtain rfl : u = Value.ref a := rx
  refine getmethS I1 ea hC cc hm l ?_
  refine PySem.W.callWith_K (first := [.ref a]) (h₀ := X.base) I.ok.mod.kin hkp (thn (ha.run pos pins s1 σ H1 _ I1 q) fun us s2 ⟨vs, H2, I2, r, q2⟩ => ⟨I2.kIn, ?_⟩) hst hpl
  exact run_fn (us := .ref a :: us) (vs := .ref a :: vs) F (hr.mono hk) hb .nil pass0 I2 (.cons rfl r) (by rw [List.append_nil]; exact q2)
theorem ps_m0 {pl : Sem Bool} (c : MtS X.prog X.w X.K X.mg X.base C co m ps k sp) (cc : Cls (KC X.K C co) C) (hr : Room j X.A) (ho : PE X o ta) (hk : k ≤ j := by decide)
    (ht : eval (.Call (.Attribute o m apos) [] [] pos) X.env = (do
      let ov ← eval o X.env
      standAt apos.atName
      let (f, first) ← holding [ov] (getMethod ov m pl)
      callWith pos f first (backTo pos (starEach [] X.env)) (backToKw pos (keywordEach [] X.env))) := by rfl) :
    PE X (.Call (.Attribute o m apos) [] [] pos) (tMethS C co nm m sp ta tNil) := by
  obtain ⟨f, fd, hm, hkp, hb, F⟩ := c.ex
  refine ⟨fun pins s σ H Q I h => ?_⟩
  refine PySem.W.methodCall_KW (pl := pl) (thn (ho.run pins s σ H _ I h) fun u s1 ⟨x, H1, I1, rx, a, dx, fs, ex, ea, hC, l, q⟩ => ?_) ht
  subst ex
  obtain rfl : u = Value.ref a := rx
  refine getmethS I1 ea hC cc hm l ?_
  refine PySem.W.callWith_K0 (first := [.ref a]) I1.kIn hkp ?_
  exact run_fn (us := [.ref a]) (vs := [.ref a]) F (hr.mono hk) hb .nil pass0 I1 (.cons rfl .nil) q
end
end Sam
end
section
set_option Elab.async false
set_option linter.all false
set_option maxRecDepth 100000
set_option maxHeartbeats 2000000
namespace Sam
open PySem PySem.Spec PyProof.Rows L2
open PySem.W (Frag nsIn ownIn alongIn findIn typeIn specialIn takesIn clsIn mroIn findObj hasDictIn plainGet keepIn isFn isClsIn subIn instIn makesIn plainOver takerIn kitCls kitOne findCls readsIn recIn)
theorem KR.reads {K K' : Frag} (r : KR K K') (C : Addr) (mc : Value) : readsIn K C mc = readsIn K' C mc := by
  unfold PySem.W.readsIn
  rw [r.ns, r.type, r.find, r.find, r.sub]
theorem KR.fcls {K K' : Frag} (r : KR K K') (c mc : Value) (x : Str) : findCls K c mc x = findCls K' c mc x := by
  unfold PySem.W.findCls
  rw [r.find mc, r.find c]
  simp only [r.special, r.takes, r.type]
section
variable {X : Cx} {pins : List (Addr × Obj)} {σ : L2.St} {H : Hp} {s : Shared} {C f : Addr} {o : Obj} {nm : Str} {fd : FuncData} {ps : List Str} {k : Nat} {sp : Sp} {ds : List Value} {Q : VK} {us : List Value} {vs : List V}
theorem run_makeS (hC : H C = some (clsO C o nm)) (M : Mk (KC X.K C o) C f) (F : FnOk X.prog X.w X.K X.mg X.base CX0 k f fd ps sp) (hr : Room (k + 1) X.A) (hb : Binds X.K fd ps [])
    (I : L2.Inv X pins σ H s) (r : Vals vs us)
    (h : ∀ x dx, H x = none → H dx = none → dx ≠ x → sp (.ref x :: vs) (upd (upd H dx (.own x)) x (.ins C dx [])) (fun v H2 => v = .non ∧ Q (.ref x) H2) E0) :
    wpAny (model X.prog X.w) X.A (call (.ref C) us) (EP X pins σ Q) X.xe s := by
  obtain ⟨sl, _, hin, r', _⟩ := cls_now I hC
  have M' := r'.mk M
  have hq := h (s.heap.objs.size + 1) s.heap.objs.size (I.hok.fresh (Nat.le_succ _)) (I.hok.fresh (Nat.le_refl _)) (Nat.ne_of_lt (Nat.lt_succ_self _))
  have I2 := Inv.made (C := C) I
  have r2 : Vals (V.ref (s.heap.objs.size + 1) :: vs) (Value.ref (s.heap.objs.size + 1) :: us) := .cons rfl r
  have hl : (Value.ref (s.heap.objs.size + 1) :: us ++ []).length = ps.length := by
    have e := r2.length
    rw [F.len _ _ _ _ hq] at e
    rw [List.append_nil]
    exact e.symm
  have hbb := hb { s with heap := (s.heap.push PySem.W.emptyDict).push (PySem.W.instObj C s.heap.objs.size) } (Value.ref (s.heap.objs.size + 1) :: us) I2.kIn hl
  rw [List.append_nil] at hbb
  refine wpAny_call (make_map (f := f) hin M'.makes M'.init (beq_iff_eq.mp M'.fn) (codeAny_mono (F.run _ X.stack _ _ ⟨Value.ref (s.heap.objs.size + 1) :: us, []⟩ (Value.ref (s.heap.objs.size + 1) :: us) _ _ E0 (hr.make C us [])
    (I2.env0.make C us []) hbb r2 hq) fun r s' hq' => ?_))
  cases r with
  | error e => exact (hq' : False).elim
  | ok fl =>
    cases fl with
    | ret u =>
      obtain ⟨v, H', I3, rv, ev, q3⟩ := I2.after hq'
      subst ev
      exact ⟨rv, ⟨V.ref (s.heap.objs.size + 1), H', I3, rfl, q3⟩⟩
    | next => exact False.elim hq'
    | brk => exact False.elim hq'
    | cont => exact False.elim hq'
end
/-- C(..) of such a class -/
def tMakeS (C : Addr) (o : Obj) (nm : Str) (sp : Sp) (t : TA) : TE := fun σ H Q => t σ H fun vs H1 => H1 C = some (clsO C o nm) ∧ ∀ x dx, H1 x = none → H1 dx = none → dx ≠ x →
  sp (.ref x :: vs) (upd (upd H1 dx (.own x)) x (.ins C dx [])) (fun v H2 => v = .non ∧ Q (.ref x) H2) E0
section
variable {X : Cx} {x m : Str} {ps : List Str} {k j i : Nat} {sp : Sp} {C g : Addr} {p pos apos : Pos} {e o : Expr} {es : List Expr} {ta : TE} {t : TA} {co : Obj} {nm : Str} {mc : Value} {pr : Addr}
theorem callWithS {M : Model} {A : Around} {E : Value → Shared → Prop} {s : Shared} {K : Frag} {env : Env} {first : List Value} {Q : Value → Shared → Prop} (hk : keepIn (KC K C co) (.ref C) = true)
    (h : wpAny M A (spliced (backTo pos (starEach (e :: es) env))) (fun vs s₁ => (∃ sl : Array (Option Value), (KC K C { co with slots := sl }).In s₁.heap ∧ KR (KC K C { co with slots := sl }) (KC K C co)) ∧ wpAny M A (call (.ref C) (first ++ vs)) Q E s₁) E s)
    (he : starEach (e :: es) env = (false, eval e env) :: starEach es env) (hplain : (backTo pos (starEach es env)).any (·.1) = false) :
    wpAny M A (callWith pos (.ref C) first (backTo pos (starEach (e :: es) env)) []) Q E s := by
  rw [he] at h ⊢
  refine PySem.W.callWith_of (P := fun h => ∃ sl : Array (Option Value), (KC K C { co with slots := sl }).In h ∧ KR (KC K C { co with slots := sl }) (KC K C co)) (by show ((false || (backTo pos (starEach es env)).any (·.1)) || false) = false; rw [hplain]; rfl) (fun h ⟨sl, hin, r⟩ => ?_) (Calls.evalArgs_plain h)
  exact PySem.W.keeps_K ((r.keep _).trans hk) h hin
theorem ps_k (c : CtS X.prog X.w X.K X.mg X.base C co ps k sp) (hm : X.mg x = some (.ref C)) (hr : Room j X.A) (ha : PA X (e :: es) t) (hk : k + 1 ≤ j := by decide) (hg : Gl X x := by rfl)
    (hdb : (x == ("__debug__" : Str)) = false := by decide) (he : starEach (e :: es) X.env = (false, eval e X.env) :: starEach es X.env := by rfl) (hpl : (backTo pos (starEach es X.env)).any (·.1) = false := by rfl) :
    PE X (.Call (.Name x p) (e :: es) [] pos) (tMakeS C co nm sp t) := by
  obtain ⟨f, fd, hM, hb, F⟩ := c.ex
  refine ⟨fun pins s σ H Q I h => ?_⟩
  refine wpAny_Call_Name_kw (ld_glob I hg hm ?_ hdb)
  refine callWithS (K := X.K) (co := co) hM.kp (thn (ha.run pos pins s σ H _ I h) fun us s1 ⟨vs, H1, I1, r, hC, q⟩ => ⟨?_, ?_⟩) he hpl
  · obtain ⟨sl, _, hin, rr, _⟩ := cls_now I1 hC
    exact ⟨sl, hin, rr⟩
  · exact run_makeS hC hM F (hr.mono hk) hb I1 r q
/-- cls(..), the class in the i-th slot -/
theorem ps_kl (i : Nat) (c : CtS X.prog X.w X.K X.mg X.base C co ps k sp) (hN : X.N[i]? = some x) (hv : Vis X.env.scope x) (hr : Room j X.A) (ha : PA X (e :: es) t) (hk : k + 1 ≤ j := by decide)
    (hdb : (x == ("__debug__" : Str)) = false := by decide) (hcd : (x == ("__classdict__" : Str)) = false := by decide) (he : starEach (e :: es) X.env = (false, eval e X.env) :: starEach es X.env := by rfl) (hpl : (backTo pos (starEach es X.env)).any (·.1) = false := by rfl) :
    PE X (.Call (.Name x p) (e :: es) [] pos) (fun σ H Q => σ[i]? = some (some (.ref C)) ∧ tMakeS C co nm sp t σ H Q) := by
  obtain ⟨f, fd, hM, hb, F⟩ := c.ex
  refine ⟨fun pins s σ H Q I h => ?_⟩
  obtain ⟨hs, h⟩ := h
  refine wpAny_Call_Name_kw (thn ((pe_var (pos := p) hN hv hdb hcd).run pins s σ H (fun v H1 => v = .ref C ∧ H1 = H) I ⟨.ref C, hs, rfl, rfl⟩) fun u s1 ⟨v, H1, I1, r1, q1⟩ => ?_)
  obtain ⟨rfl, rfl⟩ := q1
  cases r1
  refine callWithS (K := X.K) (co := co) hM.kp (thn (ha.run pos pins s1 σ _ _ I1 h) fun us s2 ⟨vs, H2, I2, r, hC, q⟩ => ⟨?_, ?_⟩) he hpl
  · obtain ⟨sl, _, hin, rr, _⟩ := cls_now I2 hC
    exact ⟨sl, hin, rr⟩
  · exact run_makeS hC hM F (hr.mono hk) hb I2 r q
/-- a classmethod's record and def -/
structure CmS (P : Program) (w : World) (K : Frag) (mg : Str → Option Value) (base : Heap) (C : Addr) (o : Obj) (m : Str) (ps : List Str) (k : Nat) (sp : Sp) : Prop where
  ex : ∃ (mc : Value) (pr g : Addr) (fd : FuncData), readsIn (KC K C o) C mc = true ∧ specialIn (KC K C o) (.ref C) "__getattribute__" = some (some (.builtin "type.__getattribute__")) ∧
    findCls (KC K C o) (.ref C) mc m = some (.get (.builtin "classmethod.__get__") (.ref pr) .none (.ref C)) ∧ (∃ rest, recIn K pr "classmethod" = some (.ref g :: rest)) ∧ PySem.W.fnIn K g = true ∧ Binds K fd ps [] ∧ FnOk P w K mg base CX0 k g fd ps sp
theorem ps_cm {pl : Sem Bool} (c : CmS X.prog X.w X.K X.mg X.base C co m ps k sp) (hr : Room j X.A) (ho : PE X o ta) (ha : PA X (e :: es) t) (hk : k ≤ j := by decide)
    (hst : starEach (e :: es) X.env = (false, eval e X.env) :: starEach es X.env := by rfl) (hpl : (backTo pos (starEach es X.env)).any (·.1) = false := by rfl)
    (ht : eval (.Call (.Attribute o m apos) (e :: es) [] pos) X.env = (do
      let ov ← eval o X.env
      standAt apos.atName
      let (f, first) ← holding [ov] (getMethod ov m pl)
      callWith pos f first (backTo pos (starEach (e :: es) X.env)) (backToKw pos (keywordEach [] X.env))) := by rfl) :
    PE X (.Call (.Attribute o m apos) (e :: es) [] pos) (fun σ H Q => ta σ H fun x H1 => x = .ref C ∧ H1 C = some (clsO C co nm) ∧ t σ H1 fun vs H2 => sp (.ref C :: vs) H2 Q E0) := by
  obtain ⟨mc, pr, g, fd, h1, h2, h3, ⟨rest, h4⟩, h5, hb, F⟩ := c.ex
  refine ⟨fun pins s σ H Q I h => ?_⟩
  refine PySem.W.methodCall_KW (pl := pl) (thn (ho.run pins s σ H _ I h) fun u s1 ⟨x, H1, I1, rx, ex, hC, q⟩ => ?_) ht
  subst ex
  obtain rfl : u = Value.ref C := rx
  obtain ⟨sl, _, hin, r, _⟩ := cls_now I1 hC
  refine PySem.W.method_cls hin ((r.special _ _).trans h2) ?_
  refine PySem.W.cls_bind hin ((r.reads _ _).trans h1) ((r.fcls _ _ _).trans h3) ?_
  refine wpAny_call (PySem.W.cm_get (s := { s1 with toks := s1.toks + 1 }) I1.kIn h4 (PySem.W.handed_on rfl ?_))
  have I2 := ClX.met_new (g := g) (C := C) I1
  refine ClX.callwith_cm I2 (ClX.base_none I1 (Nat.le_refl _)) h5 (thn (ha.run pos _ _ σ H1 _ I2 q) fun us s3 ⟨vs, H2, I3, rv, q2⟩ => ⟨⟨ClX.pin_at I3, I3.kIn⟩, ?_⟩) hst hpl
  have r2 : Vals (.ref C :: vs) (.ref C :: us) := .cons rfl rv
  have hl : (Value.ref C :: us ++ []).length = ps.length := by rw [List.append_nil, ← r2.length]; exact F.len _ _ _ _ q2
  have hbb := hb s3 (.ref C :: us) I3.kIn hl
  rw [List.append_nil] at hbb
  suffices z : wpAny (model X.prog X.w) X.A (call (.ref s1.heap.objs.size) us) (EP X ((s1.heap.objs.size, PySem.W.methodObj (.ref g) (.ref C)) :: pins) σ Q) X.xe s3 from thn z fun _ _ y => ClX.unpinE y
  refine (wpAny_call (PySem.W.method_call (ClX.pin_at I3) (codeAny_mono (F.run X.A X.stack s3 H2 ⟨.ref C :: us, []⟩ (.ref C :: us) (.ref C :: vs) Q E0 (hr.mono hk) I3.env0 hbb r2 q2) fun r s' hq => ?_)))
  cases r with
  | error e => exact (hq : False).elim
  | ok fl =>
    cases fl with
    | ret u => exact I3.after hq
    | next => exact False.elim hq
    | brk => exact False.elim hq
    | cont => exact False.elim hq
/-- isinstance(x, C), x an instance of C -/
theorem call_isS (ha : findIn (KC X.K C co) (.ref C) "__class__" = some (some (.builtin "object.__class__"))) (hn : specialIn (KC X.K C co) (.builtin "object.__class__") "__get__" = some (some (.builtin "getset_descriptor.__get__")))
    (htk : takesIn (KC X.K C co) (.builtin "object.__class__") = some true) (hm : mroIn (KC X.K C co) C (.type "object") = some true) (cl : Cls (KC X.K C co) C) (me : kitOne (KC X.K C co) (.ref C) (.ref C) = some true) :
    CallR X (.builtin "isinstance") (fun xs H Q => ∃ a dx fs, xs = [.ref a, .ref C] ∧ H a = some (.ins C dx fs) ∧ H C = some (clsO C co nm) ∧ Q (.bl true) H) := by
  intro pins s σ H xs us Q I r h
  obtain ⟨a, dx, fs, rfl, ea, hC, q⟩ := h
  obtain ⟨u, w', rfl, ru, rw'⟩ := vals2 r
  cases ru
  cases rw'
  obtain ⟨sl, _, hin, r, _⟩ := cls_now I hC
  obtain ⟨mA, O, _⟩ := ins_get I.hok ea
  obtain ⟨od, J, _⟩ := O.look
  refine PySem.W.kia_one (PySem.W.kitx_own ((r.clsOk cl).get _) (r.clsOk cl).hd ((r.find _ _).trans ha) ((r.special _ _).trans hn) ((r.takes _).trans htk) ((r.mro _ _).trans hm)) hin J ((r.kit _ _).trans me) (fun z => nomatch z) fun tk => ⟨.bl true, H, I.tok _, rfl, q⟩
end
end Sam
end
section
set_option Elab.async false
set_option linter.all false
set_option maxRecDepth 100000
set_option maxHeartbeats 2000000
namespace Sam
open PySem PySem.Spec PyProof.Rows L2
open PySem.W (Frag nsIn ownIn alongIn findIn typeIn specialIn takesIn clsIn mroIn findObj hasDictIn plainGet keepIn isFn isClsIn subIn instIn makesIn plainOver takerIn kitCls kitOne findCls readsIn recIn)
/-- what __class__ and __name__ ask of the class -/
structure NmS (K : Frag) (C : Addr) (o : Obj) (nm : Str) : Prop where
  cl : Cls (KC K C o) C
  ha : findIn (KC K C o) (.ref C) "__class__" = some (some (.builtin "object.__class__"))
  hn : specialIn (KC K C o) (.builtin "object.__class__") "__get__" = some (some (.builtin "getset_descriptor.__get__"))
  htk : takesIn (KC K C o) (.builtin "object.__class__") = some true
  hm : mroIn (KC K C o) C (.type "object") = some true
  rd : readsIn (KC K C o) C (.type "type") = true
  fc : findCls (KC K C o) (.ref C) (.type "type") "__name__" = some (.get (.builtin "getset_descriptor.__get__") (.builtin "type.__name__") (.ref C) (.type "type"))
  ty : typeIn (KC K C o) (.ref C) = some (.type "type")
  cd : ∃ cd, clsIn (KC K C o) C = some cd ∧ cd.name = nm
  ln : nm.length ≤ sizeLine
  cp : Str.ofString nm.toString = nm

theorem put_four (sl : Array (Option Value)) (u : Value) : ((sl ++ Array.replicate (2 + 1 - sl.size) none).setIfInBounds 2 (some u)).toList[4]? = sl.toList[4]? := by
  rw [Array.toList_setIfInBounds, List.getElem?_set_ne (by decide), Array.toList_append, List.getElem?_append]
  split
  · rfl
  · rename_i h
    have h' : sl.toList.length ≤ 4 := by omega
    rw [List.getElem?_eq_none h', List.getElem?_eq_none]
    simp at h' ⊢
    omega
theorem put_two (sl : Array (Option Value)) (u : Value) : slot2 ((sl ++ Array.replicate (2 + 1 - sl.size) none).setIfInBounds 2 (some u)) = some u := by
  unfold slot2
  rw [Array.getElem?_setIfInBounds_self_of_lt (by simp; omega)]
  rfl
def putSlot2 (u : Value) (o : Obj) : Obj := { o with slots := (o.slots ++ Array.replicate (2 + 1 - o.slots.size) none).setIfInBounds 2 (some u) }
section
open PySem.W PySem.Calls Builtin Builtin.ObjectAttr Builtin.Getset_descriptor
variable {prog : Program} {w : World} {A : Around} {E : Value → Shared → Prop} {s : Shared} {R : Result → Shared → Prop}
theorem name_get {KK : Frag} {C : Addr} {o : Obj} {tp : Value} {nm : Str} (Xk : KK.In s.heap) (ho : s.heap.get? C = some o) (ht : typeIn KK (.ref C) = some (.type "type")) (hcd : ∃ cd, clsIn KK C = some cd ∧ cd.name = nm) (hz : nm.length ≤ sizeLine) (cp : Str.ofString nm.toString = nm)
    (h1 : ∀ v, slot2 o.slots = some v → R (.ok (.ret v)) s) (h2 : slot2 o.slots ≠ none) :
    codeAny (model prog w) A (.call (.builtin "getset_descriptor.__get__") ⟨[.builtin "type.__name__", .ref C, tp], []⟩) R s := by
  obtain ⟨hh, g, dr, t, os⟩ := s
  obtain ⟨cd, hcd, hnm⟩ := hcd
  have L0 : Looks (model prog w) hh (typeOf (.ref C)) (.type "type") := looks_typeIn Xk ht
  have L1 : Looks (model prog w) hh (isSubtype (.type "type") (.type "type")) true := Looks.of_pure (by rw [isSubtype_type]; kernel_rfl)
  have L2 : Looks (model prog w) hh (classData C) cd := looks_clsIn Xk hcd
  refine codeAny_call_builtin KF.slot_gs.plain KF.entry_gs (KF.slot_gs.check _ _ _ _ _ _ _ _ ktyn_type (KF.args_gs _ _ _) ?_)
  unfold Builtin.«getset_descriptor.__get__» descrGet
  rw [dga_obj]
  refine wpAny_bind (wpAny_pure ?_)
  unfold descrGetter descrCheckInstance descrNameAndClass isInstance
  simp only [ktyn_owner]
  repeat lk
  refine ⟨Code.quiet_builtin _ (by decide +kernel), codeAny_builtin ktyn_entry ?_⟩
  unfold Builtin.«type.__name__»
  dsimp only
  unfold keptObject
  dsimp only
  unfold slotAt
  refine wpAny_bind (wpAny_bind (wpAny_loadPart ho ?_))
  refine wpAny_pure ?_
  cases hs : o.slots[2]?.join with
  | some v => exact wpAny_pure (h1 v hs)
  | none => exact absurd hs h2
end
/-- e.__class__ of an instance -/
def tCls (K : Frag) (ta : TE) : TE := fun σ H Q => ta σ H fun x H1 => ∃ a C o nm dx fs, x = .ref a ∧ H1 a = some (.ins C dx fs) ∧ H1 C = some (clsO C o nm) ∧ NmS K C o nm ∧ Q (.ref C) H1
/-- C.__name__ -/
def tNm (K : Frag) (ta : TE) : TE := fun σ H Q => ta σ H fun x H1 => ∃ C o nm, x = .ref C ∧ H1 C = some (clsO C o nm) ∧ NmS K C o nm ∧ Q (.str nm) H1
section
variable {X : Cx} {e : Expr} {pos : Pos} {ta : TE}
theorem ps_cls (K : Frag) (he : PE X e ta) (hb : attributeBase e "__class__" X.env (eval e X.env) = eval e X.env := by rfl) (hK : X.K = K := by rfl) : PE X (.Attribute e "__class__" pos) (tCls K ta) := by
  subst hK
  refine ⟨fun pins s σ H Q I h => ?_⟩
  refine attr_of hb (thn (he.run pins s σ H _ I h) fun u s1 ⟨x, H1, I1, rx, a, C, o, nm, dx, fs, ex, ea, hC, n, q⟩ => ?_)
  subst ex
  obtain rfl : u = Value.ref a := rx
  obtain ⟨sl, _, hin, r, _⟩ := cls_now I1 hC
  obtain ⟨mA, O, _⟩ := ins_get I1.hok ea
  obtain ⟨od, J, _⟩ := O.look
  have cl := r.clsOk n.cl
  have pg := cl.pg
  unfold PySem.W.plainGet at pg
  obtain ⟨g1, g2⟩ := Bool.and_eq_true_iff.mp pg
  obtain ⟨cd, hcd, _⟩ := PySem.W.any_some cl.hd
  have hf : findObj (KC X.K C { o with slots := sl }) C (some od) "__class__" = some (.bind (.builtin "getset_descriptor.__get__") (.builtin "object.__class__")) :=
    PySem.W.findObj_data (by rw [hcd]; rfl) ((r.find _ _).trans n.ha) ((r.special _ _).trans n.hn) ((r.takes _).trans n.htk)
  refine PySem.W.get_bind hin J (beq_iff_eq.mp g1) hf (beq_iff_eq.mp g2) ?_
  refine wpAny_call (PySem.W.class_get (s := { s1 with toks := s1.toks + 1 }) hin J ((r.mro _ _).trans n.hm) ?_)
  exact PySem.W.handed_on rfl ⟨.ref C, H1, I1.tok _, rfl, q⟩
theorem upd_id {H : Hp} {a : Addr} {o : HO} (h : H a = some o) : upd H a o = H := by
  funext b
  by_cases q : b = a
  · subst q; rw [upd_same, h]
  · rw [upd_ne q]
theorem ps_nm (K : Frag) (he : PE X e ta) (hb : attributeBase e "__name__" X.env (eval e X.env) = eval e X.env := by rfl) (hK : X.K = K := by rfl) : PE X (.Attribute e "__name__" pos) (tNm K ta) := by
  subst hK
  refine ⟨fun pins s σ H Q I h => ?_⟩
  refine attr_of hb (thn (he.run pins s σ H _ I h) fun u s1 ⟨x, H1, I1, rx, C, o, nm, ex, hC, n, q⟩ => ?_)
  subst ex
  obtain rfl : u = Value.ref C := rx
  obtain ⟨sl, _, hin, r, h4, h2⟩ := cls_now I1 hC
  obtain ⟨hat, t0, ht0⟩ := cls_slot I1 hC
  obtain ⟨_, _, hin', r', _⟩ := cls_now I1 hC
  have hin2 : (KC X.K C o).In s1.heap := fun a u e => by
    by_cases q : a = C
    · subst q
      simp [List.lookup] at e
      rw [hat, e]
    · have q' : (a == C) = false := by simpa using q
      simp only [KC, List.lookup, q'] at e
      exact I1.kIn a u e
  refine PySem.W.cls_bind hin ((r.reads _ _).trans n.rd) ((r.fcls _ _ _).trans n.fc) ?_
  refine wpAny_call (name_get (s := { s1 with toks := s1.toks + 1 }) (o := o) hin2 hat n.ty n.cd n.ln n.cp (fun v hv => ?_) (by rw [ht0]; simp))
  rw [ht0] at hv
  cases hv
  exact PySem.W.handed_on rfl ⟨.str nm, H1, I1.tok _, ⟨t0, rfl⟩, q⟩
end
end Sam
end
section
set_option Elab.async false
set_option linter.all false
set_option maxRecDepth 100000
set_option maxHeartbeats 2000000
namespace Sam
open PySem PySem.Spec PyProof.Rows L2
section
variable {X : Cx}
/-- xs != [] -/
theorem op_neNil (K : PySem.W.Frag) (hu : X.A.units + 64 < cLine) (hK : X.K = K := by rfl) : OpR X (compareOp .NotEq) (fun x y H Q => ∃ a b xs, x = .ref a ∧ y = .ref b ∧ SqL K H a xs ∧ SqL K H b [] ∧ Q (.bl (!xs.isEmpty)) H) := by
  subst hK
  intro pins s σ H x y v u Q I rx ry h
  obtain ⟨a, b, xs, rfl, rfl, ha, hb, q⟩ := h
  cases rx
  cases ry
  obtain ⟨its, rv, hl, _⟩ := I.list ha
  obtain ⟨its2, rv2, hl2, _⟩ := I.list hb
  cases rv2
  have hroom : X.A.units < cLine := by omega
  by_cases e : its = []
  · subst e
    have := rv.length
    have hx : xs = [] := List.eq_nil_of_length_eq_zero (by simpa using this)
    subst hx
    exact SeqAt.RcNeAt.lists (e := fun _ => true) hl.isList hl2.isList rfl hroom (fun j h1 h2 => by simp at h1) _ _ _ _ ⟨.bl _, H, I, rfl, q⟩
  · have hne : (its.toArray.size != (([] : List Value).toArray).size) = true := by
      simp
      exact e
    have hx : xs ≠ [] := fun z => by
      subst z
      cases rv
      exact e rfl
    have hq : (!xs.isEmpty) = true := by
      cases xs with
      | nil => exact absurd rfl hx
      | cons _ _ => rfl
    rw [hq] at q
    exact SeqAt.RcNeAt.lists_lengths hl.isList hl2.isList hne hroom _ _ _ _ ⟨.bl true, H, I, rfl, q⟩
/-- xs[i], by values -/
theorem get_list (K : PySem.W.Frag) (hK : X.K = K := by rfl) : PGet X (fun o i H Q => ∃ p xs k v, o = .ref p ∧ i = .int ((k : Nat) : Int) ∧ SqL K H p xs ∧ k < 2 ^ 60 ∧ xs[k]? = some v ∧ Q v H) := by
  subst hK
  intro pins s σ H o i ov iv Q I ro ri h
  obtain ⟨p, xs, k, v, rfl, rfl, hl, hk, hx, q⟩ := h
  cases ro
  obtain ⟨t, rfl⟩ := ri
  obtain ⟨its, rv, hL, _⟩ := I.list hl
  obtain ⟨u, hu, ru⟩ := rv.get hx
  exact wpAny_getItem_list hL.isList (by omega) (by omega) (by simpa using hu) ⟨v, H, I, ru, q⟩
end
end Sam
end
section
set_option Elab.async false
set_option linter.all false
set_option maxRecDepth 100000
set_option maxHeartbeats 1000000
namespace Sam
open PySem PySem.Spec PyProof.Rows L2
open C8 (pss_cut tCut call_isC InsC)

theorem Ext.same {ms : List Addr} {G H H' : Hp} (s : Same G H) (k : Same H H') : Ext ms G H G H' := ⟨Same.refl _, s.trans k, fun _ _ e => .inl e, fun b o e _ => k b o e, fun b e => by
  cases q : H b with
  | none => rfl
  | some o => rw [k b o q] at e; cases e⟩

theorem yes_ok {σ : L2.St} {H : Hp} {A B : Hp → Prop} (h : A H) : tYes σ H (fun b H3 => if b = true then A H3 else B H3) := by
  show if true = true then A H else B H
  rw [if_pos rfl]
  exact h
/-- over a list that stays -/
theorem dc_list {K : PySem.W.Frag} {a : Addr} {xs : List V} {g : TG} {tt : TT} {tk tv : TE} {vs : List Nat} {σ : L2.St} {H1 : Hp} {D : Addr} {Qd : Hp → Prop} (Pv : Nat → Hp → Prop) (h0 : Pv 0 (upd H1 D (.dK []))) (hl : ∀ i H, i ≤ xs.length → Pv i H → SqL K H a xs)
    (hs : ∀ i x H, xs[i]? = some x → Pv i H → g x (wipe σ vs) H fun σ2 H2 => wipe σ2 vs = wipe σ vs ∧ tt σ2 H2 fun b H3 =>
      if b = true then tk σ2 H3 fun y H4 => tv σ2 H4 fun z H5 => ∃ kvs k, y = kV k ∧ H5 D = some (.dK kvs) ∧ kvs.length < sizeLine ∧ Pv (i + 1) (upd H5 D (.dK (putK kvs k z))) else Pv (i + 1) H3) (hd : ∀ H, Pv xs.length H → Qd H) :
    ∃ W : Nat → Nat → Hp → Prop, (∃ m, W 0 m (upd H1 D (.dK []))) ∧ ∀ i m H, W i m H →
      ((Itl K a).stop i H ∧ Qd H) ∨ ((Itl K a).go i H ∧ ∃ Nx : Hp → Prop, (∀ H', Nx H' → ∃ m', m' < m ∧ W (i + 1) m' H') ∧ ∀ x H', (Itl K a).yld i H x H' → g x (wipe σ vs) H' fun σ2 H2 => wipe σ2 vs = wipe σ vs ∧ tt σ2 H2 fun b H3 =>
        if b = true then tk σ2 H3 fun y H4 => tv σ2 H4 fun z H5 => ∃ kvs k, y = kV k ∧ H5 D = some (.dK kvs) ∧ kvs.length < sizeLine ∧ Nx (upd H5 D (.dK (putK kvs k z))) else Nx H3) := by
  refine ⟨fun i m H => m = xs.length - i ∧ i ≤ xs.length ∧ Pv i H, ⟨xs.length, by simp, Nat.zero_le _, h0⟩, ?_⟩
  rintro i m H ⟨rfl, hi, p⟩
  have q := hl i H hi p
  by_cases hlt : i < xs.length
  · refine .inr ⟨⟨xs, xs[i], q, by simp [hlt]⟩, Pv (i + 1), fun H' p' => ⟨xs.length - (i + 1), by omega, rfl, hlt, p'⟩, fun x H' y => ?_⟩
    obtain ⟨e, y⟩ := y
    subst e
    exact hs i x _ (y xs q) p
  · have e : i = xs.length := by omega
    subst e
    exact .inl ⟨⟨xs, q, Nat.le_refl _⟩, hd H p⟩

/-! ### items, parts, names -/
structure Thing where
  g : Str
  w : Nat
  am : Int
def kNm (i : Nat) : Str := ("k" : Str) ++ toString ((i : Nat) : Int)
def pNm (i : Nat) : Str := ("p" : Str) ++ toString ((i : Nat) : Int)
def itV (T : Nat → Thing) (i : Nat) : List V := [.str (kNm i), .str (T i).g, .int ((T i).w : Int), .int (T i).am]
def IsIt (T : Nat → Thing) (G : Hp) (a : Addr) (i : Nat) : Prop := i < 4 ∧ G a = some (.tup (itV T i))
theorem IsIt.mono {T : Nat → Thing} {G G' : Hp} {a : Addr} {i : Nat} (s : Same G G') (h : IsIt T G a i) : IsIt T G' a i := ⟨h.1, s _ _ h.2⟩
theorem kNm_inj4 : ∀ i j : Fin 4, kNm i.val = kNm j.val → i = j := by decide +kernel
theorem pNm_inj4 : ∀ i j : Fin 4, pNm i.val = pNm j.val → i = j := by decide +kernel
theorem kNm_inj {i j : Nat} (hi : i < 4) (hj : j < 4) (h : kNm i = kNm j) : i = j := by
  have := kNm_inj4 ⟨i, hi⟩ ⟨j, hj⟩ h
  exact Fin.mk.inj this
theorem pNm_inj {i j : Nat} (hi : i < 4) (hj : j < 4) (h : pNm i = pNm j) : i = j := by
  have := pNm_inj4 ⟨i, hi⟩ ⟨j, hj⟩ h
  exact Fin.mk.inj this
abbrev refs (l : List Addr) : List V := l.map V.ref
/-- a list of things -/
def Itms (T : Nat → Thing) (G : Hp) (rs : List Addr) (is : List Nat) : Prop := Paired (IsIt T G) rs is
theorem Itms.mono {T : Nat → Thing} {G G' : Hp} {rs : List Addr} {is : List Nat} (s : Same G G') (h : Itms T G rs is) : Itms T G' rs is := Paired.mapP h fun _ _ z => z.mono s

/-! ### check_size, check_keys -/
section
variable {P : Program} {w : World} {K : PySem.W.Frag} {mg : Str → Option Value} {base : Heap}
theorem sc49 : FnScope ["size"] ["size"] (defScope (top 49)) := ⟨rfl, rfl, rfl, by decide +kernel, rfl, by decide +kernel, by decide +kernel⟩
def spSize : Sp := fun vs H Q _ => ∃ k : Int, vs = [.int k] ∧ 1 ≤ k ∧ k ≤ 20 ∧ Q .non H
theorem ok_size {t : Tok} (M : mg "MOST_SIZE" = some (.int 20 t)) (d : Df K mg "check_size" (top 49) ["size"]) : Cl P w K mg base "check_size" ["size"] 1 spSize := by
  refine d.ok sc49 (fun vs H Q E h => ?_) (fun f cdv A outer s H vs Q E hr h => ?_)
  · obtain ⟨k, rfl, _⟩ := h
    rfl
  · obtain ⟨k, rfl, h1, h2, q⟩ := h
    refine ⟨_, pss_one (ps_if (pt_not (pt_chain op_le op_le pe_int (pv 0) (pe_glob (v := .int 20) (by rfl) M ⟨_, rfl⟩))) pss_never pss_nil), ?_⟩
    refine ⟨_, rfl, _, _, rfl, rfl, _, rfl, ite2 (fun _ => ?_) (fun z => absurd (decide_eq_true h1) z)⟩
    exact ⟨_, _, rfl, rfl, _, rfl, ite2 (fun z => absurd z (by simp [h2])) fun _ => q⟩
theorem sc50 : FnScope ["first", "second", "keys", "shared", "item"] ["first", "second"] (defScope (top 50)) := ⟨rfl, rfl, rfl, by decide +kernel, rfl, by decide +kernel, by decide +kernel⟩
theorem Itms.get {T : Nat → Thing} {G : Hp} {rs : List Addr} {is : List Nat} {j : Nat} {x : V} (h : Itms T G rs is) (e : (refs rs)[j]? = some x) : ∃ a i, x = .ref a ∧ is[j]? = some i ∧ IsIt T G a i := by
  rw [List.getElem?_map] at e
  obtain ⟨r, hr, rfl⟩ := Option.map_eq_some_iff.mp e
  obtain ⟨i, h1, h2⟩ := paired_get h hr
  exact ⟨r, i, rfl, h1, h2⟩
theorem Itms.lt {T : Nat → Thing} {G : Hp} {rs : List Addr} {is : List Nat} (h : Itms T G rs is) : ∀ i ∈ is, i < 4 := fun i hi => by
  obtain ⟨j, hj⟩ := List.mem_iff_getElem?.mp hi
  obtain ⟨x, h1, h2⟩ := paired_get' h hj
  exact h2.1
def spKeys (T : Nat → Thing) (K : PySem.W.Frag) : Sp := fun vs H Q _ => ∃ a b ra rb is js, vs = [.ref a, .ref b] ∧ SqL K H a (refs ra) ∧ SqL K H b (refs rb) ∧ Itms T H ra is ∧ Itms T H rb js ∧ (is.length ≤ 4 ∧ js.length ≤ 4) ∧ (∀ j ∈ js, j ∉ is) ∧
  ∀ H', Same H H' → Q .non H'
/-- the keys of a dict that hold -/
def KDk (T : Nat → Thing) (kvs : List (Key × V)) (is : List Nat) : Prop := ∀ j, j < 4 → (valV kvs (Sum.inr (kNm j))).isSome = true → j ∈ is
theorem ok_keys {T : Nat → Thing} (B : Bn mg) (d : Df K mg "check_keys" (top 50) ["first", "second"]) : Cl P w K mg base "check_keys" ["first", "second"] 1 (spKeys T K) := by
  refine d.ok sc50 (fun vs H Q E h => ?_) (fun f cdv A outer s H vs Q E hr h => ?_)
  · obtain ⟨a, b, ra, rb, is, js, rfl, _⟩ := h
    rfl
  · obtain ⟨a, b, ra, rb, is, js, rfl, ha, hb, hi, hj, ⟨li, lj⟩, dj, k⟩ := h
    have nd := sc50.nd
    have hu := hu_of hr
    refine ⟨_, pss_cons (ps_set (i := 2) nd rfl (.inr rfl) (pe_dc (own := [("item", 4)]) (g := gName 4) (by rfl) nd (pi_list (pv 0))
          (blkOk_by (own := [("item", 4)]) (N := ["first", "second", "keys", "shared", "item"]) (sc := defScope (top 50)) (by decide +kernel)) (fun _ _ _ _ _ => pg_name (i := 4) nd rfl (Or.inl rfl))
          (fun _ _ _ _ _ => pts_nil) (fun _ _ _ _ _ => pe_ix (kx_tup K) (pv 4) pe_int (fun _ _ => rfl)) (fun _ _ _ _ _ => pe_bl)))
      (pss_cons (ps_set (i := 3) nd rfl (.inl rfl) (pe_callB cr_sortedS (by rfl) B.sorted (by decide +kernel) (pa_cons (pe_lc (own := [("item", 4)]) (g := gName 4) (by rfl) nd (pi_list (pv 1))
          (blkOk_by (own := [("item", 4)]) (N := ["first", "second", "keys", "shared", "item"]) (sc := defScope (top 50)) (by decide +kernel)) (fun _ _ _ _ _ => pg_name (i := 4) nd rfl (Or.inl rfl))
          (fun _ _ _ _ _ => pts_one (pt_cmp (pc_din hu (pe_ix (kx_tup K) (pv 4) pe_int (fun _ _ => rfl)) (pv 2)) (by with_unfolding_all rfl))) (fun _ _ _ _ _ => pe_ix (kx_tup K) (pv 4) pe_int (fun _ _ => rfl))) pa_nil)))
      (pss_one (ps_if (pt_cmpR op_gt (pe_callB call_len_seq (by rfl) B.len PySem.boot_len (pa_cons (pv 3) pa_nil)) pe_int (nomark _)) pss_never pss_nil))), ?_⟩
    refine ⟨_, rfl, a, rfl, ⟨_, ha⟩, fun D hD => dc_list (K := K) (xs := refs ra) (fun i H2 => ∃ kvs, H2 = upd H D (.dK kvs) ∧ kvs.length ≤ i ∧ KDk T kvs is) ⟨[], rfl, Nat.le_refl _, fun j _ z => by simp [valV_nil] at z⟩ ?_ ?_ ?_⟩
    · rintro i H2 _ ⟨kvs, rfl, _⟩
      exact (Same.new _ hD).seq ha
    · rintro i x H2 hx ⟨kvs, rfl, hl, hk⟩
      obtain ⟨r, i0, rfl, e1, e2⟩ := hi.get hx
      have hlt : i < ra.length := by
        have := (List.getElem?_eq_some_iff.mp hx).1
        simpa using this
      have hle := hi.length
      refine ⟨rfl, yes_ok ?_⟩
      refine ⟨_, rfl, r, _, 0, _, rfl, rfl, SqT.of ((Same.new _ hD) _ _ e2.2), rfl, kvs, Sum.inr (kNm i0), rfl, upd_same, small1000 (by omega), putK kvs (Sum.inr (kNm i0)) (.bl true), upd_upd, ?_, ?_⟩
      · have := length_putK kvs (Sum.inr (kNm i0)) (.bl true)
        omega
      · intro j hj4 hs
        rw [valV_put] at hs
        by_cases e : (Sum.inr (kNm j) : Key) = Sum.inr (kNm i0)
        · have := kNm_inj hj4 e2.1 (Sum.inr.inj e)
          rw [this]
          exact List.mem_of_getElem? e1
        · rw [if_neg e] at hs
          exact hk j hj4 hs
    · rintro H2 ⟨kvs, rfl, hl, hk⟩
      have s1 := Same.new (.dK kvs) hD
      have hD1 : upd H D (.dK kvs) D = some _ := upd_same
      generalize upd H D (.dK kvs) = H1 at *
      refine ⟨_, rfl, b, rfl, ⟨_, s1.seq hb⟩, fun D2 hD2 => lc_list (K := K) (xs := refs rb) (fun i H2 => H2 = upd H1 D2 (.lst [])) rfl ?_ ?_ ?_⟩
      · rintro i H2 _ rfl
        exact (Same.new _ hD2).seq (s1.seq hb)
      · rintro i x H2 hx rfl
        obtain ⟨r, j0, rfl, e1, e2⟩ := hj.get hx
        have s2 := s1.trans (Same.new (.lst []) hD2)
        refine ⟨rfl, ?_⟩
        refine ⟨_, rfl, r, _, 0, _, rfl, rfl, SqT.of (s2 _ _ e2.2), rfl, _, rfl, D, _, rfl, DGet.k (k := Sum.inr (kNm j0)) (Same.new _ hD2 _ _ hD1), _, rfl, ite2 (fun z => ?_) fun _ => rfl⟩
        exact absurd (hk j0 e2.1 z) (dj _ (List.mem_of_getElem? e1))
      · rintro H2 rfl
        have s2 := s1.trans (Same.new (.lst []) hD2)
        have d2 : upd H1 D2 (.lst []) D2 = some _ := upd_same
        generalize upd H1 D2 (.lst []) = H2 at *
        refine ⟨D2, [], rfl, SqL.of d2, by decide, fun ys p hp _ hq => ?_⟩
        obtain rfl := List.Perm.eq_nil hp
        have s3 := s2.trans (Same.new (.lst []) hq)
        refine ⟨_, rfl, p, [], rfl, .inl (SqL.of upd_same), _, _, rfl, rfl, _, rfl, ite2 (fun z => ?_) fun _ => k _ s3⟩
        exact absurd z (by decide)
end
end Sam
end
section
set_option Elab.async false
set_option linter.all false
set_option maxRecDepth 100000
set_option maxHeartbeats 1000000
namespace Sam
open PySem PySem.Spec PyProof.Rows L2
open C8 (pss_cut tCut call_isC InsC)

/-! ### things sorted -/
def itD (T : Nat → Thing) (i : Nat) : PyData := .tuple [.str (kNm i), .str (T i).g, .int ((T i).w : Int), .int (T i).am]
def so (l : List Nat) : List Nat := l.mergeSort fun i j => decide (i ≤ j)
theorem kNm_lt4 : ∀ i j : Fin 4, decide ((kNm i.val).cps.toList < (kNm j.val).cps.toList) = decide (i.val < j.val) := by decide +kernel
theorem alike_it (T : Nat → Thing) (i j : Nat) : PySem.W.alike (itD T i) (itD T j) = true := by simp [itD, PySem.W.alike, PySem.W.alikeAll]
theorem lt_it {T : Nat → Thing} {i j : Nat} (hi : i < 4) (hj : j < 4) : PySem.W.dataLt (itD T i) (itD T j) = decide (i < j) := by
  by_cases e : i = j
  · subst e
    have : PySem.W.dataLt (itD T i) (itD T i) = false := PyProof.Rows.lex_irrefl _
    rw [this]; simp
  · unfold itD
    rw [PySem.W.dataLt_tuple, PySem.W.dataLt_cons (by simp [PySem.W.alike])]
    have : PyData.eqv (.str (kNm i)) (.str (kNm j)) = false := by
      have hn : ¬ kNm i = kNm j := fun z => e (kNm_inj hi hj z)
      simp [PyData.eqv, hn]
    rw [this, if_neg (by decide), PySem.W.dataLt_str]
    exact kNm_lt4 ⟨i, hi⟩ ⟨j, hj⟩
theorem le_it {T : Nat → Thing} {i j : Nat} (hi : i < 4) (hj : j < 4) : PySem.W.dataLe false (Prod.snd : V × PyData → PyData) (.non, itD T i) (.non, itD T j) = decide (i ≤ j) := by
  rw [PySem.W.dataLe_eq]
  show (!PySem.W.dataLt (itD T j) (itD T i)) = _
  rw [lt_it hj hi]
  by_cases h : j < i
  · simp [h]
  · simp [h]; omega
theorem lex_len {α : Type} (r : α → α → Bool) (l : List α) : (l.mergeSort r).length = l.length := List.length_mergeSort l
/-- sorted of a list of things -/
theorem zok_items {T : Nat → Thing} {K : PySem.W.Frag} {G H : Hp} {rs : List Addr} {is : List Nat} (hG : Same G H) (h : Itms T G rs is) (hl : is.length ≤ 4) : ∃ zs rs', zs.map Prod.fst = refs rs ∧ ZOk K H zs ∧ (srtD zs).map Prod.fst = refs rs' ∧ Itms T G rs' (so is) := by
  have key : ∀ (rs : List Addr) (is : List Nat), Itms T G rs is → ∃ L : List (Addr × Nat), rs = L.map Prod.fst ∧ is = L.map Prod.snd ∧ ∀ p ∈ L, IsIt T G p.1 p.2 := by
    intro rs is h
    induction h with
    | nil => exact ⟨[], rfl, rfl, fun p hp => by simp at hp⟩
    | @cons a b l m r t ih =>
      obtain ⟨L, rfl, rfl, h3⟩ := ih
      exact ⟨(a, b) :: L, rfl, rfl, fun p hp => by
        rcases List.mem_cons.mp hp with rfl | hp
        · exact r
        · exact h3 p hp⟩
  have back : ∀ L : List (Addr × Nat), (∀ p ∈ L, IsIt T G p.1 p.2) → Itms T G (L.map Prod.fst) (L.map Prod.snd) := by
    intro L hL
    induction L with
    | nil => exact .nil
    | cons p r ih => exact .cons (hL p List.mem_cons_self) (ih fun q hq => hL q (List.mem_cons_of_mem _ hq))
  obtain ⟨L, rfl, rfl, hL⟩ := key rs is h
  rw [List.length_map] at hl
  have hp : ∀ p ∈ L.mergeSort (fun p q => decide (p.2 ≤ q.2)), IsIt T G p.1 p.2 := fun p hp => hL p ((List.mergeSort_perm L _).subset hp)
  have dp : ∀ p ∈ L, Dp K H (.ref p.1) (itD T p.2) := fun p hp => .tup (SqT.of (hG _ _ (hL p hp).2)) (.cons (.str _) (.cons (.str _) (.cons (.int _) (.cons (.int _) .nil))))
  have es : srtD (L.map fun p => ((V.ref p.1, itD T p.2) : V × PyData)) = (L.mergeSort (fun p q => decide (p.2 ≤ q.2))).map fun p => (V.ref p.1, itD T p.2) := by
    unfold srtD
    rw [List.map_mergeSort]
    intro a ha b hb
    exact (le_it (T := T) (hL a ha).1 (hL b hb).1).symm
  refine ⟨L.map fun p => (V.ref p.1, itD T p.2), (L.mergeSort (fun p q => decide (p.2 ≤ q.2))).map Prod.fst, by simp [refs], ⟨?_, ?_, ?_, ?_, ?_⟩, ?_, ?_⟩
  · intro z hz
    obtain ⟨p, hp, rfl⟩ := List.mem_map.mp hz
    exact dp p hp
  · intro d hd d' hd'
    simp only [List.map_map, List.mem_map] at hd hd'
    obtain ⟨p, _, rfl⟩ := hd
    obtain ⟨q, _, rfl⟩ := hd'
    exact alike_it T _ _
  · refine .inl fun d hd => ?_
    simp only [List.map_map, List.mem_map] at hd
    obtain ⟨p, _, rfl⟩ := hd
    exact ⟨_, _, rfl⟩
  · rw [List.length_map]
    exact Nat.le_of_lt (small1000 (by omega))
  · intro z hz
    obtain ⟨p, hp, rfl⟩ := List.mem_map.mp hz
    simp [itD, PyData.depth, PyData.depthAll]
  · rw [es]; simp [refs]
  · have := back _ hp
    have e2 : (L.mergeSort (fun p q => decide (p.2 ≤ q.2))).map Prod.snd = so (L.map Prod.snd) := by
      unfold so
      rw [List.map_mergeSort]
      intro a _ b _
      rfl
    rw [e2] at this
    exact this
end Sam
end
section
set_option Elab.async false
set_option linter.all false
set_option maxRecDepth 100000
set_option maxHeartbeats 1000000
namespace Sam
open PySem PySem.Spec PyProof.Rows L2
open C8 (pss_cut tCut call_isC InsC)

/-! ### the two kinds of samples -/
structure Kd where
  C : Addr
  co : Obj
  nm : Str
  f2 : Str
structure KdOk (K : PySem.W.Frag) (D : Kd) : Prop where
  cl : Cls (KC K D.C D.co) D.C
  na : ∀ f ∈ smN D.f2, NoAttr (KC K D.C D.co) D.C f
  nd : (smN D.f2).Nodup
  nm : NmS K D.C D.co D.nm
  me : PySem.W.kitOne (KC K D.C D.co) (.ref D.C) (.ref D.C) = some true
theorem KdOk.n {K : PySem.W.Frag} {D : Kd} (c : KdOk K D) (i : Nat) {f : Str} (h : (smN D.f2)[i]? = some f := by rfl) : NoAttr (KC K D.C D.co) D.C f := c.na f (List.mem_of_getElem? h)
abbrev Kd.cls (D : Kd) : HO := clsO D.C D.co D.nm
abbrev Kd.ins (D : Kd) (dx : Addr) (k : Int) (n : Int) (L : Addr) : HO := .ins D.C dx ((smN D.f2).zip [.int k, .int n, .ref L])
/-- the sample that stands at a -/
structure SmIs (D : Kd) (T : Nat → Thing) (k : Nat) (G : Hp) (a : Addr) (s : Smp Nat) : Prop where
  ins : ∃ dx L rs, G a = some (D.ins dx (k : Int) (s.n : Int) L) ∧ G L = some (.lst (refs rs)) ∧ Itms T G rs s.kept
  cls : G D.C = some D.cls
theorem SmIs.mono {D : Kd} {T : Nat → Thing} {k : Nat} {G G' : Hp} {a : Addr} {s : Smp Nat} (e : Same G G') (h : SmIs D T k G a s) : SmIs D T k G' a s :=
  let ⟨dx, L, rs, h1, h2, h3⟩ := h.ins
  ⟨⟨dx, L, rs, e _ _ h1, e _ _ h2, h3.mono e⟩, e _ _ h.cls⟩
theorem sp_two (f g : Str) (x y : V) : (putF g y (putF f x [])).length < 1000 := by
  have a := length_putF g y (putF f x [])
  have b := length_putF f x []
  simp at b
  omega
def spInit (D : Kd) : Sp := fun vs H Q _ => ∃ (x dx l : Addr) (k n : Int) (xs : List V), vs = [.ref x, .int k, .int n, .ref l] ∧ H x = some (.ins D.C dx []) ∧ H D.C = some D.cls ∧ H l = some (.lst xs) ∧ 
  ∀ L H', H L = none → H' x = some (D.ins dx k n L) → H' L = some (.lst xs) → (∀ b, b ≠ x → b ≠ L → H' b = H b) → Q .non H'
section
variable {P : Program} {w : World} {K : PySem.W.Frag} {mg : Str → Option Value} {base : Heap}
def kU (C : Addr) (co : Obj) : Kd := ⟨C, co, "Uniform", "seen"⟩
def kW (C : Addr) (co : Obj) : Kd := ⟨C, co, "Weighted", "total"⟩


theorem scuS0 : FnScope ["self", "size", "seen", "kept"] ["self", "size", "seen", "kept"] (defScope (uS 0)) := ⟨rfl, rfl, rfl, by decide +kernel, rfl, by decide +kernel, by decide +kernel⟩
theorem ok_uSInit {C : Addr} {co : Obj} (B : Bn mg) (O : KdOk K (kU C co)) (d : DcS K C co "Uniform.__init__" (uS 0) ["self", "size", "seen", "kept"]) : CtS P w K mg base C co ["self", "size", "seen", "kept"] 1 (spInit (kU C co)) := by
  refine d.ok scuS0 (fun vs H Q E h => ?_) (fun f cdv A outer s H vs Q E hr h => ?_)
  · obtain ⟨x, dx, l, k, n, xs, rfl, _⟩ := h
    rfl
  · obtain ⟨x, dx, l, k, n, xs, rfl, hx, hC, hl, q⟩ := h
    have nlx : l ≠ x := ne_of hl hx (by intro z; cases z)
    have nCx : C ≠ x := ne_of hC hx (by intro z; cases z)
    refine ⟨_, pss_cons (ps_st (pv 0) (pv 1)) (pss_cons (ps_st (pv 0) (pv 2)) (pss_one (ps_st (pv 0) (pe_callTy call_list_of (by rfl) B.list (by decide +kernel) (pa_cons (pv 3) pa_nil))))), ?_⟩
    refine ⟨_, rfl, _, rfl, x, C, co, _, dx, _, rfl, hx, hC, O.cl, O.n 0, (by decide), ?_⟩
    refine ⟨_, rfl, _, rfl, x, C, co, _, dx, _, rfl, upd_same, (upd_ne nCx).trans hC, O.cl, O.n 1, (by simp [putF]), ?_⟩
    refine ⟨_, rfl, l, xs, rfl, .inl (SqL.of ((upd_ne nlx).trans ((upd_ne nlx).trans hl))), fun L hL => ?_⟩
    have hL0 : H L = none := by
      by_cases z : L = x
      · subst z; rw [upd_same] at hL; cases hL
      · rw [upd_ne z, upd_ne z] at hL; exact hL
    have nL : x ≠ L := ne_of_none hx hL0
    have nCL : C ≠ L := ne_of_none hC hL0
    refine ⟨_, rfl, x, C, co, _, dx, _, rfl, (upd_ne nL).trans upd_same, (upd_ne nCL).trans ((upd_ne nCx).trans ((upd_ne nCx).trans hC)), O.cl, O.n 2, (sp_two _ _ _ _), ?_⟩
    refine q L _ hL0 ?_ ((upd_ne nL.symm).trans upd_same) (fun b h1 h2 => by rw [upd_ne h1, upd_ne h2, upd_ne h1, upd_ne h1])
    have e1 : putF "size" (V.int k) [] = (smN "seen").zip [.int k] := zput_new (ns := smN "seen") (vs := []) O.nd rfl
    have e2 : putF "seen" (V.int n) ((smN "seen").zip [.int k]) = (smN "seen").zip [.int k, .int n] := zput_new (ns := smN "seen") (vs := [.int k]) O.nd rfl
    have e3 : putF "kept" (V.ref L) ((smN "seen").zip [.int k, .int n]) = (smN "seen").zip [.int k, .int n, .ref L] := zput_new (ns := smN "seen") (vs := [.int k, .int n]) O.nd rfl
    have e : putF "kept" (V.ref L) (putF "seen" (V.int n) (putF "size" (V.int k) [])) = (smN "seen").zip [.int k, .int n, .ref L] := by rw [e1, e2, e3]
    rw [upd_same]
    exact congrArg (fun z => some (HO.ins C dx z)) e


theorem scwS0 : FnScope ["self", "size", "total", "kept"] ["self", "size", "total", "kept"] (defScope (wS 0)) := ⟨rfl, rfl, rfl, by decide +kernel, rfl, by decide +kernel, by decide +kernel⟩
theorem ok_wSInit {C : Addr} {co : Obj} (B : Bn mg) (O : KdOk K (kW C co)) (d : DcS K C co "Weighted.__init__" (wS 0) ["self", "size", "total", "kept"]) : CtS P w K mg base C co ["self", "size", "total", "kept"] 1 (spInit (kW C co)) := by
  refine d.ok scwS0 (fun vs H Q E h => ?_) (fun f cdv A outer s H vs Q E hr h => ?_)
  · obtain ⟨x, dx, l, k, n, xs, rfl, _⟩ := h
    rfl
  · obtain ⟨x, dx, l, k, n, xs, rfl, hx, hC, hl, q⟩ := h
    have nlx : l ≠ x := ne_of hl hx (by intro z; cases z)
    have nCx : C ≠ x := ne_of hC hx (by intro z; cases z)
    refine ⟨_, pss_cons (ps_st (pv 0) (pv 1)) (pss_cons (ps_st (pv 0) (pv 2)) (pss_one (ps_st (pv 0) (pe_callTy call_list_of (by rfl) B.list (by decide +kernel) (pa_cons (pv 3) pa_nil))))), ?_⟩
    refine ⟨_, rfl, _, rfl, x, C, co, _, dx, _, rfl, hx, hC, O.cl, O.n 0, (by decide), ?_⟩
    refine ⟨_, rfl, _, rfl, x, C, co, _, dx, _, rfl, upd_same, (upd_ne nCx).trans hC, O.cl, O.n 1, (by simp [putF]), ?_⟩
    refine ⟨_, rfl, l, xs, rfl, .inl (SqL.of ((upd_ne nlx).trans ((upd_ne nlx).trans hl))), fun L hL => ?_⟩
    have hL0 : H L = none := by
      by_cases z : L = x
      · subst z; rw [upd_same] at hL; cases hL
      · rw [upd_ne z, upd_ne z] at hL; exact hL
    have nL : x ≠ L := ne_of_none hx hL0
    have nCL : C ≠ L := ne_of_none hC hL0
    refine ⟨_, rfl, x, C, co, _, dx, _, rfl, (upd_ne nL).trans upd_same, (upd_ne nCL).trans ((upd_ne nCx).trans ((upd_ne nCx).trans hC)), O.cl, O.n 2, (sp_two _ _ _ _), ?_⟩
    refine q L _ hL0 ?_ ((upd_ne nL.symm).trans upd_same) (fun b h1 h2 => by rw [upd_ne h1, upd_ne h2, upd_ne h1, upd_ne h1])
    have e1 : putF "size" (V.int k) [] = (smN "total").zip [.int k] := zput_new (ns := smN "total") (vs := []) O.nd rfl
    have e2 : putF "total" (V.int n) ((smN "total").zip [.int k]) = (smN "total").zip [.int k, .int n] := zput_new (ns := smN "total") (vs := [.int k]) O.nd rfl
    have e3 : putF "kept" (V.ref L) ((smN "total").zip [.int k, .int n]) = (smN "total").zip [.int k, .int n, .ref L] := zput_new (ns := smN "total") (vs := [.int k, .int n]) O.nd rfl
    have e : putF "kept" (V.ref L) (putF "total" (V.int n) (putF "size" (V.int k) [])) = (smN "total").zip [.int k, .int n, .ref L] := by rw [e1, e2, e3]
    rw [upd_same]
    exact congrArg (fun z => some (HO.ins C dx z)) e

end
end Sam
end
section
set_option Elab.async false
set_option linter.all false
set_option maxRecDepth 100000
set_option maxHeartbeats 1000000
namespace Sam
open PySem PySem.Spec PyProof.Rows L2
open C8 (pss_cut tCut call_isC InsC)
open PySem.W (findCls readsIn recIn specialIn fnIn)
structure DmC (K : PySem.W.Frag) (C : Addr) (o : Obj) (m q : Str) (st : Stmt) (ps : List Str) : Prop where
  ex : ∃ (mc : Value) (pr g : Addr) (fd : FuncData), Fun K m q st g fd ∧ readsIn (KC K C o) C mc = true ∧ specialIn (KC K C o) (.ref C) "__getattribute__" = some (some (.builtin "type.__getattribute__")) ∧
    findCls (KC K C o) (.ref C) mc m = some (.get (.builtin "classmethod.__get__") (.ref pr) .none (.ref C)) ∧ (∃ rest, recIn K pr "classmethod" = some (.ref g :: rest)) ∧ fnIn K g = true ∧ Binds K fd ps []
section
variable {P : Program} {w : World} {K : PySem.W.Frag} {mg : Str → Option Value} {base : Heap}
theorem DmC.ok {C : Addr} {o : Obj} {m q : Str} {st : Stmt} {N ps : List Str} {k : Nat} {sp : Sp} (d : DmC K C o m q st ps) (S : FnScope N ps (defScope st)) (len : ∀ vs H Q E, sp vs H Q E → vs.length = ps.length)
    (hbody : ∀ (f : Addr) (cdv : Value) (A : Around) (outer : List Env) (s : Shared) (H : Hp) (vs : List V) (Q : VK) (E : XK), Room k (A.deeper (envOfC q (defScope st) s.heap.objs.size f cdv)) → sp vs H Q E →
      ∃ t, PSs (cxOf CX0 P w K mg base N q (defScope st) f cdv A outer s H E).nox (defBody st) t ∧ t { nx := fun _ H' => Q .non H', rt := Q } (start N vs) H) : CmS P w K mg base C o m ps (k + 1) sp := by
  obtain ⟨mc, pr, g, fd, F, h1, h2, h3, h4, h5, hb⟩ := d.ex
  exact ⟨mc, pr, g, fd, h1, h2, h3, h4, h5, hb, F.ok S len (hbody g)⟩
/-- a sample is made -/
theorem make_sm {D : Kd} {T : Nat → Thing} {k : Nat} {ms : List Addr} {G H G1 H1 : Hp} {l : Addr} {rs : List Addr} {is : List Nat} {n : Nat} {Q : VK} (X : Ext ms G H G1 H1) (hl : H1 l = some (.lst (refs rs))) (hi : Itms T G1 rs is) (hC : G1 D.C = some D.cls)
    (q : ∀ a G2 H2, Ext ms G H G2 H2 → Same G1 G2 → Same H1 H2 → SmIs D T k G2 a ⟨n, is⟩ → Q (.ref a) H2) :
    H1 D.C = some D.cls ∧ ∀ x dx, H1 x = none → H1 dx = none → dx ≠ x → spInit D (.ref x :: [.int (k : Int), .int (n : Int), .ref l]) (upd (upd H1 dx (.own x)) x (.ins D.C dx [])) (fun v H2 => v = .non ∧ Q (.ref x) H2) E0 := by
  refine ⟨X.gh _ _ hC, fun x dx hx hdx hne => ⟨x, dx, l, k, n, refs rs, rfl, upd_same, ?_, ?_, fun L H' hL h1 h2 h3 => ⟨rfl, ?_⟩⟩⟩
  · have hC' := X.gh _ _ hC
    rw [upd_ne (ne_of_none hC' hx), upd_ne (ne_of_none hC' hdx)]; exact hC'
  · rw [upd_ne (ne_of_none hl hx), upd_ne (ne_of_none hl hdx)]; exact hl
  · have nLx : L ≠ x := fun z => by subst z; rw [upd_same] at hL; cases hL
    rw [upd_ne nLx] at hL
    have nLd : L ≠ dx := fun z => by subst z; rw [upd_same] at hL; cases hL
    have hL0 : H1 L = none := by rw [upd_ne nLd] at hL; exact hL
    have e : H' = upd (upd (upd H1 dx (.own x)) L (.lst (refs rs))) x (D.ins dx k n L) := by
      funext b
      by_cases b1 : b = x
      · subst b1; rw [upd_same, h1]
      · rw [upd_ne b1]
        by_cases b2 : b = L
        · subst b2; rw [upd_same, h2]
        · rw [upd_ne b2, h3 b b1 b2, upd_ne b1]
    have hx2 : upd (upd H1 dx (.own x)) L (.lst (refs rs)) x = none := by rw [upd_ne nLx.symm, upd_ne hne.symm]; exact hx
    have X2 := ((X.tmp (o := .own x) hdx).new (o := .lst (refs rs)) hL).new (o := D.ins dx k n L) hx2
    have s2 : Same G1 (upd (upd G1 L (.lst (refs rs))) x (D.ins dx k n L)) := (Same.new _ (X.gh.free hL0)).trans (Same.new _ ((Same.updS L _ X.gh).free (by rw [upd_ne nLx.symm]; exact hx)))
    have s3 : Same H1 H' := by
      rw [e]
      exact ((Same.new _ hdx).trans (Same.new _ hL)).trans (Same.new _ hx2)
    rw [e] at s3 ⊢
    refine q x _ _ X2 s2 s3 ⟨⟨dx, L, rs, upd_same, (upd_ne nLx).trans upd_same, hi.mono s2⟩, s2 _ _ hC⟩

/-! view -/
/-- what a sample shows -/
def vwV (k : Nat) (n : Nat) (t : Addr) : List V := [.int (k : Int), .int (n : Int), .ref t]
def VwIs (T : Nat → Thing) (k : Nat) (G : Hp) (a : Addr) (s : Smp Nat) : Prop := ∃ t rs, G a = some (.tup (vwV k s.n t)) ∧ G t = some (.tup (refs rs)) ∧ Itms T G rs s.kept
theorem VwIs.mono {T : Nat → Thing} {k : Nat} {G G' : Hp} {a : Addr} {s : Smp Nat} (e : Same G G') (h : VwIs T k G a s) : VwIs T k G' a s :=
  let ⟨t, rs, h1, h2, h3⟩ := h
  ⟨t, rs, e _ _ h1, e _ _ h2, h3.mono e⟩
def spView (D : Kd) (T : Nat → Thing) (k : Nat) : Sp := fun vs H Q _ => ∃ (G : Hp) (a : Addr) (s : Smp Nat), vs = [.ref a] ∧ Same G H ∧ SmIs D T k G a s ∧ ∀ G' H' r, Ext [] G H G' H' → VwIs T k G' r s → Q (.ref r) H'
def spSingle (D : Kd) (T : Nat → Thing) (one : Nat → Nat) : Sp := fun vs H Q _ => ∃ (G : Hp) (a : Addr) (i k : Nat), vs = [.ref D.C, .ref a, .int (k : Int)] ∧ Same G H ∧ IsIt T G a i ∧ G D.C = some D.cls ∧ (1 ≤ k ∧ k ≤ 20) ∧
  ∀ G' H' r, Ext [] G H G' H' → SmIs D T k G' r ⟨one i, [i]⟩ → Q (.ref r) H'
def spCheck (D : Kd) (T : Nat → Thing) (k : Nat) : Sp := fun vs H Q _ => ∃ (G : Hp) (a b : Addr) (s t : Smp Nat), vs = [.ref a, .ref b] ∧ Same G H ∧ SmIs D T k G a s ∧ SmIs D T k G b t ∧ (s.kept.length ≤ 4 ∧ t.kept.length ≤ 4) ∧ (∀ j ∈ t.kept, j ∉ s.kept) ∧
  ∀ H', Same H H' → Q .non H'


theorem scuS5 : FnScope ["self"] ["self"] (defScope (uS 5)) := ⟨rfl, rfl, rfl, by decide +kernel, rfl, by decide +kernel, by decide +kernel⟩
theorem ok_uSView {C : Addr} {co : Obj} {T : Nat → Thing} {k : Nat} (B : Bn mg) (O : KdOk K (kU C co)) (d : DmS K C co "view" "Uniform.view" (uS 5) ["self"]) : MtS P w K mg base C co "view" ["self"] 1 (spView (kU C co) T k) := by
  refine d.ok scuS5 (fun vs H Q E h => ?_) (fun f cdv A outer s H vs Q E hr h => ?_)
  · obtain ⟨G, a, s, rfl, _⟩ := h
    rfl
  · obtain ⟨G, a, s, rfl, hG, hS, q⟩ := h
    obtain ⟨dx, L, rs, h1, h2, h3⟩ := hS.ins
    have hC := hS.cls
    refine ⟨_, pss_one (ps_ret (pe_tup (pa_cons (ps_f K (pv 0)) (pa_cons (ps_f K (pv 0)) (pa_cons (pe_callTy call_tuple_of (by rfl) B.tuple (by decide +kernel) (pa_cons (ps_f K (pv 0)) pa_nil)) pa_nil))))), ?_⟩
    refine ⟨_, rfl, a, C, co, _, dx, _, _, rfl, hG _ _ h1, hG _ _ hC, O.cl, O.n 0, zlook (i := 0) O.nd rfl, ?_⟩
    refine ⟨_, rfl, a, C, co, _, dx, _, _, rfl, hG _ _ h1, hG _ _ hC, O.cl, O.n 1, zlook (i := 1) O.nd rfl, ?_⟩
    refine ⟨_, rfl, a, C, co, _, dx, _, _, rfl, hG _ _ h1, hG _ _ hC, O.cl, O.n 2, zlook (i := 2) O.nd rfl, ?_⟩
    refine ⟨L, refs rs, rfl, .inl ⟨SqL.of (hG _ _ h2), fun t ht => ?_⟩⟩
    have X1 := (Ext.refl (ms := []) hG).new (o := .tup (refs rs)) ht
    have s1 := Same.new (.tup (refs rs)) (hG.free ht)
    have d1 : upd G t (.tup (refs rs)) t = some _ := upd_same
    generalize upd G t (.tup (refs rs)) = G1 at *
    generalize upd H t (.tup (refs rs)) = H1 at *
    refine ⟨(by show 3 ≤ sizeLine; decide), fun r hr' => ?_⟩
    have s2 := s1.trans (Same.new (.tup [.int (k : Int), .int (s.n : Int), .ref t]) (X1.gh.free hr'))
    refine q _ _ r (X1.new (o := .tup [.int (k : Int), .int (s.n : Int), .ref t]) hr') ⟨t, rs, upd_same, Same.new _ (X1.gh.free hr') _ _ d1, h3.mono s2⟩
theorem scuS2 : FnScope ["cls", "item", "size"] ["cls", "item", "size"] (defScope (uS 2)) := ⟨rfl, rfl, rfl, by decide +kernel, rfl, by decide +kernel, by decide +kernel⟩
theorem ok_uSSingle {C : Addr} {co : Obj} {T : Nat → Thing} (B : Bn mg) (O : KdOk K (kU C co)) (d : DmC K C co "single" "Uniform.single" (uS 2) ["cls", "item", "size"]) (cI : CtS P w K mg base C co ["self", "size", "seen", "kept"] 1 (spInit (kU C co)))
    (cS : Cl P w K mg base "check_size" ["size"] 1 spSize) : CmS P w K mg base C co "single" ["cls", "item", "size"] 3 (spSingle (kU C co) T (fun _ => 1)) := by
  refine d.ok scuS2 (fun vs H Q E h => ?_) (fun f cdv A outer s H vs Q E hr h => ?_)
  · obtain ⟨G, a, i, k, rfl, _⟩ := h
    rfl
  · obtain ⟨G, a, i, k, rfl, hG, hI, hC, ⟨k1, k2⟩, q⟩ := h
    refine ⟨_, pss_cons (ps_expr (pe_c cS hr (pa_cons (pv 2) pa_nil))) (pss_one (ps_ret (ps_kl (nm := "Uniform") 0 cI rfl (.inl rfl) hr (pa_cons (pv 2) (pa_cons pe_int (pa_cons (pe_lst (pa_cons (pv 1) pa_nil)) pa_nil)))))), ?_⟩
    refine ⟨_, rfl, (k : Int), rfl, by omega, by omega, rfl, _, rfl, _, rfl, ?_⟩
    refine ⟨(by show 1 ≤ sizeLine; decide), fun l hl => ?_⟩
    have X1 := (Ext.refl (ms := []) hG).tmp (o := .lst [.ref a]) hl
    exact make_sm (D := kU C co) (T := T) (rs := [a]) (is := [i]) (n := 1) X1 upd_same (.cons hI .nil) hC fun r G2 H2 X2 _ _ hS => q G2 H2 r X2 hS
theorem scuS3 : FnScope ["self", "other"] ["self", "other"] (defScope (uS 3)) := ⟨rfl, rfl, rfl, by decide +kernel, rfl, by decide +kernel, by decide +kernel⟩
theorem ok_uSCheck {C : Addr} {co : Obj} {T : Nat → Thing} {k : Nat} (B : Bn mg) (O : KdOk K (kU C co)) (hm : mg "Uniform" = some (.ref C)) (d : DmS K C co "check" "Uniform.check" (uS 3) ["self", "other"])
    (cK : Cl P w K mg base "check_keys" ["first", "second"] 1 (spKeys T K)) : MtS P w K mg base C co "check" ["self", "other"] 2 (spCheck (kU C co) T k) := by
  refine d.ok scuS3 (fun vs H Q E h => ?_) (fun f cdv A outer s H vs Q E hr h => ?_)
  · obtain ⟨G, a, b, s, t, rfl, _⟩ := h
    rfl
  · obtain ⟨G, a, b, s, t, rfl, hG, hS, hT, ⟨ls, lt⟩, dj, q⟩ := h
    obtain ⟨dx, L, rs, h1, h2, h3⟩ := hS.ins
    obtain ⟨dx', L', rs', i1, i2, i3⟩ := hT.ins
    have hC := hS.cls
    have nm := O.nm
    refine ⟨_, pss_cons (ps_if (PW.pt (pw_or (pt_not (pt_val (pe_callB (call_isS (co := co) (nm := "Uniform") nm.ha nm.hn nm.htk nm.hm O.cl O.me) (by rfl) B.isinstance (by decide +kernel) (pa_cons (pv 1) (pa_cons (pe_glob (v := .ref C) (by rfl) hm rfl) pa_nil)))))
        (pw_or1 (pt_cmpR op_ne (ps_f K (pv 1)) (ps_f K (pv 0)) (nomark _))))) pss_never pss_nil)
      (pss_one (ps_expr (pe_c cK hr (pa_cons (ps_f K (pv 0)) (pa_cons (ps_f K (pv 1)) pa_nil))))), ?_⟩
    refine ⟨_, rfl, b, dx', _, rfl, hG _ _ i1, hG _ _ hC, true, rfl, ?_⟩
    refine iteF ?_
    refine ⟨_, rfl, b, C, co, _, dx', _, _, rfl, hG _ _ i1, hG _ _ hC, O.cl, O.n 0, zlook (i := 0) O.nd rfl, ?_⟩
    refine ⟨_, rfl, a, C, co, _, dx, _, _, rfl, hG _ _ h1, hG _ _ hC, O.cl, O.n 0, zlook (i := 0) O.nd rfl, ?_⟩
    refine ⟨rfl, _, rfl, ite2 (fun z => absurd z (by simp)) fun _ => ?_⟩
    refine ⟨_, rfl, a, C, co, _, dx, _, _, rfl, hG _ _ h1, hG _ _ hC, O.cl, O.n 2, zlook (i := 2) O.nd rfl, ?_⟩
    refine ⟨_, rfl, b, C, co, _, dx', _, _, rfl, hG _ _ i1, hG _ _ hC, O.cl, O.n 2, zlook (i := 2) O.nd rfl, ?_⟩
    exact ⟨L, L', rs, rs', s.kept, t.kept, rfl, SqL.of (hG _ _ h2), SqL.of (hG _ _ i2), h3.mono hG, i3.mono hG, ⟨ls, lt⟩, dj, q⟩


theorem scwS5 : FnScope ["self"] ["self"] (defScope (wS 5)) := ⟨rfl, rfl, rfl, by decide +kernel, rfl, by decide +kernel, by decide +kernel⟩
theorem ok_wSView {C : Addr} {co : Obj} {T : Nat → Thing} {k : Nat} (B : Bn mg) (O : KdOk K (kW C co)) (d : DmS K C co "view" "Weighted.view" (wS 5) ["self"]) : MtS P w K mg base C co "view" ["self"] 1 (spView (kW C co) T k) := by
  refine d.ok scwS5 (fun vs H Q E h => ?_) (fun f cdv A outer s H vs Q E hr h => ?_)
  · obtain ⟨G, a, s, rfl, _⟩ := h
    rfl
  · obtain ⟨G, a, s, rfl, hG, hS, q⟩ := h
    obtain ⟨dx, L, rs, h1, h2, h3⟩ := hS.ins
    have hC := hS.cls
    refine ⟨_, pss_one (ps_ret (pe_tup (pa_cons (ps_f K (pv 0)) (pa_cons (ps_f K (pv 0)) (pa_cons (pe_callTy call_tuple_of (by rfl) B.tuple (by decide +kernel) (pa_cons (ps_f K (pv 0)) pa_nil)) pa_nil))))), ?_⟩
    refine ⟨_, rfl, a, C, co, _, dx, _, _, rfl, hG _ _ h1, hG _ _ hC, O.cl, O.n 0, zlook (i := 0) O.nd rfl, ?_⟩
    refine ⟨_, rfl, a, C, co, _, dx, _, _, rfl, hG _ _ h1, hG _ _ hC, O.cl, O.n 1, zlook (i := 1) O.nd rfl, ?_⟩
    refine ⟨_, rfl, a, C, co, _, dx, _, _, rfl, hG _ _ h1, hG _ _ hC, O.cl, O.n 2, zlook (i := 2) O.nd rfl, ?_⟩
    refine ⟨L, refs rs, rfl, .inl ⟨SqL.of (hG _ _ h2), fun t ht => ?_⟩⟩
    have X1 := (Ext.refl (ms := []) hG).new (o := .tup (refs rs)) ht
    have s1 := Same.new (.tup (refs rs)) (hG.free ht)
    have d1 : upd G t (.tup (refs rs)) t = some _ := upd_same
    generalize upd G t (.tup (refs rs)) = G1 at *
    generalize upd H t (.tup (refs rs)) = H1 at *
    refine ⟨(by show 3 ≤ sizeLine; decide), fun r hr' => ?_⟩
    have s2 := s1.trans (Same.new (.tup [.int (k : Int), .int (s.n : Int), .ref t]) (X1.gh.free hr'))
    refine q _ _ r (X1.new (o := .tup [.int (k : Int), .int (s.n : Int), .ref t]) hr') ⟨t, rs, upd_same, Same.new _ (X1.gh.free hr') _ _ d1, h3.mono s2⟩
theorem scwS2 : FnScope ["cls", "item", "size"] ["cls", "item", "size"] (defScope (wS 2)) := ⟨rfl, rfl, rfl, by decide +kernel, rfl, by decide +kernel, by decide +kernel⟩
theorem ok_wSSingle {C : Addr} {co : Obj} {T : Nat → Thing} (B : Bn mg) (O : KdOk K (kW C co)) (d : DmC K C co "single" "Weighted.single" (wS 2) ["cls", "item", "size"]) (cI : CtS P w K mg base C co ["self", "size", "total", "kept"] 1 (spInit (kW C co)))
    (cS : Cl P w K mg base "check_size" ["size"] 1 spSize) : CmS P w K mg base C co "single" ["cls", "item", "size"] 3 (spSingle (kW C co) T (fun i => (T i).w)) := by
  refine d.ok scwS2 (fun vs H Q E h => ?_) (fun f cdv A outer s H vs Q E hr h => ?_)
  · obtain ⟨G, a, i, k, rfl, _⟩ := h
    rfl
  · obtain ⟨G, a, i, k, rfl, hG, hI, hC, ⟨k1, k2⟩, q⟩ := h
    refine ⟨_, pss_cons (ps_expr (pe_c cS hr (pa_cons (pv 2) pa_nil))) (pss_one (ps_ret (ps_kl (nm := "Weighted") 0 cI rfl (.inl rfl) hr (pa_cons (pv 2) (pa_cons (pe_ix ix_tup (pv 1) pe_int (fun _ _ => rfl)) (pa_cons (pe_lst (pa_cons (pv 1) pa_nil)) pa_nil)))))), ?_⟩
    refine ⟨_, rfl, (k : Int), rfl, by omega, by omega, rfl, _, rfl, _, rfl, a, _, 2, _, rfl, rfl, SqT.of (hG _ _ hI.2), rfl, _, rfl, ?_⟩
    refine ⟨(by show 1 ≤ sizeLine; decide), fun l hl => ?_⟩
    have X1 := (Ext.refl (ms := []) hG).tmp (o := .lst [.ref a]) hl
    exact make_sm (D := kW C co) (T := T) (rs := [a]) (is := [i]) (n := (T i).w) X1 upd_same (.cons hI .nil) hC fun r G2 H2 X2 _ _ hS => q G2 H2 r X2 hS
theorem scwS3 : FnScope ["self", "other"] ["self", "other"] (defScope (wS 3)) := ⟨rfl, rfl, rfl, by decide +kernel, rfl, by decide +kernel, by decide +kernel⟩
theorem ok_wSCheck {C : Addr} {co : Obj} {T : Nat → Thing} {k : Nat} (B : Bn mg) (O : KdOk K (kW C co)) (hm : mg "Weighted" = some (.ref C)) (d : DmS K C co "check" "Weighted.check" (wS 3) ["self", "other"])
    (cK : Cl P w K mg base "check_keys" ["first", "second"] 1 (spKeys T K)) : MtS P w K mg base C co "check" ["self", "other"] 2 (spCheck (kW C co) T k) := by
  refine d.ok scwS3 (fun vs H Q E h => ?_) (fun f cdv A outer s H vs Q E hr h => ?_)
  · obtain ⟨G, a, b, s, t, rfl, _⟩ := h
    rfl
  · obtain ⟨G, a, b, s, t, rfl, hG, hS, hT, ⟨ls, lt⟩, dj, q⟩ := h
    obtain ⟨dx, L, rs, h1, h2, h3⟩ := hS.ins
    obtain ⟨dx', L', rs', i1, i2, i3⟩ := hT.ins
    have hC := hS.cls
    have nm := O.nm
    refine ⟨_, pss_cons (ps_if (PW.pt (pw_or (pt_not (pt_val (pe_callB (call_isS (co := co) (nm := "Weighted") nm.ha nm.hn nm.htk nm.hm O.cl O.me) (by rfl) B.isinstance (by decide +kernel) (pa_cons (pv 1) (pa_cons (pe_glob (v := .ref C) (by rfl) hm rfl) pa_nil)))))
        (pw_or1 (pt_cmpR op_ne (ps_f K (pv 1)) (ps_f K (pv 0)) (nomark _))))) pss_never pss_nil)
      (pss_one (ps_expr (pe_c cK hr (pa_cons (ps_f K (pv 0)) (pa_cons (ps_f K (pv 1)) pa_nil))))), ?_⟩
    refine ⟨_, rfl, b, dx', _, rfl, hG _ _ i1, hG _ _ hC, true, rfl, ?_⟩
    refine iteF ?_
    refine ⟨_, rfl, b, C, co, _, dx', _, _, rfl, hG _ _ i1, hG _ _ hC, O.cl, O.n 0, zlook (i := 0) O.nd rfl, ?_⟩
    refine ⟨_, rfl, a, C, co, _, dx, _, _, rfl, hG _ _ h1, hG _ _ hC, O.cl, O.n 0, zlook (i := 0) O.nd rfl, ?_⟩
    refine ⟨rfl, _, rfl, ite2 (fun z => absurd z (by simp)) fun _ => ?_⟩
    refine ⟨_, rfl, a, C, co, _, dx, _, _, rfl, hG _ _ h1, hG _ _ hC, O.cl, O.n 2, zlook (i := 2) O.nd rfl, ?_⟩
    refine ⟨_, rfl, b, C, co, _, dx', _, _, rfl, hG _ _ i1, hG _ _ hC, O.cl, O.n 2, zlook (i := 2) O.nd rfl, ?_⟩
    exact ⟨L, L', rs, rs', s.kept, t.kept, rfl, SqL.of (hG _ _ h2), SqL.of (hG _ _ i2), h3.mono hG, i3.mono hG, ⟨ls, lt⟩, dj, q⟩

end
end Sam
end
section
set_option Elab.async false
set_option linter.all false
set_option maxRecDepth 100000
set_option maxHeartbeats 1000000
namespace Sam
open PySem PySem.Spec PyProof.Rows L2
open C8 (pss_cut tCut call_isC InsC)
structure DX where
  e : Addr
  dx : Addr
  Pa : Addr
  R : Addr
  opn : Bool
  over : Bool
  many : Nat
abbrev DiAt (K : PySem.W.Frag) (CE : Addr) (G H : Hp) (D : DX) (x : ES) : Prop := ExAt K CE G H D.e D.dx D.Pa D.R x D.opn D.over D.many
abbrev DX.ms (D : DX) : List Addr := [D.e, D.Pa]
section
variable {P : Program} {w : World} {K : PySem.W.Frag} {mg : Str → Option Value} {base : Heap} {CE : Addr}
/-- one pick on the way -/
theorem pick_step {α : Type} {G H : Hp} {D : DX} {x : ES} {ws : List Nat} {kk : Nat → Tr α} {l : Addr} {Q : VK} {E : XK} (hG : Same G H) (hE : DiAt K CE G H D x) (hr : (Tr.pick ws kk).Run x) (hl : H l = some (.lst (intsV ws))) (hn : l ≠ D.Pa) (hw : ws.length ≤ 24)
    (q : ∀ i G' H' x', i < ws.length → 0 < ws.getD i 0 → Ext D.ms G H G' H' → DiAt K CE G' H' D x' → (kk i).Run x' → (kk i).exec x' = (Tr.pick ws kk).exec x → Q (.int (i : Int)) H') : spPick K CE [.ref D.e, .ref l] H Q E := by
  obtain ⟨⟨h0, h1⟩, h2, h3, h4⟩ := hr
  obtain ⟨p1, p2, _⟩ := pickS_spec h0 h3
  exact ⟨G, D.e, D.dx, D.Pa, D.R, x, D.opn, D.over, D.many, l, ws, rfl, hG, hE, hl, hn, ⟨h0, h1, hw⟩, h2, h3, fun G' H' X hE' => q _ G' H' _ p1 p2 X hE' h4 rfl⟩
theorem exF_look (Pa c R : Addr) (x : ES) (o v : Bool) (m : Nat) {f : Str} (h : f ∉ exN := by decide) : (exF Pa x c o v m R).lookup f = none := zlook_none h _
/-- what a merge promises -/
def spMerge (K : PySem.W.Frag) (CE : Addr) (D : Kd) (T : Nat → Thing) (kd : Bool) (k : Nat) : Sp := fun vs H Q _ => ∃ (G : Hp) (a b : Addr) (X : DX) (s t : Smp Nat) (x : ES), vs = [.ref a, .ref b, .ref X.e] ∧ Same G H ∧ SmIs D T k G a s ∧ SmIs D T k G b t ∧ DiAt K CE G H X x ∧
  (Val (fun i => (T i).w) kd k s ∧ Val (fun i => (T i).w) kd k t) ∧ (∀ j ∈ t.kept, j ∉ s.kept) ∧ (merge (fun i => (T i).w) so kd k s t).Run x ∧
  ∀ G' H' r, Ext X.ms G H G' H' → DiAt K CE G' H' X ((merge (fun i => (T i).w) so kd k s t).exec x).2 → SmIs D T k G' r ((merge (fun i => (T i).w) so kd k s t).exec x).1 → Q (.ref r) H'
/-- the two lists of a merge and what is found -/
structure MgAt (T : Nat → Thing) (G H : Hp) (o1 o2 o3 o4 o5 : Addr) (na nb : Nat) (A B F : List Nat) : Prop where
  h1 : H o1 = some (.lst [.int (na : Int), .int (nb : Int)])
  h2 : H o2 = some (.lst [.ref o3, .ref o4])
  h3 : ∃ ra, H o3 = some (.lst (refs ra)) ∧ Itms T G ra A
  h4 : ∃ rb, H o4 = some (.lst (refs rb)) ∧ Itms T G rb B
  h5 : ∃ rf, H o5 = some (.lst (refs rf)) ∧ Itms T G rf F
  g1 : G o1 = none
  g2 : G o2 = none
  g3 : G o3 = none
  g4 : G o4 = none
  g5 : G o5 = none
theorem MgAt.keep {T : Nat → Thing} {G H G' H' : Hp} {o1 o2 o3 o4 o5 : Addr} {na nb : Nat} {A B F : List Nat} {ms : List Addr} (M : MgAt T G H o1 o2 o3 o4 o5 na nb A B F) (E : Ext ms G H G' H') (n : ∀ o ∈ [o1, o2, o3, o4, o5], o ∉ ms) :
    MgAt T G' H' o1 o2 o3 o4 o5 na nb A B F := by
  obtain ⟨ra, a1, a2⟩ := M.h3
  obtain ⟨rb, b1, b2⟩ := M.h4
  obtain ⟨rf, f1, f2⟩ := M.h5
  exact ⟨E.kp _ _ M.h1 (n _ (by simp)), E.kp _ _ M.h2 (n _ (by simp)), ⟨ra, E.kp _ _ a1 (n _ (by simp)), a2.mono E.gg⟩, ⟨rb, E.kp _ _ b1 (n _ (by simp)), b2.mono E.gg⟩, ⟨rf, E.kp _ _ f1 (n _ (by simp)), f2.mono E.gg⟩,
    E.out M.g1 M.h1, E.out M.g2 M.h2, E.out M.g3 a1, E.out M.g4 b1, E.out M.g5 f1⟩
theorem MgAt.tmp {T : Nat → Thing} {G H : Hp} {o1 o2 o3 o4 o5 p : Addr} {na nb : Nat} {A B F : List Nat} {u : HO} (M : MgAt T G H o1 o2 o3 o4 o5 na nb A B F) (hG : Same G H) (h : H p = none) : MgAt T G (upd H p u) o1 o2 o3 o4 o5 na nb A B F :=
  M.keep ((Ext.refl (ms := []) hG).tmp h) (fun _ _ => by simp)
theorem ExAt.tmp {G H : Hp} {D : DX} {x : ES} {p : Addr} {u : HO} (M : DiAt K CE G H D x) (hG : Same G H) (h : H p = none) : DiAt K CE G (upd H p u) D x :=
  ExAt.keep M ((Ext.refl (ms := []) hG).tmp h) (by simp) (by simp)
theorem ExAt.same {G0 H0 G H G' H' : Hp} {D : DX} {x x0 : ES} {ms : List Addr} (M : DiAt K CE G H D x) (M0 : DiAt K CE G0 H0 D x0) (X : Ext ms G0 H0 G' H') (sg : Same G G') (sh : Same H H') : DiAt K CE G' H' D x := by
  obtain ⟨c, z1, z2⟩ := M.ins
  obtain ⟨ps, z3, z4⟩ := M.path
  obtain ⟨c0, y1, _⟩ := M0.ins
  obtain ⟨ps0, y3, _⟩ := M0.path
  exact ⟨⟨c, sh _ _ z1, sg.seqT z2⟩, ⟨ps, sh _ _ z3, Paired.mapP z4 fun _ _ z => z.mono sg⟩, X.out M0.ge y1, X.out M0.gp y3, M.ch⟩
theorem ixN_nat {n p : Nat} (h : p < n) : ixN n (p : Int) = some p := by
  unfold ixN
  rw [if_pos (by omega), if_pos (by omega)]
  simp
theorem seqIx {n p : Nat} (h : p < n) : seqIndex? (p : Int) n = some p := (ixN_seq (ixN_nat h)).1
theorem intsV_rep (n : Nat) : (List.replicate ((n : Int).toNat) [V.int 1]).flatten = intsV (List.replicate n 1) := by
  rw [Int.toNat_natCast]
  induction n with
  | zero => rfl
  | succ n ih => rw [List.replicate_succ, List.flatten_cons, ih]; rfl
theorem Itms.erase {T : Nat → Thing} {G : Hp} : ∀ {rs : List Addr} {is : List Nat} (p : Nat), Itms T G rs is → Itms T G (rs.eraseIdx p) (is.eraseIdx p)
  | _, _, _, .nil => .nil
  | _, _, 0, .cons _ t => t
  | _, _, p + 1, .cons r t => .cons r (Itms.erase p t)
theorem refs_erase (rs : List Addr) (p : Nat) : (refs rs).eraseIdx p = refs (rs.eraseIdx p) := by
  induction rs generalizing p with
  | nil => rfl
  | cons a r ih =>
    cases p with
    | zero => rfl
    | succ p =>
      show V.ref a :: (refs r).eraseIdx p = V.ref a :: refs (r.eraseIdx p)
      rw [ih]
end
end Sam
end
section
set_option Elab.async false
set_option linter.all false
set_option maxRecDepth 100000
set_option maxHeartbeats 1000000
namespace Sam
open PySem PySem.Spec PyProof.Rows L2
open C8 (pss_cut tCut call_isC InsC)
section
variable {P : Program} {w : World} {K : PySem.W.Frag} {mg : Str → Option Value} {base : Heap} {CE : Addr}
theorem scuS4 : FnScope ["self", "other", "dice", "seen", "lists", "found", "_", "side", "place"] ["self", "other", "dice"] (defScope (uS 4)) := ⟨rfl, rfl, rfl, by decide +kernel, rfl, by decide +kernel, by decide +kernel⟩
theorem ok_uSMerge {C : Addr} {co : Obj} {T : Nat → Thing} {k : Nat} (B : Bn mg) (O : KdOk K (kU C co)) (cE : ECl K CE) (hm : mg "Uniform" = some (.ref C)) (d : DmS K C co "merge" "Uniform.merge" (uS 4) ["self", "other", "dice"])
    (cI : CtS P w K mg base C co ["self", "size", "seen", "kept"] 1 (spInit (kU C co))) (cC : MtS P w K mg base C co "check" ["self", "other"] 2 (spCheck (kU C co) T k)) (cP : Mt P w K mg base CE "pick" ["self", "weights"] 3 (spPick K CE)) :
    MtS P w K mg base C co "merge" ["self", "other", "dice"] 4 (spMerge K CE (kU C co) T true k) := by
  refine d.ok scuS4 (fun vs H Q E h => ?_) (fun f cdv A outer s0 H vs Q E hr h => ?_)
  · obtain ⟨G, a, b, X, s, t, x, rfl, _⟩ := h
    rfl
  · obtain ⟨G, a, b, X, s, t, x, rfl, hG, hS, hT, hE, ⟨va, vb⟩, dj, hrun, q⟩ := h
    obtain ⟨dx, L, rs, h1, h2, h3⟩ := hS.ins
    obtain ⟨dx', L', rs', i1, i2, i3⟩ := hT.ins
    have hC := hS.cls
    have nd := scuS4.nd
    have hu := hr.units
    have ka := va.len
    have kb := vb.len
    have hd : ∀ (G1 H1 : Hp) (x1 : ES), DiAt K CE G1 H1 X x1 → ∃ c, H1 X.e = some (.ins CE X.dx (exF X.Pa x1 c X.opn X.over X.many X.R)) := fun G1 H1 x1 z => let ⟨c, z1, _⟩ := z.ins; ⟨c, z1⟩
    refine ⟨_, pss_cons (ps_expr (ps_m (nm := "Uniform") cC O.cl hr (pv 0) (pa_cons (pv 1) pa_nil)))
      (pss_cons (ps_set (i := 3) nd rfl (.inl rfl) (pe_lst (pa_cons (ps_f K (pv 0)) (pa_cons (ps_f K (pv 1)) pa_nil))))
      (pss_cons (ps_set (i := 4) nd rfl (.inl rfl) (pe_lst (pa_cons (pe_callTy call_list_of (by rfl) B.list (by decide +kernel) (pa_cons (ps_f K (pv 0)) pa_nil)) (pa_cons (pe_callTy call_list_of (by rfl) B.list (by decide +kernel) (pa_cons (ps_f K (pv 1)) pa_nil)) pa_nil))))
      (pss_cons (ps_set (i := 5) nd rfl (.inl rfl) (pe_lst pa_nil))
      (pss_cons (ps_for PassesOwn.never rfl (pi_range1 rfl B.range (pa_cons (pe_callB (call_min2 rfl) (by rfl) B.min (by decide +kernel) (pa_cons (ps_f K (pv 0)) (pa_cons (pe_op op_add (ps_f K (pv 0)) (ps_f K (pv 1))) pa_nil))) pa_nil)) (pg_name (i := 6) nd rfl (.inl rfl))
        (pss_cons (ps_set (i := 7) nd rfl (.inl rfl) (pe_m cP cE.cl hr (pv 2) (pa_cons (pe_callTy call_list_of (by rfl) B.list (by decide +kernel) (pa_cons (pv 3) pa_nil)) pa_nil)))
        (pss_cons (ps_set (i := 8) nd rfl (.inl rfl) (pe_m cP cE.cl hr (pv 2) (pa_cons (pe_op op_rep (pe_lst (pa_cons pe_int pa_nil)) (pe_callB call_len_seq (by rfl) B.len PySem.boot_len (pa_cons (pe_ix ix_list (pv 4) (pv 7) (fun _ _ => rfl)) pa_nil))) pa_nil)))
        (pss_cons (ps_expr (pe_bm PySem.F.plainAttrs_list PySem.F.slot_list_append PySem.F.type_list_append mt_append (pv 5) (pa_cons (pe_bm PySem.F.plainAttrs_list PySem.F.slot_list_pop PySem.F.type_list_pop mt_popAt (pe_ix ix_list (pv 4) (pv 7) (fun _ _ => rfl)) (pa_cons (pv 8) pa_nil)) pa_nil)))
        (pss_one (ps_augS (pv 3) (pv 7) (get_list K) pe_int ip_sub set_list))))))
      (pss_one (ps_ret (ps_k (nm := "Uniform") cI hm hr (pa_cons (ps_f K (pv 0)) (pa_cons (pe_op op_add (ps_f K (pv 0)) (ps_f K (pv 1))) (pa_cons (pe_callB (kc_sorted K hu) (by rfl) B.sorted (by decide +kernel) (pa_cons (pv 5) pa_nil)) pa_nil)))))))))), ?_⟩
    -- self.check(other)
    refine ⟨_, rfl, a, dx, _, rfl, hG _ _ h1, hG _ _ hC, zlook_none (ns := smN "seen") (by decide) _, _, rfl, G, a, b, s, t, rfl, hG, hS, hT, ⟨by omega, by omega⟩, dj, fun Ha sa => ?_⟩
    have Xa : Ext X.ms G H G Ha := Ext.same hG sa
    -- seen
    refine ⟨_, rfl, a, C, co, _, dx, _, _, rfl, Xa.gh _ _ h1, Xa.gh _ _ hC, O.cl, O.n 1, zlook (i := 1) O.nd rfl, _, rfl, b, C, co, _, dx', _, _, rfl, Xa.gh _ _ i1, Xa.gh _ _ hC, O.cl, O.n 1, zlook (i := 1) O.nd rfl, (by show 2 ≤ sizeLine; decide), fun o1 hn1 => ?_⟩
    have Xb := Xa.tmp (o := .lst [.int (s.n : Int), .int (t.n : Int)]) hn1
    have c1 : upd Ha o1 (.lst [.int (s.n : Int), .int (t.n : Int)]) o1 = some _ := upd_same
    have sb := sa.trans (Same.new (.lst [.int (s.n : Int), .int (t.n : Int)]) hn1)
    generalize upd Ha o1 (.lst [.int (s.n : Int), .int (t.n : Int)]) = Hb at *
    -- lists
    refine ⟨_, rfl, a, C, co, _, dx, _, _, rfl, Xb.gh _ _ h1, Xb.gh _ _ hC, O.cl, O.n 2, zlook (i := 2) O.nd rfl, L, _, rfl, .inl (SqL.of (Xb.gh _ _ h2)), fun o3 hn3 => ?_⟩
    have Xc := Xb.tmp (o := .lst (refs rs)) hn3
    have c3 : upd Hb o3 (.lst (refs rs)) o3 = some _ := upd_same
    have k1 := Same.new (.lst (refs rs)) hn3
    have sc := sb.trans k1
    have n13 := ne_of_none c1 hn3
    have c1 := k1 _ _ c1
    generalize upd Hb o3 (.lst (refs rs)) = Hc at *
    refine ⟨_, rfl, b, C, co, _, dx', _, _, rfl, Xc.gh _ _ i1, Xc.gh _ _ hC, O.cl, O.n 2, zlook (i := 2) O.nd rfl, L', _, rfl, .inl (SqL.of (Xc.gh _ _ i2)), fun o4 hn4 => ?_⟩
    have Xd := Xc.tmp (o := .lst (refs rs')) hn4
    have c4 : upd Hc o4 (.lst (refs rs')) o4 = some _ := upd_same
    have k1 := Same.new (.lst (refs rs')) hn4
    have sd := sc.trans k1
    have n14 := ne_of_none c1 hn4
    have n34 := ne_of_none c3 hn4
    have c1 := k1 _ _ c1
    have c3 := k1 _ _ c3
    generalize upd Hc o4 (.lst (refs rs')) = Hd at *
    refine ⟨(by show 2 ≤ sizeLine; decide), fun o2 hn2 => ?_⟩
    have Xe := Xd.tmp (o := .lst [.ref o3, .ref o4]) hn2
    have c2 : upd Hd o2 (.lst [.ref o3, .ref o4]) o2 = some _ := upd_same
    have k1 := Same.new (.lst [.ref o3, .ref o4]) hn2
    have se := sd.trans k1
    have n12 := ne_of_none c1 hn2
    have n32 := ne_of_none c3 hn2
    have n42 := ne_of_none c4 hn2
    have c1 := k1 _ _ c1
    have c3 := k1 _ _ c3
    have c4 := k1 _ _ c4
    generalize upd Hd o2 (.lst [.ref o3, .ref o4]) = He at *
    -- found
    refine ⟨(by show 0 ≤ sizeLine; decide), fun o5 hn5 => ?_⟩
    have Xf := Xe.tmp (o := .lst []) hn5
    have c5 : upd He o5 (.lst []) o5 = some _ := upd_same
    have k1 := Same.new (.lst []) hn5
    have sf := se.trans k1
    have n15 := ne_of_none c1 hn5
    have n35 := ne_of_none c3 hn5
    have n45 := ne_of_none c4 hn5
    have n25 := ne_of_none c2 hn5
    have c1 := k1 _ _ c1
    have c2 := k1 _ _ c2
    have c3 := k1 _ _ c3
    have c4 := k1 _ _ c4
    generalize upd He o5 (.lst []) = Hf at *
    have f1 : H o1 = none := sa.free hn1
    have f3 : H o3 = none := sb.free hn3
    have f4 : H o4 = none := sc.free hn4
    have f2 : H o2 = none := sd.free hn2
    have f5 : H o5 = none := se.free hn5
    have M0 : MgAt T G Hf o1 o2 o3 o4 o5 s.n t.n s.kept t.kept [] := ⟨c1, c2, ⟨rs, c3, h3⟩, ⟨rs', c4, i3⟩, ⟨[], c5, .nil⟩, hG.free f1, hG.free f2, hG.free f3, hG.free f4, hG.free f5⟩
    have hEe : H X.e ≠ none := by obtain ⟨c, z⟩ := hd _ _ _ hE; rw [z]; simp
    have hEP : H X.Pa ≠ none := by obtain ⟨ps, z, _⟩ := hE.path; rw [z]; simp
    have nm : ∀ o ∈ [o1, o2, o3, o4, o5], o ∉ X.ms := by
      intro o ho
      have h0 : H o = none := by
        simp at ho
        rcases ho with rfl | rfl | rfl | rfl | rfl <;> assumption
      intro hm'
      simp [DX.ms] at hm'
      rcases hm' with rfl | rfl
      · exact hEe h0
      · exact hEP h0
    have Ex0 : DiAt K CE G Hf X x := by
      obtain ⟨c, z1, z2⟩ := hE.ins
      obtain ⟨ps, z3, z4⟩ := hE.path
      exact ⟨⟨c, sf _ _ z1, z2⟩, ⟨ps, sf _ _ z3, z4⟩, hE.ge, hE.gp, hE.ch⟩

    have hM : ∀ j, min k (s.n + t.n) = j → j ≤ 4 := by intro j hj; omega
    generalize hMM : min k (s.n + t.n) = M at hM
    have hM4 := hM M rfl
    have hrun' : (drawU M s.n t.n s.kept t.kept []).Run x ∧ (merge (fun i => (T i).w) so true k s t).exec x = (⟨s.n + t.n, so ((drawU M s.n t.n s.kept t.kept []).exec x).1⟩, ((drawU M s.n t.n s.kept t.kept []).exec x).2) := by
      have e : merge (fun i => (T i).w) so true k s t = (drawU M s.n t.n s.kept t.kept []).bind fun f => .ret ⟨s.n + t.n, so f⟩ := by
        unfold merge mergeU
        rw [if_pos rfl, hMM]
      rw [e] at hrun ⊢
      rw [Tr.exec_bind]
      exact ⟨((Tr.Run_bind _ _ _).mp hrun).1, rfl⟩
    obtain ⟨hr0, hex⟩ := hrun'
    rw [hex] at q
    generalize hres : (drawU M s.n t.n s.kept t.kept []).exec x = res at q
    -- range(min(..))
    refine ⟨_, rfl, a, C, co, _, dx, _, _, rfl, Xf.gh _ _ h1, Xf.gh _ _ hC, O.cl, O.n 0, zlook (i := 0) O.nd rfl, _, rfl, a, C, co, _, dx, _, _, rfl, Xf.gh _ _ h1, Xf.gh _ _ hC, O.cl, O.n 1, zlook (i := 1) O.nd rfl, _, rfl, b, C, co, _, dx', _, _, rfl, Xf.gh _ _ i1, Xf.gh _ _ hC, O.cl, O.n 1, zlook (i := 1) O.nd rfl, _, _, rfl, rfl, _, _, rfl, _, rfl, ?_⟩
    have hmin : (if (s.n : Int) + (t.n : Int) < (k : Int) then (s.n : Int) + (t.n : Int) else (k : Int)) = (M : Int) := by
      split <;> omega
    rw [hmin]
    refine ⟨by omega, by omega, for_range (lo := 0) (fun i σ H2 => i ≤ M ∧ ∃ v6 v7 v8 G2 na nb A B F x2, σ = [some (.ref a), some (.ref b), some (.ref X.e), some (.ref o1), some (.ref o2), some (.ref o5), v6, v7, v8] ∧ Ext X.ms G H G2 H2 ∧ MgAt T G2 H2 o1 o2 o3 o4 o5 na nb A B F ∧
      DiAt K CE G2 H2 X x2 ∧ (drawU (M - i) na nb A B F).Run x2 ∧ (drawU (M - i) na nb A B F).exec x2 = res ∧ F.length = i ∧ A.length ≤ 2 ∧ B.length ≤ 2)
      ⟨Nat.zero_le _, none, none, none, G, s.n, t.n, s.kept, t.kept, [], x, rfl, Xf, M0, Ex0, hr0, hres, rfl, by omega, by omega⟩ ?_ ?_⟩
    · rintro i σ H2 hi ⟨_, v6, v7, v8, G2, na, nb, A, B, F, x2, rfl, X2, M2, D2, R2, eq2, lF, lA, lB⟩
      have hMi : (M : Int).toNat = M := Int.toNat_natCast M
      rw [hMi] at hi
      have hsucc : M - i = (M - (i + 1)) + 1 := by omega
      rw [hsucc] at R2 eq2
      obtain ⟨c, he2⟩ := hd _ _ _ D2
      -- side = dice.pick(list(seen))
      refine ⟨_, rfl, X.e, X.dx, _, rfl, he2, exF_look _ _ _ _ _ _ _, _, rfl, o1, _, rfl, .inl (SqL.of M2.h1), fun l hl => ?_⟩
      have X3 := X2.tmp (o := .lst [.int (na : Int), .int (nb : Int)]) hl
      have D3 := ExAt.tmp (D := X) (u := .lst [.int (na : Int), .int (nb : Int)]) D2 X2.gh hl
      have M3 := M2.tmp (u := .lst [.int (na : Int), .int (nb : Int)]) X2.gh hl
      have hl' : upd H2 l (.lst [.int (na : Int), .int (nb : Int)]) l = some _ := upd_same
      have nlP : l ≠ X.Pa := fun z => by
        obtain ⟨ps, z1, _⟩ := D2.path
        rw [← z, hl] at z1; cases z1
      generalize upd H2 l (.lst [.int (na : Int), .int (nb : Int)]) = H3 at *
      dsimp only [tNil, List.append_nil]
      refine pick_step (D := X) X3.gh D3 R2 hl' nlP (by show 2 ≤ 24; decide) fun side G4 H4 x4 hs hp E4 D4 R4 eq4 => ?_
      have eq2 := eq4.trans eq2
      have X4 := X3.trans E4 (fun b hb => .inl hb)
      have M4 := M3.keep E4 nm
      clear D3 M3 X3 hl' hl nlP eq4 R2
      have hside : side = 0 ∨ side = 1 := by
        have : side < 2 := hs
        omega
      rcases hside with rfl | rfl

      · have R4' := R4
        rw [if_pos rfl] at R4' eq2
        obtain ⟨rS, cS, iS⟩ := M4.h3
        have lS := iS.length
        -- place = dice.pick([1] * len(lists[side]))
        obtain ⟨c', he4⟩ := hd _ _ _ D4
        refine ⟨_, rfl, X.e, X.dx, _, rfl, he4, exF_look _ _ _ _ _ _ _, (by show 1 ≤ sizeLine; decide), fun q1 hq1 => ?_⟩
        have X5 := X4.tmp (o := .lst [.int 1]) hq1
        have D5 := ExAt.tmp (D := X) (u := .lst [.int 1]) D4 X4.gh hq1
        have M5 := M4.tmp (u := .lst [.int 1]) X4.gh hq1
        have cS5 := Same.new (.lst [.int 1]) hq1 _ _ cS
        have hq1' : upd H4 q1 (.lst [.int 1]) q1 = some _ := upd_same
        generalize upd H4 q1 (.lst [.int 1]) = H5 at *
        refine ⟨_, rfl, _, rfl, o2, _, _, _, rfl, rfl, SqL.of M5.h2, atI_nat (j := 0) rfl, o3, _, rfl, .inl (SqL.of cS5), q1, _, _, rfl, rfl, hq1', by omega, ?_, ?_, fun l hl => ?_⟩
        · simp; omega
        · simp [sizeLine_eq]; omega
        rw [intsV_rep]
        have X6 := X5.tmp (o := .lst (intsV (List.replicate (refs rS).length 1))) hl
        have D6 := ExAt.tmp (D := X) (u := .lst (intsV (List.replicate (refs rS).length 1))) D5 X5.gh hl
        have M6 := M5.tmp (u := .lst (intsV (List.replicate (refs rS).length 1))) X5.gh hl
        have hl' : upd H5 l (.lst (intsV (List.replicate (refs rS).length 1))) l = some _ := upd_same
        have nlP : l ≠ X.Pa := fun z => by
          obtain ⟨ps, z1, _⟩ := D5.path
          rw [← z, hl] at z1; cases z1
        have eL : (refs rS).length = A.length := by simp [lS]
        rw [eL] at X6 D6 M6 hl' ⊢
        generalize upd H5 l (.lst (intsV (List.replicate A.length 1))) = H6 at *
        dsimp only [tNil, List.append_nil]
        refine pick_step (D := X) X6.gh D6 R4' hl' nlP (by simp; omega) fun p G7 H7 x7 hp1 _ E7 D7 R7 eq7 => ?_
        rw [List.length_replicate] at hp1
        have eq4 := eq7.trans eq2
        have X7 := X6.trans E7 (fun b hb => .inl hb)
        have M7 := M6.keep E7 nm
        clear cS iS lS rS cS5 X5 D5 M5 X6 D6 M6 hl' hl nlP hq1 hq1' eq7 eL R4' he4 R4 eq2
        obtain ⟨y, hy⟩ : ∃ y, A[p]? = some y := ⟨A[p], by simp [hp1]⟩
        simp only [hy] at eq4 R7
        obtain ⟨rS, cS, iS⟩ := M7.h3
        obtain ⟨rF, cF, iF⟩ := M7.h5
        obtain ⟨ay, hay, iy⟩ := paired_get' iS hy
        have lS := iS.length
        have lrF := iF.length
        -- found.append(lists[side].pop(place))
        refine ⟨_, rfl, .inl ⟨rfl, _, SqL.of cF⟩, _, rfl, _, rfl, o2, _, _, _, rfl, rfl, SqL.of M7.h2, atI_nat (j := 0) rfl, .inl ⟨rfl, _, SqL.of cS⟩, _, rfl, o3, _, _, p, .ref ay, rfl, rfl, cS, by omega, by omega, seqIx (by simp; omega), (by rw [List.getElem?_map, hay]; rfl), ?_⟩
        refine ⟨o5, _, _, rfl, rfl, (upd_ne n35.symm).trans cF, small1000 (by simp; omega), ?_⟩
        -- seen[side] -= 1
        refine ⟨_, rfl, _, rfl, o1, _, 0, _, rfl, rfl, SqL.of ((upd_ne n15).trans ((upd_ne n13).trans M7.h1)), by decide, rfl, _, _, rfl, rfl, o1, _, _, 0, rfl, rfl, (upd_ne n15).trans ((upd_ne n13).trans M7.h1), ixN_nat (by simp), ?_⟩
        refine ⟨by omega, _, _, _, G7, na - 1, nb, A.eraseIdx p, B, F ++ [y], x7, rfl, ((X7.wr (.inr f3) M7.g3).wr (.inr f5) M7.g5).wr (.inr f1) M7.g1, ?_, ?_, R7, eq4, by simp; omega, Nat.le_trans (List.length_eraseIdx_le _ _) lA, lB⟩
        · obtain ⟨rO, cO, iO⟩ := M7.h4
          refine ⟨?_, ?_, ?_, ?_, ⟨rF ++ [ay], ?_, paired_append iF (.cons iy .nil)⟩, M7.g1, M7.g2, M7.g3, M7.g4, M7.g5⟩
          · rw [upd_same]
            have : (((na : Nat) : Int) - 1) = (((na - 1 : Nat)) : Int) := by
              have : 0 < na := hp
              omega
            simp [this]
          · rw [upd_ne n12.symm, upd_ne n25, upd_ne n32.symm]; exact M7.h2
          · refine ⟨rS.eraseIdx p, ?_, iS.erase p⟩
            rw [upd_ne n13.symm, upd_ne n35, upd_same, refs_erase]
          · exact ⟨rO, by rw [upd_ne n14.symm, upd_ne n45, upd_ne n34.symm]; exact cO, iO⟩
          · rw [upd_ne n15.symm, upd_same]; simp [refs]
        · exact ExAt.keep D7 (((Ext.refl (ms := [o3, o5, o1]) X7.gh).wr (m := o3) (.inl (by simp)) M7.g3).wr (m := o5) (.inl (by simp)) M7.g5 |>.wr (m := o1) (.inl (by simp)) M7.g1) (by have a1 := nm o1 (by simp); have a2 := nm o3 (by simp); have a3 := nm o5 (by simp); simp [DX.ms] at a1 a2 a3; simp; exact ⟨fun z => a2.1 z.symm, fun z => a3.1 z.symm, fun z => a1.1 z.symm⟩) (by have a1 := nm o1 (by simp); have a2 := nm o3 (by simp); have a3 := nm o5 (by simp); simp [DX.ms] at a1 a2 a3; simp; exact ⟨fun z => a2.2 z.symm, fun z => a3.2 z.symm, fun z => a1.2 z.symm⟩)

      · have R4' := R4
        rw [if_neg (by decide)] at R4' eq2
        obtain ⟨rS, cS, iS⟩ := M4.h4
        have lS := iS.length
        -- place = dice.pick([1] * len(lists[side]))
        obtain ⟨c', he4⟩ := hd _ _ _ D4
        refine ⟨_, rfl, X.e, X.dx, _, rfl, he4, exF_look _ _ _ _ _ _ _, (by show 1 ≤ sizeLine; decide), fun q1 hq1 => ?_⟩
        have X5 := X4.tmp (o := .lst [.int 1]) hq1
        have D5 := ExAt.tmp (D := X) (u := .lst [.int 1]) D4 X4.gh hq1
        have M5 := M4.tmp (u := .lst [.int 1]) X4.gh hq1
        have cS5 := Same.new (.lst [.int 1]) hq1 _ _ cS
        have hq1' : upd H4 q1 (.lst [.int 1]) q1 = some _ := upd_same
        generalize upd H4 q1 (.lst [.int 1]) = H5 at *
        refine ⟨_, rfl, _, rfl, o2, _, _, _, rfl, rfl, SqL.of M5.h2, atI_nat (j := 1) rfl, o4, _, rfl, .inl (SqL.of cS5), q1, _, _, rfl, rfl, hq1', by omega, ?_, ?_, fun l hl => ?_⟩
        · simp; omega
        · simp [sizeLine_eq]; omega
        rw [intsV_rep]
        have X6 := X5.tmp (o := .lst (intsV (List.replicate (refs rS).length 1))) hl
        have D6 := ExAt.tmp (D := X) (u := .lst (intsV (List.replicate (refs rS).length 1))) D5 X5.gh hl
        have M6 := M5.tmp (u := .lst (intsV (List.replicate (refs rS).length 1))) X5.gh hl
        have hl' : upd H5 l (.lst (intsV (List.replicate (refs rS).length 1))) l = some _ := upd_same
        have nlP : l ≠ X.Pa := fun z => by
          obtain ⟨ps, z1, _⟩ := D5.path
          rw [← z, hl] at z1; cases z1
        have eL : (refs rS).length = B.length := by simp [lS]
        rw [eL] at X6 D6 M6 hl' ⊢
        generalize upd H5 l (.lst (intsV (List.replicate B.length 1))) = H6 at *
        dsimp only [tNil, List.append_nil]
        refine pick_step (D := X) X6.gh D6 R4' hl' nlP (by simp; omega) fun p G7 H7 x7 hp1 _ E7 D7 R7 eq7 => ?_
        rw [List.length_replicate] at hp1
        have eq4 := eq7.trans eq2
        have X7 := X6.trans E7 (fun b hb => .inl hb)
        have M7 := M6.keep E7 nm
        clear cS iS lS rS cS5 X5 D5 M5 X6 D6 M6 hl' hl nlP hq1 hq1' eq7 eL R4' he4 R4 eq2
        obtain ⟨y, hy⟩ : ∃ y, B[p]? = some y := ⟨B[p], by simp [hp1]⟩
        simp only [hy] at eq4 R7
        obtain ⟨rS, cS, iS⟩ := M7.h4
        obtain ⟨rF, cF, iF⟩ := M7.h5
        obtain ⟨ay, hay, iy⟩ := paired_get' iS hy
        have lS := iS.length
        have lrF := iF.length
        -- found.append(lists[side].pop(place))
        refine ⟨_, rfl, .inl ⟨rfl, _, SqL.of cF⟩, _, rfl, _, rfl, o2, _, _, _, rfl, rfl, SqL.of M7.h2, atI_nat (j := 1) rfl, .inl ⟨rfl, _, SqL.of cS⟩, _, rfl, o4, _, _, p, .ref ay, rfl, rfl, cS, by omega, by omega, seqIx (by simp; omega), (by rw [List.getElem?_map, hay]; rfl), ?_⟩
        refine ⟨o5, _, _, rfl, rfl, (upd_ne n45.symm).trans cF, small1000 (by simp; omega), ?_⟩
        -- seen[side] -= 1
        refine ⟨_, rfl, _, rfl, o1, _, 1, _, rfl, rfl, SqL.of ((upd_ne n15).trans ((upd_ne n14).trans M7.h1)), by decide, rfl, _, _, rfl, rfl, o1, _, _, 1, rfl, rfl, (upd_ne n15).trans ((upd_ne n14).trans M7.h1), ixN_nat (by simp), ?_⟩
        refine ⟨by omega, _, _, _, G7, na, nb - 1, A, B.eraseIdx p, F ++ [y], x7, rfl, ((X7.wr (.inr f4) M7.g4).wr (.inr f5) M7.g5).wr (.inr f1) M7.g1, ?_, ?_, R7, eq4, by simp; omega, lA, Nat.le_trans (List.length_eraseIdx_le _ _) lB⟩
        · obtain ⟨rO, cO, iO⟩ := M7.h3
          refine ⟨?_, ?_, ?_, ?_, ⟨rF ++ [ay], ?_, paired_append iF (.cons iy .nil)⟩, M7.g1, M7.g2, M7.g3, M7.g4, M7.g5⟩
          · rw [upd_same]
            have : (((nb : Nat) : Int) - 1) = (((nb - 1 : Nat)) : Int) := by
              have : 0 < nb := hp
              omega
            simp [this]
          · rw [upd_ne n12.symm, upd_ne n25, upd_ne n42.symm]; exact M7.h2
          · exact ⟨rO, by rw [upd_ne n13.symm, upd_ne n35, upd_ne n34]; exact cO, iO⟩
          · refine ⟨rS.eraseIdx p, ?_, iS.erase p⟩
            rw [upd_ne n14.symm, upd_ne n45, upd_same, refs_erase]
          · rw [upd_ne n15.symm, upd_same]; simp [refs]
        · exact ExAt.keep D7 (((Ext.refl (ms := [o4, o5, o1]) X7.gh).wr (m := o4) (.inl (by simp)) M7.g4).wr (m := o5) (.inl (by simp)) M7.g5 |>.wr (m := o1) (.inl (by simp)) M7.g1) (by have a1 := nm o1 (by simp); have a2 := nm o4 (by simp); have a3 := nm o5 (by simp); simp [DX.ms] at a1 a2 a3; simp; exact ⟨fun z => a2.1 z.symm, fun z => a3.1 z.symm, fun z => a1.1 z.symm⟩) (by have a1 := nm o1 (by simp); have a2 := nm o4 (by simp); have a3 := nm o5 (by simp); simp [DX.ms] at a1 a2 a3; simp; exact ⟨fun z => a2.2 z.symm, fun z => a3.2 z.symm, fun z => a1.2 z.symm⟩)

    · rintro σ H2 ⟨_, v6, v7, v8, G2, na, nb, A, B, F, x2, rfl, X2, M2, D2, R2, eq2, lF, lA, lB⟩
      have hMi : (M : Int).toNat = M := Int.toNat_natCast M
      rw [hMi] at eq2 lF
      rw [Nat.sub_self] at eq2
      obtain rfl : (F, x2) = res := eq2
      obtain ⟨rF, cF, iF⟩ := M2.h5
      refine ⟨_, rfl, a, C, co, _, dx, _, _, rfl, X2.gh _ _ (X2.gg _ _ h1), X2.gh _ _ (X2.gg _ _ hC), O.cl, O.n 0, zlook (i := 0) O.nd rfl, _, rfl, a, C, co, _, dx, _, _, rfl, X2.gh _ _ (X2.gg _ _ h1), X2.gh _ _ (X2.gg _ _ hC), O.cl, O.n 1, zlook (i := 1) O.nd rfl,
        _, rfl, b, C, co, _, dx', _, _, rfl, X2.gh _ _ (X2.gg _ _ i1), X2.gh _ _ (X2.gg _ _ hC), O.cl, O.n 1, zlook (i := 1) O.nd rfl, _, _, rfl, rfl, _, rfl, ?_⟩
      obtain ⟨zs, rs2, z1, z2, z3, z4⟩ := zok_items (K := K) X2.gh iF (by omega)
      refine ⟨o5, zs, rfl, .inl (SqL.of (by rw [z1]; exact cF)), z2, fun l hl => ?_⟩
      rw [z3]
      have X3 := X2.tmp (o := .lst (refs rs2)) hl
      have s3 := Same.new (.lst (refs rs2)) hl
      have hl' : upd H2 l (.lst (refs rs2)) l = some _ := upd_same
      obtain ⟨c, he2⟩ := hd _ _ _ D2
      have D3 := ExAt.tmp (D := X) (u := .lst (refs rs2)) D2 X2.gh hl
      generalize upd H2 l (.lst (refs rs2)) = H3 at *
      exact make_sm (D := kU C co) (T := T) (rs := rs2) (is := so F) (n := s.n + t.n) X3 hl' z4 (X2.gg _ _ hC) fun r G5 H5 X5 g5 h5 hS5 => q G5 H5 r X5 (ExAt.same (D := X) D3 hE X5 g5 h5) hS5
end
end Sam
end
section
set_option Elab.async false
set_option linter.all false
set_option maxRecDepth 100000
set_option maxHeartbeats 1000000
namespace Sam
open PySem PySem.Spec PyProof.Rows L2
open C8 (pss_cut tCut call_isC InsC)
/-- the total of a list that is drawn from covers what can be drawn -/
def Wv (w : Nat → Nat) : Nat → Nat → List Nat → Prop
  | 0, _, _ => True
  | m + 1, n, l => n = 0 ∨ ∃ x r, l = x :: r ∧ w x ≤ n ∧ Wv w m (n - w x) r
theorem Wv.pred {w : Nat → Nat} : ∀ {m n : Nat} {l : List Nat}, Wv w (m + 1) n l → Wv w m n l
  | 0, _, _, _ => trivial
  | m + 1, n, l, h => by
    rcases h with h | ⟨x, r, h1, h2, h3⟩
    · exact .inl h
    · exact .inr ⟨x, r, h1, h2, h3.pred⟩
theorem Val.wv {w : Nat → Nat} {k : Nat} {s : Smp Nat} (v : Val w false k s) : Wv w k s.n s.kept := by
  cases v with
  | w1 n x h1 h2 => exact .inr ⟨x, [], rfl, h1, trivial⟩
  | w2s x h => exact .inr ⟨x, [], rfl, Nat.le_refl _, .inl (Nat.sub_self _)⟩
  | w2 n x y h1 h2 h3 => exact .inr ⟨x, [y], rfl, by show w x ≤ n; omega, .inr ⟨y, [], rfl, by show (w y) ≤ n - w x; omega, trivial⟩⟩
section
variable {P : Program} {w : World} {K : PySem.W.Frag} {mg : Str → Option Value} {base : Heap} {CE : Addr}
theorem scwS4 : FnScope ["self", "other", "dice", "left", "lists", "found", "side", "item"] ["self", "other", "dice"] (defScope (wS 4)) := ⟨rfl, rfl, rfl, by decide +kernel, rfl, by decide +kernel, by decide +kernel⟩
theorem ok_wSMerge {C : Addr} {co : Obj} {T : Nat → Thing} {k : Nat} (B : Bn mg) (O : KdOk K (kW C co)) (cE : ECl K CE) (hm : mg "Weighted" = some (.ref C)) (d : DmS K C co "merge" "Weighted.merge" (wS 4) ["self", "other", "dice"])
    (cI : CtS P w K mg base C co ["self", "size", "total", "kept"] 1 (spInit (kW C co))) (cC : MtS P w K mg base C co "check" ["self", "other"] 2 (spCheck (kW C co) T k)) (cP : Mt P w K mg base CE "pick" ["self", "weights"] 3 (spPick K CE)) :
    MtS P w K mg base C co "merge" ["self", "other", "dice"] 4 (spMerge K CE (kW C co) T false k) := by
  refine d.ok scwS4 (fun vs H Q E h => ?_) (fun f cdv A outer s0 H vs Q E hr h => ?_)
  · obtain ⟨G, a, b, X, s, t, x, rfl, _⟩ := h
    rfl
  · obtain ⟨G, a, b, X, s, t, x, rfl, hG, hS, hT, hE, ⟨va, vb⟩, dj, hrun, q⟩ := h
    obtain ⟨dx, L, rs, h1, h2, h3⟩ := hS.ins
    obtain ⟨dx', L', rs', i1, i2, i3⟩ := hT.ins
    have hC := hS.cls
    have nd := scwS4.nd
    have hu := hr.units
    have ka := va.len
    have kb := vb.len
    have hd : ∀ (G1 H1 : Hp) (x1 : ES), DiAt K CE G1 H1 X x1 → ∃ c, H1 X.e = some (.ins CE X.dx (exF X.Pa x1 c X.opn X.over X.many X.R)) := fun G1 H1 x1 z => let ⟨c, z1, _⟩ := z.ins; ⟨c, z1⟩
    refine ⟨_, pss_cons (ps_expr (ps_m (nm := "Weighted") cC O.cl hr (pv 0) (pa_cons (pv 1) pa_nil)))
      (pss_cons (ps_set (i := 3) nd rfl (.inl rfl) (pe_lst (pa_cons (ps_f K (pv 0)) (pa_cons (ps_f K (pv 1)) pa_nil))))
      (pss_cons (ps_set (i := 4) nd rfl (.inl rfl) (pe_lst (pa_cons (pe_callTy call_list_of (by rfl) B.list (by decide +kernel) (pa_cons (ps_f K (pv 0)) pa_nil)) (pa_cons (pe_callTy call_list_of (by rfl) B.list (by decide +kernel) (pa_cons (ps_f K (pv 1)) pa_nil)) pa_nil))))
      (pss_cons (ps_set (i := 5) nd rfl (.inl rfl) (pe_lst pa_nil))
      (pss_cons (ps_while PassesOwn.never (PW.pt (pw_and (pt_cmpR op_lt (pe_callB call_len_seq (by rfl) B.len PySem.boot_len (pa_cons (pv 5) pa_nil)) (ps_f K (pv 0)) (nomark _)) (pw_and1 (pt_cmpR op_gt (pe_callB (cr_sum rfl) (by rfl) B.sum (by decide +kernel) (pa_cons (pv 3) pa_nil)) pe_int (nomark _)))))
        (pss_cons (ps_set (i := 6) nd rfl (.inl rfl) (pe_m cP cE.cl hr (pv 2) (pa_cons (pe_callTy call_list_of (by rfl) B.list (by decide +kernel) (pa_cons (pv 3) pa_nil)) pa_nil)))
        (pss_cons (ps_set (i := 7) nd rfl (.inl rfl) (pe_bm PySem.F.plainAttrs_list PySem.F.slot_list_pop PySem.F.type_list_pop mt_popAt (pe_ix ix_list (pv 4) (pv 6) (fun _ _ => rfl)) (pa_cons pe_int pa_nil)))
        (pss_cons (ps_expr (pe_bm PySem.F.plainAttrs_list PySem.F.slot_list_append PySem.F.type_list_append mt_append (pv 5) (pa_cons (pv 7) pa_nil)))
        (pss_one (ps_augS (pv 3) (pv 6) (get_list K) (pe_ix ix_tup (pv 7) pe_int (fun _ _ => rfl)) ip_sub set_list))))))
      (pss_one (ps_ret (ps_k (nm := "Weighted") cI hm hr (pa_cons (ps_f K (pv 0)) (pa_cons (pe_op op_add (ps_f K (pv 0)) (ps_f K (pv 1))) (pa_cons (pv 5) pa_nil)))))))))), ?_⟩
    -- self.check(other)
    refine ⟨_, rfl, a, dx, _, rfl, hG _ _ h1, hG _ _ hC, zlook_none (ns := smN "total") (by decide) _, _, rfl, G, a, b, s, t, rfl, hG, hS, hT, ⟨by omega, by omega⟩, dj, fun Ha sa => ?_⟩
    have Xa : Ext X.ms G H G Ha := Ext.same hG sa
    -- seen
    refine ⟨_, rfl, a, C, co, _, dx, _, _, rfl, Xa.gh _ _ h1, Xa.gh _ _ hC, O.cl, O.n 1, zlook (i := 1) O.nd rfl, _, rfl, b, C, co, _, dx', _, _, rfl, Xa.gh _ _ i1, Xa.gh _ _ hC, O.cl, O.n 1, zlook (i := 1) O.nd rfl, (by show 2 ≤ sizeLine; decide), fun o1 hn1 => ?_⟩
    have Xb := Xa.tmp (o := .lst [.int (s.n : Int), .int (t.n : Int)]) hn1
    have c1 : upd Ha o1 (.lst [.int (s.n : Int), .int (t.n : Int)]) o1 = some _ := upd_same
    have sb := sa.trans (Same.new (.lst [.int (s.n : Int), .int (t.n : Int)]) hn1)
    generalize upd Ha o1 (.lst [.int (s.n : Int), .int (t.n : Int)]) = Hb at *
    -- lists
    refine ⟨_, rfl, a, C, co, _, dx, _, _, rfl, Xb.gh _ _ h1, Xb.gh _ _ hC, O.cl, O.n 2, zlook (i := 2) O.nd rfl, L, _, rfl, .inl (SqL.of (Xb.gh _ _ h2)), fun o3 hn3 => ?_⟩
    have Xc := Xb.tmp (o := .lst (refs rs)) hn3
    have c3 : upd Hb o3 (.lst (refs rs)) o3 = some _ := upd_same
    have k1 := Same.new (.lst (refs rs)) hn3
    have sc := sb.trans k1
    have n13 := ne_of_none c1 hn3
    have c1 := k1 _ _ c1
    generalize upd Hb o3 (.lst (refs rs)) = Hc at *
    refine ⟨_, rfl, b, C, co, _, dx', _, _, rfl, Xc.gh _ _ i1, Xc.gh _ _ hC, O.cl, O.n 2, zlook (i := 2) O.nd rfl, L', _, rfl, .inl (SqL.of (Xc.gh _ _ i2)), fun o4 hn4 => ?_⟩
    have Xd := Xc.tmp (o := .lst (refs rs')) hn4
    have c4 : upd Hc o4 (.lst (refs rs')) o4 = some _ := upd_same
    have k1 := Same.new (.lst (refs rs')) hn4
    have sd := sc.trans k1
    have n14 := ne_of_none c1 hn4
    have n34 := ne_of_none c3 hn4
    have c1 := k1 _ _ c1
    have c3 := k1 _ _ c3
    generalize upd Hc o4 (.lst (refs rs')) = Hd at *
    refine ⟨(by show 2 ≤ sizeLine; decide), fun o2 hn2 => ?_⟩
    have Xe := Xd.tmp (o := .lst [.ref o3, .ref o4]) hn2
    have c2 : upd Hd o2 (.lst [.ref o3, .ref o4]) o2 = some _ := upd_same
    have k1 := Same.new (.lst [.ref o3, .ref o4]) hn2
    have se := sd.trans k1
    have n12 := ne_of_none c1 hn2
    have n32 := ne_of_none c3 hn2
    have n42 := ne_of_none c4 hn2
    have c1 := k1 _ _ c1
    have c3 := k1 _ _ c3
    have c4 := k1 _ _ c4
    generalize upd Hd o2 (.lst [.ref o3, .ref o4]) = He at *
    -- found
    refine ⟨(by show 0 ≤ sizeLine; decide), fun o5 hn5 => ?_⟩
    have Xf := Xe.tmp (o := .lst []) hn5
    have c5 : upd He o5 (.lst []) o5 = some _ := upd_same
    have k1 := Same.new (.lst []) hn5
    have sf := se.trans k1
    have n15 := ne_of_none c1 hn5
    have n35 := ne_of_none c3 hn5
    have n45 := ne_of_none c4 hn5
    have n25 := ne_of_none c2 hn5
    have c1 := k1 _ _ c1
    have c2 := k1 _ _ c2
    have c3 := k1 _ _ c3
    have c4 := k1 _ _ c4
    generalize upd He o5 (.lst []) = Hf at *
    have f1 : H o1 = none := sa.free hn1
    have f3 : H o3 = none := sb.free hn3
    have f4 : H o4 = none := sc.free hn4
    have f2 : H o2 = none := sd.free hn2
    have f5 : H o5 = none := se.free hn5
    have M0 : MgAt T G Hf o1 o2 o3 o4 o5 s.n t.n s.kept t.kept [] := ⟨c1, c2, ⟨rs, c3, h3⟩, ⟨rs', c4, i3⟩, ⟨[], c5, .nil⟩, hG.free f1, hG.free f2, hG.free f3, hG.free f4, hG.free f5⟩
    have hEe : H X.e ≠ none := by obtain ⟨c, z⟩ := hd _ _ _ hE; rw [z]; simp
    have hEP : H X.Pa ≠ none := by obtain ⟨ps, z, _⟩ := hE.path; rw [z]; simp
    have nm : ∀ o ∈ [o1, o2, o3, o4, o5], o ∉ X.ms := by
      intro o ho
      have h0 : H o = none := by
        simp at ho
        rcases ho with rfl | rfl | rfl | rfl | rfl <;> assumption
      intro hm'
      simp [DX.ms] at hm'
      rcases hm' with rfl | rfl
      · exact hEe h0
      · exact hEP h0
    have Ex0 : DiAt K CE G Hf X x := by
      obtain ⟨c, z1, z2⟩ := hE.ins
      obtain ⟨ps, z3, z4⟩ := hE.path
      exact ⟨⟨c, sf _ _ z1, z2⟩, ⟨ps, sf _ _ z3, z4⟩, hE.ge, hE.gp, hE.ch⟩

    have hrun' : (drawW (fun i => (T i).w) k s.n t.n s.kept t.kept []).Run x ∧ (merge (fun i => (T i).w) so false k s t).exec x = (⟨s.n + t.n, ((drawW (fun i => (T i).w) k s.n t.n s.kept t.kept []).exec x).1⟩, ((drawW (fun i => (T i).w) k s.n t.n s.kept t.kept []).exec x).2) := by
      have e : merge (fun i => (T i).w) so false k s t = (drawW (fun i => (T i).w) k s.n t.n s.kept t.kept []).bind fun f => .ret ⟨s.n + t.n, f⟩ := rfl
      rw [e] at hrun ⊢
      rw [Tr.exec_bind]
      exact ⟨((Tr.Run_bind _ _ _).mp hrun).1, rfl⟩
    obtain ⟨hr0, hex⟩ := hrun'
    rw [hex] at q
    generalize hres : (drawW (fun i => (T i).w) k s.n t.n s.kept t.kept []).exec x = res at q
    -- the end
    have fin : ∀ (G2 H2 : Hp) (x2 : ES) (F : List Nat) (rF : List Addr), Ext X.ms G H G2 H2 → DiAt K CE G2 H2 X x2 → H2 o5 = some (.lst (refs rF)) → Itms T G2 rF F → (F, x2) = res →
        H2 C = some (clsO C co "Weighted") ∧ ∀ z dz, H2 z = none → H2 dz = none → dz ≠ z → spInit (kW C co) (.ref z :: [.int (k : Int), .int ((s.n + t.n : Nat) : Int), .ref o5]) (upd (upd H2 dz (.own z)) z (.ins C dz [])) (fun v H5 => v = .non ∧ Q (.ref z) H5) E0 := by
      rintro G2 H2 x2 F rF X2 D2 cF iF rfl
      exact make_sm (D := kW C co) (T := T) (rs := rF) (is := F) (n := s.n + t.n) X2 cF iF (X2.gg _ _ hC) fun r G5 H5 X5 g5 h5 hS5 => q G5 H5 r X5 (ExAt.same (D := X) D2 hE X5 g5 h5) hS5
    refine ⟨fun (m : Nat) σ H2 => ∃ v6 v7 G2 na nb A B F x2, σ = [some (.ref a), some (.ref b), some (.ref X.e), some (.ref o1), some (.ref o2), some (.ref o5), v6, v7] ∧ Ext X.ms G H G2 H2 ∧ MgAt T G2 H2 o1 o2 o3 o4 o5 na nb A B F ∧
      DiAt K CE G2 H2 X x2 ∧ (drawW (fun i => (T i).w) m na nb A B F).Run x2 ∧ (drawW (fun i => (T i).w) m na nb A B F).exec x2 = res ∧ F.length + m = k ∧ A.length ≤ 2 ∧ B.length ≤ 2 ∧ Wv (fun i => (T i).w) m na A ∧ Wv (fun i => (T i).w) m nb B,
      ⟨k, none, none, G, s.n, t.n, s.kept, t.kept, [], x, rfl, Xf, M0, Ex0, hr0, hres, by simp, by omega, by omega, va.wv, vb.wv⟩, ?_⟩
    rintro m σ H2 ⟨v6, v7, G2, na, nb, A, B, F, x2, rfl, X2, M2, D2, R2, eq2, lF, lA, lB, WA, WB⟩
    obtain ⟨c, he2⟩ := hd _ _ _ D2
    obtain ⟨rF, cF, iF⟩ := M2.h5
    have lrF := iF.length
    have over : (F, x2) = res → tRet (tMakeS C co "Weighted" (spInit (kW C co)) (tCons (tFldS K (tVar 0) "size") (tCons (tOp (rI0 fun i j => .int (i + j)) (tFldS K (tVar 0) "total") (tFldS K (tVar 1) "total")) (tCons (tVar 5) tNil)))) { nx := fun _ H' => Q .non H', rt := Q } [some (.ref a), some (.ref b), some (.ref X.e), some (.ref o1), some (.ref o2), some (.ref o5), v6, v7] H2 := fun e => by
      refine ⟨_, rfl, a, C, co, _, dx, _, _, rfl, X2.gh _ _ (X2.gg _ _ h1), X2.gh _ _ (X2.gg _ _ hC), O.cl, O.n 0, zlook (i := 0) O.nd rfl, _, rfl, a, C, co, _, dx, _, _, rfl, X2.gh _ _ (X2.gg _ _ h1), X2.gh _ _ (X2.gg _ _ hC), O.cl, O.n 1, zlook (i := 1) O.nd rfl,
        _, rfl, b, C, co, _, dx', _, _, rfl, X2.gh _ _ (X2.gg _ _ i1), X2.gh _ _ (X2.gg _ _ hC), O.cl, O.n 1, zlook (i := 1) O.nd rfl, _, _, rfl, rfl, _, rfl, ?_⟩
      exact fin G2 H2 x2 F rF X2 D2 cF iF e
    refine ⟨_, rfl, o5, _, rfl, .inl (SqL.of cF), _, rfl, a, C, co, _, dx, _, _, rfl, X2.gh _ _ (X2.gg _ _ h1), X2.gh _ _ (X2.gg _ _ hC), O.cl, O.n 0, zlook (i := 0) O.nd rfl, _, _, rfl, rfl, _, rfl, ite2 (fun hlt => ?_) (fun hge => ?_)⟩
    case refine_2 =>
      have hm0 : m = 0 := by
        have h2 : ¬ (((refs rF).length : Int) < (k : Int)) := fun z => hge (decide_eq_true z)
        simp at h2
        omega
      subst hm0
      refine iteF (over ?_)
      exact eq2
    have hmp : 0 < m := by
      have h2 := of_decide_eq_true hlt
      simp at h2
      omega
    obtain ⟨m, rfl⟩ : ∃ m', m = m' + 1 := ⟨m - 1, by omega⟩
    refine ⟨_, rfl, o1, [(na : Int), (nb : Int)], rfl, SqL.of M2.h1, _, _, rfl, rfl, _, rfl, ?_⟩
    have hsum : [(na : Int), (nb : Int)].sum = ((na + nb : Nat) : Int) := by simp
    rw [hsum]
    refine ite2 (fun hpos => ?_) (fun hz => ?_)
    case refine_2 =>
      have h0 : na + nb = 0 := by
        have h2 : ¬ ((0 : Int) < ((na + nb : Nat) : Int)) := fun z => hz (decide_eq_true z)
        omega
      unfold drawW at eq2
      rw [if_pos h0] at eq2
      exact over eq2
    have h0 : ¬ na + nb = 0 := by
      have h2 := of_decide_eq_true hpos
      omega
    unfold drawW at R2 eq2
    rw [if_neg h0] at R2 eq2
    refine ⟨_, fun σ' H' z => ⟨m, Nat.lt_succ_self _, z⟩, ?_⟩
    -- side = dice.pick(list(left))
    refine ⟨_, rfl, X.e, X.dx, _, rfl, he2, exF_look _ _ _ _ _ _ _, _, rfl, o1, _, rfl, .inl (SqL.of M2.h1), fun l hl => ?_⟩
    have X3 := X2.tmp (o := .lst [.int (na : Int), .int (nb : Int)]) hl
    have D3 := ExAt.tmp (D := X) (u := .lst [.int (na : Int), .int (nb : Int)]) D2 X2.gh hl
    have M3 := M2.tmp (u := .lst [.int (na : Int), .int (nb : Int)]) X2.gh hl
    have hl' : upd H2 l (.lst [.int (na : Int), .int (nb : Int)]) l = some _ := upd_same
    have nlP : l ≠ X.Pa := fun z => by
      obtain ⟨ps, z1, _⟩ := D2.path
      rw [← z, hl] at z1; cases z1
    generalize upd H2 l (.lst [.int (na : Int), .int (nb : Int)]) = H3 at *
    dsimp only [tNil, List.append_nil]
    refine pick_step (D := X) X3.gh D3 R2 hl' nlP (by show 2 ≤ 24; decide) fun side G4 H4 x4 hs hp E4 D4 R4 eq4 => ?_
    have eq2 := eq4.trans eq2
    have X4 := X3.trans E4 (fun b hb => .inl hb)
    have M4 := M3.keep E4 nm
    clear D3 M3 X3 hl' hl nlP eq4 R2 cF iF lrF
    have hside : side = 0 ∨ side = 1 := by
      have : side < 2 := hs
      omega
    rcases hside with rfl | rfl

    · rw [if_pos rfl] at R4 eq2
      have hp : 0 < na := hp
      obtain ⟨y, r, rfl, hw1, hw2⟩ : ∃ y r, A = y :: r ∧ (T y).w ≤ na ∧ Wv (fun i => (T i).w) m (na - (T y).w) r := by
        rcases WA with z | z
        · omega
        · exact z
      obtain ⟨rS, cS, iS⟩ := M4.h3
      obtain ⟨rF, cF, iF⟩ := M4.h5
      have lrF := iF.length
      cases iS with
      | @cons ay _ rr _ iy it =>
      -- item = lists[side].pop(0)
      refine ⟨_, rfl, _, rfl, o2, _, _, _, rfl, rfl, SqL.of M4.h2, atI_nat (j := 0) rfl, .inl ⟨rfl, _, SqL.of cS⟩, o3, _, _, 0, .ref ay, rfl, rfl, cS, by decide, by decide, seqIx (by simp [refs]), rfl, ?_⟩
      -- found.append(item)
      refine ⟨_, rfl, .inl ⟨rfl, _, SqL.of ((upd_ne n35.symm).trans cF)⟩, _, rfl, o5, _, _, rfl, rfl, (upd_ne n35.symm).trans cF, small1000 (by simp; omega), ?_⟩
      -- left[side] -= item[2]
      refine ⟨_, rfl, _, rfl, o1, _, 0, _, rfl, rfl, SqL.of ((upd_ne n15).trans ((upd_ne n13).trans M4.h1)), by decide, rfl, _, rfl, ay, _, _, _, rfl, rfl, SqT.of ((((X4.wr (.inr f3) M4.g3).wr (.inr f5) M4.g5)).gh _ _ iy.2), atI_nat (j := 2) rfl, _, _, rfl, rfl, o1, _, _, 0, rfl, rfl, (upd_ne n15).trans ((upd_ne n13).trans M4.h1), ixN_nat (by simp), ?_⟩
      refine ⟨_, _, G4, na - (T y).w, nb, r, B, F ++ [y], x4, rfl, ((X4.wr (.inr f3) M4.g3).wr (.inr f5) M4.g5).wr (.inr f1) M4.g1, ?_, ?_, R4, eq2, by simp; omega, by simp at lA; omega, lB, hw2, WB.pred⟩
      · obtain ⟨rO, cO, iO⟩ := M4.h4
        refine ⟨?_, ?_, ?_, ?_, ⟨rF ++ [ay], ?_, paired_append iF (.cons iy .nil)⟩, M4.g1, M4.g2, M4.g3, M4.g4, M4.g5⟩
        · rw [upd_same]
          have : (((na : Nat) : Int) - ((T y).w : Int)) = (((na - (T y).w : Nat)) : Int) := by omega
          simp [this]
        · rw [upd_ne n12.symm, upd_ne n25, upd_ne n32.symm]; exact M4.h2
        · refine ⟨rr, ?_, it⟩
          rw [upd_ne n13.symm, upd_ne n35, upd_same]; rfl
        · exact ⟨rO, by rw [upd_ne n14.symm, upd_ne n45, upd_ne n34.symm]; exact cO, iO⟩
        · rw [upd_ne n15.symm, upd_same]; simp [refs]
      · exact ExAt.keep D4 (((Ext.refl (ms := [o3, o5, o1]) X4.gh).wr (m := o3) (.inl (by simp)) M4.g3).wr (m := o5) (.inl (by simp)) M4.g5 |>.wr (m := o1) (.inl (by simp)) M4.g1) (by have a1 := nm o1 (by simp); have a2 := nm o3 (by simp); have a3 := nm o5 (by simp); simp [DX.ms] at a1 a2 a3; simp; exact ⟨fun z => a2.1 z.symm, fun z => a3.1 z.symm, fun z => a1.1 z.symm⟩) (by have a1 := nm o1 (by simp); have a2 := nm o3 (by simp); have a3 := nm o5 (by simp); simp [DX.ms] at a1 a2 a3; simp; exact ⟨fun z => a2.2 z.symm, fun z => a3.2 z.symm, fun z => a1.2 z.symm⟩)

    · rw [if_neg (by decide)] at R4 eq2
      have hp : 0 < nb := hp
      obtain ⟨y, r, rfl, hw1, hw2⟩ : ∃ y r, B = y :: r ∧ (T y).w ≤ nb ∧ Wv (fun i => (T i).w) m (nb - (T y).w) r := by
        rcases WB with z | z
        · omega
        · exact z
      obtain ⟨rS, cS, iS⟩ := M4.h4
      obtain ⟨rF, cF, iF⟩ := M4.h5
      have lrF := iF.length
      cases iS with
      | @cons ay _ rr _ iy it =>
      -- item = lists[side].pop(0)
      refine ⟨_, rfl, _, rfl, o2, _, _, _, rfl, rfl, SqL.of M4.h2, atI_nat (j := 1) rfl, .inl ⟨rfl, _, SqL.of cS⟩, o4, _, _, 0, .ref ay, rfl, rfl, cS, by decide, by decide, seqIx (by simp [refs]), rfl, ?_⟩
      -- found.append(item)
      refine ⟨_, rfl, .inl ⟨rfl, _, SqL.of ((upd_ne n45.symm).trans cF)⟩, _, rfl, o5, _, _, rfl, rfl, (upd_ne n45.symm).trans cF, small1000 (by simp; omega), ?_⟩
      -- left[side] -= item[2]
      refine ⟨_, rfl, _, rfl, o1, _, 1, _, rfl, rfl, SqL.of ((upd_ne n15).trans ((upd_ne n14).trans M4.h1)), by decide, rfl, _, rfl, ay, _, _, _, rfl, rfl, SqT.of ((((X4.wr (.inr f4) M4.g4).wr (.inr f5) M4.g5)).gh _ _ iy.2), atI_nat (j := 2) rfl, _, _, rfl, rfl, o1, _, _, 1, rfl, rfl, (upd_ne n15).trans ((upd_ne n14).trans M4.h1), ixN_nat (by simp), ?_⟩
      refine ⟨_, _, G4, na, nb - (T y).w, A, r, F ++ [y], x4, rfl, ((X4.wr (.inr f4) M4.g4).wr (.inr f5) M4.g5).wr (.inr f1) M4.g1, ?_, ?_, R4, eq2, by simp; omega, lA, by simp at lB; omega, WA.pred, hw2⟩
      · obtain ⟨rO, cO, iO⟩ := M4.h3
        refine ⟨?_, ?_, ?_, ?_, ⟨rF ++ [ay], ?_, paired_append iF (.cons iy .nil)⟩, M4.g1, M4.g2, M4.g3, M4.g4, M4.g5⟩
        · rw [upd_same]
          have : (((nb : Nat) : Int) - ((T y).w : Int)) = (((nb - (T y).w : Nat)) : Int) := by omega
          simp [this]
        · rw [upd_ne n12.symm, upd_ne n25, upd_ne n42.symm]; exact M4.h2
        · exact ⟨rO, by rw [upd_ne n13.symm, upd_ne n35, upd_ne n34]; exact cO, iO⟩
        · refine ⟨rr, ?_, it⟩
          rw [upd_ne n14.symm, upd_ne n45, upd_same]; rfl
        · rw [upd_ne n15.symm, upd_same]; simp [refs]
      · exact ExAt.keep D4 (((Ext.refl (ms := [o4, o5, o1]) X4.gh).wr (m := o4) (.inl (by simp)) M4.g4).wr (m := o5) (.inl (by simp)) M4.g5 |>.wr (m := o1) (.inl (by simp)) M4.g1) (by have a1 := nm o1 (by simp); have a2 := nm o4 (by simp); have a3 := nm o5 (by simp); simp [DX.ms] at a1 a2 a3; simp; exact ⟨fun z => a2.1 z.symm, fun z => a3.1 z.symm, fun z => a1.1 z.symm⟩) (by have a1 := nm o1 (by simp); have a2 := nm o4 (by simp); have a3 := nm o5 (by simp); simp [DX.ms] at a1 a2 a3; simp; exact ⟨fun z => a2.2 z.symm, fun z => a3.2 z.symm, fun z => a1.2 z.symm⟩)
end
end Sam
end
section
set_option Elab.async false
set_option linter.all false
set_option maxRecDepth 100000
set_option maxHeartbeats 1000000
namespace Sam
open PySem PySem.Spec PyProof.Rows L2
open C8 (pss_cut tCut call_isC InsC)
/-! ### a list or a tuple walked -/
def iSeq (K : PySem.W.Frag) (tl : TE) : TI := fun σ H R => tl σ H fun x H1 => ∃ a, x = .ref a ∧ (((∃ xs, SqL K H1 a xs) ∧ R (Itl K a) H1) ∨ ((∃ xs, SqT K H1 a xs) ∧ R (Itt K a) H1))
theorem pi_seq {X : Cx} {tg l : Expr} {tl : TE} (K : PySem.W.Frag) (hl : PE X l tl) (hK : X.K = K := by rfl) : PI X tg l (iSeq K tl) := by
  subst hK
  refine ⟨fun pins s σ H R I h => ?_⟩
  refine thn (hl.run pins s σ H _ I h) fun v s1 ⟨x, H1, I1, r1, a, e, q⟩ => ?_
  subst e
  cases r1
  rcases q with ⟨⟨xs, hq⟩, q⟩ | ⟨⟨xs, hq⟩, q⟩
  · obtain ⟨its, rv, p, hz⟩ := I1.list hq
    refine wpAny_pyIter_list p.isList ?_
    refine ⟨s1.heap.objs.size, [s1.heap.objs.size], _, _, H1, rfl, I1.kept (t' := s1.toks) fun b o e => Heap.get?_push_of_some _ e, turn_list a _, ⟨_, Heap.get?_push_size _ rfl, rfl, rfl⟩, fun b hb => ?_, q⟩
    have e : b = s1.heap.objs.size := by simpa using hb
    subst e
    exact I1.fpOk (Nat.le_refl _) (I1.hok.fresh (Nat.le_refl _))
  · obtain ⟨its, rv, p, hz⟩ := I1.tuple hq
    refine wpAny_pyIter_tuple p ?_
    refine ⟨s1.heap.objs.size, [s1.heap.objs.size], _, _, H1, rfl, I1.kept (t' := s1.toks) fun b o e => Heap.get?_push_of_some _ e, turn_tuple a _, ⟨_, Heap.get?_push_size _ rfl, rfl, rfl⟩, fun b hb => ?_, q⟩
    have e : b = s1.heap.objs.size := by simpa using hb
    subst e
    exact I1.fpOk (Nat.le_refl _) (I1.hok.fresh (Nat.le_refl _))
theorem for_seq {K : PySem.W.Frag} {a : Addr} {xs : List V} {g : TG} {tb : TS} {D : Ends} {n : Nat} {σ : L2.St} {H H0 : Hp} (hv : σ[n]? = some (some (.ref a))) (hx : SqL K H0 a xs ∨ SqT K H0 a xs) (Pv : Nat → L2.St → Hp → Prop) (h0 : Pv 0 σ H) (hl : ∀ i σ H2, i ≤ xs.length → Pv i σ H2 → Same H0 H2)
    (hs : ∀ i x σ H, xs[i]? = some x → Pv i σ H → g x σ H fun σ2 H2 => tb { D with nx := Pv (i + 1), ct := Pv (i + 1), bk := D.nx } σ2 H2) (hd : ∀ σ H, Pv xs.length σ H → D.nx σ H) : tFor (iSeq K (tVar n)) g tb D σ H := by
  refine ⟨_, hv, a, rfl, ?_⟩
  rcases hx with h | h
  · exact .inl ⟨⟨xs, (hl 0 σ H (Nat.zero_le _) h0).seq h⟩, for_list (K := K) Pv h0 (fun i σ H2 hi p => (hl i σ H2 hi p).seq h) hs hd⟩
  · exact .inr ⟨⟨xs, (hl 0 σ H (Nat.zero_le _) h0).seqT h⟩, for_tup (K := K) Pv h0 (fun i σ H2 hi p => (hl i σ H2 hi p).seqT h) hs hd⟩

section
variable {P : Program} {w : World} {K : PySem.W.Frag} {mg : Str → Option Value} {base : Heap} {CE : Addr}
abbrev strV (l : List Str) : List V := l.map V.str
def Rows (K : PySem.W.Frag) (H : Hp) (as : List Addr) (xss : List (List Str)) : Prop := Paired (fun a xs => SqL K H a (strV xs) ∨ SqT K H a (strV xs)) as xss
theorem Rows.mono {H H' : Hp} {as : List Addr} {xss : List (List Str)} (s : Same H H') (h : Rows K H as xss) : Rows K H' as xss := Paired.mapP h fun _ _ z => z.imp s.seq s.seqT
def spTwice (K : PySem.W.Frag) : Sp := fun vs H Q _ => ∃ (l : Addr) (as : List Addr) (xss : List (List Str)), vs = [.ref l] ∧ SqL K H l (refs as) ∧ Rows K H as xss ∧ xss.flatten.Nodup ∧ xss.flatten.length ≤ 1000 ∧ ∀ H', Same H H' → Q .non H'
theorem sc17 : FnScope ["lists", "seen", "twice", "row", "element"] ["lists"] (defScope (top 17)) := ⟨rfl, rfl, rfl, by decide +kernel, rfl, by decide +kernel, by decide +kernel⟩
theorem flat_take {α : Type} : ∀ {xss : List (List α)} {i : Nat} {xs : List α}, xss[i]? = some xs → ∃ r, xss.flatten = (xss.take i).flatten ++ (xs ++ r)
  | [], i, xs, h => by simp at h
  | y :: t, 0, xs, h => by
    simp at h; subst h
    exact ⟨t.flatten, by simp⟩
  | y :: t, i + 1, xs, h => by
    obtain ⟨r, e⟩ := flat_take (xss := t) (i := i) (by simpa using h)
    exact ⟨r, by simp [e]⟩
theorem flat_take_succ {α : Type} {xss : List (List α)} {i : Nat} {xs : List α} (h : xss[i]? = some xs) : (xss.take (i + 1)).flatten = (xss.take i).flatten ++ xs := by
  rw [List.take_add_one, h]
  simp
theorem ok_twice (B : Bn mg) (d : Df K mg "least_twice" (top 17) ["lists"]) : Cl P w K mg base "least_twice" ["lists"] 1 (spTwice K) := by
  refine d.ok sc17 (fun vs H Q E h => ?_) (fun f cdv A outer s H vs Q E hr h => ?_)
  · obtain ⟨l, as, xss, rfl, _⟩ := h
    rfl
  · obtain ⟨l, as, xss, rfl, hl, hR, hN, hL, q⟩ := h
    have nd := sc17.nd
    have hu := hu_of hr
    refine ⟨_, pss_cons (ps_set (i := 1) nd rfl (.inl rfl) pe_dnewK) (pss_cons (ps_set (i := 2) nd rfl (.inl rfl) (pe_lst pa_nil))
      (pss_cons (ps_for PassesOwn.never rfl (pi_list (pv 0)) (pg_name (i := 3) nd rfl (.inl rfl))
        (pss_one (ps_for PassesOwn.never rfl (pi_seq K (pv 3)) (pg_name (i := 4) nd rfl (.inl rfl))
          (pss_cons (ps_if (pt_cmp (pc_din hu (pv 4) (pv 1)) (by with_unfolding_all rfl)) pss_never pss_nil) (pss_one (ps_dput hu (pv 1) (pv 4) pe_bl (by rfl)))))))
      (pss_one (ps_ret (pe_callBK (min_default rfl) (by rfl) B.min (by decide +kernel) (pa_cons (pv 2) pa_nil) (pk_cons pe_non pk_nil)))))), ?_⟩
    refine fun sd hsd => ?_
    have s1 := Same.new (.dK []) hsd
    have d1 : upd H sd (.dK []) sd = some _ := upd_same
    generalize upd H sd (.dK []) = H1 at *
    refine ⟨(by show 0 ≤ sizeLine; decide), fun tw htw => ?_⟩
    have s2 := s1.trans (Same.new (.lst []) htw)
    have d2 : upd H1 tw (.lst []) tw = some _ := upd_same
    have d1 := Same.new (.lst []) htw _ _ d1
    generalize upd H1 tw (.lst []) = H2 at *
    have ntw : tw ≠ sd := ne_of d2 d1 (by intro z; cases z)
    refine ⟨_, rfl, l, rfl, ⟨_, s2.seq hl⟩, for_list (K := K) (xs := refs as) (fun i σ H3 => ∃ v3 v4 kvs, σ = [some (.ref l), some (.ref sd), some (.ref tw), v3, v4] ∧ Same H H3 ∧ H3 sd = some (.dK kvs) ∧ H3 tw = some (.lst []) ∧
        (∀ x, (valV kvs (Sum.inr x)).isSome = true → x ∈ (xss.take i).flatten) ∧ kvs.length ≤ (xss.take i).flatten.length)
      ⟨none, none, [], rfl, s2, d1, d2, fun x z => by simp [valV_nil] at z, by simp⟩ ?_ ?_ ?_⟩
    · rintro i σ H3 _ ⟨_, _, _, _, s3, _⟩
      exact s3.seq hl
    · rintro i x σ H3 hx ⟨v3, v4, kvs, rfl, s3, d3, d4, hk, hkl⟩
      rw [List.getElem?_map] at hx
      obtain ⟨ra, hra, rfl⟩ := Option.map_eq_some_iff.mp hx
      obtain ⟨xs, hxs, hrow⟩ := paired_get hR hra
      obtain ⟨rest, hflat⟩ := flat_take hxs
      refine for_seq (n := 3) (K := K) (a := ra) (xs := strV xs) rfl hrow (fun j σ H4 => ∃ v4 kvs, σ = [some (.ref l), some (.ref sd), some (.ref tw), some (.ref ra), v4] ∧ Same H H4 ∧ H4 sd = some (.dK kvs) ∧ H4 tw = some (.lst []) ∧
        (∀ x, (valV kvs (Sum.inr x)).isSome = true → x ∈ (xss.take i).flatten ++ xs.take j) ∧ kvs.length ≤ (xss.take i).flatten.length + j)
        ⟨v4, kvs, rfl, s3, d3, d4, fun x z => List.mem_append_left _ (hk x z), hkl⟩ ?_ ?_ ?_
      · rintro j σ H4 _ ⟨_, _, _, s4, _⟩
        exact s4
      · rintro j y σ H4 hy ⟨v4, kvs, rfl, s4, d5, d6, hk, hkl⟩
        rw [List.getElem?_map] at hy
        obtain ⟨x, hx, rfl⟩ := Option.map_eq_some_iff.mp hy
        have hjl := (List.getElem?_eq_some_iff.mp hx).1
        refine ⟨_, rfl, _, rfl, sd, _, rfl, DGet.k (k := Sum.inr x) d5, _, rfl, ite2 (fun z => ?_) fun _ => ?_⟩
        · exfalso
          have hm := hk x z
          rw [hflat] at hN
          have e : xs = xs.take j ++ x :: xs.drop (j + 1) := by
            conv => lhs; rw [← List.take_append_drop j xs, List.drop_eq_getElem_cons hjl]
            rw [(List.getElem?_eq_some_iff.mp hx).2]
          rw [e] at hN
          have hN2 : ((xss.take i).flatten ++ xs.take j ++ x :: (xs.drop (j + 1) ++ rest)).Nodup := by
            simpa [List.append_assoc] using hN
          have := (List.nodup_append.mp hN2).2.2
          exact this x hm x List.mem_cons_self rfl
        · have hlen : (xss.take i).flatten.length + xs.length ≤ xss.flatten.length := by
            rw [hflat]; simp
          refine ⟨_, rfl, _, rfl, sd, _, rfl, DPut.k (k := Sum.inr x) d5 (small1000 (by omega)), some (.str x), putK kvs (Sum.inr x) (.bl true), rfl, s4.mut _ hsd, upd_same, (upd_ne ntw).trans d6, fun z hz => ?_, ?_⟩
          · rw [valV_put] at hz
            rw [List.take_add_one, hx]
            by_cases e : (Sum.inr z : Key) = Sum.inr x
            · have := Sum.inr.inj e
              subst this
              simp
            · rw [if_neg e] at hz
              have := hk z hz
              simp at this ⊢
              rcases this with h | h
              · exact .inl h
              · exact .inr (.inl h)
          · have := length_putK kvs (Sum.inr x) (.bl true)
            omega
      · rintro σ H4 ⟨v4, kvs, rfl, s4, d5, d6, hk, hkl⟩
        have e : xs.take (strV xs).length = xs := by simp
        refine ⟨_, _, kvs, rfl, s4, d5, d6, fun x z => ?_, ?_⟩
        · rw [flat_take_succ hxs]
          have := hk x z
          rw [e] at this
          exact this
        · rw [flat_take_succ hxs]
          simp at hkl ⊢
          omega
    · rintro σ H3 ⟨v3, v4, kvs, rfl, s3, d3, d4, hk, hkl⟩
      exact ⟨_, rfl, tw, .non, rfl, rfl, SqL.of d4, q _ s3⟩
end
end Sam
end
section
set_option Elab.async false
set_option linter.all false
set_option maxRecDepth 100000
set_option maxHeartbeats 1000000
namespace Sam
open PySem PySem.Spec PyProof.Rows L2
open C8 (pss_cut tCut call_isC InsC)
/-! ### parcels -/
structure Par where
  ps : List Nat
  smp : Smp Nat
def ptV (l : List Nat) : List V := l.map fun i => V.str (pNm i)
def PaIs (D : Kd) (T : Nat → Thing) (k : Nat) (G : Hp) (a : Addr) (p : Par) : Prop := ∃ t s, G a = some (.tup [.ref t, .ref s]) ∧ G t = some (.tup (ptV p.ps)) ∧ SmIs D T k G s p.smp ∧ ∀ i ∈ p.ps, i < 4
theorem PaIs.mono {D : Kd} {T : Nat → Thing} {k : Nat} {G G' : Hp} {a : Addr} {p : Par} (e : Same G G') (h : PaIs D T k G a p) : PaIs D T k G' a p :=
  let ⟨t, s, h1, h2, h3, h4⟩ := h
  ⟨t, s, e _ _ h1, e _ _ h2, h3.mono e, h4⟩
def Pas (D : Kd) (T : Nat → Thing) (k : Nat) (G : Hp) (as : List Addr) (ps : List Par) : Prop := Paired (PaIs D T k G) as ps
theorem Pas.mono {D : Kd} {T : Nat → Thing} {k : Nat} {G G' : Hp} {as : List Addr} {ps : List Par} (e : Same G G') (h : Pas D T k G as ps) : Pas D T k G' as ps := Paired.mapP h fun _ _ z => z.mono e
theorem Pas.get {D : Kd} {T : Nat → Thing} {k : Nat} {G : Hp} {as : List Addr} {ps : List Par} {j : Nat} {x : V} (h : Pas D T k G as ps) (e : (refs as)[j]? = some x) : ∃ a p, x = .ref a ∧ ps[j]? = some p ∧ PaIs D T k G a p := by
  rw [List.getElem?_map] at e
  obtain ⟨r, hr, rfl⟩ := Option.map_eq_some_iff.mp e
  obtain ⟨i, h1, h2⟩ := paired_get h hr
  exact ⟨r, i, rfl, h1, h2⟩
theorem nodup_map_on {α β : Type} {f : α → β} : ∀ {l : List α}, l.Nodup → (∀ a ∈ l, ∀ b ∈ l, f a = f b → a = b) → (l.map f).Nodup
  | [], _, _ => List.nodup_nil
  | x :: r, hn, hf => by
    rw [List.map_cons, List.nodup_cons]
    obtain ⟨h1, h2⟩ := List.nodup_cons.mp hn
    refine ⟨fun hm => ?_, nodup_map_on h2 fun a ha b hb => hf a (List.mem_cons_of_mem _ ha) b (List.mem_cons_of_mem _ hb)⟩
    obtain ⟨y, hy, e⟩ := List.mem_map.mp hm
    have := hf y (List.mem_cons_of_mem _ hy) x List.mem_cons_self e
    exact h1 (this ▸ hy)
theorem cut1 (xs : List V) : cutV xs (some 1) none = xs.drop 1 := by
  unfold cutV
  have e : HT.sIx xs.length 0 (some (1 : Int)) = min 1 xs.length := HT.sIx_nat _ _ 1
  rw [e, HT.sIx_none]
  cases xs with
  | nil => rfl
  | cons x r =>
    have : min 1 (x :: r).length = 1 := by simp
    rw [this]
    simp
/-- parcels that may stand together -/
structure ApartP (ps : List Par) : Prop where
  np : (ps.flatMap (·.ps)).Nodup
  nk : (ps.flatMap (·.smp.kept)).Nodup
  lp : (ps.flatMap (·.ps)).length ≤ 1000
  lk : (ps.flatMap (·.smp.kept)).length ≤ 1000
  ln : ps.length ≤ 1000
section
variable {P : Program} {w : World} {K : PySem.W.Frag} {mg : Str → Option Value} {base : Heap} {CE : Addr}
def spApart (D : Kd) (T : Nat → Thing) (k : Nat) (K : PySem.W.Frag) : Sp := fun vs H Q _ => ∃ (G : Hp) (l : Addr) (as : List Addr) (ps : List Par), vs = [.ref l] ∧ Same G H ∧ SqL K H l (refs as) ∧ Pas D T k G as ps ∧ ApartP ps ∧ ∀ H', Same H H' → Q .non H'
abbrev N18 : List Str := ["parcels", "_", "part", "sample", "first", "key", "parts", "item"]
theorem sc18 : FnScope N18 ["parcels"] (defScope (top 18)) := ⟨rfl, rfl, rfl, by decide +kernel, rfl, by decide +kernel, by decide +kernel⟩
theorem ok_apart {D : Kd} {T : Nat → Thing} {k : Nat} (B : Bn mg) (O : KdOk K D) (d : Df K mg "check_apart" (top 18) ["parcels"]) (cT : Cl P w K mg base "least_twice" ["lists"] 1 (spTwice K)) : Cl P w K mg base "check_apart" ["parcels"] 2 (spApart D T k K) := by
  refine d.ok sc18 (fun vs H Q E h => ?_) (fun f cdv A outer s0 H vs Q E hr h => ?_)
  · obtain ⟨G, l, as, ps, rfl, _⟩ := h
    rfl
  · obtain ⟨G, l, as, ps, rfl, hG, hl, hP, hA, q⟩ := h
    have nd := sc18.nd
    refine ⟨_, pss_cons (ps_set (i := 2) nd rfl (.inl rfl) (pe_c cT hr (pa_cons (pe_lc (own := [("parts", 6), ("_", 1)]) (g := gTup K 2 (gCons (gName 6) (gCons (gName 1) gNil))) (by rfl) nd (pi_list (pv 0))
          (blkOk_by (own := [("parts", 6), ("_", 1)]) (N := N18) (sc := defScope (top 18)) (by decide +kernel)) (fun _ _ _ _ _ => kg_tup K (by rfl) (pgs_cons (pg_name (i := 6) nd rfl (Or.inl rfl)) (pgs_cons (pg_name (i := 1) nd rfl (Or.inl rfl)) pgs_nil)))
          (fun _ _ _ _ _ => pts_nil) (fun _ _ _ _ _ => pv 6)) pa_nil)))
      (pss_cons (ps_if (pt_cmpR op_notN (pv 2) pe_non (nomark _)) pss_never pss_nil)
      (pss_cons (ps_for PassesOwn.never rfl (pi_list (pe_slice sl_list (pv 0) (po_some pe_int) po_none)) (pg_tup rfl (pgs_cons (pg_name (i := 1) nd rfl (Or.inl rfl)) (pgs_cons (pg_name (i := 3) nd rfl (Or.inl rfl)) pgs_nil)))
        (pss_cons (ps_set (i := 4) nd rfl (.inl rfl) (pe_ix ix_tup (pe_ix ix_list (pv 0) pe_int (fun _ _ => rfl)) pe_int (fun _ _ => rfl)))
        (pss_one (ps_if (PW.pt (pw_or (pt_cmpR op_ne (ps_f K (pv 3)) (ps_f K (pv 4)) (nomark _)) (pw_or1 (pt_cmpR op_ne (ps_nm K (ps_cls K (pv 3))) (ps_nm K (ps_cls K (pv 4))) (nomark _))))) pss_never pss_nil))))
      (pss_cons (ps_set (i := 5) nd rfl (.inl rfl) (pe_c cT hr (pa_cons (pe_lc (own := [("_", 1), ("sample", 3)]) (g := gTup K 2 (gCons (gName 1) (gCons (gName 3) gNil))) (by rfl) nd (pi_list (pv 0))
          (blkOk_by (own := [("_", 1), ("sample", 3)]) (N := N18) (sc := defScope (top 18)) (by decide +kernel)) (fun _ _ _ _ _ => kg_tup K (by rfl) (pgs_cons (pg_name (i := 1) nd rfl (Or.inl rfl)) (pgs_cons (pg_name (i := 3) nd rfl (Or.inl rfl)) pgs_nil)))
          (fun _ _ _ _ _ => pts_nil) (fun _ _ _ _ _ => pe_lc (own := [("item", 7)]) (g := gName 7) (by rfl) nd (ki_list K (ps_f K (pv 3)))
            (blkOk_by (own := [("item", 7)]) (N := N18) (by rfl)) (fun _ _ _ _ _ => pg_name (i := 7) nd rfl (Or.inl rfl))
            (fun _ _ _ _ _ => pts_nil) (fun _ _ _ _ _ => pe_ix (kx_tup K) (pv 7) pe_int (fun _ _ => rfl)))) pa_nil)))
      (pss_one (ps_if (pt_cmpR op_notN (pv 5) pe_non (nomark _)) pss_never pss_nil))))), ?_⟩
    have lenP := hP.length
    refine ⟨_, rfl, l, rfl, ⟨_, hl⟩, fun D1 hD => lc_list (K := K) (xs := refs as) (fun i H2 => ∃ us, H2 = upd H D1 (.lst (refs us)) ∧ us.length = i ∧ Rows K H us ((ps.take i).map fun p => p.ps.map pNm)) ⟨[], rfl, rfl, .nil⟩ ?_ ?_ ?_⟩
    · rintro i H2 _ ⟨us, rfl, _⟩
      exact (Same.new _ hD).seq hl
    · rintro i x H2 hx ⟨us, rfl, lu, hu⟩
      obtain ⟨a, p, rfl, e1, t, s, p1, p2, p3, p4⟩ := hP.get hx
      have hi : i < ps.length := (List.getElem?_eq_some_iff.mp e1).1
      refine ⟨a, _, rfl, SqT.of (Same.new _ hD _ _ (hG _ _ p1)), rfl, _, _, rfl, _, _, rfl, rfl, rfl, yes_ok ?_⟩
      refine ⟨_, rfl, _, upd_same, small1000 (by simp; have := hA.ln; omega), us ++ [t], by rw [upd_upd]; simp [refs], by simp [lu], ?_⟩
      rw [List.take_add_one, e1, List.map_append]
      refine paired_append hu (.cons (.inr (SqT.of ?_)) .nil)
      have := hG _ _ p2
      rw [strV, List.map_map]
      exact this
    rintro H2 ⟨us, rfl, lu, hu⟩
    have s1 := Same.new (.lst (refs us)) hD
    have d1 : upd H D1 (.lst (refs us)) D1 = some _ := upd_same
    generalize upd H D1 (.lst (refs us)) = H1 at *
    have e1 : ps.take (refs as).length = ps := by
      rw [List.take_of_length_le]
      simp [lenP]
    rw [e1] at hu
    have hfp : (ps.map fun p => p.ps.map pNm).flatten = (ps.flatMap (·.ps)).map pNm := by
      rw [List.map_flatMap, List.flatMap_def]
    have hlt : ∀ i ∈ ps.flatMap (·.ps), i < 4 := by
      intro i hi
      obtain ⟨p, hp, hi⟩ := List.mem_flatMap.mp hi
      obtain ⟨j, hj⟩ := List.mem_iff_getElem?.mp hp
      obtain ⟨a, _, t, s, _, _, _, h4⟩ := paired_get' hP hj
      exact h4 i hi
    refine ⟨D1, us, _, rfl, SqL.of d1, hu.mono s1, ?_, ?_, fun H3 s3 => ?_⟩
    · rw [hfp]
      exact nodup_map_on hA.np fun a ha b hb => pNm_inj (hlt a ha) (hlt b hb)
    · rw [hfp, List.length_map]; exact hA.lp
    replace s3 := s1.trans s3
    -- if part is not None
    refine ⟨_, rfl, rfl, _, rfl, iteF ?_⟩
    -- for _, sample in parcels[1:]
    refine ⟨_, rfl, _, rfl, l, _, rfl, s3.seq hl, fun D4 hD4 => ?_⟩
    rw [cut1]
    have s4 := s3.trans (Same.new (.lst ((refs as).drop 1)) hD4)
    have d4 : upd H3 D4 (.lst ((refs as).drop 1)) D4 = some _ := upd_same
    generalize upd H3 D4 (.lst ((refs as).drop 1)) = H4 at *
    refine ⟨D4, rfl, ⟨_, SqL.of d4⟩, for_list (K := K) (xs := (refs as).drop 1) (fun i σ H5 => H5 = H4 ∧ ∃ v1 v3 v4, σ = [some (.ref l), v1, some .non, v3, v4, none, none, none]) ⟨rfl, none, none, none, rfl⟩ ?_ ?_ ?_⟩
    · rintro i σ H5 _ ⟨rfl, _⟩
      exact SqL.of d4
    · rintro i x σ H5 hx ⟨rfl, v1, v3, v4, rfl⟩
      rw [List.getElem?_drop] at hx
      obtain ⟨a, p, rfl, e2, t, s, p1, p2, p3, p4⟩ := hP.get hx
      obtain ⟨a0, q0, h0, e3⟩ : ∃ a0 q0, as[0]? = some a0 ∧ ps[0]? = some q0 := by
        have h1 := (List.getElem?_eq_some_iff.mp e2).1
        exact ⟨as[0], ps[0], List.getElem?_eq_getElem (by omega), List.getElem?_eq_getElem (by omega)⟩
      have hx0 : (refs as)[0]? = some (.ref a0) := by rw [List.getElem?_map, h0]; rfl
      obtain ⟨a0', q0', h0', e3', t0, s0', r1, r2, r3, r4⟩ := hP.get hx0
      cases h0'
      refine ⟨a, _, rfl, SqT.of (s4 _ _ (hG _ _ p1)), rfl, _, _, rfl, _, _, rfl, rfl, ?_⟩
      refine ⟨_, rfl, l, _, _, _, rfl, rfl, s4.seq hl, atI_nat (j := 0) hx0, a0, _, _, _, rfl, rfl, SqT.of (s4 _ _ (hG _ _ r1)), atI_nat (j := 1) rfl, ?_⟩
      obtain ⟨dx, L, rs, i1, i2, i3⟩ := p3.ins
      obtain ⟨dx', L', rs', j1, j2, j3⟩ := r3.ins
      have hC := p3.cls
      refine ⟨_, rfl, s, D.C, D.co, _, dx, _, _, rfl, s4 _ _ (hG _ _ i1), s4 _ _ (hG _ _ hC), O.cl, O.n 0, zlook (i := 0) O.nd rfl, _, rfl, s0', D.C, D.co, _, dx', _, _, rfl, s4 _ _ (hG _ _ j1), s4 _ _ (hG _ _ hC), O.cl, O.n 0, zlook (i := 0) O.nd rfl, rfl, _, rfl, ite2 (fun z => absurd z (by simp)) fun _ => ?_⟩
      refine ⟨_, rfl, s, D.C, D.co, _, dx, _, rfl, s4 _ _ (hG _ _ i1), s4 _ _ (hG _ _ hC), O.nm, D.C, D.co, _, rfl, s4 _ _ (hG _ _ hC), O.nm, ?_⟩
      refine ⟨_, rfl, s0', D.C, D.co, _, dx', _, rfl, s4 _ _ (hG _ _ j1), s4 _ _ (hG _ _ hC), O.nm, D.C, D.co, _, rfl, s4 _ _ (hG _ _ hC), O.nm, ?_⟩
      exact ⟨rfl, _, rfl, ite2 (fun z => absurd z (by simp)) fun _ => ⟨rfl, _, _, _, rfl⟩⟩
    rintro σ H5 ⟨rfl, v1, v3, v4, rfl⟩
    refine ⟨_, rfl, l, rfl, ⟨_, s4.seq hl⟩, fun D5 hD5 => lc_list (K := K) (xs := refs as) (fun i H6 => ∃ us, Same H H6 ∧ H6 D5 = some (.lst (refs us)) ∧ us.length = i ∧ Paired (fun a xs => a ≠ D5 ∧ H6 a = some (.lst (strV xs))) us ((ps.take i).map fun p => p.smp.kept.map kNm)) ⟨[], s4.trans (Same.new _ hD5), upd_same, rfl, .nil⟩ ?_ ?_ ?_⟩
    · rintro i H6 _ ⟨us, s6, _⟩
      exact s6.seq hl
    · rintro i x H6 hx ⟨us, s6, d6, lu, hu⟩
      obtain ⟨a, p, rfl, e1, t, s, p1, p2, p3, p4⟩ := hP.get hx
      have hi : i < ps.length := (List.getElem?_eq_some_iff.mp e1).1
      obtain ⟨dx, L, rs, i1, i2, i3⟩ := p3.ins
      have hC := p3.cls
      refine ⟨a, _, rfl, SqT.of (s6 _ _ (hG _ _ p1)), rfl, _, _, rfl, _, _, rfl, rfl, rfl, yes_ok ?_⟩
      refine ⟨_, rfl, s, D.C, D.co, _, dx, _, _, rfl, s6 _ _ (hG _ _ i1), s6 _ _ (hG _ _ hC), O.cl, O.n 2, zlook (i := 2) O.nd rfl, L, rfl, ⟨_, SqL.of (s6 _ _ (hG _ _ i2))⟩, fun D6 hD6 => lc_list (K := K) (xs := refs rs) (fun j H7 => H7 = upd H6 D6 (.lst (strV ((p.smp.kept.take j).map kNm)))) rfl ?_ ?_ ?_⟩
      · rintro j H7 _ rfl
        exact SqL.of (Same.new _ hD6 _ _ (s6 _ _ (hG _ _ i2)))
      · rintro j y H7 hy rfl
        obtain ⟨ay, iy, rfl, e2, e3⟩ := i3.get hy
        have hj := (List.getElem?_eq_some_iff.mp e2).1
        refine ⟨rfl, yes_ok ?_⟩
        refine ⟨_, rfl, ay, _, _, _, rfl, rfl, SqT.of (Same.new _ hD6 _ _ (s6 _ _ (hG _ _ e3.2))), atI_nat (j := 0) rfl, _, upd_same, small1000 ?_, ?_⟩
        · have h1 := hA.lk
          have h2 : p.smp.kept.length ≤ (ps.flatMap (·.smp.kept)).length := by
            obtain ⟨r, e⟩ := flat_take (xss := ps.map (·.smp.kept)) (i := i) (xs := p.smp.kept) (by rw [List.getElem?_map, e1]; rfl)
            rw [List.flatMap_def, e]; simp; omega
          simp; omega
        · rw [upd_upd, List.take_add_one, e2]
          simp [strV]
      · rintro H7 rfl
        have e4 : p.smp.kept.take (refs rs).length = p.smp.kept := by
          rw [List.take_of_length_le]
          simp [i3.length]
        rw [e4]
        have s7 := Same.new (.lst (strV (p.smp.kept.map kNm))) hD6
        have n56 := ne_of_none d6 hD6
        have d7 : upd H6 D6 (.lst (strV (p.smp.kept.map kNm))) D6 = some _ := upd_same
        generalize upd H6 D6 (.lst (strV (p.smp.kept.map kNm))) = H7 at *
        have d75 := s7 _ _ d6
        refine ⟨_, d75, small1000 (by simp; have := hA.ln; omega), us ++ [D6], (s6.trans s7).mut _ ((s4.free hD5)), by rw [upd_same]; simp [refs], by simp [lu], ?_⟩
        rw [List.take_add_one, e1, List.map_append]
        exact paired_append (Paired.mapP hu fun a xs ⟨h1, h2⟩ => ⟨h1, (upd_ne h1).trans (s7 _ _ h2)⟩) (.cons ⟨n56.symm, (upd_ne n56.symm).trans d7⟩ .nil)
    rintro H6 ⟨us, s6, d6, lu, hu⟩
    have e1 : ps.take (refs as).length = ps := by
      rw [List.take_of_length_le]
      simp [lenP]
    rw [e1] at hu
    have hfp : (ps.map fun p => p.smp.kept.map kNm).flatten = (ps.flatMap (·.smp.kept)).map kNm := by
      rw [List.map_flatMap, List.flatMap_def]
    have hlt : ∀ i ∈ ps.flatMap (·.smp.kept), i < 4 := by
      intro i hi
      obtain ⟨p, hp, hi⟩ := List.mem_flatMap.mp hi
      obtain ⟨j, hj⟩ := List.mem_iff_getElem?.mp hp
      obtain ⟨a, _, t, s, _, _, h3, h4⟩ := paired_get' hP hj
      obtain ⟨_, _, _, _, _, i3⟩ := h3.ins
      exact i3.lt i hi
    refine ⟨D5, us, _, rfl, SqL.of d6, Paired.mapP hu fun a xs z => .inl (SqL.of z.2), ?_, ?_, fun H7 s7 => ?_⟩
    · rw [hfp]
      exact nodup_map_on hA.nk fun a ha b hb => kNm_inj (hlt a ha) (hlt b hb)
    · rw [hfp, List.length_map]; exact hA.lk
    exact ⟨_, rfl, rfl, _, rfl, iteF (q _ (s6.trans s7))⟩
end
end Sam
end
section
set_option Elab.async false
set_option linter.all false
set_option maxRecDepth 100000
set_option maxHeartbeats 1000000
namespace Sam
open PySem PySem.Spec PyProof.Rows L2
open C8 (pss_cut tCut call_isC InsC)
theorem pNm_lt4 : ∀ i j : Fin 4, decide ((pNm i.val).cps.toList < (pNm j.val).cps.toList) = decide (i.val < j.val) := by decide +kernel
theorem le_pt {i j : Nat} (hi : i < 4) (hj : j < 4) : PySem.W.dataLe false (Prod.snd : V × PyData → PyData) (.non, .str (pNm i)) (.non, .str (pNm j)) = decide (i ≤ j) := by
  rw [PySem.W.dataLe_eq]
  show (!PySem.W.dataLt (.str (pNm j)) (.str (pNm i))) = _
  rw [PySem.W.dataLt_str]
  have := pNm_lt4 ⟨j, hj⟩ ⟨i, hi⟩
  simp only at this
  rw [this]
  by_cases h : j < i
  · simp [h]
  · simp [h]; omega
theorem so_mem_iff {l : List Nat} {i : Nat} : i ∈ so l ↔ i ∈ l := (List.mergeSort_perm l _).mem_iff
theorem so_perm (l : List Nat) : (so l).Perm l := List.mergeSort_perm l _
theorem zok_parts {K : PySem.W.Frag} {H : Hp} {is : List Nat} (h4 : ∀ i ∈ is, i < 4) (hl : is.length ≤ 1000) : ∃ zs, zs.map Prod.fst = ptV is ∧ ZOk K H zs ∧ (srtD zs).map Prod.fst = ptV (so is) := by
  have es : srtD (is.map fun i => ((V.str (pNm i), PyData.str (pNm i)) : V × PyData)) = (so is).map fun i => (V.str (pNm i), .str (pNm i)) := by
    unfold srtD so
    rw [List.map_mergeSort]
    intro a ha b hb
    exact (le_pt (h4 a ha) (h4 b hb)).symm
  refine ⟨is.map fun i => (V.str (pNm i), .str (pNm i)), by simp [ptV], ⟨?_, ?_, ?_, ?_, ?_⟩, by rw [es]; simp [ptV]⟩
  · intro z hz
    obtain ⟨p, hp, rfl⟩ := List.mem_map.mp hz
    exact .str _
  · intro d hd d' hd'
    simp only [List.map_map, List.mem_map] at hd hd'
    obtain ⟨p, _, rfl⟩ := hd
    obtain ⟨q, _, rfl⟩ := hd'
    simp [PySem.W.alike]
  · refine .inr fun d hd => ?_
    simp only [List.map_map, List.mem_map] at hd
    obtain ⟨p, _, rfl⟩ := hd
    exact ⟨by simp, by simp⟩
  · rw [List.length_map]
    exact Nat.le_of_lt (small1000 (by omega))
  · intro z hz
    obtain ⟨p, hp, rfl⟩ := List.mem_map.mp hz
    simp [PyData.depth]
def mergedT (T : Nat → Thing) (kd : Bool) (k : Nat) (p q : Par) : Tr Par := (merge (fun i => (T i).w) so kd k p.smp q.smp).bind fun s => .ret ⟨so (p.ps ++ q.ps), s⟩
section
variable {P : Program} {w : World} {K : PySem.W.Frag} {mg : Str → Option Value} {base : Heap} {CE : Addr}
def spMerged (K : PySem.W.Frag) (CE : Addr) (D : Kd) (T : Nat → Thing) (kd : Bool) (k : Nat) : Sp := fun vs H Q _ => ∃ (G : Hp) (a b : Addr) (X : DX) (p q : Par) (x : ES), vs = [.ref a, .ref b, .ref X.e] ∧ Same G H ∧ PaIs D T k G a p ∧ PaIs D T k G b q ∧ DiAt K CE G H X x ∧
  (Val (fun i => (T i).w) kd k p.smp ∧ Val (fun i => (T i).w) kd k q.smp) ∧ ApartP [p, q] ∧ (p.ps ≠ [] ∧ q.ps ≠ []) ∧ (mergedT T kd k p q).Run x ∧
  ∀ G' H' r, Ext X.ms G H G' H' → DiAt K CE G' H' X ((mergedT T kd k p q).exec x).2 → PaIs D T k G' r ((mergedT T kd k p q).exec x).1 → Q (.ref r) H'
theorem sc19 : FnScope ["first", "second", "dice"] ["first", "second", "dice"] (defScope (top 19)) := ⟨rfl, rfl, rfl, by decide +kernel, rfl, by decide +kernel, by decide +kernel⟩
theorem ok_merged {D : Kd} {T : Nat → Thing} {kd : Bool} {k : Nat} (B : Bn mg) (O : KdOk K D) (hmf : ("merge" : Str) ∉ smN D.f2) (d : Df K mg "merged" (top 19) ["first", "second", "dice"]) (cA : Cl P w K mg base "check_apart" ["parcels"] 2 (spApart D T k K))
    (cM : MtS P w K mg base D.C D.co "merge" ["self", "other", "dice"] 4 (spMerge K CE D T kd k)) : Cl P w K mg base "merged" ["first", "second", "dice"] 5 (spMerged K CE D T kd k) := by
  refine d.ok sc19 (fun vs H Q E h => ?_) (fun f cdv A outer s0 H vs Q E hr h => ?_)
  · obtain ⟨G, a, b, X, p, q, x, rfl, _⟩ := h
    rfl
  · obtain ⟨G, a, b, X, p, q, x, rfl, hG, hP, hQ, hE, ⟨va, vb⟩, hA, ⟨pne, qne⟩, hrun, hq⟩ := h
    have nd := sc19.nd
    have hu := hr.units
    refine ⟨_, pss_cons (ps_expr (pe_c cA hr (pa_cons (pe_lst (pa_cons (pv 0) (pa_cons (pv 1) pa_nil))) pa_nil)))
      (pss_one (ps_ret (pe_tup (pa_cons (pe_callTy call_tuple_of (by rfl) B.tuple (by decide +kernel) (pa_cons (pe_callB (kc_sorted K hu) (by rfl) B.sorted (by decide +kernel) (pa_cons (pe_op op_catT (pe_ix ix_tup (pv 0) pe_int (fun _ _ => rfl)) (pe_ix ix_tup (pv 1) pe_int (fun _ _ => rfl))) pa_nil)) pa_nil))
        (pa_cons (ps_m (nm := D.nm) cM O.cl hr (pe_ix ix_tup (pv 0) pe_int (fun _ _ => rfl)) (pa_cons (pe_ix ix_tup (pv 1) pe_int (fun _ _ => rfl)) (pa_cons (pv 2) pa_nil))) pa_nil))))), ?_⟩
    obtain ⟨tp, sp, p1, p2, p3, p4⟩ := hP
    obtain ⟨tq, sq, q1, q2, q3, q4⟩ := hQ
    refine ⟨_, rfl, _, rfl, (by show 2 ≤ sizeLine; decide), fun l hl => ?_⟩
    have s1 := Same.new (.lst [.ref a, .ref b]) hl
    have d1 : upd H l (.lst [.ref a, .ref b]) l = some _ := upd_same
    generalize upd H l (.lst [.ref a, .ref b]) = H1 at *
    refine ⟨G, l, [a, b], [p, q], rfl, hG.trans s1, SqL.of d1, .cons ⟨tp, sp, p1, p2, p3, p4⟩ (.cons ⟨tq, sq, q1, q2, q3, q4⟩ .nil), hA, fun H2 s2 => ?_⟩
    replace s2 := s1.trans s2
    have X2 : Ext X.ms G H G H2 := Ext.same hG s2
    have e2 := fun {b : Addr} {o : HO} (z : G b = some o) => s2 _ _ (hG _ _ z)
    have hlen : (p.ps ++ q.ps).length ≤ 1000 := by
      have := hA.lp
      simpa using this
    refine ⟨_, rfl, a, _, _, _, rfl, rfl, SqT.of (e2 p1), atI_nat (j := 0) rfl, _, rfl, b, _, _, _, rfl, rfl, SqT.of (e2 q1), atI_nat (j := 0) rfl, tp, tq, _, _, rfl, rfl, SqT.of (e2 p2), SqT.of (e2 q2), ?_, ?_, ?_, ?_⟩
    · intro z
      exact pne (by simpa [ptV] using z)
    · exact Nat.le_of_lt (small1000 (by simpa [ptV] using hlen))
    · intro z
      exact absurd (by simpa [ptV] using z) qne
    rintro _ c hc
    have X3 := X2.tmp (o := .tup (ptV p.ps ++ ptV q.ps)) hc
    have s3 := s2.trans (Same.new (.tup (ptV p.ps ++ ptV q.ps)) hc)
    have d3 : upd H2 c (.tup (ptV p.ps ++ ptV q.ps)) c = some _ := upd_same
    generalize upd H2 c (.tup (ptV p.ps ++ ptV q.ps)) = H3 at *
    obtain ⟨zs, z1, z2, z3⟩ := zok_parts (K := K) (H := H3) (is := p.ps ++ q.ps) (fun i hi => by
      rcases List.mem_append.mp hi with z | z
      · exact p4 i z
      · exact q4 i z) hlen
    refine ⟨c, zs, rfl, .inr (SqT.of (by rw [z1, d3]; simp [ptV])), z2, fun l2 hl2 => ?_⟩
    rw [z3]
    have X4 := X3.tmp (o := .lst (ptV (so (p.ps ++ q.ps)))) hl2
    have s4 := s3.trans (Same.new (.lst (ptV (so (p.ps ++ q.ps)))) hl2)
    have d4 : upd H3 l2 (.lst (ptV (so (p.ps ++ q.ps)))) l2 = some _ := upd_same
    generalize upd H3 l2 (.lst (ptV (so (p.ps ++ q.ps)))) = H4 at *
    refine ⟨l2, _, rfl, .inl ⟨SqL.of d4, fun t ht => ?_⟩⟩
    have X5 := X4.new (o := .tup (ptV (so (p.ps ++ q.ps)))) ht
    have s5 := s4.trans (Same.new (.tup (ptV (so (p.ps ++ q.ps)))) ht)
    have g5 := Same.new (.tup (ptV (so (p.ps ++ q.ps)))) (X4.gh.free ht)
    have d5 : upd G t (.tup (ptV (so (p.ps ++ q.ps)))) t = some _ := upd_same
    have E5 := ExAt.same (D := X) hE hE X5 g5 s5
    generalize upd H4 t (.tup (ptV (so (p.ps ++ q.ps)))) = H5 at *
    generalize upd G t (.tup (ptV (so (p.ps ++ q.ps)))) = G5 at *
    have e5 := fun {b : Addr} {o : HO} (z : G b = some o) => s5 _ _ (hG _ _ z)
    obtain ⟨dx, L, rs, i1, _, _⟩ := p3.ins
    refine ⟨_, rfl, a, _, _, _, rfl, rfl, SqT.of (e5 p1), atI_nat (j := 1) rfl, sp, dx, _, rfl, e5 i1, e5 p3.cls, zlook_none hmf _, _, rfl, b, _, _, _, rfl, rfl, SqT.of (e5 q1), atI_nat (j := 1) rfl, _, rfl, ?_⟩
    refine ⟨G5, sp, sq, X, p.smp, q.smp, x, rfl, X5.gh, p3.mono g5, q3.mono g5, E5, ⟨va, vb⟩, ?_, ((Tr.Run_bind _ _ _).mp hrun).1, fun G6 H6 r X6 E6 hS => ?_⟩
    · intro j hj hj'
      have := hA.nk
      simp at this
      exact (List.nodup_append.mp this).2.2 j hj' j hj rfl
    · refine ⟨(by show 2 ≤ sizeLine; decide), fun r2 hr2 => ?_⟩
      have X7 := (X5.trans X6 fun b hb => .inl hb).new (o := .tup [.ref t, .ref r]) hr2
      have g7 := Same.new (.tup [.ref t, .ref r]) (X6.gh.free hr2)
      unfold mergedT at hq
      rw [Tr.exec_bind] at hq
      refine hq _ _ r2 X7 (ExAt.same (D := X) E6 hE X7 g7 (Same.new _ hr2)) ⟨t, r, upd_same, g7 _ _ (X6.gg _ _ d5), hS.mono g7, fun i hi => ?_⟩
      have hi' : i ∈ p.ps ++ q.ps := so_mem_iff.mp hi
      rcases List.mem_append.mp hi' with z | z
      · exact p4 i z
      · exact q4 i z
end
end Sam
end
section
set_option Elab.async false
set_option linter.all false
set_option maxRecDepth 100000
set_option maxHeartbeats 1000000
namespace Sam
open PySem PySem.Spec PyProof.Rows L2
open C8 (pss_cut tCut call_isC InsC)
/-! ### letters, nodes -/
structure Let where
  snd : Nat
  num : Nat
  rcv : Nat
  par : Par
structure Nd where
  pars : List Par
  out : List Let
  sent : Nat
  known : List (Nat × Nat)
def nN : Nat → Str
  | 0 => "a"
  | 1 => "b"
  | _ => "c"
theorem nN_inj3 : ∀ i j : Fin 3, nN i.val = nN j.val → i = j := by decide +kernel
theorem nN_inj {i j : Nat} (hi : i < 3) (hj : j < 3) (h : nN i = nN j) : i = j := by
  have := nN_inj3 ⟨i, hi⟩ ⟨j, hj⟩ h
  exact Fin.mk.inj this
def leV (l : Let) (p : Addr) : List V := [.str (nN l.snd), .int (l.num : Int), .str (nN l.rcv), .ref p]
def LeIs (D : Kd) (T : Nat → Thing) (k : Nat) (G : Hp) (a : Addr) (l : Let) : Prop := ∃ p, G a = some (.tup (leV l p)) ∧ PaIs D T k G p l.par ∧ l.snd < 3 ∧ l.rcv < 3
theorem LeIs.mono {D : Kd} {T : Nat → Thing} {k : Nat} {G G' : Hp} {a : Addr} {p : Let} (e : Same G G') (h : LeIs D T k G a p) : LeIs D T k G' a p :=
  let ⟨t, h1, h2, h3⟩ := h
  ⟨t, e _ _ h1, h2.mono e, h3⟩
def Les (D : Kd) (T : Nat → Thing) (k : Nat) (G : Hp) (as : List Addr) (ls : List Let) : Prop := Paired (LeIs D T k G) as ls
theorem Les.mono {D : Kd} {T : Nat → Thing} {k : Nat} {G G' : Hp} {as : List Addr} {ls : List Let} (e : Same G G') (h : Les D T k G as ls) : Les D T k G' as ls := Paired.mapP h fun _ _ z => z.mono e
theorem Les.get {D : Kd} {T : Nat → Thing} {k : Nat} {G : Hp} {as : List Addr} {ps : List Let} {j : Nat} {x : V} (h : Les D T k G as ps) (e : (refs as)[j]? = some x) : ∃ a p, x = .ref a ∧ ps[j]? = some p ∧ LeIs D T k G a p := by
  rw [List.getElem?_map] at e
  obtain ⟨r, hr, rfl⟩ := Option.map_eq_some_iff.mp e
  obtain ⟨i, h1, h2⟩ := paired_get h hr
  exact ⟨r, i, rfl, h1, h2⟩
def lnK (l : Let) : Key := Sum.inl (l.num : Int)
def knK (q : Nat × Nat) : List Key := [Sum.inr (nN q.1), Sum.inl (q.2 : Int)]
theorem ndN_nd : ndN.Nodup := by decide +kernel
structure NCl (K : PySem.W.Frag) (C : Addr) : Prop where
  cl : Cls K C
  na : ∀ f ∈ ndN, NoAttr K C f
theorem NCl.n {K : PySem.W.Frag} {C : Addr} (c : NCl K C) (i : Nat) {f : Str} (h : ndN[i]? = some f := by rfl) : NoAttr K C f := c.na f (List.mem_of_getElem? h)
abbrev ndF (i : Nat) (Pl la : Addr) (sent : Nat) (ka : Addr) : List (Str × V) := ndN.zip [.str (nN i), .ref Pl, .ref la, .int (sent : Int), .ref ka]
/-- what node i is: its object a, its letters la, what it knows ka -/
structure NdAt (CN : Addr) (D : Kd) (T : Nat → Thing) (k : Nat) (G H : Hp) (a la ka : Addr) (i : Nat) (nd : Nd) : Prop where
  ins : ∃ dx Pl as, H a = some (.ins CN dx (ndF i Pl la nd.sent ka)) ∧ G Pl = some (.lst (refs as)) ∧ Pas D T k G as nd.pars
  lets : ∃ kvs, H la = some (.dK kvs) ∧ Paired (fun kv l => kv.1 = lnK l ∧ ∃ r, kv.2 = V.ref r ∧ LeIs D T k G r l) kvs nd.out
  knw : ∃ kvt, H ka = some (.dT kvt) ∧ (∀ q : Nat × Nat, q.1 < 3 → (valV kvt (knK q)).isSome = decide (q ∈ nd.known)) ∧ kvt.length ≤ nd.known.length
  ga : G a = none
  gl : G la = none
  gk : G ka = none
  i3 : i < 3
theorem NdAt.keep {CN : Addr} {D : Kd} {T : Nat → Thing} {k : Nat} {G H G' H' : Hp} {a la ka : Addr} {i : Nat} {nd : Nd} {ms : List Addr} (M : NdAt CN D T k G H a la ka i nd) (E : Ext ms G H G' H') (h1 : a ∉ ms) (h2 : la ∉ ms) (h3 : ka ∉ ms) :
    NdAt CN D T k G' H' a la ka i nd := by
  obtain ⟨dx, Pl, as, a1, a2, a3⟩ := M.ins
  obtain ⟨kvs, b1, b2⟩ := M.lets
  obtain ⟨kvt, c1, c2⟩ := M.knw
  exact ⟨⟨dx, Pl, as, E.kp _ _ a1 h1, E.gg _ _ a2, a3.mono E.gg⟩, ⟨kvs, E.kp _ _ b1 h2, Paired.mapP b2 fun _ _ ⟨z1, r, z2, z3⟩ => ⟨z1, r, z2, z3.mono E.gg⟩⟩, ⟨kvt, E.kp _ _ c1 h3, c2⟩, E.out M.ga a1, E.out M.gl b1, E.out M.gk c1, M.i3⟩
theorem NdAt.tmp {CN : Addr} {D : Kd} {T : Nat → Thing} {k : Nat} {G H : Hp} {a la ka : Addr} {i : Nat} {nd : Nd} {p : Addr} {u : HO} (M : NdAt CN D T k G H a la ka i nd) (hG : Same G H) (h : H p = none) : NdAt CN D T k G (upd H p u) a la ka i nd :=
  M.keep ((Ext.refl (ms := []) hG).tmp h) (by simp) (by simp) (by simp)
section
variable {P : Program} {w : World} {K : PySem.W.Frag} {mg : Str → Option Value} {base : Heap} {CE CN : Addr} {D : Kd} {T : Nat → Thing} {k : Nat}
/-! held -/
def spHeld (CN : Addr) (D : Kd) (T : Nat → Thing) (k : Nat) : Sp := fun vs H Q _ => ∃ (G : Hp) (a la ka : Addr) (i : Nat) (nd : Nd), vs = [.ref a] ∧ Same G H ∧ NdAt CN D T k G H a la ka i nd ∧ ∀ l as, H l = none → Pas D T k G as nd.pars → Q (.ref l) (upd H l (.lst (refs as)))
theorem scn1 : FnScope ["self"] ["self"] (defScope (nS 1)) := ⟨rfl, rfl, rfl, by decide +kernel, rfl, by decide +kernel, by decide +kernel⟩
theorem ok_held (B : Bn mg) (O : NCl K CN) (d : Dm K CN "held" "Node.held" (nS 1) ["self"]) : Mt P w K mg base CN "held" ["self"] 1 (spHeld CN D T k) := by
  refine d.ok scn1 (fun vs H Q E h => ?_) (fun f cdv A outer s0 H vs Q E hr h => ?_)
  · obtain ⟨G, a, la, ka, i, nd, rfl, _⟩ := h
    rfl
  · obtain ⟨G, a, la, ka, i, nd, rfl, hG, hN, q⟩ := h
    obtain ⟨dx, Pl, as, a1, a2, a3⟩ := hN.ins
    refine ⟨_, pss_one (ps_ret (pe_callTy call_list_of (by rfl) B.list (by decide +kernel) (pa_cons (pe_fld (pv 0) rfl) pa_nil))), ?_⟩
    exact ⟨_, rfl, a, CN, dx, _, _, rfl, a1, O.cl, O.n 1, zlook (i := 1) ndN_nd rfl, Pl, _, rfl, .inl (SqL.of (hG _ _ a2)), fun l hl => q l as hl a3⟩
/-! check_number -/
def spNum (CN : Addr) (D : Kd) (T : Nat → Thing) (k : Nat) : Sp := fun vs H Q _ => ∃ (G : Hp) (a la ka : Addr) (i j : Nat) (nd : Nd), vs = [.ref a, .int (j : Int)] ∧ Same G H ∧ NdAt CN D T k G H a la ka i nd ∧ j < nd.pars.length ∧ Q .non H
theorem scn3 : FnScope ["self", "number"] ["self", "number"] (defScope (nS 3)) := ⟨rfl, rfl, rfl, by decide +kernel, rfl, by decide +kernel, by decide +kernel⟩
theorem ok_num (B : Bn mg) (O : NCl K CN) (d : Dm K CN "check_number" "Node.check_number" (nS 3) ["self", "number"]) : Mt P w K mg base CN "check_number" ["self", "number"] 1 (spNum CN D T k) := by
  refine d.ok scn3 (fun vs H Q E h => ?_) (fun f cdv A outer s0 H vs Q E hr h => ?_)
  · obtain ⟨G, a, la, ka, i, j, nd, rfl, _⟩ := h
    rfl
  · obtain ⟨G, a, la, ka, i, j, nd, rfl, hG, hN, hj, q⟩ := h
    obtain ⟨dx, Pl, as, a1, a2, a3⟩ := hN.ins
    have := a3.length
    refine ⟨_, pss_one (ps_if (pt_not (pt_chain op_le op_lt pe_int (pv 1) (pe_callB call_len_seq (by rfl) B.len PySem.boot_len (pa_cons (pe_fld (pv 0) rfl) pa_nil)))) pss_never pss_nil), ?_⟩
    refine ⟨_, rfl, _, _, rfl, rfl, _, rfl, ite2 (fun _ => ?_) (fun z => absurd (decide_eq_true (by omega)) z)⟩
    refine ⟨_, rfl, a, CN, dx, _, _, rfl, a1, O.cl, O.n 1, zlook (i := 1) ndN_nd rfl, Pl, _, rfl, .inl (SqL.of (hG _ _ a2)), _, _, rfl, rfl, _, rfl, ite2 (fun z => absurd z ?_) fun _ => q⟩
    simp
    omega
/-! again, has_taken -/
theorem lets_val {G : Hp} {kvs : List (Key × V)} {ls : List Let} (h : Paired (fun kv l => kv.1 = lnK l ∧ ∃ r, kv.2 = V.ref r ∧ LeIs D T k G r l) kvs ls) (hn : (ls.map (·.num)).Nodup) {l : Let} (hl : l ∈ ls) : ∃ r, valV kvs (lnK l) = some (.ref r) ∧ LeIs D T k G r l := by
  induction h with
  | nil => cases hl
  | @cons kv l' kr lr h1 t ih =>
    obtain ⟨e, r, e2, e3⟩ := h1
    rw [List.map_cons, List.nodup_cons] at hn
    rcases List.mem_cons.mp hl with rfl | hl'
    · exact ⟨r, by rw [valV_pos e, e2], e3⟩
    · obtain ⟨r', z1, z2⟩ := ih hn.2 hl'
      refine ⟨r', ?_, z2⟩
      rw [valV_neg, z1]
      intro z
      rw [e] at z
      have : (l'.num : Int) = (l.num : Int) := Sum.inl.inj z
      have : l'.num = l.num := by omega
      exact hn.1 (this ▸ List.mem_map_of_mem hl')
def spAgain (CN : Addr) (D : Kd) (T : Nat → Thing) (k : Nat) : Sp := fun vs H Q _ => ∃ (G : Hp) (a la ka : Addr) (i : Nat) (nd : Nd) (l : Let), vs = [.ref a, .int (l.num : Int)] ∧ Same G H ∧ NdAt CN D T k G H a la ka i nd ∧ (nd.out.map (·.num)).Nodup ∧ l ∈ nd.out ∧ ∀ r, LeIs D T k G r l → Q (.ref r) H
theorem scn6 : FnScope ["self", "number"] ["self", "number"] (defScope (nS 6)) := ⟨rfl, rfl, rfl, by decide +kernel, rfl, by decide +kernel, by decide +kernel⟩
theorem ok_again (O : NCl K CN) (d : Dm K CN "again" "Node.again" (nS 6) ["self", "number"]) : Mt P w K mg base CN "again" ["self", "number"] 1 (spAgain CN D T k) := by
  refine d.ok scn6 (fun vs H Q E h => ?_) (fun f cdv A outer s0 H vs Q E hr h => ?_)
  · obtain ⟨G, a, la, ka, i, nd, l, rfl, _⟩ := h
    rfl
  · obtain ⟨G, a, la, ka, i, nd, l, rfl, hG, hN, hnd, hl, q⟩ := h
    obtain ⟨dx, Pl, as, a1, a2, a3⟩ := hN.ins
    obtain ⟨kvs, b1, b2⟩ := hN.lets
    obtain ⟨r, e1, e2⟩ := lets_val b2 hnd hl
    have hu := hu_of hr
    refine ⟨_, pss_cons (ps_if (pt_cmp (pc_dnotin hu (pv 1) (pe_fld (pv 0) rfl)) (by with_unfolding_all rfl)) pss_never pss_nil) (pss_one (ps_ret (pe_dget hu (pe_fld (pv 0) rfl) (pv 1) (fun _ _ => rfl)))), ?_⟩
    refine ⟨_, rfl, _, rfl, a, CN, dx, _, _, rfl, a1, O.cl, O.n 2, zlook (i := 2) ndN_nd rfl, la, _, rfl, DGet.k (k := lnK l) b1, _, rfl, ite2 (fun z => ?_) fun _ => ?_⟩
    · rw [e1] at z; simp at z
    · refine ⟨_, rfl, a, CN, dx, _, _, rfl, a1, O.cl, O.n 2, zlook (i := 2) ndN_nd rfl, _, rfl, la, .ref r, rfl, ?_, q r e2⟩
      have := DGet.k (k := lnK l) b1
      rw [e1] at this
      exact this
def spTaken (CN : Addr) (D : Kd) (T : Nat → Thing) (k : Nat) : Sp := fun vs H Q _ => ∃ (G : Hp) (a la ka : Addr) (i : Nat) (nd : Nd) (q : Nat × Nat), vs = [.ref a, .str (nN q.1), .int (q.2 : Int)] ∧ Same G H ∧ NdAt CN D T k G H a la ka i nd ∧ q.1 < 3 ∧ ∀ H', Same H H' → Q (.bl (decide (q ∈ nd.known))) H'
theorem scn7 : FnScope ["self", "sender", "number"] ["self", "sender", "number"] (defScope (nS 7)) := ⟨rfl, rfl, rfl, by decide +kernel, rfl, by decide +kernel, by decide +kernel⟩
theorem ok_taken (O : NCl K CN) (d : Dm K CN "has_taken" "Node.has_taken" (nS 7) ["self", "sender", "number"]) : Mt P w K mg base CN "has_taken" ["self", "sender", "number"] 1 (spTaken CN D T k) := by
  refine d.ok scn7 (fun vs H Q E h => ?_) (fun f cdv A outer s0 H vs Q E hr h => ?_)
  · obtain ⟨G, a, la, ka, i, nd, q, rfl, _⟩ := h
    rfl
  · obtain ⟨G, a, la, ka, i, nd, q, rfl, hG, hN, hq3, hq⟩ := h
    obtain ⟨dx, Pl, as, a1, a2, a3⟩ := hN.ins
    obtain ⟨kvt, c1, c2, _⟩ := hN.knw
    have hu := hu_of hr
    refine ⟨_, pss_one (ps_ret (pe_cmp (pc_din hu (pe_tup (pa_cons (pv 1) (pa_cons (pv 2) pa_nil))) (pe_fld (pv 0) rfl)) (by with_unfolding_all rfl))), ?_⟩
    refine ⟨_, rfl, _, rfl, (by show 2 ≤ sizeLine; decide), fun t ht => ?_⟩
    have s1 := Same.new (.tup [.str (nN q.1), .int (q.2 : Int)]) ht
    have d1 : upd H t (.tup [.str (nN q.1), .int (q.2 : Int)]) t = some _ := upd_same
    generalize upd H t (.tup [.str (nN q.1), .int (q.2 : Int)]) = H1 at *
    refine ⟨_, rfl, a, CN, dx, _, _, rfl, s1 _ _ a1, O.cl, O.n 4, zlook (i := 4) ndN_nd rfl, ka, _, rfl, DGet.t (k := knK q) (s1 _ _ c1) d1, ?_⟩
    rw [c2 q hq3]
    exact hq _ s1
end
end Sam
end
section
set_option Elab.async false
set_option linter.all false
set_option maxRecDepth 100000
set_option maxHeartbeats 1000000
namespace Sam
open PySem PySem.Spec PyProof.Rows L2
open C8 (pss_cut tCut call_isC InsC)
/-! ### comprehensions over a locked dict's keys -/
theorem lc_keys {d : Addr} {o : Obj} {kvs : List (Key × V)} {g : TG} {tt : TT} {te : TE} {vs : List Nat} {σ : L2.St} {H1 : Hp} {D : Addr} {Qd : Hp → Prop} (Pv : Nat → Hp → Prop) (h0 : Pv 0 (upd H1 D (.lst []))) (hl : ∀ i H, i ≤ kvs.length → Pv i H → H d = some (.frz o (.dK kvs)))
    (hs : ∀ i k v H, kvs[i]? = some (k, v) → Pv i H → g (kV k) (wipe σ vs) H fun σ2 H2 => wipe σ2 vs = wipe σ vs ∧ tt σ2 H2 fun b H3 =>
      if b = true then te σ2 H3 fun y H4 => ∃ acc, H4 D = some (.lst acc) ∧ acc.length < sizeLine ∧ Pv (i + 1) (upd H4 D (.lst (acc ++ [y]))) else Pv (i + 1) H3) (hd : ∀ H, Pv kvs.length H → Qd H) :
    ∃ W : Nat → Nat → Hp → Prop, (∃ m, W 0 m (upd H1 D (.lst []))) ∧ ∀ i m H, W i m H →
      ((Itk d o kvs).stop i H ∧ Qd H) ∨ ((Itk d o kvs).go i H ∧ ∃ Nx : Hp → Prop, (∀ H', Nx H' → ∃ m', m' < m ∧ W (i + 1) m' H') ∧ ∀ x H', (Itk d o kvs).yld i H x H' → g x (wipe σ vs) H' fun σ2 H2 => wipe σ2 vs = wipe σ vs ∧ tt σ2 H2 fun b H3 =>
        if b = true then te σ2 H3 fun y H4 => ∃ acc, H4 D = some (.lst acc) ∧ acc.length < sizeLine ∧ Nx (upd H4 D (.lst (acc ++ [y]))) else Nx H3) := by
  refine ⟨fun i m H => m = kvs.length - i ∧ i ≤ kvs.length ∧ Pv i H, ⟨kvs.length, by simp, Nat.zero_le _, h0⟩, ?_⟩
  rintro i m H ⟨rfl, hi, p⟩
  have q := hl i H hi p
  by_cases hlt : i < kvs.length
  · refine .inr ⟨⟨q, hlt⟩, Pv (i + 1), fun H' p' => ⟨kvs.length - (i + 1), by omega, rfl, hlt, p'⟩, fun x H' y => ?_⟩
    obtain ⟨e, k, v, y, e2⟩ := y
    subst e e2
    exact hs i k v _ y p
  · have e : i = kvs.length := by omega
    subst e
    exact .inl ⟨⟨q, Nat.le_refl _⟩, hd H p⟩
theorem dc_keys {d : Addr} {o : Obj} {kvs : List (Key × V)} {g : TG} {tt : TT} {tk tv : TE} {vs : List Nat} {σ : L2.St} {H1 : Hp} {D : Addr} {Qd : Hp → Prop} (Pv : Nat → Hp → Prop) (h0 : Pv 0 (upd H1 D (.dK []))) (hl : ∀ i H, i ≤ kvs.length → Pv i H → H d = some (.frz o (.dK kvs)))
    (hs : ∀ i k v H, kvs[i]? = some (k, v) → Pv i H → g (kV k) (wipe σ vs) H fun σ2 H2 => wipe σ2 vs = wipe σ vs ∧ tt σ2 H2 fun b H3 =>
      if b = true then tk σ2 H3 fun y H4 => tv σ2 H4 fun z H5 => ∃ kvs k, y = kV k ∧ H5 D = some (.dK kvs) ∧ kvs.length < sizeLine ∧ Pv (i + 1) (upd H5 D (.dK (putK kvs k z))) else Pv (i + 1) H3) (hd : ∀ H, Pv kvs.length H → Qd H) :
    ∃ W : Nat → Nat → Hp → Prop, (∃ m, W 0 m (upd H1 D (.dK []))) ∧ ∀ i m H, W i m H →
      ((Itk d o kvs).stop i H ∧ Qd H) ∨ ((Itk d o kvs).go i H ∧ ∃ Nx : Hp → Prop, (∀ H', Nx H' → ∃ m', m' < m ∧ W (i + 1) m' H') ∧ ∀ x H', (Itk d o kvs).yld i H x H' → g x (wipe σ vs) H' fun σ2 H2 => wipe σ2 vs = wipe σ vs ∧ tt σ2 H2 fun b H3 =>
        if b = true then tk σ2 H3 fun y H4 => tv σ2 H4 fun z H5 => ∃ kvs k, y = kV k ∧ H5 D = some (.dK kvs) ∧ kvs.length < sizeLine ∧ Nx (upd H5 D (.dK (putK kvs k z))) else Nx H3) := by
  refine ⟨fun i m H => m = kvs.length - i ∧ i ≤ kvs.length ∧ Pv i H, ⟨kvs.length, by simp, Nat.zero_le _, h0⟩, ?_⟩
  rintro i m H ⟨rfl, hi, p⟩
  have q := hl i H hi p
  by_cases hlt : i < kvs.length
  · refine .inr ⟨⟨q, hlt⟩, Pv (i + 1), fun H' p' => ⟨kvs.length - (i + 1), by omega, rfl, hlt, p'⟩, fun x H' y => ?_⟩
    obtain ⟨e, k, v, y, e2⟩ := y
    subst e e2
    exact hs i k v _ y p
  · have e : i = kvs.length := by omega
    subst e
    exact .inl ⟨⟨q, Nat.le_refl _⟩, hd H p⟩
theorem Same.frz {H : Hp} {d : Addr} {u : HO} {H' : Hp} {od : Obj} (h : H d = some u) (s : Same (upd H d (.frz od u)) H') : Same H (upd H' d u) := fun b o e => by
  by_cases q : b = d
  · subst q; rw [upd_same, ← h, e]
  · rw [upd_ne q]
    exact s b o (by rw [upd_ne q]; exact e)
section
variable {P : Program} {w : World} {K : PySem.W.Frag} {mg : Str → Option Value} {base : Heap} {CE CN : Addr} {D : Kd} {T : Nat → Thing} {k : Nat}
/-! __init__ -/
def spNode (CN : Addr) : Sp := fun vs H Q _ => ∃ (x dx l : Addr) (i : Nat) (xs : List V), vs = [.ref x, .str (nN i), .ref l] ∧ H x = some (.ins CN dx []) ∧ H l = some (.lst xs) ∧
  ∀ Pl la ka H', H Pl = none → H la = none → H ka = none → Pl ≠ la → Pl ≠ ka → la ≠ ka → H' x = some (.ins CN dx (ndF i Pl la 0 ka)) → H' Pl = some (.lst xs) → H' la = some (.dK []) → H' ka = some (.dT []) → (∀ b, b ≠ x → b ≠ Pl → b ≠ la → b ≠ ka → H' b = H b) → Q .non H'
theorem scn0 : FnScope ["self", "name", "parcels"] ["self", "name", "parcels"] (defScope (nS 0)) := ⟨rfl, rfl, rfl, by decide +kernel, rfl, by decide +kernel, by decide +kernel⟩
theorem put_len : ∀ (n : Nat) (fs : List (Str × V)) (f : Str) (v : V), fs.length ≤ n → (putF f v fs).length ≤ n + 1 := fun n fs f v h => by
  have := length_putF f v fs
  omega
theorem ok_node (B : Bn mg) (O : NCl K CN) (d : Dc K mg "Node" CN "Node.__init__" (nS 0) ["self", "name", "parcels"]) : Ct P w K mg base "Node" CN ["self", "name", "parcels"] 1 (spNode CN) := by
  refine d.ok scn0 (fun vs H Q E h => ?_) (fun f cdv A outer s0 H vs Q E hr h => ?_)
  · obtain ⟨x, dx, l, i, xs, rfl, _⟩ := h
    rfl
  · obtain ⟨x, dx, l, i, xs, rfl, hx, hl, q⟩ := h
    have nlx : l ≠ x := ne_of hl hx (by intro z; cases z)
    refine ⟨_, pss_cons (ps_fld (pv 0) (pv 1) rfl) (pss_cons (ps_fld (pv 0) (pe_callTy call_list_of (by rfl) B.list (by decide +kernel) (pa_cons (pv 2) pa_nil)) rfl)
      (pss_cons (ps_fld (pv 0) pe_dnewK rfl) (pss_cons (ps_fld (pv 0) pe_int rfl) (pss_one (ps_fld (pv 0) pe_dnewT rfl))))), ?_⟩
    have l0 : (putF "name" (V.str (nN i)) []).length ≤ 1 := put_len 0 _ _ _ (by simp)
    refine ⟨_, rfl, _, rfl, x, CN, dx, _, rfl, hx, O.cl, O.n 0, (by decide), ?_⟩
    refine ⟨_, rfl, l, xs, rfl, .inl (SqL.of ((upd_ne nlx).trans hl)), fun Pl hPl => ?_⟩
    have hP0 : H Pl = none := by
      by_cases z : Pl = x
      · subst z; rw [upd_same] at hPl; cases hPl
      · rw [upd_ne z] at hPl; exact hPl
    have nP : x ≠ Pl := ne_of_none hx hP0
    refine ⟨_, rfl, x, CN, dx, _, rfl, (upd_ne nP).trans upd_same, O.cl, O.n 1, (by omega), fun la hla => ?_⟩
    have l1 := put_len 1 _ "parcels" (V.ref Pl) l0
    have nla : x ≠ la := fun z => by subst z; rw [upd_same] at hla; cases hla
    rw [upd_ne nla.symm] at hla
    have nPl : Pl ≠ la := fun z => by subst z; rw [upd_same] at hla; cases hla
    have hl0 : H la = none := by rw [upd_ne nPl.symm, upd_ne nla.symm] at hla; exact hla
    refine ⟨_, rfl, x, CN, dx, _, rfl, (upd_ne nla).trans upd_same, O.cl, O.n 2, (by omega), ?_⟩
    have l2 := put_len 2 _ "letters" (V.ref la) l1
    refine ⟨_, rfl, x, CN, dx, _, rfl, upd_same, O.cl, O.n 3, (by omega), fun ka hka => ?_⟩
    have l3 := put_len 3 _ "sent" (V.int 0) l2
    have nka : x ≠ ka := fun z => by subst z; rw [upd_same] at hka; cases hka
    rw [upd_ne nka.symm, upd_ne nka.symm] at hka
    have nlk : la ≠ ka := fun z => by subst z; rw [upd_same] at hka; cases hka
    rw [upd_ne nlk.symm, upd_ne nka.symm] at hka
    have nPk : Pl ≠ ka := fun z => by subst z; rw [upd_same] at hka; cases hka
    have hk0 : H ka = none := by rw [upd_ne nPk.symm, upd_ne nka.symm] at hka; exact hka
    refine ⟨_, rfl, x, CN, dx, _, rfl, (upd_ne nka).trans upd_same, O.cl, O.n 4, (by omega), ?_⟩
    refine q Pl la ka _ hP0 hl0 hk0 nPl nPk nlk ?_ ?_ ?_ ?_ (fun b h1 h2 h3 h4 => by rw [upd_ne h1, upd_ne h4, upd_ne h1, upd_ne h1, upd_ne h3, upd_ne h1, upd_ne h2, upd_ne h1])
    · have e1 : putF "name" (V.str (nN i)) [] = ndN.zip [.str (nN i)] := zput_new (ns := ndN) (vs := []) ndN_nd rfl
      have e2 : putF "parcels" (V.ref Pl) (ndN.zip [.str (nN i)]) = ndN.zip [.str (nN i), .ref Pl] := zput_new (ns := ndN) (vs := [.str (nN i)]) ndN_nd rfl
      have e3 : putF "letters" (V.ref la) (ndN.zip [.str (nN i), .ref Pl]) = ndN.zip [.str (nN i), .ref Pl, .ref la] := zput_new (ns := ndN) (vs := [.str (nN i), .ref Pl]) ndN_nd rfl
      have e4 : putF "sent" (V.int 0) (ndN.zip [.str (nN i), .ref Pl, .ref la]) = ndN.zip [.str (nN i), .ref Pl, .ref la, .int 0] := zput_new (ns := ndN) (vs := [.str (nN i), .ref Pl, .ref la]) ndN_nd rfl
      have e5 : putF "known" (V.ref ka) (ndN.zip [.str (nN i), .ref Pl, .ref la, .int 0]) = ndN.zip [.str (nN i), .ref Pl, .ref la, .int 0, .ref ka] := zput_new (ns := ndN) (vs := [.str (nN i), .ref Pl, .ref la, .int 0]) ndN_nd rfl
      have e : putF "known" (V.ref ka) (putF "sent" (V.int 0) (putF "letters" (V.ref la) (putF "parcels" (V.ref Pl) (putF "name" (V.str (nN i)) [])))) = ndN.zip [.str (nN i), .ref Pl, .ref la, .int 0, .ref ka] := by rw [e1, e2, e3, e4, e5]
      rw [upd_same]
      exact congrArg (fun z => some (HO.ins CN dx z)) e
    · rw [upd_ne nP.symm, upd_ne nPk, upd_ne nP.symm, upd_ne nP.symm, upd_ne nPl, upd_ne nP.symm, upd_same]
    · rw [upd_ne nla.symm, upd_ne nlk, upd_ne nla.symm, upd_ne nla.symm, upd_same]
    · rw [upd_ne nka.symm, upd_same]
/-! out -/
def natV (l : List Nat) : List V := l.map fun (n : Nat) => V.int (n : Int)
def spOut (CN : Addr) (D : Kd) (T : Nat → Thing) (k : Nat) : Sp := fun vs H Q _ => ∃ (G : Hp) (a la ka : Addr) (i : Nat) (nd : Nd), vs = [.ref a] ∧ Same G H ∧ NdAt CN D T k G H a la ka i nd ∧ nd.out.length ≤ 1000 ∧ ∀ l, H l = none → Q (.ref l) (upd H l (.lst (natV (so (nd.out.map (·.num))))))
theorem scn2 : FnScope ["self"] ["self"] (defScope (nS 2)) := ⟨rfl, rfl, rfl, by decide +kernel, rfl, by decide +kernel, by decide +kernel⟩
theorem zok_nats {H : Hp} {is : List Nat} (hl : is.length ≤ 1000) : ∃ zs, zs.map Prod.fst = natV is ∧ ZOk K H zs ∧ (srtD zs).map Prod.fst = natV (so is) := by
  have es : srtD (is.map fun (i : Nat) => ((V.int (i : Int), PyData.int (i : Int)) : V × PyData)) = (so is).map fun (i : Nat) => (V.int (i : Int), PyData.int (i : Int)) := by
    unfold srtD so
    rw [List.map_mergeSort]
    intro a ha b hb
    rw [PySem.W.dataLe_eq]
    show _ = (!PySem.W.dataLt (.int (b : Int)) (.int (a : Int)))
    rw [PySem.W.dataLt_int]
    by_cases h : b < a
    · simp [h]
    · simp [h]; omega
  refine ⟨is.map fun (i : Nat) => (V.int (i : Int), PyData.int (i : Int)), by simp [natV], ⟨?_, ?_, ?_, ?_, ?_⟩, by rw [es]; simp [natV]⟩
  · intro z hz
    obtain ⟨p, hp, rfl⟩ := List.mem_map.mp hz
    exact .int _
  · intro d hd d' hd'
    simp only [List.map_map, List.mem_map] at hd hd'
    obtain ⟨p, _, rfl⟩ := hd
    obtain ⟨q, _, rfl⟩ := hd'
    simp [PySem.W.alike]
  · refine .inr fun d hd => ?_
    simp only [List.map_map, List.mem_map] at hd
    obtain ⟨p, _, rfl⟩ := hd
    exact ⟨by simp, by simp⟩
  · rw [List.length_map]
    exact Nat.le_of_lt (small1000 (by omega))
  · intro z hz
    obtain ⟨p, hp, rfl⟩ := List.mem_map.mp hz
    simp [PyData.depth]
theorem paired_map_eq {α β γ : Type} {F : α → β → Prop} {f : α → γ} {g : β → γ} (h : ∀ a b, F a b → f a = g b) : ∀ {l : List α} {m : List β}, Paired F l m → l.map f = m.map g
  | _, _, .nil => rfl
  | _, _, .cons r t => by rw [List.map_cons, List.map_cons, h _ _ r, paired_map_eq h t]
theorem ok_out (B : Bn mg) (O : NCl K CN) (d : Dm K CN "out" "Node.out" (nS 2) ["self"]) : Mt P w K mg base CN "out" ["self"] 1 (spOut CN D T k) := by
  refine d.ok scn2 (fun vs H Q E h => ?_) (fun f cdv A outer s0 H vs Q E hr h => ?_)
  · obtain ⟨G, a, la, ka, i, nd, rfl, _⟩ := h
    rfl
  · obtain ⟨G, a, la, ka, i, nd, rfl, hG, hN, hlen, q⟩ := h
    obtain ⟨dx, Pl, as, a1, a2, a3⟩ := hN.ins
    obtain ⟨kvs, b1, b2⟩ := hN.lets
    have hu := hr.units
    obtain ⟨zs, z1, z2, z3⟩ := zok_nats (K := K) (H := H) (is := nd.out.map (·.num)) (by simpa using hlen)
    refine ⟨_, pss_one (ps_ret (pe_callB (call_sortedDK rfl hu) (by rfl) B.sorted (by decide +kernel) (pa_cons (pe_fld (pv 0) rfl) pa_nil))), ?_⟩
    refine ⟨_, rfl, a, CN, dx, _, _, rfl, a1, O.cl, O.n 2, zlook (i := 2) ndN_nd rfl, la, kvs, zs, rfl, .inl b1, ?_, z2, fun l hl => ?_⟩
    · rw [z1, natV, List.map_map]
      exact (paired_map_eq (fun kv l h => by rw [h.1]; rfl) b2).symm
    · rw [z3]; exact q l hl
end
end Sam
end
section
set_option Elab.async false
set_option linter.all false
set_option maxRecDepth 100000
set_option maxHeartbeats 1000000
namespace Sam
open PySem PySem.Spec PyProof.Rows L2
open C8 (pss_cut tCut call_isC InsC)
/-- the items that do not stand at the places S -/
def rm {α : Type} (S : List Nat) (l : List α) : List α := (l.zipIdx.filter fun p => !S.contains p.2).map (·.1)
theorem rm_snoc {α : Type} (S : List Nat) (l : List α) (x : α) : rm S (l ++ [x]) = rm S l ++ (if S.contains l.length then [] else [x]) := by
  unfold rm
  rw [List.zipIdx_append, List.filter_append, List.map_append]
  congr 1
  by_cases h : S.contains l.length = true
  · simp at h
    simp [List.zipIdx_cons, h]
  · simp at h
    simp [List.zipIdx_cons, h]
theorem rm_take {α : Type} (S : List Nat) {l : List α} {i : Nat} {x : α} (h : l[i]? = some x) : rm S (l.take (i + 1)) = rm S (l.take i) ++ (if S.contains i then [] else [x]) := by
  have hi := (List.getElem?_eq_some_iff.mp h).1
  rw [List.take_add_one, h]
  show rm S (l.take i ++ [x]) = _
  rw [rm_snoc, List.length_take, Nat.min_eq_left (by omega)]
theorem rm_len {α : Type} (S : List Nat) (l : List α) : (rm S l).length ≤ l.length := by
  unfold rm
  rw [List.length_map]
  refine Nat.le_trans (List.length_filter_le _ _) ?_
  simp
section
variable {P : Program} {w : World} {K : PySem.W.Frag} {mg : Str → Option Value} {base : Heap} {CE CN : Addr} {D : Kd} {T : Nat → Thing} {k : Nat}
theorem valV_of_mem {κ : Type} [DecidableEq κ] : ∀ {kvs : List (κ × V)} {k : κ} {v : V}, (kvs.map (·.1)).Nodup → (k, v) ∈ kvs → valV kvs k = some v
  | [], _, _, _, h => by cases h
  | p :: r, k, v, hn, h => by
    rw [List.map_cons, List.nodup_cons] at hn
    rcases List.mem_cons.mp h with rfl | h'
    · exact valV_pos rfl
    · rw [valV_neg fun e => hn.1 (by rw [e]; exact List.mem_map_of_mem (f := Prod.fst) h')]
      exact valV_of_mem hn.2 h'
theorem upd_swap {H : Hp} {a b : Addr} {o u v : HO} (h : H a = some o) (n : a ≠ b) : upd (upd (upd H a u) b v) a o = upd H b v := by
  funext c
  by_cases e : c = a
  · subst e; rw [upd_same, upd_ne n, h]
  · by_cases e2 : c = b
    · subst e2; rw [upd_ne e, upd_same, upd_same]
    · rw [upd_ne e, upd_ne e2, upd_ne e, upd_ne e2]
/-! confirm -/
def spConf (CN : Addr) (D : Kd) (T : Nat → Thing) (k : Nat) : Sp := fun vs H Q _ => ∃ (G : Hp) (a la ka : Addr) (i : Nat) (nd : Nd) (n : Nat), vs = [.ref a, .int (n : Int)] ∧ Same G H ∧ NdAt CN D T k G H a la ka i nd ∧ (nd.out.map (·.num)).Nodup ∧ nd.out.length ≤ 1000 ∧
  ∀ G' H' la', Ext [a] G H G' H' → H la' = none → NdAt CN D T k G' H' a la' ka i { nd with out := nd.out.filter fun l => decide (l.num ≠ n) } → Q .non H'
abbrev N10 : List Str := ["self", "number", "other"]
theorem scn10 : FnScope N10 ["self", "number"] (defScope (nS 10)) := ⟨rfl, rfl, rfl, by decide +kernel, rfl, by decide +kernel, by decide +kernel⟩
theorem paired_filter {α β : Type} {F : α → β → Prop} {p : α → Bool} {q : β → Bool} (h : ∀ a b, F a b → p a = q b) : ∀ {l : List α} {m : List β}, Paired F l m → Paired F (l.filter p) (m.filter q)
  | _, _, .nil => .nil
  | _, _, .cons (a := a) (b := b) r t => by
    rw [List.filter_cons, List.filter_cons, h _ _ r]
    by_cases z : q b = true
    · rw [if_pos z, if_pos z]; exact .cons r (paired_filter h t)
    · rw [if_neg z, if_neg z]; exact paired_filter h t
theorem ok_confirm (B : Bn mg) (O : NCl K CN) (d : Dm K CN "confirm" "Node.confirm" (nS 10) ["self", "number"]) : Mt P w K mg base CN "confirm" ["self", "number"] 1 (spConf CN D T k) := by
  refine d.ok scn10 (fun vs H Q E h => ?_) (fun f cdv A outer s0 H vs Q E hr h => ?_)
  · obtain ⟨G, a, la, ka, i, nd, n, rfl, _⟩ := h
    rfl
  · obtain ⟨G, a, la, ka, i, nd, n, rfl, hG, hN, hnd, hlen, q⟩ := h
    obtain ⟨dx, Pl, as, a1, a2, a3⟩ := hN.ins
    obtain ⟨kvs, b1, b2⟩ := hN.lets
    obtain ⟨kvt, c1, c2⟩ := hN.knw
    have hu := hu_of hr
    have nd0 := scn10.nd
    have lk := b2.length
    refine ⟨_, pss_one (ps_fld (pv 0) (pe_lock (pe_dc (own := [("other", 2)]) (g := gName 2) (by rfl) nd0 (pi_keys (pe_fld (pv 0) rfl))
          (blkOk_by (own := [("other", 2)]) (N := N10) (sc := defScope (nS 10)) (by decide +kernel)) (fun _ _ _ _ _ => pg_name (i := 2) nd0 rfl (Or.inl rfl))
          (fun _ _ _ _ _ => pts_one (pt_cmpR op_ne (pv 2) (pv 1) (nomark _))) (fun _ _ _ _ _ => pv 2) (fun _ _ _ _ _ => pe_dget hu (ke_fld K (pv 0)) (pv 2) (fun _ _ => rfl)))) rfl), ?_⟩
    have nal : a ≠ la := ne_of a1 b1 (by intro z; cases z)
    refine ⟨la, _, b1, trivial, fun od => ⟨_, rfl, a, CN, dx, _, _, rfl, (upd_ne nal).trans a1, O.cl, O.n 2, zlook (i := 2) ndN_nd rfl, la, od, rfl, .inl ⟨kvs, upd_same, fun D1 hD1 => ?_⟩⟩⟩
    have hnk : (kvs.map (·.1)).Nodup := by
      rw [paired_map_eq (g := lnK) (fun kv l h => h.1) b2]
      have : nd.out.map lnK = (nd.out.map (·.num)).map fun (m : Nat) => (Sum.inl (m : Int) : Key) := by rw [List.map_map]; rfl
      rw [this]
      refine nodup_map_on hnd fun x _ y _ e => ?_
      have := Sum.inl.inj e
      omega
    have nD : la ≠ D1 := ne_of_none upd_same hD1
    have hD0 : H D1 = none := by rw [upd_ne nD.symm] at hD1; exact hD1
    have naD : a ≠ D1 := ne_of_none a1 hD0
    have hA : ∀ u v, upd (upd H la u) D1 v a = some (.ins CN dx (ndF i Pl la nd.sent ka)) := fun u v => by rw [upd_ne naD, upd_ne nal]; exact a1
    refine dc_keys (fun i H2 => H2 = upd (upd H la (.frz od (.dK kvs))) D1 (.dK ((kvs.take i).filter fun kv => decide (kv.1 ≠ Sum.inl (n : Int))))) rfl ?_ ?_ ?_
    · rintro i H2 _ rfl
      rw [upd_ne nD, upd_same]
    · rintro i ky v H2 hkv rfl
      have hi := (List.getElem?_eq_some_iff.mp hkv).1
      obtain ⟨l, hl1, hl2, r, hl3, hl4⟩ := paired_get b2 hkv
      have hky : ky = lnK l := hl2
      subst hky
      have hv : v = V.ref r := hl3
      subst hv
      refine ⟨rfl, _, rfl, _, rfl, rfl, _, rfl, ?_⟩
      have htk : kvs.take (i + 1) = kvs.take i ++ [(lnK l, V.ref r)] := by rw [List.take_add_one, hkv]; rfl
      have hnot : (lnK l, V.ref r).1 ∉ (kvs.take i).map (·.1) := by
        intro hm
        have e : kvs.map (·.1) = (kvs.take i).map (·.1) ++ lnK l :: (kvs.drop (i + 1)).map (·.1) := by
          conv => lhs; rw [← List.take_append_drop i kvs, List.drop_eq_getElem_cons hi]
          rw [(List.getElem?_eq_some_iff.mp hkv).2]
          simp
        rw [e] at hnk
        exact (List.nodup_append.mp hnk).2.2 _ hm _ List.mem_cons_self rfl
      by_cases hne : l.num = n
      · have e2 : (!decide (V.int (l.num : Int) = V.int (n : Int))) = false := by simp [hne]
        show if (!decide (V.int (l.num : Int) = V.int (n : Int))) = true then _ else _
        rw [e2]
        refine iteF ?_
        rw [htk, List.filter_append]
        have : (decide ((lnK l, V.ref r).1 ≠ Sum.inl (n : Int))) = false := by simp [lnK, hne]
        simp [lnK, hne]
      · have e2 : (!decide (V.int (l.num : Int) = V.int (n : Int))) = true := by
          simp; omega
        show if (!decide (V.int (l.num : Int) = V.int (n : Int))) = true then _ else _
        rw [e2]
        refine iteT ?_
        have hvv : valV kvs (lnK l) = some (V.ref r) := by
          exact valV_of_mem hnk (List.mem_of_getElem? hkv)
        refine ⟨_, rfl, _, rfl, a, CN, dx, _, _, rfl, hA _ _, O.cl, O.n 2, zlook (i := 2) ndN_nd rfl, _, rfl, la, .ref r, rfl, ?_, _, lnK l, rfl, upd_same, ?_, ?_⟩
        · refine .inl ⟨kvs, lnK l, .inr ⟨od, ?_⟩, rfl, hvv.symm⟩
          rw [upd_ne nD, upd_same]
        · refine small1000 (Nat.le_trans (List.length_filter_le _ _) ?_)
          rw [List.length_take]; omega
        · rw [upd_upd, htk, List.filter_append, putK_new]
          · have : (decide ((lnK l, V.ref r).1 ≠ Sum.inl (n : Int))) = true := by
              simp [lnK]; omega
            have e3 : ([(lnK l, V.ref r)] : List (Key × V)).filter (fun kv => decide (kv.1 ≠ Sum.inl (n : Int))) = [(lnK l, V.ref r)] := by
              rw [List.filter_cons, if_pos this]; rfl
            rw [e3]
          · cases hc : valV ((kvs.take i).filter fun kv => decide (kv.1 ≠ Sum.inl (n : Int))) (lnK l) with
            | none => rfl
            | some v => 
              exfalso
              have := valV_in hc
              obtain ⟨p, hp, e⟩ := List.mem_map.mp this
              exact hnot (by rw [← show p.1 = (lnK l, V.ref r).1 from e]; exact List.mem_map_of_mem (f := Prod.fst) (List.mem_filter.mp hp).1)
    · rintro H2 rfl
      refine ⟨by rw [upd_ne nD, upd_same], ?_⟩
      rw [upd_swap b1 nD]
      have e : kvs.take kvs.length = kvs := List.take_length
      rw [e]
      refine ⟨_, rfl, a, CN, dx, _, rfl, (upd_ne naD).trans a1, O.cl, O.n 2, zlen _ _ (by decide), ?_⟩
      rw [zput (i := 2) ndN_nd rfl (by simp)]
      have X1 := ((Ext.refl (ms := [a]) hG).tmp (o := .dK (kvs.filter fun kv => decide (kv.1 ≠ Sum.inl (n : Int)))) hD0).wr (m := a) (o := .ins CN dx (ndF i Pl D1 nd.sent ka)) (.inl (by simp)) hN.ga
      have nka : ka ≠ a := ne_of c1 a1 (by intro z; cases z)
      have nkD : ka ≠ D1 := ne_of_none c1 hD0
      refine q G _ D1 X1 hD0 ⟨⟨dx, Pl, as, upd_same, a2, a3⟩, ⟨_, (upd_ne naD.symm).trans upd_same, paired_filter (fun kv l h => ?_) b2⟩, ⟨kvt, (upd_ne nka).trans ((upd_ne nkD).trans c1), c2⟩, hN.ga, hG.free hD0, hN.gk, hN.i3⟩
      rw [h.1]
      simp [lnK]
      omega
end
end Sam
end
section
set_option Elab.async false
set_option linter.all false
set_option maxRecDepth 100000
set_option maxHeartbeats 1000000
namespace Sam
open PySem PySem.Spec PyProof.Rows L2
open C8 (pss_cut tCut call_isC InsC)
/-! ### walks within comprehensions, whatever the body -/
theorem walk_list {K : PySem.W.Frag} {a : Addr} {xs : List V} {H4 : Hp} {Nx : Hp → Prop} {B : V → Hp → (Hp → Prop) → Prop} (Pv : Nat → Hp → Prop) (h0 : Pv 0 H4) (hl : ∀ i H, i ≤ xs.length → Pv i H → SqL K H a xs)
    (hs : ∀ i x H, xs[i]? = some x → Pv i H → B x H (Pv (i + 1))) (hd : ∀ H, Pv xs.length H → Nx H) :
    ∃ W1 : Nat → Nat → Hp → Prop, (∃ m, W1 0 m H4) ∧ ∀ j k H, W1 j k H → ((Itl K a).stop j H ∧ Nx H) ∨ ((Itl K a).go j H ∧ ∃ Nx1 : Hp → Prop, (∀ H', Nx1 H' → ∃ k', k' < k ∧ W1 (j + 1) k' H') ∧ ∀ x H', (Itl K a).yld j H x H' → B x H' Nx1) := by
  refine ⟨fun i m H => m = xs.length - i ∧ i ≤ xs.length ∧ Pv i H, ⟨xs.length, by simp, Nat.zero_le _, h0⟩, ?_⟩
  rintro i m H ⟨rfl, hi, p⟩
  have q := hl i H hi p
  by_cases hlt : i < xs.length
  · refine .inr ⟨⟨xs, xs[i], q, by simp [hlt]⟩, Pv (i + 1), fun H' p' => ⟨xs.length - (i + 1), by omega, rfl, hlt, p'⟩, fun x H' y => ?_⟩
    obtain ⟨e, y⟩ := y
    subst e
    exact hs i x _ (y xs q) p
  · have e : i = xs.length := by omega
    subst e
    exact .inl ⟨⟨xs, q, Nat.le_refl _⟩, hd H p⟩
theorem walk_tup {K : PySem.W.Frag} {a : Addr} {xs : List V} {H4 : Hp} {Nx : Hp → Prop} {B : V → Hp → (Hp → Prop) → Prop} (Pv : Nat → Hp → Prop) (h0 : Pv 0 H4) (hl : ∀ i H, i ≤ xs.length → Pv i H → SqT K H a xs)
    (hs : ∀ i x H, xs[i]? = some x → Pv i H → B x H (Pv (i + 1))) (hd : ∀ H, Pv xs.length H → Nx H) :
    ∃ W1 : Nat → Nat → Hp → Prop, (∃ m, W1 0 m H4) ∧ ∀ j k H, W1 j k H → ((Itt K a).stop j H ∧ Nx H) ∨ ((Itt K a).go j H ∧ ∃ Nx1 : Hp → Prop, (∀ H', Nx1 H' → ∃ k', k' < k ∧ W1 (j + 1) k' H') ∧ ∀ x H', (Itt K a).yld j H x H' → B x H' Nx1) := by
  refine ⟨fun i m H => m = xs.length - i ∧ i ≤ xs.length ∧ Pv i H, ⟨xs.length, by simp, Nat.zero_le _, h0⟩, ?_⟩
  rintro i m H ⟨rfl, hi, p⟩
  have q := hl i H hi p
  by_cases hlt : i < xs.length
  · refine .inr ⟨⟨xs, xs[i], q, by simp [hlt]⟩, Pv (i + 1), fun H' p' => ⟨xs.length - (i + 1), by omega, rfl, hlt, p'⟩, fun x H' y => ?_⟩
    obtain ⟨e, y⟩ := y
    subst e
    exact hs i x _ (y xs q) p
  · have e : i = xs.length := by omega
    subst e
    exact .inl ⟨⟨xs, q, Nat.le_refl _⟩, hd H p⟩
/-- all parts that a node has to do with -/
def hereP (nd : Nd) : List Nat := (nd.pars ++ nd.out.map (·.par)).flatMap (·.ps)
theorem cut_take (xs : List V) (j : Nat) : cutV xs none (some (j : Int)) = xs.take j := by
  unfold cutV
  rw [HT.sIx_none, HT.sIx_nat]
  simp
theorem cut_drop (xs : List V) (j : Nat) : cutV xs (some ((j : Nat) : Int)) none = xs.drop j := by
  unfold cutV
  rw [HT.sIx_none, HT.sIx_nat]
  by_cases h : j ≤ xs.length
  · rw [Nat.min_eq_left h, List.take_of_length_le]
    simp
  · rw [Nat.min_eq_right (by omega), List.drop_eq_nil_of_le (by omega), List.drop_eq_nil_of_le (by omega)]
    simp
theorem flatMap_take {α β : Type} {f : α → List β} {l : List α} {i : Nat} {x : α} (h : l[i]? = some x) : (l.take (i + 1)).flatMap f = (l.take i).flatMap f ++ f x := by
  rw [List.take_add_one, h]
  simp
theorem flatMap_le {α β : Type} {f : α → List β} {l : List α} {i : Nat} {x : α} (h : l[i]? = some x) : ((l.take i).flatMap f).length + (f x).length ≤ (l.flatMap f).length := by
  obtain ⟨r, e⟩ := flat_take (xss := l.map f) (i := i) (xs := f x) (by rw [List.getElem?_map, h]; rfl)
  have h1 : l.flatMap f = (l.map f).flatten := List.flatMap_def
  have h2 : (l.take i).flatMap f = ((l.map f).take i).flatten := by rw [List.flatMap_def, List.map_take]
  rw [h1, h2, e]
  simp
section
variable {P : Program} {w : World} {K : PySem.W.Frag} {mg : Str → Option Value} {base : Heap} {CE CN : Addr} {D : Kd} {T : Nat → Thing} {k : Nat}
/-! here -/
def spHere (CN : Addr) (D : Kd) (T : Nat → Thing) (k : Nat) : Sp := fun vs H Q _ => ∃ (G : Hp) (a la ka : Addr) (i : Nat) (nd : Nd), vs = [.ref a] ∧ Same G H ∧ NdAt CN D T k G H a la ka i nd ∧ (nd.out.map (·.num)).Nodup ∧ (nd.out.length ≤ 1000 ∧ nd.pars.length ≤ 1000 ∧ (hereP nd).length ≤ 1000) ∧
  ∀ l H', Same H H' → H' l = some (.lst (ptV (hereP nd))) → Q (.ref l) H'
abbrev N8 : List Str := ["self", "letters", "number", "parts", "_", "part"]
theorem scn8 : FnScope N8 ["self"] (defScope (nS 8)) := ⟨rfl, rfl, rfl, by decide +kernel, rfl, by decide +kernel, by decide +kernel⟩
theorem ok_here (B : Bn mg) (O : NCl K CN) (d : Dm K CN "here" "Node.here" (nS 8) ["self"]) : Mt P w K mg base CN "here" ["self"] 1 (spHere CN D T k) := by
  refine d.ok scn8 (fun vs H Q E h => ?_) (fun f cdv A outer s0 H vs Q E hr h => ?_)
  · obtain ⟨G, a, la, ka, i, nd, rfl, _⟩ := h
    rfl
  · obtain ⟨G, a, la, ka, i, nd, rfl, hG, hN, hnd, ⟨lo, lp, lh⟩, q⟩ := h
    obtain ⟨dx, Pl, as, a1, a2, a3⟩ := hN.ins
    obtain ⟨kvs, b1, b2⟩ := hN.lets
    have hu := hu_of hr
    have nd0 := scn8.nd
    have lk := b2.length
    have las := a3.length
    refine ⟨_, pss_cons (ps_lock (ps_setLc (i := 1) (own := [("number", 2)]) (g := gName 2) (by rfl) nd0 rfl rfl (sw_true rfl rfl rfl (by rfl)) (pi_keys (pe_fld (pv 0) rfl))
          (blkOk_by (own := [("number", 2)]) (N := N8) (sc := defScope (nS 8)) (by decide +kernel)) (fun _ _ _ _ _ => pg_name (i := 2) nd0 rfl (Or.inl rfl))
          (fun _ _ _ _ _ => pts_nil) (fun _ _ _ _ _ => pe_ix (kx_tup K) (pe_dget hu (ke_fld K (pv 0)) (pv 2) (fun _ _ => rfl)) pe_int (fun _ _ => rfl))))
      (pss_one (ps_ret (pe_lc2 (own := [("parts", 3), ("_", 4), ("part", 5)]) (vs1 := [5]) (g := gTup K 2 (gCons (gName 3) (gCons (gName 4) gNil))) (g1 := gName 5) (by rfl) nd0 (pi_list (pe_op op_cat (pe_fld (pv 0) rfl) (pv 1)))
          (blkOk_by (own := [("parts", 3), ("_", 4), ("part", 5)]) (N := N8) (sc := defScope (nS 8)) (by decide +kernel)) (by decide) (fun _ _ _ _ _ => kg_tup K (by rfl) (pgs_cons (pg_name (i := 3) nd0 rfl (Or.inl rfl)) (pgs_cons (pg_name (i := 4) nd0 rfl (Or.inl rfl)) pgs_nil)))
          (fun _ _ _ _ _ => pts_nil) (fun _ _ _ _ _ => ki_tup K (pv 3)) (fun _ _ _ _ _ => pg_name (i := 5) nd0 rfl (Or.inl rfl)) (fun _ _ _ _ _ => pts_nil) (fun _ _ _ _ _ => pv 5)))), ?_⟩
    have nal : a ≠ la := ne_of a1 b1 (by intro z; cases z)
    refine ⟨la, _, b1, trivial, fun od => ⟨_, rfl, a, CN, dx, _, _, rfl, (upd_ne nal).trans a1, O.cl, O.n 2, zlook (i := 2) ndN_nd rfl, la, od, rfl, .inl ⟨kvs, upd_same, fun D1 hD1 => ?_⟩⟩⟩
    have hnk : (kvs.map (·.1)).Nodup := by
      rw [paired_map_eq (g := lnK) (fun kv l h => h.1) b2]
      have : nd.out.map lnK = (nd.out.map (·.num)).map fun (m : Nat) => (Sum.inl (m : Int) : Key) := by rw [List.map_map]; rfl
      rw [this]
      refine nodup_map_on hnd fun x _ y _ e => ?_
      have := Sum.inl.inj e
      omega
    have nD : la ≠ D1 := ne_of_none upd_same hD1
    have hD0 : H D1 = none := by rw [upd_ne nD.symm] at hD1; exact hD1
    have naD : a ≠ D1 := ne_of_none a1 hD0
    have hA : ∀ u v, upd (upd H la u) D1 v a = some (.ins CN dx (ndF i Pl la nd.sent ka)) := fun u v => by rw [upd_ne naD, upd_ne nal]; exact a1
    refine lc_keys (fun i H2 => ∃ us, H2 = upd (upd H la (.frz od (.dK kvs))) D1 (.lst (refs us)) ∧ us.length = i ∧ Pas D T k G us ((nd.out.take i).map (·.par))) ⟨[], rfl, rfl, .nil⟩ ?_ ?_ ?_
    · rintro i H2 _ ⟨us, rfl, _⟩
      rw [upd_ne nD, upd_same]
    · rintro i ky v H2 hkv ⟨us, rfl, lu, hu2⟩
      have hi := (List.getElem?_eq_some_iff.mp hkv).1
      obtain ⟨l, hl1, hl2, r, hl3, p, hl4, hl5, hl6⟩ := paired_get b2 hkv
      have hky : ky = lnK l := hl2
      subst hky
      have hv : v = V.ref r := hl3
      subst hv
      have nrl : r ≠ la := fun z => by
        have := hN.gl
        rw [← z, hl4] at this; cases this
      have nrD : r ≠ D1 := fun z => by
        have := hG.free hD0
        rw [← z, hl4] at this; cases this
      refine ⟨rfl, yes_ok ?_⟩
      refine ⟨_, rfl, a, CN, dx, _, _, rfl, hA _ _, O.cl, O.n 2, zlook (i := 2) ndN_nd rfl, _, rfl, la, .ref r, rfl, .inl ⟨kvs, lnK l, .inr ⟨od, (upd_ne nD).trans upd_same⟩, rfl, (valV_of_mem hnk (List.mem_of_getElem? hkv)).symm⟩, ?_⟩
      refine ⟨r, _, _, _, rfl, rfl, SqT.of ((upd_ne nrD).trans ((upd_ne nrl).trans (hG _ _ hl4))), atI_nat (j := 3) rfl, _, upd_same, small1000 (by simp; omega), us ++ [p], by rw [upd_upd]; simp [refs], by simp [lu], ?_⟩
      rw [List.take_add_one, hl1, List.map_append]
      exact paired_append hu2 (.cons hl5 .nil)
    · rintro H2 ⟨us, rfl, lu, hu2⟩
      refine ⟨by rw [upd_ne nD, upd_same], ?_⟩
      rw [upd_swap b1 nD]
      have e1 : nd.out.take kvs.length = nd.out := by rw [lk, List.take_length]
      rw [e1] at hu2
      have s1 := Same.new (.lst (refs us)) hD0
      have d1 : upd H D1 (.lst (refs us)) D1 = some _ := upd_same
      generalize upd H D1 (.lst (refs us)) = H1 at *
      have hall : Pas D T k G (as ++ us) (nd.pars ++ nd.out.map (·.par)) := paired_append a3 hu2
      have lall := hall.length
      have luo : us.length = nd.out.length := by omega
      refine ⟨_, rfl, a, CN, dx, _, _, rfl, s1 _ _ a1, O.cl, O.n 1, zlook (i := 1) ndN_nd rfl, _, rfl, Pl, D1, _, _, rfl, rfl, s1 _ _ (hG _ _ a2), d1, ?_, fun D2 hD2 => ?_⟩
      · exact Nat.le_of_lt (Nat.lt_of_le_of_lt (by simp; omega) (show 2000 < sizeLine by decide))
      have er : refs as ++ refs us = refs (as ++ us) := by simp [refs]
      rw [er]
      have s2 := s1.trans (Same.new (.lst (refs (as ++ us))) hD2)
      have d2 : upd H1 D2 (.lst (refs (as ++ us))) D2 = some _ := upd_same
      generalize upd H1 D2 (.lst (refs (as ++ us))) = H2 at *
      refine ⟨D2, rfl, ⟨_, SqL.of d2⟩, fun D3 hD3 => walk_list (K := K) (xs := refs (as ++ us)) (fun i H3 => H3 = upd H2 D3 (.lst (ptV (((nd.pars ++ nd.out.map (·.par)).take i).flatMap (·.ps))))) rfl ?_ ?_ ?_⟩
      · rintro i H3 _ rfl
        exact SqL.of (Same.new _ hD3 _ _ d2)
      · rintro i x H3 hx rfl
        obtain ⟨ap, p, rfl, e2, t, s, p1, p2, p3, p4⟩ := hall.get hx
        have hle := flatMap_le (f := fun p : Par => p.ps) e2
        have hle2 : ((nd.pars ++ nd.out.map (·.par)).flatMap (fun p : Par => p.ps)).length ≤ 1000 := lh
        refine ⟨ap, _, rfl, SqT.of (Same.new _ hD3 _ _ (s2 _ _ (hG _ _ p1))), rfl, _, _, rfl, _, _, rfl, rfl, rfl, yes_ok ?_⟩
        refine ⟨_, rfl, t, rfl, ⟨_, SqT.of (Same.new _ hD3 _ _ (s2 _ _ (hG _ _ p2)))⟩, walk_tup (K := K) (xs := ptV p.ps) (fun j H4 => H4 = upd H2 D3 (.lst (ptV (((nd.pars ++ nd.out.map (·.par)).take i).flatMap (·.ps) ++ p.ps.take j)))) (by simp) ?_ ?_ ?_⟩
        · rintro j H4 _ rfl
          exact SqT.of (Same.new _ hD3 _ _ (s2 _ _ (hG _ _ p2)))
        · rintro j y H4 hy rfl
          rw [ptV, List.getElem?_map] at hy
          obtain ⟨z, hz, rfl⟩ := Option.map_eq_some_iff.mp hy
          have hj := (List.getElem?_eq_some_iff.mp hz).1
          refine ⟨rfl, yes_ok ?_⟩
          refine ⟨_, rfl, _, upd_same, small1000 ?_, ?_⟩
          · simp [ptV] at hle hle2 ⊢
            omega
          · rw [upd_upd, List.take_add_one, hz]
            simp [ptV]
        · rintro H4 rfl
          rw [flatMap_take e2]
          have : p.ps.take (ptV p.ps).length = p.ps := by rw [List.take_of_length_le]; simp [ptV]
          rw [this]
      · rintro H3 rfl
        refine q D3 _ (s2.trans (Same.new _ hD3)) ?_
        rw [upd_same]
        have : (nd.pars ++ nd.out.map (·.par)).take (refs (as ++ us)).length = nd.pars ++ nd.out.map (·.par) := by
          rw [List.take_of_length_le]; simp [refs] at lall ⊢; omega
        rw [this]
        rfl
end
end Sam
end
section
set_option Elab.async false
set_option linter.all false
set_option maxRecDepth 100000
set_option maxHeartbeats 1000000
namespace Sam
open PySem PySem.Spec PyProof.Rows L2
open C8 (pss_cut tCut call_isC InsC)
section
variable {P : Program} {w : World} {K : PySem.W.Frag} {mg : Str → Option Value} {base : Heap} {CE CN : Addr} {D : Kd} {T : Nat → Thing} {k : Nat}
theorem paired_eraseIdx {α β : Type} {F : α → β → Prop} : ∀ {l : List α} {m : List β} (i : Nat), Paired F l m → Paired F (l.eraseIdx i) (m.eraseIdx i)
  | _, _, _, .nil => .nil
  | _, _, 0, .cons _ t => t
  | _, _, i + 1, .cons r t => .cons r (paired_eraseIdx i t)
theorem erase_td {α : Type} (l : List α) (i : Nat) : l.take i ++ l.drop (i + 1) = l.eraseIdx i := (List.eraseIdx_eq_take_drop_succ l i).symm
/-! send -/
def sentNd (i j rc : Nat) (p : Par) (nd : Nd) : Nd := ⟨nd.pars.eraseIdx j, nd.out ++ [⟨i, nd.sent + 1, rc, p⟩], nd.sent + 1, nd.known⟩
def spSend (CN : Addr) (D : Kd) (T : Nat → Thing) (k : Nat) : Sp := fun vs H Q _ => ∃ (G : Hp) (a la ka : Addr) (i j rc : Nat) (nd : Nd) (p : Par), vs = [.ref a, .int (j : Int), .str (nN rc)] ∧ Same G H ∧ NdAt CN D T k G H a la ka i nd ∧ (rc < 3 ∧ rc ≠ i) ∧ nd.pars[j]? = some p ∧
  (∀ l ∈ nd.out, l.num ≤ nd.sent) ∧ (nd.out.length ≤ 900 ∧ nd.pars.length ≤ 1000) ∧
  ∀ G' H' r, Ext [a, la] G H G' H' → NdAt CN D T k G' H' a la ka i (sentNd i j rc p nd) → LeIs D T k G' r ⟨i, nd.sent + 1, rc, p⟩ → Q (.ref r) H'
theorem scn5 : FnScope ["self", "i", "receiver", "letter"] ["self", "i", "receiver"] (defScope (nS 5)) := ⟨rfl, rfl, rfl, by decide +kernel, rfl, by decide +kernel, by decide +kernel⟩
theorem ok_send (B : Bn mg) (O : NCl K CN) (d : Dm K CN "send" "Node.send" (nS 5) ["self", "i", "receiver"]) (cN : Mt P w K mg base CN "check_number" ["self", "number"] 1 (spNum CN D T k)) : Mt P w K mg base CN "send" ["self", "i", "receiver"] 2 (spSend CN D T k) := by
  refine d.ok scn5 (fun vs H Q E h => ?_) (fun f cdv A outer s0 H vs Q E hr h => ?_)
  · obtain ⟨G, a, la, ka, i, j, rc, nd, p, rfl, _⟩ := h
    rfl
  · obtain ⟨G, a, la, ka, i, j, rc, nd, p, rfl, hG, hN, ⟨hrc, hri⟩, hj, hnum, ⟨lo, lp⟩, q⟩ := h
    obtain ⟨dx, Pl, as, a1, a2, a3⟩ := hN.ins
    obtain ⟨kvs, b1, b2⟩ := hN.lets
    obtain ⟨kvt, c1, c2⟩ := hN.knw
    have hu := hu_of hr
    have nd0 := scn5.nd
    have lk := b2.length
    have las := a3.length
    refine ⟨_, pss_cons (ps_expr (pe_m cN O.cl hr (pv 0) (pa_cons (pv 1) pa_nil)))
      (pss_cons (ps_if (pt_cmpR op_eq (pv 2) (pe_fld (pv 0) rfl) (nomark _)) pss_never pss_nil)
      (pss_cons (ps_fldaug (pv 0) pe_int in_add)
      (pss_cons (ps_set (i := 3) nd0 rfl (.inl rfl) (pe_tup (pa_cons (pe_fld (pv 0) rfl) (pa_cons (pe_fld (pv 0) rfl) (pa_cons (pv 2) (pa_cons (pe_ix ix_list (pe_fld (pv 0) rfl) (pv 1) (fun _ _ => rfl)) pa_nil))))))
      (pss_cons (ps_dput hu (pe_fld (pv 0) rfl) (pe_fld (pv 0) rfl) (pv 3) (by rfl))
      (pss_cons (ps_fld (pv 0) (pe_op op_cat (pe_slice sl_list (pe_fld (pv 0) rfl) po_none (po_some (pv 1))) (pe_slice sl_list (pe_fld (pv 0) rfl) (po_some (pe_op op_add (pv 1) pe_int)) po_none)) rfl)
      (pss_one (ps_ret (pv 3)))))))), ?_⟩
    have nal : a ≠ la := ne_of a1 b1 (by intro z; cases z)
    have nka : ka ≠ a := ne_of c1 a1 (by intro z; cases z)
    have nkl : ka ≠ la := ne_of c1 b1 (by intro z; cases z)
    obtain ⟨pa, hpa, hpp⟩ := paired_get' a3 hj
    have hxj : (refs as)[j]? = some (.ref pa) := by rw [List.getElem?_map, hpa]; rfl
    have hjl := (List.getElem?_eq_some_iff.mp hj).1
    refine ⟨_, rfl, a, dx, _, rfl, a1, zlook_none (ns := ndN) (by decide) _, _, rfl, G, a, la, ka, i, j, nd, rfl, hG, hN, hjl, ?_⟩
    refine ⟨_, rfl, _, rfl, a, CN, dx, _, _, rfl, a1, O.cl, O.n 0, zlook (i := 0) ndN_nd rfl, rfl, _, rfl, ite2 (fun z => ?_) fun _ => ?_⟩
    · exfalso
      have := of_decide_eq_true z
      exact hri (nN_inj hrc hN.i3 (V.str.inj this))
    -- self.sent += 1
    refine ⟨_, rfl, a, CN, dx, _, _, rfl, a1, O.cl, O.n 3, zlook (i := 3) ndN_nd rfl, _, _, rfl, rfl, dx, _, a1, zlen _ _ (by decide), ?_⟩
    rw [zput (i := 3) ndN_nd rfl (by simp)]
    have X1 := (Ext.refl (ms := [a, la]) hG).wr (m := a) (o := .ins CN dx (ndF i Pl la (nd.sent + 1) ka)) (.inl (by simp)) hN.ga
    have e1 : upd H a (.ins CN dx (ndF i Pl la (nd.sent + 1) ka)) a = some _ := upd_same
    have f1 : upd H a (.ins CN dx (ndF i Pl la (nd.sent + 1) ka)) la = some _ := (upd_ne nal.symm).trans b1
    have g1 : upd H a (.ins CN dx (ndF i Pl la (nd.sent + 1) ka)) ka = some _ := (upd_ne nka).trans c1
    have hh : upd H a (.ins CN dx (ndN.zip ([V.str (nN i), .ref Pl, .ref la, .int (nd.sent : Int), .ref ka].set 3 (.int ((nd.sent : Int) + 1))))) = upd H a (.ins CN dx (ndF i Pl la (nd.sent + 1) ka)) := rfl
    rw [hh]
    clear hh
    generalize upd H a (.ins CN dx (ndF i Pl la (nd.sent + 1) ka)) = H1 at *
    -- letter
    refine ⟨_, rfl, a, CN, dx, _, _, rfl, e1, O.cl, O.n 0, zlook (i := 0) ndN_nd rfl, _, rfl, a, CN, dx, _, _, rfl, e1, O.cl, O.n 3, zlook (i := 3) ndN_nd rfl, _, rfl, _, rfl, a, CN, dx, _, _, rfl, e1, O.cl, O.n 1, zlook (i := 1) ndN_nd rfl, _, rfl,
      Pl, _, _, _, rfl, rfl, SqL.of (X1.gh _ _ a2), atI_nat hxj, (by show 4 ≤ sizeLine; decide), fun lt hlt => ?_⟩
    have X2 := X1.new (o := .tup (leV ⟨i, nd.sent + 1, rc, p⟩ pa)) hlt
    have g2 := Same.new (.tup (leV ⟨i, nd.sent + 1, rc, p⟩ pa)) (X1.gh.free hlt)
    have s2 := Same.new (.tup (leV ⟨i, nd.sent + 1, rc, p⟩ pa)) hlt
    have hLt : LeIs D T k (upd G lt (.tup (leV ⟨i, nd.sent + 1, rc, p⟩ pa))) lt ⟨i, nd.sent + 1, rc, p⟩ := ⟨pa, upd_same, hpp.mono g2, hN.i3, hrc⟩
    have hh : upd H1 lt (.tup [V.str (nN i), .int ((nd.sent + 1 : Nat) : Int), .str (nN rc), .ref pa]) = upd H1 lt (.tup (leV ⟨i, nd.sent + 1, rc, p⟩ pa)) := rfl
    rw [hh]
    clear hh
    have e2 := s2 _ _ e1
    have f2 := s2 _ _ f1
    have k2 := s2 _ _ g1
    generalize upd H1 lt (.tup (leV ⟨i, nd.sent + 1, rc, p⟩ pa)) = H2 at *
    generalize upd G lt (.tup (leV ⟨i, nd.sent + 1, rc, p⟩ pa)) = G2 at *
    -- self.letters[self.sent] = letter
    refine ⟨_, rfl, _, rfl, a, CN, dx, _, _, rfl, e2, O.cl, O.n 2, zlook (i := 2) ndN_nd rfl, _, rfl, a, CN, dx, _, _, rfl, e2, O.cl, O.n 3, zlook (i := 3) ndN_nd rfl, la, _, rfl, DPut.k (k := lnK ⟨i, nd.sent + 1, rc, p⟩) f2 (small1000 (by omega)), ?_⟩
    have hnew : valV kvs (lnK ⟨i, nd.sent + 1, rc, p⟩) = none := by
      cases hc : valV kvs (lnK ⟨i, nd.sent + 1, rc, p⟩) with
      | none => rfl
      | some v =>
        exfalso
        have hm := valV_in hc
        rw [paired_map_eq (g := lnK) (fun kv l h => h.1) b2] at hm
        obtain ⟨l, hl, el⟩ := List.mem_map.mp hm
        have h1 := hnum l hl
        have h2 := Sum.inl.inj el
        simp only at h2
        omega
    rw [putK_new _ hnew]
    have X3 := X2.wr (m := la) (o := .dK (kvs ++ [(lnK ⟨i, nd.sent + 1, rc, p⟩, .ref lt)])) (.inl (by simp)) (X2.out hN.gl b1)
    have e3 : upd H2 la (.dK (kvs ++ [(lnK ⟨i, nd.sent + 1, rc, p⟩, .ref lt)])) a = some _ := (upd_ne nal).trans e2
    have f3 : upd H2 la (.dK (kvs ++ [(lnK ⟨i, nd.sent + 1, rc, p⟩, .ref lt)])) la = some _ := upd_same
    have k3 : upd H2 la (.dK (kvs ++ [(lnK ⟨i, nd.sent + 1, rc, p⟩, .ref lt)])) ka = some _ := (upd_ne nkl).trans k2
    generalize upd H2 la (.dK (kvs ++ [(lnK ⟨i, nd.sent + 1, rc, p⟩, .ref lt)])) = H3 at *
    -- self.parcels = ..
    refine ⟨_, rfl, a, CN, dx, _, _, rfl, e3, O.cl, O.n 1, zlook (i := 1) ndN_nd rfl, _, rfl, _, rfl, Pl, _, rfl, SqL.of (X3.gh _ _ (X2.gg _ _ a2)), fun t1 ht1 => ?_⟩
    rw [cut_take]
    have s4 := Same.new (.lst ((refs as).take j)) ht1
    have X4 := X3.tmp (o := .lst ((refs as).take j)) ht1
    have d4 : upd H3 t1 (.lst ((refs as).take j)) t1 = some _ := upd_same
    have e4 := s4 _ _ e3
    have f4 := s4 _ _ f3
    have k4 := s4 _ _ k3
    generalize upd H3 t1 (.lst ((refs as).take j)) = H4 at *
    refine ⟨_, rfl, a, CN, dx, _, _, rfl, e4, O.cl, O.n 1, zlook (i := 1) ndN_nd rfl, _, rfl, _, _, rfl, rfl, _, rfl, Pl, _, rfl, SqL.of (X4.gh _ _ (X2.gg _ _ a2)), fun t2 ht2 => ?_⟩
    have hc : cutV (refs as) (some ((j : Int) + 1)) none = (refs as).drop (j + 1) := cut_drop (refs as) (j + 1)
    rw [hc]
    have s5 := Same.new (.lst ((refs as).drop (j + 1))) ht2
    have X5 := X4.tmp (o := .lst ((refs as).drop (j + 1))) ht2
    have d5 : upd H4 t2 (.lst ((refs as).drop (j + 1))) t2 = some _ := upd_same
    have d4' := s5 _ _ d4
    have e5 := s5 _ _ e4
    have f5 := s5 _ _ f4
    have k5 := s5 _ _ k4
    generalize upd H4 t2 (.lst ((refs as).drop (j + 1))) = H5 at *
    refine ⟨t1, t2, _, _, rfl, rfl, d4', d5, ?_, fun P2 hP2 => ?_⟩
    · exact Nat.le_of_lt (Nat.lt_of_le_of_lt (by simp; omega) (show 2000 < sizeLine by decide))
    have er : (refs as).take j ++ (refs as).drop (j + 1) = refs (as.eraseIdx j) := by rw [erase_td, refs_erase]
    rw [er]
    have s6 := Same.new (.lst (refs (as.eraseIdx j))) hP2
    have X6 := X5.new (o := .lst (refs (as.eraseIdx j))) hP2
    have g6 := Same.new (.lst (refs (as.eraseIdx j))) (X5.gh.free hP2)
    have d6 : upd G2 P2 (.lst (refs (as.eraseIdx j))) P2 = some _ := upd_same
    have e6 := s6 _ _ e5
    have f6 := s6 _ _ f5
    have k6 := s6 _ _ k5
    generalize upd H5 P2 (.lst (refs (as.eraseIdx j))) = H6 at *
    generalize upd G2 P2 (.lst (refs (as.eraseIdx j))) = G6 at *
    refine ⟨_, rfl, a, CN, dx, _, rfl, e6, O.cl, O.n 1, zlen _ _ (by decide), ?_⟩
    rw [zput (i := 1) ndN_nd rfl (by simp)]
    have ga6 := X6.out hN.ga a1
    have gg6 : Same G G6 := X6.gg
    refine ⟨_, rfl, q G6 _ lt (X6.wr (m := a) (.inl (by simp)) ga6) ⟨⟨dx, P2, as.eraseIdx j, upd_same, d6, Pas.mono gg6 (paired_eraseIdx j a3)⟩, ⟨_, (upd_ne nal.symm).trans f6, ?_⟩, ⟨kvt, (upd_ne nka).trans k6, c2⟩, ga6, X6.out hN.gl b1, X6.out hN.gk c1, hN.i3⟩ (hLt.mono g6)⟩
    exact paired_append (Paired.mapP b2 fun _ _ ⟨z1, r, z2, z3⟩ => ⟨z1, r, z2, z3.mono gg6⟩) (.cons ⟨rfl, lt, rfl, hLt.mono g6⟩ .nil)
end
end Sam
end
section
set_option Elab.async false
set_option linter.all false
set_option maxRecDepth 100000
set_option maxHeartbeats 1000000
namespace Sam
open PySem PySem.Spec PyProof.Rows L2
open C8 (pss_cut tCut call_isC InsC)
section
variable {P : Program} {w : World} {K : PySem.W.Frag} {mg : Str → Option Value} {base : Heap} {CE CN : Addr} {D : Kd} {T : Nat → Thing} {k : Nat}
/-! in of parts -/
theorem inV_pt {i : Nat} {l : List Nat} (hi : i < 4) (hl : ∀ j ∈ l, j < 4) : inV (.str (pNm i)) (ptV l) = decide (i ∈ l) := by
  unfold inV ptV
  rw [List.any_map]
  induction l with
  | nil => simp
  | cons x r ih =>
    rw [List.any_cons, ih fun j hj => hl j (List.mem_cons_of_mem _ hj)]
    have hx := hl x List.mem_cons_self
    have e : ((fun y => eqV y (V.str (pNm i))) ∘ fun i => V.str (pNm i)) x = decide (i = x) := by
      show (pNm x == pNm i) = _
      by_cases h : i = x
      · subst h; simp
      · have : ¬ pNm x = pNm i := fun z => h (pNm_inj hx hi z).symm
        simp [h, this]
    rw [e]
    simp
theorem flat_pt (l : List Nat) : (ptV l).all flatV = true := by
  simp [ptV, flatV]
/-! take -/
def tookNd (l : Let) (nd : Nd) : Nd := ⟨nd.pars ++ [l.par], nd.out, nd.sent, nd.known ++ [(l.snd, l.num)]⟩
def spTake (CN : Addr) (D : Kd) (T : Nat → Thing) (k : Nat) : Sp := fun vs H Q _ => ∃ (G : Hp) (a la ka l0 : Addr) (nd : Nd) (l : Let), vs = [.ref a, .ref l0] ∧ Same G H ∧ NdAt CN D T k G H a la ka l.rcv nd ∧ LeIs D T k G l0 l ∧ 
  ((l.snd, l.num) ∈ nd.known → ∀ H', Same H H' → Q (.bl false) H') ∧
  ((l.snd, l.num) ∉ nd.known → (nd.out.map (·.num)).Nodup ∧ (nd.out.length ≤ 1000 ∧ nd.pars.length ≤ 1000 ∧ (hereP nd).length ≤ 1000 ∧ nd.known.length ≤ 900) ∧ (∀ x ∈ hereP nd, x < 4) ∧ (∀ x ∈ l.par.ps, x ∉ hereP nd) ∧
    ∀ G' H', Ext [a, ka] G H G' H' → NdAt CN D T k G' H' a la ka l.rcv (tookNd l nd) → Q (.bl true) H')
abbrev N9 : List Str := ["self", "letter", "sender", "number", "receiver", "parcel", "here", "shared", "part"]
theorem scn9 : FnScope N9 ["self", "letter"] (defScope (nS 9)) := ⟨rfl, rfl, rfl, by decide +kernel, rfl, by decide +kernel, by decide +kernel⟩
theorem ok_take (B : Bn mg) (O : NCl K CN) (d : Dm K CN "take" "Node.take" (nS 9) ["self", "letter"]) (cT : Mt P w K mg base CN "has_taken" ["self", "sender", "number"] 1 (spTaken CN D T k)) (cH : Mt P w K mg base CN "here" ["self"] 1 (spHere CN D T k)) :
    Mt P w K mg base CN "take" ["self", "letter"] 2 (spTake CN D T k) := by
  refine d.ok scn9 (fun vs H Q E h => ?_) (fun f cdv A outer s0 H vs Q E hr h => ?_)
  · obtain ⟨G, a, la, ka, l0, nd, l, rfl, _⟩ := h
    rfl
  · obtain ⟨G, a, la, ka, l0, nd, l, rfl, hG, hN, hL, q1, q2⟩ := h
    obtain ⟨dx, Pl, as, a1, a2, a3⟩ := hN.ins
    obtain ⟨kvs, b1, b2⟩ := hN.lets
    obtain ⟨kvt, c1, c2, c3⟩ := hN.knw
    obtain ⟨pa, l1, hpa, l3, l4⟩ := hL
    obtain ⟨tp, sp, p1, p2, p3, p4⟩ := hpa
    have hu := hu_of hr
    have nd0 := scn9.nd
    refine ⟨_, pss_cons (ps_asg (pv 1) (pg_tup rfl (pgs_cons (pg_name (i := 2) nd0 rfl (Or.inl rfl)) (pgs_cons (pg_name (i := 3) nd0 rfl (Or.inl rfl)) (pgs_cons (pg_name (i := 4) nd0 rfl (Or.inl rfl)) (pgs_cons (pg_name (i := 5) nd0 rfl (Or.inl rfl)) pgs_nil))))))
      (pss_cons (ps_if (pt_cmpR op_ne (pv 4) (pe_fld (pv 0) rfl) (nomark _)) pss_never pss_nil)
      (pss_cons (ps_if (pt_val (pe_m cT O.cl hr (pv 0) (pa_cons (pv 2) (pa_cons (pv 3) pa_nil)))) (pss_one (ps_ret pe_bl)) pss_nil)
      (pss_cons (ps_set (i := 6) nd0 rfl (.inr rfl) (pe_m0 cH O.cl hr (pv 0)))
      (pss_cons (ps_setLc (i := 7) (own := [("part", 8)]) (g := gName 8) (by rfl) nd0 rfl rfl (sw_true rfl rfl rfl (by rfl)) (pi_tup (pe_ix ix_tup (pv 5) pe_int (fun _ _ => rfl)))
          (blkOk_by (own := [("part", 8)]) (N := N9) (sc := defScope (nS 9)) (by decide +kernel)) (fun _ _ _ _ _ => pg_name (i := 8) nd0 rfl (Or.inl rfl))
          (fun _ _ _ _ _ => pts_one (pt_cmpR (ko_in K) (pv 8) (pv 6) (by with_unfolding_all rfl))) (fun _ _ _ _ _ => pv 8))
      (pss_cons (ps_if (pt_cmpR op_gt (pe_callB call_len_seq (by rfl) B.len PySem.boot_len (pa_cons (pv 7) pa_nil)) pe_int (nomark _)) pss_never pss_nil)
      (pss_cons (ps_dput hu (pe_fld (pv 0) rfl) (pe_tup (pa_cons (pv 2) (pa_cons (pv 3) pa_nil))) pe_bl (by rfl))
      (pss_cons (ps_fld (pv 0) (pe_op op_cat (pe_fld (pv 0) rfl) (pe_lst (pa_cons (pv 5) pa_nil))) rfl)
      (pss_one (ps_ret pe_bl))))))))), ?_⟩
    have nal : a ≠ la := ne_of a1 b1 (by intro z; cases z)
    have nka : ka ≠ a := ne_of c1 a1 (by intro z; cases z)
    have nkl : ka ≠ la := ne_of c1 b1 (by intro z; cases z)
    refine ⟨_, rfl, l0, _, rfl, SqT.of (hG _ _ l1), rfl, _, _, rfl, _, _, rfl, _, _, rfl, _, _, rfl, rfl, ?_⟩
    refine ⟨_, rfl, _, rfl, a, CN, dx, _, _, rfl, a1, O.cl, O.n 0, zlook (i := 0) ndN_nd rfl, rfl, _, rfl, ite2 (fun z => absurd z (by simp)) fun _ => ?_⟩
    refine ⟨_, rfl, a, dx, _, rfl, a1, zlook_none (ns := ndN) (by decide) _, _, rfl, _, rfl, G, a, la, ka, l.rcv, nd, (l.snd, l.num), rfl, hG, hN, l3, fun H1 s1 => ⟨_, rfl, ite2 (fun z => ?_) fun z => ?_⟩⟩
    · exact q1 (of_decide_eq_true z) H1 s1
    have hnk : (l.snd, l.num) ∉ nd.known := fun z' => z (decide_eq_true z')
    obtain ⟨hnn, ⟨lo, lp, lh, lkn⟩, h4, hdis, q⟩ := q2 hnk
    have X1 : Ext [a, ka] G H G H1 := Ext.same hG s1
    have hN1 := hN.keep (ms := []) (Ext.same hG s1) (by simp) (by simp) (by simp)
    refine ⟨_, rfl, a, dx, _, rfl, s1 _ _ a1, zlook_none (ns := ndN) (by decide) _, G, a, la, ka, l.rcv, nd, rfl, X1.gh, hN1, hnn, ⟨lo, lp, lh⟩, fun hl H2 s2 d2 => ?_⟩
    have s12 := s1.trans s2
    -- shared
    refine ⟨_, rfl, pa, _, _, _, rfl, rfl, SqT.of (s12 _ _ (hG _ _ p1)), atI_nat (j := 0) rfl, tp, rfl, ⟨_, SqT.of (s12 _ _ (hG _ _ p2))⟩, fun D3 hD3 => walk_tup (K := K) (xs := ptV l.par.ps) (fun j H3 => H3 = upd H2 D3 (.lst [])) rfl ?_ ?_ ?_⟩
    · rintro j H3 _ rfl
      exact SqT.of (Same.new _ hD3 _ _ (s12 _ _ (hG _ _ p2)))
    · rintro j y H3 hy rfl
      rw [ptV, List.getElem?_map] at hy
      obtain ⟨x, hx, rfl⟩ := Option.map_eq_some_iff.mp hy
      have hm := List.mem_of_getElem? hx
      refine ⟨rfl, _, rfl, _, rfl, hl, _, rfl, .inl (SqL.of (Same.new _ hD3 _ _ d2)), rfl, flat_pt _, _, rfl, ?_⟩
      have hin : inV (V.str (pNm x)) (ptV (hereP nd)) = false := by
        rw [inV_pt (p4 x hm) h4]
        simp [hdis x hm]
      show if inV (V.str (pNm x)) (ptV (hereP nd)) = true then _ else _
      rw [hin]
      exact iteF rfl
    rintro H3 rfl
    have s3 := s12.trans (Same.new (.lst []) hD3)
    have d3 : upd H2 D3 (.lst []) D3 = some _ := upd_same
    generalize upd H2 D3 (.lst []) = H3 at *
    refine ⟨_, rfl, D3, [], rfl, .inl (SqL.of d3), _, _, rfl, rfl, _, rfl, ite2 (fun z => absurd z (by decide)) fun _ => ?_⟩
    -- self.known[sender, number] = True
    have X3 : Ext [a, ka] G H G H3 := Ext.same hG s3
    refine ⟨_, rfl, a, CN, dx, _, _, rfl, s3 _ _ a1, O.cl, O.n 4, zlook (i := 4) ndN_nd rfl, _, rfl, _, rfl, (by show 2 ≤ sizeLine; decide), fun t ht => ?_⟩
    have s4 := s3.trans (Same.new (.tup [.str (nN l.snd), .int (l.num : Int)]) ht)
    have X4 := X3.tmp (o := .tup [.str (nN l.snd), .int (l.num : Int)]) ht
    have d4 : upd H3 t (.tup [.str (nN l.snd), .int (l.num : Int)]) t = some _ := upd_same
    generalize upd H3 t (.tup [.str (nN l.snd), .int (l.num : Int)]) = H4 at *
    refine ⟨ka, _, rfl, DPut.t (k := knK (l.snd, l.num)) (s4 _ _ c1) d4 (small1000 (by omega)), ?_⟩
    have X5 := X4.wr (m := ka) (o := .dT (putK kvt (knK (l.snd, l.num)) (.bl true))) (.inl (by simp)) hN.gk
    have e5 : upd H4 ka (.dT (putK kvt (knK (l.snd, l.num)) (.bl true))) a = some _ := (upd_ne nka.symm).trans (s4 _ _ a1)
    have f5 : upd H4 ka (.dT (putK kvt (knK (l.snd, l.num)) (.bl true))) la = some _ := (upd_ne nkl.symm).trans (s4 _ _ b1)
    have k5 : upd H4 ka (.dT (putK kvt (knK (l.snd, l.num)) (.bl true))) ka = some _ := upd_same
    generalize upd H4 ka (.dT (putK kvt (knK (l.snd, l.num)) (.bl true))) = H5 at *
    refine ⟨_, rfl, a, CN, dx, _, _, rfl, e5, O.cl, O.n 1, zlook (i := 1) ndN_nd rfl, _, rfl, (by show 1 ≤ sizeLine; decide), fun t6 ht6 => ?_⟩
    have s6 := Same.new (.lst [V.ref pa]) ht6
    have X6 := X5.tmp (o := .lst [V.ref pa]) ht6
    have d6 : upd H5 t6 (.lst [V.ref pa]) t6 = some _ := upd_same
    have e6 := s6 _ _ e5
    have f6 := s6 _ _ f5
    have k6 := s6 _ _ k5
    generalize upd H5 t6 (.lst [V.ref pa]) = H6 at *
    have las := a3.length
    refine ⟨Pl, t6, _, _, rfl, rfl, X6.gh _ _ a2, d6, ?_, fun P2 hP2 => ?_⟩
    · exact Nat.le_of_lt (Nat.lt_of_le_of_lt (by simp; omega) (show 2000 < sizeLine by decide))
    have er : refs as ++ [V.ref pa] = refs (as ++ [pa]) := by simp [refs]
    rw [er]
    have s7 := Same.new (.lst (refs (as ++ [pa]))) hP2
    have X7 := X6.new (o := .lst (refs (as ++ [pa]))) hP2
    have d7 : upd G P2 (.lst (refs (as ++ [pa]))) P2 = some _ := upd_same
    have e7 := s7 _ _ e6
    have f7 := s7 _ _ f6
    have k7 := s7 _ _ k6
    generalize upd H6 P2 (.lst (refs (as ++ [pa]))) = H7 at *
    generalize upd G P2 (.lst (refs (as ++ [pa]))) = G7 at *
    refine ⟨_, rfl, a, CN, dx, _, rfl, e7, O.cl, O.n 1, zlen _ _ (by decide), ?_⟩
    rw [zput (i := 1) ndN_nd rfl (by simp)]
    have ga7 := X7.out hN.ga a1
    refine q G7 _ (X7.wr (m := a) (.inl (by simp)) ga7) ⟨⟨dx, P2, as ++ [pa], upd_same, d7, paired_append (Pas.mono X7.gg a3) (.cons (PaIs.mono X7.gg ⟨tp, sp, p1, p2, p3, p4⟩) .nil)⟩, ⟨kvs, (upd_ne nal.symm).trans f7, Paired.mapP b2 fun _ _ ⟨z1, r, z2, z3⟩ => ⟨z1, r, z2, z3.mono X7.gg⟩⟩,
      ⟨_, (upd_ne nka).trans k7, fun q hq => ?_, ?_⟩, ga7, X7.out hN.gl b1, X7.out hN.gk c1, hN.i3⟩
    · rw [valV_put]
      by_cases e : q = (l.snd, l.num)
      · subst e
        simp [tookNd]
      · have : ¬ knK q = knK (l.snd, l.num) := fun z => by
          apply e
          have h1 := List.cons.inj z
          have h2 := List.cons.inj h1.2
          have h3 := nN_inj hq l3 (Sum.inr.inj h1.1)
          have h4 := Sum.inl.inj h2.1
          exact Prod.ext h3 (by simp only at h4; omega)
        rw [if_neg this, c2 q hq]
        simp [tookNd, e]
    · have := length_putK kvt (knK (l.snd, l.num)) (.bl true)
      simp [tookNd]
      omega
end
end Sam
end
section
set_option Elab.async false
set_option linter.all false
set_option maxRecDepth 100000
set_option maxHeartbeats 1000000
namespace Sam
open PySem PySem.Spec PyProof.Rows L2
open C8 (pss_cut tCut call_isC InsC)
theorem walk_enum {K : PySem.W.Frag} {a : Addr} {xs : List V} {H4 : Hp} {Nx : Hp → Prop} {B : V → Hp → (Hp → Prop) → Prop} (Pv : Nat → Hp → Prop) (h0 : Pv 0 H4) (hl : ∀ i H, i ≤ xs.length → Pv i H → SqL K H a xs)
    (hs : ∀ i x H t, xs[i]? = some x → Pv i H → H t = none → B (.ref t) (upd H t (.tup [.int (i : Nat), x])) (Pv (i + 1))) (hd : ∀ H, Pv xs.length H → Nx H) :
    ∃ W1 : Nat → Nat → Hp → Prop, (∃ m, W1 0 m H4) ∧ ∀ j k H, W1 j k H → ((Ite K a).stop j H ∧ Nx H) ∨ ((Ite K a).go j H ∧ ∃ Nx1 : Hp → Prop, (∀ H', Nx1 H' → ∃ k', k' < k ∧ W1 (j + 1) k' H') ∧ ∀ x H', (Ite K a).yld j H x H' → B x H' Nx1) := by
  refine ⟨fun i m H => m = xs.length - i ∧ i ≤ xs.length ∧ Pv i H, ⟨xs.length, by simp, Nat.zero_le _, h0⟩, ?_⟩
  rintro i m H ⟨rfl, hi, p⟩
  have q := hl i H hi p
  by_cases hlt : i < xs.length
  · refine .inr ⟨⟨xs, xs[i], q, by simp [hlt]⟩, Pv (i + 1), fun H' p' => ⟨xs.length - (i + 1), by omega, rfl, hlt, p'⟩, fun x H' y => ?_⟩
    obtain ⟨t, x0, e1, e2, e3, y⟩ := y
    subst e1 e3
    exact hs i x0 H t (y xs q) p e2
  · have e : i = xs.length := by omega
    subst e
    exact .inl ⟨⟨xs, q, Nat.le_refl _⟩, hd H p⟩
theorem paired_rm {α β : Type} {F : α → β → Prop} (S : List Nat) {l : List α} {m : List β} (h : Paired F l m) : Paired F (rm S l) (rm S m) := by
  have key : ∀ n, n ≤ l.length → Paired F (rm S (l.take n)) (rm S (m.take n)) := by
    intro n
    induction n with
    | zero => intro _; simp [rm]; exact .nil
    | succ n ih =>
      intro hn
      have hx : l[n]? = some l[n] := List.getElem?_eq_getElem (by omega)
      obtain ⟨y, hy, hf⟩ := paired_get h hx
      rw [rm_take S hx, rm_take S hy]
      refine paired_append (ih (by omega)) ?_
      by_cases hc : S.contains n = true
      · rw [if_pos hc, if_pos hc]; exact .nil
      · rw [if_neg hc, if_neg hc]; exact .cons hf .nil
  have := key l.length (Nat.le_refl _)
  rw [List.take_length, h.length, List.take_length] at this
  exact this
theorem beq_cast (a b : Nat) : ((a : Int) == (b : Int)) = (b == a) := by
  by_cases h : a = b
  · subst h; simp
  · have h1 : (a : Int) ≠ (b : Int) := fun z => h (by omega)
    rw [beq_eq_false_iff_ne.mpr h1, beq_eq_false_iff_ne.mpr (Ne.symm h)]
theorem inV_two (n i j : Nat) : inV (.int (n : Int)) [.int (i : Int), .int (j : Int)] = [i, j].contains n := by
  unfold inV
  show ((i : Int) == (n : Int) || ((j : Int) == (n : Int) || false)) = (n == i || (n == j || false))
  rw [beq_cast, beq_cast]
section
variable {P : Program} {w : World} {K : PySem.W.Frag} {mg : Str → Option Value} {base : Heap} {CE CN : Addr} {D : Kd} {T : Nat → Thing} {k : Nat}
theorem nd_ex_ne {G H G' : Hp} {a la ka : Addr} {i : Nat} {nd : Nd} {X : DX} {x : ES} (hN : NdAt CN D T k G H a la ka i nd) (hE : DiAt K CE G' H X x) : (a ∉ X.ms) ∧ (la ∉ X.ms) ∧ (ka ∉ X.ms) := by
  obtain ⟨dx, Pl, as, a1, a2, a3⟩ := hN.ins
  obtain ⟨kvs, b1, b2⟩ := hN.lets
  obtain ⟨kvt, c1, c2, c3⟩ := hN.knw
  obtain ⟨c, e1, e2⟩ := hE.ins
  obtain ⟨ps, e3, e4⟩ := hE.path
  have n1 : a ≠ X.e := ne_of a1 e1 (by
    intro z
    have := (HO.ins.inj z).2.2
    have := congrArg List.length this
    simp [ndN, exF, exN] at this)
  have n2 : a ≠ X.Pa := ne_of a1 e3 (by intro z; cases z)
  have n3 : la ≠ X.e := ne_of b1 e1 (by intro z; cases z)
  have n4 : la ≠ X.Pa := ne_of b1 e3 (by intro z; cases z)
  have n5 : ka ≠ X.e := ne_of c1 e1 (by intro z; cases z)
  have n6 : ka ≠ X.Pa := ne_of c1 e3 (by intro z; cases z)
  simp [DX.ms, *]
def mgNd (i j : Nat) (nd : Nd) (p : Par) : Nd := ⟨rm [i, j] nd.pars ++ [p], nd.out, nd.sent, nd.known⟩
def spNMerge (K : PySem.W.Frag) (CE CN : Addr) (D : Kd) (T : Nat → Thing) (kd : Bool) (k : Nat) : Sp := fun vs H Q _ => ∃ (G : Hp) (a la ka : Addr) (ix i j : Nat) (X : DX) (nd : Nd) (p q : Par) (x : ES), vs = [.ref a, .int (i : Int), .int (j : Int), .ref X.e] ∧ Same G H ∧ NdAt CN D T k G H a la ka ix nd ∧ DiAt K CE G H X x ∧
  i ≠ j ∧ (nd.pars[i]? = some p ∧ nd.pars[j]? = some q) ∧ (Val (fun i => (T i).w) kd k p.smp ∧ Val (fun i => (T i).w) kd k q.smp) ∧ ApartP [p, q] ∧ (p.ps ≠ [] ∧ q.ps ≠ []) ∧ (mergedT T kd k p q).Run x ∧ nd.pars.length ≤ 1000 ∧
  ∀ G' H', Ext (a :: X.ms) G H G' H' → DiAt K CE G' H' X ((mergedT T kd k p q).exec x).2 → NdAt CN D T k G' H' a la ka ix (mgNd i j nd ((mergedT T kd k p q).exec x).1) → Q .non H'
abbrev N4 : List Str := ["self", "i", "j", "dice", "parcel", "number", "other"]
theorem scn4 : FnScope N4 ["self", "i", "j", "dice"] (defScope (nS 4)) := ⟨rfl, rfl, rfl, by decide +kernel, rfl, by decide +kernel, by decide +kernel⟩
theorem ok_nmerge {kd : Bool} (B : Bn mg) (O : NCl K CN) (d : Dm K CN "merge" "Node.merge" (nS 4) ["self", "i", "j", "dice"]) (cN : Mt P w K mg base CN "check_number" ["self", "number"] 1 (spNum CN D T k))
    (cM : Cl P w K mg base "merged" ["first", "second", "dice"] 5 (spMerged K CE D T kd k)) : Mt P w K mg base CN "merge" ["self", "i", "j", "dice"] 6 (spNMerge K CE CN D T kd k) := by
  refine d.ok scn4 (fun vs H Q E h => ?_) (fun f cdv A outer s0 H vs Q E hr h => ?_)
  · obtain ⟨G, a, la, ka, ix, i, j, X, nd, p, q, x, rfl, _⟩ := h
    rfl
  · obtain ⟨G, a, la, ka, ix, i, j, X, nd, p, q, x, rfl, hG, hN, hE, hij, ⟨hi, hj⟩, hv, hA, hne, hrun, lp, hq⟩ := h
    obtain ⟨dx, Pl, as, a1, a2, a3⟩ := hN.ins
    obtain ⟨n1, n2, n3⟩ := nd_ex_ne hN hE
    have hu := hu_of hr
    have nd0 := scn4.nd
    have las := a3.length
    refine ⟨_, pss_cons (ps_expr (pe_m cN O.cl hr (pv 0) (pa_cons (pv 1) pa_nil))) (pss_cons (ps_expr (pe_m cN O.cl hr (pv 0) (pa_cons (pv 2) pa_nil)))
      (pss_cons (ps_if (pt_cmpR op_eq (pv 1) (pv 2) (nomark _)) pss_never pss_nil)
      (pss_cons (ps_set (i := 4) nd0 rfl (.inl rfl) (pe_c cM hr (pa_cons (pe_ix ix_list (pe_fld (pv 0) rfl) (pv 1) (fun _ _ => rfl)) (pa_cons (pe_ix ix_list (pe_fld (pv 0) rfl) (pv 2) (fun _ _ => rfl)) (pa_cons (pv 3) pa_nil)))))
      (pss_one (ps_fld (pv 0) (pe_op op_cat (pe_lc (own := [("number", 5), ("other", 6)]) (g := gTup K 2 (gCons (gName 5) (gCons (gName 6) gNil))) (by rfl) nd0 (pi_enum rfl B.enumerate (pa_cons (pe_fld (pv 0) rfl) pa_nil))
          (blkOk_by (own := [("number", 5), ("other", 6)]) (N := N4) (sc := defScope (nS 4)) (by decide +kernel)) (fun _ _ _ _ _ => kg_tup K (by rfl) (pgs_cons (pg_name (i := 5) nd0 rfl (Or.inl rfl)) (pgs_cons (pg_name (i := 6) nd0 rfl (Or.inl rfl)) pgs_nil)))
          (fun _ _ _ _ _ => pts_one (pt_cmpR (ko_notIn K) (pv 5) (pe_tup (pa_cons (pv 1) (pa_cons (pv 2) pa_nil))) (by with_unfolding_all rfl))) (fun _ _ _ _ _ => pv 6)) (pe_lst (pa_cons (pv 4) pa_nil))) rfl))))), ?_⟩
    obtain ⟨pa, hpa, hpp⟩ := paired_get' a3 hi
    obtain ⟨qa, hqa, hqq⟩ := paired_get' a3 hj
    have hxi : (refs as)[i]? = some (.ref pa) := by rw [List.getElem?_map, hpa]; rfl
    have hxj : (refs as)[j]? = some (.ref qa) := by rw [List.getElem?_map, hqa]; rfl
    refine ⟨_, rfl, a, dx, _, rfl, a1, zlook_none (ns := ndN) (by decide) _, _, rfl, G, a, la, ka, ix, i, nd, rfl, hG, hN, (List.getElem?_eq_some_iff.mp hi).1, ?_⟩
    refine ⟨_, rfl, a, dx, _, rfl, a1, zlook_none (ns := ndN) (by decide) _, _, rfl, G, a, la, ka, ix, j, nd, rfl, hG, hN, (List.getElem?_eq_some_iff.mp hj).1, ?_⟩
    refine ⟨_, rfl, _, rfl, rfl, _, rfl, ite2 (fun z => ?_) fun _ => ?_⟩
    · exfalso
      have := V.int.inj (of_decide_eq_true z)
      omega
    refine ⟨_, rfl, a, CN, dx, _, _, rfl, a1, O.cl, O.n 1, zlook (i := 1) ndN_nd rfl, _, rfl, Pl, _, _, _, rfl, rfl, SqL.of (hG _ _ a2), atI_nat hxi, _, rfl, a, CN, dx, _, _, rfl, a1, O.cl, O.n 1, zlook (i := 1) ndN_nd rfl, _, rfl, Pl, _, _, _, rfl, rfl, SqL.of (hG _ _ a2), atI_nat hxj, _, rfl, ?_⟩
    refine ⟨G, pa, qa, X, p, q, x, rfl, hG, hpp, hqq, hE, hv, hA, hne, hrun, fun G1 H1 r X1 Dd1 hR => ?_⟩
    have X1' : Ext (a :: X.ms) G H G1 H1 := X1.mono fun b hb => List.mem_cons_of_mem _ hb
    have hN1 := hN.keep X1 n1 n2 n3
    have e1 := X1.kp _ _ a1 n1
    -- the comprehension
    refine ⟨_, rfl, a, CN, dx, _, _, rfl, e1, O.cl, O.n 1, zlook (i := 1) ndN_nd rfl, Pl, refs as, rfl, SqL.of (X1.gh _ _ (X1.gg _ _ a2)), fun D1 hD1 => walk_enum (K := K) (xs := refs as) (fun n H2 => Same H1 H2 ∧ H2 D1 = some (.lst (refs (rm [i, j] (as.take n))))) ⟨Same.new _ hD1, upd_same⟩ ?_ ?_ ?_⟩
    · rintro n H2 _ ⟨s2, _⟩
      exact SqL.of (s2 _ _ (X1.gh _ _ (X1.gg _ _ a2)))
    · rintro n y H2 t hy ⟨s2, d2⟩ ht
      rw [List.getElem?_map] at hy
      obtain ⟨b, hb, rfl⟩ := Option.map_eq_some_iff.mp hy
      have hn := (List.getElem?_eq_some_iff.mp hb).1
      have s3 := s2.trans (Same.new (.tup [V.int (n : Nat), .ref b]) ht)
      have d3 := Same.new (.tup [V.int (n : Nat), .ref b]) ht _ _ d2
      have t3 : upd H2 t (.tup [V.int (n : Nat), .ref b]) t = some _ := upd_same
      generalize upd H2 t (.tup [V.int (n : Nat), .ref b]) = H3 at *
      refine ⟨t, _, rfl, SqT.of t3, rfl, _, _, rfl, _, _, rfl, rfl, rfl, ?_⟩
      refine ⟨_, rfl, _, rfl, _, rfl, (by show 2 ≤ sizeLine; decide), fun u hu' => ?_⟩
      have s4 := s3.trans (Same.new (.tup [V.int (i : Int), .int (j : Int)]) hu')
      have d4 := Same.new (.tup [V.int (i : Int), .int (j : Int)]) hu' _ _ d3
      have u4 : upd H3 u (.tup [V.int (i : Int), .int (j : Int)]) u = some _ := upd_same
      generalize upd H3 u (.tup [V.int (i : Int), .int (j : Int)]) = H4 at *
      refine ⟨u, _, rfl, .inr (SqT.of u4), rfl, rfl, _, rfl, ?_⟩
      rw [inV_two, rm_take [i, j] hb]
      show if (!([i, j].contains n)) = true then _ else _
      by_cases hc : [i, j].contains n = true
      · rw [if_pos hc, List.append_nil, hc]
        exact iteF ⟨s4, d4⟩
      · have hc' : [i, j].contains n = false := by simpa using hc
        rw [if_neg hc, hc']
        refine iteT ⟨_, rfl, _, d4, small1000 ?_, s4.mut _ hD1, ?_⟩
        · have := rm_len [i, j] (as.take n)
          simp at this ⊢
          omega
        · rw [upd_same]; simp [refs]
    rintro H2 ⟨s2, d2⟩
    have e3 : as.take (refs as).length = as := by rw [List.take_of_length_le]; simp [refs]
    rw [e3] at d2
    have X2 := X1'.trans (Ext.same (ms := []) X1.gh s2) (by simp)
    refine ⟨_, rfl, (by show 1 ≤ sizeLine; decide), fun t3 ht3 => ?_⟩
    have s3 := s2.trans (Same.new (.lst [V.ref r]) ht3)
    have X3 := X2.tmp (o := .lst [V.ref r]) ht3
    have d3 : upd H2 t3 (.lst [V.ref r]) t3 = some _ := upd_same
    have d2' := Same.new (.lst [V.ref r]) ht3 _ _ d2
    generalize upd H2 t3 (.lst [V.ref r]) = H3 at *
    refine ⟨D1, t3, _, _, rfl, rfl, d2', d3, ?_, fun P2 hP2 => ?_⟩
    · have := rm_len [i, j] as
      exact Nat.le_of_lt (Nat.lt_of_le_of_lt (by simp; omega) (show 2000 < sizeLine by decide))
    have er : refs (rm [i, j] as) ++ [V.ref r] = refs (rm [i, j] as ++ [r]) := by simp [refs]
    rw [er]
    have s4 := s3.trans (Same.new (.lst (refs (rm [i, j] as ++ [r]))) hP2)
    have X4 := X3.new (o := .lst (refs (rm [i, j] as ++ [r]))) hP2
    have g4 := Same.new (.lst (refs (rm [i, j] as ++ [r]))) (X3.gh.free hP2)
    have d4 : upd G1 P2 (.lst (refs (rm [i, j] as ++ [r]))) P2 = some _ := upd_same
    generalize upd H3 P2 (.lst (refs (rm [i, j] as ++ [r]))) = H4 at *
    generalize upd G1 P2 (.lst (refs (rm [i, j] as ++ [r]))) = G4 at *
    refine ⟨_, rfl, a, CN, dx, _, rfl, s4 _ _ e1, O.cl, O.n 1, zlen _ _ (by decide), ?_⟩
    rw [zput (i := 1) ndN_nd rfl (by simp)]
    have ga4 := X4.out hN.ga a1
    obtain ⟨dx', Pl', as', _, _, _⟩ := hN1.ins
    obtain ⟨kvs, b1, b2⟩ := hN1.lets
    obtain ⟨kvt, c1, c2, c3⟩ := hN1.knw
    have nla : la ≠ a := (ne_of e1 b1 (by intro z; cases z)).symm
    have nka : ka ≠ a := ne_of c1 e1 (by intro z; cases z)
    have prm : Pas D T k G (rm [i, j] as) (rm [i, j] nd.pars) := paired_rm _ a3
    refine hq G4 _ (X4.wr (m := a) (.inl (by simp)) ga4) ?_ ⟨⟨dx, P2, _, upd_same, d4, paired_append (Pas.mono (X1.gg.trans g4) prm) (.cons (hR.mono g4) .nil)⟩, ⟨kvs, (upd_ne nla).trans (s4 _ _ b1), Paired.mapP b2 fun _ _ ⟨z1, r, z2, z3⟩ => ⟨z1, r, z2, z3.mono g4⟩⟩,
      ⟨kvt, (upd_ne nka).trans (s4 _ _ c1), c2, c3⟩, ga4, Ext.out X4 hN.gl (hN.lets.choose_spec.1), Ext.out X4 hN.gk (hN.knw.choose_spec.1), hN.i3⟩
    have E4 := ExAt.same (D := X) Dd1 hE X4 g4 s4
    exact E4.keep ((Ext.refl (ms := [a]) X4.gh).wr (m := a) (.inl (by simp)) ga4) (by simp; intro z; exact n1 (by simp [DX.ms, z])) (by simp; intro z; exact n1 (by simp [DX.ms, z]))
end
end Sam
end
section
set_option Elab.async false
set_option linter.all false
set_option maxRecDepth 100000
set_option maxHeartbeats 1000000
namespace Sam
open PySem PySem.Spec PyProof.Rows L2
section
variable {X : Cx}
/-- name = {..} on one line, the name a local -/
theorem ps_setDc {i : Nat} {y : Str} {py : Pos} {kx vx tg iter : Expr} {ifs : List Expr} {scope : Scope} {own : List (Str × Nat)} {pos spos : Pos} {wi : TI} {g : TG} {tt : TT} {tk tv : TE} (hc : X.calm = true) (hN : X.N.Nodup) (hy : X.N[i]? = some y) (hyl : X.env.scope.names.lookup y = some .local)
    (hsw : swapsWith (.DictComp kx vx [⟨tg, iter, ifs, 0⟩] scope pos) (some (.Name y py)) spos.line X.env = pure true) (hi : PI X tg iter wi) (ok : BlkOk X.N X.env.scope scope own)
    (hg : ∀ (s : Shared) (H : Hp) (C : Addr) (cl : List (Str × Addr)) (fp : List Addr), PG (X.blk s H scope (compEnvC scope cl C X.env) fp) tg g) (ht : ∀ (s : Shared) (H : Hp) (C : Addr) (cl : List (Str × Addr)) (fp : List Addr), PTs (X.blk s H scope (compEnvC scope cl C X.env) fp) ifs tt)
    (hk : ∀ (s : Shared) (H : Hp) (C : Addr) (cl : List (Str × Addr)) (fp : List Addr), PE (X.blk s H scope (compEnvC scope cl C X.env) fp) kx tk)
    (he : ∀ (s : Shared) (H : Hp) (C : Addr) (cl : List (Str × Addr)) (fp : List Addr), PE (X.blk s H scope (compEnvC scope cl C X.env) fp) vx tv) (hs : ∀ x, foldedSetIterable iter X.env x = pure x := by intro _; rfl) :
    PS X (.Assign [.Name y py] (.DictComp kx vx [⟨tg, iter, ifs, 0⟩] scope pos) spos) (tAsg (tDc wi g tt tk tv (own.map (·.2))) (gName i)) := by
  refine ⟨fun pins s σ H D I h => ?_⟩
  rw [exec_Assign_Name_used _ _ _ _ hsw]
  refine wpAny_bind (wpAny_standAt (wpAny_bind ?_))
  show wpAny _ X.A (do let _ ← comprehension (.DictComp kx vx [⟨tg, iter, ifs, 0⟩] scope pos) scope X.env (firstIterPos [⟨tg, iter, ifs, 0⟩] pos) newDict false (eval iter X.env) (some (assign (.Name y py) X.env))) _ _ s
  have h : tDc wi g tt tk tv (own.map (·.2)) σ H (fun x H1 => gName i x σ H1 D.nx) := h
  refine wpAny_bind (thn (dc_core (Qf := fun _ s' => SP X pins D .next s') hc hN I hi ok hg ht hk he hs h fun L C s' m H' I' q hn f => ?_) fun _ s' hq => wpAny_pure (wpAny_pure hq))
  show wpAny _ _ (assign (.Name y py) X.env (.ref L)) _ _ _
  refine wpAny_assign_Name (store_ok2 (v := V.ref L) I' hN hy (.inl hyl) rfl (fun s2 I2 ⟨a, sb, ha⟩ => ?_) (.inr hyl))
  obtain ⟨f0, f1, f2, f3, f4, f5⟩ := f
  have haC : C ≠ a := by
    rcases ha with z | z
    · rw [z]; exact f1
    · exact fun e => f4 y a z e.symm
  refine ⟨m, hn.sameBut sb haC, fun h3 sb3 => ?_⟩
  exact ⟨_, H', I2.turned (t' := s2.toks) (fun b o hb e => (sb3.2 b hb).trans e) f0 f1 f3 f4 f5, q⟩
theorem sw_trueD {kx vx : Expr} {gs : List Comprehension} {scope : Scope} {pos py : Pos} {y : Str} {l : Nat} {env : Env} (hk : env.scope.kind = .function) (hy : env.scope.names.lookup y = some .local) (hl : (py.line == pos.line) = true)
    (ha : (scope.names.any fun (n, k) => n == y && (k == .local || k == .cell)) = false) : swapsWith (.DictComp kx vx gs scope pos) (some (.Name y py)) l env = pure true := by
  have ky : env.kindOf y = some .local := hy
  have hb : env.blockKind = .function := by unfold Env.blockKind; rw [hk]; rfl
  unfold swapsWith
  simp only [hb, ky, ha, Expr.pos, hl]
  rfl
end
end Sam
end
section
set_option Elab.async false
set_option linter.all false
set_option maxRecDepth 100000
set_option maxHeartbeats 1000000
namespace Sam
open PySem PySem.Spec PyProof.Rows L2
open C8 (pss_cut tCut call_isC InsC)
/-! ### several nodes -/
structure NR where
  a : Addr
  la : Addr
  ka : Addr
  i : Nat
  nd : Nd
abbrev NrAt (CN : Addr) (D : Kd) (T : Nat → Thing) (k : Nat) (G H : Hp) (r : NR) : Prop := NdAt CN D T k G H r.a r.la r.ka r.i r.nd
/-- a letter of node i that the node it is for is not seen to have -/
def pendC (ns : List NR) (i : Nat) (l : Let) : Bool := match ns.find? (fun r => r.i == l.rcv) with
  | none => true
  | some r => !decide ((i, l.num) ∈ r.nd.known)
def nmK (ns : List NR) : List (Key × V) := ns.map fun r => (Sum.inr (nN r.i), V.ref r.a)
theorem nmK_val {rc : Nat} (hrc : rc < 3) : ∀ {ns : List NR}, (∀ r ∈ ns, r.i < 3) → valV (nmK ns) (Sum.inr (nN rc)) = (ns.find? fun r => r.i == rc).map fun r => V.ref r.a
  | [], _ => rfl
  | r :: t, h => by
    by_cases e : r.i = rc
    · have h1 : valV (nmK (r :: t)) (Sum.inr (nN rc)) = some (V.ref r.a) := valV_pos (by rw [← e])
      rw [h1, List.find?_cons_of_pos (by simp [e])]
      rfl
    · have h1 : valV (nmK (r :: t)) (Sum.inr (nN rc)) = valV (nmK t) (Sum.inr (nN rc)) := valV_neg fun z => e (nN_inj (h r List.mem_cons_self) hrc (Sum.inr.inj z))
      rw [h1, List.find?_cons_of_neg (by simp [e])]
      exact nmK_val hrc fun x hx => h x (List.mem_cons_of_mem _ hx)
theorem find_out {ls : List Let} (hn : (ls.map (·.num)).Nodup) {l : Let} (hl : l ∈ ls) : ls.find? (fun x => x.num == l.num) = some l := by
  induction ls with
  | nil => cases hl
  | cons y t ih =>
    rw [List.map_cons, List.nodup_cons] at hn
    rcases List.mem_cons.mp hl with rfl | hl'
    · rw [List.find?_cons_of_pos (by simp)]
    · have : ¬ y.num = l.num := fun z => hn.1 (z ▸ List.mem_map_of_mem hl')
      rw [List.find?_cons_of_neg (by simpa using this)]
      exact ih hn.2 hl'
theorem pend_perm {ls : List Let} (hn : (ls.map (·.num)).Nodup) (c : Let → Bool) : ((so (ls.map (·.num))).filterMap fun n => (ls.find? fun x => x.num == n).filter c).Perm (ls.filter c) := by
  refine ((so_perm (ls.map (·.num))).filterMap _).trans ?_
  rw [List.filterMap_map]
  have : ls.filterMap ((fun n => (ls.find? fun x => x.num == n).filter c) ∘ fun x => x.num) = ls.filterMap fun l => if c l = true then some l else none := by
    have key : ∀ t : List Let, (∀ l ∈ t, l ∈ ls) → t.filterMap ((fun n => (ls.find? fun x => x.num == n).filter c) ∘ fun x => x.num) = t.filterMap fun l => if c l = true then some l else none := by
      intro t ht
      induction t with
      | nil => rfl
      | cons l t ih =>
        have e : ((fun n => (ls.find? fun x => x.num == n).filter c) ∘ fun x => x.num) l = if c l = true then some l else none := by
          show (ls.find? fun x => x.num == l.num).filter c = _
          rw [find_out hn (ht l List.mem_cons_self)]
          rfl
        rw [List.filterMap_cons, List.filterMap_cons, e, ih fun x hx => ht x (List.mem_cons_of_mem _ hx)]
    exact key ls fun _ h => h
  rw [this]
  have h2 : ∀ l : List Let, l.filterMap (fun l => if c l = true then some l else none) = l.filter c := fun l => by
    induction l with
    | nil => rfl
    | cons x t ih =>
      by_cases h : c x = true
      · simp [h, ih]
      · simp [h, ih]
  rw [h2]
section
variable {P : Program} {w : World} {K : PySem.W.Frag} {mg : Str → Option Value} {base : Heap} {CE CN : Addr} {D : Kd} {T : Nat → Thing} {k : Nat}
def spPend (CN : Addr) (D : Kd) (T : Nat → Thing) (k : Nat) (K : PySem.W.Frag) : Sp := fun vs H Q _ => ∃ (G : Hp) (r : NR) (l : Addr) (ns : List NR), vs = [.ref r.a, .ref l] ∧ Same G H ∧ NrAt CN D T k G H r ∧ SqL K H l (refs (ns.map (·.a))) ∧ (∀ s ∈ ns, NrAt CN D T k G H s) ∧ (ns.map (·.i)).Nodup ∧
  ns.length ≤ 100 ∧ (r.nd.out.map (·.num)).Nodup ∧ r.nd.out.length ≤ 1000 ∧ ∀ H' f as ls, H f = none → Same H H' → H' f = some (.lst (refs as)) → Les D T k G as ls → ls.Perm (r.nd.out.filter (pendC ns r.i)) → Q (.ref f) H'
abbrev N11 : List Str := ["self", "nodes", "names", "found", "number", "receiver", "node"]
theorem scn11 : FnScope N11 ["self", "nodes"] (defScope (nS 11)) := ⟨rfl, rfl, rfl, by decide +kernel, rfl, by decide +kernel, by decide +kernel⟩
theorem ok_pend (B : Bn mg) (O : NCl K CN) (d : Dm K CN "pending" "Node.pending" (nS 11) ["self", "nodes"]) (cO : Mt P w K mg base CN "out" ["self"] 1 (spOut CN D T k)) (cT : Mt P w K mg base CN "has_taken" ["self", "sender", "number"] 1 (spTaken CN D T k)) :
    Mt P w K mg base CN "pending" ["self", "nodes"] 2 (spPend CN D T k K) := by
  refine d.ok scn11 (fun vs H Q E h => ?_) (fun f cdv A outer s0 H vs Q E hr h => ?_)
  · obtain ⟨G, r, l, ns, rfl, _⟩ := h
    rfl
  · obtain ⟨G, r, l, ns, rfl, hG, hN, hl, hns, hnd, hln, hnn, hlo, q⟩ := h
    obtain ⟨dx, Pl, as, a1, a2, a3⟩ := hN.ins
    obtain ⟨kvs, b1, b2⟩ := hN.lets
    have hu := hu_of hr
    have nd0 := scn11.nd
    have hi3 : ∀ s ∈ ns, s.i < 3 := fun s hs => (hns s hs).i3
    refine ⟨_, pss_cons (ps_setDc (i := 2) (own := [("node", 6)]) (g := gName 6) (by rfl) nd0 rfl rfl (sw_trueD rfl rfl rfl (by rfl)) (pi_list (pv 1))
          (blkOk_by (own := [("node", 6)]) (N := N11) (sc := defScope (nS 11)) (by decide +kernel)) (fun _ _ _ _ _ => pg_name (i := 6) nd0 rfl (Or.inl rfl))
          (fun _ _ _ _ _ => pts_nil) (fun _ _ _ _ _ => ke_fld K (pv 6)) (fun _ _ _ _ _ => pv 6))
      (pss_cons (ps_set (i := 3) nd0 rfl (.inl rfl) (pe_lst pa_nil))
      (pss_cons (ps_for PassesOwn.never rfl (pi_list (pe_m0 cO O.cl hr (pv 0))) (pg_name (i := 4) nd0 rfl (.inl rfl))
        (pss_cons (ps_set (i := 5) nd0 rfl (.inl rfl) (pe_ix ix_tup (pe_dget hu (pe_fld (pv 0) rfl) (pv 4) (fun _ _ => rfl)) pe_int (fun _ _ => rfl)))
        (pss_one (ps_if (PW.pt (pw_or (pt_cmp (pc_dnotin hu (pv 5) (pv 2)) (by with_unfolding_all rfl)) (pw_or1 (pt_not (pt_val (pe_m cT O.cl hr (pe_dget hu (pv 2) (pv 5) (fun _ _ => rfl)) (pa_cons (pe_fld (pv 0) rfl) (pa_cons (pv 4) pa_nil))))))))
          (pss_one (ps_expr (pe_bm PySem.F.plainAttrs_list PySem.F.slot_list_append PySem.F.type_list_append mt_append (pv 3) (pa_cons (pe_dget hu (pe_fld (pv 0) rfl) (pv 4) (fun _ _ => rfl)) pa_nil)))) pss_nil))))
      (pss_one (ps_ret (pv 3))))), ?_⟩
    -- names
    refine ⟨_, rfl, l, rfl, ⟨_, hl⟩, fun D1 hD1 => dc_list (K := K) (xs := refs (ns.map (·.a))) (fun i H2 => H2 = upd H D1 (.dK (nmK (ns.take i)))) rfl ?_ ?_ ?_⟩
    · rintro i H2 _ rfl
      exact (Same.new _ hD1).seq hl
    · rintro i x H2 hx rfl
      simp only [refs, List.map_map, List.getElem?_map] at hx
      obtain ⟨s, hs, rfl⟩ := Option.map_eq_some_iff.mp hx
      have hm := List.mem_of_getElem? hs
      have hi := (List.getElem?_eq_some_iff.mp hs).1
      obtain ⟨dx', Pl', as', s1, _, _⟩ := (hns s hm).ins
      refine ⟨rfl, yes_ok ?_⟩
      refine ⟨_, rfl, s.a, CN, dx', _, _, rfl, Same.new _ hD1 _ _ s1, O.cl, O.n 0, zlook (i := 0) ndN_nd rfl, _, rfl, _, Sum.inr (nN s.i), rfl, upd_same, small1000 (by simp [nmK]; omega), ?_⟩
      rw [upd_upd, List.take_add_one, hs, putK_new]
      · simp [nmK]
      · rw [nmK_val (hi3 s hm) fun y hy => hi3 y (List.mem_of_mem_take hy)]
        have : (ns.take i).find? (fun r => r.i == s.i) = none := by
          rw [List.find?_eq_none]
          intro y hy
          simp
          intro z
          have e : ns.map (·.i) = (ns.take i).map (·.i) ++ s.i :: (ns.drop (i + 1)).map (·.i) := by
            conv => lhs; rw [← List.take_append_drop i ns, List.drop_eq_getElem_cons hi]
            rw [(List.getElem?_eq_some_iff.mp hs).2]
            simp
          rw [e] at hnd
          exact (List.nodup_append.mp hnd).2.2 _ (List.mem_map_of_mem hy) _ List.mem_cons_self z
        rw [this]; rfl
    rintro H2 rfl
    have e1 : ns.take (refs (ns.map (·.a))).length = ns := by rw [List.take_of_length_le]; simp [refs]
    rw [e1]
    have s1 := Same.new (.dK (nmK ns)) hD1
    have d1 : upd H D1 (.dK (nmK ns)) D1 = some _ := upd_same
    generalize upd H D1 (.dK (nmK ns)) = H1 at *
    refine ⟨(by show 0 ≤ sizeLine; decide), fun fl hfl => ?_⟩
    have s2 := s1.trans (Same.new (.lst []) hfl)
    have d2 := Same.new (.lst []) hfl _ _ d1
    have f2 : upd H1 fl (.lst []) fl = some _ := upd_same
    have nDf := ne_of_none d1 hfl
    have hfl0 := s1.free hfl
    generalize upd H1 fl (.lst []) = H2 at *
    have hN2 := hN.keep (ms := []) (Ext.same hG s2) (by simp) (by simp) (by simp)
    refine ⟨_, rfl, r.a, dx, _, rfl, s2 _ _ a1, zlook_none (ns := ndN) (by decide) _, G, r.a, r.la, r.ka, r.i, r.nd, rfl, hG.trans s2, hN2, hlo, fun o ho => ?_⟩
    have s3 := s2.trans (Same.new (.lst (natV (so (r.nd.out.map (·.num))))) ho)
    have d3 := Same.new (.lst (natV (so (r.nd.out.map (·.num))))) ho _ _ d2
    have f3 := Same.new (.lst (natV (so (r.nd.out.map (·.num))))) ho _ _ f2
    have o3 : upd H2 o (.lst (natV (so (r.nd.out.map (·.num))))) o = some _ := upd_same
    have nof : o ≠ fl := (ne_of_none f2 ho).symm
    generalize upd H2 o (.lst (natV (so (r.nd.out.map (·.num))))) = H3 at *
    refine ⟨o, rfl, ⟨_, SqL.of o3⟩, for_list (K := K) (xs := natV (so (r.nd.out.map (·.num)))) (fun i σ H4 => ∃ v4 v5 us, σ = [some (.ref r.a), some (.ref l), some (.ref D1), some (.ref fl), v4, v5, none] ∧ Same H H4 ∧ H4 D1 = some (.dK (nmK ns)) ∧ H4 o = some (.lst (natV (so (r.nd.out.map (·.num))))) ∧
        H4 fl = some (.lst (refs us)) ∧ us.length ≤ i ∧ Les D T k G us (((so (r.nd.out.map (·.num))).take i).filterMap fun n => (r.nd.out.find? fun x => x.num == n).filter (pendC ns r.i)))
      ⟨none, none, [], rfl, s3, d3, o3, f3, by simp, by simp; exact .nil⟩ ?_ ?_ ?_⟩
    · rintro i σ H4 _ ⟨_, _, _, _, _, _, o4, _⟩
      exact SqL.of o4
    · rintro i x σ H4 hx ⟨v4, v5, us, rfl, s4, d4, o4, f4, lu, hu4⟩
      rw [natV, List.getElem?_map] at hx
      obtain ⟨n, hn, rfl⟩ := Option.map_eq_some_iff.mp hx
      have hm : n ∈ r.nd.out.map (·.num) := so_mem_iff.mp (List.mem_of_getElem? hn)
      have hi : i < 1000 := by
        have h1 := (List.getElem?_eq_some_iff.mp hn).1
        have h2 := (so_perm (r.nd.out.map (·.num))).length_eq
        simp at h2
        omega
      obtain ⟨lt, hlt, rfl⟩ := List.mem_map.mp hm
      obtain ⟨rf, v1, p, p1, p2, p3, p4⟩ := lets_val b2 hnn hlt
      have hfo := find_out hnn hlt
      have hg : DGet H4 r.la (.int (lt.num : Int)) (some (.ref rf)) := by
        have := DGet.k (k := lnK lt) (s4 _ _ b1)
        rw [v1] at this
        exact this
      have htk : ((so (r.nd.out.map (·.num))).take (i + 1)).filterMap (fun n => (r.nd.out.find? fun x => x.num == n).filter (pendC ns r.i)) = (((so (r.nd.out.map (·.num))).take i).filterMap fun n => (r.nd.out.find? fun x => x.num == n).filter (pendC ns r.i)) ++ (if pendC ns r.i lt = true then [lt] else []) := by
        rw [List.take_add_one, hn, List.filterMap_append]
        congr 1
        simp only [Option.toList, List.filterMap_cons, List.filterMap_nil]
        rw [hfo]
        by_cases h : pendC ns r.i lt = true
        · simp [Option.filter, h]
        · simp [Option.filter, h]
      refine ⟨_, rfl, r.a, CN, dx, _, _, rfl, s4 _ _ a1, O.cl, O.n 2, zlook (i := 2) ndN_nd rfl, _, rfl, r.la, .ref rf, rfl, hg, rf, _, _, _, rfl, rfl, SqT.of (s4 _ _ (hG _ _ p1)), atI_nat (j := 2) rfl, ?_⟩
      refine ⟨_, rfl, _, rfl, D1, _, rfl, DGet.k (k := Sum.inr (nN lt.rcv)) d4, _, rfl, ?_⟩
      have yes : ∀ v5 H5, Same H H5 → H5 D1 = some (.dK (nmK ns)) → H5 o = some (.lst (natV (so (r.nd.out.map (·.num))))) → H5 fl = some (.lst (refs us)) → pendC ns r.i lt = true →
          tDrop (tBM K "list" rAppend (tVar 3) (tCons (tDGet (tFld K (tVar 0) "letters") (tVar 4)) tNil)) { nx := fun σ H4 => (∃ v4 v5 us, σ = [some (.ref r.a), some (.ref l), some (.ref D1), some (.ref fl), v4, v5, none] ∧ Same H H4 ∧ H4 D1 = some (.dK (nmK ns)) ∧ H4 o = some (.lst (natV (so (r.nd.out.map (·.num))))) ∧
            H4 fl = some (.lst (refs us)) ∧ us.length ≤ i + 1 ∧ Les D T k G us (((so (r.nd.out.map (·.num))).take (i + 1)).filterMap fun n => (r.nd.out.find? fun x => x.num == n).filter (pendC ns r.i))), rt := Q } [some (.ref r.a), some (.ref l), some (.ref D1), some (.ref fl), some (.int (lt.num : Int)), v5, none] H5 := by
        intro v5 H5 s5 d5 o5 f5 hp
        refine ⟨_, rfl, .inl ⟨rfl, _, SqL.of f5⟩, ?_⟩
        have hg5 : DGet H5 r.la (.int (lt.num : Int)) (some (.ref rf)) := by
          have := DGet.k (k := lnK lt) (s5 _ _ b1)
          rw [v1] at this
          exact this
        refine ⟨_, rfl, r.a, CN, dx, _, _, rfl, s5 _ _ a1, O.cl, O.n 2, zlook (i := 2) ndN_nd rfl, _, rfl, r.la, .ref rf, rfl, hg5, fl, _, _, rfl, rfl, f5, small1000 (by simp; omega), _, v5, us ++ [rf], rfl, s5.mut _ hfl0, (upd_ne nDf).trans d5, (upd_ne nof).trans o5, ?_, ?_, ?_⟩
        · rw [upd_same]; simp [refs]
        · simp; omega
        · rw [htk, if_pos hp]
          exact paired_append hu4 (.cons ⟨p, p1, p2, p3, p4⟩ .nil)
      rw [nmK_val p4 hi3]
      cases hfind : ns.find? (fun r => r.i == lt.rcv) with
      | none =>
        have hp : pendC ns r.i lt = true := by
          unfold pendC; rw [hfind]
        refine iteT ?_
        exact yes _ H4 s4 d4 o4 f4 hp
      | some s =>
        have hsm := List.mem_of_find?_eq_some hfind
        obtain ⟨dx', Pl', as', t1, _, _⟩ := (hns s hsm).ins
        refine iteF ?_
        refine ⟨_, rfl, _, rfl, D1, .ref s.a, rfl, ?_, s.a, dx', _, rfl, s4 _ _ t1, zlook_none (ns := ndN) (by decide) _, _, rfl, r.a, CN, dx, _, _, rfl, s4 _ _ a1, O.cl, O.n 0, zlook (i := 0) ndN_nd rfl, _, rfl, ?_⟩
        · have := DGet.k (k := Sum.inr (nN lt.rcv)) d4
          rw [nmK_val p4 hi3, hfind] at this
          exact this
        refine ⟨G, s.a, s.la, s.ka, s.i, s.nd, (r.i, lt.num), rfl, hG.trans s4, (hns s hsm).keep (ms := []) (Ext.same hG s4) (by simp) (by simp) (by simp), hN.i3, fun H5 s5 => ⟨_, rfl, ?_⟩⟩
        have hp : pendC ns r.i lt = !decide ((r.i, lt.num) ∈ s.nd.known) := by
          unfold pendC; rw [hfind]
        by_cases hk : (r.i, lt.num) ∈ s.nd.known
        · rw [decide_eq_true hk] at hp ⊢
          refine iteF ⟨_, _, us, rfl, s4.trans s5, s5 _ _ d4, s5 _ _ o4, s5 _ _ f4, by omega, ?_⟩
          rw [htk, if_neg (by rw [hp]; decide), List.append_nil]
          exact hu4
        · rw [decide_eq_false hk] at hp ⊢
          refine iteT ?_
          exact yes _ H5 (s4.trans s5) (s5 _ _ d4) (s5 _ _ o4) (s5 _ _ f4) hp
    · rintro σ H4 ⟨v4, v5, us, rfl, s4, d4, o4, f4, lu, hu4⟩
      refine ⟨_, rfl, q H4 fl us _ hfl0 s4 f4 hu4 ?_⟩
      have : (so (r.nd.out.map (·.num))).take (natV (so (r.nd.out.map (·.num)))).length = so (r.nd.out.map (·.num)) := by rw [List.take_of_length_le]; simp [natV]
      rw [this]
      exact pend_perm hnn _
end
end Sam
end
section
set_option Elab.async false
set_option linter.all false
set_option maxRecDepth 100000
set_option maxHeartbeats 1000000
namespace Sam
open PySem PySem.Spec PyProof.Rows L2
open C8 (pss_cut tCut call_isC InsC)
/-- rows (part, .., ..) -/
def CtIs (H : Hp) (a : Addr) (i : Nat) : Prop := i < 4 ∧ ∃ s t, H a = some (.tup [.str (pNm i), .str s, .str t])
abbrev Cts (H : Hp) (as : List Addr) (is : List Nat) : Prop := Paired (CtIs H) as is
theorem CtIs.mono {H H' : Hp} {a : Addr} {i : Nat} (s : ∀ b xs, H b = some (.tup xs) → H' b = some (.tup xs)) (h : CtIs H a i) : CtIs H' a i :=
  let ⟨h1, x, y, h2⟩ := h
  ⟨h1, x, y, s _ _ h2⟩
theorem so_of_sorted {l m : List Nat} (hp : l.Perm m) (hs : l.Pairwise (· ≤ ·)) : l = so m := by
  have h1 : (so m).Pairwise (fun a b => decide (a ≤ b) = true) := List.pairwise_mergeSort (fun a b c => by simp; omega) (fun a b => by simp; omega) m
  refine List.Perm.eq_of_pairwise (le := fun a b => a ≤ b) (fun a b _ _ h1 h2 => by omega) hs (h1.imp fun h => by simpa using h) (hp.trans (so_perm m).symm)
theorem so_congr {l m : List Nat} (hp : l.Perm m) : so l = so m := by
  have h1 : (so l).Pairwise (fun a b => decide (a ≤ b) = true) := List.pairwise_mergeSort (fun a b c => by simp; omega) (fun a b => by simp; omega) l
  exact so_of_sorted ((so_perm l).trans hp) (h1.imp fun h => by simpa using h)
def ctD (i : Nat) (s t : Str) : PyData := .tuple [.str (pNm i), .str s, .str t]
theorem le_ct {i j : Nat} (hi : i < 4) (hj : j < 4) (s t s' t' : Str) (h : (!PySem.W.dataLt (ctD j s' t') (ctD i s t)) = true) : i ≤ j := by
  by_cases e : j < i
  · exfalso
    unfold ctD at h
    rw [PySem.W.dataLt_tuple, PySem.W.dataLt_cons (by simp [PySem.W.alike])] at h
    have : PyData.eqv (.str (pNm j)) (.str (pNm i)) = false := by
      have hn : ¬ pNm j = pNm i := fun z => by have := pNm_inj hj hi z; omega
      simp [PyData.eqv, hn]
    rw [this, if_neg (by decide), PySem.W.dataLt_str] at h
    have h2 := pNm_lt4 ⟨j, hj⟩ ⟨i, hi⟩
    simp only at h2
    rw [h2] at h
    simp [e] at h
  · omega
theorem zok_ct {K : PySem.W.Frag} {H : Hp} {as : List Addr} {is : List Nat} (h : Cts H as is) (hl : is.length ≤ 1000) : ∃ zs as', zs.map Prod.fst = refs as ∧ ZOk K H zs ∧ (srtD zs).map Prod.fst = refs as' ∧ Cts H as' (so is) := by
  have key : ∀ (as : List Addr) (is : List Nat), Cts H as is → ∃ L : List (Addr × Nat × Str × Str), as = L.map Prod.fst ∧ is = L.map (fun p => p.2.1) ∧ ∀ p ∈ L, p.2.1 < 4 ∧ H p.1 = some (.tup [.str (pNm p.2.1), .str p.2.2.1, .str p.2.2.2]) := by
    intro rs is h
    induction h with
    | nil => exact ⟨[], rfl, rfl, fun p hp => by simp at hp⟩
    | @cons a b l m r t ih =>
      obtain ⟨L, rfl, rfl, h3⟩ := ih
      obtain ⟨hb, x, y, hxy⟩ := r
      exact ⟨(a, b, x, y) :: L, rfl, rfl, fun p hp => by
        rcases List.mem_cons.mp hp with rfl | hp
        · exact ⟨hb, hxy⟩
        · exact h3 p hp⟩
  have back : ∀ L : List (Addr × Nat × Str × Str), (∀ p ∈ L, p.2.1 < 4 ∧ H p.1 = some (.tup [.str (pNm p.2.1), .str p.2.2.1, .str p.2.2.2])) → Cts H (L.map Prod.fst) (L.map fun p => p.2.1) := by
    intro L hL
    induction L with
    | nil => exact .nil
    | cons p r ih => exact .cons ⟨(hL p List.mem_cons_self).1, _, _, (hL p List.mem_cons_self).2⟩ (ih fun q hq => hL q (List.mem_cons_of_mem _ hq))
  obtain ⟨L, rfl, rfl, hL⟩ := key as is h
  rw [List.length_map] at hl
  let f : Addr × Nat × Str × Str → V × PyData := fun p => (V.ref p.1, ctD p.2.1 p.2.2.1 p.2.2.2)
  let le : Addr × Nat × Str × Str → Addr × Nat × Str × Str → Bool := fun p q => !PySem.W.dataLt (ctD q.2.1 q.2.2.1 q.2.2.2) (ctD p.2.1 p.2.2.1 p.2.2.2)
  have es : srtD (L.map f) = (L.mergeSort le).map f := by
    unfold srtD
    rw [List.map_mergeSort]
    intro a _ b _
    rfl
  have hp : ∀ p ∈ L.mergeSort le, p.2.1 < 4 ∧ H p.1 = some (.tup [.str (pNm p.2.1), .str p.2.2.1, .str p.2.2.2]) := fun p hp => hL p ((List.mergeSort_perm L _).subset hp)
  have tt := PySem.W.sortLe_total (PyProof.Rows.listOrd PyProof.Rows.itemOrd) false (fun p : Addr × Nat × Str × Str => PySem.W.keyToks (ctD p.2.1 p.2.2.1 p.2.2.2))
  have srt : (L.mergeSort le).Pairwise fun a b => le a b = true := List.pairwise_mergeSort (fun a b c => tt.trans a b c) (fun a b => by
    have := tt.total a b
    simp only [Bool.or_eq_true]
    exact this) L
  refine ⟨L.map f, (L.mergeSort le).map Prod.fst, by simp [refs, f], ⟨?_, ?_, ?_, ?_, ?_⟩, ?_, ?_⟩
  · intro z hz
    obtain ⟨p, hp, rfl⟩ := List.mem_map.mp hz
    exact .tup (SqT.of (hL p hp).2) (.cons (.str _) (.cons (.str _) (.cons (.str _) .nil)))
  · intro d hd d' hd'
    simp only [List.map_map, List.mem_map] at hd hd'
    obtain ⟨p, _, rfl⟩ := hd
    obtain ⟨q, _, rfl⟩ := hd'
    simp [f, ctD, PySem.W.alike, PySem.W.alikeAll]
  · refine .inl fun d hd => ?_
    simp only [List.map_map, List.mem_map] at hd
    obtain ⟨p, _, rfl⟩ := hd
    exact ⟨_, _, rfl⟩
  · rw [List.length_map]
    exact Nat.le_of_lt (small1000 (by omega))
  · intro z hz
    obtain ⟨p, hp, rfl⟩ := List.mem_map.mp hz
    simp [f, ctD, PyData.depth, PyData.depthAll]
  · rw [es]; simp [refs, f]
  · have := back _ hp
    have e2 : (L.mergeSort le).map (fun p => p.2.1) = so (L.map fun p => p.2.1) := by
      refine so_of_sorted ((List.mergeSort_perm L le).map _) ?_
      rw [List.pairwise_map]
      have : ∀ M : List (Addr × Nat × Str × Str), (∀ p ∈ M, p.2.1 < 4) → M.Pairwise (fun a b => le a b = true) → M.Pairwise fun a b => a.2.1 ≤ b.2.1 := by
        intro M hM hs
        induction hs with
        | nil => exact .nil
        | @cons a l h1 h2 ih =>
          refine .cons (fun b hb => ?_) (ih fun p hp => hM p (List.mem_cons_of_mem _ hp))
          exact le_ct (hM a List.mem_cons_self) (hM b (List.mem_cons_of_mem _ hb)) _ _ _ _ (h1 b hb)
      exact this _ (fun p hp' => (hp p hp').1) srt
    rw [e2] at this
    exact this
end Sam
end
section
set_option Elab.async false
set_option linter.all false
set_option maxRecDepth 100000
set_option maxHeartbeats 1000000
namespace Sam
open PySem PySem.Spec PyProof.Rows L2
open C8 (pss_cut tCut call_isC InsC)
section
variable {P : Program} {w : World} {K : PySem.W.Frag} {mg : Str → Option Value} {base : Heap} {CE CN : Addr} {D : Kd} {T : Nat → Thing} {k : Nat}
/-- all but the object at f stands -/
def SameBut (f : Addr) (H H' : Hp) : Prop := ∀ b o, b ≠ f → H b = some o → H' b = some o
/-- found.extend([(part, text, node.name) for part in ..]) -/
theorem ext_ok (O : NCl K CN) {H : Hp} {l fl na tp dx : Addr} {fs : List (Str × V)} {us : List Addr} {ps : List Nat} {s t : Str} {v3 v4 v5 : Option V} {tE : TE} {De : Ends} (hf : H fl = some (.lst (refs us))) (hn : H na = some (.ins CN dx fs)) (hnm : fs.lookup ("name" : Str) = some (V.str t))
    (hE : ∀ R : VK, R (.ref tp) H → tE [some (.ref l), some (.ref fl), some (.ref na), v3, v4, v5, none] H R) (htp : SqT K H tp (ptV ps)) (h4 : ∀ i ∈ ps, i < 4) (hl : us.length + ps.length ≤ 1000)
    (q : ∀ H' us', SameBut fl H H' → H' fl = some (.lst (refs (us ++ us'))) → Cts H' us' ps → De.nx [some (.ref l), some (.ref fl), some (.ref na), v3, v4, v5, none] H') :
    tDrop (tBM K "list" rExtend (tVar 1) (tCons (tLc (iTup K tE) (gName 6) tYes (tTup (tCons (tVar 6) (tCons (tC (.str s)) (tCons (tFld K (tVar 2) "name") tNil)))) [6]) tNil)) De [some (.ref l), some (.ref fl), some (.ref na), v3, v4, v5, none] H := by
  refine ⟨_, rfl, .inl ⟨rfl, _, SqL.of hf⟩, hE _ ⟨tp, rfl, ⟨_, htp⟩, fun D1 hD1 => walk_tup (K := K) (xs := ptV ps) (fun j H2 => ∃ us', Same H H2 ∧ H2 D1 = some (.lst (refs us')) ∧ us'.length = j ∧ Cts H2 us' (ps.take j)) ⟨[], Same.new _ hD1, upd_same, rfl, .nil⟩ ?_ ?_ ?_⟩⟩
  · rintro j H2 _ ⟨us', s2, _⟩
    exact s2.seqT htp
  · rintro j y H2 hy ⟨us', s2, d2, lu, hu⟩
    rw [ptV, List.getElem?_map] at hy
    obtain ⟨x, hx, rfl⟩ := Option.map_eq_some_iff.mp hy
    have hj := (List.getElem?_eq_some_iff.mp hx).1
    refine ⟨rfl, yes_ok ?_⟩
    refine ⟨_, rfl, _, rfl, na, CN, dx, _, _, rfl, s2 _ _ hn, O.cl, O.n 0, hnm, (by show 3 ≤ sizeLine; decide), fun u hu' => ?_⟩
    have s3 := s2.trans (Same.new (.tup [.str (pNm x), .str s, .str t]) hu')
    have k3 := Same.new (.tup [.str (pNm x), .str s, .str t]) hu'
    have u3 : upd H2 u (.tup [.str (pNm x), .str s, .str t]) u = some _ := upd_same
    have d3 := k3 _ _ d2
    generalize upd H2 u (.tup [.str (pNm x), .str s, .str t]) = H3 at *
    have nuD : u ≠ D1 := ne_of u3 d3 (by intro z; cases z)
    refine ⟨_, d3, small1000 (by simp; omega), us' ++ [u], s3.mut _ hD1, by rw [upd_same]; simp [refs], by simp [lu], ?_⟩
    rw [List.take_add_one, hx]
    have tk : ∀ b xs, H2 b = some (.tup xs) → upd H3 D1 (.lst (refs us' ++ [.ref u])) b = some (.tup xs) := fun b xs e => by
      have e3 := k3 _ _ e
      rw [upd_ne (ne_of e3 d3 (by intro z; cases z))]; exact e3
    exact paired_append (Paired.mapP hu fun _ _ z => z.mono tk) (.cons ⟨h4 x (List.mem_of_getElem? hx), s, t, (upd_ne nuD).trans u3⟩ .nil)
  · rintro H2 ⟨us', s2, d2, lu, hu⟩
    have e : ps.take (ptV ps).length = ps := by rw [List.take_of_length_le]; simp [ptV]
    rw [e] at hu
    have lu2 : us'.length = ps.length := by rw [lu]; simp [ptV]
    refine ⟨fl, D1, _, _, rfl, rfl, s2 _ _ hf, d2, ?_, q _ us' (fun b o hb e => (upd_ne hb).trans (s2 _ _ e)) ?_ ?_⟩
    · exact Nat.le_of_lt (small1000 (by simp; omega))
    · rw [upd_same]; simp [refs]
    · have f2 := s2 _ _ hf
      refine Paired.mapP hu fun _ _ z => z.mono fun b xs e => ?_
      rw [upd_ne (ne_of e f2 (by intro z; cases z))]; exact e
/-- what a node counts -/
def cntP (ns : List NR) (r : NR) : List Nat := r.nd.pars.flatMap (·.ps) ++ (r.nd.out.filter (pendC ns r.i)).flatMap (·.par.ps)
def spCount (CN : Addr) (D : Kd) (T : Nat → Thing) (k : Nat) (K : PySem.W.Frag) : Sp := fun vs H Q _ => ∃ (G : Hp) (l : Addr) (ns : List NR), vs = [.ref l] ∧ Same G H ∧ SqL K H l (refs (ns.map (·.a))) ∧ (∀ s ∈ ns, NrAt CN D T k G H s) ∧ (ns.map (·.i)).Nodup ∧
  ns.length ≤ 100 ∧ (∀ r ∈ ns, (r.nd.out.map (·.num)).Nodup ∧ r.nd.out.length ≤ 1000) ∧ (ns.flatMap (cntP ns)).length ≤ 1000 ∧ ∀ H' f as, Same H H' → H' f = some (.lst (refs as)) → Cts H' as (so (ns.flatMap (cntP ns))) → Q (.ref f) H'
abbrev N21 : List Str := ["nodes", "found", "node", "parts", "_", "letter", "part"]
theorem sc21 : FnScope N21 ["nodes"] (defScope (top 21)) := ⟨rfl, rfl, rfl, by decide +kernel, rfl, by decide +kernel, by decide +kernel⟩
theorem perm_flatMap {α β : Type} {l m : List α} (h : l.Perm m) (f : α → List β) : (l.flatMap f).Perm (m.flatMap f) := h.flatMap_right f
theorem ok_counted (B : Bn mg) (O : NCl K CN) (d : Df K mg "counted" (top 21) ["nodes"]) (cH : Mt P w K mg base CN "held" ["self"] 1 (spHeld CN D T k)) (cP : Mt P w K mg base CN "pending" ["self", "nodes"] 2 (spPend CN D T k K)) :
    Cl P w K mg base "counted" ["nodes"] 3 (spCount CN D T k K) := by
  refine d.ok sc21 (fun vs H Q E h => ?_) (fun f cdv A outer s0 H vs Q E hr h => ?_)
  · obtain ⟨G, l, ns, rfl, _⟩ := h
    rfl
  · obtain ⟨G, l, ns, rfl, hG, hl, hns, hnd, hln, hout, htot, q⟩ := h
    have nd0 := sc21.nd
    have hu := hr.units
    refine ⟨_, pss_cons (ps_set (i := 1) nd0 rfl (.inl rfl) (pe_lst pa_nil))
      (pss_cons (ps_for PassesOwn.never rfl (pi_list (pv 0)) (pg_name (i := 2) nd0 rfl (.inr rfl))
        (pss_cons (ps_for PassesOwn.never rfl (pi_list (pe_m0 cH O.cl hr (pv 2))) (pg_tup rfl (pgs_cons (pg_name (i := 3) nd0 rfl (Or.inl rfl)) (pgs_cons (pg_name (i := 4) nd0 rfl (Or.inl rfl)) pgs_nil)))
          (pss_one (ps_expr (pe_bm PySem.F.plainAttrs_list PySem.F.slot_list_extend PySem.F.type_list_extend mt_extend (pv 1) (pa_cons (pe_lc (own := [("part", 6)]) (g := gName 6) (by rfl) nd0 (pi_tup (pv 3))
            (blkOk_by (own := [("part", 6)]) (N := N21) (sc := defScope (top 21)) (by decide +kernel)) (fun _ _ _ _ _ => pg_name (i := 6) nd0 rfl (Or.inl rfl))
            (fun _ _ _ _ _ => pts_nil) (fun _ _ _ _ _ => pe_tup (pa_cons (pv 6) (pa_cons pe_str (pa_cons (ke_fld K (pv 2)) pa_nil))))) pa_nil)))))
        (pss_one (ps_for PassesOwn.never rfl (pi_list (pe_m cP O.cl hr (pv 2) (pa_cons (pv 0) pa_nil))) (pg_name (i := 5) nd0 rfl (.inl rfl))
          (pss_one (ps_expr (pe_bm PySem.F.plainAttrs_list PySem.F.slot_list_extend PySem.F.type_list_extend mt_extend (pv 1) (pa_cons (pe_lc (own := [("part", 6)]) (g := gName 6) (by rfl) nd0 (pi_tup (pe_ix ix_tup (pe_ix ix_tup (pv 5) pe_int (fun _ _ => rfl)) pe_int (fun _ _ => rfl)))
            (blkOk_by (own := [("part", 6)]) (N := N21) (sc := defScope (top 21)) (by decide +kernel)) (fun _ _ _ _ _ => pg_name (i := 6) nd0 rfl (Or.inl rfl))
            (fun _ _ _ _ _ => pts_nil) (fun _ _ _ _ _ => pe_tup (pa_cons (pv 6) (pa_cons pe_str (pa_cons (ke_fld K (pv 2)) pa_nil))))) pa_nil))))))))
      (pss_one (ps_ret (pe_callB (kc_sorted K hu) (by rfl) B.sorted (by decide +kernel) (pa_cons (pv 1) pa_nil))))), ?_⟩
    refine ⟨(by show 0 ≤ sizeLine; decide), fun fl hfl => ?_⟩
    have s1 := Same.new (.lst []) hfl
    have f1 : upd H fl (.lst []) fl = some _ := upd_same
    generalize upd H fl (.lst []) = H1 at *
    have tk : ∀ {H2 H3 : Hp} {us us' : List Addr} {ps : List Nat}, H2 fl = some (.lst (refs us')) → SameBut fl H2 H3 → Cts H2 us ps → Cts H3 us ps := fun {H2 H3 us us' ps} hf hsb hc =>
      Paired.mapP hc fun _ _ z => z.mono fun b xs e => hsb b _ (ne_of e hf (by intro z; cases z)) e
    have sm : ∀ {H2 H3 : Hp}, Same H H2 → SameBut fl H2 H3 → Same H H3 := fun s sb b o e => sb b o (ne_of_none e hfl) (s _ _ e)
    refine ⟨_, rfl, l, rfl, ⟨_, s1.seq hl⟩, for_list (K := K) (xs := refs (ns.map (·.a))) (fun i σ H2 => ∃ v2 v3 v4 v5 us ps, σ = [some (.ref l), some (.ref fl), v2, v3, v4, v5, none] ∧ Same H H2 ∧ H2 fl = some (.lst (refs us)) ∧ Cts H2 us ps ∧ ps.Perm ((ns.take i).flatMap (cntP ns)))
      ⟨none, none, none, none, [], [], rfl, s1, f1, .nil, by simp⟩ ?_ ?_ ?_⟩
    · rintro i σ H2 _ ⟨_, _, _, _, _, _, _, s2, _⟩
      exact s2.seq hl
    · rintro i x σ H2 hx ⟨v2, v3, v4, v5, us, ps, rfl, s2, f2, hc, hp⟩
      simp only [refs, List.map_map, List.getElem?_map] at hx
      obtain ⟨r, hr', rfl⟩ := Option.map_eq_some_iff.mp hx
      have hm := List.mem_of_getElem? hr'
      obtain ⟨dx, Pl, as, a1, a2, a3⟩ := (hns r hm).ins
      have htl : ((ns.take i).flatMap (cntP ns)).length + (cntP ns r).length ≤ 1000 := Nat.le_trans (flatMap_le hr') htot
      have hlc : us.length = ps.length := hc.length
      have hlp := hp.length_eq
      have hN2 := (hns r hm).keep (ms := []) (Ext.same hG s2) (by simp) (by simp) (by simp)
      -- for parts, _ in node.held()
      refine ⟨_, rfl, r.a, dx, _, rfl, s2 _ _ a1, zlook_none (ns := ndN) (by decide) _, G, r.a, r.la, r.ka, r.i, r.nd, rfl, hG.trans s2, hN2, fun hd as hhd hPas => ?_⟩
      have s3 := s2.trans (Same.new (.lst (refs as)) hhd)
      have d3 : upd H2 hd (.lst (refs as)) hd = some _ := upd_same
      have f3 := Same.new (.lst (refs as)) hhd _ _ f2
      have nhf : hd ≠ fl := (ne_of_none f2 hhd).symm
      have hc3 : Cts (upd H2 hd (.lst (refs as))) us ps := Paired.mapP hc fun _ _ z => z.mono fun b xs e => Same.new _ hhd _ _ e
      generalize upd H2 hd (.lst (refs as)) = H3 at *
      refine ⟨hd, rfl, ⟨_, SqL.of d3⟩, for_list (K := K) (xs := refs as) (fun j σ H4 => ∃ v3 v4 v5 us ps', σ = [some (.ref l), some (.ref fl), some (.ref r.a), v3, v4, v5, none] ∧ Same H H4 ∧ H4 hd = some (.lst (refs as)) ∧ H4 fl = some (.lst (refs us)) ∧ Cts H4 us ps' ∧
          ps'.Perm ((ns.take i).flatMap (cntP ns) ++ (r.nd.pars.take j).flatMap (·.ps)))
        ⟨v3, v4, v5, us, ps, rfl, s3, d3, f3, hc3, by simpa using hp⟩ ?_ ?_ ?_⟩
      · rintro j σ H4 _ ⟨_, _, _, _, _, _, _, d4, _⟩
        exact SqL.of d4
      · rintro j y σ H4 hy ⟨v3, v4, v5, us, ps', rfl, s4, d4, f4, hc4, hp4⟩
        obtain ⟨ap, p, rfl, e2, t, s, p1, p2, p3, p4⟩ := hPas.get hy
        have hle := flatMap_le (f := fun p : Par => p.ps) e2
        have hl4 : us.length = ps'.length := hc4.length
        have hpl := hp4.length_eq
        have hcn : (r.nd.pars.flatMap (fun p : Par => p.ps)).length ≤ (cntP ns r).length := by simp [cntP]
        refine ⟨ap, _, rfl, SqT.of (s4 _ _ (hG _ _ p1)), rfl, _, _, rfl, _, _, rfl, rfl, ?_⟩
        refine ext_ok (ps := p.ps) (tp := t) (t := nN r.i) O f4 (s4 _ _ a1) (zlook (i := 0) ndN_nd rfl) (fun R hR => ⟨_, rfl, hR⟩) (SqT.of (s4 _ _ (hG _ _ p2))) p4 (by rw [List.length_append] at hpl; omega) fun H5 us' sb f5 hc5 => ?_
        refine ⟨_, _, _, us ++ us', ps' ++ p.ps, rfl, sm s4 sb, sb _ _ nhf d4, f5, paired_append (tk f4 sb hc4) hc5, ?_⟩
        rw [flatMap_take e2, ← List.append_assoc]
        exact hp4.append_right _
      rintro σ H4 ⟨v3, v4, v5, us, ps', rfl, s4, d4, f4, hc4, hp4⟩
      have e1 : r.nd.pars.take (refs as).length = r.nd.pars := by rw [List.take_of_length_le]; simp [hPas.length]
      rw [e1] at hp4
      have hN4 := (hns r hm).keep (ms := []) (Ext.same hG s4) (by simp) (by simp) (by simp)
      -- for letter in node.pending(nodes)
      refine ⟨_, rfl, r.a, dx, _, rfl, s4 _ _ a1, zlook_none (ns := ndN) (by decide) _, _, rfl, G, r, l, ns, rfl, hG.trans s4, hN4, s4.seq hl, fun s hs => (hns s hs).keep (ms := []) (Ext.same hG s4) (by simp) (by simp) (by simp), hnd, hln, (hout r hm).1, (hout r hm).2, fun H5 pd lts ls hpd s5 d5 hles hperm => ?_⟩
      have s45 := s4.trans s5
      have f5 := s5 _ _ f4
      have hc5 : Cts H5 us ps' := Paired.mapP hc4 fun _ _ z => z.mono fun b xs e => s5 _ _ e
      have npf : pd ≠ fl := (ne_of_none f4 hpd).symm
      refine ⟨pd, rfl, ⟨_, SqL.of d5⟩, for_list (K := K) (xs := refs lts) (fun j σ H6 => ∃ v3 v4 v5 us ps', σ = [some (.ref l), some (.ref fl), some (.ref r.a), v3, v4, v5, none] ∧ Same H H6 ∧ H6 pd = some (.lst (refs lts)) ∧ H6 fl = some (.lst (refs us)) ∧ Cts H6 us ps' ∧
          ps'.Perm ((ns.take i).flatMap (cntP ns) ++ r.nd.pars.flatMap (·.ps) ++ (ls.take j).flatMap (·.par.ps)))
        ⟨v3, v4, v5, us, ps', rfl, s45, d5, f5, hc5, by simpa using hp4⟩ ?_ ?_ ?_⟩
      · rintro j σ H6 _ ⟨_, _, _, _, _, _, _, d6, _⟩
        exact SqL.of d6
      · rintro j y σ H6 hy ⟨v3, v4, v5, us, ps', rfl, s6, d6, f6, hc6, hp6⟩
        obtain ⟨al, lt, rfl, e2, pa, l1, ⟨t, s, p1, p2, p3, p4⟩, l3, l4⟩ := hles.get hy
        have hle := flatMap_le (f := fun p : Let => p.par.ps) e2
        have hl6 : us.length = ps'.length := hc6.length
        have hpl := hp6.length_eq
        have hpf := (perm_flatMap hperm (fun p : Let => p.par.ps)).length_eq
        have hcn : (r.nd.pars.flatMap (fun p : Par => p.ps)).length + ((r.nd.out.filter (pendC ns r.i)).flatMap (fun p : Let => p.par.ps)).length ≤ (cntP ns r).length := by simp [cntP]
        refine ext_ok (ps := lt.par.ps) (tp := t) (t := nN r.i) O f6 (s6 _ _ a1) (zlook (i := 0) ndN_nd rfl) (fun R hR => ⟨_, rfl, al, _, _, _, rfl, rfl, SqT.of (s6 _ _ (hG _ _ l1)), atI_nat (j := 3) rfl, pa, _, _, _, rfl, rfl, SqT.of (s6 _ _ (hG _ _ p1)), atI_nat (j := 0) rfl, hR⟩) (SqT.of (s6 _ _ (hG _ _ p2))) p4 (by rw [List.length_append, List.length_append] at hpl; omega) fun H7 us' sb f7 hc7 => ?_
        refine ⟨_, _, _, us ++ us', ps' ++ lt.par.ps, rfl, sm s6 sb, sb _ _ npf d6, f7, paired_append (tk f6 sb hc6) hc7, ?_⟩
        rw [flatMap_take e2, ← List.append_assoc]
        exact hp6.append_right _
      rintro σ H6 ⟨v3, v4, v5, us, ps', rfl, s6, d6, f6, hc6, hp6⟩
      have e1 : ls.take (refs lts).length = ls := by rw [List.take_of_length_le]; simp [hles.length]
      rw [e1] at hp6
      refine ⟨_, _, _, _, us, ps', rfl, s6, f6, hc6, hp6.trans ?_⟩
      rw [flatMap_take hr', List.append_assoc]
      exact ((perm_flatMap hperm _).append_left _).append_left _
    · rintro σ H2 ⟨v2, v3, v4, v5, us, ps, rfl, s2, f2, hc, hp⟩
      have e1 : ns.take (refs (ns.map (·.a))).length = ns := by rw [List.take_of_length_le]; simp [refs]
      rw [e1] at hp
      obtain ⟨zs, as', z1, z2, z3, z4⟩ := zok_ct (K := K) hc (by have := hp.length_eq; omega)
      refine ⟨_, rfl, fl, zs, rfl, .inl (SqL.of (by rw [z1]; exact f2)), z2, fun p hp' => ?_⟩
      rw [z3]
      refine q _ p as' (s2.trans (Same.new _ hp')) upd_same ?_
      rw [so_congr hp] at z4
      exact Paired.mapP z4 fun _ _ z => z.mono fun b xs e => Same.new _ hp' _ _ e
end
end Sam
end
section
set_option autoImplicit false
set_option linter.all false
namespace Sam
/-! ### what is drawn is one of what can be drawn -/
theorem Tr.All.exec {α : Type} {P : α → Prop} : ∀ {t : Tr α} {x : ES}, t.All P → t.Run x → P (t.exec x).1
  | .ret a, _, h, _ => h
  | .pick ws k, x, h, r => by
    obtain ⟨⟨h0, _⟩, _, hf, hk⟩ := r
    obtain ⟨p1, p2, _⟩ := pickS_spec h0 hf
    exact Tr.All.exec (t := k (pickS ws x).1) (x := (pickS ws x).2) (h _ p1 p2) hk
theorem Tr.All.true {α : Type} : ∀ t : Tr α, t.All fun _ => True
  | .ret _ => trivial
  | .pick ws k => fun i _ _ => Tr.All.true (k i)
theorem Tr.All.and {α : Type} {P Q : α → Prop} : ∀ {t : Tr α}, t.All P → t.All Q → t.All fun a => P a ∧ Q a
  | .ret _, h, g => ⟨h, g⟩
  | .pick ws k, h, g => fun i hi hp => Tr.All.and (h i hi hp) (g i hi hp)
/-! ### what a merge keeps is of what was kept -/
section
variable {I : Type} {w : I → Nat} {so : List I → List I}
theorem erase_perm : ∀ {l : List I} {p : Nat} (h : p < l.length), (l[p] :: l.eraseIdx p).Perm l
  | x :: r, 0, _ => .refl _
  | x :: r, p + 1, h => by
    have := erase_perm (l := r) (p := p) (by simpa using h)
    show (r[p]'(by simpa using h) :: x :: r.eraseIdx p).Perm (x :: r)
    exact (List.Perm.swap _ _ _).trans (this.cons x)
theorem drawU_sub : ∀ (m na nb : Nat) (la lb f : List I), (drawU m na nb la lb f).All fun g => ∃ r, (g ++ r).Perm (f ++ (la ++ lb))
  | 0, _, _, la, lb, f => ⟨la ++ lb, .refl _⟩
  | m + 1, na, nb, la, lb, f => by
    have stop : (Tr.ret f).All fun g => ∃ r, (g ++ r).Perm (f ++ (la ++ lb)) := ⟨la ++ lb, .refl _⟩
    refine All2.mpr ⟨fun _ => ?_, fun _ => ?_⟩
    · rw [if_pos rfl]
      intro p hp _
      rw [List.length_replicate] at hp
      have e : la[p]? = some la[p] := List.getElem?_eq_getElem hp
      simp only [e]
      refine Tr.All.imp ?_ (drawU_sub m _ _ _ _ _)
      rintro g ⟨r, h⟩
      refine ⟨r, h.trans ?_⟩
      have h1 : (la[p] :: la.eraseIdx p).Perm la := erase_perm hp
      rw [List.append_assoc]
      refine List.Perm.append_left f ?_
      show (la[p] :: (la.eraseIdx p ++ lb)).Perm (la ++ lb)
      exact h1.append_right lb
    · rw [if_neg (by decide)]
      intro p hp _
      rw [List.length_replicate] at hp
      have e : lb[p]? = some lb[p] := List.getElem?_eq_getElem hp
      simp only [e]
      refine Tr.All.imp ?_ (drawU_sub m _ _ _ _ _)
      rintro g ⟨r, h⟩
      refine ⟨r, h.trans ?_⟩
      have h1 : (lb[p] :: lb.eraseIdx p).Perm lb := erase_perm hp
      rw [List.append_assoc]
      refine List.Perm.append_left f ?_
      show (lb[p] :: (la ++ lb.eraseIdx p)).Perm (la ++ lb)
      exact (List.perm_middle.symm).trans (h1.append_left la)
theorem drawW_sub : ∀ (m na nb : Nat) (la lb f : List I), (drawW w m na nb la lb f).All fun g => ∃ r, (g ++ r).Perm (f ++ (la ++ lb))
  | 0, _, _, la, lb, f => ⟨la ++ lb, .refl _⟩
  | m + 1, na, nb, la, lb, f => by
    have stop : (Tr.ret f).All fun g => ∃ r, (g ++ r).Perm (f ++ (la ++ lb)) := ⟨la ++ lb, .refl _⟩
    unfold drawW
    split
    · exact stop
    · refine All2.mpr ⟨fun _ => ?_, fun _ => ?_⟩
      · rw [if_pos rfl]
        cases la with
        | nil => exact stop
        | cons x r =>
          refine Tr.All.imp ?_ (drawW_sub m _ _ _ _ _)
          rintro g ⟨r', h⟩
          refine ⟨r', h.trans ?_⟩
          rw [List.append_assoc]
          exact .refl _
      · rw [if_neg (by decide)]
        cases lb with
        | nil => exact stop
        | cons x r =>
          refine Tr.All.imp ?_ (drawW_sub m _ _ _ _ _)
          rintro g ⟨r', h⟩
          refine ⟨r', h.trans ?_⟩
          rw [List.append_assoc]
          exact List.Perm.append_left f (show (x :: (la ++ r)).Perm (la ++ x :: r) from List.perm_middle.symm)
theorem merge_sub (hso : ∀ l, (so l).Perm l) (kd : Bool) (k : Nat) (a b : Smp I) : (merge w so kd k a b).All fun c => ∃ r, (c.kept ++ r).Perm (a.kept ++ b.kept) := by
  unfold merge
  split
  · refine Tr.All.bind (P := fun g => ∃ r, (g ++ r).Perm ([] ++ (a.kept ++ b.kept))) ?_ (drawU_sub _ _ _ _ _ _)
    rintro g ⟨r, h⟩
    exact ⟨r, ((hso g).append_right r).trans h⟩
  · refine Tr.All.bind (P := fun g => ∃ r, (g ++ r).Perm ([] ++ (a.kept ++ b.kept))) ?_ (drawW_sub _ _ _ _ _ _)
    rintro g ⟨r, h⟩
    exact ⟨r, h⟩
end
/-! ### parcels that are in order -/
abbrev wT (T : Nat → Thing) : Nat → Nat := fun i => (T i).w
structure ParOk (T : Nat → Thing) (kd : Bool) (k : Nat) (p : Par) : Prop where
  val : Val (wT T) kd k p.smp
  ne : p.ps ≠ []
  sub : ∀ x ∈ p.smp.kept, x ∈ p.ps
  nd : p.smp.kept.Nodup
  lt : ∀ i ∈ p.ps, i < 4
  n : p.smp.n = (p.ps.map fun i => if kd then 1 else (T i).w).sum
theorem nodup_lt : ∀ (n : Nat) {l : List Nat}, l.Nodup → (∀ x ∈ l, x < n) → l.length ≤ n
  | 0, l, _, h => by
    cases l with
    | nil => simp
    | cons x r => exact absurd (h x List.mem_cons_self) (by omega)
  | n + 1, l, hn, h => by
    have h1 := nodup_lt n (l := l.filter fun x => decide (x ≠ n)) (hn.filter _) (fun x hx => by
      have := h x (List.mem_filter.mp hx).1
      have h2 := (List.mem_filter.mp hx).2
      simp at h2
      omega)
    have h2 : (l.filter fun x => decide (x = n)).length ≤ 1 := by
      have hm : ∀ x ∈ l.filter (fun x => decide (x = n)), x = n := fun x hx => by simpa using (List.mem_filter.mp hx).2
      have hnn := hn.filter (fun x => decide (x = n))
      generalize l.filter (fun x => decide (x = n)) = m at hm hnn
      match m, hm, hnn with
      | [], _, _ => simp
      | [_], _, _ => simp
      | a :: b :: t, hm, hnn =>
        exfalso
        have e1 := hm a (by simp)
        have e2 := hm b (by simp)
        rw [e1, e2] at hnn
        simp at hnn
    have h3 : l.length = (l.filter fun x => decide (x ≠ n)).length + (l.filter fun x => decide (x = n)).length := by
      clear h h1 h2 hn
      induction l with
      | nil => rfl
      | cons x r ih =>
        by_cases e : x = n
        · simp [e, ih]; simp at ih; omega
        · simp [e]; simp at ih; omega
    omega
theorem nodup_of_perm_append {α : Type} {c r l : List α} (h : (c ++ r).Perm l) (hl : l.Nodup) : c.Nodup := (List.nodup_append.mp (h.symm.nodup hl)).1
theorem sum_map_append {α : Type} (f : α → Nat) (a b : List α) : ((a ++ b).map f).sum = (a.map f).sum + (b.map f).sum := by simp
theorem sum_map_perm {α : Type} (f : α → Nat) {a b : List α} (h : a.Perm b) : (a.map f).sum = (b.map f).sum := sum_perm (h.map f)
theorem soOk : SoOk so where
  one := fun x => by simp [so]
  two := fun x y => by
    have h := so_perm' [x, y]
    by_cases e : x ≤ y
    · left
      unfold so
      rw [List.mergeSort_of_pairwise]
      simp [e]
    · right
      refine List.Perm.eq_of_pairwise (le := fun a b => decide (a ≤ b) = true) (fun a b _ _ h1 h2 => by simp at h1 h2; omega) (List.pairwise_mergeSort (fun a b c => by simp; omega) (fun a b => by simp; omega) _) (by simp; omega) (h.trans (List.Perm.swap _ _ _))
  sym := fun x y => by
    refine List.Perm.eq_of_pairwise (le := fun a b => decide (a ≤ b) = true) (fun a b _ _ h1 h2 => by simp at h1 h2; omega) (List.pairwise_mergeSort (fun a b c => by simp; omega) (fun a b => by simp; omega) _) (List.pairwise_mergeSort (fun a b c => by simp; omega) (fun a b => by simp; omega) _) ?_
    exact (List.mergeSort_perm _ _).trans ((List.Perm.swap _ _ _).trans (List.mergeSort_perm _ _).symm)
where so_perm' (l : List Nat) : (so l).Perm l := List.mergeSort_perm l _
theorem merged_all {T : Nat → Thing} {kd : Bool} {k : Nat} {p q : Par} (hp : ParOk T kd k p) (hq : ParOk T kd k q) (hd : (p.ps ++ q.ps).Nodup) :
    (mergedT T kd k p q).All fun m => ParOk T kd k m ∧ m.ps = so (p.ps ++ q.ps) ∧ m.smp.n = p.smp.n + q.smp.n := by
  refine Tr.All.bind (P := fun c => MOk (w := wT T) kd k p.smp q.smp c ∧ ∃ r, (c.kept ++ r).Perm (p.smp.kept ++ q.smp.kept)) ?_ ((merge_all soOk hp.val hq.val).and (merge_sub so_perm kd k _ _))
  rintro c ⟨h1, r, h2⟩
  refine ⟨⟨h1.val, ?_, ?_, ?_, ?_, ?_⟩, rfl, h1.n⟩
  · intro z
    have := (so_perm (p.ps ++ q.ps)).length_eq
    rw [show so (p.ps ++ q.ps) = [] from z] at this
    have hne := hp.ne
    cases hpp : p.ps with
    | nil => exact hne hpp
    | cons a t => rw [hpp] at this; simp at this
  · intro x hx
    show x ∈ so (p.ps ++ q.ps)
    rw [so_mem_iff]
    rcases h1.mem x hx with h | h
    · exact List.mem_append_left _ (hp.sub x h)
    · exact List.mem_append_right _ (hq.sub x h)
  · refine nodup_of_perm_append h2 (List.nodup_append.mpr ⟨hp.nd, hq.nd, fun a ha b hb e => ?_⟩)
    exact (List.nodup_append.mp hd).2.2 a (hp.sub a ha) b (hq.sub b hb) e
  · intro i hi
    have : i ∈ p.ps ++ q.ps := so_mem_iff.mp hi
    rcases List.mem_append.mp this with h | h
    · exact hp.lt i h
    · exact hq.lt i h
  · show c.n = ((so (p.ps ++ q.ps)).map _).sum
    rw [h1.n, hp.n, hq.n, sum_map_perm _ (so_perm (p.ps ++ q.ps)), sum_map_append]
end Sam
end
section
set_option Elab.async false
set_option linter.all false
set_option maxRecDepth 100000
set_option maxHeartbeats 2000000
namespace Sam
open PySem PySem.Spec PyProof.Rows L2
/-! ### keys that are nested tuples -/
mutual
inductive NK (K : PySem.W.Frag) (H : Hp) : NestedKey → V → Prop
  | int (i : Int) : NK K H (.num i) (.int i)
  | str (x : Str) : NK K H (.text x) (.str x)
  | tup {a : Addr} {ks : List NestedKey} {xs : List V} : SqT K H a xs → NKs K H ks xs → NK K H (.tup ks) (.ref a)
inductive NKs (K : PySem.W.Frag) (H : Hp) : List NestedKey → List V → Prop
  | nil : NKs K H [] []
  | cons {k : NestedKey} {ks : List NestedKey} {v : V} {vs : List V} : NK K H k v → NKs K H ks vs → NKs K H (k :: ks) (v :: vs)
end
section
variable {X : Cx} {pins : List (Addr × Obj)} {σ : L2.St} {H : Hp} {s : Shared}
mutual
theorem NK.nested (I : Inv X pins σ H s) : ∀ (k : NestedKey) (v : V) (u : Value), NK X.K H k v → RelV v u → NestedIs s.heap k u
  | .none, _, _, h, _ => by cases h
  | .num i, _, _, h, r => by
    cases h
    obtain ⟨t, rfl⟩ := r
    exact .int _ _
  | .text x, _, _, h, r => by
    cases h
    obtain ⟨t, rfl⟩ := r
    exact .text _ _
  | .tup ks, _, _, h, r => by
    cases h with
    | tup h1 h2 =>
      cases r
      obtain ⟨its, rv, ⟨o, ho, hc, n, hd⟩, _⟩ := I.tuple h1
      exact .tup ho hc hd (NKs.nested I ks _ _ h2 (by simpa using rv))
theorem NKs.nested (I : Inv X pins σ H s) : ∀ (ks : List NestedKey) (vs : List V) (us : List Value), NKs X.K H ks vs → Vals vs us → NestedAll s.heap ks us
  | [], _, _, h, r => by
    cases h
    cases r
    exact .nil
  | k :: ks, _, _, h, r => by
    cases h with
    | cons h1 h2 =>
      cases r with
      | cons r1 r2 => exact .cons (NK.nested I k _ _ h1 r1) (NKs.nested I ks _ _ h2 r2)
end
end
mutual
theorem NK.dp {K : PySem.W.Frag} {H : Hp} : ∀ (k : NestedKey) (v : V), NK K H k v → Dp K H v k.data
  | .none, _, h => by cases h
  | .num i, _, h => by cases h; exact .int _
  | .text x, _, h => by cases h; exact .str _
  | .tup ks, _, h => by
    cases h with
    | tup h1 h2 => exact .tup h1 (NKs.dp ks _ h2)
theorem NKs.dp {K : PySem.W.Frag} {H : Hp} : ∀ (ks : List NestedKey) (vs : List V), NKs K H ks vs → DpAll K H vs (NestedKey.datas ks)
  | [], _, h => by cases h; exact .nil
  | k :: ks, _, h => by
    cases h with
    | cons h1 h2 => exact .cons (NK.dp k _ h1) (NKs.dp ks _ h2)
end
mutual
theorem NK.sq {K : PySem.W.Frag} {H H' : Hp} (s : ∀ a xs, SqT K H a xs → SqT K H' a xs) : ∀ (k : NestedKey) (v : V), NK K H k v → NK K H' k v
  | .none, _, h => by cases h
  | .num i, _, h => by cases h; exact .int _
  | .text x, _, h => by cases h; exact .str _
  | .tup ks, _, h => by
    cases h with
    | tup h1 h2 => exact .tup (s _ _ h1) (NKs.sq s ks _ h2)
theorem NKs.sq {K : PySem.W.Frag} {H H' : Hp} (s : ∀ a xs, SqT K H a xs → SqT K H' a xs) : ∀ (ks : List NestedKey) (vs : List V), NKs K H ks vs → NKs K H' ks vs
  | [], _, h => by cases h; exact .nil
  | k :: ks, _, h => by
    cases h with
    | cons h1 h2 => exact .cons (NK.sq s k _ h1) (NKs.sq s ks _ h2)
end
theorem NK.mono {K : PySem.W.Frag} {H H' : Hp} (s : Same H H') {k : NestedKey} {v : V} (h : NK K H k v) : NK K H' k v := NK.sq (fun _ _ z => s.seqT z) k v h
theorem NKs.mono {K : PySem.W.Frag} {H H' : Hp} (s : Same H H') {ks : List NestedKey} {vs : List V} (h : NKs K H ks vs) : NKs K H' ks vs := NKs.sq (fun _ _ z => s.seqT z) ks vs h
/-- a thing that is no tuple is written -/
theorem sqT_wr {K : PySem.W.Frag} {H : Hp} {d : Addr} {o u : HO} (hd : H d = some o) (h1 : ∀ xs, o ≠ .tup xs) (h2 : ∀ b xs, o ≠ .frz b (.tup xs)) : ∀ a xs, SqT K H a xs → SqT K (upd H d u) a xs := by
  rintro a xs ((h | ⟨b, h⟩) | h)
  · exact .inl (.inl ((upd_ne (ne_of h hd (h1 xs).symm)).trans h))
  · exact .inl (.inr ⟨b, (upd_ne (ne_of h hd (h2 b xs).symm)).trans h⟩)
  · exact .inr h
/-- the tuple at a is the key k -/
def KeyAt (K : PySem.W.Frag) (H : Hp) (k : NestedKey) (a : Addr) : Prop := NK K H k (.ref a) ∧ k.depth ≤ 8
theorem KeyAt.mono {K : PySem.W.Frag} {H H' : Hp} {k : NestedKey} {a : Addr} (s : Same H H') (h : KeyAt K H k a) : KeyAt K H' k a := ⟨h.1.mono s, h.2⟩

/-! ### a dict with such keys: key, the key's own tuple, value -/
abbrev Ns := List (NestedKey × Addr × V)
def dnO (P : Program) (w : World) (d : Addr) (ys : Ns) : HO := .ext fun h => (d == sysModules) = false ∧ ys.length ≤ sizeLine ∧ ∃ xs : List (NestedKey × Addr × Value), Paired (fun (p : NestedKey × Addr × V) (q : NestedKey × Addr × Value) => p.1 = q.1 ∧ p.2.1 = q.2.1 ∧ RelV p.2.2 q.2.2) ys xs ∧
  ∃ o es ep, h.get? d = some o ∧ o.ExactDict ∧ o.data = .dict es ep ∧ es.toList = xs.map (entryOfKey (nestedKind P w)) ∧ (xs.map (·.1)).Nodup
def atN (ys : Ns) (k : NestedKey) : Option V := (ys.find? fun x => decide (x.1 = k)).map (·.2.2)
def putN (ys : Ns) (k : NestedKey) (a : Addr) (v : V) : Ns := if (atN ys k).isSome then ys.map (fun x => if x.1 = k then (x.1, x.2.1, v) else x) else ys ++ [(k, a, v)]
abbrev NRel : Ns → List (NestedKey × Addr × Value) → Prop := Paired fun p q => p.1 = q.1 ∧ p.2.1 = q.2.1 ∧ RelV p.2.2 q.2.2
theorem NRel.val {ys : Ns} {xs : List (NestedKey × Addr × Value)} (r : NRel ys xs) (k : NestedKey) : RelO (atN ys k) ((atKey xs k).map (·.2)) := by
  induction r with
  | nil => exact True.intro
  | @cons p q l m h t ih =>
    obtain ⟨e1, e2, e3⟩ := h
    by_cases e : p.1 = k
    · have h1 : atN (p :: l) k = some p.2.2 := by simp [atN, e]
      have h2 : (atKey (q :: m) k).map (·.2) = some q.2.2 := by simp [atKey, ← e1, e]
      rw [h1, h2]; exact e3
    · have h1 : atN (p :: l) k = atN l k := by simp [atN, e]
      have h2 : atKey (q :: m) k = atKey m k := by simp [atKey, ← e1, e]
      rw [h1, h2]; exact ih
theorem NRel.put {ys : Ns} {xs : List (NestedKey × Addr × Value)} (r : NRel ys xs) (k : NestedKey) (a : Addr) {v : V} {u : Value} (rv : RelV v u) : NRel (putN ys k a v) (storedH xs k a u) := by
  have h := (r.val k).isSome_eq
  rw [Option.isSome_map] at h
  unfold putN storedH
  rw [← h]
  by_cases c : (atN ys k).isSome = true
  · rw [if_pos c, if_pos c]
    clear h c
    induction r with
    | nil => exact .nil
    | @cons p q l m h t ih =>
      obtain ⟨e1, e2, e3⟩ := h
      refine .cons ?_ ih
      by_cases e : p.1 = k
      · have e' : q.1 = k := e1 ▸ e
        simp only [e, putAt, e', if_true]
        exact ⟨trivial, e2, rv⟩
      · have e' : ¬ q.1 = k := e1 ▸ e
        simp only [e, putAt, e', if_false]
        exact ⟨e1, e2, e3⟩
  · rw [if_neg c, if_neg c]
    have ap : ∀ {a1 : Ns} {b1 : List (NestedKey × Addr × Value)}, NRel a1 b1 → NRel (a1 ++ [(k, a, v)]) (b1 ++ [(k, a, u)]) := by
      intro a1 b1 h
      induction h with
      | nil => exact .cons ⟨rfl, rfl, rv⟩ .nil
      | cons h _ ih => exact .cons h ih
    exact ap r
theorem putN_len (ys : Ns) (k : NestedKey) (a : Addr) (v : V) : (putN ys k a v).length ≤ ys.length + 1 := by
  unfold putN
  split <;> simp
section
variable {X : Cx} {pins : List (Addr × Obj)} {σ : L2.St} {H : Hp} {s : Shared} {d : Addr} {ys : Ns}
theorem KeyAt.is (I : Inv X pins σ H s) {k : NestedKey} {a : Addr} (h : KeyAt X.K H k a) : (nestedKind X.prog X.w).is s.heap k a := ⟨h.1.nested I _ _ _ rfl, h.2⟩
theorem dn_of (I : Inv X pins σ H s) (h : H d = some (dnO X.prog X.w d ys)) (hk : ∀ y ∈ ys, KeyAt X.K H y.1 y.2.1) : (d == sysModules) = false ∧ ys.length ≤ sizeLine ∧ ∃ xs, NRel ys xs ∧ s.heap.DictOfH (nestedKind X.prog X.w) d xs := by
  obtain ⟨⟨lo, z, xs, r, o, es, ep, h1, h2, h3, h4, h5⟩, _⟩ := (show ObjOk X.prog X.w H s.heap d (dnO X.prog X.w d ys) from I.hok d _ h)
  refine ⟨lo, z, xs, r, o, es, ep, h1, h2, h3, h4, fun x hx => ?_, h5⟩
  obtain ⟨j, hj⟩ := List.mem_iff_getElem?.mp hx
  have key : ∀ {a : Ns} {b : List (NestedKey × Addr × Value)} {j : Nat} {x : NestedKey × Addr × Value}, NRel a b → b[j]? = some x → ∃ y, y ∈ a ∧ y.1 = x.1 ∧ y.2.1 = x.2.1 := by
    intro a b j x h
    induction h generalizing j with
    | nil => intro e; simp at e
    | @cons p q l m h t ih =>
      intro e
      cases j with
      | zero =>
        simp at e; subst e
        exact ⟨p, List.mem_cons_self, h.1, h.2.1⟩
      | succ j =>
        obtain ⟨y, y1, y2⟩ := ih (j := j) (by simpa using e)
        exact ⟨y, List.mem_cons_of_mem _ y1, y2⟩
  obtain ⟨y, y1, y2, y3⟩ := key r hj
  have := (hk y y1).is I
  rw [y2, y3] at this
  exact this
theorem dn_new {H' : Hp} {h' : Heap} {xs : List (NestedKey × Addr × Value)} (z : ys.length ≤ sizeLine) (lo : (d == sysModules) = false) (r : NRel ys xs) (dd : h'.DictOfH (nestedKind X.prog X.w) d xs) : ObjOk X.prog X.w H' h' d (dnO X.prog X.w d ys) := by
  obtain ⟨o, es, ep, h1, h2, h3, h4, _, h5⟩ := dd
  refine ⟨⟨lo, z, xs, r, o, es, ep, h1, h2, h3, h4, h5⟩, ⟨o, h1⟩, ?_⟩
  rintro g1 g2 ⟨lo, z, xs, r, o, es, ep, h1, h2⟩ hk
  exact ⟨lo, z, xs, r, o, es, ep, hk _ h1, h2⟩
end
/-! ### readings and rules -/
def tDNewN (P : Program) (w : World) : TE := fun _ H Q => ∀ p, H p = none → Q (.ref p) (upd H p (dnO P w p []))
def tNGet2 (K : PySem.W.Frag) (P : Program) (w : World) (td ty tx : TE) : TE := fun σ H Q => td σ H fun x H1 => ∃ d ys, x = .ref d ∧ H1 d = some (dnO P w d ys) ∧ (∀ y ∈ ys, KeyAt K H1 y.1 y.2.1) ∧ ty σ H1 fun y H2 => tx σ H2 fun z H3 => ∃ b ys k, y = .ref b ∧ H3 d = some (dnO P w d ys) ∧ (∀ y ∈ ys, KeyAt K H3 y.1 y.2.1) ∧
  KeyAt K H3 k b ∧ Q ((atN ys k).getD z) H3
def tNGet (K : PySem.W.Frag) (P : Program) (w : World) (td ty : TE) : TE := fun σ H Q => td σ H fun x H1 => ty σ H1 fun y H2 => ∃ d b ys k v, x = .ref d ∧ y = .ref b ∧ H2 d = some (dnO P w d ys) ∧ (∀ y ∈ ys, KeyAt K H2 y.1 y.2.1) ∧ KeyAt K H2 k b ∧ atN ys k = some v ∧ Q v H2
def sNPut (K : PySem.W.Frag) (P : Program) (w : World) (td ty tv : TE) : TS := fun D σ H => tv σ H fun v H1 => td σ H1 fun x H2 => ty σ H2 fun y H3 => ∃ d b ys k, x = .ref d ∧ y = .ref b ∧ H3 d = some (dnO P w d ys) ∧ (∀ y ∈ ys, KeyAt K H3 y.1 y.2.1) ∧ KeyAt K H3 k b ∧ ys.length < sizeLine ∧
  D.nx σ (upd H3 d (dnO P w d (putN ys k b v)))
section
variable {X : Cx} {o i e f value : Expr} {pos pos' apos cpos : Pos} {td ty tx tv : TE}
theorem pe_dnewN : PE X (.Dict [] [] pos) (tDNewN X.prog X.w) := ⟨fun pins s σ H Q I h =>
  wpAny_Dict_empty ⟨.ref s.heap.objs.size, _, I.laid (a := s.heap.objs.size) (o := dnO X.prog X.w s.heap.objs.size []) (t' := s.toks) (fun _ _ q => Heap.get?_push_of_some _ q) (Nat.le_refl _)
    (dn_new (ys := []) (Nat.zero_le _) (beq_eq_false_iff_ne.mpr (Ne.symm (Nat.ne_of_lt I.big))) .nil (Heap.DictOfH.new s.heap)), rfl, h _ (I.hok.fresh (Nat.le_refl _))⟩⟩
theorem nroom {A : Around} (hu : A.units + 64 < cLine) : (nestedKind P w).room A.in1 := by
  show A.units + 1 + 8 < cLine
  omega
theorem dn_there {pins : List (Addr × Obj)} {σ : L2.St} {H : Hp} {s : Shared} {d : Addr} {ys : Ns} (I : Inv X pins σ H s) (h : H d = some (dnO X.prog X.w d ys)) : s.TypeIs (.ref d) "dict" ∧ (∀ b, Value.ref d = .ref b → ∃ ob, s.heap.get? b = some ob ∧ ob.dict = none) ∧ (d == sysModules) = false := by
  obtain ⟨⟨lo, z, xs, r, o, es, ep, h1, h2, h3, h4, h5⟩, _⟩ := (show ObjOk X.prog X.w H s.heap d (dnO X.prog X.w d ys) from I.hok d _ h)
  refine ⟨⟨o, h1, h2.1⟩, fun b e => ?_, lo⟩
  cases e
  exact ⟨o, h1, h2.2.1⟩
theorem pe_nget2 (K : PySem.W.Frag) (hu : X.A.units + 64 < cLine) (ho : PE X o td) (he : PE X e ty) (hf : PE X f tx) (m : M2 X o "get" apos e f cpos) (hK : X.K = K := by rfl) : PE X (.Call (.Attribute o "get" apos) [e, f] [] cpos) (tNGet2 K X.prog X.w td ty tx) := by
  subst hK
  refine ⟨fun pins s σ H Q I h => ?_⟩
  refine wpAny_Call_method m.base m.few m.line PySem.F.plainAttrs_dict PySem.F.slot_dict_get PySem.F.type_dict_get (thn (ho.run pins s σ H _ I h) fun u s1 ⟨x, H1, I1, rx, a, ys0, ex, hd0, hk0, q1⟩ => ?_)
  subst ex
  obtain rfl : u = Value.ref a := rx
  obtain ⟨t1, t2, _⟩ := dn_there I1 hd0
  refine ⟨t1, t2, ?_⟩
  rw [m.trees]
  refine Calls.callWith_builtin rfl (Calls.evalArgs_plain (Calls.spliced_cons (thn (he.run pins s1 σ H1 _ I1 q1) fun iv s2 ⟨y, H2, I2, ry, q2⟩ =>
    Calls.spliced_cons (thn (hf.run pins s2 σ H2 _ I2 q2) fun fv s3 ⟨z, H3, I3, rz, b, ys, k, ey, hd, hk, hb, q3⟩ => Calls.spliced_nil ?_))))
  subst ey
  cases (show iv = Value.ref b from ry)
  obtain ⟨lo, zl, xs, rel, dd⟩ := dn_of I3 hd hk
  refine call_meetsIn PySem.F.slot_dict_get dd.typeIs PySem.F.entry_dict_get (PySem.F.args_dict_get_3 _ _ _) (meetsH_dict_get_default (nestedKind X.prog X.w) a b lo fv) ⟨nroom hu, k, xs, hb.is I3, dd, _, H3, I3.tok _, (rel.val k).getD rz, q3⟩
theorem pe_nget (K : PySem.W.Frag) (hu : X.A.units + 64 < cLine) (ho : PE X o td) (hi : PE X i ty) (hs : NoSl i) (hK : X.K = K := by rfl) : PE X (.Subscript o i pos) (tNGet K X.prog X.w td ty) := by
  subst hK
  refine ⟨fun pins s σ H Q I h => ?_⟩
  refine subD_of PySem.F.slot_dict_getitem.lookup hs (thn (ho.run pins s σ H _ I h) fun u s1 ⟨x, H1, I1, rx, q1⟩ => thn (hi.run pins s1 σ H1 _ I1 q1) fun iv s2 ⟨y, H2, I2, ry, a, b, ys, k, v, ex, ey, hd, hk, hb, hv, q2⟩ => ?_)
  subst ex ey
  obtain rfl : u = Value.ref a := rx
  obtain rfl : iv = Value.ref b := ry
  refine ⟨(dn_there I2 hd).1, ?_⟩
  obtain ⟨lo, zl, xs, rel, dd⟩ := dn_of I2 hd hk
  obtain ⟨w', hw, rw'⟩ := RelO.some_of (v := v) (o := (atKey xs k).map (·.2)) (by rw [← hv]; exact rel.val k)
  obtain ⟨p, hp, hp2⟩ := Option.map_eq_some_iff.mp hw
  refine wpAny_getItem_heap (nroom hu) (hb.is I2) dd hp ?_
  rw [hp2]
  exact ⟨v, H2, I2.tok _, rw', q2⟩
theorem ps_nput (K : PySem.W.Frag) (hu : X.A.units + 64 < cLine) (ho : PE X o td) (hi : PE X i ty) (hv : PE X value tv) (hs : swapsWith value (some (.Subscript o i pos')) pos.line X.env = pure false) (hK : X.K = K := by rfl) :
    PS X (.Assign [.Subscript o i pos'] value pos) (sNPut K X.prog X.w td ty tv) := by
  subst hK
  refine ⟨fun pins s σ H D I h => ?_⟩
  refine wpAny_Assign_Subscript (thn (hv.run pins s σ H _ I h) fun r s1 ⟨v, H1, I1, rv, q1⟩ => thn (ho.run pins s1 σ H1 _ I1 q1) fun u s2 ⟨x, H2, I2, rx, q2⟩ => thn (hi.run pins s2 σ H2 _ I2 q2) fun iv s3 ⟨y, H3, I3, ry, a, b, ys, k, ex, ey, hd, hk, hb, hl, q3⟩ => ?_) hs
  subst ex ey
  obtain rfl : u = Value.ref a := rx
  obtain rfl : iv = Value.ref b := ry
  obtain ⟨lo, zl, xs, rel, dd⟩ := dn_of I3 hd hk
  have hz : xs.length ≤ sizeLine := by rw [← Paired.length rel]; exact zl
  refine wpAny_setItem_heap (hsz := hz) (nroom hu) (hb.is I3) dd fun h' dd' hs => ⟨σ, _, ?_, q3⟩
  have hex : ∃ q, h'.get? a = some q := let ⟨q, _, _, hq, _⟩ := dd'; ⟨q, hq⟩
  exact d_write I3 (by rw [hd]; exact True.intro) hs hex (dn_new (by have := putN_len ys k b v; omega) lo (rel.put k b rv) dd')
theorem ke_nget (K : PySem.W.Frag) (P : Program) (w : World) (hu : X.A.units + 64 < cLine) (ho : PE X o td) (hi : PE X i ty) (hs : NoSl i) (hK : X.K = K := by rfl) (hP : X.prog = P := by rfl) (hw : X.w = w := by rfl) : PE X (.Subscript o i pos) (tNGet K P w td ty) := by
  subst hP hw
  exact pe_nget K hu ho hi hs hK
theorem ke_dnewN (P : Program) (w : World) (hP : X.prog = P := by rfl) (hw : X.w = w := by rfl) : PE X (.Dict [] [] pos) (tDNewN P w) := by
  subst hP hw
  exact pe_dnewN
/-- sorted(d) -/
def rSortN (K : PySem.W.Frag) (P : Program) (w : World) : List V → Hp → VK → Prop := fun vs H Q => ∃ (d : Addr) (ys : Ns) (zs : Zs), vs = [.ref d] ∧ H d = some (dnO P w d ys) ∧ zs.map Prod.fst = ys.map (fun y => V.ref y.2.1) ∧ ZOk K H zs ∧ ∀ p, H p = none → Q (.ref p) (upd H p (.lst ((srtD zs).map Prod.fst)))
theorem call_sortedN (K : PySem.W.Frag) (hc : X.calm = true) (hu : X.A.units + 64 < cLine) (hK : X.K = K := by rfl) : CallR X (.builtin "sorted") (rSortN K X.prog X.w) := by
  subst hK
  intro pins s σ H xs us Q I r h
  obtain ⟨a, ys, zs, rfl, hd, hz, Z, q⟩ := h
  obtain ⟨u, rfl, rx⟩ := vals1 r
  cases rx
  refine sorted_coll hu I Z (fun Q' hq => ?_) q
  obtain ⟨⟨lo, z, xs, rel, o, es, ep, h1, h2, h3, h4, h5⟩, _⟩ := (show ObjOk X.prog X.w H s.heap a (dnO X.prog X.w a ys) from I.hok a _ hd)
  have l1 : es.size = xs.length := size_of_entries h4
  have l2 : ys.length = xs.length := Paired.length rel
  refine PySem.W.kdu_collect (A := X.A.in1) (kdl_raw lo h2 h3) (I.ok.hd hc) h1 (by omega) fun h' tk acc hk hacc => ?_
  refine hq h' tk acc.toList hk ?_
  rw [hz]
  refine vals_of_at ?_ fun j x v e1 e2 => ?_
  · have e1 := hacc.1
    have e2 : acc.toList.length = acc.size := by simp
    rw [List.length_map, e2, e1]; omega
  · obtain ⟨en, e3, e4⟩ := hacc.2 j v (by rw [← Array.getElem?_toList]; exact e2)
    rw [List.getElem?_map] at e1
    obtain ⟨y, e5, rfl⟩ := Option.map_eq_some_iff.mp e1
    obtain ⟨x, e6, e7, e8, _⟩ := paired_get rel e5
    have e9 := entry_at h4 j
    rw [e3, e6] at e9
    have := Option.some.inj e9
    rw [e4, this]
    show Value.ref x.2.1 = Value.ref y.2.1
    rw [e8]
end
end Sam
end
section
set_option Elab.async false
set_option linter.all false
set_option maxRecDepth 100000
set_option maxHeartbeats 1000000
namespace Sam
open PySem PySem.Spec PyProof.Rows L2
open C8 (pss_cut tCut call_isC InsC)
theorem walk_range {lo : Int} {n : Nat} {H4 : Hp} {Nx : Hp → Prop} {B : V → Hp → (Hp → Prop) → Prop} (Pv : Nat → Hp → Prop) (h0 : Pv 0 H4) (hs : ∀ i H, i < n → Pv i H → B (.int (lo + i)) H (Pv (i + 1))) (hd : ∀ H, Pv n H → Nx H) :
    ∃ W1 : Nat → Nat → Hp → Prop, (∃ m, W1 0 m H4) ∧ ∀ j k H, W1 j k H → ((Itr lo n).stop j H ∧ Nx H) ∨ ((Itr lo n).go j H ∧ ∃ Nx1 : Hp → Prop, (∀ H', Nx1 H' → ∃ k', k' < k ∧ W1 (j + 1) k' H') ∧ ∀ x H', (Itr lo n).yld j H x H' → B x H' Nx1) := by
  refine ⟨fun i m H => m = n - i ∧ i ≤ n ∧ Pv i H, ⟨n, by simp, Nat.zero_le _, h0⟩, ?_⟩
  rintro i m H ⟨rfl, hi, p⟩
  by_cases hlt : i < n
  · refine .inr ⟨hlt, Pv (i + 1), fun H' p' => ⟨n - (i + 1), by omega, rfl, hlt, p'⟩, fun x H' y => ?_⟩
    obtain ⟨rfl, rfl⟩ := y
    exact hs i _ hlt p
  · have e : i = n := by omega
    subst e
    exact .inl ⟨Nat.le_refl _, hd H p⟩
/-- parcels as a list -/
structure PlAt (D : Kd) (T : Nat → Thing) (kd : Bool) (k : Nat) (K : PySem.W.Frag) (G H : Hp) (l : Addr) (as : List Addr) (ps : List Par) : Prop where
  l : SqL K H l (refs as)
  p : Pas D T k G as ps
  ok : ∀ p ∈ ps, ParOk T kd k p
  nd : (ps.flatMap (·.ps)).Nodup
theorem PlAt.len {D : Kd} {T : Nat → Thing} {kd : Bool} {k : Nat} {K : PySem.W.Frag} {G H : Hp} {l : Addr} {as : List Addr} {ps : List Par} (h : PlAt D T kd k K G H l as ps) : ps.length ≤ 4 := by
  have h1 : (ps.flatMap (·.ps)).length ≤ 4 := nodup_lt 4 h.nd fun x hx => by
    obtain ⟨p, hp, hx⟩ := List.mem_flatMap.mp hx
    exact (h.ok p hp).lt x hx
  have h2 : ∀ qs : List Par, (∀ p ∈ qs, p.ps ≠ []) → qs.length ≤ (qs.flatMap (·.ps)).length := by
    intro qs
    induction qs with
    | nil => intro _; simp
    | cons q r ih =>
      intro hq
      have := ih fun p hp => hq p (List.mem_cons_of_mem _ hp)
      have h3 := List.length_pos_iff.mpr (hq q List.mem_cons_self)
      simp only [List.flatMap_cons, List.length_append, List.length_cons]
      omega
  have := h2 ps fun p hp => (h.ok p hp).ne
  omega
theorem nodup_kept {T : Nat → Thing} {kd : Bool} {k : Nat} : ∀ {ps : List Par}, (∀ p ∈ ps, ParOk T kd k p) → (ps.flatMap (·.ps)).Nodup → (ps.flatMap (·.smp.kept)).Nodup
  | [], _, _ => by simp
  | p :: r, h, hn => by
    simp only [List.flatMap_cons] at hn ⊢
    obtain ⟨h1, h2, h3⟩ := List.nodup_append.mp hn
    refine List.nodup_append.mpr ⟨(h p List.mem_cons_self).nd, nodup_kept (fun q hq => h q (List.mem_cons_of_mem _ hq)) h2, fun a ha b hb e => ?_⟩
    obtain ⟨q, hq, hb⟩ := List.mem_flatMap.mp hb
    exact h3 a ((h p List.mem_cons_self).sub a ha) b (List.mem_flatMap.mpr ⟨q, hq, (h q (List.mem_cons_of_mem _ hq)).sub b hb⟩) e
theorem apart_of {T : Nat → Thing} {kd : Bool} {k : Nat} {ps : List Par} (h : ∀ p ∈ ps, ParOk T kd k p) (hn : (ps.flatMap (·.ps)).Nodup) (hl : ps.length ≤ 4) : ApartP ps where
  np := hn
  nk := nodup_kept h hn
  lp := by
    have := nodup_lt 4 hn fun x hx => by
      obtain ⟨p, hp, hx⟩ := List.mem_flatMap.mp hx
      exact (h p hp).lt x hx
    omega
  lk := by
    have := nodup_lt 4 (nodup_kept h hn) fun x hx => by
      obtain ⟨p, hp, hx⟩ := List.mem_flatMap.mp hx
      exact (h p hp).lt x ((h p hp).sub x hx)
    omega
  ln := by omega
theorem PlAt.apart {D : Kd} {T : Nat → Thing} {kd : Bool} {k : Nat} {K : PySem.W.Frag} {G H : Hp} {l : Addr} {as : List Addr} {ps : List Par} (h : PlAt D T kd k K G H l as ps) : ApartP ps := apart_of h.ok h.nd h.len
theorem PlAt.mono {D : Kd} {T : Nat → Thing} {kd : Bool} {k : Nat} {K : PySem.W.Frag} {G H G' H' : Hp} {l : Addr} {as : List Addr} {ps : List Par} (h : PlAt D T kd k K G H l as ps) (g : Same G G') (s : Same H H') : PlAt D T kd k K G' H' l as ps := ⟨s.seq h.l, h.p.mono g, h.ok, h.nd⟩
section
variable {P : Program} {w : World} {K : PySem.W.Frag} {mg : Str → Option Value} {base : Heap} {CE CN : Addr} {D : Kd} {T : Nat → Thing} {k : Nat} {kd : Bool}
def spCkP (D : Kd) (T : Nat → Thing) (kd : Bool) (k : Nat) (K : PySem.W.Frag) : Sp := fun vs H Q _ => ∃ (G : Hp) (l : Addr) (as : List Addr) (ps : List Par), vs = [.ref l] ∧ Same G H ∧ PlAt D T kd k K G H l as ps ∧ ps ≠ [] ∧ ∀ H', Same H H' → Q .non H'
theorem sc40 : FnScope ["parcels"] ["parcels"] (defScope (top 40)) := ⟨rfl, rfl, rfl, by decide +kernel, rfl, by decide +kernel, by decide +kernel⟩
theorem ok_ckp (B : Bn mg) (d : Df K mg "check_parcels" (top 40) ["parcels"]) (cA : Cl P w K mg base "check_apart" ["parcels"] 2 (spApart D T k K)) : Cl P w K mg base "check_parcels" ["parcels"] 3 (spCkP D T kd k K) := by
  refine d.ok sc40 (fun vs H Q E h => ?_) (fun f cdv A outer s0 H vs Q E hr h => ?_)
  · obtain ⟨G, l, as, ps, rfl, _⟩ := h
    rfl
  · obtain ⟨G, l, as, ps, rfl, hG, hP, hne, q⟩ := h
    have las := hP.p.length
    have lp := List.length_pos_iff.mpr hne
    refine ⟨_, pss_cons (ps_if (pt_cmpR op_eq (pe_callB call_len_seq (by rfl) B.len PySem.boot_len (pa_cons (pv 0) pa_nil)) pe_int (nomark _)) pss_never pss_nil) (pss_one (ps_expr (pe_c cA hr (pa_cons (pv 0) pa_nil)))), ?_⟩
    refine ⟨_, rfl, l, _, rfl, .inl hP.l, rfl, _, rfl, ite2 (fun z => ?_) fun _ => ?_⟩
    · have := V.int.inj (of_decide_eq_true z)
      have h2 : (refs as).length = ps.length := by simp [las]
      rw [h2] at this
      omega
    exact ⟨_, rfl, G, l, as, ps, rfl, hG, hP.l, hP.p, hP.apart, q⟩
theorem sc41 : FnScope ["parcels"] ["parcels"] (defScope (top 41)) := ⟨rfl, rfl, rfl, by decide +kernel, rfl, by decide +kernel, by decide +kernel⟩
theorem ok_ckm {t : Tok} (M : mg "MOST_PARCELS" = some (.int 6 t)) (B : Bn mg) (d : Df K mg "check_mergeable" (top 41) ["parcels"]) (cA : Cl P w K mg base "check_parcels" ["parcels"] 3 (spCkP D T kd k K)) : Cl P w K mg base "check_mergeable" ["parcels"] 4 (spCkP D T kd k K) := by
  refine d.ok sc41 (fun vs H Q E h => ?_) (fun f cdv A outer s0 H vs Q E hr h => ?_)
  · obtain ⟨G, l, as, ps, rfl, _⟩ := h
    rfl
  · obtain ⟨G, l, as, ps, rfl, hG, hP, hne, q⟩ := h
    have las := hP.p.length
    have lp := hP.len
    refine ⟨_, pss_cons (ps_if (pt_cmpR op_gt (pe_callB call_len_seq (by rfl) B.len PySem.boot_len (pa_cons (pv 0) pa_nil)) (pe_glob (v := .int 6) (by rfl) M ⟨_, rfl⟩) (nomark _)) pss_never pss_nil) (pss_one (ps_expr (pe_c cA hr (pa_cons (pv 0) pa_nil)))), ?_⟩
    refine ⟨_, rfl, l, _, rfl, .inl hP.l, _, _, rfl, rfl, _, rfl, ite2 (fun z => ?_) fun _ => ?_⟩
    · have := of_decide_eq_true z
      simp at this
      omega
    exact ⟨_, rfl, G, l, as, ps, rfl, hG, hP, hne, q⟩
/-! situation -/
def itNk (T : Nat → Thing) (i : Nat) : NestedKey := .tup [.text (kNm i), .text (T i).g, .num ((T i).w : Int), .num (T i).am]
def vwNk (T : Nat → Thing) (k : Nat) (s : Smp Nat) : NestedKey := .tup [.num (k : Int), .num (s.n : Int), .tup (s.kept.map (itNk T))]
theorem IsIt.nk {H : Hp} {a : Addr} {i : Nat} (h : IsIt T H a i) : NK K H (itNk T i) (.ref a) := .tup (SqT.of h.2) (.cons (.str _) (.cons (.str _) (.cons (.int _) (.cons (.int _) .nil))))
theorem Itms.nks {H : Hp} : ∀ {rs : List Addr} {is : List Nat}, Itms T H rs is → NKs K H (is.map (itNk T)) (refs rs)
  | _, _, .nil => .nil
  | _, _, .cons r t => .cons r.nk (Itms.nks t)
theorem VwIs.nk {H : Hp} {a : Addr} {s : Smp Nat} (h : VwIs T k H a s) : NK K H (vwNk T k s) (.ref a) :=
  let ⟨t, rs, h1, h2, h3⟩ := h
  .tup (SqT.of h1) (.cons (.int _) (.cons (.int _) (.cons (.tup (SqT.of h2) h3.nks) .nil)))
theorem depthAll_le : ∀ {ks : List NestedKey} {n : Nat}, (∀ k ∈ ks, k.depth ≤ n) → NestedKey.depthAll ks ≤ n
  | [], n, _ => by simp [NestedKey.depthAll]
  | k :: ks, n, h => by
    have := depthAll_le (ks := ks) fun x hx => h x (List.mem_cons_of_mem _ hx)
    have h2 := h k List.mem_cons_self
    simp only [NestedKey.depthAll]
    omega
theorem itNk_depth (i : Nat) : (itNk T i).depth ≤ 1 := by simp [itNk, NestedKey.depth, NestedKey.depthAll]
theorem vwNk_depth (s : Smp Nat) : (vwNk T k s).depth ≤ 3 := by
  have : NestedKey.depthAll (s.kept.map (itNk T)) ≤ 1 := depthAll_le fun x hx => by
    obtain ⟨i, _, rfl⟩ := List.mem_map.mp hx
    exact itNk_depth i
  simp only [vwNk, NestedKey.depth, NestedKey.depthAll]
  omega
def spSit (D : Kd) (T : Nat → Thing) (kd : Bool) (k : Nat) (K : PySem.W.Frag) : Sp := fun vs H Q _ => ∃ (G : Hp) (l : Addr) (as : List Addr) (ps : List Par), vs = [.ref l] ∧ Same G H ∧ PlAt D T kd k K G H l as ps ∧ ∀ H' r kk, Same H H' → KeyAt K H' kk r → Q (.ref r) H'
abbrev N42 : List Str := ["parcels", "parts", "sample"]
theorem sc42 : FnScope N42 ["parcels"] (defScope (top 42)) := ⟨rfl, rfl, rfl, by decide +kernel, rfl, by decide +kernel, by decide +kernel⟩
theorem nks_pts {H : Hp} : ∀ l : List Nat, NKs K H (l.map fun i => .text (pNm i)) (ptV l)
  | [] => .nil
  | _ :: r => .cons (.str _) (nks_pts r)
theorem nks_append {H : Hp} : ∀ {a c : List NestedKey} {b d : List V}, NKs K H a b → NKs K H c d → NKs K H (a ++ c) (b ++ d)
  | [], _, _, _, h, g => by cases h; exact g
  | x :: r, _, _, _, h, g => by
    cases h with
    | cons h1 h2 => exact .cons h1 (nks_append h2 g)
theorem ok_sit (B : Bn mg) (O : KdOk K D) (hvf : ("view" : Str) ∉ smN D.f2) (d : Df K mg "situation" (top 42) ["parcels"]) (cV : MtS P w K mg base D.C D.co "view" ["self"] 1 (spView D T k)) : Cl P w K mg base "situation" ["parcels"] 2 (spSit D T kd k K) := by
  refine d.ok sc42 (fun vs H Q E h => ?_) (fun f cdv A outer s0 H vs Q E hr h => ?_)
  · obtain ⟨G, l, as, ps, rfl, _⟩ := h
    rfl
  · obtain ⟨G, l, as, ps, rfl, hG, hP, q⟩ := h
    have nd0 := sc42.nd
    have las := hP.p.length
    have lp := hP.len
    refine ⟨_, pss_one (ps_ret (pe_callTy call_tuple_of (by rfl) B.tuple (by decide +kernel) (pa_cons (pe_lc (own := [("parts", 1), ("sample", 2)]) (g := gTup K 2 (gCons (gName 1) (gCons (gName 2) gNil))) (by rfl) nd0 (pi_list (pv 0))
          (blkOk_by (own := [("parts", 1), ("sample", 2)]) (N := N42) (sc := defScope (top 42)) (by decide +kernel)) (fun _ _ _ _ _ => kg_tup K (by rfl) (pgs_cons (pg_name (i := 1) nd0 rfl (Or.inl rfl)) (pgs_cons (pg_name (i := 2) nd0 rfl (Or.inl rfl)) pgs_nil)))
          (fun _ _ _ _ _ => pts_nil) (fun _ _ _ _ _ => pe_tup (pa_cons (pv 1) (pa_cons (ps_m0 (nm := D.nm) cV O.cl hr (pv 2)) pa_nil)))) pa_nil))), ?_⟩
    refine ⟨_, rfl, l, rfl, ⟨_, hP.l⟩, fun D1 hD1 => walk_list (K := K) (xs := refs as) (fun i H2 => ∃ us ks, Same H H2 ∧ H2 D1 = some (.lst (refs us)) ∧ us.length = i ∧ NKs K H2 ks (refs us) ∧ (∀ k ∈ ks, k.depth ≤ 5)) ⟨[], [], Same.new _ hD1, upd_same, rfl, .nil, by simp⟩ ?_ ?_ ?_⟩
    · rintro i H2 _ ⟨us, ks, s2, _⟩
      exact s2.seq hP.l
    · rintro i x H2 hx ⟨us, ks, s2, d2, lu, hu, hd⟩
      obtain ⟨a, p, rfl, e1, t, s, p1, p2, p3, p4⟩ := hP.p.get hx
      have hi := (List.getElem?_eq_some_iff.mp e1).1
      obtain ⟨dx, L, rs, i1, i2, i3⟩ := p3.ins
      refine ⟨a, _, rfl, SqT.of (s2 _ _ (hG _ _ p1)), rfl, _, _, rfl, _, _, rfl, rfl, rfl, yes_ok ?_⟩
      refine ⟨_, rfl, _, rfl, s, dx, _, rfl, s2 _ _ (hG _ _ i1), s2 _ _ (hG _ _ p3.cls), zlook_none hvf _, ?_⟩
      refine ⟨G, s, p.smp, rfl, hG.trans s2, p3, fun G3 H3 r X3 hV => ⟨(by show 2 ≤ sizeLine; decide), fun u hu' => ?_⟩⟩
      have s3 : Same H2 H3 := fun b o e => X3.kp b o e (by simp)
      have s4 := s3.trans (Same.new (.tup [.ref t, .ref r]) hu')
      have u4 : upd H3 u (.tup [.ref t, .ref r]) u = some _ := upd_same
      have hV4 : VwIs T k (upd H3 u (.tup [.ref t, .ref r])) r p.smp := hV.mono (X3.gh.trans (Same.new _ hu'))
      generalize upd H3 u (.tup [.ref t, .ref r]) = H4 at *
      have d4 := s4 _ _ d2
      have nuD : u ≠ D1 := ne_of u4 d4 (by intro z; cases z)
      have s5 : ∀ {ks : List NestedKey} {vs : List V}, NKs K H4 ks vs → NKs K (upd H4 D1 (.lst (refs us ++ [.ref u]))) ks vs := by
        exact fun h => NKs.sq (sqT_wr d4 (by intro xs z; cases z) (by intro b xs z; cases z)) _ _ h
      refine ⟨_, d4, small1000 (by simp; omega), us ++ [u], ks ++ [.tup [.tup (p.ps.map fun i => .text (pNm i)), vwNk T k p.smp]], (s2.trans s4).mut _ hD1, by rw [upd_same]; simp [refs], by simp [lu], ?_, ?_⟩
      · have h1 : NKs K H4 ks (refs us) := hu.mono s4
        have h2 : NKs K H4 [.tup [.tup (p.ps.map fun i => .text (pNm i)), vwNk T k p.smp]] (refs [u]) := .cons (.tup (SqT.of u4) (.cons (.tup (SqT.of ((s2.trans s4) _ _ (hG _ _ p2))) (nks_pts _)) (.cons hV4.nk .nil))) .nil
        have := s5 (nks_append h1 h2)
        simpa [refs] using this
      · intro x hx
        rcases List.mem_append.mp hx with h | h
        · exact hd x h
        · simp at h
          subst h
          have := vwNk_depth (T := T) (k := k) p.smp
          have h3 : NestedKey.depthAll (p.ps.map fun i => NestedKey.text (pNm i)) ≤ 0 := depthAll_le fun x hx => by
            obtain ⟨i, _, rfl⟩ := List.mem_map.mp hx
            simp [NestedKey.depth]
          simp only [NestedKey.depth, NestedKey.depthAll]
          omega
    rintro H2 ⟨us, ks, s2, d2, lu, hu, hd⟩
    refine ⟨D1, _, rfl, .inl ⟨SqL.of d2, fun r hr' => ?_⟩⟩
    refine q _ r (.tup ks) (s2.trans (Same.new _ hr')) ⟨.tup (SqT.of upd_same) (hu.mono (Same.new _ hr')), ?_⟩
    have := depthAll_le hd
    simp only [NestedKey.depth]
    omega
end
end Sam
end
section
set_option Elab.async false
set_option linter.all false
set_option maxRecDepth 100000
set_option maxHeartbeats 1000000
namespace Sam
open PySem PySem.Spec PyProof.Rows L2
open C8 (pss_cut tCut call_isC InsC)
def mergeAllT (T : Nat → Thing) (kd : Bool) (k : Nat) : Nat → Par → List Par → Tr Par
  | 0, p, _ => .ret p
  | _ + 1, p, [] => .ret p
  | n + 1, p, q :: r => (mergedT T kd k p q).bind fun m => match r with
    | [] => .ret m
    | p' :: r' => mergeAllT T kd k n p' (r' ++ [m])
section
variable {P : Program} {w : World} {K : PySem.W.Frag} {mg : Str → Option Value} {base : Heap} {CE CN : Addr} {D : Kd} {T : Nat → Thing} {k : Nat} {kd : Bool}
def PrIs (H : Hp) (a : Addr) (d : PyData) : Prop := ∃ x y : Int, H a = some (.tup [.int x, .int y]) ∧ d = .tuple [.int x, .int y]
def spPairs (K : PySem.W.Frag) : Sp := fun vs H Q _ => ∃ n : Nat, vs = [.int (n : Int)] ∧ n ≤ 10 ∧ ∀ H' l ds, Same H H' → Dp K H' (.ref l) (.list ds) → SeqAt.shaped (.list ds) = true → Q (.ref l) H'
abbrev N43 : List Str := ["many", "i", "j"]
theorem sc43 : FnScope N43 ["many"] (defScope (top 43)) := ⟨rfl, rfl, rfl, by decide +kernel, rfl, by decide +kernel, by decide +kernel⟩
theorem pr_dp {H : Hp} : ∀ {us : List Addr} {ds : List PyData}, Paired (PrIs H) us ds → DpAll K H (refs us) ds
  | _, _, .nil => .nil
  | _, _, .cons ⟨x, y, h1, h2⟩ t => by
    subst h2
    exact .cons (.tup (SqT.of h1) (.cons (.int _) (.cons (.int _) .nil))) (pr_dp t)
theorem pr_shaped {H : Hp} {us : List Addr} {ds : List PyData} (h : Paired (PrIs H) us ds) : SeqAt.shaped (.list ds) = true := by
  have h1 : PyData.canLayAll0 ds = true ∧ PyData.depthAll ds ≤ 1 := by
    induction h with
    | nil => simp [PyData.canLayAll0, PyData.depthAll]
    | cons h _ ih =>
      obtain ⟨x, y, _, rfl⟩ := h
      refine ⟨by simp [PyData.canLayAll0, PyData.canLay0, ih.1], ?_⟩
      have := ih.2
      simp only [PyData.depthAll, PyData.depth]
      omega
  have h2 := h1.2
  unfold SeqAt.shaped
  have e1 : PyData.canLay0 (.list ds) = true := by simp only [PyData.canLay0, h1.1]
  have e2 : (PyData.list ds).depth ≤ 64 := by
    simp only [PyData.depth]
    omega
  rw [e1, decide_eq_true e2]
  rfl
theorem ok_pairs (B : Bn mg) (d : Df K mg "pairs_of" (top 43) ["many"]) : Cl P w K mg base "pairs_of" ["many"] 1 (spPairs K) := by
  refine d.ok sc43 (fun vs H Q E h => ?_) (fun f cdv A outer s0 H vs Q E hr h => ?_)
  · obtain ⟨n, rfl, _⟩ := h
    rfl
  · obtain ⟨n, rfl, hn, q⟩ := h
    have nd0 := sc43.nd
    refine ⟨_, pss_one (ps_ret (pe_lc2 (own := [("i", 1), ("j", 2)]) (vs1 := [2]) (g := gName 1) (g1 := gName 2) (by rfl) nd0 (pi_range1 rfl B.range (pa_cons (pv 0) pa_nil))
          (blkOk_by (own := [("i", 1), ("j", 2)]) (N := N43) (sc := defScope (top 43)) (by decide +kernel)) (by decide) (fun _ _ _ _ _ => pg_name (i := 1) nd0 rfl (Or.inl rfl))
          (fun _ _ _ _ _ => pts_nil) (fun _ _ _ _ _ => pi_range2 (by rfl) B.range (pa_cons (pe_op op_add (pv 1) pe_int) (pa_cons (pv 0) pa_nil))) (fun _ _ _ _ _ => pg_name (i := 2) nd0 rfl (Or.inl rfl)) (fun _ _ _ _ _ => pts_nil) (fun _ _ _ _ _ => pe_tup (pa_cons (pv 1) (pa_cons (pv 2) pa_nil))))), ?_⟩
    have bnd : ∀ i j : Nat, i ≤ 10 → j ≤ 10 → i * 10 + j ≤ 110 := fun i j _ _ => by omega
    refine ⟨_, rfl, _, rfl, by omega, by omega, fun D1 hD1 => walk_range (fun i H2 => ∃ us ds, Same H H2 ∧ H2 D1 = some (.lst (refs us)) ∧ Paired (PrIs H2) us ds ∧ us.length ≤ i * 10) ⟨[], [], Same.new _ hD1, upd_same, .nil, by simp⟩ ?_ ?_⟩
    · rintro i H2 hi ⟨us, ds, s2, d2, hp, hl⟩
      have hi' : i < n := by simpa using hi
      refine ⟨rfl, yes_ok ?_⟩
      refine ⟨_, rfl, _, _, rfl, rfl, _, rfl, _, _, rfl, ⟨by omega, by omega, by omega, by omega⟩, walk_range (fun j H3 => ∃ us ds, Same H H3 ∧ H3 D1 = some (.lst (refs us)) ∧ Paired (PrIs H3) us ds ∧ us.length ≤ i * 10 + j) ⟨us, ds, s2, d2, hp, by omega⟩ ?_ ?_⟩
      · rintro j H3 hj ⟨us, ds, s3, d3, hp, hl⟩
        have hj' : j < 10 := by
          have : (((n : Nat) : Int) - (0 + (i : Int) + 1)).toNat ≤ n := by omega
          omega
        refine ⟨rfl, yes_ok ?_⟩
        refine ⟨_, rfl, _, rfl, (by show 2 ≤ sizeLine; decide), fun u hu' => ?_⟩
        have s4 := Same.new (.tup [.int (0 + (i : Int)), .int (0 + (i : Int) + 1 + (j : Int))]) hu'
        have u4 : upd H3 u (.tup [.int (0 + (i : Int)), .int (0 + (i : Int) + 1 + (j : Int))]) u = some _ := upd_same
        generalize upd H3 u (.tup [.int (0 + (i : Int)), .int (0 + (i : Int) + 1 + (j : Int))]) = H4 at *
        have d4 := s4 _ _ d3
        have nuD : u ≠ D1 := ne_of u4 d4 (by intro z; cases z)
        refine ⟨_, d4, small1000 (by simp; omega), us ++ [u], ds ++ [.tuple [.int (0 + (i : Int)), .int (0 + (i : Int) + 1 + (j : Int))]], (s3.trans s4).mut _ hD1, by rw [upd_same]; simp [refs], paired_append (Paired.mapP hp fun a b z => ?_) (.cons ⟨_, _, (upd_ne nuD).trans u4, rfl⟩ .nil), by simp; omega⟩
        obtain ⟨x, y, z1, z2⟩ := z
        have z3 := s4 _ _ z1
        exact ⟨x, y, (upd_ne (ne_of z3 d4 (by intro z; cases z))).trans z3, z2⟩
      · rintro H3 ⟨us, ds, s3, d3, hp, hl⟩
        refine ⟨us, ds, s3, d3, hp, ?_⟩
        have : (((n : Nat) : Int) - (0 + (i : Int) + 1)).toNat ≤ 10 := by omega
        rw [Nat.add_mul]
        omega
    · rintro H2 ⟨us, ds, s2, d2, hp, hl⟩
      exact q H2 D1 ds s2 (.lst (SqL.of d2) (pr_dp hp)) (pr_shaped hp)
/-! choice -/
def spChoice (P : Program) (w : World) (D : Kd) (T : Nat → Thing) (kd : Bool) (k : Nat) (K : PySem.W.Frag) : Sp := fun vs H Q _ => ∃ (G : Hp) (l sd : Addr) (as : List Addr) (ps : List Par), vs = [.ref l, .ref sd] ∧ Same G H ∧ PlAt D T kd k K G H l as ps ∧ H sd = some (dnO P w sd []) ∧
  ∀ H' r, Same H H' → SqT K H' r [.int 0, .int 1] → Q (.ref r) H'
theorem sc44 : FnScope ["parcels", "strategy", "pair"] ["parcels", "strategy"] (defScope (top 44)) := ⟨rfl, rfl, rfl, by decide +kernel, rfl, by decide +kernel, by decide +kernel⟩
theorem ok_choice (B : Bn mg) (d : Df K mg "choice" (top 44) ["parcels", "strategy"]) (cS : Cl P w K mg base "situation" ["parcels"] 2 (spSit D T kd k K)) (cP : Cl P w K mg base "pairs_of" ["many"] 1 (spPairs K)) :
    Cl P w K mg base "choice" ["parcels", "strategy"] 3 (spChoice P w D T kd k K) := by
  refine d.ok sc44 (fun vs H Q E h => ?_) (fun f cdv A outer s0 H vs Q E hr h => ?_)
  · obtain ⟨G, l, sd, as, ps, rfl, _⟩ := h
    rfl
  · obtain ⟨G, l, sd, as, ps, rfl, hG, hP, hsd, q⟩ := h
    have nd0 := sc44.nd
    have hu := hr.units
    have hu65 : (A.deeper (envOfC "choice" (defScope (top 44)) s0.heap.objs.size f cdv)).units + 65 < cLine := by have := hr.un; omega
    have las := hP.p.length
    have lp := hP.len
    refine ⟨_, pss_cons (ps_set (i := 2) nd0 rfl (.inl rfl) (pe_nget2 K hu (pv 1) (pe_c cS hr (pa_cons (pv 0) pa_nil)) (pe_tup (pa_cons pe_int (pa_cons pe_int pa_nil))) ⟨rfl, rfl, rfl, rfl⟩))
      (pss_one (ps_ret (pe_ifExp (pt_cmpR (op_inD hu65) (pv 2) (pe_c cP hr (pa_cons (pe_callB call_len_seq (by rfl) B.len PySem.boot_len (pa_cons (pv 0) pa_nil)) pa_nil)) (by with_unfolding_all rfl)) (pv 2) (pe_tup (pa_cons pe_int (pa_cons pe_int pa_nil)))))), ?_⟩
    refine ⟨_, rfl, sd, [], rfl, hsd, by simp, _, rfl, G, l, as, ps, rfl, hG, hP, fun H1 b kk s1 hk => ⟨(by show 2 ≤ sizeLine; decide), fun t ht => ?_⟩⟩
    have s2 := s1.trans (Same.new (.tup [.int 0, .int 1]) ht)
    have hk2 := hk.mono (Same.new (.tup [.int 0, .int 1]) ht)
    have t2 : upd H1 t (.tup [.int 0, .int 1]) t = some _ := upd_same
    generalize upd H1 t (.tup [.int 0, .int 1]) = H2 at *
    refine ⟨b, [], kk, rfl, s2 _ _ hsd, by simp, hk2, ?_⟩
    refine ⟨_, rfl, _, rfl, l, _, rfl, .inl (s2.seq hP.l), ?_⟩
    have hl : (refs as).length = ps.length := by simp [las]
    refine ⟨ps.length, by rw [hl]; rfl, by omega, fun H3 lp' ds s3 hd hsh => ?_⟩
    have t3 := s3 _ _ t2
    refine ⟨.tuple [.int 0, .int 1], ds, .tup (SqT.of t3) (.cons (.int _) (.cons (.int _) .nil)), hd, by decide, hsh, _, rfl, ite2 (fun _ => ?_) fun _ => ?_⟩
    · exact ⟨_, rfl, q H3 t (s2.trans s3) (SqT.of t3)⟩
    · exact ⟨(by show 2 ≤ sizeLine; decide), fun t4 ht4 => q _ t4 ((s2.trans s3).trans (Same.new _ ht4)) (SqT.of upd_same)⟩
/-! after -/
def spAfter (K : PySem.W.Frag) (CE : Addr) (D : Kd) (T : Nat → Thing) (kd : Bool) (k : Nat) : Sp := fun vs H Q _ => ∃ (G : Hp) (l pr : Addr) (X : DX) (as : List Addr) (p q : Par) (r : List Par) (x : ES), vs = [.ref l, .ref pr, .ref X.e] ∧ Same G H ∧ PlAt D T kd k K G H l as (p :: q :: r) ∧ SqT K H pr [.int 0, .int 1] ∧
  DiAt K CE G H X x ∧ (mergedT T kd k p q).Run x ∧ ∀ G' H' l' as', Ext X.ms G H G' H' → DiAt K CE G' H' X ((mergedT T kd k p q).exec x).2 → H' l' = some (.lst (refs as')) → H l' = none → Pas D T k G' as' (r ++ [((mergedT T kd k p q).exec x).1]) → Q (.ref l') H'
abbrev N45 : List Str := ["parcels", "pair", "dice", "others", "number", "parcel"]
theorem sc45 : FnScope N45 ["parcels", "pair", "dice"] (defScope (top 45)) := ⟨rfl, rfl, rfl, by decide +kernel, rfl, by decide +kernel, by decide +kernel⟩
theorem rm01 {α : Type} (a b : α) (r : List α) : rm [0, 1] (a :: b :: r) = r := by
  unfold rm
  rw [List.zipIdx_cons, List.zipIdx_cons]
  rw [List.filter_cons_of_neg (by simp), List.filter_cons_of_neg (by simp)]
  have h : ∀ (l : List α) (n : Nat), 2 ≤ n → (l.zipIdx n).filter (fun p => !([0, 1] : List Nat).contains p.2) = l.zipIdx n := by
    intro l
    induction l with
    | nil => intro n _; rfl
    | cons x t ih =>
      intro n hn
      rw [List.zipIdx_cons, List.filter_cons_of_pos (by simp; omega), ih _ (by omega)]
  rw [h r _ (by omega)]
  simp
theorem inV_01 (n : Nat) : inV (.int (n : Int)) [.int 0, .int 1] = [0, 1].contains n := inV_two n 0 1
theorem ok_after (B : Bn mg) (d : Df K mg "after" (top 45) ["parcels", "pair", "dice"]) (cM : Cl P w K mg base "merged" ["first", "second", "dice"] 5 (spMerged K CE D T kd k)) : Cl P w K mg base "after" ["parcels", "pair", "dice"] 6 (spAfter K CE D T kd k) := by
  refine d.ok sc45 (fun vs H Q E h => ?_) (fun f cdv A outer s0 H vs Q E hr h => ?_)
  · obtain ⟨G, l, pr, X, as, p, q, r, x, rfl, _⟩ := h
    rfl
  · obtain ⟨G, l, pr, X, as, p, q, r, x, rfl, hG, hP, hpr, hE, hrun, hq⟩ := h
    have nd0 := sc45.nd
    have las := hP.p.length
    have lp := hP.len
    refine ⟨_, pss_cons (ps_setLc (i := 3) (own := [("number", 4), ("parcel", 5)]) (g := gTup K 2 (gCons (gName 4) (gCons (gName 5) gNil))) (by rfl) nd0 rfl rfl (sw_true rfl rfl rfl (by rfl)) (pi_enum rfl B.enumerate (pa_cons (pv 0) pa_nil))
          (blkOk_by (own := [("number", 4), ("parcel", 5)]) (N := N45) (sc := defScope (top 45)) (by decide +kernel)) (fun _ _ _ _ _ => kg_tup K (by rfl) (pgs_cons (pg_name (i := 4) nd0 rfl (Or.inl rfl)) (pgs_cons (pg_name (i := 5) nd0 rfl (Or.inl rfl)) pgs_nil)))
          (fun _ _ _ _ _ => pts_one (pt_cmpR (ko_notIn K) (pv 4) (pv 1) (by with_unfolding_all rfl))) (fun _ _ _ _ _ => pv 5))
      (pss_one (ps_ret (pe_op op_cat (pv 3) (pe_lst (pa_cons (pe_c cM hr (pa_cons (pe_ix ix_list (pv 0) (pe_ix ix_tup (pv 1) pe_int (fun _ _ => rfl)) (fun _ _ => rfl)) (pa_cons (pe_ix ix_list (pv 0) (pe_ix ix_tup (pv 1) pe_int (fun _ _ => rfl)) (fun _ _ => rfl)) (pa_cons (pv 2) pa_nil)))) pa_nil))))), ?_⟩
    refine ⟨_, rfl, l, refs as, rfl, hP.l, fun D1 hD1 => walk_enum (K := K) (xs := refs as) (fun n H2 => Same H H2 ∧ H2 D1 = some (.lst (refs (rm [0, 1] (as.take n))))) ⟨Same.new _ hD1, upd_same⟩ ?_ ?_ ?_⟩
    · rintro n H2 _ ⟨s2, _⟩
      exact s2.seq hP.l
    · rintro n y H2 t hy ⟨s2, d2⟩ ht
      rw [List.getElem?_map] at hy
      obtain ⟨b, hb, rfl⟩ := Option.map_eq_some_iff.mp hy
      have hn := (List.getElem?_eq_some_iff.mp hb).1
      have s3 := s2.trans (Same.new (.tup [V.int (n : Nat), .ref b]) ht)
      have d3 := Same.new (.tup [V.int (n : Nat), .ref b]) ht _ _ d2
      have t3 : upd H2 t (.tup [V.int (n : Nat), .ref b]) t = some _ := upd_same
      generalize upd H2 t (.tup [V.int (n : Nat), .ref b]) = H3 at *
      refine ⟨t, _, rfl, SqT.of t3, rfl, _, _, rfl, _, _, rfl, rfl, rfl, ?_⟩
      refine ⟨_, rfl, _, rfl, pr, _, rfl, .inr (s3.seqT hpr), rfl, rfl, _, rfl, ?_⟩
      rw [inV_01, rm_take [0, 1] hb]
      show if (!([0, 1].contains n)) = true then _ else _
      by_cases hc : [0, 1].contains n = true
      · rw [if_pos hc, List.append_nil, hc]
        exact iteF ⟨s3, d3⟩
      · have hc' : [0, 1].contains n = false := by simpa using hc
        rw [if_neg hc, hc']
        refine iteT ⟨_, rfl, _, d3, small1000 ?_, s3.mut _ hD1, ?_⟩
        · have := rm_len [0, 1] (as.take n)
          simp at this ⊢
          omega
        · rw [upd_same]; simp [refs]
    rintro H2 ⟨s2, d2⟩
    have e3 : as.take (refs as).length = as := by rw [List.take_of_length_le]; simp [refs]
    rw [e3] at d2
    obtain ⟨pa, hpa, hpp⟩ := paired_get' hP.p (show (p :: q :: r)[0]? = some p from rfl)
    obtain ⟨qa, hqa, hqq⟩ := paired_get' hP.p (show (p :: q :: r)[1]? = some q from rfl)
    have hx0 : (refs as)[0]? = some (.ref pa) := by rw [List.getElem?_map, hpa]; rfl
    have hx1 : (refs as)[1]? = some (.ref qa) := by rw [List.getElem?_map, hqa]; rfl
    have X2 : Ext X.ms G H G H2 := Ext.same hG s2
    have hop := hP.ok p (by simp)
    have hoq := hP.ok q (by simp)
    have hpq : (p.ps ++ q.ps).Nodup := by
      have := hP.nd
      simp only [List.flatMap_cons] at this
      rw [← List.append_assoc] at this
      exact (List.nodup_append.mp this).1
    refine ⟨_, rfl, _, rfl, _, rfl, pr, _, _, _, rfl, rfl, s2.seqT hpr, atI_nat (j := 0) rfl, l, _, _, _, rfl, rfl, s2.seq hP.l, atI_nat (j := 0) hx0, _, rfl, _, rfl, pr, _, _, _, rfl, rfl, s2.seqT hpr, atI_nat (j := 1) rfl, l, _, _, _, rfl, rfl, s2.seq hP.l, atI_nat (j := 1) hx1, _, rfl, ?_⟩
    refine ⟨G, pa, qa, X, p, q, x, rfl, X2.gh, hpp, hqq, ExAt.same (D := X) hE hE X2 (Same.refl _) s2, ⟨hop.val, hoq.val⟩, apart_of (T := T) (kd := kd) (k := k) (by
      intro y hy
      simp at hy
      rcases hy with rfl | rfl
      · exact hop
      · exact hoq) (by simpa using hpq) (by simp), ⟨hop.ne, hoq.ne⟩, hrun, fun G3 H3 rr X3 D3 hR => ⟨(by show 1 ≤ sizeLine; decide), fun t3 ht3 => ?_⟩⟩
    have X4 := (X2.trans X3 fun b hb => .inl hb).tmp (o := .lst [V.ref rr]) ht3
    have s4 := Same.new (.lst [V.ref rr]) ht3
    have d4 : upd H3 t3 (.lst [V.ref rr]) t3 = some _ := upd_same
    have nD : D1 ∉ X.ms := by
      intro hm
      obtain ⟨c, z1, _⟩ := hE.ins
      obtain ⟨ps, z2, _⟩ := hE.path
      simp [DX.ms] at hm
      rcases hm with h | h
      · rw [h, z1] at hD1; cases hD1
      · rw [h, z2] at hD1; cases hD1
    have d2' := s4 _ _ (X3.kp _ _ d2 nD)
    have E4 := ExAt.same (D := X) D3 hE X4 (Same.refl _) s4
    generalize upd H3 t3 (.lst [V.ref rr]) = H4 at *
    refine ⟨D1, t3, _, _, rfl, rfl, d2', d4, ?_, fun P2 hP2 => ?_⟩
    · have := rm_len [0, 1] as
      exact Nat.le_of_lt (small1000 (by simp; omega))
    have er : refs (rm [0, 1] as) ++ [V.ref rr] = refs (rm [0, 1] as ++ [rr]) := by simp [refs]
    rw [er]
    have X5 := X4.tmp (o := .lst (refs (rm [0, 1] as ++ [rr]))) hP2
    refine hq G3 _ P2 _ X5 (ExAt.same (D := X) E4 hE X5 (Same.refl _) (Same.new _ hP2)) upd_same (X4.dm _ hP2) (paired_append ?_ (.cons hR .nil))
    have := paired_rm [0, 1] (Pas.mono X3.gg hP.p)
    rw [rm01] at this
    exact this
/-! merge_all -/
def spMAll (P : Program) (w : World) (K : PySem.W.Frag) (CE : Addr) (D : Kd) (T : Nat → Thing) (kd : Bool) (k : Nat) : Sp := fun vs H Q _ => ∃ (G : Hp) (l sd : Addr) (X : DX) (as : List Addr) (p : Par) (r : List Par) (x : ES), vs = [.ref l, .ref sd, .ref X.e] ∧ Same G H ∧ PlAt D T kd k K G H l as (p :: r) ∧ H sd = some (dnO P w sd []) ∧
  DiAt K CE G H X x ∧ (mergeAllT T kd k r.length p r).Run x ∧ ∀ G' H' a, Ext X.ms G H G' H' → DiAt K CE G' H' X ((mergeAllT T kd k r.length p r).exec x).2 → PaIs D T k G' a ((mergeAllT T kd k r.length p r).exec x).1 → Q (.ref a) H'
theorem sc46 : FnScope ["parcels", "strategy", "dice", "left"] ["parcels", "strategy", "dice"] (defScope (top 46)) := ⟨rfl, rfl, rfl, by decide +kernel, rfl, by decide +kernel, by decide +kernel⟩
theorem ok_mall (B : Bn mg) (d : Df K mg "merge_all" (top 46) ["parcels", "strategy", "dice"]) (cK : Cl P w K mg base "check_mergeable" ["parcels"] 4 (spCkP D T kd k K)) (cA : Cl P w K mg base "after" ["parcels", "pair", "dice"] 6 (spAfter K CE D T kd k))
    (cC : Cl P w K mg base "choice" ["parcels", "strategy"] 3 (spChoice P w D T kd k K)) : Cl P w K mg base "merge_all" ["parcels", "strategy", "dice"] 7 (spMAll P w K CE D T kd k) := by
  refine d.ok sc46 (fun vs H Q E h => ?_) (fun f cdv A outer s0 H vs Q E hr h => ?_)
  · obtain ⟨G, l, sd, X, as, p, r, x, rfl, _⟩ := h
    rfl
  · obtain ⟨G, l, sd, X, as, p, r, x, rfl, hG, hP, hsd, hE, hrun, hq⟩ := h
    have nd0 := sc46.nd
    refine ⟨_, pss_cons (ps_expr (pe_c cK hr (pa_cons (pv 0) pa_nil))) (pss_cons (ps_set (i := 3) nd0 rfl (.inl rfl) (pe_callTy call_list_of (by rfl) B.list (by decide +kernel) (pa_cons (pv 0) pa_nil)))
      (pss_cons (ps_while PassesOwn.never (pt_cmpR op_gt (pe_callB call_len_seq (by rfl) B.len PySem.boot_len (pa_cons (pv 3) pa_nil)) pe_int (nomark _))
        (pss_one (ps_set (i := 3) nd0 rfl (.inl rfl) (pe_c cA hr (pa_cons (pv 3) (pa_cons (pe_c cC hr (pa_cons (pv 3) (pa_cons (pv 1) pa_nil))) (pa_cons (pv 2) pa_nil)))))))
      (pss_one (ps_ret (pe_ix ix_list (pv 3) pe_int (fun _ _ => rfl)))))), ?_⟩
    refine ⟨_, rfl, G, l, as, p :: r, rfl, hG, hP, by simp, fun H1 s1 => ?_⟩
    refine ⟨_, rfl, l, _, rfl, .inl (s1.seq hP.l), fun l2 hl2 => ?_⟩
    have X1 : Ext X.ms G H G H1 := Ext.same hG s1
    have X2 := X1.tmp (o := .lst (refs as)) hl2
    have s2 := s1.trans (Same.new (.lst (refs as)) hl2)
    have d2 : upd H1 l2 (.lst (refs as)) l2 = some _ := upd_same
    have E2 := ExAt.same (D := X) hE hE X2 (Same.refl _) s2
    have n2 := s1.free hl2
    generalize upd H1 l2 (.lst (refs as)) = H2 at *
    refine ⟨fun (n : Nat) σ H3 => ∃ l3 as3 p3 r3 x3 G3, σ = [some (.ref l), some (.ref sd), some (.ref X.e), some (.ref l3)] ∧ Ext X.ms G H G3 H3 ∧ H3 l3 = some (.lst (refs as3)) ∧ H l3 = none ∧ PlAt D T kd k K G3 H3 l3 as3 (p3 :: r3) ∧ DiAt K CE G3 H3 X x3 ∧ r3.length = n ∧
        (mergeAllT T kd k n p3 r3).Run x3 ∧ (mergeAllT T kd k n p3 r3).exec x3 = (mergeAllT T kd k r.length p r).exec x, ⟨r.length, l2, as, p, r, x, G, rfl, X2, d2, n2, ⟨SqL.of d2, hP.p, hP.ok, hP.nd⟩, E2, rfl, hrun, rfl⟩, ?_⟩
    rintro n σ H3 ⟨l3, as3, p3, r3, x3, G3, rfl, X3, d3, n3, P3, E3, hn, R3, eq3⟩
    have las := P3.p.length
    have hlen : (refs as3).length = r3.length + 1 := by simp [las]
    refine ⟨_, rfl, l3, _, rfl, .inl P3.l, _, _, rfl, rfl, _, rfl, ite2 (fun hgt => ?_) fun hle => ?_⟩
    · have hpos : 0 < n := by
        have := of_decide_eq_true hgt
        rw [hlen] at this
        omega
      obtain ⟨m, rfl⟩ : ∃ m, n = m + 1 := ⟨n - 1, by omega⟩
      cases r3 with
      | nil => simp at hn
      | cons q3 t3 =>
      refine ⟨_, fun σ' H' z => ⟨m, Nat.lt_succ_self _, z⟩, ?_⟩
      obtain ⟨R4, R5⟩ := (Tr.Run_bind _ _ _).mp (show ((mergedT T kd k p3 q3).bind fun m' => match t3 with
        | [] => .ret m'
        | p' :: r' => mergeAllT T kd k m p' (r' ++ [m'])).Run x3 from R3)
      have eq4 : (((mergedT T kd k p3 q3).bind fun m' => match t3 with
        | [] => .ret m'
        | p' :: r' => mergeAllT T kd k m p' (r' ++ [m'])).exec x3) = (mergeAllT T kd k r.length p r).exec x := eq3
      rw [Tr.exec_bind] at eq4
      refine ⟨_, rfl, _, rfl, _, rfl, G3, l3, sd, as3, p3 :: q3 :: t3, rfl, X3.gh, P3, X3.kp _ _ hsd ?_, fun H4 pr s4 hpr => ⟨_, rfl, G3, l3, pr, X, as3, p3, q3, t3, x3, rfl, X3.gh.trans s4, P3.mono (Same.refl _) s4, hpr, ?_, R4, fun G5 H5 l5 as5 X5 E5 d5 n5 P5 => ?_⟩⟩
      · intro hm
        obtain ⟨c, z1, _⟩ := hE.ins
        obtain ⟨ps, z2, _⟩ := hE.path
        simp [DX.ms] at hm
        rcases hm with h | h
        · rw [h, z1] at hsd
          cases hsd
        · rw [h, z2] at hsd; cases hsd
      · exact ExAt.same (D := X) E3 hE (X3.trans (Ext.same (ms := []) X3.gh s4) (by simp)) (Same.refl _) s4
      · have hop := P3.ok p3 (by simp)
        have hoq := P3.ok q3 (by simp)
        have hnd3 := P3.nd
        simp only [List.flatMap_cons] at hnd3
        rw [← List.append_assoc] at hnd3
        have hpq := (List.nodup_append.mp hnd3).1
        obtain ⟨mo, mps, _⟩ := Tr.All.exec (merged_all hop hoq hpq) R4
        generalize hm : (mergedT T kd k p3 q3).exec x3 = mx at *
        obtain ⟨m', x'⟩ := mx
        simp only at mo mps eq4 R5 E5 P5
        have X45 := (X3.trans (Ext.same (ms := []) X3.gh s4) (by simp)).trans X5 (fun b hb => .inl hb)
        have hok : ∀ y ∈ t3 ++ [m'], ParOk T kd k y := fun y hy => by
          rcases List.mem_append.mp hy with h | h
          · exact P3.ok y (by simp [h])
          · simp at h; subst h; exact mo
        have hnd5 : ((t3 ++ [m']).flatMap (·.ps)).Nodup := by
          have e : ((t3 ++ [m']).flatMap (·.ps)).Perm ((p3.ps ++ q3.ps) ++ t3.flatMap (·.ps)) := by
            simp only [List.flatMap_append, List.flatMap_cons, List.flatMap_nil, List.append_nil]
            rw [mps]
            exact List.perm_append_comm.trans ((so_perm _).append_right _)
          exact e.symm.nodup hnd3
        cases t3 with
        | nil =>
          simp at hn
          subst hn
          exact ⟨l5, as5, m', [], x', G5, rfl, X45, d5, X3.dm _ (s4.free n5), ⟨SqL.of d5, P5, hok, hnd5⟩, E5, rfl, trivial, eq4⟩
        | cons p' r' =>
          refine ⟨l5, as5, p', r' ++ [m'], x', G5, rfl, X45, d5, X3.dm _ (s4.free n5), ⟨SqL.of d5, P5, hok, hnd5⟩, E5, by simp at hn ⊢; omega, R5, eq4⟩
    · have h0 : r3 = [] := by
        cases r3 with
        | nil => rfl
        | cons a t =>
          exfalso
          apply hle
          rw [hlen]
          exact decide_eq_true (by simp; omega)
      subst h0
      obtain ⟨pa, hpa, hpp⟩ := paired_get' P3.p (show [p3][0]? = some p3 from rfl)
      have hx0 : (refs as3)[0]? = some (.ref pa) := by rw [List.getElem?_map, hpa]; rfl
      have hn0 : n = 0 := by simpa using hn.symm
      subst hn0
      have eq5 : (p3, x3) = (mergeAllT T kd k r.length p r).exec x := eq3
      refine ⟨_, rfl, l3, _, _, _, rfl, rfl, P3.l, atI_nat (j := 0) hx0, hq G3 H3 pa X3 ?_ ?_⟩
      · rw [← eq5]; exact E3
      · rw [← eq5]; exact hpp
end
end Sam
end
section
set_option Elab.async false
set_option linter.all false
set_option maxRecDepth 100000
set_option maxHeartbeats 1000000
namespace Sam
open PySem PySem.Spec PyProof.Rows L2
open C8 (pss_cut tCut call_isC InsC)
theorem adv_snoc (p : Path) (i : Nat) (ws : List Nat) : adv (p ++ [(i, ws)]) = match nxt ws (i + 1) with
    | some o => some (p ++ [(o, ws)])
    | none => adv p := by
  rw [adv_append]
  cases h : nxt ws (i + 1) with
  | some o => simp [adv, h]
  | none => simp [adv, h]
theorem adv_len : ∀ {p q : Path}, adv p = some q → q.length ≤ p.length
  | [], q, h => by simp [adv] at h
  | (i, ws) :: r, q, h => by
    simp only [adv] at h
    cases e : adv r with
    | some r' =>
      rw [e] at h
      simp at h
      subst h
      have := adv_len e
      simp; omega
    | none =>
      rw [e] at h
      cases e2 : nxt ws (i + 1) with
      | none => rw [e2] at h; simp at h
      | some o =>
        rw [e2] at h
        simp at h
        subst h
        simp
theorem nxt_none' {ws : List Nat} {j : Nat} (h : ∀ i, j ≤ i → i < ws.length → ¬ 0 < ws.getD i 0) : nxt ws j = none := by
  unfold nxt
  rw [List.find?_eq_none]
  intro i hi
  obtain ⟨m, hm⟩ := List.mem_iff_getElem?.mp hi
  rw [List.getElem?_drop] at hm
  have hb := (List.getElem?_eq_some_iff.mp hm).1
  rw [List.getElem?_range (by simpa using hb)] at hm
  have : j + m = i := Option.some.inj hm
  have := h i (by omega) (by simp at hb; omega)
  simpa using this
theorem nxt_some' {ws : List Nat} {j o : Nat} (h1 : j ≤ o) (h2 : o < ws.length) (h3 : 0 < ws.getD o 0) (h : ∀ i, j ≤ i → i < o → ¬ 0 < ws.getD i 0) : nxt ws j = some o := by
  cases e : nxt ws j with
  | none => exact absurd h3 (nxt_none e o h1 h2)
  | some o' =>
    obtain ⟨a, b, c, d⟩ := nxt_spec e
    by_cases hlt : o < o'
    · exact absurd h3 (d o h1 hlt)
    · by_cases hgt : o' < o
      · exact absurd c (h o' a hgt)
      · rw [show o' = o by omega]
section
variable {P : Program} {w : World} {K : PySem.W.Frag} {mg : Str → Option Value} {base : Heap} {CE : Addr}
/-! advance -/
def spAdv (K : PySem.W.Frag) (CE : Addr) : Sp := fun vs H Q _ => ∃ (G : Hp) (X : DX) (x : ES), vs = [.ref X.e] ∧ Same G H ∧ DiAt K CE G H X x ∧ (∀ q ∈ x.path, q.2.length ≤ 24 ∧ q.1 ≤ 24) ∧
  ∀ G' H', Ext [X.Pa] G H G' H' → DiAt K CE G' H' X ⟨(adv x.path).getD [], x.at_, x.ch⟩ → Q (.bl (adv x.path).isSome) H'
theorem scE1 : FnScope ["self", "number", "weights", "other"] ["self"] (defScope (eS 1)) := ⟨rfl, rfl, rfl, by decide +kernel, rfl, by decide +kernel, by decide +kernel⟩
theorem ok_adv (B : Bn mg) (cE : ECl K CE) (d : Dm K CE "advance" "Explorer.advance" (eS 1) ["self"]) : Mt P w K mg base CE "advance" ["self"] 1 (spAdv K CE) := by
  refine d.ok scE1 (fun vs H Q E h => ?_) (fun f cdv A outer s0 H vs Q E hr h => ?_)
  · obtain ⟨G, X, x, rfl, _⟩ := h
    rfl
  · obtain ⟨G, X, x, rfl, hG, hE, hw, q⟩ := h
    have nd0 := scE1.nd
    refine ⟨_, pss_cons (ps_while PassesOwn.never (pt_cmpR op_gt (pe_callB call_len_seq (by rfl) B.len PySem.boot_len (pa_cons (pe_fld (pv 0) rfl) pa_nil)) pe_int (nomark _))
        (pss_cons (ps_asg (pe_bm0 PySem.F.plainAttrs_list PySem.F.slot_list_pop PySem.F.type_list_pop mt_pop (pe_fld (pv 0) rfl)) (pg_tup rfl (pgs_cons (pg_name (i := 1) nd0 rfl (Or.inl rfl)) (pgs_cons (pg_name (i := 2) nd0 rfl (Or.inl rfl)) pgs_nil))))
        (pss_one (ps_for PassesOwn.never rfl (pi_range2 rfl B.range (pa_cons (pe_op op_add (pv 1) pe_int) (pa_cons (pe_callB call_len_seq (by rfl) B.len PySem.boot_len (pa_cons (pv 2) pa_nil)) pa_nil))) (pg_name (i := 3) nd0 rfl (.inl rfl))
          (pss_one (ps_if (pt_cmpR op_gt (pe_ix ix_list (pv 2) (pv 3) (fun _ _ => rfl)) pe_int (nomark _))
            (pss_cons (ps_expr (pe_bm PySem.F.plainAttrs_list PySem.F.slot_list_append PySem.F.type_list_append mt_append (pe_fld (pv 0) rfl) (pa_cons (pe_tup (pa_cons (pv 3) (pa_cons (pv 2) pa_nil))) pa_nil))) (pss_one (ps_ret pe_bl))) pss_nil))))))
      (pss_one (ps_ret pe_bl)), ?_⟩
    obtain ⟨c0, he, hc0⟩ := hE.ins
    obtain ⟨ps0, hP, hps⟩ := hE.path
    have neP := hE.ne
    -- the heap behind: path p at P
    have fin : ∀ (G2 H2 : Hp) (p : Path) (ps : List Addr), Ext [X.Pa] G H G2 H2 → H2 X.Pa = some (.lst (refs ps)) → Paired (PickAt G2) ps p → p.length ≤ x.path.length → DiAt K CE G2 H2 X ⟨p, x.at_, x.ch⟩ := by
      intro G2 H2 p ps X2 hP2 hp2 hl
      have := hE.ch
      exact ⟨⟨c0, X2.kp _ _ he (by simpa using neP), X2.gg.seqT hc0⟩, ⟨ps, hP2, hp2⟩, X2.out hE.ge he, X2.out hE.gp hP, ⟨this.at_, Nat.le_trans hl this.ln, this.lo, this.hi, this.dv⟩⟩
    refine ⟨fun (n : Nat) σ H2 => ∃ v1 v2 v3 ps p G2, σ = [some (.ref X.e), v1, v2, v3] ∧ Ext [X.Pa] G H G2 H2 ∧ H2 X.Pa = some (.lst (refs ps)) ∧ Paired (PickAt G2) ps p ∧ p.length = n ∧ p.length ≤ x.path.length ∧ adv p = adv x.path ∧ (∀ q ∈ p, q.2.length ≤ 24 ∧ q.1 ≤ 24),
      ⟨x.path.length, none, none, none, ps0, x.path, G, rfl, Ext.refl hG, hP, hps, rfl, Nat.le_refl _, rfl, hw⟩, ?_⟩
    rintro n σ H2 ⟨v1, v2, v3, ps, p, G2, rfl, X2, hP2, hp2, hn, hle, hadv, hw2⟩
    have he2 := X2.kp _ _ he (by simpa using neP)
    have hpl : ps.length = p.length := hp2.length
    refine ⟨_, rfl, X.e, CE, X.dx, _, _, rfl, he2, cE.cl, cE.n 0, zlook (i := 0) exN_nd rfl, X.Pa, _, rfl, .inl (SqL.of hP2), _, _, rfl, rfl, _, rfl, ite2 (fun hgt => ?_) fun hz => ?_⟩
    · -- pop
      have hpos : 0 < p.length := by
        have := of_decide_eq_true hgt
        simp at this
        omega
      obtain ⟨m, rfl⟩ : ∃ m, n = m + 1 := ⟨n - 1, by omega⟩
      obtain ⟨p', ⟨num, ws⟩, rfl⟩ : ∃ p' e, p = p' ++ [e] := ⟨p.dropLast, p.getLast (by intro z; simp [z] at hpos), (List.dropLast_concat_getLast _).symm⟩
      have hlen' : p'.length = m := by simp at hn; omega
      obtain ⟨ps', a, rfl⟩ : ∃ ps' a, ps = ps' ++ [a] := ⟨ps.dropLast, ps.getLast (by intro z; simp [z] at hpl), (List.dropLast_concat_getLast _).symm⟩
      have hpl' : ps'.length = p'.length := by simp at hpl; omega
      obtain ⟨hh1, hh2⟩ : Paired (PickAt G2) ps' p' ∧ PickAt G2 a (num, ws) := by
        have key : ∀ {l l' : List Addr} {m m' : Path}, l.length = m.length → Paired (PickAt G2) (l ++ l') (m ++ m') → Paired (PickAt G2) l m ∧ Paired (PickAt G2) l' m' := by
          intro l
          induction l with
          | nil =>
            intro l' m m' hl h
            have : m = [] := List.eq_nil_of_length_eq_zero (by simpa using hl.symm)
            subst this
            exact ⟨.nil, h⟩
          | cons b t ih =>
            intro l' m m' hl h
            cases m with
            | nil => simp at hl
            | cons y u =>
              cases h with
              | cons h1 h2 =>
                obtain ⟨i1, i2⟩ := ih (by simpa using hl) h2
                exact ⟨.cons h1 i1, i2⟩
        obtain ⟨k1, k2⟩ := key hpl' hp2
        cases k2 with
        | cons k3 _ => exact ⟨k1, k3⟩
      obtain ⟨wl, hp2a, hp2b⟩ := hh2
      obtain ⟨hwl, hnm⟩ : ws.length ≤ 24 ∧ num ≤ 24 := hw2 (num, ws) (by simp)
      refine ⟨_, fun σ' H' z => ⟨m, Nat.lt_succ_self _, z⟩, ?_⟩
      refine ⟨_, rfl, X.e, CE, X.dx, _, _, rfl, he2, cE.cl, cE.n 0, zlook (i := 0) exN_nd rfl, .inl ⟨rfl, _, SqL.of hP2⟩, X.Pa, _, .ref a, rfl, rfl, hP2, by simp [refs], ?_⟩
      have gP2 := X2.out hE.gp hP
      have X3 := X2.wr (m := X.Pa) (o := .lst (refs ps')) (.inl (by simp)) gP2
      have e1 : (refs (ps' ++ [a])).dropLast = refs ps' := by simp [refs]
      rw [e1]
      have hP3 : upd H2 X.Pa (.lst (refs ps')) X.Pa = some _ := upd_same
      generalize upd H2 X.Pa (.lst (refs ps')) = H3 at *
      have he3 := X3.kp _ _ he (by simpa using neP)
      have hwl3 : H3 wl = some (.lst (intsV ws)) := X3.gh _ _ hp2b
      refine ⟨a, _, rfl, SqT.of (X3.gh _ _ hp2a), rfl, _, _, rfl, _, _, rfl, rfl, ?_⟩
      have hlen3 : ((intsV ws).length : Int) = (ws.length : Int) := by simp [intsV]
      refine ⟨_, rfl, _, _, rfl, rfl, _, rfl, wl, _, rfl, .inl (SqL.of hwl3), _, _, rfl, ?_, ?_⟩
      · rw [hlen3]
        exact ⟨by omega, by omega, by omega, by omega⟩
      have hadv' : adv (p' ++ [(num, ws)]) = match nxt ws (num + 1) with
        | some o => some (p' ++ [(o, ws)])
        | none => adv p' := adv_snoc p' num ws
      refine for_range (lo := (num : Int) + 1) (fun i σ H4 => H4 = H3 ∧ ∃ v3, σ = [some (.ref X.e), some (.int (num : Int)), some (.ref wl), v3] ∧ ∀ j, num + 1 ≤ j → j < num + 1 + i → ¬ 0 < ws.getD j 0) ⟨rfl, v3, rfl, by omega⟩ ?_ ?_
      · rintro i σ H4 hi ⟨rfl, v3, rfl, hno⟩
        have hi' : num + 1 + i < ws.length := by rw [hlen3] at hi; omega
        have hc : ((num : Int) + 1 + (i : Int)) = ((num + 1 + i : Nat) : Int) := by omega
        rw [hc]
        refine ⟨_, rfl, _, rfl, wl, _, _, _, rfl, rfl, SqL.of hwl3, atI_nat (intsV_at hi'), _, _, rfl, rfl, _, rfl, ite2 (fun hp => ?_) fun hp => ?_⟩
        · have hp' : 0 < ws.getD (num + 1 + i) 0 := by
            have := of_decide_eq_true hp
            omega
          have hnx := nxt_some' (ws := ws) (j := num + 1) (o := num + 1 + i) (by omega) hi' hp' hno
          rw [hnx] at hadv'
          refine ⟨_, rfl, X.e, CE, X.dx, _, _, rfl, he3, cE.cl, cE.n 0, zlook (i := 0) exN_nd rfl, .inl ⟨rfl, _, SqL.of hP3⟩, _, rfl, _, rfl, (by show 2 ≤ sizeLine; decide), fun t ht => ?_⟩
          have X4 := X3.new (o := .tup [.int ((num + 1 + i : Nat) : Int), .ref wl]) ht
          have g4 := Same.new (.tup [.int ((num + 1 + i : Nat) : Int), .ref wl]) (X3.gh.free ht)
          have t4 : upd G2 t (.tup [.int ((num + 1 + i : Nat) : Int), .ref wl]) t = some _ := upd_same
          have hP4 := Same.new (.tup [.int ((num + 1 + i : Nat) : Int), .ref wl]) ht _ _ hP3
          generalize upd H4 t (.tup [.int ((num + 1 + i : Nat) : Int), .ref wl]) = H5 at *
          generalize upd G2 t (.tup [.int ((num + 1 + i : Nat) : Int), .ref wl]) = G5 at *
          refine ⟨X.Pa, _, _, rfl, rfl, hP4, small1000 ?_, ?_⟩
          · have := hE.ch.ln
            simp at hle ⊢; omega
          · have gP4 := X4.out hE.gp hP
            have X5 := X4.wr (m := X.Pa) (o := .lst (refs (ps' ++ [t]))) (.inl (by simp)) gP4
            have er : refs ps' ++ [V.ref t] = refs (ps' ++ [t]) := by simp [refs]
            rw [er]
            have D5 := fin G5 _ (p' ++ [(num + 1 + i, ws)]) (ps' ++ [t]) X5 upd_same (paired_append (Paired.mapP hh1 fun _ _ z => z.mono g4) (.cons ⟨wl, t4, g4 _ _ hp2b⟩ .nil)) (by simp at hle ⊢; omega)
            have := q G5 _ X5
            rw [← hadv, hadv'] at this
            exact this D5
        · refine ⟨rfl, _, rfl, fun j h1 h2 => ?_⟩
          by_cases e : j = num + 1 + i
          · subst e
            intro z
            exact hp (decide_eq_true (by omega))
          · exact hno j h1 (by omega)
      · rintro σ H4 ⟨rfl, v3, rfl, hno⟩
        have hnx : nxt ws (num + 1) = none := nxt_none' fun j h1 h2 => hno j h1 (by rw [hlen3]; omega)
        rw [hnx] at hadv'
        exact ⟨_, _, _, ps', p', G2, rfl, X3, hP3, hh1, hlen', by simp at hle; omega, hadv'.symm.trans hadv, fun y hy => hw2 y (by simp [hy])⟩
    · have hp0 : p = [] := by
        cases p with
        | nil => rfl
        | cons a t =>
          exfalso
          apply hz
          have : (refs ps).length = (a :: t).length := by simp [hpl]
          rw [this]
          exact decide_eq_true (by simp)
      subst hp0
      have hps0 : ps = [] := List.eq_nil_of_length_eq_zero (by simpa using hpl)
      subst hps0
      have := q G2 H2 X2
      rw [← hadv] at this
      exact this (fin G2 H2 [] [] X2 hP2 .nil (by simp))
end
end Sam
end
section
set_option Elab.async false
set_option linter.all false
set_option maxRecDepth 100000
set_option maxHeartbeats 1000000
namespace Sam
open PySem PySem.Spec PyProof.Rows L2
open C8 (pss_cut tCut call_isC InsC)
section
variable {P : Program} {w : World} {K : PySem.W.Frag} {mg : Str → Option Value} {base : Heap} {CE : Addr}
theorem den1 : (1 : Rat).den ∣ LL ^ 0 := by decide
theorem ch_start {x : ES} {p : Path} (h : p.length ≤ 20) : ChOk ⟨p, 0, 1⟩ := ⟨by simp, h, (show (0 : Rat) ≤ 1 by decide), (show (1 : Rat) ≤ 1 by decide), den1⟩
/-! end -/
def spEnd (K : PySem.W.Frag) (CE : Addr) : Sp := fun vs H Q _ => ∃ (G : Hp) (X : DX) (x : ES) (o : Addr) (rs : List Addr), vs = [.ref X.e, .ref o] ∧ Same G H ∧ DiAt K CE G H X x ∧ H X.R = some (.lst (refs rs)) ∧ G X.R = none ∧ X.R ≠ X.Pa ∧ rs.length ≤ 5000 ∧
  ∀ G' H' t c, Ext (X.R :: X.ms) G H G' H' → DiAt K CE G' H' { X with opn := false, many := X.many + 1 } x → H' X.R = some (.lst (refs (rs ++ [t]))) → G' t = some (.tup [.ref o, .ref c]) → SqT K G' c (frV x.ch) → Q .non H'
theorem scE4 : FnScope ["self", "outcome"] ["self", "outcome"] (defScope (eS 4)) := ⟨rfl, rfl, rfl, by decide +kernel, rfl, by decide +kernel, by decide +kernel⟩
theorem ok_end (B : Bn mg) (cE : ECl K CE) (d : Dm K CE "end" "Explorer.end" (eS 4) ["self", "outcome"]) : Mt P w K mg base CE "end" ["self", "outcome"] 1 (spEnd K CE) := by
  refine d.ok scE4 (fun vs H Q E h => ?_) (fun f cdv A outer s0 H vs Q E hr h => ?_)
  · obtain ⟨G, X, x, o, rs, rfl, _⟩ := h
    rfl
  · obtain ⟨G, X, x, o, rs, rfl, hG, hE, hR, gR, nRP, hl, q⟩ := h
    refine ⟨_, pss_cons (ps_expr (pe_bm PySem.F.plainAttrs_list PySem.F.slot_list_append PySem.F.type_list_append mt_append (pe_fld (pv 0) rfl) (pa_cons (pe_tup (pa_cons (pv 1) (pa_cons (pe_fld (pv 0) rfl) pa_nil))) pa_nil)))
      (pss_cons (ps_fldaug (pv 0) pe_int in_add) (pss_one (ps_fld (pv 0) pe_bl rfl))), ?_⟩
    obtain ⟨c0, he, hc0⟩ := hE.ins
    obtain ⟨ps0, hP, hps⟩ := hE.path
    have neP := hE.ne
    have neR : X.R ≠ X.e := ne_of hR he (by intro z; cases z)
    have he : H X.e = some (.ins CE X.dx (exN.zip [.ref X.Pa, .int (x.at_ : Int), .ref c0, .bl X.opn, .bl X.over, .int (X.many : Int), .ref X.R])) := he
    refine ⟨_, rfl, X.e, CE, X.dx, _, _, rfl, he, cE.cl, cE.n 6, zlook (i := 6) exN_nd rfl, .inl ⟨rfl, _, SqL.of hR⟩, _, rfl, _, rfl, X.e, CE, X.dx, _, _, rfl, he, cE.cl, cE.n 2, zlook (i := 2) exN_nd rfl, (by show 2 ≤ sizeLine; decide), fun t ht => ?_⟩
    have X1 := (Ext.refl (ms := X.R :: X.ms) hG).new (o := .tup [.ref o, .ref c0]) ht
    have g1 := Same.new (.tup [.ref o, .ref c0]) (hG.free ht)
    have s1 := Same.new (.tup [.ref o, .ref c0]) ht
    have t1 : upd G t (.tup [.ref o, .ref c0]) t = some _ := upd_same
    have he1 := s1 _ _ he
    have hP1 := s1 _ _ hP
    have hR1 := s1 _ _ hR
    generalize upd H t (.tup [.ref o, .ref c0]) = H1 at *
    generalize upd G t (.tup [.ref o, .ref c0]) = G1 at *
    have gR1 := X1.out gR hR
    have ge1 := X1.out hE.ge he
    have gP1 := X1.out hE.gp hP
    refine ⟨X.R, _, _, rfl, rfl, hR1, Nat.lt_of_le_of_lt (by simpa using hl) (show 5000 < sizeLine by decide), ?_⟩
    have er : refs rs ++ [V.ref t] = refs (rs ++ [t]) := by simp [refs]
    rw [er]
    have X2 := X1.wr (m := X.R) (o := .lst (refs (rs ++ [t]))) (.inl (by simp)) gR1
    have he2 : upd H1 X.R (.lst (refs (rs ++ [t]))) X.e = some _ := (upd_ne neR.symm).trans he1
    have hP2 : upd H1 X.R (.lst (refs (rs ++ [t]))) X.Pa = some _ := (upd_ne nRP.symm).trans hP1
    have hR2 : upd H1 X.R (.lst (refs (rs ++ [t]))) X.R = some _ := upd_same
    generalize upd H1 X.R (.lst (refs (rs ++ [t]))) = H2 at *
    refine ⟨_, rfl, X.e, CE, X.dx, _, _, rfl, he2, cE.cl, cE.n 5, zlook (i := 5) exN_nd rfl, _, _, rfl, rfl, X.dx, _, he2, zlen _ _ (by decide), ?_⟩
    rw [zput (i := 5) exN_nd rfl (by simp)]
    refine ⟨_, rfl, X.e, CE, X.dx, _, rfl, upd_same, cE.cl, cE.n 3, zlen _ _ (by decide), ?_⟩
    rw [zput (i := 3) exN_nd rfl (by simp), upd_upd]
    refine q G1 _ t c0 (X2.wr (m := X.e) (.inl (by simp)) ge1) ⟨⟨c0, upd_same, g1.seqT hc0⟩, ⟨ps0, (upd_ne neP.symm).trans hP2, Paired.mapP hps fun _ _ z => z.mono g1⟩, ge1, gP1, hE.ch⟩ ((upd_ne neR).trans hR2) t1 (g1.seqT hc0)
/-! begin -/
def nxtP (X : DX) (x : ES) : Option Path := if X.many = 0 then some x.path else adv x.path
def spBegin (K : PySem.W.Frag) (CE : Addr) : Sp := fun vs H Q _ => ∃ (G : Hp) (X : DX) (x : ES), vs = [.ref X.e] ∧ Same G H ∧ DiAt K CE G H X x ∧ (∀ q ∈ x.path, q.2.length ≤ 24 ∧ q.1 ≤ 24) ∧ X.opn = false ∧ X.over = false ∧ X.many < 20000 ∧
  (∀ p, nxtP X x = some p → ∀ G' H', Ext X.ms G H G' H' → DiAt K CE G' H' { X with opn := true } ⟨p, 0, 1⟩ → Q (.bl true) H') ∧
  (nxtP X x = none → ∀ G' H', Ext X.ms G H G' H' → DiAt K CE G' H' { X with over := true } ⟨[], x.at_, x.ch⟩ → Q (.bl false) H')
theorem scE2 : FnScope ["self", "kept"] ["self"] (defScope (eS 2)) := ⟨rfl, rfl, rfl, by decide +kernel, rfl, by decide +kernel, by decide +kernel⟩
theorem ok_begin {tk : Tok} (M : mg "MOST_RUNS" = some (.int 20000 tk)) (KT : Kt K mg) (B : Bn mg) (cE : ECl K CE) (d : Dm K CE "begin" "Explorer.begin" (eS 2) ["self"]) (cA : Mt P w K mg base CE "advance" ["self"] 1 (spAdv K CE)) : Mt P w K mg base CE "begin" ["self"] 2 (spBegin K CE) := by
  refine d.ok scE2 (fun vs H Q E h => ?_) (fun f cdv A outer s0 H vs Q E hr h => ?_)
  · obtain ⟨G, X, x, rfl, _⟩ := h
    rfl
  · obtain ⟨G, X, x, rfl, hG, hE, hw, hopn, hover, hmany, q1, q2⟩ := h
    have nd0 := scE2.nd
    obtain ⟨a1, g1, one1⟩ := KT.one
    refine ⟨_, pss_cons (ps_if (pt_val (pe_fld (pv 0) rfl)) pss_never pss_nil) (pss_cons (ps_if (pt_val (pe_fld (pv 0) rfl)) pss_never pss_nil)
      (pss_cut (ps_if (pt_cmpR op_gt (pe_fld (pv 0) rfl) pe_int (nomark _))
          (pss_cons (ps_set (i := 1) nd0 rfl (.inl rfl) (pe_callTy call_list_of (by rfl) B.list (by decide +kernel) (pa_cons (pe_fld (pv 0) rfl) pa_nil)))
          (pss_cons (ps_if (pt_not (pt_val (pe_m0 cA cE.cl hr (pv 0)))) (pss_cons (ps_fld (pv 0) pe_bl rfl) (pss_one (ps_ret pe_bl))) pss_nil)
          (pss_one (ps_if (pt_cmpR op_eq (pe_fld (pv 0) rfl) (pe_glob (v := .int 20000) (by rfl) M ⟨_, rfl⟩) (nomark _)) pss_never pss_nil)))) pss_nil)
        (pss_cons (ps_fld (pv 0) pe_bl rfl) (pss_cons (ps_fld (pv 0) pe_int rfl) (pss_cons (ps_fld (pv 0) (pe_glob (v := .ref a1) (by rfl) g1 rfl) rfl) (pss_one (ps_ret pe_bl))))))), ?_⟩
    obtain ⟨c0, he, hc0⟩ := hE.ins
    obtain ⟨ps0, hP, hps⟩ := hE.path
    have neP := hE.ne
    rw [hopn, hover] at he
    refine ⟨_, rfl, X.e, CE, X.dx, _, _, rfl, he, cE.cl, cE.n 3, zlook (i := 3) exN_nd rfl, false, rfl, iteF ?_⟩
    refine ⟨_, rfl, X.e, CE, X.dx, _, _, rfl, he, cE.cl, cE.n 4, zlook (i := 4) exN_nd rfl, false, rfl, iteF ?_⟩
    refine ⟨fun σ' H' => ∃ v1 G1 ps p, σ' = [some (.ref X.e), v1] ∧ nxtP X x = some p ∧ Ext X.ms G H G1 H' ∧ (∃ c y, H' X.e = some (.ins CE X.dx (exF X.Pa y c false false X.many X.R))) ∧ H' X.Pa = some (.lst (refs ps)) ∧ Paired (PickAt G1) ps p ∧ p.length ≤ 20, ?_, ?_⟩
    · refine ⟨_, rfl, X.e, CE, X.dx, _, _, rfl, he, cE.cl, cE.n 5, zlook (i := 5) exN_nd rfl, _, _, rfl, rfl, _, rfl, ite2 (fun hgt => ?_) fun hz => ?_⟩
      · have hm : X.many ≠ 0 := by
          have := of_decide_eq_true hgt
          omega
        have hnx : nxtP X x = adv x.path := if_neg hm
        refine ⟨_, rfl, X.e, CE, X.dx, _, _, rfl, he, cE.cl, cE.n 0, zlook (i := 0) exN_nd rfl, X.Pa, _, rfl, .inl (SqL.of hP), fun kl hkl => ?_⟩
        have X1 := (Ext.refl (ms := X.ms) hG).tmp (o := .lst (refs ps0)) hkl
        have E1 := ExAt.tmp (D := X) (u := .lst (refs ps0)) hE hG hkl
        have s1 := Same.new (.lst (refs ps0)) hkl
        have he1 := s1 _ _ he
        have hkl2 : upd H kl (.lst (refs ps0)) kl = some _ := upd_same
        generalize upd H kl (.lst (refs ps0)) = H1 at *
        refine ⟨_, rfl, X.e, X.dx, _, rfl, he1, exF_look _ _ _ _ _ _ _, G, X, x, rfl, X1.gh, E1, hw, fun G2 H2 X2 E2 => ?_⟩
        have X12 := X1.trans X2 (fun b hb => .inl (by simp at hb; simp [DX.ms, hb]))
        obtain ⟨c2, he2, hc2⟩ := E2.ins
        obtain ⟨ps2, hP2, hps2⟩ := E2.path
        rw [hopn, hover] at he2
        cases hadv : adv x.path with
        | none =>
          rw [hadv] at he2 hps2
          refine ⟨_, rfl, iteT ?_⟩
          have he2 : H2 X.e = some (.ins CE X.dx (exN.zip [.ref X.Pa, .int (x.at_ : Int), .ref c2, .bl false, .bl false, .int (X.many : Int), .ref X.R])) := he2
          refine ⟨_, rfl, X.e, CE, X.dx, _, rfl, he2, cE.cl, cE.n 4, zlen _ _ (by decide), ?_⟩
          rw [zput (i := 4) exN_nd rfl (by simp)]
          have ge2 := X12.out hE.ge he
          have ch2 := E2.ch
          rw [hadv] at ch2
          refine q2 (hnx.trans hadv) G2 _ (X12.wr (m := X.e) (.inl (by simp [DX.ms])) ge2) ⟨⟨c2, ?_, hc2⟩, ⟨ps2, (upd_ne neP.symm).trans hP2, hps2⟩, ge2, E2.gp, ch2⟩
          rw [upd_same, hopn]
          rfl
        | some p =>
          rw [hadv] at he2 hps2
          refine ⟨_, rfl, iteF ?_⟩
          refine ⟨_, rfl, X.e, CE, X.dx, _, _, rfl, he2, cE.cl, cE.n 5, zlook (i := 5) exN_nd rfl, rfl, _, rfl, ite2 (fun z => ?_) fun _ => ?_⟩
          · exfalso
            have := V.int.inj (of_decide_eq_true z)
            omega
          · refine ⟨_, G2, ps2, p, rfl, hnx.trans hadv, X12, ⟨c2, _, he2⟩, hP2, hps2, ?_⟩
            have := adv_len hadv
            have := hE.ch.ln
            omega
      · have hm : X.many = 0 := by
          have h2 : ¬ ((0 : Int) < (X.many : Int)) := fun z => hz (decide_eq_true z)
          omega
        exact ⟨_, G, ps0, x.path, rfl, if_pos hm, Ext.refl hG, ⟨c0, _, he⟩, hP, hps, hE.ch.ln⟩
    · rintro σ' H' ⟨v1, G1, ps, p, rfl, hnx, X1, ⟨c, y, he1⟩, hP1, hp1, hlen⟩
      have ge1 := X1.out hE.ge he
      have gP1 := X1.out hE.gp hP
      have he1 : H' X.e = some (.ins CE X.dx (exN.zip [.ref X.Pa, .int (y.at_ : Int), .ref c, .bl false, .bl false, .int (X.many : Int), .ref X.R])) := he1
      refine ⟨_, rfl, X.e, CE, X.dx, _, rfl, he1, cE.cl, cE.n 3, zlen _ _ (by decide), ?_⟩
      rw [zput (i := 3) exN_nd rfl (by simp)]
      refine ⟨_, rfl, X.e, CE, X.dx, _, rfl, upd_same, cE.cl, cE.n 1, zlen _ _ (by decide), ?_⟩
      rw [zput (i := 1) exN_nd rfl (by simp)]
      refine ⟨_, rfl, X.e, CE, X.dx, _, rfl, upd_same, cE.cl, cE.n 2, zlen _ _ (by decide), ?_⟩
      rw [zput (i := 2) exN_nd rfl (by simp), upd_upd, upd_upd]
      refine q1 p hnx G1 _ (X1.wr (m := X.e) (.inl (by simp [DX.ms])) ge1) ⟨⟨a1, ?_, one1 _⟩, ⟨ps, (upd_ne neP.symm).trans hP1, hp1⟩, ge1, gP1, ch_start (x := x) hlen⟩
      rw [upd_same, hover]
      rfl
/-! __init__ -/
def spExI (CE : Addr) (a1 : Addr) : Sp := fun vs H Q _ => ∃ (x dx : Addr), vs = [.ref x] ∧ H x = some (.ins CE dx []) ∧
  ∀ Pa R H', H Pa = none → H R = none → Pa ≠ R → H' x = some (.ins CE dx (exN.zip [.ref Pa, .int 0, .ref a1, .bl false, .bl false, .int 0, .ref R])) → H' Pa = some (.lst []) → H' R = some (.lst []) → (∀ b, b ≠ x → b ≠ Pa → b ≠ R → H' b = H b) → Q .non H'
theorem scE0 : FnScope ["self"] ["self"] (defScope (eS 0)) := ⟨rfl, rfl, rfl, by decide +kernel, rfl, by decide +kernel, by decide +kernel⟩
theorem ok_exi {a1 : Addr} (M : mg "ONE_ratios" = some (.ref a1)) (cE : ECl K CE) (d : Dc K mg "Explorer" CE "Explorer.__init__" (eS 0) ["self"]) : Ct P w K mg base "Explorer" CE ["self"] 1 (spExI CE a1) := by
  refine d.ok scE0 (fun vs H Q E h => ?_) (fun f cdv A outer s0 H vs Q E hr h => ?_)
  · obtain ⟨x, dx, rfl, _⟩ := h
    rfl
  · obtain ⟨x, dx, rfl, hx, q⟩ := h
    refine ⟨_, pss_cons (ps_fld (pv 0) (pe_lst pa_nil) rfl) (pss_cons (ps_fld (pv 0) pe_int rfl) (pss_cons (ps_fld (pv 0) (pe_glob (v := .ref a1) (by rfl) M rfl) rfl) (pss_cons (ps_fld (pv 0) pe_bl rfl) (pss_cons (ps_fld (pv 0) pe_bl rfl) (pss_cons (ps_fld (pv 0) pe_int rfl) (pss_one (ps_fld (pv 0) (pe_lst pa_nil) rfl))))))), ?_⟩
    refine ⟨(by show 0 ≤ sizeLine; decide), fun Pa hPa => ?_⟩
    have nP : x ≠ Pa := ne_of_none hx hPa
    have e0 : putF "path" (V.ref Pa) [] = exN.zip [.ref Pa] := zput_new (ns := exN) (vs := []) exN_nd rfl
    refine ⟨_, rfl, x, CE, dx, _, rfl, (upd_ne nP).trans hx, cE.cl, cE.n 0, by decide, ?_⟩
    rw [e0]
    refine ⟨_, rfl, x, CE, dx, _, rfl, upd_same, cE.cl, cE.n 1, zlen _ _ (by decide), ?_⟩
    rw [show putF "at" (V.int 0) (exN.zip [.ref Pa]) = exN.zip [.ref Pa, .int 0] from zput_new (ns := exN) (vs := [.ref Pa]) exN_nd rfl, upd_upd]
    refine ⟨_, rfl, x, CE, dx, _, rfl, upd_same, cE.cl, cE.n 2, zlen _ _ (by decide), ?_⟩
    rw [show putF "chance" (V.ref a1) (exN.zip [.ref Pa, .int 0]) = exN.zip [.ref Pa, .int 0, .ref a1] from zput_new (ns := exN) (vs := [.ref Pa, .int 0]) exN_nd rfl, upd_upd]
    refine ⟨_, rfl, x, CE, dx, _, rfl, upd_same, cE.cl, cE.n 3, zlen _ _ (by decide), ?_⟩
    rw [show putF "is_open" (V.bl false) (exN.zip [.ref Pa, .int 0, .ref a1]) = exN.zip [.ref Pa, .int 0, .ref a1, .bl false] from zput_new (ns := exN) (vs := [.ref Pa, .int 0, .ref a1]) exN_nd rfl, upd_upd]
    refine ⟨_, rfl, x, CE, dx, _, rfl, upd_same, cE.cl, cE.n 4, zlen _ _ (by decide), ?_⟩
    rw [show putF "is_over" (V.bl false) (exN.zip [.ref Pa, .int 0, .ref a1, .bl false]) = exN.zip [.ref Pa, .int 0, .ref a1, .bl false, .bl false] from zput_new (ns := exN) (vs := [.ref Pa, .int 0, .ref a1, .bl false]) exN_nd rfl, upd_upd]
    refine ⟨_, rfl, x, CE, dx, _, rfl, upd_same, cE.cl, cE.n 5, zlen _ _ (by decide), ?_⟩
    rw [show putF "many" (V.int 0) (exN.zip [.ref Pa, .int 0, .ref a1, .bl false, .bl false]) = exN.zip [.ref Pa, .int 0, .ref a1, .bl false, .bl false, .int 0] from zput_new (ns := exN) (vs := [.ref Pa, .int 0, .ref a1, .bl false, .bl false]) exN_nd rfl, upd_upd]
    refine ⟨(by show 0 ≤ sizeLine; decide), fun R hR => ?_⟩
    have nR : x ≠ R := fun z => by subst z; rw [upd_same] at hR; cases hR
    rw [upd_ne nR.symm] at hR
    have nPR : Pa ≠ R := fun z => by subst z; rw [upd_same] at hR; cases hR
    have hR0 : H R = none := by rw [upd_ne nPR.symm] at hR; exact hR
    refine ⟨_, rfl, x, CE, dx, _, rfl, (upd_ne nR).trans upd_same, cE.cl, cE.n 6, zlen _ _ (by decide), ?_⟩
    rw [show putF "rows" (V.ref R) (exN.zip [.ref Pa, .int 0, .ref a1, .bl false, .bl false, .int 0]) = exN.zip [.ref Pa, .int 0, .ref a1, .bl false, .bl false, .int 0, .ref R] from zput_new (ns := exN) (vs := [.ref Pa, .int 0, .ref a1, .bl false, .bl false, .int 0]) exN_nd rfl]
    refine q Pa R _ hPa hR0 nPR upd_same ?_ ?_ (fun b h1 h2 h3 => by rw [upd_ne h1, upd_ne h3, upd_ne h1, upd_ne h2])
    · rw [upd_ne nP.symm, upd_ne nPR, upd_ne nP.symm, upd_same]
    · rw [upd_ne nR.symm, upd_same]
end
end Sam
end
section
set_option Elab.async false
set_option linter.all false
set_option maxRecDepth 100000
set_option maxHeartbeats 1000000
namespace Sam
open PySem PySem.Spec PyProof.Rows L2
open C8 (pss_cut tCut call_isC InsC)
/-! ### chances -/
structure ChR (X : Rat) : Prop where
  lo : 0 ≤ X
  hi : X ≤ 1
  dv : X.den ∣ LL ^ 20
theorem ChR.bd {X : Rat} (h : ChR X) : Bd X := ChOk.bd (x := ⟨[], 20, X⟩) ⟨Nat.le_refl _, by simp, h.lo, h.hi, h.dv⟩
theorem ChOk.r {x : ES} (h : ChOk x) : ChR x.ch := ⟨h.lo, h.hi, Nat.dvd_trans h.dv (Nat.pow_dvd_pow _ h.at_)⟩
theorem den_dvd_iff {a : Rat} {N : Nat} (hN : 0 < N) (h : a.den ∣ N) : a = mkRat (a.num * ((N / a.den : Nat) : Int)) N := by
  obtain ⟨m, rfl⟩ := h
  have hd := a.den_pos
  have hm : 0 < m := Nat.pos_of_ne_zero fun z => by subst z; simp at hN
  rw [Nat.mul_div_cancel_left _ hd, Rat.mkRat_mul_right (by omega)]
  exact (Rat.mkRat_self a).symm
theorem den_add {a b : Rat} {N : Nat} (hN : 0 < N) (ha : a.den ∣ N) (hb : b.den ∣ N) : (a + b).den ∣ N := by
  rw [den_dvd_iff hN ha, den_dvd_iff hN hb]
  have : mkRat (a.num * ((N / a.den : Nat) : Int)) N + mkRat (b.num * ((N / b.den : Nat) : Int)) N = mkRat (a.num * ((N / a.den : Nat) : Int) + b.num * ((N / b.den : Nat) : Int)) N := by
    rw [Rat.mkRat_add_mkRat _ _ (by omega) (by omega), ← Int.add_mul, Rat.mkRat_mul_right (by omega)]
  rw [this]
  exact den_mk hN
theorem LLpos : 0 < LL ^ 20 := by decide +kernel
theorem sumR_nonneg : ∀ {l : List Rat}, (∀ x ∈ l, 0 ≤ x) → 0 ≤ sumR l
  | [], _ => by simp [sumR]
  | x :: r, h => by
    have h1 := h x List.mem_cons_self
    have h2 := sumR_nonneg (l := r) fun y hy => h y (List.mem_cons_of_mem _ hy)
    show (0 : Rat) ≤ x + sumR r
    grind
theorem sumR_den : ∀ {l : List Rat}, (∀ x ∈ l, x.den ∣ LL ^ 20) → (sumR l).den ∣ LL ^ 20
  | [], _ => by simp [sumR]
  | x :: r, h => by
    have h1 := h x List.mem_cons_self
    have h2 := sumR_den (l := r) fun y hy => h y (List.mem_cons_of_mem _ hy)
    exact den_add LLpos h1 h2
theorem sumL_eq (l : List Rat) : sumL l = sumR l := by
  have : ∀ (l : List Rat) (a : Rat), l.foldl (· + ·) a = a + sumR l := by
    intro l
    induction l with
    | nil => intro a; simp [sumR, Rat.add_zero]
    | cons x r ih =>
      intro a
      rw [List.foldl_cons, ih]
      show a + x + sumR r = a + (x + sumR r)
      grind
  unfold sumL
  rw [this]
  grind
/-- part of chances that sum to 1 -/
theorem sub_chr {l m r : List Rat} (hp : (m ++ r).Perm l) (h : ∀ x ∈ l, ChR x) (h1 : sumR l = 1) : ChR (sumR m) := by
  have hm : ∀ x ∈ m, ChR x := fun x hx => h x (hp.subset (List.mem_append_left _ hx))
  have hr : ∀ x ∈ r, ChR x := fun x hx => h x (hp.subset (List.mem_append_right _ hx))
  refine ⟨sumR_nonneg fun x hx => (hm x hx).lo, ?_, sumR_den fun x hx => (hm x hx).dv⟩
  have e : sumR m + sumR r = 1 := by rw [← sumR_append, sumR_perm hp, h1]
  have := sumR_nonneg (l := r) fun x hx => (hr x hx).lo
  grind
def frD (X : Rat) : PyData := .tuple [.int X.num, .int (X.den : Int)]
theorem fr_dp {K : PySem.W.Frag} {H : Hp} {a : Addr} {X : Rat} (h : SqT K H a (frV X)) : Dp K H (.ref a) (frD X) := .tup h (.cons (.int _) (.cons (.int _) .nil))
theorem fr_shaped (X : Rat) : SeqAt.shaped (frD X) = true := by
  unfold SeqAt.shaped frD
  simp [PyData.canLay0, PyData.canLayAll0, PyData.depth, PyData.depthAll]
theorem fr_eqv (X Y : Rat) : PyData.eqv (frD X) (frD Y) = decide (X = Y) := by
  unfold frD
  show ((X.num == Y.num) && (((X.den : Int) == (Y.den : Int)) && true)) = _
  by_cases h : X = Y
  · subst h; simp
  · have : ¬ (X.num = Y.num ∧ X.den = Y.den) := fun z => h (Rat.ext z.1 z.2)
    by_cases h1 : X.num = Y.num
    · have h2 : ¬ ((X.den : Int) = (Y.den : Int)) := fun z => this ⟨h1, by omega⟩
      have h3 : ((X.den : Int) == (Y.den : Int)) = false := beq_eq_false_iff_ne.mpr h2
      rw [h3]; simp [h]
    · have h3 : (X.num == Y.num) = false := beq_eq_false_iff_ne.mpr h1
      rw [h3]; simp [h]
section
variable {P : Program} {w : World} {K : PySem.W.Frag} {mg : Str → Option Value} {base : Heap} {CE : Addr} {T : Nat → Thing} {k : Nat}
def spChan (K : PySem.W.Frag) : Sp := fun vs H Q _ => ∃ (l : Addr) (as : List Addr) (Xs : List Rat), vs = [.ref l] ∧ SqL K H l (refs as) ∧ FrL K H as Xs ∧ (∀ X ∈ Xs, ChR X) ∧ sumR Xs = 1 ∧ Xs.length ≤ 5000 ∧ ∀ H', Same H H' → Q (.bl true) H'
abbrev N33 : List Str := ["fractions", "fraction"]
theorem sc33 : FnScope N33 ["fractions"] (defScope (top 33)) := ⟨rfl, rfl, rfl, by decide +kernel, rfl, by decide +kernel, by decide +kernel⟩
theorem ok_chan (KT : Kt K mg) (B : Bn mg) (d : Df K mg "are_chances" (top 33) ["fractions"]) (cL : Cl P w K mg base "less" ["a", "b"] 1 (spLess (K := K))) (cS : Cl P w K mg base "sum_of" ["fractions"] 3 (spSum (K := K))) :
    Cl P w K mg base "are_chances" ["fractions"] 4 (spChan K) := by
  refine d.ok sc33 (fun vs H Q E h => ?_) (fun f cdv A outer s0 H vs Q E hr h => ?_)
  · obtain ⟨l, as, Xs, rfl, _⟩ := h
    rfl
  · obtain ⟨l, as, Xs, rfl, hl, hX, hC, hs, hlen, q⟩ := h
    have nd0 := sc33.nd
    have hu := hr.units
    obtain ⟨a0, g0, h0⟩ := KT.nothing
    obtain ⟨a1, g1, h1⟩ := KT.one
    have lX := hX.length
    refine ⟨_, pss_one (ps_ret (pe_and (pe_not (pe_callB (cr_any rfl) (by rfl) B.any (by decide +kernel) (pa_cons (pe_lc (own := [("fraction", 1)]) (g := gName 1) (by rfl) nd0 (pi_list (pv 0))
          (blkOk_by (own := [("fraction", 1)]) (N := N33) (sc := defScope (top 33)) (by decide +kernel)) (fun _ _ _ _ _ => pg_name (i := 1) nd0 rfl (Or.inl rfl))
          (fun _ _ _ _ _ => pts_nil) (fun _ _ _ _ _ => pe_c cL hr (pa_cons (pv 1) (pa_cons (pe_glob (v := .ref a0) (by rfl) g0 rfl) pa_nil)))) pa_nil)))
        (pe_one (pe_cmpR (ko_eqD K hu) (pe_c cS hr (pa_cons (pv 0) pa_nil)) (pe_glob (v := .ref a1) (by rfl) g1 rfl) (nomark _))))), ?_⟩
    have bd0 : Bd 0 := ⟨by decide +kernel, by decide +kernel⟩
    refine ⟨_, rfl, l, rfl, ⟨_, hl⟩, fun D1 hD1 => walk_list (K := K) (xs := refs as) (fun i H2 => H2 = upd H D1 (.lst ((List.replicate i false).map V.bl))) rfl ?_ ?_ ?_⟩
    · rintro i H2 _ rfl
      exact (Same.new _ hD1).seq hl
    · rintro i x H2 hx rfl
      rw [List.getElem?_map] at hx
      obtain ⟨a, ha, rfl⟩ := Option.map_eq_some_iff.mp hx
      obtain ⟨X, hX1, hX2⟩ := paired_get hX ha
      have hi := (List.getElem?_eq_some_iff.mp ha).1
      have hch := hC X (List.mem_of_getElem? hX1)
      refine ⟨rfl, yes_ok ?_⟩
      refine ⟨_, rfl, a, a0, X, 0, rfl, ⟨(Same.new _ hD1).seqT hX2, h0 _⟩, ⟨hch.bd, bd0⟩, ?_⟩
      have : decide (X < 0) = false := decide_eq_false (by have := hch.lo; grind)
      rw [this]
      refine ⟨_, upd_same, Nat.lt_of_lt_of_le (show ((List.replicate i false).map V.bl).length < 16384 by simp; omega) (by decide), ?_⟩
      rw [upd_upd, List.replicate_succ']
      simp
    rintro H2 rfl
    have s1 := Same.new (.lst ((List.replicate (refs as).length false).map V.bl)) hD1
    have d1 : upd H D1 (.lst ((List.replicate (refs as).length false).map V.bl)) D1 = some _ := upd_same
    generalize upd H D1 (.lst ((List.replicate (refs as).length false).map V.bl)) = H1 at *
    refine ⟨D1, _, rfl, SqL.of d1, _, rfl, _, rfl, ?_⟩
    have hany : (List.replicate (refs as).length false).any id = false := by simp
    rw [hany]
    refine iteT ?_
    refine ⟨_, rfl, l, as, Xs, rfl, s1.seq hl, hX.mono s1, ⟨fun i => ?_, fun X hX' => (hC X hX').bd⟩, fun p H3 s3 hp => ?_⟩
    · rw [sumL_eq]
      exact (sub_chr (l := Xs) (m := Xs.take i) (r := Xs.drop i) (by rw [List.take_append_drop]) hC hs).bd
    · rw [sumL_eq, hs] at hp
      refine ⟨frD 1, frD 1, fr_dp hp, fr_dp (h1 _), fr_shaped _, fr_shaped _, ?_⟩
      rw [fr_eqv]
      exact q _ (s1.trans s3)
end
end Sam
end
section
set_option Elab.async false
set_option linter.all false
set_option maxRecDepth 100000
set_option maxHeartbeats 1000000
namespace Sam
open PySem PySem.Spec PyProof.Rows L2
open C8 (pss_cut tCut call_isC InsC)
/-! ### outcomes and their sums -/
instance smpEq : DecidableEq (Smp Nat) := fun a b => if h : a.n = b.n ∧ a.kept = b.kept then isTrue (by cases a; cases b; simp only at h; rw [h.1, h.2]) else isFalse fun e => h (e ▸ ⟨rfl, rfl⟩)
abbrev Row := Smp Nat × Rat
def sumAt (l : List Row) (s : Smp Nat) : Rat := sumR ((l.filter fun r => decide (r.1 = s)).map (·.2))
def addK (ks : List (Smp Nat)) (s : Smp Nat) : List (Smp Nat) := if s ∈ ks then ks else ks ++ [s]
def keysOf (l : List Row) : List (Smp Nat) := l.foldl (fun ks r => addK ks r.1) []
theorem keysOf_snoc (l : List Row) (r : Row) : keysOf (l ++ [r]) = addK (keysOf l) r.1 := by
  unfold keysOf; rw [List.foldl_append]; rfl
theorem sumAt_snoc (l : List Row) (r : Row) (s : Smp Nat) : sumAt (l ++ [r]) s = sumAt l s + (if r.1 = s then r.2 else 0) := by
  unfold sumAt
  rw [List.filter_append, List.map_append, sumR_append]
  by_cases h : r.1 = s
  · simp [h, sumR]; grind
  · simp [h, sumR]
theorem mem_addK {ks : List (Smp Nat)} {s t : Smp Nat} : t ∈ addK ks s ↔ t ∈ ks ∨ t = s := by
  unfold addK
  by_cases h : s ∈ ks
  · rw [if_pos h]
    constructor
    · exact .inl
    · rintro (h1 | rfl)
      · exact h1
      · exact h
  · rw [if_neg h]; simp
theorem nodup_addK {ks : List (Smp Nat)} {s : Smp Nat} (h : ks.Nodup) : (addK ks s).Nodup := by
  unfold addK
  by_cases e : s ∈ ks
  · rw [if_pos e]; exact h
  · rw [if_neg e]; exact nd_snoc h e
theorem keysOf_spec (l : List Row) : (keysOf l).Nodup ∧ (∀ s, s ∈ keysOf l ↔ ∃ r ∈ l, r.1 = s) ∧ (keysOf l).length ≤ l.length := by
  have key : ∀ (m : List Row), (keysOf m).Nodup ∧ (∀ s, s ∈ keysOf m ↔ ∃ r ∈ m, r.1 = s) ∧ (keysOf m).length ≤ m.length := by
    intro m
    have : ∀ n, ∀ m : List Row, m.length = n → (keysOf m).Nodup ∧ (∀ s, s ∈ keysOf m ↔ ∃ r ∈ m, r.1 = s) ∧ (keysOf m).length ≤ m.length := by
      intro n
      induction n with
      | zero =>
        intro m hm
        have := List.eq_nil_of_length_eq_zero hm
        subst this
        simp [keysOf]
      | succ n ih =>
        intro m hm
        have hne : m ≠ [] := fun z => by subst z; simp at hm
        have e := List.dropLast_concat_getLast hne
        generalize m.dropLast = m' at e
        generalize m.getLast hne = r at e
        subst e
        obtain ⟨h1, h2, h3⟩ := ih m' (by simpa using hm)
        rw [keysOf_snoc]
        refine ⟨nodup_addK h1, fun s => ?_, ?_⟩
        · rw [mem_addK, h2]
          constructor
          · rintro (⟨x, hx, e⟩ | rfl)
            · exact ⟨x, List.mem_append_left _ hx, e⟩
            · exact ⟨r, by simp, rfl⟩
          · rintro ⟨x, hx, e⟩
            rcases List.mem_append.mp hx with h | h
            · exact .inl ⟨x, h, e⟩
            · simp at h; subst h; exact .inr e.symm
        · unfold addK
          split
          · simp; omega
          · simp; omega
    exact this _ m rfl
  exact key l
theorem sumAt_out {l : List Row} {s : Smp Nat} (h : ¬ s ∈ keysOf l) : sumAt l s = 0 := by
  unfold sumAt
  have : l.filter (fun r => decide (r.1 = s)) = [] := by
    rw [List.filter_eq_nil_iff]
    intro r hr
    simp
    intro e
    exact h (((keysOf_spec l).2.1 s).mpr ⟨r, hr, e⟩)
  rw [this]
  rfl
theorem itNk_inj {T : Nat → Thing} {i j : Nat} (hi : i < 4) (hj : j < 4) (h : itNk T i = itNk T j) : i = j := by
  unfold itNk at h
  have h1 := NestedKey.tup.inj h
  have h2 := (List.cons.inj h1).1
  exact kNm_inj hi hj (NestedKey.text.inj h2)
theorem vwNk_inj {T : Nat → Thing} {k : Nat} {s t : Smp Nat} (hs : ∀ i ∈ s.kept, i < 4) (ht : ∀ i ∈ t.kept, i < 4) (h : vwNk T k s = vwNk T k t) : s = t := by
  unfold vwNk at h
  have h1 := NestedKey.tup.inj h
  have h2 := (List.cons.inj (List.cons.inj h1).2).1
  have h3 := (List.cons.inj (List.cons.inj (List.cons.inj h1).2).2).1
  have e1 : s.n = t.n := by have := NestedKey.num.inj h2; omega
  have e2 : s.kept.map (itNk T) = t.kept.map (itNk T) := NestedKey.tup.inj h3
  have e3 : ∀ (a b : List Nat), (∀ i ∈ a, i < 4) → (∀ i ∈ b, i < 4) → a.map (itNk T) = b.map (itNk T) → a = b := by
    intro a
    induction a with
    | nil => intro b _ _ e; cases b with
      | nil => rfl
      | cons _ _ => simp at e
    | cons x r ih =>
      intro b ha hb e
      cases b with
      | nil => simp at e
      | cons y t =>
        simp only [List.map_cons] at e
        obtain ⟨e1, e2⟩ := List.cons.inj e
        rw [itNk_inj (ha x List.mem_cons_self) (hb y List.mem_cons_self) e1, ih t (fun i hi => ha i (List.mem_cons_of_mem _ hi)) (fun i hi => hb i (List.mem_cons_of_mem _ hi)) e2]
  have e4 := e3 _ _ hs ht e2
  cases s; cases t
  simp only at e1 e4
  rw [e1, e4]
/-- the order of outcomes -/
def leS (T : Nat → Thing) (k : Nat) (a b : Smp Nat) : Bool := !PySem.W.dataLt (vwNk T k b).data (vwNk T k a).data
/-- the law that rows make -/
def lawR (T : Nat → Thing) (k : Nat) (l : List Row) : List Row := (((keysOf l).mergeSort (leS T k)).filter fun s => decide (sumAt l s ≠ 0)).map fun s => (s, sumAt l s)
def RowAt (K : PySem.W.Frag) (T : Nat → Thing) (k : Nat) (H : Hp) (a : Addr) (r : Row) : Prop := ∃ o c, H a = some (.tup [.ref o, .ref c]) ∧ NK K H (vwNk T k r.1) (.ref o) ∧ SqT K H c (frV r.2)
theorem RowAt.mono {K : PySem.W.Frag} {T : Nat → Thing} {k : Nat} {H H' : Hp} {a : Addr} {r : Row} (s : Same H H') (h : RowAt K T k H a r) : RowAt K T k H' a r :=
  let ⟨o, c, h1, h2, h3⟩ := h
  ⟨o, c, s _ _ h1, h2.mono s, s.seqT h3⟩
abbrev RowsAt (K : PySem.W.Frag) (T : Nat → Thing) (k : Nat) (H : Hp) (as : List Addr) (l : List Row) : Prop := Paired (RowAt K T k H) as l
/-- the dict of sums -/
def SmAt (K : PySem.W.Frag) (T : Nat → Thing) (k : Nat) (H : Hp) (l : List Row) (y : NestedKey × Addr × V) (s : Smp Nat) : Prop := y.1 = vwNk T k s ∧ NK K H y.1 (.ref y.2.1) ∧ ∃ c, y.2.2 = .ref c ∧ SqT K H c (frV (sumAt l s))
theorem atN_in {K : PySem.W.Frag} {T : Nat → Thing} {k : Nat} {H : Hp} {l : List Row} {ys : Ns} {ks : List (Smp Nat)} (h : Paired (SmAt K T k H l) ys ks) (h4 : ∀ s ∈ ks, ∀ i ∈ s.kept, i < 4) {s : Smp Nat} (hs : s ∈ ks) : ∃ c, atN ys (vwNk T k s) = some (.ref c) ∧ SqT K H c (frV (sumAt l s)) := by
  induction h with
  | nil => cases hs
  | @cons y t ym tm hy _ ih =>
    obtain ⟨e, _, c, e2, e3⟩ := hy
    by_cases q : t = s
    · subst q
      exact ⟨c, by simp [atN, e, e2], e3⟩
    · have hs' : s ∈ tm := by
        rcases List.mem_cons.mp hs with z | z
        · exact absurd z.symm q
        · exact z
      obtain ⟨c', z1, z2⟩ := ih (fun u hu => h4 u (List.mem_cons_of_mem _ hu)) hs'
      have : ¬ y.1 = vwNk T k s := fun z => q (vwNk_inj (h4 t List.mem_cons_self) (h4 s hs) (e.symm.trans z))
      refine ⟨c', ?_, z2⟩
      rw [← z1]
      simp [atN, this]
theorem atN_out {K : PySem.W.Frag} {T : Nat → Thing} {k : Nat} {H : Hp} {l : List Row} {ys : Ns} {ks : List (Smp Nat)} (h : Paired (SmAt K T k H l) ys ks) (h4 : ∀ s ∈ ks, ∀ i ∈ s.kept, i < 4) {s : Smp Nat} (hs4 : ∀ i ∈ s.kept, i < 4) (hs : ¬ s ∈ ks) : atN ys (vwNk T k s) = none := by
  induction h with
  | nil => rfl
  | @cons y t ym tm hy _ ih =>
    have : ¬ y.1 = vwNk T k s := fun z => hs (by rw [vwNk_inj hs4 (h4 t List.mem_cons_self) (z.symm.trans hy.1)]; exact List.mem_cons_self)
    have h2 := ih (fun u hu => h4 u (List.mem_cons_of_mem _ hu)) fun z => hs (List.mem_cons_of_mem _ z)
    rw [← h2]
    simp [atN, this]
section
variable {P : Program} {w : World} {K : PySem.W.Frag} {mg : Str → Option Value} {base : Heap} {CE : Addr} {T : Nat → Thing} {k : Nat}
theorem alike_items (T : Nat → Thing) : ∀ a b : List Nat, PySem.W.alikeAll (NestedKey.datas (a.map (itNk T))) (NestedKey.datas (b.map (itNk T))) = true
  | [], _ => by simp [NestedKey.datas, PySem.W.alikeAll]
  | _ :: _, [] => by simp [NestedKey.datas, PySem.W.alikeAll]
  | x :: a, y :: b => by
    have := alike_items T a b
    simp only [List.map_cons, NestedKey.datas, PySem.W.alikeAll, this, Bool.and_true]
    simp [itNk, NestedKey.data, NestedKey.datas, PySem.W.alike, PySem.W.alikeAll]
theorem alike_vw (s t : Smp Nat) : PySem.W.alike (vwNk T k s).data (vwNk T k t).data = true := by
  have := alike_items T s.kept t.kept
  simp only [vwNk, NestedKey.data, NestedKey.datas, PySem.W.alike, PySem.W.alikeAll, this]
  simp
theorem depth_data : ∀ ks : List NestedKey, (∀ x ∈ ks, x.data.depth ≤ x.depth) → PyData.depthAll (NestedKey.datas ks) ≤ NestedKey.depthAll ks
  | [], _ => by simp [NestedKey.datas, PyData.depthAll]
  | x :: r, h => by
    have h1 := h x List.mem_cons_self
    have h2 := depth_data r fun y hy => h y (List.mem_cons_of_mem _ hy)
    simp only [NestedKey.datas, PyData.depthAll, NestedKey.depthAll]
    omega
theorem vw_depthD (s : Smp Nat) : (vwNk T k s).data.depth ≤ 16 := by
  have h1 : PyData.depthAll (NestedKey.datas (s.kept.map (itNk T))) ≤ 1 := by
    refine Nat.le_trans (depth_data _ fun x hx => ?_) (depthAll_le fun x hx => ?_)
    · obtain ⟨i, _, rfl⟩ := List.mem_map.mp hx
      simp [itNk, NestedKey.data, NestedKey.datas, PyData.depth, PyData.depthAll, NestedKey.depth, NestedKey.depthAll]
    · obtain ⟨i, _, rfl⟩ := List.mem_map.mp hx
      exact itNk_depth i
  simp only [vwNk, NestedKey.data, NestedKey.datas, PyData.depth, PyData.depthAll]
  omega
theorem keyAt_vw {H : Hp} {s : Smp Nat} {a : Addr} (h : NK K H (vwNk T k s) (.ref a)) : KeyAt K H (vwNk T k s) a := ⟨h, by have := vwNk_depth (T := T) (k := k) s; omega⟩
/-- the keys sorted -/
theorem zok_keys {H : Hp} {l : List Row} {ys : Ns} {ks : List (Smp Nat)} (h : Paired (SmAt K T k H l) ys ks) (hl : ks.length ≤ 5000) : ∃ zs os, zs.map Prod.fst = ys.map (fun y => V.ref y.2.1) ∧ ZOk K H zs ∧ (srtD zs).map Prod.fst = refs os ∧ Paired (fun o s => NK K H (vwNk T k s) (.ref o)) os (ks.mergeSort (leS T k)) := by
  have key : ∀ {ys : Ns} {ks : List (Smp Nat)}, Paired (SmAt K T k H l) ys ks → ∃ L : List (Addr × Smp Nat), ys.map (fun y => V.ref y.2.1) = L.map (fun p => V.ref p.1) ∧ ks = L.map Prod.snd ∧ ∀ p ∈ L, NK K H (vwNk T k p.2) (.ref p.1) := by
    intro ys ks h
    induction h with
    | nil => exact ⟨[], rfl, rfl, by simp⟩
    | @cons y s ym sm hy _ ih =>
      obtain ⟨L, h1, h2, h3⟩ := ih
      obtain ⟨e, e1, _⟩ := hy
      refine ⟨(y.2.1, s) :: L, by simp [h1], by simp [h2], fun p hp => ?_⟩
      rcases List.mem_cons.mp hp with rfl | hp
      · exact e ▸ e1
      · exact h3 p hp
  obtain ⟨L, h1, rfl, h3⟩ := key h
  let f : Addr × Smp Nat → V × PyData := fun p => (V.ref p.1, (vwNk T k p.2).data)
  have es : srtD (L.map f) = (L.mergeSort fun p q => leS T k p.2 q.2).map f := by
    unfold srtD
    rw [List.map_mergeSort]
    intro a _ b _
    rfl
  have hm : ∀ p ∈ L.mergeSort fun p q => leS T k p.2 q.2, NK K H (vwNk T k p.2) (.ref p.1) := fun p hp => h3 p ((List.mergeSort_perm L _).subset hp)
  have back : ∀ M : List (Addr × Smp Nat), (∀ p ∈ M, NK K H (vwNk T k p.2) (.ref p.1)) → Paired (fun o s => NK K H (vwNk T k s) (.ref o)) (M.map Prod.fst) (M.map Prod.snd) := by
    intro M hM
    induction M with
    | nil => exact .nil
    | cons p r ih => exact .cons (hM p List.mem_cons_self) (ih fun q hq => hM q (List.mem_cons_of_mem _ hq))
  refine ⟨L.map f, (L.mergeSort fun p q => leS T k p.2 q.2).map Prod.fst, by rw [h1]; simp [f], ⟨?_, ?_, ?_, ?_, ?_⟩, by rw [es]; simp [refs, f], ?_⟩
  · intro z hz
    obtain ⟨p, hp, rfl⟩ := List.mem_map.mp hz
    exact (h3 p hp).dp
  · intro d hd d' hd'
    simp only [List.map_map, List.mem_map] at hd hd'
    obtain ⟨p, _, rfl⟩ := hd
    obtain ⟨q, _, rfl⟩ := hd'
    exact alike_vw _ _
  · refine .inl fun d hd => ?_
    simp only [List.map_map, List.mem_map] at hd
    obtain ⟨p, _, rfl⟩ := hd
    exact ⟨_, _, rfl⟩
  · rw [List.length_map]
    simp at hl
    exact Nat.le_trans hl (by decide)
  · intro z hz
    obtain ⟨p, hp, rfl⟩ := List.mem_map.mp hz
    exact vw_depthD _
  · have := back _ hm
    have e2 : (L.mergeSort fun p q => leS T k p.2 q.2).map Prod.snd = (L.map Prod.snd).mergeSort (leS T k) := by
      rw [List.map_mergeSort]
      intro a _ b _
      rfl
    rw [e2] at this
    exact this
end
end Sam
end
section
set_option Elab.async false
set_option linter.all false
set_option maxRecDepth 100000
set_option maxHeartbeats 1000000
namespace Sam
open PySem PySem.Spec PyProof.Rows L2
open C8 (pss_cut tCut call_isC InsC)
section
variable {P : Program} {w : World} {K : PySem.W.Frag} {mg : Str → Option Value} {base : Heap} {CE : Addr} {T : Nat → Thing} {k : Nat}
structure RowsOk (l : List Row) : Prop where
  ch : ∀ r ∈ l, ChR r.2
  sum : sumR (l.map (·.2)) = 1
  lt : ∀ r ∈ l, ∀ i ∈ r.1.kept, i < 4
  ln : l.length ≤ 5000
theorem sumAt_chr {l m r : List Row} (h : RowsOk l) (e : m ++ r = l) (s : Smp Nat) : ChR (sumAt m s) := by
  have hp : (((m.filter fun r => decide (r.1 = s)).map (·.2)) ++ ((m.filter fun r => !decide (r.1 = s)).map (·.2) ++ r.map (·.2))).Perm (l.map (·.2)) := by
    rw [← e, List.map_append, ← List.append_assoc, ← List.map_append]
    exact ((List.filter_append_perm _ m).map _).append_right _
  exact sub_chr hp (fun x hx => by
    obtain ⟨y, hy, rfl⟩ := List.mem_map.mp hx
    exact h.ch y hy) h.sum
theorem SmAt.mono {H H' : Hp} {l : List Row} {y : NestedKey × Addr × V} {s : Smp Nat} (hs : ∀ a xs, SqT K H a xs → SqT K H' a xs) (h : SmAt K T k H l y s) : SmAt K T k H' l y s :=
  let ⟨h1, h2, c, h3, h4⟩ := h
  ⟨h1, NK.sq hs _ _ h2, c, h3, hs _ _ h4⟩
theorem keys_of {H : Hp} {l : List Row} {ys : Ns} {ks : List (Smp Nat)} (h : Paired (SmAt K T k H l) ys ks) : ∀ y ∈ ys, KeyAt K H y.1 y.2.1 := by
  intro y hy
  obtain ⟨j, hj⟩ := List.mem_iff_getElem?.mp hy
  obtain ⟨s, _, h1, h2, _⟩ := paired_get h hj
  rw [h1] at h2
  rw [h1]
  exact keyAt_vw h2
theorem putN_ok {H : Hp} {l : List Row} {r : Row} {ys : Ns} {ks : List (Smp Nat)} {o c : Addr} (h : Paired (SmAt K T k H l) ys ks) (h4 : ∀ s ∈ ks, ∀ i ∈ s.kept, i < 4) (hr4 : ∀ i ∈ r.1.kept, i < 4) (ho : NK K H (vwNk T k r.1) (.ref o)) (hc : SqT K H c (frV (sumAt (l ++ [r]) r.1))) (hn : ks.Nodup) :
    Paired (SmAt K T k H (l ++ [r])) (putN ys (vwNk T k r.1) o (.ref c)) (addK ks r.1) := by
  by_cases e : r.1 ∈ ks
  · obtain ⟨c', z1, _⟩ := atN_in h h4 e
    unfold putN addK
    rw [z1, if_pos e, show (some (V.ref c')).isSome = true from rfl, if_pos rfl]
    clear z1 e hn
    induction h with
    | nil => exact .nil
    | @cons y s ym sm hy _ ih =>
      refine .cons ?_ (ih fun u hu => h4 u (List.mem_cons_of_mem _ hu))
      obtain ⟨e1, e2, c1, e3, e4⟩ := hy
      by_cases q : y.1 = vwNk T k r.1
      · have hs : s = r.1 := vwNk_inj (h4 s List.mem_cons_self) hr4 (e1.symm.trans q)
        show SmAt K T k H (l ++ [r]) (if y.1 = vwNk T k r.1 then (y.1, y.2.1, V.ref c) else y) s
        rw [if_pos q]
        exact ⟨e1, e2, c, rfl, hs ▸ hc⟩
      · show SmAt K T k H (l ++ [r]) (if y.1 = vwNk T k r.1 then (y.1, y.2.1, V.ref c) else y) s
        rw [if_neg q]
        refine ⟨e1, e2, c1, e3, ?_⟩
        rw [sumAt_snoc, if_neg (fun z => q (by rw [e1, ← z])), Rat.add_zero]
        exact e4
  · have z1 := atN_out h h4 hr4 e
    unfold putN addK
    rw [z1, if_neg (by simp), if_neg e]
    refine paired_append ?_ (.cons ⟨rfl, ho, c, rfl, hc⟩ .nil)
    clear z1 hn
    induction h with
    | nil => exact .nil
    | @cons y s ym sm hy _ ih =>
      refine .cons ?_ (ih (fun u hu => h4 u (List.mem_cons_of_mem _ hu)) fun z => e (List.mem_cons_of_mem _ z))
      obtain ⟨e1, e2, c1, e3, e4⟩ := hy
      refine ⟨e1, e2, c1, e3, ?_⟩
      rw [sumAt_snoc, if_neg (fun z => e (by rw [z]; exact List.mem_cons_self)), Rat.add_zero]
      exact e4
def spLawF (K : PySem.W.Frag) (T : Nat → Thing) (k : Nat) : Sp := fun vs H Q _ => ∃ (l : Addr) (as : List Addr) (rows : List Row), vs = [.ref l] ∧ SqL K H l (refs as) ∧ RowsAt K T k H as rows ∧ RowsOk rows ∧
  ∀ H' f us, Same H H' → H' f = some (.lst (refs us)) → RowsAt K T k H' us (lawR T k rows) → Q (.ref f) H'
abbrev N34 : List Str := ["rows", "chance", "sums", "outcome", "_"]
theorem sc34 : FnScope N34 ["rows"] (defScope (top 34)) := ⟨rfl, rfl, rfl, by decide +kernel, rfl, by decide +kernel, by decide +kernel⟩
theorem ok_lawf (KT : Kt K mg) (B : Bn mg) (d : Df K mg "law_from" (top 34) ["rows"]) (cC : Cl P w K mg base "are_chances" ["fractions"] 4 (spChan K)) (cP : Cl P w K mg base "plus" ["a", "b"] 2 (sp2 (K := K) (· + ·))) :
    Cl P w K mg base "law_from" ["rows"] 5 (spLawF K T k) := by
  refine d.ok sc34 (fun vs H Q E h => ?_) (fun f cdv A outer s0 H vs Q E hr h => ?_)
  · obtain ⟨l, as, rows, rfl, _⟩ := h
    rfl
  · obtain ⟨l, as, rows, rfl, hl, hR, hO, q⟩ := h
    have nd0 := sc34.nd
    have hu := hr.units
    obtain ⟨a0, g0, h0⟩ := KT.nothing
    have lR := hR.length
    have hln := hO.ln
    refine ⟨_, pss_cons (ps_if (pt_not (pt_val (pe_c cC hr (pa_cons (pe_lc (own := [("_", 4), ("chance", 1)]) (g := gTup K 2 (gCons (gName 4) (gCons (gName 1) gNil))) (by rfl) nd0 (pi_list (pv 0))
          (blkOk_by (own := [("_", 4), ("chance", 1)]) (N := N34) (sc := defScope (top 34)) (by decide +kernel)) (fun _ _ _ _ _ => kg_tup K (by rfl) (pgs_cons (pg_name (i := 4) nd0 rfl (Or.inl rfl)) (pgs_cons (pg_name (i := 1) nd0 rfl (Or.inl rfl)) pgs_nil)))
          (fun _ _ _ _ _ => pts_nil) (fun _ _ _ _ _ => pv 1)) pa_nil)))) pss_never pss_nil)
      (pss_cons (ps_set (i := 2) nd0 rfl (.inr rfl) (ke_dnewN P w))
      (pss_cons (ps_for PassesOwn.never rfl (pi_list (pv 0)) (pg_tup rfl (pgs_cons (pg_name (i := 3) nd0 rfl (Or.inl rfl)) (pgs_cons (pg_name (i := 1) nd0 rfl (Or.inl rfl)) pgs_nil)))
        (pss_one (ps_nput K hu (pv 2) (pv 3) (pe_c cP hr (pa_cons (pe_nget2 K hu (pv 2) (pv 3) (pe_glob (v := .ref a0) (by rfl) g0 rfl) ⟨rfl, rfl, rfl, rfl⟩) (pa_cons (pv 1) pa_nil))) (by rfl))))
      (pss_one (ps_ret (pe_lc (own := [("outcome", 3)]) (g := gName 3) (by rfl) nd0 (pi_list (pe_callB (call_sortedN K rfl hu) (by rfl) B.sorted (by decide +kernel) (pa_cons (pv 2) pa_nil)))
          (blkOk_by (own := [("outcome", 3)]) (N := N34) (sc := defScope (top 34)) (by decide +kernel)) (fun _ _ _ _ _ => pg_name (i := 3) nd0 rfl (Or.inl rfl))
          (fun _ _ _ _ _ => pts_one (pt_cmpR (ko_neD K hu) (ke_nget K P w hu (pv 2) (pv 3) (fun _ _ => rfl)) (pe_glob (v := .ref a0) (by rfl) g0 rfl) (nomark _))) (fun _ _ _ _ _ => pe_tup (pa_cons (pv 3) (pa_cons (ke_nget K P w hu (pv 2) (pv 3) (fun _ _ => rfl)) pa_nil)))))))), ?_⟩
    -- are_chances
    refine ⟨_, rfl, l, rfl, ⟨_, hl⟩, fun D1 hD1 => walk_list (K := K) (xs := refs as) (fun i H2 => ∃ cs, H2 = upd H D1 (.lst (refs cs)) ∧ cs.length = i ∧ FrL K H cs ((rows.take i).map (·.2))) ⟨[], rfl, rfl, .nil⟩ ?_ ?_ ?_⟩
    · rintro i H2 _ ⟨cs, rfl, _⟩
      exact (Same.new _ hD1).seq hl
    · rintro i x H2 hx ⟨cs, rfl, lc, hc⟩
      rw [List.getElem?_map] at hx
      obtain ⟨a, ha, rfl⟩ := Option.map_eq_some_iff.mp hx
      obtain ⟨r, hr1, o, c, r1, r2, r3⟩ := paired_get hR ha
      have hi := (List.getElem?_eq_some_iff.mp ha).1
      refine ⟨a, _, rfl, SqT.of (Same.new _ hD1 _ _ r1), rfl, _, _, rfl, _, _, rfl, rfl, rfl, yes_ok ?_⟩
      refine ⟨_, rfl, _, upd_same, Nat.lt_of_le_of_lt (by simp; omega) (show 5000 < sizeLine by decide), cs ++ [c], by rw [upd_upd]; simp [refs], by simp [lc], ?_⟩
      rw [List.take_add_one, hr1, List.map_append]
      exact paired_append hc (.cons r3 .nil)
    rintro H2 ⟨cs, rfl, lc, hc⟩
    have e1 : rows.take (refs as).length = rows := by rw [List.take_of_length_le]; simp [lR]
    rw [e1] at hc
    have s1 := Same.new (.lst (refs cs)) hD1
    have d1 : upd H D1 (.lst (refs cs)) D1 = some _ := upd_same
    generalize upd H D1 (.lst (refs cs)) = H1 at *
    refine ⟨D1, cs, _, rfl, SqL.of d1, hc.mono s1, fun X hX => ?_, hO.sum, by simpa using hln, fun H3 s3 => ⟨_, rfl, iteF ?_⟩⟩
    · obtain ⟨y, hy, rfl⟩ := List.mem_map.mp hX
      exact hO.ch y hy
    replace s3 := s1.trans s3
    -- sums = {}
    refine fun dd hdd => ?_
    have s4 := s3.trans (Same.new (dnO P w dd []) hdd)
    have d4 : upd H3 dd (dnO P w dd []) dd = some _ := upd_same
    have hdd0 := s3.free hdd
    generalize upd H3 dd (dnO P w dd []) = H4 at *
    have dwr : ∀ {H5 : Hp} {ys ys' : Ns}, H5 dd = some (dnO P w dd ys) → ∀ a xs, SqT K H5 a xs → SqT K (upd H5 dd (dnO P w dd ys')) a xs := fun h => sqT_wr h (by intro xs z; cases z) (by intro b xs z; cases z)
    refine ⟨_, rfl, l, rfl, ⟨_, s4.seq hl⟩, for_list (K := K) (xs := refs as) (fun i σ H5 => ∃ v1 v3 ys, σ = [some (.ref l), v1, some (.ref dd), v3, none] ∧ Same H H5 ∧ H5 dd = some (dnO P w dd ys) ∧ Paired (SmAt K T k H5 (rows.take i)) ys (keysOf (rows.take i)) ∧ ys.length ≤ i)
      ⟨none, none, [], rfl, s4, d4, .nil, by simp⟩ ?_ ?_ ?_⟩
    · rintro i σ H5 _ ⟨_, _, _, _, s5, _⟩
      exact s5.seq hl
    · rintro i x σ H5 hx ⟨v1, v3, ys, rfl, s5, d5, hp, hl5⟩
      rw [List.getElem?_map] at hx
      obtain ⟨a, ha, rfl⟩ := Option.map_eq_some_iff.mp hx
      obtain ⟨r, hr1, o, c, r1, r2, r3⟩ := paired_get hR ha
      have hi := (List.getElem?_eq_some_iff.mp ha).1
      have hrm := List.mem_of_getElem? hr1
      obtain ⟨kn1, kn2, kn3⟩ := keysOf_spec (rows.take i)
      have hk4 : ∀ s ∈ keysOf (rows.take i), ∀ i ∈ s.kept, i < 4 := fun s hs => by
        obtain ⟨r, hr, e⟩ := (kn2 s).mp hs
        exact e ▸ hO.lt r (List.mem_of_mem_take hr)
      have htk : rows.take (i + 1) = rows.take i ++ [r] := by rw [List.take_add_one, hr1]; rfl
      obtain ⟨cc, ec, hcc⟩ : ∃ cc, (atN ys (vwNk T k r.1)).getD (V.ref a0) = .ref cc ∧ SqT K H5 cc (frV (sumAt (rows.take i) r.1)) := by
        by_cases e : r.1 ∈ keysOf (rows.take i)
        · obtain ⟨c', z1, z2⟩ := atN_in hp hk4 e
          exact ⟨c', by rw [z1]; rfl, z2⟩
        · refine ⟨a0, by rw [atN_out hp hk4 (hO.lt r hrm) e]; rfl, ?_⟩
          rw [sumAt_out e]
          exact h0 _
      refine ⟨a, _, rfl, SqT.of (s5 _ _ r1), rfl, _, _, rfl, _, _, rfl, rfl, ?_⟩
      refine ⟨_, rfl, dd, ys, rfl, d5, keys_of hp, _, rfl, o, ys, vwNk T k r.1, rfl, d5, keys_of hp, keyAt_vw (r2.mono s5), ?_⟩
      rw [ec]
      refine ⟨_, rfl, cc, c, _, _, rfl, ⟨hcc, s5.seqT r3⟩, ⟨(sumAt_chr hO (List.take_append_drop i rows) r.1).bd, (hO.ch r hrm).bd⟩, fun p hp' => ?_⟩
      have s6 := Same.new (.tup (frV (sumAt (rows.take i) r.1 + r.2))) hp'
      have p6 : upd H5 p (.tup (frV (sumAt (rows.take i) r.1 + r.2))) p = some _ := upd_same
      have hp6 : Paired (SmAt K T k (upd H5 p (.tup (frV (sumAt (rows.take i) r.1 + r.2)))) (rows.take i)) ys (keysOf (rows.take i)) := Paired.mapP hp fun _ _ z => z.mono fun _ _ h => s6.seqT h
      generalize upd H5 p (.tup (frV (sumAt (rows.take i) r.1 + r.2))) = H6 at *
      have d6 := s6 _ _ d5
      have s56 := s5.trans s6
      refine ⟨_, rfl, _, rfl, dd, o, ys, vwNk T k r.1, rfl, rfl, d6, keys_of hp6, keyAt_vw (r2.mono s56), Nat.lt_of_le_of_lt (show ys.length ≤ 5000 by omega) (show 5000 < sizeLine by decide), _, _, _, rfl, s56.mut _ hdd0, upd_same, ?_, ?_⟩
      · rw [htk, keysOf_snoc]
        refine Paired.mapP (putN_ok hp6 hk4 (hO.lt r hrm) (r2.mono s56) (c := p) ?_ kn1) fun _ _ z => z.mono (dwr d6)
        rw [sumAt_snoc, if_pos rfl]
        exact SqT.of p6
      · have := putN_len ys (vwNk T k r.1) o (.ref p)
        omega
    · rintro σ H5 ⟨v1, v3, ys, rfl, s5, d5, hp, hl5⟩
      rw [e1] at hp
      obtain ⟨kn1, kn2, kn3⟩ := keysOf_spec rows
      have hk4 : ∀ s ∈ keysOf rows, ∀ i ∈ s.kept, i < 4 := fun s hs => by
        obtain ⟨r, hr, e⟩ := (kn2 s).mp hs
        exact e ▸ hO.lt r hr
      obtain ⟨zs, os, z1, z2, z3, z4⟩ := zok_keys hp (by omega)
      refine ⟨_, rfl, dd, ys, zs, rfl, d5, z1, z2, fun so hso => ?_⟩
      rw [z3]
      have s6 := s5.trans (Same.new (.lst (refs os)) hso)
      have d6 := Same.new (.lst (refs os)) hso _ _ d5
      have so6 : upd H5 so (.lst (refs os)) so = some _ := upd_same
      have hp6 : Paired (SmAt K T k (upd H5 so (.lst (refs os))) rows) ys (keysOf rows) := Paired.mapP hp fun _ _ z => z.mono fun _ _ h => (Same.new _ hso).seqT h
      have z6 : Paired (fun o s => NK K (upd H5 so (.lst (refs os))) (vwNk T k s) (.ref o)) os ((keysOf rows).mergeSort (leS T k)) := Paired.mapP z4 fun _ _ z => z.mono (Same.new _ hso)
      generalize upd H5 so (.lst (refs os)) = H6 at *
      refine ⟨so, rfl, ⟨_, SqL.of so6⟩, fun D2 hD2 => walk_list (K := K) (xs := refs os) (fun i H7 => ∃ us, Same H6 H7 ∧ H7 D2 = some (.lst (refs us)) ∧ us.length ≤ i ∧ RowsAt K T k H7 us (((((keysOf rows).mergeSort (leS T k)).take i).filter fun s => decide (sumAt rows s ≠ 0)).map fun s => (s, sumAt rows s)))
        ⟨[], Same.new _ hD2, upd_same, Nat.le_refl _, .nil⟩ ?_ ?_ ?_⟩
      · rintro i H7 _ ⟨us, s7, _⟩
        exact SqL.of (s7 _ _ so6)
      · rintro i x H7 hx ⟨us, s7, d7, lu, hu7⟩
        rw [List.getElem?_map] at hx
        obtain ⟨o, ho, rfl⟩ := Option.map_eq_some_iff.mp hx
        obtain ⟨s, hs, hnk⟩ := paired_get z6 ho
        have hm : s ∈ keysOf rows := (List.mergeSort_perm _ _).subset (List.mem_of_getElem? hs)
        have hp7 : Paired (SmAt K T k H7 rows) ys (keysOf rows) := Paired.mapP hp6 fun _ _ z => z.mono fun _ _ h => s7.seqT h
        obtain ⟨c, hc1, hc2⟩ := atN_in hp7 hk4 hm
        have hi : i ≤ 5000 := by
          have h1 := (List.getElem?_eq_some_iff.mp hs).1
          rw [List.length_mergeSort] at h1
          omega
        have ht : (((keysOf rows).mergeSort (leS T k)).take (i + 1)).filter (fun s => decide (sumAt rows s ≠ 0)) = ((((keysOf rows).mergeSort (leS T k)).take i).filter fun s => decide (sumAt rows s ≠ 0)) ++ (if sumAt rows s ≠ 0 then [s] else []) := by
          rw [List.take_add_one, hs, List.filter_append]
          congr 1
          by_cases h : sumAt rows s ≠ 0
          · simp [h]
          · simp at h
            simp [h]
        refine ⟨rfl, _, rfl, _, rfl, dd, o, ys, vwNk T k s, .ref c, rfl, rfl, s7 _ _ d6, keys_of hp7, keyAt_vw (hnk.mono s7), hc1, ?_⟩
        refine ⟨frD (sumAt rows s), frD 0, fr_dp hc2, fr_dp (h0 _), fr_shaped _, fr_shaped _, _, rfl, ?_⟩
        rw [fr_eqv, ht]
        by_cases h : sumAt rows s = 0
        · rw [decide_eq_true h, if_neg (by simp [h]), List.append_nil]
          exact iteF ⟨us, s7, d7, by omega, hu7⟩
        · rw [decide_eq_false h, if_pos h]
          refine iteT ⟨_, rfl, _, rfl, _, rfl, dd, o, ys, vwNk T k s, .ref c, rfl, rfl, s7 _ _ d6, keys_of hp7, keyAt_vw (hnk.mono s7), hc1, (by show 2 ≤ sizeLine; decide), fun u hu' => ?_⟩
          have s8 := Same.new (.tup [.ref o, .ref c]) hu'
          have u8 : upd H7 u (.tup [.ref o, .ref c]) u = some _ := upd_same
          generalize upd H7 u (.tup [.ref o, .ref c]) = H8 at *
          have d8 := s8 _ _ d7
          have nu : u ≠ D2 := ne_of u8 d8 (by intro z; cases z)
          have wr : ∀ a xs, SqT K H8 a xs → SqT K (upd H8 D2 (.lst (refs us ++ [.ref u]))) a xs := sqT_wr d8 (by intro xs z; cases z) (by intro b xs z; cases z)
          have wt : ∀ {a : Addr} {r : Row}, RowAt K T k H8 a r → RowAt K T k (upd H8 D2 (.lst (refs us ++ [.ref u]))) a r := fun ⟨o, c, r1, r2, r3⟩ => ⟨o, c, (upd_ne (ne_of r1 d8 (by intro z; cases z))).trans r1, NK.sq wr _ _ r2, wr _ _ r3⟩
          refine ⟨_, d8, Nat.lt_of_le_of_lt (by simp; omega) (show 5000 < sizeLine by decide), us ++ [u], (s7.trans s8).mut _ hD2, by rw [upd_same]; simp [refs], by simp; omega, ?_⟩
          rw [List.map_append]
          exact paired_append (Paired.mapP hu7 fun _ _ z => wt (z.mono s8)) (.cons (wt ⟨o, c, u8, (hnk.mono s7).mono s8, s8.seqT hc2⟩) .nil)
      · rintro H7 ⟨us, s7, d7, lu, hu7⟩
        have e2 : ((keysOf rows).mergeSort (leS T k)).take (refs os).length = (keysOf rows).mergeSort (leS T k) := by
          rw [List.take_of_length_le]
          have := z4.length
          simp [this]
        rw [e2] at hu7
        exact q H7 D2 us (s6.trans s7) d7 hu7
end
end Sam
end
section
set_option Elab.async false
set_option linter.all false
set_option maxRecDepth 100000
set_option maxHeartbeats 1000000
namespace Sam
open PySem PySem.Spec PyProof.Rows L2
open C8 (pss_cut tCut call_isC InsC)
section
variable {P : Program} {w : World} {K : PySem.W.Frag} {mg : Str → Option Value} {base : Heap} {CE : Addr} {T : Nat → Thing} {k : Nat}
/-! gathered -/
def spGath (K : PySem.W.Frag) (CE : Addr) (T : Nat → Thing) (k : Nat) : Sp := fun vs H Q _ => ∃ (G : Hp) (X : DX) (x : ES) (rs : List Addr) (rows : List Row), vs = [.ref X.e] ∧ Same G H ∧ DiAt K CE G H X x ∧ X.over = true ∧ H X.R = some (.lst (refs rs)) ∧ RowsAt K T k H rs rows ∧ RowsOk rows ∧
  ∀ H' f us, Same H H' → H' f = some (.lst (refs us)) → RowsAt K T k H' us (lawR T k rows) → Q (.ref f) H'
theorem scE6 : FnScope ["self"] ["self"] (defScope (eS 6)) := ⟨rfl, rfl, rfl, by decide +kernel, rfl, by decide +kernel, by decide +kernel⟩
theorem ok_gath (cE : ECl K CE) (d : Dm K CE "gathered" "Explorer.gathered" (eS 6) ["self"]) (cL : Cl P w K mg base "law_from" ["rows"] 5 (spLawF K T k)) : Mt P w K mg base CE "gathered" ["self"] 6 (spGath K CE T k) := by
  refine d.ok scE6 (fun vs H Q E h => ?_) (fun f cdv A outer s0 H vs Q E hr h => ?_)
  · obtain ⟨G, X, x, rs, rows, rfl, _⟩ := h
    rfl
  · obtain ⟨G, X, x, rs, rows, rfl, hG, hE, hov, hR, hRows, hO, q⟩ := h
    refine ⟨_, pss_cons (ps_if (pt_not (pt_val (pe_fld (pv 0) rfl))) pss_never pss_nil) (pss_one (ps_ret (pe_c cL hr (pa_cons (pe_fld (pv 0) rfl) pa_nil)))), ?_⟩
    obtain ⟨c0, he, hc0⟩ := hE.ins
    rw [hov] at he
    refine ⟨_, rfl, X.e, CE, X.dx, _, _, rfl, he, cE.cl, cE.n 4, zlook (i := 4) exN_nd rfl, true, rfl, iteF ?_⟩
    exact ⟨_, rfl, X.e, CE, X.dx, _, _, rfl, he, cE.cl, cE.n 6, zlook (i := 6) exN_nd rfl, X.R, rs, rows, rfl, SqL.of hR, hRows, hO, q⟩
/-! the deck -/
def DeckAt (H : Hp) (d : Addr) : Prop := ∃ (sl : Addr) (cells : List Int) (i : Nat) (a b : Int), H d = some (.lst [.ref sl, .int (i : Int), .int a, .int b]) ∧ H sl = some (.lst (cells.map V.int)) ∧ i ≤ 1000 ∧ sl ≠ d
def spDeck (K : PySem.W.Frag) : Sp := fun vs H Q _ => ∃ (l : Addr) (cells : List Int), vs = [.ref l] ∧ SqL K H l (cells.map V.int) ∧ ∀ d H', Same H H' → H d = none → (∃ (sl : Addr) (cells : List Int), H' d = some (.lst [.ref sl, .int 0, .int 0, .int 7]) ∧ H' sl = some (.lst (cells.map V.int)) ∧ sl ≠ d ∧ H sl = none) → Q (.ref d) H'
theorem sc64 : FnScope ["_law_script"] ["_law_script"] (defScope (top 64)) := ⟨rfl, rfl, rfl, by decide +kernel, rfl, by decide +kernel, by decide +kernel⟩
theorem ok_deck (B : Bn mg) (d : Df K mg "_law_deck" (top 64) ["_law_script"]) : Cl P w K mg base "_law_deck" ["_law_script"] 1 (spDeck K) := by
  refine d.ok sc64 (fun vs H Q E h => ?_) (fun f cdv A outer s0 H vs Q E hr h => ?_)
  · obtain ⟨l, cells, rfl, _⟩ := h
    rfl
  · obtain ⟨l, cells, rfl, hl, q⟩ := h
    refine ⟨_, pss_one (ps_ret (pe_lst (pa_cons (pe_callTy call_list_of (by rfl) B.list (by decide +kernel) (pa_cons (pv 0) pa_nil)) (pa_cons pe_int (pa_cons pe_int (pa_cons pe_int pa_nil)))))), ?_⟩
    refine ⟨_, rfl, l, _, rfl, .inl hl, fun sl hsl => ⟨(by show 4 ≤ sizeLine; decide), fun d hd => ?_⟩⟩
    have s1 := Same.new (.lst (cells.map V.int)) hsl
    have n1 : sl ≠ d := fun z => by subst z; rw [upd_same] at hd; cases hd
    exact q d _ (s1.trans (Same.new _ hd)) (s1.free hd) ⟨sl, cells, upd_same, (upd_ne n1).trans upd_same, n1, hsl⟩
/-- one cell is changed -/
theorem deck_wr {H : Hp} {d sl : Addr} {cells : List Int} {xs : List V} (hd : H d = some (.lst xs)) (hs : H sl = some (.lst (cells.map V.int))) (n : sl ≠ d) {ys : List V} : upd H d (.lst ys) sl = some (.lst (cells.map V.int)) := (upd_ne n).trans hs
def spDraw : Sp := fun vs H Q _ => ∃ (d sl : Addr) (cells : List Int) (i m : Nat) (a b : Int), vs = [.ref d, .int (m : Int)] ∧ H d = some (.lst [.ref sl, .int (i : Int), .int a, .int b]) ∧ H sl = some (.lst (cells.map V.int)) ∧ sl ≠ d ∧ i ≤ 1000 ∧ (0 < m ∧ m < 1000000) ∧
  ∀ (v j : Nat) (a' b' : Int), v < m → j ≤ i + 1 → Q (.int (v : Int)) (upd H d (.lst [.ref sl, .int (j : Int), .int a', .int b']))
theorem sc65 : FnScope ["_law_deck_here", "_law_most", "_law_value", "_law_cell"] ["_law_deck_here", "_law_most"] (defScope (top 65)) := ⟨rfl, rfl, rfl, by decide +kernel, rfl, by decide +kernel, by decide +kernel⟩
theorem ok_draw (B : Bn mg) (d : Df K mg "_law_draw" (top 65) ["_law_deck_here", "_law_most"]) : Cl P w K mg base "_law_draw" ["_law_deck_here", "_law_most"] 1 spDraw := by
  refine d.ok sc65 (fun vs H Q E h => ?_) (fun f cdv A outer s0 H vs Q E hr h => ?_)
  · obtain ⟨d, sl, cells, i, m, a, b, rfl, _⟩ := h
    rfl
  · obtain ⟨d, sl, cells, i, m, a, b, rfl, hd, hsl, nsd, hi, ⟨hm0, hm1⟩, q⟩ := h
    have nd := sc65.nd
    have md : ∀ z : Int, ∃ v : Nat, z % (m : Int) = (v : Int) ∧ v < m := fun z => by
      have h1 := Int.emod_nonneg z (show (m : Int) ≠ 0 by omega)
      have h2 := Int.emod_lt_of_pos z (show (0 : Int) < (m : Int) by omega)
      exact ⟨(z % (m : Int)).toNat, by omega, by omega⟩
    have qm : ∀ (z : Int) (j : Nat) (a' b' : Int), j ≤ i + 1 → Q (.int (z % (m : Int))) (upd H d (.lst [.ref sl, .int (j : Int), .int a', .int b'])) := fun z j a' b' h => by
      obtain ⟨v, e1, e2⟩ := md z
      rw [e1]
      exact q v j a' b' e2 h
    refine ⟨_, pss_cons (ps_if (pt_cmpR op_ge (pe_ix ix_list (pv 0) pe_int (fun _ _ => rfl)) (pv 1) (nomark _))
        (pss_cons (ps_set (i := 2) nd rfl (.inl rfl) (pe_op op_mod (pe_callTy call_int1 (by rfl) B.int (by decide +kernel) (pa_cons (pe_ix ix_list (pv 0) pe_int (fun _ _ => rfl)) pa_nil)) (pv 1)))
        (pss_cons (ps_asg (pe_op op_fdiv (pe_ix ix_list (pv 0) pe_int (fun _ _ => rfl)) (pv 1)) (pg_sub (pv 0) pe_int set_list)) (pss_one (ps_ret (pv 2))))) pss_nil)
      (pss_cons (ps_set (i := 3) nd rfl (.inl rfl) pe_int)
      (pss_cut (ps_if (pt_cmpR op_lt (pe_ix ix_list (pv 0) pe_int (fun _ _ => rfl)) (pe_callB call_len_seq (by rfl) B.len PySem.boot_len (pa_cons (pe_ix ix_list (pv 0) pe_int (fun _ _ => rfl)) pa_nil)) (nomark _))
          (pss_one (ps_set (i := 3) nd rfl (.inl rfl) (pe_ix ix_list (pe_ix ix_list (pv 0) pe_int (fun _ _ => rfl)) (pe_ix ix_list (pv 0) pe_int (fun _ _ => rfl)) (fun _ _ => rfl)))) pss_nil)
      (pss_cons (ps_asg (pe_op op_add (pe_ix ix_list (pv 0) pe_int (fun _ _ => rfl)) pe_int) (pg_sub (pv 0) pe_int set_list))
      (pss_cons (ps_asg pe_int (pg_sub (pv 0) pe_int set_list))
      (pss_cons (ps_if (pt_cmpR op_ge (pv 3) (pe_op op_pow pe_int pe_int) (nomark _))
        (pss_cons (ps_asg (pe_op op_fdiv (pv 3) (pv 1)) (pg_sub (pv 0) pe_int set_list)) (pss_one (ps_ret (pe_op op_mod (pe_callTy call_int1 (by rfl) B.int (by decide +kernel) (pa_cons (pv 3) pa_nil)) (pv 1))))) pss_nil)
      (pss_cons (ps_asg (pe_op op_mod (pe_callTy call_int1 (by rfl) B.int (by decide +kernel) (pa_cons (pe_op op_add (pe_op op_add (pe_op op_mul (pe_ix ix_list (pv 0) pe_int (fun _ _ => rfl)) pe_int) (pe_op op_mul (pv 3) pe_int)) (pe_op op_mul (pe_ix ix_list (pv 0) pe_int (fun _ _ => rfl)) pe_int)) pa_nil)) pe_int) (pg_sub (pv 0) pe_int set_list))
      (pss_cons (ps_asg (pe_op op_mod (pe_callTy call_int1 (by rfl) B.int (by decide +kernel) (pa_cons (pe_op op_add (pe_op op_mul (pe_ix ix_list (pv 0) pe_int (fun _ _ => rfl)) pe_int) pe_int) pa_nil)) pe_int) (pg_sub (pv 0) pe_int set_list))
      (pss_one (ps_ret (pe_op op_mod (pe_callTy call_int1 (by rfl) B.int (by decide +kernel) (pa_cons (pe_op op_fdiv (pe_ix ix_list (pv 0) pe_int (fun _ _ => rfl)) pe_int) pa_nil)) (pv 1))))))))))), ?_⟩
    refine ⟨_, rfl, d, _, _, _, rfl, rfl, SqL.of hd, atI_nat (j := 2) rfl, _, rfl, _, _, rfl, rfl, _, rfl, ite2 (fun _ => ?_) fun _ => ?_⟩
    · refine ⟨_, rfl, d, _, _, _, rfl, rfl, SqL.of hd, atI_nat (j := 2) rfl, .inl ⟨_, rfl, _, rfl, _, _, rfl, rfl, (by show (0 : Int) < (m : Int); omega), ?_⟩⟩
      refine ⟨_, rfl, d, _, _, _, rfl, rfl, SqL.of hd, atI_nat (j := 2) rfl, _, rfl, _, _, rfl, rfl, ⟨by omega, by omega⟩, _, rfl, d, _, _, 2, rfl, rfl, hd, ixN_nat (p := 2) (by simp), ?_⟩
      exact ⟨_, rfl, qm a i _ b (by omega)⟩
    · refine ⟨fun σ' H' => ∃ c : Int, σ' = [some (.ref d), some (.int (m : Int)), none, some (.int c)] ∧ H' = H, ?_, ?_⟩
      · refine ⟨_, rfl, d, _, _, _, rfl, rfl, SqL.of hd, atI_nat (j := 1) rfl, _, rfl, d, _, _, _, rfl, rfl, SqL.of hd, atI_nat (j := 0) rfl, sl, _, rfl, .inl (SqL.of hsl), _, _, rfl, rfl, _, rfl, ite2 (fun hlt => ?_) fun _ => ⟨0, rfl, rfl⟩⟩
        have hlt' : i < cells.length := by
          have := of_decide_eq_true hlt
          simp at this
          omega
        refine ⟨_, rfl, d, _, _, _, rfl, rfl, SqL.of hd, atI_nat (j := 0) rfl, _, rfl, d, _, _, _, rfl, rfl, SqL.of hd, atI_nat (j := 1) rfl, sl, _, _, .int cells[i], rfl, rfl, SqL.of hsl, atI_nat (by rw [List.getElem?_map, List.getElem?_eq_getElem hlt']; rfl), ?_⟩
        exact ⟨_, rfl, rfl⟩
      · rintro σ' H' ⟨c, rfl, rfl⟩
        refine ⟨_, rfl, d, _, _, _, rfl, rfl, SqL.of hd, atI_nat (j := 1) rfl, _, _, rfl, rfl, _, rfl, d, _, _, 1, rfl, rfl, hd, ixN_nat (p := 1) (by simp), ?_⟩
        refine ⟨_, rfl, d, _, _, 2, rfl, rfl, upd_same, ixN_nat (p := 2) (by simp), ?_⟩
        rw [upd_upd]
        have hc : ((i : Int) + 1) = ((i + 1 : Nat) : Int) := rfl
        have hd2 : upd H' d (.lst [.ref sl, .int ((i + 1 : Nat) : Int), .int 0, .int b]) d = some _ := upd_same
        refine ⟨_, rfl, _, _, rfl, rfl, ⟨by decide, by decide, by decide⟩, _, _, rfl, rfl, _, rfl, ite2 (fun _ => ?_) fun _ => ?_⟩
        · refine ⟨_, rfl, _, rfl, _, _, rfl, rfl, ⟨by omega, by omega⟩, _, rfl, d, _, _, 2, rfl, rfl, upd_same, ixN_nat (p := 2) (by simp), ?_⟩
          rw [upd_upd]
          exact ⟨_, rfl, .inl ⟨_, rfl, _, rfl, _, _, rfl, rfl, (by show (0 : Int) < (m : Int); omega), qm c (i + 1) _ b (by omega)⟩⟩
        · refine ⟨_, rfl, d, _, _, _, rfl, rfl, SqL.of upd_same, atI_nat (j := 3) rfl, _, _, rfl, rfl, .inr ⟨by decide, by decide⟩, _, rfl, _, _, rfl, rfl, .inr ⟨by decide, by decide⟩, _, _, rfl, rfl, _, rfl, d, _, _, _, rfl, rfl, SqL.of upd_same, atI_nat (j := 1) rfl, _, _, rfl, rfl, .inr ⟨by decide, by decide⟩, _, _, rfl, rfl, .inl ⟨_, rfl, _, _, rfl, rfl, (by show (0 : Int) < 2147483647; decide), ?_⟩⟩
          refine ⟨_, rfl, d, _, _, 3, rfl, rfl, upd_same, ixN_nat (p := 3) (by simp), ?_⟩
          rw [upd_upd]
          refine ⟨_, rfl, d, _, _, _, rfl, rfl, SqL.of upd_same, atI_nat (j := 3) rfl, _, _, rfl, rfl, .inr ⟨by decide, by decide⟩, _, _, rfl, rfl, .inl ⟨_, rfl, _, _, rfl, rfl, (by show (0 : Int) < 2147483647; decide), ?_⟩⟩
          refine ⟨_, rfl, d, _, _, 3, rfl, rfl, upd_same, ixN_nat (p := 3) (by simp), ?_⟩
          rw [upd_upd]
          refine ⟨_, rfl, d, _, _, _, rfl, rfl, SqL.of upd_same, atI_nat (j := 3) rfl, _, _, rfl, rfl, ⟨by decide, by decide⟩, .inl ⟨_, rfl, _, rfl, _, _, rfl, rfl, (by show (0 : Int) < (m : Int); omega), ?_⟩⟩
          exact qm _ (i + 1) _ _ (by omega)
end
end Sam
end
section
set_option Elab.async false
set_option linter.all false
set_option maxRecDepth 100000
set_option maxHeartbeats 1000000
namespace Sam
open PySem PySem.Spec PyProof.Rows L2
open C8 (pss_cut tCut call_isC InsC)
def DkAt (H : Hp) (d sl : Addr) (n : Nat) : Prop := ∃ (cells : List Int) (i : Nat) (a b : Int), H d = some (.lst [.ref sl, .int (i : Int), .int a, .int b]) ∧ H sl = some (.lst (cells.map V.int)) ∧ sl ≠ d ∧ i ≤ n
theorem draw_step {H : Hp} {d sl : Addr} {n m : Nat} {Q : VK} {E : XK} (h : DkAt H d sl n) (hn : n ≤ 1000) (hm : 0 < m ∧ m < 1000000) (q : ∀ (v : Nat) H', v < m → DkAt H' d sl (n + 1) → (∀ b, b ≠ d → H' b = H b) → Q (.int (v : Int)) H') : spDraw [.ref d, .int (m : Int)] H Q E := by
  obtain ⟨cells, i, a, b, h1, h2, h3, h4⟩ := h
  exact ⟨d, sl, cells, i, m, a, b, rfl, h1, h2, h3, by omega, hm, fun v j a' b' hv hj => q v _ hv ⟨cells, j, a', b', upd_same, (upd_ne h3).trans h2, h3, by omega⟩ fun b hb => upd_ne hb⟩
theorem DkAt.keep {H H' : Hp} {d sl : Addr} {n : Nat} (h : DkAt H d sl n) (s : Same H H') : DkAt H' d sl n :=
  let ⟨cells, i, a, b, h1, h2, h3, h4⟩ := h
  ⟨cells, i, a, b, s _ _ h1, s _ _ h2, h3, h4⟩
/-- things so far -/
def thOf (ts : List Thing) (i : Nat) : Thing := ts.getD i ⟨"g", 1, 0⟩
theorem thOf_lt {ts : List Thing} {t : Thing} {i : Nat} (h : i < ts.length) : thOf (ts ++ [t]) i = thOf ts i := by
  unfold thOf
  rw [List.getD_eq_getElem?_getD, List.getD_eq_getElem?_getD, List.getElem?_append_left h]
theorem thOf_last (ts : List Thing) (t : Thing) : thOf (ts ++ [t]) ts.length = t := by
  unfold thOf
  simp
structure ThOk (t : Thing) : Prop where
  w1 : 1 ≤ t.w
  w6 : t.w ≤ 6
  g : PyData.strOk t.g = true
theorem itms_grow {ts : List Thing} {t : Thing} {H H' : Hp} (s : ∀ b xs, H b = some (.tup xs) → H' b = some (.tup xs)) {as : List Addr} {is : List Nat} (h : Itms (thOf ts) H as is) (hlt : ∀ j ∈ is, j < ts.length) : Itms (thOf (ts ++ [t])) H' as is := by
  induction h with
  | nil => exact .nil
  | @cons a i l m r _ ih =>
    refine .cons ⟨r.1, ?_⟩ (ih fun j hj => hlt j (List.mem_cons_of_mem _ hj))
    have e : itV (thOf (ts ++ [t])) i = itV (thOf ts) i := by
      unfold itV
      rw [thOf_lt (hlt i List.mem_cons_self)]
    rw [e]
    exact s _ _ r.2
theorem thOk0 : ThOk ⟨"g", 1, 0⟩ := ⟨by decide, by decide, by decide +kernel⟩
theorem thOk_snoc {ts : List Thing} {t : Thing} (h : ∀ j, ThOk (thOf ts j)) (ht : ThOk t) (j : Nat) : ThOk (thOf (ts ++ [t]) j) := by
  by_cases h1 : j < ts.length
  · rw [thOf_lt h1]; exact h j
  · by_cases h2 : j = ts.length
    · subst h2; rw [thOf_last]; exact ht
    · have : thOf (ts ++ [t]) j = ⟨"g", 1, 0⟩ := by
        unfold thOf
        rw [List.getD_eq_getElem?_getD, List.getElem?_eq_none (by simp; omega)]
        rfl
      rw [this]; exact thOk0
section
variable {P : Program} {w : World} {K : PySem.W.Frag} {mg : Str → Option Value} {base : Heap} {CE : Addr}
def spThings : Sp := fun vs H Q _ => ∃ (d sl : Addr) (m n0 : Nat), vs = [.ref d, .int (m : Int)] ∧ DkAt H d sl n0 ∧ n0 ≤ 500 ∧ (1 ≤ m ∧ m ≤ 4) ∧
  ∀ (ts : List Thing) l as H', 1 ≤ ts.length → ts.length ≤ m → (∀ i, ThOk (thOf ts i)) → DkAt H' d sl (n0 + 20) → (∀ b o, b ≠ d → H b = some o → H' b = some o) → H l = none → H' l = some (.lst (refs as)) → Itms (thOf ts) H' as (List.range ts.length) → (∀ a ∈ as, H a = none) → Q (.ref l) H'
theorem sc66 : FnScope ["_law_deck_here", "_law_most", "_law_things_here", "_law_k"] ["_law_deck_here", "_law_most"] (defScope (top 66)) := ⟨rfl, rfl, rfl, by decide +kernel, rfl, by decide +kernel, by decide +kernel⟩
theorem gh_ok : ∀ v : Fin 2, ∃ c, ("gh" : Str).cps.toList[v.val]? = some c ∧ PyData.strOk ⟨#[c]⟩ = true := by
  intro v
  match v with
  | 0 => exact ⟨103, by decide +kernel, by decide +kernel⟩
  | 1 => exact ⟨104, by decide +kernel, by decide +kernel⟩
theorem nm_len4 : ∀ i : Fin 4, ("k" : Str).length + (toString ((i.val : Nat) : Int) : Str).length ≤ sizeLine := by decide +kernel
theorem pm_len4 : ∀ i : Fin 4, ("p" : Str).length + (toString ((i.val : Nat) : Int) : Str).length ≤ sizeLine := by decide +kernel
theorem log_small {i : Nat} (h : i < 4) : ((i : Int)).natAbs.log2 < 1920 := Nat.lt_of_le_of_lt (Nat.log2_le_self _) (by simp; omega)
theorem range_snoc (n : Nat) : List.range (n + 1) = List.range n ++ [n] := List.range_succ
theorem ok_things (B : Bn mg) (d : Df K mg "_law_things" (top 66) ["_law_deck_here", "_law_most"]) (cD : Cl P w K mg base "_law_draw" ["_law_deck_here", "_law_most"] 1 spDraw) : Cl P w K mg base "_law_things" ["_law_deck_here", "_law_most"] 2 spThings := by
  refine d.ok sc66 (fun vs H Q E h => ?_) (fun f cdv A outer s0 H vs Q E hr h => ?_)
  · obtain ⟨d, sl, m, n0, rfl, _⟩ := h
    rfl
  · obtain ⟨d, sl, m, n0, rfl, hD, hn0, ⟨m1, m4⟩, q⟩ := h
    have nd := sc66.nd
    refine ⟨_, pss_cons (ps_set (i := 2) nd rfl (.inl rfl) (pe_lst pa_nil))
      (pss_cons (ps_for PassesOwn.never rfl (pi_range1 rfl B.range (pa_cons (pe_op op_add (pe_c cD hr (pa_cons (pv 0) (pa_cons (pv 1) pa_nil))) pe_int) pa_nil)) (pg_name (i := 3) nd rfl (.inl rfl))
        (pss_one (ps_expr (pe_bm PySem.F.plainAttrs_list PySem.F.slot_list_append PySem.F.type_list_append mt_append (pv 2) (pa_cons (pe_tup (pa_cons (pe_op op_add_str pe_str (pe_callTy call_str_int (by rfl) B.str (by decide +kernel) (pa_cons (pv 3) pa_nil)))
          (pa_cons (pe_ix ix_str pe_str (pe_c cD hr (pa_cons (pv 0) (pa_cons pe_int pa_nil))) (fun _ _ => rfl)) (pa_cons (pe_op op_add pe_int (pe_c cD hr (pa_cons (pv 0) (pa_cons pe_int pa_nil)))) (pa_cons (pe_op op_sub (pe_c cD hr (pa_cons (pv 0) (pa_cons pe_int pa_nil))) pe_int) pa_nil))))) pa_nil)))))
      (pss_one (ps_ret (pv 2)))), ?_⟩
    refine ⟨(by show 0 ≤ sizeLine; decide), fun l hl => ?_⟩
    have s1 := Same.new (.lst []) hl
    have l1 : upd H l (.lst []) l = some _ := upd_same
    have D1 := hD.keep s1
    generalize upd H l (.lst []) = H1 at *
    refine ⟨_, rfl, _, rfl, ?_⟩
    dsimp only [tNil, List.append_nil]
    refine draw_step D1 (by omega) ⟨by omega, by omega⟩ fun v H2 hv D2 e2 => ?_
    have nld : l ≠ d := by
      obtain ⟨_, _, _, _, h1, _⟩ := hD
      exact (ne_of_none h1 hl).symm
    have l2 : H2 l = some (.lst []) := (e2 l nld).trans l1
    have sb2 : ∀ b o, b ≠ d → H b = some o → H2 b = some o := fun b o hb e => (e2 b hb).trans (s1 _ _ e)
    refine ⟨_, _, rfl, rfl, _, rfl, by omega, by omega, for_range (D := { nx := tRet (tVar 2) { nx := fun _ H' => Q .non H', rt := Q }, rt := Q }) (lo := 0) (fun i σ H3 => ∃ v3 as ts n, σ = [some (.ref d), some (.int (m : Int)), some (.ref l), v3] ∧ ts.length = i ∧ n ≤ n0 + 1 + 3 * i ∧ DkAt H3 d sl n ∧ (∀ b o, b ≠ d → H b = some o → H3 b = some o) ∧ H3 l = some (.lst (refs as)) ∧
        Itms (thOf ts) H3 as (List.range i) ∧ (∀ j, ThOk (thOf ts j)) ∧ (∀ a ∈ as, H a = none))
      ⟨none, [], [], n0 + 1, rfl, rfl, by omega, D2, sb2, l2, .nil, fun j => thOk0, by simp⟩ ?_ ?_⟩
    · rintro i σ H3 hi ⟨v3, as, ts, n, rfl, hts, hn, D3, sb3, l3, it3, th3, na3⟩
      have hi4 : i < 4 := by omega
      have hz : (0 : Int) + (i : Int) = (i : Int) := Int.zero_add _
      rw [hz]
      refine ⟨_, rfl, .inl ⟨rfl, _, SqL.of l3⟩, _, rfl, ?_⟩
      refine ⟨_, rfl, log_small hi4, _, _, rfl, rfl, nm_len4 ⟨i, hi4⟩, ?_⟩
      refine ⟨_, rfl, ?_⟩
      dsimp only [tNil, tC, tCons, List.cons_append, List.nil_append, List.append_nil]
      refine draw_step (m := 2) D3 (by omega) ⟨by decide, by decide⟩ fun v1 H4 hv1 D4 e4 => ?_
      obtain ⟨c, hc1, hc2⟩ := gh_ok ⟨v1, hv1⟩
      refine ⟨_, _, c, rfl, rfl, (by decide), atI_nat hc1, ?_⟩
      refine ⟨_, rfl, ?_⟩
      dsimp only [tNil, tC, tCons, List.cons_append, List.nil_append, List.append_nil]
      refine draw_step (m := 6) D4 (by omega) ⟨by decide, by decide⟩ fun v2 H5 hv2 D5 e5 => ⟨_, _, rfl, rfl, ?_⟩
      refine ⟨_, rfl, ?_⟩
      dsimp only [tNil, tC, tCons, List.cons_append, List.nil_append, List.append_nil]
      refine draw_step (m := 9) D5 (by omega) ⟨by decide, by decide⟩ fun v3 H6 hv3 D6 e6 => ⟨_, _, rfl, rfl, (by show 4 ≤ sizeLine; decide), fun t ht => ?_⟩
      have e36 : ∀ b o, b ≠ d → H3 b = some o → H6 b = some o := fun b o hb e => (e6 b hb).trans ((e5 b hb).trans ((e4 b hb).trans e))
      have l6 := e36 _ _ nld l3
      have hz2 : (1 : Int) + (v2 : Int) = ((1 + v2 : Nat) : Int) := by omega
      rw [hz2]
      have hkn : (("k" : Str) ++ (toString (i : Int) : Str)) = kNm i := rfl
      rw [hkn]
      have s7 := Same.new (.tup [.str (kNm i), .str ⟨#[c]⟩, .int ((1 + v2 : Nat) : Int), .int ((v3 : Int) - 4)]) ht
      have t7 : upd H6 t (.tup [.str (kNm i), .str ⟨#[c]⟩, .int ((1 + v2 : Nat) : Int), .int ((v3 : Int) - 4)]) t = some _ := upd_same
      have D7 := D6.keep s7
      have n7 : H t = none := by
        cases hh : H t with
        | none => rfl
        | some o =>
          by_cases q : t = d
          · obtain ⟨_, _, _, _, h1, _⟩ := D6
            rw [q, h1] at ht; cases ht
          · have := e36 _ _ q (sb3 _ _ q hh)
            rw [this] at ht; cases ht
      generalize upd H6 t (.tup [.str (kNm i), .str ⟨#[c]⟩, .int ((1 + v2 : Nat) : Int), .int ((v3 : Int) - 4)]) = H7 at *
      have l7 := s7 _ _ l6
      have ntl : t ≠ l := ne_of t7 l7 (by intro z; cases z)
      refine ⟨l, _, _, rfl, rfl, l7, small1000 ?_, _, as ++ [t], ts ++ [⟨⟨#[c]⟩, 1 + v2, (v3 : Int) - 4⟩], n + 1 + 1 + 1, rfl, by simp [hts], by omega, ?_, ?_, ?_, ?_, ?_, ?_⟩
      · have := it3.length
        simp at this ⊢
        omega
      · obtain ⟨cells, i1, a1, b1, h1, h2, h3, h4⟩ := D7
        have nsl : sl ≠ l := by
          obtain ⟨_, _, _, _, _, g2, _⟩ := hD
          exact ne_of_none g2 hl
        exact ⟨cells, i1, a1, b1, (upd_ne nld.symm).trans h1, (upd_ne nsl).trans h2, h3, h4⟩
      · intro b o hb e
        rw [upd_ne (ne_of_none e hl)]
        exact s7 _ _ (e36 _ _ hb (sb3 _ _ hb e))
      · rw [upd_same]; simp [refs]
      · rw [List.range_succ]
        refine paired_append ?_ (.cons ⟨hi4, ?_⟩ .nil)
        · refine itms_grow (fun b xs e => ?_) it3 (by simp [hts])
          have hbd : b ≠ d := by
            obtain ⟨_, _, _, _, h1, _⟩ := D3
            exact ne_of e h1 (by intro z; cases z)
          have e7 := s7 _ _ (e36 _ _ hbd e)
          rw [upd_ne (ne_of e7 l7 (by intro z; cases z))]
          exact e7
        · rw [upd_ne ntl, t7]
          have := thOf_last ts ⟨⟨#[c]⟩, 1 + v2, (v3 : Int) - 4⟩
          rw [hts] at this
          simp only [itV, this]
      · exact thOk_snoc th3 ⟨by show 1 ≤ 1 + v2; omega, by show 1 + v2 ≤ 6; omega, hc2⟩
      · intro a ha
        rcases List.mem_append.mp ha with h | h
        · exact na3 a h
        · simp at h; subst h; exact n7
    · rintro σ H3 ⟨v3, as, ts, n, rfl, hts, hn, D3, sb3, l3, it3, th3, na3⟩
      have hv1 : ((v : Int) + 1).toNat = v + 1 := by omega
      rw [hv1] at hts it3 hn
      refine ⟨_, rfl, q ts l as H3 (by omega) (by omega) th3 ?_ sb3 hl l3 (by rw [hts]; exact it3) na3⟩
      obtain ⟨cells, i1, a1, b1, h1, h2, h3, h4⟩ := D3
      exact ⟨cells, i1, a1, b1, h1, h2, h3, by omega⟩
end
end Sam
end
section
set_option Elab.async false
set_option linter.all false
set_option maxRecDepth 100000
set_option maxHeartbeats 1000000
namespace Sam
open PySem PySem.Spec PyProof.Rows L2
open C8 (pss_cut tCut call_isC InsC)
/-! single -/
section
variable {P : Program} {w : World} {K : PySem.W.Frag} {mg : Str → Option Value} {base : Heap} {CE : Addr} {T : Nat → Thing}
def oneOf (T : Nat → Thing) (kd : Bool) (i : Nat) : Nat := if kd then 1 else (T i).w
def kdI (kd : Bool) : Int := if kd then 0 else 1
def spSing (D : Kd) (T : Nat → Thing) (kd : Bool) : Sp := fun vs H Q _ => ∃ (G : Hp) (a : Addr) (i k : Nat), vs = [.int (kdI kd), .ref a, .int (k : Int)] ∧ Same G H ∧ IsIt T G a i ∧ G D.C = some D.cls ∧ (1 ≤ k ∧ k ≤ 20) ∧
  ∀ G' H' r, Ext [] G H G' H' → SmIs D T k G' r ⟨oneOf T kd i, [i]⟩ → Q (.ref r) H'
theorem sc67 : FnScope ["_law_kind", "_law_item", "_law_size"] ["_law_kind", "_law_item", "_law_size"] (defScope (top 67)) := ⟨rfl, rfl, rfl, by decide +kernel, rfl, by decide +kernel, by decide +kernel⟩
theorem ok_singU {C : Addr} {co : Obj} (hm : mg "Uniform" = some (.ref C)) (d : Df K mg "_law_single" (top 67) ["_law_kind", "_law_item", "_law_size"]) (cS : CmS P w K mg base C co "single" ["cls", "item", "size"] 3 (spSingle (kU C co) T (fun _ => 1))) :
    Cl P w K mg base "_law_single" ["_law_kind", "_law_item", "_law_size"] 4 (spSing (kU C co) T true) := by
  refine d.ok sc67 (fun vs H Q E h => ?_) (fun f cdv A outer s0 H vs Q E hr h => ?_)
  · obtain ⟨G, a, i, k, rfl, _⟩ := h
    rfl
  · obtain ⟨G, a, i, k, rfl, hG, hI, hC, hk, q⟩ := h
    refine ⟨_, pss_cons (ps_if (pt_cmpR op_eq (pv 0) pe_int (nomark _)) (pss_one (ps_ret (ps_cm (nm := "Uniform") cS hr (pe_glob (v := .ref C) (by rfl) hm rfl) (pa_cons (pv 1) (pa_cons (pv 2) pa_nil))))) pss_nil) pss_never, ?_⟩
    refine ⟨_, rfl, rfl, _, rfl, ite2 (fun _ => ?_) fun z => ?_⟩
    · exact ⟨rfl, hG _ _ hC, _, rfl, _, rfl, G, a, i, k, rfl, hG, hI, hC, hk, q⟩
    · exact z (decide_eq_true rfl)
theorem ok_singW {C : Addr} {co : Obj} (hm : mg "Weighted" = some (.ref C)) (d : Df K mg "_law_single" (top 67) ["_law_kind", "_law_item", "_law_size"]) (cS : CmS P w K mg base C co "single" ["cls", "item", "size"] 3 (spSingle (kW C co) T (fun i => (T i).w))) :
    Cl P w K mg base "_law_single" ["_law_kind", "_law_item", "_law_size"] 4 (spSing (kW C co) T false) := by
  refine d.ok sc67 (fun vs H Q E h => ?_) (fun f cdv A outer s0 H vs Q E hr h => ?_)
  · obtain ⟨G, a, i, k, rfl, _⟩ := h
    rfl
  · obtain ⟨G, a, i, k, rfl, hG, hI, hC, hk, q⟩ := h
    refine ⟨_, pss_cons (ps_if (pt_cmpR op_eq (pv 0) pe_int (nomark _)) pss_never pss_nil) (pss_cons (ps_if (pt_cmpR op_eq (pv 0) pe_int (nomark _)) (pss_one (ps_ret (ps_cm (nm := "Weighted") cS hr (pe_glob (v := .ref C) (by rfl) hm rfl) (pa_cons (pv 1) (pa_cons (pv 2) pa_nil))))) pss_nil) pss_never), ?_⟩
    refine ⟨_, rfl, rfl, _, rfl, ite2 (fun z => ?_) fun _ => ?_⟩
    · have := V.int.inj (of_decide_eq_true z)
      simp [kdI] at this
    refine ⟨_, rfl, rfl, _, rfl, ite2 (fun _ => ?_) fun z => ?_⟩
    · exact ⟨rfl, hG _ _ hC, _, rfl, _, rfl, G, a, i, k, rfl, hG, hI, hC, hk, q⟩
    · exact z (decide_eq_true rfl)
/-! low -/
def spLow : Sp := fun vs H Q _ => ∃ p q : Nat, vs = [.int (p : Int), .int (q : Int)] ∧ 0 < q ∧ q < 5000 ∧ p < 5000 ∧ ∀ a, H a = none → Q (.ref a) (upd H a (.tup (frV (mkRat (p : Int) q))))
theorem sc69 : FnScope ["_law_p", "_law_q", "_law_first", "_law_second", "_law_turn"] ["_law_p", "_law_q"] (defScope (top 69)) := ⟨rfl, rfl, rfl, by decide +kernel, rfl, by decide +kernel, by decide +kernel⟩
theorem ok_low (B : Bn mg) (d : Df K mg "_law_low" (top 69) ["_law_p", "_law_q"]) : Cl P w K mg base "_law_low" ["_law_p", "_law_q"] 1 spLow := by
  refine d.ok sc69 (fun vs H Q E h => ?_) (fun f cdv A outer s0 H vs Q E hr h => ?_)
  · obtain ⟨p, q, rfl, _⟩ := h
    rfl
  · obtain ⟨p, q, rfl, hq, hq5, hp5, k⟩ := h
    have nd := sc69.nd
    refine ⟨_, pss_cons (ps_set (i := 2) nd rfl (.inl rfl) (pe_callB call_abs (by rfl) B.abs (by decide +kernel) (pa_cons (pv 0) pa_nil)))
      (pss_cons (ps_set (i := 3) nd rfl (.inl rfl) (pv 1))
      (pss_cons (ps_for PassesOwn.never rfl (pi_range1 rfl B.range (pa_cons pe_int pa_nil)) (pg_name (i := 4) nd rfl (.inl rfl))
        (pss_cons (ps_if (pt_cmpR op_eq (pv 3) pe_int (nomark _)) (pss_one ps_break) pss_nil)
        (pss_one (ps_par (i := 2) (j := 3) rfl nd rfl rfl (by decide) rfl rfl (pa_cons (pv 3) (pa_cons (pe_op op_mod (pe_callTy call_int1 (by rfl) B.int (by decide +kernel) (pa_cons (pv 2) pa_nil)) (pv 3)) pa_nil)) (by rfl)))))
      (pss_one (ps_ret (pe_tup (pa_cons (pe_op op_fdivW (pv 0) (pv 2)) (pa_cons (pe_op op_fdivW (pv 1) (pv 2)) pa_nil))))))), ?_⟩
    refine ⟨_, rfl, _, rfl, ?_⟩
    have habs : (if (p : Int) < 0 then -(p : Int) else (p : Int)) = (p : Int) := if_neg (by omega)
    rw [habs]
    -- the end
    have hmk := mkRat_parts (p := (p : Int)) (n := q) hq
    have fin : ∀ v4 : Option V, tRet (tTup (tCons (tOp (rI CDivW fun i j => .int (i / j)) (tVar 0) (tVar 2)) (tCons (tOp (rI CDivW fun i j => .int (i / j)) (tVar 1) (tVar 2)) tNil))) { nx := fun _ H' => Q .non H', rt := Q } [some (.int (p : Int)), some (.int (q : Int)), some (.int ((Nat.gcd p q : Nat) : Int)), some (.int 0), v4] H := by
      intro v4
      have hg : 0 < Nat.gcd p q := Nat.gcd_pos_of_pos_right _ hq
      have hgl : Nat.gcd p q ≤ q := Nat.gcd_le_right _ hq
      have c : CDivW 0 ((Nat.gcd p q : Nat) : Int) := wide_div (b := 100) (by omega) (by simp; exact Nat.lt_of_le_of_lt hgl (Nat.lt_trans hq5 (by decide))) (by decide) (by decide)
      refine ⟨_, rfl, _, rfl, _, _, rfl, rfl, c, _, rfl, _, rfl, _, _, rfl, rfl, c, (by show 2 ≤ sizeLine; decide), fun a ha => ?_⟩
      have e2 := k a ha
      simp only [frV, hmk.1, hmk.2] at e2
      exact e2
    refine ⟨_, rfl, ?_⟩
    refine ⟨_, rfl, by decide, by decide, for_range (lo := 0) (fun i σ H2 => H2 = H ∧ ∃ (x y : Nat) (v4 : Option V), σ = [some (.int (p : Int)), some (.int (q : Int)), some (.int (x : Int)), some (.int (y : Int)), v4] ∧ Nat.gcd x y = Nat.gcd p q ∧ y + i ≤ q) ⟨rfl, p, q, none, rfl, rfl, by omega⟩ ?_ ?_⟩
    · rintro i σ H2 hi ⟨rfl, x, y, v4, rfl, hg, hy⟩
      refine ⟨_, rfl, rfl, _, rfl, ite2 (fun z => ?_) fun z => ?_⟩
      · have hy0 : y = 0 := by
          have := V.int.inj (of_decide_eq_true z)
          omega
        subst hy0
        rw [Nat.gcd_zero_right] at hg
        subst hg
        exact fin _
      · have hy0 : 0 < y := by
          have h1 : ¬ ((y : Int) = 0) := fun e => z (decide_eq_true (by rw [e]))
          omega
        refine ⟨_, rfl, _, rfl, .inl ⟨_, rfl, _, rfl, _, _, rfl, rfl, (by show (0 : Int) < (y : Int); omega), ?_⟩⟩
        refine ⟨_, _, rfl, rfl, y, x % y, _, rfl, ?_, ?_⟩
        · rw [← hg, Nat.gcd_comm x y, Nat.gcd_comm y (x % y)]
          exact (Nat.gcd_rec y x).symm
        · have := Nat.mod_lt x hy0
          omega
    · rintro σ H2 ⟨rfl, x, y, v4, rfl, hg, hy⟩
      exfalso
      have : (5000 : Int).toNat = 5000 := rfl
      rw [this] at hy
      omega
/-! times -/
def spLTim (K : PySem.W.Frag) : Sp := fun vs H Q _ => ∃ (x y : Addr) (X Y : Rat), vs = [.ref x, .ref y] ∧ (SqT K H x (frV X) ∧ SqT K H y (frV Y)) ∧ (0 ≤ X ∧ 0 ≤ Y ∧ X.num < 5000 ∧ X.num * Y.num < 5000 ∧ X.den * Y.den < 5000) ∧ ∀ p, H p = none → Q (.ref p) (upd H p (.tup (frV (X * Y))))
theorem sc71 : FnScope ["_law_one", "_law_other"] ["_law_one", "_law_other"] (defScope (top 71)) := ⟨rfl, rfl, rfl, by decide +kernel, rfl, by decide +kernel, by decide +kernel⟩
theorem ok_ltim (d : Df K mg "_law_times" (top 71) ["_law_one", "_law_other"]) (cL : Cl P w K mg base "_law_low" ["_law_p", "_law_q"] 1 spLow) : Cl P w K mg base "_law_times" ["_law_one", "_law_other"] 2 (spLTim K) := by
  refine d.ok sc71 (fun vs H Q E h => ?_) (fun f cdv A outer s0 H vs Q E hr h => ?_)
  · obtain ⟨x, y, X, Y, rfl, _⟩ := h
    rfl
  · obtain ⟨x, y, X, Y, rfl, ⟨hx, hy⟩, ⟨x0, y0, hxn5, hn, hd⟩, k⟩ := h
    have hxn := Rat.num_nonneg.mpr x0
    have hyn := Rat.num_nonneg.mpr y0
    have hmn : 0 ≤ X.num * Y.num := Int.mul_nonneg hxn hyn
    have dx := X.den_pos
    have dy := Y.den_pos
    have hd1 : X.den < 5000 := Nat.lt_of_le_of_lt (Nat.le_mul_of_pos_right _ dy) hd
    have cd : CMul ((X.den : Nat) : Int) ((Y.den : Nat) : Int) := .inl ⟨by omega, by omega⟩
    refine ⟨_, pss_one (ps_ret (pe_c cL hr (pa_cons (pe_op op_mul (pe_ix ix_tup (pv 0) pe_int (fun _ _ => rfl)) (pe_ix ix_tup (pv 1) pe_int (fun _ _ => rfl))) (pa_cons (pe_op op_mul (pe_ix ix_tup (pv 0) pe_int (fun _ _ => rfl)) (pe_ix ix_tup (pv 1) pe_int (fun _ _ => rfl))) pa_nil)))), ?_⟩
    refine ⟨_, rfl, x, _, _, _, rfl, rfl, hx, atI_nat (j := 0) rfl, _, rfl, y, _, _, _, rfl, rfl, hy, atI_nat (j := 0) rfl, _, _, rfl, rfl, ?_, _, rfl, x, _, _, _, rfl, rfl, hx, atI_nat (j := 1) rfl, _, rfl, y, _, _, _, rfl, rfl, hy, atI_nat (j := 1) rfl, _, _, rfl, rfl, cd, ?_⟩
    · exact .inl ⟨by omega, by omega⟩
    refine ⟨(X.num * Y.num).toNat, X.den * Y.den, ?_, Nat.mul_pos dx dy, hd, by omega, fun p hp => ?_⟩
    · show [V.int (X.num * Y.num), V.int ((X.den : Int) * (Y.den : Int))] = _
      rw [Int.toNat_of_nonneg hmn, Int.natCast_mul]
    · rw [Int.toNat_of_nonneg hmn]
      have e : mkRat (X.num * Y.num) (X.den * Y.den) = X * Y := by rw [Rat.mul_def']
      rw [e]
      exact k p hp
end
end Sam
end
section
set_option Elab.async false
set_option linter.all false
set_option maxRecDepth 100000
set_option maxHeartbeats 1000000
namespace Sam
open PySem PySem.Spec PyProof.Rows L2
open C8 (pss_cut tCut call_isC InsC)
/-! ### the plain law, as lists -/
def setsAll (l : List Nat) : List (List Nat) := l.foldl (fun f t => f ++ f.map (· ++ [t])) [[]]
def setsM (l : List Nat) (m : Nat) : List (List Nat) := (setsAll l).filter fun s => decide (s.length = m)
def unifRows (n k : Nat) : List Row := (setsM (List.range n) (min k n)).map fun s => (⟨n, so s⟩, mkRat 1 (setsM (List.range n) (min k n)).length)
def rowD (T : Nat → Thing) (k : Nat) (r : Row) : PyData := .tuple [(vwNk T k r.1).data, frD r.2]
def leRow (T : Nat → Thing) (k : Nat) (a b : Row) : Bool := !PySem.W.dataLt (rowD T k b) (rowD T k a)
section
variable {P : Program} {w : World} {K : PySem.W.Frag} {mg : Str → Option Value} {base : Heap} {CE : Addr} {T : Nat → Thing} {k : Nat}
def SetAt (T : Nat → Thing) (H : Hp) (a : Addr) (is : List Nat) : Prop := ∃ rs, H a = some (.lst (refs rs)) ∧ Itms T H rs is
theorem SetAt.mono {H H' : Hp} {a : Addr} {is : List Nat} (s : Same H H') (h : SetAt T H a is) : SetAt T H' a is :=
  let ⟨rs, h1, h2⟩ := h
  ⟨rs, s _ _ h1, h2.mono s⟩
theorem setsAll_le : ∀ {l : List Nat}, l.length ≤ 4 → (setsAll l).length ≤ 16 ∧ ∀ s ∈ setsAll l, s.length ≤ 4 := by
  have key : ∀ (l : List Nat) (f : List (List Nat)), (l.foldl (fun f t => f ++ f.map (· ++ [t])) f).length = f.length * 2 ^ l.length := by
    intro l
    induction l with
    | nil => intro f; simp
    | cons x r ih =>
      intro f
      rw [List.foldl_cons, ih]
      simp [Nat.pow_succ]
      rw [← Nat.two_mul, Nat.mul_comm 2, Nat.mul_assoc, Nat.mul_comm 2]
  have key2 : ∀ (l : List Nat) (f : List (List Nat)) (m : Nat), (∀ s ∈ f, s.length ≤ m) → ∀ s ∈ l.foldl (fun f t => f ++ f.map (· ++ [t])) f, s.length ≤ m + l.length := by
    intro l
    induction l with
    | nil => intro f m h s hs; have := h s hs; simpa using this
    | cons x r ih =>
      intro f m h s hs
      rw [List.foldl_cons] at hs
      have := ih (f ++ f.map (· ++ [x])) (m + 1) (fun t ht => by
        rcases List.mem_append.mp ht with h1 | h1
        · have := h t h1; omega
        · obtain ⟨u, hu, rfl⟩ := List.mem_map.mp h1
          have := h u hu
          simp; omega) s hs
      simp; omega
  intro l hl
  refine ⟨?_, fun s hs => ?_⟩
  · unfold setsAll
    rw [key]
    have := Nat.pow_le_pow_right (n := 2) (by decide) hl
    simp
    omega
  · have := key2 l [[]] 0 (by simp) s hs
    omega
def spSets (T : Nat → Thing) (K : PySem.W.Frag) : Sp := fun vs H Q _ => ∃ (l : Addr) (m : Nat) (as : List Addr) (is : List Nat), vs = [.ref l, .int (m : Int)] ∧ SqL K H l (refs as) ∧ Itms T H as is ∧ is.length ≤ 4 ∧
  ∀ H' r us, Same H H' → H' r = some (.lst (refs us)) → Paired (SetAt T H') us (setsM is m) → Q (.ref r) H'
abbrev N73 : List Str := ["_law_things_here", "_law_many", "_law_found", "_law_thing", "_law_one"]
theorem sc73 : FnScope N73 ["_law_things_here", "_law_many"] (defScope (top 73)) := ⟨rfl, rfl, rfl, by decide +kernel, rfl, by decide +kernel, by decide +kernel⟩
theorem setsAll_take {l : List Nat} {i t : Nat} (h : l[i]? = some t) : setsAll (l.take (i + 1)) = setsAll (l.take i) ++ (setsAll (l.take i)).map (· ++ [t]) := by
  rw [List.take_add_one, h]
  unfold setsAll
  show (l.take i ++ [t]).foldl _ _ = _
  rw [List.foldl_append]
  rfl
theorem ok_sets (B : Bn mg) (d : Df K mg "_law_sets" (top 73) ["_law_things_here", "_law_many"]) : Cl P w K mg base "_law_sets" ["_law_things_here", "_law_many"] 1 (spSets T K) := by
  refine d.ok sc73 (fun vs H Q E h => ?_) (fun f cdv A outer s0 H vs Q E hr h => ?_)
  · obtain ⟨l, m, as, is, rfl, _⟩ := h
    rfl
  · obtain ⟨l, m, as, is, rfl, hl, hi, hlen, q⟩ := h
    have nd := sc73.nd
    have lai := hi.length
    refine ⟨_, pss_cons (ps_set (i := 2) nd rfl (.inl rfl) (pe_lst (pa_cons (pe_lst pa_nil) pa_nil)))
      (pss_cons (ps_for PassesOwn.never rfl (pi_list (pv 0)) (pg_name (i := 3) nd rfl (.inr rfl))
        (pss_one (ps_set (i := 2) nd rfl (.inl rfl) (pe_op op_cat (pv 2) (pe_lc (own := [("_law_one", 4)]) (g := gName 4) (by rfl) nd (pi_list (pv 2))
          (blkOk_by (own := [("_law_one", 4)]) (N := N73) (sc := defScope (top 73)) (by decide +kernel)) (fun _ _ _ _ _ => pg_name (i := 4) nd rfl (Or.inl rfl))
          (fun _ _ _ _ _ => pts_nil) (fun _ _ _ _ _ => pe_op op_cat (pv 4) (pe_lst (pa_cons (pv 3) pa_nil))))))))
      (pss_one (ps_ret (pe_lc (own := [("_law_one", 4)]) (g := gName 4) (by rfl) nd (pi_list (pv 2))
          (blkOk_by (own := [("_law_one", 4)]) (N := N73) (sc := defScope (top 73)) (by decide +kernel)) (fun _ _ _ _ _ => pg_name (i := 4) nd rfl (Or.inl rfl))
          (fun _ _ _ _ _ => pts_one (pt_cmpR op_eq (pe_callB (kc_len K) (by rfl) B.len PySem.boot_len (pa_cons (pv 4) pa_nil)) (pv 1) (nomark _))) (fun _ _ _ _ _ => pv 4))))), ?_⟩
    refine ⟨(by show 0 ≤ sizeLine; decide), fun e0 he0 => ⟨(by show 1 ≤ sizeLine; decide), fun f0 hf0 => ?_⟩⟩
    have s1 := Same.new (.lst []) he0
    have d1 : upd H e0 (.lst []) e0 = some _ := upd_same
    generalize upd H e0 (.lst []) = H1 at *
    have s2 := s1.trans (Same.new (.lst [V.ref e0]) hf0)
    have d2 := Same.new (.lst [V.ref e0]) hf0 _ _ d1
    have f2 : upd H1 f0 (.lst [V.ref e0]) f0 = some _ := upd_same
    generalize upd H1 f0 (.lst [V.ref e0]) = H2 at *
    refine ⟨_, rfl, l, rfl, ⟨_, s2.seq hl⟩, for_list (K := K) (xs := refs as) (fun i σ H3 => ∃ v3 f us, σ = [some (.ref l), some (.int (m : Int)), some (.ref f), v3, none] ∧ Same H H3 ∧ H3 f = some (.lst (refs us)) ∧ Paired (SetAt T H3) us (setsAll (is.take i)))
      ⟨none, f0, [e0], rfl, s2, f2, .cons ⟨[], d2, .nil⟩ .nil⟩ ?_ ?_ ?_⟩
    · rintro i σ H3 _ ⟨_, _, _, _, s3, _⟩
      exact s3.seq hl
    · rintro i x σ H3 hx ⟨v3, f, us, rfl, s3, f3, hu⟩
      obtain ⟨a, t, rfl, e1, e2⟩ := hi.get hx
      have hbig := setsAll_le (l := is.take i) (by simp; omega)
      have lus := hu.length
      refine ⟨_, rfl, _, rfl, f, rfl, ⟨_, SqL.of f3⟩, fun D1 hD1 => walk_list (K := K) (xs := refs us) (fun j H4 => ∃ ws, Same H3 H4 ∧ H4 D1 = some (.lst (refs ws)) ∧ ws.length = j ∧ Paired (fun b is => b ≠ D1 ∧ SetAt T H4 b is) ws (((setsAll (is.take i)).take j).map (· ++ [t]))) ⟨[], Same.new _ hD1, upd_same, rfl, .nil⟩ ?_ ?_ ?_⟩
      · rintro j H4 _ ⟨ws, s4, _⟩
        exact SqL.of (s4 _ _ f3)
      · rintro j y H4 hy ⟨ws, s4, d4, lw, hw⟩
        rw [List.getElem?_map] at hy
        obtain ⟨b, hb, rfl⟩ := Option.map_eq_some_iff.mp hy
        obtain ⟨S, hS, rs, r1, r2⟩ := paired_get hu hb
        have hj := (List.getElem?_eq_some_iff.mp hb).1
        have hS4 := hbig.2 S (List.mem_of_getElem? hS)
        have lrs := r2.length
        refine ⟨rfl, yes_ok ?_⟩
        refine ⟨_, rfl, _, rfl, (by show 1 ≤ sizeLine; decide), fun u hu' => ?_⟩
        have k5 := Same.new (.lst [V.ref a]) hu'
        have s5 := s4.trans k5
        have u5 : upd H4 u (.lst [V.ref a]) u = some _ := upd_same
        have d5 := k5 _ _ d4
        generalize upd H4 u (.lst [V.ref a]) = H5 at *
        refine ⟨b, u, _, _, rfl, rfl, s5 _ _ r1, u5, Nat.le_of_lt (small1000 (by simp; omega)), fun z hz => ?_⟩
        have er : refs rs ++ [V.ref a] = refs (rs ++ [a]) := by simp [refs]
        rw [er]
        have k6 := Same.new (.lst (refs (rs ++ [a]))) hz
        have s6 := s5.trans k6
        have z6 : upd H5 z (.lst (refs (rs ++ [a]))) z = some _ := upd_same
        have d6 := k6 _ _ d5
        have nzD : z ≠ D1 := (ne_of_none d5 hz).symm
        generalize upd H5 z (.lst (refs (rs ++ [a]))) = H6 at *
        have swr : ∀ {c : Addr} {is : List Nat}, c ≠ D1 → SetAt T H6 c is → SetAt T (upd H6 D1 (.lst (refs ws ++ [.ref z]))) c is := fun {c is} hc ⟨rs, h1, h2⟩ => ⟨rs, (upd_ne hc).trans h1, Paired.mapP h2 fun x i hx => ⟨hx.1, (upd_ne (ne_of hx.2 d6 (by intro z; cases z))).trans hx.2⟩⟩
        refine ⟨_, d6, small1000 (by simp; omega), ws ++ [z], s6.mut _ hD1, by rw [upd_same]; simp [refs], by simp [lw], ?_⟩
        rw [List.take_add_one, hS, List.map_append]
        refine paired_append (Paired.mapP hw fun c is hc => ⟨hc.1, swr hc.1 (hc.2.mono (k5.trans k6))⟩) (.cons ⟨nzD, swr nzD ⟨rs ++ [a], z6, paired_append (r2.mono s6) (.cons (e2.mono (s3.trans s6)) .nil)⟩⟩ .nil)
      · rintro H4 ⟨ws, s4, d4, lw, hw⟩
        have e3 : (setsAll (is.take i)).take (refs us).length = setsAll (is.take i) := by rw [List.take_of_length_le]; simp [lus]
        rw [e3] at hw
        refine ⟨f, D1, _, _, rfl, rfl, s4 _ _ f3, d4, Nat.le_of_lt (small1000 (by simp at lw ⊢; omega)), fun g hg => ?_⟩
        refine ⟨_, g, us ++ ws, rfl, (s3.trans s4).trans (Same.new _ hg), by rw [upd_same]; simp [refs], ?_⟩
        rw [setsAll_take e1]
        refine paired_append (Paired.mapP hu fun _ _ z => z.mono (s4.trans (Same.new _ hg))) (Paired.mapP hw fun _ _ z => z.2.mono (Same.new _ hg))
    · rintro σ H3 ⟨v3, f, us, rfl, s3, f3, hu⟩
      have e1 : is.take (refs as).length = is := by rw [List.take_of_length_le]; simp [lai]
      rw [e1] at hu
      have hbig := setsAll_le hlen
      have lus := hu.length
      refine ⟨_, rfl, f, rfl, ⟨_, SqL.of f3⟩, fun D1 hD1 => walk_list (K := K) (xs := refs us) (fun j H4 => ∃ ws, H4 = upd H3 D1 (.lst (refs ws)) ∧ ws.length ≤ j ∧ Paired (SetAt T H3) ws (((setsAll is).take j).filter fun s => decide (s.length = m))) ⟨[], rfl, Nat.le_refl _, .nil⟩ ?_ ?_ ?_⟩
      · rintro j H4 _ ⟨ws, rfl, _⟩
        exact SqL.of (Same.new _ hD1 _ _ f3)
      · rintro j y H4 hy ⟨ws, rfl, lw, hw⟩
        rw [List.getElem?_map] at hy
        obtain ⟨b, hb, rfl⟩ := Option.map_eq_some_iff.mp hy
        obtain ⟨S, hS, hSet⟩ := paired_get hu hb
        have hj := (List.getElem?_eq_some_iff.mp hb).1
        obtain ⟨rs, r1, r2⟩ := id hSet
        have lrs := r2.length
        have hlr : (refs rs).length = S.length := by simp [lrs]
        have ht : ((setsAll is).take (j + 1)).filter (fun s => decide (s.length = m)) = (((setsAll is).take j).filter fun s => decide (s.length = m)) ++ (if S.length = m then [S] else []) := by
          rw [List.take_add_one, hS, List.filter_append]
          congr 1
          by_cases h : S.length = m
          · simp [h]
          · simp [h]
        refine ⟨rfl, _, rfl, b, _, rfl, .inl (SqL.of (Same.new _ hD1 _ _ r1)), _, rfl, rfl, _, rfl, ?_⟩
        rw [hlr, ht]
        refine ite2 (fun z => ?_) fun z => ?_
        · have h : S.length = m := by
            have := V.int.inj (of_decide_eq_true z)
            omega
          rw [if_pos h]
          refine ⟨_, rfl, _, upd_same, small1000 (by simp; omega), ws ++ [b], by rw [upd_upd]; simp [refs], by simp; omega, paired_append hw (.cons hSet .nil)⟩
        · have h : ¬ S.length = m := fun e => z (decide_eq_true (by rw [e]))
          rw [if_neg h, List.append_nil]
          exact ⟨ws, rfl, by omega, hw⟩
      · rintro H4 ⟨ws, rfl, lw, hw⟩
        have e3 : (setsAll is).take (refs us).length = setsAll is := by rw [List.take_of_length_le]; simp [lus]
        rw [e3] at hw
        exact q _ D1 ws (s3.trans (Same.new _ hD1)) upd_same (Paired.mapP hw fun _ _ z => z.mono (Same.new _ hD1))
end
end Sam
end
section
set_option Elab.async false
set_option linter.all false
set_option maxRecDepth 100000
set_option maxHeartbeats 1000000
namespace Sam
open PySem PySem.Spec PyProof.Rows L2
open C8 (pss_cut tCut call_isC InsC)
section
variable {P : Program} {w : World} {K : PySem.W.Frag} {mg : Str → Option Value} {base : Heap} {CE : Addr} {T : Nat → Thing} {k : Nat}
theorem row_dp {H : Hp} {a : Addr} {r : Row} (h : RowAt K T k H a r) : Dp K H (.ref a) (rowD T k r) :=
  let ⟨o, c, h1, h2, h3⟩ := h
  .tup (SqT.of h1) (.cons h2.dp (.cons (fr_dp h3) .nil))
theorem zok_rows {H : Hp} {as : List Addr} {l : List Row} (h : RowsAt K T k H as l) (hl : l.length ≤ 1000) : ∃ zs as', zs.map Prod.fst = refs as ∧ ZOk K H zs ∧ (srtD zs).map Prod.fst = refs as' ∧ RowsAt K T k H as' (l.mergeSort (leRow T k)) := by
  have key : ∀ {as : List Addr} {l : List Row}, RowsAt K T k H as l → ∃ L : List (Addr × Row), as = L.map Prod.fst ∧ l = L.map Prod.snd ∧ ∀ p ∈ L, RowAt K T k H p.1 p.2 := by
    intro as l h
    induction h with
    | nil => exact ⟨[], rfl, rfl, by simp⟩
    | @cons a r am lm hy _ ih =>
      obtain ⟨L, h1, h2, h3⟩ := ih
      refine ⟨(a, r) :: L, by simp [h1], by simp [h2], fun p hp => ?_⟩
      rcases List.mem_cons.mp hp with rfl | hp
      · exact hy
      · exact h3 p hp
  obtain ⟨L, rfl, rfl, h3⟩ := key h
  let f : Addr × Row → V × PyData := fun p => (V.ref p.1, rowD T k p.2)
  have es : srtD (L.map f) = (L.mergeSort fun p q => leRow T k p.2 q.2).map f := by
    unfold srtD
    rw [List.map_mergeSort]
    intro a _ b _
    rfl
  have hm : ∀ p ∈ L.mergeSort fun p q => leRow T k p.2 q.2, RowAt K T k H p.1 p.2 := fun p hp => h3 p ((List.mergeSort_perm L _).subset hp)
  have back : ∀ M : List (Addr × Row), (∀ p ∈ M, RowAt K T k H p.1 p.2) → RowsAt K T k H (M.map Prod.fst) (M.map Prod.snd) := by
    intro M hM
    induction M with
    | nil => exact .nil
    | cons p r ih => exact .cons (hM p List.mem_cons_self) (ih fun q hq => hM q (List.mem_cons_of_mem _ hq))
  refine ⟨L.map f, (L.mergeSort fun p q => leRow T k p.2 q.2).map Prod.fst, by simp [f, refs], ⟨?_, ?_, ?_, ?_, ?_⟩, by rw [es]; simp [refs, f], ?_⟩
  · intro z hz
    obtain ⟨p, hp, rfl⟩ := List.mem_map.mp hz
    exact row_dp (h3 p hp)
  · intro d hd d' hd'
    simp only [List.map_map, List.mem_map] at hd hd'
    obtain ⟨p, _, rfl⟩ := hd
    obtain ⟨q, _, rfl⟩ := hd'
    have := alike_vw (T := T) (k := k) p.2.1 q.2.1
    simp [f, rowD, frD, PySem.W.alike, PySem.W.alikeAll, this]
  · refine .inl fun d hd => ?_
    simp only [List.map_map, List.mem_map] at hd
    obtain ⟨p, _, rfl⟩ := hd
    exact ⟨_, _, rfl⟩
  · rw [List.length_map]
    simp at hl
    exact Nat.le_of_lt (small1000 hl)
  · intro z hz
    obtain ⟨p, hp, rfl⟩ := List.mem_map.mp hz
    have h1 : PyData.depthAll (NestedKey.datas (p.2.1.kept.map (itNk T))) ≤ 1 := by
      refine Nat.le_trans (depth_data _ fun x hx => ?_) (depthAll_le fun x hx => ?_)
      · obtain ⟨i, _, rfl⟩ := List.mem_map.mp hx
        simp [itNk, NestedKey.data, NestedKey.datas, PyData.depth, PyData.depthAll, NestedKey.depth, NestedKey.depthAll]
      · obtain ⟨i, _, rfl⟩ := List.mem_map.mp hx
        exact itNk_depth i
    simp only [f, rowD, frD, vwNk, NestedKey.data, NestedKey.datas, PyData.depth, PyData.depthAll]
    omega
  · have := back _ hm
    have e2 : (L.mergeSort fun p q => leRow T k p.2 q.2).map Prod.snd = (L.map Prod.snd).mergeSort (leRow T k) := by
      rw [List.map_mergeSort]
      intro a _ b _
      rfl
    rw [e2] at this
    exact this
def spUnif (T : Nat → Thing) (k : Nat) (K : PySem.W.Frag) : Sp := fun vs H Q _ => ∃ (l : Addr) (n : Nat) (as : List Addr), vs = [.ref l, .int (k : Int)] ∧ SqL K H l (refs as) ∧ Itms T H as (List.range n) ∧ (1 ≤ n ∧ n ≤ 4) ∧ k ≤ 20 ∧
  ∀ H' r us, Same H H' → H' r = some (.lst (refs us)) → RowsAt K T k H' us ((unifRows n k).mergeSort (leRow T k)) → Q (.ref r) H'
abbrev N74 : List Str := ["_law_things_here", "_law_size", "_law_sets_here", "_law_rows", "_law_one"]
theorem sc74 : FnScope N74 ["_law_things_here", "_law_size"] (defScope (top 74)) := ⟨rfl, rfl, rfl, by decide +kernel, rfl, by decide +kernel, by decide +kernel⟩
theorem sets_len : ∀ (n m : Fin 5), m.val ≤ n.val → 0 < (setsM (List.range n.val) m.val).length ∧ (setsM (List.range n.val) m.val).length ≤ 16 ∧ ∀ s ∈ setsM (List.range n.val) m.val, s.length ≤ 4 := by decide +kernel
theorem ok_unif (B : Bn mg) (d : Df K mg "_law_uniform" (top 74) ["_law_things_here", "_law_size"]) (cS : Cl P w K mg base "_law_sets" ["_law_things_here", "_law_many"] 1 (spSets T K)) (cL : Cl P w K mg base "_law_low" ["_law_p", "_law_q"] 1 spLow) :
    Cl P w K mg base "_law_uniform" ["_law_things_here", "_law_size"] 2 (spUnif T k K) := by
  refine d.ok sc74 (fun vs H Q E h => ?_) (fun f cdv A outer s0 H vs Q E hr h => ?_)
  · obtain ⟨l, n, as, rfl, _⟩ := h
    rfl
  · obtain ⟨l, n, as, rfl, hl, hi, ⟨n1, n4⟩, hk, q⟩ := h
    have nd := sc74.nd
    have hu := hr.units
    have lai := hi.length
    rw [List.length_range] at lai
    have hlr : (refs as).length = n := by simp [lai]
    refine ⟨_, pss_cons (ps_set (i := 2) nd rfl (.inr rfl) (pe_c cS hr (pa_cons (pv 0) (pa_cons (pe_callB (call_min2 rfl) (by rfl) B.min (by decide +kernel) (pa_cons (pv 1) (pa_cons (pe_callB call_len_seq (by rfl) B.len PySem.boot_len (pa_cons (pv 0) pa_nil)) pa_nil))) pa_nil))))
      (pss_cons (ps_setLc (i := 3) (own := [("_law_one", 4)]) (g := gName 4) (by rfl) nd rfl rfl (sw_true rfl rfl rfl (by rfl)) (pi_list (pv 2))
          (blkOk_by (own := [("_law_one", 4)]) (N := N74) (sc := defScope (top 74)) (by decide +kernel)) (fun _ _ _ _ _ => pg_name (i := 4) nd rfl (Or.inl rfl))
          (fun _ _ _ _ _ => pts_nil) (fun _ _ _ _ _ => pe_tup (pa_cons (pe_tup (pa_cons (pv 1) (pa_cons (pe_callB (kc_len K) (by rfl) B.len PySem.boot_len (pa_cons (pv 0) pa_nil)) (pa_cons (pe_callTy (kc_tuple K) (by rfl) B.tuple (by decide +kernel) (pa_cons (pe_callB (kc_sorted K hu) (by rfl) B.sorted (by decide +kernel) (pa_cons (pv 4) pa_nil)) pa_nil)) pa_nil))))
            (pa_cons (pe_c cL hr (pa_cons pe_int (pa_cons (pe_callB (kc_len K) (by rfl) B.len PySem.boot_len (pa_cons (pv 2) pa_nil)) pa_nil))) pa_nil))))
      (pss_one (ps_ret (pe_callB (kc_sorted K hu) (by rfl) B.sorted (by decide +kernel) (pa_cons (pv 3) pa_nil))))), ?_⟩
    have hmin : (if (n : Int) < (k : Int) then (n : Int) else (k : Int)) = ((min k n : Nat) : Int) := by
      split <;> omega
    refine ⟨_, rfl, _, rfl, _, rfl, l, _, rfl, .inl hl, ?_⟩
    rw [hlr]
    refine ⟨_, _, rfl, ?_⟩
    rw [hmin]
    refine ⟨l, min k n, as, _, rfl, hl, hi, by simp; omega, fun H1 sr us s1 d1 hus => ?_⟩
    obtain ⟨c1, c2, c3⟩ := sets_len ⟨n, by omega⟩ ⟨min k n, by omega⟩ (by simp; omega)
    simp only at c1 c2 c3
    have lus := hus.length
    have hS : ∀ s ∈ setsM (List.range n) (min k n), s.length ≤ 4 := c3
    refine ⟨_, rfl, sr, rfl, ⟨_, SqL.of d1⟩, fun D1 hD1 => walk_list (K := K) (xs := refs us) (fun i H2 => ∃ ws, Same H1 H2 ∧ H2 D1 = some (.lst (refs ws)) ∧ ws.length = i ∧ RowsAt K T k H2 ws (((setsM (List.range n) (min k n)).take i).map fun s => (⟨n, so s⟩, mkRat 1 (setsM (List.range n) (min k n)).length))) ⟨[], Same.new _ hD1, upd_same, rfl, .nil⟩ ?_ ?_ ?_⟩
    · rintro i H2 _ ⟨ws, s2, _⟩
      exact SqL.of (s2 _ _ d1)
    · rintro i x H2 hx ⟨ws, s2, d2, lw, hw⟩
      rw [List.getElem?_map] at hx
      obtain ⟨b, hb, rfl⟩ := Option.map_eq_some_iff.mp hx
      obtain ⟨S, hSS, rs, r1, r2⟩ := paired_get hus hb
      have hi' := (List.getElem?_eq_some_iff.mp hb).1
      have s12 := s1.trans s2
      obtain ⟨zs, rs', z1, z2, z3, z4⟩ := zok_items (K := K) (Same.refl H2) (r2.mono s2) (hS S (List.mem_of_getElem? hSS))
      refine ⟨rfl, yes_ok ?_⟩
      refine ⟨_, rfl, _, rfl, l, _, rfl, .inl (s12.seq hl), _, rfl, b, zs, rfl, .inl (SqL.of (by rw [z1]; exact s2 _ _ r1)), z2, fun u hu' => ?_⟩
      rw [z3, hlr]
      have k3 := Same.new (.lst (refs rs')) hu'
      have u3 : upd H2 u (.lst (refs rs')) u = some _ := upd_same
      generalize upd H2 u (.lst (refs rs')) = H3 at *
      refine ⟨u, _, rfl, .inl ⟨SqL.of u3, fun t ht => ?_⟩⟩
      have k4 := k3.trans (Same.new (.tup (refs rs')) ht)
      have t4 : upd H3 t (.tup (refs rs')) t = some _ := upd_same
      generalize upd H3 t (.tup (refs rs')) = H4 at *
      refine ⟨(by show 3 ≤ sizeLine; decide), fun v hv => ?_⟩
      have k5 := k4.trans (Same.new (.tup [.int (k : Int), .int (n : Int), .ref t]) hv)
      have t5 := Same.new (.tup [.int (k : Int), .int (n : Int), .ref t]) hv _ _ t4
      have v5 : upd H4 v (.tup [.int (k : Int), .int (n : Int), .ref t]) v = some _ := upd_same
      generalize upd H4 v (.tup [.int (k : Int), .int (n : Int), .ref t]) = H5 at *
      refine ⟨_, rfl, sr, _, rfl, .inl (SqL.of ((s2.trans k5) _ _ d1)), ?_⟩
      have hlus : (refs us).length = (setsM (List.range n) (min k n)).length := by simp [lus]
      rw [hlus]
      refine ⟨1, (setsM (List.range n) (min k n)).length, rfl, c1, by omega, by decide, fun c hc => ⟨(by show 2 ≤ sizeLine; decide), fun z hz => ?_⟩⟩
      have k6 := k5.trans (Same.new (.tup (frV (mkRat ((1 : Nat) : Int) (setsM (List.range n) (min k n)).length))) hc)
      have t6 := Same.new (.tup (frV (mkRat ((1 : Nat) : Int) (setsM (List.range n) (min k n)).length))) hc _ _ t5
      have v6 := Same.new (.tup (frV (mkRat ((1 : Nat) : Int) (setsM (List.range n) (min k n)).length))) hc _ _ v5
      have c6 : upd H5 c (.tup (frV (mkRat ((1 : Nat) : Int) (setsM (List.range n) (min k n)).length))) c = some _ := upd_same
      generalize upd H5 c (.tup (frV (mkRat ((1 : Nat) : Int) (setsM (List.range n) (min k n)).length))) = H6 at *
      have k7 := k6.trans (Same.new (.tup [.ref v, .ref c]) hz)
      have t7 := Same.new (.tup [.ref v, .ref c]) hz _ _ t6
      have v7 := Same.new (.tup [.ref v, .ref c]) hz _ _ v6
      have c7 := Same.new (.tup [.ref v, .ref c]) hz _ _ c6
      have z7 : upd H6 z (.tup [.ref v, .ref c]) z = some _ := upd_same
      generalize upd H6 z (.tup [.ref v, .ref c]) = H7 at *
      have d7 := k7 _ _ d2
      have hrow : RowAt K T k H7 z (⟨n, so S⟩, mkRat 1 (setsM (List.range n) (min k n)).length) := ⟨v, c, z7, VwIs.nk (s := ⟨n, so S⟩) ⟨t, rs', v7, t7, z4.mono k7⟩, SqT.of c7⟩
      have wr : ∀ a xs, SqT K H7 a xs → SqT K (upd H7 D1 (.lst (refs ws ++ [.ref z]))) a xs := sqT_wr d7 (by intro xs z; cases z) (by intro b xs z; cases z)
      have wt : ∀ {a : Addr} {r : Row}, RowAt K T k H7 a r → RowAt K T k (upd H7 D1 (.lst (refs ws ++ [.ref z]))) a r := fun ⟨o, c, r1, r2, r3⟩ => ⟨o, c, (upd_ne (ne_of r1 d7 (by intro z; cases z))).trans r1, NK.sq wr _ _ r2, wr _ _ r3⟩
      refine ⟨_, d7, small1000 (by simp; omega), ws ++ [z], (s2.trans k7).mut _ hD1, by rw [upd_same]; simp [refs], by simp [lw], ?_⟩
      rw [List.take_add_one, hSS, List.map_append]
      exact paired_append (Paired.mapP hw fun _ _ h => wt (h.mono k7)) (.cons (wt hrow) .nil)
    · rintro H2 ⟨ws, s2, d2, lw, hw⟩
      have e3 : (setsM (List.range n) (min k n)).take (refs us).length = setsM (List.range n) (min k n) := by rw [List.take_of_length_le]; simp [lus]
      rw [e3] at hw
      obtain ⟨zs, as', z1, z2, z3, z4⟩ := zok_rows hw (by simp; omega)
      refine ⟨_, rfl, D1, zs, rfl, .inl (SqL.of (by rw [z1]; exact d2)), z2, fun p hp => ?_⟩
      rw [z3]
      exact q _ p as' ((s1.trans s2).trans (Same.new _ hp)) upd_same (Paired.mapP z4 fun _ _ h => h.mono (Same.new _ hp))
end
end Sam
end
section
set_option Elab.async false
set_option linter.all false
set_option maxRecDepth 100000
set_option maxHeartbeats 1000000
namespace Sam
open PySem PySem.Spec PyProof.Rows L2
open C8 (pss_cut tCut call_isC InsC)
abbrev Ord := List Nat × Rat
def ordersM (T : Nat → Thing) : Nat → List Nat → Nat → List Ord
  | 0, _, _ => [([], 1)]
  | _ + 1, [], _ => [([], 1)]
  | m + 1, x :: r, left => (x :: r).flatMap fun i => (ordersM T m ((x :: r).filter fun j => decide (j ≠ i)) (left - (T i).w)).map fun p => (i :: p.1, mkRat ((T i).w : Int) left * p.2)
def wSum (T : Nat → Thing) (l : List Nat) : Nat := (l.map fun i => (T i).w).sum
structure OBd (m : Nat) (c : Rat) : Prop where
  lo : 0 ≤ c
  num : c.num ≤ 24 ^ m
  den : c.den ≤ 24 ^ m
theorem mk_num_le {p n : Nat} (hn : 0 < n) : (mkRat (p : Int) n).num ≤ (p : Int) ∧ 0 ≤ (mkRat (p : Int) n).num := by
  have e := (mkRat_parts (p := (p : Int)) hn).1
  rw [e]
  have : ((p : Int) / ((Nat.gcd (p : Int).natAbs n : Nat) : Int)) = ((p / Nat.gcd (p : Int).natAbs n : Nat) : Int) := by simp
  have h2 := Nat.div_le_self p (Nat.gcd (p : Int).natAbs n)
  rw [this]
  generalize p / Nat.gcd (p : Int).natAbs n = z at *
  omega
theorem mk_den_le {p : Int} {n : Nat} (hn : 0 < n) : (mkRat p n).den ≤ n := Nat.le_of_dvd hn (den_mk hn)
theorem mk_nonneg {p n : Nat} (hn : 0 < n) : 0 ≤ mkRat (p : Int) n := Rat.num_nonneg.mp (mk_num_le hn).2
theorem rat_mul_bd {a b : Rat} (ha : 0 ≤ a) (hb : 0 ≤ b) : (a * b).num ≤ a.num * b.num ∧ (a * b).den ≤ a.den * b.den ∧ 0 ≤ a * b := by
  have h1 := Rat.num_nonneg.mpr ha
  have h2 := Rat.num_nonneg.mpr hb
  have hd := Nat.mul_pos a.den_pos b.den_pos
  have hn := Int.mul_nonneg h1 h2
  obtain ⟨n, e⟩ := Int.eq_ofNat_of_zero_le hn
  have e2 : a * b = mkRat ((n : Nat) : Int) (a.den * b.den) := by rw [Rat.mul_def', e]
  rw [e2, e]
  exact ⟨(mk_num_le hd).1, mk_den_le hd, mk_nonneg hd⟩
theorem wSum_filter (T : Nat → Thing) : ∀ {l : List Nat} {i : Nat}, l.Nodup → i ∈ l → wSum T (l.filter fun j => decide (j ≠ i)) + (T i).w = wSum T l
  | x :: r, i, hn, hi => by
    obtain ⟨h1, h2⟩ := List.nodup_cons.mp hn
    by_cases e : x = i
    · subst e
      have : r.filter (fun j => decide (j ≠ x)) = r := by
        rw [List.filter_eq_self]
        intro a ha
        simp
        intro z
        exact h1 (z ▸ ha)
      have h3 : (x :: r).filter (fun j => decide (j ≠ x)) = r := by
        rw [List.filter_cons_of_neg (by simp)]
        exact this
      rw [h3]
      simp [wSum]
      omega
    · have hi' : i ∈ r := by
        rcases List.mem_cons.mp hi with z | z
        · exact absurd z.symm e
        · exact z
      have ih := wSum_filter T h2 hi'
      have h3 : (x :: r).filter (fun j => decide (j ≠ i)) = x :: r.filter fun j => decide (j ≠ i) := List.filter_cons_of_pos (by simp [e])
      rw [h3]
      simp only [wSum, List.map_cons, List.sum_cons] at ih ⊢
      omega
theorem pow24 (m : Nat) : (24 : Int) ^ m = ((24 ^ m : Nat) : Int) := by simp
theorem orders_bd (T : Nat → Thing) (hT : ∀ i, ThOk (T i)) : ∀ (m : Nat) (is : List Nat) (left : Nat), is.Nodup → wSum T is = left → left ≤ 24 → ∀ p ∈ ordersM T m is left, OBd m p.2
  | 0, _, _, _, _, _, p, hp => by
    simp [ordersM] at hp
    subst hp
    exact ⟨by decide, by decide, by decide⟩
  | m + 1, [], _, _, _, _, p, hp => by
    simp [ordersM] at hp
    subst hp
    refine ⟨by decide, ?_, ?_⟩
    · show (1 : Int) ≤ 24 ^ (m + 1)
      have := Nat.one_le_pow (m + 1) 24 (by decide)
      rw [pow24]
      omega
    · exact Nat.one_le_pow _ _ (by decide)
  | m + 1, x :: r, left, hn, hl, h24, p, hp => by
    obtain ⟨i, hi, hp⟩ := List.mem_flatMap.mp hp
    obtain ⟨q, hq, rfl⟩ := List.mem_map.mp hp
    have hf := wSum_filter T hn hi
    have hw := hT i
    have h1 := hw.w1
    have h6 := hw.w6
    have ih := orders_bd T hT m _ _ (hn.filter fun j => decide (j ≠ i)) (by omega) (by omega) q hq
    have hl0 : 0 < left := by omega
    obtain ⟨b1, b2, b3⟩ := rat_mul_bd (mk_nonneg (p := (T i).w) hl0) ih.lo
    obtain ⟨c1, c2⟩ := mk_num_le (p := (T i).w) hl0
    have c3 := mk_den_le (p := ((T i).w : Int)) hl0
    have i2 := ih.num
    have i3 := ih.den
    rw [pow24] at i2
    refine ⟨b3, Int.le_trans b1 ?_, Nat.le_trans b2 ?_⟩
    · rw [pow24, Nat.pow_succ, Nat.mul_comm]
      have hq0 := Rat.num_nonneg.mpr ih.lo
      have := Int.mul_le_mul (show (mkRat ((T i).w : Int) left).num ≤ 24 by omega) i2 hq0 (by decide)
      rw [Int.natCast_mul]
      exact this
    · rw [Nat.pow_succ, Nat.mul_comm (24 ^ m)]
      exact Nat.mul_le_mul (by omega) i3
section
variable {P : Program} {w : World} {K : PySem.W.Frag} {mg : Str → Option Value} {base : Heap} {CE : Addr} {T : Nat → Thing} {k : Nat}
def OrdAt (K : PySem.W.Frag) (T : Nat → Thing) (H : Hp) (u : Addr) (p : Ord) : Prop := ∃ a b rs, H u = some (.tup [.ref a, .ref b]) ∧ SqT K H a (refs rs) ∧ Itms T H rs p.1 ∧ SqT K H b (frV p.2)
theorem OrdAt.mono {H H' : Hp} {u : Addr} {p : Ord} (s : Same H H') (h : OrdAt K T H u p) : OrdAt K T H' u p :=
  let ⟨a, b, rs, h1, h2, h3, h4⟩ := h
  ⟨a, b, rs, s _ _ h1, s.seqT h2, h3.mono s, s.seqT h4⟩
def spOrd (T : Nat → Thing) (K : PySem.W.Frag) (m : Nat) : Sp := fun vs H Q _ => ∃ (l : Addr) (left : Nat) (as : List Addr) (is : List Nat), vs = [.ref l, .int (left : Int), .int (m : Int)] ∧ SqL K H l (refs as) ∧ Itms T H as is ∧ is.length ≤ 4 ∧ is.Nodup ∧ wSum T is = left ∧ left ≤ 24 ∧ (∀ i, ThOk (T i)) ∧
  ∀ H' r us, H r = none → Same H H' → H' r = some (.lst (refs us)) → Paired (OrdAt K T H') us (ordersM T m is left) → Q (.ref r) H'
abbrev N75 : List Str := ["_law_things_here", "_law_left", "_law_many", "_law_found", "_law_thing", "_law_rest", "_law_share", "_law_order", "_law_chance", "_law_other"]
theorem sc75 : FnScope N75 ["_law_things_here", "_law_left", "_law_many"] (defScope (top 75)) := ⟨rfl, rfl, rfl, by decide +kernel, rfl, by decide +kernel, by decide +kernel⟩
theorem kNm_ok4 : ∀ i : Fin 4, PyData.strOk (kNm i.val) = true := by decide +kernel
theorem it_lay {i : Nat} (hi : i < 4) (hT : ThOk (T i)) : PyData.canLay0 (itD T i) = true := by
  have := kNm_ok4 ⟨i, hi⟩
  simp only at this
  simp [itD, PyData.canLay0, PyData.canLayAll0, this, hT.g]
theorem it_shaped {i : Nat} (hi : i < 4) (hT : ThOk (T i)) : SeqAt.shaped (itD T i) = true := by
  have h1 := it_lay hi hT
  have h2 : (itD T i).depth ≤ 64 := by simp [itD, PyData.depth, PyData.depthAll]
  unfold SeqAt.shaped
  rw [h1, decide_eq_true h2]
  rfl
theorem itms_dp {H : Hp} : ∀ {as : List Addr} {is : List Nat}, Itms T H as is → DpAll K H (refs as) (is.map (itD T))
  | _, _, .nil => .nil
  | _, _, .cons r t => .cons (.tup (SqT.of r.2) (.cons (.str _) (.cons (.str _) (.cons (.int _) (.cons (.int _) .nil))))) (itms_dp t)
theorem it_eqv {i j : Nat} (hi : i < 4) (hj : j < 4) : PyData.eqv (itD T i) (itD T j) = decide (i = j) := by
  by_cases e : i = j
  · subst e
    simp [itD, PyData.eqv, PyData.eqvAll]
  · have hn : ¬ kNm i = kNm j := fun z => e (kNm_inj hi hj z)
    simp [itD, PyData.eqv, PyData.eqvAll, hn, e]
theorem ok_ord0 (B : Bn mg) (d : Df K mg "_law_orders" (top 75) ["_law_things_here", "_law_left", "_law_many"]) : Cl P w K mg base "_law_orders" ["_law_things_here", "_law_left", "_law_many"] 1 (spOrd T K 0) := by
  refine d.ok sc75 (fun vs H Q E h => ?_) (fun f cdv A outer s0 H vs Q E hr h => ?_)
  · obtain ⟨l, left, as, is, rfl, _⟩ := h
    rfl
  · obtain ⟨l, left, as, is, rfl, hl, hi, h4, hn, hs, h24, hT, q⟩ := h
    have hu := hr.units
    refine ⟨_, pss_cons (ps_if (PW.pt (pw_or (pt_cmpR op_eq (pv 2) pe_int (nomark _)) (pw_or1 (pt_cmpR (ko_eqD K hu) (pv 0) (pe_lst pa_nil) (nomark _)))))
        (pss_one (ps_ret (pe_lst (pa_cons (pe_tup (pa_cons (pe_tup pa_nil) (pa_cons (pe_tup (pa_cons pe_int (pa_cons pe_int pa_nil))) pa_nil))) pa_nil)))) pss_nil) pss_never, ?_⟩
    refine ⟨_, rfl, rfl, _, rfl, iteT (iteT ?_)⟩
    refine ⟨(by show 0 ≤ sizeLine; decide), fun a ha => ⟨(by show 2 ≤ sizeLine; decide), fun b hb => ⟨(by show 2 ≤ sizeLine; decide), fun c hc => ⟨(by show 1 ≤ sizeLine; decide), fun r hr' => ?_⟩⟩⟩⟩
    have s1 := Same.new (.tup []) ha
    have a1 : upd H a (.tup []) a = some _ := upd_same
    generalize upd H a (.tup []) = H1 at *
    have s2 := s1.trans (Same.new (.tup [.int 1, .int 1]) hb)
    have a2 := Same.new (.tup [.int 1, .int 1]) hb _ _ a1
    have b2 : upd H1 b (.tup [.int 1, .int 1]) b = some _ := upd_same
    generalize upd H1 b (.tup [.int 1, .int 1]) = H2 at *
    have s3 := s2.trans (Same.new (.tup [.ref a, .ref b]) hc)
    have a3 := Same.new (.tup [.ref a, .ref b]) hc _ _ a2
    have b3 := Same.new (.tup [.ref a, .ref b]) hc _ _ b2
    have c3 : upd H2 c (.tup [.ref a, .ref b]) c = some _ := upd_same
    generalize upd H2 c (.tup [.ref a, .ref b]) = H3 at *
    have s4 := Same.new (.lst [V.ref c]) hr'
    exact q _ r [c] (s3.free hr') (s3.trans s4) upd_same (.cons ⟨a, b, [], s4 _ _ c3, SqT.of (s4 _ _ a3), .nil, SqT.of (s4 _ _ b3)⟩ .nil)
end
end Sam
end
section
set_option Elab.async false
set_option linter.all false
set_option maxRecDepth 100000
set_option maxHeartbeats 1000000
namespace Sam
open PySem PySem.Spec PyProof.Rows L2
open C8 (pss_cut tCut call_isC InsC)
section
variable {P : Program} {w : World} {K : PySem.W.Frag} {mg : Str → Option Value} {base : Heap} {CE : Addr} {T : Nat → Thing} {k : Nat}
theorem itms_lay {H : Hp} {as : List Addr} {is : List Nat} (h : Itms T H as is) (hT : ∀ i, ThOk (T i)) : SeqAt.shaped (.list (is.map (itD T))) = true := by
  have h1 : PyData.canLayAll0 (is.map (itD T)) = true ∧ PyData.depthAll (is.map (itD T)) ≤ 1 := by
    induction h with
    | nil => simp [PyData.canLayAll0, PyData.depthAll]
    | @cons a i l m h _ ih =>
      refine ⟨by simp [PyData.canLayAll0, it_lay h.1 (hT i), ih.1], ?_⟩
      have h2 := ih.2
      have h3 : (itD T i).depth = 1 := by simp [itD, PyData.depth, PyData.depthAll]
      simp only [List.map_cons, PyData.depthAll]
      omega
  have e1 : PyData.canLay0 (.list (is.map (itD T))) = true := by simp only [PyData.canLay0, h1.1]
  have e2 : (PyData.list (is.map (itD T))).depth ≤ 64 := by
    have := h1.2
    simp only [PyData.depth]
    omega
  unfold SeqAt.shaped
  rw [e1, decide_eq_true e2]
  rfl
theorem orders_short (T : Nat → Thing) : ∀ (m : Nat) (is : List Nat) (left : Nat), ∀ p ∈ ordersM T m is left, p.1.length ≤ m
  | 0, _, _, p, hp => by
    simp [ordersM] at hp
    subst hp
    simp
  | m + 1, [], _, p, hp => by
    simp [ordersM] at hp
    subst hp
    simp
  | m + 1, x :: r, left, p, hp => by
    obtain ⟨i, hi, hp⟩ := List.mem_flatMap.mp hp
    obtain ⟨q, hq, rfl⟩ := List.mem_map.mp hp
    have := orders_short T m _ _ q hq
    simp
    omega
theorem itms_dp1 {H : Hp} {a : Addr} {i : Nat} (r : IsIt T H a i) : Dp K H (.ref a) (itD T i) := .tup (SqT.of r.2) (.cons (.str _) (.cons (.str _) (.cons (.int _) (.cons (.int _) .nil))))
theorem orders_len (T : Nat → Thing) : ∀ (m : Nat) (is : List Nat) (left : Nat), m ≤ 2 → is.length ≤ 4 → (ordersM T m is left).length ≤ 4 ^ m
  | 0, _, _, _, _ => by simp [ordersM]
  | m + 1, [], _, _, _ => by simp [ordersM]; exact Nat.one_le_pow _ _ (by decide)
  | m + 1, x :: r, left, hm, h4 => by
    have : ∀ i ∈ x :: r, ((ordersM T m ((x :: r).filter fun j => decide (j ≠ i)) (left - (T i).w)).map fun p => ((i :: p.1, mkRat ((T i).w : Int) left * p.2) : Ord)).length ≤ 4 ^ m := fun i _ => by
      rw [List.length_map]
      exact orders_len T m _ _ (by omega) (Nat.le_trans (List.length_filter_le _ _) h4)
    have h2 := flatMap_len this
    refine Nat.le_trans h2 ?_
    rw [Nat.pow_succ, Nat.mul_comm]
    exact Nat.mul_le_mul_left _ h4
theorem ok_ordS {m lv : Nat} (hm : m ≤ 1) (hlv : 1 ≤ lv) (B : Bn mg) (d : Df K mg "_law_orders" (top 75) ["_law_things_here", "_law_left", "_law_many"]) (cL : Cl P w K mg base "_law_low" ["_law_p", "_law_q"] 1 spLow) (cT : Cl P w K mg base "_law_times" ["_law_one", "_law_other"] 2 (spLTim K))
    (c : Cl P w K mg base "_law_orders" ["_law_things_here", "_law_left", "_law_many"] lv (spOrd T K m)) : Cl P w K mg base "_law_orders" ["_law_things_here", "_law_left", "_law_many"] (lv + 1 + 1) (spOrd T K (m + 1)) := by
  refine d.ok sc75 (fun vs H Q E h => ?_) (fun f cdv A outer s0 H vs Q E hr h => ?_)
  · obtain ⟨l, left, as, is, rfl, _⟩ := h
    rfl
  · obtain ⟨l, left, as, is, rfl, hl, hi, h4, hn, hs, h24, hT, q⟩ := h
    have hu := hr.units
    have nd := sc75.nd
    have lai := hi.length
    refine ⟨_, pss_cons (ps_if (PW.pt (pw_or (pt_cmpR op_eq (pv 2) pe_int (nomark _)) (pw_or1 (pt_cmpR (ko_eqD K hu) (pv 0) (pe_lst pa_nil) (nomark _)))))
        (pss_one (ps_ret (pe_lst (pa_cons (pe_tup (pa_cons (pe_tup pa_nil) (pa_cons (pe_tup (pa_cons pe_int (pa_cons pe_int pa_nil))) pa_nil))) pa_nil)))) pss_nil)
      (pss_cons (ps_set (i := 3) nd rfl (.inl rfl) (pe_lst pa_nil))
      (pss_cons (ps_for PassesOwn.never rfl (pi_list (pv 0)) (pg_name (i := 4) nd rfl (.inr rfl))
        (pss_cons (ps_setLc (i := 5) (own := [("_law_other", 9)]) (g := gName 9) (by rfl) nd rfl rfl (sw_true rfl rfl rfl (by rfl)) (pi_list (pv 0))
          (blkOk_by (own := [("_law_other", 9)]) (N := N75) (sc := defScope (top 75)) (by decide +kernel)) (fun _ _ _ _ _ => pg_name (i := 9) nd rfl (Or.inl rfl))
          (fun _ _ _ _ _ => pts_one (pt_cmpR (ko_neD K hu) (pv 9) (pv 4) (nomark _))) (fun _ _ _ _ _ => pv 9))
        (pss_cons (ps_set (i := 6) nd rfl (.inl rfl) (pe_c cL hr (pa_cons (pe_ix ix_tup (pv 4) pe_int (fun _ _ => rfl)) (pa_cons (pv 1) pa_nil)) (hk := by omega)))
        (pss_one (ps_for PassesOwn.never rfl (pi_list (pe_c c hr (pa_cons (pv 5) (pa_cons (pe_op op_sub (pv 1) (pe_ix ix_tup (pv 4) pe_int (fun _ _ => rfl))) (pa_cons (pe_op op_sub (pv 2) pe_int) pa_nil))) (hk := by omega)))
            (pg_tup rfl (pgs_cons (pg_name (i := 7) nd rfl (Or.inl rfl)) (pgs_cons (pg_name (i := 8) nd rfl (Or.inl rfl)) pgs_nil)))
          (pss_one (ps_expr (pe_bm PySem.F.plainAttrs_list PySem.F.slot_list_append PySem.F.type_list_append mt_append (pv 3) (pa_cons (pe_tup (pa_cons (pe_op op_catT (pe_tup (pa_cons (pv 4) pa_nil)) (pv 7)) (pa_cons (pe_c cT hr (pa_cons (pv 6) (pa_cons (pv 8) pa_nil)) (hk := by omega)) pa_nil))) pa_nil)))))))))
      (pss_one (ps_ret (pv 3))))), ?_⟩
    refine ⟨_, rfl, rfl, _, rfl, ite2 (fun z => ?_) fun _ => ?_⟩
    · exfalso
      have := V.int.inj (of_decide_eq_true z)
      omega
    refine ⟨_, rfl, (by show 0 ≤ sizeLine; decide), fun e0 he0 => ?_⟩
    have s1 := Same.new (.lst []) he0
    have d1 : upd H e0 (.lst []) e0 = some _ := upd_same
    generalize upd H e0 (.lst []) = H1 at *
    refine ⟨.list (is.map (itD T)), .list [], .lst (s1.seq hl) (itms_dp (hi.mono s1)), .lst (SqL.of d1) .nil, itms_lay hi hT, by decide, _, rfl, ?_⟩
    cases is with
    | nil =>
      refine iteT ?_
      refine ⟨(by show 0 ≤ sizeLine; decide), fun a ha => ⟨(by show 2 ≤ sizeLine; decide), fun b hb => ⟨(by show 2 ≤ sizeLine; decide), fun c hc => ⟨(by show 1 ≤ sizeLine; decide), fun r hr' => ?_⟩⟩⟩⟩
      have s1 := s1.trans (Same.new (.tup []) ha)
      have a1 : upd H1 a (.tup []) a = some _ := upd_same
      generalize upd H1 a (.tup []) = H1 at *
      have s2 := s1.trans (Same.new (.tup [.int 1, .int 1]) hb)
      have a2 := Same.new (.tup [.int 1, .int 1]) hb _ _ a1
      have b2 : upd H1 b (.tup [.int 1, .int 1]) b = some _ := upd_same
      generalize upd H1 b (.tup [.int 1, .int 1]) = H2 at *
      have s3 := s2.trans (Same.new (.tup [.ref a, .ref b]) hc)
      have a3 := Same.new (.tup [.ref a, .ref b]) hc _ _ a2
      have b3 := Same.new (.tup [.ref a, .ref b]) hc _ _ b2
      have c3 : upd H2 c (.tup [.ref a, .ref b]) c = some _ := upd_same
      generalize upd H2 c (.tup [.ref a, .ref b]) = H3 at *
      have s4 := Same.new (.lst [V.ref c]) hr'
      exact q _ r [c] (s3.free hr') (s3.trans s4) upd_same (.cons ⟨a, b, [], s4 _ _ c3, SqT.of (s4 _ _ a3), .nil, SqT.of (s4 _ _ b3)⟩ .nil)
    | cons i0 it =>
    generalize his : i0 :: it = is at *
    have hord : ordersM T (m + 1) is left = is.flatMap fun i => (ordersM T m (is.filter fun j => decide (j ≠ i)) (left - (T i).w)).map fun p => ((i :: p.1, mkRat ((T i).w : Int) left * p.2) : Ord) := by
      rw [← his]; rfl
    have hev : PyData.eqv (.list (is.map (itD T))) (.list []) = false := by rw [← his]; rfl
    rw [hev]
    refine iteF ⟨(by show 0 ≤ sizeLine; decide), fun fl hfl => ?_⟩
    have s2 := s1.trans (Same.new (.lst []) hfl)
    have f2 : upd H1 fl (.lst []) fl = some _ := upd_same
    have hfl0 := s1.free hfl
    generalize upd H1 fl (.lst []) = H2 at *
    have hl0 : 0 < left := by
      have := (hT i0).w1
      rw [← hs, ← his]
      simp [wSum]
      omega
    have hfl := orders_len T (m + 1) is left (by omega) h4
    rw [hord] at hfl
    have hp16 : 4 ^ (m + 1) ≤ 16 := by
      have := Nat.pow_le_pow_right (n := 4) (by decide) (show m + 1 ≤ 2 by omega)
      omega
    refine ⟨_, rfl, l, rfl, ⟨_, s2.seq hl⟩, for_list (K := K) (xs := refs as) (fun i σ H3 => ∃ v4 v5 v6 v7 v8 us, σ = [some (.ref l), some (.int (left : Int)), some (.int ((m + 1 : Nat) : Int)), some (.ref fl), v4, v5, v6, v7, v8, none] ∧ Same H H3 ∧ H3 fl = some (.lst (refs us)) ∧
        Paired (OrdAt K T H3) us ((is.take i).flatMap fun i => (ordersM T m (is.filter fun j => decide (j ≠ i)) (left - (T i).w)).map fun p => ((i :: p.1, mkRat ((T i).w : Int) left * p.2) : Ord)))
      ⟨none, none, none, none, none, [], rfl, s2, f2, .nil⟩ ?_ ?_ ?_⟩
    · rintro i σ H3 _ ⟨_, _, _, _, _, _, _, s3, _⟩
      exact s3.seq hl
    · rintro ix x σ H3 hx ⟨v4, v5, v6, v7, v8, us, rfl, s3, f3, hu3⟩
      obtain ⟨a, i, rfl, e1, e2⟩ := hi.get hx
      have hmi := List.mem_of_getElem? e1
      have hfw := wSum_filter T hn hmi
      have hwi := hT i
      have hw1 := hwi.w1
      have hw6 := hwi.w6
      have lu3 := hu3.length
      have htot := flatMap_le (f := fun i => (ordersM T m (is.filter fun j => decide (j ≠ i)) (left - (T i).w)).map fun p => ((i :: p.1, mkRat ((T i).w : Int) left * p.2) : Ord)) e1
      -- the rest
      refine ⟨_, rfl, l, rfl, ⟨_, s3.seq hl⟩, fun D2 hD2 => walk_list (K := K) (xs := refs as) (fun j H4 => ∃ ws, H4 = upd H3 D2 (.lst (refs ws)) ∧ ws.length ≤ j ∧ Itms T H3 ws ((is.take j).filter fun j => decide (j ≠ i))) ⟨[], rfl, Nat.le_refl _, .nil⟩ ?_ ?_ ?_⟩
      · rintro j H4 _ ⟨ws, rfl, _⟩
        exact (Same.new _ hD2).seq (s3.seq hl)
      · rintro j y H4 hy ⟨ws, rfl, lw, hw⟩
        obtain ⟨b, jj, rfl, g1, g2⟩ := hi.get hy
        have hj := (List.getElem?_eq_some_iff.mp g1).1
        have ht : (is.take (j + 1)).filter (fun j => decide (j ≠ i)) = ((is.take j).filter fun j => decide (j ≠ i)) ++ (if jj ≠ i then [jj] else []) := by
          rw [List.take_add_one, g1, List.filter_append]
          congr 1
          by_cases h : jj = i
          · simp [h]
          · simp [h]
        have s4 := s3.trans (Same.new (.lst (refs ws)) hD2)
        refine ⟨rfl, _, rfl, _, rfl, itD T jj, itD T i, itms_dp1 (g2.mono s4), itms_dp1 (e2.mono s4), it_shaped g2.1 (hT jj), it_shaped e2.1 hwi, _, rfl, ?_⟩
        rw [it_eqv g2.1 e2.1, ht]
        by_cases h : jj = i
        · rw [decide_eq_true h, if_neg (by simp [h]), List.append_nil]
          exact iteF ⟨ws, rfl, by omega, hw⟩
        · rw [decide_eq_false h, if_pos h]
          exact iteT ⟨_, rfl, _, upd_same, small1000 (by simp; omega), ws ++ [b], by rw [upd_upd]; simp [refs], by simp; omega, paired_append hw (.cons (g2.mono s3) .nil)⟩
      rintro H4 ⟨ws, rfl, lw, hw⟩
      have e3 : is.take (refs as).length = is := by rw [List.take_of_length_le]; simp [lai]
      rw [e3] at hw
      have s4 := s3.trans (Same.new (.lst (refs ws)) hD2)
      have k4 := Same.new (.lst (refs ws)) hD2
      have d4 : upd H3 D2 (.lst (refs ws)) D2 = some _ := upd_same
      have f4 := k4 _ _ f3
      have hw4 := hw.mono k4
      have hu4 : Paired (OrdAt K T (upd H3 D2 (.lst (refs ws)))) us _ := Paired.mapP hu3 fun _ _ h => h.mono k4
      generalize upd H3 D2 (.lst (refs ws)) = H4 at *
      -- share
      have hle : (T i).w ≤ left := by omega
      refine ⟨_, rfl, a, _, _, _, rfl, rfl, SqT.of (s4 _ _ e2.2), atI_nat (j := 2) rfl, _, rfl, (T i).w, left, rfl, hl0, by omega, by omega, fun sh hsh => ?_⟩
      have k5 := Same.new (.tup (frV (mkRat ((T i).w : Int) left))) hsh
      have s5 := s4.trans k5
      have sh5 : upd H4 sh (.tup (frV (mkRat ((T i).w : Int) left))) sh = some _ := upd_same
      have f5 := k5 _ _ f4
      have d5 := k5 _ _ d4
      have hu5 : Paired (OrdAt K T (upd H4 sh (.tup (frV (mkRat ((T i).w : Int) left))))) us _ := Paired.mapP hu4 fun _ _ h => h.mono k5
      generalize upd H4 sh (.tup (frV (mkRat ((T i).w : Int) left))) = H5 at *
      have nshf : sh ≠ fl := ne_of sh5 f5 (by intro z; cases z)
      -- the orders of the rest
      refine ⟨_, rfl, _, rfl, _, rfl, a, _, _, _, rfl, rfl, SqT.of (s5 _ _ e2.2), atI_nat (j := 2) rfl, _, _, rfl, rfl, _, rfl, _, _, rfl, rfl, ?_⟩
      refine ⟨D2, left - (T i).w, ws, is.filter fun j => decide (j ≠ i), ?_, SqL.of d5, hw4.mono k5, Nat.le_trans (List.length_filter_le _ _) h4, hn.filter _, by omega, by omega, hT, fun H6 ol us2 hol0 k6 ol6 hos => ?_⟩
      · have z1 : (left : Int) - ((T i).w : Int) = ((left - (T i).w : Nat) : Int) := by omega
        have z2 : ((m + 1 : Nat) : Int) - 1 = (m : Int) := by omega
        show [V.ref D2, V.int ((left : Int) - ((T i).w : Int)), V.int (((m + 1 : Nat) : Int) - 1)] = _
        rw [z1, z2]
      have s6 := s5.trans k6
      have f6 := k6 _ _ f5
      have sh6 := k6 _ _ sh5
      have nof : ol ≠ fl := (ne_of_none f5 hol0).symm
      have hu6 : Paired (OrdAt K T H6) us _ := Paired.mapP hu5 fun _ _ h => h.mono k6
      have lo2 := hos.length
      have obd := orders_bd T hT m (is.filter fun j => decide (j ≠ i)) (left - (T i).w) (hn.filter _) (by omega) (by omega)
      refine ⟨ol, rfl, ⟨_, SqL.of ol6⟩, for_list (K := K) (xs := refs us2) (fun j σ H7 => ∃ v7 v8 us, σ = [some (.ref l), some (.int (left : Int)), some (.int ((m + 1 : Nat) : Int)), some (.ref fl), some (.ref a), some (.ref D2), some (.ref sh), v7, v8, none] ∧ Same H H7 ∧ H7 ol = some (.lst (refs us2)) ∧ H7 sh = some (.tup (frV (mkRat ((T i).w : Int) left))) ∧ H7 fl = some (.lst (refs us)) ∧ us.length ≤ 16 + j ∧
          Paired (OrdAt K T H7) us (((is.take ix).flatMap fun i => (ordersM T m (is.filter fun j => decide (j ≠ i)) (left - (T i).w)).map fun p => ((i :: p.1, mkRat ((T i).w : Int) left * p.2) : Ord)) ++ ((ordersM T m (is.filter fun j => decide (j ≠ i)) (left - (T i).w)).take j).map fun p => ((i :: p.1, mkRat ((T i).w : Int) left * p.2) : Ord)) ∧ Paired (OrdAt K T H7) us2 (ordersM T m (is.filter fun j => decide (j ≠ i)) (left - (T i).w)))
        ⟨v7, v8, us, rfl, s6, ol6, sh6, f6, by omega, by simpa using hu6, hos⟩ ?_ ?_ ?_⟩
      · rintro j σ H7 _ ⟨_, _, _, _, _, ol7, _⟩
        exact SqL.of ol7
      · clear hu3 hu4 hu5 hu6 f3 f4 f5 f6 d4 d5 hw hw4 ol6 sh6 sh5 lu3
        rintro j y σ H6 hy ⟨v7, v8, us, rfl, s6, ol6, sh6, f6, lus, hu6, hos6⟩
        rw [List.getElem?_map] at hy
        obtain ⟨u2, hu2, rfl⟩ := Option.map_eq_some_iff.mp hy
        obtain ⟨⟨o0, c0⟩, hp0, ao, ch, rs, q1, q2, q3, q4⟩ := paired_get hos6 hu2
        have hj := (List.getElem?_eq_some_iff.mp hu2).1
        have ob := obd _ (List.mem_of_getElem? hp0)
        have lrs := q3.length
        have hol := orders_len T m (is.filter fun j => decide (j ≠ i)) (left - (T i).w) (by omega) (Nat.le_trans (List.length_filter_le _ _) h4)
        have hp4 : 4 ^ m ≤ 4 := by
          have := Nat.pow_le_pow_right (n := 4) (by decide) hm
          omega
        have h24m : 24 ^ m ≤ 24 := by
          have := Nat.pow_le_pow_right (n := 24) (by decide) hm
          omega
        have hnum : (mkRat ((T i).w : Int) left).num * c0.num < 5000 := by
          have h1 := (mk_num_le (p := (T i).w) hl0)
          have h2 := ob.num
          rw [pow24] at h2
          have h3 := Rat.num_nonneg.mpr ob.lo
          have h4' := Int.mul_le_mul (show (mkRat ((T i).w : Int) left).num ≤ 6 by omega) (show c0.num ≤ 24 by simp only at h2; omega) h3 (by decide)
          omega
        have hden : (mkRat ((T i).w : Int) left).den * c0.den < 5000 := by
          have h1 := mk_den_le (p := ((T i).w : Int)) hl0
          have h2 := ob.den
          have := Nat.mul_le_mul (show (mkRat ((T i).w : Int) left).den ≤ 24 by omega) (show c0.den ≤ 24 by simp only at h2; omega)
          omega
        refine ⟨u2, _, rfl, SqT.of q1, rfl, _, _, rfl, _, _, rfl, rfl, ?_⟩
        refine ⟨_, rfl, .inl ⟨rfl, _, SqL.of f6⟩, _, rfl, (by show 1 ≤ sizeLine; decide), fun t1 ht1 => ?_⟩
        have kt := Same.new (.tup [V.ref a]) ht1
        have t1a : upd H6 t1 (.tup [V.ref a]) t1 = some _ := upd_same
        generalize upd H6 t1 (.tup [V.ref a]) = Ht at *
        have hrs : rs.length ≤ 1000 := by
          have := orders_short T m _ _ _ (List.mem_of_getElem? hp0)
          simp only at this lrs
          omega
        refine ⟨_, rfl, t1, ao, _, _, rfl, rfl, SqT.of t1a, kt.seqT q2, by simp, Nat.le_of_lt (Nat.lt_of_le_of_lt (by simp; omega) (show 2000 < sizeLine by decide)), fun hnil => ?_, fun hne zc hzc => ?_⟩
        · have hrs0 : rs = [] := by simpa [refs] using hnil
          have zs : SqT K Ht t1 (refs (a :: rs)) := by rw [hrs0]; exact SqT.of t1a
          refine ⟨_, rfl, _, rfl, sh, ch, mkRat ((T i).w : Int) left, c0, rfl, ⟨SqT.of (kt _ _ sh6), kt.seqT q4⟩, ⟨mk_nonneg hl0, ob.lo, by have := (mk_num_le (p := (T i).w) hl0).1; omega, hnum, hden⟩, fun z3 hz3 => ⟨(by show 2 ≤ sizeLine; decide), fun z4 hz4 => ?_⟩⟩
          have k8 := Same.new (.tup (frV (mkRat ((T i).w : Int) left * c0))) hz3
          have z8 : upd Ht z3 (.tup (frV (mkRat ((T i).w : Int) left * c0))) z3 = some _ := upd_same
          generalize upd Ht z3 (.tup (frV (mkRat ((T i).w : Int) left * c0))) = H8 at *
          have k9 := kt.trans (k8.trans (Same.new (.tup [.ref t1, .ref z3]) hz4))
          have h9 := k8.trans (Same.new (.tup [.ref t1, .ref z3]) hz4)
          have z9 := Same.new (.tup [.ref t1, .ref z3]) hz4 _ _ z8
          have w9 : upd H8 z4 (.tup [.ref t1, .ref z3]) z4 = some _ := upd_same
          generalize upd H8 z4 (.tup [.ref t1, .ref z3]) = H9 at *
          have f9 := k9 _ _ f6
          have hrow : OrdAt K T H9 z4 (i :: o0, mkRat ((T i).w : Int) left * c0) := ⟨t1, z3, a :: rs, w9, h9.seqT zs, .cons (e2.mono (s6.trans k9)) (q3.mono k9), SqT.of z9⟩
          have wr : ∀ a xs, SqT K H9 a xs → SqT K (upd H9 fl (.lst (refs us ++ [.ref z4]))) a xs := sqT_wr f9 (by intro xs z; cases z) (by intro b xs z; cases z)
          have wt : ∀ {a : Addr} {r : Ord}, OrdAt K T H9 a r → OrdAt K T (upd H9 fl (.lst (refs us ++ [.ref z4]))) a r := fun ⟨o, c, rs, r1, r2, r3, r4⟩ => ⟨o, c, rs, (upd_ne (ne_of r1 f9 (by intro z; cases z))).trans r1, wr _ _ r2, Paired.mapP r3 fun x y h => ⟨h.1, (upd_ne (ne_of h.2 f9 (by intro z; cases z))).trans h.2⟩, wr _ _ r4⟩
          refine ⟨fl, _, _, rfl, rfl, f9, small1000 (by simp; omega), _, _, us ++ [z4], rfl, (s6.trans k9).mut _ hfl0, (upd_ne nof).trans (k9 _ _ ol6), (upd_ne nshf).trans (k9 _ _ sh6), by rw [upd_same]; simp [refs], by simp; omega, ?_⟩
          rw [List.take_add_one, hp0, List.map_append, ← List.append_assoc]
          exact ⟨paired_append (Paired.mapP hu6 fun _ _ h => wt (h.mono k9)) (.cons (wt hrow) .nil), Paired.mapP hos6 fun _ _ h => wt (h.mono k9)⟩
        · have kc := kt.trans (Same.new (.tup ([V.ref a] ++ refs rs)) hzc)
          have zs : SqT K (upd Ht zc (.tup ([V.ref a] ++ refs rs))) zc (refs (a :: rs)) := SqT.of upd_same
          generalize upd Ht zc (.tup ([V.ref a] ++ refs rs)) = Hc at *
          refine ⟨_, rfl, _, rfl, sh, ch, mkRat ((T i).w : Int) left, c0, rfl, ⟨SqT.of (kc _ _ sh6), kc.seqT q4⟩, ⟨mk_nonneg hl0, ob.lo, by have := (mk_num_le (p := (T i).w) hl0).1; omega, hnum, hden⟩, fun z3 hz3 => ⟨(by show 2 ≤ sizeLine; decide), fun z4 hz4 => ?_⟩⟩
          have k8 := Same.new (.tup (frV (mkRat ((T i).w : Int) left * c0))) hz3
          have z8 : upd Hc z3 (.tup (frV (mkRat ((T i).w : Int) left * c0))) z3 = some _ := upd_same
          generalize upd Hc z3 (.tup (frV (mkRat ((T i).w : Int) left * c0))) = H8 at *
          have k9 := kc.trans (k8.trans (Same.new (.tup [.ref zc, .ref z3]) hz4))
          have h9 := k8.trans (Same.new (.tup [.ref zc, .ref z3]) hz4)
          have z9 := Same.new (.tup [.ref zc, .ref z3]) hz4 _ _ z8
          have w9 : upd H8 z4 (.tup [.ref zc, .ref z3]) z4 = some _ := upd_same
          generalize upd H8 z4 (.tup [.ref zc, .ref z3]) = H9 at *
          have f9 := k9 _ _ f6
          have hrow : OrdAt K T H9 z4 (i :: o0, mkRat ((T i).w : Int) left * c0) := ⟨zc, z3, a :: rs, w9, h9.seqT zs, .cons (e2.mono (s6.trans k9)) (q3.mono k9), SqT.of z9⟩
          have wr : ∀ a xs, SqT K H9 a xs → SqT K (upd H9 fl (.lst (refs us ++ [.ref z4]))) a xs := sqT_wr f9 (by intro xs z; cases z) (by intro b xs z; cases z)
          have wt : ∀ {a : Addr} {r : Ord}, OrdAt K T H9 a r → OrdAt K T (upd H9 fl (.lst (refs us ++ [.ref z4]))) a r := fun ⟨o, c, rs, r1, r2, r3, r4⟩ => ⟨o, c, rs, (upd_ne (ne_of r1 f9 (by intro z; cases z))).trans r1, wr _ _ r2, Paired.mapP r3 fun x y h => ⟨h.1, (upd_ne (ne_of h.2 f9 (by intro z; cases z))).trans h.2⟩, wr _ _ r4⟩
          refine ⟨fl, _, _, rfl, rfl, f9, small1000 (by simp; omega), _, _, us ++ [z4], rfl, (s6.trans k9).mut _ hfl0, (upd_ne nof).trans (k9 _ _ ol6), (upd_ne nshf).trans (k9 _ _ sh6), by rw [upd_same]; simp [refs], by simp; omega, ?_⟩
          rw [List.take_add_one, hp0, List.map_append, ← List.append_assoc]
          exact ⟨paired_append (Paired.mapP hu6 fun _ _ h => wt (h.mono k9)) (.cons (wt hrow) .nil), Paired.mapP hos6 fun _ _ h => wt (h.mono k9)⟩
      · rintro σ H7 ⟨v7, v8, us, rfl, s7, ol7, sh7, f7, lus, hu7, _⟩
        have e4 : (ordersM T m (is.filter fun j => decide (j ≠ i)) (left - (T i).w)).take (refs us2).length = ordersM T m (is.filter fun j => decide (j ≠ i)) (left - (T i).w) := by rw [List.take_of_length_le]; simp [lo2]
        rw [e4] at hu7
        refine ⟨_, _, _, _, _, us, rfl, s7, f7, ?_⟩
        rw [flatMap_take e1]
        exact hu7
    · rintro σ H3 ⟨v4, v5, v6, v7, v8, us, rfl, s3, f3, hu3⟩
      have e3 : is.take (refs as).length = is := by rw [List.take_of_length_le]; simp [lai]
      rw [e3] at hu3
      refine ⟨_, rfl, q H3 fl us hfl0 s3 f3 ?_⟩
      rw [hord]
      exact hu3
end
end Sam
end
section
set_option Elab.async false
set_option linter.all false
set_option maxRecDepth 100000
set_option maxHeartbeats 1000000
namespace Sam
open PySem PySem.Spec PyProof.Rows L2
open C8 (pss_cut tCut call_isC InsC)
def weigRows (T : Nat → Thing) (n k : Nat) : List Row := (ordersM T k (List.range n) (wSum T (List.range n))).map fun p => (⟨wSum T (List.range n), p.1⟩, p.2)
def plainRows (T : Nat → Thing) (kd : Bool) (n k : Nat) : List Row := if kd then unifRows n k else weigRows T n k
section
variable {P : Program} {w : World} {K : PySem.W.Frag} {mg : Str → Option Value} {base : Heap} {CE : Addr} {T : Nat → Thing} {k : Nat}
def spWeig (T : Nat → Thing) (k : Nat) (K : PySem.W.Frag) : Sp := fun vs H Q _ => ∃ (l : Addr) (n : Nat) (as : List Addr), vs = [.ref l, .int (k : Int)] ∧ SqL K H l (refs as) ∧ Itms T H as (List.range n) ∧ (1 ≤ n ∧ n ≤ 4) ∧ k ≤ 2 ∧ (∀ i, ThOk (T i)) ∧
  ∀ H' r us, Same H H' → H' r = some (.lst (refs us)) → RowsAt K T k H' us ((weigRows T n k).mergeSort (leRow T k)) → Q (.ref r) H'
abbrev N76 : List Str := ["_law_things_here", "_law_size", "_law_total", "_law_rows", "_law_thing", "_law_order", "_law_chance"]
theorem sc76 : FnScope N76 ["_law_things_here", "_law_size"] (defScope (top 76)) := ⟨rfl, rfl, rfl, by decide +kernel, rfl, by decide +kernel, by decide +kernel⟩
theorem wSum_le {T : Nat → Thing} (hT : ∀ i, ThOk (T i)) : ∀ l : List Nat, wSum T l ≤ 6 * l.length
  | [] => by simp [wSum]
  | x :: r => by
    have := wSum_le hT r
    have h6 := (hT x).w6
    simp only [wSum, List.map_cons, List.sum_cons, List.length_cons] at this ⊢
    omega
theorem sum_w (T : Nat → Thing) : ∀ l : List Nat, (l.map fun i => ((T i).w : Int)).sum = ((wSum T l : Nat) : Int)
  | [] => rfl
  | x :: r => by
    have := sum_w T r
    simp only [wSum, List.map_cons, List.sum_cons] at this ⊢
    rw [this]
    omega
theorem ok_weig (B : Bn mg) (d : Df K mg "_law_weighted" (top 76) ["_law_things_here", "_law_size"]) (cO : Cl P w K mg base "_law_orders" ["_law_things_here", "_law_left", "_law_many"] 5 (spOrd T K k)) :
    Cl P w K mg base "_law_weighted" ["_law_things_here", "_law_size"] 6 (spWeig T k K) := by
  refine d.ok sc76 (fun vs H Q E h => ?_) (fun f cdv A outer s0 H vs Q E hr h => ?_)
  · obtain ⟨l, n, as, rfl, _⟩ := h
    rfl
  · obtain ⟨l, n, as, rfl, hl, hi, ⟨n1, n4⟩, hk, hT, q⟩ := h
    have nd := sc76.nd
    have hu := hr.units
    have lai := hi.length
    rw [List.length_range] at lai
    refine ⟨_, pss_cons (ps_set (i := 2) nd rfl (.inr rfl) (pe_callB (cr_sum rfl) (by rfl) B.sum (by decide +kernel) (pa_cons (pe_lc (own := [("_law_thing", 4)]) (g := gName 4) (by rfl) nd (pi_list (pv 0))
          (blkOk_by (own := [("_law_thing", 4)]) (N := N76) (sc := defScope (top 76)) (by decide +kernel)) (fun _ _ _ _ _ => pg_name (i := 4) nd rfl (Or.inl rfl))
          (fun _ _ _ _ _ => pts_nil) (fun _ _ _ _ _ => pe_ix (kx_tup K) (pv 4) pe_int (fun _ _ => rfl))) pa_nil)))
      (pss_cons (ps_setLc (i := 3) (own := [("_law_order", 5), ("_law_chance", 6)]) (g := gTup K 2 (gCons (gName 5) (gCons (gName 6) gNil))) (by rfl) nd rfl rfl (sw_true rfl rfl rfl (by rfl)) (pi_list (pe_c cO hr (pa_cons (pv 0) (pa_cons (pv 2) (pa_cons (pv 1) pa_nil)))))
          (blkOk_by (own := [("_law_order", 5), ("_law_chance", 6)]) (N := N76) (sc := defScope (top 76)) (by decide +kernel)) (fun _ _ _ _ _ => kg_tup K (by rfl) (pgs_cons (pg_name (i := 5) nd rfl (Or.inl rfl)) (pgs_cons (pg_name (i := 6) nd rfl (Or.inl rfl)) pgs_nil)))
          (fun _ _ _ _ _ => pts_nil) (fun _ _ _ _ _ => pe_tup (pa_cons (pe_tup (pa_cons (pv 1) (pa_cons (pv 2) (pa_cons (pv 5) pa_nil)))) (pa_cons (pv 6) pa_nil))))
      (pss_one (ps_ret (pe_callB (kc_sorted K hu) (by rfl) B.sorted (by decide +kernel) (pa_cons (pv 3) pa_nil))))), ?_⟩
    refine ⟨_, rfl, l, rfl, ⟨_, hl⟩, fun D1 hD1 => walk_list (K := K) (xs := refs as) (fun i H2 => H2 = upd H D1 (.lst ((((List.range n).take i).map fun i => ((T i).w : Int)).map V.int))) rfl ?_ ?_ ?_⟩
    · rintro i H2 _ rfl
      exact (Same.new _ hD1).seq hl
    · rintro i x H2 hx rfl
      obtain ⟨a, j, rfl, e1, e2⟩ := hi.get hx
      have hj := (List.getElem?_eq_some_iff.mp e1).1
      refine ⟨rfl, yes_ok ?_⟩
      refine ⟨_, rfl, a, _, _, _, rfl, rfl, SqT.of (Same.new _ hD1 _ _ e2.2), atI_nat (j := 2) rfl, _, upd_same, small1000 (by simp at hj ⊢; omega), ?_⟩
      rw [upd_upd, List.take_add_one, e1]
      simp
    rintro H2 rfl
    have e3 : (List.range n).take (refs as).length = List.range n := by rw [List.take_of_length_le]; simp [lai]
    rw [e3]
    have s1 := Same.new (.lst (((List.range n).map fun i => ((T i).w : Int)).map V.int)) hD1
    have d1 : upd H D1 (.lst (((List.range n).map fun i => ((T i).w : Int)).map V.int)) D1 = some _ := upd_same
    generalize upd H D1 (.lst (((List.range n).map fun i => ((T i).w : Int)).map V.int)) = H1 at *
    refine ⟨D1, _, rfl, SqL.of d1, ?_⟩
    rw [sum_w]
    have hW := wSum_le hT (List.range n)
    rw [List.length_range] at hW
    refine ⟨_, rfl, _, rfl, _, rfl, l, wSum T (List.range n), as, List.range n, rfl, s1.seq hl, hi.mono s1, by simp; omega, List.nodup_range, rfl, by omega, hT, fun H3 ol us hol s3 ol3 hos => ?_⟩
    have s13 := s1.trans s3
    have los := hos.length
    have hlen := orders_len T k (List.range n) (wSum T (List.range n)) hk (by simp; omega)
    have hp16 : 4 ^ k ≤ 16 := by
      have := Nat.pow_le_pow_right (n := 4) (by decide) hk
      omega
    refine ⟨ol, rfl, ⟨_, SqL.of ol3⟩, fun D2 hD2 => walk_list (K := K) (xs := refs us) (fun i H4 => ∃ ws, Same H3 H4 ∧ H4 D2 = some (.lst (refs ws)) ∧ ws.length = i ∧ RowsAt K T k H4 ws (((ordersM T k (List.range n) (wSum T (List.range n))).take i).map fun p => (⟨wSum T (List.range n), p.1⟩, p.2))) ⟨[], Same.new _ hD2, upd_same, rfl, .nil⟩ ?_ ?_ ?_⟩
    · rintro i H4 _ ⟨ws, s4, _⟩
      exact SqL.of (s4 _ _ ol3)
    · rintro i x H4 hx ⟨ws, s4, d4, lw, hw⟩
      rw [List.getElem?_map] at hx
      obtain ⟨u, hu2, rfl⟩ := Option.map_eq_some_iff.mp hx
      obtain ⟨p, hp0, ao, ch, rs, q1, q2, q3, q4⟩ := paired_get hos hu2
      have hj := (List.getElem?_eq_some_iff.mp hu2).1
      refine ⟨u, _, rfl, SqT.of (s4 _ _ q1), rfl, _, _, rfl, _, _, rfl, rfl, rfl, yes_ok ?_⟩
      refine ⟨_, rfl, _, rfl, _, rfl, (by show 3 ≤ sizeLine; decide), fun v hv => ?_⟩
      have k5 := Same.new (.tup [.int (k : Int), .int ((wSum T (List.range n) : Nat) : Int), .ref ao]) hv
      have v5 : upd H4 v (.tup [.int (k : Int), .int ((wSum T (List.range n) : Nat) : Int), .ref ao]) v = some _ := upd_same
      generalize upd H4 v (.tup [.int (k : Int), .int ((wSum T (List.range n) : Nat) : Int), .ref ao]) = H5 at *
      refine ⟨_, rfl, (by show 2 ≤ sizeLine; decide), fun z hz => ?_⟩
      have k6 := k5.trans (Same.new (.tup [.ref v, .ref ch]) hz)
      have v6 := Same.new (.tup [.ref v, .ref ch]) hz _ _ v5
      have z6 : upd H5 z (.tup [.ref v, .ref ch]) z = some _ := upd_same
      generalize upd H5 z (.tup [.ref v, .ref ch]) = H6 at *
      have d6 := k6 _ _ d4
      have hrow : RowAt K T k H6 z (⟨wSum T (List.range n), p.1⟩, p.2) := ⟨v, ch, z6, .tup (SqT.of v6) (.cons (.int _) (.cons (.int _) (.cons (.tup ((s4.trans k6).seqT q2) (q3.mono (s4.trans k6)).nks) .nil))), (s4.trans k6).seqT q4⟩
      have wr : ∀ a xs, SqT K H6 a xs → SqT K (upd H6 D2 (.lst (refs ws ++ [.ref z]))) a xs := sqT_wr d6 (by intro xs z; cases z) (by intro b xs z; cases z)
      have wt : ∀ {a : Addr} {r : Row}, RowAt K T k H6 a r → RowAt K T k (upd H6 D2 (.lst (refs ws ++ [.ref z]))) a r := fun ⟨o, c, r1, r2, r3⟩ => ⟨o, c, (upd_ne (ne_of r1 d6 (by intro z; cases z))).trans r1, NK.sq wr _ _ r2, wr _ _ r3⟩
      refine ⟨_, d6, small1000 (by simp; omega), ws ++ [z], (s4.trans k6).mut _ hD2, by rw [upd_same]; simp [refs], by simp [lw], ?_⟩
      rw [List.take_add_one, hp0, List.map_append]
      exact paired_append (Paired.mapP hw fun _ _ h => wt (h.mono k6)) (.cons (wt hrow) .nil)
    · rintro H4 ⟨ws, s4, d4, lw, hw⟩
      have e4 : (ordersM T k (List.range n) (wSum T (List.range n))).take (refs us).length = ordersM T k (List.range n) (wSum T (List.range n)) := by rw [List.take_of_length_le]; simp [los]
      rw [e4] at hw
      obtain ⟨zs, as', z1, z2, z3, z4⟩ := zok_rows hw (by simp; omega)
      refine ⟨_, rfl, D2, zs, rfl, .inl (SqL.of (by rw [z1]; exact d4)), z2, fun p hp => ?_⟩
      rw [z3]
      exact q _ p as' ((s13.trans s4).trans (Same.new _ hp)) upd_same (Paired.mapP z4 fun _ _ h => h.mono (Same.new _ hp))
def spPlain (T : Nat → Thing) (kd : Bool) (k : Nat) (K : PySem.W.Frag) : Sp := fun vs H Q _ => ∃ (l : Addr) (n : Nat) (as : List Addr), vs = [.int (kdI kd), .ref l, .int (k : Int)] ∧ SqL K H l (refs as) ∧ Itms T H as (List.range n) ∧ (1 ≤ n ∧ n ≤ 4) ∧ k ≤ 2 ∧ (∀ i, ThOk (T i)) ∧
  ∀ H' r us, Same H H' → H' r = some (.lst (refs us)) → RowsAt K T k H' us ((plainRows T kd n k).mergeSort (leRow T k)) → Q (.ref r) H'
theorem sc77 : FnScope ["_law_kind", "_law_things_here", "_law_size"] ["_law_kind", "_law_things_here", "_law_size"] (defScope (top 77)) := ⟨rfl, rfl, rfl, by decide +kernel, rfl, by decide +kernel, by decide +kernel⟩
theorem ok_plain {kd : Bool} (d : Df K mg "_law_plain" (top 77) ["_law_kind", "_law_things_here", "_law_size"]) (cU : Cl P w K mg base "_law_uniform" ["_law_things_here", "_law_size"] 2 (spUnif T k K)) (cW : Cl P w K mg base "_law_weighted" ["_law_things_here", "_law_size"] 6 (spWeig T k K)) :
    Cl P w K mg base "_law_plain" ["_law_kind", "_law_things_here", "_law_size"] 7 (spPlain T kd k K) := by
  refine d.ok sc77 (fun vs H Q E h => ?_) (fun f cdv A outer s0 H vs Q E hr h => ?_)
  · obtain ⟨l, n, as, rfl, _⟩ := h
    rfl
  · obtain ⟨l, n, as, rfl, hl, hi, hn, hk, hT, q⟩ := h
    refine ⟨_, pss_cons (ps_if (pt_cmpR op_eq (pv 0) pe_int (nomark _)) (pss_one (ps_ret (pe_c cU hr (pa_cons (pv 1) (pa_cons (pv 2) pa_nil))))) pss_nil) (pss_one (ps_ret (pe_c cW hr (pa_cons (pv 1) (pa_cons (pv 2) pa_nil))))), ?_⟩
    cases kd with
    | true =>
      refine ⟨_, rfl, rfl, _, rfl, ite2 (fun _ => ?_) fun z => absurd (decide_eq_true rfl) z⟩
      exact ⟨_, rfl, _, rfl, l, n, as, rfl, hl, hi, hn, by omega, q⟩
    | false =>
      refine ⟨_, rfl, rfl, _, rfl, ite2 (fun z => ?_) fun _ => ?_⟩
      · have := V.int.inj (of_decide_eq_true z)
        simp [kdI] at this
      exact ⟨_, rfl, _, rfl, l, n, as, rfl, hl, hi, hn, hk, hT, q⟩
end
end Sam
end
section
set_option Elab.async false
set_option linter.all false
set_option maxRecDepth 100000
set_option maxHeartbeats 1000000
namespace Sam
open PySem PySem.Spec PyProof.Rows L2
open C8 (pss_cut tCut call_isC InsC)
/-! ### the net: three nodes and the letters -/
structure Wd where
  nds : Addr
  lls : Addr
  a : Nat → Addr
  ka : Nat → Addr
structure St where
  nd : Nat → Nd
  ls : List Let
def ndsK (W : Wd) : List (Key × V) := [(Sum.inr (nN 0), V.ref (W.a 0)), (Sum.inr (nN 1), V.ref (W.a 1)), (Sum.inr (nN 2), V.ref (W.a 2))]
theorem ndsK_val (W : Wd) {i : Nat} (h : i < 3) : valV (ndsK W) (Sum.inr (nN i)) = some (.ref (W.a i)) := by
  have nd : ((ndsK W).map (·.1)).Nodup := by
    show [(Sum.inr (nN 0) : Key), Sum.inr (nN 1), Sum.inr (nN 2)].Nodup
    decide +kernel
  refine valV_of_mem nd ?_
  match i, h with
  | 0, _ => exact List.mem_cons_self
  | 1, _ => exact List.mem_cons_of_mem _ List.mem_cons_self
  | 2, _ => exact List.mem_cons_of_mem _ (List.mem_cons_of_mem _ List.mem_cons_self)
structure StAt (CN : Addr) (D : Kd) (T : Nat → Thing) (k : Nat) (G H : Hp) (W : Wd) (la : Nat → Addr) (σ : St) : Prop where
  nds : H W.nds = some (.dK (ndsK W))
  n : ∀ i, i < 3 → NdAt CN D T k G H (W.a i) (la i) (W.ka i) i (σ.nd i)
  ls : ∃ as, H W.lls = some (.lst (refs as)) ∧ Les D T k G as σ.ls
  gn : G W.nds = none
  gl : G W.lls = none
  da : ∀ i j, i < 3 → j < 3 → i ≠ j → W.a i ≠ W.a j ∧ la i ≠ la j ∧ W.ka i ≠ W.ka j
  dn : ∀ i, i < 3 → W.nds ≠ la i
theorem StAt.same {CN : Addr} {D : Kd} {T : Nat → Thing} {k : Nat} {G H H' : Hp} {W : Wd} {la : Nat → Addr} {σ : St} (h : StAt CN D T k G H W la σ) (g : Same G H) (s : Same H H') : StAt CN D T k G H' W la σ :=
  ⟨s _ _ h.nds, fun i hi => (h.n i hi).keep (ms := []) (Ext.same g s) (by simp) (by simp) (by simp), let ⟨as, h1, h2⟩ := h.ls; ⟨as, s _ _ h1, h2⟩, h.gn, h.gl, h.da, h.dn⟩
/-! what the script's own count sees -/
def parSeen (T : Nat → Thing) (p : Par) : Int := (p.smp.kept.map fun i => (3 * ((T i).w : Int) + (T i).am + (p.ps.length : Int))).sum
def ndSeen (T : Nat → Thing) (nd : Nd) : Int := (nd.pars.map (parSeen T)).sum
def seen (T : Nat → Thing) (σ : St) : Nat := (((List.range 3).map fun i => ndSeen T (σ.nd i)).sum).natAbs
theorem sumI_take {α : Type} (f : α → Int) {l : List α} {i : Nat} {x : α} (h : l[i]? = some x) : ((l.take (i + 1)).map f).sum = ((l.take i).map f).sum + f x := by
  rw [List.take_add_one, h]
  simp
section
variable {P : Program} {w : World} {K : PySem.W.Frag} {mg : Str → Option Value} {base : Heap} {CE CN : Addr} {D : Kd} {T : Nat → Thing} {k : Nat}
def spSeen (CN : Addr) (D : Kd) (T : Nat → Thing) (k : Nat) : Sp := fun vs H Q _ => ∃ (G : Hp) (W : Wd) (la : Nat → Addr) (σ : St), vs = [.ref W.nds] ∧ Same G H ∧ StAt CN D T k G H W la σ ∧ ∀ H', Same H H' → Q (.int (seen T σ : Int)) H'
abbrev N78 : List Str := ["_law_nodes", "_law_total", "_law_name", "_law_parts", "_law_sample", "_law_item"]
theorem sc78 : FnScope N78 ["_law_nodes"] (defScope (top 78)) := ⟨rfl, rfl, rfl, by decide +kernel, rfl, by decide +kernel, by decide +kernel⟩
abbrev nmsV : List V := [.str "a", .str "b", .str "c"]
theorem nmsV_get {i : Nat} {x : V} (h : nmsV[i]? = some x) : i < 3 ∧ x = .str (nN i) := by
  match i, h with
  | 0, h => cases h; exact ⟨by decide, rfl⟩
  | 1, h => cases h; exact ⟨by decide, rfl⟩
  | 2, h => cases h; exact ⟨by decide, rfl⟩
  | i + 3, h => simp at h
theorem ok_seen (B : Bn mg) (O : NCl K CN) (OD : KdOk K D) (d : Df K mg "_law_seen" (top 78) ["_law_nodes"]) (cH : Mt P w K mg base CN "held" ["self"] 1 (spHeld CN D T k)) :
    Cl P w K mg base "_law_seen" ["_law_nodes"] 2 (spSeen CN D T k) := by
  refine d.ok sc78 (fun vs H Q E h => ?_) (fun f cdv A outer s0 H vs Q E hr h => ?_)
  · obtain ⟨G, W, la, σ, rfl, _⟩ := h
    rfl
  · obtain ⟨G, W, la, σ, rfl, hG, hS, q⟩ := h
    have nd0 := sc78.nd
    have hu := hu_of hr
    refine ⟨_, pss_cons (ps_set (i := 1) nd0 rfl (.inl rfl) pe_int)
      (pss_cons (ps_for PassesOwn.never rfl (pi_list (pe_lst (pa_cons pe_str (pa_cons pe_str (pa_cons pe_str pa_nil))))) (pg_name (i := 2) nd0 rfl (.inl rfl))
        (pss_one (ps_for PassesOwn.never rfl (pi_list (pe_m0 cH O.cl hr (pe_dget hu (pv 0) (pv 2) (fun _ _ => rfl)))) (pg_tup rfl (pgs_cons (pg_name (i := 3) nd0 rfl (Or.inl rfl)) (pgs_cons (pg_name (i := 4) nd0 rfl (Or.inl rfl)) pgs_nil)))
          (pss_one (ps_for PassesOwn.never rfl (pi_list (ps_f K (pv 4))) (pg_name (i := 5) nd0 rfl (.inl rfl))
            (pss_one (ps_set (i := 1) nd0 rfl (.inl rfl) (pe_op op_add (pe_op op_add (pe_op op_add (pv 1) (pe_op op_mul pe_int (pe_ix ix_tup (pv 5) pe_int (fun _ _ => rfl)))) (pe_ix ix_tup (pv 5) pe_int (fun _ _ => rfl))) (pe_callB call_len_seq (by rfl) B.len PySem.boot_len (pa_cons (pv 3) pa_nil))))))))))
      (pss_one (ps_ret (pe_callB call_abs (by rfl) B.abs (by decide +kernel) (pa_cons (pv 1) pa_nil))))), ?_⟩
    refine ⟨(by show 3 ≤ sizeLine; decide), fun nl hnl => ?_⟩
    have s1 := Same.new (.lst nmsV) hnl
    have n1 : upd H nl (.lst nmsV) nl = some _ := upd_same
    refine (fun (z : ∀ H1 : Hp, Same H H1 → H1 nl = some (.lst nmsV) → _) => z _ s1 n1) ?_
    clear s1 n1
    intro H1 s1 n1
    refine ⟨nl, rfl, ⟨_, SqL.of n1⟩, for_list (K := K) (xs := nmsV) (fun i σ' H2 => ∃ z v2 v3 v4 v5, σ' = [some (.ref W.nds), some (.int z), v2, v3, v4, v5] ∧ z = ((List.range i).map fun i => ndSeen T (σ.nd i)).sum ∧ Same H1 H2) ⟨0, none, none, none, none, rfl, rfl, Same.refl _⟩ ?_ ?_ ?_⟩
    · rintro i σ' H2 _ ⟨_, _, _, _, _, _, _, s2⟩
      exact SqL.of (s2 _ _ n1)
    · rintro i x σ' H2 hx ⟨z0, v2, v3, v4, v5, rfl, hz0, s2⟩
      obtain ⟨hi, rfl⟩ := nmsV_get hx
      have hS2 := hS.same hG (s1.trans s2)
      have hG2 := hG.trans (s1.trans s2)
      obtain ⟨dx, Pl, as, a1, a2, a3⟩ := (hS2.n i hi).ins
      refine ⟨_, rfl, _, rfl, W.nds, _, rfl, .inl ⟨_, _, .inl hS2.nds, rfl, (ndsK_val W hi).symm⟩, W.a i, dx, _, rfl, a1, zlook_none (ns := ndN) (by decide) _, G, _, _, _, i, _, rfl, hG2, hS2.n i hi, fun hd as hhd hPas => ?_⟩
      have s3 := Same.new (.lst (refs as)) hhd
      have d3 : upd H2 hd (.lst (refs as)) hd = some _ := upd_same
      generalize upd H2 hd (.lst (refs as)) = H3 at *
      refine ⟨hd, rfl, ⟨_, SqL.of d3⟩, for_list (K := K) (xs := refs as) (fun j σ' H4 => ∃ z v3 v4 v5, σ' = [some (.ref W.nds), some (.int z), some (.str (nN i)), v3, v4, v5] ∧ z = z0 + (((σ.nd i).pars.take j).map (parSeen T)).sum ∧ Same H3 H4) ⟨z0, v3, v4, v5, rfl, by simp, Same.refl _⟩ ?_ ?_ ?_⟩
      · rintro j σ' H4 _ ⟨_, _, _, _, _, _, s4⟩
        exact SqL.of (s4 _ _ d3)
      · rintro j y σ' H4 hy ⟨z1, v3, v4, v5, rfl, hz1, s4⟩
        obtain ⟨ap, p, rfl, e2, t, s, p1, p2, p3, p4⟩ := hPas.get hy
        have hG4 := hG2.trans (s3.trans s4)
        obtain ⟨dxs, L, rs, i1, i2, i3⟩ := p3.ins
        refine ⟨ap, _, rfl, SqT.of (hG4 _ _ p1), rfl, _, _, rfl, _, _, rfl, rfl, ?_⟩
        refine ⟨_, rfl, s, D.C, D.co, _, dxs, _, _, rfl, hG4 _ _ i1, hG4 _ _ p3.cls, OD.cl, OD.n 2, zlook (i := 2) OD.nd rfl, L, rfl, ⟨_, SqL.of (hG4 _ _ i2)⟩, for_list (K := K) (xs := refs rs) (fun m σ' H5 => ∃ z v5, σ' = [some (.ref W.nds), some (.int z), some (.str (nN i)), some (.ref t), some (.ref s), v5] ∧ z = z1 + ((p.smp.kept.take m).map fun i => (3 * ((T i).w : Int) + (T i).am + (p.ps.length : Int))).sum ∧ Same H4 H5) ⟨z1, v5, rfl, by simp, Same.refl _⟩ ?_ ?_ ?_⟩
        · rintro m σ' H5 _ ⟨_, _, _, _, s5⟩
          exact SqL.of (s5 _ _ (hG4 _ _ i2))
        · rintro m z σ' H5 hz ⟨z2, v5, rfl, hz2, s5⟩
          obtain ⟨ay, iy, rfl, e3, e4, e5⟩ := i3.get hz
          have hG5 := hG4.trans s5
          refine ⟨_, rfl, _, rfl, ay, _, _, _, rfl, rfl, SqT.of (hG5 _ _ e5), atI_nat (j := 2) rfl, _, _, rfl, rfl, .inl ⟨by decide, by decide⟩, _, _, rfl, rfl, ?_⟩
          refine ⟨_, rfl, ay, _, _, _, rfl, rfl, SqT.of (hG5 _ _ e5), atI_nat (j := 3) rfl, _, _, rfl, rfl, ?_⟩
          refine ⟨_, rfl, t, _, rfl, .inr (SqT.of (hG5 _ _ p2)), _, _, rfl, rfl, ?_⟩
          refine ⟨_, _, rfl, ?_, s5⟩
          rw [sumI_take _ e3, hz2]
          simp [ptV]
          omega
        · rintro σ' H5 ⟨z2, v5, rfl, hz2, s5⟩
          have e6 : p.smp.kept.take (refs rs).length = p.smp.kept := by rw [List.take_of_length_le]; simp [i3.length]
          rw [e6] at hz2
          refine ⟨_, _, _, _, rfl, ?_, s4.trans s5⟩
          rw [sumI_take _ e2, hz2, hz1]
          unfold parSeen
          omega
      · rintro σ' H4 ⟨z1, v3, v4, v5, rfl, hz1, s4⟩
        have e6 : (σ.nd i).pars.take (refs as).length = (σ.nd i).pars := by rw [List.take_of_length_le]; simp [hPas.length]
        rw [e6] at hz1
        refine ⟨_, _, _, _, _, rfl, ?_, (s2.trans s3).trans s4⟩
        rw [hz1, hz0, List.range_succ]
        simp [ndSeen]
    · rintro σ' H2 ⟨z0, v2, v3, v4, v5, rfl, hz0, s2⟩
      have hz0' : z0 = ((List.range 3).map fun i => ndSeen T (σ.nd i)).sum := hz0
      refine ⟨_, rfl, _, rfl, ?_⟩
      have e7 : (if z0 < 0 then -z0 else z0) = ((seen T σ : Nat) : Int) := by
        unfold seen
        rw [← hz0']
        split <;> omega
      rw [e7]
      exact q _ (s1.trans s2)
end
end Sam
end
section
set_option Elab.async false
set_option linter.all false
set_option maxRecDepth 100000
set_option maxHeartbeats 1000000
namespace Sam
open PySem PySem.Spec PyProof.Rows L2
open C8 (pss_cut tCut call_isC InsC)
/-! ### a letter is taken, if nothing of it is there -/
def meets (l : Let) (nd : Nd) : Bool := l.par.ps.any fun x => decide (x ∈ hereP nd)
def takenNd (l : Let) (nd : Nd) : Nd := if decide ((l.snd, l.num) ∈ nd.known) || meets l nd then nd else tookNd l nd
theorem meets_false {l : Let} {nd : Nd} : meets l nd = false ↔ ∀ x ∈ l.par.ps, x ∉ hereP nd := by
  unfold meets
  simp
theorem hereP_mem {nd : Nd} {x : Nat} : x ∈ hereP nd ↔ (∃ p ∈ nd.pars, x ∈ p.ps) ∨ ∃ l ∈ nd.out, x ∈ l.par.ps := by
  unfold hereP
  simp only [List.mem_flatMap, List.mem_append, List.mem_map]
  constructor
  · rintro ⟨p, h | ⟨l, h, rfl⟩, hx⟩
    · exact .inl ⟨p, h, hx⟩
    · exact .inr ⟨l, h, hx⟩
  · rintro (⟨p, h, hx⟩ | ⟨l, h, hx⟩)
    · exact ⟨p, .inl h, hx⟩
    · exact ⟨l.par, .inr ⟨l, h, rfl⟩, hx⟩
theorem filter_flat_le {α β : Type} (p : α → Bool) (f : α → List β) : ∀ l : List α, ((l.filter p).flatMap f).length ≤ (l.flatMap f).length
  | [] => Nat.le_refl _
  | x :: r => by
    have := filter_flat_le p f r
    by_cases h : p x = true
    · rw [List.filter_cons_of_pos h]; simp at this ⊢; omega
    · rw [List.filter_cons_of_neg h]; simp at this ⊢; omega
theorem cntP_le (ns : List NR) (r : NR) : (cntP ns r).length ≤ (hereP r.nd).length := by
  have h := filter_flat_le (pendC ns r.i) (fun l : Let => l.par.ps) r.nd.out
  have e : (r.nd.out.map (·.par)).flatMap (·.ps) = r.nd.out.flatMap fun l : Let => l.par.ps := by rw [List.flatMap_map]
  unfold cntP hereP
  rw [List.flatMap_append, e, List.length_append, List.length_append]
  omega
section
variable {P : Program} {w : World} {K : PySem.W.Frag} {mg : Str → Option Value} {base : Heap} {CE CN : Addr} {D : Kd} {T : Nat → Thing} {k : Nat}
theorem pt_dp {H : Hp} : ∀ l : List Nat, DpAll K H (ptV l) (l.map fun i => PyData.str (pNm i))
  | [] => .nil
  | x :: r => .cons (.str _) (pt_dp r)
theorem pt_eqv (l : List Nat) : PyData.eqv (.list (l.map fun i => PyData.str (pNm i))) (.list []) = l.isEmpty := by
  cases l <;> rfl
theorem pNm_ok4 : ∀ i : Fin 4, PyData.strOk (pNm i.val) = true := by decide +kernel
theorem pt_lay : ∀ l : List Nat, (∀ i ∈ l, i < 4) → PyData.canLayAll0 (l.map fun i => PyData.str (pNm i)) = true ∧ PyData.depthAll (l.map fun i => PyData.str (pNm i)) ≤ 1
  | [], _ => by simp [PyData.canLayAll0, PyData.depthAll]
  | x :: r, h => by
    obtain ⟨h1, h2⟩ := pt_lay r fun i hi => h i (List.mem_cons_of_mem _ hi)
    have h3 := pNm_ok4 ⟨x, h x List.mem_cons_self⟩
    simp only at h3
    refine ⟨by simp only [List.map_cons, PyData.canLayAll0, PyData.canLay0, h3, h1]; rfl, ?_⟩
    simp only [List.map_cons, PyData.depthAll, PyData.depth]
    omega
theorem pt_shaped (l : List Nat) (h : ∀ i ∈ l, i < 4) : SeqAt.shaped (.list (l.map fun i => PyData.str (pNm i))) = true := by
  obtain ⟨h1, h2⟩ := pt_lay l h
  have e1 : PyData.canLay0 (.list (l.map fun i => PyData.str (pNm i))) = true := by simp only [PyData.canLay0, h1]
  have e2 : (PyData.list (l.map fun i => PyData.str (pNm i))).depth ≤ 64 := by
    simp only [PyData.depth]
    omega
  unfold SeqAt.shaped
  rw [e1, decide_eq_true e2]
  rfl
/-- what is still to change stands after the call -/
theorem Ext.then {ms : List Addr} {G H G' H' H2 : Hp} (x : Ext ms G H G' H') (s : Same H' H2) : Ext ms G H G' H2 :=
  ⟨x.gg, x.gh.trans s, x.fr, fun b o e hb => s _ _ (x.kp b o e hb), fun b e => x.dm b (s.free e)⟩
def spTak (CN : Addr) (D : Kd) (T : Nat → Thing) (k : Nat) : Sp := fun vs H Q _ => ∃ (G : Hp) (a la ka l0 : Addr) (nd : Nd) (l : Let), vs = [.ref a, .ref l0] ∧ Same G H ∧ NdAt CN D T k G H a la ka l.rcv nd ∧ LeIs D T k G l0 l ∧
  (nd.out.map (·.num)).Nodup ∧ (nd.out.length ≤ 1000 ∧ nd.pars.length ≤ 1000 ∧ (hereP nd).length ≤ 1000 ∧ nd.known.length ≤ 900) ∧ (∀ x ∈ hereP nd, x < 4) ∧ l.par.ps.length ≤ 1000 ∧
    ∀ G' H', Ext [a, ka] G H G' H' → NdAt CN D T k G' H' a la ka l.rcv (takenNd l nd) → Q .non H'
abbrev N80 : List Str := ["_law_receiver", "_law_letter", "_law_here", "_law_number", "_law_row", "_law_part"]
theorem sc80 : FnScope N80 ["_law_receiver", "_law_letter"] (defScope (top 80)) := ⟨rfl, rfl, rfl, by decide +kernel, rfl, by decide +kernel, by decide +kernel⟩
theorem ok_taken2 (B : Bn mg) (O : NCl K CN) (d : Df K mg "_law_taken" (top 80) ["_law_receiver", "_law_letter"]) (cC : Cl P w K mg base "counted" ["nodes"] 3 (spCount CN D T k K)) (cO : Mt P w K mg base CN "out" ["self"] 1 (spOut CN D T k))
    (cA : Mt P w K mg base CN "again" ["self", "number"] 1 (spAgain CN D T k)) (cK : Mt P w K mg base CN "take" ["self", "letter"] 2 (spTake CN D T k)) :
    Cl P w K mg base "_law_taken" ["_law_receiver", "_law_letter"] 4 (spTak CN D T k) := by
  refine d.ok sc80 (fun vs H Q E h => ?_) (fun f cdv A outer s0 H vs Q E hr h => ?_)
  · obtain ⟨G, a, la, ka, l0, nd, l, rfl, _⟩ := h
    rfl
  · obtain ⟨G, a, la, ka, l0', nd, l, rfl, hG, hN, hL, hnn, ⟨lo, lp, lh, lkn⟩, h4, hlp, q⟩ := h
    have nd0 := sc80.nd
    have hu := hr.units
    refine ⟨_, pss_cons (ps_set (i := 2) nd0 rfl (.inr rfl) (pe_lc (own := [("_law_row", 4)]) (g := gName 4) (by rfl) nd0 (pi_list (pe_c cC hr (pa_cons (pe_lst (pa_cons (pv 0) pa_nil)) pa_nil)))
          (blkOk_by (own := [("_law_row", 4)]) (N := N80) (sc := defScope (top 80)) (by decide +kernel)) (fun _ _ _ _ _ => pg_name (i := 4) nd0 rfl (Or.inl rfl))
          (fun _ _ _ _ _ => pts_nil) (fun _ _ _ _ _ => pe_ix (kx_tup K) (pv 4) pe_int (fun _ _ => rfl))))
      (pss_cons (ps_for PassesOwn.never rfl (pi_list (pe_m0 cO O.cl hr (pv 0))) (pg_name (i := 3) nd0 rfl (.inl rfl))
        (pss_one (ps_set (i := 2) nd0 rfl (.inr rfl) (pe_op op_cat (pv 2) (pe_callTy call_list_of (by rfl) B.list (by decide +kernel) (pa_cons (pe_ix ix_tup (pe_ix ix_tup (pe_m cA O.cl hr (pv 0) (pa_cons (pv 3) pa_nil)) pe_int (fun _ _ => rfl)) pe_int (fun _ _ => rfl)) pa_nil))))))
      (pss_one (ps_if (pt_cmpR (ko_eqD K hu) (pe_lc (own := [("_law_part", 5)]) (g := gName 5) (by rfl) nd0 (pi_tup (pe_ix ix_tup (pe_ix ix_tup (pv 1) pe_int (fun _ _ => rfl)) pe_int (fun _ _ => rfl)))
          (blkOk_by (own := [("_law_part", 5)]) (N := N80) (sc := defScope (top 80)) (by decide +kernel)) (fun _ _ _ _ _ => pg_name (i := 5) nd0 rfl (Or.inl rfl))
          (fun _ _ _ _ _ => pts_one (pt_cmpR (ko_in K) (pv 5) (pv 2) (by with_unfolding_all rfl))) (fun _ _ _ _ _ => pv 5)) (pe_lst pa_nil) (nomark _))
        (pss_cons (ps_expr (pe_m cK O.cl hr (pv 0) (pa_cons (pv 1) pa_nil))) (pss_one (ps_expr (pe_m cK O.cl hr (pv 0) (pa_cons (pv 1) pa_nil))))) pss_nil))), ?_⟩
    obtain ⟨dx, Pl, as, a1, a2, a3⟩ := hN.ins
    let r : NR := ⟨a, la, ka, l.rcv, nd⟩
    have hcl := cntP_le [r] r
    have hcl' : (cntP [r] r).length ≤ 1000 := Nat.le_trans hcl lh
    refine ⟨_, rfl, (by show 1 ≤ sizeLine; decide), fun rl hrl => ?_⟩
    have s1 := Same.new (.lst [V.ref a]) hrl
    have r1 : upd H rl (.lst [V.ref a]) rl = some _ := upd_same
    have N1 := hN.keep (ms := []) (Ext.same hG s1) (by simp) (by simp) (by simp)
    refine ⟨G, rl, [r], rfl, hG.trans s1, SqL.of r1, fun s hs => ?_, by simp, by simp, fun s hs => ?_, by simpa using hcl', fun H1 cl cs s2 c1 hC => ?_⟩
    · rw [List.mem_singleton] at hs; subst hs; exact N1
    · rw [List.mem_singleton] at hs; subst hs; exact ⟨hnn, lo⟩
    have hGH1 : Same G H1 := (hG.trans s1).trans s2
    have s12 := s1.trans s2
    generalize hL0 : so ([r].flatMap (cntP [r])) = L0 at *
    have m0 : ∀ x, x ∈ L0 ↔ x ∈ cntP [r] r := fun x => by rw [← hL0, so_mem_iff]; simp
    have l0 : L0.length ≤ 1000 := by
      have := (so_perm ([r].flatMap (cntP [r]))).length_eq
      rw [hL0] at this
      simp at this
      omega
    refine ⟨cl, rfl, ⟨_, SqL.of c1⟩, fun D1 hD1 => walk_list (K := K) (xs := refs cs) (fun j H2 => H2 = upd H1 D1 (.lst (ptV (L0.take j)))) rfl ?_ ?_ ?_⟩
    · rintro j H2 _ rfl
      exact SqL.of (Same.new _ hD1 _ _ c1)
    · rintro j y H2 hy rfl
      rw [List.getElem?_map] at hy
      obtain ⟨ca, hca, rfl⟩ := Option.map_eq_some_iff.mp hy
      obtain ⟨x, hx, hx4, s, t, hct⟩ := paired_get hC hca
      refine ⟨rfl, yes_ok ?_⟩
      refine ⟨_, rfl, ca, _, _, _, rfl, rfl, SqT.of (Same.new _ hD1 _ _ hct), atI_nat (j := 0) rfl, _, upd_same, small1000 (by simp [ptV]; have := (List.getElem?_eq_some_iff.mp hx).1; omega), ?_⟩
      rw [upd_upd, List.take_add_one, hx]
      simp [ptV]
    rintro H2 rfl
    have e1 : L0.take (refs cs).length = L0 := by rw [List.take_of_length_le]; simp [hC.length]
    rw [e1]
    have s3 := s12.trans (Same.new (.lst (ptV L0)) hD1)
    have d3 : upd H1 D1 (.lst (ptV L0)) D1 = some _ := upd_same
    generalize upd H1 D1 (.lst (ptV L0)) = H3 at *
    have N3 := hN.keep (ms := []) (Ext.same hG s3) (by simp) (by simp) (by simp)
    refine ⟨_, rfl, a, dx, _, rfl, s3 _ _ a1, zlook_none (ns := ndN) (by decide) _, G, a, la, ka, l.rcv, nd, rfl, hG.trans s3, N3, lo, fun ol hol => ?_⟩
    have s4 := s3.trans (Same.new (.lst (natV (so (nd.out.map (·.num))))) hol)
    have o4 : upd H3 ol (.lst (natV (so (nd.out.map (·.num))))) ol = some _ := upd_same
    have d4 := Same.new (.lst (natV (so (nd.out.map (·.num))))) hol _ _ d3
    generalize upd H3 ol (.lst (natV (so (nd.out.map (·.num))))) = H4 at *
    have lso : (so (nd.out.map (·.num))).length ≤ 1000 := by
      have := (so_perm (nd.out.map (·.num))).length_eq
      simp at this; omega
    refine ⟨ol, rfl, ⟨_, SqL.of o4⟩, for_list (K := K) (xs := natV (so (nd.out.map (·.num)))) (fun j σ' H5 => ∃ h3 v3 L, σ' = [some (.ref a), some (.ref l0'), some (.ref h3), v3, none, none] ∧ Same H4 H5 ∧ H5 h3 = some (.lst (ptV L)) ∧ L.length ≤ 1000 + 1000 * j ∧
      (∀ x ∈ L, x ∈ hereP nd) ∧ (∀ x ∈ L0, x ∈ L) ∧ (∀ e ∈ nd.out, e.num ∈ (so (nd.out.map (·.num))).take j → ∀ x ∈ e.par.ps, x ∈ L)) ⟨D1, none, L0, rfl, Same.refl _, d4, by omega, fun x hx => ?_, fun x hx => hx, fun e _ h => by simp at h⟩ ?_ ?_ ?_⟩
    · have := (m0 x).mp hx
      rw [hereP_mem]
      unfold cntP at this
      simp only [List.mem_append, List.mem_flatMap, List.mem_filter] at this
      rcases this with ⟨p, h1, h2⟩ | ⟨e, ⟨h1, _⟩, h2⟩
      · exact .inl ⟨p, h1, h2⟩
      · exact .inr ⟨e, h1, h2⟩
    · rintro j σ' H5 _ ⟨_, _, _, _, s5, _⟩
      exact SqL.of (s5 _ _ o4)
    · rintro j y σ' H5 hy ⟨h3, v3, L, rfl, s5, d5, l5, m1, m2, m3⟩
      rw [natV, List.getElem?_map] at hy
      obtain ⟨n, hn, rfl⟩ := Option.map_eq_some_iff.mp hy
      have hj := (List.getElem?_eq_some_iff.mp hn).1
      have hnm : n ∈ nd.out.map (·.num) := so_mem_iff.mp (List.mem_of_getElem? hn)
      obtain ⟨e, he, rfl⟩ := List.mem_map.mp hnm
      have s45 := s4.trans s5
      have N5 := hN.keep (ms := []) (Ext.same hG s45) (by simp) (by simp) (by simp)
      have hGH5 := hG.trans s45
      refine ⟨_, rfl, _, rfl, a, dx, _, rfl, s45 _ _ a1, zlook_none (ns := ndN) (by decide) _, _, rfl, G, a, la, ka, l.rcv, nd, e, rfl, hGH5, N5, hnn, he, fun r' hr' => ?_⟩
      obtain ⟨pa, l1, ⟨t, s, p1, p2, p3, p4⟩, l3, l4⟩ := hr'
      refine ⟨r', _, _, _, rfl, rfl, SqT.of (hGH5 _ _ l1), atI_nat (j := 3) rfl, pa, _, _, _, rfl, rfl, SqT.of (hGH5 _ _ p1), atI_nat (j := 0) rfl, t, _, rfl, .inr (SqT.of (hGH5 _ _ p2)), fun tl htl => ?_⟩
      have s6 := s5.trans (Same.new (.lst (ptV e.par.ps)) htl)
      have t6 : upd H5 tl (.lst (ptV e.par.ps)) tl = some _ := upd_same
      have d6 := Same.new (.lst (ptV e.par.ps)) htl _ _ d5
      generalize upd H5 tl (.lst (ptV e.par.ps)) = H6 at *
      have lep : e.par.ps.length ≤ 1000 := by
        obtain ⟨i, hi⟩ := List.mem_iff_getElem?.mp he
        have h1 := flatMap_le (f := fun p : Let => p.par.ps) hi
        have e2 : (hereP nd).length = (nd.pars.flatMap (·.ps)).length + (nd.out.flatMap fun p : Let => p.par.ps).length := by
          unfold hereP
          rw [List.flatMap_append, List.flatMap_map, List.length_append]
        omega
      refine ⟨h3, tl, _, _, rfl, rfl, d6, t6, ?_, fun h7 hh7 => ?_⟩
      · have : (1000 + 1000 * 1000 + 1000) ≤ sizeLine := by decide
        simp [ptV]
        have : j < 1000 := by omega
        omega
      refine ⟨h7, _, L ++ e.par.ps, rfl, s6.trans (Same.new _ hh7), by rw [upd_same]; simp [ptV], by simp; omega, ?_, ?_, ?_⟩
      · intro x hx
        rcases List.mem_append.mp hx with h | h
        · exact m1 x h
        · exact hereP_mem.mpr (.inr ⟨e, he, h⟩)
      · exact fun x hx => List.mem_append_left _ (m2 x hx)
      · intro e' he' h x hx
        rw [List.take_add_one, hn] at h
        rcases List.mem_append.mp h with h | h
        · exact List.mem_append_left _ (m3 e' he' h x hx)
        · have h' : e'.num = e.num := by simpa using h
          have : e' = e := by
            obtain ⟨i1, g1⟩ := List.mem_iff_getElem?.mp he'
            obtain ⟨i2, g2⟩ := List.mem_iff_getElem?.mp he
            have k1 : (nd.out.map (·.num))[i1]? = some e.num := by rw [List.getElem?_map, g1]; simp [h']
            have k2 : (nd.out.map (·.num))[i2]? = some e.num := by rw [List.getElem?_map, g2]; rfl
            have hi1 := (List.getElem?_eq_some_iff.mp k1).1
            have := (List.getElem?_inj hi1 hnn).mp (k1.trans k2.symm)
            subst this
            rw [g1] at g2
            exact Option.some.inj g2
          subst this
          exact List.mem_append_right _ hx
    · rintro σ' H5 ⟨h3, v3, L, rfl, s5, d5, l5, m1, m2, m3⟩
      have s45 := s4.trans s5
      have hGH5 := hG.trans s45
      have hL' := hL
      obtain ⟨pa, l1, hpa, l3, l4⟩ := hL
      obtain ⟨tp, sp, p1, p2, p3, p4⟩ := hpa
      have hm : ∀ x, x ∈ L ↔ x ∈ hereP nd := fun x => ⟨m1 x, fun hx => by
        rcases hereP_mem.mp hx with ⟨p, h1, h2⟩ | ⟨e, h1, h2⟩
        · refine m2 x ((m0 x).mpr ?_)
          unfold cntP
          exact List.mem_append_left _ (List.mem_flatMap.mpr ⟨p, h1, h2⟩)
        · refine m3 e h1 ?_ x h2
          rw [List.take_of_length_le (by simp [natV])]
          exact so_mem_iff.mpr (List.mem_map_of_mem h1)⟩
      refine ⟨_, rfl, l0', _, _, _, rfl, rfl, SqT.of (hGH5 _ _ l1), atI_nat (j := 3) rfl, pa, _, _, _, rfl, rfl, SqT.of (hGH5 _ _ p1), atI_nat (j := 0) rfl, tp, rfl, ⟨_, SqT.of (hGH5 _ _ p2)⟩, fun D6 hD6 => walk_tup (K := K) (xs := ptV l.par.ps) (fun j H6 => H6 = upd H5 D6 (.lst (ptV ((l.par.ps.take j).filter fun x => decide (x ∈ hereP nd))))) rfl ?_ ?_ ?_⟩
      · rintro j H6 _ rfl
        exact SqT.of (Same.new _ hD6 _ _ (hGH5 _ _ p2))
      · rintro j y H6 hy rfl
        rw [ptV, List.getElem?_map] at hy
        obtain ⟨x, hx, rfl⟩ := Option.map_eq_some_iff.mp hy
        have hxm := List.mem_of_getElem? hx
        refine ⟨rfl, _, rfl, _, rfl, h3, _, rfl, .inl (SqL.of (Same.new _ hD6 _ _ d5)), rfl, flat_pt _, _, rfl, ?_⟩
        have hin : inV (V.str (pNm x)) (ptV L) = decide (x ∈ hereP nd) := by
          rw [inV_pt (p4 x hxm) (fun j hj => h4 j (m1 j hj))]
          exact decide_eq_decide.mpr (hm x)
        show if inV (V.str (pNm x)) (ptV L) = true then _ else _
        rw [hin]
        refine ite2 (fun hd => ?_) fun hd => ?_
        · have hd' := of_decide_eq_true hd
          have lpp : (l.par.ps.take j).length < 1000000 := by
            have := (List.getElem?_eq_some_iff.mp hx).1
            have := hlp
            simp; omega
          refine ⟨_, rfl, _, upd_same, ?_, ?_⟩
          · have h1 := List.length_filter_le (fun x => decide (x ∈ hereP nd)) (l.par.ps.take j)
            have : (1000000 : Nat) ≤ sizeLine := by decide
            simp only [ptV, List.length_map]
            omega
          · rw [upd_upd, List.take_add_one, hx, List.filter_append]
            simp [ptV, hd']
        · have hd' : x ∉ hereP nd := fun z => hd (decide_eq_true z)
          show _ = _
          rw [List.take_add_one, hx, List.filter_append]
          simp [hd']
      rintro H6 rfl
      have e2 : l.par.ps.take (ptV l.par.ps).length = l.par.ps := by rw [List.take_of_length_le]; simp [ptV]
      rw [e2]
      generalize hF : (l.par.ps.filter fun x => decide (x ∈ hereP nd)) = F at *
      have s6 := s45.trans (Same.new (.lst (ptV F)) hD6)
      have d6 : upd H5 D6 (.lst (ptV F)) D6 = some _ := upd_same
      generalize upd H5 D6 (.lst (ptV F)) = H6 at *
      refine ⟨(by show 0 ≤ sizeLine; decide), fun el hel => ?_⟩
      have s7 := s6.trans (Same.new (.lst []) hel)
      have d7 := Same.new (.lst []) hel _ _ d6
      have e7 : upd H6 el (.lst []) el = some _ := upd_same
      generalize upd H6 el (.lst []) = H7 at *
      have hF4 : ∀ i ∈ F, i < 4 := fun i hi => by
        rw [← hF] at hi
        exact p4 i (List.mem_filter.mp hi).1
      have N7 := hN.keep (ms := []) (Ext.same hG s7) (by simp) (by simp) (by simp)
      have X7 : Ext [a, ka] G H G H7 := Ext.same hG s7
      refine ⟨_, _, .lst (SqL.of d7) (pt_dp F), .lst (SqL.of e7) .nil, pt_shaped F hF4, rfl, _, rfl, ?_⟩
      rw [pt_eqv]
      have hFm : F.isEmpty = !meets l nd := by
        rw [← hF, Bool.eq_iff_iff]
        simp [meets, List.filter_eq_nil_iff]
      refine ite2 (fun hd => ?_) fun hd => ?_
      · rw [hFm] at hd
        have hmt : meets l nd = false := by simpa using hd
        have hdis := meets_false.mp hmt
        refine ⟨_, rfl, a, dx, _, rfl, s7 _ _ a1, zlook_none (ns := ndN) (by decide) _, _, rfl, G, a, la, ka, l0', nd, l, rfl, hG.trans s7, N7, hL', fun hk H8 s8 => ?_, fun hk => ⟨hnn, ⟨lo, lp, lh, lkn⟩, h4, hdis, fun G8 H8 X8 N8 => ?_⟩⟩
        · have s78 := s7.trans s8
          have N8 := hN.keep (ms := []) (Ext.same hG s78) (by simp) (by simp) (by simp)
          refine ⟨_, rfl, a, dx, _, rfl, s78 _ _ a1, zlook_none (ns := ndN) (by decide) _, _, rfl, G, a, la, ka, l0', nd, l, rfl, hG.trans s78, N8, hL', fun hk H9 s9 => ?_, fun hk' => absurd hk hk'⟩
          refine q G H9 (Ext.same hG (s78.trans s9)) ?_
          unfold takenNd
          rw [decide_eq_true hk]
          exact hN.keep (ms := []) (Ext.same hG (s78.trans s9)) (by simp) (by simp) (by simp)
        · obtain ⟨dx8, Pl8, as8, b1, _⟩ := N8.ins
          have hL8 := hL'.mono X8.gg
          refine ⟨_, rfl, a, dx8, _, rfl, b1, zlook_none (ns := ndN) (by decide) _, _, rfl, G8, a, la, ka, l0', _, l, rfl, X8.gh, N8, hL8, fun hk9 H9 s9 => ?_, fun hk' => absurd (by simp [tookNd]) hk'⟩
          refine q G8 H9 ?_ ?_
          · exact ((Ext.same hG s7).trans X8 fun b hb => .inl hb).then s9
          · unfold takenNd
            rw [decide_eq_false hk, hmt]
            exact N8.keep (ms := []) (Ext.same X8.gh s9) (by simp) (by simp) (by simp)
      · rw [hFm] at hd
        have hmt : meets l nd = true := by simpa using hd
        refine q G H7 X7 ?_
        unfold takenNd
        rw [hmt, Bool.or_true]
        exact N7
end
end Sam
end
section
set_option Elab.async false
set_option linter.all false
set_option maxRecDepth 100000
set_option maxHeartbeats 1000000
namespace Sam
open PySem PySem.Spec PyProof.Rows L2
open C8 (pss_cut tCut call_isC InsC)
/-! ### one node of the net is changed -/
def St.set (σ : St) (i : Nat) (nd : Nd) : St := ⟨fun j => if j = i then nd else σ.nd j, σ.ls⟩
theorem St.set_same (σ : St) (i : Nat) (nd : Nd) : (σ.set i nd).nd i = nd := if_pos rfl
theorem St.set_ne (σ : St) {i j : Nat} (nd : Nd) (h : j ≠ i) : (σ.set i nd).nd j = σ.nd j := if_neg h
section
variable {CE CN : Addr} {D : Kd} {T : Nat → Thing} {k : Nat} {K : PySem.W.Frag}
theorem NdAt.kinds {G H : Hp} {a la ka : Addr} {i : Nat} {nd : Nd} (hN : NdAt CN D T k G H a la ka i nd) : (∃ C dx fs, H a = some (.ins C dx fs)) ∧ (∃ kvs, H la = some (.dK kvs)) ∧ ∃ kvt, H ka = some (.dT kvt) := by
  obtain ⟨dx, Pl, as, a1, a2, a3⟩ := hN.ins
  obtain ⟨kvs, b1, b2⟩ := hN.lets
  obtain ⟨kvt, c1, c2, c3⟩ := hN.knw
  exact ⟨⟨_, _, _, a1⟩, ⟨_, b1⟩, ⟨_, c1⟩⟩
theorem StAt.step {G H G' H' : Hp} {W : Wd} {la : Nat → Addr} {σ : St} {i : Nat} {la' : Addr} {nd' : Nd} {ms ns : List Addr} (S : StAt CN D T k G H W la σ) (hi : i < 3) (E : Ext ms G H G' H')
    (hms : ∀ b ∈ ms, b = W.a i ∨ b = la i ∨ b = W.ka i ∨ b ∈ ns) (hns : ∀ j, j < 3 → W.a j ∉ ns ∧ la j ∉ ns ∧ W.ka j ∉ ns) (h1 : W.nds ∉ ns) (h2 : W.lls ∉ ns)
    (hl : la' = la i ∨ H la' = none) (hN : NdAt CN D T k G' H' (W.a i) la' (W.ka i) i nd') :
    StAt CN D T k G' H' W (fun j => if j = i then la' else la j) (σ.set i nd') := by
  have Ni := S.n i hi
  obtain ⟨⟨C, dx, fs, a1⟩, ⟨kvs, b1⟩, ⟨kvt, c1⟩⟩ := Ni.kinds
  obtain ⟨as, l1, l2⟩ := S.ls
  have nl : ∀ b o, H b = some o → b ≠ la i → b ≠ la' := fun b o e hne => by
    rcases hl with rfl | h
    · exact hne
    · exact ne_of_none e h
  have hnds : W.nds ∉ ms := fun z => by
    rcases hms _ z with h | h | h | h
    · exact ne_of S.nds a1 (by intro z; cases z) h
    · exact S.dn i hi h
    · exact ne_of S.nds c1 (by intro z; cases z) h
    · exact h1 h
  have hlls : W.lls ∉ ms := fun z => by
    rcases hms _ z with h | h | h | h
    · exact ne_of l1 a1 (by intro z; cases z) h
    · exact ne_of l1 b1 (by intro z; cases z) h
    · exact ne_of l1 c1 (by intro z; cases z) h
    · exact h2 h
  have laj : ∀ j, j < 3 → j ≠ i → la j ≠ la' := fun j hj hji => by
    obtain ⟨_, ⟨kvs', b1'⟩, _⟩ := (S.n j hj).kinds
    exact nl _ _ b1' (S.da j i hj hi hji).2.1
  refine ⟨E.kp _ _ S.nds hnds, fun j hj => ?_, ⟨as, E.kp _ _ l1 hlls, l2.mono E.gg⟩, E.out S.gn S.nds, E.out S.gl l1, fun j m hj hm hjm => ?_, fun j hj => ?_⟩
  · by_cases e : j = i
    · subst e
      rw [St.set_same, if_pos rfl]
      exact hN
    · rw [St.set_ne _ _ e, if_neg e]
      have Nj := S.n j hj
      obtain ⟨⟨C', dx', fs', a1'⟩, ⟨kvs', b1'⟩, ⟨kvt', c1'⟩⟩ := Nj.kinds
      obtain ⟨d1, d2, d3⟩ := S.da j i hj hi e
      obtain ⟨m1, m2, m3⟩ := hns j hj
      refine Nj.keep E (fun z => ?_) (fun z => ?_) (fun z => ?_)
      · rcases hms _ z with h | h | h | h
        · exact d1 h
        · exact ne_of a1' b1 (by intro z; cases z) h
        · exact ne_of a1' c1 (by intro z; cases z) h
        · exact m1 h
      · rcases hms _ z with h | h | h | h
        · exact ne_of b1' a1 (by intro z; cases z) h
        · exact d2 h
        · exact ne_of b1' c1 (by intro z; cases z) h
        · exact m2 h
      · rcases hms _ z with h | h | h | h
        · exact ne_of c1' a1 (by intro z; cases z) h
        · exact ne_of c1' b1 (by intro z; cases z) h
        · exact d3 h
        · exact m3 h
  · obtain ⟨d1, d2, d3⟩ := S.da j m hj hm hjm
    refine ⟨d1, ?_, d3⟩
    by_cases e : j = i
    · subst e
      rw [if_pos rfl, if_neg (Ne.symm hjm)]
      exact (laj m hm (Ne.symm hjm)).symm
    · rw [if_neg e]
      by_cases e' : m = i
      · subst e'
        rw [if_pos rfl]
        exact laj j hj e
      · rw [if_neg e']
        exact d2
  · by_cases e : j = i
    · subst e
      rw [if_pos rfl]
      exact nl _ _ S.nds (S.dn _ hj)
    · rw [if_neg e]
      exact S.dn j hj
end
/-! ### what holds of the net on its way -/
structure GoodN (T : Nat → Thing) (kd : Bool) (k : Nat) (c : Nat) (nd : Nd) : Prop where
  par : ∀ p ∈ nd.pars, ParOk T kd k p
  out : ∀ l ∈ nd.out, ParOk T kd k l.par
  hnd : (hereP nd).Nodup
  num : (nd.out.map (·.num)).Nodup
  le : ∀ l ∈ nd.out, l.num ≤ nd.sent
  kn : nd.known.length ≤ c
theorem len_le_flat {α β : Type} (f : α → List β) : ∀ {l : List α}, (∀ x ∈ l, f x ≠ []) → l.length ≤ (l.flatMap f).length
  | [], _ => Nat.le_refl _
  | x :: r, h => by
    have h1 := len_le_flat f (l := r) fun y hy => h y (List.mem_cons_of_mem _ hy)
    have h2 := h x List.mem_cons_self
    cases e : f x with
    | nil => exact absurd e h2
    | cons y t => simp [e] at h1 ⊢; omega
section
variable {T : Nat → Thing} {kd : Bool} {k c : Nat} {nd : Nd}
theorem GoodN.lt (g : GoodN T kd k c nd) : ∀ x ∈ hereP nd, x < 4 := fun x hx => by
  rcases hereP_mem.mp hx with ⟨p, h1, h2⟩ | ⟨l, h1, h2⟩
  · exact (g.par p h1).lt x h2
  · exact (g.out l h1).lt x h2
theorem GoodN.here (g : GoodN T kd k c nd) : (hereP nd).length ≤ 4 := nodup_lt 4 g.hnd g.lt
theorem GoodN.len (g : GoodN T kd k c nd) : nd.pars.length + nd.out.length ≤ 4 := by
  have h1 := len_le_flat (fun p : Par => p.ps) (l := nd.pars ++ nd.out.map (·.par)) (fun p hp => by
    rcases List.mem_append.mp hp with h | h
    · exact (g.par p h).ne
    · obtain ⟨l, hl, rfl⟩ := List.mem_map.mp h
      exact (g.out l hl).ne)
  have h2 := g.here
  unfold hereP at h2
  simp only [List.length_append, List.length_map] at h1
  omega
theorem GoodN.mono {c' : Nat} (g : GoodN T kd k c nd) (h : c ≤ c') : GoodN T kd k c' nd := ⟨g.par, g.out, g.hnd, g.num, g.le, Nat.le_trans g.kn h⟩
end
/-- the letter is not yet known where it goes -/
def pend (σ : St) (l : Let) : Bool := !decide ((l.snd, l.num) ∈ (σ.nd l.rcv).known)
def liveN (σ : St) (i : Nat) : List Par := (σ.nd i).pars ++ ((σ.nd i).out.filter (pend σ)).map (·.par)
def live (σ : St) : List Par := (List.range 3).flatMap (liveN σ)
structure Good (T : Nat → Thing) (kd : Bool) (k n : Nat) (c : Nat) (σ : St) : Prop where
  g1 : ∀ i, i < 3 → GoodN T kd k c (σ.nd i)
  g2 : ∀ i, i < 3 → ∀ l ∈ (σ.nd i).out, l.snd = i ∧ l ∈ σ.ls
  g3 : ∀ l ∈ σ.ls, l.snd < 3 ∧ l.rcv < 3 ∧ l.snd ≠ l.rcv ∧ l.num ≤ (σ.nd l.snd).sent ∧ (pend σ l = true → l ∈ (σ.nd l.snd).out) ∧ ParOk T kd k l.par
  g4 : (σ.ls.map fun l => (l.snd, l.num)).Nodup
  g5 : ((live σ).flatMap (·.ps)).Perm (List.range n)
  g6 : σ.ls.length ≤ c
  g7 : n ≤ 4
  g8 : ∀ l ∈ σ.ls, l.par.ps.Nodup
  g9 : ∀ i, i < 3 → ∀ q ∈ (σ.nd i).known, q.1 < 3 ∧ q.2 ≤ (σ.nd q.1).sent
theorem Good.mono {T : Nat → Thing} {kd : Bool} {k n c c' : Nat} {σ : St} (g : Good T kd k n c σ) (h : c ≤ c') : Good T kd k n c' σ := ⟨fun i hi => (g.g1 i hi).mono h, g.g2, g.g3, g.g4, g.g5, Nat.le_trans g.g6 h, g.g7, g.g8, g.g9⟩
/-! ### one deed -/
def confNd (n : Nat) (nd : Nd) : Nd := { nd with out := nd.out.filter fun l => decide (l.num ≠ n) }
def deedT (T : Nat → Thing) (kd : Bool) (k num : Nat) (σ : St) : Tr St :=
  let i := num % 3
  let nd := σ.nd i
  let m := nd.pars.length
  if num / 3 % 5 < 2 ∧ 1 < m then
    match nd.pars[num / 15 % m]?, nd.pars[(num / 15 % m + 1) % m]? with
    | some p, some q => (mergedT T kd k p q).bind fun c => .ret (σ.set i (mgNd (num / 15 % m) ((num / 15 % m + 1) % m) nd c))
    | _, _ => .ret σ
  else if num / 3 % 5 < 3 ∧ 0 < m then
    match nd.pars[num / 15 % m]? with
    | some p => .ret ⟨(σ.set i (sentNd i (num / 15 % m) ((num + 1) % 3) p nd)).nd, σ.ls ++ [⟨i, nd.sent + 1, (num + 1) % 3, p⟩]⟩
    | none => .ret σ
  else match σ.ls[num / 15 % σ.ls.length]? with
    | none => .ret σ
    | some l => if (l.snd, l.num) ∈ (σ.nd l.rcv).known then .ret (σ.set l.snd (confNd l.num (σ.nd l.snd))) else .ret (σ.set l.rcv (takenNd l (σ.nd l.rcv)))
end Sam
end
section
set_option Elab.async false
set_option linter.all false
set_option maxRecDepth 100000
set_option maxHeartbeats 1000000
namespace Sam
open PySem PySem.Spec PyProof.Rows L2
open C8 (pss_cut tCut call_isC InsC)
theorem abc_ix3 : ∀ i : Fin 3, ∃ c, ("abc" : Str).cps.toList[i.val]? = some c ∧ (⟨#[c]⟩ : Str) = nN i.val := by
  intro i
  match i with
  | 0 => exact ⟨97, by decide +kernel, by decide +kernel⟩
  | 1 => exact ⟨98, by decide +kernel, by decide +kernel⟩
  | 2 => exact ⟨99, by decide +kernel, by decide +kernel⟩
theorem abc_ix {i : Nat} (h : i < 3) : ∃ c, ("abc" : Str).cps.toList[i]? = some c ∧ (⟨#[c]⟩ : Str) = nN i := abc_ix3 ⟨i, h⟩
theorem z_mod (a m : Nat) : ((a : Int) % (m : Int)) = ((a % m : Nat) : Int) := rfl
theorem z_div (a m : Nat) : ((a : Int) / (m : Int)) = ((a / m : Nat) : Int) := rfl
theorem nodup_two {α β : Type} {f : α → List β} : ∀ {l : List α} {a b : Nat} {p q : α}, (l.flatMap f).Nodup → l[a]? = some p → l[b]? = some q → a ≠ b → (f p ++ f q).Nodup
  | [], _, _, _, _, _, h, _, _ => by simp at h
  | x :: r, 0, 0, _, _, _, _, _, h => absurd rfl h
  | x :: r, 0, b + 1, p, q, hn, ha, hb, _ => by
    simp at ha hb
    subst ha
    rw [List.flatMap_cons] at hn
    obtain ⟨h1, h2, h3⟩ := List.nodup_append.mp hn
    have hq := List.mem_of_getElem? hb
    have hsub : ∀ y ∈ f q, y ∈ r.flatMap f := fun y hy => List.mem_flatMap.mpr ⟨q, hq, hy⟩
    obtain ⟨j, hj⟩ := List.mem_iff_getElem?.mp hq
    have hqn : (f q).Nodup := by
      have : List.Sublist (f q) (r.flatMap f) := by
        obtain ⟨s, t, rfl⟩ := List.append_of_mem hq
        rw [List.flatMap_append, List.flatMap_cons]
        exact (List.sublist_append_left _ _).trans (List.sublist_append_right _ _)
      exact h2.sublist this
    exact List.nodup_append.mpr ⟨h1, hqn, fun y hy z hz => h3 y hy z (hsub z hz)⟩
  | x :: r, a + 1, 0, p, q, hn, ha, hb, _ => by
    simp at ha hb
    subst hb
    rw [List.flatMap_cons] at hn
    obtain ⟨h1, h2, h3⟩ := List.nodup_append.mp hn
    have hq := List.mem_of_getElem? ha
    have hsub : ∀ y ∈ f p, y ∈ r.flatMap f := fun y hy => List.mem_flatMap.mpr ⟨p, hq, hy⟩
    have hqn : (f p).Nodup := by
      have : List.Sublist (f p) (r.flatMap f) := by
        obtain ⟨s, t, rfl⟩ := List.append_of_mem hq
        rw [List.flatMap_append, List.flatMap_cons]
        exact (List.sublist_append_left _ _).trans (List.sublist_append_right _ _)
      exact h2.sublist this
    exact List.nodup_append.mpr ⟨hqn, h1, fun y hy z hz e => h3 z hz y (hsub y hy) e.symm⟩
  | x :: r, a + 1, b + 1, p, q, hn, ha, hb, h => by
    simp at ha hb
    rw [List.flatMap_cons] at hn
    exact nodup_two (List.nodup_append.mp hn).2.1 ha hb (by omega)
section
variable {CE CN : Addr} {D : Kd} {T : Nat → Thing} {k : Nat} {K : PySem.W.Frag}
theorem StAt.lls_ne {G H : Hp} {W : Wd} {la : Nat → Addr} {σ : St} (S : StAt CN D T k G H W la σ) {i : Nat} (hi : i < 3) : W.a i ≠ W.lls ∧ la i ≠ W.lls ∧ W.ka i ≠ W.lls := by
  obtain ⟨⟨C, dx, fs, a1⟩, ⟨kvs, b1⟩, ⟨kvt, c1⟩⟩ := (S.n i hi).kinds
  obtain ⟨as, l1, l2⟩ := S.ls
  exact ⟨ne_of a1 l1 (by intro z; cases z), ne_of b1 l1 (by intro z; cases z), ne_of c1 l1 (by intro z; cases z)⟩
theorem StAt.push {G H : Hp} {W : Wd} {la : Nat → Addr} {σ : St} {as : List Addr} {r : Addr} {l : Let} (hG : Same G H) (S : StAt CN D T k G H W la σ) (h1 : H W.lls = some (.lst (refs as))) (h2 : Les D T k G as σ.ls) (h3 : LeIs D T k G r l) :
    StAt CN D T k G (upd H W.lls (.lst (refs as ++ [.ref r]))) W la ⟨σ.nd, σ.ls ++ [l]⟩ := by
  have X : Ext [W.lls] G H G (upd H W.lls (.lst (refs as ++ [.ref r]))) := (Ext.refl hG).wr (.inl (by simp)) S.gl
  refine ⟨?_, fun i hi => ?_, ⟨as ++ [r], by rw [upd_same]; simp [refs], paired_append h2 (.cons h3 .nil)⟩, S.gn, S.gl, S.da, S.dn⟩
  · rw [upd_ne (ne_of S.nds h1 (by intro z; cases z))]
    exact S.nds
  · obtain ⟨n1, n2, n3⟩ := S.lls_ne hi
    exact (S.n i hi).keep X (by simpa using n1) (by simpa using n2) (by simpa using n3)
end
theorem to_v {Q : VK} {a b : V} {H : Hp} (e : a = b) (h : Q b H) : Q a H := e ▸ h
theorem ite_else {a : Prop} [Decidable a] {Z Y : Prop} (y : Y) (z : a → Y → Z) : if a then Z else Y := by
  split
  · exact z ‹_› y
  · exact y
section
variable {P : Program} {w : World} {K : PySem.W.Frag} {mg : Str → Option Value} {base : Heap} {CE CN : Addr} {D : Kd} {T : Nat → Thing} {kd : Bool} {k : Nat}
structure Apart (W : Wd) (X : DX) : Prop where
  a : W.lls ≠ X.Pa
  b : W.lls ≠ X.R
def spDeed (K : PySem.W.Frag) (CE CN : Addr) (D : Kd) (T : Nat → Thing) (kd : Bool) (k : Nat) : Sp := fun vs H Q _ => ∃ (G : Hp) (W : Wd) (la : Nat → Addr) (σ : St) (X : DX) (x : ES) (num n c : Nat), vs = [.ref W.nds, .ref W.lls, .int (num : Int), .ref X.e] ∧ Same G H ∧ StAt CN D T k G H W la σ ∧ DiAt K CE G H X x ∧
  Apart W X ∧ Good T kd k n c σ ∧ c ≤ 800 ∧ (deedT T kd k num σ).Run x ∧
  ∀ G' H' la', Same G G' → Same G' H' → StAt CN D T k G' H' W la' ((deedT T kd k num σ).exec x).1 → DiAt K CE G' H' X ((deedT T kd k num σ).exec x).2 → Q .non H'
abbrev N79 : List Str := ["_law_nodes", "_law_letters", "_law_number", "_law_dice", "_law_name", "_law_node", "_law_many", "_law_kind", "_law_first", "_law_letter", "_law_receiver"]
theorem sc79 : FnScope N79 ["_law_nodes", "_law_letters", "_law_number", "_law_dice"] (defScope (top 79)) := ⟨rfl, rfl, rfl, by decide +kernel, rfl, by decide +kernel, by decide +kernel⟩
theorem ok_deed (B : Bn mg) (O : NCl K CN) (d : Df K mg "_law_deed" (top 79) ["_law_nodes", "_law_letters", "_law_number", "_law_dice"]) (cH : Mt P w K mg base CN "held" ["self"] 1 (spHeld CN D T k))
    (cM : Mt P w K mg base CN "merge" ["self", "i", "j", "dice"] 6 (spNMerge K CE CN D T kd k)) (cS : Mt P w K mg base CN "send" ["self", "i", "receiver"] 2 (spSend CN D T k))
    (cT : Mt P w K mg base CN "has_taken" ["self", "sender", "number"] 1 (spTaken CN D T k)) (cF : Mt P w K mg base CN "confirm" ["self", "number"] 1 (spConf CN D T k))
    (cK : Cl P w K mg base "_law_taken" ["_law_receiver", "_law_letter"] 4 (spTak CN D T k)) :
    Cl P w K mg base "_law_deed" ["_law_nodes", "_law_letters", "_law_number", "_law_dice"] 7 (spDeed K CE CN D T kd k) := by
  refine d.ok sc79 (fun vs H Q E h => ?_) (fun f cdv A outer s0 H vs Q E hr h => ?_)
  · obtain ⟨G, W, la, σ, X, x, num, n, c, rfl, _⟩ := h
    rfl
  · obtain ⟨G, W, la, σ, X, x, num, n, c, rfl, hG, hS, hE, hA, hg, hc, hrun, q⟩ := h
    have nd0 := sc79.nd
    have hu := hu_of hr
    have hu2 := hr.units
    refine ⟨_, (pss_cons (ps_set (i := 4) nd0 rfl (.inl rfl) (pe_ix ix_str pe_str (pe_op op_mod (pe_callTy call_int1 (by rfl) B.int (by decide +kernel) (pa_cons (pv 2) pa_nil)) pe_int) (fun _ _ => rfl)))
      (pss_cons (ps_set (i := 5) nd0 rfl (.inl rfl) (pe_dget hu (pv 0) (pv 4) (fun _ _ => rfl)))
      (pss_cons (ps_set (i := 6) nd0 rfl (.inl rfl) (pe_callB call_len_seq (by rfl) B.len PySem.boot_len (pa_cons (pe_m0 cH O.cl hr (pv 5)) pa_nil)))
      (pss_cons (ps_set (i := 7) nd0 rfl (.inl rfl) (pe_op op_mod (pe_callTy call_int1 (by rfl) B.int (by decide +kernel) (pa_cons (pe_op op_fdiv (pv 2) pe_int) pa_nil)) pe_int))
      (pss_one (ps_if (PW.pt (pw_and (pt_cmpR op_lt (pv 7) pe_int (nomark _)) (pw_and1 (pt_cmpR op_gt (pv 6) pe_int (nomark _))))) (pss_cons (ps_set (i := 8) nd0 rfl (.inl rfl) (pe_op op_mod (pe_callTy call_int1 (by rfl) B.int (by decide +kernel) (pa_cons (pe_op op_fdiv (pv 2) pe_int) pa_nil)) (pv 6)))
      (pss_one (ps_expr (pe_m cM O.cl hr (pv 5) (pa_cons (pv 8) (pa_cons (pe_op op_mod (pe_callTy call_int1 (by rfl) B.int (by decide +kernel) (pa_cons (pe_op op_add (pv 8) pe_int) pa_nil)) (pv 6)) (pa_cons (pv 3) pa_nil))))))) (pss_one (ps_if (PW.pt (pw_and (pt_cmpR op_lt (pv 7) pe_int (nomark _)) (pw_and1 (pt_cmpR op_gt (pv 6) pe_int (nomark _))))) (pss_one (ps_expr (pe_bm PySem.F.plainAttrs_list PySem.F.slot_list_append PySem.F.type_list_append mt_append (pv 1) (pa_cons (pe_m cS O.cl hr (pv 5) (pa_cons (pe_op op_mod (pe_callTy call_int1 (by rfl) B.int (by decide +kernel) (pa_cons (pe_op op_fdiv (pv 2) pe_int) pa_nil)) (pv 6)) (pa_cons (pe_ix ix_str pe_str (pe_op op_mod (pe_callTy call_int1 (by rfl) B.int (by decide +kernel) (pa_cons (pe_op op_add (pv 2) pe_int) pa_nil)) pe_int) (fun _ _ => rfl)) pa_nil))) pa_nil)))) (pss_one (ps_if (pt_cmpR (op_neNil K hu2) (pv 1) (pe_lst pa_nil) (nomark _)) (pss_cons (ps_set (i := 9) nd0 rfl (.inl rfl) (pe_ix ix_list (pv 1) (pe_op op_mod (pe_callTy call_int1 (by rfl) B.int (by decide +kernel) (pa_cons (pe_op op_fdiv (pv 2) pe_int) pa_nil)) (pe_callB call_len_seq (by rfl) B.len PySem.boot_len (pa_cons (pv 1) pa_nil))) (fun _ _ => rfl)))
      (pss_cons (ps_set (i := 10) nd0 rfl (.inl rfl) (pe_dget hu (pv 0) (pe_ix ix_tup (pv 9) pe_int (fun _ _ => rfl)) (fun _ _ => rfl)))
      (pss_one (ps_if (pt_val (pe_m cT O.cl hr (pv 10) (pa_cons (pe_ix ix_tup (pv 9) pe_int (fun _ _ => rfl)) (pa_cons (pe_ix ix_tup (pv 9) pe_int (fun _ _ => rfl)) pa_nil)))) (pss_one (ps_expr (pe_m cF O.cl hr (pe_dget hu (pv 0) (pe_ix ix_tup (pv 9) pe_int (fun _ _ => rfl)) (fun _ _ => rfl)) (pa_cons (pe_ix ix_tup (pv 9) pe_int (fun _ _ => rfl)) pa_nil)))) (pss_one (ps_expr (pe_c cK hr (pa_cons (pv 10) (pa_cons (pv 9) pa_nil))))))))) pss_nil)))))))))), ?_⟩
    have hi3 : num % 3 < 3 := Nat.mod_lt _ (by decide)
    obtain ⟨ch, hch1, hch2⟩ := abc_ix hi3
    refine ⟨_, rfl, .inl ⟨_, rfl, _, _, rfl, rfl, (by show (0 : Int) < 3; decide), _, _, ch, rfl, rfl, (by decide), atI_nat (j := num % 3) hch1, ?_⟩⟩
    rw [hch2]
    let i := num % 3
    have Ni := hS.n i hi3
    obtain ⟨dx, Pl, as, a1, a2, a3⟩ := Ni.ins
    obtain ⟨lls, l2', l2⟩ := hS.ls
    refine ⟨_, rfl, _, rfl, W.nds, _, rfl, .inl ⟨_, _, .inl hS.nds, rfl, (ndsK_val W hi3).symm⟩, ?_⟩
    refine ⟨_, rfl, W.a i, dx, _, rfl, a1, zlook_none (ns := ndN) (by decide) _, G, _, _, _, i, _, rfl, hG, Ni, fun hd as' hhd hPas => ?_⟩
    have s1 := Same.new (.lst (refs as')) hhd
    have d1 : upd H hd (.lst (refs as')) hd = some _ := upd_same
    generalize upd H hd (.lst (refs as')) = H1 at *
    refine ⟨hd, _, rfl, .inl (SqL.of d1), ?_⟩
    have hlen : ((refs as').length : Int) = ((σ.nd i).pars.length : Int) := by have := hPas.length; simp [this]
    rw [hlen]
    have hG1 := hG.trans s1
    have hS1 := hS.same hG s1
    have hE1 := ExAt.same hE hE (Ext.same (ms := []) hG s1) (Same.refl _) s1
    have X1 : Ext [] G H G H1 := Ext.same hG s1
    have hu3 : deedT T kd k num σ = deedT T kd k num σ := rfl
    unfold deedT at hrun q
    dsimp only at hrun q
    refine ⟨_, rfl, _, _, rfl, rfl, ⟨by decide, by decide⟩, .inl ⟨_, rfl, _, _, rfl, rfl, (by show (0 : Int) < 5; decide), ?_⟩⟩
    have e5 : ((num : Int) / 3 % 5) = ((num / 3 % 5 : Nat) : Int) := by omega
    have e15 : ((num : Int) / 15) = ((num / 15 : Nat) : Int) := by omega
    dsimp only
    rw [e5]
    have Ng := hg.g1 i hi3
    have hml : (σ.nd i).pars.length ≤ 4 := by have := Ng.len; omega
    have hX1 : W.nds ∉ X.ms := by
      obtain ⟨_, z1, _⟩ := hE1.ins
      obtain ⟨_, z2, _⟩ := hE1.path
      simp only [List.mem_cons, List.not_mem_nil, or_false, not_or]
      exact ⟨ne_of hS1.nds z1 (by intro z; cases z), ne_of hS1.nds z2 (by intro z; cases z)⟩
    have hX2 : W.lls ∉ X.ms := by
      obtain ⟨_, z1, _⟩ := hE1.ins
      simp only [List.mem_cons, List.not_mem_nil, or_false, not_or]
      exact ⟨ne_of (s1 _ _ l2') z1 (by intro z; cases z), hA.a⟩
    have hX3 : ∀ j, j < 3 → W.a j ∉ X.ms ∧ la j ∉ X.ms ∧ W.ka j ∉ X.ms := fun j hj => nd_ex_ne (hS1.n j hj) hE1
    have N1 := hS1.n i hi3
    by_cases c1 : num / 3 % 5 < 2 ∧ 1 < (σ.nd i).pars.length
    · have hp0 : 0 < (σ.nd i).pars.length := by omega
      rw [if_pos c1] at hrun q
      have hax : num / 15 % (σ.nd i).pars.length < (σ.nd i).pars.length := Nat.mod_lt _ hp0
      have hbx : (num / 15 % (σ.nd i).pars.length + 1) % (σ.nd i).pars.length < (σ.nd i).pars.length := Nat.mod_lt _ hp0
      have hab : num / 15 % (σ.nd i).pars.length ≠ (num / 15 % (σ.nd i).pars.length + 1) % (σ.nd i).pars.length := by
        have h1 := c1.2
        generalize num / 15 % (σ.nd i).pars.length = a at *
        by_cases e : a + 1 < (σ.nd i).pars.length
        · rw [Nat.mod_eq_of_lt e]; omega
        · have : a + 1 = (σ.nd i).pars.length := by omega
          rw [this, Nat.mod_self]
          omega
      have ea := List.getElem?_eq_getElem hax
      have eb := List.getElem?_eq_getElem hbx
      simp only [i] at ea eb
      simp only [ea, eb] at hrun q
      rw [Tr.Run_bind] at hrun
      rw [Tr.exec_bind] at q
      have pa := Ng.par _ (List.getElem_mem hax)
      have pb := Ng.par _ (List.getElem_mem hbx)
      have hnn := nodup_two (l := (σ.nd i).pars) (f := fun p : Par => p.ps) (by
        have := Ng.hnd
        unfold hereP at this
        rw [List.flatMap_append] at this
        exact (List.nodup_append.mp this).1) ea eb hab
      refine ⟨_, rfl, _, _, rfl, rfl, _, rfl, ite2 (fun _ => ⟨_, rfl, _, _, rfl, rfl, _, rfl, ite2 (fun _ => ?_) fun h => absurd (decide_eq_true (by omega)) h⟩) fun h => absurd (decide_eq_true (by omega)) h⟩
      refine ⟨_, rfl, _, _, rfl, rfl, ⟨by decide, by decide⟩, .inl ⟨_, rfl, _, rfl, _, _, rfl, rfl, (by show (0 : Int) < ((σ.nd i).pars.length : Int); omega), ?_⟩⟩
      dsimp only
      rw [e15, z_mod]
      refine ⟨_, rfl, W.a i, dx, _, rfl, s1 _ _ a1, zlook_none (ns := ndN) (by decide) _, ?_⟩
      refine ⟨_, rfl, _, rfl, _, _, rfl, rfl, .inl ⟨_, rfl, _, rfl, _, _, rfl, rfl, (by show (0 : Int) < ((σ.nd i).pars.length : Int); omega), _, rfl, ?_⟩⟩
      refine ⟨G, W.a i, _, _, i, num / 15 % (σ.nd i).pars.length, (num / 15 % (σ.nd i).pars.length + 1) % (σ.nd i).pars.length, X, _, _, _, x, rfl, hG1, N1, hE1, hab, ⟨ea, eb⟩, ⟨pa.val, pb.val⟩, apart_of (kd := kd) (k := k) (T := T) (fun p hp => ?_) (by simpa using hnn) (by simp), ⟨pa.ne, pb.ne⟩, hrun.1, by omega, fun G' H' XX hE' hN' => ?_⟩
      · rcases List.mem_cons.mp hp with rfl | hp
        · exact pa
        · rw [List.mem_singleton] at hp; subst hp; exact pb
      · exact q G' H' _ XX.gg XX.gh (hS1.step hi3 XX (ns := X.ms) (fun b hb => by
          rcases List.mem_cons.mp hb with h | h
          · exact .inl h
          · exact .inr (.inr (.inr h))) hX3 hX1 hX2 (.inl rfl) hN') hE'
    · refine ⟨_, rfl, _, _, rfl, rfl, _, rfl, ite_else ?_ fun ha y => ⟨_, rfl, _, _, rfl, rfl, _, rfl, ite2 (fun hb => ?_) fun _ => y⟩⟩
      rotate_left
      · exact absurd ⟨by have := of_decide_eq_true ha; omega, by have := of_decide_eq_true hb; omega⟩ c1
      rw [if_neg c1] at hrun q
      by_cases c2 : num / 3 % 5 < 3 ∧ 0 < (σ.nd i).pars.length
      · rw [if_pos c2] at hrun q
        have hax : num / 15 % (σ.nd i).pars.length < (σ.nd i).pars.length := Nat.mod_lt _ c2.2
        have ea := List.getElem?_eq_getElem hax
        simp only [i] at ea
        simp only [ea] at hrun q
        have hrc : (num + 1) % 3 < 3 := Nat.mod_lt _ (by decide)
        obtain ⟨ch', hc1', hc2'⟩ := abc_ix hrc
        refine ⟨_, rfl, _, _, rfl, rfl, _, rfl, ite2 (fun _ => ⟨_, rfl, _, _, rfl, rfl, _, rfl, ite2 (fun _ => ?_) fun h => absurd (decide_eq_true (by omega)) h⟩) fun h => absurd (decide_eq_true (by omega)) h⟩
        refine ⟨_, rfl, .inl ⟨rfl, _, SqL.of (s1 _ _ l2')⟩, ?_⟩
        refine ⟨_, rfl, W.a i, dx, _, rfl, s1 _ _ a1, zlook_none (ns := ndN) (by decide) _, ?_⟩
        refine ⟨_, rfl, _, _, rfl, rfl, ⟨by decide, by decide⟩, .inl ⟨_, rfl, _, rfl, _, _, rfl, rfl, (by show (0 : Int) < ((σ.nd i).pars.length : Int); omega), ?_⟩⟩
        refine ⟨_, rfl, _, _, rfl, rfl, .inl ⟨_, rfl, _, _, rfl, rfl, (by show (0 : Int) < 3; decide), _, _, ch', rfl, rfl, (by decide), atI_nat (j := (num + 1) % 3) hc1', ?_⟩⟩
        rw [hc2']
        refine ⟨G, W.a i, _, _, i, num / 15 % (σ.nd i).pars.length, (num + 1) % 3, _, _, ?_, hG1, N1, ⟨hrc, ?_⟩, ea, Ng.le, ⟨by have := Ng.len; omega, by omega⟩, fun G' H' r XX N' hL => ?_⟩
        · dsimp only [tNil, tC, tCons, List.cons_append, List.nil_append, List.append_nil]
          rw [e15, z_mod]
        · show (num + 1) % 3 ≠ num % 3
          omega
        · have S' := hS1.step hi3 XX (ns := []) (fun b hb => by
            rcases List.mem_cons.mp hb with h | h
            · exact .inl h
            · rw [List.mem_singleton] at h; exact .inr (.inl h)) (by simp) (by simp) (by simp) (.inl rfl) N'
          obtain ⟨ln1, ln2, ln3⟩ := hS1.lls_ne hi3
          have hl' : H' W.lls = some (.lst (refs lls)) := XX.kp _ _ (s1 _ _ l2') (by simp only [List.mem_cons, List.not_mem_nil, or_false, not_or]; exact ⟨Ne.symm ln1, Ne.symm ln2⟩)
          have hlen := l2.length
          refine ⟨W.lls, _, _, rfl, rfl, hl', small1000 (by have := hg.g6; simp; omega), ?_⟩
          have nx := nd_ex_ne (hS1.n i hi3) hE1
          have hE' := ExAt.keep hE1 XX (by
            intro z
            rcases List.mem_cons.mp z with h | h
            · exact nx.1 (h ▸ List.mem_cons_self)
            · rw [List.mem_singleton] at h; exact nx.2.1 (h ▸ List.mem_cons_self)) (by
            intro z
            rcases List.mem_cons.mp z with h | h
            · exact nx.1 (h ▸ by simp)
            · rw [List.mem_singleton] at h; exact nx.2.1 (h ▸ by simp))
          have hgl : G' W.lls = none := S'.gl
          have Xl : Ext [W.lls] G' H' G' (upd H' W.lls (.lst (refs lls ++ [.ref r]))) := (Ext.refl XX.gh).wr (.inl (by simp)) hgl
          refine q G' _ _ XX.gg Xl.gh (S'.push XX.gh hl' (l2.mono XX.gg) hL) (ExAt.keep hE' Xl ?_ ?_)
          · simp only [List.mem_cons, List.not_mem_nil, or_false, not_or] at hX2 ⊢
            exact fun h => hX2.1 h.symm
          · simp only [List.mem_cons, List.not_mem_nil, or_false, not_or] at hX2 ⊢
            exact fun h => hX2.2 h.symm
      · refine ⟨_, rfl, _, _, rfl, rfl, _, rfl, ite_else ?_ fun ha y => ⟨_, rfl, _, _, rfl, rfl, _, rfl, ite2 (fun hb => ?_) fun _ => y⟩⟩
        rotate_left
        · exact absurd ⟨by have := of_decide_eq_true ha; omega, by have := of_decide_eq_true hb; omega⟩ c2
        rw [if_neg c2] at hrun q
        refine ⟨_, rfl, (by show 0 ≤ sizeLine; decide), fun el hel => ?_⟩
        have s2 := s1.trans (Same.new (.lst []) hel)
        have e2 : upd H1 el (.lst []) el = some _ := upd_same
        dsimp only [tNil]
        generalize upd H1 el (.lst []) = H2 at *
        have hG2 := hG.trans s2
        have hS2 := hS.same hG s2
        have hE2 := ExAt.same hE hE (Ext.same (ms := []) hG s2) (Same.refl _) s2
        refine ⟨W.lls, el, _, rfl, rfl, SqL.of (s2 _ _ l2'), SqL.of e2, _, rfl, ite2 (fun hne => ?_) fun hne => ?_⟩
        · have hne' : lls ≠ [] := fun z => by subst z; simp [refs] at hne
          have hll := l2.length
          have hpos : 0 < σ.ls.length := by rw [← hll]; exact List.length_pos_iff.mpr hne'
          have hjx : num / 15 % σ.ls.length < σ.ls.length := Nat.mod_lt _ hpos
          obtain ⟨l, hl⟩ : ∃ l, σ.ls[num / 15 % σ.ls.length]? = some l := ⟨_, List.getElem?_eq_getElem hjx⟩
          have hrl : (refs lls)[num / 15 % σ.ls.length]? = some (.ref (lls[num / 15 % σ.ls.length]'(by omega))) := by
            rw [List.getElem?_map, List.getElem?_eq_getElem (by omega)]
            rfl
          obtain ⟨r, l', hr1, hr2, hL⟩ := l2.get hrl
          rw [hl] at hr2
          cases hr2
          simp only [hl] at hrun q
          rw [hr1] at hrl
          have hlm := List.mem_of_getElem? hl
          obtain ⟨g31, g32, g33, g34, g35, g36⟩ := hg.g3 l hlm
          obtain ⟨pa, t1, t2, t3, t4⟩ := hL
          have tq : SqT K H2 r (leV l pa) := SqT.of (hG2 _ _ t1)
          have hat : atI (refs lls) ((num : Int) / 15 % ((refs lls).length : Int)) = some (.ref r) := by
            have hlz : (refs lls).length = σ.ls.length := by rw [List.length_map, hll]
            rw [e15, hlz, z_mod]
            exact atI_nat hrl
          refine ⟨_, rfl, _, rfl, _, _, rfl, rfl, ⟨by decide, by decide⟩, .inl ⟨_, rfl, _, rfl, W.lls, _, rfl, .inl (SqL.of (s2 _ _ l2')), _, _, rfl, rfl, (by show (0 : Int) < ((refs lls).length : Int); simp; omega), W.lls, _, _, _, rfl, rfl, SqL.of (s2 _ _ l2'), hat, ?_⟩⟩
          refine ⟨_, rfl, _, rfl, r, _, _, _, rfl, rfl, tq, atI_nat (j := 2) rfl, W.nds, _, rfl, .inl ⟨_, _, .inl hS2.nds, rfl, (ndsK_val W g32).symm⟩, ?_⟩
          have Nr := hS2.n _ g32
          have Ns := hS2.n _ g31
          obtain ⟨dxr, Plr, asr, ar1, _⟩ := Nr.ins
          obtain ⟨dxs, Pls, ass, as1, _⟩ := Ns.ins
          refine ⟨_, rfl, W.a l.rcv, dxr, _, rfl, ar1, zlook_none (ns := ndN) (by decide) _, _, rfl, r, _, _, _, rfl, rfl, tq, atI_nat (j := 0) rfl, _, rfl, r, _, _, _, rfl, rfl, tq, atI_nat (j := 1) rfl, G, _, _, _, l.rcv, _, (l.snd, l.num), rfl, hG2, Nr, g31, fun H3 s3 => ⟨_, rfl, ite2 (fun hk => ?_) fun hk => ?_⟩⟩
          · have hk' := of_decide_eq_true hk
            rw [if_pos hk'] at hrun q
            have hS3 := hS2.same hG2 s3
            have hE3 := ExAt.same hE2 hE2 (Ext.same (ms := []) hG2 s3) (Same.refl _) s3
            have tq : SqT K H3 r (leV l pa) := SqT.of ((hG2.trans s3) _ _ t1)
            have Ngs := hg.g1 _ g31
            refine ⟨_, rfl, _, rfl, r, _, _, _, rfl, rfl, tq, atI_nat (j := 0) rfl, W.nds, _, rfl, .inl ⟨_, _, .inl hS3.nds, rfl, (ndsK_val W g31).symm⟩, W.a l.snd, dxs, _, rfl, s3 _ _ as1, zlook_none (ns := ndN) (by decide) _, _, rfl, r, _, _, _, rfl, rfl, tq, atI_nat (j := 1) rfl, G, _, _, _, l.snd, _, l.num, rfl, hG2.trans s3, hS3.n _ g31, Ngs.num, by have := Ngs.len; omega, fun G' H' la' XX hla' N' => ?_⟩
            have nx := nd_ex_ne (hS3.n _ g31) hE3
            refine q G' H' _ XX.gg XX.gh (hS3.step g31 XX (ns := []) (fun b hb => .inl (List.mem_singleton.mp hb)) (by simp) (by simp) (by simp) (.inr hla') N') (ExAt.keep hE3 XX (fun z => ?_) fun z => ?_)
            · rw [List.mem_singleton] at z; exact nx.1 (z ▸ by simp)
            · rw [List.mem_singleton] at z; exact nx.1 (z ▸ by simp)
          · have hk' : (l.snd, l.num) ∉ (σ.nd l.rcv).known := fun z => hk (decide_eq_true z)
            rw [if_neg hk'] at hrun q
            have hS3 := hS2.same hG2 s3
            have hE3 := ExAt.same hE2 hE2 (Ext.same (ms := []) hG2 s3) (Same.refl _) s3
            have Ngr := hg.g1 _ g32
            have hlp : l.par.ps.length ≤ 4 := nodup_lt 4 (hg.g8 l hlm) g36.lt
            refine ⟨_, rfl, _, rfl, G, W.a l.rcv, _, _, r, _, l, rfl, hG2.trans s3, hS3.n _ g32, ⟨pa, t1, t2, t3, t4⟩, Ngr.num, ⟨by have := Ngr.len; omega, by have := Ngr.len; omega, by have := Ngr.here; omega, by have := Ngr.kn; omega⟩, Ngr.lt, by omega, fun G' H' XX N' => ?_⟩
            have nx := nd_ex_ne (hS3.n _ g32) hE3
            refine q G' H' _ XX.gg XX.gh (hS3.step g32 XX (ns := []) (fun b hb => by
              rcases List.mem_cons.mp hb with h | h
              · exact .inl h
              · rw [List.mem_singleton] at h; exact .inr (.inr (.inl h))) (by simp) (by simp) (by simp) (.inl rfl) N') (ExAt.keep hE3 XX (fun z => ?_) fun z => ?_)
            · rcases List.mem_cons.mp z with h | h
              · exact nx.1 (h ▸ by simp)
              · rw [List.mem_singleton] at h; exact nx.2.2 (h ▸ by simp)
            · rcases List.mem_cons.mp z with h | h
              · exact nx.1 (h ▸ by simp)
              · rw [List.mem_singleton] at h; exact nx.2.2 (h ▸ by simp)
        · have hne' : lls = [] := by
            cases lls with
            | nil => rfl
            | cons a b => simp [refs] at hne
          have hll := l2.length
          have hz : σ.ls = [] := by
            rw [hne'] at hll
            exact List.length_eq_zero_iff.mp hll.symm
          have hl : σ.ls[num / 15 % σ.ls.length]? = none := by rw [hz]; rfl
          simp only [hl] at hrun q
          exact q G H2 la (Same.refl _) hG2 hS2 hE2
end
end Sam
end
section
set_option Elab.async false
set_option linter.all false
set_option maxHeartbeats 1000000
namespace Sam
/-! ### what the steps keep -/
theorem inj_of_nodup {α β : Type} {f : α → β} : ∀ {l : List α}, (l.map f).Nodup → ∀ {x y : α}, x ∈ l → y ∈ l → f x = f y → x = y
  | [], _, _, _, h, _, _ => by simp at h
  | a :: r, hn, x, y, hx, hy, e => by
    rw [List.map_cons, List.nodup_cons] at hn
    rcases List.mem_cons.mp hx with hx' | hx' <;> rcases List.mem_cons.mp hy with hy' | hy'
    · rw [hx', hy']
    · subst hx'; exact absurd (e ▸ List.mem_map_of_mem hy') hn.1
    · subst hy'; exact absurd (e ▸ List.mem_map_of_mem hx') hn.1
    · exact inj_of_nodup hn.2 hx' hy' e
theorem sub_flat {α β : Type} (f : α → List β) {l m : List α} (h : List.Sublist l m) : List.Sublist (l.flatMap f) (m.flatMap f) := by
  induction h with
  | slnil => exact List.Sublist.refl _
  | cons a _ ih => rw [List.flatMap_cons]; exact ih.trans (List.sublist_append_right _ _)
  | cons_cons a _ ih => rw [List.flatMap_cons, List.flatMap_cons]; exact (List.Sublist.refl _).append ih
def confS (σ : St) (l : Let) : St := if (l.snd, l.num) ∈ (σ.nd l.rcv).known then σ.set l.snd (confNd l.num (σ.nd l.snd)) else σ
def takS (σ : St) (l : Let) : St := if l.num ∈ (σ.nd l.snd).out.map (·.num) then σ.set l.rcv (takenNd l (σ.nd l.rcv)) else σ
section
variable {T : Nat → Thing} {kd : Bool} {k n c : Nat} {σ : St} {l : Let}
theorem here_conf (nd : Nd) (m : Nat) : List.Sublist (hereP (confNd m nd)) (hereP nd) := by
  unfold hereP confNd
  refine sub_flat _ ?_
  exact (List.Sublist.refl _).append (List.filter_sublist.map _)
theorem live_eq {σ σ' : St} (h : ∀ i, i < 3 → liveN σ' i = liveN σ i) : live σ' = live σ := by
  unfold live
  show (liveN σ' 0 ++ (liveN σ' 1 ++ (liveN σ' 2 ++ []))) = (liveN σ 0 ++ (liveN σ 1 ++ (liveN σ 2 ++ [])))
  rw [h 0 (by decide), h 1 (by decide), h 2 (by decide)]
theorem conf_good (g : Good T kd k n c σ) (hl : l ∈ σ.ls) : Good T kd k n c (confS σ l) ∧ live (confS σ l) = live σ ∧ (confS σ l).ls = σ.ls ∧ ∀ i, ((confS σ l).nd i).known = (σ.nd i).known := by
  unfold confS
  split
  · rename_i hk
    obtain ⟨l1, l2, l3, l4, l5, l6⟩ := g.g3 l hl
    have hkn : ∀ i, ((σ.set l.snd (confNd l.num (σ.nd l.snd))).nd i).known = (σ.nd i).known := fun i => by
      by_cases e : i = l.snd
      · subst e; rw [St.set_same]; rfl
      · rw [St.set_ne _ _ e]
    have hst : ∀ i, ((σ.set l.snd (confNd l.num (σ.nd l.snd))).nd i).sent = (σ.nd i).sent := fun i => by
      by_cases e : i = l.snd
      · subst e; rw [St.set_same]; rfl
      · rw [St.set_ne _ _ e]
    have hpe : pend (σ.set l.snd (confNd l.num (σ.nd l.snd))) = pend σ := by
      funext x
      unfold pend
      rw [hkn]
    have key : ∀ x ∈ σ.ls, pend σ x = true → x.snd = l.snd → x.num ≠ l.num := fun x hx hp hs e => by
      have : x = l := inj_of_nodup g.g4 hx hl (by rw [hs, e])
      subst this
      unfold pend at hp
      simp [hk] at hp
    have hlv : live (σ.set l.snd (confNd l.num (σ.nd l.snd))) = live σ := live_eq fun i hi => by
      unfold liveN
      rw [hpe]
      by_cases e : i = l.snd
      · subst e
        rw [St.set_same]
        show (σ.nd l.snd).pars ++ ((((σ.nd l.snd).out.filter fun x => decide (x.num ≠ l.num)).filter (pend σ)).map (·.par)) = _
        rw [List.filter_filter]
        congr 2
        refine List.filter_congr fun x hx => ?_
        obtain ⟨e1, e2⟩ := g.g2 _ hi x hx
        by_cases hp : pend σ x = true
        · simp [hp, key x e2 hp e1]
        · simp [hp]
      · rw [St.set_ne _ _ e]
    refine ⟨⟨fun i hi => ?_, fun i hi x hx => ?_, fun x hx => ?_, g.g4, by rw [hlv]; exact g.g5, g.g6, g.g7, g.g8, fun i hi q hq => ?_⟩, hlv, rfl, hkn⟩
    · by_cases e : i = l.snd
      · subst e
        rw [St.set_same]
        have G := g.g1 _ hi
        exact ⟨G.par, fun x hx => G.out x (List.mem_filter.mp hx).1, G.hnd.sublist (here_conf _ _), G.num.sublist (List.filter_sublist.map _), fun x hx => G.le x (List.mem_filter.mp hx).1, G.kn⟩
      · rw [St.set_ne _ _ e]; exact g.g1 i hi
    · by_cases e : i = l.snd
      · subst e
        rw [St.set_same] at hx
        exact g.g2 _ hi x (List.mem_filter.mp hx).1
      · rw [St.set_ne _ _ e] at hx; exact g.g2 i hi x hx
    · obtain ⟨x1, x2, x3, x4, x5, x6⟩ := g.g3 x hx
      refine ⟨x1, x2, x3, by rw [hst]; exact x4, fun hp => ?_, x6⟩
      rw [hpe] at hp
      have ho := x5 hp
      by_cases e : x.snd = l.snd
      · rw [e, St.set_same]
        rw [e] at ho
        exact List.mem_filter.mpr ⟨ho, by simpa using key x hx hp e⟩
      · rw [St.set_ne _ _ e]; exact ho
    · rw [hkn] at hq
      rw [hst]
      exact g.g9 i hi q hq
  · exact ⟨g, rfl, rfl, fun _ => rfl⟩
theorem set_self (σ : St) (i : Nat) : σ.set i (σ.nd i) = σ := by
  unfold St.set
  cases σ with
  | mk nd ls =>
    congr 1
    funext j
    show (if j = i then nd i else nd j) = nd j
    split
    · rename_i h; rw [h]
    · rfl
theorem live3 (σ : St) {r s t : Nat} (h : (r = 0 ∧ s = 1 ∧ t = 2) ∨ (r = 0 ∧ s = 2 ∧ t = 1) ∨ (r = 1 ∧ s = 0 ∧ t = 2) ∨ (r = 1 ∧ s = 2 ∧ t = 0) ∨ (r = 2 ∧ s = 0 ∧ t = 1) ∨ (r = 2 ∧ s = 1 ∧ t = 0)) :
    (live σ).Perm (liveN σ r ++ (liveN σ s ++ liveN σ t)) := by
  have e : live σ = liveN σ 0 ++ (liveN σ 1 ++ liveN σ 2) := by
    show (liveN σ 0 ++ (liveN σ 1 ++ (liveN σ 2 ++ []))) = _
    rw [List.append_nil]
  rw [e]
  have sw : ∀ X Y Z : List Par, (X ++ (Y ++ Z)).Perm (Y ++ (X ++ Z)) := fun X Y Z => by
    rw [← List.append_assoc, ← List.append_assoc]
    exact (List.perm_append_comm).append_right Z
  rcases h with ⟨rfl, rfl, rfl⟩ | ⟨rfl, rfl, rfl⟩ | ⟨rfl, rfl, rfl⟩ | ⟨rfl, rfl, rfl⟩ | ⟨rfl, rfl, rfl⟩ | ⟨rfl, rfl, rfl⟩
  · exact .refl _
  · exact List.perm_append_comm.append_left _
  · exact sw _ _ _
  · exact (sw _ _ _).trans (List.perm_append_comm.append_left _)
  · rw [← List.append_assoc]; exact List.perm_append_comm
  · rw [← List.append_assoc]; exact List.perm_append_comm.trans (List.perm_append_comm.append_left _)
theorem third {r s : Nat} (hr : r < 3) (hs : s < 3) (h : r ≠ s) : ∃ t, t < 3 ∧ t ≠ r ∧ t ≠ s ∧ ((r = 0 ∧ s = 1 ∧ t = 2) ∨ (r = 0 ∧ s = 2 ∧ t = 1) ∨ (r = 1 ∧ s = 0 ∧ t = 2) ∨ (r = 1 ∧ s = 2 ∧ t = 0) ∨ (r = 2 ∧ s = 0 ∧ t = 1) ∨ (r = 2 ∧ s = 1 ∧ t = 0)) :=
  ⟨3 - r - s, by omega, by omega, by omega, by omega⟩
def tknS (σ : St) (l : Let) : St := σ.set l.rcv (takenNd l (σ.nd l.rcv))
theorem here_took (l : Let) (nd : Nd) : (hereP (tookNd l nd)).Perm (l.par.ps ++ hereP nd) := by
  unfold hereP tookNd
  rw [List.append_assoc, List.flatMap_append, List.flatMap_append, List.flatMap_append]
  simp only [List.flatMap_cons, List.flatMap_nil, List.append_nil]
  rw [← List.append_assoc, ← List.append_assoc]
  exact List.perm_append_comm.append_right _
theorem filter_one {α : Type} {p q : α → Bool} {x : α} : ∀ {l : List α}, l.Nodup → x ∈ l → p x = true → q x = false → (∀ y ∈ l, y ≠ x → q y = p y) → (l.filter p).Perm (x :: l.filter q)
  | [], _, h, _, _, _ => by simp at h
  | a :: r, hn, hx, hp, hq, h => by
    obtain ⟨h1, h2⟩ := List.nodup_cons.mp hn
    by_cases e : a = x
    · subst e
      rw [List.filter_cons_of_pos hp, List.filter_cons_of_neg (by simp [hq])]
      have : r.filter p = r.filter q := List.filter_congr fun y hy => (h y (List.mem_cons_of_mem _ hy) fun z => h1 (z ▸ hy)).symm
      rw [this]
    · have hx' : x ∈ r := by
        rcases List.mem_cons.mp hx with h | h
        · exact absurd h.symm e
        · exact h
      have ih := filter_one h2 hx' hp hq fun y hy => h y (List.mem_cons_of_mem _ hy)
      have ha := h a List.mem_cons_self e
      by_cases hpa : p a = true
      · rw [List.filter_cons_of_pos hpa, List.filter_cons_of_pos (ha.trans hpa)]
        exact (ih.cons a).trans (List.Perm.swap _ _ _)
      · rw [List.filter_cons_of_neg hpa, List.filter_cons_of_neg (by rw [ha]; exact hpa)]
        exact ih
theorem tkn_good (g : Good T kd k n c σ) (hl : l ∈ σ.ls) : Good T kd k n (c + 1) (tknS σ l) ∧ (live (tknS σ l)).Perm (live σ) := by
  unfold tknS takenNd
  split
  · rw [set_self]; exact ⟨g.mono (by omega), .refl _⟩
  · rename_i hk
    simp only [Bool.or_eq_true, decide_eq_true_eq, not_or] at hk
    obtain ⟨hk, hm⟩ := hk
    have hdis := meets_false.mp (by simpa using hm)
    obtain ⟨l1, l2, l3, l4, l5, l6⟩ := g.g3 l hl
    have hpl : pend σ l = true := by unfold pend; simp [hk]
    have hlo := l5 hpl
    have G := g.g1 _ l2
    have Gs := g.g1 _ l1
    have hst : ∀ i, ((σ.set l.rcv (tookNd l (σ.nd l.rcv))).nd i).sent = (σ.nd i).sent := fun i => by
      by_cases e : i = l.rcv
      · subst e; rw [St.set_same]; rfl
      · rw [St.set_ne _ _ e]
    have hou : ∀ i, ((σ.set l.rcv (tookNd l (σ.nd l.rcv))).nd i).out = (σ.nd i).out := fun i => by
      by_cases e : i = l.rcv
      · subst e; rw [St.set_same]; rfl
      · rw [St.set_ne _ _ e]
    have hp1 : pend (σ.set l.rcv (tookNd l (σ.nd l.rcv))) l = false := by
      unfold pend
      rw [St.set_same]
      simp [tookNd]
    have hp2 : ∀ x ∈ σ.ls, x ≠ l → pend (σ.set l.rcv (tookNd l (σ.nd l.rcv))) x = pend σ x := fun x hx hne => by
      unfold pend
      by_cases e : x.rcv = l.rcv
      · have hkey : (x.snd, x.num) ≠ (l.snd, l.num) := fun z => hne (inj_of_nodup g.g4 hx hl z)
        rw [e, St.set_same]
        simp only [tookNd, List.mem_append, List.mem_singleton, hkey, or_false]
      · rw [St.set_ne _ _ e]
    have hlive : (live (σ.set l.rcv (tookNd l (σ.nd l.rcv)))).Perm (live σ) := by
      obtain ⟨t, t3, t1, t2, t6⟩ := third l2 l1 (Ne.symm l3)
      refine (live3 _ t6).trans (List.Perm.trans ?_ (live3 σ t6).symm)
      have ft : ∀ i, i < 3 → i ≠ l.snd → ((σ.nd i).out.filter (pend (σ.set l.rcv (tookNd l (σ.nd l.rcv))))) = (σ.nd i).out.filter (pend σ) := fun i hi hne => List.filter_congr fun x hx => hp2 x (g.g2 i hi x hx).2 fun z => hne (by rw [← (g.g2 i hi x hx).1, z])
      have Lt : liveN (σ.set l.rcv (tookNd l (σ.nd l.rcv))) t = liveN σ t := by
        unfold liveN
        rw [hou, ft t t3 t2, St.set_ne _ _ t1]
      have Lr : (liveN (σ.set l.rcv (tookNd l (σ.nd l.rcv))) l.rcv).Perm (l.par :: liveN σ l.rcv) := by
        unfold liveN
        rw [hou, ft _ l2 (Ne.symm l3), St.set_same]
        show (((σ.nd l.rcv).pars ++ [l.par]) ++ _).Perm _
        rw [List.append_assoc]
        exact List.perm_middle
      have Ls : (liveN σ l.snd).Perm (l.par :: liveN (σ.set l.rcv (tookNd l (σ.nd l.rcv))) l.snd) := by
        unfold liveN
        rw [hou, St.set_ne _ _ l3]
        have hon : (σ.nd l.snd).out.Nodup := (List.pairwise_map.mp Gs.num).imp fun h e => h (by rw [e])
        have h1 := (filter_one hon hlo hpl hp1 fun x hx hne => hp2 x (g.g2 _ l1 x hx).2 hne).map Let.par
        refine (h1.append_left _).trans ?_
        exact List.perm_middle
      rw [Lt]
      refine (Lr.append_right _).trans ?_
      show (l.par :: (liveN σ l.rcv ++ _)).Perm _
      refine List.perm_middle.symm.trans ?_
      exact List.Perm.append_left _ ((Ls.symm).append_right _)
    refine ⟨⟨fun i hi => ?_, fun i hi x hx => ?_, fun x hx => ?_, g.g4, (hlive.flatMap_right _).trans g.g5, Nat.le_succ_of_le g.g6, g.g7, g.g8, fun i hi q hq => ?_⟩, hlive⟩
    · by_cases e : i = l.rcv
      · subst e
        rw [St.set_same]
        refine ⟨fun p hp => ?_, G.out, (here_took _ _).symm.nodup (List.nodup_append.mpr ⟨g.g8 l hl, G.hnd, fun x hx y hy e => hdis x hx (e ▸ hy)⟩), G.num, G.le, ?_⟩
        · rcases List.mem_append.mp hp with h | h
          · exact G.par p h
          · rw [List.mem_singleton] at h; subst h; exact l6
        · have := G.kn
          show ((σ.nd l.rcv).known ++ [(l.snd, l.num)]).length ≤ c + 1
          simp; omega
      · rw [St.set_ne _ _ e]; exact (g.g1 i hi).mono (by omega)
    · rw [hou] at hx; exact g.g2 i hi x hx
    · obtain ⟨x1, x2, x3, x4, x5, x6⟩ := g.g3 x hx
      refine ⟨x1, x2, x3, by rw [hst]; exact x4, fun hp => ?_, x6⟩
      rw [hou]
      refine x5 ?_
      by_cases e : x = l
      · subst e; exact hpl
      · rw [← hp2 x hx e]; exact hp
    · rw [hst]
      by_cases e : i = l.rcv
      · subst e
        rw [St.set_same] at hq
        rcases List.mem_append.mp hq with h | h
        · exact g.g9 _ hi q h
        · rw [List.mem_singleton] at h; subst h; exact ⟨l1, l4⟩
      · rw [St.set_ne _ _ e] at hq; exact g.g9 i hi q hq
end
end Sam
end
section
set_option Elab.async false
set_option linter.all false
set_option maxHeartbeats 1000000
namespace Sam
theorem zip_at {α : Type} {l : List α} {x : α × Nat} (h : x ∈ l.zipIdx) : l[x.2]? = some x.1 := by
  obtain ⟨a, i⟩ := x
  simpa using List.mem_zipIdx_iff_getElem?.mp h
theorem rm_perm {α : Type} {l : List α} {a b : Nat} {p q : α} (ha : l[a]? = some p) (hb : l[b]? = some q) (hab : a ≠ b) : l.Perm (p :: q :: rm [a, b] l) := by
  have hn : l.zipIdx.Nodup := by
    have h : (l.zipIdx.map Prod.snd).Nodup := by
      rw [List.zipIdx_map_snd]
      exact List.nodup_range'
    exact (List.pairwise_map.mp h).imp fun h e => h (by rw [e])
  have ma : (p, a) ∈ l.zipIdx := List.mem_zipIdx_iff_getElem?.mpr ha
  have mb : (q, b) ∈ l.zipIdx := List.mem_zipIdx_iff_getElem?.mpr hb
  have h1 := filter_one (p := fun _ => true) (q := fun x : α × Nat => decide (x.2 ≠ a)) hn ma rfl (by simp) (fun y hy hne => by
    have hy' := zip_at hy
    by_cases e : y.2 = a
    · exfalso
      rw [e, ha] at hy'
      exact hne (Prod.ext (Option.some.inj hy').symm e)
    · simp [e])
  have h2 := filter_one (p := fun x : α × Nat => decide (x.2 ≠ a)) (q := fun x : α × Nat => ![a, b].contains x.2) hn mb (by simpa using Ne.symm hab) (by simp) (fun y hy hne => by
    have hy' := zip_at hy
    by_cases e : y.2 = b
    · exfalso
      rw [e, hb] at hy'
      exact hne (Prod.ext (Option.some.inj hy').symm e)
    · by_cases e' : y.2 = a <;> simp [e, e'])
  have h3 := (h1.trans (h2.cons _)).map Prod.fst
  have ft : (l.zipIdx.filter fun _ => true) = l.zipIdx := List.filter_eq_self.mpr fun _ _ => rfl
  rw [ft, List.zipIdx_map_fst] at h3
  exact h3
section
variable {T : Nat → Thing} {kd : Bool} {k n c : Nat} {σ : St}
theorem flat_perm {α β : Type} (f : α → List β) {l m : List α} (h : l.Perm m) : (l.flatMap f).Perm (m.flatMap f) := h.flatMap_right f
theorem mg_good {i a b : Nat} {p q m : Par} (g : Good T kd k n c σ) (hi : i < 3) (ha : (σ.nd i).pars[a]? = some p) (hb : (σ.nd i).pars[b]? = some q) (hab : a ≠ b) (hm : ParOk T kd k m) (hms : m.ps = so (p.ps ++ q.ps)) :
    Good T kd k n c (σ.set i (mgNd a b (σ.nd i) m)) ∧ ∃ R, (live σ).Perm (p :: q :: R) ∧ (live (σ.set i (mgNd a b (σ.nd i) m))).Perm (m :: R) := by
  have G := g.g1 i hi
  have hrm := rm_perm ha hb hab
  have hst : ∀ j, ((σ.set i (mgNd a b (σ.nd i) m)).nd j).sent = (σ.nd j).sent ∧ ((σ.set i (mgNd a b (σ.nd i) m)).nd j).out = (σ.nd j).out ∧ ((σ.set i (mgNd a b (σ.nd i) m)).nd j).known = (σ.nd j).known := fun j => by
    by_cases e : j = i
    · subst e; rw [St.set_same]; exact ⟨rfl, rfl, rfl⟩
    · rw [St.set_ne _ _ e]; exact ⟨rfl, rfl, rfl⟩
  have hpe : pend (σ.set i (mgNd a b (σ.nd i) m)) = pend σ := by
    funext x
    unfold pend
    rw [(hst _).2.2]
  have hpm : (m.ps).Perm (p.ps ++ q.ps) := by rw [hms]; exact so_perm _
  have hL : ∃ R, (live σ).Perm (p :: q :: R) ∧ (live (σ.set i (mgNd a b (σ.nd i) m))).Perm (m :: R) := by
    obtain ⟨t, t3, t1, t2, t6⟩ := third (r := i) (s := (i + 1) % 3) hi (Nat.mod_lt _ (by decide)) (by omega)
    have h1 := live3 σ t6
    have h2 := live3 (σ.set i (mgNd a b (σ.nd i) m)) t6
    have e1 : ∀ j, j ≠ i → liveN (σ.set i (mgNd a b (σ.nd i) m)) j = liveN σ j := fun j hj => by
      unfold liveN
      rw [hpe, St.set_ne _ _ hj]
    rw [e1 _ (show (i + 1) % 3 ≠ i by omega), e1 t t1] at h2
    refine ⟨rm [a, b] (σ.nd i).pars ++ (((σ.nd i).out.filter (pend σ)).map (·.par) ++ (liveN σ ((i + 1) % 3) ++ liveN σ t)), h1.trans ?_, h2.trans ?_⟩
    · unfold liveN
      rw [List.append_assoc]
      exact hrm.append_right _
    · have e2 : liveN (σ.set i (mgNd a b (σ.nd i) m)) i = (rm [a, b] (σ.nd i).pars ++ [m]) ++ ((σ.nd i).out.filter (pend σ)).map (·.par) := by
        unfold liveN
        rw [hpe, St.set_same]
        rfl
      rw [e2, List.append_assoc, List.append_assoc]
      exact List.perm_middle
  refine ⟨⟨fun j hj => ?_, fun j hj x hx => ?_, fun x hx => ?_, g.g4, ?_, g.g6, g.g7, g.g8, fun j hj y hy => ?_⟩, hL⟩
  · by_cases e : j = i
    · subst e
      rw [St.set_same]
      have hh : (hereP (mgNd a b (σ.nd j) m)).Perm (hereP (σ.nd j)) := by
        unfold hereP mgNd
        rw [List.flatMap_append, List.flatMap_append, List.flatMap_append]
        refine List.Perm.append_right _ ?_
        refine List.Perm.trans ?_ (flat_perm _ hrm).symm
        simp only [List.flatMap_cons, List.flatMap_nil, List.append_nil]
        refine List.perm_append_comm.trans ?_
        rw [← List.append_assoc]
        exact hpm.append_right _
      refine ⟨fun x hx => ?_, G.out, hh.symm.nodup G.hnd, G.num, G.le, G.kn⟩
      rcases List.mem_append.mp hx with h | h
      · exact G.par x (hrm.symm.subset (List.mem_cons_of_mem _ (List.mem_cons_of_mem _ h)))
      · rw [List.mem_singleton] at h; subst h; exact hm
    · rw [St.set_ne _ _ e]; exact g.g1 j hj
  · rw [(hst j).2.1] at hx
    exact g.g2 j hj x hx
  · obtain ⟨x1, x2, x3, x4, x5, x6⟩ := g.g3 x hx
    refine ⟨x1, x2, x3, by rw [(hst _).1]; exact x4, fun hp => ?_, x6⟩
    rw [hpe] at hp
    rw [(hst _).2.1]
    exact x5 hp
  · obtain ⟨R, r1, r2⟩ := hL
    refine (flat_perm _ r2).trans (List.Perm.trans ?_ g.g5)
    refine List.Perm.trans ?_ (flat_perm _ r1).symm
    simp only [List.flatMap_cons]
    rw [← List.append_assoc]
    exact hpm.append_right _
  · rw [(hst _).2.2] at hy
    rw [(hst _).1]
    exact g.g9 j hj y hy
end
end Sam
end
section
set_option Elab.async false
set_option linter.all false
set_option maxHeartbeats 1000000
namespace Sam
section
variable {T : Nat → Thing} {kd : Bool} {k n c : Nat} {σ : St}
def sendS (σ : St) (i j rc : Nat) (p : Par) : St := ⟨(σ.set i (sentNd i j rc p (σ.nd i))).nd, σ.ls ++ [⟨i, (σ.nd i).sent + 1, rc, p⟩]⟩
theorem send_good {i j rc : Nat} {p : Par} (g : Good T kd k n c σ) (hi : i < 3) (hj : (σ.nd i).pars[j]? = some p) (hrc : rc < 3) (hne : rc ≠ i) :
    Good T kd k n (c + 1) (sendS σ i j rc p) ∧ (live (sendS σ i j rc p)).Perm (live σ) := by
  have G := g.g1 i hi
  have hjl := (List.getElem?_eq_some_iff.mp hj).1
  have hje : (σ.nd i).pars[j] = p := (List.getElem?_eq_some_iff.mp hj).2
  have hpp : (p :: (σ.nd i).pars.eraseIdx j).Perm (σ.nd i).pars := by
    have := erase_perm (l := (σ.nd i).pars) (p := j) hjl
    rw [hje] at this
    exact this
  have hpm : p ∈ (σ.nd i).pars := List.mem_of_getElem? hj
  have hkn : ∀ x, ((sendS σ i j rc p).nd x).known = (σ.nd x).known := fun x => by
    show ((σ.set i _).nd x).known = _
    by_cases e : x = i
    · subst e; rw [St.set_same]; rfl
    · rw [St.set_ne _ _ e]
  have hsi : (sendS σ i j rc p).nd i = sentNd i j rc p (σ.nd i) := St.set_same _ _ _
  have hsn : ∀ x, x ≠ i → (sendS σ i j rc p).nd x = σ.nd x := fun x e => St.set_ne _ _ e
  have hst : ∀ x, (σ.nd x).sent ≤ ((sendS σ i j rc p).nd x).sent := fun x => by
    by_cases e : x = i
    · subst e; rw [hsi]; exact Nat.le_succ _
    · rw [hsn _ e]; exact Nat.le_refl _
  have hou : ∀ x, ∀ y ∈ (σ.nd x).out, y ∈ ((sendS σ i j rc p).nd x).out := fun x y hy => by
    by_cases e : x = i
    · subst e; rw [hsi]; exact List.mem_append_left _ hy
    · rw [hsn _ e]; exact hy
  have hpe : pend (sendS σ i j rc p) = pend σ := by
    funext x
    unfold pend
    rw [hkn]
  have hpL : pend σ ⟨i, (σ.nd i).sent + 1, rc, p⟩ = true := by
    unfold pend
    have : ((i, (σ.nd i).sent + 1) : Nat × Nat) ∉ (σ.nd rc).known := fun z => by
      have h2 := (g.g9 rc hrc _ z).2
      simp only at h2
      omega
    simp [this]
  have hlive : (live (sendS σ i j rc p)).Perm (live σ) := by
    obtain ⟨t, t3, t1, t2, t6⟩ := third (r := i) (s := (i + 1) % 3) hi (Nat.mod_lt _ (by decide)) (by omega)
    refine (live3 _ t6).trans (List.Perm.trans ?_ (live3 σ t6).symm)
    have e1 : ∀ x, x ≠ i → liveN (sendS σ i j rc p) x = liveN σ x := fun x hx => by
      unfold liveN
      rw [hpe, hsn _ hx]
    rw [e1 _ (show (i + 1) % 3 ≠ i by omega), e1 t t1]
    refine List.Perm.append_right _ ?_
    unfold liveN
    rw [hpe, hsi]
    show ((σ.nd i).pars.eraseIdx j ++ (((σ.nd i).out ++ [(⟨i, (σ.nd i).sent + 1, rc, p⟩ : Let)]).filter (pend σ)).map Let.par).Perm _
    rw [List.filter_append, List.map_append]
    have e2 : ([(⟨i, (σ.nd i).sent + 1, rc, p⟩ : Let)].filter (pend σ)).map (·.par) = [p] := by
      rw [List.filter_cons_of_pos hpL]
      rfl
    rw [e2, ← List.append_assoc]
    refine List.perm_append_comm.trans ?_
    show (p :: ((σ.nd i).pars.eraseIdx j ++ _)).Perm _
    exact hpp.append_right _
  refine ⟨⟨fun x hx => ?_, fun x hx y hy => ?_, fun y hy => ?_, ?_, (flat_perm _ hlive).trans g.g5, ?_, g.g7, fun y hy => ?_, fun x hx q hq => ?_⟩, hlive⟩
  · by_cases e : x = i
    · subst e
      rw [hsi]
      have hh : (hereP (sentNd x j rc p (σ.nd x))).Perm (hereP (σ.nd x)) := by
        refine flat_perm _ ?_
        show ((σ.nd x).pars.eraseIdx j ++ ((σ.nd x).out ++ [(⟨x, (σ.nd x).sent + 1, rc, p⟩ : Let)]).map Let.par).Perm _
        rw [List.map_append, ← List.append_assoc]
        refine List.perm_append_comm.trans ?_
        show (p :: ((σ.nd x).pars.eraseIdx j ++ _)).Perm _
        exact hpp.append_right _
      refine ⟨fun y hy => G.par y (hpp.subset (List.mem_cons_of_mem _ hy)), fun y hy => ?_, hh.symm.nodup G.hnd, ?_, fun y hy => ?_, Nat.le_succ_of_le G.kn⟩
      · rcases List.mem_append.mp hy with h | h
        · exact G.out y h
        · rw [List.mem_singleton] at h; subst h; exact G.par p hpm
      · show (((σ.nd x).out ++ [(⟨x, (σ.nd x).sent + 1, rc, p⟩ : Let)]).map Let.num).Nodup
        rw [List.map_append]
        refine List.nodup_append.mpr ⟨G.num, by simp, fun a ha b hb e => ?_⟩
        obtain ⟨y, hy, rfl⟩ := List.mem_map.mp ha
        have := G.le y hy
        simp at hb
        omega
      · rcases List.mem_append.mp hy with h | h
        · exact Nat.le_succ_of_le (G.le y h)
        · rw [List.mem_singleton] at h; subst h; exact Nat.le_refl _
    · rw [hsn _ e]; exact (g.g1 x hx).mono (by omega)
  · by_cases e : x = i
    · subst e
      rw [hsi] at hy
      rcases List.mem_append.mp hy with h | h
      · obtain ⟨h1, h2⟩ := g.g2 _ hx y h
        exact ⟨h1, List.mem_append_left _ h2⟩
      · rw [List.mem_singleton] at h; subst h
        exact ⟨rfl, List.mem_append_right _ (by simp)⟩
    · rw [hsn _ e] at hy
      obtain ⟨h1, h2⟩ := g.g2 _ hx y hy
      exact ⟨h1, List.mem_append_left _ h2⟩
  · rcases List.mem_append.mp hy with h | h
    · obtain ⟨x1, x2, x3, x4, x5, x6⟩ := g.g3 y h
      exact ⟨x1, x2, x3, Nat.le_trans x4 (hst _), fun hp => hou _ _ (x5 (by rw [← hpe]; exact hp)), x6⟩
    · rw [List.mem_singleton] at h; subst h
      refine ⟨hi, hrc, Ne.symm hne, by show _ ≤ ((sendS σ i j rc p).nd i).sent; rw [hsi]; exact Nat.le_refl _, fun _ => by show _ ∈ ((sendS σ i j rc p).nd i).out; rw [hsi]; exact List.mem_append_right _ (by simp), G.par p hpm⟩
  · show ((σ.ls ++ [(⟨i, (σ.nd i).sent + 1, rc, p⟩ : Let)]).map fun l : Let => (l.snd, l.num)).Nodup
    rw [List.map_append]
    refine List.nodup_append.mpr ⟨g.g4, by simp, fun a ha b hb e => ?_⟩
    obtain ⟨y, hy, rfl⟩ := List.mem_map.mp ha
    have h4 := (g.g3 y hy).2.2.2.1
    simp at hb
    subst hb
    have e1 : y.snd = i := (Prod.mk.inj e).1
    have e2 : y.num = _ := (Prod.mk.inj e).2
    rw [e1] at h4
    omega
  · show (σ.ls ++ [(⟨i, (σ.nd i).sent + 1, rc, p⟩ : Let)]).length ≤ c + 1
    have := g.g6
    simp; omega
  · rcases List.mem_append.mp hy with h | h
    · exact g.g8 y h
    · rw [List.mem_singleton] at h; subst h
      have h1 : List.Sublist p.ps (hereP (σ.nd i)) := by
        obtain ⟨s, t, e⟩ := List.append_of_mem hpm
        unfold hereP
        rw [e, List.append_assoc, List.flatMap_append, List.cons_append, List.flatMap_cons]
        exact (List.sublist_append_left _ _).trans (List.sublist_append_right _ _)
      exact G.hnd.sublist h1
  · rw [hkn] at hq
    obtain ⟨h1, h2⟩ := g.g9 x hx q hq
    exact ⟨h1, Nat.le_trans h2 (hst _)⟩
end
end Sam
end
section
set_option Elab.async false
set_option linter.all false
set_option maxHeartbeats 1000000
namespace Sam
section
variable {T : Nat → Thing} {kd : Bool} {k n c : Nat} {σ : St}
theorem mg_live {i a b : Nat} {p q : Par} (hi : i < 3) (ha : (σ.nd i).pars[a]? = some p) (hb : (σ.nd i).pars[b]? = some q) (hab : a ≠ b) :
    ∃ R, (live σ).Perm (p :: q :: R) ∧ ∀ m, (live (σ.set i (mgNd a b (σ.nd i) m))).Perm (m :: R) := by
  have hrm := rm_perm ha hb hab
  obtain ⟨t, t3, t1, t2, t6⟩ := third (r := i) (s := (i + 1) % 3) hi (Nat.mod_lt _ (by decide)) (by omega)
  have h1 := live3 σ t6
  refine ⟨rm [a, b] (σ.nd i).pars ++ (((σ.nd i).out.filter (pend σ)).map (·.par) ++ (liveN σ ((i + 1) % 3) ++ liveN σ t)), h1.trans ?_, fun m => ?_⟩
  · unfold liveN
    rw [List.append_assoc]
    exact hrm.append_right _
  · have hkn : ∀ j, ((σ.set i (mgNd a b (σ.nd i) m)).nd j).known = (σ.nd j).known := fun j => by
      by_cases e : j = i
      · subst e; rw [St.set_same]; rfl
      · rw [St.set_ne _ _ e]
    have hpe : pend (σ.set i (mgNd a b (σ.nd i) m)) = pend σ := by
      funext x
      unfold pend
      rw [hkn]
    have h2 := live3 (σ.set i (mgNd a b (σ.nd i) m)) t6
    have e1 : ∀ j, j ≠ i → liveN (σ.set i (mgNd a b (σ.nd i) m)) j = liveN σ j := fun j hj => by
      unfold liveN
      rw [hpe, St.set_ne _ _ hj]
    rw [e1 _ (show (i + 1) % 3 ≠ i by omega), e1 t t1] at h2
    refine h2.trans ?_
    have e2 : liveN (σ.set i (mgNd a b (σ.nd i) m)) i = (rm [a, b] (σ.nd i).pars ++ [m]) ++ ((σ.nd i).out.filter (pend σ)).map (·.par) := by
      unfold liveN
      rw [hpe, St.set_same]
      rfl
    rw [e2, List.append_assoc, List.append_assoc]
    exact List.perm_middle
theorem pair_nodup {i a b : Nat} {p q : Par} (g : Good T kd k n c σ) (hi : i < 3) (ha : (σ.nd i).pars[a]? = some p) (hb : (σ.nd i).pars[b]? = some q) (hab : a ≠ b) : (p.ps ++ q.ps).Nodup := by
  refine nodup_two (l := (σ.nd i).pars) (f := fun p : Par => p.ps) ?_ ha hb hab
  have := (g.g1 i hi).hnd
  unfold hereP at this
  rw [List.flatMap_append] at this
  exact (List.nodup_append.mp this).1
theorem next_ne {a m : Nat} (h : 1 < m) (ha : a < m) : a ≠ (a + 1) % m := by
  by_cases e : a + 1 < m
  · rw [Nat.mod_eq_of_lt e]; omega
  · have : a + 1 = m := by omega
    rw [this, Nat.mod_self]
    omega
/-- what a law of the live parcels must keep -/
structure Keeps (T : Nat → Thing) (kd : Bool) (k : Nat) (F : List Par → Rat) : Prop where
  perm : ∀ {l m : List Par}, l.Perm m → F l = F m
  mean : ∀ {p q : Par} {R : List Par}, ParOk T kd k p → ParOk T kd k q → (p.ps ++ q.ps).Nodup → (mergedT T kd k p q).E (fun m => F (m :: R)) = F (p :: q :: R)
theorem deed_law (g : Good T kd k n c σ) (num : Nat) : (deedT T kd k num σ).All (Good T kd k n (c + 1)) ∧ ∀ F : List Par → Rat, Keeps T kd k F → (deedT T kd k num σ).E (fun σ' => F (live σ')) = F (live σ) := by
  have hi : num % 3 < 3 := Nat.mod_lt _ (by decide)
  unfold deedT
  dsimp only
  split
  · rename_i h
    have hax : num / 15 % (σ.nd (num % 3)).pars.length < (σ.nd (num % 3)).pars.length := Nat.mod_lt _ (by omega)
    have hab := next_ne h.2 hax
    split
    · rename_i p q ha hb
      have hp := (g.g1 _ hi).par p (List.mem_of_getElem? ha)
      have hq := (g.g1 _ hi).par q (List.mem_of_getElem? hb)
      have hnd := pair_nodup g hi ha hb hab
      refine ⟨Tr.All.bind (fun m hm => ?_) (merged_all hp hq hnd), fun F hF => ?_⟩
      · exact (mg_good g hi ha hb hab hm.1 hm.2.1).1.mono (by omega)
      · rw [Tr.E_bind]
        obtain ⟨R, r1, r2⟩ := mg_live (σ := σ) hi ha hb hab
        have : ∀ m, (Tr.ret (σ.set (num % 3) (mgNd (num / 15 % (σ.nd (num % 3)).pars.length) ((num / 15 % (σ.nd (num % 3)).pars.length + 1) % (σ.nd (num % 3)).pars.length) (σ.nd (num % 3)) m))).E (fun σ' => F (live σ')) = F (m :: R) := fun m => hF.perm (r2 m)
        rw [show (fun a => _) = fun m => F (m :: R) from funext this, hF.mean hp hq hnd, hF.perm r1]
    · exact ⟨g.mono (by omega), fun F hF => rfl⟩
  · split
    · rename_i h
      split
      · rename_i p hj
        obtain ⟨h1, h2⟩ := send_good g hi hj (Nat.mod_lt (num + 1) (by decide)) (show (num + 1) % 3 ≠ num % 3 by omega)
        exact ⟨h1, fun F hF => hF.perm h2⟩
      · exact ⟨g.mono (by omega), fun F hF => rfl⟩
    · split
      · exact ⟨g.mono (by omega), fun F hF => rfl⟩
      · rename_i l hl
        have hm := List.mem_of_getElem? hl
        split
        · rename_i hk
          have h1 := conf_good g hm
          unfold confS at h1
          rw [if_pos hk] at h1
          exact ⟨h1.1.mono (by omega), fun F hF => by show F (live _) = _; rw [h1.2.1]⟩
        · obtain ⟨h1, h2⟩ := tkn_good g hm
          exact ⟨h1, fun F hF => hF.perm h2⟩
end
end Sam
end
section
set_option Elab.async false
set_option linter.all false
set_option maxHeartbeats 1000000
namespace Sam
/-! ### the end: all that is out is taken -/
def confA (σ : St) (ls : List Let) : St := ls.foldl confS σ
def takA (σ : St) (ls : List Let) : St := ls.foldl takS σ
def turnS (σ : St) : St := takA (confA σ σ.ls) σ.ls
def endS : Nat → St → St
  | 0, σ => σ
  | n + 1, σ => endS n (turnS σ)
theorem confS_ls (σ : St) (l : Let) : (confS σ l).ls = σ.ls := by
  unfold confS; split <;> rfl
theorem takS_ls (σ : St) (l : Let) : (takS σ l).ls = σ.ls := by
  unfold takS; split <;> rfl
theorem confA_ls : ∀ (ls : List Let) (σ : St), (confA σ ls).ls = σ.ls
  | [], _ => rfl
  | l :: r, σ => (confA_ls r (confS σ l)).trans (confS_ls σ l)
theorem takA_ls : ∀ (ls : List Let) (σ : St), (takA σ ls).ls = σ.ls
  | [], _ => rfl
  | l :: r, σ => (takA_ls r (takS σ l)).trans (takS_ls σ l)
theorem turnS_ls (σ : St) : (turnS σ).ls = σ.ls := (takA_ls _ _).trans (confA_ls _ _)
theorem endS_ls : ∀ (n : Nat) (σ : St), (endS n σ).ls = σ.ls
  | 0, _ => rfl
  | n + 1, σ => (endS_ls n (turnS σ)).trans (turnS_ls σ)
theorem confS_known (σ : St) (l : Let) (i : Nat) : ((confS σ l).nd i).known = (σ.nd i).known := by
  unfold confS
  split
  · by_cases e : i = l.snd
    · subst e; rw [St.set_same]; rfl
    · rw [St.set_ne _ _ e]
  · rfl
theorem confS_pars (σ : St) (l : Let) (i : Nat) : ((confS σ l).nd i).pars = (σ.nd i).pars := by
  unfold confS
  split
  · by_cases e : i = l.snd
    · subst e; rw [St.set_same]; rfl
    · rw [St.set_ne _ _ e]
  · rfl
theorem confS_out (σ : St) (l : Let) (i : Nat) : ∀ x ∈ ((confS σ l).nd i).out, x ∈ (σ.nd i).out ∧ (i = l.snd → (l.snd, l.num) ∈ (σ.nd l.rcv).known → x.num ≠ l.num) := by
  intro x hx
  unfold confS at hx
  split at hx
  · by_cases e : i = l.snd
    · subst e
      rw [St.set_same] at hx
      obtain ⟨h1, h2⟩ := List.mem_filter.mp hx
      exact ⟨h1, fun _ _ => by simpa using h2⟩
    · rw [St.set_ne _ _ e] at hx
      exact ⟨hx, fun z => absurd z e⟩
  · rename_i h
    exact ⟨hx, fun _ z => absurd z h⟩
theorem confA_known : ∀ (ls : List Let) (σ : St) (i : Nat), ((confA σ ls).nd i).known = (σ.nd i).known
  | [], _, _ => rfl
  | l :: r, σ, i => (confA_known r (confS σ l) i).trans (confS_known σ l i)
theorem confA_out : ∀ (ls : List Let) (σ : St) (i : Nat), ∀ x ∈ ((confA σ ls).nd i).out, x ∈ (σ.nd i).out ∧ ∀ l ∈ ls, i = l.snd → (l.snd, l.num) ∈ (σ.nd l.rcv).known → x.num ≠ l.num
  | [], _, _, x, hx => ⟨hx, by simp⟩
  | l :: r, σ, i, x, hx => by
    obtain ⟨h1, h2⟩ := confA_out r (confS σ l) i x hx
    obtain ⟨h3, h4⟩ := confS_out σ l i x h1
    refine ⟨h3, fun m hm e hk => ?_⟩
    rcases List.mem_cons.mp hm with rfl | hm
    · exact h4 e hk
    · exact h2 m hm e (by rw [confS_known]; exact hk)
theorem flat_disj {α β : Type} {f : α → List β} : ∀ {L : List α}, (L.flatMap f).Nodup → ∀ {x y : α}, x ∈ L → y ∈ L → x ≠ y → ∀ b ∈ f x, b ∉ f y
  | [], _, _, _, h, _, _ => by simp at h
  | a :: r, hn, x, y, hx, hy, hne => by
    rw [List.flatMap_cons] at hn
    obtain ⟨h1, h2, h3⟩ := List.nodup_append.mp hn
    intro b hb hb'
    rcases List.mem_cons.mp hx with hx' | hx' <;> rcases List.mem_cons.mp hy with hy' | hy'
    · exact hne (hx'.trans hy'.symm)
    · subst hx'; exact h3 b hb b (List.mem_flatMap.mpr ⟨y, hy', hb'⟩) rfl
    · subst hy'; exact h3 b hb' b (List.mem_flatMap.mpr ⟨x, hx', hb⟩) rfl
    · exact flat_disj h2 hx' hy' hne b hb hb'
/-- what the nodes hold; the letters that are out and not taken -/
def heldP (σ : St) : List Par := (σ.nd 0).pars ++ (σ.nd 1).pars ++ (σ.nd 2).pars
def pendL (σ : St) : List Let := (σ.nd 0).out.filter (pend σ) ++ ((σ.nd 1).out.filter (pend σ) ++ (σ.nd 2).out.filter (pend σ))
theorem live_split (σ : St) : (live σ).Perm (heldP σ ++ (pendL σ).map Let.par) := by
  have e : live σ = liveN σ 0 ++ (liveN σ 1 ++ liveN σ 2) := by
    show (liveN σ 0 ++ (liveN σ 1 ++ (liveN σ 2 ++ []))) = _
    rw [List.append_nil]
  rw [e]
  unfold liveN heldP pendL
  rw [List.map_append, List.map_append]
  generalize (σ.nd 0).pars = A
  generalize (σ.nd 1).pars = B
  generalize (σ.nd 2).pars = C
  generalize ((σ.nd 0).out.filter (pend σ)).map Let.par = X
  generalize ((σ.nd 1).out.filter (pend σ)).map Let.par = Y
  generalize ((σ.nd 2).out.filter (pend σ)).map Let.par = Z
  have sw : ∀ X Y Z : List Par, (X ++ (Y ++ Z)).Perm (Y ++ (X ++ Z)) := fun X Y Z => by
    rw [← List.append_assoc, ← List.append_assoc]
    exact (List.perm_append_comm).append_right Z
  simp only [List.append_assoc]
  refine List.Perm.append_left A ?_
  refine (sw _ _ _).trans (List.Perm.append_left B ?_)
  refine (List.Perm.append_left X (sw Y C Z)).trans ?_
  exact sw _ _ _
section
variable {T : Nat → Thing} {kd : Bool} {k n c : Nat} {σ : St} {l : Let}
theorem mem_pendL {i : Nat} {x : Let} (hi : i < 3) (hx : x ∈ (σ.nd i).out) (hp : pend σ x = true) : x ∈ pendL σ := by
  unfold pendL
  have := List.mem_filter.mpr ⟨hx, hp⟩
  simp only [List.mem_append]
  match i, hi with
  | 0, _ => exact .inl this
  | 1, _ => exact .inr (.inl this)
  | 2, _ => exact .inr (.inr this)
theorem mem_heldP {i : Nat} {p : Par} (hi : i < 3) (hp : p ∈ (σ.nd i).pars) : p ∈ heldP σ := by
  unfold heldP
  simp only [List.mem_append]
  match i, hi with
  | 0, _ => exact .inl (.inl hp)
  | 1, _ => exact .inl (.inr hp)
  | 2, _ => exact .inr hp
theorem live_nd (g : Good T kd k n c σ) : ((heldP σ).flatMap (·.ps) ++ (pendL σ).flatMap (·.par.ps)).Nodup := by
  have h1 := g.g5.symm.nodup List.nodup_range
  have h2 := (flat_perm (fun p : Par => p.ps) (live_split σ)).nodup h1
  rw [List.flatMap_append, List.flatMap_map] at h2
  exact h2
/-- letters that are out share no part -/
def Disj (σ : St) : Prop := ∀ i j, i < 3 → j < 3 → ∀ x ∈ (σ.nd i).out, ∀ y ∈ (σ.nd j).out, x ≠ y → ∀ p ∈ x.par.ps, p ∉ y.par.ps
theorem disj_of (g : Good T kd k n c σ) (h : ∀ i, i < 3 → ∀ x ∈ (σ.nd i).out, pend σ x = true) : Disj σ := fun i j hi hj x hx y hy hne =>
  flat_disj (f := fun l : Let => l.par.ps) (List.nodup_append.mp (live_nd g)).2.1 (mem_pendL hi hx (h i hi x hx)) (mem_pendL hj hy (h j hj y hy)) hne
theorem confA_good : ∀ (ls : List Let) {σ : St}, Good T kd k n c σ → (∀ l ∈ ls, l ∈ σ.ls) → Good T kd k n c (confA σ ls) ∧ live (confA σ ls) = live σ
  | [], _, g, _ => ⟨g, rfl⟩
  | l :: r, σ, g, h => by
    obtain ⟨h1, h2, h3, _⟩ := conf_good g (h l List.mem_cons_self)
    obtain ⟨h4, h5⟩ := confA_good r h1 fun m hm => by rw [h3]; exact h m (List.mem_cons_of_mem _ hm)
    exact ⟨h4, h5.trans h2⟩
theorem confA_pend (g : Good T kd k n c σ) : ∀ i, i < 3 → ∀ x ∈ ((confA σ σ.ls).nd i).out, pend (confA σ σ.ls) x = true := by
  intro i hi x hx
  obtain ⟨h1, h2⟩ := confA_out σ.ls σ i x hx
  obtain ⟨h3, h4⟩ := g.g2 i hi x h1
  unfold pend
  rw [confA_known]
  by_cases e : (x.snd, x.num) ∈ (σ.nd x.rcv).known
  · exact absurd rfl (h2 x h4 h3.symm e)
  · simp [e]
theorem takS_out (σ : St) (l : Let) (i : Nat) : ((takS σ l).nd i).out = (σ.nd i).out := by
  unfold takS
  split
  · by_cases e : i = l.rcv
    · subst e
      rw [St.set_same]
      unfold takenNd
      split <;> rfl
    · rw [St.set_ne _ _ e]
  · rfl
theorem takS_known (σ : St) (l : Let) (i : Nat) : ∀ q ∈ (σ.nd i).known, q ∈ ((takS σ l).nd i).known := by
  intro q hq
  unfold takS
  split
  · by_cases e : i = l.rcv
    · subst e
      rw [St.set_same]
      unfold takenNd
      split
      · exact hq
      · exact List.mem_append_left _ hq
    · rw [St.set_ne _ _ e]; exact hq
  · exact hq
theorem takS_good (g : Good T kd k n c σ) (hl : l ∈ σ.ls) : Good T kd k n (c + 1) (takS σ l) ∧ (live (takS σ l)).Perm (live σ) := by
  unfold takS
  split
  · exact tkn_good g hl
  · exact ⟨g.mono (by omega), .refl _⟩
theorem takS_took (g : Good T kd k n c σ) (d : Disj σ) (hl : l ∈ σ.ls) : (l.snd, l.num) ∈ ((takS σ l).nd l.rcv).known := by
  obtain ⟨l1, l2, l3, l4, l5, l6⟩ := g.g3 l hl
  by_cases hk : (l.snd, l.num) ∈ (σ.nd l.rcv).known
  · exact takS_known σ l _ _ hk
  · have hpl : pend σ l = true := by unfold pend; simp [hk]
    have hlo := l5 hpl
    have hlm := mem_pendL l1 hlo hpl
    obtain ⟨n1, n2, n3⟩ := List.nodup_append.mp (live_nd g)
    have hm : meets l (σ.nd l.rcv) = false := meets_false.mpr fun x hx hh => by
      rcases hereP_mem.mp hh with ⟨p, h1, h2⟩ | ⟨y, h1, h2⟩
      · exact n3 x (List.mem_flatMap.mpr ⟨p, mem_heldP l2 h1, h2⟩) x (List.mem_flatMap.mpr ⟨l, hlm, hx⟩) rfl
      · have hne : l ≠ y := fun z => l3 ((congrArg Let.snd z).trans (g.g2 _ l2 y h1).1)
        exact d _ _ l1 l2 l hlo y h1 hne x hx h2
    unfold takS
    rw [if_pos (List.mem_map_of_mem hlo), St.set_same]
    unfold takenNd
    rw [decide_eq_false hk, hm]
    show (l.snd, l.num) ∈ (σ.nd l.rcv).known ++ [(l.snd, l.num)]
    simp
theorem takA_good : ∀ (ls : List Let) {σ : St} {c : Nat}, Good T kd k n c σ → Disj σ → (∀ l ∈ ls, l ∈ σ.ls) →
    Good T kd k n (c + ls.length) (takA σ ls) ∧ (live (takA σ ls)).Perm (live σ) ∧ (∀ i, ∀ q ∈ (σ.nd i).known, q ∈ ((takA σ ls).nd i).known) ∧ ∀ l ∈ ls, (l.snd, l.num) ∈ ((takA σ ls).nd l.rcv).known
  | [], _, _, g, _, _ => ⟨g, .refl _, fun _ _ h => h, by simp⟩
  | l :: r, σ, c, g, d, h => by
    have hl := h l List.mem_cons_self
    obtain ⟨h1, h2⟩ := takS_good g hl
    have d' : Disj (takS σ l) := fun i j hi hj x hx y hy => by
      rw [takS_out] at hx hy
      exact d i j hi hj x hx y hy
    obtain ⟨h3, h4, h5, h6⟩ := takA_good r h1 d' fun m hm => by rw [takS_ls]; exact h m (List.mem_cons_of_mem _ hm)
    refine ⟨h3.mono (by simp; omega), h4.trans h2, fun i q hq => h5 i q (takS_known σ l i q hq), fun m hm => ?_⟩
    rcases List.mem_cons.mp hm with rfl | hm
    · exact h5 _ _ (takS_took g d hl)
    · exact h6 m hm
theorem turn_good (g : Good T kd k n c σ) : Good T kd k n (c + σ.ls.length) (turnS σ) ∧ (live (turnS σ)).Perm (live σ) ∧ ∀ l ∈ (turnS σ).ls, (l.snd, l.num) ∈ ((turnS σ).nd l.rcv).known := by
  obtain ⟨h1, h2⟩ := confA_good σ.ls g fun _ h => h
  obtain ⟨h3, h4, _, h6⟩ := takA_good σ.ls h1 (disj_of h1 (confA_pend g)) fun l hl => by rw [confA_ls]; exact hl
  refine ⟨h3, by rw [← h2]; exact h4, fun l hl => ?_⟩
  rw [turnS_ls] at hl
  exact h6 l hl
theorem end_good : ∀ (m : Nat) {σ : St} {c : Nat}, Good T kd k n c σ → Good T kd k n (c + m * σ.ls.length) (endS m σ) ∧ (live (endS m σ)).Perm (live σ)
  | 0, _, _, g => ⟨g.mono (by omega), .refl _⟩
  | m + 1, σ, c, g => by
    obtain ⟨h1, h2, _⟩ := turn_good g
    obtain ⟨h4, h5⟩ := end_good m h1
    rw [turnS_ls] at h4
    refine ⟨h4.mono ?_, h5.trans h2⟩
    rw [Nat.add_mul]; omega
theorem end_known : ∀ (m : Nat) {σ : St} {c : Nat}, Good T kd k n c σ → ∀ l ∈ (endS (m + 1) σ).ls, (l.snd, l.num) ∈ ((endS (m + 1) σ).nd l.rcv).known
  | 0, σ, c, g => (turn_good g).2.2
  | m + 1, σ, c, g => end_known m (turn_good g).1
/-- at the end all that lives is held -/
theorem end_live (m : Nat) (g : Good T kd k n c σ) : (heldP (endS (m + 1) σ)).Perm (live σ) := by
  obtain ⟨h1, h2⟩ := end_good (m + 1) g
  have h3 := end_known m g
  refine List.Perm.trans ?_ h2
  have e : pendL (endS (m + 1) σ) = [] := by
    have key : ∀ i, i < 3 → ((endS (m + 1) σ).nd i).out.filter (pend (endS (m + 1) σ)) = [] := fun i hi => by
      rw [List.filter_eq_nil_iff]
      intro x hx
      have := h3 x (h1.g2 i hi x hx).2
      unfold pend
      simp [this]
    unfold pendL
    rw [key 0 (by decide), key 1 (by decide), key 2 (by decide)]
    rfl
  have := live_split (endS (m + 1) σ)
  rw [e, List.map_nil, List.append_nil] at this
  exact this.symm
end
end Sam
end
section
set_option Elab.async false
set_option linter.all false
set_option maxHeartbeats 1000000
namespace Sam
/-! ### the weights of a pick are few -/
def Tr.Sh {α : Type} : Tr α → Prop
  | .ret _ => True
  | .pick ws k => ws.length ≤ 24 ∧ ∀ i, i < ws.length → 0 < ws.getD i 0 → (k i).Sh
theorem Tr.Sh.bind {α β : Type} {P : α → Prop} {f : α → Tr β} (h : ∀ a, P a → (f a).Sh) : ∀ {t : Tr α}, t.Sh → t.All P → (t.bind f).Sh
  | .ret a, _, x => h a x
  | .pick ws k, s, x => ⟨s.1, fun i hi hp => Tr.Sh.bind h (s.2 i hi hp) (x i hi hp)⟩
theorem Tr.bind_assoc {α β γ : Type} (f : α → Tr β) (g : β → Tr γ) : ∀ t : Tr α, (t.bind f).bind g = t.bind fun a => (f a).bind g
  | .ret _ => rfl
  | .pick ws k => by
    show Tr.pick ws _ = Tr.pick ws _
    congr 1
    funext i
    exact Tr.bind_assoc f g (k i)
section
variable {I : Type} {w : I → Nat} {so : List I → List I}
theorem drawU_sh : ∀ (m na nb : Nat) (la lb f : List I), la.length ≤ 2 → lb.length ≤ 2 → (drawU m na nb la lb f).Sh
  | 0, _, _, _, _, f, _, _ => trivial
  | m + 1, na, nb, la, lb, f, ha, hb => by
    refine ⟨by simp, fun i hi _ => ?_⟩
    dsimp only
    split
    · refine ⟨by simp; omega, fun p hp _ => ?_⟩
      dsimp only
      split
      · exact drawU_sh m _ _ _ _ _ (Nat.le_trans (List.length_eraseIdx_le _ _) ha) hb
      · trivial
    · refine ⟨by simp; omega, fun p hp _ => ?_⟩
      dsimp only
      split
      · exact drawU_sh m _ _ _ _ _ ha (Nat.le_trans (List.length_eraseIdx_le _ _) hb)
      · trivial
theorem drawW_sh : ∀ (m na nb : Nat) (la lb f : List I), (drawW w m na nb la lb f).Sh
  | 0, _, _, _, _, f => trivial
  | m + 1, na, nb, la, lb, f => by
    unfold drawW
    split
    · trivial
    · refine ⟨by simp, fun i hi _ => ?_⟩
      dsimp only
      split
      · split
        · exact drawW_sh m _ _ _ _ _
        · trivial
      · split
        · exact drawW_sh m _ _ _ _ _
        · trivial
theorem merge_sh {kd : Bool} {k : Nat} {a b : Smp I} (va : Val w kd k a) (vb : Val w kd k b) : (merge w so kd k a b).Sh := by
  have ha := va.len
  have hb := vb.len
  unfold merge
  split
  · unfold mergeU
    exact Tr.Sh.bind (P := fun _ => True) (f := fun f => Tr.ret (⟨a.n + b.n, so f⟩ : Smp I)) (fun _ _ => trivial) (drawU_sh _ _ _ _ _ _ ha.1 hb.1) (Tr.All.true _)
  · unfold mergeW
    exact Tr.Sh.bind (P := fun _ => True) (f := fun f => Tr.ret (⟨a.n + b.n, f⟩ : Smp I)) (fun _ _ => trivial) (drawW_sh _ _ _ _ _ _) (Tr.All.true _)
end
/-- at most j merges -/
structure Cost {α : Type} (j : Nat) (t : Tr α) : Prop where
  ok : t.Ok (4 * j)
  few : t.Few (16 ^ j)
  sh : t.Sh
theorem Cost.ret {α : Type} (j : Nat) (a : α) : Cost j (Tr.ret a) := ⟨by cases h : 4 * j <;> simp [Tr.Ok], (Tr.Few.ret a).mono (Nat.one_le_pow _ _ (by decide)), trivial⟩
theorem Cost.bind {α β : Type} {P : α → Prop} {t : Tr α} {f : α → Tr β} {i j : Nat} (c : Cost i t) (x : t.All P) (h : ∀ a, P a → Cost j (f a)) : Cost (i + j) (t.bind f) := by
  refine ⟨?_, ?_, Tr.Sh.bind (fun a p => (h a p).sh) c.sh x⟩
  · rw [Nat.mul_add]
    exact Tr.Ok.bind (fun a p => (h a p).ok) c.ok x
  · rw [Nat.pow_add]
    exact c.few.bind x fun a p => (h a p).few
theorem Cost.mono {α : Type} {i j : Nat} {t : Tr α} (c : Cost i t) (h : i ≤ j) : Cost j t := ⟨c.ok.mono (by omega), c.few.mono (Nat.pow_le_pow_right (by decide) h), c.sh⟩
section
variable {T : Nat → Thing} {kd : Bool} {k n c : Nat} {σ : St}
abbrev WOk (T : Nat → Thing) : Prop := ∀ i, 1 ≤ (T i).w ∧ (T i).w ≤ 6
theorem sum_le6 {f : Nat → Nat} (h : ∀ i, f i ≤ 6) : ∀ l : List Nat, (l.map f).sum ≤ 6 * l.length
  | [] => by simp
  | x :: r => by
    have h1 := sum_le6 h r
    have h2 := h x
    simp only [List.map_cons, List.sum_cons, List.length_cons]
    omega
theorem two_le (hT : WOk T) {p q : Par} (hp : ParOk T kd k p) (hq : ParOk T kd k q) (hd : (p.ps ++ q.ps).Nodup) : p.smp.n + q.smp.n ≤ 24 := by
  have hf : ∀ i, (fun i => if kd then 1 else (T i).w) i ≤ 6 := fun i => by
    show (if kd then 1 else (T i).w) ≤ 6
    have := (hT i).2
    split <;> omega
  have h1 := sum_le6 hf p.ps
  have h2 := sum_le6 hf q.ps
  have h3 := nodup_lt 4 hd fun x hx => by
    rcases List.mem_append.mp hx with h | h
    · exact hp.lt x h
    · exact hq.lt x h
  rw [hp.n, hq.n]
  simp only [List.length_append] at h3
  omega
abbrev PhiT (T : Nat → Thing) (kd : Bool) (k : Nat) (l : List Par) (f : Smp Nat → Rat) : Rat := Phi (wT T) so kd k (l.map (·.smp)) f
theorem merged_law (hT : WOk T) {p q : Par} (hp : ParOk T kd k p) (hq : ParOk T kd k q) (hd : (p.ps ++ q.ps).Nodup) :
    Cost 1 (mergedT T kd k p q) ∧ ∀ (R : List Par) f, (mergedT T kd k p q).E (fun m => PhiT T kd k (m :: R) f) = PhiT T kd k (p :: q :: R) f := by
  have hs := two_le hT hp hq hd
  refine ⟨?_, fun R f => ?_⟩
  · have c1 : Cost 1 (merge (wT T) so kd k p.smp q.smp) := ⟨merge_ok soOk hp.val hq.val hs, merge_few hp.val hq.val, merge_sh hp.val hq.val⟩
    have := c1.bind (j := 0) (f := fun s => Tr.ret (⟨so (p.ps ++ q.ps), s⟩ : Par)) (Tr.All.true _) fun a _ => Cost.ret 0 _
    exact this
  · unfold mergedT
    rw [Tr.E_bind]
    exact merge_mean soOk hp.val hq.val hs (R.map (·.smp)) f
theorem keeps_Phi (hT : WOk T) (f : Smp Nat → Rat) : Keeps T kd k fun l => PhiT T kd k l f where
  perm := fun h => Phi_perm soOk (h.map _) f
  mean := fun hp hq hd => (merged_law hT hp hq hd).2 _ f
theorem mergeAll_law (hT : WOk T) : ∀ (n : Nat) (p : Par) (r : List Par), r.length = n → (∀ q ∈ p :: r, ParOk T kd k q) → ((p :: r).flatMap (·.ps)).Nodup →
    Cost n (mergeAllT T kd k n p r) ∧ (mergeAllT T kd k n p r).All (ParOk T kd k) ∧ ∀ f : Smp Nat → Rat, (mergeAllT T kd k n p r).E (fun m => f m.smp) = PhiT T kd k (p :: r) f
  | 0, p, r, hl, ho, hn => by
    have := List.eq_nil_of_length_eq_zero hl
    subst this
    exact ⟨Cost.ret 0 p, ho p List.mem_cons_self, fun f => rfl⟩
  | n + 1, p, [], hl, _, _ => by simp at hl
  | n + 1, p, q :: t, hl, ho, hn => by
    have hp := ho p (by simp)
    have hq := ho q (by simp)
    have hn2 := hn
    simp only [List.flatMap_cons] at hn2
    rw [← List.append_assoc] at hn2
    have hpq := (List.nodup_append.mp hn2).1
    obtain ⟨c1, m1⟩ := merged_law hT hp hq hpq
    have a1 := merged_all hp hq hpq
    have ho' : ∀ m, ParOk T kd k m ∧ m.ps = so (p.ps ++ q.ps) ∧ m.smp.n = p.smp.n + q.smp.n → ∀ y ∈ t ++ [m], ParOk T kd k y := fun m hm y hy => by
      rcases List.mem_append.mp hy with h | h
      · exact ho y (by simp [h])
      · rw [List.mem_singleton] at h; subst h; exact hm.1
    have hn' : ∀ m, ParOk T kd k m ∧ m.ps = so (p.ps ++ q.ps) ∧ m.smp.n = p.smp.n + q.smp.n → ((t ++ [m]).flatMap (·.ps)).Nodup := fun m hm => by
      have e : ((t ++ [m]).flatMap (·.ps)).Perm ((p.ps ++ q.ps) ++ t.flatMap (·.ps)) := by
        simp only [List.flatMap_append, List.flatMap_cons, List.flatMap_nil, List.append_nil]
        rw [hm.2.1]
        exact List.perm_append_comm.trans ((so_perm _).append_right _)
      exact e.symm.nodup hn2
    unfold mergeAllT
    cases t with
    | nil =>
      simp at hl
      subst hl
      refine ⟨c1.bind a1 (j := 0) fun m _ => Cost.ret 0 m, Tr.All.bind (fun m hm => hm.1) a1, fun f => ?_⟩
      rw [Tr.E_bind]
      exact m1 [] f
    | cons p' r' =>
      have hl' : r'.length + 1 = n := by simpa using hl
      have ih : ∀ m, ParOk T kd k m ∧ m.ps = so (p.ps ++ q.ps) ∧ m.smp.n = p.smp.n + q.smp.n → _ := fun m hm => mergeAll_law hT n p' (r' ++ [m]) (by simp; exact hl') (ho' m hm) (hn' m hm)
      refine ⟨by rw [Nat.add_comm]; exact c1.bind a1 fun m hm => (ih m hm).1, Tr.All.bind (fun m hm => (ih m hm).2.1) a1, fun f => ?_⟩
      rw [Tr.E_bind]
      refine Eq.trans (Tr.E_congr (P := fun m => ParOk T kd k m ∧ m.ps = so (p.ps ++ q.ps) ∧ m.smp.n = p.smp.n + q.smp.n) (fun m hm => ?_) a1) (m1 (p' :: r') f)
      refine ((ih m hm).2.2 f).trans ?_
      refine Phi_perm soOk ?_ f
      refine List.Perm.map _ ?_
      show (p' :: (r' ++ [m])).Perm (m :: p' :: r')
      exact List.perm_append_comm (l₁ := p' :: r') (l₂ := [m])
theorem live_ok (g : Good T kd k n c σ) : ∀ p ∈ live σ, ParOk T kd k p := fun p hp => by
  obtain ⟨i, hi, hp⟩ := List.mem_flatMap.mp hp
  have hi3 : i < 3 := List.mem_range.mp hi
  rcases List.mem_append.mp hp with h | h
  · exact (g.g1 i hi3).par p h
  · obtain ⟨l, hl, rfl⟩ := List.mem_map.mp h
    exact (g.g1 i hi3).out l (List.mem_filter.mp hl).1
theorem live_len (g : Good T kd k n c σ) (h1 : 1 ≤ n) : 1 ≤ (live σ).length ∧ (live σ).length ≤ n := by
  have h2 := g.g5.length_eq
  rw [List.length_range] at h2
  have h3 := len_le_flat (fun p : Par => p.ps) (l := live σ) fun p hp => (live_ok g p hp).ne
  refine ⟨?_, by omega⟩
  cases h : live σ with
  | nil => rw [h] at h2; simp at h2; omega
  | cons a t => simp
/-! ### the whole run -/
def deedsT (T : Nat → Thing) (kd : Bool) (k : Nat) : List Nat → St → Tr St
  | [], σ => .ret σ
  | num :: r, σ => (deedT T kd k (num + 7 * seen T σ) σ).bind (deedsT T kd k r)
def finT (T : Nat → Thing) (kd : Bool) (k : Nat) (σ : St) : Tr Par := match heldP σ with
  | [] => .ret ⟨[], ⟨0, []⟩⟩
  | p :: r => mergeAllT T kd k r.length p r
def runT (T : Nat → Thing) (kd : Bool) (k : Nat) (nums : List Nat) (σ : St) : Tr Par := (deedsT T kd k nums σ).bind fun τ => finT T kd k (endS (τ.ls.length + 1) τ)
theorem deed_cost (hT : WOk T) (g : Good T kd k n c σ) (num : Nat) : ∃ j, Cost j (deedT T kd k num σ) ∧ (deedT T kd k num σ).All fun σ' => (live σ').length + j = (live σ).length := by
  have hi : num % 3 < 3 := Nat.mod_lt _ (by decide)
  unfold deedT
  dsimp only
  split
  · rename_i h
    have hax : num / 15 % (σ.nd (num % 3)).pars.length < (σ.nd (num % 3)).pars.length := Nat.mod_lt _ (by omega)
    have hab := next_ne h.2 hax
    split
    · rename_i p q ha hb
      have hp := (g.g1 _ hi).par p (List.mem_of_getElem? ha)
      have hq := (g.g1 _ hi).par q (List.mem_of_getElem? hb)
      have hnd := pair_nodup g hi ha hb hab
      obtain ⟨R, r1, r2⟩ := mg_live (σ := σ) hi ha hb hab
      refine ⟨1, (merged_law hT hp hq hnd).1.bind (j := 0) (Tr.All.true _) fun m _ => Cost.ret 0 _, Tr.All.bind (P := fun _ => True) (fun m _ => ?_) (Tr.All.true _)⟩
      have e1 := r1.length_eq
      have e2 := (r2 m).length_eq
      simp only [List.length_cons] at e1 e2
      show (live _).length + 1 = _
      omega
    · exact ⟨0, Cost.ret 0 _, rfl⟩
  · split
    · rename_i h
      split
      · rename_i p hj
        obtain ⟨h1, h2⟩ := send_good g hi hj (Nat.mod_lt (num + 1) (by decide)) (show (num + 1) % 3 ≠ num % 3 by omega)
        exact ⟨0, Cost.ret 0 _, h2.length_eq⟩
      · exact ⟨0, Cost.ret 0 _, rfl⟩
    · split
      · exact ⟨0, Cost.ret 0 _, rfl⟩
      · rename_i l hl
        have hm := List.mem_of_getElem? hl
        split
        · rename_i hk
          have h1 := conf_good g hm
          unfold confS at h1
          rw [if_pos hk] at h1
          refine ⟨0, Cost.ret 0 _, ?_⟩
          show (live _).length = _
          rw [h1.2.1]
        · obtain ⟨h1, h2⟩ := tkn_good g hm
          exact ⟨0, Cost.ret 0 _, h2.length_eq⟩
theorem deeds_all : ∀ (nums : List Nat) {σ : St} {c : Nat}, Good T kd k n c σ → (deedsT T kd k nums σ).All (Good T kd k n (c + nums.length)) ∧ ∀ F, Keeps T kd k F → (deedsT T kd k nums σ).E (fun σ' => F (live σ')) = F (live σ)
  | [], σ, c, g => ⟨g, fun F _ => rfl⟩
  | num :: r, σ, c, g => by
    obtain ⟨h1, h2⟩ := deed_law g (num + 7 * seen T σ)
    have ih : ∀ τ, Good T kd k n (c + 1) τ → _ := fun τ hτ => deeds_all r hτ
    refine ⟨Tr.All.bind (fun τ hτ => ?_) h1, fun F hF => ?_⟩
    · have := (ih τ hτ).1
      rw [show c + 1 + r.length = c + (num :: r).length by simp; omega] at this
      exact this
    · unfold deedsT
      rw [Tr.E_bind]
      exact (Tr.E_congr (P := Good T kd k n (c + 1)) (fun τ hτ => (ih τ hτ).2 F hF) h1).trans (h2 F hF)
theorem deeds_cost (hT : WOk T) (h1 : 1 ≤ n) {β : Type} {f : St → Tr β} : ∀ (nums : List Nat) {σ : St} {c : Nat}, Good T kd k n c σ → (∀ τ, Good T kd k n (c + nums.length) τ → Cost ((live τ).length - 1) (f τ)) →
    Cost ((live σ).length - 1) ((deedsT T kd k nums σ).bind f)
  | [], σ, c, g, hf => hf σ g
  | num :: r, σ, c, g, hf => by
    obtain ⟨j, c1, a1⟩ := deed_cost hT g (num + 7 * seen T σ)
    have a2 := (deed_law g (num + 7 * seen T σ)).1
    unfold deedsT
    rw [Tr.bind_assoc]
    have := c1.bind (P := fun τ => Good T kd k n (c + 1) τ ∧ (live τ).length + j = (live σ).length) (j := (live σ).length - j - 1) (f := fun τ => (deedsT T kd k r τ).bind f) (a2.and a1) fun τ hτ => by
      have := deeds_cost hT h1 (f := f) r hτ.1 fun υ hυ => hf υ (by rw [show c + (num :: r).length = c + 1 + r.length by simp; omega]; exact hυ)
      rw [show (live σ).length - j - 1 = (live τ).length - 1 by omega]
      exact this
    by_cases hj : j ≤ (live σ).length - 1
    · rw [show j + ((live σ).length - j - 1) = (live σ).length - 1 by omega] at this
      exact this
    · -- no outcome at all is left
      exfalso
      have : ∀ {α : Type} {d : Nat} {P : α → Prop} (t : Tr α), t.Ok d → t.All P → ∃ a, P a := by
        intro α d P t
        induction t generalizing d with
        | ret a => exact fun _ x => ⟨a, x⟩
        | pick ws k ih =>
          intro o x
          cases d with
          | zero => exact False.elim o
          | succ d =>
            obtain ⟨i, hi⟩ := sum_pos_nxt o.1
            obtain ⟨_, a, b, _⟩ := nxt_spec hi
            exact ih i (o.2.2 i a b) (x i a b)
      obtain ⟨τ, hτ⟩ := this _ c1.ok (a2.and a1)
      have := (live_len hτ.1 h1).1
      omega
theorem fin_law (hT : WOk T) (h1 : 1 ≤ n) (g : Good T kd k n c σ) (m : Nat) :
    Cost ((live σ).length - 1) (finT T kd k (endS (m + 1) σ)) ∧ (finT T kd k (endS (m + 1) σ)).All (ParOk T kd k) ∧ ∀ f : Smp Nat → Rat, (finT T kd k (endS (m + 1) σ)).E (fun m => f m.smp) = PhiT T kd k (live σ) f := by
  have hp := end_live m g
  have hl := hp.length_eq
  have h2 := (live_len g h1).1
  have hnd := (flat_perm (fun p : Par => p.ps) hp.symm).nodup (g.g5.symm.nodup List.nodup_range)
  unfold finT
  cases e : heldP (endS (m + 1) σ) with
  | nil => rw [e] at hl; simp at hl; omega
  | cons p r =>
    rw [e] at hp hl hnd
    have hr : r.length = (live σ).length - 1 := by simp at hl; omega
    obtain ⟨c1, a1, m1⟩ := mergeAll_law hT r.length p r rfl (fun q hq => live_ok g q (hp.subset hq)) hnd
    rw [← hr]
    exact ⟨c1, a1, fun f => (m1 f).trans (Phi_perm soOk (hp.map _) f)⟩
theorem run_law (hT : WOk T) (h1 : 1 ≤ n) (g : Good T kd k n c σ) (nums : List Nat) :
    Cost 3 (runT T kd k nums σ) ∧ (runT T kd k nums σ).All (ParOk T kd k) ∧ ∀ f : Smp Nat → Rat, (runT T kd k nums σ).E (fun m => f m.smp) = PhiT T kd k (live σ) f := by
  obtain ⟨a1, m1⟩ := deeds_all nums g
  have h4 := (live_len g h1).2
  have h5 := g.g7
  refine ⟨(deeds_cost hT h1 nums g fun τ hτ => (fin_law hT h1 hτ _).1).mono (by omega), Tr.All.bind (fun τ hτ => (fin_law hT h1 hτ _).2.1) a1, fun f => ?_⟩
  unfold runT
  rw [Tr.E_bind]
  exact (Tr.E_congr (P := Good T kd k n (c + nums.length)) (fun τ hτ => (fin_law hT h1 hτ _).2.2 f) a1).trans (m1 _ (keeps_Phi hT f))
end
end Sam
end
section
set_option Elab.async false
set_option linter.all false
set_option maxHeartbeats 1000000
namespace Sam
/-! ### the net at first -/
def singP (T : Nat → Thing) (kd : Bool) (j : Nat) : Par := ⟨[j], ⟨oneOf T kd j, [j]⟩⟩
def mineL (n : Nat) (pl : Nat → Nat) (i : Nat) : List Nat := (List.range n).filter fun j => decide (pl j = i)
def initN (T : Nat → Thing) (kd : Bool) (n : Nat) (pl : Nat → Nat) (i : Nat) : Nd := ⟨(mineL n pl i).map (singP T kd), [], 0, []⟩
def initS (T : Nat → Thing) (kd : Bool) (n : Nat) (pl : Nat → Nat) : St := ⟨initN T kd n pl, []⟩
section
variable {T : Nat → Thing} {kd : Bool} {k n : Nat} {pl : Nat → Nat}
theorem sing_ok (hT : WOk T) (hk : k = 1 ∨ k = 2) {j : Nat} (hj : j < 4) : ParOk T kd k (singP T kd j) where
  val := by
    have h1 := (hT j).1
    rcases hk with rfl | rfl <;> cases kd
    · exact .w1 _ _ (Nat.le_refl _) h1
    · exact .u1 _ _ (Nat.le_refl _)
    · exact .w2s _ h1
    · exact .u2s _
  ne := by simp [singP]
  sub := fun x hx => hx
  nd := by simp [singP]
  lt := fun i hi => by
    have : i = j := by simpa [singP] using hi
    omega
  n := by simp [singP, oneOf]
theorem flat_sing (l : List Nat) : (l.map (singP T kd)).flatMap (·.ps) = l := by
  induction l with
  | nil => rfl
  | cons x r ih => rw [List.map_cons, List.flatMap_cons, ih]; rfl
theorem three_perm (hp : ∀ j, j < n → pl j < 3) : (mineL n pl 0 ++ (mineL n pl 1 ++ mineL n pl 2)).Perm (List.range n) := by
  have key : ∀ l : List Nat, (∀ j ∈ l, pl j < 3) → (l.filter (fun j => decide (pl j = 0)) ++ (l.filter (fun j => decide (pl j = 1)) ++ l.filter (fun j => decide (pl j = 2)))).Perm l := by
    intro l
    induction l with
    | nil => intro _; exact .refl _
    | cons x r ih =>
      intro h
      have h3 := h x List.mem_cons_self
      have ih' := ih fun j hj => h j (List.mem_cons_of_mem _ hj)
      have : pl x = 0 ∨ pl x = 1 ∨ pl x = 2 := by omega
      rcases this with e | e | e
      · rw [List.filter_cons_of_pos (by simp [e]), List.filter_cons_of_neg (by simp [e]), List.filter_cons_of_neg (by simp [e])]
        exact ih'.cons x
      · rw [List.filter_cons_of_neg (by simp [e]), List.filter_cons_of_pos (by simp [e]), List.filter_cons_of_neg (by simp [e])]
        exact List.perm_middle.trans (ih'.cons x)
      · rw [List.filter_cons_of_neg (by simp [e]), List.filter_cons_of_neg (by simp [e]), List.filter_cons_of_pos (by simp [e])]
        refine List.Perm.trans ?_ (ih'.cons x)
        rw [← List.append_assoc, ← List.append_assoc]
        exact List.perm_middle
  exact key (List.range n) fun j hj => hp j (List.mem_range.mp hj)
theorem live_init (hp : ∀ j, j < n → pl j < 3) : (live (initS T kd n pl)).Perm ((List.range n).map (singP T kd)) := by
  have e : live (initS T kd n pl) = (mineL n pl 0 ++ (mineL n pl 1 ++ mineL n pl 2)).map (singP T kd) := by
    show (liveN _ 0 ++ (liveN _ 1 ++ (liveN _ 2 ++ []))) = _
    simp only [List.map_append, List.append_nil, liveN, initS, initN, List.filter_nil, List.map_nil]
  rw [e]
  exact (three_perm hp).map _
theorem init_good (hT : WOk T) (hk : k = 1 ∨ k = 2) (hn : n ≤ 4) (hp : ∀ j, j < n → pl j < 3) : Good T kd k n 0 (initS T kd n pl) where
  g1 := fun i hi => by
    refine ⟨fun p hp => ?_, by simp [initS, initN], ?_, by simp [initS, initN], by simp [initS, initN], by simp [initS, initN]⟩
    · obtain ⟨j, hj, rfl⟩ := List.mem_map.mp hp
      have := List.mem_range.mp (List.mem_filter.mp hj).1
      exact sing_ok hT hk (by omega)
    · unfold hereP initS initN
      simp only [List.map_nil, List.append_nil]
      rw [flat_sing]
      exact List.nodup_range.filter _
  g2 := by simp [initS, initN]
  g3 := by simp [initS]
  g4 := by simp [initS]
  g5 := by
    have := flat_perm (fun p : Par => p.ps) (live_init (T := T) (kd := kd) hp)
    rw [flat_sing] at this
    exact this
  g6 := by simp [initS]
  g7 := hn
  g8 := by simp [initS]
  g9 := by simp [initS, initN]
end
end Sam
end
section
set_option Elab.async false
set_option linter.all false
set_option maxHeartbeats 1000000
namespace Sam
section
variable {T : Nat → Thing} {kd : Bool} {k n : Nat}
theorem mk_one (n : Nat) : mkRat 1 n = 1 / (n : Rat) := by
  have := Rat.mkRat_eq_div 1 n
  simpa using this
theorem phi_unif (hk : k = 1 ∨ k = 2) (h1 : 1 ≤ n) (h4 : n ≤ 4) (f : Smp Nat → Rat) : PhiT T true k ((List.range n).map (singP T true)) f = sumR ((unifRows n k).map fun r => r.2 * f r.1) := by
  have e : (List.range n).map (singP T true) = (List.range n).map fun j => ⟨[j], ⟨1, [j]⟩⟩ := rfl
  have o := soOk.one
  rcases hk with rfl | rfl
  · match n, h1, h4 with
    | 1, _, _ =>
      have s : setsM (List.range 1) (min 1 1) = [[0]] := by decide +kernel
      unfold unifRows
      rw [s, mk_one]
      simp [PhiT, Phi, singP, List.range_succ, sumR, o, oneOf]
      grind
    | 2, _, _ =>
      have s : setsM (List.range 2) (min 1 2) = [[0], [1]] := by decide +kernel
      unfold unifRows
      rw [s, mk_one]
      simp [PhiT, Phi, singP, List.range_succ, sumR, o, oneOf, QQ, q1, q2, zz, tot]
      grind
    | 3, _, _ =>
      have s : setsM (List.range 3) (min 1 3) = [[0], [1], [2]] := by decide +kernel
      unfold unifRows
      rw [s, mk_one]
      simp [PhiT, Phi, singP, List.range_succ, sumR, o, oneOf, QQ, q1, q2, zz, tot]
      grind
    | 4, _, _ =>
      have s : setsM (List.range 4) (min 1 4) = [[0], [1], [2], [3]] := by decide +kernel
      unfold unifRows
      rw [s, mk_one]
      simp [PhiT, Phi, singP, List.range_succ, sumR, o, oneOf, QQ, q1, q2, zz, tot]
      grind
  · match n, h1, h4 with
    | 1, _, _ =>
      have s : setsM (List.range 1) (min 2 1) = [[0]] := by decide +kernel
      unfold unifRows
      rw [s, mk_one]
      simp [PhiT, Phi, singP, List.range_succ, sumR, o, oneOf]
      grind
    | 2, _, _ =>
      have s : setsM (List.range 2) (min 2 2) = [[0, 1]] := by decide +kernel
      unfold unifRows
      rw [s, mk_one]
      simp [PhiT, Phi, singP, List.range_succ, sumR, o, oneOf, QQ, q1, q2, zz, tot, Au, Bu]
      grind
    | 3, _, _ =>
      have s : setsM (List.range 3) (min 2 3) = [[0, 1], [0, 2], [1, 2]] := by decide +kernel
      unfold unifRows
      rw [s, mk_one]
      simp [PhiT, Phi, singP, List.range_succ, sumR, o, oneOf, QQ, q1, q2, zz, tot, Au, Bu]
      grind
    | 4, _, _ =>
      have s : setsM (List.range 4) (min 2 4) = [[0, 1], [0, 2], [1, 2], [0, 3], [1, 3], [2, 3]] := by decide +kernel
      unfold unifRows
      rw [s, mk_one]
      simp [PhiT, Phi, singP, List.range_succ, sumR, o, oneOf, QQ, q1, q2, zz, tot, Au, Bu]
      grind
theorem mk_div (a b : Nat) : mkRat (a : Int) b = (a : Rat) / (b : Rat) := by
  have := Rat.mkRat_eq_div (a : Int) b
  rw [this]
  rfl
theorem tot_sing (l : List Nat) : tot ((l.map (singP T false)).map (·.smp)) = wSum T l := by
  unfold tot wSum
  rw [List.map_map, List.map_map]
  rfl
theorem wSum_mem {l : List Nat} {i : Nat} (h : i ∈ l) : (T i).w ≤ wSum T l := by
  induction l with
  | nil => simp at h
  | cons x r ih =>
    unfold wSum at ih ⊢
    rw [List.map_cons, List.sum_cons]
    rcases List.mem_cons.mp h with rfl | h
    · omega
    · have := ih h; omega
theorem phi_weig (hT : WOk T) (hk : k = 1 ∨ k = 2) (h1 : 1 ≤ n) (h4 : n ≤ 4) (f : Smp Nat → Rat) : PhiT T false k ((List.range n).map (singP T false)) f = sumR ((weigRows T n k).map fun r => r.2 * f r.1) := by
  have ht := tot_sing (T := T) (List.range n)
  have hw : ∀ i, i < n → (T i).w ≤ wSum T (List.range n) := fun i hi => wSum_mem (List.mem_range.mpr hi)
  have w0 := cast_ne (hT 0).1
  match n, h1, h4 with
  | 1, _, _ =>
    have hW : wSum T (List.range 1) = (T 0).w := by simp [wSum, List.range_succ]
    unfold weigRows
    rw [hW]
    rcases hk with rfl | rfl
    · simp [PhiT, Phi, singP, List.range_succ, sumR, oneOf, ordersM, mk_div]
      grind
    · simp [PhiT, Phi, singP, List.range_succ, sumR, oneOf, ordersM, mk_div]
      grind
  | 2, _, _ =>
    unfold weigRows
    have c := fun i hi => cast_sub (hw i hi)
    have a0 := c 0 (by decide); have a1 := c 1 (by decide)
    unfold PhiT
    rw [Phi_of (by simp), ht]
    generalize wSum T (List.range 2) = W at *
    rcases hk with rfl | rfl
    · simp [singP, List.range_succ, sumR, oneOf, ordersM, mk_div, QQ, q1, q2, zz]
      grind
    · simp [singP, List.range_succ, sumR, oneOf, ordersM, mk_div, QQ, q1, q2, zz, Cw, Dw, a0, a1]
      grind
  | 3, _, _ =>
    unfold weigRows
    have c := fun i hi => cast_sub (hw i hi)
    have a0 := c 0 (by decide); have a1 := c 1 (by decide); have a2 := c 2 (by decide)
    unfold PhiT
    rw [Phi_of (by simp), ht]
    generalize wSum T (List.range 3) = W at *
    rcases hk with rfl | rfl
    · simp [singP, List.range_succ, sumR, oneOf, ordersM, mk_div, QQ, q1, q2, zz]
      grind
    · simp [singP, List.range_succ, sumR, oneOf, ordersM, mk_div, QQ, q1, q2, zz, Cw, Dw, a0, a1, a2]
      grind
  | 4, _, _ =>
    unfold weigRows
    have c := fun i hi => cast_sub (hw i hi)
    have a0 := c 0 (by decide); have a1 := c 1 (by decide); have a2 := c 2 (by decide); have a3 := c 3 (by decide)
    unfold PhiT
    rw [Phi_of (by simp), ht]
    generalize wSum T (List.range 4) = W at *
    rcases hk with rfl | rfl
    · simp [singP, List.range_succ, sumR, oneOf, ordersM, mk_div, QQ, q1, q2, zz]
      grind
    · simp [singP, List.range_succ, sumR, oneOf, ordersM, mk_div, QQ, q1, q2, zz, Cw, Dw, a0, a1, a2, a3]
      grind
end
end Sam
end
section
set_option Elab.async false
set_option linter.all false
set_option maxHeartbeats 1000000
namespace Sam
section
variable {T : Nat → Thing} {kd : Bool} {k n : Nat}
theorem phi_plain (hT : WOk T) (hk : k = 1 ∨ k = 2) (h1 : 1 ≤ n) (h4 : n ≤ 4) (f : Smp Nat → Rat) : PhiT T kd k ((List.range n).map (singP T kd)) f = sumR ((plainRows T kd n k).map fun r => r.2 * f r.1) := by
  cases kd with
  | true => exact phi_unif hk h1 h4 f
  | false => exact phi_weig hT hk h1 h4 f
/-- rows with different outcomes, of chances that are not 0 -/
structure RowsD (l : List Row) : Prop where
  nd : (l.map (·.1)).Nodup
  ne : ∀ r ∈ l, r.2 ≠ 0
  lt : ∀ r ∈ l, ∀ i ∈ r.1.kept, i < 4
theorem orders_pos (hT : WOk T) : ∀ (m : Nat) (is : List Nat) (left : Nat), is.Nodup → wSum T is = left → ∀ p ∈ ordersM T m is left, 0 < p.2
  | 0, is, left, _, _, p, hp => by
    have : p = ([], 1) := by simpa [ordersM] using hp
    subst this
    show (0 : Rat) < 1
    decide +kernel
  | m + 1, [], left, _, _, p, hp => by
    have : p = ([], 1) := by simpa [ordersM] using hp
    subst this
    show (0 : Rat) < 1
    decide +kernel
  | m + 1, x :: r, left, hn, hw, p, hp => by
    obtain ⟨i, hi, hp⟩ := List.mem_flatMap.mp hp
    obtain ⟨q, hq, rfl⟩ := List.mem_map.mp hp
    have hf := wSum_filter T hn hi
    have hwi := (hT i).1
    have ih := orders_pos hT m _ _ (hn.filter _) (by omega) q hq
    show 0 < mkRat ((T i).w : Int) left * q.2
    refine Rat.mul_pos ?_ ih
    rw [mk_div, Rat.div_def]
    have c : ∀ a : Nat, 1 ≤ a → (0 : Rat) < (a : Rat) := fun a ha => by
      have : (0 : Nat) < a := ha
      exact_mod_cast Rat.natCast_pos.mpr this
    exact Rat.mul_pos (c _ hwi) (Rat.inv_pos.mpr (c _ (by omega)))
theorem unif_d (hk : k = 1 ∨ k = 2) (h1 : 1 ≤ n) (h4 : n ≤ 4) : RowsD (unifRows n k) := by
  have hne : ∀ r ∈ unifRows n k, r.2 ≠ 0 := fun r hr => by
    obtain ⟨s, hs, rfl⟩ := List.mem_map.mp hr
    have hl := List.length_pos_of_mem hs
    show mkRat 1 _ ≠ 0
    rw [mk_one]
    have := cast_ne (n := (setsM (List.range n) (min k n)).length) hl
    grind
  have key : ((unifRows n k).map (·.1)).Nodup ∧ ∀ s ∈ (unifRows n k).map (·.1), ∀ i ∈ s.kept, i < 4 := by
    have so2 : ∀ a b : Nat, a ≤ b → so [a, b] = [a, b] := fun a b h => by
      unfold so
      rw [List.mergeSort_of_pairwise]
      simp [h]
    have so1 := soOk.one
    rcases hk with rfl | rfl
    · match n, h1, h4 with
      | 1, _, _ =>
        have s : setsM (List.range 1) (min 1 1) = [[0]] := by decide +kernel
        unfold unifRows; rw [s]; simp [so1]
      | 2, _, _ =>
        have s : setsM (List.range 2) (min 1 2) = [[0], [1]] := by decide +kernel
        unfold unifRows; rw [s]; simp [so1]
      | 3, _, _ =>
        have s : setsM (List.range 3) (min 1 3) = [[0], [1], [2]] := by decide +kernel
        unfold unifRows; rw [s]; simp [so1]
      | 4, _, _ =>
        have s : setsM (List.range 4) (min 1 4) = [[0], [1], [2], [3]] := by decide +kernel
        unfold unifRows; rw [s]; simp [so1]
    · match n, h1, h4 with
      | 1, _, _ =>
        have s : setsM (List.range 1) (min 2 1) = [[0]] := by decide +kernel
        unfold unifRows; rw [s]; simp [so1]
      | 2, _, _ =>
        have s : setsM (List.range 2) (min 2 2) = [[0, 1]] := by decide +kernel
        unfold unifRows; rw [s]; simp [so2]
      | 3, _, _ =>
        have s : setsM (List.range 3) (min 2 3) = [[0, 1], [0, 2], [1, 2]] := by decide +kernel
        unfold unifRows; rw [s]; simp [so2]
      | 4, _, _ =>
        have s : setsM (List.range 4) (min 2 4) = [[0, 1], [0, 2], [1, 2], [0, 3], [1, 3], [2, 3]] := by decide +kernel
        unfold unifRows; rw [s]; simp [so2]
  exact ⟨key.1, hne, fun r hr => key.2 r.1 (List.mem_map_of_mem hr)⟩
theorem weig_d (hT : WOk T) (hk : k = 1 ∨ k = 2) (h1 : 1 ≤ n) (h4 : n ≤ 4) : RowsD (weigRows T n k) := by
  have hne : ∀ r ∈ weigRows T n k, r.2 ≠ 0 := fun r hr => by
    obtain ⟨p, hp, rfl⟩ := List.mem_map.mp hr
    have := orders_pos hT k (List.range n) _ List.nodup_range rfl p hp
    show p.2 ≠ 0
    grind
  have key : ∀ W left : Nat, (((ordersM T k (List.range n) left).map fun p : Ord => (⟨W, p.1⟩ : Smp Nat))).Nodup ∧ ∀ s ∈ ((ordersM T k (List.range n) left).map fun p : Ord => (⟨W, p.1⟩ : Smp Nat)), ∀ i ∈ s.kept, i < 4 := by
    intro W left
    rcases hk with rfl | rfl <;> (match n, h1, h4 with
      | 1, _, _ => simp [ordersM, List.range_succ]
      | 2, _, _ => simp [ordersM, List.range_succ]
      | 3, _, _ => simp [ordersM, List.range_succ]
      | 4, _, _ => simp [ordersM, List.range_succ])
  have e : (weigRows T n k).map (·.1) = (ordersM T k (List.range n) (wSum T (List.range n))).map fun p : Ord => (⟨wSum T (List.range n), p.1⟩ : Smp Nat) := by
    unfold weigRows
    rw [List.map_map]
    rfl
  refine ⟨by rw [e]; exact (key _ _).1, hne, fun r hr => ?_⟩
  have := List.mem_map_of_mem (f := fun r : Row => r.1) hr
  rw [e] at this
  exact (key _ _).2 r.1 this
theorem plain_d (hT : WOk T) (hk : k = 1 ∨ k = 2) (h1 : 1 ≤ n) (h4 : n ≤ 4) : RowsD (plainRows T kd n k) := by
  cases kd with
  | true => exact unif_d hk h1 h4
  | false => exact weig_d hT hk h1 h4
end
end Sam
end
section
set_option Elab.async false
set_option linter.all false
set_option maxHeartbeats 1000000
namespace Sam
open PySem PySem.W PyProof.Rows
/-! ### the order of data is an order -/
def dLe (a b : PyData) : Bool := !dataLt b a
theorem dLe_trans (a b c : PyData) (h1 : dLe a b = true) (h2 : dLe b c = true) : dLe a c = true := by
  unfold dLe at *
  cases h : dataLt c a with
  | false => rfl
  | true =>
    rcases lex_negTrans (O := itemOrd) (keyToks c) (keyToks b) (keyToks a) h with e | e
    · have : dataLt c b = true := e
      rw [this] at h2; cases h2
    · have : dataLt b a = true := e
      rw [this] at h1; cases h1
theorem dLe_total (a b : PyData) : (dLe a b || dLe b a) = true := by
  unfold dLe
  cases h : dataLt b a with
  | false => rfl
  | true =>
    cases h2 : dataLt a b with
    | false => rfl
    | true =>
      have := lex_trans (O := itemOrd) _ _ _ h h2
      rw [lex_irrefl] at this
      cases this
theorem dLe_anti {a b : PyData} (h1 : dLe a b = true) (h2 : dLe b a = true) : keyToks a = keyToks b := by
  unfold dLe at *
  simp only [Bool.not_eq_true'] at h1 h2
  exact lex_total (O := itemOrd) _ _ h2 h1
section
variable {T : Nat → Thing} {kd : Bool} {k n : Nat}
theorem toks_items : ∀ {a b : List Nat}, (∀ i ∈ a, i < 4) → (∀ i ∈ b, i < 4) → keyToksAll (NestedKey.datas (a.map (itNk T))) = keyToksAll (NestedKey.datas (b.map (itNk T))) → a = b
  | [], [], _, _, _ => rfl
  | [], _ :: _, _, _, h => by simp [NestedKey.datas, keyToksAll] at h
  | _ :: _, [], _, _, h => by simp [NestedKey.datas, keyToksAll] at h
  | x :: a, y :: b, ha, hb, h => by
    simp only [List.map_cons, NestedKey.datas, keyToksAll, itNk, NestedKey.data, keyToks, List.cons_append, List.nil_append, List.cons.injEq, true_and, Sum.inr.injEq, Sum.inl.injEq] at h
    obtain ⟨h1, h2, h3, h4, h5⟩ := h
    have e1 : x = y := kNm_inj (ha x List.mem_cons_self) (hb y List.mem_cons_self) (str_of_cps h1)
    have e2 := toks_items (fun i hi => ha i (List.mem_cons_of_mem _ hi)) (fun i hi => hb i (List.mem_cons_of_mem _ hi)) h5
    rw [e1, e2]
theorem toks_vw {s t : Smp Nat} (hs : ∀ i ∈ s.kept, i < 4) (ht : ∀ i ∈ t.kept, i < 4) (h : keyToks (vwNk T k s).data = keyToks (vwNk T k t).data) : s = t := by
  simp only [vwNk, NestedKey.data, NestedKey.datas, keyToks, keyToksAll, List.cons_append, List.nil_append, List.cons.injEq, true_and, Sum.inl.injEq] at h
  obtain ⟨h1, h2⟩ := h
  have e : keyToksAll (NestedKey.datas (s.kept.map (itNk T))) = keyToksAll (NestedKey.datas (t.kept.map (itNk T))) := List.append_cancel_right h2
  have e2 := toks_items hs ht e
  have e1 : s.n = t.n := by omega
  cases s; cases t
  simp only at e1 e2
  rw [e1, e2]
theorem leRow_leS {a b : Row} (ha : ∀ i ∈ a.1.kept, i < 4) (hb : ∀ i ∈ b.1.kept, i < 4) (h : a.1 ≠ b.1) : leRow T k a b = leS T k a.1 b.1 := by
  unfold leRow leS rowD
  rw [dataLt_pair (alike_vw b.1 a.1) (by simp [frD, alike, alikeAll])]
  cases e : PyData.eqv (vwNk T k b.1).data (vwNk T k a.1).data with
  | false => rfl
  | true => exact absurd (toks_vw hb ha ((toks_eqv _ _ (alike_vw b.1 a.1)).1 e)).symm h
theorem sumAt_d : ∀ {l : List Row}, (l.map (·.1)).Nodup → ∀ r ∈ l, sumAt l r.1 = r.2
  | [], _, _, h => by simp at h
  | a :: t, hn, r, hr => by
    rw [List.map_cons, List.nodup_cons] at hn
    have e : sumAt (a :: t) r.1 = (if a.1 = r.1 then a.2 else 0) + sumAt t r.1 := by
      unfold sumAt
      by_cases h : a.1 = r.1
      · simp [h, sumR]
      · simp [h]; grind
    rw [e]
    rcases List.mem_cons.mp hr with rfl | hr
    · rw [if_pos rfl, sumAt_out, Rat.add_zero]
      intro hk
      obtain ⟨x, hx, hx2⟩ := ((keysOf_spec t).2.1 r.1).mp hk
      exact hn.1 (hx2 ▸ List.mem_map_of_mem hx)
    · have hne : a.1 ≠ r.1 := fun z => hn.1 (z ▸ List.mem_map_of_mem hr)
      rw [if_neg hne, sumAt_d hn.2 r hr, Rat.zero_add]
theorem lawR_eq {L M : List Row} (hM : RowsD M) (hL : ∀ r ∈ L, ∀ i ∈ r.1.kept, i < 4) (h : ∀ s, sumAt L s = sumAt M s) : lawR T k L = M.mergeSort (leRow T k) := by
  obtain ⟨kn1, kn2, _⟩ := keysOf_spec L
  obtain ⟨mn1, mn2, _⟩ := keysOf_spec M
  have srt := List.pairwise_mergeSort (le := leS T k) (fun a b c h1 h2 => dLe_trans _ _ _ h1 h2) (fun a b => dLe_total _ _) (keysOf L)
  have prm := List.mergeSort_perm (keysOf L) (leS T k)
  have hk4 : ∀ s ∈ keysOf L, ∀ i ∈ s.kept, i < 4 := fun s hs => by
    obtain ⟨r, hr, rfl⟩ := (kn2 s).mp hs
    exact hL r hr
  unfold lawR
  have hnd : ((keysOf L).mergeSort (leS T k)).Nodup := prm.symm.nodup kn1
  -- the same keys
  have pk : (((keysOf L).mergeSort (leS T k)).filter fun s => decide (sumAt L s ≠ 0)).Perm (M.map (·.1)) := by
    refine (List.perm_ext_iff_of_nodup (hnd.filter _) hM.nd).mpr fun s => ?_
    constructor
    · intro hs
      obtain ⟨_, h2⟩ := List.mem_filter.mp hs
      have h3 : sumAt M s ≠ 0 := by rw [← h]; exact of_decide_eq_true h2
      have h4 : s ∈ keysOf M := Classical.byContradiction fun z => h3 (sumAt_out z)
      obtain ⟨r, hr, rfl⟩ := (mn2 s).mp h4
      exact List.mem_map_of_mem hr
    · intro hs
      obtain ⟨r, hr, rfl⟩ := List.mem_map.mp hs
      have h3 : sumAt L r.1 ≠ 0 := by rw [h, sumAt_d hM.nd r hr]; exact hM.ne r hr
      refine List.mem_filter.mpr ⟨prm.symm.subset (Classical.byContradiction fun z => h3 (sumAt_out z)), decide_eq_true h3⟩
  have pr : ((((keysOf L).mergeSort (leS T k)).filter fun s => decide (sumAt L s ≠ 0)).map fun s => (s, sumAt L s)).Perm M := by
    refine (pk.map fun s => (s, sumAt L s)).trans ?_
    rw [List.map_map]
    have e : M.map ((fun s => (s, sumAt L s)) ∘ fun r : Row => r.1) = M.map id := List.map_congr_left fun r hr => by
      show (r.1, sumAt L r.1) = r
      rw [h, sumAt_d hM.nd r hr]
    rw [e, List.map_id]
  have ps : ((((keysOf L).mergeSort (leS T k)).filter fun s => decide (sumAt L s ≠ 0)).map fun s => (s, sumAt L s)).Pairwise fun a b => leRow T k a b = true := by
    rw [List.pairwise_map]
    have h1 := (srt.and hnd).filter fun s => decide (sumAt L s ≠ 0)
    refine List.Pairwise.imp_of_mem (fun {a b} ha hb hab => ?_) h1
    have ma := prm.subset (List.mem_filter.mp ha).1
    have mb := prm.subset (List.mem_filter.mp hb).1
    rw [leRow_leS (hk4 a ma) (hk4 b mb) hab.2]
    exact hab.1
  have qs := List.pairwise_mergeSort (le := leRow T k) (fun a b c h1 h2 => dLe_trans _ _ _ h1 h2) (fun a b => dLe_total _ _) M
  refine List.Perm.eq_of_pairwise (le := fun a b => leRow T k a b = true) (fun a b ha hb h1 h2 => ?_) ps qs (pr.trans (List.mergeSort_perm M _).symm)
  have ma := pr.subset ha
  have mb := (List.mergeSort_perm M _).subset hb
  by_cases e : a.1 = b.1
  · have s1 := sumAt_d hM.nd a ma
    have s2 := sumAt_d hM.nd b mb
    exact Prod.ext e (by rw [← s1, ← s2, e])
  · exfalso
    rw [leRow_leS (hM.lt a ma) (hM.lt b mb) e] at h1
    rw [leRow_leS (hM.lt b mb) (hM.lt a ma) (Ne.symm e)] at h2
    exact e (toks_vw (hM.lt a ma) (hM.lt b mb) (dLe_anti (a := (vwNk T k a.1).data) (b := (vwNk T k b.1).data) h1 h2))
end
end Sam
end
section
set_option Elab.async false
set_option linter.all false
set_option maxHeartbeats 1000000
namespace Sam
/-! ### the rows of all runs -/
def rowOf (p : Par × Rat) : Row := (p.1.smp, p.2)
def leavesR (t : Tr Par) : List Row := (t.leaves 1).map rowOf
theorem sumAt_ind (s : Smp Nat) : ∀ l : List Row, sumAt l s = sumR (l.map fun r => r.2 * (if r.1 = s then 1 else 0))
  | [] => rfl
  | a :: t => by
    have e : sumAt (a :: t) s = (if a.1 = s then a.2 else 0) + sumAt t s := by
      unfold sumAt
      by_cases h : a.1 = s
      · simp [h, sumR]
      · simp [h]; grind
    rw [e, sumAt_ind s t]
    simp only [List.map_cons, sumR]
    by_cases h : a.1 = s
    · simp [h]
    · simp [h]
theorem leavesR_sum (t : Tr Par) (s : Smp Nat) : sumAt (leavesR t) s = t.E fun p => if p.smp = s then 1 else 0 := by
  rw [sumAt_ind]
  unfold leavesR
  rw [List.map_map]
  have := Tr.leaves_sum (fun p : Par => if p.smp = s then (1 : Rat) else 0) t 1
  rw [Rat.one_mul] at this
  exact this
section
variable {T : Nat → Thing} {kd : Bool} {k n : Nat} {pl : Nat → Nat}
abbrev treeT (T : Nat → Thing) (kd : Bool) (k n : Nat) (pl : Nat → Nat) (nums : List Nat) : Tr Par := runT T kd k nums (initS T kd n pl)
theorem tree_law (hT : WOk T) (hk : k = 1 ∨ k = 2) (h1 : 1 ≤ n) (h4 : n ≤ 4) (hp : ∀ j, j < n → pl j < 3) (nums : List Nat) :
    Cost 3 (treeT T kd k n pl nums) ∧ (treeT T kd k n pl nums).All (ParOk T kd k) ∧ (leavesR (treeT T kd k n pl nums)).length ≤ 4096 ∧ (∀ r ∈ leavesR (treeT T kd k n pl nums), ∀ i ∈ r.1.kept, i < 4) ∧ sumR ((leavesR (treeT T kd k n pl nums)).map (·.2)) = 1 ∧
      lawR T k (leavesR (treeT T kd k n pl nums)) = (plainRows T kd n k).mergeSort (leRow T k) := by
  have g := init_good (kd := kd) (k := k) hT hk h4 hp
  obtain ⟨c, a, m⟩ := run_law hT h1 g nums
  have lt : ∀ r ∈ leavesR (treeT T kd k n pl nums), ∀ i ∈ r.1.kept, i < 4 := fun r hr i hi => by
    obtain ⟨p, hp, rfl⟩ := List.mem_map.mp hr
    have := Tr.leaves_all a p hp
    exact this.lt i (this.sub i hi)
  refine ⟨c, a, ?_, lt, ?_, ?_⟩
  · unfold leavesR
    rw [List.length_map]
    exact c.few 1
  · unfold leavesR
    rw [List.map_map]
    have h := Tr.leaves_sum (fun _ : Par => (1 : Rat)) (treeT T kd k n pl nums) 1
    rw [Tr.E_const 1 c.ok] at h
    have e : (fun p : Par × Rat => p.2 * 1) = (fun r : Row => r.2) ∘ rowOf := by
      funext p
      show p.2 * 1 = p.2
      grind
    rw [e] at h
    rw [h]
    grind
  · refine lawR_eq (plain_d hT hk h1 h4) lt fun s => ?_
    rw [leavesR_sum, sumAt_ind]
    have := m fun x => if x = s then 1 else 0
    refine this.trans ?_
    refine (Phi_perm soOk ((live_init hp).map _) _).trans ?_
    exact phi_plain hT hk h1 h4 _
end
/-! ### one run after the other -/
def PB (p : Path) : Prop := ∀ q ∈ p, q.2.length ≤ 24 ∧ q.1 < q.2.length
theorem PB.pick {ws : List Nat} {x : ES} (h : PB x.path) (hw : ws.length ≤ 24) (h0 : 0 < ws.sum) : PB (pickS ws x).2.path := by
  unfold pickS
  simp only
  split
  · intro q hq
    rcases List.mem_append.mp hq with h1 | h1
    · exact h q h1
    · rw [List.mem_singleton] at h1
      subst h1
      obtain ⟨o, ho⟩ := sum_pos_nxt h0
      obtain ⟨_, b1, _⟩ := nxt_spec ho
      rw [ho]
      exact ⟨hw, b1⟩
  · exact h
theorem PB.exec {α : Type} : ∀ {t : Tr α} {x : ES}, t.Sh → t.Run x → PB x.path → PB (t.exec x).2.path
  | .ret _, _, _, _, h => h
  | .pick ws k, x, s, r, h => by
    obtain ⟨⟨h0, _⟩, _, hf, hk⟩ := r
    obtain ⟨p1, p2, _⟩ := pickS_spec h0 hf
    exact PB.exec (t := k (pickS ws x).1) (s.2 _ p1 p2) hk (h.pick s.1 h0)
theorem PB.adv : ∀ {p q : Path}, PB p → adv p = some q → PB q
  | [], _, _, h => by simp [Sam.adv] at h
  | (i, ws) :: r, q, hp, h => by
    have hr : PB r := fun x hx => hp x (List.mem_cons_of_mem _ hx)
    have h' : (match Sam.adv r with
      | some r' => some ((i, ws) :: r')
      | none => (nxt ws (i + 1)).map fun o => [(o, ws)]) = some q := h
    cases h1 : Sam.adv r with
    | some r' =>
      rw [h1] at h'
      cases h'
      intro x hx
      rcases List.mem_cons.mp hx with rfl | hx
      · exact hp _ List.mem_cons_self
      · exact PB.adv hr h1 x hx
    | none =>
      rw [h1] at h'
      cases h2 : nxt ws (i + 1) with
      | none => rw [h2] at h'; cases h'
      | some o =>
        rw [h2] at h'
        cases h'
        obtain ⟨_, b1, _⟩ := nxt_spec h2
        intro x hx
        rw [List.mem_singleton] at hx
        subst hx
        have := (hp (i, ws) List.mem_cons_self).1
        exact ⟨this, b1⟩
/-- where the explorer stands behind i runs: p is the path of the next one -/
structure ExpAt (t : Tr Par) (i : Nat) (p : Option Path) : Prop where
  le : i ≤ (leavesR t).length
  drop : (leavesR t).drop i = (match p with | some q => t.leavesFrom 1 q | none => []).map rowOf
  full : ∀ q, p = some q → t.Full q ∧ PB q
theorem ExpAt.first {t : Tr Par} : ExpAt t 0 (some []) := ⟨Nat.zero_le _, by
    rw [List.drop_zero]
    show _ = (t.leavesFrom 1 []).map rowOf
    rw [Tr.leavesFrom_nil]
    rfl, fun q hq => by
    cases hq
    exact ⟨by cases t <;> simp [Tr.Full], fun q hq => by simp at hq⟩⟩
theorem ExpAt.run {t : Tr Par} {i : Nat} {p : Path} (e : ExpAt t i (some p)) (c : Cost 3 t) : t.Run ⟨p, 0, 1⟩ := by
  obtain ⟨hf, _⟩ := e.full p rfl
  exact Tr.Run_of t 12 ⟨p, 0, 1⟩ c.ok (by show 0 + 12 ≤ 20; omega) (Nat.zero_le _) (by show t.Fits (p.drop 0); rw [List.drop_zero]; exact hf.fits)
theorem ExpAt.step {t : Tr Par} {i : Nat} {p : Path} (e : ExpAt t i (some p)) (c : Cost 3 t) :
    (leavesR t)[i]? = some (rowOf ((t.exec ⟨p, 0, 1⟩).1, (t.exec ⟨p, 0, 1⟩).2.ch)) ∧ ExpAt t (i + 1) (adv (t.exec ⟨p, 0, 1⟩).2.path) ∧ PB (t.exec ⟨p, 0, 1⟩).2.path := by
  obtain ⟨hf, hb⟩ := e.full p rfl
  have hr := e.run c
  have pb := PB.exec (x := ⟨p, 0, 1⟩) c.sh hr hb
  obtain ⟨q, q1, q2, q3, q4⟩ := Tr.run_spec t 12 [] p 1 c.ok hf
  simp only [List.nil_append, List.length_nil] at q1 q2 q3
  have hd := e.drop
  simp only at hd
  rw [q3] at hd
  rw [List.map_cons] at hd
  have hi : (leavesR t)[i]? = some (rowOf ((t.exec ⟨p, 0, 1⟩).1, (t.exec ⟨p, 0, 1⟩).2.ch)) := by
    have : ((leavesR t).drop i)[0]? = some (rowOf ((t.exec ⟨p, 0, 1⟩).1, (t.exec ⟨p, 0, 1⟩).2.ch)) := by rw [hd]; rfl
    rw [List.getElem?_drop] at this
    exact this
  have hlt := (List.getElem?_eq_some_iff.mp hi).1
  refine ⟨hi, ⟨hlt, ?_, fun q' hq' => ?_⟩, pb⟩
  · rw [q1, ← List.drop_drop, hd]
    rfl
  · rw [q1] at hq'
    exact ⟨q4 q' hq', (show PB q from q1 ▸ pb).adv hq'⟩
theorem ExpAt.done {t : Tr Par} {i : Nat} (e : ExpAt t i none) : i = (leavesR t).length := by
  have h := e.drop
  have h2 := e.le
  have := congrArg List.length h
  simp at this
  omega
end Sam
end
section
set_option Elab.async false
set_option linter.all false
set_option maxRecDepth 100000
set_option maxHeartbeats 1000000
namespace Sam
open PySem PySem.Spec PyProof.Rows L2
open C8 (pss_cut tCut call_isC InsC)
theorem inV_nat (n : Nat) (l : List Nat) : inV (.int (n : Int)) (natV l) = decide (n ∈ l) := by
  unfold inV natV
  rw [List.any_map]
  induction l with
  | nil => simp
  | cons x r ih =>
    rw [List.any_cons, ih]
    have e : ((fun y => eqV y (V.int (n : Int))) ∘ fun (i : Nat) => V.int (i : Int)) x = decide (n = x) := by
      show ((x : Int) == (n : Int)) = _
      rw [beq_cast]
      by_cases h : n = x <;> simp [h]
    rw [e]
    simp
theorem flat_nat (l : List Nat) : (natV l).all flatV = true := by
  simp [natV, flatV]
theorem endS_succ : ∀ (n : Nat) (σ : St), endS (n + 1) σ = turnS (endS n σ)
  | 0, _ => rfl
  | n + 1, σ => endS_succ n (turnS σ)
theorem confA_snoc {σ : St} {ls : List Let} {j : Nat} {l : Let} (h : ls[j]? = some l) : confA σ (ls.take (j + 1)) = confS (confA σ (ls.take j)) l := by
  unfold confA
  rw [List.take_add_one, h, List.foldl_append]
  rfl
theorem takA_snoc {σ : St} {ls : List Let} {j : Nat} {l : Let} (h : ls[j]? = some l) : takA σ (ls.take (j + 1)) = takS (takA σ (ls.take j)) l := by
  unfold takA
  rw [List.take_add_one, h, List.foldl_append]
  rfl
section
variable {T : Nat → Thing} {kd : Bool} {k n c : Nat} {σ : St}
/-- on the way through the letters that are taken (no matter what is out) -/
theorem takA_way : ∀ (ls : List Let) {σ : St} {c : Nat}, Good T kd k n c σ → (∀ l ∈ ls, l ∈ σ.ls) → Good T kd k n (c + ls.length) (takA σ ls)
  | [], _, _, g, _ => g
  | l :: r, σ, c, g, h => by
    obtain ⟨h1, _⟩ := takS_good g (h l List.mem_cons_self)
    have := takA_way r h1 fun m hm => by rw [takS_ls]; exact h m (List.mem_cons_of_mem _ hm)
    exact this.mono (by simp; omega)
end
section
variable {P : Program} {w : World} {K : PySem.W.Frag} {mg : Str → Option Value} {base : Heap} {CE CN : Addr} {D : Kd} {T : Nat → Thing} {kd : Bool} {k : Nat}
def spEnded (K : PySem.W.Frag) (CE CN : Addr) (D : Kd) (T : Nat → Thing) (kd : Bool) (k : Nat) : Sp := fun vs H Q _ => ∃ (G : Hp) (W : Wd) (la : Nat → Addr) (σ : St) (X : DX) (x : ES) (n c : Nat), vs = [.ref W.nds, .ref W.lls] ∧ Same G H ∧ StAt CN D T k G H W la σ ∧ DiAt K CE G H X x ∧
  Good T kd k n c σ ∧ c ≤ 20 ∧
  ∀ G' H' la', Same G G' → Same G' H' → StAt CN D T k G' H' W la' (endS (σ.ls.length + 1) σ) → DiAt K CE G' H' X x → Q .non H'
abbrev N81 : List Str := ["_law_nodes", "_law_letters", "_law_turn", "_law_letter"]
theorem sc81 : FnScope N81 ["_law_nodes", "_law_letters"] (defScope (top 81)) := ⟨rfl, rfl, rfl, by decide +kernel, rfl, by decide +kernel, by decide +kernel⟩
/-- where the net stands on the way through a loop over its letters -/
structure Way (K : PySem.W.Frag) (CE CN : Addr) (D : Kd) (T : Nat → Thing) (k : Nat) (W : Wd) (X : DX) (x : ES) (as : List Addr) (ls : List Let) (G H' : Hp) (σ : St) : Prop where
  ex : ∃ G' la', Same G G' ∧ Same G' H' ∧ StAt CN D T k G' H' W la' σ ∧ DiAt K CE G' H' X x
  l : H' W.lls = some (.lst (refs as))
theorem ok_ended (B : Bn mg) (O : NCl K CN) (d : Df K mg "_law_ended" (top 81) ["_law_nodes", "_law_letters"]) (cT : Mt P w K mg base CN "has_taken" ["self", "sender", "number"] 1 (spTaken CN D T k)) (cF : Mt P w K mg base CN "confirm" ["self", "number"] 1 (spConf CN D T k))
    (cO : Mt P w K mg base CN "out" ["self"] 1 (spOut CN D T k)) (cK : Cl P w K mg base "_law_taken" ["_law_receiver", "_law_letter"] 4 (spTak CN D T k)) :
    Cl P w K mg base "_law_ended" ["_law_nodes", "_law_letters"] 5 (spEnded K CE CN D T kd k) := by
  refine d.ok sc81 (fun vs H Q E h => ?_) (fun f cdv A outer s0 H vs Q E hr h => ?_)
  · obtain ⟨G, W, la, σ, X, x, n, c, rfl, _⟩ := h
    rfl
  · obtain ⟨G, W, la, σ, X, x, n, c, rfl, hG, hS, hE, hg, hc, q⟩ := h
    have nd0 := sc81.nd
    have hu := hu_of hr
    refine ⟨_, pss_one (ps_for PassesOwn.never rfl (pi_range1 rfl B.range (pa_cons (pe_op op_add (pe_callB call_len_seq (by rfl) B.len PySem.boot_len (pa_cons (pv 1) pa_nil)) pe_int) pa_nil)) (pg_name (i := 2) nd0 rfl (.inl rfl))
      (pss_cons (ps_for PassesOwn.never rfl (pi_list (pv 1)) (pg_name (i := 3) nd0 rfl (.inl rfl))
        (pss_one (ps_if (pt_val (pe_m cT O.cl hr (pe_dget hu (pv 0) (pe_ix ix_tup (pv 3) pe_int (fun _ _ => rfl)) (fun _ _ => rfl)) (pa_cons (pe_ix ix_tup (pv 3) pe_int (fun _ _ => rfl)) (pa_cons (pe_ix ix_tup (pv 3) pe_int (fun _ _ => rfl)) pa_nil))))
          (pss_one (ps_expr (pe_m cF O.cl hr (pe_dget hu (pv 0) (pe_ix ix_tup (pv 3) pe_int (fun _ _ => rfl)) (fun _ _ => rfl)) (pa_cons (pe_ix ix_tup (pv 3) pe_int (fun _ _ => rfl)) pa_nil)))) pss_nil)))
      (pss_one (ps_for PassesOwn.never rfl (pi_list (pv 1)) (pg_name (i := 3) nd0 rfl (.inl rfl))
        (pss_one (ps_if (pt_cmpR (ko_in K) (pe_ix ix_tup (pv 3) pe_int (fun _ _ => rfl)) (pe_m0 cO O.cl hr (pe_dget hu (pv 0) (pe_ix ix_tup (pv 3) pe_int (fun _ _ => rfl)) (fun _ _ => rfl))) (by with_unfolding_all rfl))
          (pss_one (ps_expr (pe_c cK hr (pa_cons (pe_dget hu (pv 0) (pe_ix ix_tup (pv 3) pe_int (fun _ _ => rfl)) (fun _ _ => rfl)) (pa_cons (pv 3) pa_nil))))) pss_nil)))))), ?_⟩
    obtain ⟨as, l1, l2⟩ := hS.ls
    have las := l2.length
    have hlc := hg.g6
    have hlen : ((refs as).length : Int) = (σ.ls.length : Int) := by simp [las]
    have item : ∀ {τ : St} {j : Nat} {y : V} {H0 : Hp}, Way K CE CN D T k W X x as σ.ls G H0 τ → (refs as)[j]? = some y →
        ∃ l r pa, y = .ref r ∧ σ.ls[j]? = some l ∧ SqT K H0 r (leV l pa) := fun hW hy => by
      obtain ⟨r, l, e1, e2, hL⟩ := l2.get hy
      obtain ⟨pa, t1, _⟩ := hL
      obtain ⟨G', la', g1, g2, _⟩ := hW.ex
      exact ⟨l, r, pa, e1, e2, SqT.of (g2 _ _ (g1 _ _ t1))⟩
    refine ⟨_, rfl, W.lls, _, rfl, .inl (SqL.of l1), _, _, rfl, rfl, ?_⟩
    rw [hlen]
    refine ⟨_, rfl, by omega, by omega, for_range (lo := 0) (fun i σ' H1 => ∃ v2 v3, σ' = [some (.ref W.nds), some (.ref W.lls), v2, v3] ∧ Way K CE CN D T k W X x as σ.ls G H1 (endS i σ) ∧ Good T kd k n (c + i * σ.ls.length) (endS i σ))
      ⟨none, none, rfl, ⟨⟨G, la, Same.refl _, hG, hS, hE⟩, l1⟩, hg.mono (by omega)⟩ ?_ ?_⟩
    · rintro i σ' H1 hi ⟨v2, v3, rfl, hW, hgi⟩
      have hi' : i ≤ σ.ls.length := by
        have : ((σ.ls.length : Int) + 1).toNat = σ.ls.length + 1 := by omega
        omega
      have hcl : c + i * σ.ls.length ≤ 420 := by
        have : i * σ.ls.length ≤ 20 * 20 := Nat.mul_le_mul (by omega) (by omega)
        omega
      have hil := endS_ls i σ
      rw [endS_succ]
      generalize endS i σ = τ at *
      generalize hc1 : c + i * σ.ls.length = c1 at *
      refine ⟨_, rfl, W.lls, rfl, ⟨_, SqL.of hW.l⟩, for_list (K := K) (xs := refs as) (fun j σ' H2 => ∃ v2 v3, σ' = [some (.ref W.nds), some (.ref W.lls), v2, v3] ∧ Way K CE CN D T k W X x as σ.ls G H2 (confA τ (σ.ls.take j))) ⟨_, _, rfl, hW⟩ ?_ ?_ ?_⟩
      · rintro j σ' H2 _ ⟨_, _, _, hW2⟩
        exact SqL.of hW2.l
      · rintro j y σ' H2 hy ⟨v2, v3, rfl, hW2⟩
        obtain ⟨l, r, pa, rfl, hl, tq⟩ := item hW2 hy
        have hlm := List.mem_of_getElem? hl
        obtain ⟨hg2, _⟩ := confA_good (σ.ls.take j) hgi (fun m hm => by rw [hil]; exact List.mem_of_mem_take hm)
        have hl2 : l ∈ (confA τ (σ.ls.take j)).ls := by rw [confA_ls, hil]; exact hlm
        rw [confA_snoc hl]
        generalize confA τ (σ.ls.take j) = υ at *
        obtain ⟨g31, g32, g33, g34, g35, g36⟩ := hg2.g3 l hl2
        obtain ⟨G2, la2, k1, k2, S2, E2⟩ := hW2.ex
        have Nr := S2.n _ g32
        have Ns := S2.n _ g31
        obtain ⟨dxr, Plr, asr, ar1, _⟩ := Nr.ins
        obtain ⟨dxs, Pls, ass, as1, _⟩ := Ns.ins
        refine ⟨_, rfl, _, rfl, r, _, _, _, rfl, rfl, tq, atI_nat (j := 2) rfl, W.nds, _, rfl, .inl ⟨_, _, .inl S2.nds, rfl, (ndsK_val W g32).symm⟩, W.a l.rcv, dxr, _, rfl, ar1, zlook_none (ns := ndN) (by decide) _, _, rfl, r, _, _, _, rfl, rfl, tq, atI_nat (j := 0) rfl, _, rfl, r, _, _, _, rfl, rfl, tq, atI_nat (j := 1) rfl, G2, _, _, _, l.rcv, _, (l.snd, l.num), rfl, k2, Nr, g31, fun H3 s3 => ⟨_, rfl, ite2 (fun hk => ?_) fun hk => ?_⟩⟩
        · have hk' := of_decide_eq_true hk
          have S3 := S2.same k2 s3
          have E3 := ExAt.same E2 E2 (Ext.same (ms := []) k2 s3) (Same.refl _) s3
          have tq : SqT K H3 r (leV l pa) := s3.seqT tq
          have Ngs := hg2.g1 _ g31
          refine ⟨_, rfl, _, rfl, r, _, _, _, rfl, rfl, tq, atI_nat (j := 0) rfl, W.nds, _, rfl, .inl ⟨_, _, .inl S3.nds, rfl, (ndsK_val W g31).symm⟩, W.a l.snd, dxs, _, rfl, s3 _ _ as1, zlook_none (ns := ndN) (by decide) _, _, rfl, r, _, _, _, rfl, rfl, tq, atI_nat (j := 1) rfl, G2, _, _, _, l.snd, _, l.num, rfl, k2.trans s3, S3.n _ g31, Ngs.num, by have := Ngs.len; omega, fun G' H' la' XX hla' N' => ?_⟩
          have nx := nd_ex_ne (S3.n _ g31) E3
          have e : confS υ l = υ.set l.snd (confNd l.num (υ.nd l.snd)) := by
            unfold confS
            rw [if_pos hk']
          rw [e]
          refine ⟨_, _, rfl, ⟨G', _, k1.trans XX.gg, XX.gh, S3.step g31 XX (ns := []) (fun b hb => .inl (List.mem_singleton.mp hb)) (by simp) (by simp) (by simp) (.inr hla') N', ExAt.keep E3 XX (fun z => ?_) fun z => ?_⟩, ?_⟩
          · rw [List.mem_singleton] at z; exact nx.1 (z ▸ by simp)
          · rw [List.mem_singleton] at z; exact nx.1 (z ▸ by simp)
          · exact XX.kp _ _ (s3 _ _ hW2.l) (by simpa using (S3.lls_ne g31).1.symm)
        · have hk' : (l.snd, l.num) ∉ (υ.nd l.rcv).known := fun z => hk (decide_eq_true z)
          have e : confS υ l = υ := by
            unfold confS
            rw [if_neg hk']
          rw [e]
          exact ⟨_, _, rfl, ⟨G2, la2, k1, k2.trans s3, S2.same k2 s3, ExAt.same E2 E2 (Ext.same (ms := []) k2 s3) (Same.refl _) s3⟩, s3 _ _ hW2.l⟩
      · rintro σ' H2 ⟨v2, v3, rfl, hW2⟩
        have e1 : σ.ls.take (refs as).length = σ.ls := by rw [List.take_of_length_le]; simp [las]
        rw [e1] at hW2
        have hil2 : (confA τ σ.ls).ls = σ.ls := (confA_ls _ _).trans hil
        have hgc := (confA_good σ.ls hgi fun m hm => by rw [hil]; exact hm).1
        have et : turnS τ = takA (confA τ σ.ls) σ.ls := by
          unfold turnS
          rw [hil]
        rw [et]
        generalize confA τ σ.ls = τ2 at *
        refine ⟨_, rfl, W.lls, rfl, ⟨_, SqL.of hW2.l⟩, for_list (K := K) (xs := refs as) (fun j σ' H3 => ∃ v2 v3, σ' = [some (.ref W.nds), some (.ref W.lls), v2, v3] ∧ Way K CE CN D T k W X x as σ.ls G H3 (takA τ2 (σ.ls.take j))) ⟨_, _, rfl, hW2⟩ ?_ ?_ ?_⟩
        · rintro j σ' H3 _ ⟨_, _, _, hW3⟩
          exact SqL.of hW3.l
        · rintro j y σ' H3 hy ⟨v2, v3, rfl, hW3⟩
          obtain ⟨l, r, pa, rfl, hl, tq⟩ := item hW3 hy
          have hlm := List.mem_of_getElem? hl
          have hg3 := takA_way (σ.ls.take j) hgc (fun m hm => by rw [hil2]; exact List.mem_of_mem_take hm)
          have hc3 : c1 + (σ.ls.take j).length ≤ 440 := by simp; omega
          generalize c1 + (σ.ls.take j).length = c3 at *
          have hl2 : l ∈ (takA τ2 (σ.ls.take j)).ls := by rw [takA_ls, hil2]; exact hlm
          rw [takA_snoc hl]
          generalize takA τ2 (σ.ls.take j) = υ at *
          obtain ⟨g31, g32, g33, g34, g35, g36⟩ := hg3.g3 l hl2
          obtain ⟨G2, la2, k1, k2, S2, E2⟩ := hW3.ex
          have Nr := S2.n _ g32
          have Ns := S2.n _ g31
          obtain ⟨dxr, Plr, asr, ar1, _⟩ := Nr.ins
          obtain ⟨dxs, Pls, ass, as1, _⟩ := Ns.ins
          have Ngs := hg3.g1 _ g31
          refine ⟨_, rfl, r, _, _, _, rfl, rfl, tq, atI_nat (j := 1) rfl, _, rfl, _, rfl, r, _, _, _, rfl, rfl, tq, atI_nat (j := 0) rfl, W.nds, _, rfl, .inl ⟨_, _, .inl S2.nds, rfl, (ndsK_val W g31).symm⟩, W.a l.snd, dxs, _, rfl, as1, zlook_none (ns := ndN) (by decide) _, G2, _, _, _, l.snd, _, rfl, k2, Ns, by have := Ngs.len; omega, fun ol hol => ?_⟩
          have s3 := Same.new (.lst (natV (so ((υ.nd l.snd).out.map (·.num))))) hol
          have o3 : upd H3 ol (.lst (natV (so ((υ.nd l.snd).out.map (·.num))))) ol = some _ := upd_same
          generalize upd H3 ol (.lst (natV (so ((υ.nd l.snd).out.map (·.num))))) = H4 at *
          refine ⟨ol, _, rfl, .inl (SqL.of o3), rfl, flat_nat _, _, rfl, ?_⟩
          show if inV (V.int (l.num : Int)) (natV (so ((υ.nd l.snd).out.map (·.num)))) = true then _ else _
          rw [inV_nat]
          have S4 := S2.same k2 s3
          have E4 := ExAt.same E2 E2 (Ext.same (ms := []) k2 s3) (Same.refl _) s3
          have l4 := s3 _ _ hW3.l
          refine ite2 (fun hk => ?_) fun hk => ?_
          · have hk' := so_mem_iff.mp (of_decide_eq_true hk)
            have e : takS υ l = υ.set l.rcv (takenNd l (υ.nd l.rcv)) := by
              unfold takS
              rw [if_pos hk']
            rw [e]
            have tq : SqT K H4 r (leV l pa) := s3.seqT tq
            have Ngr := hg3.g1 _ g32
            have hlp : l.par.ps.length ≤ 4 := nodup_lt 4 (hg3.g8 l hl2) g36.lt
            obtain ⟨r', _, e1', e2', hL⟩ := l2.get hy
            rw [hl] at e2'
            cases e2'
            cases e1'
            refine ⟨_, rfl, _, rfl, r, _, _, _, rfl, rfl, tq, atI_nat (j := 2) rfl, W.nds, _, rfl, .inl ⟨_, _, .inl S4.nds, rfl, (ndsK_val W g32).symm⟩, _, rfl, G2, W.a l.rcv, _, _, r, _, l, rfl, k2.trans s3, S4.n _ g32, hL.mono k1, Ngr.num, ⟨by have := Ngr.len; omega, by have := Ngr.len; omega, by have := Ngr.here; omega, by have := Ngr.kn; omega⟩, Ngr.lt, by omega, fun G' H' XX N' => ?_⟩
            have nx := nd_ex_ne (S4.n _ g32) E4
            refine ⟨_, _, rfl, ⟨G', _, k1.trans XX.gg, XX.gh, S4.step g32 XX (ns := []) (fun b hb => by
              rcases List.mem_cons.mp hb with h | h
              · exact .inl h
              · rw [List.mem_singleton] at h; exact .inr (.inr (.inl h))) (by simp) (by simp) (by simp) (.inl rfl) N', ExAt.keep E4 XX (fun z => ?_) fun z => ?_⟩, ?_⟩
            · rcases List.mem_cons.mp z with h | h
              · exact nx.1 (h ▸ by simp)
              · rw [List.mem_singleton] at h; exact nx.2.2 (h ▸ by simp)
            · rcases List.mem_cons.mp z with h | h
              · exact nx.1 (h ▸ by simp)
              · rw [List.mem_singleton] at h; exact nx.2.2 (h ▸ by simp)
            · obtain ⟨n1, n2, n3⟩ := S4.lls_ne g32
              refine XX.kp _ _ l4 ?_
              simp only [List.mem_cons, List.not_mem_nil, or_false, not_or]
              exact ⟨Ne.symm n1, Ne.symm n3⟩
          · have hk' : l.num ∉ (υ.nd l.snd).out.map (·.num) := fun z => hk (decide_eq_true (so_mem_iff.mpr z))
            have e : takS υ l = υ := by
              unfold takS
              rw [if_neg hk']
            rw [e]
            exact ⟨_, _, rfl, ⟨G2, la2, k1, k2.trans s3, S4, E4⟩, l4⟩
        · rintro σ' H3 ⟨v2, v3, rfl, hW3⟩
          have e2 : σ.ls.take (refs as).length = σ.ls := by rw [List.take_of_length_le]; simp [las]
          rw [e2] at hW3
          refine ⟨_, _, rfl, hW3, ?_⟩
          have := takA_way σ.ls hgc fun m hm => by rw [hil2]; exact hm
          refine this.mono ?_
          rw [Nat.add_mul]
          omega
    · rintro σ' H1 ⟨v2, v3, rfl, hW, hgi⟩
      obtain ⟨G', la', g1, g2, S', E'⟩ := hW.ex
      have e : ((σ.ls.length : Int) + 1).toNat = σ.ls.length + 1 := by omega
      rw [e] at S'
      exact q G' H1 la' g1 g2 S' E'
end
end Sam
end
section
set_option Elab.async false
set_option linter.all false
set_option maxRecDepth 100000
set_option maxHeartbeats 1000000
namespace Sam
open PySem PySem.Spec PyProof.Rows L2
open C8 (pss_cut tCut call_isC InsC)
/-- the nodes made so far -/
structure Nets (CN : Addr) (D : Kd) (T : Nat → Thing) (kd : Bool) (k n : Nat) (pl : Nat → Nat) (G H : Hp) (nds : Addr) (i : Nat) (a la ka : Nat → Addr) : Prop where
  d : H nds = some (.dK ((List.range i).map fun j => (Sum.inr (nN j), V.ref (a j))))
  n : ∀ j, j < i → NdAt CN D T k G H (a j) (la j) (ka j) j (initN T kd n pl j)
  da : ∀ j m, j < i → m < i → j ≠ m → a j ≠ a m ∧ la j ≠ la m ∧ ka j ≠ ka m
  gn : G nds = none
  dn : ∀ j, j < i → nds ≠ la j
theorem mine_take (pl : Nat → Nat) (i j : Nat) : (List.range (j + 1)).filter (fun t => decide (pl t = i)) = (List.range j).filter (fun t => decide (pl t = i)) ++ (if pl j = i then [j] else []) := by
  rw [List.range_succ, List.filter_append]
  congr 1
  by_cases h : pl j = i <;> simp [h]
def setA (f : Nat → Addr) (i : Nat) (x : Addr) : Nat → Addr := fun j => if j = i then x else f j
theorem setA_same (f : Nat → Addr) (i : Nat) (x : Addr) : setA f i x i = x := if_pos rfl
theorem setA_ne (f : Nat → Addr) {i j : Nat} (x : Addr) (h : j ≠ i) : setA f i x j = f j := if_neg h
theorem upd_none {H : Hp} {p b : Addr} {o : HO} (h : upd H p o b = none) : b ≠ p ∧ H b = none := by
  by_cases e : b = p
  · subst e; rw [upd_same] at h; cases h
  · rw [upd_ne e] at h; exact ⟨e, h⟩
theorem names_none (a : Nat → Addr) : ∀ {i : Nat}, i < 3 → valV ((List.range i).map fun j => ((Sum.inr (nN j) : Key), V.ref (a j))) (Sum.inr (nN i)) = none
  | 0, _ => rfl
  | 1, _ => by
    show valV [((Sum.inr (nN 0) : Key), V.ref (a 0))] (Sum.inr (nN 1)) = none
    rw [valV_neg (by show ¬ (Sum.inr (nN 0) : Key) = Sum.inr (nN 1); decide +kernel)]
    rfl
  | 2, _ => by
    show valV [((Sum.inr (nN 0) : Key), V.ref (a 0)), ((Sum.inr (nN 1) : Key), V.ref (a 1))] (Sum.inr (nN 2)) = none
    rw [valV_neg (by show ¬ (Sum.inr (nN 0) : Key) = Sum.inr (nN 2); decide +kernel), valV_neg (by show ¬ (Sum.inr (nN 1) : Key) = Sum.inr (nN 2); decide +kernel)]
    rfl
/-- what stands behind a node's making -/
theorem node_ext {G H H' : Hp} {CN xa dx Pl la ka : Addr} {o : HO} (hG : Same G H) (nx : H xa = none) (ndx : H dx = none)
    (hPl : upd (upd H dx (.own xa)) xa (.ins CN dx []) Pl = none) (hla : upd (upd H dx (.own xa)) xa (.ins CN dx []) la = none) (hka : upd (upd H dx (.own xa)) xa (.ins CN dx []) ka = none)
    (h2 : H' Pl = some o) (hb : ∀ b, b ≠ xa → b ≠ Pl → b ≠ la → b ≠ ka → H' b = upd (upd H dx (.own xa)) xa (.ins CN dx []) b) (hx : ∃ u, H' xa = some u) (hl : ∃ u, H' la = some u) (hk : ∃ u, H' ka = some u) : Ext [] G H (upd G Pl o) H' := by
  have p := upd_none (upd_none hPl).2
  have l := upd_none (upd_none hla).2
  have k := upd_none (upd_none hka).2
  have old : ∀ b u, H b = some u → H' b = some u := fun b u e => by
    rw [hb b (ne_of_none e nx) (ne_of_none e p.2) (ne_of_none e l.2) (ne_of_none e k.2), upd_ne (ne_of_none e nx), upd_ne (ne_of_none e ndx)]
    exact e
  refine ⟨Same.new _ (hG.free p.2), fun b u e => ?_, fun b u e => ?_, fun b u e _ => old b u e, fun b e => ?_⟩
  · by_cases q : b = Pl
    · subst q; rw [upd_same] at e; rw [← e]; exact h2
    · rw [upd_ne q] at e; exact old b u (hG _ _ e)
  · by_cases q : b = Pl
    · subst q; exact .inr p.2
    · rw [upd_ne q] at e; exact .inl e
  · cases h : H b with
    | none => rfl
    | some u => rw [old b u h] at e; cases e
theorem runT_cons (T : Nat → Thing) (kd : Bool) (k num : Nat) (r : List Nat) (σ : St) : runT T kd k (num :: r) σ = (deedT T kd k (num + 7 * seen T σ) σ).bind (runT T kd k r) := by
  show ((deedT T kd k (num + 7 * seen T σ) σ).bind (deedsT T kd k r)).bind _ = _
  rw [Tr.bind_assoc]
  rfl
theorem shaped_refl {d : PyData} (h : SeqAt.shaped d = true) : PyData.eqv d d = true := by
  unfold SeqAt.shaped at h
  rw [Bool.and_eq_true] at h
  exact SeqAt.eqv_refl d h.1
theorem so_range {l : List Nat} {n : Nat} (h : l.Perm (List.range n)) : so l = List.range n := by
  refine List.Perm.eq_of_pairwise (le := fun a b => decide (a ≤ b) = true) (fun a b _ _ h1 h2 => by simp at h1 h2; omega) (List.pairwise_mergeSort (fun a b c => by simp; omega) (fun a b => by simp; omega) _) ?_ ((so_perm l).trans h)
  exact List.pairwise_lt_range.imp fun h => by simp; omega
/-- what the three nodes count -/
def nrs (W : Wd) (la : Nat → Addr) (σ : St) : List NR := [⟨W.a 0, la 0, W.ka 0, 0, σ.nd 0⟩, ⟨W.a 1, la 1, W.ka 1, 1, σ.nd 1⟩, ⟨W.a 2, la 2, W.ka 2, 2, σ.nd 2⟩]
theorem cnt_live {T : Nat → Thing} {kd : Bool} {k n c : Nat} {σ : St} {W : Wd} {la : Nat → Addr} (g : Good T kd k n c σ) : (nrs W la σ).flatMap (cntP (nrs W la σ)) = (live σ).flatMap (·.ps) := by
  have key : ∀ i, i < 3 → ∀ l ∈ (σ.nd i).out, pendC (nrs W la σ) i l = pend σ l := fun i hi l hl => by
    obtain ⟨h1, h2⟩ := g.g2 i hi l hl
    obtain ⟨_, h3, _⟩ := g.g3 l h2
    unfold pendC pend
    rw [h1]
    have : l.rcv = 0 ∨ l.rcv = 1 ∨ l.rcv = 2 := by omega
    rcases this with e | e | e <;> rw [e] <;> rfl
  have one : ∀ i, i < 3 → ∀ a b d, cntP (nrs W la σ) ⟨a, b, d, i, σ.nd i⟩ = (liveN σ i).flatMap (·.ps) := fun i hi a b d => by
    unfold cntP liveN
    rw [List.flatMap_append, List.flatMap_map]
    congr 2
    exact List.filter_congr fun l hl => key i hi l hl
  have e : (live σ).flatMap (·.ps) = (liveN σ 0).flatMap (·.ps) ++ ((liveN σ 1).flatMap (·.ps) ++ ((liveN σ 2).flatMap (·.ps) ++ [])) := by
    show (liveN σ 0 ++ (liveN σ 1 ++ (liveN σ 2 ++ []))).flatMap _ = _
    rw [List.flatMap_append, List.flatMap_append, List.flatMap_append]
    rfl
  rw [e, ← one 0 (by decide) (W.a 0) (la 0) (W.ka 0), ← one 1 (by decide) (W.a 1) (la 1) (W.ka 1), ← one 2 (by decide) (W.a 2) (la 2) (W.ka 2)]
  rfl
/-- a node is made -/
theorem Nets.add {CN : Addr} {D : Kd} {T : Nat → Thing} {kd : Bool} {k n : Nat} {pl : Nat → Nat} {G H G' H' : Hp} {nds : Addr} {i : Nat} {a la ka : Nat → Addr} {x lx kx : Addr} (N : Nets CN D T kd k n pl G H nds i a la ka) (E : Ext [nds] G H G' H')
    (hx : H x = none) (hl : H lx = none) (hk : H kx = none) (hN : NdAt CN D T k G' H' x lx kx i (initN T kd n pl i)) (hd : H' nds = some (.dK ((List.range i).map (fun j => ((Sum.inr (nN j) : Key), V.ref (a j))) ++ [((Sum.inr (nN i) : Key), V.ref x)]))) :
    Nets CN D T kd k n pl G' H' nds (i + 1) (setA a i x) (setA la i lx) (setA ka i kx) := by
  have knd : ∀ j, j < i → (∃ o, H (a j) = some o) ∧ (∃ o, H (la j) = some o) ∧ (∃ o, H (ka j) = some o) ∧ a j ≠ nds ∧ ka j ≠ nds := fun j hj => by
    obtain ⟨⟨C, dx, fs, a1⟩, ⟨kvs, b1⟩, ⟨kvt, c1⟩⟩ := (N.n j hj).kinds
    exact ⟨⟨_, a1⟩, ⟨_, b1⟩, ⟨_, c1⟩, ne_of a1 N.d (by intro z; cases z), ne_of c1 N.d (by intro z; cases z)⟩
  have fr : ∀ j, j < i → a j ≠ x ∧ la j ≠ lx ∧ ka j ≠ kx := fun j hj => by
    obtain ⟨⟨o1, h1⟩, ⟨o2, h2⟩, ⟨o3, h3⟩, _⟩ := knd j hj
    exact ⟨ne_of_none h1 hx, ne_of_none h2 hl, ne_of_none h3 hk⟩
  refine ⟨?_, fun j hj => ?_, fun j m hj hm hjm => ?_, E.out N.gn N.d, fun j hj => ?_⟩
  · rw [hd, List.range_succ, List.map_append]
    congr 3
    · refine List.map_congr_left fun j hj => ?_
      rw [setA_ne _ _ (Nat.ne_of_lt (List.mem_range.mp hj))]
    · simp [setA_same]
  · by_cases e : j = i
    · subst e
      rw [setA_same, setA_same, setA_same]
      exact hN
    · have hj' : j < i := by omega
      rw [setA_ne _ _ e, setA_ne _ _ e, setA_ne _ _ e]
      obtain ⟨_, _, _, n1, n3⟩ := knd j hj'
      exact (N.n j hj').keep E (by simpa using n1) (by simpa using (N.dn j hj').symm) (by simpa using n3)
  · by_cases e : j = i
    · subst e
      have hm' : m < j := by omega
      rw [setA_same, setA_same, setA_same, setA_ne _ _ (Ne.symm hjm), setA_ne _ _ (Ne.symm hjm), setA_ne _ _ (Ne.symm hjm)]
      obtain ⟨f1, f2, f3⟩ := fr m hm'
      exact ⟨f1.symm, f2.symm, f3.symm⟩
    · have hj' : j < i := by omega
      rw [setA_ne _ _ e, setA_ne _ _ e, setA_ne _ _ e]
      by_cases e' : m = i
      · subst e'
        rw [setA_same, setA_same, setA_same]
        exact fr j hj'
      · rw [setA_ne _ _ e', setA_ne _ _ e', setA_ne _ _ e']
        exact N.da j m hj' (by omega) hjm
  · by_cases e : j = i
    · subst e
      rw [setA_same]
      exact ne_of_none N.d hl
    · rw [setA_ne _ _ e]
      exact N.dn j (by omega)
section
variable {P : Program} {w : World} {K : PySem.W.Frag} {mg : Str → Option Value} {base : Heap} {CE CN : Addr} {D : Kd} {T : Nat → Thing} {kd : Bool} {k : Nat}
def spRun (K : PySem.W.Frag) (CE CN : Addr) (D : Kd) (T : Nat → Thing) (kd : Bool) (k : Nat) : Sp := fun vs H Q _ => ∃ (G : Hp) (nl tl pll : Addr) (X : DX) (x : ES) (nums ps : List Nat) (as : List Addr) (n : Nat), vs = [.ref nl, .ref tl, .int (kdI kd), .int (k : Int), .ref pll, .ref X.e] ∧ Same G H ∧
  G nl = some (.lst (natV nums)) ∧ G tl = some (.lst (refs as)) ∧ Itms T G as (List.range n) ∧ G pll = some (.lst (natV ps)) ∧ G D.C = some D.cls ∧ (∃ rs, G X.R = some (.lst (refs rs))) ∧ DiAt K CE G H X x ∧
  (WOk T ∧ (k = 1 ∨ k = 2) ∧ (1 ≤ n ∧ n ≤ 4) ∧ (ps.length = n ∧ ∀ p ∈ ps, p < 3) ∧ nums.length ≤ 7) ∧ (treeT T kd k n (fun j => ps.getD j 0) nums).Run x ∧
  ∀ G' H' r, Same G G' → Same G' H' → DiAt K CE G' H' X ((treeT T kd k n (fun j => ps.getD j 0) nums).exec x).2 → VwIs T k G' r ((treeT T kd k n (fun j => ps.getD j 0) nums).exec x).1.smp → Q (.ref r) H'
abbrev N82 : List Str := ["_law_deck_numbers", "_law_things_here", "_law_kind", "_law_size", "_law_places", "_law_dice", "_law_nodes", "_law_name", "_law_mine", "_law_letters", "_law_number", "_law_parts", "_law_k", "_law_row"]
theorem sc82 : FnScope N82 ["_law_deck_numbers", "_law_things_here", "_law_kind", "_law_size", "_law_places", "_law_dice"] (defScope (top 82)) := ⟨rfl, rfl, rfl, by decide +kernel, rfl, by decide +kernel, by decide +kernel⟩
theorem ok_run (B : Bn mg) (O : NCl K CN) (OD : KdOk K D) (hvf : ("view" : Str) ∉ smN D.f2) (d : Df K mg "_law_run" (top 82) ["_law_deck_numbers", "_law_things_here", "_law_kind", "_law_size", "_law_places", "_law_dice"]) (cN : Ct P w K mg base "Node" CN ["self", "name", "parcels"] 1 (spNode CN))
    (cS : Cl P w K mg base "_law_single" ["_law_kind", "_law_item", "_law_size"] 4 (spSing D T kd)) (cD : Cl P w K mg base "_law_deed" ["_law_nodes", "_law_letters", "_law_number", "_law_dice"] 7 (spDeed K CE CN D T kd k)) (cE : Cl P w K mg base "_law_seen" ["_law_nodes"] 2 (spSeen CN D T k))
    (cC : Cl P w K mg base "counted" ["nodes"] 3 (spCount CN D T k K)) (cF : Cl P w K mg base "_law_ended" ["_law_nodes", "_law_letters"] 5 (spEnded K CE CN D T kd k)) (cH : Mt P w K mg base CN "held" ["self"] 1 (spHeld CN D T k))
    (cM : Cl P w K mg base "merge_all" ["parcels", "strategy", "dice"] 7 (spMAll P w K CE D T kd k)) (cV : MtS P w K mg base D.C D.co "view" ["self"] 1 (spView D T k)) :
    Cl P w K mg base "_law_run" ["_law_deck_numbers", "_law_things_here", "_law_kind", "_law_size", "_law_places", "_law_dice"] 8 (spRun K CE CN D T kd k) := by
  refine d.ok sc82 (fun vs H Q E h => ?_) (fun f cdv A outer s0 H vs Q E hr h => ?_)
  · obtain ⟨G, nl, tl, pll, X, x, nums, ps, as, n, rfl, _⟩ := h
    rfl
  · obtain ⟨G, nl, tl, pll, X, x, nums, ps, as, n, rfl, hG, hnl, htl, hit, hpl, hDC, ⟨rs, hR⟩, hE, ⟨hT, hk, ⟨n1, n4⟩, ⟨hps, hp3⟩, hn7⟩, hrun, q⟩ := h
    have nd0 := sc82.nd
    have hu := hu_of hr
    have hu2 := hr.units
    refine ⟨_, pss_cons (ps_set (i := 6) nd0 rfl (.inl rfl) pe_dnewK)
      (pss_cons (ps_for PassesOwn.never rfl (pi_list (pe_lst (pa_cons pe_str (pa_cons pe_str (pa_cons pe_str pa_nil))))) (pg_name (i := 7) nd0 rfl (.inr rfl))
        (pss_cons (ps_setLc (i := 8) (own := [("_law_k", 12)]) (g := gName 12) (by rfl) nd0 rfl rfl (sw_true rfl rfl rfl (by rfl)) (pi_range1 (by rfl) B.range (pa_cons (pe_callB call_len_seq (by rfl) B.len PySem.boot_len (pa_cons (pv 1) pa_nil)) pa_nil))
            (blkOk_by (own := [("_law_k", 12)]) (N := N82) (sc := defScope (top 82)) (by decide +kernel)) (fun _ _ _ _ _ => pg_name (i := 12) nd0 rfl (Or.inl rfl))
            (fun _ _ _ _ _ => pts_one (pt_cmpR op_eq (pe_ix ix_str pe_str (pe_ix (kx_list K) (pv 4) (pv 12) (fun _ _ => rfl)) (fun _ _ => rfl)) (pv 7) (nomark _))) (fun _ _ _ _ _ => pv 12))
        (pss_one (ps_dput hu (pv 6) (pv 7) (pe_k cN hr (pa_cons (pv 7) (pa_cons (pe_lc (own := [("_law_k", 12)]) (g := gName 12) (by rfl) nd0 (pi_list (pv 8))
            (blkOk_by (own := [("_law_k", 12)]) (N := N82) (sc := defScope (top 82)) (by decide +kernel)) (fun _ _ _ _ _ => pg_name (i := 12) nd0 rfl (Or.inl rfl))
            (fun _ _ _ _ _ => pts_nil) (fun _ _ _ _ _ => pe_tup (pa_cons (pe_tup (pa_cons (pe_op op_add_str pe_str (pe_callTy call_str_int (by rfl) B.str (by decide +kernel) (pa_cons (pv 12) pa_nil))) pa_nil))
              (pa_cons (pe_c cS hr (pa_cons (pv 2) (pa_cons (pe_ix (kx_list K) (pv 1) (pv 12) (fun _ _ => rfl)) (pa_cons (pv 3) pa_nil)))) pa_nil)))) pa_nil))) (by rfl)))))
      (pss_cons (ps_set (i := 9) nd0 rfl (.inl rfl) (pe_lst pa_nil))
      (pss_cons (ps_for PassesOwn.never rfl (pi_list (pv 0)) (pg_name (i := 10) nd0 rfl (.inl rfl))
        (pss_cons (ps_expr (pe_c cD hr (pa_cons (pv 6) (pa_cons (pv 9) (pa_cons (pe_op op_add (pv 10) (pe_op op_mul pe_int (pe_c cE hr (pa_cons (pv 6) pa_nil)))) (pa_cons (pv 5) pa_nil))))))
        (pss_cons (ps_setLc (i := 11) (own := [("_law_row", 13)]) (g := gName 13) (by rfl) nd0 rfl rfl (sw_true rfl rfl rfl (by rfl)) (pi_list (pe_c cC hr (pa_cons (pe_lst (pa_cons (pe_dget hu (pv 6) pe_str (fun _ _ => rfl)) (pa_cons (pe_dget hu (pv 6) pe_str (fun _ _ => rfl)) (pa_cons (pe_dget hu (pv 6) pe_str (fun _ _ => rfl)) pa_nil)))) pa_nil)))
            (blkOk_by (own := [("_law_row", 13)]) (N := N82) (sc := defScope (top 82)) (by decide +kernel)) (fun _ _ _ _ _ => pg_name (i := 13) nd0 rfl (Or.inl rfl))
            (fun _ _ _ _ _ => pts_nil) (fun _ _ _ _ _ => pe_ix (kx_tup K) (pv 13) pe_int (fun _ _ => rfl)))
        (pss_one (ps_if (pt_cmpR (ko_neD K hu2) (pv 11) (pe_lc (own := [("_law_k", 12)]) (g := gName 12) (by rfl) nd0 (pi_range1 (by rfl) B.range (pa_cons (pe_callB call_len_seq (by rfl) B.len PySem.boot_len (pa_cons (pv 1) pa_nil)) pa_nil))
            (blkOk_by (own := [("_law_k", 12)]) (N := N82) (sc := defScope (top 82)) (by decide +kernel)) (fun _ _ _ _ _ => pg_name (i := 12) nd0 rfl (Or.inl rfl))
            (fun _ _ _ _ _ => pts_nil) (fun _ _ _ _ _ => pe_op op_add_str pe_str (pe_callTy call_str_int (by rfl) B.str (by decide +kernel) (pa_cons (pv 12) pa_nil)))) (nomark _)) pss_never pss_nil)))))
      (pss_cons (ps_expr (pe_c cF hr (pa_cons (pv 6) (pa_cons (pv 9) pa_nil))))
      (pss_one (ps_ret (ps_m0 (nm := D.nm) cV OD.cl hr (pe_ix ix_tup (pe_c cM hr (pa_cons (pe_op op_cat (pe_op op_cat (pe_m0 cH O.cl hr (pe_dget hu (pv 6) pe_str (fun _ _ => rfl))) (pe_m0 cH O.cl hr (pe_dget hu (pv 6) pe_str (fun _ _ => rfl)))) (pe_m0 cH O.cl hr (pe_dget hu (pv 6) pe_str (fun _ _ => rfl))))
          (pa_cons (ke_dnewN P w) (pa_cons (pv 5) pa_nil)))) pe_int (fun _ _ => rfl))))))))), ?_⟩
    have las := hit.length
    have hz0 : ∀ j : Nat, (0 : Int) + (j : Int) = (j : Int) := fun j => Int.zero_add _
    have hpj : ∀ {j : Nat}, j < n → ps[j]? = some (ps.getD j 0) ∧ ps.getD j 0 < 3 := fun {j} hj => by
      have e : ps[j]? = some ps[j] := List.getElem?_eq_getElem (by omega)
      have e2 : ps.getD j 0 = ps[j] := by rw [List.getD_eq_getElem?_getD, e]; rfl
      rw [e2]
      exact ⟨e, hp3 _ (List.getElem_mem _)⟩
    generalize hpl' : (fun j => ps.getD j 0) = pl at *
    have hpj : ∀ {j : Nat}, j < n → ps[j]? = some (pl j) ∧ pl j < 3 := fun {j} hj => by
      subst hpl'
      exact hpj hj
    -- _law_nodes
    refine fun nds hnds => ?_
    have s1 := Same.new (.dK []) hnds
    have d1 : upd H nds (.dK []) nds = some _ := upd_same
    have E1 := ExAt.tmp (u := .dK []) hE hG hnds
    have gn1 := hG.free hnds
    have hG1 := hG.trans s1
    generalize upd H nds (.dK []) = H1 at *
    refine ⟨(by show 3 ≤ sizeLine; decide), fun sl hsl => ?_⟩
    have s2 := Same.new (.lst nmsV) hsl
    have n2 : upd H1 sl (.lst nmsV) sl = some _ := upd_same
    have E2 := ExAt.tmp (u := .lst nmsV) E1 hG1 hsl
    have hG2 := hG1.trans s2
    have d2 := s2 _ _ d1
    have N0 : Nets CN D T kd k n pl G (upd H1 sl (.lst nmsV)) nds 0 (fun _ => nds) (fun _ => nds) (fun _ => nds) := ⟨d2, by simp, by simp, gn1, by simp⟩
    refine (fun (z : ∀ H2 : Hp, Same G H2 → H2 sl = some (.lst nmsV) → DiAt K CE G H2 X x → Nets CN D T kd k n pl G H2 nds 0 (fun _ => nds) (fun _ => nds) (fun _ => nds) → _) => z _ hG2 n2 E2 N0) ?_
    clear s1 d1 E1 s2 n2 E2 hG2 d2 N0
    intro H2 hG2 n2 E2 N2
    refine ⟨sl, rfl, ⟨_, SqL.of n2⟩, for_list (K := K) (xs := nmsV) (fun i σ' H3 => ∃ v7 v8 G3 a la ka, σ' = [some (.ref nl), some (.ref tl), some (.int (kdI kd)), some (.int (k : Int)), some (.ref pll), some (.ref X.e), some (.ref nds), v7, v8, none, none, none, none, none] ∧ Ext [nds] G H2 G3 H3 ∧ Nets CN D T kd k n pl G3 H3 nds i a la ka)
      ⟨none, none, G, _, _, _, rfl, Ext.refl hG2, N2⟩ ?_ ?_ ?_⟩
    · rintro i σ' H3 _ ⟨_, _, G3, a, la, ka, _, X3, N3⟩
      exact SqL.of (X3.kp _ _ n2 (by simpa using ne_of n2 N2.d (by intro z; cases z)))
    · rintro i y σ' H3 hy ⟨v7, v8, G3, a, la, ka, rfl, X3, N3⟩
      obtain ⟨hi, rfl⟩ := nmsV_get hy
      have kp3 : ∀ b o, G b = some o → H3 b = some o := fun b o e => X3.gh _ _ (X3.gg _ _ e)
      have hln : (refs as).length = n := by simpa using las
      refine ⟨_, rfl, tl, _, rfl, .inl (SqL.of (kp3 _ _ htl)), ?_⟩
      rw [hln]
      refine ⟨_, rfl, by omega, by omega, fun D1 hD1 => walk_range (n := (n : Int).toNat) (fun j H4 => H4 = upd H3 D1 (.lst (natV ((List.range j).filter fun t => decide (pl t = i))))) rfl ?_ ?_⟩
      · rintro j H4 hj rfl
        rw [hz0]
        have hj' : j < n := by simpa using hj
        obtain ⟨hpj1, hpj2⟩ := hpj hj'
        obtain ⟨ch, hch1, hch2⟩ := abc_ix hpj2
        have pl4 := Same.new (.lst (natV ((List.range j).filter fun t => decide (pl t = i)))) hD1 _ _ (kp3 _ _ hpl)
        refine ⟨rfl, _, rfl, _, rfl, pll, _, _, _, rfl, rfl, SqL.of pl4, atI_nat (j := j) (by rw [natV, List.getElem?_map, hpj1]; rfl), _, _, ch, rfl, rfl, (by decide), atI_nat (j := pl j) hch1, ?_⟩
        rw [hch2]
        refine ⟨_, rfl, rfl, _, rfl, ?_⟩
        rw [mine_take]
        refine ite2 (fun z => ?_) fun z => ?_
        · have e : pl j = i := nN_inj hpj2 hi (V.str.inj (of_decide_eq_true z))
          refine ⟨_, rfl, _, upd_same, ?_, ?_⟩
          · have := List.length_filter_le (fun t => decide (pl t = i)) (List.range j)
            rw [List.length_range] at this
            exact small1000 (by simp [natV] at this ⊢; omega)
          · rw [upd_upd, if_pos e]
            simp [natV]
        · have e : ¬ pl j = i := fun e => z (decide_eq_true (by rw [e]))
          rw [if_neg e, List.append_nil]
      rintro H4 rfl
      have em : ((List.range (n : Int).toNat).filter fun t => decide (pl t = i)) = mineL n pl i := rfl
      rw [em]
      have hM : ∀ t ∈ mineL n pl i, t < n := fun t ht => List.mem_range.mp (List.mem_filter.mp ht).1
      have hMl : (mineL n pl i).length ≤ 4 := by
        have := List.length_filter_le (fun t => decide (pl t = i)) (List.range n)
        rw [List.length_range] at this
        exact Nat.le_trans this n4
      have hMin : (mineL n pl i).map (singP T kd) = (initN T kd n pl i).pars := rfl
      generalize mineL n pl i = M at *
      have Y4 : Ext [] G3 H3 G3 (upd H3 D1 (.lst (natV M))) := (Ext.refl X3.gh).tmp hD1
      have d4 : upd H3 D1 (.lst (natV M)) D1 = some _ := upd_same
      generalize upd H3 D1 (.lst (natV M)) = H4 at *
      refine ⟨_, rfl, _, rfl, D1, rfl, ⟨_, SqL.of d4⟩, fun D2 hD2 => walk_list (K := K) (xs := natV M) (fun j H5 => ∃ G5 us, Ext [] G3 H3 G5 H5 ∧ H5 D1 = some (.lst (natV M)) ∧ H5 D2 = some (.lst (refs us)) ∧ G5 D2 = none ∧ us.length = j ∧ Pas D T k G5 us ((M.take j).map (singP T kd)))
        ⟨G3, [], Y4.tmp hD2, (upd_ne (ne_of_none d4 hD2)).trans d4, upd_same, Y4.gh.free hD2, rfl, .nil⟩ ?_ ?_ ?_⟩
      · rintro j H5 _ ⟨G5, us, _, d5, _⟩
        exact SqL.of d5
      · rintro j y H5 hy ⟨G5, us, Y5, d5, e5, g5, lu, P5⟩
        rw [natV, List.getElem?_map] at hy
        obtain ⟨t, ht, rfl⟩ := Option.map_eq_some_iff.mp hy
        have hj := (List.getElem?_eq_some_iff.mp ht).1
        have htn := hM t (List.mem_of_getElem? ht)
        have ht4 : t < 4 := by omega
        have kp5 : ∀ b o, G b = some o → G5 b = some o := fun b o e => Y5.gg _ _ (X3.gg _ _ e)
        obtain ⟨at', hat, hit'⟩ := paired_get' hit (show (List.range n)[t]? = some t by rw [List.getElem?_range htn])
        refine ⟨rfl, yes_ok ?_⟩
        refine ⟨_, rfl, _, rfl, log_small ht4, _, _, rfl, rfl, pm_len4 ⟨t, ht4⟩, (by show 1 ≤ sizeLine; decide), fun tt htt => ?_⟩
        have hpn : (("p" : Str) ++ (toString (t : Int) : Str)) = pNm t := rfl
        rw [hpn]
        have Y6 := Y5.new (o := .tup [.str (pNm t)]) htt
        have k6 := Same.new (.tup [.str (pNm t)]) htt
        have d6 := k6 _ _ d5
        have e6 := k6 _ _ e5
        have kg6 := Same.new (.tup [.str (pNm t)]) (Y5.gh.free htt)
        have t6 : upd G5 tt (.tup [.str (pNm t)]) tt = some _ := upd_same
        have g6 : upd G5 tt (.tup [.str (pNm t)]) D2 = none := (upd_ne (ne_of_none e5 htt)).trans g5
        generalize upd H5 tt (.tup [.str (pNm t)]) = H6 at *
        generalize upd G5 tt (.tup [.str (pNm t)]) = G6 at *
        have kp6 : ∀ b o, G b = some o → G6 b = some o := fun b o e => kg6 _ _ (kp5 _ _ e)
        refine ⟨_, rfl, _, rfl, _, rfl, tl, _, _, _, rfl, rfl, SqL.of (Y6.gh _ _ (kp6 _ _ htl)), atI_nat (j := t) (by rw [List.getElem?_map, hat]; rfl), _, rfl, G6, at', t, k, rfl, Y6.gh, hit'.mono kp6, kp6 _ _ hDC, ⟨by omega, by omega⟩, fun G7 H7 r X7 hS => ⟨(by show 2 ≤ sizeLine; decide), fun u hu' => ?_⟩⟩
        have Y7 := Y6.trans X7 (by simp)
        have Y8 := Y7.new (o := .tup [.ref tt, .ref r]) hu'
        have k8 := Same.new (.tup [.ref tt, .ref r]) hu'
        have kg8 := Same.new (.tup [.ref tt, .ref r]) (Y7.gh.free hu')
        have u8 : upd G7 u (.tup [.ref tt, .ref r]) u = some _ := upd_same
        have e7 := X7.kp _ _ e6 (by simp)
        have d8 := k8 _ _ (X7.kp _ _ d6 (by simp))
        have e8 := k8 _ _ e7
        have g8 : upd G7 u (.tup [.ref tt, .ref r]) D2 = none := (upd_ne (ne_of_none e7 hu')).trans (X7.out g6 e6)
        generalize upd H7 u (.tup [.ref tt, .ref r]) = H8 at *
        generalize upd G7 u (.tup [.ref tt, .ref r]) = G8 at *
        have hD3 : H3 D2 = none := Y4.dm _ hD2
        refine ⟨_, e8, small1000 (by simp; omega), G8, us ++ [u], Y8.wr (.inr hD3) g8, (upd_ne (ne_of_none d4 hD2)).trans d8, by rw [upd_same]; simp [refs], g8, by simp [lu], ?_⟩
        rw [List.take_add_one, ht, List.map_append]
        refine paired_append (P5.mono (kg6.trans (X7.gg.trans kg8))) (.cons ⟨tt, r, u8, kg8 _ _ (X7.gg _ _ t6), hS.mono kg8, fun m hm => ?_⟩ .nil)
        have : m = t := by simpa [singP] using hm
        omega
      rintro H5 ⟨G5, us, Y5, d5, e5, g5, lu, P5⟩
      have e1 : M.take (natV M).length = M := by rw [List.take_of_length_le]; simp [natV]
      rw [e1, hMin] at P5
      refine fun xa dx nx ndx nex => ?_
      have nD2 : D2 ≠ xa := ne_of_none e5 nx
      have nD2' : D2 ≠ dx := ne_of_none e5 ndx
      refine ⟨xa, dx, D2, i, refs us, rfl, upd_same, (upd_ne nD2).trans ((upd_ne nD2').trans e5), fun Pl lx kx H6 hPl hlx hkx n1 n2' n3 i1 i2 i3 i4 i5 => ⟨rfl, ?_⟩⟩
      have Z6 := node_ext (o := .lst (refs us)) Y5.gh nx ndx hPl hlx hkx i2 i5 ⟨_, i1⟩ ⟨_, i3⟩ ⟨_, i4⟩
      have Y6 := Y5.trans Z6 (by simp)
      have p0 := upd_none hPl
      have l0 := upd_none hlx
      have k0 := upd_none hkx
      have p1 := upd_none p0.2
      have l1 := upd_none l0.2
      have k1 := upd_none k0.2
      have gx : upd G5 Pl (.lst (refs us)) xa = none := (upd_ne p0.1.symm).trans (Y5.gh.free nx)
      have gl : upd G5 Pl (.lst (refs us)) lx = none := (upd_ne (Ne.symm n1)).trans (Y5.gh.free l1.2)
      have gk : upd G5 Pl (.lst (refs us)) kx = none := (upd_ne (Ne.symm n2')).trans (Y5.gh.free k1.2)
      have gP : upd G5 Pl (.lst (refs us)) Pl = some _ := upd_same
      have hd6 := Y6.kp _ _ N3.d (by simp)
      have gn6 := Y6.out N3.gn N3.d
      have P6 := P5.mono Z6.gg
      generalize upd G5 Pl (.lst (refs us)) = G6 at *
      refine ⟨_, rfl, _, rfl, nds, _, rfl, DPut.k (k := Sum.inr (nN i)) hd6 (small1000 (by simp; omega)), ?_⟩
      rw [putK_new _ (names_none a hi)]
      have Y7 := (Y6.mono (ns := [nds]) (by simp)).wr (m := nds) (o := .dK ((List.range i).map (fun j => ((Sum.inr (nN j) : Key), V.ref (a j))) ++ [((Sum.inr (nN i) : Key), V.ref xa)])) (.inl (by simp)) gn6
      have ndsx : xa ≠ nds := ne_of i1 hd6 (by intro z; cases z)
      have ndsl : lx ≠ nds := (ne_of_none (Y5.kp _ _ N3.d (by simp)) l1.2).symm
      have ndsk : kx ≠ nds := ne_of i4 hd6 (by intro z; cases z)
      have hd7 : upd H6 nds (.dK ((List.range i).map (fun j => ((Sum.inr (nN j) : Key), V.ref (a j))) ++ [((Sum.inr (nN i) : Key), V.ref xa)])) nds = some _ := upd_same
      have x7 := (upd_ne (H := H6) (o := .dK ((List.range i).map (fun j => ((Sum.inr (nN j) : Key), V.ref (a j))) ++ [((Sum.inr (nN i) : Key), V.ref xa)])) ndsx).trans i1
      have l7 := (upd_ne (H := H6) (o := .dK ((List.range i).map (fun j => ((Sum.inr (nN j) : Key), V.ref (a j))) ++ [((Sum.inr (nN i) : Key), V.ref xa)])) ndsl).trans i3
      have k7 := (upd_ne (H := H6) (o := .dK ((List.range i).map (fun j => ((Sum.inr (nN j) : Key), V.ref (a j))) ++ [((Sum.inr (nN i) : Key), V.ref xa)])) ndsk).trans i4
      generalize upd H6 nds (.dK ((List.range i).map (fun j => ((Sum.inr (nN j) : Key), V.ref (a j))) ++ [((Sum.inr (nN i) : Key), V.ref xa)])) = H7 at *
      refine ⟨_, _, G6, setA a i xa, setA la i lx, setA ka i kx, rfl, X3.trans Y7 (fun b hb => .inl hb), N3.add Y7 (Y5.dm _ nx) (Y5.dm _ l1.2) (Y5.dm _ k1.2) ⟨⟨dx, Pl, us, x7, gP, P6⟩, ⟨[], l7, .nil⟩, ⟨[], k7, fun q _ => rfl, Nat.zero_le _⟩, gx, gl, gk, hi⟩ hd7⟩
    · rintro σ' H3 ⟨v7, v8, G3, a, la, ka, rfl, X3, N3⟩
      have N3 : Nets CN D T kd k n pl G3 H3 nds 3 a la ka := N3
      have nX : ∀ b o, H2 b = some o → (∀ kvs, o ≠ .dK kvs) → b ∉ [nds] := fun b o e hne => by
        rw [List.mem_singleton]
        rintro rfl
        rw [N2.d] at e
        cases e
        exact hne _ rfl
      have E3 : DiAt K CE G3 H3 X x := by
        obtain ⟨c, z1, _⟩ := E2.ins
        obtain ⟨qs, z2, _⟩ := E2.path
        exact ExAt.keep E2 X3 (nX _ _ z1 (by intro kvs z; cases z)) (nX _ _ z2 (by intro kvs z; cases z))
      have kp3 : ∀ b o, G b = some o → G3 b = some o := fun b o e => X3.gg _ _ e
      have hG3 := X3.gh
      -- _law_letters
      refine ⟨(by show 0 ≤ sizeLine; decide), fun lls hlls => ?_⟩
      have s4 := Same.new (.lst []) hlls
      have l4 : upd H3 lls (.lst []) lls = some _ := upd_same
      have hG4 := hG3.trans s4
      have E4 := ExAt.tmp (u := .lst []) E3 hG3 hlls
      have gl4 := hG3.free hlls
      have S4 : StAt CN D T k G3 (upd H3 lls (.lst [])) ⟨nds, lls, a, ka⟩ la (initS T kd n pl) := by
        refine ⟨s4 _ _ N3.d, fun i hi => (N3.n i hi).keep (ms := []) (Ext.same hG3 s4) (by simp) (by simp) (by simp), ⟨[], l4, .nil⟩, N3.gn, gl4, fun i j hi hj hij => N3.da i j hi hj hij, fun i hi => N3.dn i hi⟩
      have A4 : Apart ⟨nds, lls, a, ka⟩ X := by
        obtain ⟨qs, z2, _⟩ := E3.path
        exact ⟨(ne_of_none z2 hlls).symm, (ne_of_none (hG3 _ _ (kp3 _ _ hR)) hlls).symm⟩
      generalize upd H3 lls (.lst []) = H4 at *
      clear s4 l4
      have g0 := init_good (kd := kd) (k := k) hT hk n4 (fun j hj => (hpj hj).2)
      generalize hW : (⟨nds, lls, a, ka⟩ : Wd) = W at *
      have eW1 : nds = W.nds := by rw [← hW]
      have eW2 : lls = W.lls := by rw [← hW]
      rw [eW1, eW2]
      clear hW eW1 eW2 N3 X3 hlls gl4 E3 hG3 nX hnds E2 N2 n2 hsl
      have hrun : (runT T kd k nums (initS T kd n pl)).Run x := hrun
      have q : ∀ (G' H' : Hp) (r : Addr), Same G G' → Same G' H' → DiAt K CE G' H' X ((runT T kd k nums (initS T kd n pl)).exec x).2 → VwIs T k G' r ((runT T kd k nums (initS T kd n pl)).exec x).1.smp → Q (.ref r) H' := q
      generalize initS T kd n pl = σ0 at *
      generalize hrr : (runT T kd k nums σ0).exec x = rr at *
      have nl4 := hG4 _ _ (kp3 _ _ hnl)
      refine ⟨_, rfl, nl, rfl, ⟨_, SqL.of nl4⟩, for_list (K := K) (xs := natV nums) (fun i σ' H5 => ∃ v10 v11 G5 la5 σ5 x5, σ' = [some (.ref nl), some (.ref tl), some (.int (kdI kd)), some (.int (k : Int)), some (.ref pll), some (.ref X.e), some (.ref W.nds), v7, v8, some (.ref W.lls), v10, v11, none, none] ∧ Same G3 G5 ∧ Same G5 H5 ∧ StAt CN D T k G5 H5 W la5 σ5 ∧ DiAt K CE G5 H5 X x5 ∧ Good T kd k n i σ5 ∧
          (runT T kd k (nums.drop i) σ5).Run x5 ∧ (runT T kd k (nums.drop i) σ5).exec x5 = rr)
        ⟨none, none, G3, la, σ0, x, rfl, Same.refl _, hG4, S4, E4, g0, hrun, hrr⟩ ?_ ?_ ?_⟩
      · rintro i σ' H5 _ ⟨_, _, G5, _, _, _, _, s35, s5, _⟩
        exact SqL.of (s5 _ _ (s35 _ _ (kp3 _ _ hnl)))
      · rintro i y σ' H5 hy ⟨v10, v11, G5, la5, σ5, x5, rfl, s35, hG5, S5, E5, g5, run5, ex5⟩
        rw [natV, List.getElem?_map] at hy
        obtain ⟨num, hnum, rfl⟩ := Option.map_eq_some_iff.mp hy
        have hi := (List.getElem?_eq_some_iff.mp hnum).1
        have hdr : nums.drop i = num :: nums.drop (i + 1) := by
          rw [List.drop_eq_getElem_cons hi, (List.getElem?_eq_some_iff.mp hnum).2]
        rw [hdr, runT_cons] at run5 ex5
        rw [Tr.Run_bind] at run5
        rw [Tr.exec_bind] at ex5
        refine ⟨_, rfl, _, rfl, _, rfl, _, rfl, G5, W, la5, σ5, rfl, hG5, S5, fun H6 s6 => ⟨_, _, rfl, rfl, .inl ⟨by decide, by decide⟩, _, _, rfl, rfl, _, rfl, ?_⟩⟩
        have S6 := S5.same hG5 s6
        have E6 := ExAt.same E5 E5 (Ext.same (ms := []) hG5 s6) (Same.refl _) s6
        refine ⟨G5, W, la5, σ5, X, x5, num + 7 * seen T σ5, n, i, rfl, hG5.trans s6, S6, E6, A4, g5, by omega, run5.1, fun G7 H7 la7 s57 hG7 S7 E7 => ?_⟩
        have g7 := Tr.All.exec (deed_law g5 (num + 7 * seen T σ5)).1 run5.1
        have run7 := run5.2
        generalize (deedT T kd k (num + 7 * seen T σ5) σ5).exec x5 = z at *
        obtain ⟨σ7, x7⟩ := z
        simp only at S7 E7 g7 run7 ex5
        have nodeGet : ∀ {i : Nat}, i < 3 → ∀ {Hx : Hp}, Same H7 Hx → DGet Hx W.nds (kV (Sum.inr (nN i))) (some (V.ref (W.a i))) := fun {i} hi3 {Hx} sx => .inl ⟨_, _, .inl (sx _ _ S7.nds), rfl, (ndsK_val W hi3).symm⟩
        refine ⟨_, rfl, W.nds, _, rfl, nodeGet (i := 0) (by decide) (Same.refl _), _, rfl, W.nds, _, rfl, nodeGet (i := 1) (by decide) (Same.refl _), _, rfl, W.nds, _, rfl, nodeGet (i := 2) (by decide) (Same.refl _), (by show 3 ≤ sizeLine; decide), fun rl hrl => ?_⟩
        have s8 := Same.new (.lst [V.ref (W.a 0), V.ref (W.a 1), V.ref (W.a 2)]) hrl
        have r8 : upd H7 rl (.lst [V.ref (W.a 0), V.ref (W.a 1), V.ref (W.a 2)]) rl = some _ := upd_same
        dsimp only [tNil, tC, tCons, List.cons_append, List.nil_append, List.append_nil]
        generalize upd H7 rl (.lst [V.ref (W.a 0), V.ref (W.a 1), V.ref (W.a 2)]) = H8 at *
        have S8 := S7.same hG7 s8
        have hcnt := cnt_live (W := W) (la := la7) g7
        have hgl : ∀ i, i < 3 → ((σ7.nd i).out.map (·.num)).Nodup ∧ (σ7.nd i).out.length ≤ 1000 := fun i hi3 => ⟨(g7.g1 i hi3).num, by have := (g7.g1 i hi3).len; omega⟩
        refine ⟨G7, rl, nrs W la7 σ7, rfl, hG7.trans s8, SqL.of r8, fun s hs => ?_, (by show [0, 1, 2].Nodup; decide), (by show 3 ≤ 100; decide), fun r hr => ?_, ?_, fun H9 cl cs s9 c9 hC => ?_⟩
        · simp only [nrs, List.mem_cons, List.not_mem_nil, or_false] at hs
          rcases hs with rfl | rfl | rfl
          · exact S8.n 0 (by decide)
          · exact S8.n 1 (by decide)
          · exact S8.n 2 (by decide)
        · simp only [nrs, List.mem_cons, List.not_mem_nil, or_false] at hr
          rcases hr with rfl | rfl | rfl
          · exact hgl 0 (by decide)
          · exact hgl 1 (by decide)
          · exact hgl 2 (by decide)
        · rw [hcnt, g7.g5.length_eq, List.length_range]; omega
        rw [hcnt, so_range g7.g5] at hC
        have lcs := hC.length
        rw [List.length_range] at lcs
        refine ⟨cl, rfl, ⟨_, SqL.of c9⟩, fun D1 hD1 => walk_list (K := K) (xs := refs cs) (fun j H10 => H10 = upd H9 D1 (.lst (ptV ((List.range n).take j)))) rfl ?_ ?_ ?_⟩
        · rintro j H10 _ rfl
          exact SqL.of (Same.new _ hD1 _ _ c9)
        · rintro j y H10 hy rfl
          rw [List.getElem?_map] at hy
          obtain ⟨ca, hca, rfl⟩ := Option.map_eq_some_iff.mp hy
          obtain ⟨t, ht, ht4, s, t', hct⟩ := paired_get hC hca
          have hj := (List.getElem?_eq_some_iff.mp ht).1
          rw [List.length_range] at hj
          refine ⟨rfl, yes_ok ?_⟩
          refine ⟨_, rfl, ca, _, _, _, rfl, rfl, SqT.of (Same.new _ hD1 _ _ hct), atI_nat (j := 0) rfl, _, upd_same, small1000 (by simp [ptV]; omega), ?_⟩
          rw [upd_upd, List.take_add_one, ht]
          simp [ptV]
        rintro H10 rfl
        have etk : (List.range n).take (refs cs).length = List.range n := by rw [List.take_of_length_le]; simp [lcs]
        rw [etk]
        have s10 := s8.trans (s9.trans (Same.new (.lst (ptV (List.range n))) hD1))
        have d10 : upd H9 D1 (.lst (ptV (List.range n))) D1 = some _ := upd_same
        generalize upd H9 D1 (.lst (ptV (List.range n))) = H10 at *
        have hG10 := hG7.trans s10
        have tl10 := hG10 _ _ (s57 _ _ (s35 _ _ (kp3 _ _ htl)))
        have hln : (refs as).length = n := by simpa using las
        refine ⟨_, rfl, _, rfl, tl, _, rfl, .inl (SqL.of tl10), ?_⟩
        rw [hln]
        refine ⟨_, rfl, by omega, by omega, fun D2 hD2 => walk_range (n := (n : Int).toNat) (fun j H11 => H11 = upd H10 D2 (.lst (ptV (List.range j)))) rfl ?_ ?_⟩
        · rintro j H11 hj rfl
          rw [hz0]
          have hj' : j < n := by simpa using hj
          have hj4 : j < 4 := by omega
          refine ⟨rfl, yes_ok ?_⟩
          refine ⟨_, rfl, _, rfl, log_small hj4, _, _, rfl, rfl, pm_len4 ⟨j, hj4⟩, _, upd_same, small1000 (by simp [ptV]; omega), ?_⟩
          rw [upd_upd, List.range_succ]
          simp [ptV, pNm]
        rintro H11 rfl
        have ern : List.range (n : Int).toNat = List.range n := rfl
        rw [ern]
        have s11 := s10.trans (Same.new (.lst (ptV (List.range n))) hD2)
        have d11 := Same.new (.lst (ptV (List.range n))) hD2 _ _ d10
        have e11 : upd H10 D2 (.lst (ptV (List.range n))) D2 = some _ := upd_same
        generalize upd H10 D2 (.lst (ptV (List.range n))) = H11 at *
        have h4 : ∀ i ∈ List.range n, i < 4 := fun i hi => by have := List.mem_range.mp hi; omega
        have hsh := pt_shaped (List.range n) h4
        refine ⟨_, _, .lst (SqL.of d11) (pt_dp _), .lst (SqL.of e11) (pt_dp _), hsh, hsh, _, rfl, ?_⟩
        rw [shaped_refl hsh]
        refine iteF ?_
        exact ⟨_, _, G7, la7, σ7, x7, rfl, s35.trans s57, hG7.trans s11, S7.same hG7 s11, ExAt.same E7 E7 (Ext.same (ms := []) hG7 s11) (Same.refl _) s11, g7, run7, ex5⟩
      · rintro σ' H5 ⟨v10, v11, G5, la5, σ5, x5, rfl, s35, hG5, S5, E5, g5, run5, ex5⟩
        have hln : (natV nums).length = nums.length := by simp [natV]
        rw [hln] at g5 run5 ex5
        rw [List.drop_length] at run5 ex5
        have run5 : (finT T kd k (endS (σ5.ls.length + 1) σ5)).Run x5 := run5
        have ex5 : (finT T kd k (endS (σ5.ls.length + 1) σ5)).exec x5 = rr := ex5
        have hge := end_good (σ5.ls.length + 1) g5
        have hel := end_live σ5.ls.length g5
        refine ⟨_, rfl, _, rfl, G5, W, la5, σ5, X, x5, n, nums.length, rfl, hG5, S5, E5, g5, by omega, fun G6 H6 la6 s56 hG6 S6 E6 => ?_⟩
        generalize endS (σ5.ls.length + 1) σ5 = τ at *
        have nodeGet : ∀ {i : Nat}, i < 3 → ∀ {Hx : Hp}, Same H6 Hx → DGet Hx W.nds (kV (Sum.inr (nN i))) (some (V.ref (W.a i))) := fun {i} hi3 {Hx} sx => .inl ⟨_, _, .inl (sx _ _ S6.nds), rfl, (ndsK_val W hi3).symm⟩
        obtain ⟨dx0, Pl0, as0, a10, a20, a30⟩ := (S6.n 0 (by decide)).ins
        obtain ⟨dx1, Pl1, as1, a11, a21, a31⟩ := (S6.n 1 (by decide)).ins
        obtain ⟨dx2, Pl2, as2, a12, a22, a32⟩ := (S6.n 2 (by decide)).ins
        have Ng : ∀ i, i < 3 → (τ.nd i).pars.length ≤ 4 := fun i hi => by have := (hge.1.g1 i hi).len; omega
        have N0 := Ng 0 (by decide)
        have N1 := Ng 1 (by decide)
        have N2 := Ng 2 (by decide)
        refine ⟨_, rfl, W.nds, _, rfl, nodeGet (i := 0) (by decide) (Same.refl _), W.a 0, dx0, _, rfl, a10, zlook_none (ns := ndN) (by decide) _, G6, _, _, _, 0, _, rfl, hG6, S6.n 0 (by decide), fun h0 bs0 hh0 B0 => ?_⟩
        have s7 := Same.new (.lst (refs bs0)) hh0
        have p7 : upd H6 h0 (.lst (refs bs0)) h0 = some _ := upd_same
        generalize upd H6 h0 (.lst (refs bs0)) = H7 at *
        refine ⟨_, rfl, W.nds, _, rfl, nodeGet (i := 1) (by decide) s7, W.a 1, dx1, _, rfl, s7 _ _ a11, zlook_none (ns := ndN) (by decide) _, G6, _, _, _, 1, _, rfl, hG6.trans s7, (S6.same hG6 s7).n 1 (by decide), fun h1 bs1 hh1 B1 => ?_⟩
        have s8 := s7.trans (Same.new (.lst (refs bs1)) hh1)
        have p8 := Same.new (.lst (refs bs1)) hh1 _ _ p7
        have q8 : upd H7 h1 (.lst (refs bs1)) h1 = some _ := upd_same
        generalize upd H7 h1 (.lst (refs bs1)) = H8 at *
        have lb0 := B0.length
        have lb1 := B1.length
        refine ⟨h0, h1, _, _, rfl, rfl, p8, q8, Nat.le_of_lt (small1000 (by simp; omega)), fun h01 hh01 => ?_⟩
        have er1 : refs bs0 ++ refs bs1 = refs (bs0 ++ bs1) := by simp [refs]
        rw [er1]
        have s9 := s8.trans (Same.new (.lst (refs (bs0 ++ bs1))) hh01)
        have p9 : upd H8 h01 (.lst (refs (bs0 ++ bs1))) h01 = some _ := upd_same
        generalize upd H8 h01 (.lst (refs (bs0 ++ bs1))) = H9 at *
        refine ⟨_, rfl, W.nds, _, rfl, nodeGet (i := 2) (by decide) s9, W.a 2, dx2, _, rfl, s9 _ _ a12, zlook_none (ns := ndN) (by decide) _, G6, _, _, _, 2, _, rfl, hG6.trans s9, (S6.same hG6 s9).n 2 (by decide), fun h2 bs2 hh2 B2 => ?_⟩
        have s10 := s9.trans (Same.new (.lst (refs bs2)) hh2)
        have p10 := Same.new (.lst (refs bs2)) hh2 _ _ p9
        have q10 : upd H9 h2 (.lst (refs bs2)) h2 = some _ := upd_same
        generalize upd H9 h2 (.lst (refs bs2)) = H10 at *
        have lb2 := B2.length
        refine ⟨h01, h2, _, _, rfl, rfl, p10, q10, Nat.le_of_lt (small1000 (by simp; omega)), fun hl hhl => ?_⟩
        have er2 : refs (bs0 ++ bs1) ++ refs bs2 = refs (bs0 ++ bs1 ++ bs2) := by simp [refs]
        rw [er2]
        have s11 := s10.trans (Same.new (.lst (refs (bs0 ++ bs1 ++ bs2))) hhl)
        have p11 : upd H10 hl (.lst (refs (bs0 ++ bs1 ++ bs2))) hl = some _ := upd_same
        generalize upd H10 hl (.lst (refs (bs0 ++ bs1 ++ bs2))) = H11 at *
        refine fun dd hdd => ?_
        have s12 := s11.trans (Same.new (dnO P w dd []) hdd)
        have p12 := Same.new (dnO P w dd []) hdd _ _ p11
        have d12 : upd H11 dd (dnO P w dd []) dd = some _ := upd_same
        generalize upd H11 dd (dnO P w dd []) = H12 at *
        have hPas : Pas D T k G6 (bs0 ++ bs1 ++ bs2) (heldP τ) := paired_append (paired_append B0 B1) B2
        have hlen := (live_len g5 n1).1
        have hok : ∀ p ∈ heldP τ, ParOk T kd k p := fun p hp => live_ok g5 p (hel.subset hp)
        have hnd : ((heldP τ).flatMap (·.ps)).Nodup := (flat_perm (fun p : Par => p.ps) hel.symm).nodup (g5.g5.symm.nodup List.nodup_range)
        have hll := hel.length_eq
        unfold finT at run5 ex5
        cases hh : heldP τ with
        | nil => rw [hh] at hll; simp at hll; omega
        | cons p r =>
          rw [hh] at hPas hok hnd
          simp only [hh] at run5 ex5
          refine ⟨_, rfl, G6, hl, dd, X, bs0 ++ bs1 ++ bs2, p, r, x5, rfl, hG6.trans s12, ⟨SqL.of p12, hPas, hok, hnd⟩, d12, ExAt.same E6 E6 (Ext.same (ms := []) hG6 s12) (Same.refl _) s12, run5, fun G13 H13 pa X13 E13 hPa => ?_⟩
          rw [ex5] at E13 hPa
          obtain ⟨tp, sp, q1, q2, q3, q4⟩ := hPa
          obtain ⟨dx, L, rs', i1, i2, i3⟩ := q3.ins
          refine ⟨pa, _, _, _, rfl, rfl, SqT.of (X13.gh _ _ q1), atI_nat (j := 1) rfl, sp, dx, _, rfl, X13.gh _ _ i1, X13.gh _ _ q3.cls, zlook_none hvf _, ?_⟩
          refine ⟨G13, sp, rr.1.smp, rfl, X13.gh, q3, fun G14 H14 r14 X14 hV => ?_⟩
          refine q G14 H14 r14 (fun b o e => X14.gg _ _ (X13.gg _ _ (s56 _ _ (s35 _ _ (kp3 _ _ e))))) X14.gh ?_ hV
          exact ExAt.keep E13 X14 (by simp) (by simp)
end
end Sam
end
section
set_option Elab.async false
set_option linter.all false
set_option maxRecDepth 100000
set_option maxHeartbeats 1000000
namespace Sam
open PySem PySem.Spec PyProof.Rows L2
open C8 (pss_cut tCut call_isC InsC)
/-! ### nothing but the object at R -/
def thaw (R : Addr) (G : Hp) : Hp := fun b => if b = R then none else G b
theorem thaw_none (R : Addr) (G : Hp) : thaw R G R = none := if_pos rfl
theorem thaw_ne {R b : Addr} (G : Hp) (h : b ≠ R) : thaw R G b = G b := if_neg h
theorem thaw_same {R : Addr} {G H : Hp} (s : Same G H) : Same (thaw R G) H := fun b o e => by
  by_cases q : b = R
  · subst q; rw [thaw_none] at e; cases e
  · rw [thaw_ne _ q] at e; exact s b o e
theorem same_thaw {R : Addr} {G G' : Hp} (s : Same G G') (h : G R = none) : Same G (thaw R G') := fun b o e => by
  have q : b ≠ R := fun z => by subst z; rw [h] at e; cases e
  rw [thaw_ne _ q]; exact s b o e
/-! ### the rows as data -/
section
variable {T : Nat → Thing} {k : Nat}
theorem canLay_items (hT : ∀ i, ThOk (T i)) : ∀ l : List Nat, (∀ i ∈ l, i < 4) → PyData.canLayAll0 (NestedKey.datas (l.map (itNk T))) = true
  | [], _ => by simp [NestedKey.datas, PyData.canLayAll0]
  | x :: r, h => by
    have h1 := it_lay (h x List.mem_cons_self) (hT x)
    have h2 := canLay_items hT r fun i hi => h i (List.mem_cons_of_mem _ hi)
    have e : (itNk T x).data = itD T x := by simp [itNk, itD, NestedKey.data, NestedKey.datas]
    simp only [List.map_cons, NestedKey.datas, PyData.canLayAll0, e, h1, h2]
    rfl
theorem canLay_vw (hT : ∀ i, ThOk (T i)) {s : Smp Nat} (h : ∀ i ∈ s.kept, i < 4) : PyData.canLay0 (vwNk T k s).data = true := by
  have := canLay_items hT s.kept h
  simp [vwNk, NestedKey.data, NestedKey.datas, PyData.canLay0, PyData.canLayAll0, this]
theorem vw_shaped (hT : ∀ i, ThOk (T i)) {s : Smp Nat} (h : ∀ i ∈ s.kept, i < 4) : SeqAt.shaped (vwNk T k s).data = true := by
  have h1 := canLay_vw (k := k) hT h
  have h2 := vw_depthD (T := T) (k := k) s
  unfold SeqAt.shaped
  rw [h1, decide_eq_true (by omega)]
  rfl
theorem rows_lay (hT : ∀ i, ThOk (T i)) : ∀ l : List Row, (∀ r ∈ l, ∀ i ∈ r.1.kept, i < 4) → PyData.canLayAll0 (l.map (rowD T k)) = true ∧ PyData.depthAll (l.map (rowD T k)) ≤ 17
  | [], _ => by simp [PyData.canLayAll0, PyData.depthAll]
  | r :: t, h => by
    obtain ⟨h1, h2⟩ := rows_lay hT t fun x hx => h x (List.mem_cons_of_mem _ hx)
    have h3 := canLay_vw (k := k) hT (h r List.mem_cons_self)
    have h4 := vw_depthD (T := T) (k := k) r.1
    refine ⟨by simp [PyData.canLayAll0, rowD, frD, PyData.canLay0, h3, h1], ?_⟩
    simp only [List.map_cons, PyData.depthAll, rowD, frD, PyData.depth]
    omega
theorem rows_shaped (hT : ∀ i, ThOk (T i)) {l : List Row} (h : ∀ r ∈ l, ∀ i ∈ r.1.kept, i < 4) : SeqAt.shaped (.list (l.map (rowD T k))) = true := by
  obtain ⟨h1, h2⟩ := rows_lay (k := k) hT l h
  have e1 : PyData.canLay0 (.list (l.map (rowD T k))) = true := by simp only [PyData.canLay0, h1]
  have e2 : (PyData.list (l.map (rowD T k))).depth ≤ 64 := by
    simp only [PyData.depth]
    omega
  unfold SeqAt.shaped
  rw [e1, decide_eq_true e2]
  rfl
variable {K : PySem.W.Frag}
theorem rows_dp {H : Hp} {as : List Addr} {l : List Row} (h : RowsAt K T k H as l) : DpAll K H (refs as) (l.map (rowD T k)) := by
  induction h with
  | nil => exact .nil
  | cons h _ ih => exact .cons (row_dp h) ih
theorem sqT_thaw {G : Hp} {R a : Addr} {rs : List Addr} {xs : List V} (hR : G R = some (.lst (refs rs))) (h : SqT K G a xs) : SqT K (thaw R G) a xs := by
  have : ∀ o, G a = some o → o ≠ .lst (refs rs) → thaw R G a = some o := fun o e hn => by
    rw [thaw_ne]
    · exact e
    · rintro rfl
      rw [hR] at e
      exact hn (Option.some.inj e).symm
  rcases h with (h | ⟨o, h⟩) | h
  · exact .inl (.inl (this _ h (by intro z; cases z)))
  · exact .inl (.inr ⟨o, this _ h (by intro z; cases z)⟩)
  · exact .inr h
end
section
variable {P : Program} {w : World} {K : PySem.W.Frag} {mg : Str → Option Value} {base : Heap} {CE CN : Addr}
/-- the explorer without its rows -/
theorem ex_thaw {G H : Hp} {X : DX} {x : ES} {rs : List Addr} (h : DiAt K CE G H X x) (hR : G X.R = some (.lst (refs rs))) (hp : ∀ q ∈ x.path, q.1 < q.2.length) : DiAt K CE (thaw X.R G) H X x := by
  obtain ⟨c, h1, h2⟩ := h.ins
  obtain ⟨ps, h3, h4⟩ := h.path
  refine ⟨⟨c, h1, sqT_thaw hR h2⟩, ⟨ps, h3, ?_⟩, ?_, ?_, h.ch⟩
  · have key : ∀ {ps : List Addr} {qs : Path}, Paired (PickAt G) ps qs → (∀ q ∈ qs, q.1 < q.2.length) → Paired (PickAt (thaw X.R G)) ps qs := by
      intro ps qs hq
      induction hq with
      | nil => exact fun _ => .nil
      | @cons p q pm qm hpq _ ih =>
        intro hl
        refine .cons ?_ (ih fun y hy => hl y (List.mem_cons_of_mem _ hy))
        obtain ⟨a, e1, e2⟩ := hpq
        have hl0 := hl q List.mem_cons_self
        refine ⟨a, ?_, ?_⟩
        · rw [thaw_ne]
          · exact e1
          · rintro rfl; rw [hR] at e1; cases e1
        · rw [thaw_ne]
          · exact e2
          · rintro rfl
            rw [hR] at e2
            have e3 := HO.lst.inj (Option.some.inj e2)
            cases hw : q.2 with
            | nil => rw [hw] at hl0; simp at hl0
            | cons y ys =>
              rw [hw] at e3
              cases rs with
              | nil => simp [refs] at e3
              | cons r0 r1 =>
                simp only [refs, List.map_cons, intsV] at e3
                have := (List.cons.inj e3).1
                cases this
    exact key h4 hp
  · by_cases q : X.e = X.R
    · rw [q]; exact thaw_none _ _
    · rw [thaw_ne _ q]; exact h.ge
  · by_cases q : X.Pa = X.R
    · rw [q]; exact thaw_none _ _
    · rw [thaw_ne _ q]; exact h.gp
end
end Sam
end
section
set_option Elab.async false
set_option linter.all false
set_option maxRecDepth 100000
set_option maxHeartbeats 1000000
namespace Sam
open PySem PySem.Spec PyProof.Rows L2
open C8 (pss_cut tCut call_isC InsC)
/-- the kind by its number -/
def kdOf (CU : Addr) (coU : Obj) (CW : Addr) (coW : Obj) (kd : Bool) : Kd := if kd then kU CU coU else kW CW coW
structure Ix where
  T : Nat → Thing
  kd : Bool
  k : Nat
section
variable {P : Program} {w : World} {K : PySem.W.Frag} {mg : Str → Option Value} {base : Heap} {CE CN CU CW : Addr} {coU coW : Obj}
def spLaw (K : PySem.W.Frag) (CU : Addr) (coU : Obj) (CW : Addr) (coW : Obj) : Sp := fun vs H Q _ => ∃ (a : Addr) (ns : List Int), vs = [.ref a] ∧ SqL K H a (ns.map V.int) ∧ H CU = some (kU CU coU).cls ∧ H CW = some (kW CW coW).cls ∧
  ∀ H', H' CU = some (kU CU coU).cls → H' CW = some (kW CW coW).cls → Q (.bl true) H'
def spRunA (K : PySem.W.Frag) (CE CN CU : Addr) (coU : Obj) (CW : Addr) (coW : Obj) : Sp := fun vs H Q E => ∃ i : Ix, spRun K CE CN (kdOf CU coU CW coW i.kd) i.T i.kd i.k vs H Q E
def spGathA (K : PySem.W.Frag) (CE : Addr) : Sp := fun vs H Q E => ∃ i : Ix, spGath K CE i.T i.k vs H Q E
def spPlainA (K : PySem.W.Frag) : Sp := fun vs H Q E => ∃ i : Ix, spPlain i.T i.kd i.k K vs H Q E
abbrev N83 : List Str := ["_law_script", "_law_deck_here", "_law_kind", "_law_size", "_law_things_here", "_law_places", "_law_numbers", "_law_explorer", "_law_turn", "_law_view", "_law_thing", "_law_k"]
theorem sc83 : FnScope N83 ["_law_script"] (defScope (top 83)) := ⟨rfl, rfl, rfl, by decide +kernel, rfl, by decide +kernel, by decide +kernel⟩
theorem ok_law (KT : Kt K mg) (B : Bn mg) (cE : ECl K CE) (d : Df K mg "law" (top 83) ["_law_script"]) (cDk : Cl P w K mg base "_law_deck" ["_law_script"] 1 (spDeck K)) (cD : Cl P w K mg base "_law_draw" ["_law_deck_here", "_law_most"] 1 spDraw)
    (cTh : Cl P w K mg base "_law_things" ["_law_deck_here", "_law_most"] 2 spThings) (cX : ∀ {a1 : Addr}, mg "ONE_ratios" = some (.ref a1) → Ct P w K mg base "Explorer" CE ["self"] 1 (spExI CE a1)) (cB : Mt P w K mg base CE "begin" ["self"] 2 (spBegin K CE)) (cN : Mt P w K mg base CE "end" ["self", "outcome"] 1 (spEnd K CE))
    (cR : Cl P w K mg base "_law_run" ["_law_deck_numbers", "_law_things_here", "_law_kind", "_law_size", "_law_places", "_law_dice"] 8 (spRunA K CE CN CU coU CW coW)) (cG : Mt P w K mg base CE "gathered" ["self"] 6 (spGathA K CE)) (cP : Cl P w K mg base "_law_plain" ["_law_kind", "_law_things_here", "_law_size"] 7 (spPlainA K)) :
    Cl P w K mg base "law" ["_law_script"] 9 (spLaw K CU coU CW coW) := by
  refine d.ok sc83 (fun vs H Q E h => ?_) (fun f cdv A outer s0 H vs Q E hr h => ?_)
  · obtain ⟨a, ns, rfl, _⟩ := h
    rfl
  · obtain ⟨a, ns, rfl, hl, hU, hW, q⟩ := h
    have nd0 := sc83.nd
    have hu := hu_of hr
    have hu2 := hr.units
    obtain ⟨a1, g1, one1⟩ := KT.one
    refine ⟨_, pss_cons (ps_set (i := 1) nd0 rfl (.inr rfl) (pe_c cDk hr (pa_cons (pv 0) pa_nil)))
      (pss_cons (ps_set (i := 2) nd0 rfl (.inl rfl) (pe_c cD hr (pa_cons (pv 1) (pa_cons pe_int pa_nil))))
      (pss_cons (ps_set (i := 3) nd0 rfl (.inl rfl) (pe_op op_add pe_int (pe_c cD hr (pa_cons (pv 1) (pa_cons pe_int pa_nil)))))
      (pss_cons (ps_set (i := 4) nd0 rfl (.inl rfl) (pe_c cTh hr (pa_cons (pv 1) (pa_cons (pe_ix ix_list (pe_lst (pa_cons pe_int (pa_cons pe_int (pa_cons pe_int (pa_cons pe_int pa_nil))))) (pe_c cD hr (pa_cons (pv 1) (pa_cons pe_int pa_nil))) (fun _ _ => rfl)) pa_nil))))
      (pss_cons (ps_setLc (i := 5) (own := [("_law_thing", 10)]) (g := gName 10) (by rfl) nd0 rfl rfl (sw_true rfl rfl rfl (by rfl)) (pi_list (pv 4))
            (blkOk_by (own := [("_law_thing", 10)]) (N := N83) (sc := defScope (top 83)) (by decide +kernel)) (fun _ _ _ _ _ => pg_name (i := 10) nd0 rfl (Or.inl rfl))
            (fun _ _ _ _ _ => pts_nil) (fun _ _ _ _ _ => pe_c cD hr (pa_cons (pv 1) (pa_cons pe_int pa_nil))))
      (pss_cons (ps_setLc (i := 6) (own := [("_law_k", 11)]) (g := gName 11) (by rfl) nd0 rfl rfl (sw_true rfl rfl rfl (by rfl)) (pi_range1 (by rfl) B.range (pa_cons (pe_c cD hr (pa_cons (pv 1) (pa_cons pe_int pa_nil))) pa_nil))
            (blkOk_by (own := [("_law_k", 11)]) (N := N83) (sc := defScope (top 83)) (by decide +kernel)) (fun _ _ _ _ _ => pg_name (i := 11) nd0 rfl (Or.inl rfl))
            (fun _ _ _ _ _ => pts_nil) (fun _ _ _ _ _ => pe_c cD hr (pa_cons (pv 1) (pa_cons pe_int pa_nil))))
      (pss_cons (ps_set (i := 7) nd0 rfl (.inl rfl) (pe_k0 (cX g1) hr))
      (pss_cons (ps_for PassesOwn.never rfl (pi_range1 (by rfl) B.range (pa_cons pe_int pa_nil)) (pg_name (i := 8) nd0 rfl (.inl rfl))
        (pss_cons (ps_if (pt_not (pt_val (pe_m0 cB cE.cl hr (pv 7)))) (pss_one ps_break) pss_nil)
        (pss_cons (ps_set (i := 9) nd0 rfl (.inl rfl) (pe_c cR hr (pa_cons (pv 6) (pa_cons (pv 4) (pa_cons (pv 2) (pa_cons (pv 3) (pa_cons (pv 5) (pa_cons (pv 7) pa_nil))))))))
        (pss_cons (ps_if (pt_cmpR (ko_eqD K hu2) (pv 9) pe_str (nomark _)) pss_never pss_nil)
        (pss_one (ps_expr (pe_m cN cE.cl hr (pv 7) (pa_cons (pv 9) pa_nil))))))))
      (pss_one (ps_ret (pe_cmpR (ko_eqD K hu2) (pe_m0 cG cE.cl hr (pv 7)) (pe_c cP hr (pa_cons (pv 2) (pa_cons (pv 4) (pa_cons (pv 3) pa_nil)))) (nomark _))))))))))), ?_⟩
    -- the deck
    refine ⟨_, rfl, a, ns, rfl, hl, fun d H1 s1 hd hdk => ?_⟩
    obtain ⟨sl, cells, e1, e2, nsl, _⟩ := hdk
    have D1 : DkAt H1 d sl 0 := ⟨cells, 0, 0, 7, e1, e2, nsl, Nat.le_refl _⟩
    have nU : CU ≠ d := ne_of_none hU hd
    have nW : CW ≠ d := ne_of_none hW hd
    have hU1 := s1 _ _ hU
    have hW1 := s1 _ _ hW
    clear s1 hU hW hl e1 e2
    -- kind, size
    refine ⟨_, rfl, ?_⟩
    dsimp only [tNil, tC, tCons, List.cons_append, List.nil_append, List.append_nil]
    refine draw_step (m := 2) D1 (by omega) ⟨by decide, by decide⟩ fun v1 H2 hv1 D2 k2 => ?_
    refine ⟨_, rfl, ?_⟩
    dsimp only [tNil, tC, tCons, List.cons_append, List.nil_append, List.append_nil]
    refine draw_step (m := 2) D2 (by omega) ⟨by decide, by decide⟩ fun v2 H3 hv2 D3 k3 => ⟨_, _, rfl, rfl, ?_⟩
    have hU3 := (k3 _ nU).trans ((k2 _ nU).trans hU1)
    have hW3 := (k3 _ nW).trans ((k2 _ nW).trans hW1)
    clear k2 k3 hU1 hW1 D1 D2
    -- things
    refine ⟨_, rfl, (by show 4 ≤ sizeLine; decide), fun ml hml => ⟨_, rfl, ?_⟩⟩
    have s4 := Same.new (.lst [V.int 3, V.int 3, V.int 3, V.int 4]) hml
    have m4 : upd H3 ml (.lst [V.int 3, V.int 3, V.int 3, V.int 4]) ml = some _ := upd_same
    have D4 := D3.keep s4
    have hU4 := s4 _ _ hU3
    have hW4 := s4 _ _ hW3
    have nml : ml ≠ d := by
      obtain ⟨_, _, _, _, z, _⟩ := D3
      exact (ne_of_none z hml).symm
    dsimp only [tNil, tC, tCons, List.cons_append, List.nil_append, List.append_nil]
    generalize upd H3 ml (.lst [V.int 3, V.int 3, V.int 3, V.int 4]) = H4 at *
    refine draw_step (m := 4) D4 (by omega) ⟨by decide, by decide⟩ fun v3 H5 hv3 D5 k5 => ?_
    have hU5 := (k5 _ nU).trans hU4
    have hW5 := (k5 _ nW).trans hW4
    have m5 := (k5 _ nml).trans m4
    obtain ⟨m, hm1, hm2, hm3⟩ : ∃ m : Nat, [V.int 3, V.int 3, V.int 3, V.int 4][v3]? = some (.int (m : Int)) ∧ 1 ≤ m ∧ m ≤ 4 := by
      match v3, hv3 with
      | 0, _ => exact ⟨3, rfl, by decide, by decide⟩
      | 1, _ => exact ⟨3, rfl, by decide, by decide⟩
      | 2, _ => exact ⟨3, rfl, by decide, by decide⟩
      | 3, _ => exact ⟨4, rfl, by decide, by decide⟩
    refine ⟨ml, _, _, _, rfl, rfl, SqL.of m5, atI_nat hm1, d, sl, m, _, rfl, D5, by omega, ⟨hm2, hm3⟩, fun ts l as H6 hts1 hts2 hth D6 k6 hl0 hl6 it6 na6 => ?_⟩
    have hU6 := k6 _ _ nU hU5
    have hW6 := k6 _ _ nW hW5
    have nld : l ≠ d := by
      obtain ⟨_, _, _, _, z, _⟩ := D5
      exact (ne_of_none z hl0).symm
    clear k5 k6 hU4 hW4 hU5 hW5 D3 D4 D5 m4 m5 nml hl0 na6
    have las := it6.length
    rw [List.length_range] at las
    have it6d : ∀ {H' : Hp}, (∀ b o, b ≠ d → H6 b = some o → H' b = some o) → Itms (thOf ts) H' as (List.range ts.length) := fun {H'} kk => Paired.mapP it6 fun b i hb => ⟨hb.1, kk _ _ (by
      obtain ⟨_, _, _, _, z, _⟩ := D6
      exact ne_of hb.2 z (by intro z; cases z)) hb.2⟩
    -- places
    refine ⟨_, rfl, l, rfl, ⟨_, SqL.of hl6⟩, fun P1 hP1 => walk_list (K := K) (xs := refs as) (fun j H7 => ∃ ps, (∀ b o, b ≠ d → H6 b = some o → H7 b = some o) ∧ H7 P1 = some (.lst (natV ps)) ∧ ps.length = j ∧ (∀ p ∈ ps, p < 3) ∧ DkAt H7 d sl (0 + 1 + 1 + 1 + 20 + j)) ⟨[], fun b o _ e => Same.new _ hP1 _ _ e, upd_same, rfl, by simp, D6.keep (Same.new _ hP1)⟩ ?_ ?_ ?_⟩
    · rintro j H7 _ ⟨ps, k7, _⟩
      exact SqL.of (k7 _ _ nld hl6)
    · rintro j y H7 hy ⟨ps, k7, p7, lp, hp, D7⟩
      have hj := (List.getElem?_eq_some_iff.mp hy).1
      have hj' : j < 4 := by simp at hj; omega
      have nPd : P1 ≠ d := by
        obtain ⟨_, _, _, _, z, _⟩ := D6
        exact (ne_of_none z hP1).symm
      refine ⟨rfl, yes_ok ?_⟩
      refine ⟨_, rfl, ?_⟩
      dsimp only [tNil, tC, tCons, List.cons_append, List.nil_append, List.append_nil]
      refine draw_step (m := 3) D7 (by omega) ⟨by decide, by decide⟩ fun v H8 hv D8 k8 => ?_
      have p8 := (k8 _ nPd).trans p7
      have nP : ∀ b o, H6 b = some o → b ≠ P1 := fun b o e => ne_of_none e hP1
      refine ⟨_, p8, small1000 (by simp [natV]; omega), ps ++ [v], fun b o hb e => (upd_ne (nP b o e)).trans ((k8 _ hb).trans (k7 b o hb e)), by rw [upd_same]; simp [natV], by simp [lp], fun p hp' => ?_, ?_⟩
      · rcases List.mem_append.mp hp' with h | h
        · exact hp p h
        · rw [List.mem_singleton] at h; subst h; exact hv
      · obtain ⟨cells, i, a', b', z1, z2, z3, z4⟩ := D8
        have nsP : sl ≠ P1 := by
          obtain ⟨_, _, _, _, _, z, _⟩ := D6
          exact ne_of_none z hP1
        exact ⟨cells, i, a', b', (upd_ne nPd.symm).trans z1, (upd_ne nsP).trans z2, z3, by omega⟩
    rintro H7 ⟨ps, k7, p7, lp, hp, D7⟩
    have nPd : P1 ≠ d := by
      obtain ⟨_, _, _, _, z, _⟩ := D6
      exact (ne_of_none z hP1).symm
    have hU7 := k7 _ _ nU hU6
    have hW7 := k7 _ _ nW hW6
    have hl7 := k7 _ _ nld hl6
    have it7 := it6d k7
    have lps : ps.length = ts.length := by rw [lp]; simp [las]
    have D7 : DkAt H7 d sl 40 := by
      obtain ⟨cells, i, a', b', z1, z2, z3, z4⟩ := D7
      exact ⟨cells, i, a', b', z1, z2, z3, by simp at z4; omega⟩
    clear it6d k7 hU6 hW6 hl6 it6 D6 hP1
    -- numbers
    refine ⟨_, rfl, ?_⟩
    dsimp only [tNil, tC, tCons, List.cons_append, List.nil_append, List.append_nil]
    refine draw_step (m := 8) D7 (by omega) ⟨by decide, by decide⟩ fun v4 H8 hv4 D8 k8 => ?_
    have hU8 := (k8 _ nU).trans hU7
    have hW8 := (k8 _ nW).trans hW7
    have hl8 := (k8 _ nld).trans hl7
    have hp8 := (k8 _ nPd).trans p7
    have it8 : Itms (thOf ts) H8 as (List.range ts.length) := Paired.mapP it7 fun b i hb => ⟨hb.1, (k8 _ (by
      obtain ⟨_, _, _, _, z, _⟩ := D7
      exact ne_of hb.2 z (by intro z; cases z))).trans hb.2⟩
    clear k8 hU7 hW7 hl7 p7 it7 D7
    refine ⟨_, rfl, by omega, by omega, fun Q1 hQ1 => walk_range (n := (v4 : Int).toNat) (fun j H9 => ∃ nums, (∀ b o, b ≠ d → H8 b = some o → H9 b = some o) ∧ H9 Q1 = some (.lst (natV nums)) ∧ nums.length = j ∧ DkAt H9 d sl (41 + j)) ⟨[], fun b o _ e => Same.new _ hQ1 _ _ e, upd_same, rfl, D8.keep (Same.new _ hQ1)⟩ ?_ ?_⟩
    · rintro j H9 hj ⟨nums, k9, q9, ln, D9⟩
      have hj' : j < 8 := by
        have : j < v4 := by simpa using hj
        omega
      have nQd : Q1 ≠ d := by
        obtain ⟨_, _, _, _, z, _⟩ := D8
        exact (ne_of_none z hQ1).symm
      refine ⟨rfl, yes_ok ?_⟩
      refine ⟨_, rfl, ?_⟩
      dsimp only [tNil, tC, tCons, List.cons_append, List.nil_append, List.append_nil]
      refine draw_step (m := 720) D9 (by omega) ⟨by decide, by decide⟩ fun v H10 hv D10 k10 => ?_
      have q10 := (k10 _ nQd).trans q9
      refine ⟨_, q10, small1000 (by simp [natV]; omega), nums ++ [v], fun b o hb e => (upd_ne (ne_of_none e hQ1)).trans ((k10 _ hb).trans (k9 b o hb e)), by rw [upd_same]; simp [natV], by simp [ln], ?_⟩
      obtain ⟨cells, i, a', b', z1, z2, z3, z4⟩ := D10
      have nsQ : sl ≠ Q1 := by
        obtain ⟨_, _, _, _, _, z, _⟩ := D8
        exact ne_of_none z hQ1
      exact ⟨cells, i, a', b', (upd_ne nQd.symm).trans z1, (upd_ne nsQ).trans z2, z3, by omega⟩
    rintro H9 ⟨nums, k9, q9, ln, D9⟩
    have hU9 := k9 _ _ nU hU8
    have hW9 := k9 _ _ nW hW8
    have hl9 := k9 _ _ nld hl8
    have hp9 := k9 _ _ nPd hp8
    have it9 : Itms (thOf ts) H9 as (List.range ts.length) := Paired.mapP it8 fun b i hb => ⟨hb.1, k9 _ _ (by
      obtain ⟨_, _, _, _, z, _⟩ := D8
      exact ne_of hb.2 z (by intro z; cases z)) hb.2⟩
    have ln7 : nums.length ≤ 7 := by
      rw [ln]
      have : ((v4 : Int)).toNat = v4 := by simp
      omega
    clear k9 hU8 hW8 hl8 hp8 it8 D8 D9 hQ1 ln
    -- what is drawn
    obtain ⟨kd, hkd⟩ : ∃ kd : Bool, (v1 : Int) = kdI kd := by
      match v1, hv1 with
      | 0, _ => exact ⟨true, rfl⟩
      | 1, _ => exact ⟨false, rfl⟩
    have hsz : (1 : Int) + (v2 : Int) = ((1 + v2 : Nat) : Int) := by omega
    have hk12 : 1 + v2 = 1 ∨ 1 + v2 = 2 := by omega
    rw [hkd, hsz]
    have hn4 : 1 ≤ ts.length ∧ ts.length ≤ 4 := ⟨hts1, by omega⟩
    have hT : WOk (thOf ts) := fun i => ⟨(hth i).w1, (hth i).w6⟩
    generalize 1 + v2 = k at *
    generalize thOf ts = T at *
    generalize ts.length = n at *
    have hpl : ∀ j, j < n → ps.getD j 0 < 3 := fun j hj => by
      have e : ps[j]? = some ps[j] := List.getElem?_eq_getElem (by omega)
      rw [List.getD_eq_getElem?_getD, e]
      exact hp _ (List.getElem_mem _)
    obtain ⟨cost, tall, tlen, tlt, tsum, tlaw⟩ := tree_law (kd := kd) (k := k) hT hk12 hn4.1 hn4.2 hpl nums
    -- the explorer
    refine fun x dx nx ndx nex => ?_
    refine ⟨x, dx, rfl, upd_same, fun Pa R H10 hPa hR nPR i1 i2 i3 i4 => ⟨rfl, ?_⟩⟩
    have pa0 := upd_none hPa
    have pa1 := upd_none pa0.2
    have r0 := upd_none hR
    have r1 := upd_none r0.2
    have s10 : Same H9 H10 := fun b o e => by
      rw [i4 b (ne_of_none e nx) (ne_of_none e pa1.2) (ne_of_none e r1.2), upd_ne (ne_of_none e nx), upd_ne (ne_of_none e ndx)]
      exact e
    let X0 : Nat → DX := fun i => ⟨x, dx, Pa, R, false, false, i⟩
    have E10 : DiAt K CE H9 H10 (X0 0) ⟨[], 0, 1⟩ := ⟨⟨a1, i1, one1 _⟩, ⟨[], i2, .nil⟩, nx, pa1.2, ch_start (x := ⟨[], 0, 1⟩) (by simp)⟩
    have nRe : R ≠ x := r0.1
    clear i1 i2 i4 hPa hR pa0 r0
    have gR9 : H9 R = none := r1.2
    refine ⟨_, rfl, by decide, by decide, for_range (lo := 0) (fun i σ' H5 => ∃ v8 v9 G5 x5 rs, σ' = [some (.ref a), some (.ref d), some (.int (kdI kd)), some (.int (k : Int)), some (.ref l), some (.ref P1), some (.ref Q1), some (.ref x), v8, v9, none, none] ∧ Same H9 G5 ∧ Same G5 H5 ∧ DiAt K CE G5 H5 (X0 i) x5 ∧ PB x5.path ∧
        ExpAt (treeT T kd k n (fun j => ps.getD j 0) nums) i (nxtP (X0 i) x5) ∧ H5 R = some (.lst (refs rs)) ∧ G5 R = none ∧ RowsAt K T k G5 rs ((leavesR (treeT T kd k n (fun j => ps.getD j 0) nums)).take i) ∧ ∀ r ∈ (leavesR (treeT T kd k n (fun j => ps.getD j 0) nums)).take i, ChR r.2)
      ⟨none, none, H9, ⟨[], 0, 1⟩, [], rfl, Same.refl _, s10, E10, fun q hq => by simp at hq, ExpAt.first, i3, gR9, .nil, by simp⟩ ?_ ?_⟩
    · rintro i σ' H5 hi ⟨v8, v9, G5, x5, rs, rfl, sG5, hG5, E5, pb5, ex5, r5, gr5, rows5, ch5⟩
      have hi5 : i < 5000 := by simpa using hi
      obtain ⟨c5, he5, _⟩ := E5.ins
      refine ⟨_, rfl, x, dx, _, rfl, he5, zlook_none (ns := exN) (by decide) _, G5, X0 i, x5, rfl, hG5, E5, fun q hq => ⟨(pb5 q hq).1, by have := pb5 q hq; omega⟩, rfl, rfl, (by show i < 20000; omega), fun p hnp G6 H6 X6 E6 => ?_, fun hnp G6 H6 X6 E6 => ?_⟩
      · -- a run
        refine ⟨_, rfl, iteF ?_⟩
        rw [hnp] at ex5
        have hrun := ex5.run cost
        obtain ⟨st1, st2, st3⟩ := ex5.step cost
        have hpar := Tr.All.exec tall hrun
        have nRms : R ∉ (X0 i).ms := by
          simp only [X0, List.mem_cons, List.not_mem_nil, or_false, not_or]
          exact ⟨nRe, Ne.symm nPR⟩
        have r6 := X6.kp _ _ r5 nRms
        have gr6 : G6 R = none := X6.out gr5 r5
        have sF := Same.new (.lst (refs rs)) gr6
        have hGf : Same (upd G6 R (.lst (refs rs))) H6 := fun b o e => by
          by_cases z : b = R
          · subst z; rw [upd_same] at e; rw [← e]; exact r6
          · rw [upd_ne z] at e; exact X6.gh _ _ e
        have gRf : upd G6 R (.lst (refs rs)) R = some _ := upd_same
        have Ef : DiAt K CE (upd G6 R (.lst (refs rs))) H6 { X0 i with opn := true } ⟨p, 0, 1⟩ := by
          obtain ⟨c, z1, z2⟩ := E6.ins
          obtain ⟨qs, z3, z4⟩ := E6.path
          exact ⟨⟨c, z1, sF.seqT z2⟩, ⟨qs, z3, Paired.mapP z4 fun _ _ z => z.mono sF⟩, (upd_ne nRe.symm).trans E6.ge, (upd_ne nPR).trans E6.gp, E6.ch⟩
        have s56 := same_thaw (R := R) sF gr6
        generalize upd G6 R (.lst (refs rs)) = Gf at *
        have kf : ∀ b o, H9 b = some o → Gf b = some o := fun b o e => sF _ _ (X6.gg _ _ (sG5 _ _ e))
        have hDC : Gf (kdOf CU coU CW coW kd).C = some (kdOf CU coU CW coW kd).cls := by
          cases kd with
          | true => exact kf _ _ hU9
          | false => exact kf _ _ hW9
        refine ⟨_, rfl, _, rfl, _, rfl, _, rfl, _, rfl, _, rfl, ⟨T, kd, k⟩, Gf, Q1, l, P1, { X0 i with opn := true }, ⟨p, 0, 1⟩, nums, ps, as, n, rfl, hGf, kf _ _ q9, kf _ _ hl9, it9.mono kf, kf _ _ hp9, hDC, ⟨rs, gRf⟩, Ef, ⟨hT, hk12, hn4, ⟨by omega, hp⟩, ln7⟩, hrun, fun G7 H7 r sf7 s7 E7 hV => ?_⟩
        have gR7 := sf7 _ _ gRf
        have hb7 : ∀ q ∈ ((treeT T kd k n (fun j => ps.getD j 0) nums).exec ⟨p, 0, 1⟩).2.path, q.1 < q.2.length := fun q hq => (st3 q hq).2
        have E8 := ex_thaw E7 gR7 hb7
        have s8 := thaw_same (R := R) s7
        have r7 := s7 _ _ gR7
        have nk8 := NK.sq (K := K) (fun _ _ z => sqT_thaw gR7 z) _ _ hV.nk
        have h4 : ∀ i ∈ ((treeT T kd k n (fun j => ps.getD j 0) nums).exec ⟨p, 0, 1⟩).1.smp.kept, i < 4 := fun i hi => hpar.lt i (hpar.sub i hi)
        have hz : PyData.eqv (vwNk T k ((treeT T kd k n (fun j => ps.getD j 0) nums).exec ⟨p, 0, 1⟩).1.smp).data (.str "parts") = false := by
          simp only [vwNk, NestedKey.data]
          rfl
        refine ⟨_, rfl, _, _, (nk8.mono s8).dp, .str _, vw_shaped hth h4, (by decide +kernel), _, rfl, ?_⟩
        rw [hz]
        refine iteF ?_
        obtain ⟨c7, he7, _⟩ := E7.ins
        have lrs := rows5.length
        have hle := ex5.le
        refine ⟨_, rfl, x, dx, _, rfl, he7, zlook_none (ns := exN) (by decide) _, _, rfl, thaw R G7, { X0 i with opn := true }, _, r, rs, rfl, s8, E8, r7, thaw_none _ _, Ne.symm nPR, by simp at lrs; omega, fun G8 H8 t c X8 E8' r8 t8 c8 => ?_⟩
        have g57 : Same G5 G7 := X6.gg.trans (sF.trans sf7)
        have g58 : Same G5 G8 := (same_thaw (R := R) g57 gr5).trans X8.gg
        have e9 : nxtP (X0 (i + 1)) ((treeT T kd k n (fun j => ps.getD j 0) nums).exec ⟨p, 0, 1⟩).2 = adv ((treeT T kd k n (fun j => ps.getD j 0) nums).exec ⟨p, 0, 1⟩).2.path := if_neg (Nat.succ_ne_zero i)
        refine ⟨_, _, G8, _, rs ++ [t], rfl, sG5.trans g58, X8.gh, E8', st3, by rw [e9]; exact st2, r8, X8.out (thaw_none _ _) r7, ?_, fun y hy => ?_⟩
        · rw [List.take_add_one, st1]
          exact paired_append (Paired.mapP rows5 fun _ _ z => z.mono g58) (.cons ⟨r, c, t8, nk8.mono X8.gg, c8⟩ .nil)
        · rw [List.take_add_one, st1] at hy
          rcases List.mem_append.mp hy with h | h
          · exact ch5 y h
          · rw [Option.toList_some, List.mem_singleton] at h
            subst h
            exact E7.ch.r
      · -- the end
        refine ⟨_, rfl, iteT ?_⟩
        rw [hnp] at ex5
        have hdone := ex5.done
        have etk : (leavesR (treeT T kd k n (fun j => ps.getD j 0) nums)).take i = leavesR (treeT T kd k n (fun j => ps.getD j 0) nums) := by rw [List.take_of_length_le]; omega
        rw [etk] at rows5 ch5
        have nRms : R ∉ (X0 i).ms := by
          simp only [X0, List.mem_cons, List.not_mem_nil, or_false, not_or]
          exact ⟨nRe, Ne.symm nPR⟩
        have r6 := X6.kp _ _ r5 nRms
        have g56 : Same G5 H6 := X6.gg.trans X6.gh
        have g96 : Same H9 H6 := sG5.trans g56
        obtain ⟨c6, he6, _⟩ := E6.ins
        refine ⟨_, rfl, x, dx, _, rfl, he6, zlook_none (ns := exN) (by decide) _, ⟨T, kd, k⟩, G6, { X0 i with over := true }, _, rs, _, rfl, X6.gh, E6, rfl, r6, Paired.mapP rows5 fun _ _ z => z.mono g56, ⟨ch5, tsum, tlt, by omega⟩, fun H7 f us s7 f7 rows7 => ?_⟩
        refine ⟨_, rfl, _, rfl, _, rfl, ⟨T, kd, k⟩, l, n, as, rfl, SqL.of (s7 _ _ (g96 _ _ hl9)), it9.mono (g96.trans s7), hn4, (by show k ≤ 2; omega), hth, fun H8 r us2 s8 r8 rows8 => ?_⟩
        have hRl : ∀ y ∈ lawR T k (leavesR (treeT T kd k n (fun j => ps.getD j 0) nums)), ∀ i ∈ y.1.kept, i < 4 := fun y hy => by
          rw [tlaw] at hy
          exact (plain_d hT hk12 hn4.1 hn4.2).lt y ((List.mergeSort_perm _ _).subset hy)
        have hsh := rows_shaped (k := k) hth hRl
        have rows78 := Paired.mapP rows7 fun _ _ z => RowAt.mono s8 z
        rw [← tlaw] at rows8
        refine ⟨_, _, .lst (SqL.of (s8 _ _ f7)) (rows_dp rows78), .lst (SqL.of r8) (rows_dp rows8), hsh, hsh, ?_⟩
        rw [shaped_refl hsh]
        have g98 := (g96.trans s7).trans s8
        exact q H8 (g98 _ _ hU9) (g98 _ _ hW9)
    · rintro σ' H5 ⟨v8, v9, G5, x5, rs, rfl, sG5, hG5, E5, pb5, ex5, r5, gr5, rows5, ch5⟩
      exfalso
      have := ex5.le
      have e : (5000 : Int).toNat = 5000 := rfl
      rw [e] at this
      omega
end
end Sam
end
section
set_option Elab.async false
set_option linter.all false
set_option maxRecDepth 100000
set_option maxHeartbeats 1000000
namespace Sam
open PySem PySem.Spec PyProof.Rows L2
/-! ### what the head must tell -/
structure Tx (K : PySem.W.Frag) (mg : Str → Option Value) (CE CN CU : Addr) (coU : Obj) (CW : Addr) (coW : Obj) : Prop where
  B : Bn mg
  mS : ∃ t, mg "MOST_SIZE" = some (.int 20 t)
  mP : ∃ t, mg "MOST_PARCELS" = some (.int 6 t)
  mR : ∃ t, mg "MOST_RUNS" = some (.int 20000 t)
  KT : Kt K mg
  cE : ECl K CE
  O : NCl K CN
  OU : KdOk K (kU CU coU)
  OW : KdOk K (kW CW coW)
  hU : mg "Uniform" = some (.ref CU)
  hW : mg "Weighted" = some (.ref CW)
  d25 : Df K mg "lowest" (top 25) ["p", "q"]
  d26 : Df K mg "plus" (top 26) ["a", "b"]
  d28 : Df K mg "times" (top 28) ["a", "b"]
  d30 : Df K mg "less" (top 30) ["a", "b"]
  d31 : Df K mg "sum_of" (top 31) ["fractions"]
  d33 : Df K mg "are_chances" (top 33) ["fractions"]
  d34 : Df K mg "law_from" (top 34) ["rows"]
  d49 : Df K mg "check_size" (top 49) ["size"]
  d50 : Df K mg "check_keys" (top 50) ["first", "second"]
  d17 : Df K mg "least_twice" (top 17) ["lists"]
  d18 : Df K mg "check_apart" (top 18) ["parcels"]
  d19 : Df K mg "merged" (top 19) ["first", "second", "dice"]
  d21 : Df K mg "counted" (top 21) ["nodes"]
  d40 : Df K mg "check_parcels" (top 40) ["parcels"]
  d41 : Df K mg "check_mergeable" (top 41) ["parcels"]
  d42 : Df K mg "situation" (top 42) ["parcels"]
  d43 : Df K mg "pairs_of" (top 43) ["many"]
  d44 : Df K mg "choice" (top 44) ["parcels", "strategy"]
  d45 : Df K mg "after" (top 45) ["parcels", "pair", "dice"]
  d46 : Df K mg "merge_all" (top 46) ["parcels", "strategy", "dice"]
  d64 : Df K mg "_law_deck" (top 64) ["_law_script"]
  d65 : Df K mg "_law_draw" (top 65) ["_law_deck_here", "_law_most"]
  d66 : Df K mg "_law_things" (top 66) ["_law_deck_here", "_law_most"]
  d67 : Df K mg "_law_single" (top 67) ["_law_kind", "_law_item", "_law_size"]
  d69 : Df K mg "_law_low" (top 69) ["_law_p", "_law_q"]
  d71 : Df K mg "_law_times" (top 71) ["_law_one", "_law_other"]
  d73 : Df K mg "_law_sets" (top 73) ["_law_things_here", "_law_many"]
  d74 : Df K mg "_law_uniform" (top 74) ["_law_things_here", "_law_size"]
  d75 : Df K mg "_law_orders" (top 75) ["_law_things_here", "_law_left", "_law_many"]
  d76 : Df K mg "_law_weighted" (top 76) ["_law_things_here", "_law_size"]
  d77 : Df K mg "_law_plain" (top 77) ["_law_kind", "_law_things_here", "_law_size"]
  d78 : Df K mg "_law_seen" (top 78) ["_law_nodes"]
  d79 : Df K mg "_law_deed" (top 79) ["_law_nodes", "_law_letters", "_law_number", "_law_dice"]
  d80 : Df K mg "_law_taken" (top 80) ["_law_receiver", "_law_letter"]
  d81 : Df K mg "_law_ended" (top 81) ["_law_nodes", "_law_letters"]
  d82 : Df K mg "_law_run" (top 82) ["_law_deck_numbers", "_law_things_here", "_law_kind", "_law_size", "_law_places", "_law_dice"]
  d83 : Df K mg "law" (top 83) ["_law_script"]
  ePick : Dm K CE "pick" "Explorer.pick" sPick ["self", "weights"]
  e1 : Dm K CE "advance" "Explorer.advance" (eS 1) ["self"]
  e2 : Dm K CE "begin" "Explorer.begin" (eS 2) ["self"]
  e4 : Dm K CE "end" "Explorer.end" (eS 4) ["self", "outcome"]
  e6 : Dm K CE "gathered" "Explorer.gathered" (eS 6) ["self"]
  e0 : Dc K mg "Explorer" CE "Explorer.__init__" (eS 0) ["self"]
  n1 : Dm K CN "held" "Node.held" (nS 1) ["self"]
  n2 : Dm K CN "out" "Node.out" (nS 2) ["self"]
  n3 : Dm K CN "check_number" "Node.check_number" (nS 3) ["self", "number"]
  n4 : Dm K CN "merge" "Node.merge" (nS 4) ["self", "i", "j", "dice"]
  n5 : Dm K CN "send" "Node.send" (nS 5) ["self", "i", "receiver"]
  n6 : Dm K CN "again" "Node.again" (nS 6) ["self", "number"]
  n7 : Dm K CN "has_taken" "Node.has_taken" (nS 7) ["self", "sender", "number"]
  n8 : Dm K CN "here" "Node.here" (nS 8) ["self"]
  n9 : Dm K CN "take" "Node.take" (nS 9) ["self", "letter"]
  n10 : Dm K CN "confirm" "Node.confirm" (nS 10) ["self", "number"]
  n11 : Dm K CN "pending" "Node.pending" (nS 11) ["self", "nodes"]
  n0 : Dc K mg "Node" CN "Node.__init__" (nS 0) ["self", "name", "parcels"]
  u0 : DcS K CU coU "Uniform.__init__" (uS 0) ["self", "size", "seen", "kept"]
  u2 : DmC K CU coU "single" "Uniform.single" (uS 2) ["cls", "item", "size"]
  u3 : DmS K CU coU "check" "Uniform.check" (uS 3) ["self", "other"]
  u4 : DmS K CU coU "merge" "Uniform.merge" (uS 4) ["self", "other", "dice"]
  u5 : DmS K CU coU "view" "Uniform.view" (uS 5) ["self"]
  w0 : DcS K CW coW "Weighted.__init__" (wS 0) ["self", "size", "total", "kept"]
  w2 : DmC K CW coW "single" "Weighted.single" (wS 2) ["cls", "item", "size"]
  w3 : DmS K CW coW "check" "Weighted.check" (wS 3) ["self", "other"]
  w4 : DmS K CW coW "merge" "Weighted.merge" (wS 4) ["self", "other", "dice"]
  w5 : DmS K CW coW "view" "Weighted.view" (wS 5) ["self"]
section
variable {P : Program} {w : World} {K : PySem.W.Frag} {mg : Str → Option Value} {base : Heap} {CE CN CU CW : Addr} {coU coW : Obj}
theorem low_ok (X : Tx K mg CE CN CU coU CW coW) : Cl P w K mg base "lowest" ["p", "q"] 1 spLowest := ok_lowest X.B X.d25
theorem plus_ok (X : Tx K mg CE CN CU coU CW coW) : Cl P w K mg base "plus" ["a", "b"] 2 (sp2 (K := K) (· + ·)) := ok_plus X.B X.d26 (low_ok X)
theorem pick_ok (X : Tx K mg CE CN CU coU CW coW) : Mt P w K mg base CE "pick" ["self", "weights"] 3 (spPick K CE) := ok_pick X.B X.cE X.ePick (low_ok X) (ok_times X.B X.d28 (low_ok X))
theorem size_ok (X : Tx K mg CE CN CU coU CW coW) : Cl P w K mg base "check_size" ["size"] 1 spSize := let ⟨t, h⟩ := X.mS; ok_size h X.d49
theorem run_of {D : Kd} {T : Nat → Thing} {kd : Bool} {k : Nat} (X : Tx K mg CE CN CU coU CW coW) (OD : KdOk K D) (hvf : ("view" : Str) ∉ smN D.f2) (hmf : ("merge" : Str) ∉ smN D.f2) (cS : Cl P w K mg base "_law_single" ["_law_kind", "_law_item", "_law_size"] 4 (spSing D T kd))
    (cM : MtS P w K mg base D.C D.co "merge" ["self", "other", "dice"] 4 (spMerge K CE D T kd k)) (cV : MtS P w K mg base D.C D.co "view" ["self"] 1 (spView D T k)) :
    Cl P w K mg base "_law_run" ["_law_deck_numbers", "_law_things_here", "_law_kind", "_law_size", "_law_places", "_law_dice"] 8 (spRun K CE CN D T kd k) := by
  have B := X.B
  have O := X.O
  have cApart : Cl P w K mg base "check_apart" ["parcels"] 2 (spApart D T k K) := ok_apart B OD X.d18 (ok_twice B X.d17)
  have cMerged : Cl P w K mg base "merged" ["first", "second", "dice"] 5 (spMerged K CE D T kd k) := ok_merged B OD hmf X.d19 cApart cM
  have cHeld : Mt P w K mg base CN "held" ["self"] 1 (spHeld CN D T k) := ok_held B O X.n1
  have cNum : Mt P w K mg base CN "check_number" ["self", "number"] 1 (spNum CN D T k) := ok_num B O X.n3
  have cAgain : Mt P w K mg base CN "again" ["self", "number"] 1 (spAgain CN D T k) := ok_again O X.n6
  have cTaken : Mt P w K mg base CN "has_taken" ["self", "sender", "number"] 1 (spTaken CN D T k) := ok_taken O X.n7
  have cOut : Mt P w K mg base CN "out" ["self"] 1 (spOut CN D T k) := ok_out B O X.n2
  have cConf : Mt P w K mg base CN "confirm" ["self", "number"] 1 (spConf CN D T k) := ok_confirm B O X.n10
  have cHere : Mt P w K mg base CN "here" ["self"] 1 (spHere CN D T k) := ok_here B O X.n8
  have cSend : Mt P w K mg base CN "send" ["self", "i", "receiver"] 2 (spSend CN D T k) := ok_send B O X.n5 cNum
  have cTake : Mt P w K mg base CN "take" ["self", "letter"] 2 (spTake CN D T k) := ok_take B O X.n9 cTaken cHere
  have cNMerge : Mt P w K mg base CN "merge" ["self", "i", "j", "dice"] 6 (spNMerge K CE CN D T kd k) := ok_nmerge B O X.n4 cNum cMerged
  have cPend : Mt P w K mg base CN "pending" ["self", "nodes"] 2 (spPend CN D T k K) := ok_pend B O X.n11 cOut cTaken
  have cCount : Cl P w K mg base "counted" ["nodes"] 3 (spCount CN D T k K) := ok_counted B O X.d21 cHeld cPend
  have cTak : Cl P w K mg base "_law_taken" ["_law_receiver", "_law_letter"] 4 (spTak CN D T k) := ok_taken2 B O X.d80 cCount cOut cAgain cTake
  have cDeed : Cl P w K mg base "_law_deed" ["_law_nodes", "_law_letters", "_law_number", "_law_dice"] 7 (spDeed K CE CN D T kd k) := ok_deed B O X.d79 cHeld cNMerge cSend cTaken cConf cTak
  have cEnded : Cl P w K mg base "_law_ended" ["_law_nodes", "_law_letters"] 5 (spEnded K CE CN D T kd k) := ok_ended B O X.d81 cTaken cConf cOut cTak
  have cSeen : Cl P w K mg base "_law_seen" ["_law_nodes"] 2 (spSeen CN D T k) := ok_seen B O OD X.d78 cHeld
  obtain ⟨tp, mP⟩ := X.mP
  have cCkP : Cl P w K mg base "check_parcels" ["parcels"] 3 (spCkP D T kd k K) := ok_ckp B X.d40 cApart
  have cCkM : Cl P w K mg base "check_mergeable" ["parcels"] 4 (spCkP D T kd k K) := ok_ckm mP B X.d41 cCkP
  have cSit : Cl P w K mg base "situation" ["parcels"] 2 (spSit D T kd k K) := ok_sit B OD hvf X.d42 cV
  have cChoice : Cl P w K mg base "choice" ["parcels", "strategy"] 3 (spChoice P w D T kd k K) := ok_choice B X.d44 cSit (ok_pairs B X.d43)
  have cAfter : Cl P w K mg base "after" ["parcels", "pair", "dice"] 6 (spAfter K CE D T kd k) := ok_after B X.d45 cMerged
  have cMAll : Cl P w K mg base "merge_all" ["parcels", "strategy", "dice"] 7 (spMAll P w K CE D T kd k) := ok_mall B X.d46 cCkM cAfter cChoice
  exact ok_run B O OD hvf X.d82 (ok_node B O X.n0) cS cDeed cSeen cCount cEnded cHeld cMAll cV
theorem run_all (X : Tx K mg CE CN CU coU CW coW) (i : Ix) : Cl P w K mg base "_law_run" ["_law_deck_numbers", "_law_things_here", "_law_kind", "_law_size", "_law_places", "_law_dice"] 8 (spRun K CE CN (kdOf CU coU CW coW i.kd) i.T i.kd i.k) := by
  obtain ⟨T, kd, k⟩ := i
  have B := X.B
  cases kd with
  | true =>
    have cI := ok_uSInit (P := P) (w := w) (base := base) B X.OU X.u0
    have cC : MtS P w K mg base CU coU "check" ["self", "other"] 2 (spCheck (kU CU coU) T k) := ok_uSCheck B X.OU X.hU X.u3 (ok_keys B X.d50)
    exact run_of (D := kU CU coU) (kd := true) X X.OU (by show ("view" : Str) ∉ smN "seen"; decide +kernel) (by show ("merge" : Str) ∉ smN "seen"; decide +kernel) (ok_singU X.hU X.d67 (ok_uSSingle B X.OU X.u2 cI (size_ok X))) (ok_uSMerge B X.OU X.cE X.hU X.u4 cI cC (pick_ok X)) (ok_uSView B X.OU X.u5)
  | false =>
    have cI := ok_wSInit (P := P) (w := w) (base := base) B X.OW X.w0
    have cC : MtS P w K mg base CW coW "check" ["self", "other"] 2 (spCheck (kW CW coW) T k) := ok_wSCheck B X.OW X.hW X.w3 (ok_keys B X.d50)
    exact run_of (D := kW CW coW) (kd := false) X X.OW (by show ("view" : Str) ∉ smN "total"; decide +kernel) (by show ("merge" : Str) ∉ smN "total"; decide +kernel) (ok_singW X.hW X.d67 (ok_wSSingle B X.OW X.w2 cI (size_ok X))) (ok_wSMerge B X.OW X.cE X.hW X.w4 cI cC (pick_ok X)) (ok_wSView B X.OW X.w5)
theorem gath_all (X : Tx K mg CE CN CU coU CW coW) (i : Ix) : Mt P w K mg base CE "gathered" ["self"] 6 (spGath K CE i.T i.k) := by
  have cLess := ok_less (P := P) (w := w) (base := base) X.d30
  have cSum := ok_sum (P := P) (w := w) (base := base) X.KT X.d31 (plus_ok X)
  exact ok_gath X.cE X.e6 (ok_lawf X.KT X.B X.d34 (ok_chan X.KT X.B X.d33 cLess cSum) (plus_ok X))
theorem plain_all (X : Tx K mg CE CN CU coU CW coW) (i : Ix) (hk : i.k ≤ 2) : Cl P w K mg base "_law_plain" ["_law_kind", "_law_things_here", "_law_size"] 7 (spPlain i.T i.kd i.k K) := by
  obtain ⟨T, kd, k⟩ := i
  have B := X.B
  have cLow := ok_low (P := P) (w := w) (K := K) (mg := mg) (base := base) B X.d69
  have cTim := ok_ltim (P := P) (w := w) (base := base) X.d71 cLow
  have c0 : Cl P w K mg base "_law_orders" ["_law_things_here", "_law_left", "_law_many"] 1 (spOrd T K 0) := ok_ord0 B X.d75
  have c1 : Cl P w K mg base "_law_orders" ["_law_things_here", "_law_left", "_law_many"] 3 (spOrd T K 1) := ok_ordS (by decide) (by decide) B X.d75 cLow cTim c0
  have c2 : Cl P w K mg base "_law_orders" ["_law_things_here", "_law_left", "_law_many"] 5 (spOrd T K 2) := ok_ordS (by decide) (by decide) B X.d75 cLow cTim c1
  have cO : Cl P w K mg base "_law_orders" ["_law_things_here", "_law_left", "_law_many"] 5 (spOrd T K k) := by
    have hk' : k ≤ 2 := hk
    match k, hk' with
    | 0, _ => exact c0.mono (by decide)
    | 1, _ => exact c1.mono (by decide)
    | 2, _ => exact c2
  exact ok_plain X.d77 (ok_unif B X.d74 (ok_sets B X.d73) cLow) (ok_weig B X.d76 cO)
theorem Cl.imp {x : Str} {ps : List Str} {k : Nat} {sp sp' : Sp} (c : Cl P w K mg base x ps k sp) (h : ∀ vs H Q E, sp' vs H Q E → sp vs H Q E) : Cl P w K mg base x ps k sp' := by
  obtain ⟨f, fd, a, b, d, e, l⟩ := c.ex
  exact ⟨f, fd, a, b, d, e.imp h, l⟩
theorem plain_A (X : Tx K mg CE CN CU coU CW coW) : Cl P w K mg base "_law_plain" ["_law_kind", "_law_things_here", "_law_size"] 7 (spPlainA K) := by
  have c := Cl.union (P := P) (w := w) (K := K) (mg := mg) (base := base) (ι := { i : Ix // i.k ≤ 2 }) ⟨⟨fun _ => ⟨"g", 1, 0⟩, true, 1⟩, by decide⟩ (fun i => plain_all X i.1 i.2)
  refine c.imp fun vs H Q E ⟨i, h⟩ => ⟨⟨i, ?_⟩, h⟩
  obtain ⟨l, n, as, _, _, _, _, hk, _⟩ := h
  exact hk
theorem law_ok (X : Tx K mg CE CN CU coU CW coW) : Cl P w K mg base "law" ["_law_script"] 9 (spLaw K CU coU CW coW) := by
  have B := X.B
  have cD := ok_draw (P := P) (w := w) (K := K) (mg := mg) (base := base) B X.d65
  obtain ⟨tr, mR⟩ := X.mR
  have i0 : Ix := ⟨fun _ => ⟨"g", 1, 0⟩, true, 1⟩
  exact ok_law (CN := CN) X.KT B X.cE X.d83 (ok_deck B X.d64) cD (ok_things B X.d66 cD) (fun M => ok_exi M X.cE X.e0) (ok_begin mR X.KT B X.cE X.e2 (ok_adv B X.cE X.e1)) (ok_end B X.cE X.e4)
    (Cl.union i0 (run_all X)) (Mt.union i0 (gath_all X)) (plain_A X)
end
end Sam
end
section
set_option Elab.async false
set_option linter.all false
set_option maxRecDepth 100000
set_option maxHeartbeats 1000000
namespace Sam
open PySem PySem.Spec PyProof.Rows L2
open PySem.W (Frag nsIn ownIn alongIn findIn typeIn specialIn takesIn clsIn mroIn findObj hasDictIn plainGet keepIn isFn isClsIn subIn instIn makesIn plainOver takerIn kitCls kitOne findCls readsIn recIn fnIn codeIn)
open He (ga ma frG frG_in eqO eqO_ok ba FnV)
theorem less_at {K : Frag} {C D a : Addr} : (less K C D).lookup a = if a = C ∨ a = D then none else K.lookup a := by
  unfold less
  induction K with
  | nil => simp
  | cons p r ih =>
    obtain ⟨b, u⟩ := p
    by_cases e : b = C ∨ b = D
    · rw [List.filter_cons_of_neg (by rcases e with h | h <;> simp [h]), ih]
      by_cases q : a = C ∨ a = D
      · rw [if_pos q, if_pos q]
      · rw [if_neg q, if_neg q]
        have : (a == b) = false := by
          simp only [beq_eq_false_iff_ne]
          rintro rfl
          exact q e
        simp [List.lookup, this]
    · rw [List.filter_cons_of_pos (by simp only [not_or] at e; simp [e.1, e.2])]
      by_cases h : a = b
      · subst h
        simp [List.lookup, e]
      · have : (a == b) = false := by simpa using h
        simp only [List.lookup, this, ih]
theorem less_in {K : Frag} {C D : Addr} {h : Heap} (X : K.In h) : (less K C D).In h := fun a o e => by
  rw [less_at] at e
  split at e
  · cases e
  · exact X a o e
theorem fnB_ok {K : Frag} {f : Addr} {d : FD} (e : fnV K f = d.val) (c : fnB K f d.qual = true) : ∃ fd, Fun K d.name d.qual d.st f fd := by
  obtain ⟨kp, c2⟩ := ba c
  unfold fnV at e
  cases q : K.lookup f with
  | none =>
    rw [q] at c2
    cases c2
  | some o =>
    obtain ⟨oc, od, dt, osl⟩ := o
    rw [q] at c2 e
    cases dt with
    | func fd =>
      obtain ⟨n1, n2, n3, n4, n5, n6, n7, n8, n9, n10, n11, n12, n13, n14, n15⟩ := fd
      have e2 : (some (n1, n2, n3, n4, n5, n6, n7, n8, n15) : FnV) = some (d.name, d.qual, defArgs d.st, .stmts (defBody d.st), defScope d.st, mainGlobals, [], .none, builtinsNs) := e
      simp only [Option.some.injEq, Prod.mk.injEq] at e2
      obtain ⟨h1, h2, h3, h4, h5, h6, h7, h8, h9⟩ := e2
      subst h1 h2 h3 h4 h5 h6 h7 h8 h9
      exact ⟨_, ⟨oc, od, n9, n10, n11, n12, n13, n14, osl, rfl, q, c2⟩, kp⟩
    | _ => cases c2
section
variable {K : Frag} {C f : Addr}
theorem clsB_ok (c : clsB K C = true) : Cls K C := by
  obtain ⟨c1, c⟩ := ba c
  obtain ⟨c2, c⟩ := ba c
  obtain ⟨c3, c4⟩ := ba c
  exact ⟨c1, c2, c3, eqO_ok c4⟩
theorem noatB_ok {x : Str} (c : noatB K C x = true) : NoAttr K C x := eqO_ok c
theorem methB_ok {m : Str} (c : methB K C m f = true) : Meth K C m f := by
  obtain ⟨c1, c⟩ := ba c
  obtain ⟨c2, c3⟩ := ba c
  exact ⟨eqO_ok c1, c2, c3⟩
theorem mkB_ok (c : mkB K C f = true) : Mk K C f := by
  obtain ⟨c1, c⟩ := ba c
  obtain ⟨c2, c⟩ := ba c
  obtain ⟨c3, c4⟩ := ba c
  exact ⟨c1, eqO_ok c2, c3, c4⟩
theorem getB_ok {r : Option PySem.W.CFound} {g a b tp : Value} (c : getB r g a b tp = true) : r = some (.get g a b tp) := by
  unfold getB at c
  split at c
  · obtain ⟨c1, c⟩ := ba c
    obtain ⟨c2, c⟩ := ba c
    obtain ⟨c3, c4⟩ := ba c
    rw [of_decide_eq_true c1, of_decide_eq_true c2, of_decide_eq_true c3, of_decide_eq_true c4]
  · cases c
theorem nmB_ok {co : Obj} {nm : Str} (cl : clsB (KC K C co) C = true) (c : nmB (KC K C co) C nm = true) (ln : nm.length ≤ sizeLine) (cp : Str.ofString nm.toString = nm) : NmS K C co nm := by
  obtain ⟨c1, c⟩ := ba c
  obtain ⟨c2, c⟩ := ba c
  obtain ⟨c3, c⟩ := ba c
  obtain ⟨c4, c⟩ := ba c
  obtain ⟨c5, c⟩ := ba c
  obtain ⟨c6, c⟩ := ba c
  obtain ⟨c7, c8⟩ := ba c
  refine ⟨clsB_ok cl, eqO_ok c1, eqO_ok c2, of_decide_eq_true c3, of_decide_eq_true c4, c5, getB_ok c6, of_decide_eq_true c7, ?_, ln, cp⟩
  cases e : clsIn (KC K C co) C with
  | none => rw [e] at c8; cases c8
  | some cd => rw [e] at c8; exact ⟨cd, rfl, of_decide_eq_true c8⟩
theorem slotB_ok {o : Obj} {nm : Str} (c : slotB o nm = true) : ∃ t, slot2 o.slots = some (.str nm t) := by
  unfold slotB at c
  split at c
  · rename_i x t e
    exact ⟨t, by rw [e, of_decide_eq_true c]⟩
  · cases c
end
theorem dmc_ok {K : Frag} {C : Addr} {co : Obj} {m : Str} {p g : Addr} {d : FD} {ps : List Str} (e : fnV K g = d.val) (c : fnB K g d.qual = true) (c2 : cmB K (KC K C co) C m p g = true) (hm : d.name = m) (hb : ∀ fd, Fun K d.name d.qual d.st g fd → Binds K fd ps []) : DmC K C co m d.qual d.st ps := by
  obtain ⟨fd, F⟩ := fnB_ok e c
  obtain ⟨h1, c2⟩ := ba c2
  obtain ⟨h2, c2⟩ := ba c2
  obtain ⟨h3, c2⟩ := ba c2
  obtain ⟨h4, h5⟩ := ba c2
  have b := hb fd F
  rw [hm] at F
  refine ⟨_, p, g, fd, F, h1, eqO_ok h2, getB_ok h3, ?_, h5, b⟩
  split at h4
  · rename_i rest e
    rw [of_decide_eq_true h4] at e
    exact ⟨_, e⟩
  · cases h4
theorem SaysS.fact {K : Frag} (c : SaysS K) (f : Frag → Bool) (i : Nat) (h : factsA[i]? = some f := by rfl) : f K = true := by
  have c1 : (factsA.all fun f => f K) = true := congrArg (fun z : Bool × List FnV => z.1) c
  exact List.all_eq_true.mp c1 f (List.mem_of_getElem? h)
theorem SaysS.fn {K : Frag} (c : SaysS K) (d : FD) (i : Nat) (h : fdsA[i]? = some d := by rfl) : fnV (K1 K) (d.loc.at_ K) = d.val ∧ fnB (K1 K) (d.loc.at_ K) d.qual = true := by
  have e : fdsA.map (fun d => fnV (K1 K) (d.loc.at_ K)) = fdsA.map FD.val := congrArg (fun z : Bool × List FnV => z.2) c
  have e2 : (fdsA.map fun d => fnV (K1 K) (d.loc.at_ K))[i]? = (fdsA.map FD.val)[i]? := by rw [e]
  rw [List.getElem?_map, List.getElem?_map, h] at e2
  exact ⟨Option.some.inj e2, List.all_eq_true.mp (c.fact fa_fns 24) d (List.mem_of_getElem? h)⟩
theorem all_of {l : List Str} {p : Str → Bool} (h : l.all p = true) {x : Str} (i : Nat) (e : l[i]? = some x := by rfl) : p x = true := List.all_eq_true.mp h x (List.mem_of_getElem? e)
end Sam
end
section
set_option Elab.async false
set_option linter.all false
set_option maxRecDepth 100000
set_option maxHeartbeats 1000000
namespace Sam
open PySem PySem.Spec PyProof.Rows L2
open PySem.W (Frag nsIn ownIn alongIn findIn typeIn specialIn takesIn clsIn mroIn findObj hasDictIn plainGet keepIn isFn isClsIn subIn instIn makesIn plainOver takerIn kitCls kitOne findCls readsIn recIn fnIn codeIn)
open He (ga ma frG frG_in eqO eqO_ok ba FnV)
section
variable {K : Frag} {h : Heap} {mg : Str → Option Value}
theorem df_ok {d : FD} {x : Str} {ps : List Str} {f : Addr} (e : fnV K f = d.val ∧ fnB K f d.qual = true) (hn : d.name = x) (hq : d.qual = x) (hm : mg x = some (.ref f)) (hb : ∀ fd, Fun K d.name d.qual d.st f fd → Binds K fd ps []) : Df K mg x d.st ps := by
  obtain ⟨fd, F⟩ := fnB_ok e.1 e.2
  have b := hb fd F
  rw [hn, hq] at F
  exact ⟨f, fd, F, hm, b⟩
theorem dm_ok {d : FD} {C f : Addr} {m q : Str} {ps : List Str} (e : fnV K f = d.val ∧ fnB K f d.qual = true) (hn : d.name = m) (hq : d.qual = q) (hm : methB K C m f = true) (hb : ∀ fd, Fun K d.name d.qual d.st f fd → Binds K fd ps []) : Dm K C m q d.st ps := by
  obtain ⟨fd, F⟩ := fnB_ok e.1 e.2
  have b := hb fd F
  rw [hn, hq] at F
  exact ⟨f, fd, F, methB_ok hm, b⟩
theorem dc_ok {d : FD} {C f : Addr} {x q : Str} {ps : List Str} (e : fnV K f = d.val ∧ fnB K f d.qual = true) (hn : d.name = "__init__") (hq : d.qual = q) (hm : mkB K C f = true) (hx : mg x = some (.ref C)) (hb : ∀ fd, Fun K d.name d.qual d.st f fd → Binds K fd ps []) : Dc K mg x C q d.st ps := by
  obtain ⟨fd, F⟩ := fnB_ok e.1 e.2
  have b := hb fd F
  rw [hn, hq] at F
  exact ⟨⟨f, fd, F, mkB_ok hm, b⟩, hx⟩
theorem dms_ok {d : FD} {C f : Addr} {co : Obj} {m q : Str} {ps : List Str} (e : fnV K f = d.val ∧ fnB K f d.qual = true) (hn : d.name = m) (hq : d.qual = q) (hm : methB (KC K C co) C m f = true) (hb : ∀ fd, Fun K d.name d.qual d.st f fd → Binds K fd ps []) : DmS K C co m q d.st ps := by
  obtain ⟨fd, F⟩ := fnB_ok e.1 e.2
  have b := hb fd F
  rw [hn, hq] at F
  exact ⟨f, fd, F, methB_ok hm, b⟩
theorem dcs_ok {d : FD} {C f : Addr} {co : Obj} {q : Str} {ps : List Str} (e : fnV K f = d.val ∧ fnB K f d.qual = true) (hn : d.name = "__init__") (hq : d.qual = q) (hm : mkB (KC K C co) C f = true) (hb : ∀ fd, Fun K d.name d.qual d.st f fd → Binds K fd ps []) : DcS K C co q d.st ps := by
  obtain ⟨fd, F⟩ := fnB_ok e.1 e.2
  have b := hb fd F
  rw [hn, hq] at F
  exact ⟨f, fd, F, mkB_ok hm, b⟩
end
section
variable {K : Frag} {h : Heap} {mg : Str → Option Value}
theorem bn_of (c : SaysS K) (X : (K1 K).In h) (G : h.Ns mainGlobals mg) : Bn mg := by
  have f := c.fact fa_free 0
  have g : ∀ {x : Str}, freeB (K1 K) x = true → mg x = none := fun z => PySem.W.mg_none_of X G (eqO_ok z)
  exact ⟨g (all_of f 0), g (all_of f 1), g (all_of f 2), g (all_of f 3), g (all_of f 4), g (all_of f 5), g (all_of f 6), g (all_of f 7), g (all_of f 8), g (all_of f 9), g (all_of f 10), g (all_of f 11), g (all_of f 12), PySem.W.mg_of X G (eqO_ok (c.fact fa_gcd 1))⟩
theorem glo_of (X : (K1 K).In h) (G : h.Ns mainGlobals mg) {x : Str} {a : Addr} (z : gloB (K1 K) x a = true) : mg x = some (.ref a) := PySem.W.mg_of X G (eqO_ok z)
theorem kt_of (c : SaysS K) (X : (K1 K).In h) (G : h.Ns mainGlobals mg) : Kt (K1 K) mg := by
  obtain ⟨a1, a2⟩ := ba (c.fact fa_nothing 5)
  obtain ⟨b1, b2⟩ := ba (c.fact fa_one 6)
  exact ⟨⟨_, He.glo_ok X G a1, fun H => He.tupB_ok a2 H⟩, ⟨_, He.glo_ok X G b1, fun H => He.tupB_ok b2 H⟩⟩
theorem kdU_of (c : SaysS K) : KdOk (K1 K) (kU (aU K) (oU K)) := by
  obtain ⟨a1, a2⟩ := ba (c.fact fa_cU 9)
  obtain ⟨a2, a3⟩ := ba a2
  obtain ⟨a3, a4⟩ := ba a3
  exact ⟨clsB_ok a1, fun f hf => noatB_ok (List.all_eq_true.mp a2 f hf), (by show (smN "seen").Nodup; decide +kernel), nmB_ok a1 a3 (by show ("Uniform" : Str).length ≤ sizeLine; decide +kernel) (by show Str.ofString ("Uniform" : Str).toString = ("Uniform" : Str); decide +kernel), of_decide_eq_true a4⟩
theorem kdW_of (c : SaysS K) : KdOk (K1 K) (kW (aW K) (oW K)) := by
  obtain ⟨a1, a2⟩ := ba (c.fact fa_cW 10)
  obtain ⟨a2, a3⟩ := ba a2
  obtain ⟨a3, a4⟩ := ba a3
  exact ⟨clsB_ok a1, fun f hf => noatB_ok (List.all_eq_true.mp a2 f hf), (by show (smN "total").Nodup; decide +kernel), nmB_ok a1 a3 (by show ("Weighted" : Str).length ≤ sizeLine; decide +kernel) (by show Str.ofString ("Weighted" : Str).toString = ("Weighted" : Str); decide +kernel), of_decide_eq_true a4⟩
theorem d25_of (c : SaysS K) (X : (K1 K).In h) (G : h.Ns mainGlobals mg) : Df (K1 K) mg "lowest" (top 25) ["p", "q"] := df_ok (c.fn ⟨.glo "lowest", "lowest", "lowest", top 25⟩ 0) rfl rfl (glo_of X G (all_of (c.fact fa_globs 18) 0)) (fun fd F => F.binds fun _ _ _ _ _ _ us hl => match us, hl with | [_, _], _ => rfl)
theorem d26_of (c : SaysS K) (X : (K1 K).In h) (G : h.Ns mainGlobals mg) : Df (K1 K) mg "plus" (top 26) ["a", "b"] := df_ok (c.fn ⟨.glo "plus", "plus", "plus", top 26⟩ 1) rfl rfl (glo_of X G (all_of (c.fact fa_globs 18) 1)) (fun fd F => F.binds fun _ _ _ _ _ _ us hl => match us, hl with | [_, _], _ => rfl)
theorem d28_of (c : SaysS K) (X : (K1 K).In h) (G : h.Ns mainGlobals mg) : Df (K1 K) mg "times" (top 28) ["a", "b"] := df_ok (c.fn ⟨.glo "times", "times", "times", top 28⟩ 2) rfl rfl (glo_of X G (all_of (c.fact fa_globs 18) 2)) (fun fd F => F.binds fun _ _ _ _ _ _ us hl => match us, hl with | [_, _], _ => rfl)
theorem d30_of (c : SaysS K) (X : (K1 K).In h) (G : h.Ns mainGlobals mg) : Df (K1 K) mg "less" (top 30) ["a", "b"] := df_ok (c.fn ⟨.glo "less", "less", "less", top 30⟩ 3) rfl rfl (glo_of X G (all_of (c.fact fa_globs 18) 3)) (fun fd F => F.binds fun _ _ _ _ _ _ us hl => match us, hl with | [_, _], _ => rfl)
theorem d31_of (c : SaysS K) (X : (K1 K).In h) (G : h.Ns mainGlobals mg) : Df (K1 K) mg "sum_of" (top 31) ["fractions"] := df_ok (c.fn ⟨.glo "sum_of", "sum_of", "sum_of", top 31⟩ 4) rfl rfl (glo_of X G (all_of (c.fact fa_globs 18) 4)) (fun fd F => F.binds fun _ _ _ _ _ _ us hl => match us, hl with | [_], _ => rfl)
theorem d33_of (c : SaysS K) (X : (K1 K).In h) (G : h.Ns mainGlobals mg) : Df (K1 K) mg "are_chances" (top 33) ["fractions"] := df_ok (c.fn ⟨.glo "are_chances", "are_chances", "are_chances", top 33⟩ 5) rfl rfl (glo_of X G (all_of (c.fact fa_globs 18) 5)) (fun fd F => F.binds fun _ _ _ _ _ _ us hl => match us, hl with | [_], _ => rfl)
theorem d34_of (c : SaysS K) (X : (K1 K).In h) (G : h.Ns mainGlobals mg) : Df (K1 K) mg "law_from" (top 34) ["rows"] := df_ok (c.fn ⟨.glo "law_from", "law_from", "law_from", top 34⟩ 6) rfl rfl (glo_of X G (all_of (c.fact fa_globs 18) 6)) (fun fd F => F.binds fun _ _ _ _ _ _ us hl => match us, hl with | [_], _ => rfl)
theorem d49_of (c : SaysS K) (X : (K1 K).In h) (G : h.Ns mainGlobals mg) : Df (K1 K) mg "check_size" (top 49) ["size"] := df_ok (c.fn ⟨.glo "check_size", "check_size", "check_size", top 49⟩ 7) rfl rfl (glo_of X G (all_of (c.fact fa_globs 18) 7)) (fun fd F => F.binds fun _ _ _ _ _ _ us hl => match us, hl with | [_], _ => rfl)
theorem d50_of (c : SaysS K) (X : (K1 K).In h) (G : h.Ns mainGlobals mg) : Df (K1 K) mg "check_keys" (top 50) ["first", "second"] := df_ok (c.fn ⟨.glo "check_keys", "check_keys", "check_keys", top 50⟩ 8) rfl rfl (glo_of X G (all_of (c.fact fa_globs 18) 8)) (fun fd F => F.binds fun _ _ _ _ _ _ us hl => match us, hl with | [_, _], _ => rfl)
theorem d17_of (c : SaysS K) (X : (K1 K).In h) (G : h.Ns mainGlobals mg) : Df (K1 K) mg "least_twice" (top 17) ["lists"] := df_ok (c.fn ⟨.glo "least_twice", "least_twice", "least_twice", top 17⟩ 9) rfl rfl (glo_of X G (all_of (c.fact fa_globs 18) 9)) (fun fd F => F.binds fun _ _ _ _ _ _ us hl => match us, hl with | [_], _ => rfl)
theorem d18_of (c : SaysS K) (X : (K1 K).In h) (G : h.Ns mainGlobals mg) : Df (K1 K) mg "check_apart" (top 18) ["parcels"] := df_ok (c.fn ⟨.glo "check_apart", "check_apart", "check_apart", top 18⟩ 10) rfl rfl (glo_of X G (all_of (c.fact fa_globs 18) 10)) (fun fd F => F.binds fun _ _ _ _ _ _ us hl => match us, hl with | [_], _ => rfl)
theorem d19_of (c : SaysS K) (X : (K1 K).In h) (G : h.Ns mainGlobals mg) : Df (K1 K) mg "merged" (top 19) ["first", "second", "dice"] := df_ok (c.fn ⟨.glo "merged", "merged", "merged", top 19⟩ 11) rfl rfl (glo_of X G (all_of (c.fact fa_globs 18) 11)) (fun fd F => F.binds fun _ _ _ _ _ _ us hl => match us, hl with | [_, _, _], _ => rfl)
theorem d21_of (c : SaysS K) (X : (K1 K).In h) (G : h.Ns mainGlobals mg) : Df (K1 K) mg "counted" (top 21) ["nodes"] := df_ok (c.fn ⟨.glo "counted", "counted", "counted", top 21⟩ 12) rfl rfl (glo_of X G (all_of (c.fact fa_globs 18) 12)) (fun fd F => F.binds fun _ _ _ _ _ _ us hl => match us, hl with | [_], _ => rfl)
theorem d40_of (c : SaysS K) (X : (K1 K).In h) (G : h.Ns mainGlobals mg) : Df (K1 K) mg "check_parcels" (top 40) ["parcels"] := df_ok (c.fn ⟨.glo "check_parcels", "check_parcels", "check_parcels", top 40⟩ 13) rfl rfl (glo_of X G (all_of (c.fact fa_globs 18) 13)) (fun fd F => F.binds fun _ _ _ _ _ _ us hl => match us, hl with | [_], _ => rfl)
theorem d41_of (c : SaysS K) (X : (K1 K).In h) (G : h.Ns mainGlobals mg) : Df (K1 K) mg "check_mergeable" (top 41) ["parcels"] := df_ok (c.fn ⟨.glo "check_mergeable", "check_mergeable", "check_mergeable", top 41⟩ 14) rfl rfl (glo_of X G (all_of (c.fact fa_globs 18) 14)) (fun fd F => F.binds fun _ _ _ _ _ _ us hl => match us, hl with | [_], _ => rfl)
theorem d42_of (c : SaysS K) (X : (K1 K).In h) (G : h.Ns mainGlobals mg) : Df (K1 K) mg "situation" (top 42) ["parcels"] := df_ok (c.fn ⟨.glo "situation", "situation", "situation", top 42⟩ 15) rfl rfl (glo_of X G (all_of (c.fact fa_globs 18) 15)) (fun fd F => F.binds fun _ _ _ _ _ _ us hl => match us, hl with | [_], _ => rfl)
theorem d43_of (c : SaysS K) (X : (K1 K).In h) (G : h.Ns mainGlobals mg) : Df (K1 K) mg "pairs_of" (top 43) ["many"] := df_ok (c.fn ⟨.glo "pairs_of", "pairs_of", "pairs_of", top 43⟩ 16) rfl rfl (glo_of X G (all_of (c.fact fa_globs 18) 16)) (fun fd F => F.binds fun _ _ _ _ _ _ us hl => match us, hl with | [_], _ => rfl)
theorem d44_of (c : SaysS K) (X : (K1 K).In h) (G : h.Ns mainGlobals mg) : Df (K1 K) mg "choice" (top 44) ["parcels", "strategy"] := df_ok (c.fn ⟨.glo "choice", "choice", "choice", top 44⟩ 17) rfl rfl (glo_of X G (all_of (c.fact fa_globs 18) 17)) (fun fd F => F.binds fun _ _ _ _ _ _ us hl => match us, hl with | [_, _], _ => rfl)
theorem d45_of (c : SaysS K) (X : (K1 K).In h) (G : h.Ns mainGlobals mg) : Df (K1 K) mg "after" (top 45) ["parcels", "pair", "dice"] := df_ok (c.fn ⟨.glo "after", "after", "after", top 45⟩ 18) rfl rfl (glo_of X G (all_of (c.fact fa_globs 18) 18)) (fun fd F => F.binds fun _ _ _ _ _ _ us hl => match us, hl with | [_, _, _], _ => rfl)
theorem d46_of (c : SaysS K) (X : (K1 K).In h) (G : h.Ns mainGlobals mg) : Df (K1 K) mg "merge_all" (top 46) ["parcels", "strategy", "dice"] := df_ok (c.fn ⟨.glo "merge_all", "merge_all", "merge_all", top 46⟩ 19) rfl rfl (glo_of X G (all_of (c.fact fa_globs 18) 19)) (fun fd F => F.binds fun _ _ _ _ _ _ us hl => match us, hl with | [_, _, _], _ => rfl)
theorem d64_of (c : SaysS K) (X : (K1 K).In h) (G : h.Ns mainGlobals mg) : Df (K1 K) mg "_law_deck" (top 64) ["_law_script"] := df_ok (c.fn ⟨.glo "_law_deck", "_law_deck", "_law_deck", top 64⟩ 20) rfl rfl (glo_of X G (all_of (c.fact fa_globs2 19) 0)) (fun fd F => F.binds fun _ _ _ _ _ _ us hl => match us, hl with | [_], _ => rfl)
theorem d65_of (c : SaysS K) (X : (K1 K).In h) (G : h.Ns mainGlobals mg) : Df (K1 K) mg "_law_draw" (top 65) ["_law_deck_here", "_law_most"] := df_ok (c.fn ⟨.glo "_law_draw", "_law_draw", "_law_draw", top 65⟩ 21) rfl rfl (glo_of X G (all_of (c.fact fa_globs2 19) 1)) (fun fd F => F.binds fun _ _ _ _ _ _ us hl => match us, hl with | [_, _], _ => rfl)
theorem d66_of (c : SaysS K) (X : (K1 K).In h) (G : h.Ns mainGlobals mg) : Df (K1 K) mg "_law_things" (top 66) ["_law_deck_here", "_law_most"] := df_ok (c.fn ⟨.glo "_law_things", "_law_things", "_law_things", top 66⟩ 22) rfl rfl (glo_of X G (all_of (c.fact fa_globs2 19) 2)) (fun fd F => F.binds fun _ _ _ _ _ _ us hl => match us, hl with | [_, _], _ => rfl)
theorem d67_of (c : SaysS K) (X : (K1 K).In h) (G : h.Ns mainGlobals mg) : Df (K1 K) mg "_law_single" (top 67) ["_law_kind", "_law_item", "_law_size"] := df_ok (c.fn ⟨.glo "_law_single", "_law_single", "_law_single", top 67⟩ 23) rfl rfl (glo_of X G (all_of (c.fact fa_globs2 19) 3)) (fun fd F => F.binds fun _ _ _ _ _ _ us hl => match us, hl with | [_, _, _], _ => rfl)
theorem d69_of (c : SaysS K) (X : (K1 K).In h) (G : h.Ns mainGlobals mg) : Df (K1 K) mg "_law_low" (top 69) ["_law_p", "_law_q"] := df_ok (c.fn ⟨.glo "_law_low", "_law_low", "_law_low", top 69⟩ 24) rfl rfl (glo_of X G (all_of (c.fact fa_globs2 19) 4)) (fun fd F => F.binds fun _ _ _ _ _ _ us hl => match us, hl with | [_, _], _ => rfl)
theorem d71_of (c : SaysS K) (X : (K1 K).In h) (G : h.Ns mainGlobals mg) : Df (K1 K) mg "_law_times" (top 71) ["_law_one", "_law_other"] := df_ok (c.fn ⟨.glo "_law_times", "_law_times", "_law_times", top 71⟩ 25) rfl rfl (glo_of X G (all_of (c.fact fa_globs2 19) 5)) (fun fd F => F.binds fun _ _ _ _ _ _ us hl => match us, hl with | [_, _], _ => rfl)
theorem d73_of (c : SaysS K) (X : (K1 K).In h) (G : h.Ns mainGlobals mg) : Df (K1 K) mg "_law_sets" (top 73) ["_law_things_here", "_law_many"] := df_ok (c.fn ⟨.glo "_law_sets", "_law_sets", "_law_sets", top 73⟩ 26) rfl rfl (glo_of X G (all_of (c.fact fa_globs2 19) 6)) (fun fd F => F.binds fun _ _ _ _ _ _ us hl => match us, hl with | [_, _], _ => rfl)
theorem d74_of (c : SaysS K) (X : (K1 K).In h) (G : h.Ns mainGlobals mg) : Df (K1 K) mg "_law_uniform" (top 74) ["_law_things_here", "_law_size"] := df_ok (c.fn ⟨.glo "_law_uniform", "_law_uniform", "_law_uniform", top 74⟩ 27) rfl rfl (glo_of X G (all_of (c.fact fa_globs2 19) 7)) (fun fd F => F.binds fun _ _ _ _ _ _ us hl => match us, hl with | [_, _], _ => rfl)
theorem d75_of (c : SaysS K) (X : (K1 K).In h) (G : h.Ns mainGlobals mg) : Df (K1 K) mg "_law_orders" (top 75) ["_law_things_here", "_law_left", "_law_many"] := df_ok (c.fn ⟨.glo "_law_orders", "_law_orders", "_law_orders", top 75⟩ 28) rfl rfl (glo_of X G (all_of (c.fact fa_globs2 19) 8)) (fun fd F => F.binds fun _ _ _ _ _ _ us hl => match us, hl with | [_, _, _], _ => rfl)
theorem d76_of (c : SaysS K) (X : (K1 K).In h) (G : h.Ns mainGlobals mg) : Df (K1 K) mg "_law_weighted" (top 76) ["_law_things_here", "_law_size"] := df_ok (c.fn ⟨.glo "_law_weighted", "_law_weighted", "_law_weighted", top 76⟩ 29) rfl rfl (glo_of X G (all_of (c.fact fa_globs2 19) 9)) (fun fd F => F.binds fun _ _ _ _ _ _ us hl => match us, hl with | [_, _], _ => rfl)
theorem d77_of (c : SaysS K) (X : (K1 K).In h) (G : h.Ns mainGlobals mg) : Df (K1 K) mg "_law_plain" (top 77) ["_law_kind", "_law_things_here", "_law_size"] := df_ok (c.fn ⟨.glo "_law_plain", "_law_plain", "_law_plain", top 77⟩ 30) rfl rfl (glo_of X G (all_of (c.fact fa_globs2 19) 10)) (fun fd F => F.binds fun _ _ _ _ _ _ us hl => match us, hl with | [_, _, _], _ => rfl)
theorem d78_of (c : SaysS K) (X : (K1 K).In h) (G : h.Ns mainGlobals mg) : Df (K1 K) mg "_law_seen" (top 78) ["_law_nodes"] := df_ok (c.fn ⟨.glo "_law_seen", "_law_seen", "_law_seen", top 78⟩ 31) rfl rfl (glo_of X G (all_of (c.fact fa_globs2 19) 11)) (fun fd F => F.binds fun _ _ _ _ _ _ us hl => match us, hl with | [_], _ => rfl)
theorem d79_of (c : SaysS K) (X : (K1 K).In h) (G : h.Ns mainGlobals mg) : Df (K1 K) mg "_law_deed" (top 79) ["_law_nodes", "_law_letters", "_law_number", "_law_dice"] := df_ok (c.fn ⟨.glo "_law_deed", "_law_deed", "_law_deed", top 79⟩ 32) rfl rfl (glo_of X G (all_of (c.fact fa_globs2 19) 12)) (fun fd F => F.binds fun _ _ _ _ _ _ us hl => match us, hl with | [_, _, _, _], _ => rfl)
theorem d80_of (c : SaysS K) (X : (K1 K).In h) (G : h.Ns mainGlobals mg) : Df (K1 K) mg "_law_taken" (top 80) ["_law_receiver", "_law_letter"] := df_ok (c.fn ⟨.glo "_law_taken", "_law_taken", "_law_taken", top 80⟩ 33) rfl rfl (glo_of X G (all_of (c.fact fa_globs2 19) 13)) (fun fd F => F.binds fun _ _ _ _ _ _ us hl => match us, hl with | [_, _], _ => rfl)
theorem d81_of (c : SaysS K) (X : (K1 K).In h) (G : h.Ns mainGlobals mg) : Df (K1 K) mg "_law_ended" (top 81) ["_law_nodes", "_law_letters"] := df_ok (c.fn ⟨.glo "_law_ended", "_law_ended", "_law_ended", top 81⟩ 34) rfl rfl (glo_of X G (all_of (c.fact fa_globs2 19) 14)) (fun fd F => F.binds fun _ _ _ _ _ _ us hl => match us, hl with | [_, _], _ => rfl)
theorem d82_of (c : SaysS K) (X : (K1 K).In h) (G : h.Ns mainGlobals mg) : Df (K1 K) mg "_law_run" (top 82) ["_law_deck_numbers", "_law_things_here", "_law_kind", "_law_size", "_law_places", "_law_dice"] := df_ok (c.fn ⟨.glo "_law_run", "_law_run", "_law_run", top 82⟩ 35) rfl rfl (glo_of X G (all_of (c.fact fa_globs2 19) 15)) (fun fd F => F.binds fun _ _ _ _ _ _ us hl => match us, hl with | [_, _, _, _, _, _], _ => rfl)
theorem d83_of (c : SaysS K) (X : (K1 K).In h) (G : h.Ns mainGlobals mg) : Df (K1 K) mg "law" (top 83) ["_law_script"] := df_ok (c.fn ⟨.glo "law", "law", "law", top 83⟩ 36) rfl rfl (glo_of X G (all_of (c.fact fa_globs2 19) 16)) (fun fd F => F.binds fun _ _ _ _ _ _ us hl => match us, hl with | [_], _ => rfl)
theorem ePick_of (c : SaysS K) : Dm (K1 K) (aE K) "pick" "Explorer.pick" (sPick) ["self", "weights"] := dm_ok (c.fn ⟨.meth "Explorer" "pick", "pick", "Explorer.pick", sPick⟩ 37) rfl rfl (all_of (ba (c.fact fa_meE 20)).1 0) (fun fd F => F.binds fun _ _ _ _ _ _ us hl => match us, hl with | [_, _], _ => rfl)
theorem e1_of (c : SaysS K) : Dm (K1 K) (aE K) "advance" "Explorer.advance" (eS 1) ["self"] := dm_ok (c.fn ⟨.meth "Explorer" "advance", "advance", "Explorer.advance", eS 1⟩ 39) rfl rfl (all_of (ba (c.fact fa_meE 20)).1 1) (fun fd F => F.binds fun _ _ _ _ _ _ us hl => match us, hl with | [_], _ => rfl)
theorem e2_of (c : SaysS K) : Dm (K1 K) (aE K) "begin" "Explorer.begin" (eS 2) ["self"] := dm_ok (c.fn ⟨.meth "Explorer" "begin", "begin", "Explorer.begin", eS 2⟩ 40) rfl rfl (all_of (ba (c.fact fa_meE 20)).1 2) (fun fd F => F.binds fun _ _ _ _ _ _ us hl => match us, hl with | [_], _ => rfl)
theorem e4_of (c : SaysS K) : Dm (K1 K) (aE K) "end" "Explorer.end" (eS 4) ["self", "outcome"] := dm_ok (c.fn ⟨.meth "Explorer" "end", "end", "Explorer.end", eS 4⟩ 41) rfl rfl (all_of (ba (c.fact fa_meE 20)).1 3) (fun fd F => F.binds fun _ _ _ _ _ _ us hl => match us, hl with | [_, _], _ => rfl)
theorem e6_of (c : SaysS K) : Dm (K1 K) (aE K) "gathered" "Explorer.gathered" (eS 6) ["self"] := dm_ok (c.fn ⟨.meth "Explorer" "gathered", "gathered", "Explorer.gathered", eS 6⟩ 42) rfl rfl (all_of (ba (c.fact fa_meE 20)).1 4) (fun fd F => F.binds fun _ _ _ _ _ _ us hl => match us, hl with | [_], _ => rfl)
theorem n1_of (c : SaysS K) : Dm (K1 K) (aN K) "held" "Node.held" (nS 1) ["self"] := dm_ok (c.fn ⟨.meth "Node" "held", "held", "Node.held", nS 1⟩ 44) rfl rfl (all_of (ba (c.fact fa_meN 21)).1 0) (fun fd F => F.binds fun _ _ _ _ _ _ us hl => match us, hl with | [_], _ => rfl)
theorem n2_of (c : SaysS K) : Dm (K1 K) (aN K) "out" "Node.out" (nS 2) ["self"] := dm_ok (c.fn ⟨.meth "Node" "out", "out", "Node.out", nS 2⟩ 45) rfl rfl (all_of (ba (c.fact fa_meN 21)).1 1) (fun fd F => F.binds fun _ _ _ _ _ _ us hl => match us, hl with | [_], _ => rfl)
theorem n3_of (c : SaysS K) : Dm (K1 K) (aN K) "check_number" "Node.check_number" (nS 3) ["self", "number"] := dm_ok (c.fn ⟨.meth "Node" "check_number", "check_number", "Node.check_number", nS 3⟩ 46) rfl rfl (all_of (ba (c.fact fa_meN 21)).1 2) (fun fd F => F.binds fun _ _ _ _ _ _ us hl => match us, hl with | [_, _], _ => rfl)
theorem n4_of (c : SaysS K) : Dm (K1 K) (aN K) "merge" "Node.merge" (nS 4) ["self", "i", "j", "dice"] := dm_ok (c.fn ⟨.meth "Node" "merge", "merge", "Node.merge", nS 4⟩ 47) rfl rfl (all_of (ba (c.fact fa_meN 21)).1 3) (fun fd F => F.binds fun _ _ _ _ _ _ us hl => match us, hl with | [_, _, _, _], _ => rfl)
theorem n5_of (c : SaysS K) : Dm (K1 K) (aN K) "send" "Node.send" (nS 5) ["self", "i", "receiver"] := dm_ok (c.fn ⟨.meth "Node" "send", "send", "Node.send", nS 5⟩ 48) rfl rfl (all_of (ba (c.fact fa_meN 21)).1 4) (fun fd F => F.binds fun _ _ _ _ _ _ us hl => match us, hl with | [_, _, _], _ => rfl)
theorem n6_of (c : SaysS K) : Dm (K1 K) (aN K) "again" "Node.again" (nS 6) ["self", "number"] := dm_ok (c.fn ⟨.meth "Node" "again", "again", "Node.again", nS 6⟩ 49) rfl rfl (all_of (ba (c.fact fa_meN 21)).1 5) (fun fd F => F.binds fun _ _ _ _ _ _ us hl => match us, hl with | [_, _], _ => rfl)
theorem n7_of (c : SaysS K) : Dm (K1 K) (aN K) "has_taken" "Node.has_taken" (nS 7) ["self", "sender", "number"] := dm_ok (c.fn ⟨.meth "Node" "has_taken", "has_taken", "Node.has_taken", nS 7⟩ 50) rfl rfl (all_of (ba (c.fact fa_meN 21)).1 6) (fun fd F => F.binds fun _ _ _ _ _ _ us hl => match us, hl with | [_, _, _], _ => rfl)
theorem n8_of (c : SaysS K) : Dm (K1 K) (aN K) "here" "Node.here" (nS 8) ["self"] := dm_ok (c.fn ⟨.meth "Node" "here", "here", "Node.here", nS 8⟩ 51) rfl rfl (all_of (ba (c.fact fa_meN 21)).1 7) (fun fd F => F.binds fun _ _ _ _ _ _ us hl => match us, hl with | [_], _ => rfl)
theorem n9_of (c : SaysS K) : Dm (K1 K) (aN K) "take" "Node.take" (nS 9) ["self", "letter"] := dm_ok (c.fn ⟨.meth "Node" "take", "take", "Node.take", nS 9⟩ 52) rfl rfl (all_of (ba (c.fact fa_meN 21)).1 8) (fun fd F => F.binds fun _ _ _ _ _ _ us hl => match us, hl with | [_, _], _ => rfl)
theorem n10_of (c : SaysS K) : Dm (K1 K) (aN K) "confirm" "Node.confirm" (nS 10) ["self", "number"] := dm_ok (c.fn ⟨.meth "Node" "confirm", "confirm", "Node.confirm", nS 10⟩ 53) rfl rfl (all_of (ba (c.fact fa_meN 21)).1 9) (fun fd F => F.binds fun _ _ _ _ _ _ us hl => match us, hl with | [_, _], _ => rfl)
theorem n11_of (c : SaysS K) : Dm (K1 K) (aN K) "pending" "Node.pending" (nS 11) ["self", "nodes"] := dm_ok (c.fn ⟨.meth "Node" "pending", "pending", "Node.pending", nS 11⟩ 54) rfl rfl (all_of (ba (c.fact fa_meN 21)).1 10) (fun fd F => F.binds fun _ _ _ _ _ _ us hl => match us, hl with | [_, _], _ => rfl)
theorem e0_of (c : SaysS K) (X : (K1 K).In h) (G : h.Ns mainGlobals mg) : Dc (K1 K) mg "Explorer" (aE K) "Explorer.__init__" (eS 0) ["self"] := dc_ok (c.fn ⟨.meth "Explorer" "__init__", "__init__", "Explorer.__init__", eS 0⟩ 38) rfl rfl (ba (c.fact fa_meE 20)).2 (glo_of X G (c.fact fa_gE 13)) (fun fd F => F.binds fun _ _ _ _ _ _ us hl => match us, hl with | [_], _ => rfl)
theorem n0_of (c : SaysS K) (X : (K1 K).In h) (G : h.Ns mainGlobals mg) : Dc (K1 K) mg "Node" (aN K) "Node.__init__" (nS 0) ["self", "name", "parcels"] := dc_ok (c.fn ⟨.meth "Node" "__init__", "__init__", "Node.__init__", nS 0⟩ 43) rfl rfl (ba (c.fact fa_meN 21)).2 (glo_of X G (c.fact fa_gN 14)) (fun fd F => F.binds fun _ _ _ _ _ _ us hl => match us, hl with | [_, _, _], _ => rfl)
theorem u0_of (c : SaysS K) : DcS (K1 K) (aU K) (oU K) "Uniform.__init__" (uS 0) ["self", "size", "seen", "kept"] := dcs_ok (c.fn ⟨.meth "Uniform" "__init__", "__init__", "Uniform.__init__", uS 0⟩ 55) rfl rfl (ba (ba (c.fact fa_meU 22)).2).1 (fun fd F => F.binds fun _ _ _ _ _ _ us hl => match us, hl with | [_, _, _, _], _ => rfl)
theorem u2_of (c : SaysS K) : DmC (K1 K) (aU K) (oU K) "single" "Uniform.single" (uS 2) ["cls", "item", "size"] := dmc_ok (d := ⟨.cmeth "Uniform" "single", "single", "Uniform.single", uS 2⟩) (c.fn ⟨.cmeth "Uniform" "single", "single", "Uniform.single", uS 2⟩ 56).1 (c.fn ⟨.cmeth "Uniform" "single", "single", "Uniform.single", uS 2⟩ 56).2 (ba (ba (c.fact fa_meU 22)).2).2 rfl (fun fd F => F.binds fun _ _ _ _ _ _ us hl => match us, hl with | [_, _, _], _ => rfl)
theorem u3_of (c : SaysS K) : DmS (K1 K) (aU K) (oU K) "check" "Uniform.check" (uS 3) ["self", "other"] := dms_ok (c.fn ⟨.meth "Uniform" "check", "check", "Uniform.check", uS 3⟩ 57) rfl rfl (all_of (ba (c.fact fa_meU 22)).1 0) (fun fd F => F.binds fun _ _ _ _ _ _ us hl => match us, hl with | [_, _], _ => rfl)
theorem u4_of (c : SaysS K) : DmS (K1 K) (aU K) (oU K) "merge" "Uniform.merge" (uS 4) ["self", "other", "dice"] := dms_ok (c.fn ⟨.meth "Uniform" "merge", "merge", "Uniform.merge", uS 4⟩ 58) rfl rfl (all_of (ba (c.fact fa_meU 22)).1 1) (fun fd F => F.binds fun _ _ _ _ _ _ us hl => match us, hl with | [_, _, _], _ => rfl)
theorem u5_of (c : SaysS K) : DmS (K1 K) (aU K) (oU K) "view" "Uniform.view" (uS 5) ["self"] := dms_ok (c.fn ⟨.meth "Uniform" "view", "view", "Uniform.view", uS 5⟩ 59) rfl rfl (all_of (ba (c.fact fa_meU 22)).1 2) (fun fd F => F.binds fun _ _ _ _ _ _ us hl => match us, hl with | [_], _ => rfl)
theorem w0_of (c : SaysS K) : DcS (K1 K) (aW K) (oW K) "Weighted.__init__" (wS 0) ["self", "size", "total", "kept"] := dcs_ok (c.fn ⟨.meth "Weighted" "__init__", "__init__", "Weighted.__init__", wS 0⟩ 60) rfl rfl (ba (ba (c.fact fa_meW 23)).2).1 (fun fd F => F.binds fun _ _ _ _ _ _ us hl => match us, hl with | [_, _, _, _], _ => rfl)
theorem w2_of (c : SaysS K) : DmC (K1 K) (aW K) (oW K) "single" "Weighted.single" (wS 2) ["cls", "item", "size"] := dmc_ok (d := ⟨.cmeth "Weighted" "single", "single", "Weighted.single", wS 2⟩) (c.fn ⟨.cmeth "Weighted" "single", "single", "Weighted.single", wS 2⟩ 61).1 (c.fn ⟨.cmeth "Weighted" "single", "single", "Weighted.single", wS 2⟩ 61).2 (ba (ba (c.fact fa_meW 23)).2).2 rfl (fun fd F => F.binds fun _ _ _ _ _ _ us hl => match us, hl with | [_, _, _], _ => rfl)
theorem w3_of (c : SaysS K) : DmS (K1 K) (aW K) (oW K) "check" "Weighted.check" (wS 3) ["self", "other"] := dms_ok (c.fn ⟨.meth "Weighted" "check", "check", "Weighted.check", wS 3⟩ 62) rfl rfl (all_of (ba (c.fact fa_meW 23)).1 0) (fun fd F => F.binds fun _ _ _ _ _ _ us hl => match us, hl with | [_, _], _ => rfl)
theorem w4_of (c : SaysS K) : DmS (K1 K) (aW K) (oW K) "merge" "Weighted.merge" (wS 4) ["self", "other", "dice"] := dms_ok (c.fn ⟨.meth "Weighted" "merge", "merge", "Weighted.merge", wS 4⟩ 63) rfl rfl (all_of (ba (c.fact fa_meW 23)).1 1) (fun fd F => F.binds fun _ _ _ _ _ _ us hl => match us, hl with | [_, _, _], _ => rfl)
theorem w5_of (c : SaysS K) : DmS (K1 K) (aW K) (oW K) "view" "Weighted.view" (wS 5) ["self"] := dms_ok (c.fn ⟨.meth "Weighted" "view", "view", "Weighted.view", wS 5⟩ 64) rfl rfl (all_of (ba (c.fact fa_meW 23)).1 2) (fun fd F => F.binds fun _ _ _ _ _ _ us hl => match us, hl with | [_], _ => rfl)
theorem tx_of (c : SaysS K) (X : (K1 K).In h) (G : h.Ns mainGlobals mg) : Tx (K1 K) mg (aE K) (aN K) (aU K) (oU K) (aW K) (oW K) where
  B := bn_of c X G
  mS := He.int_ok X G (c.fact fa_mS 2)
  mP := He.int_ok X G (c.fact fa_mP 3)
  mR := He.int_ok X G (c.fact fa_mR 4)
  KT := kt_of c X G
  cE := ⟨clsB_ok (ba (c.fact fa_cE 7)).1, fun f hf => noatB_ok (List.all_eq_true.mp (ba (c.fact fa_cE 7)).2 f hf)⟩
  O := ⟨clsB_ok (ba (c.fact fa_cN 8)).1, fun f hf => noatB_ok (List.all_eq_true.mp (ba (c.fact fa_cN 8)).2 f hf)⟩
  OU := kdU_of c
  OW := kdW_of c
  hU := glo_of X G (c.fact fa_gU 11)
  hW := glo_of X G (c.fact fa_gW 12)
  d25 := d25_of c X G
  d26 := d26_of c X G
  d28 := d28_of c X G
  d30 := d30_of c X G
  d31 := d31_of c X G
  d33 := d33_of c X G
  d34 := d34_of c X G
  d49 := d49_of c X G
  d50 := d50_of c X G
  d17 := d17_of c X G
  d18 := d18_of c X G
  d19 := d19_of c X G
  d21 := d21_of c X G
  d40 := d40_of c X G
  d41 := d41_of c X G
  d42 := d42_of c X G
  d43 := d43_of c X G
  d44 := d44_of c X G
  d45 := d45_of c X G
  d46 := d46_of c X G
  d64 := d64_of c X G
  d65 := d65_of c X G
  d66 := d66_of c X G
  d67 := d67_of c X G
  d69 := d69_of c X G
  d71 := d71_of c X G
  d73 := d73_of c X G
  d74 := d74_of c X G
  d75 := d75_of c X G
  d76 := d76_of c X G
  d77 := d77_of c X G
  d78 := d78_of c X G
  d79 := d79_of c X G
  d80 := d80_of c X G
  d81 := d81_of c X G
  d82 := d82_of c X G
  d83 := d83_of c X G
  ePick := ePick_of c
  e1 := e1_of c
  e2 := e2_of c
  e4 := e4_of c
  e6 := e6_of c
  e0 := e0_of c X G
  n1 := n1_of c
  n2 := n2_of c
  n3 := n3_of c
  n4 := n4_of c
  n5 := n5_of c
  n6 := n6_of c
  n7 := n7_of c
  n8 := n8_of c
  n9 := n9_of c
  n10 := n10_of c
  n11 := n11_of c
  n0 := n0_of c X G
  u0 := u0_of c
  u2 := u2_of c
  u3 := u3_of c
  u4 := u4_of c
  u5 := u5_of c
  w0 := w0_of c
  w2 := w2_of c
  w3 := w3_of c
  w4 := w4_of c
  w5 := w5_of c
end
end Sam
end
section
set_option Elab.async false
set_option linter.all false
set_option maxRecDepth 100000
set_option maxHeartbeats 2000000
namespace Sam
open PySem PySem.Spec PyProof.Rows L2
/-! ### the law's call, two classes tracked -/
theorem clsO_ok {P : Program} {w : World} {H : Hp} {h : Heap} {C : Addr} {o : Obj} {nm : Str} (e : h.get? C = some o) (s : ∃ t, slot2 o.slots = some (.str nm t)) : ObjOk P w H h C (clsO C o nm) :=
  ⟨⟨e, s⟩, ⟨o, e⟩, fun h1 h2 q k => ⟨k _ q.1, q.2⟩⟩
theorem law_call2 {PR : Program} {wd : World} {K : PySem.W.Frag} {gm bm : Str → Option Value} {k : Nat} {fL a CU CW : Addr} {coU coW : Obj} {fd : FuncData} {x : Str} {sp : Sp} {t₀ : Shared} {us : List Value} {zs : List Int}
    (KX : K.In t₀.heap) (hN : t₀.heap.Ns mainGlobals gm) (hB : t₀.heap.Ns builtinsNs bm) (hBB : ∀ x : Str, x ≠ "__name__" → bm x = bootBuiltins x) (hL : t₀.heap.NoLimit) (hGen : t₀.gens = #[])
    (cU : t₀.heap.get? CU = some coU) (cW : t₀.heap.get? CW = some coW) (sU : ∃ t, slot2 coU.slots = some (.str "Uniform" t)) (sW : ∃ t, slot2 coW.slots = some (.str "Weighted" t)) (nU : K.lookup CU = none) (nW : K.lookup CW = none) (nUW : CU ≠ CW)
    (dU : ∃ cd, coU.data = .cls cd) (dW : ∃ cd, coW.data = .cls cd)
    (hScr : t₀.heap.get? a = some { cls := .type "list", data := .seq us.toArray }) (hInt : IntsAre us zs) (hLen : zs.length ≤ sizeLine) (hRoom : Room k callerA)
    (F : ∀ base : Heap, K.In base → base.Ns mainGlobals gm → FnOk PR wd K gm base CX0 k fL fd [x] sp) (hBd : ∀ (s : Shared) (u : Value), BindsTo s fd ⟨[u], []⟩ [(x, u)])
    (hProm : ∀ H : Hp, H CU = some (clsO CU coU "Uniform") → H CW = some (clsO CW coW "Weighted") → SqL K H a (zs.map V.int) → sp [.ref a] H (fun v H' => v = .bl true ∧ H' CU = some (clsO CU coU "Uniform") ∧ H' CW = some (clsO CW coW "Weighted")) fun _ _ _ => False) :
    codeAny (model PR wd) callerA (.call (.ref fL) ⟨[.ref a], []⟩) (fun r s' => r = .ok (.ret (.bool true)) ∧ OldK t₀.heap s'.heap ∧ s'.os = t₀.os ∧ AllBare s'.gens) t₀ := by
  have rel := vals_ints hInt
  have lenU := hInt.length
  obtain ⟨cdU, dU⟩ := dU
  obtain ⟨cdW, dW⟩ := dW
  have aU : a ≠ CU := fun z => by
    rw [z, cU] at hScr
    have e := congrArg Obj.data (Option.some.inj hScr)
    rw [dU] at e
    cases e
  have aW : a ≠ CW := fun z => by
    rw [z, cW] at hScr
    have e := congrArg Obj.data (Option.some.inj hScr)
    rw [dW] at e
    cases e
  have go : ∀ H : Hp, H CU = some (clsO CU coU "Uniform") → H CW = some (clsO CW coW "Weighted") → (∀ b, H b = none ∨ b = CU ∨ b = CW ∨ ∃ o xs, H b = some (.frz o (.lst xs))) → SqL K H a (zs.map V.int) → HOk PR wd H t₀.heap → (∀ b, H b ≠ none → b = a ∨ b = CU ∨ b = CW) → (H a ≠ none → K.lookup a = none) →
      codeAny (model PR wd) callerA (.call (.ref fL) ⟨[.ref a], []⟩) (fun r s' => r = .ok (.ret (.bool true)) ∧ OldK t₀.heap s'.heap ∧ s'.os = t₀.os ∧ AllBare s'.gens) t₀ := by
    intro H hHU hHW hAll hS hFit hWho hFree
    have atBase : ∀ {b : Addr} {o : Obj}, t₀.heap.get? b = some o → H b = none → (hidT t₀.heap H).get? b = some o := fun e n => hidT_get e n
    have noDict : ∀ {b : Addr} {o : Obj} {ents : Array DictEntry} {epo : Nat}, t₀.heap.get? b = some o → o.data = .dict ents epo → H b = none := fun {b o ents epo} e d => by
      cases eq0 : H b with
      | none => rfl
      | some u =>
        rcases hWho b (by rw [eq0]; simp) with e1' | e1' | e1'
        · rw [e1', hScr] at e; cases e
          have d' : Data.seq us.toArray _ = Data.dict ents epo := d
          cases d'
        · rw [e1', cU] at e; cases e
          rw [dU] at d; cases d
        · rw [e1', cW] at e; cases e
          rw [dW] at d; cases d
    have nsB : ∀ {b : Addr} {m : Str → Option Value}, t₀.heap.Ns b m → (hidT t₀.heap H).Ns b m := fun {b m} ⟨o, ents, epo, e, d, r⟩ => ⟨o, ents, epo, atBase e (noDict e d), d, r⟩
    have kIn : K.In (hidT t₀.heap H) := fun b o e => atBase (KX b o e) (by
      cases eq0 : H b with
      | none => rfl
      | some u =>
        rcases hWho b (by rw [eq0]; simp) with e1' | e1' | e1'
        · rw [e1'] at e eq0
          rw [hFree (by rw [eq0]; simp)] at e
          cases e
        · rw [e1', nU] at e; cases e
        · rw [e1', nW] at e; cases e)
    have modB : L2.Mod K gm (hidT t₀.heap H) := ⟨kIn, nsB hN, ⟨bm, nsB hB, hBB⟩, let ⟨mc, h1, h2⟩ := hL; ⟨mc, nsB h1, h2⟩⟩
    have env0 : Env0 PR wd K gm (hidT t₀.heap H) callerA [] t₀ H := ⟨rfl, modB, fun b o e => of_hidT e, Nat.le_of_eq (hidT_size _ _), trivial, fun b hB => absurd (show b ∈ ([] : List Addr) from hB) (by simp), hFit, .of_eq hGen⟩
    refine codeAny_mono ((F _ kIn (nsB hN)).run callerA [] t₀ H ⟨[.ref a], []⟩ [.ref a] [.ref a] _ _ hRoom env0 (hBd t₀ (.ref a)) (.cons rfl .nil) (hProm H hHU hHW hS)) fun r s' h => ?_
    cases r with
    | error e => exact False.elim h
    | ok fl =>
      cases fl with
      | next => exact False.elim h
      | brk => exact False.elim h
      | cont => exact False.elim h
      | ret u =>
        obtain ⟨v, H', osEq, bareEq, unch, hFit', r', eq0⟩ := h
        obtain ⟨eq1, qU, qW⟩ : v = .bl true ∧ H' CU = some (clsO CU coU "Uniform") ∧ H' CW = some (clsO CW coW "Weighted") := eq0
        subst eq1
        obtain rfl : u = Value.bool true := r'
        refine ⟨rfl, OldK.of_keep fun b o e => ?_, osEq, bareEq⟩
        cases eq0 : H b with
        | none => exact unch.keep b o e eq0 (by intro z; exact absurd (show b ∈ ([] : List Addr) from z) (by simp)) (by simp)
        | some u =>
          rcases hAll b with z | z | z | ⟨ob, xs, z⟩
          · rw [eq0] at z; cases z
          · obtain ⟨⟨x2, _⟩, _⟩ := (show ObjOk PR wd H' s'.heap CU (clsO CU coU "Uniform") from hFit' CU _ qU)
            rw [z, cU] at e
            cases e
            rw [z]
            exact x2
          · obtain ⟨⟨x2, _⟩, _⟩ := (show ObjOk PR wd H' s'.heap CW (clsO CW coW "Weighted") from hFit' CW _ qW)
            rw [z, cW] at e
            cases e
            rw [z]
            exact x2
          · have z2 := unch.frzs b ob _ z
            obtain ⟨x1, _⟩ := hFit b _ z
            obtain ⟨x2, _⟩ := hFit' b _ z2
            rw [e] at x1; cases x1
            exact x2
  cases hk : K.lookup a with
  | some o =>
    have e := KX a o hk
    rw [hScr] at e
    cases e
    refine go (fun b => if b = CU then some (clsO CU coU "Uniform") else if b = CW then some (clsO CW coW "Weighted") else none) (if_pos rfl) ((if_neg nUW.symm).trans (if_pos rfl)) (fun b => ?_) (.inr ⟨_, us.toArray, _, hk, rfl, rfl, rfl, by rw [List.size_toArray, lenU]; exact hLen, by simpa using rel⟩) (fun b u z => ?_) (fun b z => ?_) fun z => absurd (show (if a = CU then some (clsO CU coU "Uniform") else if a = CW then some (clsO CW coW "Weighted") else none) = none from (if_neg aU).trans (if_neg aW)) z
    · by_cases h1 : b = CU
      · exact .inr (.inl h1)
      · by_cases h2 : b = CW
        · exact .inr (.inr (.inl h2))
        · exact .inl ((if_neg h1).trans (if_neg h2))
    · by_cases h1 : b = CU
      · have z' := (if_pos h1).symm.trans z
        cases z'
        subst h1
        exact clsO_ok cU sU
      · have z1 := (if_neg h1).symm.trans z
        by_cases h2 : b = CW
        · have z' := (if_pos h2).symm.trans z1
          cases z'
          subst h2
          exact clsO_ok cW sW
        · have z' := (if_neg h2).symm.trans z1
          cases z'
    · by_cases h1 : b = CU
      · exact .inr (.inl h1)
      · by_cases h2 : b = CW
        · exact .inr (.inr h2)
        · exact absurd ((if_neg h1).trans (if_neg h2)) z
  | none =>
    refine go (fun b => if b = a then some (.frz { cls := .type "list", data := .seq us.toArray } (.lst (zs.map V.int))) else if b = CU then some (clsO CU coU "Uniform") else if b = CW then some (clsO CW coW "Weighted") else none) ((if_neg aU.symm).trans (if_pos rfl)) ((if_neg aW.symm).trans ((if_neg nUW.symm).trans (if_pos rfl))) (fun b => ?_)
      (.inl (.inr ⟨{ cls := .type "list", data := .seq us.toArray }, if_pos rfl⟩)) (fun b u z => ?_) (fun b z => ?_) fun _ => hk
    · by_cases h0 : b = a
      · exact .inr (.inr (.inr ⟨_, _, if_pos h0⟩))
      · by_cases h1 : b = CU
        · exact .inr (.inl h1)
        · by_cases h2 : b = CW
          · exact .inr (.inr (.inl h2))
          · exact .inl ((if_neg h0).trans ((if_neg h1).trans (if_neg h2)))
    · by_cases h0 : b = a
      · have z' := (if_pos h0).symm.trans z
        cases z'
        rw [h0]
        exact ⟨hScr, by rw [List.length_map]; exact hLen, us, _, rel, hScr⟩
      · have z0 := (if_neg h0).symm.trans z
        by_cases h1 : b = CU
        · have z' := (if_pos h1).symm.trans z0
          cases z'
          subst h1
          exact clsO_ok cU sU
        · have z1 := (if_neg h1).symm.trans z0
          by_cases h2 : b = CW
          · have z' := (if_pos h2).symm.trans z1
            cases z'
            subst h2
            exact clsO_ok cW sW
          · have z' := (if_neg h2).symm.trans z1
            cases z'
    · by_cases h0 : b = a
      · exact .inl h0
      · by_cases h1 : b = CU
        · exact .inr (.inl h1)
        · by_cases h2 : b = CW
          · exact .inr (.inr h2)
          · exact absurd ((if_neg h0).trans ((if_neg h1).trans (if_neg h2))) z
end Sam
end
section
set_option Elab.async false
set_option linter.all false
set_option maxRecDepth 100000
set_option maxHeartbeats 0
namespace Sam
open PySem PySem.Spec PyProof.Rows L2
open PySem.W (Frag nsIn)
open He (ga frG frG_in FnV refV ba)
theorem clsDB_ok {o : Obj} (c : clsDB o = true) : ∃ cd, o.data = .cls cd := by
  unfold clsDB at c
  split at c
  · rename_i cd e
    exact ⟨cd, e⟩
  · cases c
theorem sl_ok {K : Frag} {h : Heap} {C : Addr} (X : K.In h) (e : (K.lookup C).isSome = true) : h.get? C = some ((K.lookup C).getD default) := by
  cases q : K.lookup C with
  | none => rw [q] at e; cases e
  | some o => exact X C o q
theorem walkS : PySem.W.WalkO (PySem.W.view sRow.prog [0, 83]) looseAll (PySem.W.XL (PySem.W.view sRow.prog [0, 83]) []) hkS.says sRow.toRowW (HandSHeadRun.topDef sRow.prog 83) [] (fun f vs => PySem.call f vs) := by
  refine Att.attach_call (l := PySem.Challenge.rw_samphire_k45_whole_one_law_over_any_net) (n := 63) rfl (by kernel_rfl) fun w s₀ s₁ mg mb fa o pm cd doc a vs ns G Y ho hd hcd hmg0 hobj hints hlen hg => ?_
  obtain ⟨K, KX, c⟩ := Y
  have hmg : mg ("law" : Str) = some (.ref fa) := by
    have e : (HandSHeadRun.topDef sRow.prog 83).name = ("law" : Str) := by kernel_rfl
    rw [← e]
    exact hmg0
  have X := tx_of c (less_in KX) G.T.g
  have hfa : mg ("law" : Str) = some (.ref (ga K "law")) := glo_of (less_in KX) G.T.g (all_of (c.fact fa_globs2 19) 16)
  have efa : fa = ga K "law" := by
    have e := hmg.symm.trans hfa
    cases e
    rfl
  have cf := c.fn ⟨.glo "law", "law", "law", top 83⟩ 36
  obtain ⟨fd, F⟩ := fnB_ok cf.1 cf.2
  have F : Fun (K1 K) "law" "law" (top 83) (ga K "law") fd := F
  rw [← efa] at F
  have lkF := fun_lk F
  have hbind : ∀ (s : Shared) (u : Value), BindsTo s fd ⟨[u], []⟩ [("_law_script", u)] := by
    obtain ⟨oc, od, kV, doc2, pm2, an, cdv, ct, osl, rfl, lk, hcd2⟩ := F.ex
    exact fun s u => BindsTo.of_eq rfl
  obtain ⟨lU, tU⟩ := ba (c.fact fa_slU 15)
  obtain ⟨tU, dU⟩ := ba tU
  obtain ⟨lW, tW⟩ := ba (c.fact fa_slW 16)
  obtain ⟨tW, dW⟩ := ba tW
  have neq : aU K ≠ aW K := fun e => by
    have z := c.fact fa_neq 17
    unfold fa_neq at z
    rw [e] at z
    simp at z
  refine law_call2 (less_in KX) G.T.g G.T.b G.T.builtins G.T.nolimit hg (sl_ok KX lU) (sl_ok KX lW) (slotB_ok tU) (slotB_ok tW) (by rw [less_at, if_pos (.inl rfl)]) (by rw [less_at, if_pos (.inr rfl)]) neq (clsDB_ok dU) (clsDB_ok dW) hobj hints (Nat.le_trans hlen (by decide)) (k := 9) ⟨rfl, by decide, by decide⟩
    (fun base kb gb => ?_) hbind (sp := spLaw (K1 K) (aU K) (oU K) (aW K) (oW K)) (fun H hU hW hS => ⟨a, ns, rfl, hS, hU, hW, fun H' h1 h2 => ⟨rfl, h1, h2⟩⟩)
  obtain ⟨f', fd', hm', kp, hb, hF, oc, od, osl, lk'⟩ := (law_ok (P := sRow.prog) (w := w) (base := base) X).ex
  have e := hm'.symm.trans hmg
  cases e
  obtain ⟨oc2, od2, osl2, lk2⟩ := lkF
  have e2 := lk'.symm.trans lk2
  cases e2
  exact hF
end Sam
end
set_option Elab.async false
set_option linter.all false
set_option maxRecDepth 100000
set_option maxHeartbeats 0
open PySem PySem.W PySem.Calls PyProof.Rows
theorem PySem.Challenge.cw_samphire_k45_whole_one_law_over_any_net_holds : PySem.Challenge.rw_samphire_k45_whole_one_law_over_any_net.Holds := by
  w_on; o_law
  refine HandSHeadRun.head_imp (r := Sam.sRow) (q := view Sam.sRow.prog [0, 83]) (H := Sam.hkS) (ob := Sam.obT) (M := 12000) (loose := Sam.looseAll) (d := HandSHeadRun.topDef Sam.sRow.prog 83) (kwd := []) Sam.obT_eq Sam.runS (by kernel_rfl) (by kernel_rfl) (by kernel_rfl) (by rfl) (by first | assumption | decide +kernel) (by decide +kernel) ⟨rfl, rfl, rfl, rfl, rfl, by decide +kernel⟩ ?hw ?hc
  case hw => w_witness2
  case hc => exact Sam.walkS
