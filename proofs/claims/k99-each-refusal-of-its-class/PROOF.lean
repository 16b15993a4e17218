import PyProof.Rows.All
import Wide.All
import OpenK.AllK
import Wide.FinOn
import HandS.ForMost
import HandS.ForExc
import HandS.IsInst
import HandS.Flow
import HandS.Wide
import HandS.TupAny
import HandS.TupMul
import HandS.Zip
import HandS.Nested
import PyProof.StrBlock2
import HandS.Style
import HandS.RaiseMore
import KE.LtSeq
import HandS.Defaults
import HandS.MakeKwOnly
import HandS.Replace
import HandS.More
import PyProof.CollectIter
import HandS.Dict
import HandS.ExcInit
import HandS.ExcField
import HandS.TryMany
import HandS.WideBits
import PyProof.RowDictHeap
import HandS.ListItems
import KE.KItemsList
import KE.GoesMore
import HandS.TupLe
import HandS.SetFor
import KE.KExcInit
import PyProof.ExcBaseAll.RuntimeError
import HandS.SortOrd
import KE.KSortTup
import KE.KSortKey
import HandS.Keys
import HandS.SortKw
import HandS.ClsMeth
import HandS.FStr
import KE.KCallOwn
import KE.KStateDown
import HandS.Head0
import HandS.Head1
import HandS.Head2
import HandS.HeadHook1
import HandS.HeadHook2
import HandS.HeadHook3
import HandS.HeadHook4
import PyProof.ExcBaseAll.LookupError
import HandS.ReplaceLit
import KE.GoesComp
import KE.GoesRaise
import KE.KAsSuite
import HandS.SortInts
import HandS.Small
import HandS.ExcIs
import HandS.ExcValue
import PySem.Challenge.RW_oneprotocol_k99_each_refusal_of_its_clas
set_option Elab.async false
set_option linter.all false
set_option maxRecDepth 100000
set_option maxHeartbeats 4000000
namespace Mi
open PySem PySem.Spec PyProof.Rows L2
abbrev Fr := PySem.W.Frag
def DEs (P : Params) : List Str -> List (Value -> Bool) -> List DictEntry -> Prop
 | [], [], [] => True
 | k :: ks, t :: ts, e :: es => (∃ tk v, e = ⟨PyData.keyHash P k, .str k tk, v⟩ /\ t v = true) /\ DEs P ks ts es
 | _, _, _ => False
theorem DEs.nil {P : Params} {es : List DictEntry} (h : DEs P [] [] es) : es = [] := by
 cases es <;> first | rfl | exact h.elim
theorem DEs.cons {P : Params} {k : Str} {ks : List Str} {t : Value -> Bool} {ts : List (Value -> Bool)} {es : List DictEntry} (h : DEs P (k :: ks) (t :: ts) es) : ∃ tk v r, es = ⟨PyData.keyHash P k, .str k tk, v⟩ :: r /\ t v = true /\ DEs P ks ts r := by
 cases es with
 | nil => exact h.elim
 | cons e r =>
  obtain ⟨⟨tk, v, rfl, ht⟩, h2⟩ := h
  exact ⟨tk, v, r, rfl, ht, h2⟩
def excT (K : Fr) (C : Addr) (tail : List Value -> Bool) (newId : String) : Bool := match K.lookup C with
 | some ⟨.type "type", _, .cls cd, sl⟩ => (match cd.mro, sl.toList with
  | .ref C' :: bm, [_, _, _, _, some (.builtin n), _] => decide (C' = C) && (decide (n = newId) && (!cd.hasDel && (cd.hasDict && tail bm)))
  | _, _ => false)
 | _ => false
theorem Zeh {K : Fr} {C : Addr} {tail : List Value -> Bool} {newId : String} (q : excT K C tail newId = true) : ∃ nm qn N bs bm sn sub ab col dd k0 k1 k2 k3 k5,
  K.lookup C = some (excClassObj nm qn C N bs bm true sn sub ab col dd k0 k1 k2 k3 k5 newId) /\ tail bm = true := by
 unfold excT at q
 split at q
 ·rename_i dd cd sl ho
  split at q
  ·rename_i C' bm k0 k1 k2 k3 n k5 hm hs
   obtain ⟨q1, q⟩ := He.ba q
   obtain ⟨q2, q⟩ := He.ba q
   obtain ⟨q3, q⟩ := He.ba q
   obtain ⟨q4, q5⟩ := He.ba q
   have q1 := of_decide_eq_true q1
   have q2 := of_decide_eq_true q2
   subst q1 q2
   obtain ⟨nm, bs, mro, ns, qn, hd, sn, sub, ab, col, del⟩ := cd
   dsimp only at hm q3 q4
   subst hm q4
   have hdel : del = false := by cases del <;> first | rfl | cases q3
   subst hdel
   have hsl : sl = #[k0, k1, k2, k3, some (.builtin n), k5] := by
    obtain ⟨l⟩ := sl
    simp only at hs
    rw [hs]
   subst hsl
   exact ⟨nm, qn, ns, bs, bm, sn, sub, ab, col, dd, k0, k1, k2, k3, k5, ho, q5⟩
  ·cases q
 ·cases q
def eqOB (a : Option Bool) (b : Bool) : Bool := match a with
 | some c => decide (c = b)
 | none => false
theorem Za {a : Option Bool} {b : Bool} (h : eqOB a b = true) : a = some b := by
 cases a with
 | none => cases h
 | some c => rw [of_decide_eq_true h]
def eqOV (a : Option Value) (b : Value) : Bool := decide (a = some b)
theorem ZU {a : Option Value} {b : Value} (h : eqOV a b = true) : a = some b := of_decide_eq_true h
theorem Zd2 {α : Type} {a : Option α} (h : a.isSome = true) : ∃ x, a = some x := Option.isSome_iff_exists.mp h
theorem exAt {K : Fr} {exs : List (Fr -> Bool)} (c : (exs.all fun f => f K) = true) (i : Nat) {f : Fr -> Bool} (h : exs[i]? = some f) : f K = true := List.all_eq_true.mp c f (List.mem_of_getElem? h)
section
variable {K : Fr} {x q : Str} {a : Arguments} {b : List Stmt} {s : Scope} {f : Addr} {fd : FuncData} {kws : List (Str × V)} {dvs : List V}
theorem ZcD (F : FunD K x q a b s [] [] f fd) : ∃ oc od kV dc pm an cd ct sl, K.lookup f = some ⟨oc, od, .func (PySem.W.fnOf x q a b s .none kV dc pm an cd ct), sl⟩ /\ PySem.W.codeIn K cd q = true /\ PySem.W.keepIn K (.ref f) = true := by
 obtain ⟨oc, od, dV, kV, doc, pm, an, cdv, ct, osl, rfl, lk, hcd, hd, _⟩ := F.ex
 rcases hd with ⟨_, rfl⟩ | ⟨h, _⟩
 ·exact ⟨_, _, _, _, _, _, _, _, _, lk, hcd, F.kp⟩
 ·exact absurd rfl h
end
def rfO (o : Obj) : List Addr := match o.data with
 | .seq its _ => its.toList.flatMap He.refV
 | .dict es _ => es.toList.flatMap fun e => He.refV e.val
 | .func fd => He.refV fd.code ++ (He.refV fd.defaults ++ He.refV fd.kwdefaults)
 | .cls cd => [cd.ns]
 | _ => []
def lay1 (g : Addr -> Option Obj) (as : List Addr) : List Addr := as.flatMap fun a => match g a with
 | some o => rfO o
 | none => []
def isCl (g : Addr -> Option Obj) (a : Addr) : Bool := match g a with
 | some ⟨_, _, .cls _, _⟩ => true
 | _ => false
/-- forced, then handed on -/
def frL {β : Type} : List Addr -> (List Addr -> β) -> β
 | [], k => k []
 | a :: l, k => HandSHeadRun.frNat a fun a => frL l fun l => k (a :: l)
def asQ (g : Addr -> Option Obj) : List Addr :=
 frL (lay1 g [mainGlobals]) fun l1 => frL (l1.filter (isCl g)) fun cs => frL (lay1 g cs) fun ns => frL (l1.filter fun a => !isCl g a) fun rest => frL (lay1 g (ns ++ rest)) fun l3 => frL (lay1 g l3) fun l4 => frL (lay1 g l4) fun l5 =>
  mainGlobals :: (cs ++ (ns ++ (rest ++ (l3 ++ (l4 ++ (l5 ++ [cStatics]))))))
section
variable {fa : List He.Fa} {fn : List He.DefD} {ts : List He.Tab} {tf : List He.Defn} {ex : Fr -> Bool}
def obsQ (fa : List He.Fa) (fn : List He.DefD) (ts : List He.Tab) (tf : List He.Defn) (ex : Fr -> Bool) (g : Addr -> Option Obj) : He.AlX := (He.obsT fa fn ts (He.frT g (asQ g)), ex (He.frT g (asQ g)) && He.tabsB g tf (He.frT g (asQ g)))
theorem ZkK {w : World} {h : Heap} (e : obsQ fa fn ts tf ex h.get? = He.valX fn ts w) : He.SaysX fa fn ts tf ex w h (He.frT h.get? (asQ h.get?)) := by
 have e1 : He.obsT fa fn ts (He.frT h.get? (asQ h.get?)) = He.valT fn ts w := congrArg (fun z : He.AlX => z.1) e
 have e2 : (ex (He.frT h.get? (asQ h.get?)) && He.tabsB h.get? tf (He.frT h.get? (asQ h.get?))) = true := congrArg (fun z : He.AlX => z.2) e
 obtain ⟨h1, h2⟩ := He.ba e2
 have key : ∀ p ∈ tf, PySem.W.codeHdIn (He.frT h.get? (asQ h.get?)) (He.cT (He.frT h.get? (asQ h.get?)) p).1 (He.cT (He.frT h.get? (asQ h.get?)) p).2 = true /\ ∃ o, h.get? (He.cT (He.frT h.get? (asQ h.get?)) p).2 = some o /\ He.emptyTab o = true := fun p hp => by
  obtain ⟨h3, h4⟩ := He.ba (List.all_eq_true.mp h2 p hp)
  refine ⟨h3, ?_⟩
  cases q : h.get? (He.cT (He.frT h.get? (asQ h.get?)) p).2 with
  | none =>
   rw [q] at h4
   cases h4
  | some o =>
   rw [q] at h4
   exact ⟨o, rfl, h4⟩
 exact ⟨e1, h1, fun p hp => (key p hp).1, fun p hp => by
  obtain ⟨_, o, q, z⟩ := key p hp
  exact He.frT_none q z, fun p hp => by
  obtain ⟨_, o, q, z⟩ := key p hp
  rw [q, He.emptyTab_eq z]⟩
def hookQ (fa : List He.Fa) (fn : List He.DefD) (ts : List He.Tab) (tf : List He.Defn) (ex : Fr -> Bool) : PySem.W.Hook where
 α := He.AlX
 obs := fun s => obsQ fa fn ts tf ex s.heap.get?
 val := fun w => He.valX fn ts w
 says := fun w h => ∃ K : PySem.W.Frag, K.In h /\ He.SaysX fa fn ts tf ex w h K
 of := fun _ _ e => ⟨_, He.frT_in, ZkK e⟩
 keeps := fun _ _ _ ⟨K, hK, c⟩ k => ⟨K, PySem.W.Frag.In.keeps hK k, ⟨c.t, c.more, c.hd, c.out, fun p hp => k _ _ (c.empty p hp)⟩⟩
theorem Zto {g : Addr -> Option Obj} {s : Shared} (h : ∀ a, g a = s.heap.get? a) : obsQ fa fn ts tf ex g = (hookQ fa fn ts tf ex).obs s := by
 have e : g = s.heap.get? := funext h
 rw [e] <;> rfl
end
end Mi
namespace Mi
open PySem PySem.Spec PyProof.Rows L2
abbrev rtTail : List Value := [.type "RuntimeError", .type "Exception", .type "BaseException", .type "object"]
abbrev keTail : List Value := [.type "KeyError", .type "LookupError", .type "Exception", .type "BaseException", .type "object"]
def topS (i : Nat) : Stmt := PySem.Challenge.pw_oneprotocol_k99_each_refusal_of_its_clas.main.body.getD i (.Pass ⟨0, 0, 0, 0⟩)
abbrev Zi : Stmt := inClass (topS 3) 0
abbrev Zbx : List Str := ["self", "place"]
abbrev Zn : Stmt := inClass (topS 4) 0
abbrev Zbv : List Str := ["self", "most"]
abbrev Zp : Stmt := inClass (topS 6) 0
abbrev Zb7 : List Str := ["self", "line"]
abbrev Zr : Stmt := inClass (topS 8) 0
abbrev Zct : List Str := ["self", "name"]
abbrev Zq : Stmt := inClass (topS 9) 0
abbrev ZcE : List Str := ["self", "name"]
abbrev Zt : Stmt := inClass (topS 10) 0
abbrev Zdi : List Str := ["self", "name"]
abbrev Zm : Stmt := inClass (topS 12) 0
abbrev Zbs : List Str := ["self", "asks"]
abbrev Zl : Stmt := inClass (topS 13) 0
abbrev Zbm : List Str := ["self", "name"]
abbrev ZK : Stmt := topS 15
abbrev ZgK : List Str := ["_law_script", "_law_k", "_law_cell", "_law_number", "_law_word"]
abbrev ZV : Stmt := topS 16
abbrev ZhA : List Str := ["_law_error", "_law_found"]
abbrev ZJ : Stmt := topS 17
abbrev ZgS : List Str := ["_law_error", "_law_found"]
abbrev ZG : Stmt := topS 18
abbrev ZfB : List Str := ["_law_one", "_law_other"]
abbrev ZhK : Stmt := topS 19
abbrev Ztv : List Str := ["_law_script", "_law_one", "_law_other", "_law_some", "_law_kinds_here", "_law_k", "_law_error", "_law_plain", "_law_j"]
abbrev hdR : W.OpenRow := W.OpenLaw.row PySem.Challenge.rw_oneprotocol_k99_each_refusal_of_its_clas
def ZyJ : List Str := ["__name__", "MakeError", "NoDeed", "NoPlace", "TooMany", "NoView", "NoText", "NoRow", "Taken", "NoWay", "Held", "Changed", "Faulted", "Unknown", "_law_value"]
def ZAL : List Str := ["_law_ones", "_law_kinds", "_law_fields"]
def nmsH : List Str := ZyJ ++ ZAL
abbrev qH : Program := W.view hdR.prog [19]
def ex_0 (K : Fr) : Bool := He.eqO (W.nsIn K mainGlobals "_law_fields") (some (some (.ref (He.fAd K ("_law_fields", none)))))
def ex_1 (K : Fr) : Bool := He.eqO (W.nsIn K mainGlobals "_law_kinds") (some (some (.ref (He.fAd K ("_law_kinds", none)))))
def ex_2 (K : Fr) : Bool := He.eqO (W.nsIn K mainGlobals "_law_ones") (some (some (.ref (He.fAd K ("_law_ones", none)))))
def ex_3 (K : Fr) : Bool := He.eqO (W.nsIn K mainGlobals "_law_value") (some (some (.ref (He.fAd K ("_law_value", none)))))
def ex_4 (K : Fr) : Bool := He.eqO (W.nsIn K mainGlobals "law") (some (some (.ref (He.fAd K ("law", none)))))
def ex_5 (K : Fr) : Bool := He.eqO (W.specialIn K (.builtin "object.__class__") "__get__") (some (some (.builtin "getset_descriptor.__get__")))
def ex_6 (K : Fr) : Bool := eqOB (W.takesIn K (.builtin "object.__class__")) true
def ex_7 (K : Fr) : Bool := He.eqO (W.nsIn K mainGlobals "Changed") (some (some (.ref (He.ga K "Changed"))))
def ex_8 (K : Fr) : Bool := eqOB (W.subIn K (.ref (He.ga K "Changed")) (.type "BaseException")) true
def ex_9 (K : Fr) : Bool := eqOV (W.typeIn K (.ref (He.ga K "Changed"))) (.type "type")
def ZuN (K : Fr) : Bool := W.keepIn K (.ref (He.ga K "Changed"))
def Zu5 (K : Fr) : Bool := He.eqO (W.findIn K (.ref (He.ga K "Changed")) "__getattribute__") (some (some (.builtin "BaseException.__getattribute__")))
def ZvD (K : Fr) : Bool := He.eqO (W.findIn K (.ref (He.ga K "Changed")) "__getattr__") (some none)
def Zvi (K : Fr) : Bool := W.hasDictIn K (He.ga K "Changed")
def ZvG (K : Fr) : Bool := He.eqO (W.findIn K (.ref (He.ga K "Changed")) "__class__") (some (some (.builtin "object.__class__")))
def Zvc (K : Fr) : Bool := eqOB (W.mroIn K (He.ga K "Changed") (.type "object")) true
def Zt1 (K : Fr) : Bool := W.excIn K (He.ga K "Changed") [.type "RuntimeError", .type "Exception", .type "BaseException", .type "object"] "RuntimeError.__new__"
def Zuj (K : Fr) : Bool := He.eqO (W.nsIn K mainGlobals "Faulted") (some (some (.ref (He.ga K "Faulted"))))
def ZuC (K : Fr) : Bool := eqOB (W.subIn K (.ref (He.ga K "Faulted")) (.type "BaseException")) true
def Zt5 (K : Fr) : Bool := eqOV (W.typeIn K (.ref (He.ga K "Faulted"))) (.type "type")
def Zvx (K : Fr) : Bool := W.keepIn K (.ref (He.ga K "Faulted"))
def ZuB (K : Fr) : Bool := He.eqO (W.findIn K (.ref (He.ga K "Faulted")) "__class__") (some (some (.builtin "object.__class__")))
def ZtO (K : Fr) : Bool := eqOB (W.mroIn K (He.ga K "Faulted") (.type "object")) true
def Zvl (K : Fr) : Bool := excT K (He.ga K "Faulted") (fun bm => decide (bm = rtTail)) "RuntimeError.__new__"
def ZvZ (K : Fr) : Bool := He.eqO (W.findIn K (.ref (He.ga K "Faulted")) "__getattribute__") (some (some (.builtin "BaseException.__getattribute__")))
def ZuS (K : Fr) : Bool := He.eqO (W.findIn K (.ref (He.ga K "Faulted")) "__getattr__") (some none)
def Zwd (K : Fr) : Bool := W.hasDictIn K (He.ga K "Faulted")
def ZuE (K : Fr) : Bool := He.eqO (W.findIn K (.ref (He.ga K "Faulted")) "__setattr__") (some (some (.builtin "object.__setattr__")))
def ZvI (K : Fr) : Bool := He.eqO (W.findIn K (.ref (He.ga K "Faulted")) "__init__") (some (some (.ref (He.fAd K ("Faulted", some "__init__")))))
def ZvN (K : Fr) : Bool := eqOV (W.typeIn K (.ref (He.fAd K ("Faulted", some "__init__")))) (.type "function")
def Zu3 (K : Fr) : Bool := He.eqO (W.findIn K (.ref (He.ga K "Faulted")) "asks") (some none)
def Zt3 (K : Fr) : Bool := He.eqO (W.nsIn K mainGlobals "Held") (some (some (.ref (He.ga K "Held"))))
def ZvX (K : Fr) : Bool := eqOB (W.subIn K (.ref (He.ga K "Held")) (.type "BaseException")) true
def Zub (K : Fr) : Bool := eqOV (W.typeIn K (.ref (He.ga K "Held"))) (.type "type")
def Zvm (K : Fr) : Bool := W.keepIn K (.ref (He.ga K "Held"))
def Zt2 (K : Fr) : Bool := He.eqO (W.findIn K (.ref (He.ga K "Held")) "__class__") (some (some (.builtin "object.__class__")))
def Zuw (K : Fr) : Bool := eqOB (W.mroIn K (He.ga K "Held") (.type "object")) true
def ZtS (K : Fr) : Bool := excT K (He.ga K "Held") PySem.HandSPX.refsVE "ValueError.__new__"
def Zuc (K : Fr) : Bool := He.eqO (W.findIn K (.ref (He.ga K "Held")) "__getattribute__") (some (some (.builtin "BaseException.__getattribute__")))
def ZuJ (K : Fr) : Bool := He.eqO (W.findIn K (.ref (He.ga K "Held")) "__getattr__") (some none)
def ZvU (K : Fr) : Bool := W.hasDictIn K (He.ga K "Held")
def Zvs (K : Fr) : Bool := He.eqO (W.findIn K (.ref (He.ga K "Held")) "__setattr__") (some (some (.builtin "object.__setattr__")))
def ZuY (K : Fr) : Bool := He.eqO (W.findIn K (.ref (He.ga K "Held")) "__init__") (some (some (.ref (He.fAd K ("Held", some "__init__")))))
def ZvQ (K : Fr) : Bool := eqOV (W.typeIn K (.ref (He.fAd K ("Held", some "__init__")))) (.type "function")
def Zvw (K : Fr) : Bool := He.eqO (W.findIn K (.ref (He.ga K "Held")) "name") (some none)
def ZvP (K : Fr) : Bool := He.eqO (W.nsIn K mainGlobals "MakeError") (some (some (.ref (He.ga K "MakeError"))))
def Zwb (K : Fr) : Bool := eqOB (W.subIn K (.ref (He.ga K "MakeError")) (.type "BaseException")) true
def ZvC (K : Fr) : Bool := eqOV (W.typeIn K (.ref (He.ga K "MakeError"))) (.type "type")
def Zun (K : Fr) : Bool := W.keepIn K (.ref (He.ga K "MakeError"))
def ZvY (K : Fr) : Bool := He.eqO (W.findIn K (.ref (He.ga K "MakeError")) "__getattribute__") (some (some (.builtin "BaseException.__getattribute__")))
def Zt9 (K : Fr) : Bool := He.eqO (W.findIn K (.ref (He.ga K "MakeError")) "__getattr__") (some none)
def Zu2 (K : Fr) : Bool := W.hasDictIn K (He.ga K "MakeError")
def Zv0 (K : Fr) : Bool := He.eqO (W.findIn K (.ref (He.ga K "MakeError")) "__class__") (some (some (.builtin "object.__class__")))
def ZtQ (K : Fr) : Bool := eqOB (W.mroIn K (He.ga K "MakeError") (.type "object")) true
def Zuf (K : Fr) : Bool := W.excIn K (He.ga K "MakeError") [.type "ValueError", .type "Exception", .type "BaseException", .type "object"] "ValueError.__new__"
def ZuI (K : Fr) : Bool := He.eqO (W.nsIn K mainGlobals "NoDeed") (some (some (.ref (He.ga K "NoDeed"))))
def Zut (K : Fr) : Bool := eqOB (W.subIn K (.ref (He.ga K "NoDeed")) (.type "BaseException")) true
def ZuQ (K : Fr) : Bool := eqOV (W.typeIn K (.ref (He.ga K "NoDeed"))) (.type "type")
def Zwe (K : Fr) : Bool := W.keepIn K (.ref (He.ga K "NoDeed"))
def Zwo (K : Fr) : Bool := He.eqO (W.findIn K (.ref (He.ga K "NoDeed")) "__getattribute__") (some (some (.builtin "BaseException.__getattribute__")))
def Zvz (K : Fr) : Bool := He.eqO (W.findIn K (.ref (He.ga K "NoDeed")) "__getattr__") (some none)
def Zv8 (K : Fr) : Bool := W.hasDictIn K (He.ga K "NoDeed")
def Zv1 (K : Fr) : Bool := He.eqO (W.findIn K (.ref (He.ga K "NoDeed")) "__class__") (some (some (.builtin "object.__class__")))
def Zwf (K : Fr) : Bool := eqOB (W.mroIn K (He.ga K "NoDeed") (.type "object")) true
def Zwh (K : Fr) : Bool := W.excIn K (He.ga K "NoDeed") [.type "ValueError", .type "Exception", .type "BaseException", .type "object"] "ValueError.__new__"
def Zuu (K : Fr) : Bool := He.eqO (W.nsIn K mainGlobals "NoPlace") (some (some (.ref (He.ga K "NoPlace"))))
def Zvj (K : Fr) : Bool := eqOB (W.subIn K (.ref (He.ga K "NoPlace")) (.type "BaseException")) true
def ZvV (K : Fr) : Bool := eqOV (W.typeIn K (.ref (He.ga K "NoPlace"))) (.type "type")
def Zva (K : Fr) : Bool := W.keepIn K (.ref (He.ga K "NoPlace"))
def Zvv (K : Fr) : Bool := He.eqO (W.findIn K (.ref (He.ga K "NoPlace")) "__class__") (some (some (.builtin "object.__class__")))
def ZtM (K : Fr) : Bool := eqOB (W.mroIn K (He.ga K "NoPlace") (.type "object")) true
def ZuP (K : Fr) : Bool := excT K (He.ga K "NoPlace") PySem.HandSPX.refsVE "ValueError.__new__"
def Zuv (K : Fr) : Bool := He.eqO (W.findIn K (.ref (He.ga K "NoPlace")) "__getattribute__") (some (some (.builtin "BaseException.__getattribute__")))
def Zwm (K : Fr) : Bool := He.eqO (W.findIn K (.ref (He.ga K "NoPlace")) "__getattr__") (some none)
def Zvg (K : Fr) : Bool := W.hasDictIn K (He.ga K "NoPlace")
def Zue (K : Fr) : Bool := He.eqO (W.findIn K (.ref (He.ga K "NoPlace")) "__setattr__") (some (some (.builtin "object.__setattr__")))
def Zuz (K : Fr) : Bool := He.eqO (W.findIn K (.ref (He.ga K "NoPlace")) "__init__") (some (some (.ref (He.fAd K ("NoPlace", some "__init__")))))
def Zwi (K : Fr) : Bool := eqOV (W.typeIn K (.ref (He.fAd K ("NoPlace", some "__init__")))) (.type "function")
def Zvf (K : Fr) : Bool := He.eqO (W.findIn K (.ref (He.ga K "NoPlace")) "place") (some none)
def Zu8 (K : Fr) : Bool := He.eqO (W.nsIn K mainGlobals "NoRow") (some (some (.ref (He.ga K "NoRow"))))
def Zwk (K : Fr) : Bool := eqOB (W.subIn K (.ref (He.ga K "NoRow")) (.type "BaseException")) true
def ZtT (K : Fr) : Bool := eqOV (W.typeIn K (.ref (He.ga K "NoRow"))) (.type "type")
def Zvp (K : Fr) : Bool := W.keepIn K (.ref (He.ga K "NoRow"))
def Zv2 (K : Fr) : Bool := He.eqO (W.findIn K (.ref (He.ga K "NoRow")) "__getattribute__") (some (some (.builtin "BaseException.__getattribute__")))
def ZvO (K : Fr) : Bool := He.eqO (W.findIn K (.ref (He.ga K "NoRow")) "__getattr__") (some none)
def Zu0 (K : Fr) : Bool := W.hasDictIn K (He.ga K "NoRow")
def Zuy (K : Fr) : Bool := He.eqO (W.findIn K (.ref (He.ga K "NoRow")) "__class__") (some (some (.builtin "object.__class__")))
def ZtJ (K : Fr) : Bool := eqOB (W.mroIn K (He.ga K "NoRow") (.type "object")) true
def Zur (K : Fr) : Bool := W.excIn K (He.ga K "NoRow") [.type "ValueError", .type "Exception", .type "BaseException", .type "object"] "ValueError.__new__"
def Zvk (K : Fr) : Bool := He.eqO (W.nsIn K mainGlobals "NoText") (some (some (.ref (He.ga K "NoText"))))
def ZuW (K : Fr) : Bool := eqOB (W.subIn K (.ref (He.ga K "NoText")) (.type "BaseException")) true
def ZvE (K : Fr) : Bool := eqOV (W.typeIn K (.ref (He.ga K "NoText"))) (.type "type")
def ZuX (K : Fr) : Bool := W.keepIn K (.ref (He.ga K "NoText"))
def ZvK (K : Fr) : Bool := He.eqO (W.findIn K (.ref (He.ga K "NoText")) "__class__") (some (some (.builtin "object.__class__")))
def ZtV (K : Fr) : Bool := eqOB (W.mroIn K (He.ga K "NoText") (.type "object")) true
def Zvq (K : Fr) : Bool := excT K (He.ga K "NoText") PySem.HandSPX.refsVE "ValueError.__new__"
def ZvJ (K : Fr) : Bool := He.eqO (W.findIn K (.ref (He.ga K "NoText")) "__getattribute__") (some (some (.builtin "BaseException.__getattribute__")))
def ZuF (K : Fr) : Bool := He.eqO (W.findIn K (.ref (He.ga K "NoText")) "__getattr__") (some none)
def Zuk (K : Fr) : Bool := W.hasDictIn K (He.ga K "NoText")
def ZtW (K : Fr) : Bool := He.eqO (W.findIn K (.ref (He.ga K "NoText")) "__setattr__") (some (some (.builtin "object.__setattr__")))
def Znb (K : Fr) : Bool := He.eqO (W.findIn K (.ref (He.ga K "NoText")) "__init__") (some (some (.ref (He.fAd K ("NoText", some "__init__")))))
def Zsv (K : Fr) : Bool := eqOV (W.typeIn K (.ref (He.fAd K ("NoText", some "__init__")))) (.type "function")
def ZqG (K : Fr) : Bool := He.eqO (W.findIn K (.ref (He.ga K "NoText")) "line") (some none)
def Zl0 (K : Fr) : Bool := He.eqO (W.nsIn K mainGlobals "NoView") (some (some (.ref (He.ga K "NoView"))))
def ZoL (K : Fr) : Bool := eqOB (W.subIn K (.ref (He.ga K "NoView")) (.type "BaseException")) true
def ZnX (K : Fr) : Bool := eqOV (W.typeIn K (.ref (He.ga K "NoView"))) (.type "type")
def Zra (K : Fr) : Bool := W.keepIn K (.ref (He.ga K "NoView"))
def ZqY (K : Fr) : Bool := He.eqO (W.findIn K (.ref (He.ga K "NoView")) "__getattribute__") (some (some (.builtin "BaseException.__getattribute__")))
def Zrp (K : Fr) : Bool := He.eqO (W.findIn K (.ref (He.ga K "NoView")) "__getattr__") (some none)
def ZnW (K : Fr) : Bool := W.hasDictIn K (He.ga K "NoView")
def Zpp (K : Fr) : Bool := He.eqO (W.findIn K (.ref (He.ga K "NoView")) "__class__") (some (some (.builtin "object.__class__")))
def ZpP (K : Fr) : Bool := eqOB (W.mroIn K (He.ga K "NoView") (.type "object")) true
def ZrN (K : Fr) : Bool := W.excIn K (He.ga K "NoView") [.type "ValueError", .type "Exception", .type "BaseException", .type "object"] "ValueError.__new__"
def Zqg (K : Fr) : Bool := He.eqO (W.nsIn K mainGlobals "NoWay") (some (some (.ref (He.ga K "NoWay"))))
def Zpc (K : Fr) : Bool := eqOB (W.subIn K (.ref (He.ga K "NoWay")) (.type "BaseException")) true
def ZrV (K : Fr) : Bool := eqOV (W.typeIn K (.ref (He.ga K "NoWay"))) (.type "type")
def Zrz (K : Fr) : Bool := W.keepIn K (.ref (He.ga K "NoWay"))
def Zox (K : Fr) : Bool := He.eqO (W.findIn K (.ref (He.ga K "NoWay")) "__class__") (some (some (.builtin "object.__class__")))
def Zmn (K : Fr) : Bool := eqOB (W.mroIn K (He.ga K "NoWay") (.type "object")) true
def Zpx (K : Fr) : Bool := excT K (He.ga K "NoWay") PySem.HandSPX.refsVE "ValueError.__new__"
def ZmW (K : Fr) : Bool := He.eqO (W.findIn K (.ref (He.ga K "NoWay")) "__getattribute__") (some (some (.builtin "BaseException.__getattribute__")))
def ZqD (K : Fr) : Bool := He.eqO (W.findIn K (.ref (He.ga K "NoWay")) "__getattr__") (some none)
def ZnT (K : Fr) : Bool := W.hasDictIn K (He.ga K "NoWay")
def Zps (K : Fr) : Bool := He.eqO (W.findIn K (.ref (He.ga K "NoWay")) "__setattr__") (some (some (.builtin "object.__setattr__")))
def Zpz (K : Fr) : Bool := He.eqO (W.findIn K (.ref (He.ga K "NoWay")) "__init__") (some (some (.ref (He.fAd K ("NoWay", some "__init__")))))
def ZqJ (K : Fr) : Bool := eqOV (W.typeIn K (.ref (He.fAd K ("NoWay", some "__init__")))) (.type "function")
def Zro (K : Fr) : Bool := He.eqO (W.findIn K (.ref (He.ga K "NoWay")) "name") (some none)
def ZoF (K : Fr) : Bool := He.eqO (W.nsIn K mainGlobals "Taken") (some (some (.ref (He.ga K "Taken"))))
def ZoI (K : Fr) : Bool := eqOB (W.subIn K (.ref (He.ga K "Taken")) (.type "BaseException")) true
def Zp8 (K : Fr) : Bool := eqOV (W.typeIn K (.ref (He.ga K "Taken"))) (.type "type")
def ZqZ (K : Fr) : Bool := W.keepIn K (.ref (He.ga K "Taken"))
def Zqz (K : Fr) : Bool := He.eqO (W.findIn K (.ref (He.ga K "Taken")) "__class__") (some (some (.builtin "object.__class__")))
def ZmQ (K : Fr) : Bool := eqOB (W.mroIn K (He.ga K "Taken") (.type "object")) true
def ZnR (K : Fr) : Bool := excT K (He.ga K "Taken") PySem.HandSPX.refsVE "ValueError.__new__"
def Zsf (K : Fr) : Bool := He.eqO (W.findIn K (.ref (He.ga K "Taken")) "__getattribute__") (some (some (.builtin "BaseException.__getattribute__")))
def Znj (K : Fr) : Bool := He.eqO (W.findIn K (.ref (He.ga K "Taken")) "__getattr__") (some none)
def Zoa (K : Fr) : Bool := W.hasDictIn K (He.ga K "Taken")
def ZmT (K : Fr) : Bool := He.eqO (W.findIn K (.ref (He.ga K "Taken")) "__setattr__") (some (some (.builtin "object.__setattr__")))
def ZpY (K : Fr) : Bool := He.eqO (W.findIn K (.ref (He.ga K "Taken")) "__init__") (some (some (.ref (He.fAd K ("Taken", some "__init__")))))
def ZmO (K : Fr) : Bool := eqOV (W.typeIn K (.ref (He.fAd K ("Taken", some "__init__")))) (.type "function")
def Znf (K : Fr) : Bool := He.eqO (W.findIn K (.ref (He.ga K "Taken")) "name") (some none)
def Zpr (K : Fr) : Bool := He.eqO (W.nsIn K mainGlobals "TooMany") (some (some (.ref (He.ga K "TooMany"))))
def Zsx (K : Fr) : Bool := eqOB (W.subIn K (.ref (He.ga K "TooMany")) (.type "BaseException")) true
def Zno (K : Fr) : Bool := eqOV (W.typeIn K (.ref (He.ga K "TooMany"))) (.type "type")
def Zn2 (K : Fr) : Bool := W.keepIn K (.ref (He.ga K "TooMany"))
def Zp2 (K : Fr) : Bool := He.eqO (W.findIn K (.ref (He.ga K "TooMany")) "__class__") (some (some (.builtin "object.__class__")))
def ZoS (K : Fr) : Bool := eqOB (W.mroIn K (He.ga K "TooMany") (.type "object")) true
def Zqo (K : Fr) : Bool := excT K (He.ga K "TooMany") PySem.HandSPX.refsVE "ValueError.__new__"
def ZrO (K : Fr) : Bool := He.eqO (W.findIn K (.ref (He.ga K "TooMany")) "__getattribute__") (some (some (.builtin "BaseException.__getattribute__")))
def Zof (K : Fr) : Bool := He.eqO (W.findIn K (.ref (He.ga K "TooMany")) "__getattr__") (some none)
def ZsB (K : Fr) : Bool := W.hasDictIn K (He.ga K "TooMany")
def ZmE (K : Fr) : Bool := He.eqO (W.findIn K (.ref (He.ga K "TooMany")) "__setattr__") (some (some (.builtin "object.__setattr__")))
def Zsg (K : Fr) : Bool := He.eqO (W.findIn K (.ref (He.ga K "TooMany")) "__init__") (some (some (.ref (He.fAd K ("TooMany", some "__init__")))))
def ZmA (K : Fr) : Bool := eqOV (W.typeIn K (.ref (He.fAd K ("TooMany", some "__init__")))) (.type "function")
def Zp5 (K : Fr) : Bool := He.eqO (W.findIn K (.ref (He.ga K "TooMany")) "most") (some none)
def Zl5 (K : Fr) : Bool := He.eqO (W.nsIn K mainGlobals "Unknown") (some (some (.ref (He.ga K "Unknown"))))
def Zmi (K : Fr) : Bool := eqOB (W.subIn K (.ref (He.ga K "Unknown")) (.type "BaseException")) true
def Zoi (K : Fr) : Bool := eqOV (W.typeIn K (.ref (He.ga K "Unknown"))) (.type "type")
def ZoE (K : Fr) : Bool := W.keepIn K (.ref (He.ga K "Unknown"))
def ZsF (K : Fr) : Bool := He.eqO (W.findIn K (.ref (He.ga K "Unknown")) "__class__") (some (some (.builtin "object.__class__")))
def Zmx (K : Fr) : Bool := eqOB (W.mroIn K (He.ga K "Unknown") (.type "object")) true
def ZoG (K : Fr) : Bool := excT K (He.ga K "Unknown") (fun bm => decide (bm = keTail)) "LookupError.__new__"
def ZmB (K : Fr) : Bool := He.eqO (W.findIn K (.ref (He.ga K "Unknown")) "__getattribute__") (some (some (.builtin "BaseException.__getattribute__")))
def Zml (K : Fr) : Bool := He.eqO (W.findIn K (.ref (He.ga K "Unknown")) "__getattr__") (some none)
def ZrE (K : Fr) : Bool := W.hasDictIn K (He.ga K "Unknown")
def Zr8 (K : Fr) : Bool := He.eqO (W.findIn K (.ref (He.ga K "Unknown")) "__setattr__") (some (some (.builtin "object.__setattr__")))
def Zn7 (K : Fr) : Bool := He.eqO (W.findIn K (.ref (He.ga K "Unknown")) "__init__") (some (some (.ref (He.fAd K ("Unknown", some "__init__")))))
def Zrf (K : Fr) : Bool := eqOV (W.typeIn K (.ref (He.fAd K ("Unknown", some "__init__")))) (.type "function")
def Zog (K : Fr) : Bool := He.eqO (W.findIn K (.ref (He.ga K "Unknown")) "name") (some none)
def ZrT (K : Fr) : Bool := eqOB (W.kitOne K (.ref (He.ga K "Changed")) (.ref (He.ga K "Changed"))) true
def Zo7 (K : Fr) : Bool := eqOB (W.kitOne K (.ref (He.ga K "Changed")) (.ref (He.ga K "Faulted"))) false
def ZlZ (K : Fr) : Bool := eqOB (W.kitOne K (.ref (He.ga K "Changed")) (.ref (He.ga K "Held"))) false
def Zl7 (K : Fr) : Bool := eqOB (W.kitOne K (.ref (He.ga K "Changed")) (.type "KeyError")) false
def ZqE (K : Fr) : Bool := eqOB (W.kitOne K (.ref (He.ga K "Changed")) (.type "LookupError")) false
def ZmV (K : Fr) : Bool := eqOB (W.kitOne K (.ref (He.ga K "Changed")) (.ref (He.ga K "MakeError"))) false
def Zlq (K : Fr) : Bool := eqOB (W.kitOne K (.ref (He.ga K "Changed")) (.ref (He.ga K "NoDeed"))) false
def Zsb (K : Fr) : Bool := eqOB (W.kitOne K (.ref (He.ga K "Changed")) (.ref (He.ga K "NoPlace"))) false
def Zon (K : Fr) : Bool := eqOB (W.kitOne K (.ref (He.ga K "Changed")) (.ref (He.ga K "NoRow"))) false
def Znd (K : Fr) : Bool := eqOB (W.kitOne K (.ref (He.ga K "Changed")) (.ref (He.ga K "NoText"))) false
def Zq6 (K : Fr) : Bool := eqOB (W.kitOne K (.ref (He.ga K "Changed")) (.ref (He.ga K "NoView"))) false
def ZqC (K : Fr) : Bool := eqOB (W.kitOne K (.ref (He.ga K "Changed")) (.ref (He.ga K "NoWay"))) false
def Zrd (K : Fr) : Bool := eqOB (W.kitOne K (.ref (He.ga K "Changed")) (.type "RuntimeError")) true
def Zm5 (K : Fr) : Bool := eqOB (W.kitOne K (.ref (He.ga K "Changed")) (.ref (He.ga K "Taken"))) false
def Zsu (K : Fr) : Bool := eqOB (W.kitOne K (.ref (He.ga K "Changed")) (.ref (He.ga K "TooMany"))) false
def Zov (K : Fr) : Bool := eqOB (W.kitOne K (.ref (He.ga K "Changed")) (.ref (He.ga K "Unknown"))) false
def Zsr (K : Fr) : Bool := eqOB (W.kitOne K (.ref (He.ga K "Changed")) (.type "ValueError")) false
def Zok (K : Fr) : Bool := eqOB (W.kitOne K (.ref (He.ga K "Faulted")) (.ref (He.ga K "Changed"))) false
def Zpt (K : Fr) : Bool := eqOB (W.kitOne K (.ref (He.ga K "Faulted")) (.ref (He.ga K "Faulted"))) true
def Zou (K : Fr) : Bool := eqOB (W.kitOne K (.ref (He.ga K "Faulted")) (.ref (He.ga K "Held"))) false
def Zst (K : Fr) : Bool := eqOB (W.kitOne K (.ref (He.ga K "Faulted")) (.type "KeyError")) false
def ZlO (K : Fr) : Bool := eqOB (W.kitOne K (.ref (He.ga K "Faulted")) (.type "LookupError")) false
def ZoC (K : Fr) : Bool := eqOB (W.kitOne K (.ref (He.ga K "Faulted")) (.ref (He.ga K "MakeError"))) false
def ZnO (K : Fr) : Bool := eqOB (W.kitOne K (.ref (He.ga K "Faulted")) (.ref (He.ga K "NoDeed"))) false
def Zq9 (K : Fr) : Bool := eqOB (W.kitOne K (.ref (He.ga K "Faulted")) (.ref (He.ga K "NoPlace"))) false
def ZqO (K : Fr) : Bool := eqOB (W.kitOne K (.ref (He.ga K "Faulted")) (.ref (He.ga K "NoRow"))) false
def Zq2 (K : Fr) : Bool := eqOB (W.kitOne K (.ref (He.ga K "Faulted")) (.ref (He.ga K "NoText"))) false
def Zpl (K : Fr) : Bool := eqOB (W.kitOne K (.ref (He.ga K "Faulted")) (.ref (He.ga K "NoView"))) false
def Zrn (K : Fr) : Bool := eqOB (W.kitOne K (.ref (He.ga K "Faulted")) (.ref (He.ga K "NoWay"))) false
def Zri (K : Fr) : Bool := eqOB (W.kitOne K (.ref (He.ga K "Faulted")) (.type "RuntimeError")) true
def Zrj (K : Fr) : Bool := eqOB (W.kitOne K (.ref (He.ga K "Faulted")) (.ref (He.ga K "Taken"))) false
def Znk (K : Fr) : Bool := eqOB (W.kitOne K (.ref (He.ga K "Faulted")) (.ref (He.ga K "TooMany"))) false
def Zrq (K : Fr) : Bool := eqOB (W.kitOne K (.ref (He.ga K "Faulted")) (.ref (He.ga K "Unknown"))) false
def Zoh (K : Fr) : Bool := eqOB (W.kitOne K (.ref (He.ga K "Faulted")) (.type "ValueError")) false
def Zq3 (K : Fr) : Bool := eqOB (W.kitOne K (.ref (He.ga K "Held")) (.ref (He.ga K "Changed"))) false
def ZmL (K : Fr) : Bool := eqOB (W.kitOne K (.ref (He.ga K "Held")) (.ref (He.ga K "Faulted"))) false
def ZlA (K : Fr) : Bool := eqOB (W.kitOne K (.ref (He.ga K "Held")) (.ref (He.ga K "Held"))) true
def Zo4 (K : Fr) : Bool := eqOB (W.kitOne K (.ref (He.ga K "Held")) (.type "KeyError")) false
def ZoA (K : Fr) : Bool := eqOB (W.kitOne K (.ref (He.ga K "Held")) (.type "LookupError")) false
def Zpo (K : Fr) : Bool := eqOB (W.kitOne K (.ref (He.ga K "Held")) (.ref (He.ga K "MakeError"))) true
def ZqA (K : Fr) : Bool := eqOB (W.kitOne K (.ref (He.ga K "Held")) (.ref (He.ga K "NoDeed"))) false
def Zme (K : Fr) : Bool := eqOB (W.kitOne K (.ref (He.ga K "Held")) (.ref (He.ga K "NoPlace"))) false
def Zpu (K : Fr) : Bool := eqOB (W.kitOne K (.ref (He.ga K "Held")) (.ref (He.ga K "NoRow"))) false
def ZpK (K : Fr) : Bool := eqOB (W.kitOne K (.ref (He.ga K "Held")) (.ref (He.ga K "NoText"))) false
def ZlP (K : Fr) : Bool := eqOB (W.kitOne K (.ref (He.ga K "Held")) (.ref (He.ga K "NoView"))) false
def Zo5 (K : Fr) : Bool := eqOB (W.kitOne K (.ref (He.ga K "Held")) (.ref (He.ga K "NoWay"))) false
def ZqS (K : Fr) : Bool := eqOB (W.kitOne K (.ref (He.ga K "Held")) (.type "RuntimeError")) false
def ZqV (K : Fr) : Bool := eqOB (W.kitOne K (.ref (He.ga K "Held")) (.ref (He.ga K "Taken"))) false
def Zmo (K : Fr) : Bool := eqOB (W.kitOne K (.ref (He.ga K "Held")) (.ref (He.ga K "TooMany"))) false
def Zom (K : Fr) : Bool := eqOB (W.kitOne K (.ref (He.ga K "Held")) (.ref (He.ga K "Unknown"))) false
def ZrG (K : Fr) : Bool := eqOB (W.kitOne K (.ref (He.ga K "Held")) (.type "ValueError")) true
def Zr3 (K : Fr) : Bool := eqOB (W.kitOne K (.ref (He.ga K "MakeError")) (.ref (He.ga K "Changed"))) false
def Zrk (K : Fr) : Bool := eqOB (W.kitOne K (.ref (He.ga K "MakeError")) (.ref (He.ga K "Faulted"))) false
def ZoJ (K : Fr) : Bool := eqOB (W.kitOne K (.ref (He.ga K "MakeError")) (.ref (He.ga K "Held"))) false
def Zrg (K : Fr) : Bool := eqOB (W.kitOne K (.ref (He.ga K "MakeError")) (.type "KeyError")) false
def Zmy (K : Fr) : Bool := eqOB (W.kitOne K (.ref (He.ga K "MakeError")) (.type "LookupError")) false
def ZpO (K : Fr) : Bool := eqOB (W.kitOne K (.ref (He.ga K "MakeError")) (.ref (He.ga K "MakeError"))) true
def Zqf (K : Fr) : Bool := eqOB (W.kitOne K (.ref (He.ga K "MakeError")) (.ref (He.ga K "NoDeed"))) false
def ZlM (K : Fr) : Bool := eqOB (W.kitOne K (.ref (He.ga K "MakeError")) (.ref (He.ga K "NoPlace"))) false
def ZlH (K : Fr) : Bool := eqOB (W.kitOne K (.ref (He.ga K "MakeError")) (.ref (He.ga K "NoRow"))) false
def ZlR (K : Fr) : Bool := eqOB (W.kitOne K (.ref (He.ga K "MakeError")) (.ref (He.ga K "NoText"))) false
def ZqR (K : Fr) : Bool := eqOB (W.kitOne K (.ref (He.ga K "MakeError")) (.ref (He.ga K "NoView"))) false
def ZnB (K : Fr) : Bool := eqOB (W.kitOne K (.ref (He.ga K "MakeError")) (.ref (He.ga K "NoWay"))) false
def Zmj (K : Fr) : Bool := eqOB (W.kitOne K (.ref (He.ga K "MakeError")) (.type "RuntimeError")) false
def Zq0 (K : Fr) : Bool := eqOB (W.kitOne K (.ref (He.ga K "MakeError")) (.ref (He.ga K "Taken"))) false
def Zpw (K : Fr) : Bool := eqOB (W.kitOne K (.ref (He.ga K "MakeError")) (.ref (He.ga K "TooMany"))) false
def ZmY (K : Fr) : Bool := eqOB (W.kitOne K (.ref (He.ga K "MakeError")) (.ref (He.ga K "Unknown"))) false
def ZpX (K : Fr) : Bool := eqOB (W.kitOne K (.ref (He.ga K "MakeError")) (.type "ValueError")) true
def Zo9 (K : Fr) : Bool := eqOB (W.kitOne K (.ref (He.ga K "NoDeed")) (.ref (He.ga K "Changed"))) false
def Zrc (K : Fr) : Bool := eqOB (W.kitOne K (.ref (He.ga K "NoDeed")) (.ref (He.ga K "Faulted"))) false
def ZqL (K : Fr) : Bool := eqOB (W.kitOne K (.ref (He.ga K "NoDeed")) (.ref (He.ga K "Held"))) false
def ZrI (K : Fr) : Bool := eqOB (W.kitOne K (.ref (He.ga K "NoDeed")) (.type "KeyError")) false
def ZmX (K : Fr) : Bool := eqOB (W.kitOne K (.ref (He.ga K "NoDeed")) (.type "LookupError")) false
def ZlV (K : Fr) : Bool := eqOB (W.kitOne K (.ref (He.ga K "NoDeed")) (.ref (He.ga K "MakeError"))) true
def Znq (K : Fr) : Bool := eqOB (W.kitOne K (.ref (He.ga K "NoDeed")) (.ref (He.ga K "NoDeed"))) true
def ZnY (K : Fr) : Bool := eqOB (W.kitOne K (.ref (He.ga K "NoDeed")) (.ref (He.ga K "NoPlace"))) false
def ZqX (K : Fr) : Bool := eqOB (W.kitOne K (.ref (He.ga K "NoDeed")) (.ref (He.ga K "NoRow"))) false
def ZrH (K : Fr) : Bool := eqOB (W.kitOne K (.ref (He.ga K "NoDeed")) (.ref (He.ga K "NoText"))) false
def ZmC (K : Fr) : Bool := eqOB (W.kitOne K (.ref (He.ga K "NoDeed")) (.ref (He.ga K "NoView"))) false
def ZqB (K : Fr) : Bool := eqOB (W.kitOne K (.ref (He.ga K "NoDeed")) (.ref (He.ga K "NoWay"))) false
def Zm8 (K : Fr) : Bool := eqOB (W.kitOne K (.ref (He.ga K "NoDeed")) (.type "RuntimeError")) false
def Znn (K : Fr) : Bool := eqOB (W.kitOne K (.ref (He.ga K "NoDeed")) (.ref (He.ga K "Taken"))) false
def ZpW (K : Fr) : Bool := eqOB (W.kitOne K (.ref (He.ga K "NoDeed")) (.ref (He.ga K "TooMany"))) false
def Zlx (K : Fr) : Bool := eqOB (W.kitOne K (.ref (He.ga K "NoDeed")) (.ref (He.ga K "Unknown"))) false
def Zlt (K : Fr) : Bool := eqOB (W.kitOne K (.ref (He.ga K "NoDeed")) (.type "ValueError")) true
def Zq8 (K : Fr) : Bool := eqOB (W.kitOne K (.ref (He.ga K "NoPlace")) (.ref (He.ga K "Changed"))) false
def ZrU (K : Fr) : Bool := eqOB (W.kitOne K (.ref (He.ga K "NoPlace")) (.ref (He.ga K "Faulted"))) false
def ZmJ (K : Fr) : Bool := eqOB (W.kitOne K (.ref (He.ga K "NoPlace")) (.ref (He.ga K "Held"))) false
def ZmN (K : Fr) : Bool := eqOB (W.kitOne K (.ref (He.ga K "NoPlace")) (.type "KeyError")) false
def ZmH (K : Fr) : Bool := eqOB (W.kitOne K (.ref (He.ga K "NoPlace")) (.type "LookupError")) false
def Znm (K : Fr) : Bool := eqOB (W.kitOne K (.ref (He.ga K "NoPlace")) (.ref (He.ga K "MakeError"))) true
def ZpA (K : Fr) : Bool := eqOB (W.kitOne K (.ref (He.ga K "NoPlace")) (.ref (He.ga K "NoDeed"))) false
def Zol (K : Fr) : Bool := eqOB (W.kitOne K (.ref (He.ga K "NoPlace")) (.ref (He.ga K "NoPlace"))) true
def Zo0 (K : Fr) : Bool := eqOB (W.kitOne K (.ref (He.ga K "NoPlace")) (.ref (He.ga K "NoRow"))) false
def Zr2 (K : Fr) : Bool := eqOB (W.kitOne K (.ref (He.ga K "NoPlace")) (.ref (He.ga K "NoText"))) false
def ZrJ (K : Fr) : Bool := eqOB (W.kitOne K (.ref (He.ga K "NoPlace")) (.ref (He.ga K "NoView"))) false
def Zqn (K : Fr) : Bool := eqOB (W.kitOne K (.ref (He.ga K "NoPlace")) (.ref (He.ga K "NoWay"))) false
def ZpB (K : Fr) : Bool := eqOB (W.kitOne K (.ref (He.ga K "NoPlace")) (.type "RuntimeError")) false
def Zmu (K : Fr) : Bool := eqOB (W.kitOne K (.ref (He.ga K "NoPlace")) (.ref (He.ga K "Taken"))) false
def Zsd (K : Fr) : Bool := eqOB (W.kitOne K (.ref (He.ga K "NoPlace")) (.ref (He.ga K "TooMany"))) false
def Zre (K : Fr) : Bool := eqOB (W.kitOne K (.ref (He.ga K "NoPlace")) (.ref (He.ga K "Unknown"))) false
def ZqH (K : Fr) : Bool := eqOB (W.kitOne K (.ref (He.ga K "NoPlace")) (.type "ValueError")) true
def Znh (K : Fr) : Bool := eqOB (W.kitOne K (.ref (He.ga K "NoRow")) (.ref (He.ga K "Changed"))) false
def Zq5 (K : Fr) : Bool := eqOB (W.kitOne K (.ref (He.ga K "NoRow")) (.ref (He.ga K "Faulted"))) false
def ZpQ (K : Fr) : Bool := eqOB (W.kitOne K (.ref (He.ga K "NoRow")) (.ref (He.ga K "Held"))) false
def ZrM (K : Fr) : Bool := eqOB (W.kitOne K (.ref (He.ga K "NoRow")) (.type "KeyError")) false
def Zry (K : Fr) : Bool := eqOB (W.kitOne K (.ref (He.ga K "NoRow")) (.type "LookupError")) false
def Zqx (K : Fr) : Bool := eqOB (W.kitOne K (.ref (He.ga K "NoRow")) (.ref (He.ga K "MakeError"))) true
def ZqW (K : Fr) : Bool := eqOB (W.kitOne K (.ref (He.ga K "NoRow")) (.ref (He.ga K "NoDeed"))) false
def ZrR (K : Fr) : Bool := eqOB (W.kitOne K (.ref (He.ga K "NoRow")) (.ref (He.ga K "NoPlace"))) false
def Zoj (K : Fr) : Bool := eqOB (W.kitOne K (.ref (He.ga K "NoRow")) (.ref (He.ga K "NoRow"))) true
def Zsp (K : Fr) : Bool := eqOB (W.kitOne K (.ref (He.ga K "NoRow")) (.ref (He.ga K "NoText"))) false
def Zpy (K : Fr) : Bool := eqOB (W.kitOne K (.ref (He.ga K "NoRow")) (.ref (He.ga K "NoView"))) false
def ZlJ (K : Fr) : Bool := eqOB (W.kitOne K (.ref (He.ga K "NoRow")) (.ref (He.ga K "NoWay"))) false
def Zsq (K : Fr) : Bool := eqOB (W.kitOne K (.ref (He.ga K "NoRow")) (.type "RuntimeError")) false
def Zoo (K : Fr) : Bool := eqOB (W.kitOne K (.ref (He.ga K "NoRow")) (.ref (He.ga K "Taken"))) false
def Zl1 (K : Fr) : Bool := eqOB (W.kitOne K (.ref (He.ga K "NoRow")) (.ref (He.ga K "TooMany"))) false
def ZlB (K : Fr) : Bool := eqOB (W.kitOne K (.ref (He.ga K "NoRow")) (.ref (He.ga K "Unknown"))) false
def Zqq (K : Fr) : Bool := eqOB (W.kitOne K (.ref (He.ga K "NoRow")) (.type "ValueError")) true
def Zmb (K : Fr) : Bool := eqOB (W.kitOne K (.ref (He.ga K "NoText")) (.ref (He.ga K "Changed"))) false
def ZrZ (K : Fr) : Bool := eqOB (W.kitOne K (.ref (He.ga K "NoText")) (.ref (He.ga K "Faulted"))) false
def Zsn (K : Fr) : Bool := eqOB (W.kitOne K (.ref (He.ga K "NoText")) (.ref (He.ga K "Held"))) false
def ZqQ (K : Fr) : Bool := eqOB (W.kitOne K (.ref (He.ga K "NoText")) (.type "KeyError")) false
def ZoW (K : Fr) : Bool := eqOB (W.kitOne K (.ref (He.ga K "NoText")) (.type "LookupError")) false
def Zmz (K : Fr) : Bool := eqOB (W.kitOne K (.ref (He.ga K "NoText")) (.ref (He.ga K "MakeError"))) true
def ZmR (K : Fr) : Bool := eqOB (W.kitOne K (.ref (He.ga K "NoText")) (.ref (He.ga K "NoDeed"))) false
def Zqs (K : Fr) : Bool := eqOB (W.kitOne K (.ref (He.ga K "NoText")) (.ref (He.ga K "NoPlace"))) false
def Zpg (K : Fr) : Bool := eqOB (W.kitOne K (.ref (He.ga K "NoText")) (.ref (He.ga K "NoRow"))) false
def ZlQ (K : Fr) : Bool := eqOB (W.kitOne K (.ref (He.ga K "NoText")) (.ref (He.ga K "NoText"))) true
def ZnV (K : Fr) : Bool := eqOB (W.kitOne K (.ref (He.ga K "NoText")) (.ref (He.ga K "NoView"))) false
def Zsw (K : Fr) : Bool := eqOB (W.kitOne K (.ref (He.ga K "NoText")) (.ref (He.ga K "NoWay"))) false
def ZnS (K : Fr) : Bool := eqOB (W.kitOne K (.ref (He.ga K "NoText")) (.type "RuntimeError")) false
def Zqw (K : Fr) : Bool := eqOB (W.kitOne K (.ref (He.ga K "NoText")) (.ref (He.ga K "Taken"))) false
def Zms (K : Fr) : Bool := eqOB (W.kitOne K (.ref (He.ga K "NoText")) (.ref (He.ga K "TooMany"))) false
def Zni (K : Fr) : Bool := eqOB (W.kitOne K (.ref (He.ga K "NoText")) (.ref (He.ga K "Unknown"))) false
def Zp6 (K : Fr) : Bool := eqOB (W.kitOne K (.ref (He.ga K "NoText")) (.type "ValueError")) true
def Zpk (K : Fr) : Bool := eqOB (W.kitOne K (.ref (He.ga K "NoView")) (.ref (He.ga K "Changed"))) false
def ZlE (K : Fr) : Bool := eqOB (W.kitOne K (.ref (He.ga K "NoView")) (.ref (He.ga K "Faulted"))) false
def Zn3 (K : Fr) : Bool := eqOB (W.kitOne K (.ref (He.ga K "NoView")) (.ref (He.ga K "Held"))) false
def ZsA (K : Fr) : Bool := eqOB (W.kitOne K (.ref (He.ga K "NoView")) (.type "KeyError")) false
def ZpI (K : Fr) : Bool := eqOB (W.kitOne K (.ref (He.ga K "NoView")) (.type "LookupError")) false
def ZpE (K : Fr) : Bool := eqOB (W.kitOne K (.ref (He.ga K "NoView")) (.ref (He.ga K "MakeError"))) true
def Zo1 (K : Fr) : Bool := eqOB (W.kitOne K (.ref (He.ga K "NoView")) (.ref (He.ga K "NoDeed"))) false
def Zr9 (K : Fr) : Bool := eqOB (W.kitOne K (.ref (He.ga K "NoView")) (.ref (He.ga K "NoPlace"))) false
def Zpv (K : Fr) : Bool := eqOB (W.kitOne K (.ref (He.ga K "NoView")) (.ref (He.ga K "NoRow"))) false
def Zmm (K : Fr) : Bool := eqOB (W.kitOne K (.ref (He.ga K "NoView")) (.ref (He.ga K "NoText"))) false
def ZlI (K : Fr) : Bool := eqOB (W.kitOne K (.ref (He.ga K "NoView")) (.ref (He.ga K "NoView"))) true
def ZmF (K : Fr) : Bool := eqOB (W.kitOne K (.ref (He.ga K "NoView")) (.ref (He.ga K "NoWay"))) false
def Znu (K : Fr) : Bool := eqOB (W.kitOne K (.ref (He.ga K "NoView")) (.type "RuntimeError")) false
def ZpN (K : Fr) : Bool := eqOB (W.kitOne K (.ref (He.ga K "NoView")) (.ref (He.ga K "Taken"))) false
def Zoq (K : Fr) : Bool := eqOB (W.kitOne K (.ref (He.ga K "NoView")) (.ref (He.ga K "TooMany"))) false
def Zny (K : Fr) : Bool := eqOB (W.kitOne K (.ref (He.ga K "NoView")) (.ref (He.ga K "Unknown"))) false
def ZoR (K : Fr) : Bool := eqOB (W.kitOne K (.ref (He.ga K "NoView")) (.type "ValueError")) true
def ZnM (K : Fr) : Bool := eqOB (W.kitOne K (.ref (He.ga K "NoWay")) (.ref (He.ga K "Changed"))) false
def ZnG (K : Fr) : Bool := eqOB (W.kitOne K (.ref (He.ga K "NoWay")) (.ref (He.ga K "Faulted"))) false
def ZmD (K : Fr) : Bool := eqOB (W.kitOne K (.ref (He.ga K "NoWay")) (.ref (He.ga K "Held"))) false
def Zp0 (K : Fr) : Bool := eqOB (W.kitOne K (.ref (He.ga K "NoWay")) (.type "KeyError")) false
def Zqt (K : Fr) : Bool := eqOB (W.kitOne K (.ref (He.ga K "NoWay")) (.type "LookupError")) false
def ZrD (K : Fr) : Bool := eqOB (W.kitOne K (.ref (He.ga K "NoWay")) (.ref (He.ga K "MakeError"))) true
def ZrQ (K : Fr) : Bool := eqOB (W.kitOne K (.ref (He.ga K "NoWay")) (.ref (He.ga K "NoDeed"))) false
def Zns (K : Fr) : Bool := eqOB (W.kitOne K (.ref (He.ga K "NoWay")) (.ref (He.ga K "NoPlace"))) false
def ZsC (K : Fr) : Bool := eqOB (W.kitOne K (.ref (He.ga K "NoWay")) (.ref (He.ga K "NoRow"))) false
def Zsk (K : Fr) : Bool := eqOB (W.kitOne K (.ref (He.ga K "NoWay")) (.ref (He.ga K "NoText"))) false
def ZrK (K : Fr) : Bool := eqOB (W.kitOne K (.ref (He.ga K "NoWay")) (.ref (He.ga K "NoView"))) false
def Zsc (K : Fr) : Bool := eqOB (W.kitOne K (.ref (He.ga K "NoWay")) (.ref (He.ga K "NoWay"))) true
def Zqc (K : Fr) : Bool := eqOB (W.kitOne K (.ref (He.ga K "NoWay")) (.type "RuntimeError")) false
def Zpn (K : Fr) : Bool := eqOB (W.kitOne K (.ref (He.ga K "NoWay")) (.ref (He.ga K "Taken"))) false
def ZoO (K : Fr) : Bool := eqOB (W.kitOne K (.ref (He.ga K "NoWay")) (.ref (He.ga K "TooMany"))) false
def Zp4 (K : Fr) : Bool := eqOB (W.kitOne K (.ref (He.ga K "NoWay")) (.ref (He.ga K "Unknown"))) false
def Zp1 (K : Fr) : Bool := eqOB (W.kitOne K (.ref (He.ga K "NoWay")) (.type "ValueError")) true
def Znr (K : Fr) : Bool := eqOB (W.kitOne K (.ref (He.ga K "Taken")) (.ref (He.ga K "Changed"))) false
def Zr4 (K : Fr) : Bool := eqOB (W.kitOne K (.ref (He.ga K "Taken")) (.ref (He.ga K "Faulted"))) false
def Zop (K : Fr) : Bool := eqOB (W.kitOne K (.ref (He.ga K "Taken")) (.ref (He.ga K "Held"))) false
def ZpC (K : Fr) : Bool := eqOB (W.kitOne K (.ref (He.ga K "Taken")) (.type "KeyError")) false
def Zl9 (K : Fr) : Bool := eqOB (W.kitOne K (.ref (He.ga K "Taken")) (.type "LookupError")) false
def ZlF (K : Fr) : Bool := eqOB (W.kitOne K (.ref (He.ga K "Taken")) (.ref (He.ga K "MakeError"))) true
def Zm4 (K : Fr) : Bool := eqOB (W.kitOne K (.ref (He.ga K "Taken")) (.ref (He.ga K "NoDeed"))) false
def ZqU (K : Fr) : Bool := eqOB (W.kitOne K (.ref (He.ga K "Taken")) (.ref (He.ga K "NoPlace"))) false
def Zr1 (K : Fr) : Bool := eqOB (W.kitOne K (.ref (He.ga K "Taken")) (.ref (He.ga K "NoRow"))) false
def Zoy (K : Fr) : Bool := eqOB (W.kitOne K (.ref (He.ga K "Taken")) (.ref (He.ga K "NoText"))) false
def Zor (K : Fr) : Bool := eqOB (W.kitOne K (.ref (He.ga K "Taken")) (.ref (He.ga K "NoView"))) false
def Znz (K : Fr) : Bool := eqOB (W.kitOne K (.ref (He.ga K "Taken")) (.ref (He.ga K "NoWay"))) false
def Zsz (K : Fr) : Bool := eqOB (W.kitOne K (.ref (He.ga K "Taken")) (.type "RuntimeError")) false
def ZnF (K : Fr) : Bool := eqOB (W.kitOne K (.ref (He.ga K "Taken")) (.ref (He.ga K "Taken"))) true
def ZnE (K : Fr) : Bool := eqOB (W.kitOne K (.ref (He.ga K "Taken")) (.ref (He.ga K "TooMany"))) false
def Zng (K : Fr) : Bool := eqOB (W.kitOne K (.ref (He.ga K "Taken")) (.ref (He.ga K "Unknown"))) false
def Zn5 (K : Fr) : Bool := eqOB (W.kitOne K (.ref (He.ga K "Taken")) (.type "ValueError")) true
def Zmw (K : Fr) : Bool := eqOB (W.kitOne K (.ref (He.ga K "TooMany")) (.ref (He.ga K "Changed"))) false
def ZrL (K : Fr) : Bool := eqOB (W.kitOne K (.ref (He.ga K "TooMany")) (.ref (He.ga K "Faulted"))) false
def Zqk (K : Fr) : Bool := eqOB (W.kitOne K (.ref (He.ga K "TooMany")) (.ref (He.ga K "Held"))) false
def Zqj (K : Fr) : Bool := eqOB (W.kitOne K (.ref (He.ga K "TooMany")) (.type "KeyError")) false
def ZrF (K : Fr) : Bool := eqOB (W.kitOne K (.ref (He.ga K "TooMany")) (.type "LookupError")) false
def ZqP (K : Fr) : Bool := eqOB (W.kitOne K (.ref (He.ga K "TooMany")) (.ref (He.ga K "MakeError"))) true
def ZlN (K : Fr) : Bool := eqOB (W.kitOne K (.ref (He.ga K "TooMany")) (.ref (He.ga K "NoDeed"))) false
def Zpj (K : Fr) : Bool := eqOB (W.kitOne K (.ref (He.ga K "TooMany")) (.ref (He.ga K "NoPlace"))) false
def ZnA (K : Fr) : Bool := eqOB (W.kitOne K (.ref (He.ga K "TooMany")) (.ref (He.ga K "NoRow"))) false
def Zrr (K : Fr) : Bool := eqOB (W.kitOne K (.ref (He.ga K "TooMany")) (.ref (He.ga K "NoText"))) false
def ZrS (K : Fr) : Bool := eqOB (W.kitOne K (.ref (He.ga K "TooMany")) (.ref (He.ga K "NoView"))) false
def Zsi (K : Fr) : Bool := eqOB (W.kitOne K (.ref (He.ga K "TooMany")) (.ref (He.ga K "NoWay"))) false
def ZoB (K : Fr) : Bool := eqOB (W.kitOne K (.ref (He.ga K "TooMany")) (.type "RuntimeError")) false
def ZmP (K : Fr) : Bool := eqOB (W.kitOne K (.ref (He.ga K "TooMany")) (.ref (He.ga K "Taken"))) false
def Zrw (K : Fr) : Bool := eqOB (W.kitOne K (.ref (He.ga K "TooMany")) (.ref (He.ga K "TooMany"))) true
def Zse (K : Fr) : Bool := eqOB (W.kitOne K (.ref (He.ga K "TooMany")) (.ref (He.ga K "Unknown"))) false
def Zpd (K : Fr) : Bool := eqOB (W.kitOne K (.ref (He.ga K "TooMany")) (.type "ValueError")) true
def Zm9 (K : Fr) : Bool := eqOB (W.kitOne K (.ref (He.ga K "Unknown")) (.ref (He.ga K "Changed"))) false
def Zrb (K : Fr) : Bool := eqOB (W.kitOne K (.ref (He.ga K "Unknown")) (.ref (He.ga K "Faulted"))) false
def ZpL (K : Fr) : Bool := eqOB (W.kitOne K (.ref (He.ga K "Unknown")) (.ref (He.ga K "Held"))) false
def ZoY (K : Fr) : Bool := eqOB (W.kitOne K (.ref (He.ga K "Unknown")) (.type "KeyError")) true
def Zmh (K : Fr) : Bool := eqOB (W.kitOne K (.ref (He.ga K "Unknown")) (.type "LookupError")) true
def Zo6 (K : Fr) : Bool := eqOB (W.kitOne K (.ref (He.ga K "Unknown")) (.ref (He.ga K "MakeError"))) false
def ZpH (K : Fr) : Bool := eqOB (W.kitOne K (.ref (He.ga K "Unknown")) (.ref (He.ga K "NoDeed"))) false
def Znv (K : Fr) : Bool := eqOB (W.kitOne K (.ref (He.ga K "Unknown")) (.ref (He.ga K "NoPlace"))) false
def ZqM (K : Fr) : Bool := eqOB (W.kitOne K (.ref (He.ga K "Unknown")) (.ref (He.ga K "NoRow"))) false
def ZrX (K : Fr) : Bool := eqOB (W.kitOne K (.ref (He.ga K "Unknown")) (.ref (He.ga K "NoText"))) false
def Zm0 (K : Fr) : Bool := eqOB (W.kitOne K (.ref (He.ga K "Unknown")) (.ref (He.ga K "NoView"))) false
def ZoM (K : Fr) : Bool := eqOB (W.kitOne K (.ref (He.ga K "Unknown")) (.ref (He.ga K "NoWay"))) false
def ZnN (K : Fr) : Bool := eqOB (W.kitOne K (.ref (He.ga K "Unknown")) (.type "RuntimeError")) false
def Zsm (K : Fr) : Bool := eqOB (W.kitOne K (.ref (He.ga K "Unknown")) (.ref (He.ga K "Taken"))) false
def Zow (K : Fr) : Bool := eqOB (W.kitOne K (.ref (He.ga K "Unknown")) (.ref (He.ga K "TooMany"))) false
def Znc (K : Fr) : Bool := eqOB (W.kitOne K (.ref (He.ga K "Unknown")) (.ref (He.ga K "Unknown"))) true
def Zq4 (K : Fr) : Bool := eqOB (W.kitOne K (.ref (He.ga K "Unknown")) (.type "ValueError")) false
def Zr5 (K : Fr) : Bool := eqOB (W.subIn K (.ref (He.ga K "Changed")) (.ref (He.ga K "Faulted"))) false
def Zru (K : Fr) : Bool := eqOB (W.subIn K (.ref (He.ga K "Faulted")) (.ref (He.ga K "Faulted"))) true
def ZlT (K : Fr) : Bool := eqOB (W.subIn K (.ref (He.ga K "Held")) (.ref (He.ga K "Faulted"))) false
def ZoQ (K : Fr) : Bool := eqOB (W.subIn K (.ref (He.ga K "MakeError")) (.ref (He.ga K "Faulted"))) false
def Zlv (K : Fr) : Bool := eqOB (W.subIn K (.ref (He.ga K "NoDeed")) (.ref (He.ga K "Faulted"))) false
def Zn9 (K : Fr) : Bool := eqOB (W.subIn K (.ref (He.ga K "NoPlace")) (.ref (He.ga K "Faulted"))) false
def ZlL (K : Fr) : Bool := eqOB (W.subIn K (.ref (He.ga K "NoRow")) (.ref (He.ga K "Faulted"))) false
def Zsy (K : Fr) : Bool := eqOB (W.subIn K (.ref (He.ga K "NoText")) (.ref (He.ga K "Faulted"))) false
def ZqT (K : Fr) : Bool := eqOB (W.subIn K (.ref (He.ga K "NoView")) (.ref (He.ga K "Faulted"))) false
def ZmM (K : Fr) : Bool := eqOB (W.subIn K (.ref (He.ga K "NoWay")) (.ref (He.ga K "Faulted"))) false
def ZnJ (K : Fr) : Bool := eqOB (W.subIn K (.ref (He.ga K "Taken")) (.ref (He.ga K "Faulted"))) false
def ZlK (K : Fr) : Bool := eqOB (W.subIn K (.ref (He.ga K "TooMany")) (.ref (He.ga K "Faulted"))) false
def ZnK (K : Fr) : Bool := eqOB (W.subIn K (.ref (He.ga K "Unknown")) (.ref (He.ga K "Faulted"))) false
def ZnC (K : Fr) : Bool := (W.clsIn K (He.ga K "Faulted")).isSome
def Zmk (K : Fr) : Bool := eqOB (W.subIn K (.ref (He.ga K "Changed")) (.ref (He.ga K "Held"))) false
def Zo8 (K : Fr) : Bool := eqOB (W.subIn K (.ref (He.ga K "Faulted")) (.ref (He.ga K "Held"))) false
def ZlY (K : Fr) : Bool := eqOB (W.subIn K (.ref (He.ga K "Held")) (.ref (He.ga K "Held"))) true
def Zqp (K : Fr) : Bool := eqOB (W.subIn K (.ref (He.ga K "MakeError")) (.ref (He.ga K "Held"))) false
def Zrx (K : Fr) : Bool := eqOB (W.subIn K (.ref (He.ga K "NoDeed")) (.ref (He.ga K "Held"))) false
def Zl8 (K : Fr) : Bool := eqOB (W.subIn K (.ref (He.ga K "NoPlace")) (.ref (He.ga K "Held"))) false
def Znx (K : Fr) : Bool := eqOB (W.subIn K (.ref (He.ga K "NoRow")) (.ref (He.ga K "Held"))) false
def Zrt (K : Fr) : Bool := eqOB (W.subIn K (.ref (He.ga K "NoText")) (.ref (He.ga K "Held"))) false
def ZoZ (K : Fr) : Bool := eqOB (W.subIn K (.ref (He.ga K "NoView")) (.ref (He.ga K "Held"))) false
def ZpJ (K : Fr) : Bool := eqOB (W.subIn K (.ref (He.ga K "NoWay")) (.ref (He.ga K "Held"))) false
def Zpf (K : Fr) : Bool := eqOB (W.subIn K (.ref (He.ga K "Taken")) (.ref (He.ga K "Held"))) false
def Zm3 (K : Fr) : Bool := eqOB (W.subIn K (.ref (He.ga K "TooMany")) (.ref (He.ga K "Held"))) false
def Zoc (K : Fr) : Bool := eqOB (W.subIn K (.ref (He.ga K "Unknown")) (.ref (He.ga K "Held"))) false
def Zpq (K : Fr) : Bool := (W.clsIn K (He.ga K "Held")).isSome
def ZnL (K : Fr) : Bool := eqOB (W.subIn K (.ref (He.ga K "Changed")) (.ref (He.ga K "NoPlace"))) false
def ZpU (K : Fr) : Bool := eqOB (W.subIn K (.ref (He.ga K "Faulted")) (.ref (He.ga K "NoPlace"))) false
def Zp3 (K : Fr) : Bool := eqOB (W.subIn K (.ref (He.ga K "Held")) (.ref (He.ga K "NoPlace"))) false
def Zr7 (K : Fr) : Bool := eqOB (W.subIn K (.ref (He.ga K "MakeError")) (.ref (He.ga K "NoPlace"))) false
def ZrB (K : Fr) : Bool := eqOB (W.subIn K (.ref (He.ga K "NoDeed")) (.ref (He.ga K "NoPlace"))) false
def ZlS (K : Fr) : Bool := eqOB (W.subIn K (.ref (He.ga K "NoPlace")) (.ref (He.ga K "NoPlace"))) true
def ZmG (K : Fr) : Bool := eqOB (W.subIn K (.ref (He.ga K "NoRow")) (.ref (He.ga K "NoPlace"))) false
def ZlC (K : Fr) : Bool := eqOB (W.subIn K (.ref (He.ga K "NoText")) (.ref (He.ga K "NoPlace"))) false
def Zmf (K : Fr) : Bool := eqOB (W.subIn K (.ref (He.ga K "NoView")) (.ref (He.ga K "NoPlace"))) false
def Zmd (K : Fr) : Bool := eqOB (W.subIn K (.ref (He.ga K "NoWay")) (.ref (He.ga K "NoPlace"))) false
def ZoH (K : Fr) : Bool := eqOB (W.subIn K (.ref (He.ga K "Taken")) (.ref (He.ga K "NoPlace"))) false
def Zrl (K : Fr) : Bool := eqOB (W.subIn K (.ref (He.ga K "TooMany")) (.ref (He.ga K "NoPlace"))) false
def Zn0 (K : Fr) : Bool := eqOB (W.subIn K (.ref (He.ga K "Unknown")) (.ref (He.ga K "NoPlace"))) false
def Zqr (K : Fr) : Bool := (W.clsIn K (He.ga K "NoPlace")).isSome
def Zoe (K : Fr) : Bool := eqOB (W.subIn K (.ref (He.ga K "Changed")) (.ref (He.ga K "NoText"))) false
def ZnU (K : Fr) : Bool := eqOB (W.subIn K (.ref (He.ga K "Faulted")) (.ref (He.ga K "NoText"))) false
def Zmr (K : Fr) : Bool := eqOB (W.subIn K (.ref (He.ga K "Held")) (.ref (He.ga K "NoText"))) false
def Zoz (K : Fr) : Bool := eqOB (W.subIn K (.ref (He.ga K "MakeError")) (.ref (He.ga K "NoText"))) false
def ZlU (K : Fr) : Bool := eqOB (W.subIn K (.ref (He.ga K "NoDeed")) (.ref (He.ga K "NoText"))) false
def Zmc (K : Fr) : Bool := eqOB (W.subIn K (.ref (He.ga K "NoPlace")) (.ref (He.ga K "NoText"))) false
def Zsh (K : Fr) : Bool := eqOB (W.subIn K (.ref (He.ga K "NoRow")) (.ref (He.ga K "NoText"))) false
def Zm7 (K : Fr) : Bool := eqOB (W.subIn K (.ref (He.ga K "NoText")) (.ref (He.ga K "NoText"))) true
def ZpV (K : Fr) : Bool := eqOB (W.subIn K (.ref (He.ga K "NoView")) (.ref (He.ga K "NoText"))) false
def Zlu (K : Fr) : Bool := eqOB (W.subIn K (.ref (He.ga K "NoWay")) (.ref (He.ga K "NoText"))) false
def Zn6 (K : Fr) : Bool := eqOB (W.subIn K (.ref (He.ga K "Taken")) (.ref (He.ga K "NoText"))) false
def ZrW (K : Fr) : Bool := eqOB (W.subIn K (.ref (He.ga K "TooMany")) (.ref (He.ga K "NoText"))) false
def Zm2 (K : Fr) : Bool := eqOB (W.subIn K (.ref (He.ga K "Unknown")) (.ref (He.ga K "NoText"))) false
def Zpm (K : Fr) : Bool := (W.clsIn K (He.ga K "NoText")).isSome
def Zmv (K : Fr) : Bool := eqOB (W.subIn K (.ref (He.ga K "Changed")) (.ref (He.ga K "NoWay"))) false
def Zl6 (K : Fr) : Bool := eqOB (W.subIn K (.ref (He.ga K "Faulted")) (.ref (He.ga K "NoWay"))) false
def Zsa (K : Fr) : Bool := eqOB (W.subIn K (.ref (He.ga K "Held")) (.ref (He.ga K "NoWay"))) false
def ZoV (K : Fr) : Bool := eqOB (W.subIn K (.ref (He.ga K "MakeError")) (.ref (He.ga K "NoWay"))) false
def Zna (K : Fr) : Bool := eqOB (W.subIn K (.ref (He.ga K "NoDeed")) (.ref (He.ga K "NoWay"))) false
def ZpF (K : Fr) : Bool := eqOB (W.subIn K (.ref (He.ga K "NoPlace")) (.ref (He.ga K "NoWay"))) false
def Zn8 (K : Fr) : Bool := eqOB (W.subIn K (.ref (He.ga K "NoRow")) (.ref (He.ga K "NoWay"))) false
def Zqh (K : Fr) : Bool := eqOB (W.subIn K (.ref (He.ga K "NoText")) (.ref (He.ga K "NoWay"))) false
def Zso (K : Fr) : Bool := eqOB (W.subIn K (.ref (He.ga K "NoView")) (.ref (He.ga K "NoWay"))) false
def Zqe (K : Fr) : Bool := eqOB (W.subIn K (.ref (He.ga K "NoWay")) (.ref (He.ga K "NoWay"))) true
def Zob (K : Fr) : Bool := eqOB (W.subIn K (.ref (He.ga K "Taken")) (.ref (He.ga K "NoWay"))) false
def Zqi (K : Fr) : Bool := eqOB (W.subIn K (.ref (He.ga K "TooMany")) (.ref (He.ga K "NoWay"))) false
def ZoP (K : Fr) : Bool := eqOB (W.subIn K (.ref (He.ga K "Unknown")) (.ref (He.ga K "NoWay"))) false
def ZmZ (K : Fr) : Bool := (W.clsIn K (He.ga K "NoWay")).isSome
def ZnD (K : Fr) : Bool := eqOB (W.subIn K (.ref (He.ga K "Changed")) (.ref (He.ga K "Taken"))) false
def ZrA (K : Fr) : Bool := eqOB (W.subIn K (.ref (He.ga K "Faulted")) (.ref (He.ga K "Taken"))) false
def Zn1 (K : Fr) : Bool := eqOB (W.subIn K (.ref (He.ga K "Held")) (.ref (He.ga K "Taken"))) false
def Zmp (K : Fr) : Bool := eqOB (W.subIn K (.ref (He.ga K "MakeError")) (.ref (He.ga K "Taken"))) false
def ZnQ (K : Fr) : Bool := eqOB (W.subIn K (.ref (He.ga K "NoDeed")) (.ref (He.ga K "Taken"))) false
def ZpM (K : Fr) : Bool := eqOB (W.subIn K (.ref (He.ga K "NoPlace")) (.ref (He.ga K "Taken"))) false
def ZlX (K : Fr) : Bool := eqOB (W.subIn K (.ref (He.ga K "NoRow")) (.ref (He.ga K "Taken"))) false
def Zod (K : Fr) : Bool := eqOB (W.subIn K (.ref (He.ga K "NoText")) (.ref (He.ga K "Taken"))) false
def Zl2 (K : Fr) : Bool := eqOB (W.subIn K (.ref (He.ga K "NoView")) (.ref (He.ga K "Taken"))) false
def Zrs (K : Fr) : Bool := eqOB (W.subIn K (.ref (He.ga K "NoWay")) (.ref (He.ga K "Taken"))) false
def Zpb (K : Fr) : Bool := eqOB (W.subIn K (.ref (He.ga K "Taken")) (.ref (He.ga K "Taken"))) true
def Zr6 (K : Fr) : Bool := eqOB (W.subIn K (.ref (He.ga K "TooMany")) (.ref (He.ga K "Taken"))) false
def Zm6 (K : Fr) : Bool := eqOB (W.subIn K (.ref (He.ga K "Unknown")) (.ref (He.ga K "Taken"))) false
def ZnI (K : Fr) : Bool := (W.clsIn K (He.ga K "Taken")).isSome
def ZqK (K : Fr) : Bool := eqOB (W.subIn K (.ref (He.ga K "Changed")) (.ref (He.ga K "TooMany"))) false
def Zo2 (K : Fr) : Bool := eqOB (W.subIn K (.ref (He.ga K "Faulted")) (.ref (He.ga K "TooMany"))) false
def Zo3 (K : Fr) : Bool := eqOB (W.subIn K (.ref (He.ga K "Held")) (.ref (He.ga K "TooMany"))) false
def Zql (K : Fr) : Bool := eqOB (W.subIn K (.ref (He.ga K "MakeError")) (.ref (He.ga K "TooMany"))) false
def ZoT (K : Fr) : Bool := eqOB (W.subIn K (.ref (He.ga K "NoDeed")) (.ref (He.ga K "TooMany"))) false
def ZrC (K : Fr) : Bool := eqOB (W.subIn K (.ref (He.ga K "NoPlace")) (.ref (He.ga K "TooMany"))) false
def Zmt (K : Fr) : Bool := eqOB (W.subIn K (.ref (He.ga K "NoRow")) (.ref (He.ga K "TooMany"))) false
def Zmq (K : Fr) : Bool := eqOB (W.subIn K (.ref (He.ga K "NoText")) (.ref (He.ga K "TooMany"))) false
def Zl4 (K : Fr) : Bool := eqOB (W.subIn K (.ref (He.ga K "NoView")) (.ref (He.ga K "TooMany"))) false
def ZsE (K : Fr) : Bool := eqOB (W.subIn K (.ref (He.ga K "NoWay")) (.ref (He.ga K "TooMany"))) false
def ZoU (K : Fr) : Bool := eqOB (W.subIn K (.ref (He.ga K "Taken")) (.ref (He.ga K "TooMany"))) false
def Znw (K : Fr) : Bool := eqOB (W.subIn K (.ref (He.ga K "TooMany")) (.ref (He.ga K "TooMany"))) true
def Zne (K : Fr) : Bool := eqOB (W.subIn K (.ref (He.ga K "Unknown")) (.ref (He.ga K "TooMany"))) false
def ZnH (K : Fr) : Bool := (W.clsIn K (He.ga K "TooMany")).isSome
def Zl3 (K : Fr) : Bool := eqOB (W.subIn K (.ref (He.ga K "Changed")) (.ref (He.ga K "Unknown"))) false
def Zrh (K : Fr) : Bool := eqOB (W.subIn K (.ref (He.ga K "Faulted")) (.ref (He.ga K "Unknown"))) false
def Zqm (K : Fr) : Bool := eqOB (W.subIn K (.ref (He.ga K "Held")) (.ref (He.ga K "Unknown"))) false
def Zly (K : Fr) : Bool := eqOB (W.subIn K (.ref (He.ga K "MakeError")) (.ref (He.ga K "Unknown"))) false
def ZmI (K : Fr) : Bool := eqOB (W.subIn K (.ref (He.ga K "NoDeed")) (.ref (He.ga K "Unknown"))) false
def Zma (K : Fr) : Bool := eqOB (W.subIn K (.ref (He.ga K "NoPlace")) (.ref (He.ga K "Unknown"))) false
def Zpi (K : Fr) : Bool := eqOB (W.subIn K (.ref (He.ga K "NoRow")) (.ref (He.ga K "Unknown"))) false
def ZpT (K : Fr) : Bool := eqOB (W.subIn K (.ref (He.ga K "NoText")) (.ref (He.ga K "Unknown"))) false
def ZlW (K : Fr) : Bool := eqOB (W.subIn K (.ref (He.ga K "NoView")) (.ref (He.ga K "Unknown"))) false
def Zmg (K : Fr) : Bool := eqOB (W.subIn K (.ref (He.ga K "NoWay")) (.ref (He.ga K "Unknown"))) false
def ZmK (K : Fr) : Bool := eqOB (W.subIn K (.ref (He.ga K "Taken")) (.ref (He.ga K "Unknown"))) false
def Zqd (K : Fr) : Bool := eqOB (W.subIn K (.ref (He.ga K "TooMany")) (.ref (He.ga K "Unknown"))) false
def Zlz (K : Fr) : Bool := eqOB (W.subIn K (.ref (He.ga K "Unknown")) (.ref (He.ga K "Unknown"))) true
def ZoK (K : Fr) : Bool := (W.clsIn K (He.ga K "Unknown")).isSome
def Zqb (K : Fr) : Bool := W.isFn K (.ref (He.fAd K ("NoPlace", some "__init__")))
def Zp7 (K : Fr) : Bool := W.isFn K (.ref (He.fAd K ("TooMany", some "__init__")))
def Zm1 (K : Fr) : Bool := W.isFn K (.ref (He.fAd K ("NoText", some "__init__")))
def Zrv (K : Fr) : Bool := W.isFn K (.ref (He.fAd K ("Taken", some "__init__")))
def Zpa (K : Fr) : Bool := W.isFn K (.ref (He.fAd K ("NoWay", some "__init__")))
def Zls (K : Fr) : Bool := W.isFn K (.ref (He.fAd K ("Held", some "__init__")))
def Zqa (K : Fr) : Bool := W.isFn K (.ref (He.fAd K ("Faulted", some "__init__")))
def ZqF (K : Fr) : Bool := W.isFn K (.ref (He.fAd K ("Unknown", some "__init__")))
def ZqN (K : Fr) : Bool := He.eqO (W.nsIn K mainGlobals "KeyError") (some none)
def Zp9 (K : Fr) : Bool := He.eqO (W.nsIn K mainGlobals "LookupError") (some none)
def ZpD (K : Fr) : Bool := He.eqO (W.nsIn K mainGlobals "RuntimeError") (some none)
def Znt (K : Fr) : Bool := He.eqO (W.nsIn K mainGlobals "ValueError") (some none)
def Zrm (K : Fr) : Bool := He.eqO (W.nsIn K mainGlobals "any") (some none)
def ZoD (K : Fr) : Bool := He.eqO (W.nsIn K mainGlobals "enumerate") (some none)
def ZnP (K : Fr) : Bool := He.eqO (W.nsIn K mainGlobals "isinstance") (some none)
def ZpR (K : Fr) : Bool := He.eqO (W.nsIn K mainGlobals "len") (some none)
def ZmU (K : Fr) : Bool := He.eqO (W.nsIn K mainGlobals "range") (some none)
def exsH : List (Fr -> Bool) := [ex_0, ex_1, ex_2, ex_3, ex_4, ex_5, ex_6, ex_7, ex_8, ex_9, ZuN, Zu5, ZvD, Zvi, ZvG, Zvc, Zt1, Zuj, ZuC, Zt5, Zvx, ZuB, ZtO, Zvl, ZvZ, ZuS, Zwd, ZuE, ZvI, ZvN, Zu3, Zt3, ZvX, Zub, Zvm, Zt2, Zuw, ZtS, Zuc, ZuJ, ZvU, Zvs, ZuY, ZvQ, Zvw, ZvP, Zwb, ZvC, Zun, ZvY, Zt9, Zu2, Zv0, ZtQ, Zuf, ZuI, Zut, ZuQ, Zwe, Zwo, Zvz, Zv8, Zv1, Zwf, Zwh, Zuu, Zvj, ZvV, Zva, Zvv, ZtM, ZuP, Zuv, Zwm, Zvg, Zue, Zuz, Zwi, Zvf, Zu8, Zwk, ZtT, Zvp, Zv2, ZvO, Zu0, Zuy, ZtJ, Zur, Zvk, ZuW, ZvE, ZuX, ZvK, ZtV, Zvq, ZvJ, ZuF, Zuk, ZtW, Znb, Zsv, ZqG, Zl0, ZoL, ZnX, Zra, ZqY, Zrp, ZnW, Zpp, ZpP, ZrN, Zqg, Zpc, ZrV, Zrz, Zox, Zmn, Zpx, ZmW, ZqD, ZnT, Zps, Zpz, ZqJ, Zro, ZoF, ZoI, Zp8, ZqZ, Zqz, ZmQ, ZnR, Zsf, Znj, Zoa, ZmT, ZpY, ZmO, Znf, Zpr, Zsx, Zno, Zn2, Zp2, ZoS, Zqo, ZrO, Zof, ZsB, ZmE, Zsg, ZmA, Zp5, Zl5, Zmi, Zoi, ZoE, ZsF, Zmx, ZoG, ZmB, Zml, ZrE, Zr8, Zn7, Zrf, Zog, ZrT, Zo7, ZlZ, Zl7, ZqE, ZmV, Zlq, Zsb, Zon, Znd, Zq6, ZqC, Zrd, Zm5, Zsu, Zov, Zsr, Zok, Zpt, Zou, Zst, ZlO, ZoC, ZnO, Zq9, ZqO, Zq2, Zpl, Zrn, Zri, Zrj, Znk, Zrq, Zoh, Zq3, ZmL, ZlA, Zo4, ZoA, Zpo, ZqA, Zme, Zpu, ZpK, ZlP, Zo5, ZqS, ZqV, Zmo, Zom, ZrG, Zr3, Zrk, ZoJ, Zrg, Zmy, ZpO, Zqf, ZlM, ZlH, ZlR, ZqR, ZnB, Zmj, Zq0, Zpw, ZmY, ZpX, Zo9, Zrc, ZqL, ZrI, ZmX, ZlV, Znq, ZnY, ZqX, ZrH, ZmC, ZqB, Zm8, Znn, ZpW, Zlx, Zlt, Zq8, ZrU, ZmJ, ZmN, ZmH, Znm, ZpA, Zol, Zo0, Zr2, ZrJ, Zqn, ZpB, Zmu, Zsd, Zre, ZqH, Znh, Zq5, ZpQ, ZrM, Zry, Zqx, ZqW, ZrR, Zoj, Zsp, Zpy, ZlJ, Zsq, Zoo, Zl1, ZlB, Zqq, Zmb, ZrZ, Zsn, ZqQ, ZoW, Zmz, ZmR, Zqs, Zpg, ZlQ, ZnV, Zsw, ZnS, Zqw, Zms, Zni, Zp6, Zpk, ZlE, Zn3, ZsA, ZpI, ZpE, Zo1, Zr9, Zpv, Zmm, ZlI, ZmF, Znu, ZpN, Zoq, Zny, ZoR, ZnM, ZnG, ZmD, Zp0, Zqt, ZrD, ZrQ, Zns, ZsC, Zsk, ZrK, Zsc, Zqc, Zpn, ZoO, Zp4, Zp1, Znr, Zr4, Zop, ZpC, Zl9, ZlF, Zm4, ZqU, Zr1, Zoy, Zor, Znz, Zsz, ZnF, ZnE, Zng, Zn5, Zmw, ZrL, Zqk, Zqj, ZrF, ZqP, ZlN, Zpj, ZnA, Zrr, ZrS, Zsi, ZoB, ZmP, Zrw, Zse, Zpd, Zm9, Zrb, ZpL, ZoY, Zmh, Zo6, ZpH, Znv, ZqM, ZrX, Zm0, ZoM, ZnN, Zsm, Zow, Znc, Zq4, Zr5, Zru, ZlT, ZoQ, Zlv, Zn9, ZlL, Zsy, ZqT, ZmM, ZnJ, ZlK, ZnK, ZnC, Zmk, Zo8, ZlY, Zqp, Zrx, Zl8, Znx, Zrt, ZoZ, ZpJ, Zpf, Zm3, Zoc, Zpq, ZnL, ZpU, Zp3, Zr7, ZrB, ZlS, ZmG, ZlC, Zmf, Zmd, ZoH, Zrl, Zn0, Zqr, Zoe, ZnU, Zmr, Zoz, ZlU, Zmc, Zsh, Zm7, ZpV, Zlu, Zn6, ZrW, Zm2, Zpm, Zmv, Zl6, Zsa, ZoV, Zna, ZpF, Zn8, Zqh, Zso, Zqe, Zob, Zqi, ZoP, ZmZ, ZnD, ZrA, Zn1, Zmp, ZnQ, ZpM, ZlX, Zod, Zl2, Zrs, Zpb, Zr6, Zm6, ZnI, ZqK, Zo2, Zo3, Zql, ZoT, ZrC, Zmt, Zmq, Zl4, ZsE, ZoU, Znw, Zne, ZnH, Zl3, Zrh, Zqm, Zly, ZmI, Zma, Zpi, ZpT, ZlW, Zmg, ZmK, Zqd, Zlz, ZoK, Zqb, Zp7, Zm1, Zrv, Zpa, Zls, Zqa, ZqF, ZqN, Zp9, ZpD, Znt, Zrm, ZoD, ZnP, ZpR, ZmU]
def exH (K : Fr) : Bool := exsH.all fun f => f K
def fd_0 : He.DefD := ⟨("NoPlace", some "__init__"), "__init__", "NoPlace.__init__", defArgs Zi, defBody Zi, defScope Zi, [], []⟩
def fd_1 : He.DefD := ⟨("TooMany", some "__init__"), "__init__", "TooMany.__init__", defArgs Zn, defBody Zn, defScope Zn, [], []⟩
def fd_2 : He.DefD := ⟨("NoText", some "__init__"), "__init__", "NoText.__init__", defArgs Zp, defBody Zp, defScope Zp, [], []⟩
def fd_3 : He.DefD := ⟨("Taken", some "__init__"), "__init__", "Taken.__init__", defArgs Zr, defBody Zr, defScope Zr, [], []⟩
def fd_4 : He.DefD := ⟨("NoWay", some "__init__"), "__init__", "NoWay.__init__", defArgs Zq, defBody Zq, defScope Zq, [], []⟩
def fd_5 : He.DefD := ⟨("Held", some "__init__"), "__init__", "Held.__init__", defArgs Zt, defBody Zt, defScope Zt, [], []⟩
def fd_6 : He.DefD := ⟨("Faulted", some "__init__"), "__init__", "Faulted.__init__", defArgs Zm, defBody Zm, defScope Zm, [], []⟩
def fd_7 : He.DefD := ⟨("Unknown", some "__init__"), "__init__", "Unknown.__init__", defArgs Zl, defBody Zl, defScope Zl, [], []⟩
def fd_8 : He.DefD := ⟨("_law_value", none), "_law_value", "_law_value", defArgs ZK, defBody ZK, defScope ZK, [], []⟩
def fd_9 : He.DefD := ⟨("_law_ones", none), "_law_ones", "_law_ones", defArgs ZV, defBody ZV, defScope ZV, [], []⟩
def ZuR : He.DefD := ⟨("_law_kinds", none), "_law_kinds", "_law_kinds", defArgs ZJ, defBody ZJ, defScope ZJ, [], []⟩
def Zu1 : He.DefD := ⟨("_law_fields", none), "_law_fields", "_law_fields", defArgs ZG, defBody ZG, defScope ZG, [], []⟩
def ZtL : He.DefD := ⟨("law", none), "law", "law", defArgs ZhK, defBody ZhK, defScope ZhK, [], []⟩
def fnH : List He.DefD := [fd_0, fd_1, fd_2, fd_3, fd_4, fd_5, fd_6, fd_7, fd_8, fd_9, ZuR, Zu1, ZtL]
def tsH : List He.Tab := []
def tfH : List He.Defn := []
abbrev hkH : W.Hook := hookQ [] fnH tsH tfH exH
def obH (s : W.SharedT) : He.AlX := obsQ [] fnH tsH tfH exH (HandSHeadRun.getT s)
theorem obH_eq (s : W.SharedT) : obH s = hkH.obs s.abs := Zto (HandSHeadRun.getT_eq s)
theorem runF (w : World) : HandSHeadRun.RunEq hdR qH hkH obH 60000 nmsH (w.withFollow "special-get-raises" false) := by
 intro os
 kernel_rfl
theorem runT (w : World) : HandSHeadRun.RunEq hdR qH hkH obH 60000 nmsH (w.withFollow "special-get-raises" true) := by
 intro os
 kernel_rfl
theorem runH (w : World) : HandSHeadRun.RunEq hdR qH hkH obH 60000 nmsH w :=
 W.byRow2 "special-get-raises" (P := fun w => HandSHeadRun.RunEq hdR qH hkH obH 60000 nmsH w) runF runT w
end Mi
namespace Mi
open PySem L2
/-- data: a tuple is a tree, what changes stands in a store -/
inductive D where
 | non | bl (b : Bool) | int (i : Int) | str (x : Str) | tup (ds : List D) | obj (n : Nat) | fn (n : Nat) | ty (n : String) | kl (ds : List D) | ev (ds : List D)
 deriving Inhabited
inductive Ob where
 | lst (ds : List D) | frz (ds : List D) | dic (kvs : List (Key × D)) | ins (c : Nat) (fs : List (Str × D))
 | clo (k : Nat) (ps : List Nat) | cel (d : Option D) | pnd | tbl (j : Nat) | xcp (c : Nat) (fs : List (Str × D))
abbrev Sto := List Ob
inductive R (β : Type) where
 | ok (b : β) (st : Sto)
 | exc (c : Nat) (fs : List (Str × D)) (st : Sto)
 | stuck
namespace R
def bind {β γ : Type} (r : R β) (k : β -> Sto -> R γ) : R γ := match r with
 | .ok b st => k b st
 | .exc c fs st => .exc c fs st
 | .stuck => .stuck
@[simp] theorem bind_ok {β γ : Type} (b : β) (st : Sto) (k : β -> Sto -> R γ) : (R.ok b st).bind k = k b st := rfl
@[simp] theorem ZtE {β γ : Type} (k : β -> Sto -> R γ) : (R.stuck : R β).bind k = .stuck := rfl
@[simp] theorem Zyk {β γ : Type} (c fs st) (k : β -> Sto -> R γ) : (R.exc c fs st : R β).bind k = .exc c fs st := rfl
end R
/-- a nested def's or a lambda's words -/
structure NT where
 name : Str
 qual : Str
 params : Arguments
 body : FuncBody
 scope : Scope
abbrev NT.fd (T : NT) (cl : List (Str × Addr)) (c : Addr) (doc pm ctv : Value) : FuncData :=
 { name := T.name, qualname := T.qual, params := T.params, body := T.body, scope := T.scope, globals := mainGlobals, closure := cl, defaults := .none, kwdefaults := .none, doc := doc, pyModule := pm, annotations := none, code := .ref c, closureTuple := ctv, builtins := builtinsNs }
/-- the object at f is a function made of them -/
def FnT2 (f : Addr) (T : NT) (cl : List (Str × Addr)) (c : Addr) : HO := .ext fun h => ∃ (od : Option Addr) (sl : Array (Option Value)) (doc pm ctv : Value), h.get? f = some (⟨.type "function", od, .func (T.fd cl c doc pm ctv), sl⟩ : Obj)
/-- the ground: the program's written part, where its defs and classes stand -/
structure Gd where
 P : Program
 w : World
 K : PySem.W.Frag
 mg : Str -> Option Value
 base : Heap
 fa : Nat -> Option Addr
 ca : Nat -> Option Addr
 /-- nested defs: their words, the names that they capture -/
 nk : Nat -> Option NT := fun _ => none
 nfr : Nat -> List Str := fun _ => []
 /-- the tables of code objects -/
 tb : Nat -> Option (Addr × (Nat -> Nat -> Str)) := fun _ => none
 /-- the cells of the frame that runs, by their places -/
 pc : Nat -> Option Addr := fun _ => none
/-- a list that never changes: locked, or of the program's written part -/
def KL (K : PySem.W.Frag) (H : Hp) (a : Addr) (vs : List V) : Prop := (∃ o, H a = some (.frz o (.lst vs))) \/ SqL K (fun _ => none) a vs
theorem KL.sq {K : PySem.W.Frag} {H : Hp} {a : Addr} {vs : List V} (h : KL K H a vs) : SqL K H a vs := by
 rcases h with ⟨o, h⟩ | h | h
 ·exact .inl (.inr ⟨o, h⟩)
 ·rcases h with h | ⟨o, h⟩ <;> cases h
 ·exact .inr h
abbrev CelO (o : Obj) : HO := .frz o (.ext fun _ => True)
/-- neither a cell nor a table of code objects -/
def Nm (x : Option HO) : Prop := (∀ o, x ≠ some (CelO o)) /\ ∀ ps, x ≠ some (.tbl ps)
theorem Zkj {vs : List V} : Nm (some (.lst vs)) := ⟨fun _ z => (by cases z), fun _ z => (by cases z)⟩
theorem Zyz {vs : List (Key × V)} : Nm (some (.dK vs)) := ⟨fun _ z => (by cases z), fun _ z => (by cases z)⟩
theorem ZuU {C dx : Addr} {fs : List (Str × V)} : Nm (some (.ins C dx fs)) := ⟨fun _ z => (by cases z), fun _ z => (by cases z)⟩
theorem Zwc {φ : Heap -> Prop} : Nm (some (.ext φ)) := ⟨fun _ z => (by cases z), fun _ z => (by cases z)⟩
mutual
def RD (g : Gd) (α : List Addr) (H : Hp) : D -> V -> Prop
 | .non, v => v = .non
 | .bl b, v => v = .bl b
 | .int i, v => v = .int i
 | .str x, v => v = .str x
 | .tup ds, v => ∃ a vs, v = .ref a /\ SqT g.K H a vs /\ RDs g α H ds vs
 | .obj n, v => ∃ a, v = .ref a /\ α[n]? = some a /\ Nm (H a)
 | .fn n, v => ∃ a, v = .ref a /\ g.fa n = some a
 | .ty n, v => v = .ty n
 | .kl ds, v => ∃ a vs, v = .ref a /\ KL g.K H a vs /\ RDs g α H ds vs
 | .ev _, _ => False
def RDs (g : Gd) (α : List Addr) (H : Hp) : List D -> List V -> Prop
 | [], vs => vs = []
 | d :: ds, vs => ∃ v r, vs = v :: r /\ RD g α H d v /\ RDs g α H ds r
end
structure Ext (α : List Addr) (H : Hp) (α' : List Addr) (H' : Hp) : Prop where
 pre : ∃ β, α' = α ++ β
 keep : ∀ b o, H b = some o -> b ∉ α -> H' b = some o
 new : ∀ b, b ∈ α' -> b ∉ α -> H b = none
 tup : ∀ b xs, H b = some (.tup xs) -> H' b = some (.tup xs)
 frz : ∀ b o u, H b = some (.frz o u) -> H' b = some (.frz o u)
 nm : ∀ b, b ∈ α -> Nm (H b) -> Nm (H' b)
theorem Ext.refl (α : List Addr) (H : Hp) : Ext α H α H :=
 ⟨⟨[], by simp⟩, fun _ _ h _ => h, fun _ h n => absurd h n, fun _ _ h => h, fun _ _ _ h => h, fun _ _ h => h⟩
theorem Ext.trans {α α1 α2 : List Addr} {H H1 H2 : Hp} (e : Ext α H α1 H1) (f : Ext α1 H1 α2 H2) : Ext α H α2 H2 := by
 obtain ⟨β, rfl⟩ := e.pre
 obtain ⟨γ, rfl⟩ := f.pre
 refine ⟨⟨β ++ γ, by simp⟩, fun b o h n => ?_, fun b h n => ?_, fun b xs h => f.tup _ _ (e.tup _ _ h), fun b o u h => f.frz _ _ _ (e.frz _ _ _ h), fun b hb h => f.nm _ (List.mem_append_left _ hb) (e.nm _ hb h)⟩
 ·refine f.keep _ _ (e.keep _ _ h n) fun hb => ?_
  have := e.new b hb n
  rw [h] at this
  cases this
 ·by_cases hb : b ∈ α ++ β
  ·exact e.new b hb n
  ·have q := f.new b h hb
   cases z : H b with
   | none => rfl
   | some o =>
    have := e.keep b o z n
    rw [q] at this
    cases this
theorem Ext.rdt {α α' : List Addr} {H H' : Hp} (e : Ext α H α' H') {a : Addr} {xs : List V} (h : Rd H a (.tup xs)) : Rd H' a (.tup xs) := by
 rcases h with h | ⟨o, h⟩
 ·exact .inl (e.tup _ _ h)
 ·exact .inr ⟨o, e.frz _ _ _ h⟩
theorem Ext.sqt {K : PySem.W.Frag} {α α' : List Addr} {H H' : Hp} (e : Ext α H α' H') {a : Addr} {xs : List V} (h : SqT K H a xs) : SqT K H' a xs := by
 rcases h with h | h
 ·exact .inl (e.rdt h)
 ·exact .inr h
theorem Ext.at {α α' : List Addr} {H H' : Hp} (e : Ext α H α' H') {n : Nat} {a : Addr} (h : α[n]? = some a) : α'[n]? = some a := by
 obtain ⟨β, rfl⟩ := e.pre
 have := (List.getElem?_eq_some_iff.mp h).1
 rw [List.getElem?_append_left this]
 exact h
section
variable {g : Gd} {α α' : List Addr} {H H' : Hp}
mutual
theorem RD.mono (e : Ext α H α' H') : ∀ {d : D} {v : V}, RD g α H d v -> RD g α' H' d v
 | .non, v, h => by simpa [RD] using h
 | .bl b, v, h => by simpa [RD] using h
 | .int i, v, h => by simpa [RD] using h
 | .str x, v, h => by simpa [RD] using h
 | .tup ds, v, h => by
  rw [RD] at h ⊢
  obtain ⟨a, vs, rfl, h1, h2⟩ := h
  exact ⟨a, vs, rfl, e.sqt h1, RDs.mono e h2⟩
 | .obj n, v, h => by
  rw [RD] at h ⊢
  obtain ⟨a, rfl, h1, h2⟩ := h
  exact ⟨a, rfl, e.at h1, e.nm a (List.mem_of_getElem? h1) h2⟩
 | .fn n, v, h => by simpa [RD] using h
 | .ty n, v, h => by simpa [RD] using h
 | .kl ds, v, h => by
  rw [RD] at h ⊢
  obtain ⟨a, vs, rfl, h1, h2⟩ := h
  exact ⟨a, vs, rfl, h1.elim (fun ⟨o, q⟩ => .inl ⟨o, e.frz _ _ _ q⟩) .inr, RDs.mono e h2⟩
 | .ev ds, v, h => by rw [RD] at h; exact h.elim
theorem RDs.mono (e : Ext α H α' H') : ∀ {ds : List D} {vs : List V}, RDs g α H ds vs -> RDs g α' H' ds vs
 | [], vs, h => by simpa [RDs] using h
 | d :: ds, vs, h => by
  rw [RDs] at h ⊢
  obtain ⟨v, r, rfl, h1, h2⟩ := h
  exact ⟨v, r, rfl, RD.mono e h1, RDs.mono e h2⟩
end
theorem RDs.length : ∀ {ds : List D} {vs : List V}, RDs g α H ds vs -> ds.length = vs.length
 | [], vs, h => by rw [RDs] at h; subst h; rfl
 | d :: ds, vs, h => by
  rw [RDs] at h
  obtain ⟨v, r, rfl, _, h2⟩ := h
  simp [RDs.length h2]
theorem RDs.get : ∀ {ds : List D} {vs : List V} {i : Nat} {d : D}, RDs g α H ds vs -> ds[i]? = some d -> ∃ v, vs[i]? = some v /\ RD g α H d v
 | [], vs, i, d, h, e => by simp at e
 | x :: ds, vs, i, d, h, e => by
  rw [RDs] at h
  obtain ⟨v, r, rfl, h1, h2⟩ := h
  cases i with
  | zero => simp at e; subst e; exact ⟨v, rfl, h1⟩
  | succ i => simpa using RDs.get h2 (by simpa using e)
theorem RDs.append : ∀ {ds es : List D} {vs ws : List V}, RDs g α H ds vs -> RDs g α H es ws -> RDs g α H (ds ++ es) (vs ++ ws)
 | [], es, vs, ws, h, k => by rw [RDs] at h; subst h; exact k
 | d :: ds, es, vs, ws, h, k => by
  rw [RDs] at h
  obtain ⟨v, r, rfl, h1, h2⟩ := h
  exact ⟨v, r ++ ws, rfl, h1, RDs.append h2 k⟩
theorem RDs.nil : RDs g α H [] [] := rfl
theorem RDs.cons {d : D} {v : V} {ds : List D} {vs : List V} (h : RD g α H d v) (k : RDs g α H ds vs) : RDs g α H (d :: ds) (v :: vs) := ⟨v, vs, rfl, h, k⟩
theorem RDs.take : ∀ {ds : List D} {vs : List V} (n : Nat), RDs g α H ds vs -> RDs g α H (ds.take n) (vs.take n)
 | [], vs, n, h => by rw [RDs] at h; subst h; simp [RDs]
 | d :: ds, vs, n, h => by
  rw [RDs] at h
  obtain ⟨v, r, rfl, h1, h2⟩ := h
  cases n with
  | zero => simp [RDs]
  | succ n => simpa using RDs.cons h1 (RDs.take n h2)
theorem RDs.drop : ∀ {ds : List D} {vs : List V} (n : Nat), RDs g α H ds vs -> RDs g α H (ds.drop n) (vs.drop n)
 | [], vs, n, h => by rw [RDs] at h; subst h; simp [RDs]
 | d :: ds, vs, n, h => by
  rw [RDs] at h
  obtain ⟨v, r, rfl, h1, h2⟩ := h
  cases n with
  | zero => exact RDs.cons h1 h2
  | succ n => simpa using RDs.drop n h2
theorem RDs.set : ∀ {ds : List D} {vs : List V} (n : Nat) {d : D} {v : V}, RDs g α H ds vs -> RD g α H d v -> RDs g α H (ds.set n d) (vs.set n v)
 | [], vs, n, d, v, h, k => by rw [RDs] at h; subst h; simp [RDs]
 | x :: ds, vs, n, d, v, h, k => by
  rw [RDs] at h
  obtain ⟨y, r, rfl, h1, h2⟩ := h
  cases n with
  | zero => exact RDs.cons k h2
  | succ n => simpa using RDs.cons h1 (RDs.set n h2 k)
end
/-- fields, pairs by one name -/
def RFs (g : Gd) (α : List Addr) (H : Hp) : List (Str × D) -> List (Str × V) -> Prop
 | [], fs => fs = []
 | p :: ps, fs => ∃ v r, fs = (p.1, v) :: r /\ RD g α H p.2 v /\ RFs g α H ps r
def RKs (g : Gd) (α : List Addr) (H : Hp) : List (Key × D) -> List (Key × V) -> Prop
 | [], fs => fs = []
 | p :: ps, fs => ∃ v r, fs = (p.1, v) :: r /\ RD g α H p.2 v /\ RKs g α H ps r
theorem RFs.mono {g : Gd} {α α' : List Addr} {H H' : Hp} (e : Ext α H α' H') : ∀ {ds : List (Str × D)} {vs : List (Str × V)}, RFs g α H ds vs -> RFs g α' H' ds vs
 | [], vs, h => by simpa [RFs] using h
 | d :: ds, vs, h => by
  rw [RFs] at h ⊢
  obtain ⟨v, r, rfl, h1, h2⟩ := h
  exact ⟨v, r, rfl, RD.mono e h1, RFs.mono e h2⟩
theorem RKs.mono {g : Gd} {α α' : List Addr} {H H' : Hp} (e : Ext α H α' H') : ∀ {ds : List (Key × D)} {vs : List (Key × V)}, RKs g α H ds vs -> RKs g α' H' ds vs
 | [], vs, h => by simpa [RKs] using h
 | d :: ds, vs, h => by
  rw [RKs] at h ⊢
  obtain ⟨v, r, rfl, h1, h2⟩ := h
  exact ⟨v, r, rfl, RD.mono e h1, RKs.mono e h2⟩
/-- the cell of a place -/
def PC (g : Gd) (α : List Addr) (p : Nat) (b : Addr) : Prop := g.pc p = some b \/ (g.pc p = none /\ α[p]? = some b)
/-- a function made by a nested def, its cells at some places -/
def CloR (g : Gd) (α : List Addr) (H : Hp) (a : Addr) (k : Nat) (ps : List Nat) : Prop :=
 ∃ T cl c, g.nk k = some T /\ H a = some (FnT2 a T cl c) /\ H c = some (LamX.CodeO c T.qual) /\ c ∉ α /\ ps.length = (g.nfr k).length /\ (∀ y b, cl.lookup y = some b -> y ∈ g.nfr k) /\
  (∀ x y b, cl.lookup x = some b -> cl.lookup y = some b -> x = y) /\ ∀ (i : Nat) (y : Str) (p : Nat), (g.nfr k)[i]? = some y -> ps[i]? = some p -> ∃ b, cl.lookup y = some b /\ PC g α p b
/-- a cell of a frame that does not run -/
def CelR (g : Gd) (α : List Addr) (H : Hp) (a : Addr) (od : Option D) : Prop := ∃ o u, H a = some (CelO o) /\ o.data = .cell u /\ ∀ d, od = some d -> ∃ v w, u = some w /\ RelV v w /\ RD g α H d v
def TbR (g : Gd) (α : List Addr) (H : Hp) (a : Addr) (j : Nat) : Prop :=
 ∃ nm ps, g.tb j = some (a, nm) /\ H a = some (.tbl ps) /\ TriplesOk ps.toList /\ ∀ (pos : Pos) (cv : Value), codeAmong pos ps.toList = some cv -> ∃ c, cv = .ref c /\ H c = some (LamX.CodeO c (nm pos.line pos.col)) /\ c ∉ α
theorem PC.mono {g : Gd} {α α' : List Addr} {H H' : Hp} (e : Ext α H α' H') {p : Nat} {b : Addr} (h : PC g α p b) : PC g α' p b := h.imp id fun ⟨a, q⟩ => ⟨a, e.at q⟩
theorem Ext.fresh {α α' : List Addr} {H H' : Hp} (e : Ext α H α' H') {c : Addr} {o : HO} (h : H c = some o) (n : c ∉ α) : c ∉ α' := fun z => by
 have := e.new c z n
 rw [h] at this
 cases this
theorem CloR.mono {g : Gd} {α α' : List Addr} {H H' : Hp} (e : Ext α H α' H') {a : Addr} {k : Nat} {ps : List Nat} (q : H' a = H a) (h : CloR g α H a k ps) : CloR g α' H' a k ps := by
 obtain ⟨T, cl, c, h1, h2, h3, h4, h5, h6, h7, h8⟩ := h
 exact ⟨T, cl, c, h1, q.trans h2, e.keep _ _ h3 h4, e.fresh h3 h4, h5, h6, h7, fun i y p e1 e2 => let ⟨b, z1, z2⟩ := h8 i y p e1 e2; ⟨b, z1, z2.mono e⟩⟩
theorem TbR.mono {g : Gd} {α α' : List Addr} {H H' : Hp} (e : Ext α H α' H') {a : Addr} {j : Nat} (q : H' a = H a) (h : TbR g α H a j) : TbR g α' H' a j := by
 obtain ⟨nm, ps, h1, h2, h3, h4⟩ := h
 exact ⟨nm, ps, h1, q.trans h2, h3, fun pos cv z => let ⟨c, z1, z2, z3⟩ := h4 pos cv z; ⟨c, z1, e.keep _ _ z2 z3, e.fresh z2 z3⟩⟩
theorem CelR.mono {g : Gd} {α α' : List Addr} {H H' : Hp} (e : Ext α H α' H') {a : Addr} {od : Option D} (q : H' a = H a) (h : CelR g α H a od) : CelR g α' H' a od := by
 obtain ⟨o, u, h1, h2, h3⟩ := h
 exact ⟨o, u, q.trans h1, h2, fun d z => let ⟨v, w, k1, k2, k3⟩ := h3 d z; ⟨v, w, k1, k2, k3.mono e⟩⟩
/-- an exception that was caught; its dict -/
def ExQ (cls : Value) (d : Option Addr) (a : Addr) : HO := .ext fun h => ∃ oe vs, h.get? a = some oe /\ Zc cls d oe /\ oe.data = .fields vs
/-- what is known as it stands, or an exception's dict -/
def KO : Type := { o : HO // (∃ φ, o = .ext φ) \/ ∃ fs, o = .xd fs }
def KO.e (φ : Heap -> Prop) : KO := ⟨.ext φ, .inl ⟨φ, rfl⟩⟩
def KO.x (fs : List (Str × V)) : KO := ⟨.xd fs, .inr ⟨fs, rfl⟩⟩
theorem KO.nlst (k : KO) {xs : List V} (h : some (HO.lst xs) = some k.1) : False := by
 obtain ⟨o, ⟨φ, rfl⟩ | ⟨fs, rfl⟩⟩ := k <;> cases h
def XcR (g : Gd) (α : List Addr) (H : Hp) (a : Addr) (c : Nat) (fs : List (Str × D)) : Prop :=
 ∃ C dx, g.ca c = some C /\ H a = some (ExQ (.ref C) dx a) /\ ((fs = [] /\ dx = none) \/ ∃ d vs, dx = some d /\ H d = some (.xd vs) /\ d ∉ α /\ RFs g α H fs vs)
theorem XcR.mono {g : Gd} {α α' : List Addr} {H H' : Hp} (e : Ext α H α' H') {a : Addr} {c : Nat} {fs : List (Str × D)} (q : H' a = H a) (h : XcR g α H a c fs) : XcR g α' H' a c fs := by
 obtain ⟨C, dx, h1, h2, h3⟩ := h
 exact ⟨C, dx, h1, q.trans h2, h3.imp id fun ⟨d, vs, k1, k2, k3, k4⟩ => ⟨d, vs, k1, e.keep _ _ k2 k3, e.fresh k2 k3, k4.mono e⟩⟩
/-- an object of the store, as it stands in the heap -/
def OR (g : Gd) (α : List Addr) (H : Hp) (a : Addr) : Ob -> Prop
 | .lst ds => ∃ vs, H a = some (.lst vs) /\ RDs g α H ds vs
 | .frz ds => ∃ o vs, H a = some (.frz o (.lst vs)) /\ RDs g α H ds vs
 | .dic kvs => ∃ vs, H a = some (.dK vs) /\ RKs g α H kvs vs
 | .ins c fs => ∃ C dx vs, g.ca c = some C /\ H a = some (.ins C dx vs) /\ RFs g α H fs vs
 | .clo k ps => CloR g α H a k ps
 | .cel d => CelR g α H a d
 | .pnd => ∃ ps, H a = some (.tbl ps)
 | .tbl j => TbR g α H a j
 | .xcp c fs => XcR g α H a c fs
structure StR (g : Gd) (α : List Addr) (st : Sto) (H : Hp) : Prop where
 len : α.length = st.length
 nd : ∀ (m n : Nat) (a : Addr), α[m]? = some a -> α[n]? = some a -> m = n \/ st[m]? = some .pnd \/ st[n]? = some .pnd
 pcl : ∀ (q : Nat) (c : Addr), g.pc q = some c -> st[q]? = some .pnd
 ob : ∀ (n : Nat) (a : Addr) (o : Ob), α[n]? = some a -> st[n]? = some o -> OR g α H a o
/-- the names' values -/
abbrev Env := List (Option D)
structure EnvR (g : Gd) (α : List Addr) (H : Hp) (env : Env) (σ : L2.St) : Prop where
 len : env.length = σ.length
 val : ∀ (i : Nat) (d : D), env[i]? = some (some d) -> ∃ v, σ[i]? = some (some v) /\ RD g α H d v
theorem EnvR.mono {g : Gd} {α α' : List Addr} {H H' : Hp} {env : Env} {σ : L2.St} (e : Ext α H α' H') (h : EnvR g α H env σ) : EnvR g α' H' env σ :=
 ⟨h.len, fun i d q => let ⟨v, h1, h2⟩ := h.val i d q; ⟨v, h1, RD.mono e h2⟩⟩
theorem EnvR.set {g : Gd} {α : List Addr} {H : Hp} {env : Env} {σ : L2.St} (h : EnvR g α H env σ) (i : Nat) {d : D} {v : V} (r : RD g α H d v) : EnvR g α H (env.set i (some d)) (σ.set i (some v)) := by
 refine ⟨by simp [h.len], fun j x q => ?_⟩
 by_cases hj : i = j
 ·subst hj
  have hl : i < env.length := by
   have := (List.getElem?_eq_some_iff.mp q).1
   simpa using this
  rw [List.getElem?_set_self hl] at q
  cases q
  exact ⟨v, List.getElem?_set_self (by rw [<- h.len]; exact hl), r⟩
 ·rw [List.getElem?_set_ne hj] at q
  obtain ⟨u, h1, h2⟩ := h.val j x q
  exact ⟨u, by rw [List.getElem?_set_ne hj]; exact h1, h2⟩
/-- an exception in the air -/
def XR (g : Gd) (α : List Addr) (H : Hp) (c : Nat) (fs : List (Str × D)) (cls : Value) (dx : Option Addr) : Prop :=
 ∃ C, g.ca c = some C /\ cls = .ref C /\ ((fs = [] /\ dx = none) \/ ∃ d vs, dx = some d /\ H d = some (.xd vs) /\ RFs g α H fs vs)
/-- what a result wants -/
def Post {β : Type} (g : Gd) (W : WX) (σ : L2.St) (α : List Addr) (H : Hp) (r : R β) (Q : β -> Sto -> List Addr -> Hp -> Prop) : Prop := match r with
 | .ok b st => ∀ α' H', Ext α H α' H' -> StR g α' st H' -> Q b st α' H'
 | .exc c fs st => ∀ α' H' cls dx, Ext α H α' H' -> StR g α' st H' -> XR g α' H' c fs cls dx -> W cls dx σ H'
 | .stuck => False
section
variable {g : Gd} {W : WX} {σ : L2.St} {α α' : List Addr} {H H' : Hp}
theorem Post.imp {β : Type} {r : R β} {Q Q' : β -> Sto -> List Addr -> Hp -> Prop} (h : Post g W σ α H r Q) (k : ∀ b st α' H', Ext α H α' H' -> StR g α' st H' -> Q b st α' H' -> Q' b st α' H') : Post g W σ α H r Q' := by
 cases r with
 | ok b st => exact fun α' H' e s => k b st α' H' e s (h α' H' e s)
 | exc c fs st => exact h
 | stuck => exact h
theorem Post.mono {β : Type} {r : R β} {Q : β -> Sto -> List Addr -> Hp -> Prop} (e : Ext α H α' H') (h : Post g W σ α H r Q) : Post g W σ α' H' r Q := by
 cases r with
 | ok b st => exact fun α2 H2 f s => h α2 H2 (e.trans f) s
 | exc c fs st => exact fun α2 H2 cls dx f s x => h α2 H2 cls dx (e.trans f) s x
 | stuck => exact h
theorem Post.bind {β γ : Type} {r : R β} {k : β -> Sto -> R γ} {Q : γ -> Sto -> List Addr -> Hp -> Prop} (h : Post g W σ α H (r.bind k) Q) :
  Post g W σ α H r (fun b st α' H' => Post g W σ α' H' (k b st) Q) := by
 cases r with
 | ok b st => exact fun α' H' e s => Post.mono e h
 | exc c fs st => exact h
 | stuck => exact h
theorem Post.ok {β : Type} {b : β} {st : Sto} {Q : β -> Sto -> List Addr -> Hp -> Prop} (h : Post g W σ α H (.ok b st) Q) (s : StR g α st H) : Q b st α H := h α H (Ext.refl α H) s
end
abbrev DE := Env -> Sto -> R D
abbrev DT := Env -> Sto -> R Bool
abbrev DA := Env -> Sto -> R (List D)
def tE (g : Gd) (W : WX) (F : DE) : TE := fun σ H Q => ∃ α env st, EnvR g α H env σ /\ StR g α st H /\ Post g W σ α H (F env st) fun d _ α' H' => ∀ v, RD g α' H' d v -> Q v H'
def tT (g : Gd) (W : WX) (F : DT) : TT := fun σ H Q => ∃ α env st, EnvR g α H env σ /\ StR g α st H /\ Post g W σ α H (F env st) fun b _ _ H' => Q b H'
def tA (g : Gd) (W : WX) (F : DA) : TA := fun σ H Q => ∃ α env st, EnvR g α H env σ /\ StR g α st H /\ Post g W σ α H (F env st) fun ds _ α' H' => ∀ vs, RDs g α' H' ds vs -> Q vs H'
/-- an expression, a test, an argument list mean F -/
def OE (g : Gd) (X : Cx) (W : WX) (e : Expr) (F : DE) : Prop := PE X e (tE g W F)
def OT (g : Gd) (X : Cx) (W : WX) (e : Expr) (F : DT) : Prop := PT X e (tT g W F)
def OA (g : Gd) (X : Cx) (W : WX) (es : List Expr) (F : DA) : Prop := PA X es (tA g W F)
theorem ofE {X : Cx} {e : Expr} {t t' : TE} (h : PE X e t) (w : ∀ σ H Q, t' σ H Q -> t σ H Q) : PE X e t' := ⟨fun pins s σ H Q I q => h.run pins s σ H Q I (w σ H Q q)⟩
theorem ofT {X : Cx} {e : Expr} {t t' : TT} (h : PT X e t) (w : ∀ σ H Q, t' σ H Q -> t σ H Q) : PT X e t' := ⟨fun pins s σ H Q I q => h.run pins s σ H Q I (w σ H Q q)⟩
theorem ofW {X : Cx} {e : Expr} {t t' : TT} (h : PW X e t) (w : ∀ σ H Q, t' σ H Q -> t σ H Q) : PW X e t' := ⟨fun o pins s σ H Q I q => h.run o pins s σ H Q I (w σ H Q q)⟩
theorem ofA {X : Cx} {es : List Expr} {t t' : TA} (h : PA X es t) (w : ∀ σ H Q, t' σ H Q -> t σ H Q) : PA X es t' := ⟨fun p pins s σ H Q I q => h.run p pins s σ H Q I (w σ H Q q)⟩
theorem ofSs {X : Cx} {e : List Stmt} {t t' : TS} (h : PSs X e t) (w : ∀ D σ H, t' D σ H -> t D σ H) : PSs X e t' := ⟨fun pins s σ H D I q => h.run pins s σ H D I (w D σ H q)⟩
theorem ofS {X : Cx} {e : Stmt} {t t' : TS} (h : PS X e t) (w : ∀ D σ H, t' D σ H -> t D σ H) : PS X e t' := ⟨fun pins s σ H D I q => h.run pins s σ H D I (w D σ H q)⟩
end Mi
namespace Mi
open PySem L2
section
variable {g : Gd} {α α' : List Addr} {H H' : Hp} {st : Sto}
theorem OR.some {a : Addr} {o : Ob} (h : OR g α H a o) : ∃ u, H a = some u := by
 cases o with
 | lst ds => obtain ⟨vs, h, _⟩ := h; exact ⟨_, h⟩
 | frz ds => obtain ⟨_, vs, h, _⟩ := h; exact ⟨_, h⟩
 | dic ds => obtain ⟨vs, h, _⟩ := h; exact ⟨_, h⟩
 | ins c fs => obtain ⟨_, _, vs, _, h, _⟩ := h; exact ⟨_, h⟩
 | clo k ps => obtain ⟨_, _, _, _, h, _⟩ := h; exact ⟨_, h⟩
 | cel d => obtain ⟨_, _, h, _⟩ := h; exact ⟨_, h⟩
 | pnd => obtain ⟨_, h⟩ := h; exact ⟨_, h⟩
 | tbl j => obtain ⟨_, _, _, h, _⟩ := h; exact ⟨_, h⟩
 | xcp c fs => obtain ⟨_, _, _, h, _⟩ := h; exact ⟨_, h⟩
theorem StR.mem (s : StR g α st H) {a : Addr} (h : a ∈ α) : ∃ u, H a = some u := by
 obtain ⟨n, hn, e⟩ := List.getElem_of_mem h
 have h1 : α[n]? = some a := by rw [List.getElem?_eq_getElem hn, e]
 have h2 : n < st.length := by rw [<- s.len]; exact hn
 exact (s.ob n a st[n] h1 (List.getElem?_eq_getElem h2)).some
theorem StR.notin (s : StR g α st H) {p : Addr} (h : H p = none) : p ∉ α := fun q => by
 obtain ⟨u, e⟩ := s.mem q
 rw [h] at e
 cases e
theorem ZsX (s : StR g α st H) {p : Addr} {o : Ob} (hp : p ∉ α) (m n : Nat) (a : Addr) (e1 : (α ++ [p])[m]? = some a) (e2 : (α ++ [p])[n]? = some a) : m = n \/ (st ++ [o])[m]? = some Ob.pnd \/ (st ++ [o])[n]? = some Ob.pnd := by
 have ls := s.len
 have up : ∀ (m : Nat) (a : Addr), (α ++ [p])[m]? = some a -> (m < α.length /\ α[m]? = some a) \/ (m = α.length /\ a = p) := fun m a e => by
  by_cases c : m < α.length
  ·rw [List.getElem?_append_left c] at e
   exact .inl ⟨c, e⟩
  ·have c2 : m = α.length := by
    have := (List.getElem?_eq_some_iff.mp e).1
    simp at this
    omega
   subst c2
   simp at e
   exact .inr ⟨rfl, e.symm⟩
 rcases up m a e1 with ⟨c1, f1⟩ | ⟨c1, z1⟩
 ·rcases up n a e2 with ⟨c2, f2⟩ | ⟨c2, z2⟩
  ·rcases s.nd m n a f1 f2 with q | q | q
   ·exact .inl q
   ·exact .inr (.inl (by rw [List.getElem?_append_left (by omega)]; exact q))
   ·exact .inr (.inr (by rw [List.getElem?_append_left (by omega)]; exact q))
  ·exact absurd (z2 ▸ List.mem_of_getElem? f1) hp
 ·rcases up n a e2 with ⟨c2, f2⟩ | ⟨c2, z2⟩
  ·exact absurd (z1 ▸ List.mem_of_getElem? f2) hp
  ·exact .inl (by omega)
theorem Zk0 (s : StR g α st H) {o : Ob} : ∀ (q : Nat) (c : Addr), g.pc q = some c -> (st ++ [o])[q]? = some .pnd := fun q c z => by
 have := s.pcl q c z
 rw [List.getElem?_append_left (List.getElem?_eq_some_iff.mp this).1]
 exact this
theorem ZsH (s : StR g α st H) {n : Nat} {o : Ob} (live : st[n]? ≠ some Ob.pnd) : ∀ (q : Nat) (c : Addr), g.pc q = some c -> (st.set n o)[q]? = some .pnd := fun q c z => by
 have := s.pcl q c z
 rw [List.getElem?_set_ne]
 ·exact this
 ·rintro rfl
  exact live this
theorem Zcj (s : StR g α st H) {p : Addr} (h : H p = none) (o : HO) : Ext α H α (upd H p o) :=
 ⟨⟨[], by simp⟩, fun b u e _ => by rw [upd_ne (ne_of_none e h)]; exact e, fun b h n => absurd h n, fun b xs e => by rw [upd_ne (ne_of_none e h)]; exact e, fun b w u e => by rw [upd_ne (ne_of_none e h)]; exact e, fun b hb k => by
  rw [upd_ne]; exact k
  rintro rfl; exact s.notin h hb⟩
/-- an object's relation behind a change elsewhere -/
theorem OR.away {a : Addr} {o : Ob} (e : Ext α H α' H') (k : H' a = H a) (h : OR g α H a o) : OR g α' H' a o := by
 cases o with
 | lst ds => obtain ⟨vs, h, r⟩ := h; exact ⟨vs, k.trans h, r.mono e⟩
 | frz ds => obtain ⟨o, vs, h, r⟩ := h; exact ⟨o, vs, k.trans h, r.mono e⟩
 | dic ds => obtain ⟨vs, h, r⟩ := h; exact ⟨vs, k.trans h, r.mono e⟩
 | ins c fs => obtain ⟨C, dx, vs, h0, h, r⟩ := h; exact ⟨C, dx, vs, h0, k.trans h, r.mono e⟩
 | clo c ps => exact CloR.mono e k h
 | cel d => exact CelR.mono e k h
 | pnd => obtain ⟨u, h⟩ := h; exact ⟨u, k.trans h⟩
 | tbl j => exact TbR.mono e k h
 | xcp c fs => exact XcR.mono e k h
/-- an untracked new thing -/
theorem StR.temp (s : StR g α st H) {p : Addr} (h : H p = none) (o : HO) : StR g α st (upd H p o) := by
 refine ⟨s.len, s.nd, s.pcl, fun n a u h1 h2 => (s.ob n a u h1 h2).away (Zcj s h o) (upd_ne ?_)⟩
 rintro rfl
 exact s.notin h (List.mem_of_getElem? h1)
theorem Zem (s : StR g α st H) {p : Addr} (h : H p = none) (o : HO) : Ext α H (α ++ [p]) (upd H p o) :=
 ⟨⟨[p], rfl⟩, fun b u e _ => by rw [upd_ne (ne_of_none e h)]; exact e, fun b hb n => by
  have : b = p := by simpa [n] using hb
  subst this; exact h, fun b xs e => by rw [upd_ne (ne_of_none e h)]; exact e, fun b w u e => by rw [upd_ne (ne_of_none e h)]; exact e, fun b hb k => by
  rw [upd_ne]; exact k
  rintro rfl; exact s.notin h hb⟩
theorem StR.alloc (s : StR g α st H) {p : Addr} (h : H p = none) {u : HO} {o : Ob} (new : OR g (α ++ [p]) (upd H p u) p o) : StR g (α ++ [p]) (st ++ [o]) (upd H p u) := by
 have hp := s.notin h
 refine ⟨by simp [s.len], ZsX s hp, Zk0 s, fun n a x h1 h2 => ?_⟩
 by_cases hn : n < α.length
 ·rw [List.getElem?_append_left hn] at h1
  rw [List.getElem?_append_left (by rw [<- s.len]; exact hn)] at h2
  refine (s.ob n a x h1 h2).away (Zem s h u) (upd_ne ?_)
  rintro rfl
  exact hp (List.mem_of_getElem? h1)
 ·have hn' : n = α.length := by
   have := (List.getElem?_eq_some_iff.mp h1).1
   simp at this
   omega
  subst hn'
  simp at h1
  rw [s.len] at h2
  simp at h2
  subst h1 h2
  exact new
theorem Zk9 (s : StR g α st H) (p : Addr) : (α ++ [p])[st.length]? = some p := by rw [<- s.len]; simp
/-- an object that is changed -/
theorem Zka (s : StR g α st H) {n : Nat} {a : Addr} (ha : α[n]? = some a) {u : HO} (old : ∃ x, H a = some x /\ (∀ xs, x ≠ .tup xs) /\ ∀ o y, x ≠ .frz o y) (nm : Nm (some u) := by first | exact Zkj | exact Zyz | exact ZuU) : Ext α H α (upd H a u) := by
 obtain ⟨x, hx, h1, h2⟩ := old
 have hm : a ∈ α := List.mem_of_getElem? ha
 refine ⟨⟨[], by simp⟩, fun b o e nb => ?_, fun b h n => absurd h n, fun b xs e => ?_, fun b o y e => ?_, fun b hb k => ?_⟩
 ·rw [upd_ne (fun q => nb (by rw [q]; exact hm))]; exact e
 ·rw [upd_ne]; exact e
  rintro rfl
  rw [hx] at e
  exact h1 xs (Option.some.inj e)
 ·rw [upd_ne]; exact e
  rintro rfl
  rw [hx] at e
  exact h2 o y (Option.some.inj e)
 ·by_cases q : b = a
  ·rw [q, upd_same]; exact nm
  ·rw [upd_ne q]; exact k
theorem StR.write (s : StR g α st H) {n : Nat} {a : Addr} (ha : α[n]? = some a) {u : HO} {o : Ob} (e : Ext α H α (upd H a u)) (new : OR g α (upd H a u) a o) (live : st[n]? ≠ some Ob.pnd := by (intro z; simp_all)) (nt : ∀ ps, H a ≠ some (.tbl ps) := by (intro ps z; simp_all)) : StR g α (st.set n o) (upd H a u) := by
 have keep : ∀ m, st[m]? = some Ob.pnd -> (st.set n o)[m]? = some Ob.pnd := fun m q => by
  rw [List.getElem?_set_ne]
  ·exact q
  ·rintro rfl
   exact live q
 refine ⟨by simp [s.len], fun m k b e1 e2 => (s.nd m k b e1 e2).imp id fun q => q.imp (keep m) (keep k), ZsH s live, fun m b x h1 h2 => ?_⟩
 by_cases hm : n = m
 ·subst hm
  rw [ha] at h1
  cases h1
  have hl : n < st.length := by
   have := (List.getElem?_eq_some_iff.mp h2).1
   simpa using this
  rw [List.getElem?_set_self hl] at h2
  cases h2
  exact new
 ·rw [List.getElem?_set_ne hm] at h2
  have old := s.ob m b x h1 h2
  by_cases hb : b = a
  ·subst hb
   rcases s.nd n m b ha h1 with q | q | q
   ·exact absurd q hm
   ·exact absurd q live
   ·rw [h2] at q
    cases q
    obtain ⟨ps, z⟩ := old
    exact absurd z (nt ps)
  ·exact old.away e (upd_ne hb)
end
def new (o : Ob) (st : Sto) : R D := .ok (.obj st.length) (st ++ [o])
section
variable {g : Gd} {X : Cx} {W : WX} {σ : L2.St} {α : List Addr} {H : Hp} {env : Env} {st : Sto}
theorem tE.run {F : DE} {Q : VK} (hE : EnvR g α H env σ) (hS : StR g α st H) (p : Post g W σ α H (F env st) fun d _ α' H' => ∀ v, RD g α' H' d v -> Q v H') : tE g W F σ H Q := ⟨α, env, st, hE, hS, p⟩
theorem tT.run {F : DT} {Q : Bool -> Hp -> Prop} (hE : EnvR g α H env σ) (hS : StR g α st H) (p : Post g W σ α H (F env st) fun b _ _ H' => Q b H') : tT g W F σ H Q := ⟨α, env, st, hE, hS, p⟩
theorem tA.run {F : DA} {Q : List V -> Hp -> Prop} (hE : EnvR g α H env σ) (hS : StR g α st H) (p : Post g W σ α H (F env st) fun d _ α' H' => ∀ v, RDs g α' H' d v -> Q v H') : tA g W F σ H Q := ⟨α, env, st, hE, hS, p⟩
end
def eVar (i : Nat) : DE := fun env st => match env[i]? with | some (some d) => .ok d st | _ => .stuck
def eC (d : D) : DE := fun _ st => .ok d st
section
variable {g : Gd} {X : Cx} {W : WX}
theorem Zf (i : Nat) {x : Str} {pos : Pos} (hN : X.N[i]? = some x := by rfl) (hv : Vis X.env.scope x := by first | exact Or.inl rfl | exact Or.inr (Or.inl rfl) | exact Or.inr (Or.inr rfl)) (hd : (x == ("__debug__" : Str)) = false := by decide)
  (hcd : (x == ("__classdict__" : Str)) = false := by decide) : OE g X W (.Name x pos) (eVar i) :=
 ofE (pe_var hN hv hd hcd) fun σ H Q ⟨α, env, st, hE, hS, p⟩ => by
  unfold eVar at p
  cases h : env[i]? with
  | none => rw [h] at p; exact p.elim
  | some o =>
   cases o with
   | none => rw [h] at p; exact p.elim
   | some d =>
    rw [h] at p
    obtain ⟨v, h1, h2⟩ := hE.val i d h
    exact ⟨v, h1, p.ok hS v h2⟩
theorem oe_c {e : Expr} {v : V} {d : D} (h : PE X e (tC v)) (r : ∀ α H, RD g α H d v) : OE g X W e (eC d) :=
 ofE h fun σ H Q ⟨α, env, st, hE, hS, p⟩ => p.ok hS v (r α H)
theorem ZaM {i j pos} : OE g X W (.Constant (.int i) j pos) (eC (.int i)) := oe_c pe_int fun _ _ => rfl
theorem ZeN {b j pos} : OE g X W (.Constant (.bool b) j pos) (eC (.bl b)) := oe_c pe_bl fun _ _ => rfl
theorem ZpG {j pos} : OE g X W (.Constant .none j pos) (eC .non) := oe_c pe_non fun _ _ => rfl
theorem ZuG {x j pos} : OE g X W (.Constant (.str x) j pos) (eC (.str x)) := oe_c pe_str fun _ _ => rfl
end
def RV (g : Gd) (α : List Addr) (H : Hp) (d : D) (v : V) : Prop := RD g α H d v \/ ∃ ds a vs, d = .ev ds /\ v = .ref a /\ a ∉ α /\ H a = some (.lst vs) /\ RDs g α H ds vs
theorem RV.mono {g : Gd} {α α' : List Addr} {H H' : Hp} (e : Ext α H α' H') {d : D} {v : V} (h : RV g α H d v) : RV g α' H' d v := by
 rcases h with h | ⟨ds, a, vs, rfl, rfl, hn, ha, r⟩
 ·exact .inl (h.mono e)
 ·refine .inr ⟨ds, a, vs, rfl, rfl, fun hm => ?_, e.keep _ _ ha hn, r.mono e⟩
  have := e.new a hm hn
  rw [ha] at this
  cases this
theorem RV.rd {g : Gd} {α : List Addr} {H : Hp} {d : D} {v : V} (h : RV g α H d v) (n : ∀ ds, d ≠ .ev ds) : RD g α H d v := by
 rcases h with h | ⟨ds, a, vs, rfl, _⟩
 ·exact h
 ·exact absurd rfl (n ds)
theorem RV.ev {g : Gd} {α : List Addr} {H : Hp} {ds : List D} {v : V} (h : RV g α H (.ev ds) v) : ∃ a vs, v = .ref a /\ a ∉ α /\ H a = some (.lst vs) /\ RDs g α H ds vs := by
 rcases h with h | ⟨ds, a, vs, e, h⟩
 ·exact h.elim
 ·cases e
  exact ⟨a, vs, h⟩
def tV (g : Gd) (W : WX) (F : DE) : TE := fun σ H Q => ∃ α env st, EnvR g α H env σ /\ StR g α st H /\ Post g W σ α H (F env st) fun d _ α' H' => ∀ v, RV g α' H' d v -> Q v H'
def OV (g : Gd) (X : Cx) (W : WX) (e : Expr) (F : DE) : Prop := PE X e (tV g W F)
theorem OE.v {g : Gd} {X : Cx} {W : WX} {e : Expr} {F : DE} (h : OE g X W e F) : OV g X W e F := ofE h fun σ H Q ⟨α, env, st, hE, hS, p⟩ => ⟨α, env, st, hE, hS, p.imp fun d st1 α1 H1 x1 s1 q v r => q v (.inl r)⟩
theorem tV.run {g : Gd} {W : WX} {σ : L2.St} {α : List Addr} {H : Hp} {env : Env} {st : Sto} {F : DE} {Q : VK} (hE : EnvR g α H env σ) (hS : StR g α st H) (p : Post g W σ α H (F env st) fun d _ α' H' => ∀ v, RV g α' H' d v -> Q v H') : tV g W F σ H Q := ⟨α, env, st, hE, hS, p⟩
def e2 (o : D -> D -> Sto -> R D) (Fa Fb : DE) : DE := fun env st => (Fa env st).bind fun a st1 => (Fb env st1).bind fun b st2 => o a b st2
def e1 (o : D -> Sto -> R D) (Fa : DE) : DE := fun env st => (Fa env st).bind fun a st1 => o a st1
def PD (g : Gd) (W : WX) (σ : L2.St) (α : List Addr) (H : Hp) (r : R D) (Q : VK) : Prop := Post g W σ α H r fun d _ α' H' => ∀ v, RD g α' H' d v -> Q v H'
def Op2 (g : Gd) (X : Cx) (W : WX) (f : Value -> Value -> Sem Value) (o : D -> D -> Sto -> R D) : Prop :=
 ∀ (σ : L2.St) (α : List Addr) (H : Hp) (st : Sto) (a b : D) (x y : V) (Q : VK), StR g α st H -> RV g α H a x -> RV g α H b y -> PD g W σ α H (o a b st) Q -> ∃ r, OpR X f r /\ r x y H Q
/-- an operator that takes no such list -/
theorem ZiY {g : Gd} {X : Cx} {W : WX} {f : Value -> Value -> Sem Value} {o : D -> D -> Sto -> R D} (h1 : ∀ ds b st, o (.ev ds) b st = .stuck) (h2 : ∀ a ds st, o a (.ev ds) st = .stuck)
  (h : ∀ (σ : L2.St) (α : List Addr) (H : Hp) (st : Sto) (a b : D) (x y : V) (Q : VK), StR g α st H -> RD g α H a x -> RD g α H b y -> PD g W σ α H (o a b st) Q -> ∃ r, OpR X f r /\ r x y H Q) : Op2 g X W f o := by
 intro σ α H st a b x y Q s ra rb p
 refine h σ α H st a b x y Q s (ra.rd fun ds e => ?_) (rb.rd fun ds e => ?_) p
 ·subst e; rw [h1] at p; exact p.elim
 ·subst e; rw [h2] at p; exact p.elim
theorem any2 {X : Cx} {f : Value -> Value -> Sem Value} : OpR X f (fun x y H Q => ∃ r, OpR X f r /\ r x y H Q) :=
 fun pins s σ H x y v u Q I rx ry ⟨_, h, q⟩ => h pins s σ H x y v u Q I rx ry q
section
variable {g : Gd} {X : Cx} {W : WX} {a b : Expr} {Fa Fb : DE} {pos : Pos}
theorem two {f : Value -> Value -> Sem Value} {o : D -> D -> Sto -> R D} (h : Op2 g X W f o) : ∀ σ H Q, tE g W (e2 o Fa Fb) σ H Q -> tOp (fun x y H Q => ∃ r, OpR X f r /\ r x y H Q) (tV g W Fa) (tV g W Fb) σ H Q :=
 fun σ H Q ⟨α, env, st, hE, hS, p⟩ => by
  refine tV.run hE hS (p.bind.imp fun d1 st1 α1 H1 x1 s1 q v1 r1 => ?_)
  refine tV.run (hE.mono x1) s1 (q.bind.imp fun d2 st2 α2 H2 x2 s2 q2 v2 r2 => ?_)
  exact h σ α2 H2 st2 d1 d2 v1 v2 Q s2 (r1.mono x2) r2 q2
theorem Zam {op : Operator} {o : D -> D -> Sto -> R D} (h : Op2 g X W (binaryOp op) o) (ha : OV g X W a Fa) (hb : OV g X W b Fb) : OE g X W (.BinOp a op b pos) (e2 o Fa Fb) :=
 ofE (pe_op any2 ha hb) (two h)
theorem ZjL {op : CmpOp} {o : D -> D -> Sto -> R D} (h : Op2 g X W (compareOp op) o) (ha : OV g X W a Fa) (hb : OV g X W b Fb) (hm : behindInMarks op b = false := by rfl) : OE g X W (.Compare a [op] [b] pos) (e2 o Fa Fb) :=
 ofE (pe_cmpR any2 ha hb hm) (two h)
end
end Mi
namespace Mi
open PySem PySem.Spec PyProof.Rows L2
theorem Zh9 (l : Addr) (items : Array Value) (n : Nat) (dd : Option Addr) (sl : Array (Option Value)) (x : Int) (u : Tok) (c0 : (decide (x < -(2 ^ 63)) || decide (x >= 2 ^ 63)) = false) (c1 : (items.isEmpty || x == 1) = true) :
  Meets (Builtin.«tuple.__mul__» ⟨[.ref l, .int x u], []⟩) (fun _ R s => s.heap.get? l = some { cls := .type "tuple", dict := dd, data := .seq items n, slots := sl } /\ R (.ok (.ret (Value.ref l))) s) :=
 .of_wp fun prog w A R s h => by
  obtain ⟨hp, g, d, tk, os⟩ := s
  obtain ⟨hl, h⟩ := h
  have f1 := AutoSeq1.idx_int
  wp_walk using wpAny_loadPart' hl
  repeat (first
   | (refine wpAny_ite_false (decide_eq_false (by rw [c0]; exact Bool.false_ne_true)) ?_; wp_walk using wpAny_loadPart' hl)
   | (refine wpAny_ite_true (decide_eq_true c1) ?_; wp_walk using wpAny_loadPart' hl))
  exact ⟨_, rfl, h⟩
theorem Zih (l : Addr) (items : Array Value) (n : Nat) (dd : Option Addr) (sl : Array (Option Value)) (x : Int) (u : Tok) (c0 : (decide (x < -(2 ^ 63)) || decide (x >= 2 ^ 63)) = false) (c1 : (items.isEmpty || x == 1) = false) (c2 : (decide (x <= 0) || items.isEmpty) = true) :
  Meets (Builtin.«tuple.__mul__» ⟨[.ref l, .int x u], []⟩) (fun _ R s => s.heap.get? l = some { cls := .type "tuple", dict := dd, data := .seq items n, slots := sl } /\
   R (.ok (.ret (Value.ref s.heap.objs.size))) { s with heap := s.heap.push { cls := Value.type "tuple", data := Data.seq #[] }, toks := s.toks }) :=
 .of_wp fun prog w A R s h => by
  obtain ⟨hp, g, d, tk, os⟩ := s
  obtain ⟨hl, h⟩ := h
  have f1 := AutoSeq1.idx_int
  wp_walk using wpAny_loadPart' hl
  repeat (first
   | (refine wpAny_ite_false (decide_eq_false (by rw [c0]; exact Bool.false_ne_true)) ?_; wp_walk using wpAny_loadPart' hl)
   | (refine wpAny_ite_false (decide_eq_false (by rw [c1]; exact Bool.false_ne_true)) ?_; wp_walk using wpAny_loadPart' hl)
   | (refine wpAny_ite_true (decide_eq_true c2) ?_; wp_walk using wpAny_loadPart' hl))
  exact ⟨_, rfl, h⟩
def rRepSame (K : PySem.W.Frag) : R2 := fun x y H Q => ∃ l k xs, x = .ref l /\ y = .int k /\ SqT K H l xs /\ (xs = [] \/ k = 1) /\ -(2 ^ 63) <= k /\ k < 2 ^ 63 /\ Q (.ref l) H
def rRepNone (K : PySem.W.Frag) : R2 := fun x y H Q => ∃ l k xs, x = .ref l /\ y = .int k /\ SqT K H l xs /\ xs ≠ [] /\ k <= 0 /\ -(2 ^ 63) <= k /\ ∀ p, H p = none -> Q (.ref p) (upd H p (.tup []))
section
variable {X : Cx}
theorem ZjT : OpR X (binaryOp .Mult) (rRepSame X.K) := by
 intro pins s σ H x y v u Q I rx ry h
 obtain ⟨l, k, xs, rfl, rfl, hT, hne, h1, h2, q⟩ := h
 cases rx
 obtain ⟨t, rfl⟩ := ry
 obtain ⟨its, r, ⟨⟨cls, dd, data, sl⟩, ho, hc, n, hd⟩, hs⟩ := I.tuple hT
 simp only at hc hd
 subst hc hd
 have hle : its.length = xs.length := r.length.symm
 have c0 : (decide (k < -(2 ^ 63)) || decide (k >= 2 ^ 63)) = false := by
  rw [decide_eq_false (by omega), decide_eq_false (by omega)] <;> rfl
 have c1 : (its.toArray.isEmpty || k == 1) = true := by
  rcases hne with rfl | rfl
  ·have : its = [] := List.eq_nil_of_length_eq_zero hle
   subst this
   rfl
  ·simp
 exact wpAny_binaryOp_repeat_ref (T := "tuple") (U := "int") (by decide) ⟨_, ho, rfl⟩ (fun s' => typeIs_int s' k t) noFill_tuple_mul F.fills_int_mul F.slot_int_rmul repeat_tuple F.slot_int_index.lookup
  (call_meets F.slot_int_rmul (typeIs_int s k t) F.entry_int_rmul (F.args_int_rmul_2 _ _) (int_rmul_tuple k t l its.toArray n dd sl)
   ⟨ho, rfl, ⟨_, ho, rfl⟩, call_meets F.slot_tuple_mul ⟨_, ho, rfl⟩ F.entry_tuple_mul (F.args_tuple_mul_2 _ _) (Zh9 l its.toArray n dd sl k t c0 c1) ⟨ho, .ref l, H, I, rfl, q⟩⟩)
theorem ZjN : OpR X (binaryOp .Mult) (rRepNone X.K) := by
 intro pins s σ H x y v u Q I rx ry h
 obtain ⟨l, k, xs, rfl, rfl, hT, hne, h1, h2, q⟩ := h
 cases rx
 obtain ⟨t, rfl⟩ := ry
 obtain ⟨its, r, ⟨⟨cls, dd, data, sl⟩, ho, hc, n, hd⟩, hs⟩ := I.tuple hT
 simp only at hc hd
 subst hc hd
 have hle : its.length = xs.length := r.length.symm
 have c0 : (decide (k < -(2 ^ 63)) || decide (k >= 2 ^ 63)) = false := by
  rw [decide_eq_false (by omega), decide_eq_false (by omega)] <;> rfl
 have hi : its.toArray.isEmpty = false := by
  cases its with
  | nil => exact absurd (List.eq_nil_of_length_eq_zero hle.symm) hne
  | cons a b => rfl
 have c1 : (its.toArray.isEmpty || k == 1) = false := by
  rw [hi, Bool.false_or]
  exact beq_eq_false_iff_ne.mpr (by omega)
 have c2 : (decide (k <= 0) || its.toArray.isEmpty) = true := by
  rw [decide_eq_true h1, Bool.true_or]
 refine wpAny_binaryOp_repeat_ref (T := "tuple") (U := "int") (by decide) ⟨_, ho, rfl⟩ (fun s' => typeIs_int s' k t) noFill_tuple_mul F.fills_int_mul F.slot_int_rmul repeat_tuple F.slot_int_index.lookup
  (call_meets F.slot_int_rmul (typeIs_int s k t) F.entry_int_rmul (F.args_int_rmul_2 _ _) (int_rmul_tuple k t l its.toArray n dd sl)
   ⟨ho, rfl, ⟨_, ho, rfl⟩, call_meets F.slot_tuple_mul ⟨_, ho, rfl⟩ F.entry_tuple_mul (F.args_tuple_mul_2 _ _) (Zih l its.toArray n dd sl k t c0 c1 c2) ⟨ho, ?_⟩⟩)
 refine ⟨.ref s.heap.objs.size, _, I.laid (t' := s.toks) (o := .tup []) (fun b ob q => Heap.get?_push_of_some _ q) (Nat.le_refl _) ?_, rfl, q _ (I.hok.fresh (Nat.le_refl _))⟩
 exact ⟨Nat.zero_le _, [], Paired.nil, IsTup.new _ _⟩
/-- tuple * int, for longer tuples -/
def rRepL (K : PySem.W.Frag) : R2 := fun x y H Q => ∃ l k xs, x = .ref l /\ y = .int k /\ SqT K H l xs /\ xs ≠ [] /\ 2 <= k /\ k <= 1000 /\ xs.length <= 10000 /\ ∀ p, H p = none -> Q (.ref p) (upd H p (.tup (List.replicate k.toNat xs).flatten))
theorem Ztr : OpR X (binaryOp .Mult) (rRepL X.K) := by
 intro pins s σ H x y v u Q I rx ry h
 obtain ⟨l, k, xs, rfl, rfl, hT, hne, h1, h2, hz, q⟩ := h
 cases rx
 obtain ⟨t, rfl⟩ := ry
 obtain ⟨its, r, ⟨⟨cls, dd, data, sl⟩, ho, hc, n, hd⟩, hs⟩ := I.tuple hT
 simp only at hc hd
 subst hc hd
 have hle : its.length = xs.length := r.length.symm
 have hi : its.toArray.isEmpty = false := by
  cases its with
  | nil => exact absurd (List.eq_nil_of_length_eq_zero hle.symm) hne
  | cons a b => rfl
 have kz : k.toNat * xs.length <= 1000 * 10000 := Nat.mul_le_mul (by omega) hz
 have hm : ((its.toArray.size : Nat) : Int) * k <= 10000000 := by
  rw [List.size_toArray, hle]
  have e1 : ((k.toNat * xs.length : Nat) : Int) = (xs.length : Int) * k := by
   rw [Int.natCast_mul, Int.mul_comm]
   have : ((k.toNat : Nat) : Int) = k := by omega
   rw [this]
  omega
 have flen : (List.replicate k.toNat its).flatten.length <= sizeLine := by
  rw [PyProof.Rows.lm_len_rep_flat, hle, sizeLine_eq]
  omega
 have c0 : (decide (k < -(2 ^ 63)) || decide (k >= 2 ^ 63)) = false := by
  rw [decide_eq_false (by omega), decide_eq_false (by omega)] <;> rfl
 have c1 : (its.toArray.isEmpty || k == 1) = false := by
  rw [hi, Bool.false_or]
  exact beq_eq_false_iff_ne.mpr (by omega)
 have c2 : (decide (k <= 0) || its.toArray.isEmpty) = false := by
  rw [hi, Bool.or_false]
  exact decide_eq_false (by omega)
 have c4 : Builtin.Tuple.tupleTooMany (((its.toArray.size : Nat) : Int) * k) = false := by
  unfold Builtin.Tuple.tupleTooMany
  rw [sizeLine_eq]
  exact decide_eq_false (by omega)
 refine wpAny_binaryOp_repeat_ref (T := "tuple") (U := "int") (by decide) ⟨_, ho, rfl⟩ (fun s' => typeIs_int s' k t) noFill_tuple_mul F.fills_int_mul F.slot_int_rmul repeat_tuple F.slot_int_index.lookup
  (call_meets F.slot_int_rmul (typeIs_int s k t) F.entry_int_rmul (F.args_int_rmul_2 _ _) (int_rmul_tuple k t l its.toArray n dd sl)
   ⟨ho, rfl, ⟨_, ho, rfl⟩, call_meets F.slot_tuple_mul ⟨_, ho, rfl⟩ F.entry_tuple_mul (F.args_tuple_mul_2 _ _) (tuple_mulW l its.toArray n dd sl k t c0 c1 c2 (by omega) c4 (by rw [size_rep, List.size_toArray]; exact flen)) ⟨ho, ?_⟩⟩)
 rw [size_rep]
 refine ⟨.ref s.heap.objs.size, _, I.laid (t' := s.toks) (o := .tup (List.replicate k.toNat xs).flatten) (fun b ob q => Heap.get?_push_of_some _ q) (Nat.le_refl _) ?_, rfl, q _ (I.hok.fresh (Nat.le_refl _))⟩
 exact ⟨by rw [PyProof.Rows.lm_len_rep_flat, sizeLine_eq]; omega, _, r.rep k.toNat, IsTup.new _ _⟩
/-- a text, so many times -/
def repS (x : Str) (k : Nat) : Str := ⟨(List.replicate k x.cps.toList).flatten.toArray⟩
theorem Zjr (x : Array Nat) : ∀ (n : Nat) (a : Array Nat), (List.replicate n x).foldl (· ++ ·) a = a ++ (List.replicate n x.toList).flatten.toArray
 | 0, a => by simp
 | n + 1, a => by
  rw [List.replicate_succ, List.foldl_cons, Zjr x n, List.replicate_succ, List.flatten_cons]
  apply Array.ext'
  simp
theorem Zli (x : Str) (n : Int) : Txt.mul x n = repS x n.toNat := by
 unfold Txt.mul
 split
 ·rename_i h
  have : n.toNat = 0 := by omega
  rw [this]; rfl
 ·split
  ·rename_i h1 h
   rw [Bool.or_eq_true] at h
   rcases h with h | h
   ·have : n = 1 := by simpa using h
    subst this
    unfold repS
    simp
   ·have h0 : x.cps.toList = [] := by
     have : x.length = 0 := by simpa using h
     exact List.eq_nil_of_length_eq_zero this
    unfold repS
    rw [h0]
    have : (List.replicate n.toNat ([] : List Nat)).flatten = [] := by simp
    rw [this]
    cases x
    simp at h0
    subst h0
    rfl
  ·unfold repS
   rw [Zjr]
   simp
theorem Zkz : OpR X (binaryOp .Mult) (fun x y H Q => ∃ z k, x = .str z /\ y = .int k /\ k <= 1000000 /\ -1000000 <= k /\ z.length * k.toNat <= sizeLine /\ Q (.str (repS z k.toNat)) H) := by
 intro pins s σ H x y v u Q I rx ry h
 obtain ⟨z, k, rfl, rfl, h1, h2, h3, q⟩ := h
 obtain ⟨t, rfl⟩ := rx
 obtain ⟨t', rfl⟩ := ry
 refine SB.mul ⟨?_, fun a b => ?_, fun _ _ => ?_⟩ fun t' n => ⟨.str _, H, I.tok _, ⟨t', by rw [Zli]⟩, q⟩
 ·rw [decide_eq_false (by omega), decide_eq_false (by omega)]; rfl
 ·have hs := sizeLine_eq
  intro hgt
  have hk : 0 < k := by omega
  have := Int.ediv_mul_le (2 ^ 63 - 1) (b := k) (by omega)
  have e1 : ((z.length * k.toNat : Nat) : Int) = (z.length : Int) * k := by
   rw [Int.natCast_mul]
   have : ((k.toNat : Nat) : Int) = k := by omega
   rw [this]
  have h4 : (2 ^ 63 - 1 : Int) < (z.length : Int) * k := by
   have := Int.lt_mul_of_ediv_lt hk hgt
   exact this
  have : ((sizeLine : Nat) : Int) < 2 ^ 63 - 1 := by rw [hs]; decide
  omega
 ·unfold Builtin.Str.tooLong
  exact decide_eq_false (by omega)
def rEqLen (K : PySem.W.Frag) (t f : Bool) : R2 := fun x y H Q => ∃ a b vs ws, x = .ref a /\ y = .ref b /\ ((SqL K H a vs /\ SqL K H b ws) /\ (vs.length ≠ ws.length /\ Q (.bl f) H \/ vs = [] /\ ws = [] /\ Q (.bl t) H) \/
 (SqT K H a vs /\ SqT K H b ws) /\ (vs = [] /\ ws ≠ [] /\ Q (.bl f) H \/ vs ≠ [] /\ ws = [] /\ Q (.bl f) H \/ vs = [] /\ ws = [] /\ Q (.bl t) H))
theorem Zfz (hu : X.A.units < cLine) : OpR X (compareOp .Eq) (rEqLen X.K true false) := by
 intro pins s σ H x y v u Q I rx ry h
 obtain ⟨a, b, vs, ws, rfl, rfl, h⟩ := h
 cases rx
 cases ry
 rcases h with ⟨⟨h1, h2⟩, h⟩ | ⟨⟨h1, h2⟩, h⟩
 ·obtain ⟨its, r1, ⟨o, n, ho, hc, _, hd⟩, _⟩ := I.list h1
  obtain ⟨its', r2, ⟨o', n', ho', hc', _, hd'⟩, _⟩ := I.list h2
  have l1 := r1.length
  have l2 := r2.length
  rcases h with ⟨hn, q⟩ | ⟨rfl, rfl, q⟩
  ·exact SeqAt.RcAt.lists_lengths ⟨o, ho, hc, _, hd⟩ ⟨o', ho', hc', _, hd'⟩ (by simp; omega) hu _ _ _ _ ⟨.bl false, H, I, rfl, q⟩
  ·have e1 : its = [] := List.eq_nil_of_length_eq_zero l1.symm
   have e2 : its' = [] := List.eq_nil_of_length_eq_zero l2.symm
   subst e1 e2
   exact SeqAt.RcAt.lists (e := fun _ => true) ⟨o, ho, hc, _, hd⟩ ⟨o', ho', hc', _, hd'⟩ rfl hu (fun j h1 => absurd h1 (by simp)) _ _ _ _ ⟨.bl true, H, I, rfl, q⟩
 ·obtain ⟨its, r1, ⟨o, ho, hc, n, hd⟩, _⟩ := I.tuple h1
  obtain ⟨its', r2, ⟨o', ho', hc', n', hd'⟩, _⟩ := I.tuple h2
  have l1 := r1.length
  have l2 := r2.length
  rcases h with ⟨rfl, hn, q⟩ | ⟨hn, rfl, q⟩ | ⟨rfl, rfl, q⟩
  ·have e1 : its = [] := List.eq_nil_of_length_eq_zero l1.symm
   subst e1
   cases its' with
   | nil => exact absurd (List.eq_nil_of_length_eq_zero l2) hn
   | cons z zs => exact SeqAt.RcAt.tuples (e := fun _ => true) ⟨o, ho, hc, _, hd⟩ ⟨o', ho', hc', _, hd'⟩ hu (fun j h1 => absurd h1 (by simp)) _ _ _ _ ⟨.bl false, H, I, rfl, q⟩
  ·have e1 : its' = [] := List.eq_nil_of_length_eq_zero l2.symm
   subst e1
   cases its with
   | nil => exact absurd (List.eq_nil_of_length_eq_zero l1) hn
   | cons z zs => exact SeqAt.RcAt.tuples (e := fun _ => true) ⟨o, ho, hc, _, hd⟩ ⟨o', ho', hc', _, hd'⟩ hu (fun j _ h1 => absurd h1 (by simp)) _ _ _ _ ⟨.bl false, H, I, rfl, q⟩
  ·have e1 : its = [] := List.eq_nil_of_length_eq_zero l1.symm
   have e2 : its' = [] := List.eq_nil_of_length_eq_zero l2.symm
   subst e1 e2
   exact SeqAt.RcAt.tuples (e := fun _ => true) ⟨o, ho, hc, _, hd⟩ ⟨o', ho', hc', _, hd'⟩ hu (fun j h1 => absurd h1 (by simp)) _ _ _ _ ⟨.bl true, H, I, rfl, q⟩
theorem Zft (hu : X.A.units < cLine) : OpR X (compareOp .NotEq) (rEqLen X.K false true) := by
 intro pins s σ H x y v u Q I rx ry h
 obtain ⟨a, b, vs, ws, rfl, rfl, h⟩ := h
 cases rx
 cases ry
 rcases h with ⟨⟨h1, h2⟩, h⟩ | ⟨⟨h1, h2⟩, h⟩
 ·obtain ⟨its, r1, ⟨o, n, ho, hc, _, hd⟩, _⟩ := I.list h1
  obtain ⟨its', r2, ⟨o', n', ho', hc', _, hd'⟩, _⟩ := I.list h2
  have l1 := r1.length
  have l2 := r2.length
  rcases h with ⟨hn, q⟩ | ⟨rfl, rfl, q⟩
  ·exact SeqAt.RcNeAt.lists_lengths ⟨o, ho, hc, _, hd⟩ ⟨o', ho', hc', _, hd'⟩ (by simp; omega) hu _ _ _ _ ⟨.bl true, H, I, rfl, q⟩
  ·have e1 : its = [] := List.eq_nil_of_length_eq_zero l1.symm
   have e2 : its' = [] := List.eq_nil_of_length_eq_zero l2.symm
   subst e1 e2
   exact SeqAt.RcNeAt.lists (e := fun _ => true) ⟨o, ho, hc, _, hd⟩ ⟨o', ho', hc', _, hd'⟩ rfl hu (fun j h1 => absurd h1 (by simp)) _ _ _ _ ⟨.bl false, H, I, rfl, q⟩
 ·obtain ⟨its, r1, ⟨o, ho, hc, n, hd⟩, _⟩ := I.tuple h1
  obtain ⟨its', r2, ⟨o', ho', hc', n', hd'⟩, _⟩ := I.tuple h2
  have l1 := r1.length
  have l2 := r2.length
  rcases h with ⟨rfl, hn, q⟩ | ⟨hn, rfl, q⟩ | ⟨rfl, rfl, q⟩
  ·have e1 : its = [] := List.eq_nil_of_length_eq_zero l1.symm
   subst e1
   cases its' with
   | nil => exact absurd (List.eq_nil_of_length_eq_zero l2) hn
   | cons z zs => exact SeqAt.RcNeAt.tuples (e := fun _ => true) ⟨o, ho, hc, _, hd⟩ ⟨o', ho', hc', _, hd'⟩ hu (fun j h1 => absurd h1 (by simp)) _ _ _ _ ⟨.bl true, H, I, rfl, q⟩
  ·have e1 : its' = [] := List.eq_nil_of_length_eq_zero l2.symm
   subst e1
   cases its with
   | nil => exact absurd (List.eq_nil_of_length_eq_zero l1) hn
   | cons z zs => exact SeqAt.RcNeAt.tuples (e := fun _ => true) ⟨o, ho, hc, _, hd⟩ ⟨o', ho', hc', _, hd'⟩ hu (fun j _ h1 => absurd h1 (by simp)) _ _ _ _ ⟨.bl true, H, I, rfl, q⟩
  ·have e1 : its = [] := List.eq_nil_of_length_eq_zero l1.symm
   have e2 : its' = [] := List.eq_nil_of_length_eq_zero l2.symm
   subst e1 e2
   exact SeqAt.RcNeAt.tuples (e := fun _ => true) ⟨o, ho, hc, _, hd⟩ ⟨o', ho', hc', _, hd'⟩ hu (fun j h1 => absurd h1 (by simp)) _ _ _ _ ⟨.bl false, H, I, rfl, q⟩
end
section
end
section
end
end Mi
namespace Mi
open PySem L2
/-- where one stands -/
structure Ck (g : Gd) (X : Cx) (W : WX) : Prop where
 hK : X.K = g.K
 hmg : X.mg = g.mg
 hP : X.prog = g.P
 hw : X.w = g.w
 hb : X.base = g.base
 calm : X.calm = true
 nd : X.N.Nodup
 tk : Takes X W
 gd : X.A.guards = some []
 hu : X.A.units + 200 < cLine
 pw : PassesOwn (model X.prog X.w) X.A X.env X.xe
def addD : D -> D -> Sto -> R D
 | .int i, .int j, st => .ok (.int (i + j)) st
 | .str x, .str y, st => if x.length + y.length <= sizeLine then .ok (.str (x ++ y)) st else .stuck
 | .tup xs, .tup ys, st => if xs.length + ys.length <= sizeLine then .ok (.tup (xs ++ ys)) st else .stuck
 | .obj m, .obj n, st => match st[m]?, st[n]? with
  | some (.lst xs), some (.lst ys) => if xs.length + ys.length <= sizeLine then new (.lst (xs ++ ys)) st else .stuck
  | _, _ => .stuck
 | .obj m, .ev ys, st => match st[m]? with
  | some (.lst xs) => if xs.length + ys.length <= sizeLine then new (.lst (xs ++ ys)) st else .stuck
  | _ => .stuck
 | .ev xs, .obj m, st => match st[m]? with
  | some (.lst ys) => if xs.length + ys.length <= sizeLine then new (.lst (xs ++ ys)) st else .stuck
  | _ => .stuck
 | .ev xs, .ev ys, st => if xs.length + ys.length <= sizeLine then new (.lst (xs ++ ys)) st else .stuck
 | _, _, _ => .stuck
def subD : D -> D -> Sto -> R D
 | .int i, .int j, st => .ok (.int (i - j)) st
 | _, _, _ => .stuck
def mulD : D -> D -> Sto -> R D
 | .int i, .int j, st => if i.natAbs.log2 + j.natAbs.log2 < 1000000 then .ok (.int (i * j)) st else .stuck
 | .obj m, .int k, st => match st[m]? with
  | some (.lst xs) => if -(2 ^ 63) <= k /\ k < 2 ^ 63 /\ xs.length * k.toNat <= sizeLine then new (.lst (List.replicate k.toNat xs).flatten) st else .stuck
  | _ => .stuck
 | .ev xs, .int k, st => if -(2 ^ 63) <= k /\ k < 2 ^ 63 /\ xs.length * k.toNat <= sizeLine then new (.lst (List.replicate k.toNat xs).flatten) st else .stuck
 | .tup xs, .int k, st => if xs ≠ [] /\ 2 <= k /\ k <= 1000 /\ xs.length <= 10000 then .ok (.tup (List.replicate k.toNat xs).flatten) st
  else if (xs = [] \/ k = 1) /\ -(2 ^ 63) <= k /\ k < 2 ^ 63 then .ok (.tup xs) st else if xs ≠ [] /\ k <= 0 /\ -(2 ^ 63) <= k then .ok (.tup []) st else .stuck
 | .str x, .int k, st => if k <= 1000000 /\ -1000000 <= k /\ x.length * k.toNat <= sizeLine then .ok (.str (repS x k.toNat)) st else .stuck
 | _, _, _ => .stuck
def modD : D -> D -> Sto -> R D
 | .int i, .int j, st => if 0 < j then .ok (.int (i % j)) st else .stuck
 | _, _, _ => .stuck
def fdivD : D -> D -> Sto -> R D
 | .int i, .int j, st => if 0 < j /\ j.natAbs.log2 < 9000 then .ok (.int (i / j)) st else .stuck
 | _, _, _ => .stuck
def powD : D -> D -> Sto -> R D
 | .int i, .int j, st => if 0 <= j /\ j <= 1000000 /\ i.natAbs < 2 ^ 64 then .ok (.int (i ^ j.toNat)) st else .stuck
 | _, _, _ => .stuck
def negD : D -> Sto -> R D
 | .int i, st => .ok (.int (-i)) st
 | _, _ => .stuck
section
variable {g : Gd} {X : Cx} {W : WX} {σ : L2.St} {α : List Addr} {H : Hp} {st : Sto}
theorem PD.ok {d : D} {Q : VK} {v : V} (p : PD g W σ α H (.ok d st) Q) (s : StR g α st H) (r : RD g α H d v) : Q v H := Post.ok p s v r
/-- a new tuple -/
theorem PD.tup {ds : List D} {vs : List V} {Q : VK} (p : PD g W σ α H (.ok (.tup ds) st) Q) (s : StR g α st H) (r : RDs g α H ds vs) : ∀ q, H q = none -> Q (.ref q) (upd H q (.tup vs)) := fun q hq =>
 p α _ (Zcj s hq _) (s.temp hq _) _ ⟨q, vs, rfl, .inl (.inl upd_same), r.mono (Zcj s hq _)⟩
/-- a new list -/
theorem PD.lst {ds : List D} {vs : List V} {Q : VK} (p : PD g W σ α H (new (.lst ds) st) Q) (s : StR g α st H) (r : RDs g α H ds vs) : ∀ q, H q = none -> Q (.ref q) (upd H q (.lst vs)) := fun q hq =>
 p (α ++ [q]) _ (Zem s hq _) (s.alloc hq ⟨vs, upd_same, r.mono (Zem s hq _)⟩) _ ⟨q, rfl, Zk9 s q, by rw [upd_same]; exact Zkj⟩
/-- a list of the store, by its value -/
theorem StR.lst (s : StR g α st H) {n : Nat} {v : V} {ds : List D} (h : RD g α H (.obj n) v) (e : st[n]? = some (.lst ds)) : ∃ a vs, v = .ref a /\ α[n]? = some a /\ H a = some (.lst vs) /\ RDs g α H ds vs := by
 obtain ⟨a, rfl, ha, _⟩ := h
 obtain ⟨vs, h1, h2⟩ := s.ob n a _ ha e
 exact ⟨a, vs, rfl, ha, h1, h2⟩
def seqOf (st : Sto) (n : Nat) : Option (List D) := match st[n]? with
 | some (.lst ds) => some ds
 | some (.frz ds) => some ds
 | _ => none
theorem StR.seq (s : StR g α st H) {n : Nat} {v : V} {ds : List D} (h : RD g α H (.obj n) v) (e : seqOf st n = some ds) : ∃ a vs, v = .ref a /\ α[n]? = some a /\ SqL g.K H a vs /\ RDs g α H ds vs := by
 obtain ⟨a, rfl, ha, _⟩ := h
 unfold seqOf at e
 split at e
 ·rename_i xs e'
  cases e
  obtain ⟨vs, h1, h2⟩ := s.ob n a _ ha e'
  exact ⟨a, vs, rfl, ha, .inl (.inl h1), h2⟩
 ·rename_i xs e'
  cases e
  obtain ⟨o, vs, h1, h2⟩ := s.ob n a _ ha e'
  exact ⟨a, vs, rfl, ha, .inl (.inr ⟨o, h1⟩), h2⟩
 ·cases e
theorem StR.seqA (s : StR g α st H) {n : Nat} {a : Addr} {ds : List D} (ha : α[n]? = some a) (e : seqOf st n = some ds) : ∃ b vs, V.ref a = .ref b /\ α[n]? = some b /\ SqL g.K H b vs /\ RDs g α H ds vs := by
 unfold seqOf at e
 split at e
 ·rename_i xs e'
  cases e
  obtain ⟨vs, h1, h2⟩ := s.ob n a _ ha e'
  exact ⟨a, vs, rfl, ha, .inl (.inl h1), h2⟩
 ·rename_i xs e'
  cases e
  obtain ⟨o, vs, h1, h2⟩ := s.ob n a _ ha e'
  exact ⟨a, vs, rfl, ha, .inl (.inr ⟨o, h1⟩), h2⟩
 ·cases e
theorem Zen (c : Ck g X W) : Op2 g X W (binaryOp .Add) addD := by
 intro σ α H st a b x y Q s ra rb p
 have lst : ∀ {d : D} {v : V} {n : Nat} {xs : List D}, RV g α H (.obj n) v -> st[n]? = some (.lst xs) -> ∃ l vs, v = .ref l /\ H l = some (.lst vs) /\ RDs g α H xs vs := fun {d v n xs} r e => by
  obtain ⟨l, vs, h1, _, h2, h3⟩ := s.lst (r.rd (fun _ z => nomatch z)) e
  exact ⟨l, vs, h1, h2, h3⟩
 have cat : ∀ {l1 l2 : Addr} {xs ys : List D} {vs ws : List V}, x = .ref l1 -> y = .ref l2 -> H l1 = some (.lst vs) -> H l2 = some (.lst ws) -> RDs g α H xs vs -> RDs g α H ys ws -> xs.length + ys.length <= sizeLine -> PD g W σ α H (new (.lst (xs ++ ys)) st) Q -> ∃ r, OpR X (binaryOp .Add) r /\ r x y H Q := fun {l1 l2 xs ys vs ws} e1 e2 h1 h2 r1 r2 hl p => by
  rw [r1.length, r2.length] at hl
  exact ⟨_, op_cat, l1, l2, vs, ws, e1, e2, h1, h2, hl, p.lst s (r1.append r2)⟩
 cases a <;> cases b <;> first | exact p.elim | skip
 ·cases ra.rd (fun _ z => nomatch z); cases rb.rd (fun _ z => nomatch z)
  exact ⟨_, op_add, _, _, rfl, rfl, p.ok s rfl⟩
 ·cases ra.rd (fun _ z => nomatch z); cases rb.rd (fun _ z => nomatch z)
  dsimp only [addD] at p
  split at p
  ·exact ⟨_, op_add_str, _, _, rfl, rfl, by assumption, p.ok s rfl⟩
  ·exact p.elim
 ·obtain ⟨a1, vs, rfl, h1, r1⟩ := ra.rd (fun _ z => nomatch z)
  obtain ⟨a2, ws, rfl, h2, r2⟩ := rb.rd (fun _ z => nomatch z)
  dsimp only [addD] at p
  split at p
  ·rename_i hl
   rw [r1.length, r2.length] at hl
   refine ⟨_, op_catA, a1, a2, vs, ws, rfl, rfl, by rw [c.hK]; exact h1, by rw [c.hK]; exact h2, hl, fun e => ?_, fun _ e => ?_, fun _ _ => p.tup s (r1.append r2)⟩
   ·subst e
    have e0 := r1.length
    rw [List.length_nil, List.length_eq_zero_iff] at e0
    subst e0
    exact p.ok s ⟨a2, ws, rfl, h2, r2⟩
   ·subst e
    have e0 := r2.length
    rw [List.length_nil, List.length_eq_zero_iff] at e0
    subst e0
    rw [List.append_nil] at p
    exact p.ok s ⟨a1, vs, rfl, h1, r1⟩
  ·exact p.elim
 ·dsimp only [addD] at p
  split at p
  ·rename_i e1 e2
   split at p
   ·rename_i hl
    obtain ⟨l1, vs, q1, h1, r1⟩ := lst (d := .non) ra e1
    obtain ⟨l2, ws, q2, h2, r2⟩ := lst (d := .non) rb e2
    exact cat q1 q2 h1 h2 r1 r2 hl p
   ·exact p.elim
  ·exact p.elim
 ·dsimp only [addD] at p
  split at p
  ·rename_i e1
   split at p
   ·rename_i hl
    obtain ⟨l1, vs, q1, h1, r1⟩ := lst (d := .non) ra e1
    obtain ⟨l2, ws, q2, _, h2, r2⟩ := rb.ev
    exact cat q1 q2 h1 h2 r1 r2 hl p
   ·exact p.elim
  ·exact p.elim
 ·dsimp only [addD] at p
  split at p
  ·rename_i e1
   split at p
   ·rename_i hl
    obtain ⟨l1, vs, q1, _, h1, r1⟩ := ra.ev
    obtain ⟨l2, ws, q2, h2, r2⟩ := lst (d := .non) rb e1
    exact cat q1 q2 h1 h2 r1 r2 hl p
   ·exact p.elim
  ·exact p.elim
 ·dsimp only [addD] at p
  split at p
  ·rename_i hl
   obtain ⟨l1, vs, q1, _, h1, r1⟩ := ra.ev
   obtain ⟨l2, ws, q2, _, h2, r2⟩ := rb.ev
   exact cat q1 q2 h1 h2 r1 r2 hl p
  ·exact p.elim
theorem ZsU : Op2 g X W (binaryOp .Sub) subD := by
 refine ZiY (fun _ _ _ => rfl) (fun a _ _ => by cases a <;> rfl) ?_
 intro σ α H st a b x y Q s ra rb p
 cases a <;> cases b <;> first | exact p.elim | skip
 cases ra; cases rb
 exact ⟨_, op_sub, _, _, rfl, rfl, p.ok s rfl⟩
theorem RDs.rep : ∀ (k : Nat) {ds : List D} {vs : List V}, RDs g α H ds vs -> RDs g α H (List.replicate k ds).flatten (List.replicate k vs).flatten
 | 0, _, _, _ => by simp [RDs]
 | k + 1, ds, vs, h => by
  rw [List.replicate_succ, List.replicate_succ, List.flatten_cons, List.flatten_cons]
  exact h.append (RDs.rep k h)
theorem Zjb (c : Ck g X W) : Op2 g X W (binaryOp .Mult) mulD := by
 intro σ α H st a b x y Q s ra rb p
 cases a <;> cases b <;> first | exact p.elim | skip
 ·cases ra.rd (fun _ z => nomatch z); cases rb.rd (fun _ z => nomatch z)
  dsimp only [mulD] at p
  split at p
  ·exact ⟨_, op_mulW, _, _, rfl, rfl, by assumption, p.ok s rfl⟩
  ·exact p.elim
 ·cases ra.rd (fun _ z => nomatch z); cases rb.rd (fun _ z => nomatch z)
  dsimp only [mulD] at p
  split at p
  ·rename_i h
   exact ⟨_, Zkz, _, _, rfl, rfl, h.1, h.2.1, h.2.2, p.ok s rfl⟩
  ·exact p.elim
 ·cases rb.rd (fun _ z => nomatch z)
  dsimp only [mulD] at p
  split at p
  ·rename_i h
   obtain ⟨h0, h1, h2, h3⟩ := h
   obtain ⟨a1, vs, rfl, q1, r1⟩ := ra.rd (fun _ z => nomatch z)
   refine ⟨_, Ztr, a1, _, vs, rfl, rfl, by rw [c.hK]; exact q1, fun e => ?_, h1, h2, by rw [<- r1.length]; exact h3, p.tup s (r1.rep _)⟩
   subst e
   exact h0 (List.length_eq_zero_iff.mp r1.length)
  ·split at p
   ·rename_i h
    obtain ⟨a1, vs, rfl, q1, r1⟩ := ra.rd (fun _ z => nomatch z)
    refine ⟨_, ZjT, a1, _, vs, rfl, rfl, by rw [c.hK]; exact q1, ?_, h.2.1, h.2.2, p.ok s ⟨a1, vs, rfl, q1, r1⟩⟩
    rcases h.1 with e | e
    ·subst e
     exact .inl (List.length_eq_zero_iff.mp r1.length.symm)
    ·exact .inr e
   ·split at p
    ·rename_i h
     obtain ⟨a1, vs, rfl, q1, r1⟩ := ra.rd (fun _ z => nomatch z)
     refine ⟨_, ZjN, a1, _, vs, rfl, rfl, by rw [c.hK]; exact q1, fun e => ?_, h.2.1, h.2.2, p.tup s RDs.nil⟩
     subst e
     exact h.1 (List.length_eq_zero_iff.mp r1.length)
    ·exact p.elim
 ·cases rb.rd (fun _ z => nomatch z)
  dsimp only [mulD] at p
  split at p
  ·rename_i e1
   split at p
   ·rename_i h
    obtain ⟨h1, h2, h3⟩ := h
    obtain ⟨a1, vs, rfl, _, q1, r1⟩ := s.lst (ra.rd (fun _ z => nomatch z)) e1
    exact ⟨_, op_rep, a1, _, vs, rfl, rfl, q1, h1, h2, by rw [<- r1.length]; exact h3, p.lst s (r1.rep _)⟩
   ·exact p.elim
  ·exact p.elim
 ·cases rb.rd (fun _ z => nomatch z)
  dsimp only [mulD] at p
  split at p
  ·rename_i h
   obtain ⟨h1, h2, h3⟩ := h
   obtain ⟨a1, vs, rfl, _, q1, r1⟩ := ra.ev
   exact ⟨_, op_rep, a1, _, vs, rfl, rfl, q1, h1, h2, by rw [<- r1.length]; exact h3, p.lst s (r1.rep _)⟩
  ·exact p.elim
theorem ZiU : Op2 g X W (binaryOp .Mod) modD := by
 refine ZiY (fun _ _ _ => rfl) (fun a _ _ => by cases a <;> rfl) ?_
 intro σ α H st a b x y Q s ra rb p
 cases a <;> cases b <;> first | exact p.elim | skip
 cases ra; cases rb
 dsimp only [modD] at p
 split at p
 ·exact ⟨_, op_mod, _, _, rfl, rfl, by assumption, p.ok s rfl⟩
 ·exact p.elim
theorem Zjv : Op2 g X W (binaryOp .FloorDiv) fdivD := by
 refine ZiY (fun _ _ _ => rfl) (fun a _ _ => by cases a <;> rfl) ?_
 intro σ α H st a b x y Q s ra rb p
 cases a <;> cases b <;> first | exact p.elim | skip
 cases ra; cases rb
 dsimp only [fdivD] at p
 split at p
 ·exact ⟨_, op_fdivW, _, _, rfl, rfl, by assumption, p.ok s rfl⟩
 ·exact p.elim
theorem Zkn : Op2 g X W (binaryOp .Pow) powD := by
 refine ZiY (fun _ _ _ => rfl) (fun a _ _ => by cases a <;> rfl) ?_
 intro σ α H st a b x y Q s ra rb p
 cases a <;> cases b <;> first | exact p.elim | skip
 cases ra; cases rb
 dsimp only [powD] at p
 split at p
 ·exact ⟨_, op_pow, _, _, rfl, rfl, by assumption, p.ok s rfl⟩
 ·exact p.elim
end
def strLt (x y : Str) : Bool := decide (x.cps.toList < y.cps.toList)
def cmpD (fi : Int -> Int -> Bool) (fs : Str -> Str -> Bool) : D -> D -> Sto -> R D
 | .int i, .int j, st => .ok (.bl (fi i j)) st
 | .str x, .str y, st => .ok (.bl (fs x y)) st
 | .bl p, .bl q, st => .ok (.bl (fi (if p then 1 else 0) (if q then 1 else 0))) st
 | _, _, _ => .stuck
def ltD : D -> D -> Sto -> R D := cmpD (fun i j => decide (i < j)) strLt
def leD : D -> D -> Sto -> R D := cmpD (fun i j => decide (i <= j)) fun x y => !strLt y x
def gtD : D -> D -> Sto -> R D := cmpD (fun i j => decide (j < i)) fun x y => strLt y x
def geD : D -> D -> Sto -> R D := cmpD (fun i j => decide (j <= i)) fun x y => !strLt x y
def isD : D -> D -> Sto -> R D
 | .ev _, _, _ => .stuck
 | .non, .non, st => .ok (.bl true) st
 | _, .non, st => .ok (.bl false) st
 | _, _, _ => .stuck
def isNotD : D -> D -> Sto -> R D
 | .ev _, _, _ => .stuck
 | .non, .non, st => .ok (.bl false) st
 | _, .non, st => .ok (.bl true) st
 | _, _, _ => .stuck
section
variable {g : Gd} {X : Cx} {W : WX}
abbrev rBB (fi : Int -> Int -> Bool) : V -> V -> Hp -> VK -> Prop := fun x y H Q => ∃ p q : Bool, x = .bl p /\ y = .bl q /\ Q (.bl (fi (if p then 1 else 0) (if q then 1 else 0))) H
theorem ZyL {op : CmpOp} {fi : Int -> Int -> Bool} (h : ∀ {p q : Bool} {s : Shared} {Q : Value -> Shared -> Prop}, Q (.bool (fi (if p then 1 else 0) (if q then 1 else 0))) s -> wpAny (model X.prog X.w) X.A (compareOp op (.bool p) (.bool q)) Q X.xe s) : OpR X (compareOp op) (rBB fi) := by
 intro pins s σ H x y v u Q I rx ry k
 obtain ⟨p, q, rfl, rfl, z⟩ := k
 cases rx
 cases ry
 exact h (fin_bl I z rfl)
theorem ZsR {op : CmpOp} {fi : Int -> Int -> Bool} {fs : Str -> Str -> Bool} (h1 : OpR X (compareOp op) (rI0 fun i j => .bl (fi i j)))
  (h2 : OpR X (compareOp op) (fun x y H Q => ∃ i j, x = .str i /\ y = .str j /\ Q (.bl (fs i j)) H)) (h3 : OpR X (compareOp op) (rBB fi)) : Op2 g X W (compareOp op) (cmpD fi fs) := by
 refine ZiY (fun _ _ _ => rfl) (fun a _ _ => by cases a <;> rfl) ?_
 intro σ α H st a b x y Q s ra rb p
 cases a <;> cases b <;> first | exact p.elim | skip
 ·cases ra; cases rb
  exact ⟨_, h3, _, _, rfl, rfl, p.ok s rfl⟩
 ·cases ra; cases rb
  exact ⟨_, h1, _, _, rfl, rfl, p.ok s rfl⟩
 ·cases ra; cases rb
  exact ⟨_, h2, _, _, rfl, rfl, p.ok s rfl⟩
theorem Zvd : Op2 g X W (compareOp .Lt) ltD := ZsR op_lt op_lt_str (ZyL fun k => PyProof.Rows.lt_bool k)
end
end Mi
namespace Mi
open PySem L2
def allO {β γ : Type} (f : β -> Option γ) : List β -> Option (List γ)
 | [] => some []
 | a :: r => match f a, allO f r with
  | some b, some bs => some (b :: bs)
  | _, _ => none
def toP (st : Sto) : Nat -> D -> Option PyData
 | _, .non => some .none
 | _, .bl b => some (.bool b)
 | _, .int i => some (.int i)
 | _, .str x => some (.str x)
 | n + 1, .tup ds => match allO (toP st n) ds with | some ps => some (.tuple ps) | none => none
 | n + 1, .obj k => match seqOf st k with
  | some ds => (match allO (toP st n) ds with | some ps => some (.list ps) | none => none)
  | none => none
 | n + 1, .kl ds => match allO (toP st n) ds with | some ps => some (.list ps) | none => none
 | n + 1, .ev ds => match allO (toP st n) ds with | some ps => some (.list ps) | none => none
 | _, _ => none
section
variable {g : Gd} {X : Cx} {W : WX} {σ : L2.St} {α : List Addr} {H : Hp} {st : Sto}
theorem dps {f : D -> Option PyData} (hf : ∀ d v p, f d = some p -> RD g α H d v -> Dp g.K H v p) : ∀ {ds : List D} {vs : List V} {ps : List PyData}, allO f ds = some ps -> RDs g α H ds vs -> DpAll g.K H vs ps
 | [], vs, ps, e, h => by
  cases e
  cases h
  exact .nil
 | d :: ds, vs, ps, e, h => by
  obtain ⟨v, r, rfl, h1, h2⟩ := h
  rw [allO] at e
  split at e
  ·rename_i b bs e1 e2
   cases e
   exact .cons (hf d v _ e1 h1) (dps hf e2 h2)
  ·cases e
theorem dp (s : StR g α st H) : ∀ (n : Nat) (d : D) (v : V) (p : PyData), toP st n d = some p -> RD g α H d v -> Dp g.K H v p := by
 intro n
 induction n with
 | zero =>
  intro d v p e h
  cases d <;> simp only [toP] at e <;> first
   | (cases e; cases h; constructor)
   | cases e
 | succ n ih =>
  intro d v p e h
  cases d with
  | non => cases e; cases h; constructor
  | bl => cases e; cases h; constructor
  | int => cases e; cases h; constructor
  | str => cases e; cases h; constructor
  | tup ds =>
   obtain ⟨a, vs, rfl, h1, h2⟩ := h
   rw [toP] at e
   split at e
   ·rename_i ps e'
    cases e
    exact .tup h1 (dps ih e' h2)
   ·cases e
  | obj k =>
   rw [toP] at e
   split at e
   ·rename_i ds e'
    split at e
    ·rename_i ps e2
     cases e
     obtain ⟨a, vs, rfl, _, h1, h2⟩ := s.seq h e'
     exact .lst h1 (dps ih e2 h2)
    ·cases e
   ·cases e
  | fn => cases e
  | ty => cases e
  | kl ds =>
   obtain ⟨a, vs, rfl, h1, h2⟩ := h
   rw [toP] at e
   split at e
   ·rename_i ps e'
    cases e
    exact .lst h1.sq (dps ih e' h2)
   ·cases e
  | ev ds => exact h.elim
theorem dpV (s : StR g α st H) (n : Nat) (d : D) (v : V) (p : PyData) (e : toP st n d = some p) (h : RV g α H d v) : Dp g.K H v p := by
 rcases h with h | ⟨ds, a, vs, rfl, rfl, _, ha, r⟩
 ·exact dp s n d v p e h
 ·cases n with
  | zero => cases e
  | succ n =>
   rw [toP] at e
   split at e
   ·rename_i ps e'
    cases e
    exact .lst (.inl (.inl ha)) (dps (fun d v p => dp s n d v p) e' r)
   ·cases e
end
def lstOf : D -> Sto -> Option (List D)
 | .ev ds, _ => some ds
 | .obj n, st => match st[n]? with | some (.lst ds) => some ds | _ => none
 | _, _ => none
def eqLen (a b : D) (st : Sto) : Option Bool := match lstOf a st, lstOf b st with
 | some ds, some es => if ds.length ≠ es.length then some false else if ds = [] then some true else none
 | _, _ => match a, b with
  | .tup ds, .tup es => if ds = [] /\ es ≠ [] then some false else if ds ≠ [] /\ es = [] then some false else if ds = [] /\ es = [] then some true else none
  | _, _ => none
def eqG (a b : D) (st : Sto) : Option Bool := match toP st 66 a, toP st 66 b with
 | some p, some q => if (SeqAt.shaped p && SeqAt.shaped q) = true then some (PyData.eqv p q) else eqLen a b st
 | _, _ => eqLen a b st
def eqO : D -> D -> Sto -> Option Bool
 | .int i, .int j, _ => some (decide (i = j))
 | .str x, .str y, _ => some (decide (x = y))
 | a, b, st => eqG a b st
def eqD (a b : D) (st : Sto) : R D := match eqO a b st with | some c => .ok (.bl c) st | none => .stuck
def neD (a b : D) (st : Sto) : R D := match eqO a b st with | some c => .ok (.bl (!c)) st | none => .stuck
section
variable {g : Gd} {X : Cx} {W : WX}
theorem ZoN {α : List Addr} {H : Hp} {st : Sto} {a : D} {x : V} {ds : List D} (s : StR g α st H) (ra : RV g α H a x) (e : lstOf a st = some ds) : ∃ a1 vs, x = .ref a1 /\ SqL g.K H a1 vs /\ RDs g α H ds vs := by
 cases a with
 | ev es =>
  cases e
  obtain ⟨a1, vs, rfl, _, q, r⟩ := ra.ev
  exact ⟨a1, vs, rfl, .inl (.inl q), r⟩
 | obj n =>
  unfold lstOf at e
  dsimp only at e
  split at e
  ·rename_i es e1
   cases e
   obtain ⟨a1, vs, rfl, _, q, r⟩ := s.lst (ra.rd (fun _ z => nomatch z)) e1
   exact ⟨a1, vs, rfl, .inl (.inl q), r⟩
  ·cases e
 | _ => cases e
theorem eqO_ok (c : Ck g X W) {α : List Addr} {H : Hp} {st : Sto} {a b : D} {x y : V} {k : Bool} (s : StR g α st H) (ra : RV g α H a x) (rb : RV g α H b y) (h : eqO a b st = some k) :
  (∀ Q : VK, Q (.bl k) H -> ∃ r, OpR X (compareOp .Eq) r /\ r x y H Q) /\ ∀ Q : VK, Q (.bl (!k)) H -> ∃ r, OpR X (compareOp .NotEq) r /\ r x y H Q := by
 have gen0 : eqLen a b st = some k -> (∀ Q : VK, Q (.bl k) H -> ∃ r, OpR X (compareOp .Eq) r /\ r x y H Q) /\ ∀ Q : VK, Q (.bl (!k)) H -> ∃ r, OpR X (compareOp .NotEq) r /\ r x y H Q := fun h => by
  have hu : X.A.units < cLine := by have := c.hu; omega
  unfold eqLen at h
  split at h
  ·rename_i ds es e1 e2
   obtain ⟨a1, vs, rfl, l1, r1⟩ := ZoN s ra e1
   obtain ⟨b1, ws, rfl, l2, r2⟩ := ZoN s rb e2
   have n1 := r1.length
   have n2 := r2.length
   rw [<- c.hK] at l1 l2
   split at h
   ·cases h
    exact ⟨fun Q q0 => ⟨_, Zfz hu, a1, b1, vs, ws, rfl, rfl, .inl ⟨⟨l1, l2⟩, .inl ⟨by omega, q0⟩⟩⟩, fun Q q0 => ⟨_, Zft hu, a1, b1, vs, ws, rfl, rfl, .inl ⟨⟨l1, l2⟩, .inl ⟨by omega, q0⟩⟩⟩⟩
   ·rename_i hn
    split at h
    ·rename_i hd
     cases h
     subst hd
     have e1 : vs = [] := List.eq_nil_of_length_eq_zero (by rw [<- n1]; rfl)
     have e2 : ws = [] := List.eq_nil_of_length_eq_zero (by rw [<- n2]; simp at hn; simp [<- hn])
     exact ⟨fun Q q0 => ⟨_, Zfz hu, a1, b1, vs, ws, rfl, rfl, .inl ⟨⟨l1, l2⟩, .inr ⟨e1, e2, q0⟩⟩⟩, fun Q q0 => ⟨_, Zft hu, a1, b1, vs, ws, rfl, rfl, .inl ⟨⟨l1, l2⟩, .inr ⟨e1, e2, q0⟩⟩⟩⟩
    ·cases h
  ·split at h
   ·rename_i ds es _ _ _
    obtain ⟨a1, vs, rfl, l1, r1⟩ := ra.rd (fun _ z => nomatch z)
    obtain ⟨b1, ws, rfl, l2, r2⟩ := rb.rd (fun _ z => nomatch z)
    have n1 := r1.length
    have n2 := r2.length
    rw [<- c.hK] at l1 l2
    have em : ∀ {xs : List D} {ys : List V}, xs.length = ys.length -> (xs = [] ↔ ys = []) := fun h => by rw [<- List.length_eq_zero_iff, <- List.length_eq_zero_iff, h]
    split at h
    ·rename_i hh
     cases h
     exact ⟨fun Q q0 => ⟨_, Zfz hu, a1, b1, vs, ws, rfl, rfl, .inr ⟨⟨l1, l2⟩, .inl ⟨(em n1).mp hh.1, fun e => hh.2 ((em n2).mpr e), q0⟩⟩⟩, fun Q q0 => ⟨_, Zft hu, a1, b1, vs, ws, rfl, rfl, .inr ⟨⟨l1, l2⟩, .inl ⟨(em n1).mp hh.1, fun e => hh.2 ((em n2).mpr e), q0⟩⟩⟩⟩
    ·split at h
     ·rename_i hh
      cases h
      exact ⟨fun Q q0 => ⟨_, Zfz hu, a1, b1, vs, ws, rfl, rfl, .inr ⟨⟨l1, l2⟩, .inr (.inl ⟨fun e => hh.1 ((em n1).mpr e), (em n2).mp hh.2, q0⟩)⟩⟩, fun Q q0 => ⟨_, Zft hu, a1, b1, vs, ws, rfl, rfl, .inr ⟨⟨l1, l2⟩, .inr (.inl ⟨fun e => hh.1 ((em n1).mpr e), (em n2).mp hh.2, q0⟩)⟩⟩⟩
     ·split at h
      ·rename_i hh
       cases h
       exact ⟨fun Q q0 => ⟨_, Zfz hu, a1, b1, vs, ws, rfl, rfl, .inr ⟨⟨l1, l2⟩, .inr (.inr ⟨(em n1).mp hh.1, (em n2).mp hh.2, q0⟩)⟩⟩, fun Q q0 => ⟨_, Zft hu, a1, b1, vs, ws, rfl, rfl, .inr ⟨⟨l1, l2⟩, .inr (.inr ⟨(em n1).mp hh.1, (em n2).mp hh.2, q0⟩)⟩⟩⟩
      ·cases h
   ·cases h
 have gen : eqG a b st = some k -> (∀ Q : VK, Q (.bl k) H -> ∃ r, OpR X (compareOp .Eq) r /\ r x y H Q) /\ ∀ Q : VK, Q (.bl (!k)) H -> ∃ r, OpR X (compareOp .NotEq) r /\ r x y H Q := fun h => by
  unfold eqG at h
  split at h
  ·rename_i p q e1 e2
   split at h
   ·rename_i hs
    cases h
    rw [Bool.and_eq_true] at hs
    have hu : X.A.units + 64 < cLine := by have := c.hu; omega
    have d1 := dpV s _ _ _ _ e1 ra
    have d2 := dpV s _ _ _ _ e2 rb
    rw [<- c.hK] at d1 d2
    exact ⟨fun Q q0 => ⟨_, op_eqD hu, p, q, d1, d2, hs.1, hs.2, q0⟩, fun Q q0 => ⟨_, op_neD hu, p, q, d1, d2, hs.1, hs.2, q0⟩⟩
   ·exact gen0 h
  ·exact gen0 h
 cases a <;> cases b <;> first
  | exact gen h
  | (cases ra.rd (fun _ z => nomatch z); cases rb.rd (fun _ z => nomatch z); cases h; refine ⟨fun Q q => ⟨_, op_eq, rfl, ?_⟩, fun Q q => ⟨_, op_ne, rfl, ?_⟩⟩ <;> simpa using q)
theorem Zj7 (c : Ck g X W) : Op2 g X W (compareOp .Eq) eqD := by
 intro σ α H st a b x y Q s ra rb p
 unfold eqD at p
 split at p
 ·rename_i k e
  exact (eqO_ok c s ra rb e).1 Q (p.ok s rfl)
 ·exact p.elim
theorem ZfD (c : Ck g X W) : Op2 g X W (compareOp .NotEq) neD := by
 intro σ α H st a b x y Q s ra rb p
 unfold neD at p
 split at p
 ·rename_i k e
  exact (eqO_ok c s ra rb e).2 Q (p.ok s rfl)
 ·exact p.elim
end
section
end
def ofO (o : Option D) (st : Sto) : R D := match o with | some d => .ok d st | none => .stuck
def ixD : D -> D -> Sto -> R D
 | .tup ds, .int i, st => ofO (atI ds i) st
 | .str z, .int i, st => if z.length <= sizeLine then ofO ((atI z.cps.toList i).map fun c => .str ⟨#[c]⟩) st else .stuck
 | .obj n, .int i, st => match seqOf st n with | some ds => ofO (atI ds i) st | none => .stuck
 | .kl ds, .int i, st => ofO (atI ds i) st
 | .ev ds, .int i, st => ofO (atI ds i) st
 | _, _, _ => .stuck
def cutG {β : Type} (xs : List β) (lo hi : Option Int) : List β := (xs.drop (HT.sIx xs.length 0 lo)).take (HT.sIx xs.length xs.length hi - HT.sIx xs.length 0 lo)
def slD (d : D) (lo hi : Option Int) (st : Sto) : R D := match d with
 | .tup ds => .ok (.tup (cutG ds lo hi)) st
 | .str z => if z.length <= sizeLine then .ok (.str (cutS z lo hi)) st else .stuck
 | .obj n => (match seqOf st n with | some ds => new (.lst (cutG ds lo hi)) st | none => .stuck)
 | .kl ds => new (.lst (cutG ds lo hi)) st
 | _ => .stuck
abbrev DO := Env -> Sto -> R (Option Int)
def eNo : DO := fun _ st => .ok none st
def ePart (F : DE) : DO := fun env st => (F env st).bind fun d st1 => match d with | .int i => .ok (some i) st1 | _ => .stuck
def eSl (Fa : DE) (Fl Fh : DO) : DE := fun env st => (Fa env st).bind fun a st1 => (Fl env st1).bind fun lo st2 => (Fh env st2).bind fun hi st3 => slD a lo hi st3
theorem anyIx {X : Cx} : IxR X (fun x y H Q => ∃ r, IxR X r /\ r x y H Q) := fun value slice pins s σ H x y v u Q I rx ry ⟨_, h, q⟩ hs => h value slice pins s σ H x y v u Q I rx ry q hs
section
variable {g : Gd} {X : Cx} {W : WX} {α : List Addr} {H : Hp} {st : Sto}
theorem RDs.atI {ds : List D} {vs : List V} {i : Int} {d : D} (h : RDs g α H ds vs) (e : L2.atI ds i = some d) : ∃ v, L2.atI vs i = some v /\ RD g α H d v := by
 unfold L2.atI at e ⊢
 rw [<- h.length]
 cases q : ixN ds.length i with
 | none => rw [q] at e; cases e
 | some j =>
  rw [q] at e
  exact h.get e
theorem Zvy (c : Ck g X W) {σ : L2.St} {a b : D} {x y : V} {Q : VK} (s : StR g α st H) (ra : RV g α H a x) (rb : RD g α H b y) (p : PD g W σ α H (ixD a b st) Q) : ∃ r, IxR X r /\ r x y H Q := by
 cases b <;> first | (cases a <;> exact p.elim) | skip
 cases rb
 cases a <;> first | exact p.elim | skip
 ·cases ra.rd (fun _ z => nomatch z)
  dsimp only [ixD] at p
  split at p
  ·rename_i i z h
   cases e : L2.atI z.cps.toList i with
   | none => rw [e] at p; exact p.elim
   | some cc =>
    rw [e] at p
    exact ⟨_, ix_str, z, i, cc, rfl, rfl, h, e, PD.ok p s rfl⟩
  ·exact p.elim
 ·obtain ⟨a1, vs, rfl, h1, r1⟩ := ra.rd (fun _ z => nomatch z)
  dsimp only [ixD] at p
  rename_i i ds
  cases e : L2.atI ds i with
  | none => rw [e] at p; exact p.elim
  | some d =>
   rw [e] at p
   obtain ⟨v, e2, r2⟩ := r1.atI e
   exact ⟨_, ix_tup, a1, vs, i, v, rfl, rfl, by rw [c.hK]; exact h1, e2, PD.ok p s r2⟩
 ·dsimp only [ixD] at p
  rename_i i n
  cases e' : seqOf st n with
  | none => rw [e'] at p; exact p.elim
  | some ds =>
   rw [e'] at p
   obtain ⟨a1, vs, rfl, _, h1, r1⟩ := s.seq (ra.rd (fun _ z => nomatch z)) e'
   dsimp only at p
   cases e : L2.atI ds i with
   | none => rw [e] at p; exact p.elim
   | some d =>
    rw [e] at p
    obtain ⟨v, e2, r2⟩ := r1.atI e
    exact ⟨_, ix_list, a1, vs, i, v, rfl, rfl, by rw [c.hK]; exact h1, e2, PD.ok p s r2⟩
 ·obtain ⟨a1, vs, rfl, h1, r1⟩ := ra.rd (fun _ z => nomatch z)
  dsimp only [ixD] at p
  rename_i i ds
  cases e : L2.atI ds i with
  | none => rw [e] at p; exact p.elim
  | some d =>
   rw [e] at p
   obtain ⟨v, e2, r2⟩ := r1.atI e
   exact ⟨_, ix_list, a1, vs, i, v, rfl, rfl, by rw [c.hK]; exact h1.sq, e2, PD.ok p s r2⟩
 ·obtain ⟨a1, vs, rfl, hna, h1, r1⟩ := ra.ev
  dsimp only [ixD] at p
  rename_i i ds
  cases e : L2.atI ds i with
  | none => rw [e] at p; exact p.elim
  | some d =>
   rw [e] at p
   obtain ⟨v, e2, r2⟩ := r1.atI e
   exact ⟨_, ix_list, a1, vs, i, v, rfl, rfl, .inl (.inl h1), e2, PD.ok p s r2⟩
theorem Zk3 (c : Ck g X W) {a b : Expr} {Fa Fb : DE} {pos : Pos} (ha : OV g X W a Fa) (hb : OE g X W b Fb) (hs : PlainIx b := by exact fun _ _ => rfl) : OE g X W (.Subscript a b pos) (e2 ixD Fa Fb) :=
 ofE (pe_ix anyIx ha hb hs) fun σ H Q ⟨α, env, st, hE, hS, p⟩ => by
  refine tV.run hE hS (p.bind.imp fun d1 st1 α1 H1 x1 s1 q v1 r1 => ?_)
  refine tE.run (hE.mono x1) s1 (q.bind.imp fun d2 st2 α2 H2 x2 s2 q2 v2 r2 => ?_)
  exact Zvy c s2 (r1.mono x2) r2 q2
end
def aNil : DA := fun _ st => .ok [] st
def aCons (F : DE) (G : DA) : DA := fun env st => (F env st).bind fun d st1 => (G env st1).bind fun ds st2 => .ok (d :: ds) st2
def eTup (G : DA) : DE := fun env st => (G env st).bind fun ds st1 => if ds.length <= sizeLine then .ok (.tup ds) st1 else .stuck
def eLst (G : DA) : DE := fun env st => (G env st).bind fun ds st1 => if ds.length <= sizeLine then new (.lst ds) st1 else .stuck
section
variable {g : Gd} {X : Cx} {W : WX}
theorem ZW : OA g X W [] aNil := ofA pa_nil fun σ H Q ⟨α, env, st, hE, hS, p⟩ => p.ok hS [] RDs.nil
theorem Zh {e : Expr} {es : List Expr} {F : DE} {G : DA} (h : OE g X W e F) (k : OA g X W es G) (hs : starEach (e :: es) X.env = (false, eval e X.env) :: starEach es X.env := by rfl) : OA g X W (e :: es) (aCons F G) :=
 ofA (pa_cons h k hs) fun σ H Q ⟨α, env, st, hE, hS, p⟩ => by
  refine tE.run hE hS (p.bind.imp fun d1 st1 α1 H1 x1 s1 q v1 r1 => ?_)
  refine tA.run (hE.mono x1) s1 (q.bind.imp fun d2 st2 α2 H2 x2 s2 q2 v2 r2 => ?_)
  exact q2.ok s2 _ (.cons (r1.mono x2) r2)
theorem ZrP {es : List Expr} {G : DA} {k : Nat} {pos : Pos} (h : OA g X W es G) : OE g X W (.Tuple es k pos) (eTup G) :=
 ofE (pe_tup h) fun σ H Q ⟨α, env, st, hE, hS, p⟩ => by
  refine tA.run hE hS (p.bind.imp fun ds st1 α1 H1 x1 s1 q vs r => ?_)
  split at q
  ·rename_i hl
   exact ⟨by rw [<- r.length]; exact hl, PD.tup q s1 r⟩
  ·exact q.elim
theorem ZhJ {es : List Expr} {G : DA} {pos : Pos} (h : OA g X W es G) : OE g X W (.List es pos) (eLst G) :=
 ofE (pe_lst h) fun σ H Q ⟨α, env, st, hE, hS, p⟩ => by
  refine tA.run hE hS (p.bind.imp fun ds st1 α1 H1 x1 s1 q vs r => ?_)
  split at q
  ·rename_i hl
   exact ⟨by rw [<- r.length]; exact hl, PD.lst q s1 r⟩
  ·exact q.elim
end
def truD : D -> Sto -> Option Bool
 | .non, _ => some false
 | .bl b, _ => some b
 | .int i, _ => some (i != 0)
 | .str x, _ => if x.length <= sizeLine then some ((x.length : Int) != 0) else none
 | .tup ds, _ => some (!ds.isEmpty)
 | .obj n, st => match seqOf st n with
  | some ds => some (!ds.isEmpty)
  | none => (match st[n]? with | some (.dic kvs) => some (!kvs.isEmpty) | _ => none)
 | .kl ds, _ => some (!ds.isEmpty)
 | _, _ => none
def eAnd (Fa Fb : DE) : DE := fun env st => (Fa env st).bind fun a st1 => match truD a st1 with | some true => Fb env st1 | some false => .ok a st1 | none => .stuck
def eOr (Fa Fb : DE) : DE := fun env st => (Fa env st).bind fun a st1 => match truD a st1 with | some true => .ok a st1 | some false => Fb env st1 | none => .stuck
def eNot (Fa : DE) : DE := fun env st => (Fa env st).bind fun a st1 => match truD a st1 with | some b => .ok (.bl (!b)) st1 | none => .stuck
def tst (Fa : DE) : DT := fun env st => (Fa env st).bind fun a st1 => match truD a st1 with | some b => .ok b st1 | none => .stuck
def tstB (Fa : DE) : DT := fun env st => (Fa env st).bind fun a st1 => match a with | .bl b => .ok b st1 | _ => .stuck
def bAnd (Fa Fb : DT) : DT := fun env st => (Fa env st).bind fun a st1 => if a = true then Fb env st1 else .ok false st1
def bOr (Fa Fb : DT) : DT := fun env st => (Fa env st).bind fun a st1 => if a = true then .ok true st1 else Fb env st1
def bNot (Fa : DT) : DT := fun env st => (Fa env st).bind fun a st1 => .ok (!a) st1
def eIf (Fc : DT) (Fa Fb : DE) : DE := fun env st => (Fc env st).bind fun c st1 => if c = true then Fa env st1 else Fb env st1
def eChain (o o' : D -> D -> Sto -> R D) (Fa Fb Fc : DE) : DE := fun env st => (Fa env st).bind fun a st1 => (Fb env st1).bind fun b st2 => (o a b st2).bind fun k st3 => match k with
 | .bl true => (Fc env st3).bind fun c st4 => o' b c st4
 | .bl false => .ok (.bl false) st3
 | _ => .stuck
section
variable {g : Gd} {X : Cx} {W : WX} {α : List Addr} {H : Hp} {st : Sto}
theorem RKs.empty : ∀ {ds : List (Key × D)} {vs : List (Key × V)}, RKs g α H ds vs -> ds.isEmpty = vs.isEmpty
 | [], vs, h => by cases h; rfl
 | d :: ds, vs, h => by obtain ⟨v, r, rfl, _⟩ := h; rfl
theorem RDs.empty : ∀ {ds : List D} {vs : List V}, RDs g α H ds vs -> ds.isEmpty = vs.isEmpty
 | [], vs, h => by cases h; rfl
 | d :: ds, vs, h => by obtain ⟨v, r, rfl, _⟩ := h; rfl
theorem Ztf (s : StR g α st H) {d : D} {v : V} {b : Bool} (h : RD g α H d v) (e : truD d st = some b) : TruV g.K v H b := by
 cases d with
 | non => cases e; cases h; rfl
 | bl => cases e; cases h; rfl
 | int => cases e; cases h; rfl
 | str x =>
  cases h
  dsimp only [truD] at e
  split at e
  ·rename_i hl
   cases e
   exact ⟨hl, rfl⟩
  ·cases e
 | tup ds =>
  cases e
  obtain ⟨a, vs, rfl, h1, h2⟩ := h
  exact .inr (.inl ⟨vs, h1, by rw [h2.empty]⟩)
 | obj n =>
  dsimp only [truD] at e
  split at e
  ·rename_i ds e'
   cases e
   obtain ⟨a, vs, rfl, _, h1, h2⟩ := s.seq h e'
   exact .inl ⟨vs, h1, by rw [h2.empty]⟩
  ·split at e
   ·rename_i kvs e'
    cases e
    obtain ⟨a, rfl, ha, _⟩ := h
    obtain ⟨vs, h1, h2⟩ := s.ob n a _ ha e'
    exact .inr (.inr ⟨vs, h1, by rw [h2.empty]⟩)
   ·cases e
 | fn => cases e
 | ty => cases e
 | kl ds =>
  cases e
  obtain ⟨a, vs, rfl, h1, h2⟩ := h
  exact .inl ⟨vs, h1.sq, by rw [h2.empty]⟩
 | ev ds => exact h.elim
variable {a b c0 : Expr} {rest : List Expr} {Fa Fb Fc : DE} {pos : Pos}
theorem Zkm (c : Ck g X W) (ha : OE g X W a Fa) (hb : OE g X W (.BoolOp .And (b :: rest) pos) Fb) : OE g X W (.BoolOp .And (a :: b :: rest) pos) (eAnd Fa Fb) :=
 ofE (pe_andT ha hb) fun σ H Q ⟨α, env, st, hE, hS, p⟩ => by
  refine tE.run hE hS (p.bind.imp fun d1 st1 α1 H1 x1 s1 q v1 r1 => ?_)
  split at q
  ·rename_i e
   exact ⟨true, by rw [c.hK]; exact Ztf s1 r1 e, by rw [if_pos rfl]; exact tE.run (hE.mono x1) s1 q⟩
  ·rename_i e
   exact ⟨false, by rw [c.hK]; exact Ztf s1 r1 e, by rw [if_neg Bool.false_ne_true]; exact q.ok s1 _ r1⟩
  ·exact q.elim
theorem ZoX {op : BoolOp} (ha : OE g X W a Fa) : OE g X W (.BoolOp op [a] pos) Fa := pe_one ha
theorem Zuo (c : Ck g X W) (ha : OE g X W a Fa) : OE g X W (.UnaryOp .Not a pos) (eNot Fa) :=
 ofE (pe_notT ha) fun σ H Q ⟨α, env, st, hE, hS, p⟩ => by
  refine tE.run hE hS (p.bind.imp fun d1 st1 α1 H1 x1 s1 q v1 r1 => ?_)
  split at q
  ·rename_i k e
   exact ⟨k, by rw [c.hK]; exact Ztf s1 r1 e, q.ok s1 _ rfl⟩
  ·exact q.elim
theorem Ze6 {op : CmpOp} {o : D -> D -> Sto -> R D} (h : Op2 g X W (compareOp op) o) (ha : OV g X W a Fa) (hb : OV g X W b Fb) (hm : behindInMarks op b = false := by rfl) : OT g X W (.Compare a [op] [b] pos) (tstB (e2 o Fa Fb)) :=
 ofT (pt_cmpR any2 ha hb hm) fun σ H Q ⟨α, env, st, hE, hS, p⟩ => two h σ H _ (tE.run hE hS (p.bind.imp fun d1 st1 α1 H1 x1 s1 q v1 r1 => by
  cases d1 <;> first | exact q.elim | skip
  cases r1
  exact ⟨_, rfl, q.ok s1⟩))
def OW (g : Gd) (X : Cx) (W : WX) (e : Expr) (F : DT) : Prop := PW X e (tT g W F)
variable {Ga Gb : DT}
theorem OW.ot (h : OW g X W a Ga) : OT g X W a Ga := PW.pt h
theorem Zki (ha : OT g X W a Ga) : OW g X W (.BoolOp .Or [a] pos) Ga := pw_or1 ha
theorem Zj2 (ha : OT g X W a Ga) (hb : OW g X W (.BoolOp .Or (b :: rest) pos) Gb) : OW g X W (.BoolOp .Or (a :: b :: rest) pos) (bOr Ga Gb) :=
 ofW (pw_or ha hb) fun σ H Q ⟨α, env, st, hE, hS, p⟩ => by
  refine tT.run hE hS (p.bind.imp fun k st1 α1 H1 x1 s1 q => ?_)
  split at q
  ·rename_i e
   rw [if_pos e]
   exact q.ok s1
  ·rename_i e
   rw [if_neg e]
   exact tT.run (hE.mono x1) s1 q
end
end Mi
namespace Mi
open PySem L2
mutual
def beqD : D -> D -> Bool
 | .non, .non => true
 | .bl a, .bl b => a == b
 | .int a, .int b => decide (a = b)
 | .str a, .str b => decide (a = b)
 | .tup a, .tup b => beqDs a b
 | .obj a, .obj b => decide (a = b)
 | .fn a, .fn b => decide (a = b)
 | .ty a, .ty b => decide (a = b)
 | .kl a, .kl b => beqDs a b
 | .ev a, .ev b => beqDs a b
 | _, _ => false
def beqDs : List D -> List D -> Bool
 | [], [] => true
 | a :: as, b :: bs => beqD a b && beqDs as bs
 | _, _ => false
end
mutual
theorem ZsK : ∀ {a b : D}, beqD a b = true -> a = b
 | .non, b, h => by cases b <;> simp [beqD] at h; rfl
 | .bl x, b, h => by cases b <;> simp [beqD] at h; subst h; rfl
 | .int x, b, h => by cases b <;> simp [beqD] at h; subst h; rfl
 | .str x, b, h => by cases b <;> simp [beqD] at h; subst h; rfl
 | .tup x, b, h => by cases b <;> simp [beqD] at h; rw [Zf1 h]
 | .obj x, b, h => by cases b <;> simp [beqD] at h; subst h; rfl
 | .fn x, b, h => by cases b <;> simp [beqD] at h; subst h; rfl
 | .ty x, b, h => by cases b <;> simp [beqD] at h; subst h; rfl
 | .kl x, b, h => by cases b <;> simp [beqD] at h; rw [Zf1 h]
 | .ev x, b, h => by cases b <;> simp [beqD] at h; rw [Zf1 h]
theorem Zf1 : ∀ {a b : List D}, beqDs a b = true -> a = b
 | [], b, h => by cases b <;> simp [beqDs] at h; rfl
 | x :: xs, b, h => by
  cases b with
  | nil => simp [beqDs] at h
  | cons y ys =>
   simp [beqDs] at h
   rw [ZsK h.1, Zf1 h.2]
end
mutual
theorem Zkc : ∀ a : D, beqD a a = true
 | .non => rfl
 | .bl x => by simp [beqD]
 | .int x => by simp [beqD]
 | .str x => by simp [beqD]
 | .tup x => by simp [beqD, Zc0 x]
 | .obj x => by simp [beqD]
 | .fn x => by simp [beqD]
 | .ty x => by simp [beqD]
 | .kl x => by simp [beqD, Zc0 x]
 | .ev x => by simp [beqD, Zc0 x]
theorem Zc0 : ∀ a : List D, beqDs a a = true
 | [] => rfl
 | x :: xs => by simp [beqDs, Zkc x, Zc0 xs]
end
/-- lists that must stay while they are walked -/
abbrev Wat := List (Nat × List D)
def okW : Wat -> Sto -> Bool
 | [], _ => true
 | (n, ds) :: r, st => (match seqOf st n with | some es => beqDs ds es | none => false) && okW r st
theorem Zjh {n : Nat} {ds : List D} {r : Wat} {st : Sto} (h : okW ((n, ds) :: r) st = true) : seqOf st n = some ds /\ okW r st = true := by
 rw [okW, Bool.and_eq_true] at h
 refine ⟨?_, h.2⟩
 have h1 := h.1
 split at h1
 ·rename_i es e
  rw [e, Zf1 h1]
 ·cases h1
inductive RS where
 | nx (env : Env) (st : Sto)
 | rt (d : D) (st : Sto)
 | bk (env : Env) (st : Sto)
 | ct (env : Env) (st : Sto)
 | exc (c : Nat) (fs : List (Str × D)) (env : Env) (st : Sto)
 | stuck
def PostS (g : Gd) (W : WX) (α : List Addr) (H : Hp) (r : RS) (E : Ends) : Prop := match r with
 | .nx env st => ∀ α' H' σ', Ext α H α' H' -> StR g α' st H' -> EnvR g α' H' env σ' -> E.nx σ' H'
 | .rt d st => ∀ α' H' v, Ext α H α' H' -> StR g α' st H' -> RD g α' H' d v -> E.rt v H'
 | .bk env st => ∀ α' H' σ', Ext α H α' H' -> StR g α' st H' -> EnvR g α' H' env σ' -> E.bk σ' H'
 | .ct env st => ∀ α' H' σ', Ext α H α' H' -> StR g α' st H' -> EnvR g α' H' env σ' -> E.ct σ' H'
 | .exc c fs env st => ∀ α' H' cls dx σ', Ext α H α' H' -> StR g α' st H' -> EnvR g α' H' env σ' -> XR g α' H' c fs cls dx -> W cls dx σ' H'
 | .stuck => False
abbrev DS := Env -> Sto -> RS
def tS (g : Gd) (W : WX) (F : DS) : TS := fun E σ H => ∃ α env st, EnvR g α H env σ /\ StR g α st H /\ PostS g W α H (F env st) E
def OS (g : Gd) (X : Cx) (W : WX) (s : Stmt) (F : DS) : Prop := PS X s (tS g W F)
def OSs (g : Gd) (X : Cx) (W : WX) (s : List Stmt) (F : DS) : Prop := PSs X s (tS g W F)
def bindS {β : Type} (r : R β) (env : Env) (k : β -> Sto -> RS) : RS := match r with
 | .ok b st => k b st
 | .exc c fs st => .exc c fs env st
 | .stuck => .stuck
@[simp] theorem Zyg {β : Type} (b : β) (st : Sto) (env : Env) (k : β -> Sto -> RS) : bindS (R.ok b st) env k = k b st := rfl
@[simp] theorem Zs0 {β : Type} (env : Env) (k : β -> Sto -> RS) : bindS (R.stuck : R β) env k = .stuck := rfl
@[simp] theorem ZvT {β : Type} (c fs st) (env : Env) (k : β -> Sto -> RS) : bindS (R.exc c fs st : R β) env k = .exc c fs env st := rfl
section
variable {g : Gd} {W : WX} {α α' : List Addr} {H H' : Hp} {E E' : Ends} {r : RS} {env : Env} {σ : L2.St}
theorem PostS.mono (e : Ext α H α' H') (h : PostS g W α H r E) : PostS g W α' H' r E := by
 cases r with
 | nx env st => exact fun α2 H2 σ2 f => h α2 H2 σ2 (e.trans f)
 | rt d st => exact fun α2 H2 σ2 f => h α2 H2 σ2 (e.trans f)
 | bk env st => exact fun α2 H2 σ2 f => h α2 H2 σ2 (e.trans f)
 | ct env st => exact fun α2 H2 σ2 f => h α2 H2 σ2 (e.trans f)
 | exc c fs env st => exact fun α2 H2 cls dx σ2 f => h α2 H2 cls dx σ2 (e.trans f)
 | stuck => exact h
theorem PostS.bind {β : Type} {q : R β} {k : β -> Sto -> RS} (hE : EnvR g α H env σ) (h : PostS g W α H (bindS q env k) E) :
  Post g W σ α H q (fun b st α' H' => PostS g W α' H' (k b st) E) := by
 cases q with
 | ok b st => exact fun α' H' e s => PostS.mono e h
 | exc c fs st => exact fun α' H' cls dx e s x => h α' H' cls dx σ e s (hE.mono e) x
 | stuck => exact h
end
def sNil : DS := fun env st => .nx env st
def sSeq (F G : DS) : DS := fun env st => match F env st with
 | .nx env1 st1 => G env1 st1
 | r => r
def sRet (F : DE) : DS := fun env st => bindS (F env st) env fun d st1 => .rt d st1
def sRetN : DS := fun env st => .rt .non st
def sIf (c : DT) (F G : DS) : DS := fun env st => bindS (c env st) env fun b st1 => if b = true then F env st1 else G env st1
def sExpr (F : DE) : DS := fun env st => bindS (F env st) env fun _ st1 => .nx env st1
def sBreak : DS := fun env st => .bk env st
def sCont : DS := fun env st => .ct env st
section
variable {g : Gd} {X : Cx} {W : WX} {s : Stmt} {ss : List Stmt} {F G : DS} {pos : Pos}
theorem Z6 : OSs g X W [] sNil := ofSs pss_nil fun E σ H ⟨α, env, st, hE, hS, p⟩ => p α H σ (Ext.refl α H) hS hE
theorem Zs (h : OS g X W s F) (k : OSs g X W ss G) : OSs g X W (s :: ss) (sSeq F G) :=
 ofSs (pss_cons h k) fun E σ H ⟨α, env, st, hE, hS, p⟩ => by
  refine ⟨α, env, st, hE, hS, ?_⟩
  unfold sSeq at p
  cases q : F env st with
  | nx env1 st1 =>
   rw [q] at p
   exact fun α' H' σ' e s r => ⟨α', env1, st1, r, s, PostS.mono e p⟩
  | rt d st1 => rw [q] at p; exact p
  | bk env1 st1 => rw [q] at p; exact p
  | ct env1 st1 => rw [q] at p; exact p
  | exc c fs env1 st1 => rw [q] at p; exact p
  | stuck => rw [q] at p; exact p
theorem ZfC {e : Expr} {F : DE} (h : OE g X W e F) : OS g X W (.Return (some e) pos) (sRet F) :=
 ofS (ps_ret h) fun E σ H ⟨α, env, st, hE, hS, p⟩ => tE.run hE hS ((p.bind hE).imp fun d st1 α1 H1 x1 s1 q v r => q α1 H1 v (Ext.refl _ _) s1 r)
theorem ZkB {c : Expr} {C : DT} {a b : List Stmt} (hc : OT g X W c C) (ha : OSs g X W a F) (hb : OSs g X W b G) : OS g X W (.If c a b pos) (sIf C F G) :=
 ofS (ps_if hc ha hb) fun E σ H ⟨α, env, st, hE, hS, p⟩ => tT.run hE hS ((p.bind hE).imp fun k st1 α1 H1 x1 s1 q => by
  split at q
  ·rename_i e
   rw [if_pos e]
   exact ⟨α1, env, st1, hE.mono x1, s1, q⟩
  ·rename_i e
   rw [if_neg e]
   exact ⟨α1, env, st1, hE.mono x1, s1, q⟩)
end
inductive Tg where
 | nm (i : Nat)
 | tp (is : List Nat)
 | tn (i : Nat) (js : List Nat)
def setAll {β : Type} (env : List (Option β)) : List Nat -> List β -> List (Option β)
 | i :: is, d :: ds => setAll (env.set i (some d)) is ds
 | _, _ => env
def bindN (i : Nat) (js : List Nat) (env : Env) : List D -> Option Env
 | [a, .tup ds] => if ds.length = js.length then some (setAll (env.set i (some a)) js ds) else none
 | _ => none
theorem ZjR {i : Nat} {js : List Nat} {env env1 : Env} {l : List D} (e : bindN i js env l = some env1) : ∃ a ds, l = [a, .tup ds] /\ ds.length = js.length /\ env1 = setAll (env.set i (some a)) js ds := by
 unfold bindN at e
 split at e
 ·rename_i a ds
  split at e
  ·rename_i hl
   cases e
   exact ⟨a, ds, rfl, hl, rfl⟩
  ·cases e
 ·cases e
def bindT : Tg -> D -> Env -> Option Env
 | .nm i, d, env => some (env.set i (some d))
 | .tp is, .tup ds, env => if ds.length = is.length then some (setAll env is ds) else none
 | .tn i js, .tup l, env => bindN i js env l
 | _, _, _ => none
def gNames : List Nat -> TGs
 | [] => gNil
 | i :: is => gCons (gName i) (gNames is)
def tgV (K : PySem.W.Frag) : Tg -> TG
 | .nm i => gName i
 | .tp is => gTup K is.length (gNames is)
 | .tn i js => gTup K 2 (gCons (gName i) (gCons (gTup K js.length (gNames js)) gNil))
def Tg.slots : Tg -> List Nat
 | .nm i => [i]
 | .tp is => is
 | .tn i js => i :: js
theorem Zex (σ : L2.St) (j : Nat) : ∀ vs : List Nat, (wipe σ vs)[j]? = if j ∈ vs /\ j < σ.length then some none else σ[j]?
 | [] => by simp [wipe]
 | v :: vs => by
  have ih := Zex σ j vs
  unfold wipe
  by_cases h : v = j
  ·subst h
   by_cases hl : v < σ.length
   ·rw [List.getElem?_set_self (by rw [wipe_length]; exact hl)]
    simp [hl]
   ·rw [List.getElem?_eq_none (by rw [List.length_set, wipe_length]; omega)]
    simp [hl]
  ·rw [List.getElem?_set_ne h, ih]
   have : (j ∈ v :: vs) ↔ j ∈ vs := by simp [Ne.symm h]
   simp only [this]
theorem ZiC {σ : L2.St} {i : Nat} {x : Option V} {vs : List Nat} (h : i ∈ vs) : wipe (σ.set i x) vs = wipe σ vs := by
 apply List.ext_getElem?
 intro j
 rw [Zex, Zex, List.length_set]
 by_cases hj : i = j
 ·subst hj
  by_cases hl : i < σ.length
  ·simp [h, hl]
  ·simp [hl]
 ·rw [List.getElem?_set_ne hj]
theorem Zfg : ∀ (is : List Nat) (xs : List V) {σ : L2.St} {vs : List Nat}, (∀ i ∈ is, i ∈ vs) -> wipe (setAll σ is xs) vs = wipe σ vs
 | [], _, _, _, _ => by simp [setAll]
 | i :: is, [], _, _, _ => by simp [setAll]
 | i :: is, x :: xs, σ, vs, h => by
  rw [setAll, Zfg is xs fun j hj => h j (List.mem_cons_of_mem _ hj), ZiC (h i List.mem_cons_self)]
section
variable {g : Gd} {α : List Addr} {H : Hp} {env : Env} {σ : L2.St}
theorem ZiI : ∀ (is : List Nat) {ds : List D} {vs : List V} {env : Env} {σ : L2.St}, EnvR g α H env σ -> RDs g α H ds vs -> ds.length = is.length -> EnvR g α H (setAll env is ds) (setAll σ is vs) /\ ∀ Q, Q (setAll σ is vs) H -> gNames is vs σ H Q
 | [], ds, vs, env, σ, hE, h, hl => by
  have : ds = [] := List.length_eq_zero_iff.mp hl
  subst this
  cases h
  exact ⟨hE, fun Q q => ⟨rfl, q⟩⟩
 | i :: is, ds, vs, env, σ, hE, h, hl => by
  cases ds with
  | nil => cases hl
  | cons d ds =>
   obtain ⟨v, r, rfl, h1, h2⟩ := h
   obtain ⟨k1, k2⟩ := ZiI is (hE.set i h1) h2 (by simpa using hl)
   exact ⟨k1, fun Q q => ⟨v, r, rfl, k2 Q q⟩⟩
theorem ZiS {K : PySem.W.Frag} (hK : K = g.K) {t : Tg} {d : D} {v : V} {env1 : Env} (hE : EnvR g α H env σ) (h : RD g α H d v) (e : bindT t d env = some env1) :
  ∃ σ1, EnvR g α H env1 σ1 /\ (∀ Q, Q σ1 H -> tgV K t v σ H Q) /\ ∀ vs : List Nat, (∀ i ∈ t.slots, i ∈ vs) -> wipe σ1 vs = wipe σ vs := by
 cases t with
 | nm i =>
  cases e
  exact ⟨_, hE.set i h, fun Q q => q, fun vs hv => ZiC (hv i (by simp [Tg.slots]))⟩
 | tp is =>
  cases d <;> simp only [bindT] at e <;> try cases e
  rename_i ds
  split at e
  ·rename_i hl
   cases e
   obtain ⟨a, vs, rfl, h1, h2⟩ := h
   obtain ⟨k1, k2⟩ := ZiI is hE h2 hl
   exact ⟨_, k1, fun Q q => ⟨a, vs, rfl, by rw [hK]; exact h1, by rw [<- h2.length]; exact hl, k2 Q q⟩, fun vs' hv => Zfg is vs hv⟩
  ·cases e
 | tn i js =>
  cases d <;> simp only [bindT] at e <;> try cases e
  rename_i l
  obtain ⟨b, ds, rfl, hl, rfl⟩ := ZjR e
  obtain ⟨a, vs, rfl, h1, h2⟩ := h
  obtain ⟨v1, _, rfl, r1, v2, _, rfl, r2, rfl⟩ := h2
  obtain ⟨a2, vs2, rfl, h3, h4⟩ := r2
  obtain ⟨k1, k2⟩ := ZiI js (hE.set i r1) h4 hl
  exact ⟨_, k1, fun Q q => ⟨a, _, rfl, by rw [hK]; exact h1, rfl, v1, _, rfl, .ref a2, [], rfl, a2, vs2, rfl, by rw [hK]; exact h3, by rw [<- h4.length]; exact hl, k2 _ ⟨rfl, q⟩⟩, fun vs' hv => (Zfg js vs2 fun j hj => hv j (List.mem_cons_of_mem _ hj)).trans (ZiC (hv i List.mem_cons_self))⟩
end
def OG (X : Cx) (e : Expr) (t : Tg) : Prop := PG X e (tgV X.K t)
def OGs (X : Cx) (es : List Expr) (is : List Nat) : Prop := PGs X es (gNames is)
section
variable {X : Cx} {pos : Pos}
theorem Zzg {i : Nat} {x : Str} (hN : X.N.Nodup) (hi : X.N[i]? = some x := by rfl) (hx : Loc X.env.scope x := by first | exact Or.inl rfl | exact Or.inr rfl) (hf : X.fn x = true \/ X.env.scope.names.lookup x = some .local := by first | exact .inl rfl | exact .inr rfl) : OG X (.Name x pos) (.nm i) := pg_name hN hi hx hf
theorem Zti : OGs X [] [] := pgs_nil
theorem ZjC {i : Nat} {x : Str} {es : List Expr} {is : List Nat} (hN : X.N.Nodup) (h : OGs X es is) (hi : X.N[i]? = some x := by rfl) (hx : Loc X.env.scope x := by first | exact Or.inl rfl | exact Or.inr rfl)
  (hf : X.fn x = true \/ X.env.scope.names.lookup x = some .local := by first | exact .inl rfl | exact .inr rfl) (hs : (assignEach (.Name x pos :: es) X.env).map (·.2) = assign (.Name x pos) X.env :: (assignEach es X.env).map (·.2) := by rfl) : OGs X (.Name x pos :: es) (i :: is) :=
 pgs_cons (pg_name hN hi hx hf) h hs
theorem Zyv {es : List Expr} {is : List Nat} {k : Nat} (hc : X.calm = true) (h : OGs X es is) (hn : (assignEach es X.env).length = is.length := by rfl) (hst : (assignEach es X.env).findIdx? (·.1) = none := by rfl) : OG X (.Tuple es k pos) (.tp is) :=
 pg_tup hc h hn hst
end
def sAsg (t : Tg) (F : DE) : DS := fun env st => bindS (F env st) env fun d st1 => match bindT t d env with | some env1 => .nx env1 st1 | none => .stuck
section
variable {g : Gd} {X : Cx} {W : WX} {pos : Pos}
theorem Zlp (c : Ck g X W) {t : Tg} {F : DE} : ∀ E σ H, tS g W (sAsg t F) E σ H -> tAsg (tE g W F) (tgV X.K t) E σ H := fun E σ H ⟨α, env, st, hE, hS, p⟩ => by
 refine tE.run hE hS ((p.bind hE).imp fun d st1 α1 H1 x1 s1 q v r => ?_)
 split at q
 ·rename_i env1 e
  obtain ⟨σ1, k1, k2, _⟩ := ZiS c.hK (hE.mono x1) r e
  exact k2 _ (q α1 H1 σ1 (Ext.refl _ _) s1 k1)
 ·exact q.elim
theorem ZbX (c : Ck g X W) {i : Nat} {x : Str} {e : Expr} {F : DE} {pos' : Pos} (h : OE g X W e F) (hi : X.N[i]? = some x := by rfl) (hx : Loc X.env.scope x := by first | exact Or.inl rfl | exact Or.inr rfl)
  (hs : swapsWith e (some (.Name x pos')) pos.line X.env = pure false := by rfl) (hf : X.fn x = true \/ X.env.scope.names.lookup x = some .local := by first | exact .inl rfl | exact .inr rfl) : OS g X W (.Assign [.Name x pos'] e pos) (sAsg (.nm i) F) :=
 ofS (ps_set c.nd hi hx h hs hf) (Zlp c)
end
end Mi
namespace Mi
open PySem L2
structure ItR (g : Gd) (J : It) (ds : List D) (w : Wat) (α0 : List Addr) (H0 : Hp) : Prop where
 go : ∀ i α H st, Ext α0 H0 α H -> StR g α st H -> okW w st = true -> i < ds.length -> J.go i H
 yl : ∀ i α H st x H', Ext α0 H0 α H -> StR g α st H -> okW w st = true -> J.yld i H x H' -> ∀ d, ds[i]? = some d -> Ext α H α H' /\ StR g α st H' /\ RD g α H' d x
 stop : ∀ i α H st, Ext α0 H0 α H -> StR g α st H -> okW w st = true -> ds.length <= i -> J.stop i H
abbrev DIt := Env -> Sto -> R (List D × Wat)
def tI (g : Gd) (W : WX) (F : DIt) : TI := fun σ H S => ∃ α env st, EnvR g α H env σ /\ StR g α st H /\ Post g W σ α H (F env st) fun p _ α' H' => ∀ J, ItR g J p.1 p.2 α' H' -> S J H'
def OI (g : Gd) (X : Cx) (W : WX) (tg e : Expr) (F : DIt) : Prop := PI X tg e (tI g W F)
def signs (x : Str) : List D := x.cps.toList.map fun c => .str ⟨#[c]⟩
def iterD : D -> Sto -> Option (List D × Wat)
 | .tup ds, _ => some (ds, [])
 | .str x, _ => some (signs x, [])
 | .obj n, st => match seqOf st n with | some ds => some (ds, [(n, ds)]) | none => none
 | .kl ds, _ => some (ds, [])
 | _, _ => none
def iVal (F : DE) : DIt := fun env st => (F env st).bind fun d st1 => match iterD d st1 with | some p => .ok p st1 | none => .stuck
/-- an expression that makes a new list of items; one that tells a list or a tuple of items -/
def tL (g : Gd) (W : WX) (F : DA) : TE := fun σ H Q => ∃ α env st, EnvR g α H env σ /\ StR g α st H /\ Post g W σ α H (F env st) fun ds _ α' H' => ∀ a vs, H a = none -> a ∉ α' -> H' a = some (.lst vs) -> RDs g α' H' ds vs -> Q (.ref a) H'
def OL (g : Gd) (X : Cx) (W : WX) (e : Expr) (F : DA) : Prop := PE X e (tL g W F)
def eEv (F : DA) : DE := fun env st => (F env st).bind fun ds st1 => .ok (.ev ds) st1
theorem OL.v {g : Gd} {X : Cx} {W : WX} {e : Expr} {F : DA} (h : OL g X W e F) : OV g X W e (eEv F) := ofE h fun σ H Q ⟨α, env, st, hE, hS, p⟩ =>
 ⟨α, env, st, hE, hS, p.bind.imp fun ds st1 α1 H1 x1 s1 q a vs _ hn ha r => q.ok s1 _ (.inr ⟨ds, a, vs, rfl, rfl, hn, ha, r⟩)⟩
def iEph (F : DA) : DIt := fun env st => (F env st).bind fun ds st1 => .ok (ds, []) st1
section
end
/-- range -/
def upI (lo : Int) (n : Nat) : List D := (List.range n).map fun (i : Nat) => .int (lo + (i : Int))
def iRange1 (G : DA) : DIt := fun env st => (G env st).bind fun ds st1 => match ds with
 | [.int j] => if -(2 ^ 62) <= j /\ j < 2 ^ 62 then .ok (upI 0 j.toNat, []) st1 else .stuck
 | _ => .stuck
def iRange2 (G : DA) : DIt := fun env st => (G env st).bind fun ds st1 => match ds with
 | [.int i, .int j] => if -(2 ^ 62) <= i /\ i < 2 ^ 62 /\ -(2 ^ 62) <= j /\ j < 2 ^ 62 then .ok (upI i (j - i).toNat, []) st1 else .stuck
 | _ => .stuck
/-- enumerate of a list -/
def numb (ds : List D) : List D := ds.zipIdx.map fun p => .tup [.int (p.2 : Nat), p.1]
def iEnum' (F : DE) : DIt := fun env st => (F env st).bind fun d st1 => match d with
 | .obj n => (match seqOf st1 n with | some ds => .ok (numb ds, [(n, ds)]) st1 | none => .stuck)
 | _ => .stuck
/-- zip of two lists, of two tuples -/
def pairs (xs ys : List D) : List D := (xs.zip ys).map fun p => .tup [p.1, p.2]
def zipD (a b : D) (st : Sto) : Option (List D × Wat) := match a, b with
 | .tup xs, .tup ys => some (pairs xs ys, [])
 | .obj m, .obj n => (match seqOf st m, seqOf st n with | some xs, some ys => some (pairs xs ys, [(m, xs), (n, ys)]) | _, _ => none)
 | _, _ => none
def iZip' (G : DA) : DIt := fun env st => (G env st).bind fun ds st1 => match ds with
 | [a, b] => (match zipD a b st1 with | some p => .ok p st1 | none => .stuck)
 | _ => .stuck
section
variable {g : Gd} {X : Cx} {W : WX} {tg e e0 e3 : Expr} {F : DE} {G : DA} {α0 : List Addr} {H0 : Hp} {p pos : Pos}
theorem Zt8 (lo : Int) (n : Nat) : ItR g (Itr lo n) (upI lo n) [] α0 H0 where
 go := fun i α H st _ s _ hi => by
  simp [upI] at hi
  exact hi
 yl := fun i α H st v H' _ s _ ⟨e, h2⟩ d hd => by
  subst e h2
  refine ⟨Ext.refl _ _, s, ?_⟩
  unfold upI at hd
  rw [List.getElem?_map] at hd
  cases q : (List.range n)[i]? with
  | none => rw [q] at hd; cases hd
  | some j =>
   rw [q] at hd
   obtain ⟨_, rfl⟩ := List.getElem?_eq_some_iff.mp q
   cases hd
   simp [RD]
 stop := fun i α H st _ s _ hi => by
  simp [upI] at hi
  exact hi
theorem ints1 {vs : List V} {α : List Addr} {H : Hp} {i : Int} (h : RDs g α H [.int i] vs) : vs = [.int i] := by
 obtain ⟨_, _, rfl, h1, rfl⟩ := h
 cases h1; rfl
theorem Zks (c : Ck g X W) (h : OA g X W [e] G) (hm : g.mg "range" = none) (hg : L2.Gl X "range" := by rfl) (hs : starEach [e] X.env = [(false, eval e X.env)] := by rfl) : OI g X W tg (.Call (.Name "range" p) [e] [] pos) (iRange1 G) := by
 refine ⟨fun pins s σ H S I ⟨α, env, st, hE, hS, p⟩ => ?_⟩
 refine (pi_range1 hg (by rw [c.hmg]; exact hm) h hs).run pins s σ H S I (tA.run hE hS (p.bind.imp fun ds st1 α1 H1 x1 s1 q vs r => ?_))
 split at q
 ·rename_i j
  split at q
  ·rename_i hh
   exact ⟨j, ints1 r, hh.1, hh.2, q α1 H1 (Ext.refl _ _) s1 _ (Zt8 0 _)⟩
  ·exact q.elim
 ·exact q.elim
theorem Zjo {ds : List D} {i : Nat} {d : D} (h : (numb ds)[i]? = some d) : ∃ x, ds[i]? = some x /\ d = .tup [.int (i : Nat), x] := by
 unfold numb at h
 rw [List.getElem?_map, List.getElem?_zipIdx] at h
 cases q : ds[i]? with
 | none => rw [q] at h; cases h
 | some x =>
  rw [q] at h
  cases h
  exact ⟨x, rfl, by simp⟩
/-- a new tuple handed out -/
theorem Zkq {α : List Addr} {H : Hp} {st : Sto} {T : Addr} {ds : List D} {vs : List V} (s : StR g α st H) (hT : H T = none) (r : RDs g α H ds vs) : Ext α H α (upd H T (.tup vs)) /\ StR g α st (upd H T (.tup vs)) /\ RD g α (upd H T (.tup vs)) (.tup ds) (.ref T) :=
 ⟨Zcj s hT _, s.temp hT _, T, vs, rfl, .inl (.inl upd_same), r.mono (Zcj s hT _)⟩
theorem Ztn {n : Nat} {a : Addr} {ds : List D} (ha : α0[n]? = some a) : ItR g (Ite g.K a) (numb ds) [(n, ds)] α0 H0 where
 go := fun i α H st x s ok hi => by
  obtain ⟨b, vs, e1, _, h1, r⟩ := s.seqA (x.at ha) (Zjh ok).1
  cases e1
  have hl : i < vs.length := by rw [<- r.length]; simpa [numb] using hi
  exact ⟨vs, vs[i], h1, List.getElem?_eq_getElem _⟩
 yl := fun i α H st v H' x s ok ⟨T, y, e1, hT, e2, hy⟩ d hd => by
  subst e1 e2
  obtain ⟨b, vs, e1, _, h1, r⟩ := s.seqA (x.at ha) (Zjh ok).1
  cases e1
  obtain ⟨z, hz, rfl⟩ := Zjo hd
  obtain ⟨u, h2, h3⟩ := r.get hz
  have := hy vs h1
  rw [h2] at this
  cases this
  exact Zkq s hT (.cons rfl (.cons h3 .nil))
 stop := fun i α H st x s ok hi => by
  obtain ⟨b, vs, e1, _, h1, r⟩ := s.seqA (x.at ha) (Zjh ok).1
  cases e1
  exact ⟨vs, h1, by rw [<- r.length]; simpa [numb] using hi⟩
end
def forL (w : Wat) (t : Tg) (B : DS) : List D -> Env -> Sto -> RS
 | [], env, st => if okW w st = true then .nx env st else .stuck
 | d :: ds, env, st => if okW w st = true then (match bindT t d env with
  | some env1 => (match B env1 st with
   | .nx env2 st2 => forL w t B ds env2 st2
   | .ct env2 st2 => forL w t B ds env2 st2
   | .bk env2 st2 => .nx env2 st2
   | r => r)
  | none => .stuck) else .stuck
def sFor (t : Tg) (I : DIt) (B : DS) : DS := fun env st => bindS (I env st) env fun p st1 => forL p.2 t B p.1 env st1
def whileL (C : DT) (B : DS) : Nat -> Env -> Sto -> RS
 | 0, _, _ => .stuck
 | n + 1, env, st => bindS (C env st) env fun b st1 => if b = true then (match B env st1 with
   | .nx env2 st2 => whileL C B n env2 st2
   | .ct env2 st2 => whileL C B n env2 st2
   | .bk env2 st2 => .nx env2 st2
   | r => r) else .nx env st1
def sWhile (fu : Nat) (C : DT) (B : DS) : DS := fun env st => whileL C B fu env st
section
variable {g : Gd} {X : Cx} {W : WX} {pos : Pos}
theorem ZuL (c : Ck g X W) {tg it : Expr} {body : List Stmt} {t : Tg} {I : DIt} {B : DS} (hi : OI g X W tg it I) (hg : OG X tg t) (hb : OSs g X W body B) (hs : ∀ x, foldedSetIterable it X.env x = pure x := by intro _; rfl) : OS g X W (.For tg it body [] pos) (sFor t I B) :=
 ofS (ps_for c.pw c.calm hi hg hb hs) fun E σ H ⟨α, env, st, hE, hS, p⟩ => by
  refine ⟨α, env, st, hE, hS, (p.bind hE).imp fun pr st1 α1 H1 x1 s1 q J hJ => ?_⟩
  obtain ⟨ds, w⟩ := pr
  dsimp only at q hJ
  refine ⟨fun i m σ' H' => m = ds.length - i /\ i <= ds.length /\ ∃ α' env' st', Ext α1 H1 α' H' /\ EnvR g α' H' env' σ' /\ StR g α' st' H' /\ PostS g W α' H' (forL w t B (ds.drop i) env' st') E,
   ⟨ds.length, by simp, Nat.zero_le _, α1, env, st1, Ext.refl _ _, hE.mono x1, s1, by simpa using q⟩, ?_⟩
  rintro i m σ' H' ⟨rfl, hi, α', env', st', x', hE', hS', p'⟩
  by_cases hlt : i < ds.length
  ·refine .inr ?_
   rw [List.drop_eq_getElem_cons hlt] at p'
   rw [forL] at p'
   split at p'
   ·rename_i ok
    refine ⟨hJ.go i α' H' st' x' hS' ok hlt, fun σ2 H2 => (ds.length - (i + 1)) = ds.length - (i + 1) /\ (i + 1) <= ds.length /\ ∃ α' env' st', Ext α1 H1 α' H2 /\ EnvR g α' H2 env' σ2 /\ StR g α' st' H2 /\ PostS g W α' H2 (forL w t B (ds.drop (i + 1)) env' st') E,
     fun σ2 H2 n2 => ⟨ds.length - (i + 1), by omega, n2⟩, fun y H2 hy => ?_⟩
    obtain ⟨x2, s2, r2⟩ := hJ.yl i α' H' st' y H2 x' hS' ok hy _ (List.getElem?_eq_getElem hlt)
    split at p'
    ·rename_i env1 e1
     obtain ⟨σ1, k1, k2, _⟩ := ZiS c.hK (hE'.mono x2) r2 e1
     refine k2 _ ⟨α', env1, st', k1, s2, ?_⟩
     have p2 := PostS.mono x2 p'
     cases hB : B env1 st' with
     | nx env2 st2 =>
      rw [hB] at p2
      exact fun α3 H3 σ3 x3 s3 e3 => ⟨rfl, hlt, α3, env2, st2, (x'.trans x2).trans x3, e3, s3, PostS.mono x3 p2⟩
     | ct env2 st2 =>
      rw [hB] at p2
      exact fun α3 H3 σ3 x3 s3 e3 => ⟨rfl, hlt, α3, env2, st2, (x'.trans x2).trans x3, e3, s3, PostS.mono x3 p2⟩
     | bk env2 st2 => rw [hB] at p2; exact p2
     | rt d st2 => rw [hB] at p2; exact p2
     | exc cc fs env2 st2 => rw [hB] at p2; exact p2
     | stuck => rw [hB] at p2; exact p2
    ·exact p'.elim
   ·exact p'.elim
  ·refine .inl ?_
   have e : ds.drop i = [] := List.drop_eq_nil_of_le (by omega)
   rw [e, forL] at p'
   split at p'
   ·rename_i ok
    exact ⟨hJ.stop i α' H' st' x' hS' ok (by omega), p' α' H' σ' (Ext.refl _ _) hS' hE'⟩
   ·exact p'.elim
end
end Mi
namespace Mi
open PySem L2
section
variable {g : Gd} {α : List Addr} {H H' : Hp}
theorem weakExt (tup : ∀ b xs, H b = some (.tup xs) -> H' b = some (.tup xs)) (frz : ∀ b o u, H b = some (.frz o u) -> H' b = some (.frz o u)) {K : PySem.W.Frag} {a : Addr} {xs : List V} (h : SqT K H a xs) : SqT K H' a xs := by
 rcases h with (h | ⟨o, h⟩) | h
 ·exact .inl (.inl (tup _ _ h))
 ·exact .inl (.inr ⟨o, frz _ _ _ h⟩)
 ·exact .inr h
mutual
theorem RD.weak (tup : ∀ b xs, H b = some (.tup xs) -> H' b = some (.tup xs)) (frz : ∀ b o u, H b = some (.frz o u) -> H' b = some (.frz o u)) (nm : ∀ b, Nm (H b) -> Nm (H' b)) : ∀ {d : D} {v : V}, RD g α H d v -> RD g α H' d v
 | .non, v, h => by simpa [RD] using h
 | .bl b, v, h => by simpa [RD] using h
 | .int i, v, h => by simpa [RD] using h
 | .str x, v, h => by simpa [RD] using h
 | .tup ds, v, h => by
  rw [RD] at h ⊢
  obtain ⟨a, vs, rfl, h1, h2⟩ := h
  exact ⟨a, vs, rfl, weakExt tup frz h1, RDs.weak tup frz nm h2⟩
 | .obj n, v, h => by
  rw [RD] at h ⊢
  obtain ⟨a, e, h1, h2⟩ := h
  exact ⟨a, e, h1, nm a h2⟩
 | .fn n, v, h => by simpa [RD] using h
 | .ty n, v, h => by simpa [RD] using h
 | .kl ds, v, h => by
  rw [RD] at h ⊢
  obtain ⟨a, vs, rfl, h1, h2⟩ := h
  exact ⟨a, vs, rfl, h1.elim (fun ⟨o, q⟩ => .inl ⟨o, frz _ _ _ q⟩) .inr, RDs.weak tup frz nm h2⟩
 | .ev ds, v, h => by rw [RD] at h; exact h.elim
theorem RDs.weak (tup : ∀ b xs, H b = some (.tup xs) -> H' b = some (.tup xs)) (frz : ∀ b o u, H b = some (.frz o u) -> H' b = some (.frz o u)) (nm : ∀ b, Nm (H b) -> Nm (H' b)) : ∀ {ds : List D} {vs : List V}, RDs g α H ds vs -> RDs g α H' ds vs
 | [], vs, h => by simpa [RDs] using h
 | d :: ds, vs, h => by
  rw [RDs] at h ⊢
  obtain ⟨v, r, rfl, h1, h2⟩ := h
  exact ⟨v, r, rfl, RD.weak tup frz nm h1, RDs.weak tup frz nm h2⟩
end
theorem RFs.weak (tup : ∀ b xs, H b = some (.tup xs) -> H' b = some (.tup xs)) (frz : ∀ b o u, H b = some (.frz o u) -> H' b = some (.frz o u)) (nm : ∀ b, Nm (H b) -> Nm (H' b)) : ∀ {ds : List (Str × D)} {vs : List (Str × V)}, RFs g α H ds vs -> RFs g α H' ds vs
 | [], vs, h => by simpa [RFs] using h
 | d :: ds, vs, h => by
  rw [RFs] at h ⊢
  obtain ⟨v, r, rfl, h1, h2⟩ := h
  exact ⟨v, r, rfl, RD.weak tup frz nm h1, RFs.weak tup frz nm h2⟩
theorem RKs.weak (tup : ∀ b xs, H b = some (.tup xs) -> H' b = some (.tup xs)) (frz : ∀ b o u, H b = some (.frz o u) -> H' b = some (.frz o u)) (nm : ∀ b, Nm (H b) -> Nm (H' b)) : ∀ {ds : List (Key × D)} {vs : List (Key × V)}, RKs g α H ds vs -> RKs g α H' ds vs
 | [], vs, h => by simpa [RKs] using h
 | d :: ds, vs, h => by
  rw [RKs] at h ⊢
  obtain ⟨v, r, rfl, h1, h2⟩ := h
  exact ⟨v, r, rfl, RD.weak tup frz nm h1, RKs.weak tup frz nm h2⟩
/-- an untracked object has changed -/
theorem StR.weak {st : Sto} {p : Addr} {o : HO} (s : StR g α st H) (hp : p ∉ α) (tup : ∀ b xs, H b = some (.tup xs) -> upd H p o b = some (.tup xs)) (frz : ∀ b x u, H b = some (.frz x u) -> upd H p o b = some (.frz x u)) (ext : ∀ b (k : KO), H b = some k.1 -> upd H p o b = some k.1) (nm : ∀ b, Nm (H b) -> Nm (upd H p o b)) : StR g α st (upd H p o) := by
 refine ⟨s.len, s.nd, s.pcl, fun n a ob h1 h2 => ?_⟩
 have na : a ≠ p := by
  rintro rfl
  exact hp (List.mem_of_getElem? h1)
 have k := s.ob n a ob h1 h2
 cases ob with
 | lst ds => obtain ⟨vs, h, r⟩ := k; exact ⟨vs, (upd_ne na).trans h, RDs.weak tup frz nm r⟩
 | frz ds => obtain ⟨o, vs, h, r⟩ := k; exact ⟨o, vs, (upd_ne na).trans h, RDs.weak tup frz nm r⟩
 | dic ds => obtain ⟨vs, h, r⟩ := k; exact ⟨vs, (upd_ne na).trans h, RKs.weak tup frz nm r⟩
 | ins c fs => obtain ⟨C, dx, vs, h0, h, r⟩ := k; exact ⟨C, dx, vs, h0, (upd_ne na).trans h, RFs.weak tup frz nm r⟩
 | clo j ps => obtain ⟨T, cl, c, h1, h2, h3, h4⟩ := k; exact ⟨T, cl, c, h1, (upd_ne na).trans h2, ext _ (.e _) h3, h4⟩
 | cel d => obtain ⟨o, u, h1, h2, h3⟩ := k; exact ⟨o, u, (upd_ne na).trans h1, h2, fun d z => let ⟨v, w, k1, k2, k3⟩ := h3 d z; ⟨v, w, k1, k2, k3.weak tup frz nm⟩⟩
 | pnd => obtain ⟨u, h⟩ := k; exact ⟨u, (upd_ne na).trans h⟩
 | tbl j => obtain ⟨nm, ps, h1, h2, h3, h4⟩ := k; exact ⟨nm, ps, h1, (upd_ne na).trans h2, h3, fun pos cv z => let ⟨c, z1, z2, z3⟩ := h4 pos cv z; ⟨c, z1, ext _ (.e _) z2, z3⟩⟩
 | xcp c fs => obtain ⟨C, dx, h1, h2, h3⟩ := k; exact ⟨C, dx, h1, (upd_ne na).trans h2, h3.imp id fun ⟨d, vs, k1, k2, k3, k4⟩ => ⟨d, vs, k1, ext _ (.x _) k2, k3, RFs.weak tup frz nm k4⟩⟩
end
def noX {β : Type} (r : R β) : R β := match r with | .exc _ _ _ => .stuck | r => r
@[simp] theorem Zkv {β : Type} (b : β) (st : Sto) : noX (R.ok b st) = .ok b st := rfl
@[simp] theorem ZtX {β : Type} : noX (R.stuck : R β) = .stuck := rfl
def W0 : WX := fun _ _ _ _ => False
def wipeE (env : Env) : List Nat -> Env
 | [] => env
 | v :: vs => (wipeE env vs).set v none
theorem ZgO (env : Env) : ∀ vs : List Nat, (wipeE env vs).length = env.length
 | [] => rfl
 | v :: vs => by unfold wipeE; rw [List.length_set, ZgO env vs]
theorem Zis {env : Env} {i : Nat} {d : D} : ∀ {vs : List Nat}, (wipeE env vs)[i]? = some (some d) -> env[i]? = some (some d) /\ i ∉ vs
 | [], h => ⟨h, by simp⟩
 | v :: vs, h => by
  unfold wipeE at h
  by_cases hi : v = i
  ·subst hi
   by_cases hv : v < (wipeE env vs).length
   ·rw [List.getElem?_set_self hv] at h; cases h
   ·rw [List.getElem?_eq_none (by simpa using hv)] at h; cases h
  ·rw [List.getElem?_set_ne hi] at h
   obtain ⟨h1, h2⟩ := Zis h
   exact ⟨h1, by simp only [List.mem_cons, not_or]; exact ⟨fun e => hi e.symm, h2⟩⟩
theorem EnvR.wipe {g : Gd} {α : List Addr} {H : Hp} {env : Env} {σ : L2.St} (h : EnvR g α H env σ) (vs : List Nat) : EnvR g α H (wipeE env vs) (L2.wipe σ vs) := by
 refine ⟨by rw [ZgO, wipe_length, h.len], fun i d q => ?_⟩
 obtain ⟨h1, h2⟩ := Zis q
 obtain ⟨v, h3, h4⟩ := h.val i d h1
 refine ⟨v, ?_, h4⟩
 rw [Zex, if_neg fun z => h2 z.1]
 exact h3
theorem Zj8 (σ : L2.St) (vs : List Nat) : L2.wipe (L2.wipe σ vs) vs = L2.wipe σ vs := by
 apply List.ext_getElem?
 intro j
 rw [Zex, Zex, wipe_length]
 by_cases h : j ∈ vs /\ j < σ.length
 ·rw [if_pos h, if_pos h]
 ·rw [if_neg h, if_neg h]
def compL (w : Wat) (t : Tg) (C : DT) (F : DE) (env : Env) : List D -> Sto -> R (List D)
 | [], st => if okW w st = true then .ok [] st else .stuck
 | d :: ds, st => if okW w st = true then (match bindT t d env with
  | some env1 => (noX (C env1 st)).bind fun b st1 => if b = true then (noX (F env1 st1)).bind fun y st2 => (compL w t C F env ds st2).bind fun ys st3 => .ok (y :: ys) st3 else compL w t C F env ds st1
  | none => .stuck) else .stuck
def cYes : DT := fun _ st => .ok true st
def lComp (vs : List Nat) (t : Tg) (I : DIt) (C : DT) (F : DE) : DA := fun env st => (I env st).bind fun p st1 => if p.1.length <= sizeLine then compL p.2 t C F (wipeE env vs) p.1 st1 else .stuck
def eNew (F : DA) : DE := fun env st => (F env st).bind fun ds st1 => new (.lst ds) st1
def OTs (g : Gd) (X : Cx) (W : WX) (es : List Expr) (C : DT) : Prop := PTs X es (tT g W C)
section
variable {g : Gd} {X : Cx} {W : WX}
theorem Ztd : OTs g X W [] cYes := ⟨fun pins s σ H Q I ⟨α, env, st, hE, hS, p⟩ => pts_nil.run pins s σ H Q I (p.ok hS)⟩
theorem Ck.blk (c : Ck g X W) {s : Shared} {H : Hp} {scope : Scope} {cenv : PySem.Env} {fp : List Addr} : Ck g (X.blk s H scope cenv fp) W0 :=
 ⟨c.hK, c.hmg, c.hP, c.hw, c.hb, c.calm, c.nd, takes0, c.gd, c.hu, PassesOwn.never⟩
theorem Zta {β : Type} (r : R β) : (r.bind fun b st => .ok b st) = r := by cases r <;> rfl
theorem Zkr {β γ δ : Type} (r : R β) (k : β -> Sto -> R γ) (l : γ -> Sto -> R δ) : (r.bind k).bind l = r.bind fun b st => (k b st).bind l := by cases r <;> rfl
theorem Ztu (hK : X.K = g.K) {t : Tg} {I : DIt} {C : DT} {F : DE} {vs : List Nat} (hsl : ∀ i ∈ t.slots, i ∈ vs) :
  ∀ σ H Q, tL g W (lComp vs t I C F) σ H Q -> tLc (tI g W I) (tgV X.K t) (tT g W0 C) (tE g W0 F) vs σ H Q := fun σ H Q ⟨α, env, st, hE, hS, p⟩ => by
 refine ⟨α, env, st, hE, hS, p.bind.imp fun pr st1 α1 H1 x1 s1 q J hJ => ?_⟩
 obtain ⟨ds, w⟩ := pr
 dsimp only at q hJ
 intro Dd hD
 split at q
 case isFalse => exact q.elim
 rename_i hlen
 have hD0 : H Dd = none := by
  cases z : H Dd with
  | none => rfl
  | some o =>
   by_cases hm : Dd ∈ α
   ·obtain ⟨β, rfl⟩ := x1.pre
    obtain ⟨u, hu⟩ := s1.mem (List.mem_append_left β hm)
    rw [hD] at hu; cases hu
   ·have := x1.keep _ _ z hm
    rw [hD] at this; cases this
 have wE := hE.wipe vs
 have n1 := s1.notin hD
 refine ⟨fun i m H' => m = ds.length - i /\ i <= ds.length /\ ∃ α' st' acc accD, Ext α1 H1 α' H' /\ StR g α' st' H' /\ Dd ∉ α' /\ H' Dd = some (.lst acc) /\ RDs g α' H' accD acc /\ acc.length <= i /\
   compL w t C F (wipeE env vs) ds st1 = (compL w t C F (wipeE env vs) (ds.drop i) st').bind fun ys s => .ok (accD ++ ys) s,
  ⟨ds.length, by simp, Nat.zero_le _, α1, st1, [], [], Zcj s1 hD _, s1.temp hD _, n1, upd_same, RDs.nil, Nat.le_refl _, by rw [List.drop_zero]; exact (Zta _).symm⟩, ?_⟩
 rintro i m H' ⟨rfl, hi, α', st', acc, accD, x', hS', nD, hacc, racc, hal, eq⟩
 by_cases hlt : i < ds.length
 ·refine .inr ?_
  rw [List.drop_eq_getElem_cons hlt, compL] at eq
  split at eq
  case isFalse => rw [eq] at q; exact q.elim
  rename_i ok
  refine ⟨hJ.go i α' H' st' x' hS' ok hlt, fun H2 => (ds.length - (i + 1)) = ds.length - (i + 1) /\ i + 1 <= ds.length /\ ∃ α' st' acc accD, Ext α1 H1 α' H2 /\ StR g α' st' H2 /\ Dd ∉ α' /\ H2 Dd = some (.lst acc) /\ RDs g α' H2 accD acc /\ acc.length <= i + 1 /\
   compL w t C F (wipeE env vs) ds st1 = (compL w t C F (wipeE env vs) (ds.drop (i + 1)) st').bind fun ys s => .ok (accD ++ ys) s, fun H2 n2 => ⟨ds.length - (i + 1), by omega, n2⟩, fun y H2 hy => ?_⟩
  obtain ⟨x2, s2, r2⟩ := hJ.yl i α' H' st' y H2 x' hS' ok hy _ (List.getElem?_eq_getElem hlt)
  split at eq
  case h_2 => rw [eq] at q; exact q.elim
  rename_i env1 e1
  obtain ⟨σ1, k1, k2, k3⟩ := ZiS hK (wE.mono ((x1.trans x').trans x2)) r2 e1
  refine k2 _ ⟨by rw [k3 vs hsl, Zj8], ?_⟩
  refine ⟨α', env1, st', k1, s2, ?_⟩
  have keepD : H2 Dd = some (.lst acc) := x2.keep _ _ hacc nD
  cases hC : C env1 st' with
  | stuck => rw [hC] at eq; rw [eq] at q; exact q.elim
  | exc cc fs s => rw [hC] at eq; rw [eq] at q; exact q.elim
  | ok b st2 =>
   rw [hC] at eq
   intro α3 H3 x3 s3
   have n3 : Dd ∉ α3 := fun hm => by
    have := x3.new Dd hm nD
    rw [keepD] at this; cases this
   have d3 : H3 Dd = some (.lst acc) := x3.keep _ _ keepD nD
   cases b with
   | false =>
    refine iteF ?_
    simp only [Zkv, R.bind_ok, Bool.false_eq_true, if_false] at eq
    exact ⟨rfl, hlt, α3, st2, acc, accD, (x'.trans x2).trans x3, s3, n3, d3, (racc.mono x2).mono x3, by omega, eq⟩
   | true =>
    refine iteT ?_
    simp only [Zkv, R.bind_ok, if_true] at eq
    refine ⟨α3, env1, st2, k1.mono x3, s3, ?_⟩
    cases hF : F env1 st2 with
    | stuck => rw [hF] at eq; rw [eq] at q; exact q.elim
    | exc cc fs s => rw [hF] at eq; rw [eq] at q; exact q.elim
    | ok z st4 =>
     rw [hF] at eq
     simp only [Zkv, R.bind_ok, Zkr] at eq
     intro α4 H4 x4 s4 v rv
     have n4 : Dd ∉ α4 := fun hm => by
      have := x4.new Dd hm n3
      rw [d3] at this; cases this
     have d4 : H4 Dd = some (.lst acc) := x4.keep _ _ d3 n3
     -- the list grows: what is read of trees stays
     have tupK : ∀ b xs, H4 b = some (.tup xs) -> upd H4 Dd (.lst (acc ++ [v])) b = some (.tup xs) := fun b xs hb => by
      rw [upd_ne]; exact hb
      rintro rfl
      rw [d4] at hb; cases hb
     have frzK : ∀ b o u, H4 b = some (.frz o u) -> upd H4 Dd (.lst (acc ++ [v])) b = some (.frz o u) := fun b o u hb => by
      rw [upd_ne]; exact hb
      rintro rfl
      rw [d4] at hb; cases hb
     have extK : ∀ b (k : KO), H4 b = some k.1 -> upd H4 Dd (.lst (acc ++ [v])) b = some k.1 := fun b k hb => by
      rw [upd_ne]; exact hb
      rintro rfl
      rw [d4] at hb; exact k.nlst hb
     have nmK : ∀ b, Nm (H4 b) -> Nm (upd H4 Dd (.lst (acc ++ [v])) b) := fun b h => by
      by_cases q : b = Dd
      ·rw [q, upd_same]; exact Zkj
      ·rw [upd_ne q]; exact h
     have xw : ∀ {ds : List D} {vs : List V}, RDs g α4 H4 ds vs -> RDs g α4 (upd H4 Dd (.lst (acc ++ [v]))) ds vs := fun h => RDs.weak tupK frzK nmK h
     refine ⟨acc, d4, Nat.lt_of_lt_of_le (by omega : acc.length < ds.length) hlen, rfl, hlt, α4, st4, acc ++ [v], accD ++ [z], ?_, ?_, n4, upd_same, xw ((((racc.mono x2).mono x3).mono x4).append (.cons rv .nil)), by simp; omega, ?_⟩
     ·have xx := ((x'.trans x2).trans x3).trans x4
      refine ⟨xx.pre, fun b o hb nb => ?_, xx.new, fun b xs hb => tupK _ _ (xx.tup _ _ hb), fun b o u hb => frzK _ _ _ (xx.frz _ _ _ hb), fun b hb h => by
       rw [upd_ne]
       ·exact xx.nm b hb h
       ·rintro rfl
        obtain ⟨β, e⟩ := xx.pre
        exact n4 (e ▸ List.mem_append_left _ hb)⟩
      rw [upd_ne]
      ·exact xx.keep _ _ hb nb
      ·rintro rfl
       rw [hD] at hb; cases hb
     ·exact StR.weak s4 n4 tupK frzK extK nmK
     ·rw [eq]
      congr 1
      funext ys s
      simp
 ·refine .inl ?_
  have e : ds.drop i = [] := List.drop_eq_nil_of_le (by omega)
  rw [e, compL] at eq
  split at eq
  ·rename_i ok
   rw [eq] at q
   simp only [R.bind_ok, List.append_nil] at q
   exact ⟨hJ.stop i α' H' st' x' hS' ok (by omega), q α' H' x' hS' Dd acc hD0 nD hacc racc⟩
  ·rw [eq] at q; exact q.elim
end
end Mi
namespace Mi
open PySem L2
/-- the items of a new list that is written out -/
def lDisp (G : DA) : DA := fun env st => (G env st).bind fun ds st1 => if ds.length <= sizeLine then .ok ds st1 else .stuck
section
variable {g : Gd} {X : Cx} {W : WX}
theorem ZsL (c : Ck g X W) {elt tg iter : Expr} {ifs : List Expr} {scope : Scope} {own : List (Str × Nat)} {pos : Pos} {t : Tg} {I : DIt} {C : DT} {F : DE} (ok : BlkOk X.N X.env.scope scope own) (hi : OI g X W tg iter I)
  (hg : ∀ (s : Shared) (H : Hp) (C : Addr) (cl : List (Str × Addr)) (fp : List Addr), OG (X.blk s H scope (compEnvC scope cl C X.env) fp) tg t)
  (ht : ∀ (s : Shared) (H : Hp) (C1 : Addr) (cl : List (Str × Addr)) (fp : List Addr), OTs g (X.blk s H scope (compEnvC scope cl C1 X.env) fp) W0 ifs C)
  (he : ∀ (s : Shared) (H : Hp) (C : Addr) (cl : List (Str × Addr)) (fp : List Addr), OE g (X.blk s H scope (compEnvC scope cl C X.env) fp) W0 elt F)
  (hsl : ∀ i ∈ t.slots, i ∈ own.map (·.2)) (hs : ∀ x, foldedSetIterable iter X.env x = pure x := by intro _; rfl) : OL g X W (.ListComp elt [⟨tg, iter, ifs, 0⟩] scope pos) (lComp (own.map (·.2)) t I C F) :=
 ofE (pe_lc (g := tgV X.K t) (tt := tT g W0 C) (te := tE g W0 F) c.calm c.nd hi ok hg ht he hs) (Ztu c.hK hsl)
theorem Zc9 {es : List Expr} {G : DA} {pos : Pos} (h : OA g X W es G) : OL g X W (.List es pos) (lDisp G) :=
 ofE (pe_lst h) fun σ H Q ⟨α, env, st, hE, hS, p⟩ => by
  refine tA.run hE hS ?_
  unfold lDisp at p
  cases hF : G env st with
  | stuck => rw [hF] at p; exact p.elim
  | exc c fs st1 => rw [hF] at p; exact p
  | ok ds st1 =>
   rw [hF] at p
   intro α1 H1 x1 s1 vs r
   simp only [R.bind_ok] at p
   split at p
   ·rename_i hl
    refine ⟨by rw [<- r.length]; exact hl, fun q hq => ?_⟩
    refine p α1 _ (x1.trans (Zcj s1 hq _)) (s1.temp hq _) q vs ?_ (s1.notin hq) upd_same (r.mono (Zcj s1 hq _))
    cases z : H q with
    | none => rfl
    | some o =>
     by_cases hm : q ∈ α
     ·obtain ⟨β, rfl⟩ := x1.pre
      exact absurd (List.mem_append_left β hm) (s1.notin hq)
     ·have := x1.keep _ _ z hm
      rw [hq] at this; cases this
   ·exact p.elim
end
def eCall (o : List D -> Sto -> R D) (G : DA) : DE := fun env st => (G env st).bind fun ds st1 => o ds st1
def Bi (g : Gd) (X : Cx) (W : WX) (f : Value) (o : List D -> Sto -> R D) : Prop :=
 ∀ (σ : L2.St) (α : List Addr) (H : Hp) (st : Sto) (ds : List D) (vs : List V) (Q : VK), StR g α st H -> RDs g α H ds vs -> PD g W σ α H (o ds st) Q -> ∃ r, CallR X f r /\ r vs H Q
/-- .. of one new list -/
def BiL (g : Gd) (X : Cx) (W : WX) (f : Value) (o : List D -> Sto -> R D) : Prop :=
 ∀ (σ : L2.St) (α : List Addr) (H : Hp) (st : Sto) (ds : List D) (a : Addr) (vs : List V) (Q : VK), StR g α st H -> a ∉ α -> H a = some (.lst vs) -> RDs g α H ds vs -> PD g W σ α H (o ds st) Q -> ∃ r, CallR X f r /\ r [.ref a] H Q
theorem anyC {X : Cx} {f : Value} : CallR X f (fun xs H Q => ∃ r, CallR X f r /\ r xs H Q) := fun pins s σ H xs us Q I r ⟨_, h, q⟩ => h pins s σ H xs us Q I r q
section
variable {g : Gd} {X : Cx} {W : WX} {x : Str} {p pos : Pos} {e : Expr} {es : List Expr} {G : DA} {o : List D -> Sto -> R D} {id T : String}
theorem ZjA (c : Ck g X W) (h : Bi g X W (.builtin id) o) (hv : bootBuiltins x = some (.builtin id)) (hm : g.mg x = none) (ha : OA g X W (e :: es) G) (hg : L2.Gl X x := by rfl) (hn : x ≠ "__name__" := by decide) (hdb : (x == ("__debug__" : Str)) = false := by decide)
  (he : starEach (e :: es) X.env = (false, eval e X.env) :: starEach es X.env := by rfl) (hpl : (backTo pos (starEach es X.env)).any (·.1) = false := by rfl) : OE g X W (.Call (.Name x p) (e :: es) [] pos) (eCall o G) :=
 ofE (pe_callB anyC hg (by rw [c.hmg]; exact hm) hv ha hn hdb he hpl) fun σ H Q ⟨α, env, st, hE, hS, p⟩ =>
  tA.run hE hS (p.bind.imp fun ds st1 α1 H1 x1 s1 q vs r => h σ α1 H1 st1 ds vs Q s1 r q)
end
def toB : D -> Option Bool
 | .bl b => some b
 | _ => none
def lenB : List D -> Sto -> R D
 | [.tup ds], st => .ok (.int (ds.length : Nat)) st
 | [.str z], st => if z.length <= sizeLine then .ok (.int (z.length : Nat)) st else .stuck
 | [.obj n], st => match seqOf st n with
  | some ds => .ok (.int (ds.length : Nat)) st
  | none => (match st[n]? with | some (.dic kvs) => .ok (.int (kvs.length : Nat)) st | _ => .stuck)
 | [.kl ds], st => .ok (.int (ds.length : Nat)) st
 | _, _ => .stuck
def intB : List D -> Sto -> R D
 | [.int i], st => .ok (.int i) st
 | [.bl k], st => .ok (.int (if k then 1 else 0)) st
 | _, _ => .stuck
def anyL (ds : List D) (st : Sto) : R D := match allO toB ds with | some bs => .ok (.bl (bs.any id)) st | none => .stuck
/-- a built-in of a list, asked of a list of the store -/
def ofL (o : List D -> Sto -> R D) : List D -> Sto -> R D
 | [.obj n], st => match seqOf st n with | some ds => o ds st | none => .stuck
 | _, _ => .stuck
section
variable {g : Gd} {X : Cx} {W : WX} {α : List Addr} {H : Hp} {st : Sto}
theorem RDs.one {d : D} {vs : List V} (h : RDs g α H [d] vs) : ∃ v, vs = [v] /\ RD g α H d v := by
 obtain ⟨v, _, rfl, h1, rfl⟩ := h
 exact ⟨v, rfl, h1⟩
theorem toBs : ∀ {ds : List D} {vs : List V} {ns : List Bool}, RDs g α H ds vs -> allO toB ds = some ns -> vs = ns.map V.bl
 | [], vs, xs, h, e => by cases e; cases h; rfl
 | d :: ds, vs, xs, h, e => by
  obtain ⟨v, r, rfl, h1, h2⟩ := h
  rw [allO] at e
  split at e
  ·rename_i b bs e1 e2
   cases e
   rw [toBs h2 e2]
   cases d <;> cases e1
   cases h1
   rfl
  ·cases e
theorem Zvb (c : Ck g X W) : Bi g X W (.builtin "len") lenB := by
 intro σ α H st ds vs Q s r p
 unfold lenB at p
 split at p
 ·obtain ⟨v, rfl, a, ws, rfl, h1, r1⟩ := r.one
  exact ⟨_, call_len_seq, a, ws, rfl, .inr (by rw [c.hK]; exact h1), by rw [<- r1.length]; exact PD.ok p s rfl⟩
 ·obtain ⟨v, rfl, r1⟩ := r.one
  cases r1
  split at p
  ·rename_i hl
   exact ⟨_, call_len_str, _, rfl, hl, PD.ok p s rfl⟩
  ·exact p.elim
 ·obtain ⟨v, rfl, r1⟩ := r.one
  split at p
  ·rename_i e
   obtain ⟨a, ws, rfl, _, h1, r2⟩ := s.seq r1 e
   exact ⟨_, call_len_seq, a, ws, rfl, .inl (by rw [c.hK]; exact h1), by rw [<- r2.length]; exact PD.ok p s rfl⟩
  ·split at p
   ·rename_i kvs e
    obtain ⟨a, rfl, ha, _⟩ := r1
    obtain ⟨ws, h1, h2⟩ := s.ob _ a _ ha e
    have hl : kvs.length = ws.length := by
     clear p h1 e
     induction kvs generalizing ws with
     | nil => cases h2; rfl
     | cons k ks ih => obtain ⟨_, r, rfl, _, h3⟩ := h2; simp [ih r h3]
    exact ⟨_, call_lenD, a, ws, rfl, h1, by rw [<- hl]; exact PD.ok p s rfl⟩
   ·exact p.elim
 ·obtain ⟨v, rfl, a, ws, rfl, h1, r1⟩ := r.one
  exact ⟨_, call_len_seq, a, ws, rfl, .inl (by rw [c.hK]; exact h1.sq), by rw [<- r1.length]; exact PD.ok p s rfl⟩
 ·exact p.elim
/-- of any list that is read -/
def BiS (g : Gd) (X : Cx) (W : WX) (f : Value) (o : List D -> Sto -> R D) : Prop :=
 ∀ (σ : L2.St) (α : List Addr) (H : Hp) (st : Sto) (ds : List D) (a : Addr) (vs : List V) (Q : VK), StR g α st H -> SqL g.K H a vs -> RDs g α H ds vs -> PD g W σ α H (o ds st) Q -> ∃ r, CallR X f r /\ r [.ref a] H Q
theorem BiS.l {f : Value} {o : List D -> Sto -> R D} (h : BiS g X W f o) : BiL g X W f o := fun σ α H st ds a vs Q s _ ha r p => h σ α H st ds a vs Q s (.inl (.inl ha)) r p
theorem BiS.b {f : Value} {o : List D -> Sto -> R D} (h : BiS g X W f o) : Bi g X W f (ofL o) := by
 intro σ α H st ds vs Q s r p
 unfold ofL at p
 split at p
 ·obtain ⟨v, rfl, r1⟩ := r.one
  split at p
  ·rename_i e
   obtain ⟨a, ws, rfl, _, h1, r2⟩ := s.seq r1 e
   exact h σ α H st _ a ws Q s h1 r2 p
  ·exact p.elim
 ·exact p.elim
theorem Zth (c : Ck g X W) : BiS g X W (.builtin "any") anyL := by
 intro σ α H st ds a vs Q s ha r p
 unfold anyL at p
 split at p
 ·rename_i ns e
  cases toBs r e
  exact ⟨_, cr_any c.calm, a, ns, rfl, by rw [c.hK]; exact ha, PD.ok p s rfl⟩
 ·exact p.elim
end
section
end
end Mi
namespace Mi
open PySem L2
inductive Ty where
 | non | bool | int | str | tuple | list | dict
 deriving DecidableEq
def Ty.nm : Ty -> String
 | .non => "NoneType" | .bool => "bool" | .int => "int" | .str => "str" | .tuple => "tuple" | .list => "list" | .dict => "dict"
def isi : Ty -> Ty -> Bool
 | .bool, .int => true
 | a, b => decide (a = b)
def tyD : D -> Sto -> Option Ty
 | .non, _ => some .non
 | .bl _, _ => some .bool
 | .int _, _ => some .int
 | .str _, _ => some .str
 | .tup _, _ => some .tuple
 | .kl _, _ => some .list
 | .obj n, st => match st[n]? with
  | some (.lst _) => some .list
  | some (.frz _) => some .list
  | some (.dic _) => some .dict
  | _ => none
 | _, _ => none
def isiD (T : Ty) (d : D) (st : Sto) : R D := match tyD d st with | some t => .ok (.bl (isi t T)) st | none => .stuck
section
end
def hasT : String -> D -> Sto -> Bool
 | "str", .str _, _ => true
 | "list", .obj n, st => (seqOf st n).isSome
 | "list", .kl _, _ => true
 | "dict", .obj n, st => (match st[n]? with | some (.dic _) => true | _ => false)
 | _, _, _ => false
def eMt (T : String) (o : D -> List D -> Sto -> R D) (Fo : DE) (G : DA) : DE := fun env st => (Fo env st).bind fun a st1 => if hasT T a st1 = true then (G env st1).bind fun ds st2 => o a ds st2 else .stuck
def eMt0 (T : String) (o : D -> List D -> Sto -> R D) (Fo : DE) : DE := fun env st => (Fo env st).bind fun a st1 => if hasT T a st1 = true then o a [] st1 else .stuck
section
end
def appendM : D -> List D -> Sto -> R D
 | .obj n, [d], st => match st[n]? with | some (.lst ds) => if ds.length < sizeLine then .ok .non (st.set n (.lst (ds ++ [d]))) else .stuck | _ => .stuck
 | _, _, _ => .stuck
def findM : D -> List D -> Sto -> R D
 | .str a, [.str b], st => .ok (.int (Txt.find a b)) st
 | _, _, _ => .stuck
section
end
abbrev Fam := Nat -> List D -> Sto -> R D
structure FG (g : Gd) (k : Nat) (f : Addr) (fd : FuncData) (ps : List Str) (sp : Sp) : Prop where
 len : ∀ vs H Q E, sp vs H Q E -> vs.length = ps.length
 run : ∀ (A : Around) (fr : List PySem.Env) (s : Shared) (H : Hp) (as : Args) (us : List Value) (vs : List V) (Q : VK) (E : XK), Room k A -> A.guards = some [] -> Env0 g.P g.w g.K g.mg g.base A fr s H ->
  BindsTo s fd as (ps.zip us) -> Vals vs us -> sp vs H Q E -> codeAny (model g.P g.w) A (.call (.ref f) as) (CR (L2.CX g.P g.w) fr g.P g.w H s Q E) s
def spD (g : Gd) (np : Nat) (φ : List D -> Sto -> R D) : Sp := fun vs H Q E => ∃ α st ds, StR g α st H /\ RDs g α H ds vs /\ ds.length = np /\ Post g (fun cls d _ H' => E cls d H') [] α H (φ ds st) fun d _ α' H' => ∀ v, RD g α' H' d v -> Q v H'
def runB (n : Nat) (B : DS) (ds : List D) (st : Sto) : R D := match B (ds.map some ++ List.replicate (n - ds.length) none) st with
 | .rt d st1 => .ok d st1
 | .nx _ st1 => .ok .non st1
 | .exc c fs _ st1 => .exc c fs st1
 | _ => .stuck
section
variable {g : Gd} {X : Cx} {W : WX} {k : Nat} {f : Addr} {fd : FuncData} {ps : List Str} {sp : Sp}
theorem FG.mono {j : Nat} (F : FG g j f fd ps sp) (h : j <= k) : FG g k f fd ps sp := ⟨F.len, fun A fr s H as us vs Q E hr => F.run A fr s H as us vs Q E (hr.mono h)⟩
theorem FG.call (c : Ck g X W) {pins : List (Addr × Obj)} {σ : L2.St} {H : Hp} {s : Shared} {Q : VK} {us : List Value} {vs : List V} (F : FG g k f fd ps sp) (hr : Room k X.A) (hb : Binds g.K fd ps []) (I : L2.Inv X pins σ H s) (r : Vals vs us)
  (h : sp vs H Q fun cls d H' => W cls d σ H') : wpAny (model X.prog X.w) X.A (PySem.call (.ref f) us) (EP X pins σ Q) X.xe s := by
 have hl : us.length = ps.length := r.length.symm.trans (F.len _ _ _ _ h)
 have hk : g.K.In s.heap := by rw [<- c.hK]; exact I.kIn
 have bb := hb s us hk (by rw [List.append_nil]; exact hl)
 rw [List.append_nil] at bb
 have e0 := I.env0
 have go := F.run X.A X.stack s H ⟨us, []⟩ us vs Q (fun cls d H' => W cls d σ H') hr c.gd (by rw [<- c.hP, <- c.hw, <- c.hK, <- c.hmg, <- c.hb]; exact e0) bb r h
 rw [<- c.hP, <- c.hw] at go
 refine wpAny_call (codeAny_mono go fun res s' hq => ?_)
 match res, hq with
 | .error e, hq => exact c.tk e s' (XE.of_call I (fun _ _ _ z => z) hq)
 | .ok (.ret u), hq => exact I.after hq
 | .ok .next, hq => exact False.elim hq
 | .ok .brk, hq => exact False.elim hq
 | .ok .cont, hq => exact False.elim hq
theorem Zga (c : Ck g X W) {np : Nat} {φ : List D -> Sto -> R D} (F : FG g k f fd ps (spD g np φ)) (hr : Room k X.A) {x : Str} {p pos : Pos} {e : Expr} {es : List Expr} {G : DA} (hm : g.mg x = some (.ref f)) (hk : PySem.W.keepIn g.K (.ref f) = true) (hb : Binds g.K fd ps [])
  (ha : OA g X W (e :: es) G) (hn : (e :: es).length = np := by rfl) (hgl : ∀ env st ds st1, G env st = .ok ds st1 -> ds.length = np) (hg : L2.Gl X x := by rfl) (hdb : (x == ("__debug__" : Str)) = false := by decide) (he : starEach (e :: es) X.env = (false, eval e X.env) :: starEach es X.env := by rfl)
  (hpl : (backTo pos (starEach es X.env)).any (·.1) = false := by rfl) : OE g X W (.Call (.Name x p) (e :: es) [] pos) (eCall φ G) := by
 refine ⟨fun pins s σ H Q I ⟨α, env, st, hE, hS, p⟩ => ?_⟩
 have step : tA g W G σ H fun vs H1 => spD g np φ vs H1 Q fun cls d H' => W cls d σ H' := by
  refine tA.run hE hS ?_
  have pb := p.bind
  cases hG : G env st with
  | stuck => rw [hG] at pb; exact pb.elim
  | exc cc fs st1 => rw [hG] at pb; exact pb
  | ok ds st1 =>
   rw [hG] at pb
   intro α1 H1 x1 s1 vs r
   refine ⟨α1, st1, ds, s1, r, hgl _ _ _ _ hG, ?_⟩
   have q : Post g W σ α1 H1 (φ ds st1) fun d _ α' H' => ∀ v, RD g α' H' d v -> Q v H' := pb α1 H1 x1 s1
   cases hφ : φ ds st1 with
   | stuck => rw [hφ] at q; exact q.elim
   | exc cc fs st2 => rw [hφ] at q; exact q
   | ok d st2 => rw [hφ] at q; exact q
 refine wpAny_Call_Name_kw (ld_glob I hg (by rw [c.hmg]; exact hm) ?_ hdb)
 refine PySem.W.callWith_K (h₀ := X.base) I.ok.mod.kin (by rw [c.hK]; exact hk) (thn (L2.PA.run ha pos pins s σ H _ I step) fun us s1 ⟨vs, H1, I1, r, q⟩ => ⟨I1.kIn, ?_⟩) he hpl
 exact F.call c hr hb I1 r q
theorem ZeF : ∀ env st ds st1, aNil env st = .ok ds st1 -> ds.length = 0 := fun _ _ _ _ h => by cases h; rfl
theorem Zan {F : DE} {G : DA} {n : Nat} (h : ∀ env st ds st1, G env st = .ok ds st1 -> ds.length = n) : ∀ env st ds st1, aCons F G env st = .ok ds st1 -> ds.length = n + 1 := fun env st ds st1 e => by
 unfold aCons at e
 cases hF : F env st with
 | stuck => rw [hF] at e; cases e
 | exc c fs st => rw [hF] at e; cases e
 | ok d st2 =>
  rw [hF] at e
  simp only [R.bind_ok] at e
  cases hG : G env st2 with
  | stuck => rw [hG] at e; cases e
  | exc c fs st => rw [hG] at e; cases e
  | ok ds2 st3 =>
   rw [hG] at e
   cases e
   simp [h _ _ _ _ hG]
end
end Mi
namespace Mi
open PySem PySem.Spec PyProof.Rows L2
section
variable {g : Gd}
/-- the place of a def's body -/
abbrev cxD (g : Gd) (N : List Str) (qual : Str) (sc : Scope) (f : Addr) (cdv : Value) (A : Around) (fr : List PySem.Env) (s : Shared) (H : Hp) (E : XK) : Cx := cxOf (L2.CX g.P g.w) g.P g.w g.K g.mg g.base N qual sc f cdv A fr s H E
abbrev wE (E : XK) : WX := fun cls d _ H' => E cls d H'
theorem Ztm {α : List Addr} {H : Hp} {N : List Str} {ds : List D} {vs : List V} (r : RDs g α H ds vs) (hl : ds.length <= N.length) : EnvR g α H (ds.map some ++ List.replicate (N.length - ds.length) none) (L2.start N vs) := by
 have e := r.length
 refine ⟨by simp [L2.start, e], fun i d h => ?_⟩
 by_cases hi : i < ds.length
 ·rw [List.getElem?_append_left (by simpa using hi), List.getElem?_map] at h
  cases q : ds[i]? with
  | none => rw [q] at h; cases h
  | some x =>
   rw [q] at h
   cases h
   obtain ⟨v, h1, h2⟩ := r.get q
   refine ⟨v, ?_, h2⟩
   unfold L2.start
   rw [List.getElem?_append_left (by rw [List.length_map, <- e]; exact hi), List.getElem?_map, h1]
   rfl
 ·rw [List.getElem?_append_right (by simpa using hi), List.getElem?_replicate] at h
  split at h <;> cases h
theorem Zge {x qual : Str} {st : Stmt} {f : Addr} {fd : FuncData} {N ps : List Str} {k np : Nat} {B : DS} (F : Fun g.K x qual st f fd) (S : FnScope N ps (defScope st)) (hnp : ps.length = np) (hN : np <= N.length)
  (body : ∀ (cdv : Value) (A : Around) (fr : List PySem.Env) (s : Shared) (H : Hp) (E : XK), Ck g (cxD g N qual (defScope st) f cdv A fr s H E) (wE E) -> Room k (cxD g N qual (defScope st) f cdv A fr s H E).A ->
   OSs g (cxD g N qual (defScope st) f cdv A fr s H E) (wE E) (defBody st) B) : FG g (k + 1) f fd ps (spD g np (runB N.length B)) := by
 obtain ⟨oc, od, kV, doc, pm, an, cdv, ct, osl, rfl, lk, hcd⟩ := F.ex
 have ln : ∀ vs H Q E, spD g np (runB N.length B) vs H Q E -> vs.length = ps.length := fun vs H Q E ⟨α, st, ds, _, r, e, _⟩ => by rw [<- r.length, e, hnp]
 refine ⟨ln, fun A fr s H as us vs Q E hr hgd e0 hb r hsp => ?_⟩
 have hl := ln _ _ _ _ hsp
 have kin : g.K.In s.heap := e0.mod.kin.keeps fun b o e => (e0.bs b o e).1
 have lim : s.heap.NoLimit := e0.mod.nolimit.keeps fun b o e => (e0.bs b o e).1
 have kinds : ∀ y ∈ ps.zip us, (defScope st).names.lookup y.1 = some .local \/ ((defScope st).names.lookup y.1 = some .cell /\ ((cellsFrom (s.heap.objs.size + 1) (defScope st).names []).lookup y.1).isSome = true) := by
  rintro ⟨n, v⟩ hy
  rcases S.par n (List.of_mem_zip hy).1 with q | q
  ·exact .inl q
  ·exact .inr ⟨q, PySem.W.cellsFrom_some _ _ _ (.inl q)⟩
 refine codeAny_call_function hr.depth (kin _ _ lk) rfl S.co S.gen rfl (PySem.W.codeRec_of kin hcd) (hb _ _ _ _ ?_)
 refine wpAny_newFunctionEnv_cells S.kind kinds fun env he s1 xx => ?_
 subst he
 refine ⟨lim.keeps xx.toInCall.keep, codeAny_func ?_⟩
 have rm := hr.deeper (envOfC qual (defScope st) s.heap.objs.size f cdv)
 have ck : Ck g (cxD g N qual (defScope st) f cdv A fr s H E) (wE E) :=
  ⟨rfl, rfl, rfl, rfl, rfl, rfl, S.nd, takes_of rfl rfl rfl rfl, hgd, by have := rm.un; show (A.deeper (envOfC qual (defScope st) s.heap.objs.size f cdv)).units + 200 < cLine; omega, passes_of rfl⟩
 have ob := body cdv A fr s H E ck rm
 have I : L2.Inv (cxD g N qual (defScope st) f cdv A fr s H E) [] (L2.start N vs) H s1 := inv_start S hr.hd e0 hl r xx
 have fin : ∀ {σ' : L2.St} {H' : Hp} {s' : Shared} {v : V} {u : Value}, L2.Inv (cxD g N qual (defScope st) f cdv A fr s H E) [] σ' H' s' -> RelV v u -> Q v H' -> CE fr g.P g.w H s Q u s' :=
  fun {σ' H' s' v u} J rv q => ⟨v, H', J.os, J.bare, J.base, J.hok, rv, q⟩
 obtain ⟨α, sto, ds, hS, rd, el, post⟩ := hsp
 have goal : tS g (wE E) B { nx := fun _ H' => Q .non H', rt := Q } (L2.start N vs) H := by
  refine ⟨α, _, sto, Ztm rd (by rw [el]; exact hN), hS, ?_⟩
  unfold runB at post
  cases hB : B (ds.map some ++ List.replicate (N.length - ds.length) none) sto with
  | nx env1 st1 => rw [hB] at post; exact fun α' H' σ' e s r => post α' H' e s .non rfl
  | rt d st1 => rw [hB] at post; exact fun α' H' v e s r => post α' H' e s v r
  | bk env1 st1 => rw [hB] at post; exact post.elim
  | ct env1 st1 => rw [hB] at post; exact post.elim
  | exc c fs env1 st1 => rw [hB] at post; exact fun α' H' cls dx σ' e s _ x => post α' H' cls dx e s x
  | stuck => rw [hB] at post; exact post.elim
 refine wpAny_mono (ob.run [] s1 (L2.start N vs) H _ I goal) (fun fl s' hs => ?_) fun e s' hs => hs
 match fl, hs with
 | .ret u, hs => obtain ⟨v, σ', H', J, rv, q⟩ := hs; exact fin J rv q
 | .next, hs => obtain ⟨σ', H', J, q⟩ := hs; exact fin (v := V.non) (u := Value.none) J rfl q
 | .brk, hs => obtain ⟨_, _, _, q⟩ := hs; exact q.elim
 | .cont, hs => obtain ⟨_, _, _, q⟩ := hs; exact q.elim
end
theorem Zkl {g : Gd} {α : List Addr} {H : Hp} : ∀ ns : List Int, RDs g α H (ns.map .int) (ns.map V.int)
 | [] => RDs.nil
 | n :: r => RDs.cons rfl (Zkl r)
end Mi
namespace Mi
open PySem L2
def setD : D -> D -> D -> Sto -> Option Sto
 | .obj n, .int k, d, st => match st[n]? with
  | some (.lst ds) => (match ixN ds.length k with | some j => some (st.set n (.lst (ds.set j d))) | none => none)
  | _ => none
 | _, _, _, _ => none
def sSub (F Fo Fi : DE) : DS := fun env st => bindS (F env st) env fun d st1 => bindS (Fo env st1) env fun o st2 => bindS (Fi env st2) env fun i st3 => match setD o i d st3 with | some st4 => .nx env st4 | none => .stuck
section
variable {g : Gd} {X : Cx} {W : WX} {pos : Pos}
/-- a, b = x, y -/
def sPar (i j : Nat) (G : DA) : DS := fun env st => bindS (G env st) env fun ds st1 => match ds with | [a, b] => .nx ((env.set i (some a)).set j (some b)) st1 | _ => .stuck
end
/-- the levels of calls -/
def Phi (p : Fam -> Fam) : Nat -> Fam
 | 0 => fun _ _ _ => .stuck
 | n + 1 => p (Phi p n)
theorem ZaH {g : Gd} {k : Nat} {f : Addr} {fd : FuncData} {ps : List Str} {np : Nat} : FG g k f fd ps (spD g np fun _ _ => .stuck) :=
 ⟨fun _ _ _ _ ⟨_, _, _, _, _, _, p⟩ => p.elim, fun _ _ _ _ _ _ _ _ _ _ _ _ _ _ ⟨_, _, _, _, _, _, p⟩ => p.elim⟩
end Mi
namespace Mi
open PySem L2
def seqS (r : RS) (B : DS) : RS := match r with | .nx env st => B env st | r => r
@[simp] theorem ZAp {env : Env} {st : Sto} {B : DS} : seqS (.nx env st) B = B env st := rfl
@[simp] theorem ZAO {d : D} {st : Sto} {B : DS} : seqS (.rt d st) B = .rt d st := rfl
@[simp] theorem ZzP {env : Env} {st : Sto} {B : DS} : seqS (.bk env st) B = .bk env st := rfl
@[simp] theorem ZzJ {env : Env} {st : Sto} {B : DS} : seqS (.ct env st) B = .ct env st := rfl
@[simp] theorem Zyc {c fs} {env : Env} {st : Sto} {B : DS} : seqS (.exc c fs env st) B = .exc c fs env st := rfl
@[simp] theorem ZtF {B : DS} : seqS .stuck B = .stuck := rfl
/-- a loop's turn and what follows -/
def turnS (r : RS) (B : Env -> Sto -> RS) : RS := match r with | .nx env st => B env st | .ct env st => B env st | .bk env st => .nx env st | r => r
@[simp] theorem Zx8 {env : Env} {st : Sto} {B : Env -> Sto -> RS} : turnS (.nx env st) B = B env st := rfl
@[simp] theorem Zw2 {env : Env} {st : Sto} {B : Env -> Sto -> RS} : turnS (.ct env st) B = B env st := rfl
@[simp] theorem Zww {env : Env} {st : Sto} {B : Env -> Sto -> RS} : turnS (.bk env st) B = .nx env st := rfl
@[simp] theorem Zxv {d : D} {st : Sto} {B : Env -> Sto -> RS} : turnS (.rt d st) B = .rt d st := rfl
@[simp] theorem Zt6 {c fs} {env : Env} {st : Sto} {B : Env -> Sto -> RS} : turnS (.exc c fs env st) B = .exc c fs env st := rfl
@[simp] theorem Ztb {B : Env -> Sto -> RS} : turnS .stuck B = .stuck := rfl
def endS (r : RS) : R D := match r with | .rt d st => .ok d st | .nx _ st => .ok .non st | .exc c fs _ st => .exc c fs st | _ => .stuck
@[simp] theorem Zzq {d : D} {st : Sto} : endS (.rt d st) = .ok d st := rfl
@[simp] theorem ZAQ {env : Env} {st : Sto} : endS (.nx env st) = .ok .non st := rfl
@[simp] theorem Zxu {c fs} {env : Env} {st : Sto} : endS (.exc c fs env st) = .exc c fs st := rfl
theorem ZhC {n : Nat} {B : DS} {ds : List D} {st : Sto} : runB n B ds st = endS (B (ds.map some ++ List.replicate (n - ds.length) none) st) := rfl
def varR (o : Option (Option D)) (st : Sto) : R D := match o with | some (some d) => .ok d st | _ => .stuck
@[simp] theorem Zus {d : D} {st : Sto} : varR (some (some d)) st = .ok d st := rfl
def andT (o : Option Bool) (a : D) (Fb : DE) (env : Env) (st : Sto) : R D := match o with | some true => Fb env st | some false => .ok a st | none => .stuck
def orT (o : Option Bool) (a : D) (Fb : DE) (env : Env) (st : Sto) : R D := match o with | some true => .ok a st | some false => Fb env st | none => .stuck
def notT (o : Option Bool) (st : Sto) : R D := match o with | some b => .ok (.bl (!b)) st | none => .stuck
@[simp] theorem Zvr {b : Bool} {a : D} {Fb : DE} {env : Env} {st : Sto} : andT (some b) a Fb env st = if b = true then Fb env st else .ok a st := by cases b <;> rfl
@[simp] theorem ZwZ {b : Bool} {a : D} {Fb : DE} {env : Env} {st : Sto} : orT (some b) a Fb env st = if b = true then .ok a st else Fb env st := by cases b <;> rfl
@[simp] theorem Zum {b : Bool} {st : Sto} : notT (some b) st = .ok (.bl (!b)) st := rfl
def parS (i j : Nat) (env : Env) (ds : List D) (st : Sto) : RS := match ds with | [a, b] => .nx ((env.set i (some a)).set j (some b)) st | _ => .stuck
@[simp] theorem ZxX {i j : Nat} {env : Env} {a b : D} {st : Sto} : parS i j env [a, b] st = .nx ((env.set i (some a)).set j (some b)) st := rfl
def asB (d : D) (st : Sto) : R Bool := match d with | .bl b => .ok b st | _ => .stuck
@[simp] theorem ZB3 {b : Bool} {st : Sto} : asB (.bl b) st = .ok b st := rfl
def truR (o : Option Bool) (st : Sto) : R Bool := match o with | some b => .ok b st | none => .stuck
@[simp] theorem Zvu {b : Bool} {st : Sto} : truR (some b) st = .ok b st := rfl
def stS (o : Option Sto) (env : Env) : RS := match o with | some st => .nx env st | none => .stuck
@[simp] theorem ZwM {st : Sto} {env : Env} : stS (some st) env = .nx env st := rfl
def itR (o : Option (List D × Wat)) (st : Sto) : R (List D × Wat) := match o with | some p => .ok p st | none => .stuck
@[simp] theorem ZwW {p : List D × Wat} {st : Sto} : itR (some p) st = .ok p st := rfl
def intO (d : D) (st : Sto) : R (Option Int) := match d with | .int i => .ok (some i) st | _ => .stuck
@[simp] theorem Zxd {i : Int} {st : Sto} : intO (.int i) st = .ok (some i) st := rfl
def rng1 (ds : List D) (st : Sto) : R (List D × Wat) := match ds with
 | [.int j] => if -(2 ^ 62) <= j /\ j < 2 ^ 62 then .ok (upI 0 j.toNat, []) st else .stuck
 | _ => .stuck
theorem Zs7 {j : Int} {st : Sto} (h0 : -(2 ^ 62) <= j) (h : j < 2 ^ 62) : rng1 [.int j] st = .ok (upI 0 j.toNat, []) st := by
 unfold rng1; simp only; rw [if_pos ⟨h0, h⟩]
def rng2 (ds : List D) (st : Sto) : R (List D × Wat) := match ds with
 | [.int i, .int j] => if -(2 ^ 62) <= i /\ i < 2 ^ 62 /\ -(2 ^ 62) <= j /\ j < 2 ^ 62 then .ok (upI i (j - i).toNat, []) st else .stuck
 | _ => .stuck
def enumS (d : D) (st : Sto) : R (List D × Wat) := match d with
 | .obj n => (match seqOf st n with | some ds => .ok (numb ds, [(n, ds)]) st | none => .stuck)
 | _ => .stuck
theorem Zlo {n : Nat} {ds : List D} {st : Sto} (h : seqOf st n = some ds) : enumS (.obj n) st = .ok (numb ds, [(n, ds)]) st := by
 unfold enumS; simp only; rw [h]
def zipS (ds : List D) (st : Sto) : R (List D × Wat) := match ds with
 | [a, b] => (match zipD a b st with | some p => .ok p st | none => .stuck)
 | _ => .stuck
@[simp] theorem ZAl {xs ys : List D} {st : Sto} : zipS [.tup xs, .tup ys] st = .ok (pairs xs ys, []) st := rfl
def f2b (o : D -> D -> Sto -> R D) (a : D) (r : R D) : R D := r.bind fun b st1 => o a b st1
@[simp] theorem ZBW {o : D -> D -> Sto -> R D} {a : D} {b : D} {st1 : Sto} : f2b o a (.ok b st1) = o a b st1 := rfl
@[simp] theorem ZBM {o : D -> D -> Sto -> R D} {a : D} : f2b o a .stuck = .stuck := rfl
@[simp] theorem ZCX {o : D -> D -> Sto -> R D} {a : D} {c : Nat} {fs : List (Str × D)} {st1 : Sto} : f2b o a (.exc c fs st1) = .exc c fs st1 := rfl
def f2a (o : D -> D -> Sto -> R D) (Fb : DE) (env : Env) (r : R D) : R D := r.bind fun b st1 => f2b o b (Fb env st1)
@[simp] theorem ZCf {o : D -> D -> Sto -> R D} {Fb : DE} {env : Env} {b : D} {st1 : Sto} : f2a o Fb env (.ok b st1) = f2b o b (Fb env st1) := rfl
@[simp] theorem ZBY {o : D -> D -> Sto -> R D} {Fb : DE} {env : Env} : f2a o Fb env .stuck = .stuck := rfl
@[simp] theorem ZBA {o : D -> D -> Sto -> R D} {Fb : DE} {env : Env} {c : Nat} {fs : List (Str × D)} {st1 : Sto} : f2a o Fb env (.exc c fs st1) = .exc c fs st1 := rfl
def f1 (o : D -> Sto -> R D) (r : R D) : R D := r.bind fun b st1 => o b st1
@[simp] theorem ZC1 {o : D -> Sto -> R D} {b : D} {st1 : Sto} : f1 o (.ok b st1) = o b st1 := rfl
@[simp] theorem ZDf {o : D -> Sto -> R D} : f1 o .stuck = .stuck := rfl
@[simp] theorem ZC0 {o : D -> Sto -> R D} {c : Nat} {fs : List (Str × D)} {st1 : Sto} : f1 o (.exc c fs st1) = .exc c fs st1 := rfl
def fEv  (r : R (List D)) : R D := r.bind fun b st1 => .ok (.ev b) st1
@[simp] theorem ZCM  {b : (List D)} {st1 : Sto} : fEv  (.ok b st1) = .ok (.ev b) st1 := rfl
@[simp] theorem ZB0  : fEv  .stuck = .stuck := rfl
@[simp] theorem ZCm  {c : Nat} {fs : List (Str × D)} {st1 : Sto} : fEv  (.exc c fs st1) = .exc c fs st1 := rfl
def fNew  (r : R (List D)) : R D := r.bind fun b st1 => new (.lst b) st1
@[simp] theorem ZzY  {b : (List D)} {st1 : Sto} : fNew  (.ok b st1) = new (.lst b) st1 := rfl
@[simp] theorem ZAZ  : fNew  .stuck = .stuck := rfl
@[simp] theorem ZyH  {c : Nat} {fs : List (Str × D)} {st1 : Sto} : fNew  (.exc c fs st1) = .exc c fs st1 := rfl
def fDisp  (r : R (List D)) : R (List D) := r.bind fun b st1 => if b.length <= sizeLine then .ok b st1 else .stuck
@[simp] theorem Zx6  {b : (List D)} {st1 : Sto} : fDisp  (.ok b st1) = if b.length <= sizeLine then .ok b st1 else .stuck := rfl
@[simp] theorem Zxz  : fDisp  .stuck = .stuck := rfl
@[simp] theorem ZxD  {c : Nat} {fs : List (Str × D)} {st1 : Sto} : fDisp  (.exc c fs st1) = .exc c fs st1 := rfl
def fConsb (d : D) (r : R (List D)) : R (List D) := r.bind fun b st1 => .ok (d :: b) st1
@[simp] theorem ZtN {d : D} {b : (List D)} {st1 : Sto} : fConsb d (.ok b st1) = .ok (d :: b) st1 := rfl
@[simp] theorem Zv9 {d : D} : fConsb d .stuck = .stuck := rfl
@[simp] theorem ZuH {d : D} {c : Nat} {fs : List (Str × D)} {st1 : Sto} : fConsb d (.exc c fs st1) = .exc c fs st1 := rfl
def fConsa (G : DA) (env : Env) (r : R D) : R (List D) := r.bind fun b st1 => fConsb b (G env st1)
@[simp] theorem ZuV {G : DA} {env : Env} {b : D} {st1 : Sto} : fConsa G env (.ok b st1) = fConsb b (G env st1) := rfl
@[simp] theorem ZuM {G : DA} {env : Env} : fConsa G env .stuck = .stuck := rfl
@[simp] theorem Zug {G : DA} {env : Env} {c : Nat} {fs : List (Str × D)} {st1 : Sto} : fConsa G env (.exc c fs st1) = .exc c fs st1 := rfl
def fTup  (r : R (List D)) : R D := r.bind fun b st1 => if b.length <= sizeLine then .ok (.tup b) st1 else .stuck
@[simp] theorem Zy8  {b : (List D)} {st1 : Sto} : fTup  (.ok b st1) = if b.length <= sizeLine then .ok (.tup b) st1 else .stuck := rfl
@[simp] theorem ZzW  : fTup  .stuck = .stuck := rfl
@[simp] theorem ZAm  {c : Nat} {fs : List (Str × D)} {st1 : Sto} : fTup  (.exc c fs st1) = .exc c fs st1 := rfl
def fLst  (r : R (List D)) : R D := r.bind fun b st1 => if b.length <= sizeLine then new (.lst b) st1 else .stuck
@[simp] theorem Zz2  {b : (List D)} {st1 : Sto} : fLst  (.ok b st1) = if b.length <= sizeLine then new (.lst b) st1 else .stuck := rfl
@[simp] theorem Zyw  : fLst  .stuck = .stuck := rfl
@[simp] theorem Zzl  {c : Nat} {fs : List (Str × D)} {st1 : Sto} : fLst  (.exc c fs st1) = .exc c fs st1 := rfl
def fCall (o : List D -> Sto -> R D) (r : R (List D)) : R D := r.bind fun b st1 => o b st1
@[simp] theorem Zxl {o : List D -> Sto -> R D} {b : (List D)} {st1 : Sto} : fCall o (.ok b st1) = o b st1 := rfl
@[simp] theorem Zyd {o : List D -> Sto -> R D} : fCall o .stuck = .stuck := rfl
@[simp] theorem ZxZ {o : List D -> Sto -> R D} {c : Nat} {fs : List (Str × D)} {st1 : Sto} : fCall o (.exc c fs st1) = .exc c fs st1 := rfl
def fAnd (Fb : DE) (env : Env) (r : R D) : R D := r.bind fun b st1 => andT (truD b st1) b Fb env st1
@[simp] theorem ZA4 {Fb : DE} {env : Env} {b : D} {st1 : Sto} : fAnd Fb env (.ok b st1) = andT (truD b st1) b Fb env st1 := rfl
@[simp] theorem ZyZ {Fb : DE} {env : Env} : fAnd Fb env .stuck = .stuck := rfl
@[simp] theorem ZyB {Fb : DE} {env : Env} {c : Nat} {fs : List (Str × D)} {st1 : Sto} : fAnd Fb env (.exc c fs st1) = .exc c fs st1 := rfl
def fOr (Fb : DE) (env : Env) (r : R D) : R D := r.bind fun b st1 => orT (truD b st1) b Fb env st1
@[simp] theorem ZBJ {Fb : DE} {env : Env} {b : D} {st1 : Sto} : fOr Fb env (.ok b st1) = orT (truD b st1) b Fb env st1 := rfl
@[simp] theorem ZBr {Fb : DE} {env : Env} : fOr Fb env .stuck = .stuck := rfl
@[simp] theorem ZCg {Fb : DE} {env : Env} {c : Nat} {fs : List (Str × D)} {st1 : Sto} : fOr Fb env (.exc c fs st1) = .exc c fs st1 := rfl
def fNot  (r : R D) : R D := r.bind fun b st1 => notT (truD b st1) st1
@[simp] theorem ZAF  {b : D} {st1 : Sto} : fNot  (.ok b st1) = notT (truD b st1) st1 := rfl
@[simp] theorem Zy1  : fNot  .stuck = .stuck := rfl
@[simp] theorem Zy5  {c : Nat} {fs : List (Str × D)} {st1 : Sto} : fNot  (.exc c fs st1) = .exc c fs st1 := rfl
def fTst  (r : R D) : R Bool := r.bind fun b st1 => truR (truD b st1) st1
@[simp] theorem Zz5  {b : D} {st1 : Sto} : fTst  (.ok b st1) = truR (truD b st1) st1 := rfl
@[simp] theorem Zzx  : fTst  .stuck = .stuck := rfl
@[simp] theorem ZAo  {c : Nat} {fs : List (Str × D)} {st1 : Sto} : fTst  (.exc c fs st1) = .exc c fs st1 := rfl
def fTstB  (r : R D) : R Bool := r.bind fun b st1 => asB b st1
@[simp] theorem Zw9  {b : D} {st1 : Sto} : fTstB  (.ok b st1) = asB b st1 := rfl
@[simp] theorem Zx3  : fTstB  .stuck = .stuck := rfl
@[simp] theorem Zxh  {c : Nat} {fs : List (Str × D)} {st1 : Sto} : fTstB  (.exc c fs st1) = .exc c fs st1 := rfl
def fbAnd (C : DT) (env : Env) (r : R Bool) : R Bool := r.bind fun b st1 => if b = true then C env st1 else .ok false st1
@[simp] theorem ZwT {C : DT} {env : Env} {b : Bool} {st1 : Sto} : fbAnd C env (.ok b st1) = if b = true then C env st1 else .ok false st1 := rfl
@[simp] theorem Zxo {C : DT} {env : Env} : fbAnd C env .stuck = .stuck := rfl
@[simp] theorem Zwq {C : DT} {env : Env} {c : Nat} {fs : List (Str × D)} {st1 : Sto} : fbAnd C env (.exc c fs st1) = .exc c fs st1 := rfl
def fbOr (C : DT) (env : Env) (r : R Bool) : R Bool := r.bind fun b st1 => if b = true then .ok true st1 else C env st1
@[simp] theorem Zzb {C : DT} {env : Env} {b : Bool} {st1 : Sto} : fbOr C env (.ok b st1) = if b = true then .ok true st1 else C env st1 := rfl
@[simp] theorem ZzL {C : DT} {env : Env} : fbOr C env .stuck = .stuck := rfl
@[simp] theorem ZBa {C : DT} {env : Env} {c : Nat} {fs : List (Str × D)} {st1 : Sto} : fbOr C env (.exc c fs st1) = .exc c fs st1 := rfl
def fbNot  (r : R Bool) : R Bool := r.bind fun b st1 => .ok (!b) st1
@[simp] theorem Zwu  {b : Bool} {st1 : Sto} : fbNot  (.ok b st1) = .ok (!b) st1 := rfl
@[simp] theorem ZwX  : fbNot  .stuck = .stuck := rfl
@[simp] theorem ZxL  {c : Nat} {fs : List (Str × D)} {st1 : Sto} : fbNot  (.exc c fs st1) = .exc c fs st1 := rfl
def fIf (Fa Fb : DE) (env : Env) (r : R Bool) : R D := r.bind fun b st1 => if b = true then Fa env st1 else Fb env st1
@[simp] theorem ZCG {Fa Fb : DE} {env : Env} {b : Bool} {st1 : Sto} : fIf Fa Fb env (.ok b st1) = if b = true then Fa env st1 else Fb env st1 := rfl
@[simp] theorem ZCW {Fa Fb : DE} {env : Env} : fIf Fa Fb env .stuck = .stuck := rfl
@[simp] theorem ZBI {Fa Fb : DE} {env : Env} {c : Nat} {fs : List (Str × D)} {st1 : Sto} : fIf Fa Fb env (.exc c fs st1) = .exc c fs st1 := rfl
def fSlc (a : D) (lo : Option Int) (r : R (Option Int)) : R D := r.bind fun b st1 => slD a lo b st1
@[simp] theorem ZzQ {a : D} {lo : Option Int} {b : (Option Int)} {st1 : Sto} : fSlc a lo (.ok b st1) = slD a lo b st1 := rfl
@[simp] theorem ZyE {a : D} {lo : Option Int} : fSlc a lo .stuck = .stuck := rfl
@[simp] theorem Zz0 {a : D} {lo : Option Int} {c : Nat} {fs : List (Str × D)} {st1 : Sto} : fSlc a lo (.exc c fs st1) = .exc c fs st1 := rfl
def fSlb (a : D) (Fh : DO) (env : Env) (r : R (Option Int)) : R D := r.bind fun b st1 => fSlc a b (Fh env st1)
@[simp] theorem Zzo {a : D} {Fh : DO} {env : Env} {b : (Option Int)} {st1 : Sto} : fSlb a Fh env (.ok b st1) = fSlc a b (Fh env st1) := rfl
@[simp] theorem ZyO {a : D} {Fh : DO} {env : Env} : fSlb a Fh env .stuck = .stuck := rfl
@[simp] theorem ZA8 {a : D} {Fh : DO} {env : Env} {c : Nat} {fs : List (Str × D)} {st1 : Sto} : fSlb a Fh env (.exc c fs st1) = .exc c fs st1 := rfl
def fSla (Fl Fh : DO) (env : Env) (r : R D) : R D := r.bind fun b st1 => fSlb b Fh env (Fl env st1)
@[simp] theorem ZzU {Fl Fh : DO} {env : Env} {b : D} {st1 : Sto} : fSla Fl Fh env (.ok b st1) = fSlb b Fh env (Fl env st1) := rfl
@[simp] theorem ZAb {Fl Fh : DO} {env : Env} : fSla Fl Fh env .stuck = .stuck := rfl
@[simp] theorem ZyP {Fl Fh : DO} {env : Env} {c : Nat} {fs : List (Str × D)} {st1 : Sto} : fSla Fl Fh env (.exc c fs st1) = .exc c fs st1 := rfl
def fPart  (r : R D) : R (Option Int) := r.bind fun b st1 => intO b st1
@[simp] theorem Zyl  {b : D} {st1 : Sto} : fPart  (.ok b st1) = intO b st1 := rfl
@[simp] theorem ZxR  : fPart  .stuck = .stuck := rfl
@[simp] theorem ZxC  {c : Nat} {fs : List (Str × D)} {st1 : Sto} : fPart  (.exc c fs st1) = .exc c fs st1 := rfl
def fMtb (o : D -> List D -> Sto -> R D) (a : D) (r : R (List D)) : R D := r.bind fun b st1 => o a b st1
@[simp] theorem ZzM {o : D -> List D -> Sto -> R D} {a : D} {b : (List D)} {st1 : Sto} : fMtb o a (.ok b st1) = o a b st1 := rfl
@[simp] theorem Zy2 {o : D -> List D -> Sto -> R D} {a : D} : fMtb o a .stuck = .stuck := rfl
@[simp] theorem Zzy {o : D -> List D -> Sto -> R D} {a : D} {c : Nat} {fs : List (Str × D)} {st1 : Sto} : fMtb o a (.exc c fs st1) = .exc c fs st1 := rfl
def fMta (T : String) (o : D -> List D -> Sto -> R D) (G : DA) (env : Env) (r : R D) : R D := r.bind fun b st1 => if hasT T b st1 = true then fMtb o b (G env st1) else .stuck
@[simp] theorem ZBi {T : String} {o : D -> List D -> Sto -> R D} {G : DA} {env : Env} {b : D} {st1 : Sto} : fMta T o G env (.ok b st1) = if hasT T b st1 = true then fMtb o b (G env st1) else .stuck := rfl
@[simp] theorem ZzS {T : String} {o : D -> List D -> Sto -> R D} {G : DA} {env : Env} : fMta T o G env .stuck = .stuck := rfl
@[simp] theorem Zz8 {T : String} {o : D -> List D -> Sto -> R D} {G : DA} {env : Env} {c : Nat} {fs : List (Str × D)} {st1 : Sto} : fMta T o G env (.exc c fs st1) = .exc c fs st1 := rfl
def fMt0 (T : String) (o : D -> List D -> Sto -> R D) (r : R D) : R D := r.bind fun b st1 => if hasT T b st1 = true then o b [] st1 else .stuck
@[simp] theorem Zze {T : String} {o : D -> List D -> Sto -> R D} {b : D} {st1 : Sto} : fMt0 T o (.ok b st1) = if hasT T b st1 = true then o b [] st1 else .stuck := rfl
@[simp] theorem Zz4 {T : String} {o : D -> List D -> Sto -> R D} : fMt0 T o .stuck = .stuck := rfl
@[simp] theorem Zy9 {T : String} {o : D -> List D -> Sto -> R D} {c : Nat} {fs : List (Str × D)} {st1 : Sto} : fMt0 T o (.exc c fs st1) = .exc c fs st1 := rfl
def fChd (o' : D -> D -> Sto -> R D) (d : D) (r : R D) : R D := r.bind fun b st1 => o' d b st1
@[simp] theorem ZAt {o' : D -> D -> Sto -> R D} {d : D} {b : D} {st1 : Sto} : fChd o' d (.ok b st1) = o' d b st1 := rfl
@[simp] theorem ZBg {o' : D -> D -> Sto -> R D} {d : D} : fChd o' d .stuck = .stuck := rfl
@[simp] theorem ZAP {o' : D -> D -> Sto -> R D} {d : D} {c : Nat} {fs : List (Str × D)} {st1 : Sto} : fChd o' d (.exc c fs st1) = .exc c fs st1 := rfl
def fChc (o' : D -> D -> Sto -> R D) (d : D) (Fc : DE) (env : Env) (r : R Bool) : R D := r.bind fun b st1 => if b = true then fChd o' d (Fc env st1) else .ok (.bl false) st1
@[simp] theorem Zy3 {o' : D -> D -> Sto -> R D} {d : D} {Fc : DE} {env : Env} {b : Bool} {st1 : Sto} : fChc o' d Fc env (.ok b st1) = if b = true then fChd o' d (Fc env st1) else .ok (.bl false) st1 := rfl
@[simp] theorem ZyS {o' : D -> D -> Sto -> R D} {d : D} {Fc : DE} {env : Env} : fChc o' d Fc env .stuck = .stuck := rfl
@[simp] theorem ZBe {o' : D -> D -> Sto -> R D} {d : D} {Fc : DE} {env : Env} {c : Nat} {fs : List (Str × D)} {st1 : Sto} : fChc o' d Fc env (.exc c fs st1) = .exc c fs st1 := rfl
def fChb (o o' : D -> D -> Sto -> R D) (a : D) (Fc : DE) (env : Env) (r : R D) : R D := r.bind fun b st1 => fChc o' b Fc env (fTstB (o a b st1))
@[simp] theorem ZAU {o o' : D -> D -> Sto -> R D} {a : D} {Fc : DE} {env : Env} {b : D} {st1 : Sto} : fChb o o' a Fc env (.ok b st1) = fChc o' b Fc env (fTstB (o a b st1)) := rfl
@[simp] theorem ZAs {o o' : D -> D -> Sto -> R D} {a : D} {Fc : DE} {env : Env} : fChb o o' a Fc env .stuck = .stuck := rfl
@[simp] theorem ZAw {o o' : D -> D -> Sto -> R D} {a : D} {Fc : DE} {env : Env} {c : Nat} {fs : List (Str × D)} {st1 : Sto} : fChb o o' a Fc env (.exc c fs st1) = .exc c fs st1 := rfl
def fCha (o o' : D -> D -> Sto -> R D) (Fb Fc : DE) (env : Env) (r : R D) : R D := r.bind fun b st1 => fChb o o' b Fc env (Fb env st1)
@[simp] theorem ZAK {o o' : D -> D -> Sto -> R D} {Fb Fc : DE} {env : Env} {b : D} {st1 : Sto} : fCha o o' Fb Fc env (.ok b st1) = fChb o o' b Fc env (Fb env st1) := rfl
@[simp] theorem ZBd {o o' : D -> D -> Sto -> R D} {Fb Fc : DE} {env : Env} : fCha o o' Fb Fc env .stuck = .stuck := rfl
@[simp] theorem ZAX {o o' : D -> D -> Sto -> R D} {Fb Fc : DE} {env : Env} {c : Nat} {fs : List (Str × D)} {st1 : Sto} : fCha o o' Fb Fc env (.exc c fs st1) = .exc c fs st1 := rfl
def fIv  (r : R D) : R (List D × Wat) := r.bind fun b st1 => itR (iterD b st1) st1
@[simp] theorem ZCu  {b : D} {st1 : Sto} : fIv  (.ok b st1) = itR (iterD b st1) st1 := rfl
@[simp] theorem ZCZ  : fIv  .stuck = .stuck := rfl
@[simp] theorem ZBz  {c : Nat} {fs : List (Str × D)} {st1 : Sto} : fIv  (.exc c fs st1) = .exc c fs st1 := rfl
def fIe  (r : R (List D)) : R (List D × Wat) := r.bind fun b st1 => .ok (b, []) st1
@[simp] theorem ZCl  {b : (List D)} {st1 : Sto} : fIe  (.ok b st1) = .ok (b, []) st1 := rfl
@[simp] theorem ZCb  : fIe  .stuck = .stuck := rfl
@[simp] theorem ZBx  {c : Nat} {fs : List (Str × D)} {st1 : Sto} : fIe  (.exc c fs st1) = .exc c fs st1 := rfl
def fR1  (r : R (List D)) : R (List D × Wat) := r.bind fun b st1 => rng1 b st1
@[simp] theorem ZCJ  {b : (List D)} {st1 : Sto} : fR1  (.ok b st1) = rng1 b st1 := rfl
@[simp] theorem ZCC  : fR1  .stuck = .stuck := rfl
@[simp] theorem ZB8  {c : Nat} {fs : List (Str × D)} {st1 : Sto} : fR1  (.exc c fs st1) = .exc c fs st1 := rfl
def fR2  (r : R (List D)) : R (List D × Wat) := r.bind fun b st1 => rng2 b st1
@[simp] theorem ZCK  {b : (List D)} {st1 : Sto} : fR2  (.ok b st1) = rng2 b st1 := rfl
@[simp] theorem ZBB  : fR2  .stuck = .stuck := rfl
@[simp] theorem ZCN  {c : Nat} {fs : List (Str × D)} {st1 : Sto} : fR2  (.exc c fs st1) = .exc c fs st1 := rfl
def fEn  (r : R D) : R (List D × Wat) := r.bind fun b st1 => enumS b st1
@[simp] theorem ZBS  {b : D} {st1 : Sto} : fEn  (.ok b st1) = enumS b st1 := rfl
@[simp] theorem ZCE  : fEn  .stuck = .stuck := rfl
@[simp] theorem ZBV  {c : Nat} {fs : List (Str × D)} {st1 : Sto} : fEn  (.exc c fs st1) = .exc c fs st1 := rfl
def fZp  (r : R (List D)) : R (List D × Wat) := r.bind fun b st1 => zipS b st1
@[simp] theorem ZBF  {b : (List D)} {st1 : Sto} : fZp  (.ok b st1) = zipS b st1 := rfl
@[simp] theorem ZBT  : fZp  .stuck = .stuck := rfl
@[simp] theorem ZCi  {c : Nat} {fs : List (Str × D)} {st1 : Sto} : fZp  (.exc c fs st1) = .exc c fs st1 := rfl
def fComp (vs : List Nat) (t : Tg) (C : DT) (F : DE) (env : Env) (r : R (List D × Wat)) : R (List D) := r.bind fun b st1 => if b.1.length <= sizeLine then compL b.2 t C F (wipeE env vs) b.1 st1 else .stuck
@[simp] theorem Zx5 {vs : List Nat} {t : Tg} {C : DT} {F : DE} {env : Env} {b : (List D × Wat)} {st1 : Sto} : fComp vs t C F env (.ok b st1) = if b.1.length <= sizeLine then compL b.2 t C F (wipeE env vs) b.1 st1 else .stuck := rfl
@[simp] theorem Zx0 {vs : List Nat} {t : Tg} {C : DT} {F : DE} {env : Env} : fComp vs t C F env .stuck = .stuck := rfl
@[simp] theorem ZwE {vs : List Nat} {t : Tg} {C : DT} {F : DE} {env : Env} {c : Nat} {fs : List (Str × D)} {st1 : Sto} : fComp vs t C F env (.exc c fs st1) = .exc c fs st1 := rfl
def gRet (env : Env) (r : R D) : RS := bindS r env fun b st1 => .rt b st1
@[simp] theorem ZzT {env : Env} {b : D} {st1 : Sto} : gRet env (.ok b st1) = .rt b st1 := rfl
@[simp] theorem ZzZ {env : Env} : gRet env .stuck = .stuck := rfl
@[simp] theorem ZA0 {env : Env} {c : Nat} {fs : List (Str × D)} {st1 : Sto} : gRet env (.exc c fs st1) = .exc c fs env st1 := rfl
def gIf (A B : DS) (env : Env) (r : R Bool) : RS := bindS r env fun b st1 => if b = true then A env st1 else B env st1
@[simp] theorem ZBQ {A B : DS} {env : Env} {b : Bool} {st1 : Sto} : gIf A B env (.ok b st1) = if b = true then A env st1 else B env st1 := rfl
@[simp] theorem ZCx {A B : DS} {env : Env} : gIf A B env .stuck = .stuck := rfl
@[simp] theorem ZBP {A B : DS} {env : Env} {c : Nat} {fs : List (Str × D)} {st1 : Sto} : gIf A B env (.exc c fs st1) = .exc c fs env st1 := rfl
def gExpr (env : Env) (r : R D) : RS := bindS r env fun b st1 => .nx env st1
@[simp] theorem ZwH {env : Env} {b : D} {st1 : Sto} : gExpr env (.ok b st1) = .nx env st1 := rfl
@[simp] theorem ZxY {env : Env} : gExpr env .stuck = .stuck := rfl
@[simp] theorem Zxw {env : Env} {c : Nat} {fs : List (Str × D)} {st1 : Sto} : gExpr env (.exc c fs st1) = .exc c fs env st1 := rfl
def gAsg (i : Nat) (env : Env) (r : R D) : RS := bindS r env fun b st1 => .nx (env.set i (some b)) st1
@[simp] theorem Zzp {i : Nat} {env : Env} {b : D} {st1 : Sto} : gAsg i env (.ok b st1) = .nx (env.set i (some b)) st1 := rfl
@[simp] theorem Zzu {i : Nat} {env : Env} : gAsg i env .stuck = .stuck := rfl
@[simp] theorem Zzm {i : Nat} {env : Env} {c : Nat} {fs : List (Str × D)} {st1 : Sto} : gAsg i env (.exc c fs st1) = .exc c fs env st1 := rfl
def gSubc (d o : D) (env : Env) (r : R D) : RS := bindS r env fun b st1 => stS (setD o b d st1) env
@[simp] theorem ZwB {d o : D} {env : Env} {b : D} {st1 : Sto} : gSubc d o env (.ok b st1) = stS (setD o b d st1) env := rfl
@[simp] theorem Zyp {d o : D} {env : Env} : gSubc d o env .stuck = .stuck := rfl
@[simp] theorem ZwK {d o : D} {env : Env} {c : Nat} {fs : List (Str × D)} {st1 : Sto} : gSubc d o env (.exc c fs st1) = .exc c fs env st1 := rfl
def gSubb (d : D) (Fi : DE) (env : Env) (r : R D) : RS := bindS r env fun b st1 => gSubc d b env (Fi env st1)
@[simp] theorem ZxV {d : D} {Fi : DE} {env : Env} {b : D} {st1 : Sto} : gSubb d Fi env (.ok b st1) = gSubc d b env (Fi env st1) := rfl
@[simp] theorem Zxa {d : D} {Fi : DE} {env : Env} : gSubb d Fi env .stuck = .stuck := rfl
@[simp] theorem Zxs {d : D} {Fi : DE} {env : Env} {c : Nat} {fs : List (Str × D)} {st1 : Sto} : gSubb d Fi env (.exc c fs st1) = .exc c fs env st1 := rfl
def gSuba (Fo Fi : DE) (env : Env) (r : R D) : RS := bindS r env fun b st1 => gSubb b Fi env (Fo env st1)
@[simp] theorem ZxF {Fo Fi : DE} {env : Env} {b : D} {st1 : Sto} : gSuba Fo Fi env (.ok b st1) = gSubb b Fi env (Fo env st1) := rfl
@[simp] theorem Zw7 {Fo Fi : DE} {env : Env} : gSuba Fo Fi env .stuck = .stuck := rfl
@[simp] theorem Zxk {Fo Fi : DE} {env : Env} {c : Nat} {fs : List (Str × D)} {st1 : Sto} : gSuba Fo Fi env (.exc c fs st1) = .exc c fs env st1 := rfl
def gPar (i j : Nat) (env : Env) (r : R (List D)) : RS := bindS r env fun b st1 => parS i j env b st1
@[simp] theorem ZzC {i j : Nat} {env : Env} {b : (List D)} {st1 : Sto} : gPar i j env (.ok b st1) = parS i j env b st1 := rfl
@[simp] theorem Zz9 {i j : Nat} {env : Env} : gPar i j env .stuck = .stuck := rfl
@[simp] theorem ZAI {i j : Nat} {env : Env} {c : Nat} {fs : List (Str × D)} {st1 : Sto} : gPar i j env (.exc c fs st1) = .exc c fs env st1 := rfl
def gFor (t : Tg) (A : DS) (env : Env) (r : R (List D × Wat)) : RS := bindS r env fun b st1 => forL b.2 t A b.1 env st1
@[simp] theorem ZyT {t : Tg} {A : DS} {env : Env} {b : (List D × Wat)} {st1 : Sto} : gFor t A env (.ok b st1) = forL b.2 t A b.1 env st1 := rfl
@[simp] theorem ZzA {t : Tg} {A : DS} {env : Env} : gFor t A env .stuck = .stuck := rfl
@[simp] theorem ZAg {t : Tg} {A : DS} {env : Env} {c : Nat} {fs : List (Str × D)} {st1 : Sto} : gFor t A env (.exc c fs st1) = .exc c fs env st1 := rfl
@[simp] theorem ap188 {env : Env} {st : Sto} {F Fa Fb Fc Fo Fi : DE} {G : DA} {A B : DS} {C C' : DT} {I : DIt} {i j n : Nat} {d : D} {t : Tg} {vs : List Nat} {T : String} {o1 : D -> Sto -> R D} {o o' : D -> D -> Sto -> R D} {oc : List D -> Sto -> R D} {om : D -> List D -> Sto -> R D} {Fl Fh : DO} : eVar i env st = varR env[i]? st := rfl
@[simp] theorem ap189 {env : Env} {st : Sto} {F Fa Fb Fc Fo Fi : DE} {G : DA} {A B : DS} {C C' : DT} {I : DIt} {i j n : Nat} {d : D} {t : Tg} {vs : List Nat} {T : String} {o1 : D -> Sto -> R D} {o o' : D -> D -> Sto -> R D} {oc : List D -> Sto -> R D} {om : D -> List D -> Sto -> R D} {Fl Fh : DO} : eC d env st = .ok d st := rfl
@[simp] theorem ap190 {env : Env} {st : Sto} {F Fa Fb Fc Fo Fi : DE} {G : DA} {A B : DS} {C C' : DT} {I : DIt} {i j n : Nat} {d : D} {t : Tg} {vs : List Nat} {T : String} {o1 : D -> Sto -> R D} {o o' : D -> D -> Sto -> R D} {oc : List D -> Sto -> R D} {om : D -> List D -> Sto -> R D} {Fl Fh : DO} : e2 o Fa Fb env st = f2a o Fb env (Fa env st) := rfl
@[simp] theorem ap191 {env : Env} {st : Sto} {F Fa Fb Fc Fo Fi : DE} {G : DA} {A B : DS} {C C' : DT} {I : DIt} {i j n : Nat} {d : D} {t : Tg} {vs : List Nat} {T : String} {o1 : D -> Sto -> R D} {o o' : D -> D -> Sto -> R D} {oc : List D -> Sto -> R D} {om : D -> List D -> Sto -> R D} {Fl Fh : DO} : e1 o1 Fa env st = f1 o1 (Fa env st) := rfl
@[simp] theorem ap192 {env : Env} {st : Sto} {F Fa Fb Fc Fo Fi : DE} {G : DA} {A B : DS} {C C' : DT} {I : DIt} {i j n : Nat} {d : D} {t : Tg} {vs : List Nat} {T : String} {o1 : D -> Sto -> R D} {o o' : D -> D -> Sto -> R D} {oc : List D -> Sto -> R D} {om : D -> List D -> Sto -> R D} {Fl Fh : DO} : eEv G env st = fEv (G env st) := rfl
@[simp] theorem ap193 {env : Env} {st : Sto} {F Fa Fb Fc Fo Fi : DE} {G : DA} {A B : DS} {C C' : DT} {I : DIt} {i j n : Nat} {d : D} {t : Tg} {vs : List Nat} {T : String} {o1 : D -> Sto -> R D} {o o' : D -> D -> Sto -> R D} {oc : List D -> Sto -> R D} {om : D -> List D -> Sto -> R D} {Fl Fh : DO} : eNew G env st = fNew (G env st) := rfl
@[simp] theorem ap194 {env : Env} {st : Sto} {F Fa Fb Fc Fo Fi : DE} {G : DA} {A B : DS} {C C' : DT} {I : DIt} {i j n : Nat} {d : D} {t : Tg} {vs : List Nat} {T : String} {o1 : D -> Sto -> R D} {o o' : D -> D -> Sto -> R D} {oc : List D -> Sto -> R D} {om : D -> List D -> Sto -> R D} {Fl Fh : DO} : lDisp G env st = fDisp (G env st) := rfl
@[simp] theorem ap195 {env : Env} {st : Sto} {F Fa Fb Fc Fo Fi : DE} {G : DA} {A B : DS} {C C' : DT} {I : DIt} {i j n : Nat} {d : D} {t : Tg} {vs : List Nat} {T : String} {o1 : D -> Sto -> R D} {o o' : D -> D -> Sto -> R D} {oc : List D -> Sto -> R D} {om : D -> List D -> Sto -> R D} {Fl Fh : DO} : aNil env st = .ok [] st := rfl
@[simp] theorem ap196 {env : Env} {st : Sto} {F Fa Fb Fc Fo Fi : DE} {G : DA} {A B : DS} {C C' : DT} {I : DIt} {i j n : Nat} {d : D} {t : Tg} {vs : List Nat} {T : String} {o1 : D -> Sto -> R D} {o o' : D -> D -> Sto -> R D} {oc : List D -> Sto -> R D} {om : D -> List D -> Sto -> R D} {Fl Fh : DO} : aCons F G env st = fConsa G env (F env st) := rfl
@[simp] theorem ap197 {env : Env} {st : Sto} {F Fa Fb Fc Fo Fi : DE} {G : DA} {A B : DS} {C C' : DT} {I : DIt} {i j n : Nat} {d : D} {t : Tg} {vs : List Nat} {T : String} {o1 : D -> Sto -> R D} {o o' : D -> D -> Sto -> R D} {oc : List D -> Sto -> R D} {om : D -> List D -> Sto -> R D} {Fl Fh : DO} : eTup G env st = fTup (G env st) := rfl
@[simp] theorem ap198 {env : Env} {st : Sto} {F Fa Fb Fc Fo Fi : DE} {G : DA} {A B : DS} {C C' : DT} {I : DIt} {i j n : Nat} {d : D} {t : Tg} {vs : List Nat} {T : String} {o1 : D -> Sto -> R D} {o o' : D -> D -> Sto -> R D} {oc : List D -> Sto -> R D} {om : D -> List D -> Sto -> R D} {Fl Fh : DO} : eLst G env st = fLst (G env st) := rfl
@[simp] theorem ap199 {env : Env} {st : Sto} {F Fa Fb Fc Fo Fi : DE} {G : DA} {A B : DS} {C C' : DT} {I : DIt} {i j n : Nat} {d : D} {t : Tg} {vs : List Nat} {T : String} {o1 : D -> Sto -> R D} {o o' : D -> D -> Sto -> R D} {oc : List D -> Sto -> R D} {om : D -> List D -> Sto -> R D} {Fl Fh : DO} : eCall oc G env st = fCall oc (G env st) := rfl
@[simp] theorem ap200 {env : Env} {st : Sto} {F Fa Fb Fc Fo Fi : DE} {G : DA} {A B : DS} {C C' : DT} {I : DIt} {i j n : Nat} {d : D} {t : Tg} {vs : List Nat} {T : String} {o1 : D -> Sto -> R D} {o o' : D -> D -> Sto -> R D} {oc : List D -> Sto -> R D} {om : D -> List D -> Sto -> R D} {Fl Fh : DO} : eAnd Fa Fb env st = fAnd Fb env (Fa env st) := by
 unfold eAnd fAnd; congr
@[simp] theorem ap201 {env : Env} {st : Sto} {F Fa Fb Fc Fo Fi : DE} {G : DA} {A B : DS} {C C' : DT} {I : DIt} {i j n : Nat} {d : D} {t : Tg} {vs : List Nat} {T : String} {o1 : D -> Sto -> R D} {o o' : D -> D -> Sto -> R D} {oc : List D -> Sto -> R D} {om : D -> List D -> Sto -> R D} {Fl Fh : DO} : eOr Fa Fb env st = fOr Fb env (Fa env st) := by
 unfold eOr fOr; congr
@[simp] theorem ap202 {env : Env} {st : Sto} {F Fa Fb Fc Fo Fi : DE} {G : DA} {A B : DS} {C C' : DT} {I : DIt} {i j n : Nat} {d : D} {t : Tg} {vs : List Nat} {T : String} {o1 : D -> Sto -> R D} {o o' : D -> D -> Sto -> R D} {oc : List D -> Sto -> R D} {om : D -> List D -> Sto -> R D} {Fl Fh : DO} : eNot Fa env st = fNot (Fa env st) := rfl
@[simp] theorem ap203 {env : Env} {st : Sto} {F Fa Fb Fc Fo Fi : DE} {G : DA} {A B : DS} {C C' : DT} {I : DIt} {i j n : Nat} {d : D} {t : Tg} {vs : List Nat} {T : String} {o1 : D -> Sto -> R D} {o o' : D -> D -> Sto -> R D} {oc : List D -> Sto -> R D} {om : D -> List D -> Sto -> R D} {Fl Fh : DO} : tst Fa env st = fTst (Fa env st) := rfl
@[simp] theorem ap204 {env : Env} {st : Sto} {F Fa Fb Fc Fo Fi : DE} {G : DA} {A B : DS} {C C' : DT} {I : DIt} {i j n : Nat} {d : D} {t : Tg} {vs : List Nat} {T : String} {o1 : D -> Sto -> R D} {o o' : D -> D -> Sto -> R D} {oc : List D -> Sto -> R D} {om : D -> List D -> Sto -> R D} {Fl Fh : DO} : tstB Fa env st = fTstB (Fa env st) := rfl
@[simp] theorem ap205 {env : Env} {st : Sto} {F Fa Fb Fc Fo Fi : DE} {G : DA} {A B : DS} {C C' : DT} {I : DIt} {i j n : Nat} {d : D} {t : Tg} {vs : List Nat} {T : String} {o1 : D -> Sto -> R D} {o o' : D -> D -> Sto -> R D} {oc : List D -> Sto -> R D} {om : D -> List D -> Sto -> R D} {Fl Fh : DO} : bAnd C C' env st = fbAnd C' env (C env st) := rfl
@[simp] theorem ap206 {env : Env} {st : Sto} {F Fa Fb Fc Fo Fi : DE} {G : DA} {A B : DS} {C C' : DT} {I : DIt} {i j n : Nat} {d : D} {t : Tg} {vs : List Nat} {T : String} {o1 : D -> Sto -> R D} {o o' : D -> D -> Sto -> R D} {oc : List D -> Sto -> R D} {om : D -> List D -> Sto -> R D} {Fl Fh : DO} : bOr C C' env st = fbOr C' env (C env st) := rfl
@[simp] theorem ap207 {env : Env} {st : Sto} {F Fa Fb Fc Fo Fi : DE} {G : DA} {A B : DS} {C C' : DT} {I : DIt} {i j n : Nat} {d : D} {t : Tg} {vs : List Nat} {T : String} {o1 : D -> Sto -> R D} {o o' : D -> D -> Sto -> R D} {oc : List D -> Sto -> R D} {om : D -> List D -> Sto -> R D} {Fl Fh : DO} : bNot C env st = fbNot (C env st) := rfl
@[simp] theorem ap208 {env : Env} {st : Sto} {F Fa Fb Fc Fo Fi : DE} {G : DA} {A B : DS} {C C' : DT} {I : DIt} {i j n : Nat} {d : D} {t : Tg} {vs : List Nat} {T : String} {o1 : D -> Sto -> R D} {o o' : D -> D -> Sto -> R D} {oc : List D -> Sto -> R D} {om : D -> List D -> Sto -> R D} {Fl Fh : DO} : eIf C Fa Fb env st = fIf Fa Fb env (C env st) := rfl
@[simp] theorem ap209 {env : Env} {st : Sto} {F Fa Fb Fc Fo Fi : DE} {G : DA} {A B : DS} {C C' : DT} {I : DIt} {i j n : Nat} {d : D} {t : Tg} {vs : List Nat} {T : String} {o1 : D -> Sto -> R D} {o o' : D -> D -> Sto -> R D} {oc : List D -> Sto -> R D} {om : D -> List D -> Sto -> R D} {Fl Fh : DO} : eChain o o' Fa Fb Fc env st = fCha o o' Fb Fc env (Fa env st) := by
 unfold eChain fCha fChb fChc fChd fTstB; congr; funext a st1; congr; funext b st2; cases o a b st2 with
 | ok k st3 => (cases k with | bl q => cases q <;> rfl | _ => rfl)
 | _ => rfl
@[simp] theorem ap210 {env : Env} {st : Sto} {F Fa Fb Fc Fo Fi : DE} {G : DA} {A B : DS} {C C' : DT} {I : DIt} {i j n : Nat} {d : D} {t : Tg} {vs : List Nat} {T : String} {o1 : D -> Sto -> R D} {o o' : D -> D -> Sto -> R D} {oc : List D -> Sto -> R D} {om : D -> List D -> Sto -> R D} {Fl Fh : DO} : eSl Fa Fl Fh env st = fSla Fl Fh env (Fa env st) := rfl
@[simp] theorem ap211 {env : Env} {st : Sto} {F Fa Fb Fc Fo Fi : DE} {G : DA} {A B : DS} {C C' : DT} {I : DIt} {i j n : Nat} {d : D} {t : Tg} {vs : List Nat} {T : String} {o1 : D -> Sto -> R D} {o o' : D -> D -> Sto -> R D} {oc : List D -> Sto -> R D} {om : D -> List D -> Sto -> R D} {Fl Fh : DO} : eNo env st = .ok none st := rfl
@[simp] theorem ap212 {env : Env} {st : Sto} {F Fa Fb Fc Fo Fi : DE} {G : DA} {A B : DS} {C C' : DT} {I : DIt} {i j n : Nat} {d : D} {t : Tg} {vs : List Nat} {T : String} {o1 : D -> Sto -> R D} {o o' : D -> D -> Sto -> R D} {oc : List D -> Sto -> R D} {om : D -> List D -> Sto -> R D} {Fl Fh : DO} : ePart F env st = fPart (F env st) := rfl
@[simp] theorem ap213 {env : Env} {st : Sto} {F Fa Fb Fc Fo Fi : DE} {G : DA} {A B : DS} {C C' : DT} {I : DIt} {i j n : Nat} {d : D} {t : Tg} {vs : List Nat} {T : String} {o1 : D -> Sto -> R D} {o o' : D -> D -> Sto -> R D} {oc : List D -> Sto -> R D} {om : D -> List D -> Sto -> R D} {Fl Fh : DO} : eMt T om Fo G env st = fMta T om G env (Fo env st) := rfl
@[simp] theorem ap214 {env : Env} {st : Sto} {F Fa Fb Fc Fo Fi : DE} {G : DA} {A B : DS} {C C' : DT} {I : DIt} {i j n : Nat} {d : D} {t : Tg} {vs : List Nat} {T : String} {o1 : D -> Sto -> R D} {o o' : D -> D -> Sto -> R D} {oc : List D -> Sto -> R D} {om : D -> List D -> Sto -> R D} {Fl Fh : DO} : eMt0 T om Fo env st = fMt0 T om (Fo env st) := rfl
@[simp] theorem ap215 {env : Env} {st : Sto} {F Fa Fb Fc Fo Fi : DE} {G : DA} {A B : DS} {C C' : DT} {I : DIt} {i j n : Nat} {d : D} {t : Tg} {vs : List Nat} {T : String} {o1 : D -> Sto -> R D} {o o' : D -> D -> Sto -> R D} {oc : List D -> Sto -> R D} {om : D -> List D -> Sto -> R D} {Fl Fh : DO} : sSeq A B env st = seqS (A env st) B := rfl
@[simp] theorem ap216 {env : Env} {st : Sto} {F Fa Fb Fc Fo Fi : DE} {G : DA} {A B : DS} {C C' : DT} {I : DIt} {i j n : Nat} {d : D} {t : Tg} {vs : List Nat} {T : String} {o1 : D -> Sto -> R D} {o o' : D -> D -> Sto -> R D} {oc : List D -> Sto -> R D} {om : D -> List D -> Sto -> R D} {Fl Fh : DO} : sNil env st = .nx env st := rfl
@[simp] theorem ap217 {env : Env} {st : Sto} {F Fa Fb Fc Fo Fi : DE} {G : DA} {A B : DS} {C C' : DT} {I : DIt} {i j n : Nat} {d : D} {t : Tg} {vs : List Nat} {T : String} {o1 : D -> Sto -> R D} {o o' : D -> D -> Sto -> R D} {oc : List D -> Sto -> R D} {om : D -> List D -> Sto -> R D} {Fl Fh : DO} : sBreak env st = .bk env st := rfl
@[simp] theorem ap218 {env : Env} {st : Sto} {F Fa Fb Fc Fo Fi : DE} {G : DA} {A B : DS} {C C' : DT} {I : DIt} {i j n : Nat} {d : D} {t : Tg} {vs : List Nat} {T : String} {o1 : D -> Sto -> R D} {o o' : D -> D -> Sto -> R D} {oc : List D -> Sto -> R D} {om : D -> List D -> Sto -> R D} {Fl Fh : DO} : sCont env st = .ct env st := rfl
@[simp] theorem ap219 {env : Env} {st : Sto} {F Fa Fb Fc Fo Fi : DE} {G : DA} {A B : DS} {C C' : DT} {I : DIt} {i j n : Nat} {d : D} {t : Tg} {vs : List Nat} {T : String} {o1 : D -> Sto -> R D} {o o' : D -> D -> Sto -> R D} {oc : List D -> Sto -> R D} {om : D -> List D -> Sto -> R D} {Fl Fh : DO} : sRet F env st = gRet env (F env st) := rfl
@[simp] theorem ap220 {env : Env} {st : Sto} {F Fa Fb Fc Fo Fi : DE} {G : DA} {A B : DS} {C C' : DT} {I : DIt} {i j n : Nat} {d : D} {t : Tg} {vs : List Nat} {T : String} {o1 : D -> Sto -> R D} {o o' : D -> D -> Sto -> R D} {oc : List D -> Sto -> R D} {om : D -> List D -> Sto -> R D} {Fl Fh : DO} : sRetN env st = .rt .non st := rfl
@[simp] theorem ap221 {env : Env} {st : Sto} {F Fa Fb Fc Fo Fi : DE} {G : DA} {A B : DS} {C C' : DT} {I : DIt} {i j n : Nat} {d : D} {t : Tg} {vs : List Nat} {T : String} {o1 : D -> Sto -> R D} {o o' : D -> D -> Sto -> R D} {oc : List D -> Sto -> R D} {om : D -> List D -> Sto -> R D} {Fl Fh : DO} : sIf C A B env st = gIf A B env (C env st) := rfl
@[simp] theorem ap222 {env : Env} {st : Sto} {F Fa Fb Fc Fo Fi : DE} {G : DA} {A B : DS} {C C' : DT} {I : DIt} {i j n : Nat} {d : D} {t : Tg} {vs : List Nat} {T : String} {o1 : D -> Sto -> R D} {o o' : D -> D -> Sto -> R D} {oc : List D -> Sto -> R D} {om : D -> List D -> Sto -> R D} {Fl Fh : DO} : sExpr F env st = gExpr env (F env st) := rfl
@[simp] theorem ap223 {env : Env} {st : Sto} {F Fa Fb Fc Fo Fi : DE} {G : DA} {A B : DS} {C C' : DT} {I : DIt} {i j n : Nat} {d : D} {t : Tg} {vs : List Nat} {T : String} {o1 : D -> Sto -> R D} {o o' : D -> D -> Sto -> R D} {oc : List D -> Sto -> R D} {om : D -> List D -> Sto -> R D} {Fl Fh : DO} : sAsg (.nm i) F env st = gAsg i env (F env st) := rfl
@[simp] theorem ap224 {env : Env} {st : Sto} {F Fa Fb Fc Fo Fi : DE} {G : DA} {A B : DS} {C C' : DT} {I : DIt} {i j n : Nat} {d : D} {t : Tg} {vs : List Nat} {T : String} {o1 : D -> Sto -> R D} {o o' : D -> D -> Sto -> R D} {oc : List D -> Sto -> R D} {om : D -> List D -> Sto -> R D} {Fl Fh : DO} : sSub F Fo Fi env st = gSuba Fo Fi env (F env st) := rfl
@[simp] theorem ap225 {env : Env} {st : Sto} {F Fa Fb Fc Fo Fi : DE} {G : DA} {A B : DS} {C C' : DT} {I : DIt} {i j n : Nat} {d : D} {t : Tg} {vs : List Nat} {T : String} {o1 : D -> Sto -> R D} {o o' : D -> D -> Sto -> R D} {oc : List D -> Sto -> R D} {om : D -> List D -> Sto -> R D} {Fl Fh : DO} : sPar i j G env st = gPar i j env (G env st) := rfl
@[simp] theorem ap226 {env : Env} {st : Sto} {F Fa Fb Fc Fo Fi : DE} {G : DA} {A B : DS} {C C' : DT} {I : DIt} {i j n : Nat} {d : D} {t : Tg} {vs : List Nat} {T : String} {o1 : D -> Sto -> R D} {o o' : D -> D -> Sto -> R D} {oc : List D -> Sto -> R D} {om : D -> List D -> Sto -> R D} {Fl Fh : DO} : sFor t I A env st = gFor t A env (I env st) := rfl
@[simp] theorem ap227 {env : Env} {st : Sto} {F Fa Fb Fc Fo Fi : DE} {G : DA} {A B : DS} {C C' : DT} {I : DIt} {i j n : Nat} {d : D} {t : Tg} {vs : List Nat} {T : String} {o1 : D -> Sto -> R D} {o o' : D -> D -> Sto -> R D} {oc : List D -> Sto -> R D} {om : D -> List D -> Sto -> R D} {Fl Fh : DO} : lComp vs t I C F env st = fComp vs t C F env (I env st) := rfl
@[simp] theorem ap228 {env : Env} {st : Sto} {F Fa Fb Fc Fo Fi : DE} {G : DA} {A B : DS} {C C' : DT} {I : DIt} {i j n : Nat} {d : D} {t : Tg} {vs : List Nat} {T : String} {o1 : D -> Sto -> R D} {o o' : D -> D -> Sto -> R D} {oc : List D -> Sto -> R D} {om : D -> List D -> Sto -> R D} {Fl Fh : DO} : iVal F env st = fIv (F env st) := rfl
@[simp] theorem ap229 {env : Env} {st : Sto} {F Fa Fb Fc Fo Fi : DE} {G : DA} {A B : DS} {C C' : DT} {I : DIt} {i j n : Nat} {d : D} {t : Tg} {vs : List Nat} {T : String} {o1 : D -> Sto -> R D} {o o' : D -> D -> Sto -> R D} {oc : List D -> Sto -> R D} {om : D -> List D -> Sto -> R D} {Fl Fh : DO} : iEph G env st = fIe (G env st) := rfl
@[simp] theorem ap230 {env : Env} {st : Sto} {F Fa Fb Fc Fo Fi : DE} {G : DA} {A B : DS} {C C' : DT} {I : DIt} {i j n : Nat} {d : D} {t : Tg} {vs : List Nat} {T : String} {o1 : D -> Sto -> R D} {o o' : D -> D -> Sto -> R D} {oc : List D -> Sto -> R D} {om : D -> List D -> Sto -> R D} {Fl Fh : DO} : iRange1 G env st = fR1 (G env st) := rfl
@[simp] theorem ap231 {env : Env} {st : Sto} {F Fa Fb Fc Fo Fi : DE} {G : DA} {A B : DS} {C C' : DT} {I : DIt} {i j n : Nat} {d : D} {t : Tg} {vs : List Nat} {T : String} {o1 : D -> Sto -> R D} {o o' : D -> D -> Sto -> R D} {oc : List D -> Sto -> R D} {om : D -> List D -> Sto -> R D} {Fl Fh : DO} : iRange2 G env st = fR2 (G env st) := rfl
@[simp] theorem ap232 {env : Env} {st : Sto} {F Fa Fb Fc Fo Fi : DE} {G : DA} {A B : DS} {C C' : DT} {I : DIt} {i j n : Nat} {d : D} {t : Tg} {vs : List Nat} {T : String} {o1 : D -> Sto -> R D} {o o' : D -> D -> Sto -> R D} {oc : List D -> Sto -> R D} {om : D -> List D -> Sto -> R D} {Fl Fh : DO} : iEnum' F env st = fEn (F env st) := rfl
@[simp] theorem ap233 {env : Env} {st : Sto} {F Fa Fb Fc Fo Fi : DE} {G : DA} {A B : DS} {C C' : DT} {I : DIt} {i j n : Nat} {d : D} {t : Tg} {vs : List Nat} {T : String} {o1 : D -> Sto -> R D} {o o' : D -> D -> Sto -> R D} {oc : List D -> Sto -> R D} {om : D -> List D -> Sto -> R D} {Fl Fh : DO} : iZip' G env st = fZp (G env st) := rfl
@[simp] theorem ap234 {env : Env} {st : Sto} {F Fa Fb Fc Fo Fi : DE} {G : DA} {A B : DS} {C C' : DT} {I : DIt} {i j n : Nat} {d : D} {t : Tg} {vs : List Nat} {T : String} {o1 : D -> Sto -> R D} {o o' : D -> D -> Sto -> R D} {oc : List D -> Sto -> R D} {om : D -> List D -> Sto -> R D} {Fl Fh : DO} : cYes env st = .ok true st := rfl
section
variable {a b : D} {st : Sto} {i j : Int} {x y : Str}
@[simp] theorem ZyG : addD (.int i) (.int j) st = .ok (.int (i + j)) st := rfl
@[simp] theorem ZyA : subD (.int i) (.int j) st = .ok (.int (i - j)) st := rfl
@[simp] theorem Zx1 : negD (.int i) st = .ok (.int (-i)) st := rfl
@[simp] theorem ZAj : ltD (.int i) (.int j) st = .ok (.bl (decide (i < j))) st := rfl
@[simp] theorem Zzh : leD (.int i) (.int j) st = .ok (.bl (decide (i <= j))) st := rfl
@[simp] theorem ZAq : gtD (.int i) (.int j) st = .ok (.bl (decide (j < i))) st := rfl
@[simp] theorem ZzE : geD (.int i) (.int j) st = .ok (.bl (decide (j <= i))) st := rfl
@[simp] theorem ZzK : eqD (.int i) (.int j) st = .ok (.bl (decide (i = j))) st := rfl
@[simp] theorem Zz3 : neD (.int i) (.int j) st = .ok (.bl (!decide (i = j))) st := rfl
@[simp] theorem ZyD : eqD (.str x) (.str y) st = .ok (.bl (decide (x = y))) st := rfl
@[simp] theorem ZA3 : neD (.str x) (.str y) st = .ok (.bl (!decide (x = y))) st := rfl
@[simp] theorem ZwO {d : D} : ofO (some d) st = .ok d st := rfl
@[simp] theorem ZAM {ds : List D} : ixD (.tup ds) (.int i) st = ofO (atI ds i) st := rfl
@[simp] theorem ZCa {ds : List D} : ixD (.ev ds) (.int i) st = ofO (atI ds i) st := rfl
@[simp] theorem ZBU {ds : List D} : ixD (.kl ds) (.int i) st = ofO (atI ds i) st := rfl
theorem ZhR {n : Nat} {ds : List D} (h : st[n]? = some (.lst ds)) : seqOf st n = some ds := by unfold seqOf; rw [h]
theorem ZjH {β : Type} {xs : List β} {k : Nat} (h : k < xs.length) : atI xs (k : Int) = xs[k]? := by
 unfold atI ixN
 rw [if_pos (by omega), if_pos (by omega)]
 simp
end
def seqB (o : Option Ob) : Option (List D) := match o with | some (.lst ds) => some ds | some (.frz ds) => some ds | _ => none
@[simp] theorem Zxp {st : Sto} {n : Nat} : seqOf st n = seqB st[n]? := rfl
@[simp] theorem Zxb {ds : List D} : seqB (some (.lst ds)) = some ds := rfl
def ixS (o : Option (List D)) (i : Int) (st : Sto) : R D := match o with | some ds => ofO (atI ds i) st | none => .stuck
@[simp] theorem Zym {ds : List D} {i : Int} {st : Sto} : ixS (some ds) i st = ofO (atI ds i) st := rfl
@[simp] theorem ZC5 {n : Nat} {i : Int} {st : Sto} : ixD (.obj n) (.int i) st = ixS (seqOf st n) i st := rfl
def setB (o : Option Ob) (n : Nat) (k : Int) (d : D) (st : Sto) : Option Sto := match o with
 | some (.lst ds) => (match ixN ds.length k with | some j => some (st.set n (.lst (ds.set j d))) | none => none)
 | _ => none
@[simp] theorem ZBH {n : Nat} {k : Int} {d : D} {st : Sto} : setD (.obj n) (.int k) d st = setB st[n]? n k d st := by
 unfold setD setB; rfl
@[simp] theorem setB0 {x y z : D} {n : Nat} {d : D} {st : Sto} : setB (some (.lst [x, y, z])) n 0 d st = some (st.set n (.lst [d, y, z])) := rfl
@[simp] theorem setB2 {x y z : D} {n : Nat} {d : D} {st : Sto} : setB (some (.lst [x, y, z])) n 2 d st = some (st.set n (.lst [x, y, d])) := rfl
@[simp] theorem atI0 {β : Type} {x : β} {xs : List β} : atI (x :: xs) 0 = some x := by
 unfold atI ixN; simp
@[simp] theorem ZB2 {β : Type} {x y z : β} : atI [x, y, z] 1 = some y := rfl
@[simp] theorem ZCQ {β : Type} {x y z : β} : atI [x, y, z] 2 = some z := rfl
@[simp] theorem ZCo {o : Ob} {st : Sto} : new o st = .ok (.obj st.length) (st ++ [o]) := rfl
theorem szL : (sizeLine : Nat) = 16777216 := by rw [sizeLine_eq]
theorem Zua {a b : Nat} (h : a < 2 ^ b) (h0 : 0 < b) : a.log2 < b := PySem.Flt.log2_lt_of h0 h
theorem Zk1 {w : Wat} {t : Tg} {B : DS} {env : Env} {st : Sto} (h : okW w st = true) : forL w t B [] env st = .nx env st := by rw [forL, if_pos h]
theorem Zkk {w : Wat} {t : Tg} {B : DS} {d : D} {ds : List D} {env env1 : Env} {st : Sto} (h : okW w st = true) (hb : bindT t d env = some env1) : forL w t B (d :: ds) env st = turnS (B env1 st) (forL w t B ds) := by
 rw [forL, if_pos h, hb]
 dsimp only
 unfold turnS
 cases B env1 st <;> rfl
theorem Zke {w : Wat} {t : Tg} {C : DT} {F : DE} {env : Env} {st : Sto} (h : okW w st = true) : compL w t C F env [] st = .ok [] st := by rw [compL, if_pos h]
theorem ZkA {w : Wat} {t : Tg} {F : DE} {env env1 : Env} {d y : D} {ds ys : List D} {st st1 st2 : Sto} (h : okW w st = true) (hb : bindT t d env = some env1) (hF : F env1 st = .ok y st1) (hr : compL w t cYes F env ds st1 = .ok ys st2) :
  compL w t cYes F env (d :: ds) st = .ok (y :: ys) st2 := by
 rw [compL, if_pos h, hb]
 simp [hF, hr]
end Mi
namespace Mi
open PySem L2
section
open PySem.SeqAt PySem.MeetsSeq PySem.MeetsSeq2 PySem.MeetsSeq3
open PySem.AutoSeq1 (wpAny_loadPart')
def LxP (A : Around) (s : Shared) (z : Bool) : List (Value × Value) -> Bool -> Prop
 | [], k => k = z
 | (x, y) :: r, k => (EqAt A s x y true /\ LxP A s z r k) \/ (EqAt A s x y false /\ RcLt A s x y k)
theorem Zjl (l b : Addr) (xs ys : Array Value) (n m : Nat) (d1 d2 : Option Addr) (o1 o2 : Array (Option Value)) (k : Bool) :
  Meets (Builtin.«tuple.__lt__» ⟨[.ref l, .ref b], []⟩) (fun A R s =>
   s.heap.get? l = some { cls := .type "tuple", dict := d1, data := .seq xs n, slots := o1 } /\
   s.heap.get? b = some { cls := .type "tuple", dict := d2, data := .seq ys m, slots := o2 } /\
   LxP A.in1 s (decide (xs.size < ys.size)) (xs.toList.zip ys.toList) k /\ R (.ok (.ret (.bool k))) s) :=
 .of_wp fun prog w A R s hh => by
  obtain ⟨hp, g, d, tk, os⟩ := s; obtain ⟨e1, e2, lx, fin⟩ := hh
  have f2 := AutoSeq1.sub_tuple_tuple
  wp_walk using wpAny_loadPart' e1, wpAny_loadPart' e2, wpAny_forIn_list _ (fun rest c s' => c.1 = none /\ s' = ⟨hp, g, d, tk, os⟩ /\ LxP A.in1 ⟨hp, g, d, tk, os⟩ (decide (xs.size < ys.size)) rest k) _
  case turn =>
   rintro ⟨y, x⟩ rest c s' ⟨hc, rfl, lx'⟩
   rcases lx' with ⟨a1, a2⟩ | ⟨a1, a2⟩
   ·refine wpAny_bind (a1 prog w _ _ ?_)
    wp_walk
    exact ⟨rfl, rfl, a2⟩
   ·refine wpAny_bind (a1 prog w _ _ ?_)
    have a3 := a2 prog w
    generalize richCompare CmpOp.Lt y x = act at a3 ⊢
    wp_walk
    refine a3 _ _ ?_
    wp_walk
    exact ⟨_, rfl, fin⟩
  case fin =>
   rintro ⟨c1, c2⟩ s' ⟨hc, rfl, lx'⟩
   simp only at hc
   subst hc
   have lx' : k = decide (xs.size < ys.size) := lx'
   rw [lx'] at fin
   wp_walk
   exact ⟨_, rfl, by simpa [Builtin.Tuple.tupleCompareSizes] using fin⟩
  case h =>
   exact ⟨rfl, rfl, lx⟩
theorem Zla {A : Around} {s : Shared} {l b : Addr} {xs ys : Array Value} {k : Bool} (hl : s.heap.IsTuple l xs) (hb : s.heap.IsTuple b ys) (hu : A.units < cLine)
  (h : LxP A.in1 s (decide (xs.size < ys.size)) (xs.toList.zip ys.toList) k) : RcLt A s (.ref l) (.ref b) k := fun prog w E Q q => by
 obtain ⟨⟨c1, d1, t1, o1⟩, g1, e1, n1, z1⟩ := id hl
 obtain ⟨⟨c2, d2, t2, o2⟩, g2, e2, n2, z2⟩ := id hb
 simp only at e1 z1 e2 z2
 subst e1 z1 e2 z2
 refine richCompare_meets_room (op := .Lt) ⟨_, g1, rfl⟩ ⟨_, g2, rfl⟩ F.slot_tuple_lt F.entry_tuple_lt (F.args_tuple_lt_2 _ _) (Zjl l b xs ys n1 n2 d1 d2 o1 o2 k) ⟨g1, g2, h, ?_⟩ hu
 exact (⟨(fun x => nomatch x), q⟩ : Value.bool k ≠ Value.notImplemented /\ Q (.bool k) s)
mutual
def pyLt : PyData -> PyData -> Option Bool
 | .int i, .int j => some (decide (i < j))
 | .bool p, .bool q => some (decide (PyProof.Rows.b2i p < PyProof.Rows.b2i q))
 | .str x, .str y => some (decide (x.cps.toList < y.cps.toList))
 | .tuple xs, .tuple ys => pyLts xs ys
 | _, _ => none
def pyLts : List PyData -> List PyData -> Option Bool
 | [], ys => some (decide (0 < ys.length))
 | _ :: _, [] => some false
 | x :: xs, y :: ys => if PyData.eqv x y = true then pyLts xs ys else pyLt x y
end
mutual
theorem Zj9 : ∀ (p q : PyData) (A : Around) (s : Shared) (a b : Value) (as bs : List Addr) (k : Bool), Reads s.heap a p as -> Reads s.heap b q bs -> p.canLay0 = true -> q.canLay0 = true -> pyLt p q = some k ->
  A.units + min p.depth q.depth < cLine -> RcLt A s a b k
 | .none, q, A, s, a, b, as, bs, k, ra, rb, hp, hq, h, hu => by cases q <;> simp [pyLt] at h
 | .list _, q, A, s, a, b, as, bs, k, ra, rb, hp, hq, h, hu => by cases q <;> simp [pyLt] at h
 | .dict _, q, A, s, a, b, as, bs, k, ra, rb, hp, hq, h, hu => by cases q <;> simp [pyLt] at h
 | .bool x, q, A, s, a, b, as, bs, k, ra, rb, hp, hq, h, hu => by
  cases q <;> try (simp [pyLt] at h; done)
  rename_i y
  cases ra
  cases rb
  intro prog w E Q z
  rw [pyLt] at h
  injection h with h
  rw [<- h] at z
  exact PyProof.Rows.lt_bool z
 | .int x, q, A, s, a, b, as, bs, k, ra, rb, hp, hq, h, hu => by
  cases q <;> try (simp [pyLt] at h; done)
  rename_i y
  cases ra
  cases rb
  intro prog w E Q z
  rw [pyLt] at h
  injection h with h
  rw [<- h] at z
  exact PyProof.Rows.lt_int z
 | .str x, q, A, s, a, b, as, bs, k, ra, rb, hp, hq, h, hu => by
  cases q <;> try (simp [pyLt] at h; done)
  rename_i y
  cases ra
  cases rb
  intro prog w E Q z
  rw [pyLt] at h
  injection h with h
  rw [<- h] at z
  exact PyProof.Rows.lt_str z
 | .tuple xs, q, A, s, a, b, as, bs, k, ra, rb, hp, hq, h, hu => by
  cases q <;> try (simp [pyLt] at h; done)
  rename_i ys
  rw [pyLt] at h
  rw [PyData.canLay0] at hp hq
  cases ra with
  | @tuple l o vs n _ as1 h1 h2 h3 h4 =>
   cases rb with
   | @tuple l2 o2 ws m _ bs1 k1 k2 k3 k4 =>
    have e1 : vs.toList.length = xs.length := ReadsAll.length _ _ _ h4
    have e2 : ws.toList.length = ys.length := ReadsAll.length _ _ _ k4
    rw [PyData.depth, PyData.depth] at hu
    refine Zla ⟨_, h1, h2, _, h3⟩ ⟨_, k1, k2, _, k3⟩ (room_here hu) ?_
    have z : decide (vs.size < ws.size) = decide (vs.toList.length < ws.toList.length) := by simp
    rw [z]
    exact Zjw xs ys A.in1 s vs.toList ws.toList _ _ k h4 k4 hp hq h (room_in hu)
theorem Zjw : ∀ (xs ys : List PyData) (A : Around) (s : Shared) (vs ws : List Value) (as bs : List Addr) (k : Bool), ReadsAll s.heap vs xs as -> ReadsAll s.heap ws ys bs -> PyData.canLayAll0 xs = true -> PyData.canLayAll0 ys = true -> pyLts xs ys = some k ->
  A.units + min (PyData.depthAll xs) (PyData.depthAll ys) < cLine -> LxP A s (decide (vs.length < ws.length)) (vs.zip ws) k
 | [], ys, A, s, vs, ws, as, bs, k, ra, rb, hp, hq, h, hu => by
  have e2 : ws.length = ys.length := ReadsAll.length _ _ _ rb
  cases ra
  rw [pyLts] at h
  injection h with h
  show k = _
  rw [<- h, e2]
  simp
 | x :: xs, [], A, s, vs, ws, as, bs, k, ra, rb, hp, hq, h, hu => by
  cases rb
  rw [pyLts] at h
  injection h with h
  rw [List.zip_nil_right]
  show k = _
  rw [<- h]
  simp
 | x :: xs, y :: ys, A, s, vs, ws, as, bs, k, ra, rb, hp, hq, h, hu => by
  rw [PyData.canLayAll0, Bool.and_eq_true] at hp hq
  rw [PyData.depthAll, PyData.depthAll] at hu
  cases ra with
  | cons r rs =>
   cases rb with
   | cons r2 rs2 =>
    have e := eqAt_reads x y A s _ _ _ _ r r2 hp.1 hq.1 (room_head hu)
    rw [pyLts] at h
    by_cases c : PyData.eqv x y = true
    ·rw [if_pos c] at h
     rw [c] at e
     have := Zjw xs ys A s _ _ _ _ k rs rs2 hp.2 hq.2 h (room_tail hu)
     refine .inl ⟨e, ?_⟩
     rw [List.length_cons, List.length_cons]
     simp only [Nat.add_lt_add_iff_right]
     exact this
    ·rw [if_neg c] at h
     rw [Bool.eq_false_iff.mpr c] at e
     exact .inr ⟨e, Zj9 x y A s _ _ _ _ k r r2 hp.1 hq.1 h (room_head hu)⟩
end
end
def ltP (a b : D) (st : Sto) : Option Bool := match toP st 66 a, toP st 66 b with
 | some p, some q => if (SeqAt.shaped p && SeqAt.shaped q) = true then pyLt p q else none
 | _, _ => none
def ltQ : D -> D -> Sto -> R D
 | .tup xs, .tup ys, st => (match ltP (.tup xs) (.tup ys) st with | some k => .ok (.bl k) st | none => .stuck)
 | a, b, st => ltD a b st
section
variable {g : Gd} {X : Cx} {W : WX}
abbrev rLtP (K : PySem.W.Frag) : V -> V -> Hp -> VK -> Prop := fun x y H Q => ∃ p q k, Dp K H x p /\ Dp K H y q /\ SeqAt.shaped p = true /\ SeqAt.shaped q = true /\ pyLt p q = some k /\ Q (.bl k) H
theorem ZvM (hu : X.A.units + 64 < cLine) : OpR X (compareOp .Lt) (rLtP X.K) := by
 intro pins s σ H x y v u Q I rx ry h
 obtain ⟨p, q, k, hp, hq, sp, sq, e, z⟩ := h
 obtain ⟨as, r1⟩ := Dp.reads I p x v hp rx
 obtain ⟨bs, r2⟩ := Dp.reads I q y u hq ry
 exact Zj9 p q X.A s v u as bs k r1 r2 (SeqAt.canLay_of_shaped sp) (SeqAt.canLay_of_shaped sq) e (SeqAt.room_of_shaped sp hu) _ _ _ _ ⟨.bl _, H, I, rfl, z⟩
theorem Zos (c : Ck g X W) : Op2 g X W (compareOp .Lt) ltQ := by
 intro σ α H st a b x y Q s ra rb p
 cases a <;> cases b <;> first
  | exact Zvd σ α H st _ _ x y Q s ra rb p
  | skip
 rename_i xs ys
 unfold ltQ at p
 dsimp only at p
 split at p
 ·rename_i k e
  unfold ltP at e
  split at e
  ·rename_i p1 q1 e1 e2
   split at e
   ·rename_i hs
    rw [Bool.and_eq_true] at hs
    have d1 := dpV s _ _ _ _ e1 ra
    have d2 := dpV s _ _ _ _ e2 rb
    rw [<- c.hK] at d1 d2
    exact ⟨_, ZvM (by have := c.hu; omega), p1, q1, k, d1, d2, hs.1, hs.2, e, p.ok s rfl⟩
   ·cases e
  ·cases e
 ·exact p.elim
end
@[simp] theorem ZAx {i j : Int} {st : Sto} : ltQ (.int i) (.int j) st = .ok (.bl (decide (i < j))) st := rfl
@[simp] theorem ZzN {x y : Str} {st : Sto} : ltQ (.str x) (.str y) st = .ok (.bl (strLt x y)) st := rfl
@[simp] theorem ZwY {o o' : D -> D -> Sto -> R D} {Fa Fb Fc : DE} {env : Env} {st : Sto} : eChain o o' Fa Fb Fc env st = fCha o o' Fb Fc env (Fa env st) :=
 ap209 (F := eC .non) (Fo := eC .non) (Fi := eC .non) (G := aNil) (A := sNil) (B := sNil) (C := cYes) (C' := cYes) (I := iVal (eC .non)) (i := 0) (j := 0) (n := 0) (d := .non) (t := .nm 0) (vs := []) (T := "") (o1 := negD) (oc := lenB) (om := findM) (Fl := eNo) (Fh := eNo)
@[simp] theorem ZCz {Fa Fb : DE} {env : Env} {st : Sto} : eAnd Fa Fb env st = fAnd Fb env (Fa env st) :=
 ap200 (F := eC .non) (Fc := eC .non) (Fo := eC .non) (Fi := eC .non) (G := aNil) (A := sNil) (B := sNil) (C := cYes) (C' := cYes) (I := iVal (eC .non)) (i := 0) (j := 0) (n := 0) (d := .non) (t := .nm 0) (vs := []) (T := "") (o1 := negD) (o := addD) (o' := addD) (oc := lenB) (om := findM) (Fl := eNo) (Fh := eNo)
@[simp] theorem ZDm {Fa Fb : DE} {env : Env} {st : Sto} : eOr Fa Fb env st = fOr Fb env (Fa env st) :=
 ap201 (F := eC .non) (Fc := eC .non) (Fo := eC .non) (Fi := eC .non) (G := aNil) (A := sNil) (B := sNil) (C := cYes) (C' := cYes) (I := iVal (eC .non)) (i := 0) (j := 0) (n := 0) (d := .non) (t := .nm 0) (vs := []) (T := "") (o1 := negD) (o := addD) (o' := addD) (oc := lenB) (om := findM) (Fl := eNo) (Fh := eNo)
end Mi
namespace Mi
open PySem L2
def fldD (T : Nat -> Bool) (f : Str) (d : D) (st : Sto) : R D := match d with
 | .obj n => (match st[n]? with
  | some (.ins c fs) => if T c = true then ofO (fs.lookup f) st else .stuck
  | _ => .stuck)
 | _ => .stuck
def putD (f : Str) (d : D) : List (Str × D) -> List (Str × D)
 | [] => [(f, d)]
 | p :: ps => if p.1 = f then (f, d) :: ps else p :: putD f d ps
def sFldD (T : Nat -> Bool) (f : Str) (Fv Fo : DE) : DS := fun env st => bindS (Fv env st) env fun d st1 => bindS (Fo env st1) env fun o st2 => match o with
 | .obj n => (match st2[n]? with
  | some (.ins c fs) => if T c = true /\ fs.length < 1000 then .nx env (st2.set n (.ins c (putD f d fs))) else .stuck
  | _ => .stuck)
 | _ => .stuck
section
variable {g : Gd} {X : Cx} {W : WX} {α : List Addr} {H : Hp} {st : Sto} {pos : Pos}
theorem RFs.at {f : Str} {d : D} : ∀ {ds : List (Str × D)} {vs : List (Str × V)}, RFs g α H ds vs -> ds.lookup f = some d -> ∃ v, vs.lookup f = some v /\ RD g α H d v
 | [], vs, _, e => by cases e
 | p :: ps, vs, h, e => by
  obtain ⟨v, r, rfl, h1, h2⟩ := h
  rw [List.lookup_cons] at e ⊢
  cases q : f == p.1 with
  | true => rw [q] at e; cases e; exact ⟨v, rfl, h1⟩
  | false => rw [q] at e; obtain ⟨u, e1, e2⟩ := RFs.at h2 e; exact ⟨u, e1, e2⟩
theorem RFs.length : ∀ {ds : List (Str × D)} {vs : List (Str × V)}, RFs g α H ds vs -> ds.length = vs.length
 | [], vs, h => by cases h; rfl
 | p :: ps, vs, h => by
  obtain ⟨v, r, rfl, h1, h2⟩ := h
  rw [List.length_cons, List.length_cons, RFs.length h2]
theorem StR.ins (s : StR g α st H) {n : Nat} {v : V} {c : Nat} {fs : List (Str × D)} (r : RD g α H (.obj n) v) (e : st[n]? = some (.ins c fs)) :
  ∃ a C dx vs, v = .ref a /\ α[n]? = some a /\ g.ca c = some C /\ H a = some (.ins C dx vs) /\ RFs g α H fs vs := by
 obtain ⟨a, rfl, ha, _⟩ := r
 obtain ⟨C, dx, vs, h1, h2, h3⟩ := s.ob n a _ ha e
 exact ⟨a, C, dx, vs, rfl, ha, h1, h2, h3⟩
theorem RFs.put {f : Str} {d : D} {v : V} (r : RD g α H d v) : ∀ {ds : List (Str × D)} {vs : List (Str × V)}, RFs g α H ds vs -> RFs g α H (putD f d ds) (putF f v vs)
 | [], vs, h => by cases h; exact ⟨v, [], rfl, r, rfl⟩
 | p :: ps, vs, h => by
  obtain ⟨u, w, rfl, h1, h2⟩ := h
  rw [putD, putF]
  by_cases c : p.1 = f
  ·rw [if_pos c, if_pos c]
   exact ⟨v, w, by rw [c], r, h2⟩
  ·rw [if_neg c, if_neg c]
   exact ⟨u, _, rfl, h1, RFs.put r h2⟩
theorem ZgN (c : Ck g X W) {o e : Expr} {f : Str} {Fv Fo : DE} {T : Nat -> Bool} {pos' : Pos} (hv : OE g X W e Fv) (ho : OE g X W o Fo) (hT : ∀ k C, T k = true -> g.ca k = some C -> Cls g.K C /\ NoAttr g.K C f)
  (hs : swapsWith e (some (.Attribute o f pos')) pos.line X.env = pure false := by rfl) : OS g X W (.Assign [.Attribute o f pos'] e pos) (sFldD T f Fv Fo) :=
 ofS (ps_fld ho hv hs) fun E σ H ⟨α, env, st, hE, hS, p⟩ => by
  refine tE.run hE hS ((p.bind hE).imp fun d st1 α1 H1 x1 s1 q v r => ?_)
  have e1 := hE.mono x1
  refine tE.run e1 s1 ((q.bind e1).imp fun o st2 α2 H2 x2 s2 q2 v2 r2 => ?_)
  cases o <;> first | exact q2.elim | skip
  rename_i n
  dsimp only at q2
  split at q2
  ·rename_i k fs ee
   split at q2
   ·rename_i ht
    obtain ⟨a, C, dx, vs, rfl, ha, hc, h1, h2⟩ := s2.ins r2 ee
    obtain ⟨t1, t2⟩ := hT k C ht.1 hc
    have ex : Ext α2 H2 α2 (upd H2 a (.ins C dx (putF f v vs))) := Zka s2 ha ⟨_, h1, fun _ z => (nomatch z), fun _ _ z => (nomatch z)⟩
    exact ⟨a, C, dx, vs, rfl, h1, by rw [c.hK]; exact t1, by rw [c.hK]; exact t2, by rw [<- h2.length]; exact ht.2, q2 α2 _ σ ex (s2.write ha ex ⟨C, dx, _, hc, upd_same, (h2.put (r.mono x2)).mono ex⟩) ((e1.mono x2).mono ex)⟩
   ·exact q2.elim
  ·exact q2.elim
end
end Mi
namespace Mi
open PySem L2
def clsD (tb : Nat -> Option Nat) (m : Str) (o : D) (st : Sto) : Option Nat := match o with
 | .obj n => (match st[n]? with
  | some (.ins c fs) => if (fs.lookup m).isNone = true then tb c else none
  | _ => none)
 | _ => none
def eMeth (tb : Nat -> Option Nat) (m : Str) (Φ : Fam) (Fo : DE) (G : DA) : DE := fun env st => (Fo env st).bind fun o st1 => match clsD tb m o st1 with
 | some i => (G env st1).bind fun ds st2 => Φ i (o :: ds) st2
 | none => .stuck
section
variable {g : Gd} {X : Cx} {W : WX} {pos apos : Pos} {k : Nat}
theorem RFs.none {α : List Addr} {H : Hp} {f : Str} : ∀ {ds : List (Str × D)} {vs : List (Str × V)}, RFs g α H ds vs -> ds.lookup f = none -> vs.lookup f = none
 | [], vs, h, _ => by cases h; rfl
 | p :: ps, vs, h, e => by
  obtain ⟨v, r, rfl, h1, h2⟩ := h
  rw [List.lookup_cons] at e ⊢
  cases q : f == p.1 with
  | true => rw [q] at e; cases e
  | false => rw [q] at e; exact RFs.none h2 e
end
end Mi
namespace Mi
open PySem L2
def initR (n : Nat) (r : R D) : R D := r.bind fun d st => match d with | .non => .ok (.obj n) st | _ => .stuck
def makeD (c i : Nat) (Φ : Fam) (ds : List D) (st : Sto) : R D := initR st.length (Φ i (.obj st.length :: ds) (st ++ [.ins c []]))
section
variable {g : Gd} {X : Cx} {W : WX} {k : Nat} {C f : Addr} {fd : FuncData} {ps : List Str} {sp : Sp} {pos : Pos}
theorem FG.make (c : Ck g X W) {pins : List (Addr × Obj)} {σ : L2.St} {H : Hp} {s : Shared} {Q : VK} {us : List Value} {vs : List V} (M : L2.Mk g.K C f) (F : FG g k f fd ps sp) (hr : Room (k + 1) X.A) (hb : Binds g.K fd ps []) (I : L2.Inv X pins σ H s) (r : Vals vs us)
  (h : ∀ x dx, H x = none -> H dx = none -> dx ≠ x -> sp (.ref x :: vs) (upd (upd H dx (.own x)) x (.ins C dx [])) (fun v H2 => v = .non /\ Q (.ref x) H2) fun cls d H' => W cls d σ H') : wpAny (model X.prog X.w) X.A (PySem.call (.ref C) us) (EP X pins σ Q) X.xe s := by
 have hq := h (s.heap.objs.size + 1) s.heap.objs.size (I.hok.fresh (Nat.le_succ _)) (I.hok.fresh (Nat.le_refl _)) (Nat.ne_of_lt (Nat.lt_succ_self _))
 have I2 := L2.Inv.made (C := C) I
 have r2 : Vals (V.ref (s.heap.objs.size + 1) :: vs) (Value.ref (s.heap.objs.size + 1) :: us) := .cons rfl r
 have hl : (Value.ref (s.heap.objs.size + 1) :: us).length = ps.length := r2.length.symm.trans (F.len _ _ _ _ hq)
 have hk := I2.kIn
 rw [c.hK] at hk
 have bb := hb _ (Value.ref (s.heap.objs.size + 1) :: us) hk (by rw [List.append_nil]; exact hl)
 rw [List.append_nil] at bb
 have M' : L2.Mk X.K C f := by rw [c.hK]; exact M
 have e0 := I2.env0.make C us []
 have go := F.run _ X.stack _ _ ⟨Value.ref (s.heap.objs.size + 1) :: us, []⟩ (Value.ref (s.heap.objs.size + 1) :: us) _ _ (fun cls d H' => W cls d σ H') (hr.make C us []) c.gd
  (by rw [<- c.hP, <- c.hw, <- c.hK, <- c.hmg, <- c.hb]; exact e0) bb r2 hq
 rw [<- c.hP, <- c.hw] at go
 refine wpAny_call (make_map (f := f) I.kIn M'.makes M'.init (beq_iff_eq.mp M'.fn) (codeAny_mono go fun res s' hq' => ?_))
 match res, hq' with
 | .error e, hq' => exact c.tk e s' (XE.of_call I2 (fun _ _ _ z => z) hq')
 | .ok (.ret u), hq' =>
  obtain ⟨v, H', I3, rv, ev, q3⟩ := I2.after hq'
  subst ev
  exact ⟨rv, ⟨V.ref (s.heap.objs.size + 1), H', I3, rfl, q3⟩⟩
 | .ok .next, hq' => exact False.elim hq'
 | .ok .brk, hq' => exact False.elim hq'
 | .ok .cont, hq' => exact False.elim hq'
end
end Mi
namespace Mi
open PySem L2
def eCallV (ok : Nat -> Bool) (i : Nat) (Φ : Fam) (G : DA) : DE := fun env st => match env[i]? with
 | some (some (.fn j)) => if ok j = true then (G env st).bind fun ds st1 => Φ j ds st1 else .stuck
 | _ => .stuck
section
end
end Mi
namespace Mi
open PySem PySem.Spec PyProof.Rows L2
structure KBd (g : Gd) (fd : FuncData) (ps : List Str) (n : Nat) (ks : List Str) (gD : List D -> List D -> List D) : Prop where
 ex : ∃ (gU : List Value -> List Value -> List Value) (gV : List V -> List V -> List V), KBn g.K fd ps n ks gU gV /\ ∀ (α : List Addr) (H : Hp) (ds es : List D) (vs zs : List V), RDs g α H ds vs -> RDs g α H es zs -> RDs g α H (gD ds es) (gV vs zs)
def eCallK (φ : List D -> Sto -> R D) (gD : List D -> List D -> List D) (G G' : DA) : DE := fun env st => (G env st).bind fun ds st1 => (G' env st1).bind fun es st2 => φ (gD ds es) st2
section
variable {g : Gd} {X : Cx} {W : WX} {k : Nat} {C f : Addr} {fd : FuncData} {ps ks : List Str} {sp : Sp} {pos kpos : Pos}
def makeKD (c i : Nat) (Φ : Fam) (gD : List D -> List D -> List D) (ds es : List D) (st : Sto) : R D := initR st.length (Φ i (gD (.obj st.length :: ds) es) (st ++ [.ins c []]))
def eMakeK (c i : Nat) (Φ : Fam) (gD : List D -> List D -> List D) (G G' : DA) : DE := fun env st => (G env st).bind fun ds st1 => (G' env st1).bind fun es st2 => makeKD c i Φ gD ds es st2
end
end Mi
namespace Mi
open PySem PySem.Spec PyProof.Rows L2
def sRaise0 (c : Nat) : DS := fun env st => .exc c [] env st
section
end
end Mi
namespace Mi
open PySem PySem.Spec PyProof.Rows L2
end Mi
namespace Mi
open PySem PySem.Spec PyProof.Rows L2
theorem Zj5 {a b : String} : (Str.ofString a = Str.ofString b) ↔ a = b := by
 constructor
 ·intro h
  rw [Str.ofString_eq_toList, Str.ofString_eq_toList] at h
  have h1 : (a.toList.map Char.toNat).toArray = (b.toList.map Char.toNat).toArray := by injection h
  have h2 : a.toList.map Char.toNat = b.toList.map Char.toNat := by simpa using h1
  have h3 : a.toList = b.toList := by
   refine List.map_inj_right (fun x y hxy => ?_) |>.mp h2
   exact Char.toNat_inj.mp hxy
  exact String.toList_inj.mp h3
 ·rintro rfl; rfl
@[simp] theorem ZBD {a b : String} : (Str.ofString a = Str.ofString b) = (a = b) := propext Zj5
@[simp] theorem ZA7 {a b : String} : (Str.ofString a == Str.ofString b) = (a == b) := by
 rw [Bool.eq_iff_iff]; simp [Zj5]
def fldO (o : Option Ob) (T : Nat -> Bool) (f : Str) (st : Sto) : R D := match o with
 | some (.ins c fs) => if T c = true then ofO (fs.lookup f) st else .stuck
 | _ => .stuck
@[simp] theorem Zx2 {c : Nat} {fs : List (Str × D)} {T : Nat -> Bool} {f : Str} {st : Sto} : fldO (some (.ins c fs)) T f st = if T c = true then ofO (fs.lookup f) st else .stuck := rfl
@[simp] theorem ZCP {T : Nat -> Bool} {f : Str} {n : Nat} {st : Sto} : fldD T f (.obj n) st = fldO st[n]? T f st := by
 unfold fldD fldO; rfl
def sfO (o : Option Ob) (n : Nat) (T : Nat -> Bool) (f : Str) (d : D) (env : Env) (st : Sto) : RS := match o with
 | some (.ins c fs) => if T c = true /\ fs.length < 1000 then .nx env (st.set n (.ins c (putD f d fs))) else .stuck
 | _ => .stuck
@[simp] theorem ZyX {c n : Nat} {fs : List (Str × D)} {T : Nat -> Bool} {f : Str} {d : D} {env : Env} {st : Sto} : sfO (some (.ins c fs)) n T f d env st = if T c = true /\ fs.length < 1000 then .nx env (st.set n (.ins c (putD f d fs))) else .stuck := rfl
def sfD (T : Nat -> Bool) (f : Str) (d o : D) (env : Env) (st : Sto) : RS := match o with
 | .obj n => sfO st[n]? n T f d env st
 | _ => .stuck
@[simp] theorem Zy0 {T : Nat -> Bool} {f : Str} {d : D} {n : Nat} {env : Env} {st : Sto} : sfD T f d (.obj n) env st = sfO st[n]? n T f d env st := rfl
def gFldb (T : Nat -> Bool) (f : Str) (d : D) (env : Env) (r : R D) : RS := bindS r env fun o st => sfD T f d o env st
def gFlda (T : Nat -> Bool) (f : Str) (Fo : DE) (env : Env) (r : R D) : RS := bindS r env fun d st => gFldb T f d env (Fo env st)
@[simp] theorem Zyo {T : Nat -> Bool} {f : Str} {d o : D} {env : Env} {st : Sto} : gFldb T f d env (.ok o st) = sfD T f d o env st := rfl
@[simp] theorem Zxt {T : Nat -> Bool} {f : Str} {d : D} {env : Env} {c : Nat} {fs : List (Str × D)} {st : Sto} : gFldb T f d env (.exc c fs st) = .exc c fs env st := rfl
@[simp] theorem Zxy {T : Nat -> Bool} {f : Str} {d : D} {env : Env} : gFldb T f d env .stuck = .stuck := rfl
@[simp] theorem ZwV {T : Nat -> Bool} {f : Str} {Fo : DE} {d : D} {env : Env} {st : Sto} : gFlda T f Fo env (.ok d st) = gFldb T f d env (Fo env st) := rfl
@[simp] theorem ZwI {T : Nat -> Bool} {f : Str} {Fo : DE} {env : Env} {c : Nat} {fs : List (Str × D)} {st : Sto} : gFlda T f Fo env (.exc c fs st) = .exc c fs env st := rfl
@[simp] theorem Zye {T : Nat -> Bool} {f : Str} {Fo : DE} {env : Env} : gFlda T f Fo env .stuck = .stuck := rfl
@[simp] theorem ZCy {T : Nat -> Bool} {f : Str} {Fv Fo : DE} {env : Env} {st : Sto} : sFldD T f Fv Fo env st = gFlda T f Fo env (Fv env st) := rfl
/-- methods -/
def clsO (o : Option Ob) (tb : Nat -> Option Nat) (m : Str) : Option Nat := match o with
 | some (.ins c fs) => if (fs.lookup m).isNone = true then tb c else none
 | _ => none
@[simp] theorem Zyj {c : Nat} {fs : List (Str × D)} {tb : Nat -> Option Nat} {m : Str} : clsO (some (.ins c fs)) tb m = if (fs.lookup m).isNone = true then tb c else none := rfl
@[simp] theorem ZCw {tb : Nat -> Option Nat} {m : Str} {n : Nat} {st : Sto} : clsD tb m (.obj n) st = clsO st[n]? tb m := by
 unfold clsD clsO; rfl
def fMeb (Φ : Fam) (i : Nat) (o : D) (r : R (List D)) : R D := r.bind fun ds st => Φ i (o :: ds) st
@[simp] theorem Zzk {Φ : Fam} {i : Nat} {o : D} {ds : List D} {st : Sto} : fMeb Φ i o (.ok ds st) = Φ i (o :: ds) st := rfl
@[simp] theorem ZBb {Φ : Fam} {i : Nat} {o : D} {c : Nat} {fs : List (Str × D)} {st : Sto} : fMeb Φ i o (.exc c fs st) = .exc c fs st := rfl
@[simp] theorem ZAi {Φ : Fam} {i : Nat} {o : D} : fMeb Φ i o .stuck = .stuck := rfl
def meO (x : Option Nat) (Φ : Fam) (o : D) (G : DA) (env : Env) (st : Sto) : R D := match x with | some i => fMeb Φ i o (G env st) | none => .stuck
@[simp] theorem Zxg {i : Nat} {Φ : Fam} {o : D} {G : DA} {env : Env} {st : Sto} : meO (some i) Φ o G env st = fMeb Φ i o (G env st) := rfl
def fMea (tb : Nat -> Option Nat) (m : Str) (Φ : Fam) (G : DA) (env : Env) (r : R D) : R D := r.bind fun o st => meO (clsD tb m o st) Φ o G env st
@[simp] theorem Zzn {tb : Nat -> Option Nat} {m : Str} {Φ : Fam} {G : DA} {env : Env} {o : D} {st : Sto} : fMea tb m Φ G env (.ok o st) = meO (clsD tb m o st) Φ o G env st := rfl
@[simp] theorem Zzi {tb : Nat -> Option Nat} {m : Str} {Φ : Fam} {G : DA} {env : Env} {c : Nat} {fs : List (Str × D)} {st : Sto} : fMea tb m Φ G env (.exc c fs st) = .exc c fs st := rfl
@[simp] theorem ZAS {tb : Nat -> Option Nat} {m : Str} {Φ : Fam} {G : DA} {env : Env} : fMea tb m Φ G env .stuck = .stuck := rfl
@[simp] theorem ZAy {tb : Nat -> Option Nat} {m : Str} {Φ : Fam} {Fo : DE} {G : DA} {env : Env} {st : Sto} : eMeth tb m Φ Fo G env st = fMea tb m Φ G env (Fo env st) := rfl
/-- a local name that holds a def -/
def cvR (ok : Nat -> Bool) (o : Option (Option D)) (Φ : Fam) (r : R (List D)) : R D := match o with
 | some (some (.fn j)) => if ok j = true then r.bind fun ds st1 => Φ j ds st1 else .stuck
 | _ => .stuck
@[simp] theorem ZBy {ok : Nat -> Bool} {j : Nat} {Φ : Fam} {ds : List D} {st : Sto} : cvR ok (some (some (.fn j))) Φ (.ok ds st) = if ok j = true then Φ j ds st else .stuck := rfl
@[simp] theorem Zwz {ok : Nat -> Bool} {i : Nat} {Φ : Fam} {G : DA} {env : Env} {st : Sto} : eCallV ok i Φ G env st = cvR ok env[i]? Φ (G env st) := by
 unfold eCallV cvR; rfl
/-- making -/
@[simp] theorem Zxf {n : Nat} {st : Sto} : initR n (.ok .non st) = .ok (.obj n) st := rfl
@[simp] theorem ZwD {n c : Nat} {fs : List (Str × D)} {st : Sto} : initR n (.exc c fs st) = .exc c fs st := rfl
@[simp] theorem ZxO {c i : Nat} {Φ : Fam} {ds : List D} {st : Sto} : makeD c i Φ ds st = initR st.length (Φ i (.obj st.length :: ds) (st ++ [.ins c []])) := rfl
def fMkb (c i : Nat) (Φ : Fam) (gD : List D -> List D -> List D) (ds : List D) (r : R (List D)) : R D := r.bind fun es st => initR st.length (Φ i (gD (.obj st.length :: ds) es) (st ++ [.ins c []]))
@[simp] theorem ZAN {c i : Nat} {Φ : Fam} {gD : List D -> List D -> List D} {ds es : List D} {st : Sto} : fMkb c i Φ gD ds (.ok es st) = initR st.length (Φ i (gD (.obj st.length :: ds) es) (st ++ [.ins c []])) := rfl
def fMka (c i : Nat) (Φ : Fam) (gD : List D -> List D -> List D) (G' : DA) (env : Env) (r : R (List D)) : R D := r.bind fun ds st => fMkb c i Φ gD ds (G' env st)
@[simp] theorem ZzV {c i : Nat} {Φ : Fam} {gD : List D -> List D -> List D} {G' : DA} {env : Env} {ds : List D} {st : Sto} : fMka c i Φ gD G' env (.ok ds st) = fMkb c i Φ gD ds (G' env st) := rfl
@[simp] theorem ZwC {c i : Nat} {Φ : Fam} {gD : List D -> List D -> List D} {G G' : DA} {env : Env} {st : Sto} : eMakeK c i Φ gD G G' env st = fMka c i Φ gD G' env (G env st) := rfl
def fKb (φ : List D -> Sto -> R D) (gD : List D -> List D -> List D) (ds : List D) (r : R (List D)) : R D := r.bind fun es st => φ (gD ds es) st
@[simp] theorem ZBN {φ : List D -> Sto -> R D} {gD : List D -> List D -> List D} {ds es : List D} {st : Sto} : fKb φ gD ds (.ok es st) = φ (gD ds es) st := rfl
def fKa (φ : List D -> Sto -> R D) (gD : List D -> List D -> List D) (G' : DA) (env : Env) (r : R (List D)) : R D := r.bind fun ds st => fKb φ gD ds (G' env st)
@[simp] theorem ZBu {φ : List D -> Sto -> R D} {gD : List D -> List D -> List D} {G' : DA} {env : Env} {ds : List D} {st : Sto} : fKa φ gD G' env (.ok ds st) = fKb φ gD ds (G' env st) := rfl
@[simp] theorem Zw8 {φ : List D -> Sto -> R D} {gD : List D -> List D -> List D} {G G' : DA} {env : Env} {st : Sto} : eCallK φ gD G G' env st = fKa φ gD G' env (G env st) := rfl
end Mi
namespace Mi
open PySem L2
@[simp] theorem Zs2 : isi .non .non = true := rfl
@[simp] theorem Znl : isi .non .bool = false := rfl
@[simp] theorem Ztl : isi .non .int = false := rfl
@[simp] theorem ZsT : isi .non .str = false := rfl
@[simp] theorem Zk6 : isi .non .tuple = false := rfl
@[simp] theorem Zpe : isi .non .list = false := rfl
@[simp] theorem Zot : isi .non .dict = false := rfl
@[simp] theorem ZrY : isi .bool .non = false := rfl
@[simp] theorem Zlh : isi .bool .bool = true := rfl
@[simp] theorem ZnZ : isi .bool .int = true := rfl
@[simp] theorem Zsj : isi .bool .str = false := rfl
@[simp] theorem ZkH : isi .bool .tuple = false := rfl
@[simp] theorem ZkX : isi .bool .list = false := rfl
@[simp] theorem Zlf : isi .bool .dict = false := rfl
@[simp] theorem ZsV : isi .int .non = false := rfl
@[simp] theorem Zr0 : isi .int .bool = false := rfl
@[simp] theorem ZsZ : isi .int .int = true := rfl
@[simp] theorem Zte : isi .int .str = false := rfl
@[simp] theorem Zlm : isi .int .tuple = false := rfl
@[simp] theorem ZsG : isi .int .list = false := rfl
@[simp] theorem Zn4 : isi .int .dict = false := rfl
@[simp] theorem Ztk : isi .str .non = false := rfl
@[simp] theorem Zqv : isi .str .bool = false := rfl
@[simp] theorem ZsN : isi .str .int = false := rfl
@[simp] theorem ZsM : isi .str .str = true := rfl
@[simp] theorem Zlk : isi .str .tuple = false := rfl
@[simp] theorem ZqI : isi .str .list = false := rfl
@[simp] theorem ZlD : isi .str .dict = false := rfl
@[simp] theorem ZkR : isi .tuple .non = false := rfl
@[simp] theorem ZkI : isi .tuple .bool = false := rfl
@[simp] theorem Zlb : isi .tuple .int = false := rfl
@[simp] theorem ZkS : isi .tuple .str = false := rfl
@[simp] theorem Zkf : isi .tuple .tuple = true := rfl
@[simp] theorem ZkE : isi .tuple .list = false := rfl
@[simp] theorem ZkF : isi .tuple .dict = false := rfl
@[simp] theorem ZlG : isi .list .non = false := rfl
@[simp] theorem Zlj : isi .list .bool = false := rfl
@[simp] theorem Zq7 : isi .list .int = false := rfl
@[simp] theorem Zlr : isi .list .str = false := rfl
@[simp] theorem ZkJ : isi .list .tuple = false := rfl
@[simp] theorem Zk4 : isi .list .list = true := rfl
@[simp] theorem Zld : isi .list .dict = false := rfl
@[simp] theorem Zqu : isi .dict .non = false := rfl
@[simp] theorem ZkU : isi .dict .bool = false := rfl
@[simp] theorem ZpZ : isi .dict .int = false := rfl
@[simp] theorem ZpS : isi .dict .str = false := rfl
@[simp] theorem ZkG : isi .dict .tuple = false := rfl
@[simp] theorem Zk7 : isi .dict .list = false := rfl
@[simp] theorem Zll : isi .dict .dict = true := rfl
@[simp] theorem ZBK {n : Nat} {st : Sto} : tyD (.obj n) st = (match st[n]? with | some (.lst _) => some .list | some (.frz _) => some .list | some (.dic _) => some .dict | _ => none) := rfl
@[simp] theorem Zyb {T : Ty} {b : Bool} {i : Int} {x : Str} {ds : List D} {st : Sto} : isiD T .non st = .ok (.bl (isi .non T)) st := rfl
@[simp] theorem Zup {T : Ty} {b : Bool} {i : Int} {x : Str} {ds : List D} {st : Sto} : isiD T (.bl b) st = .ok (.bl (isi .bool T)) st := rfl
@[simp] theorem Zx9 {T : Ty} {b : Bool} {i : Int} {x : Str} {ds : List D} {st : Sto} : isiD T (.int i) st = .ok (.bl (isi .int T)) st := rfl
@[simp] theorem ZxG {T : Ty} {b : Bool} {i : Int} {x : Str} {ds : List D} {st : Sto} : isiD T (.str x) st = .ok (.bl (isi .str T)) st := rfl
@[simp] theorem ZtB {T : Ty} {b : Bool} {i : Int} {x : Str} {ds : List D} {st : Sto} : isiD T (.tup ds) st = .ok (.bl (isi .tuple T)) st := rfl
@[simp] theorem ZvR {T : Ty} {b : Bool} {i : Int} {x : Str} {ds : List D} {st : Sto} : isiD T (.kl ds) st = .ok (.bl (isi .list T)) st := rfl
@[simp] theorem Zy6 {b : Bool} {st : Sto} : truD (.bl b) st = some b := rfl
theorem Zfb {β : Type} (xs : List β) (k : Nat) : atI xs (k : Int) = xs[k]? := by
 by_cases h : k < xs.length
 ·exact ZjH h
 ·unfold atI ixN
  rw [if_pos (by omega), if_neg (by omega), List.getElem?_eq_none (by omega)]
  rfl
@[simp] theorem ZDd {β : Type} {xs : List β} : atI xs 1 = xs[1]? := Zfb xs 1
@[simp] theorem ZDh {β : Type} {xs : List β} : atI xs 2 = xs[2]? := Zfb xs 2
@[simp] theorem ZC3 {β : Type} {xs : List β} : atI xs 3 = xs[3]? := Zfb xs 3
@[simp] theorem ZDb {β : Type} {xs : List β} : atI xs 4 = xs[4]? := Zfb xs 4
@[simp] theorem ZC8 {β : Type} {xs : List β} : atI xs 5 = xs[5]? := Zfb xs 5
@[simp] theorem ZDj {β : Type} {xs : List β} : atI xs 6 = xs[6]? := Zfb xs 6
@[simp] theorem ZC9 {β : Type} {xs : List β} : atI xs 7 = xs[7]? := Zfb xs 7
@[simp] theorem ZC6 {β : Type} {xs : List β} : atI xs 8 = xs[8]? := Zfb xs 8
@[simp] theorem ZDl {β : Type} {xs : List β} : atI xs 9 = xs[9]? := Zfb xs 9
@[simp] theorem ZBn {β : Type} {xs : List β} : atI xs 10 = xs[10]? := Zfb xs 10
@[simp] theorem ZCk {β : Type} {xs : List β} : atI xs 11 = xs[11]? := Zfb xs 11
@[simp] theorem ZBv {β : Type} {xs : List β} : atI xs 12 = xs[12]? := Zfb xs 12
end Mi
namespace Mi
open PySem L2
def altR {β : Type} (r s : R β) : R β := match r with | .stuck => s | r => r
@[simp] theorem ZAh {β : Type} {b : β} {st : Sto} {s : R β} : altR (.ok b st) s = .ok b st := rfl
@[simp] theorem ZxK {β : Type} {c : Nat} {fs : List (Str × D)} {st : Sto} {s : R β} : altR (.exc c fs st) s = .exc c fs st := rfl
@[simp] theorem ZtA {β : Type} {s : R β} : altR .stuck s = s := rfl
def eAlt (F G : DE) : DE := fun env st => altR (F env st) (G env st)
@[simp] theorem ZB4 {F G : DE} {env : Env} {st : Sto} : eAlt F G env st = altR (F env st) (G env st) := rfl
section
end
section
variable {g : Gd} {X : Cx} {W : WX}
theorem RDs.reverse {α : List Addr} {H : Hp} : ∀ {ds : List D} {vs : List V}, RDs g α H ds vs -> RDs g α H ds.reverse vs.reverse
 | [], vs, h => by cases h; exact RDs.nil
 | d :: ds, vs, h => by
  obtain ⟨v, r, rfl, h1, h2⟩ := h
  rw [List.reverse_cons, List.reverse_cons]
  exact (RDs.reverse h2).append (.cons h1 .nil)
end
end Mi
namespace Mi
open PySem L2
def hdel (H : Hp) (c : Addr) : Hp := fun b => if b = c then none else H b
structure Tr (g : Gd) (α : List Addr) (H : Hp) (g' : Gd) (α' : List Addr) (H' : Hp) : Prop where
 hK : g'.K = g.K
 hfa : g'.fa = g.fa
 hca : g'.ca = g.ca
 hnk : g'.nk = g.nk
 hfr : g'.nfr = g.nfr
 htb : g'.tb = g.tb
 tup : ∀ b xs, H b = some (.tup xs) -> H' b = some (.tup xs)
 ftup : ∀ b o xs, H b = some (.frz o (.tup xs)) -> H' b = some (.frz o (.tup xs))
 flst : ∀ b o xs, H b = some (.frz o (.lst xs)) -> H' b = some (.frz o (.lst xs))
 xd : ∀ b fs, H b = some (.xd fs) -> H' b = some (.xd fs)
 at_ : ∀ (n : Nat) (a : Addr), α[n]? = some a -> Nm (H a) -> α'[n]? = some a /\ Nm (H' a)
 pc : ∀ q b, PC g α q b -> PC g' α' q b
 code : ∀ c (k : KO), H c = some k.1 -> c ∉ α -> H' c = some k.1 /\ c ∉ α'
section
variable {g g' : Gd} {α α' : List Addr} {H H' : Hp}
theorem Tr.sqt (t : Tr g α H g' α' H') {a : Addr} {xs : List V} (h : SqT g.K H a xs) : SqT g'.K H' a xs := by
 rw [t.hK]
 rcases h with (h | ⟨o, h⟩) | h
 ·exact .inl (.inl (t.tup _ _ h))
 ·exact .inl (.inr ⟨o, t.ftup _ _ _ h⟩)
 ·exact .inr h
end
section
end
section
end
section
end
end Mi
namespace Mi
open PySem PySem.Spec PyProof.Rows L2
section
end
/-- a relation of the heaps ahead of a run and behind it that lets cells be laid down and taken up -/
structure GU (P : Program) (w : World) (fs : List Addr) (h h2 : Heap) (U : Hp -> Hp -> Prop) : Prop where
 call : ∀ {H H2 : Hp} {c : Addr} {o : Obj}, U (upd H c (CelO o)) H2 -> HOk P w H2 h2 -> H c = none -> h.get? c = some o -> c ∉ fs -> U H (hdel H2 c)
 clo : ∀ {H H2 : Hp} {c : Addr} {o : Obj}, U (hdel H c) H2 -> H c = some (CelO o) -> h.get? c = some o -> c ∉ fs -> H2 c = none /\ h2.get? c = some o /\ U H (upd H2 c (CelO o))
 new : ∀ {H H2 : Hp} {c : Addr} {o : Obj}, U H H2 -> h.objs.size <= c -> H2 c = none -> U H (upd H2 c (CelO o))
 frz : ∀ {H H2 : Hp}, U H H2 -> ∀ b o u, H b = some (.frz o u) -> H2 b = some (.frz o u)
 tbl : ∀ {H H2 : Hp}, U H H2 -> ∀ b ps, H b = some (.tbl ps) -> ∃ more, H2 b = some (.tbl (ps ++ more))
/-- a place, what its cell holds -/
abbrev Lay := List (Nat × Option D)
def stl : Lay -> Sto -> Option Sto
 | [], st => some st
 | l :: L, st => match st[l.1]? with
  | some .pnd => stl L (st.set l.1 (.cel l.2))
  | _ => none
def unstl : List Nat -> Sto -> Option Sto
 | [], st => some st
 | p :: L, st => match unstl L st with
  | some st1 => match st1[p]? with
   | some (.cel _) => some (st1.set p .pnd)
   | _ => none
  | none => none
/-- the ground with other pending cells -/
abbrev Gd.at (g : Gd) (pc : Nat -> Option Addr) : Gd := { g with pc := pc }
/-- a cell of the running frame: its place, what the names' values tell of it, its address -/
structure CellOk (g : Gd) (α : List Addr) (H : Hp) (h : Heap) (fs : List Addr) (p : Nat) (od : Option D) (c : Addr) : Prop where
 pc : g.pc p = some c
 hn : H c = none
 nf : c ∉ fs
 ob : ∃ o u, h.get? c = some o /\ o.data = .cell u /\ ∀ d, od = some d -> ∃ v w, u = some w /\ RelV v w /\ RD g α H d v
end Mi
namespace Mi
open PySem PySem.Spec PyProof.Rows L2
section
end
section
end
/-- `a, b, *rest = t`: the last name takes a new list -/
def sStar (is : List Nat) (F : DE) : DS := fun env st => bindS (F env st) env fun d st1 => match d with
 | .tup ds => if is.length <= ds.length + 1 /\ is ≠ [] then .nx (setAll env is (ds.take (is.length - 1) ++ [.obj st1.length])) (st1 ++ [.lst (ds.drop (is.length - 1))]) else .stuck
 | _ => .stuck
section
end
end Mi
namespace Mi
open PySem PySem.Spec PyProof.Rows L2
section
end
end Mi
namespace Mi
open PySem PySem.Spec PyProof.Rows L2
section
end
end Mi
namespace Mi
open PySem PySem.Spec PyProof.Rows L2
def zipStr (a b : D) (st : Sto) : R (List D × Wat) := match a, b with
 | .tup xs, .obj n => (match seqOf st n with | some ys => if xs.length = ys.length then .ok (pairs xs ys, [(n, ys)]) st else .stuck | none => .stuck)
 | _, _ => .stuck
def zsR (ds : List D) (st : Sto) : R (List D × Wat) := match ds with
 | [a, b] => zipStr a b st
 | _ => .stuck
def iZipS (G : DA) : DIt := fun env st => (G env st).bind zsR
section
end
end Mi
namespace Mi
open PySem PySem.Spec PyProof.Rows L2
def keyOf : D -> Option Key
 | .int i => some (.inl i)
 | .str x => some (.inr x)
 | _ => none
def dgetL (kvs : List (Key × D)) (k : Key) : Option D := (kvs.find? fun p => decide (p.1 = k)).map (·.2)
def putL (kvs : List (Key × D)) (k : Key) (d : D) : List (Key × D) := if (kvs.any fun p => decide (p.1 = k)) = true then kvs.map (fun p => if p.1 = k then (p.1, d) else p) else kvs ++ [(k, d)]
section
variable {g : Gd} {X : Cx} {W : WX} {α : List Addr} {H : Hp} {st : Sto}
theorem RKs.get {k : Key} : ∀ {kvs : List (Key × D)} {ps : List (Key × V)}, RKs g α H kvs ps -> (dgetL kvs k = none /\ valV ps k = none) \/ ∃ d v, dgetL kvs k = some d /\ valV ps k = some v /\ RD g α H d v
 | [], ps, h => by cases h; exact .inl ⟨rfl, rfl⟩
 | p :: kvs, ps, h => by
  obtain ⟨v, r, rfl, h1, h2⟩ := h
  by_cases c : p.1 = k
  ·exact .inr ⟨p.2, v, by simp [dgetL, c], by simp [valV, c], h1⟩
  ·have := RKs.get (k := k) h2
   simpa [dgetL, valV, c] using this
theorem RKs.length : ∀ {kvs : List (Key × D)} {ps : List (Key × V)}, RKs g α H kvs ps -> kvs.length = ps.length
 | [], ps, h => by cases h; rfl
 | p :: kvs, ps, h => by
  obtain ⟨v, r, rfl, h1, h2⟩ := h
  simp [RKs.length h2]
theorem StR.dic (s : StR g α st H) {n : Nat} {v : V} {kvs : List (Key × D)} (h : RD g α H (.obj n) v) (e : st[n]? = some (.dic kvs)) : ∃ a ps, v = .ref a /\ α[n]? = some a /\ H a = some (.dK ps) /\ RKs g α H kvs ps := by
 obtain ⟨a, rfl, ha, _⟩ := h
 obtain ⟨ps, h1, h2⟩ := s.ob n a _ ha e
 exact ⟨a, ps, rfl, ha, h1, h2⟩
end
def dicO (o : Option Ob) : Option (List (Key × D)) := match o with | some (.dic kvs) => some kvs | _ => none
@[simp] theorem ZxW {kvs : List (Key × D)} : dicO (some (.dic kvs)) = some kvs := rfl
@[simp] theorem Zxc {ds : List D} : dicO (some (.lst ds)) = none := rfl
@[simp] theorem Zvn : dicO none = none := rfl
def dinD : D -> D -> Sto -> R D
 | a, .obj n, st => (match keyOf a, dicO st[n]? with | some k, some kvs => .ok (.bl (dgetL kvs k).isSome) st | _, _ => .stuck)
 | _, _, _ => .stuck
def dnotinD : D -> D -> Sto -> R D
 | a, .obj n, st => (match keyOf a, dicO st[n]? with | some k, some kvs => .ok (.bl (!(dgetL kvs k).isSome)) st | _, _ => .stuck)
 | _, _, _ => .stuck
def dgetD : D -> D -> Sto -> R D
 | .obj n, a, st => (match keyOf a, dicO st[n]? with | some k, some kvs => ofO (dgetL kvs k) st | _, _ => .stuck)
 | _, _, _ => .stuck
section
variable {g : Gd} {X : Cx} {W : WX} {α : List Addr} {H : Hp} {st : Sto}
/-- {} -/
def eDic0 : DE := fun _ st => new (.dic []) st
@[simp] theorem ZAv {env : Env} {st : Sto} : eDic0 env st = .ok (.obj st.length) (st ++ [.dic []]) := rfl
def KEs (g : Gd) : List DictEntry -> List (Str × D) -> Prop
 | [], kvs => kvs = []
 | e :: es, kvs => ∃ x d r, kvs = (x, d) :: r /\ (∃ t, e.key = .str x t) /\ e.hash = PyData.keyHash g.w.params x /\ (∃ v, RelV v e.val /\ ∀ α H, RD g α H d v) /\ KEs g es r
structure KDic (g : Gd) (a : Addr) (kvs : List (Str × D)) : Prop where
 at_ : ∃ es n, g.K.lookup a = some ⟨.type "dict", none, .dict es n, #[]⟩ /\ KEs g es.toList kvs
 lo : (a == sysModules) = false
 nd : (kvs.map (·.1)).Nodup
 sz : kvs.length <= 1000
theorem KEs.go : ∀ {es : List DictEntry} {kvs : List (Str × D)}, KEs g es kvs -> ∃ (vs : List (Key × Value)) (ps : List (Key × V)), (∀ e ∈ es, ∃ k, (mixKind g.P g.w).is k e.key = true /\ e.hash = (mixKind g.P g.w).hash k) /\ Pairs (mixKind g.P g.w) es vs /\ KV ps vs /\ (∀ α H, RKs g α H (kvs.map fun p => (.inr p.1, p.2)) ps) /\ vs.map (·.1) = kvs.map fun p => .inr p.1
 | [], kvs, h => by cases h; exact ⟨[], [], by simp, .nil, .nil, fun _ _ => rfl, rfl⟩
 | e :: es, kvs, h => by
  obtain ⟨x, d, r, rfl, ⟨t, ek⟩, eh, ⟨v, rv, rd⟩, h2⟩ := h
  obtain ⟨vs, ps, q1, q2, q3, q4, q5⟩ := KEs.go h2
  refine ⟨(.inr x, e.val) :: vs, (.inr x, v) :: ps, fun y hy => ?_, .cons (by rw [ek]; exact keyIs_str x t) rfl q2, .cons ⟨rfl, rv⟩ q3, fun α H => ⟨v, ps, rfl, rd α H, q4 α H⟩, by simp [q5]⟩
  rcases List.mem_cons.mp hy with rfl | hy
  ·exact ⟨.inr x, by rw [ek]; exact keyIs_str x t, eh⟩
  ·exact q1 y hy
def eKDic (kvs : List (Str × D)) : DE := fun _ st => new (.dic (kvs.map fun p => (.inr p.1, p.2))) st
@[simp] theorem Zyy {kvs : List (Str × D)} {env : Env} {st : Sto} : eKDic kvs env st = .ok (.obj st.length) (st ++ [.dic (kvs.map fun p => (.inr p.1, p.2))]) := rfl
end
end Mi
namespace Mi
open PySem PySem.Spec PyProof.Rows L2
def spX (C : Addr) (f : Str) : Sp := fun vs H Q _ => ∃ a y, vs = [.ref a, y] /\ H a = some (exo a C none) /\ ∀ dx, H dx = none -> dx ≠ a -> Q .non (upd (upd H dx (exd dx [(f, y)])) a (exo a C (some dx)))
section
variable {g : Gd}
theorem fnX {CX : CXT} {k : Nat} {x qual : Str} {st : Stmt} {fI C : Addr} {fd : FuncData} {N : List Str} {p1 p2 f : Str} {q1 q2 q3 q4 : Pos} (T : OexC g.K C) (no : PySem.W.findIn g.K (.ref C) f = some none) (F : Fun g.K x qual st fI fd) (S : FnScope N [p1, p2] (defScope st))
  (hB : defBody st = [.Assign [.Attribute (.Name p1 q1) f q2] (.Name p2 q3) q4]) (hN : N = [p1, p2]) (v1 : Vis (defScope st) p1) (v2 : Vis (defScope st) p2) (d1 : (p1 == ("__debug__" : Str)) = false) (d2 : (p2 == ("__debug__" : Str)) = false) (c1 : (p1 == ("__classdict__" : Str)) = false) (c2 : (p2 == ("__classdict__" : Str)) = false) :
  FnOk g.P g.w g.K g.mg g.base CX (k + 1) fI fd [p1, p2] (spX C f) := by
 obtain ⟨oc, od, kV, doc, pm, an, cdv, ct, osl, rfl, lk, hcd⟩ := F.ex
 subst hN
 refine fn_of lk hcd S (fun vs H Q E ⟨a, y, e, _⟩ => by rw [e]; rfl) fun A outer s H vs Q E rm ⟨a, y, e, ha, fin⟩ => ?_
 subst e
 rw [hB]
 refine ⟨_, pss_cons (ps_ost (pe_var (i := 0) rfl v1 d1 c1) (pe_var (i := 1) rfl v2 d2 c2) rfl) pss_nil, ?_⟩
 exact ⟨y, rfl, .ref a, rfl, a, C, rfl, T, no, .inl ⟨ha, fun dx h1 h2 => fin dx h1 h2⟩⟩
end
def sRaise1 (c : Nat) (f : Str) (F : DE) : DS := fun env st => bindS (F env st) env fun d st1 => .exc c [(f, d)] env st1
@[simp] theorem Zvo {c : Nat} {env : Env} {st : Sto} : sRaise0 c env st = .exc c [] env st := rfl
def gRs (c : Nat) (f : Str) (env : Env) (r : R D) : RS := bindS r env fun d st1 => .exc c [(f, d)] env st1
@[simp] theorem ZCe {c : Nat} {f : Str} {env : Env} {d : D} {st : Sto} : gRs c f env (.ok d st) = .exc c [(f, d)] env st := rfl
@[simp] theorem ZCq {c e : Nat} {f : Str} {env : Env} {fs : List (Str × D)} {st : Sto} : gRs c f env (.exc e fs st) = .exc e fs env st := rfl
@[simp] theorem ZBE {c : Nat} {f : Str} {env : Env} : gRs c f env .stuck = .stuck := rfl
@[simp] theorem ZtU {c : Nat} {f : Str} {F : DE} {env : Env} {st : Sto} : sRaise1 c f F env st = gRs c f env (F env st) := rfl
theorem ZgJ {CX : CXT} {X : Cx} (h : ∀ outer H s e s', ¬ CX outer H s (fun _ _ _ => False) e s') : Passes CX X (fun _ _ _ => False) := fun pins σ H s e s' I c => (h _ _ _ _ _ c).elim
theorem ZjE {P : Program} {w : World} (outer : List PySem.Env) (H : Hp) (s : Shared) (e : Value) (s' : Shared) : ¬ L2.CX P w outer H s (fun _ _ _ => False) e s' := fun ⟨_, _, _, _, _, _, _, _, _, _, _, _, z⟩ => z
section
end
end Mi
namespace Mi
open PySem PySem.Spec PyProof.Rows L2
def KVd (g : Gd) (u : Value) (d : D) : Prop := ∃ v, RelV v u /\ ∀ α H, RD g α H d v
def KVds (g : Gd) : List Value -> List D -> Prop
 | [], ds => ds = []
 | u :: us, ds => ∃ d r, ds = d :: r /\ KVd g u d /\ KVds g us r
section
variable {g : Gd} {X : Cx} {W : WX}
theorem KVds.nil : KVds g [] [] := rfl
theorem KVds.cons {u : Value} {d : D} {us : List Value} {ds : List D} (h : KVd g u d) (k : KVds g us ds) : KVds g (u :: us) (d :: ds) := ⟨d, ds, rfl, h, k⟩
theorem KVds.go : ∀ {us : List Value} {ds : List D}, KVds g us ds -> ∃ vs, Vals vs us /\ ∀ α H, RDs g α H ds vs
 | [], ds, h => by cases h; exact ⟨[], .nil, fun _ _ => rfl⟩
 | u :: us, ds, h => by
  obtain ⟨d, r, rfl, ⟨v, rv, rd⟩, k⟩ := h
  obtain ⟨vs, q1, q2⟩ := KVds.go k
  exact ⟨v :: vs, .cons rv q1, fun α H => ⟨v, vs, rfl, rd α H, q2 α H⟩⟩
end
end Mi
namespace Mi
open PySem PySem.Spec PyProof.Rows L2
def bitsD : D -> Sto -> R D
 | .int i, st => .ok (.int (Builtin.Int.intBits i : Nat)) st
 | _, _ => .stuck
section
end
def dget2M : D -> List D -> Sto -> R D
 | .obj n, [a, x], st => (match keyOf a, dicO st[n]? with | some k, some kvs => .ok ((dgetL kvs k).getD x) st | _, _ => .stuck)
 | _, _, _ => .stuck
def dget1M : D -> List D -> Sto -> R D
 | .obj n, [a], st => (match keyOf a, dicO st[n]? with | some k, some kvs => .ok ((dgetL kvs k).getD .non) st | _, _ => .stuck)
 | _, _, _ => .stuck
def mergeL (kvs more : List (Key × D)) : List (Key × D) := more.foldl (fun acc p => putL acc p.1 p.2) kvs
def updateM : D -> List D -> Sto -> R D
 | .obj n, [.obj m], st => (match dicO st[n]?, dicO st[m]? with | some kvs, some more => if n ≠ m /\ kvs.length + more.length <= 1000 then .ok .non (st.set n (.dic (mergeL kvs more))) else .stuck | _, _ => .stuck)
 | _, _, _ => .stuck
section
variable {g : Gd} {X : Cx} {W : WX} {α : List Addr} {H : Hp} {st : Sto}
theorem RKs.any {k : Key} : ∀ {kvs : List (Key × D)} {ps : List (Key × V)}, RKs g α H kvs ps -> (kvs.any fun p => decide (p.1 = k)) = (ps.any fun p => decide (p.1 = k))
 | [], ps, h => by cases h; rfl
 | p :: kvs, ps, h => by
  obtain ⟨v, r, rfl, h1, h2⟩ := h
  simp [RKs.any h2]
theorem RKs.repl {k : Key} {d : D} {v : V} (rd : RD g α H d v) : ∀ {kvs : List (Key × D)} {ps : List (Key × V)}, RKs g α H kvs ps -> RKs g α H (kvs.map fun p => if p.1 = k then (p.1, d) else p) (ps.map fun p => if p.1 = k then (p.1, v) else p)
 | [], ps, h => by cases h; rfl
 | p :: kvs, ps, h => by
  obtain ⟨u, r, rfl, h1, h2⟩ := h
  by_cases c : p.1 = k
  ·exact ⟨v, _, by simp [c], by simpa [c] using rd, RKs.repl rd h2⟩
  ·exact ⟨u, _, by simp [c], by simpa [c] using h1, RKs.repl rd h2⟩
theorem RKs.snoc {k : Key} {d : D} {v : V} (rd : RD g α H d v) : ∀ {kvs : List (Key × D)} {ps : List (Key × V)}, RKs g α H kvs ps -> RKs g α H (kvs ++ [(k, d)]) (ps ++ [(k, v)])
 | [], ps, h => by cases h; exact ⟨v, [], rfl, rd, rfl⟩
 | p :: kvs, ps, h => by
  obtain ⟨u, r, rfl, h1, h2⟩ := h
  exact ⟨u, _, rfl, h1, RKs.snoc rd h2⟩
theorem RKs.put {k : Key} {d : D} {v : V} {kvs : List (Key × D)} {ps : List (Key × V)} (h : RKs g α H kvs ps) (rd : RD g α H d v) : RKs g α H (putL kvs k d) (putK ps k v) := by
 unfold putL putK
 rw [h.any]
 split
 ·exact h.repl rd
 ·exact h.snoc rd
end
def evals : List (Key × DE) -> DA
 | [] => aNil
 | p :: r => aCons p.2 (evals r)
def dispR (n : Nat) (ks : List Key) (ds : List D) (st : Sto) : R D := match dicO st[n]? with
 | some [] => .ok (.obj n) (st.set n (.dic (mergeL [] (ks.zip ds))))
 | _ => .stuck
def eDisp (l : List (Key × DE)) : DE := fun env st => (evals l env (st ++ [.dic []])).bind fun ds st1 => dispR st.length (l.map (·.1)) ds st1
section
end
/-- a, b, c = x, y, z -/
def sPar3 (i j l : Nat) (G : DA) : DS := fun env st => bindS (G env st) env fun ds st1 => match ds with | [a, b, e] => .nx (((env.set i (some a)).set j (some b)).set l (some e)) st1 | _ => .stuck
section
end
def gPar3 (i j l : Nat) (env : Env) (r : R (List D)) : RS := bindS r env fun ds st1 => match ds with | [a, b, e] => .nx (((env.set i (some a)).set j (some b)).set l (some e)) st1 | _ => .stuck
@[simp] theorem ZzB {i j l : Nat} {G : DA} {env : Env} {st : Sto} : sPar3 i j l G env st = gPar3 i j l env (G env st) := rfl
@[simp] theorem ZwR {i j l : Nat} {env : Env} {a b e : D} {st : Sto} : gPar3 i j l env (.ok [a, b, e] st) = .nx (((env.set i (some a)).set j (some b)).set l (some e)) st := rfl
@[simp] theorem Zv7 : evals [] = aNil := rfl
@[simp] theorem Ztz {p : Key × DE} {r : List (Key × DE)} : evals (p :: r) = aCons p.2 (evals r) := rfl
def fDsp (n : Nat) (ks : List Key) (r : R (List D)) : R D := r.bind fun ds st1 => dispR n ks ds st1
def dspO (o : Option (List (Key × D))) (n : Nat) (ks : List Key) (ds : List D) (st : Sto) : R D := match o with
 | some [] => .ok (.obj n) (st.set n (.dic (mergeL [] (ks.zip ds))))
 | _ => .stuck
@[simp] theorem ZAH {l : List (Key × DE)} {env : Env} {st : Sto} : eDisp l env st = fDsp st.length (l.map (·.1)) (evals l env (st ++ [.dic []])) := rfl
@[simp] theorem Zzf {n : Nat} {ks : List Key} {ds : List D} {st : Sto} : fDsp n ks (.ok ds st) = dspO (dicO st[n]?) n ks ds st := rfl
@[simp] theorem ZwU {n : Nat} {ks : List Key} {ds : List D} {st : Sto} : dspO (some []) n ks ds st = .ok (.obj n) (st.set n (.dic (mergeL [] (ks.zip ds)))) := rfl
@[simp] theorem Zul {st t : Sto} {k : Nat} : (st ++ t)[st.length + k]? = t[k]? := by
 rw [List.getElem?_append_right (by omega)]
 congr 1
 omega
@[simp] theorem Zy4 {st t : Sto} : (st ++ t)[st.length]? = t[0]? := Zul (k := 0)
@[simp] theorem Ztg {st t : Sto} {k : Nat} {o : Ob} : (st ++ t).set (st.length + k) o = st ++ t.set k o := by
 rw [List.set_append_right _ _ (by omega)]
 congr 2
 omega
@[simp] theorem ZxN {st t : Sto} {o : Ob} : (st ++ t).set st.length o = st ++ t.set 0 o := Ztg (k := 0)
def getO (o : Option (List (Key × D))) (a x : D) (st : Sto) : R D := match keyOf a, o with | some k, some kvs => .ok ((dgetL kvs k).getD x) st | _, _ => .stuck
@[simp] theorem ZAW {n : Nat} {a x : D} {st : Sto} : dget2M (.obj n) [a, x] st = getO (dicO st[n]?) a x st := rfl
@[simp] theorem ZyM {n : Nat} {a : D} {st : Sto} : dget1M (.obj n) [a] st = getO (dicO st[n]?) a .non st := rfl
@[simp] theorem ZwJ {kvs : List (Key × D)} {z : Str} {x : D} {st : Sto} : getO (some kvs) (.str z) x st = .ok ((dgetL kvs (.inr z)).getD x) st := rfl
def ixO (o : Option (List (Key × D))) (a : D) (st : Sto) : R D := match keyOf a, o with | some k, some kvs => ofO (dgetL kvs k) st | _, _ => .stuck
@[simp] theorem ZzH {n : Nat} {a : D} {st : Sto} : dgetD (.obj n) a st = ixO (dicO st[n]?) a st := rfl
@[simp] theorem Zys {kvs : List (Key × D)} {z : Str} {st : Sto} : ixO (some kvs) (.str z) st = ofO (dgetL kvs (.inr z)) st := rfl
def hasO (b : Bool) (o : Option (List (Key × D))) (a : D) (st : Sto) : R D := match keyOf a, o with | some k, some kvs => .ok (.bl (if b then (dgetL kvs k).isSome else !(dgetL kvs k).isSome)) st | _, _ => .stuck
@[simp] theorem ZB1 {n : Nat} {a : D} {st : Sto} : dinD a (.obj n) st = hasO true (dicO st[n]?) a st := rfl
@[simp] theorem ZuK {n : Nat} {a : D} {st : Sto} : dnotinD a (.obj n) st = hasO false (dicO st[n]?) a st := rfl
@[simp] theorem Zxq {b : Bool} {kvs : List (Key × D)} {z : Str} {st : Sto} : hasO b (some kvs) (.str z) st = .ok (.bl (if b then (dgetL kvs (.inr z)).isSome else !(dgetL kvs (.inr z)).isSome)) st := rfl
def updO (o p : Option (List (Key × D))) (n m : Nat) (st : Sto) : R D := match o, p with | some kvs, some more => if n ≠ m /\ kvs.length + more.length <= 1000 then .ok .non (st.set n (.dic (mergeL kvs more))) else .stuck | _, _ => .stuck
@[simp] theorem ZCT {n m : Nat} {st : Sto} : updateM (.obj n) [.obj m] st = updO (dicO st[n]?) (dicO st[m]?) n m st := rfl
@[simp] theorem ZvS {kvs more : List (Key × D)} {n m : Nat} {st : Sto} : updO (some kvs) (some more) n m st = if n ≠ m /\ kvs.length + more.length <= 1000 then .ok .non (st.set n (.dic (mergeL kvs more))) else .stuck := rfl
@[simp] theorem ZzG {n : Nat} {st : Sto} : hasT "dict" (.obj n) st = (dicO st[n]?).isSome := by
 unfold hasT dicO
 split <;> simp_all
 split <;> simp_all
def starO (is : List Nat) (env : Env) (d : D) (st : Sto) : RS := match d with
 | .tup ds => if is.length <= ds.length + 1 /\ is ≠ [] then .nx (setAll env is (ds.take (is.length - 1) ++ [.obj st.length])) (st ++ [.lst (ds.drop (is.length - 1))]) else .stuck
 | _ => .stuck
def gStr (is : List Nat) (env : Env) (r : R D) : RS := bindS r env fun d st1 => starO is env d st1
@[simp] theorem ZBf {is : List Nat} {F : DE} {env : Env} {st : Sto} : sStar is F env st = gStr is env (F env st) := rfl
@[simp] theorem Zz1 {is : List Nat} {env : Env} {ds : List D} {st : Sto} : gStr is env (.ok (.tup ds) st) = if is.length <= ds.length + 1 /\ is ≠ [] then .nx (setAll env is (ds.take (is.length - 1) ++ [.obj st.length])) (st ++ [.lst (ds.drop (is.length - 1))]) else .stuck := rfl
@[simp] theorem ZAJ {is : List Nat} {env : Env} {c : Nat} {fs : List (Str × D)} {st : Sto} : gStr is env (.exc c fs st) = .exc c fs env st := rfl
def fZs (r : R (List D)) : R (List D × Wat) := r.bind fun ds st => zsR ds st
@[simp] theorem ZyQ {G : DA} {env : Env} {st : Sto} : iZipS G env st = fZs (G env st) := rfl
def zsO (xs : List D) (n : Nat) (o : Option (List D)) (st : Sto) : R (List D × Wat) := match o with | some ys => if xs.length = ys.length then .ok (pairs xs ys, [(n, ys)]) st else .stuck | none => .stuck
@[simp] theorem ZBw {xs : List D} {n : Nat} {st : Sto} : fZs (.ok [.tup xs, .obj n] st) = zsO xs n (seqOf st n) st := rfl
@[simp] theorem Zw4 {xs ys : List D} {n : Nat} {st : Sto} : zsO xs n (some ys) st = if xs.length = ys.length then .ok (pairs xs ys, [(n, ys)]) st else .stuck := rfl
@[simp] theorem Zya {i : Int} {st : Sto} : bitsD (.int i) st = .ok (.int (Builtin.Int.intBits i : Nat)) st := rfl
end Mi
namespace Mi
open PySem PySem.Spec PyProof.Rows L2
section
end
end Mi
namespace Mi
open PySem PySem.Spec PyProof.Rows PyProof.V L2
def kP : Key -> PyData
 | .inl i => .int i
 | .inr x => .str x
mutual
inductive Dq (K : PySem.W.Frag) (H : Hp) : V -> PyData -> Prop
 | non : Dq K H .non .none
 | bl (b : Bool) : Dq K H (.bl b) (.bool b)
 | int (i : Int) : Dq K H (.int i) (.int i)
 | str (x : Str) : Dq K H (.str x) (.str x)
 | lst {a : Addr} {xs : List V} {ds : List PyData} : SqL K H a xs -> H a ≠ none -> DqAll K H xs ds -> Dq K H (.ref a) (.list ds)
 | tup {a : Addr} {xs : List V} {ds : List PyData} : SqT K H a xs -> DqAll K H xs ds -> Dq K H (.ref a) (.tuple ds)
 | dic {a : Addr} {ps : List (Key × V)} {ks : List (PyData × PyData)} : H a = some (.dK ps) -> DqKs K H ps ks -> Dq K H (.ref a) (.dict ks)
inductive DqAll (K : PySem.W.Frag) (H : Hp) : List V -> List PyData -> Prop
 | nil : DqAll K H [] []
 | cons {v : V} {vs : List V} {d : PyData} {ds : List PyData} : Dq K H v d -> DqAll K H vs ds -> DqAll K H (v :: vs) (d :: ds)
inductive DqKs (K : PySem.W.Frag) (H : Hp) : List (Key × V) -> List (PyData × PyData) -> Prop
 | nil : DqKs K H [] []
 | cons {k : Key} {v : V} {ps : List (Key × V)} {d : PyData} {ks : List (PyData × PyData)} : Dq K H v d -> DqKs K H ps ks -> DqKs K H ((k, v) :: ps) ((kP k, d) :: ks)
end
section
variable {X : Cx} {pins : List (Addr × Obj)} {σ : L2.St} {H : Hp} {s : Shared}
mutual
theorem Dq.reads (I : Inv X pins σ H s) (sm : H sysModules = none) : ∀ {v : V} {d : PyData}, Dq X.K H v d -> ∀ u : Value, RelV v u -> ∃ as, Reads s.heap u d as /\ sysModules ∉ as
 | _, _, .non, _, r => by cases r; exact ⟨_, Reads.none, by simp⟩
 | _, _, .bl b, _, r => by cases r; exact ⟨_, Reads.bool b, by simp⟩
 | _, _, .int i, _, r => by obtain ⟨t, rfl⟩ := r; exact ⟨_, Reads.int i t, by simp⟩
 | _, _, .str x, _, r => by obtain ⟨t, rfl⟩ := r; exact ⟨_, Reads.str x t, by simp⟩
 | _, _, .lst hs hn ha, _, r => by
  cases r
  obtain ⟨its, rv, ⟨o, n, ho, hc, _, hd⟩, _⟩ := I.list hs
  obtain ⟨as, hr, hm⟩ := DqAll.reads I sm ha its rv
  refine ⟨_, Reads.list ho hc hd hr, ?_⟩
  simp only [List.mem_cons, not_or]
  exact ⟨fun e => hn (by rw [<- e]; exact sm), hm⟩
 | _, _, .tup hs ha, _, r => by
  cases r
  obtain ⟨its, rv, ⟨o, ho, hc, n, hd⟩, _⟩ := I.tuple hs
  obtain ⟨as, hr, hm⟩ := DqAll.reads I sm ha its rv
  exact ⟨_, Reads.tuple ho hc hd hr, hm⟩
 | _, _, .dic h hk, _, r => by
  cases r
  obtain ⟨z, hs, vs, rel, dd⟩ := dk_of I.hok h
  obtain ⟨bs, hr, hm⟩ := DqKs.reads I sm hk vs rel
  refine ⟨_, reads_dictOf (enc := kP) (fun k key hk => ?_) dd hr, ?_⟩
  ·rcases keyIs_shape (show keyIs k key = true from hk) with ⟨i, t, rfl, rfl⟩ | ⟨x, t, rfl, rfl⟩
   ·exact Reads.int i t
   ·exact Reads.str x t
  ·simp only [List.mem_cons, not_or]
   exact ⟨fun e => by rw [<- e] at hs; simp at hs, hm⟩
theorem DqAll.reads (I : Inv X pins σ H s) (sm : H sysModules = none) : ∀ {vs : List V} {ds : List PyData}, DqAll X.K H vs ds -> ∀ us : List Value, Vals vs us -> ∃ as, ReadsAll s.heap us ds as /\ sysModules ∉ as
 | _, _, .nil, _, r => by cases r; exact ⟨_, ReadsAll.nil, by simp⟩
 | _, _, .cons h1 h2, _, r => by
  cases r with
  | cons r1 r2 =>
   obtain ⟨as, q1, m1⟩ := Dq.reads I sm h1 _ r1
   obtain ⟨bs, q2, m2⟩ := DqAll.reads I sm h2 _ r2
   exact ⟨_, ReadsAll.cons q1 q2, by simp [m1, m2]⟩
theorem DqKs.reads (I : Inv X pins σ H s) (sm : H sysModules = none) : ∀ {ps : List (Key × V)} {ks : List (PyData × PyData)}, DqKs X.K H ps ks -> ∀ us : List (Key × Value), KV ps us -> ∃ as, PairsRead s.heap kP us ks as /\ sysModules ∉ as
 | _, _, .nil, _, r => by cases r; exact ⟨_, PairsRead.nil, by simp⟩
 | _, _, .cons h1 h2, _, r => by
  cases r with
  | @cons p q _ _ r1 r2 =>
   obtain ⟨k, u⟩ := q
   obtain ⟨rfl, r1⟩ := r1
   obtain ⟨as, q1, m1⟩ := Dq.reads I sm h1 _ r1
   obtain ⟨bs, q2, m2⟩ := DqKs.reads I sm h2 _ r2
   exact ⟨_, PairsRead.cons q1 q2, by simp [m1, m2]⟩
end
end
def keyQ {β : Type} (f : D -> Option β) : List (Key × D) -> Option (List (PyData × β))
 | [] => some []
 | (k, d) :: r => match f d, keyQ f r with
  | some b, some bs => some ((kP k, b) :: bs)
  | _, _ => none
def toQ (st : Sto) : Nat -> D -> Option PyData
 | _, .non => some .none
 | _, .bl b => some (.bool b)
 | _, .int i => some (.int i)
 | _, .str x => some (.str x)
 | n + 1, .tup ds => match allO (toQ st n) ds with | some ps => some (.tuple ps) | none => none
 | n + 1, .obj k => match st[k]? with
  | some (.lst ds) => (match allO (toQ st n) ds with | some ps => some (.list ps) | none => none)
  | some (.dic kvs) => (match keyQ (toQ st n) kvs with | some ps => some (.dict ps) | none => none)
  | _ => none
 | _, _ => none
section
end
end Mi
namespace Mi
open PySem PySem.Spec PyProof.Rows L2
def keyD : Key -> D
 | .inl i => .int i
 | .inr x => .str x
def itemsL (kvs : List (Key × D)) : List D := kvs.map fun p => .tup [keyD p.1, p.2]
def itemsO (o : Option (List (Key × D))) (st : Sto) : R D := match o with | some kvs => new (.lst (itemsL kvs)) st | none => .stuck
def itemsD : D -> Sto -> R D
 | .obj n, st => itemsO (dicO st[n]?) st
 | _, _ => .stuck
@[simp] theorem Zyn {n : Nat} {st : Sto} : itemsD (.obj n) st = itemsO (dicO st[n]?) st := rfl
@[simp] theorem ZsS {kvs : List (Key × D)} {st : Sto} : itemsO (some kvs) st = .ok (.obj st.length) (st ++ [.lst (itemsL kvs)]) := rfl
def pairOf : D -> Option (Key × D)
 | .tup [k, d] => (match keyOf k with | some k => some (k, d) | none => none)
 | _ => none
def dictO (o : Option (List D)) (st : Sto) : R D := match o with
 | some ds => (match allO pairOf ds with | some kvs => new (.dic (mergeL [] kvs)) st | none => .stuck)
 | none => .stuck
def dictB : List D -> Sto -> R D
 | [.obj n], st => dictO (lstOf (.obj n) st) st
 | _, _ => .stuck
section
end
@[simp] theorem Zzj {n : Nat} {st : Sto} : dictB [.obj n] st = dictO (lstOf (.obj n) st) st := rfl
end Mi
namespace Mi
open PySem PySem.Spec PyProof.Rows L2
section
end
def zipMx (a b : D) (st : Sto) : R (List D × Wat) := match a, b with
 | .obj n, .tup ys => (match seqOf st n with | some xs => if xs.length = ys.length then .ok (pairs xs ys, [(n, xs)]) st else .stuck | none => .stuck)
 | _, _ => .stuck
def zmR (ds : List D) (st : Sto) : R (List D × Wat) := match ds with
 | [a, b] => zipMx a b st
 | _ => .stuck
def iZipM (G : DA) : DIt := fun env st => (G env st).bind zmR
def fZm (r : R (List D)) : R (List D × Wat) := r.bind zmR
@[simp] theorem ZyW {G : DA} {env : Env} {st : Sto} : iZipM G env st = fZm (G env st) := rfl
def zmO (n : Nat) (ys : List D) (o : Option (List D)) (st : Sto) : R (List D × Wat) := match o with | some xs => if xs.length = ys.length then .ok (pairs xs ys, [(n, xs)]) st else .stuck | none => .stuck
@[simp] theorem ZCS {ys : List D} {n : Nat} {st : Sto} : fZm (.ok [.obj n, .tup ys] st) = zmO n ys (seqOf st n) st := rfl
@[simp] theorem ZwS {ys xs : List D} {n : Nat} {st : Sto} : zmO n ys (some xs) st = if xs.length = ys.length then .ok (pairs xs ys, [(n, xs)]) st else .stuck := rfl
section
end
def eStuck : DE := fun _ _ => .stuck
def sStuck : DS := fun _ _ => .stuck
section
end
@[simp] theorem Zwl {env : Env} {st : Sto} : eStuck env st = .stuck := rfl
@[simp] theorem Zuh {env : Env} {st : Sto} : sStuck env st = .stuck := rfl
end Mi
namespace Mi
open PySem PySem.Spec PyProof.Rows L2
abbrev ZipO (h : Heap) (z A B : Addr) (f e : Value) : Prop := h.get? z = some { cls := .type "zip", dict := none, data := .fields #[f, e, .bool false, .ref A, .ref B], slots := #[] }
section
variable {prog : Program} {w : World} {A : Around} {E : Value -> Shared -> Prop} {s : Shared}
/-- how far the zip is: what was given out stands in as -/
structure Zg (z P R i j l m lo : Addr) (xs ys : Array Value) (k : Nat) (as : List Addr) (h : Heap) : Prop where
 zip : (k = 0 /\ IsZip h z P R .none) \/ ∃ (T : Addr) (f1 : Bool), as[0]? = some T /\ ZipO h z P R (rawInt T) (.bool f1)
 cP : IsPair h P (.ref i) (.ref j)
 cR : ∃ a b, IsPair h R a b
 c1 : h.IsListIter i l k
 c2 : h.IsListIter j m k
 cl : h.IsList l xs
 cm : h.IsList m ys
 len : as.length = k
 rise : as.Pairwise (· < ·)
 above : ∀ a ∈ as, lo < a
 fit : ∀ (q : Nat) (a : Addr), as[q]? = some a -> ∃ x y, xs[q]? = some x /\ ys[q]? = some y /\ IsPair h a x y
variable {z P R i j l m lo : Addr} {xs ys : Array Value}
theorem Zg.there {k : Nat} {as : List Addr} {h : Heap} (g : Zg z P R i j l m lo xs ys k as h) {a : Addr} (ha : a ∈ as) : a < h.objs.size := by
 obtain ⟨q, hq⟩ := List.mem_iff_getElem?.mp ha
 obtain ⟨_, _, _, _, e⟩ := g.fit q a hq
 exact Heap.lt_size e
/-- the list under way stands apart -/
structure Ap (z P R i j l m S : Addr) : Prop where
 z : z < S
 P : P < S
 R : R < S
 i : i < S
 j : j < S
 l : l < S
 m : m < S
theorem Ap.ne {S : Addr} (a : Ap z P R i j l m S) : S ≠ z /\ S ≠ P /\ S ≠ R /\ S ≠ i /\ S ≠ j /\ S ≠ l /\ S ≠ m /\ S <= S := ⟨Nat.ne_of_gt a.z, Nat.ne_of_gt a.P, Nat.ne_of_gt a.R, Nat.ne_of_gt a.i, Nat.ne_of_gt a.j, Nat.ne_of_gt a.l, Nat.ne_of_gt a.m, Nat.le_refl _⟩
end
section
end
section
end
end Mi
namespace Mi
open PySem PySem.Spec PyProof.Rows L2
section
variable {X : Cx} {pins : List (Addr × Obj)} {σ : L2.St} {H : Hp} {a : Addr} {cls : Value} {d : Option Addr} {s : Shared}
/-- an exception of the body has come down, at s -/
def Cau (X : Cx) (pins : List (Addr × Obj)) (σ : L2.St) (H : Hp) (a : Addr) (cls : Value) (d : Option Addr) (s : Shared) : Prop :=
 ∃ (B : Heap) (sI : Shared), Inv X pins σ H sI /\ (∀ b o, sI.heap.get? b = some o -> b ∉ frs X.stack -> B.get? b = some o) /\ sI.heap.UpToSlots s.heap /\
  HandSPX.FlyingZ B (X.env :: X.outer) a (Zc cls d) s.heap /\ H a = none /\ s.os = sI.os /\ AllBare s.gens
theorem Cau.na (c : Cau X pins σ H a cls d s) : H a = none := by
 obtain ⟨B, sI, J, nb, up, fl, na, os, ag⟩ := c
 exact na
theorem Cau.push (c : Cau X pins σ H a cls d s) (o : Obj) : Cau X pins σ H a cls d { s with heap := s.heap.push o } := by
 obtain ⟨B, sI, J, nb, up, fl, na, os, ag⟩ := c
 have kp : ∀ b x, s.heap.get? b = some x -> (s.heap.push o).get? b = some x := fun b x e => Heap.get?_push_of_some _ e
 obtain ⟨f1, f2, f3, oe, vs, T, oT, ts, e1, e2, e3, e4, e5, e6, e7, e8, e9⟩ := fl
 exact ⟨B, sI, J, nb, up.trans (Heap.UpToSlots.of_keeps kp), ⟨fun b x e => kp b x (f1 b x e), f2, Heap.FunFrames.of_keeps (fun b x e _ => ⟨x, kp b x e, rfl⟩) f3, oe, vs, T, oT, ts, kp _ _ e1, e2, e3, e4, e5, e6, kp _ _ e7, e8, e9⟩, na, os, ag⟩
theorem Cau.there (c : Cau X pins σ H a cls d s) : ∃ oe vs, s.heap.get? a = some oe /\ Zc cls d oe /\ oe.data = .fields vs := by
 obtain ⟨B, sI, J, nb, up, fl, na, os, ag⟩ := c
 exact fl.there
/-- what the clauses do with it -/
def HR (X : Cx) (hds : List ExceptHandler) (w : Ends -> WX) : Prop := ∀ (pins : List (Addr × Obj)) (σ : L2.St) (H : Hp) (D : Ends) (a : Addr) (cls : Value) (d : Option Addr) (s : Shared), Cau X pins σ H a cls d s -> w D cls d σ H ->
 wpAny (model X.prog X.w) X.A (handleBy (.ref a) X.env hds) (SP X pins D) X.xe s
/-- the test of a clause: its value, and what it says of the exception -/
def TT (X : Cx) (e : Expr) (cs : List Value) : Prop := ∀ (pins : List (Addr × Obj)) (σ : L2.St) (H : Hp) (a : Addr) (cls : Value) (d : Option Addr) (s : Shared) (b : Bool) (Q : Value -> Shared -> Prop) (E : Value -> Shared -> Prop), Cau X pins σ H a cls d s -> PySem.W.exmAny X.K cls cs = some b ->
 (∀ c s', Cau X pins σ H a cls d s' -> PySem.W.Looks (model X.prog X.w) s'.heap (excMatches (.ref a) c) b -> Q c s') -> wpAny (model X.prog X.w) (X.A.mark (some (.ref a))) (eval e X.env) Q E s
theorem Cau.type (k : Cau X pins σ H a cls d s) : PySem.W.Looks (model X.prog X.w) s.heap (typeOf (.ref a)) cls := by
 obtain ⟨oe, vs, he, hz, hd⟩ := k.there
 exact fun A Q E s k q => wpAny_typeOf_ref (k _ _ he) (by rw [hz.1]; exact q)
end
end Mi
namespace Mi
open PySem PySem.Spec PyProof.Rows L2
abbrev Act := Nat -> List (Str × D) -> DS
/-- a clause: which classes it takes, what it does -/
abbrev Cls' := (Nat -> Option Bool) × Act
def hnds : List Cls' -> Act
 | [], c, fs, env, st => .exc c fs env st
 | (sel, act) :: r, c, fs, env, st => match sel c with | some true => act c fs env st | some false => hnds r c fs env st | none => .stuck
def tryR (l : List Cls') : RS -> RS
 | .exc c fs env st => hnds l c fs env st
 | r => r
def sTry (F : DS) (l : List Cls') : DS := fun env st => tryR l (F env st)
/-- no exception leaves a suite -/
def noXS : RS -> RS
 | .exc _ _ _ _ => .stuck
 | r => r
def aSuite (F : DS) : Act := fun _ _ env st => noXS (F env st)
section
variable {g : Gd} {X : Cx} {W W' : WX} {α : List Addr} {H : Hp}
theorem HR.imp {hds : List ExceptHandler} {w w' : Ends -> WX} (h : HR X hds w) (k : ∀ D c d σ H, w' D c d σ H -> w D c d σ H) : HR X hds w' := fun pins σ H D a cls d s c q => h pins σ H D a cls d s c (k _ _ _ _ _ q)
end
@[simp] theorem ZBG {F : DS} {l : List Cls'} {env : Env} {st : Sto} : sTry F l env st = tryR l (F env st) := rfl
@[simp] theorem ZAC {l : List Cls'} {env : Env} {st : Sto} : tryR l (.nx env st) = .nx env st := rfl
@[simp] theorem ZyN {l : List Cls'} {d : D} {st : Sto} : tryR l (.rt d st) = .rt d st := rfl
@[simp] theorem Zws {l : List Cls'} {c : Nat} {fs : List (Str × D)} {env : Env} {st : Sto} : tryR l (.exc c fs env st) = hnds l c fs env st := rfl
@[simp] theorem ZxM {c : Nat} {fs : List (Str × D)} {env : Env} {st : Sto} : hnds [] c fs env st = .exc c fs env st := rfl
def hndO (o : Option Bool) (x y : RS) : RS := match o with | some true => x | some false => y | none => .stuck
@[simp] theorem ZB9 {x y : RS} : hndO (some true) x y = x := rfl
@[simp] theorem ZCp {x y : RS} : hndO (some false) x y = y := rfl
@[simp] theorem ZvL {sel : Nat -> Option Bool} {act : Act} {r : List Cls'} {c : Nat} {fs : List (Str × D)} {env : Env} {st : Sto} : hnds ((sel, act) :: r) c fs env st = hndO (sel c) (act c fs env st) (hnds r c fs env st) := rfl
@[simp] theorem Zw5 {F : DS} {c : Nat} {fs : List (Str × D)} {env : Env} {st : Sto} : aSuite F c fs env st = noXS (F env st) := rfl
@[simp] theorem ZBk {env : Env} {st : Sto} : noXS (.nx env st) = .nx env st := rfl
@[simp] theorem Zyr {d : D} {st : Sto} : noXS (.rt d st) = .rt d st := rfl
end Mi
namespace Mi
open PySem PySem.Spec PyProof.Rows L2
section
variable {g : Gd} {X : Cx} {W W' : WX}
theorem Zd {K : PySem.W.Frag} {C D : Addr} {b : Bool} {cd : ClassData} (xs : PySem.W.subIn K (.ref D) (.type "BaseException") = some true) (xt : PySem.W.typeIn K (.ref D) = some (.type "type")) (xc : PySem.W.clsIn K D = some cd) (su : PySem.W.subIn K (.ref C) (.ref D) = some b) : PySem.W.exmOne K (.ref C) (.ref D) = some b := by
 unfold PySem.W.exmOne PySem.W.kitCls
 rw [xs]
 dsimp only
 rw [xt, xc]
 simp [su]
theorem Ze {K : PySem.W.Frag} {v : Value} : PySem.W.exmAny K v [] = some false := rfl
theorem Zb {K : PySem.W.Frag} {v c : Value} {r : List Value} {b d : Bool} (h : PySem.W.exmOne K v c = some b) (k : PySem.W.exmAny K v r = some d) : PySem.W.exmAny K v (c :: r) = some (b || d) := by
 rw [PySem.W.exmAny, h, k]
end
end Mi
namespace Mi
open PySem PySem.Spec PyProof.Rows L2
section
variable {prog : Program} {w : World} {A : Around} {E : Value -> Shared -> Prop} {s : Shared}
theorem ZuD (m : Addr) (ys : Array Value) : Meets (Builtin.«enumerate.__new__» ⟨[.type "enumerate", .ref m], []⟩) (fun _ R s => s.heap.IsTuple m ys /\
  R (.ok (.ret (.ref (s.heap.push { cls := .type "tuple_iterator", data := .fields #[.ref m, .int 0 0] }).objs.size)))
   { s with heap := (s.heap.push { cls := .type "tuple_iterator", data := .fields #[.ref m, .int 0 0] }).push { cls := .type "enumerate", data := .fields #[.none, .bool false, .ref s.heap.objs.size, rawInt 0, .none, .none] } }) :=
 .of_wp fun prog w A R s h => by
  obtain ⟨hp, g, d, tk, os⟩ := s
  obtain ⟨h1, h⟩ := h
  have sub := sub_enumerate
  have q1 : Heap.IsTuple (Shared.heap ⟨hp, g, d, tk, os⟩) m ys := h1
  wp_walk using wpAny_pyIter_tuple q1
  refine wpAny_stack_any fun st => wpAny_pure ?_
  split
  ·rename_i c _ _ _ _ _
   cases (c == Value.type "enumerate")
   ·wp_walk using wpAny_pyIter_tuple q1
    exact ⟨_, rfl, h⟩
   ·wp_walk using wpAny_pyIter_tuple q1
    exact ⟨_, rfl, h⟩
  ·wp_walk using wpAny_pyIter_tuple q1
   exact ⟨_, rfl, h⟩
theorem Ztt {m : Addr} {ys : Array Value} {Q : Value -> Shared -> Prop} (hL : s.heap.IsTuple m ys)
  (h : ∀ h', IsEnum h' (s.heap.objs.size + 1) s.heap.objs.size 0 .none -> h'.IsTupleIter s.heap.objs.size m 0 -> (∀ b o, s.heap.get? b = some o -> h'.get? b = some o) -> Q (.ref (s.heap.objs.size + 1)) { s with heap := h' }) :
  wpAny (model prog w) A (call (.type "enumerate") [.ref m]) Q E s := by
 refine callType_new PySem.F.called_enumerate (by decide) (PySem.F.typeCall_enumerate_1 _) (PySem.F.newCall_enumerate_1 _) (fun obj => PySem.F.args_object_init_2 obj _) PySem.F.entry_enumerate_new (ZuD m ys) ⟨hL, ?_⟩
 have hz : (s.heap.push { cls := .type "tuple_iterator", data := .fields #[.ref m, .int 0 0] }).objs.size = s.heap.objs.size + 1 := Heap.size_push ..
 show _ /\ _
 rw [hz]
 have he : IsEnum ((s.heap.push { cls := .type "tuple_iterator", data := .fields #[.ref m, .int 0 0] }).push
   { cls := .type "enumerate", data := .fields #[.none, .bool false, .ref s.heap.objs.size, rawInt 0, .none, .none] }) (s.heap.objs.size + 1) s.heap.objs.size 0 .none := by
  have := Heap.get?_push_size (s.heap.push { cls := .type "tuple_iterator", data := .fields #[.ref m, .int 0 0] })
   (o := { cls := .type "enumerate", data := .fields #[.none, .bool false, .ref s.heap.objs.size, rawInt 0, .none, .none] }) rfl
  rw [hz] at this; exact this
 exact ⟨⟨_, he, rfl⟩, h _ he ⟨_, Heap.get?_push_of_some _ (Heap.get?_push_size _ rfl), rfl, rfl⟩ fun b o x => Heap.get?_push_of_some _ (Heap.get?_push_of_some _ x)⟩
end
def ItE (K : PySem.W.Frag) (m : Addr) : It :=
 ⟨fun i H => ∃ (vs : List V) (v : V), SqT K H m vs /\ vs[i]? = some v, fun i H r H' => ∃ T v, r = .ref T /\ H T = none /\ H' = upd H T (.tup [.int (i : Nat), v]) /\ ∀ vs, SqT K H m vs -> vs[i]? = some v, fun i H => ∃ vs : List V, SqT K H m vs /\ vs.length <= i⟩
theorem ZsY {P : Program} {w : World} {K : PySem.W.Frag} {elts : List Expr} {n : Nat} {tp : Pos} (m e it : Addr) (hm : m ≠ it) (hm2 : m ≠ e) :
  Turn P w K (.Tuple elts n tp) (ItE K m) [e, it] e (fun i h => (∃ old, IsEnum h e it ((i : Nat) : Int) old) /\ h.IsTupleIter it m i /\ e ≠ it) where
 mem := by simp
 obj := fun i h st b hb => by
  obtain ⟨⟨old, he⟩, ⟨o, ho, hc, hd⟩, _⟩ := st
  have e' : b = e \/ b = it := by simpa using hb
  rcases e' with z | z
  ·rw [z]; exact ⟨_, he, fun v q => nomatch q⟩
  ·rw [z]; exact ⟨o, ho, fun v q => by rw [hd] at q; cases q⟩
 keep := fun i h h' st k => let ⟨⟨old, he⟩, hi, hne⟩ := st; ⟨⟨old, k e (by simp) _ he⟩, hi.at fun o q => k it (by simp) o q, hne⟩
 item := by
  intro X hP hw hK hc i pins s σ H E I hf st hg
  subst hP hw hK
  obtain ⟨⟨old, he⟩, hit, hne⟩ := st
  obtain ⟨vs, v, g1, ev⟩ := hg
  obtain ⟨its, rv, p1, _⟩ := I.tuple g1
  obtain ⟨u, eu, ru⟩ := rv.get ev
  have hel : e < s.heap.objs.size := Heap.lt_size he
  have hil : it < s.heap.objs.size := by obtain ⟨_, q, _⟩ := hit; exact Heap.lt_size q
  have hmf : m ∉ [e, it] := by simp [hm, hm2]
  have D := Draws.tuple (prog := X.prog) (w := X.w) (A := X.A.in1) (by have := I.ok.hd hc; exact this) it m hm its.toArray
  refine wpAny_pyNext_enum_itemD (fp := [it, m]) D he ⟨hit, p1⟩ (by have := (List.getElem?_eq_some_iff.mp eu).1; simpa using this) hne (by simp [hne, Ne.symm hm2]) fun x h' tk hx ho hs' hT hsz hk => ?_
  have hx : x = u := by
   have : its[i]? = some x := by simpa using hx
   rw [eu] at this
   cases this
   rfl
  subst hx
  refine ⟨_, rfl, wpAny_letOwnedTupleGo_enum (s := { s with heap := h', toks := tk + 1 }) ho fun h'' he' sb => ?_⟩
  have hT2 : h''.get? s.heap.objs.size = some { cls := .type "tuple", data := .seq #[.int i tk, x] } := (sb.2 _ (Nat.ne_of_gt hel)).trans hT
  have new : ObjOk X.prog X.w (upd H s.heap.objs.size (.tup [.int (i : Nat), v])) h'' s.heap.objs.size (.tup [.int (i : Nat), v]) :=
   ⟨by show 2 <= sizeLine; decide, [.int i tk, x], .cons ⟨_, rfl⟩ (.cons ru .nil), ⟨_, hT2, rfl, _, rfl⟩⟩
  have I1 : Inv X pins σ (upd H s.heap.objs.size (.tup [.int (i : Nat), v])) { s with heap := h'', toks := tk + 1 } :=
   I.turnedNew (ch := [e, it]) (fun b ob hb q => (sb.2 b (fun z => hb (by simp [z]))).trans (hk b ob (fun z => hb (by simp [z])) (fun z => hb (by simp [z])) q)) hf (Nat.le_refl _) new
  refine ⟨.ref s.heap.objs.size, _, I1, rfl, ⟨_, v, rfl, I.hok.fresh (Nat.le_refl _), rfl, fun l hl => by rw [I.tuple_inj hl g1]; exact ev⟩, ⟨⟨x, ?_⟩, hs'.1.at fun o q => (sb.2 it (Ne.symm hne)).trans q, hne⟩, fun b hb => ?_⟩
  ·have e1 : ((i + 1 : Nat) : Int) = (i : Int) + 1 := by omega
   rw [e1]; exact he'
  ·have hb' : b < s.heap.objs.size := by
    have e' : b = e \/ b = it := by simpa using hb
    rcases e' with z | z
    ·rw [z]; exact hel
    ·rw [z]; exact hil
   rw [upd_ne (Nat.ne_of_lt hb')]
   exact (hf b hb).1
 done := by
  intro X hP hw hK hc i pins s σ H E I hf st hg
  subst hP hw hK
  obtain ⟨⟨old, he⟩, hit, hne⟩ := st
  obtain ⟨vs, g1, e1⟩ := hg
  obtain ⟨its, rv, p1, _⟩ := I.tuple g1
  obtain ⟨f0, f1, f2, f3, f4, f5⟩ := hf it (by simp)
  have hl := rv.length
  have hti : its.toArray[i]? = none := by simp; omega
  have ty : s.TypeIs (.ref e) "enumerate" := ⟨_, he, rfl⟩
  unfold pyNext
  refine wpAny_bind (wpAny_attempt (wpAny_callSpecial?_slot (name := Str.ofString "__next__") ty PySem.F.slot_enumerate_next (wpAny_call_entry PySem.F.slot_enumerate_next ty PySem.F.entry_enumerate_next ?_ (PySem.F.args_enumerate_next_1 _))))
  show wpAny _ _ (field (.ref e) 2 >>= _) _ _ _
  refine wpAny_bind (wpAny_field he rfl (x := .ref it) rfl ?_)
  refine wpAny_bind (wpAny_nextOf_tuple_end (I.ok.hd hc) hit p1 hti fun h' x eb hx' => ?_)
  obtain ⟨o, ho, hcc⟩ := hx'
  refine wpAny_bind (wpAny_isInstance (T := "StopIteration") (b := true) ⟨o, ho, hcc⟩ isSubtype_stop ?_)
  exact wpAny_pure ⟨rfl, I.turned (t' := s.toks) (fun b o hb q => eb b o hb q) f0 f1 f3 f4 f5⟩
 self := fun A i s Q E st h => let ⟨⟨_, he⟩, _⟩ := st; wpAny_pyIter_enum he h
def iEnB (K : PySem.W.Frag) (ta : TA) : TI := fun σ H R => ta σ H fun vs H1 => ∃ a xs, vs = [.ref a] /\ ((SqL K H1 a xs /\ R (Ite K a) H1) \/ (SqT K H1 a xs /\ R (ItE K a) H1))
theorem ZtY {X : Cx} {e : Expr} {ta : TA} {p pos tpos : Pos} {elts : List Expr} {kk : Nat} (hg : L2.Gl X "enumerate") (hm : X.mg "enumerate" = none) (ha : PA X [e] ta) (hs : starEach [e] X.env = [(false, eval e X.env)] := by rfl) :
  PI X (.Tuple elts kk tpos) (.Call (.Name "enumerate" p) [e] [] pos) (iEnB X.K ta) := by
 refine ⟨fun pins s σ H R I h => ?_⟩
 refine Call_ (ld_blt I hg hm boot_enumerate (PyProof.Rows.callWith_type1 (thn (ha.run pos pins s σ H _ I h) fun us s1 ⟨vs, H1, I1, r1, q1⟩ => ?_) hs rfl))
 obtain ⟨a, xs, ex, q⟩ := q1
 subst ex
 cases r1 with
 | cons r rr =>
  cases rr
  cases r
  have fin : ∀ b ∈ [s1.heap.objs.size + 1, s1.heap.objs.size], s1.heap.objs.size <= b := fun b hb => by
   have e' : b = s1.heap.objs.size + 1 \/ b = s1.heap.objs.size := by simpa using hb
   rcases e' with z | z
   ·rw [z]; exact Nat.le_add_right _ _
   ·rw [z]; exact Nat.le_refl _
  rcases q with ⟨hq, q⟩ | ⟨hq, q⟩
  ·obtain ⟨its, rv, p', hz⟩ := I1.list hq
   refine call_enumerate_list p'.isList fun h' he hit hsz hk => wpAny_pyIter_enum he ?_
   have I2 : Inv X pins σ H1 { s1 with heap := h' } := I1.kept (t' := s1.toks) hk
   exact ⟨s1.heap.objs.size + 1, [s1.heap.objs.size + 1, s1.heap.objs.size], _, _, H1, rfl, I2, turn_enum a (s1.heap.objs.size + 1) s1.heap.objs.size, ⟨⟨.none, he⟩, hit, Nat.succ_ne_self _⟩, fun b hb => I1.fpOk (fin b hb) (I1.hok.fresh (fin b hb)), q⟩
  ·obtain ⟨its, rv, p', _⟩ := I1.tuple hq
   obtain ⟨o1, ho1, _⟩ := id p'
   have la : a < s1.heap.objs.size := Heap.lt_size ho1
   refine Ztt p' fun h' he hit hk => wpAny_pyIter_enum he ?_
   have I2 : Inv X pins σ H1 { s1 with heap := h' } := I1.kept (t' := s1.toks) hk
   exact ⟨s1.heap.objs.size + 1, [s1.heap.objs.size + 1, s1.heap.objs.size], _, _, H1, rfl, I2, ZsY a (s1.heap.objs.size + 1) s1.heap.objs.size (Nat.ne_of_lt la) (Nat.ne_of_lt (Nat.lt_succ_of_lt la)), ⟨⟨.none, he⟩, hit, Nat.succ_ne_self _⟩, fun b hb => I1.fpOk (fin b hb) (I1.hok.fresh (fin b hb)), q⟩
def enumA (d : D) (st : Sto) : R (List D × Wat) := match d with
 | .obj n => (match seqOf st n with | some ds => .ok (numb ds, [(n, ds)]) st | none => .stuck)
 | .tup ds => .ok (numb ds, []) st
 | _ => .stuck
def iEnumA (F : DE) : DIt := fun env st => (F env st).bind enumA
def fEnA (r : R D) : R (List D × Wat) := r.bind enumA
@[simp] theorem ZxA {F : DE} {env : Env} {st : Sto} : iEnumA F env st = fEnA (F env st) := rfl
@[simp] theorem Zxm {n : Nat} {st : Sto} : fEnA (.ok (.obj n) st) = enumS (.obj n) st := rfl
@[simp] theorem Zxn {ds : List D} {st : Sto} : fEnA (.ok (.tup ds) st) = .ok (numb ds, []) st := rfl
section
variable {g : Gd} {X : Cx} {W : WX} {α0 : List Addr} {H0 : Hp}
theorem Zjt {ds : List D} : (numb ds).length = ds.length := by simp [numb]
theorem ZA9 {b : Addr} {us : List V} {ys : List D} (h1 : SqT g.K H0 b us) (r : RDs g α0 H0 ys us) : ItR g (ItE g.K b) (numb ys) [] α0 H0 where
 go := fun i α H st x s ok hi => by
  rw [Zjt, r.length] at hi
  exact ⟨us, us[i]'hi, x.sqt h1, List.getElem?_eq_getElem _⟩
 yl := fun i α H st v H' x s ok ⟨T, y, e1, hT, e2, hy⟩ d hd => by
  subst e1 e2
  obtain ⟨z, hz, rfl⟩ := Zjo hd
  obtain ⟨u, q1, h3⟩ := r.get hz
  have k1 := hy us (x.sqt h1)
  rw [q1] at k1
  cases k1
  exact Zkq s hT (.cons rfl (.cons (h3.mono x) .nil))
 stop := fun i α H st x s ok hi => by
  rw [Zjt] at hi
  exact ⟨us, x.sqt h1, by rw [<- r.length]; omega⟩
theorem ZkM (c : Ck g X W) {e : Expr} {F : DE} {p pos tpos : Pos} {elts : List Expr} {kk : Nat} (h : OE g X W e F) (hm : g.mg "enumerate" = none) (hg : L2.Gl X "enumerate" := by rfl) (hs : starEach [e] X.env = [(false, eval e X.env)] := by rfl) :
  OI g X W (.Tuple elts kk tpos) (.Call (.Name "enumerate" p) [e] [] pos) (iEnumA F) := by
 refine ⟨fun pins s σ H S I ⟨α, env, st, hE, hS, p⟩ => ?_⟩
 refine (ZtY hg (by rw [c.hmg]; exact hm) (pa_cons h pa_nil (by rw [hs]; rfl)) hs).run pins s σ H S I (tE.run hE hS (p.bind.imp fun d st1 α1 H1 x1 s1 q v r => ?_))
 unfold enumA at q
 split at q
 ·rename_i n
  split at q
  ·rename_i ds e'
   obtain ⟨a, vs, rfl, ha, h1, r1⟩ := s1.seq r e'
   rw [c.hK]
   exact ⟨a, vs, rfl, .inl ⟨h1, q α1 H1 (Ext.refl _ _) s1 _ (Ztn ha)⟩⟩
  ·exact q.elim
 ·rename_i ds
  obtain ⟨a, vs, rfl, h1, r1⟩ := r
  rw [c.hK]
  exact ⟨a, vs, rfl, .inr ⟨h1, q α1 H1 (Ext.refl _ _) s1 _ (ZA9 h1 r1)⟩⟩
 ·exact q.elim
end
end Mi
namespace Mi
open PySem PySem.Spec PyProof.Rows L2
def isX : D -> D -> Sto -> R D
 | .bl a, .bl b, st => .ok (.bl (decide (a = b))) st
 | a, b, st => isD a b st
def isNotX : D -> D -> Sto -> R D
 | .bl a, .bl b, st => .ok (.bl (!decide (a = b))) st
 | a, b, st => isNotD a b st
@[simp] theorem ZCv {a b : Bool} {st : Sto} : isX (.bl a) (.bl b) st = .ok (.bl (decide (a = b))) st := rfl
@[simp] theorem Zt4 {a b : Bool} {st : Sto} : isNotX (.bl a) (.bl b) st = .ok (.bl (!decide (a = b))) st := rfl
@[simp] theorem ZAk {a : D} {st : Sto} : isX a .non st = isD a .non st := by cases a <;> rfl
@[simp] theorem ZtG {a : D} {st : Sto} : isNotX a .non st = isNotD a .non st := by cases a <;> rfl
section
end
end Mi
namespace Mi
open PySem PySem.Spec PyProof.Rows L2
def slot (env : Env) (j : Nat) : Option D := match env[j]? with
 | some od => od
 | none => none
def layOf (cs : List (Nat × Nat)) (env : Env) : Lay := cs.map fun c => (c.1, slot env c.2)
def unR {β : Type} (ps : List Nat) : R β -> R β
 | .ok d st => match unstl ps st with
  | some st1 => .ok d st1
  | none => .stuck
 | .exc c fs st => match unstl ps st with
  | some st1 => .exc c fs st1
  | none => .stuck
 | .stuck => .stuck
/-- the cells cs (place, slot) of the frame stand in the store while the callee runs -/
def callC (cs : List (Nat × Nat)) (φ : List D -> Sto -> R D) (env : Env) (ds : List D) (st : Sto) : R D := match stl (layOf cs env) st with
 | some st1 => unR (cs.map (·.1)) (φ ds st1)
 | none => .stuck
structure CsOk (g : Gd) (X : Cx) (cs : List (Nat × Nat)) : Prop where
 ex : ∀ p j, (p, j) ∈ cs -> ∃ y c, X.N[j]? = some y /\ (X.env.scope.names.lookup y = some .cell \/ X.env.scope.names.lookup y = some .free) /\ X.env.cells.lookup y = some c /\ g.pc p = some c /\ c ∉ X.fs /\ X.base.get? c = none
 nd : (cs.map (·.1)).Nodup
 nj : (cs.map (·.2)).Nodup
def adrs (g : Gd) (cs : List (Nat × Nat)) : List Addr := cs.map fun c => (g.pc c.1).getD 0
section
variable {g : Gd} {X : Cx} {W : WX} {cs : List (Nat × Nat)} {pins : List (Addr × Obj)} {σ : L2.St} {α : List Addr} {env : Env} {H : Hp} {s : Shared}
theorem CsOk.cell (k : CsOk g X cs) (I : L2.Inv X pins σ H s) (hE : ∀ (j : Nat) (d : D), slot env j = some d -> ∃ v, σ[j]? = some (some v) /\ RD g α H d v) : ∀ (i : Nat) (l : Nat × Option D) (c : Addr), (layOf cs env)[i]? = some l -> (adrs g cs)[i]? = some c -> CellOk g α H s.heap (frs X.stack) l.1 l.2 c := fun i l c e1 e2 => by
 unfold layOf at e1
 unfold adrs at e2
 rw [List.getElem?_map] at e1 e2
 cases q : cs[i]? with
 | none => rw [q] at e1; cases e1
 | some pj =>
  obtain ⟨p, j⟩ := pj
  rw [q] at e1 e2
  obtain ⟨y, c', a1, kd, a2, a3, nf, hb⟩ := k.ex p j (List.mem_of_getElem? q)
  cases e1
  dsimp only [Option.map_some] at e2
  rw [a3] at e2
  cases e2
  obtain ⟨v0, o0, ho, hd⟩ := I.cell y c' a2
  have cne := I.cne y c' a2
  refine ⟨a3, I.freeC y c' a2, fun z => ?_, o0, v0, ho, hd, fun d hdd => ?_⟩
  ·rcases List.mem_cons.mp (I.stkSub c' z) with z | z
   ·exact cne z
   ·exact nf z
  ·obtain ⟨v, sv, rv⟩ := hE j d hdd
   obtain ⟨m, hn, hl⟩ := I.loc
   obtain ⟨u, ru, lk⟩ := hl j y v a1 sv (kd.elim (fun z => .inr (.inl z)) fun z => .inr (.inr z))
   refine ⟨v, u, ?_, ru, rv⟩
   rcases lk with ⟨z, _⟩ | ⟨_, c2, hc2, o2, ho2, hd2⟩
   ·have z' : X.env.scope.names.lookup y = some .local := z
    rcases kd with kd | kd <;> rw [kd] at z' <;> cases z'
   ·rw [a2] at hc2
    cases hc2
    rw [ho] at ho2
    cases ho2
    rw [hd] at hd2
    cases hd2
    rfl
end
end Mi
namespace Mi
open PySem PySem.Spec PyProof.Rows L2
inductive SR2 where
 | nx (env : Env) (st : Sto)
 | rt (d : D) (oe : Option Env) (st : Sto)
 | exc (c : Nat) (fs : List (Str × D)) (env : Env) (st : Sto)
 | stuck
abbrev DS2 := Env -> Sto -> SR2
structure EndsR where
 nx : L2.St -> Hp -> Prop
 rt : V -> L2.St -> Hp -> Prop
def PostR (g : Gd) (W : WX) (α : List Addr) (H : Hp) (r : SR2) (E : EndsR) : Prop := match r with
 | .nx env st => ∀ α' H' σ', Ext α H α' H' -> StR g α' st H' -> EnvR g α' H' env σ' -> E.nx σ' H'
 | .rt d oe st => ∀ α' H' v σ', Ext α H α' H' -> StR g α' st H' -> RD g α' H' d v -> (∀ env, oe = some env -> EnvR g α' H' env σ') -> E.rt v σ' H'
 | .exc c fs env st => ∀ α' H' cls dx σ', Ext α H α' H' -> StR g α' st H' -> EnvR g α' H' env σ' -> XR g α' H' c fs cls dx -> W cls dx σ' H'
 | .stuck => False
def bindR {β : Type} (r : R β) (env : Env) (k : β -> Sto -> SR2) : SR2 := match r with
 | .ok b st => k b st
 | .exc c fs st => .exc c fs env st
 | .stuck => .stuck
@[simp] theorem ZwF {β : Type} (b : β) (st : Sto) (env : Env) (k : β -> Sto -> SR2) : bindR (R.ok b st) env k = k b st := rfl
@[simp] theorem ZsJ {β : Type} (env : Env) (k : β -> Sto -> SR2) : bindR (R.stuck : R β) env k = .stuck := rfl
@[simp] theorem Zv3 {β : Type} (c fs st) (env : Env) (k : β -> Sto -> SR2) : bindR (R.exc c fs st : R β) env k = .exc c fs env st := rfl
section
variable {g : Gd} {W : WX} {α α' : List Addr} {H H' : Hp} {E E' : EndsR} {r : SR2} {env : Env} {σ : L2.St}
theorem PostR.mono (e : Ext α H α' H') (h : PostR g W α H r E) : PostR g W α' H' r E := by
 cases r with
 | nx env st => exact fun α2 H2 σ2 f => h α2 H2 σ2 (e.trans f)
 | rt d oe st => exact fun α2 H2 v σ2 f => h α2 H2 v σ2 (e.trans f)
 | exc c fs env st => exact fun α2 H2 cls dx σ2 f => h α2 H2 cls dx σ2 (e.trans f)
 | stuck => exact h
theorem PostR.bind {β : Type} {q : R β} {k : β -> Sto -> SR2} (hE : EnvR g α H env σ) (h : PostR g W α H (bindR q env k) E) :
  Post g W σ α H q (fun b st α' H' => PostR g W α' H' (k b st) E) := by
 cases q with
 | ok b st => exact fun α' H' e s => PostR.mono e h
 | exc c fs st => exact fun α' H' cls dx e s x => h α' H' cls dx σ e s (hE.mono e) x
 | stuck => exact h
end
def rNil : DS2 := fun env st => .nx env st
def rRet (F : DE) : DS2 := fun env st => bindR (F env st) env fun d st1 => .rt d (some env) st1
/-- a statement whose own returns tell nothing of the names -/
def rSeq (S : DS) (K : DS2) : DS2 := fun env st => match S env st with
 | .nx env1 st1 => K env1 st1
 | .rt d st1 => .rt d none st1
 | .exc c fs env1 st1 => .exc c fs env1 st1
 | _ => .stuck
def rThen (A K : DS2) : DS2 := fun env st => match A env st with
 | .nx env1 st1 => K env1 st1
 | r => r
def rIf (c : DT) (A B K : DS2) : DS2 := fun env st => bindR (c env st) env fun b st1 => rThen (if b = true then A else B) K env st1
section
end
end Mi
namespace Mi
open PySem PySem.Spec PyProof.Rows L2
theorem GU.mono {P : Program} {w : World} {fs fs' : List Addr} {h h2 : Heap} {U : Hp -> Hp -> Prop} (k : GU P w fs' h h2 U) (hs : ∀ b ∈ fs', b ∈ fs) : GU P w fs h h2 U :=
 ⟨fun u a b c d => k.call u a b c fun z => d (hs _ z), fun u a b c => k.clo u a b fun z => c (hs _ z), k.new, k.frz, k.tbl⟩
/-- the cells' places from p0 on, their slots -/
def csAt (p0 : Nat) : List Nat -> List (Nat × Nat)
 | [] => []
 | j :: r => (p0, j) :: csAt (p0 + 1) r
section
end
end Mi
namespace Mi
open PySem PySem.Spec PyProof.Rows L2
def relay : Lay -> Sto -> Option Sto
 | [], st => some st
 | l :: L, st => match relay L st with
  | some st1 => match st1[l.1]? with
   | some Ob.pnd => some (st1.set l.1 (.cel l.2))
   | _ => none
  | none => none
theorem Tr.trans {g g1 g2 : Gd} {α α1 α2 : List Addr} {H H1 H2 : Hp} (t1 : Tr g α H g1 α1 H1) (t2 : Tr g1 α1 H1 g2 α2 H2) : Tr g α H g2 α2 H2 :=
 ⟨t2.hK.trans t1.hK, t2.hfa.trans t1.hfa, t2.hca.trans t1.hca, t2.hnk.trans t1.hnk, t2.hfr.trans t1.hfr, t2.htb.trans t1.htb, fun _ _ q => t2.tup _ _ (t1.tup _ _ q), fun _ _ _ q => t2.ftup _ _ _ (t1.ftup _ _ _ q), fun _ _ _ q => t2.flst _ _ _ (t1.flst _ _ _ q), fun _ _ q => t2.xd _ _ (t1.xd _ _ q),
  fun n b q z => let ⟨y1, y2⟩ := t1.at_ n b q z; t2.at_ n b y1 y2, fun q b z => t2.pc _ _ (t1.pc _ _ z), fun c' q z n => let ⟨y1, y2⟩ := t1.code c' q z n; t2.code c' q y1 y2⟩
end Mi
namespace Mi
open PySem PySem.Spec PyProof.Rows L2 NdefX
/-- what the closures of the nested def kk promise: the places of their cells, the arguments -/
def NG (g : Gd) (k kk np : Nat) (φ : List Nat -> List D -> Sto -> R D) : Prop :=
 ∀ (A : Around) (fr : List PySem.Env) (s : Shared) (H : Hp) (a : Addr) (us : List Value) (vs : List V) (Q : VK) (E : XK) (α : List Addr) (st : Sto) (m : Nat) (ps : List Nat) (ds : List D), Room k A -> A.guards = some [] -> Env0 g.P g.w g.K g.mg g.base A fr s H ->
  StR g α st H -> α[m]? = some a -> st[m]? = some (.clo kk ps) -> Vals vs us -> RDs g α H ds vs -> ds.length = np -> Post g (fun cls d _ H' => E cls d H') [] α H (φ ps ds st) (fun d _ α' H' => ∀ v, RD g α' H' d v -> Q v H') ->
  codeAny (model g.P g.w) A (.call (.ref a) ⟨us, []⟩) (CR (L2.CX g.P g.w) fr g.P g.w H s Q E) s
section
end
end Mi
namespace Mi
open PySem PySem.Spec PyProof.Rows L2
section
end
section
end
section
end
end Mi
namespace Mi
open PySem PySem.Spec PyProof.Rows L2
def mkClo (n kk : Nat) (ps : List Nat) (st : Sto) : R D := match st[n]? with
 | some (Ob.tbl j) => if j = n then .ok (.obj st.length) (st ++ [.clo kk ps]) else .stuck
 | _ => .stuck
def eLam (n kk : Nat) (ps : List Nat) : DE := fun _ st => mkClo n kk ps st
def sDef (n kk : Nat) (ps : List Nat) (i : Nat) : DS := fun env st => match mkClo n kk ps st with
 | .ok d st1 => .nx (env.set i (some d)) st1
 | _ => .stuck
section
end
end Mi
namespace Mi
open PySem PySem.Spec PyProof.Rows L2 NdefX
section
end
end Mi
namespace Mi
open PySem PySem.Spec PyProof.Rows L2
section
variable {g : Gd} {X : Cx} {W : WX} {cs : List (Nat × Nat)} {pins : List (Addr × Obj)} {σ : L2.St} {α : List Addr} {env : Env} {H : Hp} {s : Shared}
theorem Zkb (φ : List D -> Sto -> R D) (env : Env) (ds : List D) (st : Sto) : callC [] φ env ds st = φ ds st := by
 show unR [] (φ ds st) = φ ds st
 cases φ ds st <;> rfl
theorem CsOk.nil : CsOk g X [] := ⟨fun _ _ h => absurd h List.not_mem_nil, List.nodup_nil, List.nodup_nil⟩
def callM (okn : Nat -> Bool) (Ψ : Nat -> List Nat -> List D -> Sto -> R D) (m : Nat) (ds : List D) (st : Sto) : R D := match st[m]? with
 | some (Ob.clo kk ps) => if okn kk = true then Ψ kk ps ds st else .stuck
 | _ => .stuck
def eCallO (ok okn : Nat -> Bool) (cs : List (Nat × Nat)) (i : Nat) (Φ : Fam) (Ψ : Nat -> List Nat -> List D -> Sto -> R D) (G : DA) : DE := fun env st => match env[i]? with
 | some (some (.fn j)) => if ok j = true then (G env st).bind fun ds st1 => callC cs (Φ j) env ds st1 else .stuck
 | some (some (.obj m)) => match st[m]? with
  | some (Ob.clo _ _) => (G env st).bind fun ds st1 => match st1[m]? with
   | some (Ob.clo _ _) => callC cs (callM okn Ψ m) env ds st1
   | _ => .stuck
  | _ => .stuck
 | _ => .stuck
variable {k np i : Nat} {ok okn : Nat -> Bool} {Φ : Fam} {Ψ : Nat -> List Nat -> List D -> Sto -> R D} {pos : Pos}
end
end Mi
namespace Mi
open PySem PySem.Spec PyProof.Rows L2
def eCallO0 (ok okn : Nat -> Bool) (cs : List (Nat × Nat)) (i : Nat) (Φ : Fam) (Ψ : Nat -> List Nat -> List D -> Sto -> R D) : DE := fun env st => match env[i]? with
 | some (some (.fn j)) => if ok j = true then callC cs (Φ j) env [] st else .stuck
 | some (some (.obj m)) => match st[m]? with
  | some (Ob.clo _ _) => callC cs (callM okn Ψ m) env [] st
  | _ => .stuck
 | _ => .stuck
def eCallC (cs : List (Nat × Nat)) (φ : List D -> Sto -> R D) (G : DA) : DE := fun env st => (G env st).bind fun ds st1 => callC cs φ env ds st1
section
end
end Mi
namespace Mi
open PySem PySem.Spec PyProof.Rows L2
theorem Zk2 {g : Gd} {tbs : List Addr} {ct : List (Addr × Addr)} {mb : Str -> Option Value} {k : Nat} {fa a : Addr} {fd : FuncData} {x : Str} {φ : List D -> Sto -> R D} {s1 : Shared} {vs : List Value} {ns : List Int}
  (kin : g.K.In s1.heap) (hns : s1.heap.Ns mainGlobals g.mg) (hb : s1.heap.Ns builtinsNs mb) (hbb : ∀ y : Str, y ≠ "__name__" -> mb y = bootBuiltins y) (lim : s1.heap.NoLimit) (hs : ∃ o es ep, s1.heap.get? sysModules = some o /\ o.data = .dict es ep) (hg : s1.gens = #[])
  (ha : s1.heap.get? a = some { cls := .type "list", data := .seq vs.toArray }) (hi : IntsAre vs ns) (hl : ns.length <= sizeLine) (hr : Room k callerA) (hpc : ∀ q, g.pc q = none) (htb : ∀ (j : Nat) (P : Addr), tbs[j]? = some P -> ∃ nm, g.tb j = some (P, nm)) (hnd : tbs.Nodup) (htt : ∀ P ∈ tbs, s1.heap.get? P = some { cls := .none, data := .fields #[] }) (htbs : tbs = ct.map (·.2)) (hcd : ∀ p ∈ ct, PySem.W.CodeHd s1.heap p.1 p.2) (hgp : ∀ P ∈ tbs, mainGlobals ≠ P)
  (hbm : ∃ (bm : Addr) (ob : Obj), g.mg "__builtins__" = some (.ref bm) /\ bm ≠ builtinsNs /\ s1.heap.get? bm = some ob /\ ob.cls = .type "module" /\ ob.dict = some builtinsNs /\ ob.data = .plain) (hkt : ∀ P ∈ tbs, g.K.lookup P = none)
  (F : ∀ b : Heap, g.K.In b -> b.Ns mainGlobals g.mg -> (∃ o, b.get? sysModules = some o) -> (∀ p ∈ ct, LamX.TabB b g.mg p.1 p.2) -> FG { g with base := b } k fa fd [x] (spD { g with base := b } 1 φ)) (bind : Binds g.K fd [x] [])
  (yes : ∃ st, φ [.kl (ns.map .int)] ((List.range tbs.length).map Ob.tbl) = .ok (.bl true) st) :
  codeAny (model g.P g.w) callerA (.call (.ref fa) ⟨[.ref a], []⟩) (fun r s' => r = .ok (.ret (.bool true)) /\ OldK s1.heap s'.heap /\ s'.os = s1.os /\ AllBare s'.gens) s1 := by
 have vi := vals_ints hi
 have vl := hi.length
 have na : a ∉ tbs := fun z => by
  have := htt a z
  rw [ha] at this
  cases this
 have main : ∀ H : Hp, L2.Only H -> KL g.K H a (ns.map V.int) -> HOk g.P g.w H s1.heap -> (∀ b, H b ≠ none -> b = a /\ g.K.lookup a = none) ->
   codeAny (model g.P g.w) callerA (.call (.ref fa) ⟨[.ref a], []⟩) (fun r s' => r = .ok (.ret (.bool true)) /\ OldK s1.heap s'.heap /\ s'.os = s1.os /\ AllBare s'.gens) s1 := by
  intro H0 only0 kl0 hok0 far0
  obtain ⟨H, hH⟩ : ∃ H : Hp, H = fun b => if b ∈ tbs then some (.tbl #[]) else H0 b := ⟨_, rfl⟩
  have hin : ∀ {b : Addr}, b ∈ tbs -> H b = some (.tbl #[]) := fun {b} z => by rw [hH]; exact if_pos z
  have hout : ∀ {b : Addr}, b ∉ tbs -> H b = H0 b := fun {b} z => by rw [hH]; exact if_neg z
  have h0n : ∀ {b : Addr}, b ∈ tbs -> H0 b = none := fun {b} z => by
   cases q : H0 b with
   | none => rfl
   | some u =>
    obtain ⟨rfl, _⟩ := far0 b (by rw [q]; exact fun z => nomatch z)
    exact absurd z na
  have up : ∀ {b : Addr} {u : HO}, H0 b = some u -> H b = some u := fun {b u} q => by
   rw [hout (fun z => by rw [h0n z] at q; cases q)]
   exact q
  have kl : KL g.K H a (ns.map V.int) := kl0.imp (fun ⟨o, q⟩ => ⟨o, up q⟩) id
  have hok : HOk g.P g.w H s1.heap := fun b u q => by
   by_cases z : b ∈ tbs
   ·rw [hin z] at q
    cases q
    exact htt b z
   ·rw [hout z] at q
    exact (hok0 b u q).stay (fun _ _ _ e => e) (fun _ e => up e) fun _ _ e => up e
  have far : ∀ b, H b ≠ none -> (b = a /\ g.K.lookup a = none) \/ b ∈ tbs := fun b q => by
   by_cases z : b ∈ tbs
   ·exact .inr z
   ·rw [hout z] at q
    exact .inl (far0 b q)
  have free : ∀ {b : Addr} {o : Obj} {es : Array DictEntry} {ep : Nat}, s1.heap.get? b = some o -> o.data = .dict es ep -> H b = none := by
   intro b o es ep e d
   cases q : H b with
   | none => rfl
   | some u =>
    rcases far b (by rw [q]; exact fun z => nomatch z) with ⟨rfl, _⟩ | z
    ·rw [ha] at e
     cases e
     cases (show Data.seq vs.toArray _ = Data.dict es ep from d)
    ·rw [htt b z] at e
     cases e
     cases (show Data.fields #[] = Data.dict es ep from d)
  have stay : ∀ {b : Addr} {o : Obj}, s1.heap.get? b = some o -> (∀ us n, o.data ≠ .seq us n) -> o.data ≠ .fields #[] -> H b = none := by
   intro b o e d1 d2
   cases q : H b with
   | none => rfl
   | some u =>
    rcases far b (by rw [q]; exact fun z => nomatch z) with ⟨rfl, _⟩ | z
    ·rw [ha] at e
     cases e
     exact absurd rfl (d1 _ _)
    ·rw [htt b z] at e
     cases e
     exact absurd rfl d2
  have TB : ∀ p ∈ ct, LamX.TabB (hidT s1.heap H) g.mg p.1 p.2 := fun p hp => by
   have hP : p.2 ∈ tbs := by rw [htbs]; exact List.mem_map_of_mem hp
   refine ⟨?_, ?_, hgp p.2 hP⟩
   ·obtain ⟨o, us, file, tf, flags, tg, inF, text, tt, e1, r1, r2, r3, rest⟩ := hcd p hp
    refine ⟨o, us, file, tf, flags, tg, inF, text, tt, hidT_get e1 (stay e1 (fun us n z => ?_) fun z => ?_), r1, r2, r3, rest⟩
    ·rw [r2] at z
     cases z
    ·rw [r2] at z
     cases z
     simp at r3
   ·obtain ⟨bm, ob, b1, b2, b3, b4, b5, b6⟩ := hbm
    refine ⟨bm, ob, b1, b2, fun q => ?_, fun q => ?_, hidT_get b3 (stay b3 (fun us n z => ?_) fun z => ?_), b4, b5, b6⟩
    ·obtain ⟨o, es, ep, e, hd, _⟩ := hns
     rw [q, e] at b3
     cases b3
     rw [hd] at b6
     cases b6
    ·rw [q, htt p.2 hP] at b3
     cases b3
     cases b6
    ·rw [b6] at z
     cases z
    ·rw [b6] at z
     cases z
  have ns' : ∀ {b : Addr} {m : Str -> Option Value}, s1.heap.Ns b m -> (hidT s1.heap H).Ns b m := fun {b m} ⟨o, es, ep, e, d, r⟩ => ⟨o, es, ep, hidT_get e (free e d), d, r⟩
  have kb : g.K.In (hidT s1.heap H) := by
   intro b o e
   refine hidT_get (kin b o e) ?_
   cases q : H b with
   | none => rfl
   | some u =>
    rcases far b (by rw [q]; exact fun z => nomatch z) with ⟨rfl, z⟩ | z
    ·rw [z] at e
     cases e
    ·rw [hkt b z] at e
     cases e
  have md : Mod g.K g.mg (hidT s1.heap H) := ⟨kb, ns' hns, ⟨mb, ns' hb, hbb⟩, let ⟨mc, h1, h2⟩ := lim; ⟨mc, ns' h1, h2⟩⟩
  have e0 : Env0 g.P g.w g.K g.mg (hidT s1.heap H) callerA [] s1 H :=
   ⟨rfl, md, fun b o e => of_hidT e, Nat.le_of_eq (hidT_size _ _), trivial, fun b z => absurd (show b ∈ ([] : List Addr) from z) List.not_mem_nil, hok, .of_eq hg⟩
  obtain ⟨st1, hy⟩ := yes
  have rd : ∀ g' : Gd, g'.K = g.K -> RDs g' tbs H [.kl (ns.map .int)] [.ref a] := fun g' e => by
   exact ⟨_, _, rfl, ⟨a, ns.map V.int, rfl, by rw [e]; exact kl, Zkl ns⟩, rfl⟩
  have sp : spD { g with base := hidT s1.heap H } 1 φ [.ref a] H (fun v _ => v = .bl true) fun _ _ _ => False :=
   ⟨tbs, (List.range tbs.length).map Ob.tbl, _, ⟨by simp, fun m n b e1 e2 => .inl ((List.getElem?_inj (List.getElem?_eq_some_iff.mp e1).1 hnd).mp (e1.trans e2.symm)), fun q c z => (by rw [show g.pc q = none from hpc q] at z; cases z), fun n b o e1 e2 => by
    rw [List.getElem?_map] at e2
    have ln := (List.getElem?_eq_some_iff.mp e1).1
    rw [List.getElem?_range ln] at e2
    cases e2
    obtain ⟨nm, hnm⟩ := htb n b e1
    exact ⟨nm, #[], hnm, hin (List.mem_of_getElem? e1), True.intro, fun pos cv hc => by
     have z : codeAmong pos [] = some cv := hc
     simp [codeAmong] at z⟩⟩, rd _ rfl, rfl, by rw [hy]; exact fun α' H' e s v r => r⟩
  refine codeAny_mono ((F _ kb (ns' hns) (let ⟨o, es, ep, e, d⟩ := hs; ⟨o, hidT_get e (free e d)⟩) TB).run callerA [] s1 H ⟨[.ref a], []⟩ [.ref a] [.ref a] _ _ hr rfl e0 (bind s1 [.ref a] kin rfl) (.cons rfl .nil) sp) fun r s' h => ?_
  match r, h with
  | .error e, h => obtain ⟨_, _, _, _, _, _, _, _, _, _, _, _, z⟩ := h; exact z.elim
  | .ok .next, h => exact False.elim h
  | .ok .brk, h => exact False.elim h
  | .ok .cont, h => exact False.elim h
  | .ok (.ret u), h =>
   obtain ⟨v, H', os, bare, un, hok', r', q⟩ := h
   obtain rfl : v = .bl true := q
   obtain rfl : u = Value.bool true := r'
   refine ⟨rfl, ⟨fun b o e => ?_, fun b o e => un.there b o e List.not_mem_nil⟩, os, bare⟩
   by_cases zt : b ∈ tbs
   ·obtain ⟨p, hp, ep⟩ := List.mem_map.mp (htbs ▸ zt)
    have tA := PySem.W.CodeHd.tab (hcd p hp) (by rw [ep]; exact htt b zt)
    rw [ep] at tA
    have e3 := tA.2
    rw [e] at e3
    cases e3
    obtain ⟨more, q⟩ := un.tbls b #[] (hin zt)
    exact .inr (.inl ⟨tA.isCodeTable, rfl, #[], more, rfl, hok' b _ q⟩)
   refine .inl ?_
   cases q : H b with
   | none => exact un.keep b o e q (fun z => absurd (show b ∈ ([] : List Addr) from z) List.not_mem_nil) List.not_mem_nil
   | some u =>
    rw [hout zt] at q
    rcases only0 b with z | ⟨ob, xs, z⟩
    ·rw [q] at z
     cases z
    ·obtain ⟨e1, _⟩ := hok0 b _ z
     obtain ⟨e2, _⟩ := hok' b _ (un.frzs b ob _ (up z))
     rw [e] at e1
     cases e1
     exact e2
 cases hk : g.K.lookup a with
 | some o =>
  have e := kin a o hk
  rw [ha] at e
  cases e
  exact main (fun _ => none) (fun _ => .inl rfl) (.inr (.inr ⟨_, vs.toArray, _, hk, rfl, rfl, rfl, by rw [List.size_toArray, vl]; exact hl, by simpa using vi⟩)) (fun b u z => nomatch (show (none : Option HO) = some u from z)) fun b z => absurd rfl z
 | none =>
  refine main (fun b => if b = a then some (.frz { cls := .type "list", data := .seq vs.toArray } (.lst (ns.map V.int))) else none) (fun b => ?_) (.inl ⟨{ cls := .type "list", data := .seq vs.toArray }, if_pos rfl⟩) (fun b u z => ?_) fun b z => ?_
  ·by_cases e : b = a
   ·exact .inr ⟨_, _, if_pos e⟩
   ·exact .inl (if_neg e)
  ·by_cases e : b = a
   ·subst e
    cases (if_pos rfl).symm.trans z
    exact ⟨ha, by rw [List.length_map]; exact hl, vs, _, vi, ha⟩
   ·cases (if_neg e).symm.trans z
  ·by_cases e : b = a
   ·exact ⟨e, hk⟩
   ·exact absurd (if_neg e) z
end Mi
namespace Mi
open PySem PySem.Spec PyProof.Rows L2
end Mi
namespace Mi
open PySem PySem.Spec PyProof.Rows L2
theorem NG.mono {g : Gd} {j k kk np : Nat} {φ : List Nat -> List D -> Sto -> R D} (h : NG g j kk np φ) (hl : j <= k) : NG g k kk np φ := fun A fr s H a us vs Q E α st m ps ds hr => h A fr s H a us vs Q E α st m ps ds (hr.mono hl)
end Mi
namespace Mi
open PySem PySem.Spec PyProof.Rows L2
section
variable {g : Gd} {α : List Addr} {H : Hp} {pc : Nat -> Option Addr}
mutual
theorem RD.at : ∀ {d : D} {v : V}, RD g α H d v -> RD (g.at pc) α H d v
 | .non, v, h => by simpa [RD] using h
 | .bl b, v, h => by simpa [RD] using h
 | .int i, v, h => by simpa [RD] using h
 | .str x, v, h => by simpa [RD] using h
 | .tup ds, v, h => by
  rw [RD] at h ⊢
  obtain ⟨a, vs, rfl, h1, h2⟩ := h
  exact ⟨a, vs, rfl, h1, RDs.at h2⟩
 | .obj n, v, h => by rw [RD] at h ⊢; exact h
 | .fn n, v, h => by rw [RD] at h ⊢; exact h
 | .ty n, v, h => by simpa [RD] using h
 | .kl ds, v, h => by
  rw [RD] at h ⊢
  obtain ⟨a, vs, rfl, h1, h2⟩ := h
  exact ⟨a, vs, rfl, h1, RDs.at h2⟩
 | .ev ds, v, h => by rw [RD] at h; exact h.elim
theorem RDs.at : ∀ {ds : List D} {vs : List V}, RDs g α H ds vs -> RDs (g.at pc) α H ds vs
 | [], vs, h => by simpa [RDs] using h
 | d :: ds, vs, h => by
  rw [RDs] at h ⊢
  obtain ⟨v, r, rfl, h1, h2⟩ := h
  exact ⟨v, r, rfl, RD.at h1, RDs.at h2⟩
end
theorem RDs.off {ds : List D} {vs : List V} (h : RDs (g.at pc) α H ds vs) : RDs g α H ds vs := RDs.at (g := g.at pc) (pc := g.pc) h
theorem KBd.at {fd : FuncData} {ps : List Str} {n : Nat} {ks : List Str} {gD : List D -> List D -> List D} (h : KBd g fd ps n ks gD) : KBd (g.at pc) fd ps n ks gD :=
 let ⟨⟨gU, gV, h1, h2⟩⟩ := h
 ⟨⟨gU, gV, h1, fun α H ds es vs zs r1 r2 => (h2 α H ds es vs zs r1.off r2.off).at⟩⟩
theorem KVd.at {u : Value} {d : D} (h : KVd g u d) : KVd (g.at pc) u d := let ⟨v, h1, h2⟩ := h; ⟨v, h1, fun α H => (h2 α H).at⟩
end
theorem KEs.at {g : Gd} {pc : Nat -> Option Addr} : ∀ {es : List DictEntry} {kvs : List (Str × D)}, KEs g es kvs -> KEs (g.at pc) es kvs
 | [], _, h => h
 | _ :: _, _, h => let ⟨x, d, r, h1, h2, h3, ⟨v, h4, h5⟩, h6⟩ := h; ⟨x, d, r, h1, h2, h3, ⟨v, h4, fun α H => (h5 α H).at⟩, KEs.at h6⟩
theorem KDic.at {g : Gd} {pc : Nat -> Option Addr} {a : Addr} {kvs : List (Str × D)} (h : KDic g a kvs) : KDic (g.at pc) a kvs :=
 let ⟨⟨es, n, h1, h2⟩, h3, h4, h5⟩ := h
 ⟨⟨es, n, h1, h2.at⟩, h3, h4, h5⟩
theorem Zz7 {h : Heap} {mg : Str -> Option Value} {P : Addr} (hbm : ∃ (bm : Addr) (ob : Obj), mg "__builtins__" = some (.ref bm) /\ bm ≠ builtinsNs /\ h.get? bm = some ob /\ ob.cls = .type "module" /\ ob.dict = some builtinsNs /\ ob.data = .plain) (hns : h.Ns mainGlobals mg)
  (ht : h.get? P = some { cls := .none, data := .fields #[] }) : h.BuiltinsAt mg P := by
 obtain ⟨bm, ob, b1, b2, b3, b4, b5, b6⟩ := hbm
 refine ⟨bm, ob, b1, b2, fun q => ?_, fun q => ?_, b3, b4, b5, b6⟩
 ·obtain ⟨o, es, ep, e, hd, _⟩ := hns
  rw [q, e] at b3
  cases b3
  rw [hd] at b6
  cases b6
 ·rw [q, ht] at b3
  cases b3
  cases b6
end Mi
namespace Mi
open PySem PySem.Spec PyProof.Rows L2
section
end
end Mi
namespace Mi
open PySem L2
@[simp] theorem Ztx {φ : List D -> Sto -> R D} {env : Env} {ds : List D} {st : Sto} : callC [] φ env ds st = φ ds st := Zkb φ env ds st
def slO : Option (Option D) -> Option D
 | some od => od
 | none => none
@[simp] theorem Zw1 {od : Option D} : slO (some od) = od := rfl
@[simp] theorem ZwN : slO none = none := rfl
@[simp] theorem Ztp {env : Env} {j : Nat} : slot env j = slO env[j]? := by unfold slot slO; rfl
@[simp] theorem Zwy {p : Nat} : csAt p [] = [] := rfl
@[simp] theorem Zwn {p j : Nat} {r : List Nat} : csAt p (j :: r) = (p, j) :: csAt (p + 1) r := rfl
@[simp] theorem Zv4 {env : Env} : layOf [] env = [] := rfl
@[simp] theorem Ztw {p j : Nat} {cs : List (Nat × Nat)} {env : Env} : layOf ((p, j) :: cs) env = (p, slO env[j]?) :: layOf cs env := by
 show (p, slot env j) :: layOf cs env = _
 rw [Ztp]
def stlO (o : Option Ob) (p : Nat) (od : Option D) (L : Lay) (st : Sto) : Option Sto := match o with
 | some .pnd => stl L (st.set p (.cel od))
 | _ => none
@[simp] theorem ZBt {p : Nat} {od : Option D} {L : Lay} {st : Sto} : stlO (some .pnd) p od L st = stl L (st.set p (.cel od)) := rfl
@[simp] theorem Zza {st : Sto} : stl [] st = some st := rfl
@[simp] theorem Zyh {p : Nat} {od : Option D} {L : Lay} {st : Sto} : stl ((p, od) :: L) st = stlO st[p]? p od L st := rfl
def unsO (p : Nat) : Option Sto -> Option Sto
 | some st1 => match st1[p]? with
  | some (.cel _) => some (st1.set p .pnd)
  | _ => none
 | none => none
def unsP (p : Nat) (st1 : Sto) : Option Ob -> Option Sto
 | some (.cel _) => some (st1.set p .pnd)
 | _ => none
@[simp] theorem ZCB {p : Nat} {st1 : Sto} {od : Option D} : unsP p st1 (some (.cel od)) = some (st1.set p .pnd) := rfl
@[simp] theorem ZCs {p : Nat} {st1 : Sto} : unsO p (some st1) = unsP p st1 st1[p]? := rfl
@[simp] theorem Zv6 {st : Sto} : unstl [] st = some st := rfl
@[simp] theorem ZtD {p : Nat} {L : List Nat} {st : Sto} : unstl (p :: L) st = unsO p (unstl L st) := rfl
def unD {β : Type} (d : β) : Option Sto -> R β
 | some st => .ok d st
 | none => .stuck
def unX {β : Type} (c : Nat) (fs : List (Str × D)) : Option Sto -> R β
 | some st => .exc c fs st
 | none => .stuck
@[simp] theorem ZDg {β : Type} {d : β} {st : Sto} : unD d (some st) = .ok d st := rfl
@[simp] theorem ZC2 {β : Type} {c : Nat} {fs : List (Str × D)} {st : Sto} : (unX c fs (some st) : R β) = .exc c fs st := rfl
@[simp] theorem ZBC {β : Type} {ps : List Nat} {d : β} {st : Sto} : unR ps (.ok d st) = unD d (unstl ps st) := by
 cases h : unstl ps st <;> simp [unR, unD, h]
@[simp] theorem Zzt {β : Type} {ps : List Nat} {c : Nat} {fs : List (Str × D)} {st : Sto} : (unR ps (.exc c fs st) : R β) = unX c fs (unstl ps st) := by
 cases h : unstl ps st <;> simp [unR, unX, h]
def callS (cs : List (Nat × Nat)) (φ : List D -> Sto -> R D) (ds : List D) : Option Sto -> R D
 | some st1 => unR (cs.map (·.1)) (φ ds st1)
 | none => .stuck
@[simp] theorem Zz6 {cs : List (Nat × Nat)} {φ : List D -> Sto -> R D} {ds : List D} {st : Sto} : callS cs φ ds (some st) = unR (cs.map (·.1)) (φ ds st) := rfl
@[simp] theorem ZtC {c : Nat × Nat} {cs : List (Nat × Nat)} {φ : List D -> Sto -> R D} {env : Env} {ds : List D} {st : Sto} : callC (c :: cs) φ env ds st = callS (c :: cs) φ ds (stl (layOf (c :: cs) env) st) := by
 unfold callC callS; cases stl (layOf (c :: cs) env) st <;> rfl
/-- the call of a closure of the store -/
def cloS (okn : Nat -> Bool) (Ψ : Nat -> List Nat -> List D -> Sto -> R D) (ds : List D) (st : Sto) : Option Ob -> R D
 | some (.clo kk ps) => if okn kk = true then Ψ kk ps ds st else .stuck
 | _ => .stuck
@[simp] theorem ZBl {okn : Nat -> Bool} {Ψ : Nat -> List Nat -> List D -> Sto -> R D} {ds : List D} {st : Sto} {kk : Nat} {ps : List Nat} : cloS okn Ψ ds st (some (.clo kk ps)) = if okn kk = true then Ψ kk ps ds st else .stuck := rfl
@[simp] theorem ZxJ {okn : Nat -> Bool} {Ψ : Nat -> List Nat -> List D -> Sto -> R D} {m : Nat} {ds : List D} {st : Sto} : callM okn Ψ m ds st = cloS okn Ψ ds st st[m]? := by
 unfold callM cloS; rfl
def isClo : Option Ob -> Bool
 | some (.clo _ _) => true
 | _ => false
@[simp] theorem Zzd {kk : Nat} {ps : List Nat} : isClo (some (.clo kk ps)) = true := rfl
def coF (ok : Nat -> Bool) (cs : List (Nat × Nat)) (Φ : Fam) (j : Nat) (env : Env) (r : R (List D)) : R D := if ok j = true then r.bind fun ds st1 => callC cs (Φ j) env ds st1 else .stuck
@[simp] theorem ZBO {ok : Nat -> Bool} {cs : List (Nat × Nat)} {Φ : Fam} {j : Nat} {env : Env} {ds : List D} {st : Sto} : coF ok cs Φ j env (.ok ds st) = if ok j = true then callC cs (Φ j) env ds st else .stuck := rfl
def coM2 (okn : Nat -> Bool) (cs : List (Nat × Nat)) (Ψ : Nat -> List Nat -> List D -> Sto -> R D) (m : Nat) (env : Env) (ds : List D) (st1 : Sto) : R D := if isClo st1[m]? = true then callC cs (callM okn Ψ m) env ds st1 else .stuck
def coM (okn : Nat -> Bool) (cs : List (Nat × Nat)) (Ψ : Nat -> List Nat -> List D -> Sto -> R D) (m : Nat) (env : Env) (b : Bool) (r : R (List D)) : R D := if b = true then r.bind fun ds st1 => coM2 okn cs Ψ m env ds st1 else .stuck
@[simp] theorem ZBZ {okn : Nat -> Bool} {cs : List (Nat × Nat)} {Ψ : Nat -> List Nat -> List D -> Sto -> R D} {m : Nat} {env : Env} {ds : List D} {st : Sto} : coM okn cs Ψ m env true (.ok ds st) = if isClo st[m]? = true then callC cs (callM okn Ψ m) env ds st else .stuck := rfl
@[simp] theorem ZCr {okn : Nat -> Bool} {cs : List (Nat × Nat)} {Ψ : Nat -> List Nat -> List D -> Sto -> R D} {m : Nat} {env : Env} {b : Bool} : coM okn cs Ψ m env b .stuck = .stuck := by unfold coM; split <;> rfl
def coV (ok okn : Nat -> Bool) (cs : List (Nat × Nat)) (Φ : Fam) (Ψ : Nat -> List Nat -> List D -> Sto -> R D) (G : DA) (env : Env) (st : Sto) : Option (Option D) -> R D
 | some (some (.fn j)) => coF ok cs Φ j env (G env st)
 | some (some (.obj m)) => coM okn cs Ψ m env (isClo st[m]?) (G env st)
 | _ => .stuck
@[simp] theorem ZCt {ok okn : Nat -> Bool} {cs : List (Nat × Nat)} {Φ : Fam} {Ψ : Nat -> List Nat -> List D -> Sto -> R D} {G : DA} {env : Env} {st : Sto} {j : Nat} : coV ok okn cs Φ Ψ G env st (some (some (.fn j))) = coF ok cs Φ j env (G env st) := rfl
@[simp] theorem ZAu {ok okn : Nat -> Bool} {cs : List (Nat × Nat)} {Φ : Fam} {Ψ : Nat -> List Nat -> List D -> Sto -> R D} {G : DA} {env : Env} {st : Sto} {m : Nat} : coV ok okn cs Φ Ψ G env st (some (some (.obj m))) = coM okn cs Ψ m env (isClo st[m]?) (G env st) := rfl
theorem Zs8 {okn : Nat -> Bool} {cs : List (Nat × Nat)} {Ψ : Nat -> List Nat -> List D -> Sto -> R D} {m : Nat} {env : Env} {ds : List D} {st : Sto} : (match st[m]? with | some (Ob.clo _ _) => callC cs (callM okn Ψ m) env ds st | _ => .stuck) = if isClo st[m]? = true then callC cs (callM okn Ψ m) env ds st else .stuck := by
 cases h : st[m]? with
 | none => rfl
 | some o => cases o <;> rfl
@[simp] theorem Zyi {ok okn : Nat -> Bool} {cs : List (Nat × Nat)} {i : Nat} {Φ : Fam} {Ψ : Nat -> List Nat -> List D -> Sto -> R D} {G : DA} {env : Env} {st : Sto} : eCallO ok okn cs i Φ Ψ G env st = coV ok okn cs Φ Ψ G env st env[i]? := by
 unfold eCallO coV coF coM coM2
 cases h : env[i]? with
 | none => rfl
 | some od =>
  cases od with
  | none => rfl
  | some d =>
   cases d <;> try rfl
   rename_i m
   dsimp only
   cases h2 : st[m]? with
   | none => rfl
   | some o =>
    cases o <;> try rfl
    show (G env st).bind _ = _
    simp only [isClo]
    congr 1
    funext ds st1
    exact Zs8
def coV0 (ok okn : Nat -> Bool) (cs : List (Nat × Nat)) (Φ : Fam) (Ψ : Nat -> List Nat -> List D -> Sto -> R D) (env : Env) (st : Sto) : Option (Option D) -> R D
 | some (some (.fn j)) => if ok j = true then callC cs (Φ j) env [] st else .stuck
 | some (some (.obj m)) => if isClo st[m]? = true then callC cs (callM okn Ψ m) env [] st else .stuck
 | _ => .stuck
@[simp] theorem ZAc {ok okn : Nat -> Bool} {cs : List (Nat × Nat)} {Φ : Fam} {Ψ : Nat -> List Nat -> List D -> Sto -> R D} {env : Env} {st : Sto} {j : Nat} : coV0 ok okn cs Φ Ψ env st (some (some (.fn j))) = if ok j = true then callC cs (Φ j) env [] st else .stuck := rfl
@[simp] theorem Zx7 {ok okn : Nat -> Bool} {cs : List (Nat × Nat)} {Φ : Fam} {Ψ : Nat -> List Nat -> List D -> Sto -> R D} {env : Env} {st : Sto} {m : Nat} : coV0 ok okn cs Φ Ψ env st (some (some (.obj m))) = if isClo st[m]? = true then callC cs (callM okn Ψ m) env [] st else .stuck := rfl
@[simp] theorem Zv5 {ok okn : Nat -> Bool} {cs : List (Nat × Nat)} {i : Nat} {Φ : Fam} {Ψ : Nat -> List Nat -> List D -> Sto -> R D} {env : Env} {st : Sto} : eCallO0 ok okn cs i Φ Ψ env st = coV0 ok okn cs Φ Ψ env st env[i]? := by
 unfold eCallO0 coV0
 cases h : env[i]? with
 | none => rfl
 | some od =>
  cases od with
  | none => rfl
  | some d =>
   cases d <;> try rfl
   rename_i m
   dsimp only
   cases h2 : st[m]? with
   | none => rfl
   | some o => cases o <;> rfl
def fCallC (cs : List (Nat × Nat)) (φ : List D -> Sto -> R D) (env : Env) (r : R (List D)) : R D := r.bind fun ds st1 => callC cs φ env ds st1
@[simp] theorem ZuO {cs : List (Nat × Nat)} {φ : List D -> Sto -> R D} {env : Env} {ds : List D} {st : Sto} : fCallC cs φ env (.ok ds st) = callC cs φ env ds st := rfl
@[simp] theorem ZtP {cs : List (Nat × Nat)} {φ : List D -> Sto -> R D} {env : Env} : fCallC cs φ env .stuck = .stuck := rfl
@[simp] theorem ZvW {cs : List (Nat × Nat)} {φ : List D -> Sto -> R D} {env : Env} {c : Nat} {fs : List (Str × D)} {st : Sto} : fCallC cs φ env (.exc c fs st) = .exc c fs st := rfl
@[simp] theorem ZxU {cs : List (Nat × Nat)} {φ : List D -> Sto -> R D} {G : DA} {env : Env} {st : Sto} : eCallC cs φ G env st = fCallC cs φ env (G env st) := rfl
def mkO (n kk : Nat) (ps : List Nat) (st : Sto) : Option Ob -> R D
 | some (.tbl j) => if j = n then .ok (.obj st.length) (st ++ [.clo kk ps]) else .stuck
 | _ => .stuck
@[simp] theorem ZC4 {n kk j : Nat} {ps : List Nat} {st : Sto} : mkO n kk ps st (some (.tbl j)) = if j = n then .ok (.obj st.length) (st ++ [.clo kk ps]) else .stuck := rfl
/-- the table at n (a place that simp is not to look at by itself) -/
def tbA (st : Sto) (n : Nat) : Option Ob := st[n]?
theorem Zjs {n kk : Nat} {ps : List Nat} {st : Sto} : mkClo n kk ps st = mkO n kk ps st (tbA st n) := by unfold mkClo mkO tbA; rfl
@[simp] theorem ZCD {n kk : Nat} {ps : List Nat} {env : Env} {st : Sto} : eLam n kk ps env st = mkO n kk ps st (tbA st n) := Zjs
def gDef (i : Nat) (env : Env) : R D -> RS
 | .ok d st1 => .nx (env.set i (some d)) st1
 | _ => .stuck
@[simp] theorem ZAY {i : Nat} {env : Env} {d : D} {st : Sto} : gDef i env (.ok d st) = .nx (env.set i (some d)) st := rfl
@[simp] theorem ZBo {n kk i : Nat} {ps : List Nat} {env : Env} {st : Sto} : sDef n kk ps i env st = gDef i env (mkO n kk ps st (tbA st n)) := by
 unfold sDef
 rw [Zjs]
 cases mkO n kk ps st (tbA st n) <;> rfl
def rsS : RS -> DS2 -> SR2
 | .nx env1 st1, K => K env1 st1
 | .rt d st1, _ => .rt d none st1
 | .exc c fs env1 st1, _ => .exc c fs env1 st1
 | _, _ => .stuck
@[simp] theorem ZCn {env : Env} {st : Sto} {K : DS2} : rsS (.nx env st) K = K env st := rfl
@[simp] theorem ZCL {d : D} {st : Sto} {K : DS2} : rsS (.rt d st) K = .rt d none st := rfl
@[simp] theorem ZyK {c : Nat} {fs : List (Str × D)} {env : Env} {st : Sto} {K : DS2} : rsS (.exc c fs env st) K = .exc c fs env st := rfl
@[simp] theorem ZBc {S : DS} {K : DS2} {env : Env} {st : Sto} : rSeq S K env st = rsS (S env st) K := by
 unfold rSeq rsS; cases S env st <;> rfl
def rRetR (env : Env) : R D -> SR2
 | .ok d st => .rt d (some env) st
 | .exc c fs st => .exc c fs env st
 | .stuck => .stuck
@[simp] theorem ZxS {env : Env} {d : D} {st : Sto} : rRetR env (.ok d st) = .rt d (some env) st := rfl
@[simp] theorem ZxH {env : Env} {c : Nat} {fs : List (Str × D)} {st : Sto} : rRetR env (.exc c fs st) = .exc c fs env st := rfl
@[simp] theorem ZAz {F : DE} {env : Env} {st : Sto} : rRet F env st = rRetR env (F env st) := by
 unfold rRet bindR rRetR; cases F env st <;> rfl
@[simp] theorem ZzR {env : Env} {st : Sto} : rNil env st = .nx env st := rfl
def rIfR (A B K : DS2) (env : Env) : R Bool -> SR2
 | .ok b st1 => rThen (if b = true then A else B) K env st1
 | .exc c fs st => .exc c fs env st
 | .stuck => .stuck
def thR (K : DS2) : SR2 -> SR2
 | .nx env1 st1 => K env1 st1
 | r => r
@[simp] theorem ZCO {K : DS2} {env : Env} {st : Sto} : thR K (.nx env st) = K env st := rfl
@[simp] theorem ZCU {K : DS2} {d : D} {oe : Option Env} {st : Sto} : thR K (.rt d oe st) = .rt d oe st := rfl
@[simp] theorem Zy7 {K : DS2} {c : Nat} {fs : List (Str × D)} {env : Env} {st : Sto} : thR K (.exc c fs env st) = .exc c fs env st := rfl
@[simp] theorem ZzD {A B K : DS2} {env : Env} {b : Bool} {st : Sto} : rIfR A B K env (.ok b st) = if b = true then thR K (A env st) else thR K (B env st) := by
 show rThen (if b = true then A else B) K env st = _
 unfold rThen thR
 cases b <;> rfl
@[simp] theorem ZB6 {C : DT} {A B K : DS2} {env : Env} {st : Sto} : rIf C A B K env st = rIfR A B K env (C env st) := by
 unfold rIf bindR rIfR; cases C env st <;> rfl
def endC (p : Nat) (sl : List Nat) : SR2 -> R D
 | .nx env1 st1 => unD .non (stl (layOf (csAt p sl) env1) st1)
 | .rt d oe st1 => unD d (stl (layOf (csAt p sl) (oe.getD [])) st1)
 | .exc c fs env1 st1 => unX c fs (stl (layOf (csAt p sl) env1) st1)
 | _ => .stuck
@[simp] theorem ZwG {p : Nat} {sl : List Nat} {c : Nat} {fs : List (Str × D)} {env : Env} {st : Sto} : endC p sl (.exc c fs env st) = unX c fs (stl (layOf (csAt p sl) env) st) := rfl
@[simp] theorem ZyR {p : Nat} {sl : List Nat} {env : Env} {st : Sto} : endC p sl (.nx env st) = unD .non (stl (layOf (csAt p sl) env) st) := rfl
@[simp] theorem ZAn {p : Nat} {sl : List Nat} {d : D} {oe : Option Env} {st : Sto} : endC p sl (.rt d oe st) = unD d (stl (layOf (csAt p sl) (oe.getD [])) st) := rfl
def endN (L : Lay) : RS -> R D
 | .nx _ st2 => unD .non (relay L st2)
 | .rt d st2 => unD d (relay L st2)
 | .exc c fs _ st2 => unX c fs (relay L st2)
 | _ => .stuck
@[simp] theorem ZzF {L : Lay} {env : Env} {st : Sto} : endN L (.nx env st) = unD .non (relay L st) := rfl
@[simp] theorem ZAV {L : Lay} {d : D} {st : Sto} : endN L (.rt d st) = unD d (relay L st) := rfl
@[simp] theorem Zw0 {L : Lay} {c : Nat} {fs : List (Str × D)} {env : Env} {st : Sto} : endN L (.exc c fs env st) = unX c fs (relay L st) := rfl
def endE (L : Lay) : R D -> R D
 | .ok d st2 => unD d (relay L st2)
 | .exc c fs st2 => unX c fs (relay L st2)
 | .stuck => .stuck
@[simp] theorem ZAE {L : Lay} {d : D} {st : Sto} : endE L (.ok d st) = unD d (relay L st) := rfl
@[simp] theorem ZwA {L : Lay} {c : Nat} {fs : List (Str × D)} {st : Sto} : endE L (.exc c fs st) = unX c fs (relay L st) := rfl
@[simp] theorem Zt7 {st : Sto} : relay [] st = some st := rfl
end Mi
namespace Mi
open PySem PySem.Spec PySem.Calls PyProof.Rows L2
open Builtin Builtin.ObjectAttr
/-- what a make asks of the classes above -/
structure MroOk (B : String) (bm : List Value) : Prop where
 hB : bm.contains (.type B) = true
 hA : bm.contains (.type "AttributeError") = false
 hN : bm.contains (.type "NameError") = false
section
variable {M : Model} {prog : Program} {w : World} {A : Around} {E : Value -> Shared -> Prop} {R : Result -> Shared -> Prop} {h : Heap} {g : Array GenState} {d : Drawn} {t : Nat} {os : OsState}
variable {nm q : Str} {C N : Addr} {bs bm bB : List Value} {hdc : Bool} {sn : List Str} {sub : List Value} {ab : Bool} {col : Option Bool} {dd : Option Addr} {k0 k1 k2 k3 k5 : Option Value} {B nI iI : String}
theorem chkNew (F : ExcBaseFacts B nI iI bB) (o : MroOk B bm) {rs : List Value} {Q : Unit -> Shared -> Prop} (hC : h.get? C = some (excClassObj nm q C N bs bm hdc sn sub ab col dd k0 k1 k2 k3 k5 nI)) (hq : Q () ⟨h, g, d, t, os⟩) :
  wpAny M A (checkBuiltinCall nI ⟨.ref C :: rs, []⟩) Q E ⟨h, g, d, t, os⟩ := by
 have below : (Value.ref C :: bm).contains (.type B) = true := by rw [List.contains_cons, o.hB, Bool.or_true]
 have star := F.noStar
 simp only [checkBuiltinCall, F.newKind, F.newSplit, F.newRow]; repeat (first | refine wpAny_loadPart_at hC ?_ | (refine wpAny_isSubtype_exc hC ?_; rw [below]) | refine wpAny_staticBase_exc hC ?_ | refine wpAny_madeBy_exc hC ?_ | simp only [bne_self_eq_false, Bool.false_eq_true, if_false] | wp_step)
 exact hq
theorem newOwn (F : ExcBaseFacts B nI iI bB) (o : MroOk B bm) {rs : List Value} (hC : h.get? C = some (excClassObj nm q C N bs bm hdc sn sub ab col dd k0 k1 k2 k3 k5 nI))
  (hq : R (.ok (.ret (.ref (h.objs.size + 1)))) ⟨(h.push { cls := .type "tuple", data := .seq rs.toArray }).push { cls := .ref C, data := .fields #[.ref h.objs.size, .none, .none, .none, .bool false, .none] }, g, d, t, os⟩) (hl : rs.length <= sizeLine) :
  codeAny (model prog w) A (.builtin nI ⟨.ref C :: rs, []⟩) R ⟨h, g, d, t, os⟩ := by
 have ends := F.ends
 have below : (Value.ref C :: bm).contains (.type B) = true := by rw [List.contains_cons, o.hB, Bool.or_true]
 have noA : (Value.ref C :: bm).contains (.type "AttributeError") = false := by rw [List.contains_cons, o.hA]; rfl
 have noN : (Value.ref C :: bm).contains (.type "NameError") = false := by rw [List.contains_cons, o.hN]; rfl
 refine codeAny_builtinAt F.entry ?_; unfold Builtin.«BaseException.__new__»; refine PySem.wpAt_bind ?_; show PySem.wpAt _ _ _ (stack >>= _) _ _ _
 refine PySem.wpAt_bind (PySem.wpAt_stack fun p bl0 => PySem.wpAt_of_wpAny ?_); wp_walk; refine PySem.wpAt_of_wpAny ?_; rw [F.owner]
 repeat (first | with_reducible refine wpAny_madeHere_exc F.canon hC ?_ | with_reducible refine wpAny_loadPart_at hC ?_ | (with_reducible refine wpAny_isSubtype_exc hC ?_; first | rw [below] | rw [noA] | rw [noN]) | wp_step)
 show R _ _; rw [Heap.size_push]; exact hq
theorem typeCall (F : ExcBaseFacts B nI iI bB) (o : MroOk B bm) {rs : List Value} {fI : Addr} {Q : Fin -> Shared -> Prop} (hC : h.get? C = some (excClassObj nm q C N bs bm hdc sn sub ab col dd k0 k1 k2 k3 k5 nI))
  (hi : PySem.W.Looks (model prog w) h (typeLookup (.ref C) "__init__") (some (.ref fI))) (hb : ∀ self, PySem.W.Looks (model prog w) h (bindSpecial (.ref fI) self) (.ref fI, [self])) (hl : rs.length <= sizeLine)
  (hq : codeAny (model prog w) A (.call (.ref fI) ⟨.ref (h.objs.size + 1) :: rs, []⟩) (fun r s' => match r with | .ok (.ret v) => v = .none /\ Q (.done (.ret (.ref (h.objs.size + 1)))) s' | .ok _ => False | .error e => E e s')
   ⟨(h.push (PySem.W.kdv_tup rs)).push (PySem.HandSPX.excO C h.objs.size), g, d, t, os⟩) : wpAny (model prog w) A (Builtin.«type.__call__» ⟨.ref C :: rs, []⟩) Q E ⟨h, g, d, t, os⟩ := by
 repeat (first | with_reducible refine wpAny_loadPart_at hC ?_ | with_reducible refine wpAny_madeBy_exc hC ?_ | wp_step)
 refine codeAny_call_builtin_code (Code.quiet_builtin _ F.quiet) (chkNew F o hC (newOwn F o hC ?_ hl))
 show wpAny _ _ _ _ _ _
 have keep : ∀ b u, h.get? b = some u -> ((h.push (PySem.W.kdv_tup rs)).push (PySem.HandSPX.excO C h.objs.size)).get? b = some u := fun b u e => Heap.get?_push_of_some _ (Heap.get?_push_of_some _ e)
 have hC1 := keep _ _ hC
 have he : ((h.push (PySem.W.kdv_tup rs)).push (PySem.HandSPX.excO C h.objs.size)).get? (h.objs.size + 1) = some (PySem.HandSPX.excO C h.objs.size) := by heap_get
 have own : (Value.ref C :: bm).contains (.ref C) = true := by simp
 have i1 := hi.keeps keep
 have b1 := (hb (.ref (h.objs.size + 1))).keeps keep
 unfold isInstance; repeat (first | with_reducible refine wpAny_loadPart_at he ?_ | (with_reducible refine wpAny_isSubtype_exc hC1 ?_; rw [own]) | wp_step)
 show wpAny _ _ (typeLookup (.ref C) _) _ _ _
 refine i1.at (wpAny_holding (wpAny_bind (b1.at (wpAny_bind (wpAny_call (codeAny_mono hq fun r s' z => ?_))))))
 rcases r with e | (v | _ | _ | _) <;> first | exact z | exact z.elim | skip
 obtain ⟨rfl, z⟩ := z
 first | exact wpAny_pure (wpAny_pure z) | (wp_walk; exact z)
theorem callOwn (F : ExcBaseFacts B nI iI bB) (o : MroOk B bm) {rs : List Value} {fI : Addr} (hC : h.get? C = some (excClassObj nm q C N bs bm hdc sn sub ab col dd k0 k1 k2 k3 k5 nI))
  (hi : PySem.W.Looks (model prog w) h (typeLookup (.ref C) "__init__") (some (.ref fI))) (hb : ∀ self, PySem.W.Looks (model prog w) h (bindSpecial (.ref fI) self) (.ref fI, [self])) (hl : rs.length <= sizeLine)
  (hq : codeAny (model prog w) (A.under (.builtin "type.__call__" ⟨.ref C :: rs, []⟩)) (.call (.ref fI) ⟨.ref (h.objs.size + 1) :: rs, []⟩) (PySem.W.InitBack (h.objs.size + 1) R) ⟨(h.push (PySem.W.kdv_tup rs)).push (PySem.HandSPX.excO C h.objs.size), g, d, t, os⟩) :
  codeAny (model prog w) A (.call (.ref C) ⟨rs, []⟩) R ⟨h, g, d, t, os⟩ := by
 have f1 := tc_lookup
 have f2 := tc_bind (.ref C)
 have ty : (⟨h, g, d, t, os⟩ : Shared).TypeIs (.ref C) "type" := ⟨_, hC, rfl⟩
 refine codeAny_of_tree ?_; show wpAny _ _ (callAny (.ref C) _) _ _ _; repeat (any_goals (first | assumption | with_reducible refine wpAny_loadPart_at hC ?_ | wp_step))
 refine ⟨rfl, codeAny_call_builtin_at (Code.quiet_builtin _ (by decide +kernel)) entry_typeCall (wpAny_check_type_call_sub hC (typeCall F o hC hi hb hl ?_))⟩
 refine codeAny_mono hq fun r s' z => ?_; rcases r with e | (v | _ | _ | _) <;> exact z
end
/-- what the written part tells of such a class -/
structure OexR (K : PySem.W.Frag) (C : Addr) : Prop where
 cls : ∃ nm q N bs bm sn sub ab col dd k0 k1 k2 k3 k5 B nI iI bB, K.lookup C = some (excClassObj nm q C N bs bm true sn sub ab col dd k0 k1 k2 k3 k5 nI) /\ ExcBaseFacts B nI iI bB /\ MroOk B bm /\
  (∀ x : Value, refuseLoop x "__setattr__" (.ref C :: bm) = pure ()) /\ (Value.ref C :: bm).contains (.type "object") = true
 sa : PySem.W.findIn K (.ref C) "__setattr__" = some (some (.builtin "object.__setattr__"))
 exC : PySem.W.subIn K (.ref C) (.type "BaseException") = some true
 tyC : PySem.W.typeIn K (.ref C) = some (.type "type")
 kC : PySem.W.keepIn K (.ref C) = true
/-- a class right under RuntimeError -/
theorem Zs4 {K : PySem.W.Frag} {C : Addr} {nm q : Str} {N : Addr} {bs bm : List Value} {sn : List Str} {sub : List Value} {ab : Bool} {col : Option Bool} {dd : Option Addr} {k0 k1 k2 k3 k5 : Option Value}
  (lx : K.lookup C = some (excClassObj nm q C N bs bm true sn sub ab col dd k0 k1 k2 k3 k5 "RuntimeError.__new__")) (rv : bm = rtTail) (sa : PySem.W.findIn K (.ref C) "__setattr__" = some (some (.builtin "object.__setattr__")))
  (exC : PySem.W.subIn K (.ref C) (.type "BaseException") = some true) (tyC : PySem.W.typeIn K (.ref C) = some (.type "type")) (kC : PySem.W.keepIn K (.ref C) = true) : OexR K C := by
 subst rv
 exact ⟨⟨_, _, _, _, _, _, _, _, _, _, _, _, _, _, _, _, _, _, _, lx, PySem.F.excBase_RuntimeError, ⟨by decide +kernel, by decide +kernel, by decide +kernel⟩, fun x => by rw [refuseLoop_ref]; exact PySem.F.store_RuntimeError.passes x, by rw [List.contains_cons, show rtTail.contains (.type "object") = true from by decide +kernel, Bool.or_true]⟩, sa, exC, tyC, kC⟩
theorem Zts (x : Value) : refuseLoop x "__setattr__" keTail = pure () := by kernel_rfl
/-- a class right under KeyError -/
theorem Zs3 {K : PySem.W.Frag} {C : Addr} {nm q : Str} {N : Addr} {bs bm : List Value} {sn : List Str} {sub : List Value} {ab : Bool} {col : Option Bool} {dd : Option Addr} {k0 k1 k2 k3 k5 : Option Value}
  (lx : K.lookup C = some (excClassObj nm q C N bs bm true sn sub ab col dd k0 k1 k2 k3 k5 "LookupError.__new__")) (rv : bm = keTail) (sa : PySem.W.findIn K (.ref C) "__setattr__" = some (some (.builtin "object.__setattr__")))
  (exC : PySem.W.subIn K (.ref C) (.type "BaseException") = some true) (tyC : PySem.W.typeIn K (.ref C) = some (.type "type")) (kC : PySem.W.keepIn K (.ref C) = true) : OexR K C := by
 subst rv
 exact ⟨⟨_, _, _, _, _, _, _, _, _, _, _, _, _, _, _, _, _, _, _, lx, PySem.F.excBase_LookupError, ⟨by decide +kernel, by decide +kernel, by decide +kernel⟩, fun x => by rw [refuseLoop_ref]; exact Zts x, by rw [List.contains_cons, show keTail.contains (.type "object") = true from by decide +kernel, Bool.or_true]⟩, sa, exC, tyC, kC⟩
section
variable {prog : Program} {w : World} {A : Around} {E : Value -> Shared -> Prop} {R : Result -> Shared -> Prop} {hp : Heap} {g : Array GenState} {d : Drawn} {t : Nat} {os : OsState}
/-- the first field of an exception -/
theorem Zle {K : PySem.W.Frag} {nm : Str} {tk : Tok} {v : Value} {x C : Addr} {fv : Array Value} {cd : ClassData} (kin : K.In hp) (hx : hp.get? x = some { cls := .ref C, data := .fields fv }) (hcd : PySem.W.clsIn K C = some cd)
  (hm : ∀ y : Value, refuseLoop y "__setattr__" cd.mro = pure ()) (hob : cd.mro.contains (.type "object") = true) (hne : cd.mro.isEmpty = false) (hh : cd.hasDict = true) (ha : PySem.W.findIn K (.ref C) nm = some none)
  (hq : ∀ h2 tk2 dx, (∀ b o, b ≠ x -> hp.get? b = some o -> h2.get? b = some o) -> hp.objs.size <= dx -> dx ≠ x -> h2.get? x = some { cls := .ref C, dict := some dx, data := .fields fv } -> h2.Ns1 dx (fun y => if y = nm then some v else none) -> R (.ok (.ret .none)) ⟨h2, g, d, tk2, os⟩) :
  codeAny (model prog w) A (.call (.builtin "object.__setattr__") ⟨[.ref x, .str nm tk, v], []⟩) R ⟨hp, g, d, t, os⟩ := by
 have ix : PySem.W.InstAt hp x { cls := .ref C, data := .fields fv } C none := ⟨hx, rfl, rfl, trivial⟩
 have st := F.store_object
 have xs : x ≠ hp.objs.size := Nat.ne_of_lt (Heap.lt_size hx)
 have isO : PySem.W.Looks (model prog w) hp (isInstance (.ref x) (.type "object")) true :=
  ix.type.andThen (PySem.W.looks_mroIn kin (by unfold PySem.W.mroIn; rw [hcd, Option.bind_some, if_neg (by rw [hne]; decide), hob]))
 refine codeAny_call_builtin st.slot.plain st.entry ?_
 refine @PySem.W.check_slot (model prog w) _ _ ⟨hp, g, d, t, os⟩ "object.__setattr__" "object" "__setattr__" (.ref x) [.str nm tk, v] [] _ st.kind st.split isO (st.args (.ref x) (.str nm tk) v) ?_
 have mr : PySem.W.Looks (model prog w) hp (mroOf (.ref C)) cd.mro := (PySem.W.looks_clsIn kin hcd).andThen .now
 have tkr : PySem.W.Looks (model prog w) hp (storeTaker? none) none := .now
 have hc1 : PySem.W.Looks (model prog w) hp (classData C) cd := PySem.W.looks_clsIn kin hcd
 rw [PySem.W.osa_eq, PySem.refuse_eq]
 refine wpAny_bind (wpAny_bind (ix.type.at (wpAny_bind (mr.at ?_))))
 rw [hm]
 refine wpAny_pure (wpAny_bind (ix.type.at (wpAny_bind ((PySem.W.looks_findIn kin ha).at (wpAny_bind (tkr.at ?_))))))
 show wpAny _ _ (storeInOwnDict (.ref x) (.ref C) (.str nm tk) nm v false) _ _ _
 obtain ⟨n1, b1, m1, s1, q1, d1, l1, u1, a1, c1, e1⟩ := cd
 dsimp only at hh
 subst hh
 unfold storeInOwnDict ownDictForStores
 repeat (first | with_reducible refine PySem.HandSPX.store_in_new ?_ ?_ | with_reducible refine wpAny_loadPart_at hx ?_ | with_reducible refine hc1.at ?_ | wp_step)
 ·refine ⟨_, #[], _, (Heap.get?_update_ne _ _ _ _ xs.symm).trans (Heap.get?_push_at rfl rfl), rfl, fun e he => ?_, fun _ => rfl⟩
  exact absurd he (by simp)
 ·intro h2 tk2 hn hs
  have hx2 : (hp.push { cls := .type "dict", data := .dict #[] }).get? x = some { cls := .ref C, data := .fields fv } := Heap.get?_push_of_some _ hx
  refine hq h2 tk2 hp.objs.size (fun b o hb ho => ?_) (Nat.le_refl _) xs.symm ?_ hn
  ·refine (hs.2 b (Nat.ne_of_lt (Heap.lt_size ho))).trans ?_
   exact (Heap.get?_update_ne _ _ _ _ hb).trans (Heap.get?_push_of_some _ ho)
  ·refine (hs.2 x xs).trans ?_
   exact Heap.get?_update_self _ hx2 rfl
end
section
variable {X : Cx} {pins : List (Addr × Obj)} {σ : L2.St} {H : Hp} {s : Shared} {a C dx : Addr} {f : Str} {y : V} {u : Value} {Q : Unit -> Shared -> Prop} {E : Value -> Shared -> Prop} {A : Around}
theorem ostR (T : OexR X.K C) (I : L2.Inv X pins σ H s) (e : H a = some (exo a C none)) (hno : PySem.W.findIn X.K (.ref C) f = some none) (ry : RelV y u)
  (h : ∀ dx s2, H dx = none -> dx ≠ a -> L2.Inv X pins σ (upd (upd H dx (exd dx [(f, y)])) a (exo a C (some dx))) s2 -> Q () s2) : wpAny (model X.prog X.w) A (setAttr (.ref a) f u) Q E s := by
 obtain ⟨nm, q, N, bs, bm, sn, sub, ab, col, dd, k0, k1, k2, k3, k5, B, nI, iI, bB, hC, hF, hT, hP, hO⟩ := T.cls
 obtain ⟨cd, hcd⟩ : ∃ cd : ClassData, cd = { name := nm, bases := bs, mro := .ref C :: bm, ns := N, qualname := q, hasDict := true, slotNames := sn, subclasses := sub, abstract := ab, collection := col, hasDel := false } := ⟨_, rfl⟩
 have hcl : PySem.W.clsIn X.K C = some cd := by rw [hcd]; unfold PySem.W.clsIn; rw [hC] <;> rfl
 obtain ⟨t1, ho⟩ := exo_at I.hok e
 obtain ⟨hp, g, d, t, os⟩ := s
 refine PySem.W.set_plain I.kIn (od := none) ⟨ho, rfl, rfl, trivial⟩ T.sa ?_
 refine Zle I.kIn ho hcl (by rw [hcd]; exact hP) (by rw [hcd]; exact hO) (by rw [hcd]; rfl) (by rw [hcd]) hno (fun h2 tk2 dx k dn dne hx hn => ?_)
 have hnd : H dx = none := I.hok.fresh dn
 have nd : ∀ {b : Addr} {o : Obj}, hp.get? b = some o -> b ≠ dx := fun {b o} z => Nat.ne_of_lt (Nat.lt_of_lt_of_le (Heap.lt_size z) dn)
 have na : ∀ {b : Addr}, H b = none -> b ≠ a := fun {b} n z => by rw [z, e] at n; cases n
 have un : Un X.fs [] H (upd (upd H dx (exd dx [(f, y)])) a (exo a C (some dx))) hp h2 := by
  refine ⟨fun b o z n _ _ => k b o (na n) z, fun b o z n _ _ => ⟨o.slots, k b o (na n) z⟩, fun b o z n _ => ?_, fun b o z _ => ?_, fun b xs z => ?_, fun b o v z => ?_, fun b ps z => ⟨#[], ?_⟩⟩
  ·rw [upd_ne (na n), upd_ne (nd z)]
   exact n
  ·by_cases hb : b = a
   ·exact ⟨_, by rw [hb]; exact hx⟩
   ·exact ⟨o, k b o hb z⟩
  ·rw [upd_ne (at_ne e z exo_tup), upd_ne (ne_of_none z hnd)]
   exact z
  ·rw [upd_ne (at_ne e z exo_frz), upd_ne (ne_of_none z hnd)]
   exact z
  ·rw [upd_ne (at_ne e z exo_tbl), upd_ne (ne_of_none z hnd), z]
   simp
 refine h dx _ hnd dne (I.un (t' := tk2) un fun b o z => ?_)
 by_cases hb : b = a
 ·subst hb
  rw [upd_same] at z
  cases z
  exact exo_ok hx
 ·rw [upd_ne hb] at z
  by_cases hd : b = dx
  ·subst hd
   rw [upd_same] at z
   cases z
   exact exd_ok hn (relO_put (fs := []) ry fun _ => True.intro)
  ·rw [upd_ne hd] at z
   refine (I.hok b o z).stay (fun c v hc z2 => k c v ?_ z2) (fun c hc => ?_) fun c xs hc => ?_
   ·rcases hc with hc | hc
    ·rw [hc]
     exact hb
    ·exact at_ne e hc exo_own
   ·rw [upd_ne (at_ne e hc exo_own), upd_ne (ne_of_none hc hnd)]
    exact hc
   ·rw [upd_ne (at_ne e hc exo_tup), upd_ne (ne_of_none hc hnd)]
    exact hc
/-- self.f = e -/
def tOstR (K : PySem.W.Frag) (f : Str) (to te : TE) : TS := fun D σ H => te σ H fun y H1 => to σ H1 fun x H2 => ∃ a C : Addr, x = .ref a /\ OexR K C /\ PySem.W.findIn K (.ref C) f = some none /\
 H2 a = some (exo a C none) /\ ∀ dx, H2 dx = none -> dx ≠ a -> D.nx σ (upd (upd H2 dx (exd dx [(f, y)])) a (exo a C (some dx)))
theorem ZsO {o e : Expr} {to te : TE} {p' pos : Pos} (ho : PE X o to) (he : PE X e te) (hs : swapsWith e (some (.Attribute o f p')) pos.line X.env = pure false := by rfl) : PS X (.Assign [.Attribute o f p'] e pos) (tOstR X.K f to te) := by
 refine ⟨fun pins s σ H D I h => ?_⟩
 refine plainObj_wpAny_Assign_Attribute (thn (he.run pins s σ H _ I h) fun v s1 ⟨y, H1, I1, r1, q1⟩ => ?_) hs
 refine thn (ho.run pins s1 σ H1 _ I1 q1) fun u s2 ⟨x, H2, I2, r2, a, C, ex, T, hno, ea, q⟩ => ?_
 subst ex
 obtain rfl : u = Value.ref a := r2
 exact ostR T I2 ea hno r1 fun dx s' n ne J => ⟨σ, _, J, q dx n ne⟩
end
section
variable {X : Cx} {e : Expr} {es : List Expr} {ta : TA} {p pos : Pos}
theorem ZkT {CX : CXT} {x : Str} {C fI : Addr} {k : Nat} {fd : FuncData} {ps : List Str} {sp : Sp} (T : OexR X.K C) (iC : PySem.W.findIn X.K (.ref C) "__init__" = some (some (.ref fI))) (tI : PySem.W.typeIn X.K (.ref fI) = some (.type "function"))
  (F1 : FnOk X.prog X.w X.K X.mg X.base CX k fI fd ps sp) (hr : Room (k + 1) X.A) (hb : Binds X.K fd ps []) (hx : Passes CX X (fun _ _ _ => False)) (hg : L2.Gl X x) (hm : X.mg x = some (.ref C)) (ha : PA X (e :: es) ta)
  (hdb : (x == ("__debug__" : Str)) = false := by decide) (he : starEach (e :: es) X.env = (false, eval e X.env) :: starEach es X.env := by rfl) (hpl : (backTo pos (starEach es X.env)).any (·.1) = false := by rfl) :
  PMk X (.Call (.Name x p) (e :: es) [] pos) (tMkO C sp [] ta) := by
 intro pins s σ H Q I h
 obtain ⟨nm, q, N, bs, bm, sn, sub, ab, col, dd, k0, k1, k2, k3, k5, B, nI, iI, bB, hC, hF, hT, hP, hO⟩ := T.cls
 refine wpAny_Call_Name_kw (ld_glob I hg hm ?_ hdb)
 refine PySem.W.callWith_K (h₀ := X.base) I.ok.mod.kin T.kC (thn (ha.run pos pins s σ H _ I h) fun us s1 ⟨vs, H1, I1, r1, hz, q1⟩ => ?_) he hpl
 refine ⟨I1.kIn, ?_⟩
 show wpAny _ _ (call (.ref C) us) _ _ _
 obtain ⟨hp, g, dr, tk, os⟩ := s1
 have hsz : hp.objs.size <= hp.objs.size + 1 := Nat.le_succ _
 have hn : H1 (hp.objs.size + 1) = none := I1.hok.fresh hsz
 have hq := q1 (hp.objs.size + 1) hn
 obtain ⟨h3, e3⟩ : ∃ h3 : Heap, h3 = (hp.push (PySem.W.kdv_tup us)).push (PySem.HandSPX.excO C hp.objs.size) := ⟨_, rfl⟩
 have kk : ∀ b o, hp.get? b = some o -> h3.get? b = some o := fun b o z => by rw [e3]; exact Heap.get?_push_of_some _ (Heap.get?_push_of_some _ z)
 have hget : h3.get? (hp.objs.size + 1) = some (PySem.HandSPX.excO C hp.objs.size) := by rw [e3]; heap_get
 have I2 : L2.Inv X pins σ (upd H1 (hp.objs.size + 1) (exo (hp.objs.size + 1) C none)) ⟨h3, g, dr, tk, os⟩ := I1.laid (t' := tk) kk hsz (exo_ok hget)
 have r2 : Vals (V.ref (hp.objs.size + 1) :: (vs ++ [])) (Value.ref (hp.objs.size + 1) :: (us ++ [])) := .cons rfl (r1.append .nil)
 have hl : (Value.ref (hp.objs.size + 1) :: us ++ []).length = ps.length := (r2.length.symm.trans (F1.len _ _ _ _ hq))
 have hus : us.length <= sizeLine := by
  have := Paired.length r1
  rw [sizeLine_eq]
  omega
 have hb2 := hb ⟨h3, g, dr, tk, os⟩ (Value.ref (hp.objs.size + 1) :: us) I2.kIn hl
 rw [List.cons_append] at hb2
 have run := F1.run _ X.stack _ _ ⟨Value.ref (hp.objs.size + 1) :: us, []⟩ (Value.ref (hp.objs.size + 1) :: (us ++ [])) _ _ (fun _ _ _ => False) (hr.make C us []) (I2.env0.make C us []) hb2 r2 hq
 rw [e3] at run
 refine wpAny_call (callOwn hF hT (I1.kIn _ _ hC) (PySem.W.looks_findIn I1.kIn iC) (fun self => PySem.W.bind_fn I1.kIn self tI) hus (codeAny_mono run fun r s' hq' => ?_))
 cases r with
 | error er => rw [<- e3] at hq'; exact hx pins σ _ _ er s' I2 hq'
 | ok fl =>
  cases fl with
  | ret u =>
   obtain ⟨v, H2, os2, bare2, un2, hok2, rv, ev, d, fs, ea, ed, hd1, q2⟩ := hq'
   subst ev
   obtain ⟨h2, g2, d2, t2, os'⟩ := s'
   exact ⟨rv, mk_end (raises_own T.exC T.tyC) I1 hsz (fun b o z => by rw [<- e3]; exact kk b o z) un2 hok2 os2 bare2 ea ed hd1 q2⟩
  | next => exact False.elim hq'
  | brk => exact False.elim hq'
  | cont => exact False.elim hq'
end
section
variable {g : Gd}
theorem fnXR {CX : CXT} {k : Nat} {x qual : Str} {st : Stmt} {fI C : Addr} {fd : FuncData} {N : List Str} {p1 p2 f : Str} {q1 q2 q3 q4 : Pos} (T : OexR g.K C) (no : PySem.W.findIn g.K (.ref C) f = some none) (F : Fun g.K x qual st fI fd) (S : FnScope N [p1, p2] (defScope st))
  (hB : defBody st = [.Assign [.Attribute (.Name p1 q1) f q2] (.Name p2 q3) q4]) (hN : N = [p1, p2]) (v1 : Vis (defScope st) p1) (v2 : Vis (defScope st) p2) (d1 : (p1 == ("__debug__" : Str)) = false) (d2 : (p2 == ("__debug__" : Str)) = false) (c1 : (p1 == ("__classdict__" : Str)) = false) (c2 : (p2 == ("__classdict__" : Str)) = false) :
  FnOk g.P g.w g.K g.mg g.base CX (k + 1) fI fd [p1, p2] (spX C f) := by
 obtain ⟨oc, od, kV, doc, pm, an, cdv, ct, osl, rfl, lk, hcd⟩ := F.ex
 subst hN
 refine fn_of lk hcd S (fun vs H Q E ⟨a, y, e, _⟩ => by rw [e]; rfl) fun A outer s H vs Q E rm ⟨a, y, e, ha, fin⟩ => ?_
 subst e
 rw [hB]
 refine ⟨_, pss_cons (ZsO (pe_var (i := 0) rfl v1 d1 c1) (pe_var (i := 1) rfl v2 d2 c2) rfl) pss_nil, ?_⟩
 exact ⟨y, rfl, .ref a, rfl, a, C, rfl, T, no, ha, fun dx h1 h2 => fin dx h1 h2⟩
variable {X : Cx} {W : WX} {pos : Pos}
end
end Mi
namespace Mi
open PySem PySem.Spec PyProof.Rows L2
def unN (i : Nat) : RS -> RS
 | .nx env st => .nx (env.set i none) st
 | .rt d st => .rt d st
 | .bk env st => .bk (env.set i none) st
 | .ct env st => .ct (env.set i none) st
 | _ => .stuck
def aName (i : Nat) (F : List (Str × D) -> DS) : Act := fun _ fs env st => unN i (F fs (env.set i none) st)
abbrev DX := List (Str × D) -> DE
def eXf (f : Str) : DX := fun fs _ st => match fs.lookup f with
 | some d => .ok d st
 | none => .stuck
section
variable {g : Gd} {X : Cx} {W : WX} {α : List Addr} {H : Hp} {env : Env} {σ : L2.St}
/-- the classes that a clause takes have the field f in their dicts -/
def XfOk (g : Gd) (sel : Nat -> Option Bool) (f : Str) : Prop := ∀ c C, g.ca c = some C -> sel c = some true -> XfC g.K C /\ PySem.W.findIn g.K (.ref C) f = some none
variable {a : Addr} {oe : Obj} {cls : Value} {dx : Option Addr} {pn : List (Addr × Obj)} {sel : Nat -> Option Bool} {i : Nat}
/-- ("word", e.f) -/
def eX2 (x : Str) (F : DX) : DX := fun fs env st => (F fs env st).bind fun d st1 => .ok (.tup [.str x, d]) st1
/-- x = e in such a suite -/
def sXs (j : Nat) (F : DX) : List (Str × D) -> DS := fun fs => sAsg (.nm j) (F fs)
end
def eXfO (o : Option D) (st : Sto) : R D := match o with | some d => .ok d st | none => .stuck
@[simp] theorem ZBp {d : D} {st : Sto} : eXfO (some d) st = .ok d st := rfl
@[simp] theorem ZDc {f : Str} {fs : List (Str × D)} {env : Env} {st : Sto} : eXf f fs env st = eXfO (fs.lookup f) st := by unfold eXf eXfO; rfl
def gX2 (x : Str) (r : R D) : R D := r.bind fun d st1 => .ok (.tup [.str x, d]) st1
@[simp] theorem ZCA {x : Str} {d : D} {st : Sto} : gX2 x (.ok d st) = .ok (.tup [.str x, d]) st := rfl
@[simp] theorem ZDk {x : Str} {F : DX} {fs : List (Str × D)} {env : Env} {st : Sto} : eX2 x F fs env st = gX2 x (F fs env st) := rfl
@[simp] theorem ZDa {j : Nat} {F : DX} {fs : List (Str × D)} {env : Env} {st : Sto} : sXs j F fs env st = sAsg (.nm j) (F fs) env st := rfl
@[simp] theorem ZA6 {i : Nat} {F : List (Str × D) -> DS} {c : Nat} {fs : List (Str × D)} {env : Env} {st : Sto} : aName i F c fs env st = unN i (F fs (env.set i none) st) := rfl
@[simp] theorem ZBX {i : Nat} {env : Env} {st : Sto} : unN i (.nx env st) = .nx (env.set i none) st := rfl
@[simp] theorem ZCd {i : Nat} {d : D} {st : Sto} : unN i (.rt d st) = .rt d st := rfl
end Mi
namespace Mi
open PySem PySem.Spec PyProof.Rows L2
end Mi
namespace Mi
open PySem PySem.Spec PyProof.Rows L2
def fldOf (T : Nat -> Bool) (f : Str) : Option Ob -> Option D
 | some (.ins k fs) => if T k = true then fs.lookup f else none
 | _ => none
def putO (T : Nat -> Bool) (f : Str) (n : Nat) (z : D) (st : Sto) (env : Env) : Option Ob -> RS
 | some (.ins k fs) => if T k = true /\ fs.length < 1000 then .nx env (st.set n (.ins k (putD f z fs))) else .stuck
 | _ => .stuck
def insCls : Option Ob -> Option Nat
 | some (.ins k _) => some k
 | _ => none
def augF (T : Nat -> Bool) (f : Str) (o : D -> D -> Sto -> R D) (n : Nat) (F : DE) (env : Env) (st : Sto) : Option D -> RS
 | some d0 => bindS (F env st) env fun y st2 => bindS (o d0 y st2) env fun z st3 => if insCls st3[n]? = insCls st[n]? then putO T f n z st3 env st3[n]? else .stuck
 | none => .stuck
def sFldA (T : Nat -> Bool) (f : Str) (o : D -> D -> Sto -> R D) (Fo F : DE) : DS := fun env st => bindS (Fo env st) env fun ob st1 => match ob with
 | .obj n => augF T f o n F env st1 (fldOf T f st1[n]?)
 | _ => .stuck
section
variable {g : Gd} {X : Cx} {W : WX} {pos tpos : Pos}
def subOf (i : D) : Option Ob -> Option D
 | some (.lst ds) => (match i with | .int k => if 0 <= k /\ k < 2 ^ 63 then ds[k.toNat]? else none | _ => none)
 | _ => none
def augS (o : D -> D -> Sto -> R D) (ob i : D) (F : DE) (env : Env) (st : Sto) : Option D -> RS
 | some d0 => bindS (F env st) env fun y st2 => bindS (o d0 y st2) env fun z st3 => (match setD ob i z st3 with | some st4 => .nx env st4 | none => .stuck)
 | none => .stuck
def sSubA (o : D -> D -> Sto -> R D) (Fo Fi F : DE) : DS := fun env st => bindS (Fo env st) env fun ob st1 => bindS (Fi env st1) env fun i st2 => match ob with
 | .obj n => augS o (.obj n) i F env st2 (subOf i st2[n]?)
 | _ => .stuck
end
@[simp] theorem Zzs {T : Nat -> Bool} {f : Str} {k : Nat} {fs : List (Str × D)} : fldOf T f (some (.ins k fs)) = if T k = true then fs.lookup f else none := rfl
@[simp] theorem ZxI {k : Nat} {fs : List (Str × D)} : insCls (some (.ins k fs)) = some k := rfl
@[simp] theorem ZBs {T : Nat -> Bool} {f : Str} {n k : Nat} {z : D} {st : Sto} {env : Env} {fs : List (Str × D)} : putO T f n z st env (some (.ins k fs)) = if T k = true /\ fs.length < 1000 then .nx env (st.set n (.ins k (putD f z fs))) else .stuck := rfl
def gAF2 (T : Nat -> Bool) (f : Str) (n : Nat) (kc : Option Nat) (env : Env) (r : R D) : RS := bindS r env fun z st3 => if insCls st3[n]? = kc then putO T f n z st3 env st3[n]? else .stuck
@[simp] theorem ZAr {T : Nat -> Bool} {f : Str} {n : Nat} {kc : Option Nat} {env : Env} {z : D} {st : Sto} : gAF2 T f n kc env (.ok z st) = if insCls st[n]? = kc then putO T f n z st env st[n]? else .stuck := rfl
def gAF1 (T : Nat -> Bool) (f : Str) (o : D -> D -> Sto -> R D) (n : Nat) (kc : Option Nat) (d0 : D) (env : Env) (r : R D) : RS := bindS r env fun y st2 => gAF2 T f n kc env (o d0 y st2)
@[simp] theorem ZAd {T : Nat -> Bool} {f : Str} {o : D -> D -> Sto -> R D} {n : Nat} {kc : Option Nat} {d0 y : D} {env : Env} {st : Sto} : gAF1 T f o n kc d0 env (.ok y st) = gAF2 T f n kc env (o d0 y st) := rfl
@[simp] theorem ZBm {T : Nat -> Bool} {f : Str} {o : D -> D -> Sto -> R D} {n : Nat} {F : DE} {env : Env} {st : Sto} {d0 : D} : augF T f o n F env st (some d0) = gAF1 T f o n (insCls st[n]?) d0 env (F env st) := rfl
def gAF0 (T : Nat -> Bool) (f : Str) (o : D -> D -> Sto -> R D) (F : DE) (env : Env) (r : R D) : RS := bindS r env fun ob st1 => match ob with
 | .obj n => augF T f o n F env st1 (fldOf T f st1[n]?)
 | _ => .stuck
@[simp] theorem ZAA {T : Nat -> Bool} {f : Str} {o : D -> D -> Sto -> R D} {F : DE} {n : Nat} {env : Env} {st : Sto} : gAF0 T f o F env (.ok (.obj n) st) = augF T f o n F env st (fldOf T f st[n]?) := rfl
@[simp] theorem ZAB {T : Nat -> Bool} {f : Str} {o : D -> D -> Sto -> R D} {Fo F : DE} {env : Env} {st : Sto} : sFldA T f o Fo F env st = gAF0 T f o F env (Fo env st) := rfl
@[simp] theorem ZAT {ds : List D} {k : Int} : subOf (.int k) (some (.lst ds)) = if 0 <= k /\ k < 2 ^ 63 then ds[k.toNat]? else none := rfl
def stRS (env : Env) : Option Sto -> RS
 | some st => .nx env st
 | none => .stuck
@[simp] theorem ZB5 {env : Env} {st : Sto} : stRS env (some st) = .nx env st := rfl
def gAS2 (ob i : D) (env : Env) (r : R D) : RS := bindS r env fun z st3 => (match setD ob i z st3 with | some st4 => .nx env st4 | none => .stuck)
@[simp] theorem Zyu {ob i z : D} {env : Env} {st : Sto} : gAS2 ob i env (.ok z st) = stRS env (setD ob i z st) := by
 show (match setD ob i z st with | some st4 => RS.nx env st4 | none => .stuck) = _
 cases setD ob i z st <;> rfl
def gAS1 (o : D -> D -> Sto -> R D) (ob i d0 : D) (env : Env) (r : R D) : RS := bindS r env fun y st2 => gAS2 ob i env (o d0 y st2)
@[simp] theorem ZA5 {o : D -> D -> Sto -> R D} {ob i d0 y : D} {env : Env} {st : Sto} : gAS1 o ob i d0 env (.ok y st) = gAS2 ob i env (o d0 y st) := rfl
@[simp] theorem ZCF {o : D -> D -> Sto -> R D} {ob i d0 : D} {F : DE} {env : Env} {st : Sto} : augS o ob i F env st (some d0) = gAS1 o ob i d0 env (F env st) := rfl
def gAS0b (o : D -> D -> Sto -> R D) (ob : D) (F : DE) (env : Env) (r : R D) : RS := bindS r env fun i st2 => match ob with
 | .obj n => augS o (.obj n) i F env st2 (subOf i st2[n]?)
 | _ => .stuck
@[simp] theorem Zxi {o : D -> D -> Sto -> R D} {n : Nat} {F : DE} {env : Env} {i : D} {st : Sto} : gAS0b o (.obj n) F env (.ok i st) = augS o (.obj n) i F env st (subOf i st[n]?) := rfl
def gAS0 (o : D -> D -> Sto -> R D) (Fi F : DE) (env : Env) (r : R D) : RS := bindS r env fun ob st1 => gAS0b o ob F env (Fi env st1)
@[simp] theorem ZyI {o : D -> D -> Sto -> R D} {Fi F : DE} {env : Env} {ob : D} {st : Sto} : gAS0 o Fi F env (.ok ob st) = gAS0b o ob F env (Fi env st) := rfl
@[simp] theorem ZA1 {o : D -> D -> Sto -> R D} {Fo Fi F : DE} {env : Env} {st : Sto} : sSubA o Fo Fi F env st = gAS0 o Fi F env (Fo env st) := rfl
end Mi
namespace Mi
open PySem PySem.Spec PyProof.Rows L2
def andD : D -> D -> Sto -> R D
 | .int i, .int j, st => .ok (.int (Builtin.bitAnd i j)) st
 | _, _, _ => .stuck
def eCallE (ok : Nat -> Bool) (Φ : Fam) (F : DE) (G : DA) : DE := fun env st => (F env st).bind fun f st1 => match f with
 | .fn j => if ok j = true then (G env st1).bind fun ds st2 => Φ j ds st2 else .stuck
 | _ => .stuck
section
end
@[simp] theorem ZxP {i j : Int} {st : Sto} : andD (.int i) (.int j) st = .ok (.int (Builtin.bitAnd i j)) st := rfl
def fCE (ok : Nat -> Bool) (Φ : Fam) (G : DA) (env : Env) : R D -> R D
 | .ok (.fn j) st1 => if ok j = true then (G env st1).bind fun ds st2 => Φ j ds st2 else .stuck
 | .exc c fs st1 => .exc c fs st1
 | _ => .stuck
@[simp] theorem Zxj {ok : Nat -> Bool} {Φ : Fam} {F : DE} {G : DA} {env : Env} {st : Sto} : eCallE ok Φ F G env st = fCE ok Φ G env (F env st) := by
 unfold eCallE
 cases F env st with
 | stuck => rfl
 | exc => rfl
 | ok d st1 => cases d <;> rfl
@[simp] theorem ZCI {ok : Nat -> Bool} {Φ : Fam} {G : DA} {env : Env} {j : Nat} {st : Sto} : fCE ok Φ G env (.ok (.fn j) st) = if ok j = true then (G env st).bind fun ds st2 => Φ j ds st2 else .stuck := rfl
end Mi
namespace Mi
open PySem PySem.Spec PyProof.Rows L2
end Mi
namespace Mi
open PySem PySem.Spec PyProof.Rows L2 SrtO
section
variable {α β : Type} {lt : α -> α -> Bool}
/-- y behind all that it is not less than -/
def insK (lt : α -> α -> Bool) (y : α) : List α -> List α
 | [] => [y]
 | x :: l => if lt y x = true then y :: x :: l else x :: insK lt y l
def isortK (lt : α -> α -> Bool) (l : List α) : List α := l.foldl (fun acc y => insK lt y acc) []
end
mutual
/-- data without identity -/
def pdD : D -> Bool
 | .non => true
 | .bl _ => true
 | .int _ => true
 | .str _ => true
 | .tup ds => pdDs ds
 | _ => false
def pdDs : List D -> Bool
 | [] => true
 | d :: ds => pdD d && pdDs ds
end
def isIntD : D -> Bool | .int _ => true | _ => false
def isStrD : D -> Bool | .str _ => true | _ => false
def isIntT : D -> Bool | .tup (.int _ :: _) => true | _ => false
def isTupT : D -> Bool | .tup (.tup _ :: _) => true | _ => false
def keyOk (ks : List D) : Bool := ks.all pdD && (ks.all isIntD || ks.all isStrD || ks.all isIntT || ks.all isTupT)
/-- a < b of keys -/
def ltS (st : Sto) : D -> D -> Option Bool
 | .int i, .int j => some (decide (i < j))
 | .str x, .str y => some (decide (x.cps.toList < y.cps.toList))
 | .tup xs, .tup ys => ltP (.tup xs) (.tup ys) st
 | _, _ => none
def OrdOn (st : Sto) (ks : List D) : Prop := ∃ lt : D -> D -> Bool, Swo lt /\ ∀ a ∈ ks, ∀ b ∈ ks, ltS st a b = some (lt a b)
/-- stable; where reverse is told, those of one rank stay in their order too -/
def srtB (b : Bool) (lt : D -> D -> Bool) (l : List (D × D)) : List D :=
 if b = true then ((isortK (fun p q : D × D => lt p.1 q.1) l.reverse).map Prod.snd).reverse else (isortK (fun p q : D × D => lt p.1 q.1) l).map Prod.snd
open Classical in
noncomputable def sortR (b : Bool) (ks xs : List D) (st : Sto) : Option (List D) :=
 if xs.length < 2 then some xs else if keyOk ks = true /\ OrdOn st ks then some (srtB b (fun a c => (ltS st a c).getD false) (ks.zip xs)) else none
/-- the keys, one by one -/
def mapK (κ : List D -> Sto -> R D) : List D -> Sto -> R (List D)
 | [], st => .ok [] st
 | x :: xs, st => match κ [x] st with
  | .ok k st1 => (match mapK κ xs st1 with | .ok ks st2 => .ok (k :: ks) st2 | _ => .stuck)
  | _ => .stuck
/-- what may be sorted -/
def itemsOf (st : Sto) : D -> Option (List D)
 | .tup ds => some ds
 | .obj n => seqOf st n
 | _ => none
noncomputable def sortE (b : Bool) (ks xs : List D) (st : Sto) : R D := match sortR b ks xs st with | some out => new (.lst out) st | none => .stuck
noncomputable def sortRun (b : Bool) (κ : List D -> Sto -> R D) (xs : List D) (st : Sto) : R D := match mapK κ xs st with | .ok ks st1 => sortE b ks xs st1 | _ => .stuck
end Mi
namespace Mi
open PySem PySem.Spec PyProof.Rows L2 SrtO
/-- d stands there as u -/
def KV (g : Gd) (α : List Addr) (H : Hp) (d : D) (u : Value) : Prop := ∃ v, RD g α H d v /\ RelV v u
section
end
section
open PySem.SeqAt PySem.W
end
section
end
end Mi
namespace Mi
open PySem PySem.Spec PyProof.Rows L2 SrtO
section
variable {g : Gd} {α α' : List Addr} {H H' : Hp}
abbrev PKV (g : Gd) (α : List Addr) (H : Hp) : List D -> List Value -> Prop := Paired fun d u => KV g α H d u
theorem KV.mono (e : Ext α H α' H') {d : D} {u : Value} (h : KV g α H d u) : KV g α' H' d u := let ⟨v, a, b⟩ := h; ⟨v, a.mono e, b⟩
theorem PKV.mono (e : Ext α H α' H') : ∀ {ds : List D} {us : List Value}, PKV g α H ds us -> PKV g α' H' ds us
 | _, _, .nil => .nil
 | _, _, .cons h r => .cons (h.mono e) (PKV.mono e r)
theorem PKV.split : ∀ {ds : List D} {us : List Value}, PKV g α H ds us -> ∃ vs, RDs g α H ds vs /\ Vals vs us
 | _, _, .nil => ⟨[], RDs.nil, .nil⟩
 | _, _, .cons h r => by
  obtain ⟨v, h1, h2⟩ := h
  obtain ⟨vs, k1, k2⟩ := PKV.split r
  exact ⟨v :: vs, RDs.cons h1 k1, .cons h2 k2⟩
theorem PKV.snoc : ∀ {ds : List D} {us : List Value} {d : D} {u : Value}, PKV g α H ds us -> KV g α H d u -> PKV g α H (ds ++ [d]) (us ++ [u])
 | _, _, _, _, .nil, h => .cons h .nil
 | _, _, _, _, .cons h r, k => .cons h (PKV.snoc r k)
theorem PKV.at_ : ∀ {ds : List D} {us : List Value} {j : Nat} {u : Value}, PKV g α H ds us -> us[j]? = some u -> ∃ d, ds[j]? = some d /\ KV g α H d u
 | _, _, j, u, .nil, e => by simp at e
 | _, _, j, u, .cons h r, e => by
  cases j with
  | zero => simp at e; subst e; exact ⟨_, rfl, h⟩
  | succ j => simpa using PKV.at_ r (by simpa using e)
theorem PKV.zip : ∀ {ks xs : List D} {us vs : List Value}, PKV g α H ks us -> PKV g α H xs vs -> ∀ z ∈ (ks.zip xs).zip (us.zip vs), KV g α H z.1.1 z.2.1 /\ KV g α H z.1.2 z.2.2
 | _, _, _, _, .nil, _ => fun z hz => by simp at hz
 | _, _, _, _, .cons _ _, .nil => fun z hz => by simp at hz
 | _, _, _, _, .cons h r, .cons h' r' => fun z hz => by
  rw [List.zip_cons_cons, List.zip_cons_cons, List.zip_cons_cons] at hz
  rcases List.mem_cons.mp hz with e | hz
  ·rw [e]; exact ⟨h, h'⟩
  ·exact PKV.zip r r' z hz
theorem PKV.map {ι : Type} {f : ι -> D} {q : ι -> Value} : ∀ {l : List ι}, (∀ z ∈ l, KV g α H (f z) (q z)) -> PKV g α H (l.map f) (l.map q)
 | [], _ => .nil
 | z :: l, h => .cons (h z List.mem_cons_self) (PKV.map fun y hy => h y (List.mem_cons_of_mem _ hy))
end
section
end
end Mi
namespace Mi
open PySem PySem.Spec PyProof.Rows L2 SrtO
section
end
end Mi
namespace Mi
open PySem PySem.Spec PyProof.Rows L2 SrtO
section
end
section
variable {g : Gd} {X : Cx} {W : WX} {σ : L2.St} {α : List Addr} {H : Hp} {s : Shared} {st : Sto} {env : Env} {cs : List (Nat × Nat)} {k : Nat} {ok okn : Nat -> Bool} {Φ : Fam} {Ψ : Nat -> List Nat -> List D -> Sto -> R D} {b : Bool}
/-- how a key's def is called -/
def keyC (ok okn : Nat -> Bool) (cs : List (Nat × Nat)) (Φ : Fam) (Ψ : Nat -> List Nat -> List D -> Sto -> R D) (env : Env) : D -> List D -> Sto -> R D
 | .fn j => fun ds st => if ok j = true then callC cs (Φ j) env ds st else .stuck
 | .obj m => fun ds st => match st[m]? with | some (.clo _ _) => callC cs (callM okn Ψ m) env ds st | _ => .stuck
 | _ => fun _ _ => .stuck
def isCal : D -> Bool | .fn _ => true | .obj _ => true | _ => false
noncomputable def sortF (ok okn : Nat -> Bool) (cs : List (Nat × Nat)) (Φ : Fam) (Ψ : Nat -> List Nat -> List D -> Sto -> R D) (env : Env) (b : Bool) (x f : D) (st : Sto) : R D := match itemsOf st x with
 | some xs => if isCal f = true then sortRun b (keyC ok okn cs Φ Ψ env f) xs st else .stuck
 | none => .stuck
end
end Mi
namespace Mi
open PySem PySem.Spec PyProof.Rows L2 SrtO
noncomputable def eSort (ok okn : Nat -> Bool) (cs : List (Nat × Nat)) (Φ : Fam) (Ψ : Nat -> List Nat -> List D -> Sto -> R D) (b : Bool) (F Fk : DE) : DE := fun env st =>
 (F env st).bind fun x st1 => (Fk env st1).bind fun f st2 => sortF ok okn cs Φ Ψ env b x f st2
section
end
noncomputable def fSort2 (ok okn : Nat -> Bool) (cs : List (Nat × Nat)) (Φ : Fam) (Ψ : Nat -> List Nat -> List D -> Sto -> R D) (b : Bool) (x : D) (env : Env) : R D -> R D
 | .ok f st => sortF ok okn cs Φ Ψ env b x f st
 | .exc c fs st => .exc c fs st
 | .stuck => .stuck
noncomputable def fSort (ok okn : Nat -> Bool) (cs : List (Nat × Nat)) (Φ : Fam) (Ψ : Nat -> List Nat -> List D -> Sto -> R D) (b : Bool) (Fk : DE) (env : Env) : R D -> R D
 | .ok x st => fSort2 ok okn cs Φ Ψ b x env (Fk env st)
 | .exc c fs st => .exc c fs st
 | .stuck => .stuck
section
variable {ok okn : Nat -> Bool} {cs : List (Nat × Nat)} {Φ : Fam} {Ψ : Nat -> List Nat -> List D -> Sto -> R D} {b : Bool} {F Fk : DE} {env : Env} {st : Sto} {x f : D}
@[simp] theorem ZAf : eSort ok okn cs Φ Ψ b F Fk env st = fSort ok okn cs Φ Ψ b Fk env (F env st) := by
 unfold eSort
 cases F env st with
 | stuck => rfl
 | exc => rfl
 | ok d st1 =>
  show (Fk env st1).bind _ = fSort2 ok okn cs Φ Ψ b d env (Fk env st1)
  cases Fk env st1 <;> rfl
@[simp] theorem ZxE : fSort ok okn cs Φ Ψ b Fk env (.ok x st) = fSort2 ok okn cs Φ Ψ b x env (Fk env st) := rfl
@[simp] theorem Zu7 : fSort2 ok okn cs Φ Ψ b x env (.ok f st) = sortF ok okn cs Φ Ψ env b x f st := rfl
end
end Mi
namespace Mi
open PySem PySem.Spec PyProof.Rows L2
section
end
end Mi
namespace Mi
open PySem PySem.Spec PyProof.Rows L2
def sAsg2 (t t' : Tg) (F : DE) : DS := fun env st => bindS (F env st) env fun d st1 => match bindT t d env with
 | some env1 => (match bindT t' d env1 with | some env2 => .nx env2 st1 | none => .stuck)
 | none => .stuck
section
end
def gAsg2 (t t' : Tg) (env : Env) : R D -> RS
 | .ok d st1 => (match bindT t d env with | some env1 => (match bindT t' d env1 with | some env2 => .nx env2 st1 | none => .stuck) | none => .stuck)
 | .exc c fs st1 => .exc c fs env st1
 | .stuck => .stuck
@[simp] theorem ZyF {t t' : Tg} {F : DE} {env : Env} {st : Sto} : sAsg2 t t' F env st = gAsg2 t t' env (F env st) := by
 unfold sAsg2 gAsg2 bindS
 cases F env st <;> rfl
@[simp] theorem Zxr {i j : Nat} {env : Env} {d : D} {st : Sto} : gAsg2 (.nm i) (.nm j) env (.ok d st) = .nx ((env.set i (some d)).set j (some d)) st := rfl
end Mi
namespace Mi
open PySem PySem.Spec PyProof.Rows L2
section
end
def sUnl (is : List Nat) (F : DE) : DS := fun env st => bindS (F env st) env fun d st1 => match d with
 | .obj n => (match seqOf st1 n with | some ds => if ds.length = is.length then .nx (setAll env is ds) st1 else .stuck | none => .stuck)
 | _ => .stuck
section
end
section
end
def unl1 (is : List Nat) (env : Env) (st : Sto) : Option (List D) -> RS
 | some ds => if ds.length = is.length then .nx (setAll env is ds) st else .stuck
 | none => .stuck
def unl0 (is : List Nat) (env : Env) (r : R D) : RS := bindS r env fun d st1 => match d with
 | .obj n => unl1 is env st1 (seqOf st1 n)
 | _ => .stuck
@[simp] theorem ZCR {is : List Nat} {F : DE} {env : Env} {st : Sto} : sUnl is F env st = unl0 is env (F env st) := by
 unfold sUnl unl0
 congr 1
@[simp] theorem ZwP {is : List Nat} {env : Env} {n : Nat} {st : Sto} : unl0 is env (.ok (.obj n) st) = unl1 is env st (seqOf st n) := rfl
@[simp] theorem ZyV {is : List Nat} {env : Env} {c : Nat} {fs : List (Str × D)} {st : Sto} : unl0 is env (.exc c fs st) = .exc c fs env st := rfl
end Mi
namespace Mi
open PySem PySem.Spec PyProof.Rows L2
def lenBk : D -> Sto -> R D
 | .int n, st => if 0 <= n /\ n < 2 ^ 63 then .ok (.int n) st else .stuck
 | _, _ => .stuck
def strBk : D -> Sto -> R D
 | .str x, st => .ok (.str x) st
 | _, _ => .stuck
/-- a built-in that asks an own def first -/
def ownB (tb : Nat -> Option Nat) (m : Str) (Φ : Fam) (bk : D -> Sto -> R D) (o : List D -> Sto -> R D) : List D -> Sto -> R D
 | [d], st => match clsD tb m d st with
  | some i => (Φ i [d] st).bind bk
  | none => o [d] st
 | ds, st => o ds st
section
end
section
end
def fmtD : D -> Sto -> R D
 | .str y, st => if y.length <= sizeLine then .ok (.str y) st else .stuck
 | .int i, st => if i.natAbs.log2 < 1920 then .ok (.str (toString i)) st else .stuck
 | _, _ => .stuck
def joinD : List DE -> Str -> Env -> Sto -> R D
 | [], acc, _, st => .ok (.str acc) st
 | F :: Fs, acc, env, st => (F env st).bind fun d st1 => match d with
  | .str y => if (acc ++ y).length <= sizeLine then joinD Fs (acc ++ y) env st1 else .stuck
  | _ => .stuck
def eJoin (Fs : List DE) : DE := fun env st => joinD Fs Str.empty env st
section
end
section
variable {env : Env} {st : Sto} {tb : Nat -> Option Nat} {m : Str} {Φ : Fam} {bk : D -> Sto -> R D} {o : List D -> Sto -> R D}
@[simp] theorem Zuq {n : Int} : lenBk (.int n) st = if 0 <= n /\ n < 2 ^ 63 then .ok (.int n) st else .stuck := rfl
@[simp] theorem Zu4 {x : Str} : strBk (.str x) st = .ok (.str x) st := rfl
@[simp] theorem Zyf {d : D} : ownB tb m Φ bk o [d] st = match clsD tb m d st with
  | some i => (Φ i [d] st).bind bk
  | none => o [d] st := rfl
@[simp] theorem Zwv {y : Str} : fmtD (.str y) st = if y.length <= sizeLine then .ok (.str y) st else .stuck := rfl
@[simp] theorem Zx4 {i : Int} : fmtD (.int i) st = if i.natAbs.log2 < 1920 then .ok (.str (toString i)) st else .stuck := rfl
@[simp] theorem ZyU {Fs : List DE} : eJoin Fs env st = joinD Fs Str.empty env st := rfl
@[simp] theorem Zwg {acc : Str} : joinD [] acc env st = .ok (.str acc) st := rfl
end
def kgetD (kvs : List (Str × D)) : D -> Sto -> R D
 | .str x, st => match kvs.lookup x with
  | some d => .ok d st
  | none => .stuck
 | _, _ => .stuck
section
variable {g : Gd} {X : Cx} {W : WX}
theorem KEs.find {x : Str} {d : D} : ∀ {es : List DictEntry} {kvs : List (Str × D)}, KEs g es kvs -> kvs.lookup x = some d -> ∃ e v, es.find? (·.key.isStr x) = some e /\ RelV v e.val /\ ∀ α H, RD g α H d v
 | [], kvs, h, e => by cases h; cases e
 | e :: es, kvs, h, el => by
  obtain ⟨y, d', r, rfl, ⟨t, ek⟩, eh, ⟨v, rv, rd⟩, h2⟩ := h
  rw [List.lookup_cons] at el
  have hs : e.key.isStr x = (x == y) := by
   rw [ek, PySem.W.isStr_of]
   show (y == x) = (x == y)
   exact Bool.beq_comm
  cases hxy : x == y with
  | true =>
   rw [hxy] at el hs
   cases el
   exact ⟨e, v, by rw [List.find?_cons, hs], rv, rd⟩
  | false =>
   rw [hxy] at el hs
   obtain ⟨e', v', q1, q2, q3⟩ := KEs.find h2 el
   exact ⟨e', v', by rw [List.find?_cons, hs]; exact q1, q2, q3⟩
end
@[simp] theorem ZuA {kvs : List (Str × D)} {x : Str} {st : Sto} : kgetD kvs (.str x) st = match kvs.lookup x with
  | some d => .ok d st
  | none => .stuck := rfl
end Mi
namespace Mi
open PySem PySem.Spec PyProof.Rows L2
/-- enumerate of a text -/
def iEnumT (F : DE) : DIt := fun env st => (F env st).bind fun d st1 => match d with
 | .str x => .ok (numb (signs x), []) st1
 | _ => .stuck
def fEnT (r : R D) : R (List D × Wat) := r.bind fun d st1 => match d with
 | .str x => .ok (numb (signs x), []) st1
 | _ => .stuck
@[simp] theorem Zwr {F : DE} {env : Env} {st : Sto} : iEnumT F env st = fEnT (F env st) := rfl
@[simp] theorem Zyq {x : Str} {st : Sto} : fEnT (.ok (.str x) st) = .ok (numb (signs x), []) st := rfl
section
end
end Mi
namespace Mi
open PySem PySem.Spec PyProof.Rows L2 PySem.SeqAt
section
end
end Mi
namespace Mi
open PySem PySem.Spec PyProof.Rows L2
section
end
section
end
end Mi
namespace Mi
open PySem PySem.Spec PyProof.Rows L2
section
end
section
end
section
end
end Mi
namespace Mi
open PySem PySem.Spec PyProof.Rows L2
section
end
end Mi
namespace Mi
open PySem PySem.Spec PyProof.Rows L2
def isoO (T : Nat -> Option Bool) (o : Option Ob) (st : Sto) : R D := match o with
 | some (.ins c _) => (match T c with | some b => .ok (.bl b) st | none => .stuck)
 | _ => .stuck
def isoD (T : Nat -> Option Bool) (d : D) (st : Sto) : R D := match d with
 | .obj n => isoO T st[n]? st
 | _ => .stuck
@[simp] theorem ZwL {T : Nat -> Option Bool} {n : Nat} {st : Sto} : isoD T (.obj n) st = isoO T st[n]? st := rfl
@[simp] theorem Zxe {T : Nat -> Option Bool} {c : Nat} {fs : List (Str × D)} {st : Sto} : isoO T (some (.ins c fs)) st = match T c with | some b => .ok (.bl b) st | none => .stuck := rfl
section
end
end Mi
namespace Mi
open PySem PySem.Spec PyProof.Rows L2
def eqBk (d : D) (st : Sto) : R D := match d with
 | .bl b => .ok (.bl b) st
 | _ => .stuck
@[simp] theorem Zzv {b : Bool} {st : Sto} : eqBk (.bl b) st = .ok (.bl b) st := rfl
section
end
end Mi
namespace Mi
open PySem PySem.Spec PyProof.Rows L2
def replD (y z : Str) (d : D) (st : Sto) : R D := match d with
 | .str x => if x.length + (x.length + 1) * z.length <= 16777216 then .ok (.str (Txt.replace x y z)) st else .stuck
 | _ => .stuck
@[simp] theorem Zui {y z x : Str} {st : Sto} : replD y z (.str x) st = if x.length + (x.length + 1) * z.length <= 16777216 then .ok (.str (Txt.replace x y z)) st else .stuck := rfl
section
end
end Mi
namespace Mi
open PySem PySem.Spec PyProof.Rows L2
def bindU (i : Nat) (js : List Nat) (d : D) (env : Env) (st : Sto) : Option Env := match d with
 | .tup [a, .obj q] => (match seqOf st q with | some ds => if ds.length = js.length then some (setAll (env.set i (some a)) js ds) else none | none => none)
 | _ => none
section
end
section
end
def forU (w : Wat) (i : Nat) (js : List Nat) (B : DS) : List D -> Env -> Sto -> RS
 | [], env, st => if okW w st = true then .nx env st else .stuck
 | d :: ds, env, st => if okW w st = true then (match bindU i js d env st with
  | some env1 => (match B env1 st with
   | .nx env2 st2 => forU w i js B ds env2 st2
   | .ct env2 st2 => forU w i js B ds env2 st2
   | .bk env2 st2 => .nx env2 st2
   | r => r)
  | none => .stuck) else .stuck
def sForU (i : Nat) (js : List Nat) (I : DIt) (B : DS) : DS := fun env st => bindS (I env st) env fun p st1 => forU p.2 i js B p.1 env st1
section
end
def gForU (i : Nat) (js : List Nat) (A : DS) (env : Env) (r : R (List D × Wat)) : RS := bindS r env fun b st1 => forU b.2 i js A b.1 env st1
@[simp] theorem ZxQ {i : Nat} {js : List Nat} {A : DS} {env : Env} {b : (List D × Wat)} {st1 : Sto} : gForU i js A env (.ok b st1) = forU b.2 i js A b.1 env st1 := rfl
@[simp] theorem Zzw {i : Nat} {js : List Nat} {I : DIt} {B : DS} {env : Env} {st : Sto} : sForU i js I B env st = gForU i js B env (I env st) := rfl
end Mi
namespace Mi
open PySem PySem.Spec PyProof.Rows L2
section
end
section
end
end Mi
namespace Mi
open PySem PySem.Spec PyProof.Rows L2
section
end
end Mi
namespace Mi
open PySem L2
def compLX (w : Wat) (t : Tg) (C : DT) (F : DE) (env : Env) : List D -> Sto -> R (List D)
 | [], st => if okW w st = true then .ok [] st else .stuck
 | d :: ds, st => if okW w st = true then (match bindT t d env with
  | some env1 => (C env1 st).bind fun b st1 => if b = true then (F env1 st1).bind fun y st2 => (compLX w t C F env ds st2).bind fun ys st3 => .ok (y :: ys) st3 else compLX w t C F env ds st1
  | none => .stuck) else .stuck
def lCompX (vs : List Nat) (t : Tg) (I : DIt) (C : DT) (F : DE) : DA := fun env st => (I env st).bind fun p st1 => if p.1.length <= sizeLine then compLX p.2 t C F (wipeE env vs) p.1 st1 else .stuck
section
end
def fCompX (vs : List Nat) (t : Tg) (C : DT) (F : DE) (env : Env) (r : R (List D × Wat)) : R (List D) := r.bind fun p st1 => if p.1.length <= sizeLine then compLX p.2 t C F (wipeE env vs) p.1 st1 else .stuck
@[simp] theorem Zt0 {vs : List Nat} {t : Tg} {C : DT} {F : DE} {env : Env} {p : List D × Wat} {st1 : Sto} : fCompX vs t C F env (.ok p st1) = if p.1.length <= sizeLine then compLX p.2 t C F (wipeE env vs) p.1 st1 else .stuck := rfl
@[simp] theorem ZxB {vs : List Nat} {t : Tg} {I : DIt} {C : DT} {F : DE} {env : Env} {st : Sto} : lCompX vs t I C F env st = fCompX vs t C F env (I env st) := rfl
end Mi
namespace Mi
open PySem PySem.Spec PyProof.Rows L2 SrtO
section
end
end Mi
namespace Mi
open PySem PySem.Spec PyProof.Rows L2
def eMethC (cs : List (Nat × Nat)) (tb : Nat -> Option Nat) (m : Str) (Φ : Fam) (Fo : DE) (G : DA) : DE := fun env st => (Fo env st).bind fun o st1 => match clsD tb m o st1 with
 | some i => (G env st1).bind fun ds st2 => callC cs (Φ i) env (o :: ds) st2
 | none => .stuck
section
end
def fMethC2 (cs : List (Nat × Nat)) (φ : List D -> Sto -> R D) (o : D) (env : Env) (r : R (List D)) : R D := r.bind fun ds st2 => callC cs φ env (o :: ds) st2
def fMethC1 (cs : List (Nat × Nat)) (Φ : Fam) (o : D) (G : DA) (env : Env) (st1 : Sto) : Option Nat -> R D
 | some i => fMethC2 cs (Φ i) o env (G env st1)
 | none => .stuck
def fMethC (cs : List (Nat × Nat)) (tb : Nat -> Option Nat) (m : Str) (Φ : Fam) (G : DA) (env : Env) (r : R D) : R D := r.bind fun o st1 => fMethC1 cs Φ o G env st1 (clsD tb m o st1)
section
variable {cs : List (Nat × Nat)} {tb : Nat -> Option Nat} {m : Str} {Φ : Fam} {Fo : DE} {G : DA} {env : Env} {st st1 : Sto} {o : D} {ds : List D} {i : Nat} {φ : List D -> Sto -> R D}
@[simp] theorem ZwQ : eMethC cs tb m Φ Fo G env st = fMethC cs tb m Φ G env (Fo env st) := by
 unfold eMethC fMethC
 cases Fo env st with
 | stuck => rfl
 | exc => rfl
 | ok d st1 =>
  show (match clsD tb m d st1 with | some i => _ | none => _) = fMethC1 cs Φ d G env st1 (clsD tb m d st1)
  cases clsD tb m d st1 <;> rfl
@[simp] theorem Zwa : fMethC cs tb m Φ G env (.ok o st1) = fMethC1 cs Φ o G env st1 (clsD tb m o st1) := rfl
@[simp] theorem ZuT : fMethC1 cs Φ o G env st1 (some i) = fMethC2 cs (Φ i) o env (G env st1) := rfl
@[simp] theorem Zty : fMethC2 cs φ o env (.ok ds st1) = callC cs φ env (o :: ds) st1 := rfl
end
end Mi
namespace Mi
open PySem PySem.Spec PyProof.Rows L2
def setK : D -> D -> D -> Sto -> Option Sto
 | .obj n, a, d, st => match keyOf a, dicO st[n]? with
  | some k, some kvs => if kvs.length < 1000 then some (st.set n (.dic (putL kvs k d))) else none
  | _, _ => none
 | _, _, _, _ => none
def sSubK (F Fo Fi : DE) : DS := fun env st => bindS (F env st) env fun d st1 => bindS (Fo env st1) env fun o st2 => bindS (Fi env st2) env fun i st3 => match setK o i d st3 with | some st4 => .nx env st4 | none => .stuck
section
end
def fSubK3 (env : Env) : Option Sto -> RS | some st4 => .nx env st4 | none => .stuck
@[simp] theorem Zxx {env : Env} {st : Sto} : fSubK3 env (some st) = .nx env st := rfl
def fSubK2 (env : Env) (d o : D) : R D -> RS | .ok i st => fSubK3 env (setK o i d st) | .exc c fs st => .exc c fs env st | .stuck => .stuck
@[simp] theorem Zvh {env : Env} {d o i : D} {st : Sto} : fSubK2 env d o (.ok i st) = fSubK3 env (setK o i d st) := rfl
def fSubK1 (Fi : DE) (env : Env) (d : D) : R D -> RS | .ok o st => fSubK2 env d o (Fi env st) | .exc c fs st => .exc c fs env st | .stuck => .stuck
@[simp] theorem ZtK {Fi : DE} {env : Env} {d o : D} {st : Sto} : fSubK1 Fi env d (.ok o st) = fSubK2 env d o (Fi env st) := rfl
def fSubK (Fo Fi : DE) (env : Env) : R D -> RS | .ok d st => fSubK1 Fi env d (Fo env st) | .exc c fs st => .exc c fs env st | .stuck => .stuck
@[simp] theorem Zwt {Fo Fi : DE} {env : Env} {d : D} {st : Sto} : fSubK Fo Fi env (.ok d st) = fSubK1 Fi env d (Fo env st) := rfl
@[simp] theorem ZAG {F Fo Fi : DE} {env : Env} {st : Sto} : sSubK F Fo Fi env st = fSubK Fo Fi env (F env st) := by
 unfold sSubK fSubK
 cases F env st with
 | stuck => rfl
 | exc c fs st1 => rfl
 | ok d st1 =>
  show bindS (Fo env st1) env _ = fSubK1 Fi env d (Fo env st1)
  cases Fo env st1 with
  | stuck => rfl
  | exc c fs st2 => rfl
  | ok o st2 =>
   show bindS (Fi env st2) env _ = fSubK2 env d o (Fi env st2)
   cases Fi env st2 with
   | stuck => rfl
   | exc c fs st3 => rfl
   | ok i st3 =>
    show (match setK o i d st3 with | some st4 => _ | none => _) = fSubK3 env (setK o i d st3)
    cases setK o i d st3 <;> rfl
end Mi
namespace Mi
open PySem PySem.Spec PyProof.Rows L2
section
variable {X : Cx} {pins : List (Addr × Obj)} {σ : L2.St} {H : Hp} {a : Addr} {cls : Value} {d : Option Addr} {s : Shared}
theorem Cau.fresh (hf : X.env.frame = some X.env.locals) (c : Cau X pins σ H a cls d s) : (∀ p ∈ X.pn ++ pins, p.1 ≠ a) /\ ∀ o, X.s_0.heap.get? a = some o -> a ∈ X.ex := by
 obtain ⟨oe, vs, he, hz, hd⟩ := c.there
 obtain ⟨B, sI, J, nb, up, fl, na, os, ag⟩ := c
 have no : a ∉ frs (X.env :: X.outer) := fun hm => by
  obtain ⟨_, o, e, hn⟩ := fl.2.2.1.mem hm
  rw [he] at e
  cases e
  exact hn _ hd
 have sub : ∀ b, b ∈ frs X.stack -> b = X.env.locals \/ b ∈ X.fs := fun b hb => by
  rcases J.ok.stk with h | ⟨h, _⟩
  ·rw [h] at hb; exact .inr hb
  ·rw [h] at hb
   obtain ⟨e, h1, h2⟩ := List.mem_filterMap.mp hb
   rcases List.mem_cons.mp h1 with rfl | h1
   ·rw [hf] at h2; cases h2; exact .inl rfl
   ·exact .inr (List.mem_filterMap.mpr ⟨e, h1, h2⟩)
 have noS : a ∉ frs X.stack := fun hm => no (by
  rcases sub a hm with h | h
  ·exact List.mem_filterMap.mpr ⟨X.env, List.mem_cons_self, by rw [hf, h]⟩
  ·obtain ⟨e, h1, h2⟩ := List.mem_filterMap.mp h
   exact List.mem_filterMap.mpr ⟨e, List.mem_cons_of_mem _ h1, h2⟩)
 refine ⟨fun p hp z => ?_, fun o e => ?_⟩
 ·obtain ⟨e1, _, e3, e4, _⟩ := J.pin p hp
  have h := nb _ _ e1 fun hm => (sub _ hm).elim e3 e4
  rw [z, fl.2.1] at h
  cases h
 ·by_cases hx : a ∈ X.ex
  ·exact hx
  ·obtain ⟨o', q⟩ := J.base.there a o e hx
   have h := nb _ _ q noS
   rw [fl.2.1] at h
   cases h
theorem ZvA {P : Program} {w : World} {h : Heap} {oe : Obj} {vs : Array Value} {H' : Hp} (e : h.get? a = some oe) (z : Zc cls d oe) (dt : oe.data = .fields vs) : ObjOk P w H' h a (ExQ cls d a) :=
 ⟨⟨oe, vs, e, z, dt⟩, ⟨oe, e⟩, fun _ _ ⟨o, v, q, r⟩ k => ⟨o, v, k o q, r⟩⟩
end
section
variable {g : Gd} {X : Cx} {W : WX} {α : List Addr} {H : Hp} {st : Sto}
theorem StR.nxd (s : StR g α st H) {d : Addr} {vs : List (Str × V)} (h : H d = some (.xd vs)) : d ∉ α := fun hm => by
 obtain ⟨n, hn, e⟩ := List.getElem_of_mem hm
 have h1 : α[n]? = some d := by rw [List.getElem?_eq_getElem hn, e]
 have h2 : n < st.length := by rw [<- s.len]; exact hn
 have k := s.ob n d _ h1 (List.getElem?_eq_getElem h2)
 revert k
 cases st[n] with
 | lst ds => rintro ⟨_, z, _⟩; rw [h] at z; cases z
 | frz ds => rintro ⟨_, _, z, _⟩; rw [h] at z; cases z
 | dic ds => rintro ⟨_, z, _⟩; rw [h] at z; cases z
 | ins c fs => rintro ⟨_, _, _, _, z, _⟩; rw [h] at z; cases z
 | clo k ps => rintro ⟨_, _, _, _, z, _⟩; rw [h] at z; cases z
 | cel d => rintro ⟨_, _, z, _⟩; rw [h] at z; cases z
 | pnd => rintro ⟨_, z⟩; rw [h] at z; cases z
 | tbl j => rintro ⟨_, _, _, z, _⟩; rw [h] at z; cases z
 | xcp c fs => rintro ⟨_, _, _, z, _⟩; rw [h] at z; cases z
theorem XR.kept (s : StR g α st H) {c : Nat} {fs : List (Str × D)} {cls : Value} {dx : Option Addr} {a : Addr} (ha : H a = none) (h : XR g α H c fs cls dx) : StR g (α ++ [a]) (st ++ [.xcp c fs]) (upd H a (ExQ cls dx a)) := by
 obtain ⟨C, h1, rfl, h3⟩ := h
 have x := Zem s ha (ExQ (.ref C) dx a)
 refine s.alloc ha ⟨C, dx, h1, upd_same, h3.imp id fun ⟨d, vs, k1, k2, k3⟩ => ?_⟩
 have nd := s.nxd k2
 exact ⟨d, vs, k1, x.keep _ _ k2 nd, x.fresh k2 nd, k3.mono x⟩
/-- `except .. as n: x = n`: n's slot is i, x's is j -/
def aKeep (i j : Nat) : Act := fun c fs env st => .nx (((env.set i none).set j (some (.obj st.length))).set i none) (st ++ [.xcp c fs])
end
def tXo (K : PySem.W.Frag) (f : Str) (te : TE) : TE := fun σ H Q => te σ H fun x H1 => ∃ (C a dd : Addr) (fs : List (Str × V)) (v : V), XfC K C /\ PySem.W.findIn K (.ref C) f = some none /\ x = .ref a /\ H1 a = some (ExQ (.ref C) (some dd) a) /\ H1 dd = some (.xd fs) /\ fs.lookup f = some v /\ Q v H1
theorem Zyt {X : Cx} {e : Expr} {te : TE} {pos : Pos} {n : Str} (he : PE X e te) (hb : attributeBase e n X.env (eval e X.env) = eval e X.env := by rfl) : PE X (.Attribute e n pos) (tXo X.K n te) := by
 refine ⟨fun pins s σ H Q I h => ?_⟩
 refine attr_of hb (thn (he.run pins s σ H _ I h) fun u s1 hh => ?_)
 obtain ⟨x, H1, I1, rx, C, a, dd, fs, v, T, hno, ex, e1, e2, l, q⟩ := hh
 subst ex
 obtain rfl : u = Value.ref a := rx
 obtain ⟨⟨oe, vs, ha, hz, hd⟩, _⟩ : ObjOk X.prog X.w H1 s1.heap a (ExQ (.ref C) (some dd) a) := I1.hok a _ e1
 have hx : ObjOk X.prog X.w H1 s1.heap dd (.xd fs) := I1.hok dd _ e2
 obtain ⟨mA, hns, hr⟩ := hx
 obtain ⟨od, ho, hl⟩ := lookIn_ns hns
 obtain ⟨u, hu, ru⟩ := RelO.some_of (v := v) (o := mA n) (by rw [<- l]; exact hr n)
 have J : PySem.W.InstAt s1.heap a oe C (some od) := ⟨ha, hz.1, by unfold PySem.W.notCls; rw [hd] <;> rfl, by rw [hz.2]; exact ho⟩
 exact HandSPX.exc_get I1.kIn J T.ga T.gg T.exC (PySem.W.findObj_own T.hdC hno rfl (by rw [hl, hu])) (handed_of ru) ⟨v, H1, I1.tok _, ru, q⟩
def xoF (o : Option D) (st : Sto) : R D := match o with | some d => .ok d st | none => .stuck
def xoO (sel : Nat -> Option Bool) (f : Str) (o : Option Ob) (st : Sto) : R D := match o with
 | some (.xcp c fs) => if sel c = some true then xoF (fs.lookup f) st else .stuck
 | _ => .stuck
def xoD (sel : Nat -> Option Bool) (f : Str) (d : D) (st : Sto) : R D := match d with
 | .obj n => xoO sel f st[n]? st
 | _ => .stuck
@[simp] theorem ZDi {d : D} {st : Sto} : xoF (some d) st = .ok d st := rfl
@[simp] theorem ZDe {sel : Nat -> Option Bool} {f : Str} {c : Nat} {fs : List (Str × D)} {st : Sto} : xoO sel f (some (.xcp c fs)) st = if sel c = some true then xoF (fs.lookup f) st else .stuck := rfl
@[simp] theorem Zyx {sel : Nat -> Option Bool} {f : Str} {n : Nat} {st : Sto} : xoD sel f (.obj n) st = xoO sel f st[n]? st := rfl
@[simp] theorem Zzc {i j c : Nat} {fs : List (Str × D)} {env : Env} {st : Sto} : aKeep i j c fs env st = .nx (((env.set i none).set j (some (.obj st.length))).set i none) (st ++ [.xcp c fs]) := rfl
section
variable {g : Gd} {X : Cx} {W : WX} {α : List Addr} {H : Hp} {st : Sto}
theorem StR.xcp (s : StR g α st H) {n c : Nat} {fs : List (Str × D)} {v : V} (r : RD g α H (.obj n) v) (e : st[n]? = some (.xcp c fs)) : ∃ a, v = .ref a /\ XcR g α H a c fs := by
 obtain ⟨a, rfl, h1, _⟩ := r
 exact ⟨a, rfl, s.ob n a _ h1 e⟩
theorem Zja (hK : X.K = g.K) {sel : Nat -> Option Bool} {f : Str} {e : Expr} {Fe : DE} {pos : Pos} (he : OE g X W e Fe) (ok : XfOk g sel f) (hb : attributeBase e f X.env (eval e X.env) = eval e X.env := by rfl) :
  OE g X W (.Attribute e f pos) (e1 (xoD sel f) Fe) :=
 ofE (Zyt he hb) fun σ H Q ⟨α, env, st, hE, hS, p⟩ => by
  refine tE.run hE hS (p.bind.imp fun d1 st1 α1 H1 x1 s1 q v1 r1 => ?_)
  unfold xoD at q
  split at q
  ·rename_i n
   unfold xoO at q
   split at q
   ·rename_i c fs e1
    split at q
    ·rename_i ht
     obtain ⟨a, rfl, C, dx, h1, h2, h3⟩ := s1.xcp r1 e1
     obtain ⟨T1, T2⟩ := ok c C h1 ht
     unfold xoF at q
     split at q
     ·rename_i d ed
      rcases h3 with ⟨rfl, _⟩ | ⟨dd, vs, k1, k2, k3, k4⟩
      ·simp at ed
      ·subst k1
       obtain ⟨v, e6, e7⟩ := k4.at ed
       exact ⟨C, a, dd, vs, v, by rw [hK]; exact T1, by rw [hK]; exact T2, rfl, h2, k2, e6, q.ok s1 v e7⟩
     ·exact q.elim
    ·exact q.elim
   ·exact q.elim
  ·exact q.elim
end
end Mi
namespace Mi
open PySem PySem.Spec PyProof.Rows L2
section
variable {pg : Program} {wd : World} {A : Around} {E : Value -> Shared -> Prop} {s : Shared} {K : PySem.W.Frag} {x D : Addr} {ox : Obj} {od : Option Obj}
theorem clsRow (h : PySem.W.hasDictIn K D = true) : ∃ c d cd sl, K.lookup D = some ⟨c, d, .cls cd, sl⟩ /\ PySem.W.clsIn K D = some cd := by
 obtain ⟨z, e, _⟩ := PySem.W.any_some h
 have e2 := e
 unfold PySem.W.clsIn at e2
 split at e2
 ·rename_i ho; cases e2; exact ⟨_, _, _, _, ho, e⟩
 ·cases e2
theorem xfind (c : ExcC K D) : PySem.W.findObj K D od "__class__" = some (.bind (.builtin "getset_descriptor.__get__") (.builtin "object.__class__")) := by
 obtain ⟨_, _, cd, _, _, e⟩ := clsRow c.hd
 unfold PySem.W.findObj
 rw [e, Option.bind_some, c.ha, Option.bind_some]
 simp [c.hn, c.ht]
theorem Zlg {Q : Option Value -> Shared -> Prop} (c : ExcC K D) (X : K.In s.heap) (I : PySem.W.InstAt s.heap x ox D od) (h : Q (some (.ref D)) { s with toks := s.toks + 1 }) : wpAny (model pg wd) A (getAttr? (.ref x) "__class__") Q E s := by
 obtain ⟨hp, g, d, t, os⟩ := s
 have t0 := I.type (M := model pg wd)
 have t1 := PySem.W.looks_findIn (M := model pg wd) X c.hg
 have t2 := PySem.W.looks_findIn (M := model pg wd) X c.hk
 have t3 := PySem.W.looks_find (M := model pg wd) X I (xfind c)
 have below : PySem.W.Looks (model pg wd) hp (isInstance (.ref x) (.type "BaseException")) true := t0.andThen (PySem.W.looks_subIn X c.hs)
 have no0 : (false && onTheHeap (Value.builtin "BaseException.__getattribute__")) = false := rfl
 have no2 : (Value.builtin "BaseException.__getattribute__" == Value.builtin "object.__getattribute__") = false := by decide +kernel
 have no1 : (onTheHeap (Value.ref D) && Value.builtin "BaseException.__getattribute__" == Value.builtin "object.__getattribute__") = false := by rw [no2]; rfl
 unfold getAttr? getAttrBy? getAttrBy; refine wpAny_bind (wpAny_mkText (wpAny_bind (wpAny_attempt (wpAny_holding (wpAny_bind (t0.at (wpAny_bind (t1.at ?_))))))))
 show wpAny _ _ (if (onTheHeap (Value.ref D) && Value.builtin "BaseException.__getattribute__" == Value.builtin "object.__getattribute__") = true then _ else _) _ _ _; rw [no1, if_neg Bool.false_ne_true]
 unfold getAttrByItsOwn hookBefore; refine wpAny_bind ?_; rw [if_pos (show onTheHeap (Value.ref D) = true from rfl)]
 refine t2.at ?_; refine wpAny_bind (wpAny_attempt (wpAny_holding ?_)); unfold callGetattribute; rw [no0, if_neg Bool.false_ne_true]
 unfold boundAndCalled; rw [PySem.F.excAttr_ValueError.ga.bind (.ref x)]; refine wpAny_bind (wpAny_pure ?_)
 show wpAny _ _ (call (.builtin "BaseException.__getattribute__") [.ref x, .str "__class__" t]) _ _ _; refine wpAny_call (codeAny_call_builtin PySem.F.excAttr_ValueError.ga.plain PySem.F.entry_bexc_ga ?_)
 refine @PySem.W.check_slot (model pg wd) _ _ ⟨hp, g, d, t + 1, os⟩ "BaseException.__getattribute__" "BaseException" "__getattribute__" (.ref x) [.str "__class__" t] [] _ (by decide +kernel) (by decide +kernel) below (PySem.F.args_bexc_ga (.ref x) (.str "__class__" t)) ?_
 unfold Builtin.«object.__getattribute__»; refine wpAny_bind (wpAny_of_eq (a := ((Value.ref x : Value), [Value.str "__class__" t])) (by first | rfl | (simp only [slotArgs]; rfl)) ?_)
 refine wpAny_bind (wpAny_pure (wpAny_bind (t0.at (wpAny_bind (t3.at ?_)))))
 show wpAny _ _ (holding [Value.builtin "object.__class__"] (call (.builtin "getset_descriptor.__get__") [.builtin "object.__class__", .ref x, .ref D]) >>= ret) _ _ _; refine wpAny_bind (wpAny_holding (wpAny_call (PySem.W.class_get (s := ⟨hp, g, d, t + 1, os⟩) (ox := ox) (od := od) X I c.hm ?_)))
 refine wpAny_pure ?_; show wpAny _ _ (handedOut (.ref D)) _ _ _; rw [PySem.W.handedOut_of (v := .ref D) rfl]
 first
  | exact wpAny_pure (wpAny_pure h)
  | exact wpAny_pure h
  | exact wpAny_pure (wpAny_bind (wpAny_pure (wpAny_pure h)))
theorem Zju (c : ExcC K D) : PySem.W.KitX K (.ref x) (.ref D) (fun h => PySem.W.InstAt h x ox D od) where
 ty _ _ _ I := I.type
 it _ _ X _ := by
  obtain ⟨_, _, _, _, ho, _⟩ := clsRow c.hd
  intro A' Q' E' s' k q
  unfold isType loadHead; exact wpAny_bind (wpAny_loadPart (k _ _ (X _ _ ho)) (wpAny_pure q))
 ne h tp dd its n sl X htp := by
  obtain ⟨_, _, _, _, ho, _⟩ := clsRow c.hd
  cases z : ((Value.ref D : Value) == .ref tp) with
  | false => rfl
  | true =>
   have e := Value.ref.inj (beq_iff_eq.mp z)
   subst e
   cases (X _ _ ho).symm.trans htp
 ca X I k := Zlg c X I k
end
structure XcIs (K : PySem.W.Frag) (C : Addr) (us : List Value) (b : Bool) : Prop where
 ex : ExcC K C
 kt : PySem.W.kitAny K (.ref C) us = some b
theorem kit1 {K : PySem.W.Frag} {C : Addr} {u : Value} {b : Bool} (h : PySem.W.kitOne K (.ref C) u = some b) : PySem.W.kitAny K (.ref C) [u] = some b :=
 kitAny_cons h (fun e => by rw [e] <;> rfl) (fun e => e)
theorem kit1' {K : PySem.W.Frag} {C : Addr} {u : Value} {b : Bool} (h : PySem.W.kitAny K (.ref C) [u] = some b) : PySem.W.kitOne K (.ref C) u = some b := by
 unfold PySem.W.kitAny at h
 split at h
 ·rename_i e; rw [e]; exact h
 ·rename_i e; rw [e]; exact h
 ·cases h
def XcT (g : Gd) (T : Nat -> Option Bool) (us : List Value) : Prop := ∀ k C b, T k = some b -> g.ca k = some C -> XcIs g.K C us b
def xisO (T : Nat -> Option Bool) (o : Option Ob) (st : Sto) : R D := match o with
 | some (.xcp c _) => (match T c with | some b => .ok (.bl b) st | none => .stuck)
 | _ => .stuck
def xisD (T : Nat -> Option Bool) (d : D) (st : Sto) : R D := match d with
 | .obj n => xisO T st[n]? st
 | _ => .stuck
@[simp] theorem Zw6 {T : Nat -> Option Bool} {n : Nat} {st : Sto} : xisD T (.obj n) st = xisO T st[n]? st := rfl
@[simp] theorem ZBR {T : Nat -> Option Bool} {c : Nat} {fs : List (Str × D)} {st : Sto} : xisO T (some (.xcp c fs)) st = match T c with | some b => .ok (.bl b) st | none => .stuck := rfl
/-- x is a kept exception of class C, u a class or a tuple of classes -/
def rXis (K : PySem.W.Frag) : List V -> Hp -> VK -> Prop := fun xs H Q => ∃ (a C : Addr) (dx : Option Addr) (c : V) (us : List Value) (b : Bool), xs = [.ref a, c] /\ H a = some (ExQ (.ref C) dx a) /\ (∀ d, dx = some d -> ∃ vs, H d = some (.xd vs)) /\ XcIs K C us b /\
 ((∃ u, us = [u] /\ ClsV c u) \/ ∃ tp cs, c = .ref tp /\ H tp = some (.tup cs) /\ Paired ClsV cs us) /\ Q (.bl b) H
section
variable {X : Cx}
theorem Zjx : CallR X (.builtin "isinstance") (rXis X.K) := by
 intro pins s σ H xs vs Q I r h
 obtain ⟨a, C, dx, c, us, b, rfl, ha, hd, ⟨ec, kt⟩, hc, q⟩ := h
 obtain ⟨u1, u2, rfl, r1, r2⟩ := vals2 r
 cases (show u1 = Value.ref a from r1)
 obtain ⟨⟨oe, ws, e1, e2, e3⟩, _⟩ : ObjOk X.prog X.w H s.heap a (ExQ (.ref C) dx a) := I.hok a _ ha
 obtain ⟨od, J⟩ : ∃ od, PySem.W.InstAt s.heap a oe C od := by
  have nc : PySem.W.notCls oe = true := by unfold PySem.W.notCls; rw [e3] <;> rfl
  cases dx with
  | none => exact ⟨none, ⟨e1, e2.1, nc, by rw [e2.2]; trivial⟩⟩
  | some d =>
   obtain ⟨fs, hf⟩ := hd d rfl
   obtain ⟨mA, hns, _⟩ : ObjOk X.prog X.w H s.heap d (.xd fs) := I.hok d _ hf
   obtain ⟨o, ho, _⟩ := lookIn_ns hns
   exact ⟨some o, ⟨e1, e2.1, nc, by rw [e2.2]; exact ho⟩⟩
 rcases hc with ⟨u, rfl, k⟩ | ⟨tp, cs, rfl, ht, k⟩
 ·have e := k.eq r2
  subst e
  exact PySem.W.kia_one (Zju ec) I.kIn J (kit1' kt) (fun z => nomatch z) fun tk => ⟨.bl b, H, I.tok tk, rfl, q⟩
 ·cases (show u2 = Value.ref tp from r2)
  obtain ⟨_, its, rv, o, h1, h2, n, h3⟩ := (show ObjOk X.prog X.w H s.heap tp (.tup cs) from I.hok tp _ ht)
  have e := ClsV.all k rv
  subst e
  obtain ⟨oc, od, dt, sl⟩ := o
  dsimp only at h2 h3
  subst h2 h3
  exact PySem.W.kia_tup (Zju ec) I.kIn J h1 kt (fun z => nomatch z) fun tk => ⟨.bl b, H, I.tok tk, rfl, q⟩
end
section
variable {g : Gd} {X : Cx} {W : WX} {α : List Addr} {H : Hp} {st : Sto}
theorem ZmS (c : Ck g X W) {T : Nat -> Option Bool} {us : List Value} (hT : XcT g T us) {n : Nat} {d : D} {v : V} (s : StR g α st H) (r : RD g α H d v) (h : d = .obj n) {k : Nat} {fs : List (Str × D)} (e : st[n]? = some (.xcp k fs)) {b : Bool} (hb : T k = some b) :
  ∃ a C dx, v = .ref a /\ H a = some (ExQ (.ref C) dx a) /\ (∀ d, dx = some d -> ∃ vs, H d = some (.xd vs)) /\ XcIs g.K C us b := by
 subst h
 obtain ⟨a, rfl, C, dx, h1, h2, h3⟩ := s.xcp r e
 refine ⟨a, C, dx, rfl, h2, fun d z => ?_, hT k C b hb h1⟩
 rcases h3 with ⟨_, rfl⟩ | ⟨dd, vs, rfl, k2, _⟩
 ·cases z
 ·cases z; exact ⟨vs, k2⟩
theorem ZcY (c : Ck g X W) {T : Nat -> Option Bool} {a : Expr} {Fa : DE} {x : Str} {D : Addr} {p p2 pos : Pos} (ha : OE g X W a Fa) (hx : g.mg x = some (.ref D)) (hT : XcT g T [.ref D]) (hb : bootBuiltins "isinstance" = some (.builtin "isinstance")) (hm1 : g.mg "isinstance" = none) (hg1 : L2.Gl X "isinstance" := by rfl) (hg2 : L2.Gl X x := by rfl)
  (hdb : (x == ("__debug__" : Str)) = false := by decide) (he : starEach [a, .Name x p2] X.env = (false, eval a X.env) :: starEach [.Name x p2] X.env := by rfl) : OE g X W (.Call (.Name "isinstance" p) [a, .Name x p2] [] pos) (e1 (xisD T) Fa) :=
 ofE (pe_callB Zjx hg1 (by rw [c.hmg]; exact hm1) hb (pa_cons ha (pa_cons (pe_glob (v := .ref D) hg2 (by rw [c.hmg]; exact hx) rfl hdb) pa_nil (by rfl)) he) (by decide) (by decide) he (by rfl)) fun σ H Q ⟨α, env, st, hE, hS, p⟩ => by
  refine tE.run hE hS (p.bind.imp fun d1 st1 α1 H1 x1 s1 q v1 r1 => ?_)
  unfold xisD at q
  split at q
  ·rename_i n
   unfold xisO at q
   split at q
   ·rename_i k fs e
    split at q
    ·rename_i b e2
     obtain ⟨a1, C, dx, rfl, h1, h2, h3⟩ := ZmS c hT s1 r1 rfl e e2
     exact ⟨a1, C, dx, .ref D, _, b, rfl, h1, h2, by rw [c.hK]; exact h3, .inl ⟨_, rfl, .own D⟩, q.ok s1 _ rfl⟩
    ·exact q.elim
   ·exact q.elim
  ·exact q.elim
theorem ZhO (c : Ck g X W) {T : Nat -> Option Bool} {a : Expr} {Fa : DE} {x : Str} {ty : String} {p p2 pos : Pos} (ha : OE g X W a Fa) (hv : bootBuiltins x = some (.type ty)) (hT : XcT g T [.type ty]) (hb : bootBuiltins "isinstance" = some (.builtin "isinstance")) (hm1 : g.mg "isinstance" = none) (hm2 : g.mg x = none) (hg1 : L2.Gl X "isinstance" := by rfl) (hg2 : L2.Gl X x := by rfl)
  (hn : x ≠ "__name__" := by decide) (hdb : (x == ("__debug__" : Str)) = false := by decide) (he : starEach [a, .Name x p2] X.env = (false, eval a X.env) :: starEach [.Name x p2] X.env := by rfl) : OE g X W (.Call (.Name "isinstance" p) [a, .Name x p2] [] pos) (e1 (xisD T) Fa) :=
 ofE (pe_callB Zjx hg1 (by rw [c.hmg]; exact hm1) hb (pa_cons ha (pa_cons (pe_bltn (v := .ty ty) hg2 (by rw [c.hmg]; exact hm2) hv rfl hn hdb) pa_nil (by rfl)) he) (by decide) (by decide) he (by rfl)) fun σ H Q ⟨α, env, st, hE, hS, p⟩ => by
  refine tE.run hE hS (p.bind.imp fun d1 st1 α1 H1 x1 s1 q v1 r1 => ?_)
  unfold xisD at q
  split at q
  ·rename_i n
   unfold xisO at q
   split at q
   ·rename_i k fs e
    split at q
    ·rename_i b e2
     obtain ⟨a1, C, dx, rfl, h1, h2, h3⟩ := ZmS c hT s1 r1 rfl e e2
     exact ⟨a1, C, dx, .ty ty, _, b, rfl, h1, h2, by rw [c.hK]; exact h3, .inl ⟨_, rfl, .ty ty⟩, q.ok s1 _ rfl⟩
    ·exact q.elim
   ·exact q.elim
  ·exact q.elim
end
end Mi
namespace Mi
open PySem PySem.Spec PyProof.Rows L2
section
variable {X : Cx} {pins : List (Addr × Obj)} {σ : L2.St} {H : Hp} {s s' : Shared}
theorem Inv.gens (I : Inv X pins σ H s) (hh : s'.heap = s.heap) (os : s'.os = s.os) (ag : AllBare s'.gens) : Inv X pins σ H s' :=
 ⟨I.ok, os.trans I.os, ag, by rw [hh]; exact I.base, by rw [hh]; exact I.loc, by rw [hh]; exact I.cell, I.free, I.freeC, by rw [hh]; exact I.pin, by rw [hh]; exact I.hok, I.len⟩
/-- what makes an exception, taken as a value -/
theorem Ztc {e : Expr} {t : L2.St -> Hp -> XK -> Prop} (he : PMk X e t) : PE X e (fun σ H Q => t σ H fun cls d H' => ∀ a, H' a = none -> Q (.ref a) (upd H' a (ExQ cls d a))) := by
 refine ⟨fun pins s σ H Q I h => wpAny_mono (he pins s σ H _ I h) (fun u s1 hu => ?_) fun _ _ x => x⟩
 obtain ⟨a, oe, vs, sI, H', cls, d, rfl, J, k, hne, ha, hz, hd, h1, na, os, ag, r, q⟩ := hu
 exact ⟨.ref a, upd H' a (ExQ cls d a), Inv.gens (J.laidN (h' := s1.heap) (t' := sI.toks) k hne na (ZvA ha hz hd)) rfl os ag, rfl, q a na⟩
end
/-- C("text") of a class without fields -/
def eXv0 (cc : Nat) : DE := fun _ st => .ok (.obj st.length) (st ++ [.xcp cc []])
/-- C(e), kept in field f -/
def eXv1 (cc : Nat) (f : Str) (F : DE) : DE := fun env st => (F env st).bind fun d st1 => .ok (.obj st1.length) (st1 ++ [.xcp cc [(f, d)]])
section
variable {g : Gd} {X : Cx} {W : WX} {pos : Pos} {α : List Addr} {H : Hp} {st : Sto}
theorem XR.val (s : StR g α st H) {c : Nat} {fs : List (Str × D)} {cls : Value} {dx : Option Addr} (h : XR g α H c fs cls dx) {σ : L2.St} {Q : VK} (q : PD g W σ α H (.ok (.obj st.length) (st ++ [.xcp c fs])) Q) :
  ∀ a, H a = none -> Q (.ref a) (upd H a (ExQ cls dx a)) := fun a ha => by
 have s2 := XR.kept s ha h
 exact q (α ++ [a]) _ (Zem s ha (ExQ cls dx a)) s2 _ ⟨a, rfl, by rw [<- s.len]; simp, by rw [upd_same]; exact Zwc⟩
theorem Zi9 (c : Ck g X W) {cc : Nat} {C : Addr} {bmB : List Value} {B newId initId : String} (hC : g.ca cc = some C) {x m : Str} {j : Nat} {p p2 p3 : Pos} (F : ExcBaseFacts B newId initId bmB) (q : PySem.W.excIn g.K C bmB newId = true) (gC : g.mg x = some (.ref C)) (kC : PySem.W.keepIn g.K (.ref C) = true)
  (h1 : PySem.W.subIn g.K (.ref C) (.type "BaseException") = some true) (h2 : PySem.W.typeIn g.K (.ref C) = some (.type "type")) (hg : L2.Gl X x := by rfl) (hdb : (x == ("__debug__" : Str)) = false := by decide) :
  OE g X W (.Call (.Name x p) [.Constant (.str m) j p2] [] p3) (eXv0 cc) :=
 ofE (Ztc (pmk_own F (by rw [c.hK]; exact q) (by rw [c.hmg]; exact gC) (by rw [c.hK]; exact kC) (raises_own (by rw [c.hK]; exact h1) (by rw [c.hK]; exact h2)) hg hdb)) fun σ H Q ⟨α, env, st, hE, hS, p⟩ =>
  XR.val hS ⟨C, hC, rfl, .inl ⟨rfl, rfl⟩⟩ p
/-- the store behind a make, its exception taken out -/
theorem ZkD {H1 : Hp} {a dx : Addr} {o o1 o2 o3 : HO} (ha : H1 a = none) : upd (del (upd (upd (upd H1 a o) dx o1) a o2) a) dx o3 = upd H1 dx o3 := by
 funext b
 by_cases hb1 : b = dx
 ·rw [hb1, upd_same, upd_same]
 ·rw [upd_ne hb1, upd_ne hb1]
  by_cases hb2 : b = a
  ·rw [hb2, del_same, ha]
  ·rw [del_ne hb2, upd_ne hb2, upd_ne hb1, upd_ne hb2]
theorem ZdQ (c : Ck g X W) {cc k : Nat} {C fI : Addr} {f x p1 p2 : Str} {fd : FuncData} {e : Expr} {F : DE} {p p3 : Pos} (hC : g.ca cc = some C) (T : OexC g.K C) (iC : PySem.W.findIn g.K (.ref C) "__init__" = some (some (.ref fI))) (tI : PySem.W.typeIn g.K (.ref fI) = some (.type "function"))
  (F1 : FnOk g.P g.w g.K g.mg g.base (L2.CX g.P g.w) k fI fd [p1, p2] (spX C f)) (hr : Room (k + 1) X.A) (hb : Binds g.K fd [p1, p2] []) (hm : g.mg x = some (.ref C)) (h : OE g X W e F) (hg : L2.Gl X x := by rfl) (hdb : (x == ("__debug__" : Str)) = false := by decide)
  (he : starEach [e] X.env = (false, eval e X.env) :: starEach [] X.env := by rfl) (hpl : (backTo p3 (starEach [] X.env)).any (·.1) = false := by rfl) : OE g X W (.Call (.Name x p) [e] [] p3) (eXv1 cc f F) := by
 have F2 : FnOk X.prog X.w X.K X.mg X.base (L2.CX X.prog X.w) k fI fd [p1, p2] (spX C f) := by rw [c.hP, c.hw, c.hK, c.hmg, c.hb]; exact F1
 refine ofE (Ztc (pmk_oex (by rw [c.hK]; exact T) (by rw [c.hK]; exact iC) (by rw [c.hK]; exact tI) F2 hr (by rw [c.hK]; exact hb) (dvs := []) .nil (ZgJ ZjE) hg (by rw [c.hmg]; exact hm) (pa_cons h pa_nil he) hdb he hpl)) fun σ H Q ⟨α, env, st, hE, hS, q⟩ => ?_
 refine tE.run hE hS (q.bind.imp fun d st1 α1 H1 x1 s1 q1 v r => ?_)
 refine ⟨by simp, fun a ha => ⟨a, v, rfl, upd_same, fun dx h1 h2 => ⟨rfl, dx, [(f, v)], upd_same, ?_, ?_, ?_⟩⟩⟩
 ·rw [upd_ne h2, upd_same]
 ·rw [upd_ne h2] at h1; exact h1
 ·have h3 : H1 dx = none := by rw [upd_ne h2] at h1; exact h1
  rw [ZkD ha]
  have ex := Zcj s1 h3 (.xd [(f, v)])
  exact XR.val (fs := [(f, d)]) (s1.temp h3 _) ⟨C, hC, rfl, .inr ⟨dx, [(f, v)], rfl, upd_same, ⟨v, [], rfl, r.mono ex, rfl⟩⟩⟩ (Post.mono ex q1)
theorem Zjp (c : Ck g X W) {cc k : Nat} {C fI : Addr} {f x p1 p2 : Str} {fd : FuncData} {e : Expr} {F : DE} {p p3 : Pos} (hC : g.ca cc = some C) (T : OexR g.K C) (iC : PySem.W.findIn g.K (.ref C) "__init__" = some (some (.ref fI))) (tI : PySem.W.typeIn g.K (.ref fI) = some (.type "function"))
  (F1 : FnOk g.P g.w g.K g.mg g.base (L2.CX g.P g.w) k fI fd [p1, p2] (spX C f)) (hr : Room (k + 1) X.A) (hb : Binds g.K fd [p1, p2] []) (hm : g.mg x = some (.ref C)) (h : OE g X W e F) (hg : L2.Gl X x := by rfl) (hdb : (x == ("__debug__" : Str)) = false := by decide)
  (he : starEach [e] X.env = (false, eval e X.env) :: starEach [] X.env := by rfl) (hpl : (backTo p3 (starEach [] X.env)).any (·.1) = false := by rfl) : OE g X W (.Call (.Name x p) [e] [] p3) (eXv1 cc f F) := by
 have F2 : FnOk X.prog X.w X.K X.mg X.base (L2.CX X.prog X.w) k fI fd [p1, p2] (spX C f) := by rw [c.hP, c.hw, c.hK, c.hmg, c.hb]; exact F1
 refine ofE (Ztc (ZkT (by rw [c.hK]; exact T) (by rw [c.hK]; exact iC) (by rw [c.hK]; exact tI) F2 hr (by rw [c.hK]; exact hb) (ZgJ ZjE) hg (by rw [c.hmg]; exact hm) (pa_cons h pa_nil he) hdb he hpl)) fun σ H Q ⟨α, env, st, hE, hS, q⟩ => ?_
 refine tE.run hE hS (q.bind.imp fun d st1 α1 H1 x1 s1 q1 v r => ?_)
 refine ⟨by simp, fun a ha => ⟨a, v, rfl, upd_same, fun dx h1 h2 => ⟨rfl, dx, [(f, v)], upd_same, ?_, ?_, ?_⟩⟩⟩
 ·rw [upd_ne h2, upd_same]
 ·rw [upd_ne h2] at h1; exact h1
 ·have h3 : H1 dx = none := by rw [upd_ne h2] at h1; exact h1
  rw [ZkD ha]
  have ex := Zcj s1 h3 (.xd [(f, v)])
  exact XR.val (fs := [(f, d)]) (s1.temp h3 _) ⟨C, hC, rfl, .inr ⟨dx, [(f, v)], rfl, upd_same, ⟨v, [], rfl, r.mono ex, rfl⟩⟩⟩ (Post.mono ex q1)
end
def fXv1 (cc : Nat) (f : Str) (r : R D) : R D := r.bind fun d st1 => .ok (.obj st1.length) (st1 ++ [.xcp cc [(f, d)]])
@[simp] theorem ZCj {cc : Nat} {env : Env} {st : Sto} : eXv0 cc env st = .ok (.obj st.length) (st ++ [.xcp cc []]) := rfl
@[simp] theorem ZCh {cc : Nat} {f : Str} {F : DE} {env : Env} {st : Sto} : eXv1 cc f F env st = fXv1 cc f (F env st) := rfl
@[simp] theorem ZAR {cc : Nat} {f : Str} {d : D} {st : Sto} : fXv1 cc f (.ok d st) = .ok (.obj st.length) (st ++ [.xcp cc [(f, d)]]) := rfl
end Mi
namespace Mi
open PySem PySem.Spec PyProof.Rows L2
section
end
section
end
end Mi
namespace Mi
open PySem PySem.Spec PyProof.Rows L2
section
end
end Mi
noncomputable section
namespace Mi
open PySem L2
abbrev Zby : Nat := 0
abbrev Zbk : Nat := 1
abbrev Zb8 : Nat := 2
abbrev Zc2 : Nat := 3
abbrev ZcA : Nat := 4
abbrev Zdx : Nat := 5
abbrev Zbr : Nat := 6
abbrev Zbp : Nat := 7
abbrev ZR : Nat := 8
abbrev Z9 : Nat := 9
abbrev Zak : Nat := 10
abbrev ZY : Nat := 11
abbrev Zj0 : Nat := 12
def Zez : Nat -> Option Bool := fun c => match c with
 | 10 => some true
 | 11 => some false
 | 9 => some false
 | 0 => some false
 | 1 => some false
 | 2 => some false
 | 6 => some false
 | 5 => some false
 | 4 => some false
 | 8 => some false
 | 7 => some false
 | 3 => some false
 | 12 => some false
 | _ => none
def ZeI : Nat -> Option Bool := fun c => match c with
 | 10 => some false
 | 11 => some true
 | 9 => some false
 | 0 => some false
 | 1 => some false
 | 2 => some false
 | 6 => some false
 | 5 => some false
 | 4 => some false
 | 8 => some false
 | 7 => some false
 | 3 => some false
 | 12 => some false
 | _ => none
def ZiW : Nat -> Option Bool := fun c => match c with
 | 10 => some false
 | 11 => some false
 | 9 => some true
 | 0 => some false
 | 1 => some false
 | 2 => some false
 | 6 => some false
 | 5 => some false
 | 4 => some false
 | 8 => some false
 | 7 => some false
 | 3 => some false
 | 12 => some false
 | _ => none
def Zc7 : Nat -> Option Bool := fun c => match c with
 | 10 => some false
 | 11 => some false
 | 9 => some false
 | 0 => some false
 | 1 => some false
 | 2 => some false
 | 6 => some false
 | 5 => some false
 | 4 => some false
 | 8 => some false
 | 7 => some false
 | 3 => some false
 | 12 => some true
 | _ => none
def ZaK : Nat -> Option Bool := fun c => match c with
 | 10 => some false
 | 11 => some false
 | 9 => some false
 | 0 => some false
 | 1 => some false
 | 2 => some false
 | 6 => some false
 | 5 => some false
 | 4 => some false
 | 8 => some false
 | 7 => some false
 | 3 => some false
 | 12 => some true
 | _ => none
def Zb3 : Nat -> Option Bool := fun c => match c with
 | 10 => some false
 | 11 => some false
 | 9 => some true
 | 0 => some true
 | 1 => some true
 | 2 => some true
 | 6 => some true
 | 5 => some true
 | 4 => some true
 | 8 => some true
 | 7 => some true
 | 3 => some true
 | 12 => some false
 | _ => none
def Zf0 : Nat -> Option Bool := fun c => match c with
 | 10 => some false
 | 11 => some false
 | 9 => some false
 | 0 => some false
 | 1 => some true
 | 2 => some false
 | 6 => some false
 | 5 => some false
 | 4 => some false
 | 8 => some false
 | 7 => some false
 | 3 => some false
 | 12 => some false
 | _ => none
def ZeJ : Nat -> Option Bool := fun c => match c with
 | 10 => some false
 | 11 => some false
 | 9 => some false
 | 0 => some false
 | 1 => some false
 | 2 => some true
 | 6 => some false
 | 5 => some false
 | 4 => some false
 | 8 => some false
 | 7 => some false
 | 3 => some false
 | 12 => some false
 | _ => none
def Zht : Nat -> Option Bool := fun c => match c with
 | 10 => some false
 | 11 => some false
 | 9 => some false
 | 0 => some false
 | 1 => some false
 | 2 => some false
 | 6 => some true
 | 5 => some false
 | 4 => some false
 | 8 => some false
 | 7 => some false
 | 3 => some false
 | 12 => some false
 | _ => none
def Zfq : Nat -> Option Bool := fun c => match c with
 | 10 => some false
 | 11 => some false
 | 9 => some false
 | 0 => some false
 | 1 => some false
 | 2 => some false
 | 6 => some false
 | 5 => some true
 | 4 => some false
 | 8 => some false
 | 7 => some false
 | 3 => some false
 | 12 => some false
 | _ => none
def ZfQ : Nat -> Option Bool := fun c => match c with
 | 10 => some false
 | 11 => some false
 | 9 => some false
 | 0 => some false
 | 1 => some false
 | 2 => some false
 | 6 => some false
 | 5 => some false
 | 4 => some true
 | 8 => some false
 | 7 => some false
 | 3 => some false
 | 12 => some false
 | _ => none
def Zhl : Nat -> Option Bool := fun c => match c with
 | 10 => some false
 | 11 => some false
 | 9 => some false
 | 0 => some false
 | 1 => some false
 | 2 => some false
 | 6 => some false
 | 5 => some false
 | 4 => some false
 | 8 => some true
 | 7 => some false
 | 3 => some false
 | 12 => some false
 | _ => none
def Zav : Nat -> Option Bool := fun c => match c with
 | 10 => some true
 | 11 => some true
 | 9 => some false
 | 0 => some false
 | 1 => some false
 | 2 => some false
 | 6 => some false
 | 5 => some false
 | 4 => some false
 | 8 => some false
 | 7 => some false
 | 3 => some false
 | 12 => some false
 | _ => none
def Zho : Nat -> Option Bool := fun c => match c with
 | 10 => some false
 | 11 => some false
 | 9 => some false
 | 0 => some false
 | 1 => some false
 | 2 => some false
 | 6 => some false
 | 5 => some false
 | 4 => some false
 | 8 => some false
 | 7 => some true
 | 3 => some false
 | 12 => some false
 | _ => none
def Zeu : Nat -> Option Bool := fun c => match c with
 | 10 => some false
 | 11 => some false
 | 9 => some false
 | 0 => some false
 | 1 => some false
 | 2 => some false
 | 6 => some false
 | 5 => some false
 | 4 => some false
 | 8 => some false
 | 7 => some false
 | 3 => some true
 | 12 => some false
 | _ => none
def ZeE : Nat -> Option Bool := fun c => match c with
 | 10 => some false
 | 11 => some false
 | 9 => some false
 | 0 => some false
 | 1 => some false
 | 2 => some false
 | 6 => some false
 | 5 => some false
 | 4 => some false
 | 8 => some false
 | 7 => some false
 | 3 => some false
 | 12 => some true
 | _ => none
def Z1 : Nat -> Option Bool := fun c => match c with
 | 10 => some false
 | 11 => some false
 | 9 => some true
 | 0 => some true
 | 1 => some true
 | 2 => some true
 | 6 => some true
 | 5 => some true
 | 4 => some true
 | 8 => some true
 | 7 => some true
 | 3 => some true
 | 12 => some false
 | _ => none
def Zj3 : Nat -> Bool := fun c => false
def Zko : Nat -> Bool := fun c => false
def Zj4 : Nat -> Bool := fun c => false
def Ziq : Nat -> Bool := fun c => false
def Zjj : Nat -> Bool := fun c => false
def Zdc : Nat -> Option Bool := fun c => match c with
 | 10 => some false
 | 11 => some true
 | 9 => some false
 | 0 => some false
 | 1 => some false
 | 2 => some false
 | 6 => some false
 | 5 => some false
 | 4 => some false
 | 8 => some false
 | 7 => some false
 | 3 => some false
 | 12 => some false
 | _ => none
def Zhp : Nat -> Option Bool := fun c => match c with
 | 10 => some false
 | 11 => some false
 | 9 => some true
 | 0 => some false
 | 1 => some false
 | 2 => some false
 | 6 => some false
 | 5 => some false
 | 4 => some false
 | 8 => some false
 | 7 => some false
 | 3 => some false
 | 12 => some false
 | _ => none
def Zc8 : Nat -> Option Bool := fun c => match c with
 | 10 => some false
 | 11 => some false
 | 9 => some false
 | 0 => some false
 | 1 => some false
 | 2 => some true
 | 6 => some false
 | 5 => some false
 | 4 => some false
 | 8 => some false
 | 7 => some false
 | 3 => some false
 | 12 => some false
 | _ => none
def ZeD : Nat -> Option Bool := fun c => match c with
 | 10 => some false
 | 11 => some false
 | 9 => some false
 | 0 => some false
 | 1 => some false
 | 2 => some false
 | 6 => some false
 | 5 => some true
 | 4 => some false
 | 8 => some false
 | 7 => some false
 | 3 => some false
 | 12 => some false
 | _ => none
def ZfY : Nat -> Option Bool := fun c => match c with
 | 10 => some false
 | 11 => some false
 | 9 => some false
 | 0 => some false
 | 1 => some false
 | 2 => some false
 | 6 => some false
 | 5 => some false
 | 4 => some false
 | 8 => some true
 | 7 => some false
 | 3 => some false
 | 12 => some false
 | _ => none
def ZfT : Nat -> Option Bool := fun c => match c with
 | 10 => some false
 | 11 => some false
 | 9 => some false
 | 0 => some false
 | 1 => some false
 | 2 => some false
 | 6 => some false
 | 5 => some false
 | 4 => some false
 | 8 => some false
 | 7 => some true
 | 3 => some false
 | 12 => some false
 | _ => none
def Zc5 : Nat -> Option Bool := fun c => match c with
 | 10 => some false
 | 11 => some false
 | 9 => some false
 | 0 => some false
 | 1 => some false
 | 2 => some false
 | 6 => some false
 | 5 => some false
 | 4 => some false
 | 8 => some false
 | 7 => some false
 | 3 => some true
 | 12 => some false
 | _ => none
def Zda : Nat -> Option Bool := fun c => match c with
 | 10 => some false
 | 11 => some false
 | 9 => some false
 | 0 => some false
 | 1 => some false
 | 2 => some false
 | 6 => some false
 | 5 => some false
 | 4 => some false
 | 8 => some false
 | 7 => some false
 | 3 => some false
 | 12 => some true
 | _ => none
def ZE (Φ : Fam) : DS :=
 sSeq (sFldD Zjj "place" (eVar 1) (eVar 0))
  (sNil)
def ZC (Φ : Fam) : DS :=
 sSeq (sFldD Zj4 "most" (eVar 1) (eVar 0))
  (sNil)
def ZI (Φ : Fam) : DS :=
 sSeq (sFldD Zko "line" (eVar 1) (eVar 0))
  (sNil)
def ZL (Φ : Fam) : DS :=
 sSeq (sFldD Ziq "name" (eVar 1) (eVar 0))
  (sNil)
def ZM (Φ : Fam) : DS :=
 sSeq (sFldD Ziq "name" (eVar 1) (eVar 0))
  (sNil)
def ZQ (Φ : Fam) : DS :=
 sSeq (sFldD Ziq "name" (eVar 1) (eVar 0))
  (sNil)
def ZF (Φ : Fam) : DS :=
 sSeq (sFldD Zj3 "asks" (eVar 1) (eVar 0))
  (sNil)
def ZD (Φ : Fam) : DS :=
 sSeq (sFldD Ziq "name" (eVar 1) (eVar 0))
  (sNil)
def Zc6 (Φ : Fam) : DS :=
 sSeq (sAsg (.nm 3) (e2 subD (e2 modD (eVar 2) (e2 powD (eC (.int 10)) (eC (.int 60)))) (e2 powD (eC (.int 10)) (eC (.int 59)))))
  (sSeq (sAsg (.nm 4) (e2 mulD (e2 ixD (eC (.str "abcdefghijklmnopqrstuvwxyz")) (e2 modD (eVar 2) (eC (.int 26)))) (e2 addD (eC (.int 1)) (e2 modD (e2 fdivD (eVar 2) (eC (.int 26))) (eC (.int 8))))))
  (sSeq (sRet (e2 ixD (eEv (lDisp (aCons (eC .non) (aCons (eVar 4) (aCons (eVar 3) (aCons (eLst (aCons (eVar 4) (aCons (eC .non) (aNil)))) (aCons (eTup (aCons (eVar 3) (aCons (eTup (aCons (eVar 4) (aNil))) (aNil)))) (aNil)))))))) (e2 modD (e2 fdivD (eVar 2) (eC (.int 208))) (eC (.int 5)))))
  (sNil)))
def ZH (Φ : Fam) : DS :=
 sSeq (sAsg (.nm 2) (eC (.int 0)))
  (sSeq (sIf (tstB (e2 ltQ (eVar 1) (eCall lenB (aCons (eVar 0) (aNil))))) (sSeq (sAsg (.nm 2) (e2 ixD (eVar 0) (eVar 1)))
  (sNil)) (sNil))
  (Zc6 Φ))
def ZT (Φ : Fam) : DS :=
 sSeq (sAsg (.nm 1) (eLst (aCons (e1 (xisD Zf0) (eVar 0)) (aCons (e1 (xisD ZeJ) (eVar 0)) (aCons (e1 (xisD Zeu) (eVar 0)) (aNil))))))
  (sSeq (sAsg (.nm 1) (e2 addD (eVar 1) (eEv (lDisp (aCons (e1 (xisD ZfQ) (eVar 0)) (aCons (e1 (xisD Zfq) (eVar 0)) (aCons (e1 (xisD Zht) (eVar 0)) (aNil))))))))
  (sSeq (sAsg (.nm 1) (e2 addD (eVar 1) (eEv (lDisp (aCons (e1 (xisD Zho) (eVar 0)) (aCons (e1 (xisD Zhl) (eVar 0)) (aCons (e1 (xisD ZiW) (eVar 0)) (aNil))))))))
  (sSeq (sRet (e2 addD (eVar 1) (eEv (lDisp (aCons (e1 (xisD Zez) (eVar 0)) (aCons (e1 (xisD ZeI) (eVar 0)) (aCons (e1 (xisD ZeE) (eVar 0)) (aNil))))))))
  (sNil))))
def ZX (Φ : Fam) : DS :=
 sSeq (sAsg (.nm 1) (eLst (aCons (e1 (xisD Z1) (eVar 0)) (aCons (e1 (xisD Zav) (eVar 0)) (aNil)))))
  (sSeq (sRet (e2 addD (eVar 1) (eEv (lDisp (aCons (e1 (xisD Zc7) (eVar 0)) (aCons (e1 (xisD ZaK) (eVar 0)) (aNil)))))))
  (sNil))
def ZS (Φ : Fam) : DS :=
 sSeq (sIf (bOr (tstB (e2 neD (e1 (xoD Zc8 "place") (eXv1 2 "place" (eVar 0))) (eVar 0))) (bOr (tstB (e2 neD (e1 (xoD Zc5 "most") (eXv1 3 "most" (eVar 1))) (eVar 1))) (tstB (e2 neD (e1 (xoD ZeD "line") (eXv1 5 "line" (eVar 0))) (eVar 0))))) (sSeq (sRet (eC (.bl false)))
  (sNil)) (sNil))
  (sSeq (sIf (bOr (tstB (e2 neD (e1 (xoD ZfT "name") (eXv1 7 "name" (eVar 0))) (eVar 0))) (bOr (tstB (e2 neD (e1 (xoD ZfY "name") (eXv1 8 "name" (eVar 1))) (eVar 1))) (tstB (e2 neD (e1 (xoD Zhp "name") (eXv1 9 "name" (eVar 0))) (eVar 0))))) (sSeq (sRet (eC (.bl false)))
  (sNil)) (sNil))
  (sSeq (sRet (eAnd (e2 eqD (e1 (xoD Zdc "asks") (eXv1 11 "asks" (eVar 1))) (eVar 1)) (e2 eqD (e1 (xoD Zda "name") (eXv1 12 "name" (eVar 0))) (eVar 0))))
  (sNil)))
def ZgR (Φ : Fam) : DS :=
 sSeq (sIf (bOr (tstB (e2 neD (eCall (Φ Z9) (aCons (eVar 6) (aNil))) (eEv (lComp [8] (.nm 8) (iRange1 (aCons (eC (.int 12)) (aNil))) (cYes) (e2 eqD (eVar 8) (eVar 5)))))) (tstB (e2 neD (eCall (Φ Zak) (aCons (eVar 6) (aNil))) (e2 ixD (eVar 4) (eVar 5))))) (sSeq (sRet (eC (.bl false)))
  (sNil)) (sNil))
  (sSeq (sIf (tstB (e2 neD (e1 (xisD Zb3) (eVar 6)) (e2 ltQ (eVar 5) (eC (.int 9))))) (sSeq (sRet (eC (.bl false)))
  (sNil)) (sNil))
  (sNil))
def Ziw (Φ : Fam) : DS :=
 sSeq (sAsg (.nm 1) (eCall (Φ ZR) (aCons (eVar 0) (aCons (eC (.int 0)) (aNil)))))
  (sSeq (sAsg (.nm 2) (eCall (Φ ZR) (aCons (eVar 0) (aCons (eC (.int 1)) (aNil)))))
  (sSeq (sAsg (.nm 3) (eLst (aCons (eXv0 1) (aCons (eXv1 2 "place" (eVar 1)) (aCons (eXv1 3 "most" (eVar 2)) (aCons (eXv0 4) (aCons (eXv1 5 "line" (eVar 1)) (aCons (eXv0 6) (aCons (eXv1 7 "name" (eVar 1)) (aNil))))))))))
  (sSeq (sAsg (.nm 3) (e2 addD (eVar 3) (eEv (lDisp (aCons (eXv1 8 "name" (eVar 1)) (aCons (eXv1 9 "name" (eVar 2)) (aCons (eXv0 10) (aCons (eXv1 11 "asks" (eVar 1)) (aCons (eXv1 12 "name" (eVar 1)) (aNil))))))))))
  (sSeq (sAsg (.nm 4) (e2 addD (e2 addD (e2 mulD (eEv (lDisp (aCons (eLst (aCons (eC (.bl true)) (aCons (eC (.bl false)) (aCons (eC (.bl false)) (aCons (eC (.bl false)) (aNil)))))) (aNil)))) (eC (.int 9))) (e2 mulD (eEv (lDisp (aCons (eLst (aCons (eC (.bl false)) (aCons (eC (.bl true)) (aCons (eC (.bl false)) (aCons (eC (.bl false)) (aNil)))))) (aNil)))) (eC (.int 2)))) (eEv (lDisp (aCons (eLst (aCons (eC (.bl false)) (aCons (eC (.bl false)) (aCons (eC (.bl true)) (aCons (eC (.bl true)) (aNil)))))) (aNil))))))
  (sSeq (sFor (.tp [5, 6]) (iEnumA (eVar 3)) (ZgR Φ))
  (sSeq (sAsg (.nm 7) (eXv0 0))
  (sSeq (sRet (eAnd (eNot (eCall (ofL anyL) (aCons (eCall (Φ Z9) (aCons (eVar 7) (aNil))) (aNil)))) (eAnd (e1 (xisD Z1) (eVar 7)) (eCall (Φ ZY) (aCons (eVar 1) (aCons (eVar 2) (aNil)))))))
  (sNil))))))))
def prog (Φ : Fam) : Fam := fun f => match f with
 | 0 => runB 2 (ZE Φ)
 | 1 => runB 2 (ZC Φ)
 | 2 => runB 2 (ZI Φ)
 | 3 => runB 2 (ZL Φ)
 | 4 => runB 2 (ZM Φ)
 | 5 => runB 2 (ZQ Φ)
 | 6 => runB 2 (ZF Φ)
 | 7 => runB 2 (ZD Φ)
 | 8 => runB 5 (ZH Φ)
 | 9 => runB 2 (ZT Φ)
 | 10 => runB 2 (ZX Φ)
 | 11 => runB 2 (ZS Φ)
 | 12 => runB 9 (Ziw Φ)
 | _ => fun _ _ => .stuck
theorem Zhw (Φ : Fam) : prog Φ ZR = runB 5 (ZH Φ) := rfl
theorem Zia (Φ : Fam) : prog Φ Z9 = runB 2 (ZT Φ) := rfl
theorem ZhX (Φ : Fam) : prog Φ Zak = runB 2 (ZX Φ) := rfl
theorem Zg1 (Φ : Fam) : prog Φ ZY = runB 2 (ZS Φ) := rfl
theorem ZkL (Φ : Fam) : prog Φ Zj0 = runB 9 (Ziw Φ) := rfl
theorem Zku (n f : Nat) : Phi prog (n + 1) f = prog (Phi prog n) f := rfl
theorem Zh4 (n : Nat) : Phi prog (n + 1) ZR = runB 5 (ZH (Phi prog n)) := (Zku n _).trans (Zhw _)
theorem ZiQ (n : Nat) : Phi prog (n + 1) Z9 = runB 2 (ZT (Phi prog n)) := (Zku n _).trans (Zia _)
theorem Zie (n : Nat) : Phi prog (n + 1) Zak = runB 2 (ZX (Phi prog n)) := (Zku n _).trans (ZhX _)
theorem ZhP (n : Nat) : Phi prog (n + 1) ZY = runB 2 (ZS (Phi prog n)) := (Zku n _).trans (Zg1 _)
theorem Zs9 (n : Nat) : Phi prog (n + 1) Zj0 = runB 9 (Ziw (Phi prog n)) := (Zku n _).trans (ZkL _)
end Mi
namespace Mi
open PySem L2
/-- a feed stands at r, from which at most C was counted -/
def Fd (r : Nat) (C : Int) (st : Sto) : Prop := ∃ G M K : Int, st[r]? = some (.lst [.int G, .int M, .int K]) /\ 0 <= G /\ 0 <= K /\ K <= C
/-- all but r stays -/
def Sm (r : Nat) (st st' : Sto) : Prop := st'.length = st.length /\ ∀ m, m ≠ r -> st'[m]? = st[m]?
theorem Sm.trans {r : Nat} {a b c : Sto} (h : Sm r a b) (k : Sm r b c) : Sm r a c := ⟨k.1.trans h.1, fun m hm => (k.2 m hm).trans (h.2 m hm)⟩
theorem Sm.set {r : Nat} {st : Sto} {o : Ob} : Sm r st (st.set r o) := ⟨by simp, fun m hm => by rw [List.getElem?_set_ne (Ne.symm hm)]⟩
/-- what a drawing tells, and leaves -/
def Dr (r : Nat) (C : Int) (b : Int) (P : D -> Prop) (st : Sto) (x : R D) : Prop := ∃ d st', x = .ok d st' /\ P d /\ Fd r (C + b) st' /\ Sm r st st'
def asc (x : Str) : Prop := ∀ c ∈ x.cps.toList, c < 128
mutual
def Th : D -> Prop
 | .non => True
 | .bl _ => True
 | .int i => i.natAbs < 2 ^ 240
 | .str x => asc x /\ x.length <= 100
 | .tup ds => Ths ds
 | _ => False
def Ths : List D -> Prop
 | [] => True
 | d :: ds => Th d /\ Ths ds
end
mutual
def sz : D -> Nat
 | .tup ds => 1 + szs ds
 | .str x => 1 + x.length
 | _ => 1
def szs : List D -> Nat
 | [] => 0
 | d :: ds => sz d + szs ds
end
mutual
def dp' : D -> Nat
 | .tup ds => 1 + dps' ds
 | _ => 0
def dps' : List D -> Nat
 | [] => 0
 | d :: ds => max (dp' d) (dps' ds)
end
/-- a thing that is not too great -/
structure Gt (s e : Nat) (d : D) : Prop where
 th : Th d
 sz : sz d <= s
 dp : dp' d <= e
theorem Gt.mono {s e s' e' : Nat} {d : D} (h : Gt s e d) (hs : s <= s') (he : e <= e') : Gt s' e' d := ⟨h.th, Nat.le_trans h.sz hs, Nat.le_trans h.dp he⟩
theorem Ths.mem : ∀ {ds : List D}, Ths ds -> ∀ d ∈ ds, Th d
 | [], _, d, h => by simp at h
 | x :: xs, h, d, hd => by
  rcases List.mem_cons.mp hd with rfl | hd
  ·exact h.1
  ·exact Ths.mem h.2 d hd
theorem Ths.of : ∀ {ds : List D}, (∀ d ∈ ds, Th d) -> Ths ds
 | [], _ => trivial
 | x :: xs, h => ⟨h x List.mem_cons_self, Ths.of fun d hd => h d (List.mem_cons_of_mem _ hd)⟩
theorem Zlw {s : Nat} : ∀ {ds : List D}, (∀ d ∈ ds, sz d <= s) -> szs ds <= ds.length * s
 | [], _ => by simp [szs]
 | x :: xs, h => by
  have h1 := h x List.mem_cons_self
  have h2 := Zlw (s := s) fun d hd => h d (List.mem_cons_of_mem _ hd)
  rw [szs, List.length_cons, Nat.add_mul]
  omega
theorem Zkd {s : Nat} : ∀ {ds : List D}, (∀ d ∈ ds, dp' d <= s) -> dps' ds <= s
 | [], _ => by simp [dps']
 | x :: xs, h => by
  have h1 := h x List.mem_cons_self
  have h2 := Zkd (s := s) fun d hd => h d (List.mem_cons_of_mem _ hd)
  rw [dps']
  omega
theorem Gt.tup {s e m : Nat} {ds : List D} (h : ∀ d ∈ ds, Gt s e d) (hl : ds.length <= m) : Gt (1 + m * s) (1 + e) (.tup ds) := by
 refine ⟨Ths.of fun d hd => (h d hd).th, ?_, ?_⟩
 ·rw [Mi.sz]
  have := Zlw (s := s) fun d hd => (h d hd).sz
  have : ds.length * s <= m * s := Nat.mul_le_mul_right s hl
  omega
 ·rw [dp']
  have := Zkd (s := e) fun d hd => (h d hd).dp
  omega
theorem menu {xs : List D} {d : Int} (h0 : 0 <= d) (h : d < xs.length) : ∃ x ∈ xs, atI xs d = some x := by
 have hk : d.toNat < xs.length := by omega
 have e : d = (d.toNat : Int) := by omega
 rw [e, ZjH hk]
 exact ⟨xs[d.toNat], List.getElem_mem hk, List.getElem?_eq_getElem hk⟩
theorem lsz (n : Nat) (h : n <= 1000000) : n <= sizeLine := by rw [szL]; omega
theorem Fd.mono {r : Nat} {C C' : Int} {st : Sto} (h : Fd r C st) (hc : C <= C') : Fd r C' st := by
 obtain ⟨G, M, K, a, b, c, d⟩ := h
 exact ⟨G, M, K, a, b, c, by omega⟩
theorem Gt.int {s e : Nat} {i : Int} (h : i.natAbs < 2 ^ 240) (hs : 1 <= s) : Gt s e (.int i) := ⟨h, hs, Nat.zero_le _⟩
theorem Gt.non {s e : Nat} (hs : 1 <= s) : Gt s e .non := ⟨trivial, hs, Nat.zero_le _⟩
theorem Gt.bl {s e : Nat} {b : Bool} (hs : 1 <= s) : Gt s e (.bl b) := ⟨trivial, hs, Nat.zero_le _⟩
def ascB (x : Str) : Bool := x.cps.toList.all (fun c => decide (c < 128))
theorem Znp {x : Str} (h : ascB x = true) : asc x := fun c hc => by
 have := List.all_eq_true.mp h c hc
 simpa using this
theorem Gt.str {s e : Nat} {x : Str} (h : (ascB x && decide (x.length <= 100) && decide (1 + x.length <= s)) = true) : Gt s e (.str x) := by
 simp only [Bool.and_eq_true, decide_eq_true_eq] at h
 exact ⟨⟨Znp h.1.1, h.1.2⟩, h.2, Nat.zero_le _⟩
@[simp] theorem ZA2 {z : Str} {st : Sto} (h : z.length <= sizeLine) : lenB [.str z] st = .ok (.int (z.length : Nat)) st := by unfold lenB; simp only; rw [if_pos h]
@[simp] theorem ZzI {ds : List D} {st : Sto} : lenB [.tup ds] st = .ok (.int (ds.length : Nat)) st := rfl
@[simp] theorem ZxT {fu : Nat} {C : DT} {B : DS} {env : Env} {st : Sto} : sWhile fu C B env st = whileL C B fu env st := rfl
theorem ZjJ {F : DE} {env : Env} {s : Nat} {f : D -> D} {st : Sto} : ∀ {ds : List D}, (∀ d ∈ ds, F (env.set s (some d)) st = .ok (f d) st) -> compL [] (.nm s) cYes F env ds st = .ok (ds.map f) st
 | [], _ => Zke rfl
 | d :: ds, h => ZkA rfl rfl (h d List.mem_cons_self) (ZjJ fun x hx => h x (List.mem_cons_of_mem _ hx))
theorem Ziy : ∀ {ds : List D} {d : D}, d ∈ ds -> dp' d <= dps' ds
 | [], d, h => by simp at h
 | x :: xs, d, h => by
  rw [dps']
  rcases List.mem_cons.mp h with rfl | h
  ·omega
  ·have := Ziy h; omega
theorem Zk8 (k : Nat) : ∀ ds : List D, szs (ds.take k) <= szs ds := by
 induction k with
 | zero => intro ds; simp [szs]
 | succ k ih =>
  intro ds
  cases ds with
  | nil => simp
  | cons d ds => simp [szs]; exact ih ds
theorem ZkO (k : Nat) : ∀ ds : List D, dps' (ds.take k) <= dps' ds := by
 induction k with
 | zero => intro ds; simp [dps']
 | succ k ih =>
  intro ds
  cases ds with
  | nil => simp
  | cons d ds => simp [dps']; have := ih ds; omega
theorem Ths.take (k : Nat) : ∀ {ds : List D}, Ths ds -> Ths (ds.take k) := by
 intro ds h
 exact Ths.of fun d hd => h.mem d (List.mem_of_mem_take hd)
theorem Gt.take {s e k : Nat} {ds : List D} (h : Gt s e (.tup ds)) : Gt s e (.tup (ds.take k)) :=
 ⟨Ths.take k h.th, by have := h.sz; rw [Mi.sz] at this ⊢; have := Zk8 k ds; omega, by have := h.dp; rw [dp'] at this ⊢; have := ZkO k ds; omega⟩
@[simp] theorem ZBL {b : Bool} {st : Sto} : intB [.bl b] st = .ok (.int (if b then 1 else 0)) st := rfl
@[simp] theorem ZzO {i : Int} {st : Sto} : intB [.int i] st = .ok (.int i) st := rfl
theorem Ths.app : ∀ {xs ys : List D}, Ths xs -> Ths ys -> Ths (xs ++ ys) := fun {xs ys} h k => Ths.of fun d hd => (List.mem_append.mp hd).elim (h.mem d) (k.mem d)
/-- the digits of a number -/
theorem ZjW (s : String) : (Str.ofString s).cps.toList = s.toList.map Char.toNat := by
 rw [Str.ofString_eq_toList]
theorem Zjd (i : Int) (h : i.natAbs < 2 ^ 240) : asc (toString i : String) /\ (Str.ofString (toString i)).length <= 100 := by
 refine ⟨fun c hc => ?_, ?_⟩
 ·rw [ZjW] at hc
  obtain ⟨k, hk, rfl⟩ := List.mem_map.mp hc
  exact int_ascii i k hk
 ·have e := int_text_length_le10 (a := i) (k := 80) (by decide) (Nat.lt_of_lt_of_le h (by decide))
  rw [ofString_length]
  omega
theorem ZuZ {x : Str} (h : asc x) : asc (Txt.lower x) /\ (Txt.lower x).length = x.length := by
 rw [PyProof.Rows.lower_ascii h]
 refine ⟨fun c hc => ?_, by show (x.cps.map _).size = _; rw [Array.size_map]; rfl⟩
 have : c ∈ (x.cps.map PyProof.Rows.lo1).toList := hc
 rw [Array.toList_map] at this
 obtain ⟨k, hk, rfl⟩ := List.mem_map.mp this
 have := h k hk
 unfold PyProof.Rows.lo1
 split <;> omega
@[simp] theorem ZBh {xs ys : List D} {st : Sto} (h : xs.length + ys.length <= sizeLine) : addD (.tup xs) (.tup ys) st = .ok (.tup (xs ++ ys)) st := by
 show (if _ then _ else _) = _; rw [if_pos h]
@[simp] theorem ZAe {ds : List D} {lo hi : Option Int} {st : Sto} : slD (.tup ds) lo hi st = .ok (.tup (cutG ds lo hi)) st := rfl
theorem Dr.mono {r : Nat} {C b b' : Int} {P P' : D -> Prop} {st : Sto} {x : R D} (h : Dr r C b P st x) (hb : b <= b') (hp : ∀ d, P d -> P' d) : Dr r C b' P' st x := by
 obtain ⟨d, st', q, p, f, s⟩ := h
 exact ⟨d, st', q, hp d p, f.mono (by omega), s⟩
mutual
def rp : D -> PyData
 | .bl b => .bool b
 | .int i => .int i
 | .str x => .str x
 | .tup ds => .tuple (rps ds)
 | _ => .none
def rps : List D -> List PyData
 | [] => []
 | d :: ds => rp d :: rps ds
end
theorem ZiR {st : Sto} {n : Nat} : ∀ {ds : List D}, (∀ d ∈ ds, toP st n d = some (rp d)) -> allO (toP st n) ds = some (rps ds)
 | [], _ => rfl
 | d :: ds, h => by rw [allO, h d List.mem_cons_self, ZiR fun x hx => h x (List.mem_cons_of_mem _ hx)]; rfl
theorem Zsl (st : Sto) : ∀ (n : Nat) (d : D), Th d -> dp' d <= n -> toP st n d = some (rp d) := by
 intro n
 induction n with
 | zero =>
  intro d h k
  cases d with
  | tup ds => rw [dp'] at k; omega
  | kl => exact h.elim
  | ev => exact h.elim
  | obj => exact h.elim
  | fn => exact h.elim
  | ty => exact h.elim
  | _ => rfl
 | succ n ih =>
  intro d h k
  cases d with
  | tup ds =>
   rw [dp'] at k
   rw [toP, ZiR fun x hx => ih x (Ths.mem h x hx) (by have := Ziy hx; omega)]
   rfl
  | kl => exact h.elim
  | ev => exact h.elim
  | obj => exact h.elim
  | fn => exact h.elim
  | ty => exact h.elim
  | _ => rfl
mutual
theorem ZAD : ∀ d : D, Th d -> (rp d).showable = true /\ (rp d).hasDict = false /\ (rp d).depth <= dp' d /\ (rp d).shown.length + 2 <= 105 * sz d
 | .non, h => by
  refine ⟨by simp [rp, PyData.showable], by simp [rp, PyData.hasDict], by simp [rp, PyData.depth], ?_⟩
  simp only [rp, PyData.shown, sz]
  decide +kernel
 | .bl b, h => by
  refine ⟨by simp [rp, PyData.showable], by simp [rp, PyData.hasDict], by simp [rp, PyData.depth], ?_⟩
  simp only [rp, PyData.shown, sz]
  cases b <;> decide +kernel
 | .int i, h => by
  have hi : i.natAbs < 2 ^ 240 := h
  have hl : i.natAbs.log2 < 1920 := by have := Zua (a := i.natAbs) (b := 240) hi (by decide); omega
  refine ⟨by simp only [rp, PyData.showable]; exact decide_eq_true hl, by simp [rp, PyData.hasDict], by simp [rp, PyData.depth], ?_⟩
  have := (Zjd i hi).2
  simp only [rp, PyData.shown, sz]
  omega
 | .str x, h => by
  obtain ⟨xa, xl⟩ : asc x /\ x.length <= 100 := h
  refine ⟨by simp [rp, PyData.showable], by simp [rp, PyData.hasDict], by simp [rp, PyData.depth], ?_⟩
  have := StrLaws.reprText_len x (fun c hc => Nat.lt_of_lt_of_le (xa c hc) (by decide))
  simp only [rp, PyData.shown, sz]
  omega
 | .tup ds, h => by
  obtain ⟨h1, h2, h3, h4⟩ := Zky ds h
  refine ⟨by rw [rp, PyData.showable]; exact h1, by rw [rp, PyData.hasDict]; exact h2, ?_, ?_⟩
  ·rw [rp, PyData.depth, dp']; omega
  ·rw [rp, PyData.shown, sz]
   have := tupleText_len_le (PyData.shownAll (rps ds))
   omega
 | .obj _, h => h.elim
 | .fn _, h => h.elim
 | .ty _, h => h.elim
 | .kl _, h => h.elim
 | .ev _, h => h.elim
theorem Zky : ∀ ds : List D, Ths ds -> PyData.showableAll (rps ds) = true /\ PyData.hasDictAll (rps ds) = false /\ PyData.depthAll (rps ds) <= dps' ds /\ ((PyData.shownAll (rps ds)).map (·.length)).sum + 2 * (PyData.shownAll (rps ds)).length <= 105 * szs ds
 | [], _ => by simp [rps, PyData.showableAll, PyData.hasDictAll, PyData.depthAll, PyData.shownAll, szs]
 | d :: ds, h => by
  obtain ⟨a1, a2, a3, a4⟩ := ZAD d h.1
  obtain ⟨b1, b2, b3, b4⟩ := Zky ds h.2
  refine ⟨by rw [rps, PyData.showableAll, a1, b1]; rfl, by rw [rps, PyData.hasDictAll, a2, b2]; rfl, ?_, ?_⟩
  ·rw [rps, PyData.depthAll, dps']; omega
  ·rw [rps, PyData.shownAll, szs, List.map_cons, List.sum_cons, List.length_cons]; omega
end
theorem Zkw {w : Wat} {t : Tg} {B : DS} {J : Env -> Sto -> Prop} (hw : ∀ env st, J env st -> okW w st = true) :
  ∀ (ds : List D) (env : Env) (st : Sto), (∀ d ∈ ds, ∀ env st, J env st -> ∃ env1 env2 st2, bindT t d env = some env1 /\ B env1 st = .nx env2 st2 /\ J env2 st2) -> J env st ->
  ∃ env' st', forL w t B ds env st = .nx env' st' /\ J env' st'
 | [], env, st, _, h => ⟨env, st, Zk1 (hw env st h), h⟩
 | d :: ds, env, st, step, h => by
  obtain ⟨env1, env2, st2, b, q, j⟩ := step d List.mem_cons_self env st h
  obtain ⟨env', st', q', j'⟩ := Zkw hw ds env2 st2 (fun x hx => step x (List.mem_cons_of_mem _ hx)) j
  refine ⟨env', st', ?_, j'⟩
  rw [Zkk (hw env st h) b, q]
  exact q'
theorem Zux {n : Nat} {ds : List D} {st : Sto} (h : st[n]? = some (.lst ds)) : okW [(n, ds)] st = true := by
 rw [okW, ZhR h]
 simp [okW, Zc0]
theorem ZkY {ds : List D} {d : D} (h : d ∈ numb ds) : ∃ (i : Nat) (x : D), d = .tup [.int (i : Nat), x] /\ i < ds.length /\ ds[i]? = some x /\ x ∈ ds := by
 unfold numb at h
 obtain ⟨p, hp, rfl⟩ := List.mem_map.mp h
 obtain ⟨x, i⟩ := p
 have e := List.mem_zipIdx_iff_getElem?.mp hp
 have hi : i < ds.length := by
  by_cases c : i < ds.length
  ·exact c
  ·rw [List.getElem?_eq_none (by omega)] at e; cases e
 exact ⟨i, x, rfl, hi, e, List.mem_of_getElem? e⟩
mutual
theorem ZvH : ∀ d : D, Th d -> (rp d).canLay0 = true
 | .non, h => by simp [rp, PyData.canLay0]
 | .bl b, h => by simp [rp, PyData.canLay0]
 | .int i, h => by simp [rp, PyData.canLay0]
 | .str x, h => by
  rw [rp, PyData.canLay0]
  unfold PyData.strOk
  rw [Array.all_eq_true']
  intro c hc
  have := h.1 c (by simpa using hc)
  exact decide_eq_true (by omega)
 | .tup ds, h => by rw [rp, PyData.canLay0]; exact Zjc ds h
 | .obj _, h => h.elim
 | .fn _, h => h.elim
 | .ty _, h => h.elim
 | .kl _, h => h.elim
 | .ev _, h => h.elim
theorem Zjc : ∀ ds : List D, Ths ds -> PyData.canLayAll0 (rps ds) = true
 | [], _ => by simp [rps, PyData.canLayAll0]
 | d :: ds, h => by rw [rps, PyData.canLayAll0, ZvH d h.1, Zjc ds h.2]; rfl
end
theorem ZjD {st : Sto} {a b : D} {ds : List D} (ha : toP st 66 a = some (.list (rps ds))) (hb : toP st 66 b = some (.list (rps ds))) (h : Ths ds) (hd : dps' ds <= 60) : eqG a b st = some true := by
 unfold eqG
 rw [ha, hb]
 dsimp only
 have l : PyData.canLay0 (.list (rps ds)) = true := by rw [PyData.canLay0]; exact Zjc ds h
 have z : SeqAt.shaped (.list (rps ds)) = true := by
  unfold SeqAt.shaped
  rw [l, Bool.true_and, decide_eq_true_eq, PyData.depth]
  have := (Zky ds h).2.2.1
  omega
 rw [z, SeqAt.eqv_refl _ l]
 rfl
theorem ZvF {st : Sto} {ds : List D} (h : Ths ds) (hd : dps' ds <= 60) : toP st 66 (.ev ds) = some (.list (rps ds)) := by
 rw [toP, ZiR fun x hx => Zsl st 65 x (Ths.mem h x hx) (by have := Ziy hx; omega)]
theorem Zjk {st : Sto} {n : Nat} {ds : List D} (hn : st[n]? = some (.lst ds)) (h : Ths ds) (hd : dps' ds <= 60) : toP st 66 (.obj n) = some (.list (rps ds)) := by
 rw [toP, ZhR hn]
 dsimp only
 rw [ZiR fun x hx => Zsl st 65 x (Ths.mem h x hx) (by have := Ziy hx; omega)]
def srt : D -> Int
 | .non => 0
 | .bl _ => 1
 | .int _ => 2
 | .str _ => 3
 | _ => 4
@[simp] theorem ZBq {st : Sto} : isD .non .non st = .ok (.bl true) st := rfl
@[simp] theorem ZC7 {b : Bool} {st : Sto} : isD (.bl b) .non st = .ok (.bl false) st := rfl
@[simp] theorem ZCY {b : Int} {st : Sto} : isD (.int b) .non st = .ok (.bl false) st := rfl
@[simp] theorem ZCV {b : Str} {st : Sto} : isD (.str b) .non st = .ok (.bl false) st := rfl
@[simp] theorem ZCc {b : List D} {st : Sto} : isD (.tup b) .non st = .ok (.bl false) st := rfl
@[simp] theorem ZCH {st : Sto} {o : Ob} : (st ++ [o])[st.length]? = some o := by simp
theorem Zbl {st t : Sto} {n : Nat} {o : Ob} (h : st[n]? = some o) : (st ++ t)[n]? = some o := by
 have hn : n < st.length := by
  by_cases c : n < st.length
  ·exact c
  ·rw [List.getElem?_eq_none (by omega)] at h; cases h
 rw [List.getElem?_append_left hn, h]
def ic (i j : Int) : Int := if i = j then 0 else if i < j then -1 else 1
mutual
def od : D -> D -> Int
 | .non, b => ic 0 (srt b)
 | .bl x, b => (match b with | .bl y => if x = y then 0 else if (!x && y) = true then -1 else 1 | b => ic 1 (srt b))
 | .int x, b => (match b with | .int y => ic x y | b => ic 2 (srt b))
 | .str x, b => (match b with | .str y => if x = y then 0 else if strLt x y = true then -1 else 1 | b => ic 3 (srt b))
 | .tup xs, b => (match b with | .tup ys => if fz xs ys = 0 then ic xs.length ys.length else fz xs ys | b => ic 4 (srt b))
 | _, _ => 0
def fz : List D -> List D -> Int
 | [], _ => 0
 | _ :: _, [] => 0
 | x :: xs, y :: ys => if od x y = 0 then fz xs ys else od x y
end
@[simp] theorem Zzz {b : Bool} {st : Sto} : intB [.bl b] st = .ok (.int (if b then 1 else 0)) st := rfl
mutual
def rk : D -> D
 | .non => .tup [.int 0, .int 0]
 | .tup ds => .tup [.int 4, .tup (rks ds)]
 | .bl b => .tup [.int 1, .bl b]
 | .int i => .tup [.int 2, .int i]
 | .str x => .tup [.int 3, .str x]
 | d => d
def rks : List D -> List D
 | [] => []
 | d :: ds => rk d :: rks ds
end
theorem Zlc (i : Int) (h : i.natAbs < 2 ^ 240) : Th (.int i) := h
def tg (d : D) : PyData := match d with | .non => .int 0 | .tup ds => .tuple (rps (rks ds)) | d => rp d
end Mi
namespace Mi
open PySem L2
mutual
def wd : D -> D
 | .bl b => .int (if b then 1 else 0)
 | .tup ds => .tup (wds ds)
 | d => d
def wds : List D -> List D
 | [] => []
 | d :: ds => wd d :: wds ds
end
mutual
def fo : D -> D
 | .str x => .str (Txt.lower x)
 | .tup ds => .tup (fos ds)
 | d => d
def fos : List D -> List D
 | [] => []
 | d :: ds => fo d :: fos ds
end
mutual
theorem Zve : ∀ d : D, Th d -> Th (wd d) /\ sz (wd d) = sz d /\ dp' (wd d) = dp' d
 | .bl b, h => by rw [wd]; cases b <;> exact ⟨Zlc _ (by decide), by simp [sz], by simp [dp']⟩
 | .tup ds, h => by
  obtain ⟨a, b, c⟩ := Zq1 ds h
  rw [wd]
  exact ⟨a, by rw [sz, sz, b], by rw [dp', dp', c]⟩
 | .non, h => by
  have e : wd (.non) = .non := by simp [wd]
  rw [e]; exact ⟨h, rfl, rfl⟩
 | .int i, h => by
  have e : wd (.int i) = .int i := by simp [wd]
  rw [e]; exact ⟨h, rfl, rfl⟩
 | .str x, h => by
  have e : wd (.str x) = .str x := by simp [wd]
  rw [e]; exact ⟨h, rfl, rfl⟩
 | .obj _, h => h.elim
 | .fn _, h => h.elim
 | .ty _, h => h.elim
 | .kl _, h => h.elim
 | .ev _, h => h.elim
theorem Zq1 : ∀ ds : List D, Ths ds -> Ths (wds ds) /\ szs (wds ds) = szs ds /\ dps' (wds ds) = dps' ds
 | [], _ => by rw [wds]; exact ⟨trivial, rfl, rfl⟩
 | d :: ds, h => by
  obtain ⟨a1, b1, c1⟩ := Zve d h.1
  obtain ⟨a2, b2, c2⟩ := Zq1 ds h.2
  rw [wds]
  exact ⟨⟨a1, a2⟩, by rw [szs, szs, b1, b2], by rw [dps', dps', c1, c2]⟩
end
mutual
theorem Zu9 : ∀ d : D, Th d -> Th (fo d) /\ sz (fo d) = sz d /\ dp' (fo d) = dp' d
 | .str x, h => by
  obtain ⟨xa, xl⟩ : asc x /\ x.length <= 100 := h
  obtain ⟨a, b⟩ := ZuZ xa
  rw [fo]
  exact ⟨⟨a, by rw [b]; exact xl⟩, by rw [sz, sz, b], by simp [dp']⟩
 | .tup ds, h => by
  obtain ⟨a, b, c⟩ := Zqy ds h
  rw [fo]
  exact ⟨a, by rw [sz, sz, b], by rw [dp', dp', c]⟩
 | .non, h => by
  have e : fo (.non) = .non := by simp [fo]
  rw [e]; exact ⟨h, rfl, rfl⟩
 | .int i, h => by
  have e : fo (.int i) = .int i := by simp [fo]
  rw [e]; exact ⟨h, rfl, rfl⟩
 | .bl x, h => by
  have e : fo (.bl x) = .bl x := by simp [fo]
  rw [e]; exact ⟨h, rfl, rfl⟩
 | .obj _, h => h.elim
 | .fn _, h => h.elim
 | .ty _, h => h.elim
 | .kl _, h => h.elim
 | .ev _, h => h.elim
theorem Zqy : ∀ ds : List D, Ths ds -> Ths (fos ds) /\ szs (fos ds) = szs ds /\ dps' (fos ds) = dps' ds
 | [], _ => by rw [fos]; exact ⟨trivial, rfl, rfl⟩
 | d :: ds, h => by
  obtain ⟨a1, b1, c1⟩ := Zu9 d h.1
  obtain ⟨a2, b2, c2⟩ := Zqy ds h.2
  rw [fos]
  exact ⟨⟨a1, a2⟩, by rw [szs, szs, b1, b2], by rw [dps', dps', c1, c2]⟩
end
/-- the manners' words -/
inductive Mw where | plain | wide | turned | folded
 deriving DecidableEq
def Mw.key : Mw -> D -> D
 | .wide => wd
 | .folded => fo
 | _ => id
theorem Mw.key_th (w : Mw) {d : D} (h : Th d) : Th (w.key d) /\ sz (w.key d) = sz d /\ dp' (w.key d) = dp' d := by
 cases w
 ·exact ⟨h, rfl, rfl⟩
 ·exact Zve d h
 ·exact ⟨h, rfl, rfl⟩
 ·exact Zu9 d h
end Mi
namespace Mi
open PySem L2
/-- what stood stays but at r; more may stand behind -/
def Ex (r : Nat) (st st' : Sto) : Prop := st.length <= st'.length /\ ∀ m, m ≠ r -> m < st.length -> st'[m]? = st[m]?
theorem Ex.trans {r : Nat} {a b c : Sto} (h : Ex r a b) (k : Ex r b c) : Ex r a c := ⟨Nat.le_trans h.1 k.1, fun m hm hl => (k.2 m hm (Nat.lt_of_lt_of_le hl h.1)).trans (h.2 m hm hl)⟩
theorem Sm.ex {r : Nat} {a b : Sto} (h : Sm r a b) : Ex r a b := ⟨Nat.le_of_eq h.1.symm, fun m hm _ => h.2 m hm⟩
theorem Ex.app {r : Nat} {st t : Sto} : Ex r st (st ++ t) := ⟨by simp, fun m _ hl => List.getElem?_append_left hl⟩
theorem ZkN {st : Sto} {n : Nat} {o : Ob} (h : st[n]? = some o) : n < st.length := (List.getElem?_eq_some_iff.mp h).1
theorem Ex.at {r : Nat} {a b : Sto} (h : Ex r a b) {n : Nat} {o : Ob} (hn : n ≠ r) (e : a[n]? = some o) : b[n]? = some o := (h.2 n hn (ZkN e)).trans e
theorem Fd.app {r : Nat} {C : Int} {st t : Sto} (h : Fd r C st) : Fd r C (st ++ t) := by
 obtain ⟨G, M, K, a, b⟩ := h
 exact ⟨G, M, K, Zbl a, b⟩
/-- a thing that may be asked about -/
structure Ok (d : D) : Prop where
 th : Th d
 dp : dp' d <= 20
 sz : sz d <= 1000000
theorem Ok.key {d : D} (h : Ok d) (w : Mw) : Ok (w.key d) := by
 obtain ⟨a, b, c⟩ := w.key_th h.th
 exact ⟨a, by rw [c]; exact h.dp, by rw [b]; exact h.sz⟩
theorem Gt.ok {s e : Nat} {d : D} (h : Gt s e d) (hs : s <= 1000000) (he : e <= 20) : Ok d := ⟨h.th, Nat.le_trans h.dp he, Nat.le_trans h.sz hs⟩
end Mi
namespace Mi
open PySem L2
@[simp] theorem ZyC {n : Nat} {st : Sto} : hasT "list" (.obj n) st = (seqOf st n).isSome := rfl
def appO (o : Option Ob) (n : Nat) (d : D) (st : Sto) : R D := match o with | some (.lst ds) => if ds.length < sizeLine then .ok .non (st.set n (.lst (ds ++ [d]))) else .stuck | _ => .stuck
@[simp] theorem ZB7 {n : Nat} {d : D} {st : Sto} : appendM (.obj n) [d] st = appO st[n]? n d st := by unfold appendM appO; rfl
@[simp] theorem Zwx {n : Nat} {ds : List D} {d : D} {st : Sto} : appO (some (.lst ds)) n d st = if ds.length < sizeLine then .ok .non (st.set n (.lst (ds ++ [d]))) else .stuck := rfl
def tf (b : Bool) : Str := if b then "True" else "False"
end Mi
namespace Mi
open PySem L2
mutual
def okP : PyData -> Prop
 | .none => True
 | .bool _ => True
 | .int i => i.natAbs < 2 ^ 240
 | .str x => asc x
 | .list xs => okPs xs
 | .tuple xs => okPs xs
 | .dict ks => okPk ks
def okPs : List PyData -> Prop
 | [] => True
 | x :: xs => okP x /\ okPs xs
def okPk : List (PyData × PyData) -> Prop
 | [] => True
 | (k, x) :: xs => okP k /\ okP x /\ okPk xs
end
mutual
def szP : PyData -> Nat
 | .str x => 1 + x.length
 | .list xs => 1 + szPs xs
 | .tuple xs => 1 + szPs xs
 | .dict ks => 1 + szPk ks
 | _ => 1
def szPs : List PyData -> Nat
 | [] => 0
 | x :: xs => szP x + szPs xs
def szPk : List (PyData × PyData) -> Nat
 | [] => 0
 | (k, x) :: xs => szP k + szP x + szPk xs
end
/-- all that stands but at r stays -/
def Kp (r : Nat) (st st' : Sto) : Prop := ∀ m o, m ≠ r -> st[m]? = some o -> st'[m]? = some o
theorem Kp.refl {r : Nat} {st : Sto} : Kp r st st := fun _ _ _ h => h
theorem Kp.trans {r : Nat} {a b c : Sto} (h : Kp r a b) (k : Kp r b c) : Kp r a c := fun m o hm e => k m o hm (h m o hm e)
theorem Ex.kp {r : Nat} {a b : Sto} (h : Ex r a b) : Kp r a b := fun m o hm e => h.at hm e
theorem Sm.kp {r : Nat} {a b : Sto} (h : Sm r a b) : Kp r a b := h.ex.kp
theorem Kp.app {r : Nat} {st t : Sto} : Kp r st (st ++ t) := fun m o _ e => Zbl e
/-- something that can be written: its size, its depth -/
def Wr (r : Nat) (st : Sto) (s e : Nat) (d : D) : Prop := ∃ p, (∀ st' n, Kp r st st' -> e <= n -> toQ st' n d = some p) /\ okP p /\ szP p <= s
def Wrs (r : Nat) (st : Sto) (s e : Nat) (ds : List D) : Prop := ∃ ps, (∀ st' n, Kp r st st' -> e <= n -> allO (toQ st' n) ds = some ps) /\ okPs ps /\ szPs ps <= s
section
variable {r : Nat} {st st' : Sto} {s s' e e' : Nat} {d : D} {ds es : List D}
theorem Wr.kp (h : Wr r st s e d) (k : Kp r st st') : Wr r st' s e d := let ⟨p, a, b, c⟩ := h; ⟨p, fun st2 n q => a st2 n (k.trans q), b, c⟩
theorem Wrs.kp (h : Wrs r st s e ds) (k : Kp r st st') : Wrs r st' s e ds := let ⟨p, a, b, c⟩ := h; ⟨p, fun st2 n q => a st2 n (k.trans q), b, c⟩
theorem Wr.mono (h : Wr r st s e d) (hs : s <= s') (he : e <= e') : Wr r st s' e' d := let ⟨p, a, b, c⟩ := h; ⟨p, fun st2 n q hn => a st2 n q (by omega), b, by omega⟩
theorem Wrs.mono (h : Wrs r st s e ds) (hs : s <= s') (he : e <= e') : Wrs r st s' e' ds := let ⟨p, a, b, c⟩ := h; ⟨p, fun st2 n q hn => a st2 n q (by omega), b, by omega⟩
theorem Wrs.nil : Wrs r st 0 e [] := ⟨[], fun _ _ _ _ => rfl, trivial, by simp [szPs]⟩
theorem Wrs.cons (h : Wr r st s e d) (k : Wrs r st s' e ds) : Wrs r st (s + s') e (d :: ds) := by
 obtain ⟨p, a, b, c⟩ := h
 obtain ⟨ps, a', b', c'⟩ := k
 refine ⟨p :: ps, fun st2 n q hn => ?_, ?_, ?_⟩
 ·rw [allO, a st2 n q hn, a' st2 n q hn]
 ·rw [okPs]; exact ⟨b, b'⟩
 ·rw [szPs]; omega
theorem Wrs.head (h : Wrs r st s e (d :: ds)) : ∃ s1 s2, s1 + s2 <= s /\ Wr r st s1 e d /\ Wrs r st s2 e ds := by
 obtain ⟨ps, a, b, c⟩ := h
 have a0 := a st e Kp.refl (Nat.le_refl _)
 rw [allO] at a0
 split at a0
 ·rename_i p qs e1 e2
  cases a0
  rw [okPs] at b
  rw [szPs] at c
  refine ⟨szP p, szPs qs, c, ⟨p, fun st2 n q hn => ?_, b.1, Nat.le_refl _⟩, ⟨qs, fun st2 n q hn => ?_, b.2, Nat.le_refl _⟩⟩
  ·have := a st2 n q hn
   rw [allO] at this
   split at this
   ·rename_i x y z1 z2
    cases this
    exact z1
   ·cases this
  ·have := a st2 n q hn
   rw [allO] at this
   split at this
   ·rename_i x y z1 z2
    cases this
    exact z2
   ·cases this
 ·cases a0
theorem Wrs.app : ∀ {ds : List D} {s : Nat}, Wrs r st s e ds -> Wrs r st s' e es -> Wrs r st (s + s') e (ds ++ es)
 | [], s, h, k => k.mono (by omega) (Nat.le_refl _)
 | d :: ds, s, h, k => by
  obtain ⟨s1, s2, hs, h1, h2⟩ := h.head
  exact (Wrs.cons h1 (Wrs.app h2 k)).mono (by omega) (Nat.le_refl _)
theorem Wrs.split : ∀ {ds : List D} {s : Nat} (k : Nat), Wrs r st s e ds -> ∃ s1 s2, s1 + s2 <= s /\ Wrs r st s1 e (ds.take k) /\ Wrs r st s2 e (ds.drop k)
 | ds, s, 0, h => ⟨0, s, by omega, by simpa using Wrs.nil, by simpa using h⟩
 | [], s, k + 1, h => ⟨0, 0, by omega, by simpa using Wrs.nil, by simpa using Wrs.nil⟩
 | d :: ds, s, k + 1, h => by
  obtain ⟨s1, s2, hs, h1, h2⟩ := h.head
  obtain ⟨t1, t2, ht, g1, g2⟩ := Wrs.split k h2
  exact ⟨s1 + t1, t2, by omega, by simpa using Wrs.cons h1 g1, by simpa using g2⟩
theorem Wrs.take (k : Nat) (h : Wrs r st s e ds) : Wrs r st s e (ds.take k) := let ⟨_, _, hs, a, _⟩ := h.split k; a.mono (by omega) (Nat.le_refl _)
theorem Wrs.drop (k : Nat) (h : Wrs r st s e ds) : Wrs r st s e (ds.drop k) := let ⟨_, _, hs, _, a⟩ := h.split k; a.mono (by omega) (Nat.le_refl _)
theorem Wrs.mem : ∀ {ds : List D} {s : Nat}, Wrs r st s e ds -> ∀ d ∈ ds, Wr r st s e d
 | [], s, h, d, hd => by simp at hd
 | x :: xs, s, h, d, hd => by
  obtain ⟨s1, s2, hs, h1, h2⟩ := h.head
  rcases List.mem_cons.mp hd with rfl | hd
  ·exact h1.mono (by omega) (Nat.le_refl _)
  ·exact (Wrs.mem h2 d hd).mono (by omega) (Nat.le_refl _)
theorem ZsI (p : PyData) : 1 <= szP p := by cases p <;> simp [szP]
theorem Zjy {f : D -> Option PyData} : ∀ {ds : List D} {ps : List PyData}, allO f ds = some ps -> ps.length = ds.length
 | [], ps, e => by cases e; rfl
 | d :: ds, ps, e => by
  rw [allO] at e
  split at e
  ·rename_i b bs e1 e2
   cases e
   simp [Zjy e2]
  ·cases e
theorem Zjq : ∀ ps : List PyData, ps.length <= szPs ps
 | [] => by simp
 | p :: ps => by rw [szPs, List.length_cons]; have := ZsI p; have := Zjq ps; omega
theorem Wrs.len (h : Wrs r st s e ds) : ds.length <= s := by
 obtain ⟨ps, a, b, c⟩ := h
 have := Zjy (a st e Kp.refl (Nat.le_refl _))
 have := Zjq ps
 omega
theorem Wr.tup (h : Wrs r st s e ds) : Wr r st (1 + s) (1 + e) (.tup ds) := by
 obtain ⟨ps, a, b, c⟩ := h
 refine ⟨.tuple ps, fun st2 n q hn => ?_, by rw [okP]; exact b, by rw [szP]; omega⟩
 obtain ⟨n, rfl⟩ : ∃ k, n = k + 1 := ⟨n - 1, by omega⟩
 rw [toQ, a st2 n q (by omega)]
theorem Wr.lst {k : Nat} (hk : k ≠ r) (ha : st[k]? = some (.lst ds)) (h : Wrs r st s e ds) : Wr r st (1 + s) (1 + e) (.obj k) := by
 obtain ⟨ps, a, b, c⟩ := h
 refine ⟨.list ps, fun st2 n q hn => ?_, by rw [okP]; exact b, by rw [szP]; omega⟩
 obtain ⟨n, rfl⟩ : ∃ k, n = k + 1 := ⟨n - 1, by omega⟩
 rw [toQ, q k _ hk ha]
 simp only [a st2 n q (by omega)]
theorem Wr.non : Wr r st 1 e .non := ⟨.none, fun _ n _ _ => by cases n <;> rfl, by simp [okP], by simp [szP]⟩
theorem Wr.bl {b : Bool} : Wr r st 1 e (.bl b) := ⟨.bool b, fun _ n _ _ => by cases n <;> rfl, by simp [okP], by simp [szP]⟩
theorem Wr.int {i : Int} (h : i.natAbs < 2 ^ 240) : Wr r st 1 e (.int i) := ⟨.int i, fun _ n _ _ => by cases n <;> rfl, by simpa only [okP] using h, by simp [szP]⟩
theorem Wr.str {x : Str} (h : asc x) : Wr r st (1 + x.length) e (.str x) := ⟨.str x, fun _ n _ _ => by cases n <;> rfl, by simpa only [okP] using h, by simp [szP]⟩
theorem Wr.toQ (h : Wr r st s e d) : ∃ p, Mi.toQ st e d = some p := let ⟨p, a, _⟩ := h; ⟨p, a st e Kp.refl (Nat.le_refl _)⟩
end
theorem Zph (ds : List D) (st : Sto) : eqD (.ev ds) (.ev []) st = .ok (.bl ds.isEmpty) st /\ neD (.ev ds) (.ev []) st = .ok (.bl (!ds.isEmpty)) st := by
 have key : eqO (.ev ds) (.ev []) st = some ds.isEmpty := by
  show eqG (.ev ds) (.ev []) st = _
  cases ds with
  | nil => rfl
  | cons d ds =>
   have hl : eqLen (.ev (d :: ds)) (.ev []) st = some false := rfl
   unfold eqG
   split
   ·rename_i p q e1 e2
    split
    ·have q0 : q = .list [] := by
      have : toP st 66 (.ev []) = some (.list []) := rfl
      rw [this] at e2
      cases e2
      rfl
     rw [toP] at e1
     split at e1
     ·rename_i ps e3
      cases e1
      subst q0
      rw [allO] at e3
      split at e3
      ·cases e3
       rfl
      ·cases e3
     ·cases e1
    ·exact hl
   ·exact hl
 unfold eqD neD
 rw [key]
 exact ⟨rfl, rfl⟩
@[simp] theorem ZzX (ds : List D) (st : Sto) : eqD (.ev ds) (.ev []) st = .ok (.bl ds.isEmpty) st := (Zph ds st).1
@[simp] theorem Zzr (ds : List D) (st : Sto) : neD (.ev ds) (.ev []) st = .ok (.bl (!ds.isEmpty)) st := (Zph ds st).2
theorem Zkh (ds : List D) (st : Sto) : eqD (.tup ds) (.tup []) st = .ok (.bl ds.isEmpty) st /\ neD (.tup ds) (.tup []) st = .ok (.bl (!ds.isEmpty)) st := by
 have key : eqO (.tup ds) (.tup []) st = some ds.isEmpty := by
  show eqG (.tup ds) (.tup []) st = _
  cases ds with
  | nil => rfl
  | cons d ds =>
   have hl : eqLen (.tup (d :: ds)) (.tup []) st = some false := by
    unfold eqLen
    simp [lstOf]
   unfold eqG
   split
   ·rename_i p q e1 e2
    split
    ·have q0 : q = .tuple [] := by
      have : toP st 66 (.tup []) = some (.tuple []) := rfl
      rw [this] at e2
      cases e2
      rfl
     rw [toP] at e1
     split at e1
     ·rename_i ps e3
      cases e1
      subst q0
      rw [allO] at e3
      split at e3
      ·cases e3
       rfl
      ·cases e3
     ·cases e1
    ·exact hl
   ·exact hl
 unfold eqD neD
 rw [key]
 exact ⟨rfl, rfl⟩
@[simp] theorem Zw3 (ds : List D) (st : Sto) : eqD (.tup ds) (.tup []) st = .ok (.bl ds.isEmpty) st := (Zkh ds st).1
@[simp] theorem Zwp (ds : List D) (st : Sto) : neD (.tup ds) (.tup []) st = .ok (.bl (!ds.isEmpty)) st := (Zkh ds st).2
end Mi
namespace Mi
open PySem L2
def bsO (c : Nat) : List D := [.bl (c == 1), .bl (c == 2), .bl (c == 3), .bl (c == 4), .bl (c == 5), .bl (c == 6), .bl (c == 7), .bl (c == 8), .bl (c == 9), .bl (c == 10), .bl (c == 11), .bl (c == 12)]
def bsK (c : Nat) : List D := [.bl (decide (c <= 9)), .bl (c == 10 || c == 11), .bl (c == 12), .bl (c == 12)]
theorem cls13 {c : Nat} (h : c <= 12) : c = 0 \/ c = 1 \/ c = 2 \/ c = 3 \/ c = 4 \/ c = 5 \/ c = 6 \/ c = 7 \/ c = 8 \/ c = 9 \/ c = 10 \/ c = 11 \/ c = 12 := by omega
theorem ZaF {T : Nat -> Option Bool} {e c : Nat} {fs : List (Str × D)} {b : Bool} {st : Sto} (he : st[e]? = some (.xcp c fs)) (h : T c = some b) (t : Sto) : xisD T (.obj e) (st ++ t) = .ok (.bl b) (st ++ t) := by
 show xisO T (st ++ t)[e]? (st ++ t) = _
 rw [Zbl he]
 show (match T c with | some b => R.ok (D.bl b) (st ++ t) | none => .stuck) = _
 rw [h]
theorem Zjz {k : Nat} {X Y : List D} {st : Sto} (hk : st[k]? = some (.lst X)) (hl : X.length + Y.length <= 100) : addD (.obj k) (.ev Y) st = .ok (.obj st.length) (st ++ [.lst (X ++ Y)]) := by
 unfold addD
 simp only [hk, if_pos (lsz _ (show X.length + Y.length <= 1000000 by omega))]
 rfl
theorem ZkW (Φ : Fam) {e : Nat} {b1 b2 b3 b4 b5 b6 b7 b8 b9 b10 b11 b12 : Bool} {st : Sto} (h1 : ∀ t, xisD Zf0 (.obj e) (st ++ t) = .ok (.bl b1) (st ++ t)) (h2 : ∀ t, xisD ZeJ (.obj e) (st ++ t) = .ok (.bl b2) (st ++ t)) (h3 : ∀ t, xisD Zeu (.obj e) (st ++ t) = .ok (.bl b3) (st ++ t))
  (h4 : ∀ t, xisD ZfQ (.obj e) (st ++ t) = .ok (.bl b4) (st ++ t)) (h5 : ∀ t, xisD Zfq (.obj e) (st ++ t) = .ok (.bl b5) (st ++ t)) (h6 : ∀ t, xisD Zht (.obj e) (st ++ t) = .ok (.bl b6) (st ++ t)) (h7 : ∀ t, xisD Zho (.obj e) (st ++ t) = .ok (.bl b7) (st ++ t)) (h8 : ∀ t, xisD Zhl (.obj e) (st ++ t) = .ok (.bl b8) (st ++ t)) (h9 : ∀ t, xisD ZiW (.obj e) (st ++ t) = .ok (.bl b9) (st ++ t))
  (h10 : ∀ t, xisD Zez (.obj e) (st ++ t) = .ok (.bl b10) (st ++ t)) (h11 : ∀ t, xisD ZeI (.obj e) (st ++ t) = .ok (.bl b11) (st ++ t)) (h12 : ∀ t, xisD ZeE (.obj e) (st ++ t) = .ok (.bl b12) (st ++ t)) :
  runB 2 (ZT Φ) [.obj e] st = .ok (.obj (st.length + 3)) (st ++ [.lst [.bl b1, .bl b2, .bl b3], .lst [.bl b1, .bl b2, .bl b3, .bl b4, .bl b5, .bl b6], .lst [.bl b1, .bl b2, .bl b3, .bl b4, .bl b5, .bl b6, .bl b7, .bl b8, .bl b9], .lst [.bl b1, .bl b2, .bl b3, .bl b4, .bl b5, .bl b6, .bl b7, .bl b8, .bl b9, .bl b10, .bl b11, .bl b12]]) := by
 have n3 : (3 : Nat) <= sizeLine := lsz _ (by decide)
 have h1 := h1 []
 have h2 := h2 []
 have h3 := h3 []
 rw [List.append_nil] at h1 h2 h3
 rw [ZhC]
 have a1 := Zjz (k := st.length) (X := [.bl b1, .bl b2, .bl b3]) (Y := [.bl b4, .bl b5, .bl b6]) (st := st ++ [.lst [.bl b1, .bl b2, .bl b3]]) (by simp) (by simp)
 have a2 := Zjz (k := st.length + 1) (X := [.bl b1, .bl b2, .bl b3, .bl b4, .bl b5, .bl b6]) (Y := [.bl b7, .bl b8, .bl b9]) (st := st ++ [.lst [.bl b1, .bl b2, .bl b3], .lst [.bl b1, .bl b2, .bl b3, .bl b4, .bl b5, .bl b6]]) (by simp) (by simp)
 have a3 := Zjz (k := st.length + 2) (X := [.bl b1, .bl b2, .bl b3, .bl b4, .bl b5, .bl b6, .bl b7, .bl b8, .bl b9]) (Y := [.bl b10, .bl b11, .bl b12]) (st := st ++ [.lst [.bl b1, .bl b2, .bl b3], .lst [.bl b1, .bl b2, .bl b3, .bl b4, .bl b5, .bl b6], .lst [.bl b1, .bl b2, .bl b3, .bl b4, .bl b5, .bl b6, .bl b7, .bl b8, .bl b9]]) (by simp) (by simp)
 simp only [List.length_append, List.length_cons, List.length_nil, Nat.zero_add, List.append_assoc, List.cons_append, List.nil_append] at a1 a2 a3
 simp [ZT, h1, h2, h3, h4, h5, h6, h7, h8, h9, h10, h11, h12, n3, a1, a2, a3]
theorem ZsD (m : Nat) {e c : Nat} {fs : List (Str × D)} {st : Sto} (he : st[e]? = some (.xcp c fs)) (hc : c <= 12) : ∃ n t, Phi prog (m + 1) Z9 [.obj e] st = .ok (.obj n) (st ++ t) /\ (st ++ t)[n]? = some (.lst (bsO c)) := by
 rw [ZiQ]
 refine ⟨st.length + 3, _, ZkW (Phi prog m) (b1 := c == 1) (b2 := c == 2) (b3 := c == 3) (b4 := c == 4) (b5 := c == 5) (b6 := c == 6) (b7 := c == 7) (b8 := c == 8) (b9 := c == 9) (b10 := c == 10) (b11 := c == 11) (b12 := c == 12) (fun t => ZaF he ?_ t) (fun t => ZaF he ?_ t) (fun t => ZaF he ?_ t) (fun t => ZaF he ?_ t) (fun t => ZaF he ?_ t) (fun t => ZaF he ?_ t) (fun t => ZaF he ?_ t) (fun t => ZaF he ?_ t) (fun t => ZaF he ?_ t) (fun t => ZaF he ?_ t) (fun t => ZaF he ?_ t) (fun t => ZaF he ?_ t), by simp [bsO]⟩
 all_goals rcases cls13 hc with rfl | rfl | rfl | rfl | rfl | rfl | rfl | rfl | rfl | rfl | rfl | rfl | rfl <;> rfl
theorem Zs1 (m : Nat) {e c : Nat} {fs : List (Str × D)} {st : Sto} (he : st[e]? = some (.xcp c fs)) (hc : c <= 12) : ∃ n t, Phi prog (m + 1) Zak [.obj e] st = .ok (.obj n) (st ++ t) /\ (st ++ t)[n]? = some (.lst (bsK c)) := by
 refine ⟨st.length + 1, [.lst ((bsK c).take 2), .lst (bsK c)], ?_, by simp⟩
 have n2 : (2 : Nat) <= sizeLine := lsz _ (by decide)
 have h1 := ZaF (T := Z1) (b := decide (c <= 9)) he (by rcases cls13 hc with rfl | rfl | rfl | rfl | rfl | rfl | rfl | rfl | rfl | rfl | rfl | rfl | rfl <;> rfl) []
 have h2 := ZaF (T := Zav) (b := (c == 10 || c == 11)) he (by rcases cls13 hc with rfl | rfl | rfl | rfl | rfl | rfl | rfl | rfl | rfl | rfl | rfl | rfl | rfl <;> rfl) []
 have h3 := ZaF (T := Zc7) (b := (c == 12)) he (by rcases cls13 hc with rfl | rfl | rfl | rfl | rfl | rfl | rfl | rfl | rfl | rfl | rfl | rfl | rfl <;> rfl)
 have h4 := ZaF (T := ZaK) (b := (c == 12)) he (by rcases cls13 hc with rfl | rfl | rfl | rfl | rfl | rfl | rfl | rfl | rfl | rfl | rfl | rfl | rfl <;> rfl)
 rw [List.append_nil] at h1 h2
 have a1 := Zjz (k := st.length) (X := [.bl (decide (c <= 9)), .bl (c == 10 || c == 11)]) (Y := [.bl (c == 12), .bl (c == 12)]) (st := st ++ [.lst [.bl (decide (c <= 9)), .bl (c == 10 || c == 11)]]) (by simp) (by simp)
 simp only [List.length_append, List.length_cons, List.length_nil, Nat.zero_add, List.append_assoc, List.cons_append, List.nil_append] at a1
 rw [Zie, ZhC]
 unfold bsK
 generalize decide (c <= 9) = b1 at *
 generalize (c == 10 || c == 11) = b2 at *
 generalize (c == 12) = b3 at *
 simp [ZX, h1, h2, h3, h4, n2, a1]
end Mi
namespace Mi
open PySem L2
theorem ZjG {st : Sto} {a : D} {p : PyData} (h : toP st 66 a = some p) (s : SeqAt.shaped p = true) : eqG a a st = some true := by
 unfold eqG
 rw [h]
 dsimp only
 rw [s, Bool.and_self, if_pos rfl]
 have l : PyData.canLay0 p = true := by
  unfold SeqAt.shaped at s
  rw [Bool.and_eq_true] at s
  exact s.1
 rw [SeqAt.eqv_refl _ l]
structure Sv (v : D) (st : Sto) : Prop where
 ne : ∀ t, neD v v (st ++ t) = .ok (.bl false) (st ++ t)
 eq : ∀ t, eqD v v (st ++ t) = .ok (.bl true) (st ++ t)
theorem Sv.of {v : D} {st : Sto} (h : ∀ t, eqO v v (st ++ t) = some true) : Sv v st :=
 ⟨fun t => by unfold neD; rw [h t]; rfl, fun t => by unfold eqD; rw [h t]⟩
theorem Sv.app {v : D} {st : Sto} (h : Sv v st) (t : Sto) : Sv v (st ++ t) := ⟨fun u => by rw [List.append_assoc]; exact h.ne _, fun u => by rw [List.append_assoc]; exact h.eq _⟩
theorem ZsW {w : Str} {n d : Int} {v : D} {st : Sto} (hw : PyData.strOk w = true) (h : atI [D.non, .str w, .int n, .obj st.length, .tup [.int n, .tup [.str w]]] d = some v) (d0 : 0 <= d) (d5 : d < 5) : Sv v (st ++ [.lst [.str w, .non]]) := by
 have c : d = 0 \/ d = 1 \/ d = 2 \/ d = 3 \/ d = 4 := by omega
 rcases c with rfl | rfl | rfl | rfl | rfl
 ·cases h
  exact Sv.of fun t => rfl
 ·cases h
  exact Sv.of fun t => by show some (decide (w = w)) = _; simp
 ·cases h
  exact Sv.of fun t => by show some (decide (n = n)) = _; simp
 ·cases h
  refine Sv.of fun t => ZjG (p := .list [.str w, .none]) ?_ ?_
  ·have e : (st ++ [Ob.lst [D.str w, .non]] ++ t)[st.length]? = some (.lst [D.str w, .non]) := Zbl (by simp)
   rw [toP, ZhR e]
   rfl
  ·unfold SeqAt.shaped
   simp [PyData.canLay0, PyData.canLayAll0, PyData.depth, PyData.depthAll, hw]
 ·cases h
  refine Sv.of fun t => ?_
  have e : toP (st ++ [Ob.lst [D.str w, .non]] ++ t) 66 (.tup [.int n, .tup [.str w]]) = some (.tuple [.int n, .tuple [.str w]]) := by
   simp [toP, allO]
  have z : eqO (.tup [.int n, .tup [.str w]]) (.tup [.int n, .tup [.str w]]) (st ++ [Ob.lst [D.str w, .non]] ++ t) = eqG (.tup [.int n, .tup [.str w]]) (.tup [.int n, .tup [.str w]]) (st ++ [Ob.lst [D.str w, .non]] ++ t) := rfl
  rw [z]
  refine ZjG e ?_
  unfold SeqAt.shaped
  simp [PyData.canLay0, PyData.canLayAll0, PyData.depth, PyData.depthAll, hw]
abbrev N60 : Int := 1000000000000000000000000000000000000000000000000000000000000
abbrev N59 : Int := 100000000000000000000000000000000000000000000000000000000000
theorem Zkp (Φ : Fam) {X : D} {k c : Int} {w z : Str} {j n d : Int} {v : D} {b : Bool} {L : Int} {st : Sto} (ln : lenB [X] st = .ok (.int L) st) (lt : ltQ (.int k) (.int L) st = .ok (.bl b) st) (hc : b = true -> ixD X (.int k) st = .ok (.int c) st) (hc0 : b = false -> c = 0)
  (m1 : modD (.int c) (.int N60) st = .ok (.int (n + N59)) st) (m2 : ∃ e, modD (.int c) (.int 26) st = .ok (.int e) st /\ ixD (.str "abcdefghijklmnopqrstuvwxyz") (.int e) st = .ok (.str z) st)
  (m3 : ∃ f g, fdivD (.int c) (.int 26) st = .ok (.int f) st /\ modD (.int f) (.int 8) st = .ok (.int g) st /\ j = 1 + g) (ml : mulD (.str z) (.int j) st = .ok (.str w) st)
  (m4 : ∃ f, fdivD (.int c) (.int 208) st = .ok (.int f) st /\ ∀ s, modD (.int f) (.int 5) s = .ok (.int d) s) (hd : ∃ f, (∀ s, fdivD (.int c) (.int 208) s = .ok (.int f) s) /\ ∀ s, modD (.int f) (.int 5) s = .ok (.int d) s)
  (at5 : atI [D.non, .str w, .int n, .obj st.length, .tup [.int n, .tup [.str w]]] d = some v) :
  runB 5 (ZH Φ) [X, .int k] st = .ok v (st ++ [.lst [.str w, .non]]) := by
 have p60 : ∀ s, powD (.int 10) (.int 60) s = .ok (.int N60) s := fun s => by
  show (if (0 : Int) <= 60 /\ (60 : Int) <= 1000000 /\ (10 : Int).natAbs < 2 ^ 64 then R.ok (D.int ((10 : Int) ^ (60 : Int).toNat)) s else .stuck) = _
  rw [if_pos (by decide)]
  rfl
 have p59 : ∀ s, powD (.int 10) (.int 59) s = .ok (.int N59) s := fun s => by
  show (if (0 : Int) <= 59 /\ (59 : Int) <= 1000000 /\ (10 : Int).natAbs < 2 ^ 64 then R.ok (D.int ((10 : Int) ^ (59 : Int).toNat)) s else .stuck) = _
  rw [if_pos (by decide)]
  rfl
 have sb : subD (.int (n + N59)) (.int N59) st = .ok (.int n) st := by
  show R.ok (D.int (n + N59 - N59)) st = _
  congr 2
  omega
 obtain ⟨e, e1, e2⟩ := m2
 obtain ⟨f, g, f1, f2, rfl⟩ := m3
 obtain ⟨h, h1, h2⟩ := hd
 have n1 : (1 : Nat) <= sizeLine := lsz _ (by decide)
 have n2 : (2 : Nat) <= sizeLine := lsz _ (by decide)
 have n5 : (5 : Nat) <= sizeLine := lsz _ (by decide)
 generalize n + N59 = nn at *
 generalize hN : N60 = M60 at *
 generalize hM : N59 = M59 at *
 rw [ZhC]
 cases b with
 | true =>
  have hc := hc rfl
  simp [ZH, Zc6, ln, lt, hc, p60, p59, m1, sb, e1, e2, f1, f2, ml, n1, n2, n5, h1, h2, at5]
 | false =>
  have hc0 := hc0 rfl
  subst hc0
  simp [ZH, Zc6, ln, lt, p60, p59, m1, sb, e1, e2, f1, f2, ml, n1, n2, n5, h1, h2, at5]
end Mi
namespace Mi
open PySem L2
theorem ZtR {x : Str} (h : asc x) (k : Nat) : PyData.strOk (repS x k) = true := by
 unfold PyData.strOk
 rw [Array.all_eq_true']
 intro c hc
 have hc : c ∈ (repS x k).cps.toList := by simpa using hc
 unfold repS at hc
 simp at hc
 obtain ⟨l, ⟨_, rfl⟩, hcl⟩ := hc
 have := h c (by simpa using hcl)
 exact decide_eq_true (by omega)
theorem Zkt (m : Nat) (ns : List Int) (hl : ns.length <= 63) (k : Nat) (st : Sto) : ∃ w v, Phi prog (m + 1) ZR [.kl (ns.map .int), .int (k : Nat)] st = .ok v (st ++ [.lst [.str w, .non]]) /\ Sv v (st ++ [.lst [.str w, .non]]) := by
 obtain ⟨c, hc, hc0⟩ : ∃ c : Int, (decide ((k : Int) < (ns.length : Nat)) = true -> ixD (.kl (ns.map .int)) (.int (k : Nat)) st = .ok (.int c) st) /\ (decide ((k : Int) < (ns.length : Nat)) = false -> c = 0) := by
  by_cases h : k < ns.length
  ·refine ⟨ns[k], fun _ => ?_, fun z => ?_⟩
   ·show ofO (atI (ns.map D.int) ((k : Nat) : Int)) st = _
    rw [Zfb, List.getElem?_map, List.getElem?_eq_getElem h]
    rfl
   ·have := of_decide_eq_false z; omega
  ·exact ⟨0, fun z => by have := of_decide_eq_true z; omega, fun _ => rfl⟩
 have e0 : (0 : Int) <= c % 26 := Int.emod_nonneg _ (by decide)
 have e1 : c % 26 < 26 := Int.emod_lt_of_pos _ (by decide)
 have g0 : (0 : Int) <= c / 26 % 8 := Int.emod_nonneg _ (by decide)
 have g1 : c / 26 % 8 < 8 := Int.emod_lt_of_pos _ (by decide)
 have d0 : (0 : Int) <= c / 208 % 5 := Int.emod_nonneg _ (by decide)
 have d1 : c / 208 % 5 < 5 := Int.emod_lt_of_pos _ (by decide)
 obtain ⟨z, hz, lz, az⟩ : ∃ z : Str, ixD (.str "abcdefghijklmnopqrstuvwxyz") (.int (c % 26)) st = .ok (.str z) st /\ z.length = 1 /\ asc z := by
  have l : (Str.ofString "abcdefghijklmnopqrstuvwxyz").length <= sizeLine := lsz _ (by decide +kernel)
  have cl : (Str.ofString "abcdefghijklmnopqrstuvwxyz").cps.toList.length = 26 := by decide +kernel
  obtain ⟨ch, hm, ec⟩ : ∃ ch, ch ∈ (Str.ofString "abcdefghijklmnopqrstuvwxyz").cps.toList /\ atI (Str.ofString "abcdefghijklmnopqrstuvwxyz").cps.toList (c % 26) = some ch := by
   have hk : (c % 26).toNat < (Str.ofString "abcdefghijklmnopqrstuvwxyz").cps.toList.length := by rw [cl]; omega
   have ee : c % 26 = ((c % 26).toNat : Int) := by omega
   generalize (c % 26).toNat = j at *
   rw [ee, Zfb]
   exact ⟨_, List.getElem_mem hk, List.getElem?_eq_getElem hk⟩
  refine ⟨⟨#[ch]⟩, ?_, rfl, fun d hd => ?_⟩
  ·show (if (Str.ofString "abcdefghijklmnopqrstuvwxyz").length <= sizeLine then ofO ((atI (Str.ofString "abcdefghijklmnopqrstuvwxyz").cps.toList (c % 26)).map fun c => D.str ⟨#[c]⟩) st else .stuck) = _
   rw [if_pos l, ec]
   rfl
  ·have al : asc (Str.ofString "abcdefghijklmnopqrstuvwxyz") := Znp (by decide +kernel)
   have hd : d ∈ [ch] := hd
   rw [List.mem_singleton.mp hd]
   exact al _ hm
 have ml : mulD (.str z) (.int (1 + c / 26 % 8)) st = .ok (.str (repS z (1 + c / 26 % 8).toNat)) st := by
  show (if 1 + c / 26 % 8 <= 1000000 /\ -1000000 <= 1 + c / 26 % 8 /\ z.length * (1 + c / 26 % 8).toNat <= sizeLine then R.ok (D.str (repS z (1 + c / 26 % 8).toNat)) st else .stuck) = _
  rw [if_pos ⟨by omega, by omega, lsz _ (by rw [lz]; omega)⟩]
 have dv : ∀ (x y : Int) (s : Sto), 0 < y -> y < 1000 -> fdivD (.int x) (.int y) s = .ok (.int (x / y)) s := fun x y s h1 h2 => by
  show (if 0 < y /\ y.natAbs.log2 < 9000 then R.ok (D.int (x / y)) s else .stuck) = _
  rw [if_pos ⟨h1, by
   have : y.natAbs < 2 ^ 10 := by omega
   have := Nat.log2_lt (n := y.natAbs) (k := 10) (by omega) |>.mpr this
   omega⟩]
 have md : ∀ (x y : Int) (s : Sto), 0 < y -> modD (.int x) (.int y) s = .ok (.int (x % y)) s := fun x y s h => by
  show (if 0 < y then R.ok (D.int (x % y)) s else .stuck) = _
  rw [if_pos h]
 obtain ⟨v, hv⟩ : ∃ v, atI [D.non, .str (repS z (1 + c / 26 % 8).toNat), .int (c % N60 - N59), .obj st.length, .tup [.int (c % N60 - N59), .tup [.str (repS z (1 + c / 26 % 8).toNat)]]] (c / 208 % 5) = some v := by
  obtain ⟨x, _, e⟩ := menu (xs := [D.non, .str (repS z (1 + c / 26 % 8).toNat), .int (c % N60 - N59), .obj st.length, .tup [.int (c % N60 - N59), .tup [.str (repS z (1 + c / 26 % 8).toNat)]]]) d0 d1
  exact ⟨x, e⟩
 refine ⟨_, v, ?_, ZsW (ZtR az _) hv d0 d1⟩
 rw [Zh4]
 refine Zkp (Phi prog m) (L := ((ns.length : Nat) : Int)) (c := c) (b := decide ((k : Int) < (ns.length : Nat))) (by unfold lenB; simp) rfl hc hc0 ?_ ⟨_, md c 26 st (by decide), hz⟩ ⟨_, _, dv c 26 st (by decide) (by decide), md _ 8 st (by decide), rfl⟩ ml ⟨_, dv c 208 st (by decide) (by decide), fun s => md _ 5 s (by decide)⟩ ⟨_, fun s => dv c 208 s (by decide) (by decide), fun s => md _ 5 s (by decide)⟩ hv
 have := md c N60 st (by decide)
 rw [this]
 congr 2
 omega
theorem ZkV (m : Nat) {v1 v2 : D} {st : Sto} (h1 : Sv v1 st) (h2 : Sv v2 st) : ∃ t, Phi prog (m + 1) ZY [v1, v2] st = .ok (.bl true) (st ++ t) := by
 refine ⟨[.xcp 2 [("place", v1)], .xcp 3 [("most", v2)], .xcp 5 [("line", v1)], .xcp 7 [("name", v1)], .xcp 8 [("name", v2)], .xcp 9 [("name", v1)], .xcp 11 [("asks", v2)], .xcp 12 [("name", v1)]], ?_⟩
 rw [ZhP, ZhC]
 simp [ZS, Zc8, Zc5, ZeD, ZfT, ZfY, Zhp, Zdc, Zda, List.lookup, h1.ne, h2.ne, h1.eq, h2.eq]
end Mi
namespace Mi
open PySem L2
def SL (w1 w2 : Str) (v1 v2 : D) : Sto := [.lst [.str w1, .non], .lst [.str w2, .non], .xcp 1 [], .xcp 2 [("place", v1)], .xcp 3 [("most", v2)], .xcp 4 [], .xcp 5 [("line", v1)], .xcp 6 [], .xcp 7 [("name", v1)], .lst [.obj 2, .obj 3, .obj 4, .obj 5, .obj 6, .obj 7, .obj 8],
 .xcp 8 [("name", v1)], .xcp 9 [("name", v2)], .xcp 10 [], .xcp 11 [("asks", v1)], .xcp 12 [("name", v1)], .lst [.obj 2, .obj 3, .obj 4, .obj 5, .obj 6, .obj 7, .obj 8, .obj 10, .obj 11, .obj 12, .obj 13, .obj 14],
 .lst [.bl true, .bl false, .bl false, .bl false], .lst [.obj 16, .obj 16, .obj 16, .obj 16, .obj 16, .obj 16, .obj 16, .obj 16, .obj 16], .lst [.bl false, .bl true, .bl false, .bl false], .lst [.obj 18, .obj 18], .lst [.obj 16, .obj 16, .obj 16, .obj 16, .obj 16, .obj 16, .obj 16, .obj 16, .obj 16, .obj 18, .obj 18],
 .lst [.bl false, .bl false, .bl true, .bl true], .lst [.obj 16, .obj 16, .obj 16, .obj 16, .obj 16, .obj 16, .obj 16, .obj 16, .obj 16, .obj 18, .obj 18, .obj 21]]
abbrev E12 : List D := [.obj 2, .obj 3, .obj 4, .obj 5, .obj 6, .obj 7, .obj 8, .obj 10, .obj 11, .obj 12, .obj 13, .obj 14]
abbrev K12 : List D := [.obj 16, .obj 16, .obj 16, .obj 16, .obj 16, .obj 16, .obj 16, .obj 16, .obj 16, .obj 18, .obj 18, .obj 21]
theorem Zss : ∀ bs : List Bool, Ths (bs.map D.bl) /\ dps' (bs.map D.bl) <= 60 := fun bs => ⟨Ths.of fun d hd => by
 obtain ⟨b, _, rfl⟩ := List.mem_map.mp hd
 trivial, Zkd fun d hd => by
 obtain ⟨b, _, rfl⟩ := List.mem_map.mp hd
 simp [dp']⟩
theorem Zkx {st : Sto} {n : Nat} {bs : List Bool} (hn : st[n]? = some (.lst (bs.map D.bl))) : neD (.obj n) (.ev (bs.map D.bl)) st = .ok (.bl false) st := by
 obtain ⟨h1, h2⟩ := Zss bs
 unfold neD
 have : eqO (.obj n) (.ev (bs.map D.bl)) st = some true := ZjD (Zjk hn h1 h2) (ZvF h1 h2) h1 h2
 rw [this]
 rfl
theorem ZjP {st : Sto} {n k : Nat} {bs : List Bool} (hn : st[n]? = some (.lst (bs.map D.bl))) (hk : st[k]? = some (.lst (bs.map D.bl))) : neD (.obj n) (.obj k) st = .ok (.bl false) st := by
 obtain ⟨h1, h2⟩ := Zss bs
 unfold neD
 have : eqO (.obj n) (.obj k) st = some true := ZjD (Zjk hn h1 h2) (Zjk hk h1 h2) h1 h2
 rw [this]
 rfl
theorem ZBj (c : Nat) : bsO c = [c == 1, c == 2, c == 3, c == 4, c == 5, c == 6, c == 7, c == 8, c == 9, c == 10, c == 11, c == 12].map D.bl := rfl
theorem ZyY (c : Nat) : bsK c = [decide (c <= 9), c == 10 || c == 11, c == 12, c == 12].map D.bl := rfl
theorem eq12 {i : Nat} (hi : i < 12) : ((upI 0 12).map fun d => match d with | .int j => D.bl (decide (j = ((i : Nat) : Int))) | _ => .non) = bsO (i + 1) := by
 have h : i = 0 \/ i = 1 \/ i = 2 \/ i = 3 \/ i = 4 \/ i = 5 \/ i = 6 \/ i = 7 \/ i = 8 \/ i = 9 \/ i = 10 \/ i = 11 := by omega
 rcases h with rfl | rfl | rfl | rfl | rfl | rfl | rfl | rfl | rfl | rfl | rfl | rfl <;> rfl
theorem ZtI (m : Nat) {x0 x1 x2 x3 : Option D} {kn e i q : Nat} {fs : List (Str × D)} {KS : List D} {st : Sto} (hi : i < 12) (he : st[e]? = some (.xcp (i + 1) fs)) (hk : st[kn]? = some (.lst KS)) (hq : KS[i]? = some (.obj q)) (hb : st[q]? = some (.lst (bsK (i + 1)))) :
  ∃ t, ZgR (Phi prog (m + 1)) [x0, x1, x2, x3, some (.obj kn), some (.int (i : Nat)), some (.obj e), none, none] st = .nx [x0, x1, x2, x3, some (.obj kn), some (.int (i : Nat)), some (.obj e), none, none] (st ++ t) := by
 obtain ⟨n1, t1, q1, h1⟩ := ZsD m (c := i + 1) he (by omega)
 have he1 := Zbl (t := t1) he
 obtain ⟨n2, t2, q2, h2⟩ := Zs1 m (c := i + 1) (st := st ++ t1) he1 (by omega)
 refine ⟨t1 ++ t2, ?_⟩
 have cp : compL [] (.nm 8) cYes (e2 eqD (eVar 8) (eVar 5)) [x0, x1, x2, x3, some (.obj kn), some (.int (i : Nat)), some (.obj e), none, none] (upI 0 12) (st ++ t1) = .ok (bsO (i + 1)) (st ++ t1) := by
  rw [<- eq12 hi]
  refine ZjJ fun d hd => ?_
  unfold upI at hd
  obtain ⟨j, _, rfl⟩ := List.mem_map.mp hd
  simp
 have ne1 : neD (.obj n1) (.ev (bsO (i + 1))) (st ++ t1) = .ok (.bl false) (st ++ t1) := by
  rw [ZBj] at h1 ⊢
  exact Zkx h1
 have ix : ixD (.obj kn) (.int (i : Nat)) (st ++ t1 ++ t2) = .ok (.obj q) (st ++ t1 ++ t2) := by
  show (match seqOf (st ++ t1 ++ t2) kn with | some ds => ofO (atI ds ((i : Nat) : Int)) (st ++ t1 ++ t2) | none => .stuck) = _
  rw [ZhR (Zbl (Zbl hk))]
  dsimp only
  rw [Zfb, hq]
  rfl
 have ne2 : neD (.obj n2) (.obj q) (st ++ t1 ++ t2) = .ok (.bl false) (st ++ t1 ++ t2) := by
  have hb2 := Zbl (t := t2) (Zbl (t := t1) hb)
  rw [ZyY] at h2 hb2
  exact ZjP h2 hb2
 have xm := ZaF (T := Zb3) (b := decide (i < 9)) (Zbl (t := t2) he1) (by
  have h : i = 0 \/ i = 1 \/ i = 2 \/ i = 3 \/ i = 4 \/ i = 5 \/ i = 6 \/ i = 7 \/ i = 8 \/ i = 9 \/ i = 10 \/ i = 11 := by omega
  rcases h with rfl | rfl | rfl | rfl | rfl | rfl | rfl | rfl | rfl | rfl | rfl | rfl <;> rfl) []
 rw [List.append_nil] at xm
 have lt : ltQ (.int (i : Nat)) (.int 9) (st ++ t1 ++ t2) = .ok (.bl (decide (i < 9))) (st ++ t1 ++ t2) := by
  show R.ok (D.bl (decide (((i : Nat) : Int) < 9))) _ = _
  congr 2
  simp
  omega
 have nb : ∀ (b : Bool) (s : Sto), neD (.bl b) (.bl b) s = .ok (.bl false) s := fun b s => by cases b <;> rfl
 have nb := nb (decide (i < 9)) (st ++ t1 ++ t2)
 have rg := Zs7 (j := 12) (st := st ++ t1) (by decide) (by decide)
 have ul : (upI 0 12).length <= sizeLine := lsz _ (by simp [upI])
 generalize bsO (i + 1) = BO at *
 generalize ((i : Nat) : Int) = ii at *
 generalize decide (i < 9) = b9 at *
 have rg : rng1 [.int 12] (st ++ t1) = .ok (upI 0 12, []) (st ++ t1) := rg
 generalize upI 0 12 = U at *
 rw [<- List.append_assoc]
 generalize hs2 : st ++ t1 ++ t2 = s2 at *
 generalize hs1 : st ++ t1 = s1 at *
 simp [ZgR, q1, rg, ul, wipeE, cp, ne1, q2, ix, ne2, xm, lt, nb]
end Mi
namespace Mi
open PySem L2
theorem Zud (m : Nat) {X v1 v2 : D} {w1 w2 : Str} : ∃ a5 a6 t, forL [(15, E12)] (.tp [5, 6]) (ZgR (Phi prog (m + 1))) (numb E12) [some X, some v1, some v2, some (.obj 15), some (.obj 22), none, none, none, none] (SL w1 w2 v1 v2) = .nx [some X, some v1, some v2, some (.obj 15), some (.obj 22), a5, a6, none, none] (SL w1 w2 v1 v2 ++ t) := by
 have z := Zkw (w := [(15, E12)]) (t := .tp [5, 6]) (B := ZgR (Phi prog (m + 1))) (J := fun env s => ∃ a5 a6 t, env = [some X, some v1, some v2, some (.obj 15), some (.obj 22), a5, a6, none, none] /\ s = SL w1 w2 v1 v2 ++ t) (fun env st ⟨_, _, t, _, hs⟩ => by
  subst hs
  exact Zux (Zbl (by simp [SL]))) (numb E12) [some X, some v1, some v2, some (.obj 15), some (.obj 22), none, none, none, none] (SL w1 w2 v1 v2) (fun d hd env st ⟨a5, a6, t, he, hs⟩ => by
  subst he hs
  obtain ⟨i, x, rfl, hi, ex, _⟩ := ZkY hd
  have hi : i < 12 := hi
  have go : ∀ (e q : Nat) (fs : List (Str × D)), E12[i]? = some (.obj e) -> (SL w1 w2 v1 v2)[e]? = some (.xcp (i + 1) fs) -> K12[i]? = some (.obj q) -> (SL w1 w2 v1 v2)[q]? = some (.lst (bsK (i + 1))) -> ∃ env1 env2 st2, bindT (.tp [5, 6]) (.tup [.int (i : Nat), x]) [some X, some v1, some v2, some (.obj 15), some (.obj 22), a5, a6, none, none] = some env1 /\ ZgR (Phi prog (m + 1)) env1 (SL w1 w2 v1 v2 ++ t) = .nx env2 st2 /\ ∃ a5 a6 t', env2 = [some X, some v1, some v2, some (.obj 15), some (.obj 22), a5, a6, none, none] /\ st2 = SL w1 w2 v1 v2 ++ t' := fun e q fs h1 h2 h3 h4 => by
   rw [h1] at ex
   cases ex
   obtain ⟨t2, r⟩ := ZtI m (x0 := some X) (x1 := some v1) (x2 := some v2) (x3 := some (.obj 15)) (kn := 22) (KS := K12) (st := SL w1 w2 v1 v2 ++ t) hi (Zbl h2) (Zbl (by simp [SL])) h3 (Zbl h4)
   exact ⟨_, _, _, rfl, r, _, _, t ++ t2, rfl, by rw [List.append_assoc]⟩
  have h : i = 0 \/ i = 1 \/ i = 2 \/ i = 3 \/ i = 4 \/ i = 5 \/ i = 6 \/ i = 7 \/ i = 8 \/ i = 9 \/ i = 10 \/ i = 11 := by omega
  rcases h with rfl | rfl | rfl | rfl | rfl | rfl | rfl | rfl | rfl | rfl | rfl | rfl
  ·exact go 2 16 _ rfl rfl rfl rfl
  ·exact go 3 16 _ rfl rfl rfl rfl
  ·exact go 4 16 _ rfl rfl rfl rfl
  ·exact go 5 16 _ rfl rfl rfl rfl
  ·exact go 6 16 _ rfl rfl rfl rfl
  ·exact go 7 16 _ rfl rfl rfl rfl
  ·exact go 8 16 _ rfl rfl rfl rfl
  ·exact go 10 16 _ rfl rfl rfl rfl
  ·exact go 11 16 _ rfl rfl rfl rfl
  ·exact go 12 18 _ rfl rfl rfl rfl
  ·exact go 13 18 _ rfl rfl rfl rfl
  ·exact go 14 21 _ rfl rfl rfl rfl) ⟨none, none, [], rfl, by rw [List.append_nil]⟩
 obtain ⟨env, st, q, a5, a6, t, rfl, rfl⟩ := z
 exact ⟨a5, a6, t, q⟩
theorem ZsQ (Φ : Fam) {X v1 v2 : D} {w1 w2 : Str} {a5 a6 : Option D} {n : Nat} {t t2 t3 : Sto} (q1 : Φ ZR [X, .int 0] [] = .ok v1 [.lst [.str w1, .non]]) (q2 : Φ ZR [X, .int 1] [.lst [.str w1, .non]] = .ok v2 [.lst [.str w1, .non], .lst [.str w2, .non]])
  (qf : forL [(15, E12)] (.tp [5, 6]) (ZgR Φ) (numb E12) [some X, some v1, some v2, some (.obj 15), some (.obj 22), none, none, none, none] (SL w1 w2 v1 v2) = .nx [some X, some v1, some v2, some (.obj 15), some (.obj 22), a5, a6, none, none] (SL w1 w2 v1 v2 ++ t))
  (q3 : Φ Z9 [.obj (SL w1 w2 v1 v2 ++ t).length] (SL w1 w2 v1 v2 ++ t ++ [.xcp 0 []]) = .ok (.obj n) (SL w1 w2 v1 v2 ++ t ++ [.xcp 0 []] ++ t2)) (an : ofL anyL [.obj n] (SL w1 w2 v1 v2 ++ t ++ [.xcp 0 []] ++ t2) = .ok (.bl false) (SL w1 w2 v1 v2 ++ t ++ [.xcp 0 []] ++ t2))
  (xv : xisD Z1 (.obj (SL w1 w2 v1 v2 ++ t).length) (SL w1 w2 v1 v2 ++ t ++ [.xcp 0 []] ++ t2) = .ok (.bl true) (SL w1 w2 v1 v2 ++ t ++ [.xcp 0 []] ++ t2)) (q4 : Φ ZY [v1, v2] (SL w1 w2 v1 v2 ++ t ++ [.xcp 0 []] ++ t2) = .ok (.bl true) (SL w1 w2 v1 v2 ++ t ++ [.xcp 0 []] ++ t2 ++ t3)) :
  runB 9 (Ziw Φ) [X] [] = .ok (.bl true) (SL w1 w2 v1 v2 ++ t ++ [.xcp 0 []] ++ t2 ++ t3) := by
 have n7 : (7 : Nat) <= sizeLine := lsz _ (by decide)
 have n4 : (4 : Nat) <= sizeLine := lsz _ (by decide)
 rw [ZhC]
 generalize hV : SL w1 w2 v1 v2 ++ t = V at *
 generalize hV2 : V ++ [Ob.xcp 0 []] ++ t2 = V2 at *
 unfold SL at qf
 generalize hL : ZgR Φ = LL at *
 have sz : ∀ k, k <= 20 -> k <= sizeLine := fun k h => lsz k (by omega)
 simp [Ziw, hL, q1, q2, n7, n4, addD, mulD, lsz, sz, Zlo, qf, q3, an, xv, q4, hV2]
theorem yes : ∀ ns : List Int, ns.length <= 63 -> ∃ st, Phi prog 100 Zj0 [.kl (ns.map .int)] [] = .ok (.bl true) st := by
 intro ns hl
 obtain ⟨w1, v1, q1, s1⟩ := Zkt 98 ns hl 0 []
 obtain ⟨w2, v2, q2, s2⟩ := Zkt 98 ns hl 1 [.lst [.str w1, .non]]
 obtain ⟨a5, a6, t, qf⟩ := Zud 98 (X := .kl (ns.map .int)) (v1 := v1) (v2 := v2) (w1 := w1) (w2 := w2)
 have hx : (SL w1 w2 v1 v2 ++ t ++ [Ob.xcp 0 []])[(SL w1 w2 v1 v2 ++ t).length]? = some (.xcp 0 []) := by simp
 obtain ⟨n, t2, q3, h3⟩ := ZsD 98 (st := SL w1 w2 v1 v2 ++ t ++ [.xcp 0 []]) hx (by decide)
 have xv := ZaF (T := Z1) (b := true) (Zbl (t := t2) hx) rfl []
 rw [List.append_nil] at xv
 have an : ofL anyL [.obj n] (SL w1 w2 v1 v2 ++ t ++ [.xcp 0 []] ++ t2) = .ok (.bl false) (SL w1 w2 v1 v2 ++ t ++ [.xcp 0 []] ++ t2) := by
  show (match seqOf (SL w1 w2 v1 v2 ++ t ++ [Ob.xcp 0 []] ++ t2) n with | some ds => anyL ds (SL w1 w2 v1 v2 ++ t ++ [Ob.xcp 0 []] ++ t2) | none => R.stuck) = _
  rw [ZhR h3]
  rfl
 have e1 : ∀ u, SL w1 w2 v1 v2 ++ u = [] ++ [Ob.lst [.str w1, .non]] ++ ((SL w1 w2 v1 v2).drop 1 ++ u) := fun u => rfl
 have e2 : ∀ u, SL w1 w2 v1 v2 ++ u = [Ob.lst [.str w1, .non]] ++ [Ob.lst [.str w2, .non]] ++ ((SL w1 w2 v1 v2).drop 2 ++ u) := fun u => rfl
 have sv1 : Sv v1 (SL w1 w2 v1 v2 ++ t ++ [.xcp 0 []] ++ t2) := by rw [List.append_assoc, List.append_assoc, e1]; exact s1.app _
 have sv2 : Sv v2 (SL w1 w2 v1 v2 ++ t ++ [.xcp 0 []] ++ t2) := by rw [List.append_assoc, List.append_assoc, e2]; exact s2.app _
 obtain ⟨t3, q4⟩ := ZkV 98 sv1 sv2
 exact ⟨_, by rw [Zs9]; exact ZsQ (Phi prog 99) q1 q2 qf q3 an xv q4⟩
end Mi
namespace Mi
open PySem L2
structure TI where
 c : Addr
 P : Addr
def nkF : Nat -> Option NT := fun j => match j with
 | _ => none
def nfrF : Nat -> List Str := fun j => match j with
 | _ => []
def tbF (ti : Nat -> TI) : Nat -> Option (Addr × (Nat -> Nat -> Str)) := fun j => match j with
 | _ => none
theorem Zje : bootBuiltins "KeyError" = some (.type "KeyError") := by decide +kernel
theorem Zh5 : bootBuiltins "LookupError" = some (.type "LookupError") := by decide +kernel
theorem ZhU : bootBuiltins "RuntimeError" = some (.type "RuntimeError") := by decide +kernel
theorem Zfn : bootBuiltins "ValueError" = some (.type "ValueError") := by decide +kernel
theorem Zwj : bootBuiltins "any" = some (.builtin "any") := by decide +kernel
theorem Zk : bootBuiltins "isinstance" = some (.builtin "isinstance") := by decide +kernel
theorem Zvt : bootBuiltins "len" = some (.builtin "len") := by decide +kernel
structure FI where
 a : Addr
 d : FuncData
def faF (fi : Nat -> FI) (j : Nat) : Option Addr := some (fi j).a
def caF (ci : Nat -> Addr) (c : Nat) : Option Addr := some (ci c)
structure Txt (g : Gd) (fi : Nat -> FI) (ci : Nat -> Addr) (ti : Nat -> TI) : Prop where
 sm : ∃ o, g.base.get? sysModules = some o
 hfa : ∀ j, g.fa j = some (fi j).a
 hca : ∀ c, g.ca c = some (ci c)
 hnk : ∀ j, g.nk j = nkF j
 hnfr : ∀ j, g.nfr j = nfrF j
 Z2 : Fun g.K "__init__" "NoPlace.__init__" Zi (fi 0).a (fi 0).d
 ZE : Binds g.K (fi 0).d ["self", "place"] []
 Z3 : Fun g.K "__init__" "TooMany.__init__" Zn (fi 1).a (fi 1).d
 ZC : Binds g.K (fi 1).d ["self", "most"] []
 Z7 : Fun g.K "__init__" "NoText.__init__" Zp (fi 2).a (fi 2).d
 ZI : Binds g.K (fi 2).d ["self", "line"] []
 Zac : Fun g.K "__init__" "Taken.__init__" Zr (fi 3).a (fi 3).d
 ZL : Binds g.K (fi 3).d ["self", "name"] []
 Zab : Fun g.K "__init__" "NoWay.__init__" Zq (fi 4).a (fi 4).d
 ZM : Binds g.K (fi 4).d ["self", "name"] []
 Zai : Fun g.K "__init__" "Held.__init__" Zt (fi 5).a (fi 5).d
 ZQ : Binds g.K (fi 5).d ["self", "name"] []
 ZZ : Fun g.K "__init__" "Faulted.__init__" Zm (fi 6).a (fi 6).d
 ZF : Binds g.K (fi 6).d ["self", "asks"] []
 Z0 : Fun g.K "__init__" "Unknown.__init__" Zl (fi 7).a (fi 7).d
 ZD : Binds g.K (fi 7).d ["self", "name"] []
 ZbL : Fun g.K "_law_value" "_law_value" ZK (fi 8).a (fi 8).d
 ZH : Binds g.K (fi 8).d ["_law_script", "_law_k"] []
 Zc4 : Fun g.K "_law_ones" "_law_ones" ZV (fi 9).a (fi 9).d
 ZT : Binds g.K (fi 9).d ["_law_error"] []
 Zd9 : Fun g.K "_law_kinds" "_law_kinds" ZJ (fi 10).a (fi 10).d
 ZX : Binds g.K (fi 10).d ["_law_error"] []
 Zdb : Fun g.K "_law_fields" "_law_fields" ZG (fi 11).a (fi 11).d
 ZS : Binds g.K (fi 11).d ["_law_one", "_law_other"] []
 ZtH : Fun g.K "law" "law" ZhK (fi 12).a (fi 12).d
 Ziw : Binds g.K (fi 12).d ["_law_script"] []
 ZfU : g.mg "_law_fields" = some (.ref (fi 11).a)
 ZgT : g.mg "_law_kinds" = some (.ref (fi 10).a)
 Zfd : g.mg "_law_ones" = some (.ref (fi 9).a)
 Zd0 : g.mg "_law_value" = some (.ref (fi 8).a)
 ZAa : g.mg "law" = some (.ref (fi 12).a)
 Zbf : g.mg "KeyError" = none
 Zaa : g.mg "LookupError" = none
 Z4 : g.mg "RuntimeError" = none
 Z8 : g.mg "ValueError" = none
 ZjX : g.mg "any" = none
 ZaJ : g.mg "enumerate" = none
 Zj : g.mg "isinstance" = none
 Zj1 : g.mg "len" = none
 Zgq : g.mg "range" = none
 Zgd : g.mg "Changed" = some (.ref (ci 10))
 Zio : PySem.W.subIn g.K (.ref (ci 10)) (.type "BaseException") = some true
 Zew : PySem.W.typeIn g.K (.ref (ci 10)) = some (.type "type")
 Zim : PySem.W.keepIn g.K (.ref (ci 10)) = true
 Zin : PySem.W.excIn g.K (ci 10) [.type "RuntimeError", .type "Exception", .type "BaseException", .type "object"] "RuntimeError.__new__" = true
 ZeB : g.mg "Faulted" = some (.ref (ci 11))
 ZjO : PySem.W.subIn g.K (.ref (ci 11)) (.type "BaseException") = some true
 Zgr : PySem.W.typeIn g.K (.ref (ci 11)) = some (.type "type")
 ZjZ : PySem.W.keepIn g.K (.ref (ci 11)) = true
 ZcV : OexR g.K (ci 11)
 ZgF : PySem.W.findIn g.K (.ref (ci 11)) "__init__" = some (some (.ref (fi 6).a))
 Zgx : PySem.W.typeIn g.K (.ref (fi 6).a) = some (.type "function")
 Zev : PySem.W.findIn g.K (.ref (ci 11)) "asks" = some none
 Zit : XfC g.K (ci 11)
 ZiJ : g.mg "Held" = some (.ref (ci 9))
 Ztq : PySem.W.subIn g.K (.ref (ci 9)) (.type "BaseException") = some true
 Zjg : PySem.W.typeIn g.K (.ref (ci 9)) = some (.type "type")
 ZsP : PySem.W.keepIn g.K (.ref (ci 9)) = true
 ZhG : OexC g.K (ci 9)
 Zji : PySem.W.findIn g.K (.ref (ci 9)) "__init__" = some (some (.ref (fi 5).a))
 Zjf : PySem.W.typeIn g.K (.ref (fi 5).a) = some (.type "function")
 ZiK : PySem.W.findIn g.K (.ref (ci 9)) "name" = some none
 ZkC : XfC g.K (ci 9)
 Zea : g.mg "MakeError" = some (.ref (ci 0))
 ZgP : PySem.W.subIn g.K (.ref (ci 0)) (.type "BaseException") = some true
 ZbF : PySem.W.typeIn g.K (.ref (ci 0)) = some (.type "type")
 ZgM : PySem.W.keepIn g.K (.ref (ci 0)) = true
 ZgQ : PySem.W.excIn g.K (ci 0) [.type "ValueError", .type "Exception", .type "BaseException", .type "object"] "ValueError.__new__" = true
 ZhT : g.mg "NoDeed" = some (.ref (ci 1))
 Zi3 : PySem.W.subIn g.K (.ref (ci 1)) (.type "BaseException") = some true
 Zfx : PySem.W.typeIn g.K (.ref (ci 1)) = some (.type "type")
 Zi6 : PySem.W.keepIn g.K (.ref (ci 1)) = true
 Zi7 : PySem.W.excIn g.K (ci 1) [.type "ValueError", .type "Exception", .type "BaseException", .type "object"] "ValueError.__new__" = true
 ZeG : g.mg "NoPlace" = some (.ref (ci 2))
 ZjM : PySem.W.subIn g.K (.ref (ci 2)) (.type "BaseException") = some true
 ZgA : PySem.W.typeIn g.K (.ref (ci 2)) = some (.type "type")
 ZjY : PySem.W.keepIn g.K (.ref (ci 2)) = true
 Zcp : OexC g.K (ci 2)
 Zgp : PySem.W.findIn g.K (.ref (ci 2)) "__init__" = some (some (.ref (fi 0).a))
 Zgv : PySem.W.typeIn g.K (.ref (fi 0).a) = some (.type "function")
 ZeC : PySem.W.findIn g.K (.ref (ci 2)) "place" = some none
 Ziv : XfC g.K (ci 2)
 ZiA : g.mg "NoRow" = some (.ref (ci 6))
 ZjI : PySem.W.subIn g.K (.ref (ci 6)) (.type "BaseException") = some true
 Zhm : PySem.W.typeIn g.K (.ref (ci 6)) = some (.type "type")
 Zjn : PySem.W.keepIn g.K (.ref (ci 6)) = true
 ZjB : PySem.W.excIn g.K (ci 6) [.type "ValueError", .type "Exception", .type "BaseException", .type "object"] "ValueError.__new__" = true
 ZfV : g.mg "NoText" = some (.ref (ci 5))
 Zj6 : PySem.W.subIn g.K (.ref (ci 5)) (.type "BaseException") = some true
 ZhQ : PySem.W.typeIn g.K (.ref (ci 5)) = some (.type "type")
 Zkg : PySem.W.keepIn g.K (.ref (ci 5)) = true
 Zd5 : OexC g.K (ci 5)
 ZhY : PySem.W.findIn g.K (.ref (ci 5)) "__init__" = some (some (.ref (fi 2).a))
 ZhM : PySem.W.typeIn g.K (.ref (fi 2).a) = some (.type "function")
 Zfv : PySem.W.findIn g.K (.ref (ci 5)) "line" = some none
 Zi4 : XfC g.K (ci 5)
 ZhV : g.mg "NoView" = some (.ref (ci 4))
 ZiZ : PySem.W.subIn g.K (.ref (ci 4)) (.type "BaseException") = some true
 Zfo : PySem.W.typeIn g.K (.ref (ci 4)) = some (.type "type")
 Zi0 : PySem.W.keepIn g.K (.ref (ci 4)) = true
 Zi5 : PySem.W.excIn g.K (ci 4) [.type "ValueError", .type "Exception", .type "BaseException", .type "object"] "ValueError.__new__" = true
 Zhq : g.mg "NoWay" = some (.ref (ci 8))
 Zln : PySem.W.subIn g.K (.ref (ci 8)) (.type "BaseException") = some true
 Zix : PySem.W.typeIn g.K (.ref (ci 8)) = some (.type "type")
 ZkQ : PySem.W.keepIn g.K (.ref (ci 8)) = true
 ZfX : OexC g.K (ci 8)
 ZiD : PySem.W.findIn g.K (.ref (ci 8)) "__init__" = some (some (.ref (fi 4).a))
 Ziz : PySem.W.typeIn g.K (.ref (fi 4).a) = some (.type "function")
 Zhn : PySem.W.findIn g.K (.ref (ci 8)) "name" = some none
 ZjF : XfC g.K (ci 8)
 Zhr : g.mg "Taken" = some (.ref (ci 7))
 ZkP : PySem.W.subIn g.K (.ref (ci 7)) (.type "BaseException") = some true
 ZiT : PySem.W.typeIn g.K (.ref (ci 7)) = some (.type "type")
 ZkZ : PySem.W.keepIn g.K (.ref (ci 7)) = true
 ZfN : OexC g.K (ci 7)
 ZiH : PySem.W.findIn g.K (.ref (ci 7)) "__init__" = some (some (.ref (fi 3).a))
 ZiV : PySem.W.typeIn g.K (.ref (fi 3).a) = some (.type "function")
 Zhs : PySem.W.findIn g.K (.ref (ci 7)) "name" = some none
 ZjK : XfC g.K (ci 7)
 ZeH : g.mg "TooMany" = some (.ref (ci 3))
 ZjU : PySem.W.subIn g.K (.ref (ci 3)) (.type "BaseException") = some true
 Zgt : PySem.W.typeIn g.K (.ref (ci 3)) = some (.type "type")
 ZjV : PySem.W.keepIn g.K (.ref (ci 3)) = true
 Zcu : OexC g.K (ci 3)
 Zgn : PySem.W.findIn g.K (.ref (ci 3)) "__init__" = some (some (.ref (fi 1).a))
 ZgB : PySem.W.typeIn g.K (.ref (fi 1).a) = some (.type "function")
 ZeA : PySem.W.findIn g.K (.ref (ci 3)) "most" = some none
 Ziu : XfC g.K (ci 3)
 ZeK : g.mg "Unknown" = some (.ref (ci 12))
 ZjS : PySem.W.subIn g.K (.ref (ci 12)) (.type "BaseException") = some true
 ZgI : PySem.W.typeIn g.K (.ref (ci 12)) = some (.type "type")
 ZjQ : PySem.W.keepIn g.K (.ref (ci 12)) = true
 ZcU : OexR g.K (ci 12)
 ZgE : PySem.W.findIn g.K (.ref (ci 12)) "__init__" = some (some (.ref (fi 7).a))
 ZgC : PySem.W.typeIn g.K (.ref (fi 7).a) = some (.type "function")
 Zey : PySem.W.findIn g.K (.ref (ci 12)) "name" = some none
 Zir : XfC g.K (ci 12)
 Zu : ExcC g.K (ci 10)
 ZbZ : PySem.W.kitOne g.K (.ref (ci 10)) (.ref (ci 10)) = some true
 Zcg : PySem.W.kitOne g.K (.ref (ci 10)) (.ref (ci 11)) = some false
 Zed : PySem.W.kitOne g.K (.ref (ci 10)) (.ref (ci 9)) = some false
 Zbj : PySem.W.kitOne g.K (.ref (ci 10)) (.type "KeyError") = some false
 ZaD : PySem.W.kitOne g.K (.ref (ci 10)) (.type "LookupError") = some false
 ZaZ : PySem.W.kitOne g.K (.ref (ci 10)) (.ref (ci 0)) = some false
 Zcz : PySem.W.kitOne g.K (.ref (ci 10)) (.ref (ci 1)) = some false
 ZbG : PySem.W.kitOne g.K (.ref (ci 10)) (.ref (ci 2)) = some false
 ZdE : PySem.W.kitOne g.K (.ref (ci 10)) (.ref (ci 6)) = some false
 Zco : PySem.W.kitOne g.K (.ref (ci 10)) (.ref (ci 5)) = some false
 Zcn : PySem.W.kitOne g.K (.ref (ci 10)) (.ref (ci 4)) = some false
 ZdT : PySem.W.kitOne g.K (.ref (ci 10)) (.ref (ci 8)) = some false
 Zaq : PySem.W.kitOne g.K (.ref (ci 10)) (.type "RuntimeError") = some true
 ZdF : PySem.W.kitOne g.K (.ref (ci 10)) (.ref (ci 7)) = some false
 ZbR : PySem.W.kitOne g.K (.ref (ci 10)) (.ref (ci 3)) = some false
 Zb9 : PySem.W.kitOne g.K (.ref (ci 10)) (.ref (ci 12)) = some false
 ZaR : PySem.W.kitOne g.K (.ref (ci 10)) (.type "ValueError") = some false
 Zw : ExcC g.K (ci 11)
 ZbT : PySem.W.kitOne g.K (.ref (ci 11)) (.ref (ci 10)) = some false
 Zb4 : PySem.W.kitOne g.K (.ref (ci 11)) (.ref (ci 11)) = some true
 Zeo : PySem.W.kitOne g.K (.ref (ci 11)) (.ref (ci 9)) = some false
 ZbA : PySem.W.kitOne g.K (.ref (ci 11)) (.type "KeyError") = some false
 ZaA : PySem.W.kitOne g.K (.ref (ci 11)) (.type "LookupError") = some false
 Zbb : PySem.W.kitOne g.K (.ref (ci 11)) (.ref (ci 0)) = some false
 Zcv : PySem.W.kitOne g.K (.ref (ci 11)) (.ref (ci 1)) = some false
 ZbH : PySem.W.kitOne g.K (.ref (ci 11)) (.ref (ci 2)) = some false
 Zdw : PySem.W.kitOne g.K (.ref (ci 11)) (.ref (ci 6)) = some false
 ZcP : PySem.W.kitOne g.K (.ref (ci 11)) (.ref (ci 5)) = some false
 ZcQ : PySem.W.kitOne g.K (.ref (ci 11)) (.ref (ci 4)) = some false
 Zdh : PySem.W.kitOne g.K (.ref (ci 11)) (.ref (ci 8)) = some false
 Zas : PySem.W.kitOne g.K (.ref (ci 11)) (.type "RuntimeError") = some true
 ZdL : PySem.W.kitOne g.K (.ref (ci 11)) (.ref (ci 7)) = some false
 Zb5 : PySem.W.kitOne g.K (.ref (ci 11)) (.ref (ci 3)) = some false
 Zb1 : PySem.W.kitOne g.K (.ref (ci 11)) (.ref (ci 12)) = some false
 ZaS : PySem.W.kitOne g.K (.ref (ci 11)) (.type "ValueError") = some false
 Z5 : ExcC g.K (ci 9)
 Zd4 : PySem.W.kitOne g.K (.ref (ci 9)) (.ref (ci 10)) = some false
 Zeq : PySem.W.kitOne g.K (.ref (ci 9)) (.ref (ci 11)) = some false
 ZgL : PySem.W.kitOne g.K (.ref (ci 9)) (.ref (ci 9)) = some true
 ZdI : PySem.W.kitOne g.K (.ref (ci 9)) (.type "KeyError") = some false
 Zbn : PySem.W.kitOne g.K (.ref (ci 9)) (.type "LookupError") = some false
 Zcw : PySem.W.kitOne g.K (.ref (ci 9)) (.ref (ci 0)) = some true
 ZeV : PySem.W.kitOne g.K (.ref (ci 9)) (.ref (ci 1)) = some false
 ZdW : PySem.W.kitOne g.K (.ref (ci 9)) (.ref (ci 2)) = some false
 ZfZ : PySem.W.kitOne g.K (.ref (ci 9)) (.ref (ci 6)) = some false
 Ze7 : PySem.W.kitOne g.K (.ref (ci 9)) (.ref (ci 5)) = some false
 Ze2 : PySem.W.kitOne g.K (.ref (ci 9)) (.ref (ci 4)) = some false
 Zfp : PySem.W.kitOne g.K (.ref (ci 9)) (.ref (ci 8)) = some false
 Zbc : PySem.W.kitOne g.K (.ref (ci 9)) (.type "RuntimeError") = some false
 Zfs : PySem.W.kitOne g.K (.ref (ci 9)) (.ref (ci 7)) = some false
 Zek : PySem.W.kitOne g.K (.ref (ci 9)) (.ref (ci 3)) = some false
 ZdX : PySem.W.kitOne g.K (.ref (ci 9)) (.ref (ci 12)) = some false
 ZbU : PySem.W.kitOne g.K (.ref (ci 9)) (.type "ValueError") = some true
 Zo : ExcC g.K (ci 0)
 Zbe : PySem.W.kitOne g.K (.ref (ci 0)) (.ref (ci 10)) = some false
 Za8 : PySem.W.kitOne g.K (.ref (ci 0)) (.ref (ci 11)) = some false
 Zcy : PySem.W.kitOne g.K (.ref (ci 0)) (.ref (ci 9)) = some false
 ZaP : PySem.W.kitOne g.K (.ref (ci 0)) (.type "KeyError") = some false
 Zal : PySem.W.kitOne g.K (.ref (ci 0)) (.type "LookupError") = some false
 Zaz : PySem.W.kitOne g.K (.ref (ci 0)) (.ref (ci 0)) = some true
 Zbi : PySem.W.kitOne g.K (.ref (ci 0)) (.ref (ci 1)) = some false
 Za9 : PySem.W.kitOne g.K (.ref (ci 0)) (.ref (ci 2)) = some false
 ZbI : PySem.W.kitOne g.K (.ref (ci 0)) (.ref (ci 6)) = some false
 ZbC : PySem.W.kitOne g.K (.ref (ci 0)) (.ref (ci 5)) = some false
 Zbg : PySem.W.kitOne g.K (.ref (ci 0)) (.ref (ci 4)) = some false
 ZbN : PySem.W.kitOne g.K (.ref (ci 0)) (.ref (ci 8)) = some false
 Zah : PySem.W.kitOne g.K (.ref (ci 0)) (.type "RuntimeError") = some false
 ZbK : PySem.W.kitOne g.K (.ref (ci 0)) (.ref (ci 7)) = some false
 ZaY : PySem.W.kitOne g.K (.ref (ci 0)) (.ref (ci 3)) = some false
 Za3 : PySem.W.kitOne g.K (.ref (ci 0)) (.ref (ci 12)) = some false
 Zap : PySem.W.kitOne g.K (.ref (ci 0)) (.type "ValueError") = some true
 ZB : ExcC g.K (ci 1)
 Zcm : PySem.W.kitOne g.K (.ref (ci 1)) (.ref (ci 10)) = some false
 Zc3 : PySem.W.kitOne g.K (.ref (ci 1)) (.ref (ci 11)) = some false
 Ze0 : PySem.W.kitOne g.K (.ref (ci 1)) (.ref (ci 9)) = some false
 Zch : PySem.W.kitOne g.K (.ref (ci 1)) (.type "KeyError") = some false
 ZaW : PySem.W.kitOne g.K (.ref (ci 1)) (.type "LookupError") = some false
 Zbo : PySem.W.kitOne g.K (.ref (ci 1)) (.ref (ci 0)) = some true
 Zdl : PySem.W.kitOne g.K (.ref (ci 1)) (.ref (ci 1)) = some true
 ZcT : PySem.W.kitOne g.K (.ref (ci 1)) (.ref (ci 2)) = some false
 Zd6 : PySem.W.kitOne g.K (.ref (ci 1)) (.ref (ci 6)) = some false
 Zdg : PySem.W.kitOne g.K (.ref (ci 1)) (.ref (ci 5)) = some false
 Zdj : PySem.W.kitOne g.K (.ref (ci 1)) (.ref (ci 4)) = some false
 Zd1 : PySem.W.kitOne g.K (.ref (ci 1)) (.ref (ci 8)) = some false
 Zax : PySem.W.kitOne g.K (.ref (ci 1)) (.type "RuntimeError") = some false
 Zd7 : PySem.W.kitOne g.K (.ref (ci 1)) (.ref (ci 7)) = some false
 Zc1 : PySem.W.kitOne g.K (.ref (ci 1)) (.ref (ci 3)) = some false
 ZcM : PySem.W.kitOne g.K (.ref (ci 1)) (.ref (ci 12)) = some false
 Zbd : PySem.W.kitOne g.K (.ref (ci 1)) (.type "ValueError") = some true
 Zy : ExcC g.K (ci 2)
 Zb0 : PySem.W.kitOne g.K (.ref (ci 2)) (.ref (ci 10)) = some false
 ZbV : PySem.W.kitOne g.K (.ref (ci 2)) (.ref (ci 11)) = some false
 Zep : PySem.W.kitOne g.K (.ref (ci 2)) (.ref (ci 9)) = some false
 ZbB : PySem.W.kitOne g.K (.ref (ci 2)) (.type "KeyError") = some false
 ZaB : PySem.W.kitOne g.K (.ref (ci 2)) (.type "LookupError") = some false
 Za5 : PySem.W.kitOne g.K (.ref (ci 2)) (.ref (ci 0)) = some true
 ZcC : PySem.W.kitOne g.K (.ref (ci 2)) (.ref (ci 1)) = some false
 Zcc : PySem.W.kitOne g.K (.ref (ci 2)) (.ref (ci 2)) = some true
 ZdM : PySem.W.kitOne g.K (.ref (ci 2)) (.ref (ci 6)) = some false
 ZcZ : PySem.W.kitOne g.K (.ref (ci 2)) (.ref (ci 5)) = some false
 ZcL : PySem.W.kitOne g.K (.ref (ci 2)) (.ref (ci 4)) = some false
 ZdK : PySem.W.kitOne g.K (.ref (ci 2)) (.ref (ci 8)) = some false
 Zar : PySem.W.kitOne g.K (.ref (ci 2)) (.type "RuntimeError") = some false
 Zdp : PySem.W.kitOne g.K (.ref (ci 2)) (.ref (ci 7)) = some false
 ZbJ : PySem.W.kitOne g.K (.ref (ci 2)) (.ref (ci 3)) = some false
 Zce : PySem.W.kitOne g.K (.ref (ci 2)) (.ref (ci 12)) = some false
 ZaQ : PySem.W.kitOne g.K (.ref (ci 2)) (.type "ValueError") = some true
 ZO : ExcC g.K (ci 6)
 ZdP : PySem.W.kitOne g.K (.ref (ci 6)) (.ref (ci 10)) = some false
 ZdB : PySem.W.kitOne g.K (.ref (ci 6)) (.ref (ci 11)) = some false
 ZfR : PySem.W.kitOne g.K (.ref (ci 6)) (.ref (ci 9)) = some false
 ZcK : PySem.W.kitOne g.K (.ref (ci 6)) (.type "KeyError") = some false
 Za6 : PySem.W.kitOne g.K (.ref (ci 6)) (.type "LookupError") = some false
 ZbY : PySem.W.kitOne g.K (.ref (ci 6)) (.ref (ci 0)) = some true
 ZdV : PySem.W.kitOne g.K (.ref (ci 6)) (.ref (ci 1)) = some false
 Zdk : PySem.W.kitOne g.K (.ref (ci 6)) (.ref (ci 2)) = some false
 Ze4 : PySem.W.kitOne g.K (.ref (ci 6)) (.ref (ci 6)) = some true
 Zee : PySem.W.kitOne g.K (.ref (ci 6)) (.ref (ci 5)) = some false
 Zet : PySem.W.kitOne g.K (.ref (ci 6)) (.ref (ci 4)) = some false
 Ze1 : PySem.W.kitOne g.K (.ref (ci 6)) (.ref (ci 8)) = some false
 ZaX : PySem.W.kitOne g.K (.ref (ci 6)) (.type "RuntimeError") = some false
 Ze9 : PySem.W.kitOne g.K (.ref (ci 6)) (.ref (ci 7)) = some false
 ZdN : PySem.W.kitOne g.K (.ref (ci 6)) (.ref (ci 3)) = some false
 Zdd : PySem.W.kitOne g.K (.ref (ci 6)) (.ref (ci 12)) = some false
 Zbz : PySem.W.kitOne g.K (.ref (ci 6)) (.type "ValueError") = some true
 ZA : ExcC g.K (ci 5)
 ZcF : PySem.W.kitOne g.K (.ref (ci 5)) (.ref (ci 10)) = some false
 ZcH : PySem.W.kitOne g.K (.ref (ci 5)) (.ref (ci 11)) = some false
 Ze5 : PySem.W.kitOne g.K (.ref (ci 5)) (.ref (ci 9)) = some false
 Zcf : PySem.W.kitOne g.K (.ref (ci 5)) (.type "KeyError") = some false
 ZaV : PySem.W.kitOne g.K (.ref (ci 5)) (.type "LookupError") = some false
 Zbt : PySem.W.kitOne g.K (.ref (ci 5)) (.ref (ci 0)) = some true
 Zdr : PySem.W.kitOne g.K (.ref (ci 5)) (.ref (ci 1)) = some false
 Zcs : PySem.W.kitOne g.K (.ref (ci 5)) (.ref (ci 2)) = some false
 Zd3 : PySem.W.kitOne g.K (.ref (ci 5)) (.ref (ci 6)) = some false
 Zdz : PySem.W.kitOne g.K (.ref (ci 5)) (.ref (ci 5)) = some true
 Zdm : PySem.W.kitOne g.K (.ref (ci 5)) (.ref (ci 4)) = some false
 Zef : PySem.W.kitOne g.K (.ref (ci 5)) (.ref (ci 8)) = some false
 ZaC : PySem.W.kitOne g.K (.ref (ci 5)) (.type "RuntimeError") = some false
 Zei : PySem.W.kitOne g.K (.ref (ci 5)) (.ref (ci 7)) = some false
 Zcr : PySem.W.kitOne g.K (.ref (ci 5)) (.ref (ci 3)) = some false
 ZcG : PySem.W.kitOne g.K (.ref (ci 5)) (.ref (ci 12)) = some false
 Za1 : PySem.W.kitOne g.K (.ref (ci 5)) (.type "ValueError") = some true
 Zz : ExcC g.K (ci 4)
 ZcN : PySem.W.kitOne g.K (.ref (ci 4)) (.ref (ci 10)) = some false
 ZcI : PySem.W.kitOne g.K (.ref (ci 4)) (.ref (ci 11)) = some false
 ZeZ : PySem.W.kitOne g.K (.ref (ci 4)) (.ref (ci 9)) = some false
 ZbS : PySem.W.kitOne g.K (.ref (ci 4)) (.type "KeyError") = some false
 ZaU : PySem.W.kitOne g.K (.ref (ci 4)) (.type "LookupError") = some false
 Zbu : PySem.W.kitOne g.K (.ref (ci 4)) (.ref (ci 0)) = some true
 Zdo : PySem.W.kitOne g.K (.ref (ci 4)) (.ref (ci 1)) = some false
 ZcO : PySem.W.kitOne g.K (.ref (ci 4)) (.ref (ci 2)) = some false
 Zeg : PySem.W.kitOne g.K (.ref (ci 4)) (.ref (ci 6)) = some false
 ZdH : PySem.W.kitOne g.K (.ref (ci 4)) (.ref (ci 5)) = some false
 Zdn : PySem.W.kitOne g.K (.ref (ci 4)) (.ref (ci 4)) = some true
 Zeb : PySem.W.kitOne g.K (.ref (ci 4)) (.ref (ci 8)) = some false
 ZaG : PySem.W.kitOne g.K (.ref (ci 4)) (.type "RuntimeError") = some false
 Zer : PySem.W.kitOne g.K (.ref (ci 4)) (.ref (ci 7)) = some false
 Zcl : PySem.W.kitOne g.K (.ref (ci 4)) (.ref (ci 3)) = some false
 Zck : PySem.W.kitOne g.K (.ref (ci 4)) (.ref (ci 12)) = some false
 Za0 : PySem.W.kitOne g.K (.ref (ci 4)) (.type "ValueError") = some true
 ZN : ExcC g.K (ci 8)
 ZdJ : PySem.W.kitOne g.K (.ref (ci 8)) (.ref (ci 10)) = some false
 Zdv : PySem.W.kitOne g.K (.ref (ci 8)) (.ref (ci 11)) = some false
 ZfM : PySem.W.kitOne g.K (.ref (ci 8)) (.ref (ci 9)) = some false
 Zcq : PySem.W.kitOne g.K (.ref (ci 8)) (.type "KeyError") = some false
 Za2 : PySem.W.kitOne g.K (.ref (ci 8)) (.type "LookupError") = some false
 Zb6 : PySem.W.kitOne g.K (.ref (ci 8)) (.ref (ci 0)) = some true
 Zel : PySem.W.kitOne g.K (.ref (ci 8)) (.ref (ci 1)) = some false
 Zds : PySem.W.kitOne g.K (.ref (ci 8)) (.ref (ci 2)) = some false
 Ze8 : PySem.W.kitOne g.K (.ref (ci 8)) (.ref (ci 6)) = some false
 ZdY : PySem.W.kitOne g.K (.ref (ci 8)) (.ref (ci 5)) = some false
 ZdU : PySem.W.kitOne g.K (.ref (ci 8)) (.ref (ci 4)) = some false
 Ze3 : PySem.W.kitOne g.K (.ref (ci 8)) (.ref (ci 8)) = some true
 ZaN : PySem.W.kitOne g.K (.ref (ci 8)) (.type "RuntimeError") = some false
 Zfa : PySem.W.kitOne g.K (.ref (ci 8)) (.ref (ci 7)) = some false
 Zdf : PySem.W.kitOne g.K (.ref (ci 8)) (.ref (ci 3)) = some false
 Zdu : PySem.W.kitOne g.K (.ref (ci 8)) (.ref (ci 12)) = some false
 Zbw : PySem.W.kitOne g.K (.ref (ci 8)) (.type "ValueError") = some true
 ZP : ExcC g.K (ci 7)
 ZdO : PySem.W.kitOne g.K (.ref (ci 7)) (.ref (ci 10)) = some false
 ZdD : PySem.W.kitOne g.K (.ref (ci 7)) (.ref (ci 11)) = some false
 Zfm : PySem.W.kitOne g.K (.ref (ci 7)) (.ref (ci 9)) = some false
 ZcX : PySem.W.kitOne g.K (.ref (ci 7)) (.type "KeyError") = some false
 Zba : PySem.W.kitOne g.K (.ref (ci 7)) (.type "LookupError") = some false
 Zcb : PySem.W.kitOne g.K (.ref (ci 7)) (.ref (ci 0)) = some true
 ZdZ : PySem.W.kitOne g.K (.ref (ci 7)) (.ref (ci 1)) = some false
 Zdy : PySem.W.kitOne g.K (.ref (ci 7)) (.ref (ci 2)) = some false
 ZeW : PySem.W.kitOne g.K (.ref (ci 7)) (.ref (ci 6)) = some false
 Zes : PySem.W.kitOne g.K (.ref (ci 7)) (.ref (ci 5)) = some false
 Zej : PySem.W.kitOne g.K (.ref (ci 7)) (.ref (ci 4)) = some false
 ZeY : PySem.W.kitOne g.K (.ref (ci 7)) (.ref (ci 8)) = some false
 ZaL : PySem.W.kitOne g.K (.ref (ci 7)) (.type "RuntimeError") = some false
 ZeX : PySem.W.kitOne g.K (.ref (ci 7)) (.ref (ci 7)) = some true
 Zdt : PySem.W.kitOne g.K (.ref (ci 7)) (.ref (ci 3)) = some false
 ZdC : PySem.W.kitOne g.K (.ref (ci 7)) (.ref (ci 12)) = some false
 ZbD : PySem.W.kitOne g.K (.ref (ci 7)) (.type "ValueError") = some true
 Zv : ExcC g.K (ci 3)
 ZbM : PySem.W.kitOne g.K (.ref (ci 3)) (.ref (ci 10)) = some false
 Zcd : PySem.W.kitOne g.K (.ref (ci 3)) (.ref (ci 11)) = some false
 Zec : PySem.W.kitOne g.K (.ref (ci 3)) (.ref (ci 9)) = some false
 Zbq : PySem.W.kitOne g.K (.ref (ci 3)) (.type "KeyError") = some false
 ZaE : PySem.W.kitOne g.K (.ref (ci 3)) (.type "LookupError") = some false
 Za7 : PySem.W.kitOne g.K (.ref (ci 3)) (.ref (ci 0)) = some true
 ZcS : PySem.W.kitOne g.K (.ref (ci 3)) (.ref (ci 1)) = some false
 ZbP : PySem.W.kitOne g.K (.ref (ci 3)) (.ref (ci 2)) = some false
 ZdG : PySem.W.kitOne g.K (.ref (ci 3)) (.ref (ci 6)) = some false
 ZcR : PySem.W.kitOne g.K (.ref (ci 3)) (.ref (ci 5)) = some false
 ZcJ : PySem.W.kitOne g.K (.ref (ci 3)) (.ref (ci 4)) = some false
 ZdS : PySem.W.kitOne g.K (.ref (ci 3)) (.ref (ci 8)) = some false
 Zat : PySem.W.kitOne g.K (.ref (ci 3)) (.type "RuntimeError") = some false
 ZdA : PySem.W.kitOne g.K (.ref (ci 3)) (.ref (ci 7)) = some false
 Zca : PySem.W.kitOne g.K (.ref (ci 3)) (.ref (ci 3)) = some true
 Zb2 : PySem.W.kitOne g.K (.ref (ci 3)) (.ref (ci 12)) = some false
 ZaO : PySem.W.kitOne g.K (.ref (ci 3)) (.type "ValueError") = some true
 Zx : ExcC g.K (ci 12)
 Zci : PySem.W.kitOne g.K (.ref (ci 12)) (.ref (ci 10)) = some false
 ZbW : PySem.W.kitOne g.K (.ref (ci 12)) (.ref (ci 11)) = some false
 Zd8 : PySem.W.kitOne g.K (.ref (ci 12)) (.ref (ci 9)) = some false
 Zbh : PySem.W.kitOne g.K (.ref (ci 12)) (.type "KeyError") = some true
 Zay : PySem.W.kitOne g.K (.ref (ci 12)) (.type "LookupError") = some true
 Za4 : PySem.W.kitOne g.K (.ref (ci 12)) (.ref (ci 0)) = some false
 ZcB : PySem.W.kitOne g.K (.ref (ci 12)) (.ref (ci 1)) = some false
 ZbO : PySem.W.kitOne g.K (.ref (ci 12)) (.ref (ci 2)) = some false
 Zde : PySem.W.kitOne g.K (.ref (ci 12)) (.ref (ci 6)) = some false
 ZcW : PySem.W.kitOne g.K (.ref (ci 12)) (.ref (ci 5)) = some false
 Zcx : PySem.W.kitOne g.K (.ref (ci 12)) (.ref (ci 4)) = some false
 Zdq : PySem.W.kitOne g.K (.ref (ci 12)) (.ref (ci 8)) = some false
 Zau : PySem.W.kitOne g.K (.ref (ci 12)) (.type "RuntimeError") = some false
 ZdR : PySem.W.kitOne g.K (.ref (ci 12)) (.ref (ci 7)) = some false
 ZbQ : PySem.W.kitOne g.K (.ref (ci 12)) (.ref (ci 3)) = some false
 ZbE : PySem.W.kitOne g.K (.ref (ci 12)) (.ref (ci 12)) = some true
 ZaT : PySem.W.kitOne g.K (.ref (ci 12)) (.type "ValueError") = some false
 ZfF : PySem.W.exmAny g.K (.ref (ci 10)) [.ref (ci 11)] = some false
 ZfJ : PySem.W.exmAny g.K (.ref (ci 11)) [.ref (ci 11)] = some true
 Zhz : PySem.W.exmAny g.K (.ref (ci 9)) [.ref (ci 11)] = some false
 ZeP : PySem.W.exmAny g.K (.ref (ci 0)) [.ref (ci 11)] = some false
 Zgu : PySem.W.exmAny g.K (.ref (ci 1)) [.ref (ci 11)] = some false
 ZfS : PySem.W.exmAny g.K (.ref (ci 2)) [.ref (ci 11)] = some false
 Zg0 : PySem.W.exmAny g.K (.ref (ci 6)) [.ref (ci 11)] = some false
 Zgk : PySem.W.exmAny g.K (.ref (ci 5)) [.ref (ci 11)] = some false
 Zf8 : PySem.W.exmAny g.K (.ref (ci 4)) [.ref (ci 11)] = some false
 Zg4 : PySem.W.exmAny g.K (.ref (ci 8)) [.ref (ci 11)] = some false
 Zhe : PySem.W.exmAny g.K (.ref (ci 7)) [.ref (ci 11)] = some false
 Zfk : PySem.W.exmAny g.K (.ref (ci 3)) [.ref (ci 11)] = some false
 ZfP : PySem.W.exmAny g.K (.ref (ci 12)) [.ref (ci 11)] = some false
 Zh1 : PySem.W.exmAny g.K (.ref (ci 10)) [.ref (ci 9)] = some false
 Zh0 : PySem.W.exmAny g.K (.ref (ci 11)) [.ref (ci 9)] = some false
 Zi8 : PySem.W.exmAny g.K (.ref (ci 9)) [.ref (ci 9)] = some true
 Zgf : PySem.W.exmAny g.K (.ref (ci 0)) [.ref (ci 9)] = some false
 Zh8 : PySem.W.exmAny g.K (.ref (ci 1)) [.ref (ci 9)] = some false
 ZhH : PySem.W.exmAny g.K (.ref (ci 2)) [.ref (ci 9)] = some false
 ZiF : PySem.W.exmAny g.K (.ref (ci 6)) [.ref (ci 9)] = some false
 Zib : PySem.W.exmAny g.K (.ref (ci 5)) [.ref (ci 9)] = some false
 Zik : PySem.W.exmAny g.K (.ref (ci 4)) [.ref (ci 9)] = some false
 ZiO : PySem.W.exmAny g.K (.ref (ci 8)) [.ref (ci 9)] = some false
 ZiG : PySem.W.exmAny g.K (.ref (ci 7)) [.ref (ci 9)] = some false
 ZhS : PySem.W.exmAny g.K (.ref (ci 3)) [.ref (ci 9)] = some false
 ZhZ : PySem.W.exmAny g.K (.ref (ci 12)) [.ref (ci 9)] = some false
 ZfO : PySem.W.exmAny g.K (.ref (ci 10)) [.ref (ci 2)] = some false
 Zfy : PySem.W.exmAny g.K (.ref (ci 11)) [.ref (ci 2)] = some false
 Zhu : PySem.W.exmAny g.K (.ref (ci 9)) [.ref (ci 2)] = some false
 ZeU : PySem.W.exmAny g.K (.ref (ci 0)) [.ref (ci 2)] = some false
 ZgH : PySem.W.exmAny g.K (.ref (ci 1)) [.ref (ci 2)] = some false
 ZfW : PySem.W.exmAny g.K (.ref (ci 2)) [.ref (ci 2)] = some true
 ZgV : PySem.W.exmAny g.K (.ref (ci 6)) [.ref (ci 2)] = some false
 Zgl : PySem.W.exmAny g.K (.ref (ci 5)) [.ref (ci 2)] = some false
 Zgc : PySem.W.exmAny g.K (.ref (ci 4)) [.ref (ci 2)] = some false
 Zg5 : PySem.W.exmAny g.K (.ref (ci 8)) [.ref (ci 2)] = some false
 Zhj : PySem.W.exmAny g.K (.ref (ci 7)) [.ref (ci 2)] = some false
 ZfE : PySem.W.exmAny g.K (.ref (ci 3)) [.ref (ci 2)] = some false
 ZfL : PySem.W.exmAny g.K (.ref (ci 12)) [.ref (ci 2)] = some false
 Zgo : PySem.W.exmAny g.K (.ref (ci 10)) [.ref (ci 5)] = some false
 Zgs : PySem.W.exmAny g.K (.ref (ci 11)) [.ref (ci 5)] = some false
 Zid : PySem.W.exmAny g.K (.ref (ci 9)) [.ref (ci 5)] = some false
 Zfe : PySem.W.exmAny g.K (.ref (ci 0)) [.ref (ci 5)] = some false
 Zha : PySem.W.exmAny g.K (.ref (ci 1)) [.ref (ci 5)] = some false
 Zgy : PySem.W.exmAny g.K (.ref (ci 2)) [.ref (ci 5)] = some false
 Zhx : PySem.W.exmAny g.K (.ref (ci 6)) [.ref (ci 5)] = some false
 ZgX : PySem.W.exmAny g.K (.ref (ci 5)) [.ref (ci 5)] = some true
 Zhd : PySem.W.exmAny g.K (.ref (ci 4)) [.ref (ci 5)] = some false
 Zhv : PySem.W.exmAny g.K (.ref (ci 8)) [.ref (ci 5)] = some false
 ZhI : PySem.W.exmAny g.K (.ref (ci 7)) [.ref (ci 5)] = some false
 Zgb : PySem.W.exmAny g.K (.ref (ci 3)) [.ref (ci 5)] = some false
 Zgg : PySem.W.exmAny g.K (.ref (ci 12)) [.ref (ci 5)] = some false
 Zhg : PySem.W.exmAny g.K (.ref (ci 10)) [.ref (ci 8)] = some false
 Zhf : PySem.W.exmAny g.K (.ref (ci 11)) [.ref (ci 8)] = some false
 ZiL : PySem.W.exmAny g.K (.ref (ci 9)) [.ref (ci 8)] = some false
 Zfu : PySem.W.exmAny g.K (.ref (ci 0)) [.ref (ci 8)] = some false
 ZhW : PySem.W.exmAny g.K (.ref (ci 1)) [.ref (ci 8)] = some false
 Zg6 : PySem.W.exmAny g.K (.ref (ci 2)) [.ref (ci 8)] = some false
 Zii : PySem.W.exmAny g.K (.ref (ci 6)) [.ref (ci 8)] = some false
 ZhD : PySem.W.exmAny g.K (.ref (ci 5)) [.ref (ci 8)] = some false
 ZhF : PySem.W.exmAny g.K (.ref (ci 4)) [.ref (ci 8)] = some false
 Zic : PySem.W.exmAny g.K (.ref (ci 8)) [.ref (ci 8)] = some true
 Zif : PySem.W.exmAny g.K (.ref (ci 7)) [.ref (ci 8)] = some false
 ZgU : PySem.W.exmAny g.K (.ref (ci 3)) [.ref (ci 8)] = some false
 ZgZ : PySem.W.exmAny g.K (.ref (ci 12)) [.ref (ci 8)] = some false
 Zhc : PySem.W.exmAny g.K (.ref (ci 10)) [.ref (ci 7)] = some false
 Zg9 : PySem.W.exmAny g.K (.ref (ci 11)) [.ref (ci 7)] = some false
 ZiX : PySem.W.exmAny g.K (.ref (ci 9)) [.ref (ci 7)] = some false
 ZfI : PySem.W.exmAny g.K (.ref (ci 0)) [.ref (ci 7)] = some false
 Zhy : PySem.W.exmAny g.K (.ref (ci 1)) [.ref (ci 7)] = some false
 Zg3 : PySem.W.exmAny g.K (.ref (ci 2)) [.ref (ci 7)] = some false
 Zig : PySem.W.exmAny g.K (.ref (ci 6)) [.ref (ci 7)] = some false
 ZhB : PySem.W.exmAny g.K (.ref (ci 5)) [.ref (ci 7)] = some false
 ZhE : PySem.W.exmAny g.K (.ref (ci 4)) [.ref (ci 7)] = some false
 Zh3 : PySem.W.exmAny g.K (.ref (ci 8)) [.ref (ci 7)] = some false
 Zh7 : PySem.W.exmAny g.K (.ref (ci 7)) [.ref (ci 7)] = some true
 Zg2 : PySem.W.exmAny g.K (.ref (ci 3)) [.ref (ci 7)] = some false
 Zhk : PySem.W.exmAny g.K (.ref (ci 12)) [.ref (ci 7)] = some false
 Zf3 : PySem.W.exmAny g.K (.ref (ci 10)) [.ref (ci 3)] = some false
 Zf5 : PySem.W.exmAny g.K (.ref (ci 11)) [.ref (ci 3)] = some false
 ZhL : PySem.W.exmAny g.K (.ref (ci 9)) [.ref (ci 3)] = some false
 ZeM : PySem.W.exmAny g.K (.ref (ci 0)) [.ref (ci 3)] = some false
 Zgj : PySem.W.exmAny g.K (.ref (ci 1)) [.ref (ci 3)] = some false
 ZfH : PySem.W.exmAny g.K (.ref (ci 2)) [.ref (ci 3)] = some false
 Zhh : PySem.W.exmAny g.K (.ref (ci 6)) [.ref (ci 3)] = some false
 ZgG : PySem.W.exmAny g.K (.ref (ci 5)) [.ref (ci 3)] = some false
 Zgw : PySem.W.exmAny g.K (.ref (ci 4)) [.ref (ci 3)] = some false
 Zg7 : PySem.W.exmAny g.K (.ref (ci 8)) [.ref (ci 3)] = some false
 Zhi : PySem.W.exmAny g.K (.ref (ci 7)) [.ref (ci 3)] = some false
 Zfl : PySem.W.exmAny g.K (.ref (ci 3)) [.ref (ci 3)] = some true
 ZfA : PySem.W.exmAny g.K (.ref (ci 12)) [.ref (ci 3)] = some false
 Zfr : PySem.W.exmAny g.K (.ref (ci 10)) [.ref (ci 12)] = some false
 Zf7 : PySem.W.exmAny g.K (.ref (ci 11)) [.ref (ci 12)] = some false
 Zh2 : PySem.W.exmAny g.K (.ref (ci 9)) [.ref (ci 12)] = some false
 ZeO : PySem.W.exmAny g.K (.ref (ci 0)) [.ref (ci 12)] = some false
 Zgi : PySem.W.exmAny g.K (.ref (ci 1)) [.ref (ci 12)] = some false
 Zf2 : PySem.W.exmAny g.K (.ref (ci 2)) [.ref (ci 12)] = some false
 Zhb : PySem.W.exmAny g.K (.ref (ci 6)) [.ref (ci 12)] = some false
 Zgh : PySem.W.exmAny g.K (.ref (ci 5)) [.ref (ci 12)] = some false
 Zf9 : PySem.W.exmAny g.K (.ref (ci 4)) [.ref (ci 12)] = some false
 ZgW : PySem.W.exmAny g.K (.ref (ci 8)) [.ref (ci 12)] = some false
 ZgY : PySem.W.exmAny g.K (.ref (ci 7)) [.ref (ci 12)] = some false
 Zfj : PySem.W.exmAny g.K (.ref (ci 3)) [.ref (ci 12)] = some false
 Zf6 : PySem.W.exmAny g.K (.ref (ci 12)) [.ref (ci 12)] = some true
theorem Txt.at {g : Gd} {fi : Nat -> FI} {ci : Nat -> Addr} {ti : Nat -> TI} (T : Txt g fi ci ti) (pc : Nat -> Option Addr) : Txt (g.at pc) fi ci ti :=
 ⟨T.sm, T.hfa, T.hca, T.hnk, T.hnfr, T.Z2, T.ZE, T.Z3, T.ZC, T.Z7, T.ZI, T.Zac, T.ZL, T.Zab, T.ZM, T.Zai, T.ZQ, T.ZZ, T.ZF, T.Z0, T.ZD, T.ZbL, T.ZH, T.Zc4, T.ZT, T.Zd9, T.ZX, T.Zdb, T.ZS, T.ZtH, T.Ziw, T.ZfU, T.ZgT, T.Zfd, T.Zd0, T.ZAa, T.Zbf, T.Zaa, T.Z4, T.Z8, T.ZjX, T.ZaJ, T.Zj, T.Zj1, T.Zgq, T.Zgd, T.Zio, T.Zew, T.Zim, T.Zin, T.ZeB, T.ZjO, T.Zgr, T.ZjZ, T.ZcV, T.ZgF, T.Zgx, T.Zev, T.Zit, T.ZiJ, T.Ztq, T.Zjg, T.ZsP, T.ZhG, T.Zji, T.Zjf, T.ZiK, T.ZkC, T.Zea, T.ZgP, T.ZbF, T.ZgM, T.ZgQ, T.ZhT, T.Zi3, T.Zfx, T.Zi6, T.Zi7, T.ZeG, T.ZjM, T.ZgA, T.ZjY, T.Zcp, T.Zgp, T.Zgv, T.ZeC, T.Ziv, T.ZiA, T.ZjI, T.Zhm, T.Zjn, T.ZjB, T.ZfV, T.Zj6, T.ZhQ, T.Zkg, T.Zd5, T.ZhY, T.ZhM, T.Zfv, T.Zi4, T.ZhV, T.ZiZ, T.Zfo, T.Zi0, T.Zi5, T.Zhq, T.Zln, T.Zix, T.ZkQ, T.ZfX, T.ZiD, T.Ziz, T.Zhn, T.ZjF, T.Zhr, T.ZkP, T.ZiT, T.ZkZ, T.ZfN, T.ZiH, T.ZiV, T.Zhs, T.ZjK, T.ZeH, T.ZjU, T.Zgt, T.ZjV, T.Zcu, T.Zgn, T.ZgB, T.ZeA, T.Ziu, T.ZeK, T.ZjS, T.ZgI, T.ZjQ, T.ZcU, T.ZgE, T.ZgC, T.Zey, T.Zir, T.Zu, T.ZbZ, T.Zcg, T.Zed, T.Zbj, T.ZaD, T.ZaZ, T.Zcz, T.ZbG, T.ZdE, T.Zco, T.Zcn, T.ZdT, T.Zaq, T.ZdF, T.ZbR, T.Zb9, T.ZaR, T.Zw, T.ZbT, T.Zb4, T.Zeo, T.ZbA, T.ZaA, T.Zbb, T.Zcv, T.ZbH, T.Zdw, T.ZcP, T.ZcQ, T.Zdh, T.Zas, T.ZdL, T.Zb5, T.Zb1, T.ZaS, T.Z5, T.Zd4, T.Zeq, T.ZgL, T.ZdI, T.Zbn, T.Zcw, T.ZeV, T.ZdW, T.ZfZ, T.Ze7, T.Ze2, T.Zfp, T.Zbc, T.Zfs, T.Zek, T.ZdX, T.ZbU, T.Zo, T.Zbe, T.Za8, T.Zcy, T.ZaP, T.Zal, T.Zaz, T.Zbi, T.Za9, T.ZbI, T.ZbC, T.Zbg, T.ZbN, T.Zah, T.ZbK, T.ZaY, T.Za3, T.Zap, T.ZB, T.Zcm, T.Zc3, T.Ze0, T.Zch, T.ZaW, T.Zbo, T.Zdl, T.ZcT, T.Zd6, T.Zdg, T.Zdj, T.Zd1, T.Zax, T.Zd7, T.Zc1, T.ZcM, T.Zbd, T.Zy, T.Zb0, T.ZbV, T.Zep, T.ZbB, T.ZaB, T.Za5, T.ZcC, T.Zcc, T.ZdM, T.ZcZ, T.ZcL, T.ZdK, T.Zar, T.Zdp, T.ZbJ, T.Zce, T.ZaQ, T.ZO, T.ZdP, T.ZdB, T.ZfR, T.ZcK, T.Za6, T.ZbY, T.ZdV, T.Zdk, T.Ze4, T.Zee, T.Zet, T.Ze1, T.ZaX, T.Ze9, T.ZdN, T.Zdd, T.Zbz, T.ZA, T.ZcF, T.ZcH, T.Ze5, T.Zcf, T.ZaV, T.Zbt, T.Zdr, T.Zcs, T.Zd3, T.Zdz, T.Zdm, T.Zef, T.ZaC, T.Zei, T.Zcr, T.ZcG, T.Za1, T.Zz, T.ZcN, T.ZcI, T.ZeZ, T.ZbS, T.ZaU, T.Zbu, T.Zdo, T.ZcO, T.Zeg, T.ZdH, T.Zdn, T.Zeb, T.ZaG, T.Zer, T.Zcl, T.Zck, T.Za0, T.ZN, T.ZdJ, T.Zdv, T.ZfM, T.Zcq, T.Za2, T.Zb6, T.Zel, T.Zds, T.Ze8, T.ZdY, T.ZdU, T.Ze3, T.ZaN, T.Zfa, T.Zdf, T.Zdu, T.Zbw, T.ZP, T.ZdO, T.ZdD, T.Zfm, T.ZcX, T.Zba, T.Zcb, T.ZdZ, T.Zdy, T.ZeW, T.Zes, T.Zej, T.ZeY, T.ZaL, T.ZeX, T.Zdt, T.ZdC, T.ZbD, T.Zv, T.ZbM, T.Zcd, T.Zec, T.Zbq, T.ZaE, T.Za7, T.ZcS, T.ZbP, T.ZdG, T.ZcR, T.ZcJ, T.ZdS, T.Zat, T.ZdA, T.Zca, T.Zb2, T.ZaO, T.Zx, T.Zci, T.ZbW, T.Zd8, T.Zbh, T.Zay, T.Za4, T.ZcB, T.ZbO, T.Zde, T.ZcW, T.Zcx, T.Zdq, T.Zau, T.ZdR, T.ZbQ, T.ZbE, T.ZaT, T.ZfF, T.ZfJ, T.Zhz, T.ZeP, T.Zgu, T.ZfS, T.Zg0, T.Zgk, T.Zf8, T.Zg4, T.Zhe, T.Zfk, T.ZfP, T.Zh1, T.Zh0, T.Zi8, T.Zgf, T.Zh8, T.ZhH, T.ZiF, T.Zib, T.Zik, T.ZiO, T.ZiG, T.ZhS, T.ZhZ, T.ZfO, T.Zfy, T.Zhu, T.ZeU, T.ZgH, T.ZfW, T.ZgV, T.Zgl, T.Zgc, T.Zg5, T.Zhj, T.ZfE, T.ZfL, T.Zgo, T.Zgs, T.Zid, T.Zfe, T.Zha, T.Zgy, T.Zhx, T.ZgX, T.Zhd, T.Zhv, T.ZhI, T.Zgb, T.Zgg, T.Zhg, T.Zhf, T.ZiL, T.Zfu, T.ZhW, T.Zg6, T.Zii, T.ZhD, T.ZhF, T.Zic, T.Zif, T.ZgU, T.ZgZ, T.Zhc, T.Zg9, T.ZiX, T.ZfI, T.Zhy, T.Zg3, T.Zig, T.ZhB, T.ZhE, T.Zh3, T.Zh7, T.Zg2, T.Zhk, T.Zf3, T.Zf5, T.ZhL, T.ZeM, T.Zgj, T.ZfH, T.Zhh, T.ZgG, T.Zgw, T.Zg7, T.Zhi, T.Zfl, T.ZfA, T.Zfr, T.Zf7, T.Zh2, T.ZeO, T.Zgi, T.Zf2, T.Zhb, T.Zgh, T.Zf9, T.ZgW, T.ZgY, T.Zfj, T.Zf6⟩
structure Fns (g : Gd) (fi : Nat -> FI) (Φ : Fam) (k : Nat) : Prop where
 f_NoPlace____init__ : FG g k (fi 0).a (fi 0).d ["self", "place"] (spD g 2 (Φ Zby))
 f_TooMany____init__ : FG g k (fi 1).a (fi 1).d ["self", "most"] (spD g 2 (Φ Zbk))
 f_NoText____init__ : FG g k (fi 2).a (fi 2).d ["self", "line"] (spD g 2 (Φ Zb8))
 f_Taken____init__ : FG g k (fi 3).a (fi 3).d ["self", "name"] (spD g 2 (Φ Zc2))
 f_NoWay____init__ : FG g k (fi 4).a (fi 4).d ["self", "name"] (spD g 2 (Φ ZcA))
 f_Held____init__ : FG g k (fi 5).a (fi 5).d ["self", "name"] (spD g 2 (Φ Zdx))
 f_Faulted____init__ : FG g k (fi 6).a (fi 6).d ["self", "asks"] (spD g 2 (Φ Zbr))
 f_Unknown____init__ : FG g k (fi 7).a (fi 7).d ["self", "name"] (spD g 2 (Φ Zbp))
 f__law_value : FG g k (fi 8).a (fi 8).d ["_law_script", "_law_k"] (spD g 2 (Φ ZR))
 f__law_ones : FG g k (fi 9).a (fi 9).d ["_law_error"] (spD g 1 (Φ Z9))
 f__law_kinds : FG g k (fi 10).a (fi 10).d ["_law_error"] (spD g 1 (Φ Zak))
 f__law_fields : FG g k (fi 11).a (fi 11).d ["_law_one", "_law_other"] (spD g 2 (Φ ZY))
 f_law : FG g k (fi 12).a (fi 12).d ["_law_script"] (spD g 1 (Φ Zj0))
variable {g : Gd} {fi : Nat -> FI} {ci : Nat -> Addr} {ti : Nat -> TI} {Φ : Fam} {k : Nat}
theorem Zs5 (T : Txt g fi ci ti) : ∀ c C, Zj3 c = true -> g.ca c = some C -> Cls g.K C /\ NoAttr g.K C "asks" := by
 intro c C h hc
 rw [T.hca] at hc
 cases hc
 unfold Zj3 at h
 exact Bool.noConfusion h
theorem Zs6 (T : Txt g fi ci ti) : ∀ c C, Zko c = true -> g.ca c = some C -> Cls g.K C /\ NoAttr g.K C "line" := by
 intro c C h hc
 rw [T.hca] at hc
 cases hc
 unfold Zko at h
 exact Bool.noConfusion h
theorem Ztj (T : Txt g fi ci ti) : ∀ c C, Zj4 c = true -> g.ca c = some C -> Cls g.K C /\ NoAttr g.K C "most" := by
 intro c C h hc
 rw [T.hca] at hc
 cases hc
 unfold Zj4 at h
 exact Bool.noConfusion h
theorem ZiP (T : Txt g fi ci ti) : ∀ c C, Ziq c = true -> g.ca c = some C -> Cls g.K C /\ NoAttr g.K C "name" := by
 intro c C h hc
 rw [T.hca] at hc
 cases hc
 unfold Ziq at h
 exact Bool.noConfusion h
theorem Zk5 (T : Txt g fi ci ti) : ∀ c C, Zjj c = true -> g.ca c = some C -> Cls g.K C /\ NoAttr g.K C "place" := by
 intro c C h hc
 rw [T.hca] at hc
 cases hc
 unfold Zjj at h
 exact Bool.noConfusion h
theorem Zew (T : Txt g fi ci ti) : XcT g Zez [.ref (ci 10)] := by
 intro k C b h hc
 rw [T.hca] at hc
 cases hc
 unfold Zez at h
 split at h
 ·cases h; exact ⟨T.Zu, (kit1 T.ZbZ)⟩
 ·cases h; exact ⟨T.Zw, (kit1 T.ZbT)⟩
 ·cases h; exact ⟨T.Z5, (kit1 T.Zd4)⟩
 ·cases h; exact ⟨T.Zo, (kit1 T.Zbe)⟩
 ·cases h; exact ⟨T.ZB, (kit1 T.Zcm)⟩
 ·cases h; exact ⟨T.Zy, (kit1 T.Zb0)⟩
 ·cases h; exact ⟨T.ZO, (kit1 T.ZdP)⟩
 ·cases h; exact ⟨T.ZA, (kit1 T.ZcF)⟩
 ·cases h; exact ⟨T.Zz, (kit1 T.ZcN)⟩
 ·cases h; exact ⟨T.ZN, (kit1 T.ZdJ)⟩
 ·cases h; exact ⟨T.ZP, (kit1 T.ZdO)⟩
 ·cases h; exact ⟨T.Zv, (kit1 T.ZbM)⟩
 ·cases h; exact ⟨T.Zx, (kit1 T.Zci)⟩
 ·cases h
theorem Zgr (T : Txt g fi ci ti) : XcT g ZeI [.ref (ci 11)] := by
 intro k C b h hc
 rw [T.hca] at hc
 cases hc
 unfold ZeI at h
 split at h
 ·cases h; exact ⟨T.Zu, (kit1 T.Zcg)⟩
 ·cases h; exact ⟨T.Zw, (kit1 T.Zb4)⟩
 ·cases h; exact ⟨T.Z5, (kit1 T.Zeq)⟩
 ·cases h; exact ⟨T.Zo, (kit1 T.Za8)⟩
 ·cases h; exact ⟨T.ZB, (kit1 T.Zc3)⟩
 ·cases h; exact ⟨T.Zy, (kit1 T.ZbV)⟩
 ·cases h; exact ⟨T.ZO, (kit1 T.ZdB)⟩
 ·cases h; exact ⟨T.ZA, (kit1 T.ZcH)⟩
 ·cases h; exact ⟨T.Zz, (kit1 T.ZcI)⟩
 ·cases h; exact ⟨T.ZN, (kit1 T.Zdv)⟩
 ·cases h; exact ⟨T.ZP, (kit1 T.ZdD)⟩
 ·cases h; exact ⟨T.Zv, (kit1 T.Zcd)⟩
 ·cases h; exact ⟨T.Zx, (kit1 T.ZbW)⟩
 ·cases h
theorem Zjg (T : Txt g fi ci ti) : XcT g ZiW [.ref (ci 9)] := by
 intro k C b h hc
 rw [T.hca] at hc
 cases hc
 unfold ZiW at h
 split at h
 ·cases h; exact ⟨T.Zu, (kit1 T.Zed)⟩
 ·cases h; exact ⟨T.Zw, (kit1 T.Zeo)⟩
 ·cases h; exact ⟨T.Z5, (kit1 T.ZgL)⟩
 ·cases h; exact ⟨T.Zo, (kit1 T.Zcy)⟩
 ·cases h; exact ⟨T.ZB, (kit1 T.Ze0)⟩
 ·cases h; exact ⟨T.Zy, (kit1 T.Zep)⟩
 ·cases h; exact ⟨T.ZO, (kit1 T.ZfR)⟩
 ·cases h; exact ⟨T.ZA, (kit1 T.Ze5)⟩
 ·cases h; exact ⟨T.Zz, (kit1 T.ZeZ)⟩
 ·cases h; exact ⟨T.ZN, (kit1 T.ZfM)⟩
 ·cases h; exact ⟨T.ZP, (kit1 T.Zfm)⟩
 ·cases h; exact ⟨T.Zv, (kit1 T.Zec)⟩
 ·cases h; exact ⟨T.Zx, (kit1 T.Zd8)⟩
 ·cases h
theorem Zjm (T : Txt g fi ci ti) : XcT g Zc7 [.type "KeyError"] := by
 intro k C b h hc
 rw [T.hca] at hc
 cases hc
 unfold Zc7 at h
 split at h
 ·cases h; exact ⟨T.Zu, (kit1 T.Zbj)⟩
 ·cases h; exact ⟨T.Zw, (kit1 T.ZbA)⟩
 ·cases h; exact ⟨T.Z5, (kit1 T.ZdI)⟩
 ·cases h; exact ⟨T.Zo, (kit1 T.ZaP)⟩
 ·cases h; exact ⟨T.ZB, (kit1 T.Zch)⟩
 ·cases h; exact ⟨T.Zy, (kit1 T.ZbB)⟩
 ·cases h; exact ⟨T.ZO, (kit1 T.ZcK)⟩
 ·cases h; exact ⟨T.ZA, (kit1 T.Zcf)⟩
 ·cases h; exact ⟨T.Zz, (kit1 T.ZbS)⟩
 ·cases h; exact ⟨T.ZN, (kit1 T.Zcq)⟩
 ·cases h; exact ⟨T.ZP, (kit1 T.ZcX)⟩
 ·cases h; exact ⟨T.Zv, (kit1 T.Zbq)⟩
 ·cases h; exact ⟨T.Zx, (kit1 T.Zbh)⟩
 ·cases h
theorem Zij (T : Txt g fi ci ti) : XcT g ZaK [.type "LookupError"] := by
 intro k C b h hc
 rw [T.hca] at hc
 cases hc
 unfold ZaK at h
 split at h
 ·cases h; exact ⟨T.Zu, (kit1 T.ZaD)⟩
 ·cases h; exact ⟨T.Zw, (kit1 T.ZaA)⟩
 ·cases h; exact ⟨T.Z5, (kit1 T.Zbn)⟩
 ·cases h; exact ⟨T.Zo, (kit1 T.Zal)⟩
 ·cases h; exact ⟨T.ZB, (kit1 T.ZaW)⟩
 ·cases h; exact ⟨T.Zy, (kit1 T.ZaB)⟩
 ·cases h; exact ⟨T.ZO, (kit1 T.Za6)⟩
 ·cases h; exact ⟨T.ZA, (kit1 T.ZaV)⟩
 ·cases h; exact ⟨T.Zz, (kit1 T.ZaU)⟩
 ·cases h; exact ⟨T.ZN, (kit1 T.Za2)⟩
 ·cases h; exact ⟨T.ZP, (kit1 T.Zba)⟩
 ·cases h; exact ⟨T.Zv, (kit1 T.ZaE)⟩
 ·cases h; exact ⟨T.Zx, (kit1 T.Zay)⟩
 ·cases h
theorem ZbF (T : Txt g fi ci ti) : XcT g Zb3 [.ref (ci 0)] := by
 intro k C b h hc
 rw [T.hca] at hc
 cases hc
 unfold Zb3 at h
 split at h
 ·cases h; exact ⟨T.Zu, (kit1 T.ZaZ)⟩
 ·cases h; exact ⟨T.Zw, (kit1 T.Zbb)⟩
 ·cases h; exact ⟨T.Z5, (kit1 T.Zcw)⟩
 ·cases h; exact ⟨T.Zo, (kit1 T.Zaz)⟩
 ·cases h; exact ⟨T.ZB, (kit1 T.Zbo)⟩
 ·cases h; exact ⟨T.Zy, (kit1 T.Za5)⟩
 ·cases h; exact ⟨T.ZO, (kit1 T.ZbY)⟩
 ·cases h; exact ⟨T.ZA, (kit1 T.Zbt)⟩
 ·cases h; exact ⟨T.Zz, (kit1 T.Zbu)⟩
 ·cases h; exact ⟨T.ZN, (kit1 T.Zb6)⟩
 ·cases h; exact ⟨T.ZP, (kit1 T.Zcb)⟩
 ·cases h; exact ⟨T.Zv, (kit1 T.Za7)⟩
 ·cases h; exact ⟨T.Zx, (kit1 T.Za4)⟩
 ·cases h
theorem Zfx (T : Txt g fi ci ti) : XcT g Zf0 [.ref (ci 1)] := by
 intro k C b h hc
 rw [T.hca] at hc
 cases hc
 unfold Zf0 at h
 split at h
 ·cases h; exact ⟨T.Zu, (kit1 T.Zcz)⟩
 ·cases h; exact ⟨T.Zw, (kit1 T.Zcv)⟩
 ·cases h; exact ⟨T.Z5, (kit1 T.ZeV)⟩
 ·cases h; exact ⟨T.Zo, (kit1 T.Zbi)⟩
 ·cases h; exact ⟨T.ZB, (kit1 T.Zdl)⟩
 ·cases h; exact ⟨T.Zy, (kit1 T.ZcC)⟩
 ·cases h; exact ⟨T.ZO, (kit1 T.ZdV)⟩
 ·cases h; exact ⟨T.ZA, (kit1 T.Zdr)⟩
 ·cases h; exact ⟨T.Zz, (kit1 T.Zdo)⟩
 ·cases h; exact ⟨T.ZN, (kit1 T.Zel)⟩
 ·cases h; exact ⟨T.ZP, (kit1 T.ZdZ)⟩
 ·cases h; exact ⟨T.Zv, (kit1 T.ZcS)⟩
 ·cases h; exact ⟨T.Zx, (kit1 T.ZcB)⟩
 ·cases h
theorem ZgA (T : Txt g fi ci ti) : XcT g ZeJ [.ref (ci 2)] := by
 intro k C b h hc
 rw [T.hca] at hc
 cases hc
 unfold ZeJ at h
 split at h
 ·cases h; exact ⟨T.Zu, (kit1 T.ZbG)⟩
 ·cases h; exact ⟨T.Zw, (kit1 T.ZbH)⟩
 ·cases h; exact ⟨T.Z5, (kit1 T.ZdW)⟩
 ·cases h; exact ⟨T.Zo, (kit1 T.Za9)⟩
 ·cases h; exact ⟨T.ZB, (kit1 T.ZcT)⟩
 ·cases h; exact ⟨T.Zy, (kit1 T.Zcc)⟩
 ·cases h; exact ⟨T.ZO, (kit1 T.Zdk)⟩
 ·cases h; exact ⟨T.ZA, (kit1 T.Zcs)⟩
 ·cases h; exact ⟨T.Zz, (kit1 T.ZcO)⟩
 ·cases h; exact ⟨T.ZN, (kit1 T.Zds)⟩
 ·cases h; exact ⟨T.ZP, (kit1 T.Zdy)⟩
 ·cases h; exact ⟨T.Zv, (kit1 T.ZbP)⟩
 ·cases h; exact ⟨T.Zx, (kit1 T.ZbO)⟩
 ·cases h
theorem Zhm (T : Txt g fi ci ti) : XcT g Zht [.ref (ci 6)] := by
 intro k C b h hc
 rw [T.hca] at hc
 cases hc
 unfold Zht at h
 split at h
 ·cases h; exact ⟨T.Zu, (kit1 T.ZdE)⟩
 ·cases h; exact ⟨T.Zw, (kit1 T.Zdw)⟩
 ·cases h; exact ⟨T.Z5, (kit1 T.ZfZ)⟩
 ·cases h; exact ⟨T.Zo, (kit1 T.ZbI)⟩
 ·cases h; exact ⟨T.ZB, (kit1 T.Zd6)⟩
 ·cases h; exact ⟨T.Zy, (kit1 T.ZdM)⟩
 ·cases h; exact ⟨T.ZO, (kit1 T.Ze4)⟩
 ·cases h; exact ⟨T.ZA, (kit1 T.Zd3)⟩
 ·cases h; exact ⟨T.Zz, (kit1 T.Zeg)⟩
 ·cases h; exact ⟨T.ZN, (kit1 T.Ze8)⟩
 ·cases h; exact ⟨T.ZP, (kit1 T.ZeW)⟩
 ·cases h; exact ⟨T.Zv, (kit1 T.ZdG)⟩
 ·cases h; exact ⟨T.Zx, (kit1 T.Zde)⟩
 ·cases h
theorem ZhQ (T : Txt g fi ci ti) : XcT g Zfq [.ref (ci 5)] := by
 intro k C b h hc
 rw [T.hca] at hc
 cases hc
 unfold Zfq at h
 split at h
 ·cases h; exact ⟨T.Zu, (kit1 T.Zco)⟩
 ·cases h; exact ⟨T.Zw, (kit1 T.ZcP)⟩
 ·cases h; exact ⟨T.Z5, (kit1 T.Ze7)⟩
 ·cases h; exact ⟨T.Zo, (kit1 T.ZbC)⟩
 ·cases h; exact ⟨T.ZB, (kit1 T.Zdg)⟩
 ·cases h; exact ⟨T.Zy, (kit1 T.ZcZ)⟩
 ·cases h; exact ⟨T.ZO, (kit1 T.Zee)⟩
 ·cases h; exact ⟨T.ZA, (kit1 T.Zdz)⟩
 ·cases h; exact ⟨T.Zz, (kit1 T.ZdH)⟩
 ·cases h; exact ⟨T.ZN, (kit1 T.ZdY)⟩
 ·cases h; exact ⟨T.ZP, (kit1 T.Zes)⟩
 ·cases h; exact ⟨T.Zv, (kit1 T.ZcR)⟩
 ·cases h; exact ⟨T.Zx, (kit1 T.ZcW)⟩
 ·cases h
theorem Zfo (T : Txt g fi ci ti) : XcT g ZfQ [.ref (ci 4)] := by
 intro k C b h hc
 rw [T.hca] at hc
 cases hc
 unfold ZfQ at h
 split at h
 ·cases h; exact ⟨T.Zu, (kit1 T.Zcn)⟩
 ·cases h; exact ⟨T.Zw, (kit1 T.ZcQ)⟩
 ·cases h; exact ⟨T.Z5, (kit1 T.Ze2)⟩
 ·cases h; exact ⟨T.Zo, (kit1 T.Zbg)⟩
 ·cases h; exact ⟨T.ZB, (kit1 T.Zdj)⟩
 ·cases h; exact ⟨T.Zy, (kit1 T.ZcL)⟩
 ·cases h; exact ⟨T.ZO, (kit1 T.Zet)⟩
 ·cases h; exact ⟨T.ZA, (kit1 T.Zdm)⟩
 ·cases h; exact ⟨T.Zz, (kit1 T.Zdn)⟩
 ·cases h; exact ⟨T.ZN, (kit1 T.ZdU)⟩
 ·cases h; exact ⟨T.ZP, (kit1 T.Zej)⟩
 ·cases h; exact ⟨T.Zv, (kit1 T.ZcJ)⟩
 ·cases h; exact ⟨T.Zx, (kit1 T.Zcx)⟩
 ·cases h
theorem Zix (T : Txt g fi ci ti) : XcT g Zhl [.ref (ci 8)] := by
 intro k C b h hc
 rw [T.hca] at hc
 cases hc
 unfold Zhl at h
 split at h
 ·cases h; exact ⟨T.Zu, (kit1 T.ZdT)⟩
 ·cases h; exact ⟨T.Zw, (kit1 T.Zdh)⟩
 ·cases h; exact ⟨T.Z5, (kit1 T.Zfp)⟩
 ·cases h; exact ⟨T.Zo, (kit1 T.ZbN)⟩
 ·cases h; exact ⟨T.ZB, (kit1 T.Zd1)⟩
 ·cases h; exact ⟨T.Zy, (kit1 T.ZdK)⟩
 ·cases h; exact ⟨T.ZO, (kit1 T.Ze1)⟩
 ·cases h; exact ⟨T.ZA, (kit1 T.Zef)⟩
 ·cases h; exact ⟨T.Zz, (kit1 T.Zeb)⟩
 ·cases h; exact ⟨T.ZN, (kit1 T.Ze3)⟩
 ·cases h; exact ⟨T.ZP, (kit1 T.ZeY)⟩
 ·cases h; exact ⟨T.Zv, (kit1 T.ZdS)⟩
 ·cases h; exact ⟨T.Zx, (kit1 T.Zdq)⟩
 ·cases h
theorem ZhN (T : Txt g fi ci ti) : XcT g Zav [.type "RuntimeError"] := by
 intro k C b h hc
 rw [T.hca] at hc
 cases hc
 unfold Zav at h
 split at h
 ·cases h; exact ⟨T.Zu, (kit1 T.Zaq)⟩
 ·cases h; exact ⟨T.Zw, (kit1 T.Zas)⟩
 ·cases h; exact ⟨T.Z5, (kit1 T.Zbc)⟩
 ·cases h; exact ⟨T.Zo, (kit1 T.Zah)⟩
 ·cases h; exact ⟨T.ZB, (kit1 T.Zax)⟩
 ·cases h; exact ⟨T.Zy, (kit1 T.Zar)⟩
 ·cases h; exact ⟨T.ZO, (kit1 T.ZaX)⟩
 ·cases h; exact ⟨T.ZA, (kit1 T.ZaC)⟩
 ·cases h; exact ⟨T.Zz, (kit1 T.ZaG)⟩
 ·cases h; exact ⟨T.ZN, (kit1 T.ZaN)⟩
 ·cases h; exact ⟨T.ZP, (kit1 T.ZaL)⟩
 ·cases h; exact ⟨T.Zv, (kit1 T.Zat)⟩
 ·cases h; exact ⟨T.Zx, (kit1 T.Zau)⟩
 ·cases h
theorem ZiT (T : Txt g fi ci ti) : XcT g Zho [.ref (ci 7)] := by
 intro k C b h hc
 rw [T.hca] at hc
 cases hc
 unfold Zho at h
 split at h
 ·cases h; exact ⟨T.Zu, (kit1 T.ZdF)⟩
 ·cases h; exact ⟨T.Zw, (kit1 T.ZdL)⟩
 ·cases h; exact ⟨T.Z5, (kit1 T.Zfs)⟩
 ·cases h; exact ⟨T.Zo, (kit1 T.ZbK)⟩
 ·cases h; exact ⟨T.ZB, (kit1 T.Zd7)⟩
 ·cases h; exact ⟨T.Zy, (kit1 T.Zdp)⟩
 ·cases h; exact ⟨T.ZO, (kit1 T.Ze9)⟩
 ·cases h; exact ⟨T.ZA, (kit1 T.Zei)⟩
 ·cases h; exact ⟨T.Zz, (kit1 T.Zer)⟩
 ·cases h; exact ⟨T.ZN, (kit1 T.Zfa)⟩
 ·cases h; exact ⟨T.ZP, (kit1 T.ZeX)⟩
 ·cases h; exact ⟨T.Zv, (kit1 T.ZdA)⟩
 ·cases h; exact ⟨T.Zx, (kit1 T.ZdR)⟩
 ·cases h
theorem Zgt (T : Txt g fi ci ti) : XcT g Zeu [.ref (ci 3)] := by
 intro k C b h hc
 rw [T.hca] at hc
 cases hc
 unfold Zeu at h
 split at h
 ·cases h; exact ⟨T.Zu, (kit1 T.ZbR)⟩
 ·cases h; exact ⟨T.Zw, (kit1 T.Zb5)⟩
 ·cases h; exact ⟨T.Z5, (kit1 T.Zek)⟩
 ·cases h; exact ⟨T.Zo, (kit1 T.ZaY)⟩
 ·cases h; exact ⟨T.ZB, (kit1 T.Zc1)⟩
 ·cases h; exact ⟨T.Zy, (kit1 T.ZbJ)⟩
 ·cases h; exact ⟨T.ZO, (kit1 T.ZdN)⟩
 ·cases h; exact ⟨T.ZA, (kit1 T.Zcr)⟩
 ·cases h; exact ⟨T.Zz, (kit1 T.Zcl)⟩
 ·cases h; exact ⟨T.ZN, (kit1 T.Zdf)⟩
 ·cases h; exact ⟨T.ZP, (kit1 T.Zdt)⟩
 ·cases h; exact ⟨T.Zv, (kit1 T.Zca)⟩
 ·cases h; exact ⟨T.Zx, (kit1 T.ZbQ)⟩
 ·cases h
theorem ZgI (T : Txt g fi ci ti) : XcT g ZeE [.ref (ci 12)] := by
 intro k C b h hc
 rw [T.hca] at hc
 cases hc
 unfold ZeE at h
 split at h
 ·cases h; exact ⟨T.Zu, (kit1 T.Zb9)⟩
 ·cases h; exact ⟨T.Zw, (kit1 T.Zb1)⟩
 ·cases h; exact ⟨T.Z5, (kit1 T.ZdX)⟩
 ·cases h; exact ⟨T.Zo, (kit1 T.Za3)⟩
 ·cases h; exact ⟨T.ZB, (kit1 T.ZcM)⟩
 ·cases h; exact ⟨T.Zy, (kit1 T.Zce)⟩
 ·cases h; exact ⟨T.ZO, (kit1 T.Zdd)⟩
 ·cases h; exact ⟨T.ZA, (kit1 T.ZcG)⟩
 ·cases h; exact ⟨T.Zz, (kit1 T.Zck)⟩
 ·cases h; exact ⟨T.ZN, (kit1 T.Zdu)⟩
 ·cases h; exact ⟨T.ZP, (kit1 T.ZdC)⟩
 ·cases h; exact ⟨T.Zv, (kit1 T.Zb2)⟩
 ·cases h; exact ⟨T.Zx, (kit1 T.ZbE)⟩
 ·cases h
theorem Zfw (T : Txt g fi ci ti) : XcT g Z1 [.type "ValueError"] := by
 intro k C b h hc
 rw [T.hca] at hc
 cases hc
 unfold Z1 at h
 split at h
 ·cases h; exact ⟨T.Zu, (kit1 T.ZaR)⟩
 ·cases h; exact ⟨T.Zw, (kit1 T.ZaS)⟩
 ·cases h; exact ⟨T.Z5, (kit1 T.ZbU)⟩
 ·cases h; exact ⟨T.Zo, (kit1 T.Zap)⟩
 ·cases h; exact ⟨T.ZB, (kit1 T.Zbd)⟩
 ·cases h; exact ⟨T.Zy, (kit1 T.ZaQ)⟩
 ·cases h; exact ⟨T.ZO, (kit1 T.Zbz)⟩
 ·cases h; exact ⟨T.ZA, (kit1 T.Za1)⟩
 ·cases h; exact ⟨T.Zz, (kit1 T.Za0)⟩
 ·cases h; exact ⟨T.ZN, (kit1 T.Zbw)⟩
 ·cases h; exact ⟨T.ZP, (kit1 T.ZbD)⟩
 ·cases h; exact ⟨T.Zv, (kit1 T.ZaO)⟩
 ·cases h; exact ⟨T.Zx, (kit1 T.ZaT)⟩
 ·cases h
theorem Zff (T : Txt g fi ci ti) : XfOk g Zdc "asks" := by
 intro c C hc hs
 rw [T.hca] at hc
 cases hc
 unfold Zdc at hs
 split at hs
 ·cases hs
 ·exact ⟨T.Zit, T.Zev⟩
 ·cases hs
 ·cases hs
 ·cases hs
 ·cases hs
 ·cases hs
 ·cases hs
 ·cases hs
 ·cases hs
 ·cases hs
 ·cases hs
 ·cases hs
 ·cases hs
theorem Zg8 (T : Txt g fi ci ti) : XfOk g Zhp "name" := by
 intro c C hc hs
 rw [T.hca] at hc
 cases hc
 unfold Zhp at hs
 split at hs
 ·cases hs
 ·cases hs
 ·exact ⟨T.ZkC, T.ZiK⟩
 ·cases hs
 ·cases hs
 ·cases hs
 ·cases hs
 ·cases hs
 ·cases hs
 ·cases hs
 ·cases hs
 ·cases hs
 ·cases hs
 ·cases hs
theorem ZeR (T : Txt g fi ci ti) : XfOk g Zc8 "place" := by
 intro c C hc hs
 rw [T.hca] at hc
 cases hc
 unfold Zc8 at hs
 split at hs
 ·cases hs
 ·cases hs
 ·cases hs
 ·cases hs
 ·cases hs
 ·exact ⟨T.Ziv, T.ZeC⟩
 ·cases hs
 ·cases hs
 ·cases hs
 ·cases hs
 ·cases hs
 ·cases hs
 ·cases hs
 ·cases hs
theorem ZfG (T : Txt g fi ci ti) : XfOk g ZeD "line" := by
 intro c C hc hs
 rw [T.hca] at hc
 cases hc
 unfold ZeD at hs
 split at hs
 ·cases hs
 ·cases hs
 ·cases hs
 ·cases hs
 ·cases hs
 ·cases hs
 ·cases hs
 ·exact ⟨T.Zi4, T.Zfv⟩
 ·cases hs
 ·cases hs
 ·cases hs
 ·cases hs
 ·cases hs
 ·cases hs
theorem Zgm (T : Txt g fi ci ti) : XfOk g ZfY "name" := by
 intro c C hc hs
 rw [T.hca] at hc
 cases hc
 unfold ZfY at hs
 split at hs
 ·cases hs
 ·cases hs
 ·cases hs
 ·cases hs
 ·cases hs
 ·cases hs
 ·cases hs
 ·cases hs
 ·cases hs
 ·exact ⟨T.ZjF, T.Zhn⟩
 ·cases hs
 ·cases hs
 ·cases hs
 ·cases hs
theorem ZgD (T : Txt g fi ci ti) : XfOk g ZfT "name" := by
 intro c C hc hs
 rw [T.hca] at hc
 cases hc
 unfold ZfT at hs
 split at hs
 ·cases hs
 ·cases hs
 ·cases hs
 ·cases hs
 ·cases hs
 ·cases hs
 ·cases hs
 ·cases hs
 ·cases hs
 ·cases hs
 ·exact ⟨T.ZjK, T.Zhs⟩
 ·cases hs
 ·cases hs
 ·cases hs
theorem Zfi (T : Txt g fi ci ti) : XfOk g Zc5 "most" := by
 intro c C hc hs
 rw [T.hca] at hc
 cases hc
 unfold Zc5 at hs
 split at hs
 ·cases hs
 ·cases hs
 ·cases hs
 ·cases hs
 ·cases hs
 ·cases hs
 ·cases hs
 ·cases hs
 ·cases hs
 ·cases hs
 ·cases hs
 ·exact ⟨T.Ziu, T.ZeA⟩
 ·cases hs
 ·cases hs
theorem Zfh (T : Txt g fi ci ti) : XfOk g Zda "name" := by
 intro c C hc hs
 rw [T.hca] at hc
 cases hc
 unfold Zda at hs
 split at hs
 ·cases hs
 ·cases hs
 ·cases hs
 ·cases hs
 ·cases hs
 ·cases hs
 ·cases hs
 ·cases hs
 ·cases hs
 ·cases hs
 ·cases hs
 ·cases hs
 ·exact ⟨T.Zir, T.Zey⟩
 ·cases hs
theorem Zag : FnScope Zbx ["self", "place"] (defScope Zi) := ⟨rfl, rfl, rfl, by decide +kernel, rfl, by decide +kernel, by decide +kernel⟩
theorem ZeT (T : Txt g fi ci ti) (hh : ∀ pc, Fns (g.at pc) fi Φ (k + 2)) : FG g (k + 2 + 2) (fi 0).a (fi 0).d ["self", "place"] (spD g 2 (prog Φ Zby)) := by
 have h : Fns g fi Φ (k + 2) := hh g.pc
 show FG g (k + 2 + 1 + 1) _ _ _ (spD g 2 (runB Zbx.length (ZE Φ)))
 refine Zge T.Z2 Zag rfl (by decide) fun cdv A fr s H E c hr1 => ?_
 have hr := hr1.mono (Nat.le_succ (k + 2))
 exact (Zs (ZgN c (Zf 1) (Zf 0) (Zk5 T))
  Z6)
theorem Zad : FnScope Zbv ["self", "most"] (defScope Zn) := ⟨rfl, rfl, rfl, by decide +kernel, rfl, by decide +kernel, by decide +kernel⟩
theorem ZeQ (T : Txt g fi ci ti) (hh : ∀ pc, Fns (g.at pc) fi Φ (k + 2)) : FG g (k + 2 + 2) (fi 1).a (fi 1).d ["self", "most"] (spD g 2 (prog Φ Zbk)) := by
 have h : Fns g fi Φ (k + 2) := hh g.pc
 show FG g (k + 2 + 1 + 1) _ _ _ (spD g 2 (runB Zbv.length (ZC Φ)))
 refine Zge T.Z3 Zad rfl (by decide) fun cdv A fr s H E c hr1 => ?_
 have hr := hr1.mono (Nat.le_succ (k + 2))
 exact (Zs (ZgN c (Zf 1) (Zf 0) (Ztj T))
  Z6)
theorem Zaj : FnScope Zb7 ["self", "line"] (defScope Zp) := ⟨rfl, rfl, rfl, by decide +kernel, rfl, by decide +kernel, by decide +kernel⟩
theorem Zfc (T : Txt g fi ci ti) (hh : ∀ pc, Fns (g.at pc) fi Φ (k + 2)) : FG g (k + 2 + 2) (fi 2).a (fi 2).d ["self", "line"] (spD g 2 (prog Φ Zb8)) := by
 have h : Fns g fi Φ (k + 2) := hh g.pc
 show FG g (k + 2 + 1 + 1) _ _ _ (spD g 2 (runB Zb7.length (ZI Φ)))
 refine Zge T.Z7 Zaj rfl (by decide) fun cdv A fr s H E c hr1 => ?_
 have hr := hr1.mono (Nat.le_succ (k + 2))
 exact (Zs (ZgN c (Zf 1) (Zf 0) (Zs6 T))
  Z6)
theorem Zaw : FnScope Zct ["self", "name"] (defScope Zr) := ⟨rfl, rfl, rfl, by decide +kernel, rfl, by decide +kernel, by decide +kernel⟩
theorem Zf4 (T : Txt g fi ci ti) (hh : ∀ pc, Fns (g.at pc) fi Φ (k + 2)) : FG g (k + 2 + 2) (fi 3).a (fi 3).d ["self", "name"] (spD g 2 (prog Φ Zc2)) := by
 have h : Fns g fi Φ (k + 2) := hh g.pc
 show FG g (k + 2 + 1 + 1) _ _ _ (spD g 2 (runB Zct.length (ZL Φ)))
 refine Zge T.Zac Zaw rfl (by decide) fun cdv A fr s H E c hr1 => ?_
 have hr := hr1.mono (Nat.le_succ (k + 2))
 exact (Zs (ZgN c (Zf 1) (Zf 0) (ZiP T))
  Z6)
theorem Zao : FnScope ZcE ["self", "name"] (defScope Zq) := ⟨rfl, rfl, rfl, by decide +kernel, rfl, by decide +kernel, by decide +kernel⟩
theorem ZfK (T : Txt g fi ci ti) (hh : ∀ pc, Fns (g.at pc) fi Φ (k + 2)) : FG g (k + 2 + 2) (fi 4).a (fi 4).d ["self", "name"] (spD g 2 (prog Φ ZcA)) := by
 have h : Fns g fi Φ (k + 2) := hh g.pc
 show FG g (k + 2 + 1 + 1) _ _ _ (spD g 2 (runB ZcE.length (ZM Φ)))
 refine Zge T.Zab Zao rfl (by decide) fun cdv A fr s H E c hr1 => ?_
 have hr := hr1.mono (Nat.le_succ (k + 2))
 exact (Zs (ZgN c (Zf 1) (Zf 0) (ZiP T))
  Z6)
theorem ZaI : FnScope Zdi ["self", "name"] (defScope Zt) := ⟨rfl, rfl, rfl, by decide +kernel, rfl, by decide +kernel, by decide +kernel⟩
theorem Zgz (T : Txt g fi ci ti) (hh : ∀ pc, Fns (g.at pc) fi Φ (k + 2)) : FG g (k + 2 + 2) (fi 5).a (fi 5).d ["self", "name"] (spD g 2 (prog Φ Zdx)) := by
 have h : Fns g fi Φ (k + 2) := hh g.pc
 show FG g (k + 2 + 1 + 1) _ _ _ (spD g 2 (runB Zdi.length (ZQ Φ)))
 refine Zge T.Zai ZaI rfl (by decide) fun cdv A fr s H E c hr1 => ?_
 have hr := hr1.mono (Nat.le_succ (k + 2))
 exact (Zs (ZgN c (Zf 1) (Zf 0) (ZiP T))
  Z6)
theorem Zae : FnScope Zbs ["self", "asks"] (defScope Zm) := ⟨rfl, rfl, rfl, by decide +kernel, rfl, by decide +kernel, by decide +kernel⟩
theorem ZeS (T : Txt g fi ci ti) (hh : ∀ pc, Fns (g.at pc) fi Φ (k + 2)) : FG g (k + 2 + 2) (fi 6).a (fi 6).d ["self", "asks"] (spD g 2 (prog Φ Zbr)) := by
 have h : Fns g fi Φ (k + 2) := hh g.pc
 show FG g (k + 2 + 1 + 1) _ _ _ (spD g 2 (runB Zbs.length (ZF Φ)))
 refine Zge T.ZZ Zae rfl (by decide) fun cdv A fr s H E c hr1 => ?_
 have hr := hr1.mono (Nat.le_succ (k + 2))
 exact (Zs (ZgN c (Zf 1) (Zf 0) (Zs5 T))
  Z6)
theorem Zaf : FnScope Zbm ["self", "name"] (defScope Zl) := ⟨rfl, rfl, rfl, by decide +kernel, rfl, by decide +kernel, by decide +kernel⟩
theorem ZeL (T : Txt g fi ci ti) (hh : ∀ pc, Fns (g.at pc) fi Φ (k + 2)) : FG g (k + 2 + 2) (fi 7).a (fi 7).d ["self", "name"] (spD g 2 (prog Φ Zbp)) := by
 have h : Fns g fi Φ (k + 2) := hh g.pc
 show FG g (k + 2 + 1 + 1) _ _ _ (spD g 2 (runB Zbm.length (ZD Φ)))
 refine Zge T.Z0 Zaf rfl (by decide) fun cdv A fr s H E c hr1 => ?_
 have hr := hr1.mono (Nat.le_succ (k + 2))
 exact (Zs (ZgN c (Zf 1) (Zf 0) (ZiP T))
  Z6)
theorem ZiM : FnScope ZgK ["_law_script", "_law_k"] (defScope ZK) := ⟨rfl, rfl, rfl, by decide +kernel, rfl, by decide +kernel, by decide +kernel⟩
theorem ZiN (T : Txt g fi ci ti) (hh : ∀ pc, Fns (g.at pc) fi Φ (k + 2)) : FG g (k + 2 + 2) (fi 8).a (fi 8).d ["_law_script", "_law_k"] (spD g 2 (prog Φ ZR)) := by
 have h : Fns g fi Φ (k + 2) := hh g.pc
 show FG g (k + 2 + 1 + 1) _ _ _ (spD g 2 (runB ZgK.length (ZH Φ)))
 refine Zge T.ZbL ZiM rfl (by decide) fun cdv A fr s H E c hr1 => ?_
 have hr := hr1.mono (Nat.le_succ (k + 2))
 exact (Zs (ZbX c ZaM)
  (Zs (ZkB (Ze6 (Zos c) (OE.v (Zf 1)) (OE.v (ZjA c (Zvb c) Zvt T.Zj1 (Zh (Zf 0) ZW)))) (Zs (ZbX c (Zk3 c (OE.v (Zf 0)) (Zf 1)))
  Z6) Z6)
  (Zs (ZbX c (Zam ZsU (OE.v (Zam ZiU (OE.v (Zf 2)) (OE.v (Zam Zkn (OE.v ZaM) (OE.v ZaM))))) (OE.v (Zam Zkn (OE.v ZaM) (OE.v ZaM)))))
  (Zs (ZbX c (Zam (Zjb c) (OE.v (Zk3 c (OE.v ZuG) (Zam ZiU (OE.v (Zf 2)) (OE.v ZaM)))) (OE.v (Zam (Zen c) (OE.v ZaM) (OE.v (Zam ZiU (OE.v (Zam Zjv (OE.v (Zf 2)) (OE.v ZaM))) (OE.v ZaM)))))))
  (Zs (ZfC (Zk3 c (OL.v (Zc9 (Zh ZpG (Zh (Zf 4) (Zh (Zf 3) (Zh (ZhJ (Zh (Zf 4) (Zh ZpG ZW))) (Zh (ZrP (Zh (Zf 3) (Zh (ZrP (Zh (Zf 4) ZW)) ZW))) ZW))))))) (Zam ZiU (OE.v (Zam Zjv (OE.v (Zf 2)) (OE.v ZaM))) (OE.v ZaM))))
  Z6)))))
theorem Zi2 : FnScope ZhA ["_law_error"] (defScope ZV) := ⟨rfl, rfl, rfl, by decide +kernel, rfl, by decide +kernel, by decide +kernel⟩
theorem Zi1 (T : Txt g fi ci ti) (hh : ∀ pc, Fns (g.at pc) fi Φ (k + 2)) : FG g (k + 2 + 2) (fi 9).a (fi 9).d ["_law_error"] (spD g 1 (prog Φ Z9)) := by
 have h : Fns g fi Φ (k + 2) := hh g.pc
 show FG g (k + 2 + 1 + 1) _ _ _ (spD g 1 (runB ZhA.length (ZT Φ)))
 refine Zge T.Zc4 Zi2 rfl (by decide) fun cdv A fr s H E c hr1 => ?_
 have hr := hr1.mono (Nat.le_succ (k + 2))
 exact (Zs (ZbX c (ZhJ (Zh (ZcY c (Zf 0) T.ZhT (Zfx T) Zk T.Zj) (Zh (ZcY c (Zf 0) T.ZeG (ZgA T) Zk T.Zj) (Zh (ZcY c (Zf 0) T.ZeH (Zgt T) Zk T.Zj) ZW)))))
  (Zs (ZbX c (Zam (Zen c) (OE.v (Zf 1)) (OL.v (Zc9 (Zh (ZcY c (Zf 0) T.ZhV (Zfo T) Zk T.Zj) (Zh (ZcY c (Zf 0) T.ZfV (ZhQ T) Zk T.Zj) (Zh (ZcY c (Zf 0) T.ZiA (Zhm T) Zk T.Zj) ZW)))))))
  (Zs (ZbX c (Zam (Zen c) (OE.v (Zf 1)) (OL.v (Zc9 (Zh (ZcY c (Zf 0) T.Zhr (ZiT T) Zk T.Zj) (Zh (ZcY c (Zf 0) T.Zhq (Zix T) Zk T.Zj) (Zh (ZcY c (Zf 0) T.ZiJ (Zjg T) Zk T.Zj) ZW)))))))
  (Zs (ZfC (Zam (Zen c) (OE.v (Zf 1)) (OL.v (Zc9 (Zh (ZcY c (Zf 0) T.Zgd (Zew T) Zk T.Zj) (Zh (ZcY c (Zf 0) T.ZeB (Zgr T) Zk T.Zj) (Zh (ZcY c (Zf 0) T.ZeK (ZgI T) Zk T.Zj) ZW)))))))
  Z6))))
theorem ZiE : FnScope ZgS ["_law_error"] (defScope ZJ) := ⟨rfl, rfl, rfl, by decide +kernel, rfl, by decide +kernel, by decide +kernel⟩
theorem ZiB (T : Txt g fi ci ti) (hh : ∀ pc, Fns (g.at pc) fi Φ (k + 2)) : FG g (k + 2 + 2) (fi 10).a (fi 10).d ["_law_error"] (spD g 1 (prog Φ Zak)) := by
 have h : Fns g fi Φ (k + 2) := hh g.pc
 show FG g (k + 2 + 1 + 1) _ _ _ (spD g 1 (runB ZgS.length (ZX Φ)))
 refine Zge T.Zd9 ZiE rfl (by decide) fun cdv A fr s H E c hr1 => ?_
 have hr := hr1.mono (Nat.le_succ (k + 2))
 exact (Zs (ZbX c (ZhJ (Zh (ZhO c (Zf 0) Zfn (Zfw T) Zk T.Zj T.Z8) (Zh (ZhO c (Zf 0) ZhU (ZhN T) Zk T.Zj T.Z4) ZW))))
  (Zs (ZfC (Zam (Zen c) (OE.v (Zf 1)) (OL.v (Zc9 (Zh (ZhO c (Zf 0) Zje (Zjm T) Zk T.Zj T.Zbf) (Zh (ZhO c (Zf 0) Zh5 (Zij T) Zk T.Zj T.Zaa) ZW))))))
  Z6))
theorem Zil : FnScope ZfB ["_law_one", "_law_other"] (defScope ZG) := ⟨rfl, rfl, rfl, by decide +kernel, rfl, by decide +kernel, by decide +kernel⟩
theorem Zh6 (T : Txt g fi ci ti) (hh : ∀ pc, Fns (g.at pc) fi Φ (k + 2)) : FG g (k + 2 + 2) (fi 11).a (fi 11).d ["_law_one", "_law_other"] (spD g 2 (prog Φ ZY)) := by
 have h : Fns g fi Φ (k + 2) := hh g.pc
 show FG g (k + 2 + 1 + 1) _ _ _ (spD g 2 (runB ZfB.length (ZS Φ)))
 refine Zge T.Zdb Zil rfl (by decide) fun cdv A fr s H E c hr1 => ?_
 have hr := hr1.mono (Nat.le_succ (k + 2))
 exact (Zs (ZkB (OW.ot (Zj2 (Ze6 (ZfD c) (OE.v (Zja c.hK (ZdQ c (T.hca 2) T.Zcp T.Zgp T.Zgv (fnX (k := 0) T.Zcp T.ZeC T.Z2 Zag rfl rfl (.inl rfl) (.inl rfl) (by decide) (by decide) (by decide) (by decide)) (hr1.mono (by omega)) T.ZE T.ZeG (Zf 0)) (ZeR T))) (OE.v (Zf 0))) (Zj2 (Ze6 (ZfD c) (OE.v (Zja c.hK (ZdQ c (T.hca 3) T.Zcu T.Zgn T.ZgB (fnX (k := 0) T.Zcu T.ZeA T.Z3 Zad rfl rfl (.inl rfl) (.inl rfl) (by decide) (by decide) (by decide) (by decide)) (hr1.mono (by omega)) T.ZC T.ZeH (Zf 1)) (Zfi T))) (OE.v (Zf 1))) (Zki (Ze6 (ZfD c) (OE.v (Zja c.hK (ZdQ c (T.hca 5) T.Zd5 T.ZhY T.ZhM (fnX (k := 0) T.Zd5 T.Zfv T.Z7 Zaj rfl rfl (.inl rfl) (.inl rfl) (by decide) (by decide) (by decide) (by decide)) (hr1.mono (by omega)) T.ZI T.ZfV (Zf 0)) (ZfG T))) (OE.v (Zf 0))))))) (Zs (ZfC ZeN)
  Z6) Z6)
  (Zs (ZkB (OW.ot (Zj2 (Ze6 (ZfD c) (OE.v (Zja c.hK (ZdQ c (T.hca 7) T.ZfN T.ZiH T.ZiV (fnX (k := 0) T.ZfN T.Zhs T.Zac Zaw rfl rfl (.inl rfl) (.inl rfl) (by decide) (by decide) (by decide) (by decide)) (hr1.mono (by omega)) T.ZL T.Zhr (Zf 0)) (ZgD T))) (OE.v (Zf 0))) (Zj2 (Ze6 (ZfD c) (OE.v (Zja c.hK (ZdQ c (T.hca 8) T.ZfX T.ZiD T.Ziz (fnX (k := 0) T.ZfX T.Zhn T.Zab Zao rfl rfl (.inl rfl) (.inl rfl) (by decide) (by decide) (by decide) (by decide)) (hr1.mono (by omega)) T.ZM T.Zhq (Zf 1)) (Zgm T))) (OE.v (Zf 1))) (Zki (Ze6 (ZfD c) (OE.v (Zja c.hK (ZdQ c (T.hca 9) T.ZhG T.Zji T.Zjf (fnX (k := 0) T.ZhG T.ZiK T.Zai ZaI rfl rfl (.inl rfl) (.inl rfl) (by decide) (by decide) (by decide) (by decide)) (hr1.mono (by omega)) T.ZQ T.ZiJ (Zf 0)) (Zg8 T))) (OE.v (Zf 0))))))) (Zs (ZfC ZeN)
  Z6) Z6)
  (Zs (ZfC (Zkm c (ZjL (Zj7 c) (OE.v (Zja c.hK (Zjp c (T.hca 11) T.ZcV T.ZgF T.Zgx (fnXR (k := 0) T.ZcV T.Zev T.ZZ Zae rfl rfl (.inl rfl) (.inl rfl) (by decide) (by decide) (by decide) (by decide)) (hr1.mono (by omega)) T.ZF T.ZeB (Zf 1)) (Zff T))) (OE.v (Zf 1))) (ZoX (ZjL (Zj7 c) (OE.v (Zja c.hK (Zjp c (T.hca 12) T.ZcU T.ZgE T.ZgC (fnXR (k := 0) T.ZcU T.Zey T.Z0 Zaf rfl rfl (.inl rfl) (.inl rfl) (by decide) (by decide) (by decide) (by decide)) (hr1.mono (by omega)) T.ZD T.ZeK (Zf 0)) (Zfh T))) (OE.v (Zf 0))))))
  Z6)))
theorem ZvB : FnScope Ztv ["_law_script"] (defScope ZhK) := ⟨rfl, rfl, rfl, by decide +kernel, rfl, by decide +kernel, by decide +kernel⟩
theorem Zu6 (T : Txt g fi ci ti) (hh : ∀ pc, Fns (g.at pc) fi Φ (k + 2)) : FG g (k + 2 + 2) (fi 12).a (fi 12).d ["_law_script"] (spD g 1 (prog Φ Zj0)) := by
 have h : Fns g fi Φ (k + 2) := hh g.pc
 show FG g (k + 2 + 1 + 1) _ _ _ (spD g 1 (runB Ztv.length (Ziw Φ)))
 refine Zge T.ZtH ZvB rfl (by decide) fun cdv A fr s H E c hr1 => ?_
 have hr := hr1.mono (Nat.le_succ (k + 2))
 exact (Zs (ZbX c (Zga c h.f__law_value hr T.Zd0 T.ZbL.kp T.ZH (Zh (Zf 0) (Zh ZaM ZW)) (hgl := (Zan (Zan ZeF)))))
  (Zs (ZbX c (Zga c h.f__law_value hr T.Zd0 T.ZbL.kp T.ZH (Zh (Zf 0) (Zh ZaM ZW)) (hgl := (Zan (Zan ZeF)))))
  (Zs (ZbX c (ZhJ (Zh (Zi9 c (T.hca 1) PySem.F.excBase_ValueError T.Zi7 T.ZhT T.Zi6 T.Zi3 T.Zfx) (Zh (ZdQ c (T.hca 2) T.Zcp T.Zgp T.Zgv (fnX (k := 0) T.Zcp T.ZeC T.Z2 Zag rfl rfl (.inl rfl) (.inl rfl) (by decide) (by decide) (by decide) (by decide)) (hr1.mono (by omega)) T.ZE T.ZeG (Zf 1)) (Zh (ZdQ c (T.hca 3) T.Zcu T.Zgn T.ZgB (fnX (k := 0) T.Zcu T.ZeA T.Z3 Zad rfl rfl (.inl rfl) (.inl rfl) (by decide) (by decide) (by decide) (by decide)) (hr1.mono (by omega)) T.ZC T.ZeH (Zf 2)) (Zh (Zi9 c (T.hca 4) PySem.F.excBase_ValueError T.Zi5 T.ZhV T.Zi0 T.ZiZ T.Zfo) (Zh (ZdQ c (T.hca 5) T.Zd5 T.ZhY T.ZhM (fnX (k := 0) T.Zd5 T.Zfv T.Z7 Zaj rfl rfl (.inl rfl) (.inl rfl) (by decide) (by decide) (by decide) (by decide)) (hr1.mono (by omega)) T.ZI T.ZfV (Zf 1)) (Zh (Zi9 c (T.hca 6) PySem.F.excBase_ValueError T.ZjB T.ZiA T.Zjn T.ZjI T.Zhm) (Zh (ZdQ c (T.hca 7) T.ZfN T.ZiH T.ZiV (fnX (k := 0) T.ZfN T.Zhs T.Zac Zaw rfl rfl (.inl rfl) (.inl rfl) (by decide) (by decide) (by decide) (by decide)) (hr1.mono (by omega)) T.ZL T.Zhr (Zf 1)) ZW)))))))))
  (Zs (ZbX c (Zam (Zen c) (OE.v (Zf 3)) (OL.v (Zc9 (Zh (ZdQ c (T.hca 8) T.ZfX T.ZiD T.Ziz (fnX (k := 0) T.ZfX T.Zhn T.Zab Zao rfl rfl (.inl rfl) (.inl rfl) (by decide) (by decide) (by decide) (by decide)) (hr1.mono (by omega)) T.ZM T.Zhq (Zf 1)) (Zh (ZdQ c (T.hca 9) T.ZhG T.Zji T.Zjf (fnX (k := 0) T.ZhG T.ZiK T.Zai ZaI rfl rfl (.inl rfl) (.inl rfl) (by decide) (by decide) (by decide) (by decide)) (hr1.mono (by omega)) T.ZQ T.ZiJ (Zf 2)) (Zh (Zi9 c (T.hca 10) PySem.F.excBase_RuntimeError T.Zin T.Zgd T.Zim T.Zio T.Zew) (Zh (Zjp c (T.hca 11) T.ZcV T.ZgF T.Zgx (fnXR (k := 0) T.ZcV T.Zev T.ZZ Zae rfl rfl (.inl rfl) (.inl rfl) (by decide) (by decide) (by decide) (by decide)) (hr1.mono (by omega)) T.ZF T.ZeB (Zf 1)) (Zh (Zjp c (T.hca 12) T.ZcU T.ZgE T.ZgC (fnXR (k := 0) T.ZcU T.Zey T.Z0 Zaf rfl rfl (.inl rfl) (.inl rfl) (by decide) (by decide) (by decide) (by decide)) (hr1.mono (by omega)) T.ZD T.ZeK (Zf 1)) ZW)))))))))
  (Zs (ZbX c (Zam (Zen c) (OE.v (Zam (Zen c) (OE.v (Zam (Zjb c) (OL.v (Zc9 (Zh (ZhJ (Zh ZeN (Zh ZeN (Zh ZeN (Zh ZeN ZW))))) ZW))) (OE.v ZaM))) (OE.v (Zam (Zjb c) (OL.v (Zc9 (Zh (ZhJ (Zh ZeN (Zh ZeN (Zh ZeN (Zh ZeN ZW))))) ZW))) (OE.v ZaM))))) (OL.v (Zc9 (Zh (ZhJ (Zh ZeN (Zh ZeN (Zh ZeN (Zh ZeN ZW))))) ZW)))))
  (Zs (ZuL c (ZkM c (Zf 3) T.ZaJ) (Zyv c.calm (ZjC c.nd (ZjC c.nd Zti))) (Zs (ZkB (OW.ot (Zj2 (Ze6 (ZfD c) (OE.v (Zga c h.f__law_ones hr T.Zfd T.Zc4.kp T.ZT (Zh (Zf 6) ZW) (hgl := (Zan ZeF)))) (OL.v (ZsL c (blkOk_by (N := Ztv) (sc := defScope ZhK) (own := [("_law_j", 8)]) (by decide +kernel)) (Zks c (Zh ZaM ZW) T.Zgq) (fun _ _ _ _ _ => (Zzg c.blk.nd)) (fun _ _ _ _ _ => Ztd) (fun _ _ _ _ _ => (ZjL (Zj7 c.blk) (OE.v (Zf 8)) (OE.v (Zf 5)))) (by decide)))) (Zki (Ze6 (ZfD c) (OE.v (Zga c h.f__law_kinds hr T.ZgT T.Zd9.kp T.ZX (Zh (Zf 6) ZW) (hgl := (Zan ZeF)))) (OE.v (Zk3 c (OE.v (Zf 4)) (Zf 5))))))) (Zs (ZfC ZeN)
  Z6) Z6)
  (Zs (ZkB (Ze6 (ZfD c) (OE.v (ZcY c (Zf 6) T.Zea (ZbF T) Zk T.Zj)) (OE.v (ZjL (Zos c) (OE.v (Zf 5)) (OE.v ZaM)))) (Zs (ZfC ZeN)
  Z6) Z6)
  Z6)))
  (Zs (ZbX c (Zi9 c (T.hca 0) PySem.F.excBase_ValueError T.ZgQ T.Zea T.ZgM T.ZgP T.ZbF))
  (Zs (ZfC (Zkm c (Zuo c (ZjA c ((Zth c).b) Zwj T.ZjX (Zh (Zga c h.f__law_ones hr T.Zfd T.Zc4.kp T.ZT (Zh (Zf 7) ZW) (hgl := (Zan ZeF))) ZW))) (Zkm c (ZhO c (Zf 7) Zfn (Zfw T) Zk T.Zj T.Z8) (ZoX (Zga c h.f__law_fields hr T.ZfU T.Zdb.kp T.ZS (Zh (Zf 1) (Zh (Zf 2) ZW)) (hgl := (Zan (Zan ZeF))))))))
  Z6))))))))
theorem fns (T : Txt g fi ci ti) : ∀ n pc, Fns (g.at pc) fi (Phi prog n) (2 * n + 2)
 | 0, pc => ⟨ZaH, ZaH, ZaH, ZaH, ZaH, ZaH, ZaH, ZaH, ZaH, ZaH, ZaH, ZaH, ZaH⟩
 | n + 1, pc => ⟨ZeT (T.at pc) (fns T n), ZeQ (T.at pc) (fns T n), Zfc (T.at pc) (fns T n), Zf4 (T.at pc) (fns T n), ZfK (T.at pc) (fns T n), Zgz (T.at pc) (fns T n), ZeS (T.at pc) (fns T n), ZeL (T.at pc) (fns T n), ZiN (T.at pc) (fns T n), Zi1 (T.at pc) (fns T n), ZiB (T.at pc) (fns T n), Zh6 (T.at pc) (fns T n), Zu6 (T.at pc) (fns T n)⟩
end Mi
namespace Mi
open PySem PySem.Spec PyProof.Rows L2
abbrev LkF (K : W.Frag) (f : Addr) (oc : Value) (od : Option Addr) (x q : Str) (st : Stmt) (kV dc pm : Value) (an : Option Addr) (cd ct : Value) (sl : Array (Option Value)) : Prop :=
 K.lookup f = some ⟨oc, od, .func (W.fnOf x q (defArgs st) (defBody st) (defScope st) .none kV dc pm an cd ct), sl⟩
theorem ZtZ (w : World) {K : W.Frag} {h : Heap} {mg : Str -> Option Value} {tsL : List Addr} (X : K.In h) (G : h.Ns mainGlobals mg)
  {C10 : Addr}
  {C11 : Addr} {xv11 : ClassData}
  {xn11 xq11 : Str} {xN11 : Addr} {xbs11 xbm11 : List Value} {xsn11 : List Str} {xsub11 : List Value} {xab11 : Bool} {xcol11 : Option Bool} {xdd11 : Option Addr} {xka11 xkb11 xkc11 xkd11 xke11 : Option Value}
  {C9 : Addr} {xv9 : ClassData}
  {xn9 xq9 : Str} {xN9 : Addr} {xbs9 xbm9 : List Value} {xsn9 : List Str} {xsub9 : List Value} {xab9 : Bool} {xcol9 : Option Bool} {xdd9 : Option Addr} {xka9 xkb9 xkc9 xkd9 xke9 : Option Value}
  {C0 : Addr}
  {C1 : Addr}
  {C2 : Addr} {xv2 : ClassData}
  {xn2 xq2 : Str} {xN2 : Addr} {xbs2 xbm2 : List Value} {xsn2 : List Str} {xsub2 : List Value} {xab2 : Bool} {xcol2 : Option Bool} {xdd2 : Option Addr} {xka2 xkb2 xkc2 xkd2 xke2 : Option Value}
  {C6 : Addr}
  {C5 : Addr} {xv5 : ClassData}
  {xn5 xq5 : Str} {xN5 : Addr} {xbs5 xbm5 : List Value} {xsn5 : List Str} {xsub5 : List Value} {xab5 : Bool} {xcol5 : Option Bool} {xdd5 : Option Addr} {xka5 xkb5 xkc5 xkd5 xke5 : Option Value}
  {C4 : Addr}
  {C8 : Addr} {xv8 : ClassData}
  {xn8 xq8 : Str} {xN8 : Addr} {xbs8 xbm8 : List Value} {xsn8 : List Str} {xsub8 : List Value} {xab8 : Bool} {xcol8 : Option Bool} {xdd8 : Option Addr} {xka8 xkb8 xkc8 xkd8 xke8 : Option Value}
  {C7 : Addr} {xv7 : ClassData}
  {xn7 xq7 : Str} {xN7 : Addr} {xbs7 xbm7 : List Value} {xsn7 : List Str} {xsub7 : List Value} {xab7 : Bool} {xcol7 : Option Bool} {xdd7 : Option Addr} {xka7 xkb7 xkc7 xkd7 xke7 : Option Value}
  {C3 : Addr} {xv3 : ClassData}
  {xn3 xq3 : Str} {xN3 : Addr} {xbs3 xbm3 : List Value} {xsn3 : List Str} {xsub3 : List Value} {xab3 : Bool} {xcol3 : Option Bool} {xdd3 : Option Addr} {xka3 xkb3 xkc3 xkd3 xke3 : Option Value}
  {C12 : Addr} {xv12 : ClassData}
  {xn12 xq12 : Str} {xN12 : Addr} {xbs12 xbm12 : List Value} {xsn12 : List Str} {xsub12 : List Value} {xab12 : Bool} {xcol12 : Option Bool} {xdd12 : Option Addr} {xka12 xkb12 xkc12 xkd12 xke12 : Option Value}
  {f0 f1 f2 f3 f4 f5 f6 f7 f8 f9 f10 f11 f12 : Addr} {od0 an0 od1 an1 od2 an2 od3 an3 od4 an4 od5 an5 od6 an6 od7 an7 od8 an8 od9 an9 od10 an10 od11 an11 od12 an12 : Option Addr} {sl0 sl1 sl2 sl3 sl4 sl5 sl6 sl7 sl8 sl9 sl10 sl11 sl12 : Array (Option Value)} {oc0 kV0 dc0 pm0 cd0 ct0 oc1 kV1 dc1 pm1 cd1 ct1 oc2 kV2 dc2 pm2 cd2 ct2 oc3 kV3 dc3 pm3 cd3 ct3 oc4 kV4 dc4 pm4 cd4 ct4 oc5 kV5 dc5 pm5 cd5 ct5 oc6 kV6 dc6 pm6 cd6 ct6 oc7 kV7 dc7 pm7 cd7 ct7 oc8 kV8 dc8 pm8 cd8 ct8 oc9 kV9 dc9 pm9 cd9 ct9 oc10 kV10 dc10 pm10 cd10 ct10 oc11 kV11 dc11 pm11 cd11 ct11 oc12 kV12 dc12 pm12 cd12 ct12 : Value}
  (a__law_fields : W.nsIn K mainGlobals "_law_fields" = some (some (.ref f11)))
  (a__law_kinds : W.nsIn K mainGlobals "_law_kinds" = some (some (.ref f10)))
  (a__law_ones : W.nsIn K mainGlobals "_law_ones" = some (some (.ref f9)))
  (a__law_value : W.nsIn K mainGlobals "_law_value" = some (some (.ref f8)))
  (a_law : W.nsIn K mainGlobals "law" = some (some (.ref f12)))
  (ih_ : W.specialIn K (.builtin "object.__class__") "__get__" = some (some (.builtin "getset_descriptor.__get__")))
  (it_ : W.takesIn K (.builtin "object.__class__") = some true)
  (ac10 : W.nsIn K mainGlobals "Changed" = some (some (.ref C10)))
  (xs10 : W.subIn K (.ref C10) (.type "BaseException") = some true)
  (xt10 : W.typeIn K (.ref C10) = some (.type "type"))
  (xk10 : W.keepIn K (.ref C10) = true)
  (xa10 : W.findIn K (.ref C10) "__getattribute__" = some (some (.builtin "BaseException.__getattribute__")))
  (xb10 : W.findIn K (.ref C10) "__getattr__" = some none)
  (xh10 : W.hasDictIn K C10 = true)
  (xl10 : W.findIn K (.ref C10) "__class__" = some (some (.builtin "object.__class__")))
  (xm10 : W.mroIn K C10 (.type "object") = some true)
  (xi10 : W.excIn K C10 [.type "RuntimeError", .type "Exception", .type "BaseException", .type "object"] "RuntimeError.__new__" = true)
  (ac11 : W.nsIn K mainGlobals "Faulted" = some (some (.ref C11)))
  (xs11 : W.subIn K (.ref C11) (.type "BaseException") = some true)
  (xt11 : W.typeIn K (.ref C11) = some (.type "type"))
  (xk11 : W.keepIn K (.ref C11) = true)
  (xl11 : W.findIn K (.ref C11) "__class__" = some (some (.builtin "object.__class__")))
  (xm11 : W.mroIn K C11 (.type "object") = some true)
  (lx11 : K.lookup C11 = some (excClassObj xn11 xq11 C11 xN11 xbs11 xbm11 true xsn11 xsub11 xab11 xcol11 xdd11 xka11 xkb11 xkc11 xkd11 xke11 "RuntimeError.__new__"))
  (rv11 : xbm11 = rtTail)
  (xa11 : W.findIn K (.ref C11) "__getattribute__" = some (some (.builtin "BaseException.__getattribute__")))
  (xb11 : W.findIn K (.ref C11) "__getattr__" = some none)
  (xh11 : W.hasDictIn K C11 = true)
  (sx11 : W.findIn K (.ref C11) "__setattr__" = some (some (.builtin "object.__setattr__")))
  (ix11 : W.findIn K (.ref C11) "__init__" = some (some (.ref f6)))
  (tx11 : W.typeIn K (.ref f6) = some (.type "function"))
  (nx11 : W.findIn K (.ref C11) "asks" = some none)
  (ac9 : W.nsIn K mainGlobals "Held" = some (some (.ref C9)))
  (xs9 : W.subIn K (.ref C9) (.type "BaseException") = some true)
  (xt9 : W.typeIn K (.ref C9) = some (.type "type"))
  (xk9 : W.keepIn K (.ref C9) = true)
  (xl9 : W.findIn K (.ref C9) "__class__" = some (some (.builtin "object.__class__")))
  (xm9 : W.mroIn K C9 (.type "object") = some true)
  (lx9 : K.lookup C9 = some (excClassObj xn9 xq9 C9 xN9 xbs9 xbm9 true xsn9 xsub9 xab9 xcol9 xdd9 xka9 xkb9 xkc9 xkd9 xke9 "ValueError.__new__"))
  (rv9 : PySem.HandSPX.refsVE xbm9 = true)
  (xa9 : W.findIn K (.ref C9) "__getattribute__" = some (some (.builtin "BaseException.__getattribute__")))
  (xb9 : W.findIn K (.ref C9) "__getattr__" = some none)
  (xh9 : W.hasDictIn K C9 = true)
  (sx9 : W.findIn K (.ref C9) "__setattr__" = some (some (.builtin "object.__setattr__")))
  (ix9 : W.findIn K (.ref C9) "__init__" = some (some (.ref f5)))
  (tx9 : W.typeIn K (.ref f5) = some (.type "function"))
  (nx9 : W.findIn K (.ref C9) "name" = some none)
  (ac0 : W.nsIn K mainGlobals "MakeError" = some (some (.ref C0)))
  (xs0 : W.subIn K (.ref C0) (.type "BaseException") = some true)
  (xt0 : W.typeIn K (.ref C0) = some (.type "type"))
  (xk0 : W.keepIn K (.ref C0) = true)
  (xa0 : W.findIn K (.ref C0) "__getattribute__" = some (some (.builtin "BaseException.__getattribute__")))
  (xb0 : W.findIn K (.ref C0) "__getattr__" = some none)
  (xh0 : W.hasDictIn K C0 = true)
  (xl0 : W.findIn K (.ref C0) "__class__" = some (some (.builtin "object.__class__")))
  (xm0 : W.mroIn K C0 (.type "object") = some true)
  (xi0 : W.excIn K C0 [.type "ValueError", .type "Exception", .type "BaseException", .type "object"] "ValueError.__new__" = true)
  (ac1 : W.nsIn K mainGlobals "NoDeed" = some (some (.ref C1)))
  (xs1 : W.subIn K (.ref C1) (.type "BaseException") = some true)
  (xt1 : W.typeIn K (.ref C1) = some (.type "type"))
  (xk1 : W.keepIn K (.ref C1) = true)
  (xa1 : W.findIn K (.ref C1) "__getattribute__" = some (some (.builtin "BaseException.__getattribute__")))
  (xb1 : W.findIn K (.ref C1) "__getattr__" = some none)
  (xh1 : W.hasDictIn K C1 = true)
  (xl1 : W.findIn K (.ref C1) "__class__" = some (some (.builtin "object.__class__")))
  (xm1 : W.mroIn K C1 (.type "object") = some true)
  (xi1 : W.excIn K C1 [.type "ValueError", .type "Exception", .type "BaseException", .type "object"] "ValueError.__new__" = true)
  (ac2 : W.nsIn K mainGlobals "NoPlace" = some (some (.ref C2)))
  (xs2 : W.subIn K (.ref C2) (.type "BaseException") = some true)
  (xt2 : W.typeIn K (.ref C2) = some (.type "type"))
  (xk2 : W.keepIn K (.ref C2) = true)
  (xl2 : W.findIn K (.ref C2) "__class__" = some (some (.builtin "object.__class__")))
  (xm2 : W.mroIn K C2 (.type "object") = some true)
  (lx2 : K.lookup C2 = some (excClassObj xn2 xq2 C2 xN2 xbs2 xbm2 true xsn2 xsub2 xab2 xcol2 xdd2 xka2 xkb2 xkc2 xkd2 xke2 "ValueError.__new__"))
  (rv2 : PySem.HandSPX.refsVE xbm2 = true)
  (xa2 : W.findIn K (.ref C2) "__getattribute__" = some (some (.builtin "BaseException.__getattribute__")))
  (xb2 : W.findIn K (.ref C2) "__getattr__" = some none)
  (xh2 : W.hasDictIn K C2 = true)
  (sx2 : W.findIn K (.ref C2) "__setattr__" = some (some (.builtin "object.__setattr__")))
  (ix2 : W.findIn K (.ref C2) "__init__" = some (some (.ref f0)))
  (tx2 : W.typeIn K (.ref f0) = some (.type "function"))
  (nx2 : W.findIn K (.ref C2) "place" = some none)
  (ac6 : W.nsIn K mainGlobals "NoRow" = some (some (.ref C6)))
  (xs6 : W.subIn K (.ref C6) (.type "BaseException") = some true)
  (xt6 : W.typeIn K (.ref C6) = some (.type "type"))
  (xk6 : W.keepIn K (.ref C6) = true)
  (xa6 : W.findIn K (.ref C6) "__getattribute__" = some (some (.builtin "BaseException.__getattribute__")))
  (xb6 : W.findIn K (.ref C6) "__getattr__" = some none)
  (xh6 : W.hasDictIn K C6 = true)
  (xl6 : W.findIn K (.ref C6) "__class__" = some (some (.builtin "object.__class__")))
  (xm6 : W.mroIn K C6 (.type "object") = some true)
  (xi6 : W.excIn K C6 [.type "ValueError", .type "Exception", .type "BaseException", .type "object"] "ValueError.__new__" = true)
  (ac5 : W.nsIn K mainGlobals "NoText" = some (some (.ref C5)))
  (xs5 : W.subIn K (.ref C5) (.type "BaseException") = some true)
  (xt5 : W.typeIn K (.ref C5) = some (.type "type"))
  (xk5 : W.keepIn K (.ref C5) = true)
  (xl5 : W.findIn K (.ref C5) "__class__" = some (some (.builtin "object.__class__")))
  (xm5 : W.mroIn K C5 (.type "object") = some true)
  (lx5 : K.lookup C5 = some (excClassObj xn5 xq5 C5 xN5 xbs5 xbm5 true xsn5 xsub5 xab5 xcol5 xdd5 xka5 xkb5 xkc5 xkd5 xke5 "ValueError.__new__"))
  (rv5 : PySem.HandSPX.refsVE xbm5 = true)
  (xa5 : W.findIn K (.ref C5) "__getattribute__" = some (some (.builtin "BaseException.__getattribute__")))
  (xb5 : W.findIn K (.ref C5) "__getattr__" = some none)
  (xh5 : W.hasDictIn K C5 = true)
  (sx5 : W.findIn K (.ref C5) "__setattr__" = some (some (.builtin "object.__setattr__")))
  (ix5 : W.findIn K (.ref C5) "__init__" = some (some (.ref f2)))
  (tx5 : W.typeIn K (.ref f2) = some (.type "function"))
  (nx5 : W.findIn K (.ref C5) "line" = some none)
  (ac4 : W.nsIn K mainGlobals "NoView" = some (some (.ref C4)))
  (xs4 : W.subIn K (.ref C4) (.type "BaseException") = some true)
  (xt4 : W.typeIn K (.ref C4) = some (.type "type"))
  (xk4 : W.keepIn K (.ref C4) = true)
  (xa4 : W.findIn K (.ref C4) "__getattribute__" = some (some (.builtin "BaseException.__getattribute__")))
  (xb4 : W.findIn K (.ref C4) "__getattr__" = some none)
  (xh4 : W.hasDictIn K C4 = true)
  (xl4 : W.findIn K (.ref C4) "__class__" = some (some (.builtin "object.__class__")))
  (xm4 : W.mroIn K C4 (.type "object") = some true)
  (xi4 : W.excIn K C4 [.type "ValueError", .type "Exception", .type "BaseException", .type "object"] "ValueError.__new__" = true)
  (ac8 : W.nsIn K mainGlobals "NoWay" = some (some (.ref C8)))
  (xs8 : W.subIn K (.ref C8) (.type "BaseException") = some true)
  (xt8 : W.typeIn K (.ref C8) = some (.type "type"))
  (xk8 : W.keepIn K (.ref C8) = true)
  (xl8 : W.findIn K (.ref C8) "__class__" = some (some (.builtin "object.__class__")))
  (xm8 : W.mroIn K C8 (.type "object") = some true)
  (lx8 : K.lookup C8 = some (excClassObj xn8 xq8 C8 xN8 xbs8 xbm8 true xsn8 xsub8 xab8 xcol8 xdd8 xka8 xkb8 xkc8 xkd8 xke8 "ValueError.__new__"))
  (rv8 : PySem.HandSPX.refsVE xbm8 = true)
  (xa8 : W.findIn K (.ref C8) "__getattribute__" = some (some (.builtin "BaseException.__getattribute__")))
  (xb8 : W.findIn K (.ref C8) "__getattr__" = some none)
  (xh8 : W.hasDictIn K C8 = true)
  (sx8 : W.findIn K (.ref C8) "__setattr__" = some (some (.builtin "object.__setattr__")))
  (ix8 : W.findIn K (.ref C8) "__init__" = some (some (.ref f4)))
  (tx8 : W.typeIn K (.ref f4) = some (.type "function"))
  (nx8 : W.findIn K (.ref C8) "name" = some none)
  (ac7 : W.nsIn K mainGlobals "Taken" = some (some (.ref C7)))
  (xs7 : W.subIn K (.ref C7) (.type "BaseException") = some true)
  (xt7 : W.typeIn K (.ref C7) = some (.type "type"))
  (xk7 : W.keepIn K (.ref C7) = true)
  (xl7 : W.findIn K (.ref C7) "__class__" = some (some (.builtin "object.__class__")))
  (xm7 : W.mroIn K C7 (.type "object") = some true)
  (lx7 : K.lookup C7 = some (excClassObj xn7 xq7 C7 xN7 xbs7 xbm7 true xsn7 xsub7 xab7 xcol7 xdd7 xka7 xkb7 xkc7 xkd7 xke7 "ValueError.__new__"))
  (rv7 : PySem.HandSPX.refsVE xbm7 = true)
  (xa7 : W.findIn K (.ref C7) "__getattribute__" = some (some (.builtin "BaseException.__getattribute__")))
  (xb7 : W.findIn K (.ref C7) "__getattr__" = some none)
  (xh7 : W.hasDictIn K C7 = true)
  (sx7 : W.findIn K (.ref C7) "__setattr__" = some (some (.builtin "object.__setattr__")))
  (ix7 : W.findIn K (.ref C7) "__init__" = some (some (.ref f3)))
  (tx7 : W.typeIn K (.ref f3) = some (.type "function"))
  (nx7 : W.findIn K (.ref C7) "name" = some none)
  (ac3 : W.nsIn K mainGlobals "TooMany" = some (some (.ref C3)))
  (xs3 : W.subIn K (.ref C3) (.type "BaseException") = some true)
  (xt3 : W.typeIn K (.ref C3) = some (.type "type"))
  (xk3 : W.keepIn K (.ref C3) = true)
  (xl3 : W.findIn K (.ref C3) "__class__" = some (some (.builtin "object.__class__")))
  (xm3 : W.mroIn K C3 (.type "object") = some true)
  (lx3 : K.lookup C3 = some (excClassObj xn3 xq3 C3 xN3 xbs3 xbm3 true xsn3 xsub3 xab3 xcol3 xdd3 xka3 xkb3 xkc3 xkd3 xke3 "ValueError.__new__"))
  (rv3 : PySem.HandSPX.refsVE xbm3 = true)
  (xa3 : W.findIn K (.ref C3) "__getattribute__" = some (some (.builtin "BaseException.__getattribute__")))
  (xb3 : W.findIn K (.ref C3) "__getattr__" = some none)
  (xh3 : W.hasDictIn K C3 = true)
  (sx3 : W.findIn K (.ref C3) "__setattr__" = some (some (.builtin "object.__setattr__")))
  (ix3 : W.findIn K (.ref C3) "__init__" = some (some (.ref f1)))
  (tx3 : W.typeIn K (.ref f1) = some (.type "function"))
  (nx3 : W.findIn K (.ref C3) "most" = some none)
  (ac12 : W.nsIn K mainGlobals "Unknown" = some (some (.ref C12)))
  (xs12 : W.subIn K (.ref C12) (.type "BaseException") = some true)
  (xt12 : W.typeIn K (.ref C12) = some (.type "type"))
  (xk12 : W.keepIn K (.ref C12) = true)
  (xl12 : W.findIn K (.ref C12) "__class__" = some (some (.builtin "object.__class__")))
  (xm12 : W.mroIn K C12 (.type "object") = some true)
  (lx12 : K.lookup C12 = some (excClassObj xn12 xq12 C12 xN12 xbs12 xbm12 true xsn12 xsub12 xab12 xcol12 xdd12 xka12 xkb12 xkc12 xkd12 xke12 "LookupError.__new__"))
  (rv12 : xbm12 = keTail)
  (xa12 : W.findIn K (.ref C12) "__getattribute__" = some (some (.builtin "BaseException.__getattribute__")))
  (xb12 : W.findIn K (.ref C12) "__getattr__" = some none)
  (xh12 : W.hasDictIn K C12 = true)
  (sx12 : W.findIn K (.ref C12) "__setattr__" = some (some (.builtin "object.__setattr__")))
  (ix12 : W.findIn K (.ref C12) "__init__" = some (some (.ref f7)))
  (tx12 : W.typeIn K (.ref f7) = some (.type "function"))
  (nx12 : W.findIn K (.ref C12) "name" = some none)
  (xe10_Changed : W.kitOne K (.ref C10) (.ref C10) = some true)
  (xe10_Faulted : W.kitOne K (.ref C10) (.ref C11) = some false)
  (xe10_Held : W.kitOne K (.ref C10) (.ref C9) = some false)
  (xe10_KeyError : W.kitOne K (.ref C10) (.type "KeyError") = some false)
  (xe10_LookupError : W.kitOne K (.ref C10) (.type "LookupError") = some false)
  (xe10_MakeError : W.kitOne K (.ref C10) (.ref C0) = some false)
  (xe10_NoDeed : W.kitOne K (.ref C10) (.ref C1) = some false)
  (xe10_NoPlace : W.kitOne K (.ref C10) (.ref C2) = some false)
  (xe10_NoRow : W.kitOne K (.ref C10) (.ref C6) = some false)
  (xe10_NoText : W.kitOne K (.ref C10) (.ref C5) = some false)
  (xe10_NoView : W.kitOne K (.ref C10) (.ref C4) = some false)
  (xe10_NoWay : W.kitOne K (.ref C10) (.ref C8) = some false)
  (xe10_RuntimeError : W.kitOne K (.ref C10) (.type "RuntimeError") = some true)
  (xe10_Taken : W.kitOne K (.ref C10) (.ref C7) = some false)
  (xe10_TooMany : W.kitOne K (.ref C10) (.ref C3) = some false)
  (xe10_Unknown : W.kitOne K (.ref C10) (.ref C12) = some false)
  (xe10_ValueError : W.kitOne K (.ref C10) (.type "ValueError") = some false)
  (xe11_Changed : W.kitOne K (.ref C11) (.ref C10) = some false)
  (xe11_Faulted : W.kitOne K (.ref C11) (.ref C11) = some true)
  (xe11_Held : W.kitOne K (.ref C11) (.ref C9) = some false)
  (xe11_KeyError : W.kitOne K (.ref C11) (.type "KeyError") = some false)
  (xe11_LookupError : W.kitOne K (.ref C11) (.type "LookupError") = some false)
  (xe11_MakeError : W.kitOne K (.ref C11) (.ref C0) = some false)
  (xe11_NoDeed : W.kitOne K (.ref C11) (.ref C1) = some false)
  (xe11_NoPlace : W.kitOne K (.ref C11) (.ref C2) = some false)
  (xe11_NoRow : W.kitOne K (.ref C11) (.ref C6) = some false)
  (xe11_NoText : W.kitOne K (.ref C11) (.ref C5) = some false)
  (xe11_NoView : W.kitOne K (.ref C11) (.ref C4) = some false)
  (xe11_NoWay : W.kitOne K (.ref C11) (.ref C8) = some false)
  (xe11_RuntimeError : W.kitOne K (.ref C11) (.type "RuntimeError") = some true)
  (xe11_Taken : W.kitOne K (.ref C11) (.ref C7) = some false)
  (xe11_TooMany : W.kitOne K (.ref C11) (.ref C3) = some false)
  (xe11_Unknown : W.kitOne K (.ref C11) (.ref C12) = some false)
  (xe11_ValueError : W.kitOne K (.ref C11) (.type "ValueError") = some false)
  (xe9_Changed : W.kitOne K (.ref C9) (.ref C10) = some false)
  (xe9_Faulted : W.kitOne K (.ref C9) (.ref C11) = some false)
  (xe9_Held : W.kitOne K (.ref C9) (.ref C9) = some true)
  (xe9_KeyError : W.kitOne K (.ref C9) (.type "KeyError") = some false)
  (xe9_LookupError : W.kitOne K (.ref C9) (.type "LookupError") = some false)
  (xe9_MakeError : W.kitOne K (.ref C9) (.ref C0) = some true)
  (xe9_NoDeed : W.kitOne K (.ref C9) (.ref C1) = some false)
  (xe9_NoPlace : W.kitOne K (.ref C9) (.ref C2) = some false)
  (xe9_NoRow : W.kitOne K (.ref C9) (.ref C6) = some false)
  (xe9_NoText : W.kitOne K (.ref C9) (.ref C5) = some false)
  (xe9_NoView : W.kitOne K (.ref C9) (.ref C4) = some false)
  (xe9_NoWay : W.kitOne K (.ref C9) (.ref C8) = some false)
  (xe9_RuntimeError : W.kitOne K (.ref C9) (.type "RuntimeError") = some false)
  (xe9_Taken : W.kitOne K (.ref C9) (.ref C7) = some false)
  (xe9_TooMany : W.kitOne K (.ref C9) (.ref C3) = some false)
  (xe9_Unknown : W.kitOne K (.ref C9) (.ref C12) = some false)
  (xe9_ValueError : W.kitOne K (.ref C9) (.type "ValueError") = some true)
  (xe0_Changed : W.kitOne K (.ref C0) (.ref C10) = some false)
  (xe0_Faulted : W.kitOne K (.ref C0) (.ref C11) = some false)
  (xe0_Held : W.kitOne K (.ref C0) (.ref C9) = some false)
  (xe0_KeyError : W.kitOne K (.ref C0) (.type "KeyError") = some false)
  (xe0_LookupError : W.kitOne K (.ref C0) (.type "LookupError") = some false)
  (xe0_MakeError : W.kitOne K (.ref C0) (.ref C0) = some true)
  (xe0_NoDeed : W.kitOne K (.ref C0) (.ref C1) = some false)
  (xe0_NoPlace : W.kitOne K (.ref C0) (.ref C2) = some false)
  (xe0_NoRow : W.kitOne K (.ref C0) (.ref C6) = some false)
  (xe0_NoText : W.kitOne K (.ref C0) (.ref C5) = some false)
  (xe0_NoView : W.kitOne K (.ref C0) (.ref C4) = some false)
  (xe0_NoWay : W.kitOne K (.ref C0) (.ref C8) = some false)
  (xe0_RuntimeError : W.kitOne K (.ref C0) (.type "RuntimeError") = some false)
  (xe0_Taken : W.kitOne K (.ref C0) (.ref C7) = some false)
  (xe0_TooMany : W.kitOne K (.ref C0) (.ref C3) = some false)
  (xe0_Unknown : W.kitOne K (.ref C0) (.ref C12) = some false)
  (xe0_ValueError : W.kitOne K (.ref C0) (.type "ValueError") = some true)
  (xe1_Changed : W.kitOne K (.ref C1) (.ref C10) = some false)
  (xe1_Faulted : W.kitOne K (.ref C1) (.ref C11) = some false)
  (xe1_Held : W.kitOne K (.ref C1) (.ref C9) = some false)
  (xe1_KeyError : W.kitOne K (.ref C1) (.type "KeyError") = some false)
  (xe1_LookupError : W.kitOne K (.ref C1) (.type "LookupError") = some false)
  (xe1_MakeError : W.kitOne K (.ref C1) (.ref C0) = some true)
  (xe1_NoDeed : W.kitOne K (.ref C1) (.ref C1) = some true)
  (xe1_NoPlace : W.kitOne K (.ref C1) (.ref C2) = some false)
  (xe1_NoRow : W.kitOne K (.ref C1) (.ref C6) = some false)
  (xe1_NoText : W.kitOne K (.ref C1) (.ref C5) = some false)
  (xe1_NoView : W.kitOne K (.ref C1) (.ref C4) = some false)
  (xe1_NoWay : W.kitOne K (.ref C1) (.ref C8) = some false)
  (xe1_RuntimeError : W.kitOne K (.ref C1) (.type "RuntimeError") = some false)
  (xe1_Taken : W.kitOne K (.ref C1) (.ref C7) = some false)
  (xe1_TooMany : W.kitOne K (.ref C1) (.ref C3) = some false)
  (xe1_Unknown : W.kitOne K (.ref C1) (.ref C12) = some false)
  (xe1_ValueError : W.kitOne K (.ref C1) (.type "ValueError") = some true)
  (xe2_Changed : W.kitOne K (.ref C2) (.ref C10) = some false)
  (xe2_Faulted : W.kitOne K (.ref C2) (.ref C11) = some false)
  (xe2_Held : W.kitOne K (.ref C2) (.ref C9) = some false)
  (xe2_KeyError : W.kitOne K (.ref C2) (.type "KeyError") = some false)
  (xe2_LookupError : W.kitOne K (.ref C2) (.type "LookupError") = some false)
  (xe2_MakeError : W.kitOne K (.ref C2) (.ref C0) = some true)
  (xe2_NoDeed : W.kitOne K (.ref C2) (.ref C1) = some false)
  (xe2_NoPlace : W.kitOne K (.ref C2) (.ref C2) = some true)
  (xe2_NoRow : W.kitOne K (.ref C2) (.ref C6) = some false)
  (xe2_NoText : W.kitOne K (.ref C2) (.ref C5) = some false)
  (xe2_NoView : W.kitOne K (.ref C2) (.ref C4) = some false)
  (xe2_NoWay : W.kitOne K (.ref C2) (.ref C8) = some false)
  (xe2_RuntimeError : W.kitOne K (.ref C2) (.type "RuntimeError") = some false)
  (xe2_Taken : W.kitOne K (.ref C2) (.ref C7) = some false)
  (xe2_TooMany : W.kitOne K (.ref C2) (.ref C3) = some false)
  (xe2_Unknown : W.kitOne K (.ref C2) (.ref C12) = some false)
  (xe2_ValueError : W.kitOne K (.ref C2) (.type "ValueError") = some true)
  (xe6_Changed : W.kitOne K (.ref C6) (.ref C10) = some false)
  (xe6_Faulted : W.kitOne K (.ref C6) (.ref C11) = some false)
  (xe6_Held : W.kitOne K (.ref C6) (.ref C9) = some false)
  (xe6_KeyError : W.kitOne K (.ref C6) (.type "KeyError") = some false)
  (xe6_LookupError : W.kitOne K (.ref C6) (.type "LookupError") = some false)
  (xe6_MakeError : W.kitOne K (.ref C6) (.ref C0) = some true)
  (xe6_NoDeed : W.kitOne K (.ref C6) (.ref C1) = some false)
  (xe6_NoPlace : W.kitOne K (.ref C6) (.ref C2) = some false)
  (xe6_NoRow : W.kitOne K (.ref C6) (.ref C6) = some true)
  (xe6_NoText : W.kitOne K (.ref C6) (.ref C5) = some false)
  (xe6_NoView : W.kitOne K (.ref C6) (.ref C4) = some false)
  (xe6_NoWay : W.kitOne K (.ref C6) (.ref C8) = some false)
  (xe6_RuntimeError : W.kitOne K (.ref C6) (.type "RuntimeError") = some false)
  (xe6_Taken : W.kitOne K (.ref C6) (.ref C7) = some false)
  (xe6_TooMany : W.kitOne K (.ref C6) (.ref C3) = some false)
  (xe6_Unknown : W.kitOne K (.ref C6) (.ref C12) = some false)
  (xe6_ValueError : W.kitOne K (.ref C6) (.type "ValueError") = some true)
  (xe5_Changed : W.kitOne K (.ref C5) (.ref C10) = some false)
  (xe5_Faulted : W.kitOne K (.ref C5) (.ref C11) = some false)
  (xe5_Held : W.kitOne K (.ref C5) (.ref C9) = some false)
  (xe5_KeyError : W.kitOne K (.ref C5) (.type "KeyError") = some false)
  (xe5_LookupError : W.kitOne K (.ref C5) (.type "LookupError") = some false)
  (xe5_MakeError : W.kitOne K (.ref C5) (.ref C0) = some true)
  (xe5_NoDeed : W.kitOne K (.ref C5) (.ref C1) = some false)
  (xe5_NoPlace : W.kitOne K (.ref C5) (.ref C2) = some false)
  (xe5_NoRow : W.kitOne K (.ref C5) (.ref C6) = some false)
  (xe5_NoText : W.kitOne K (.ref C5) (.ref C5) = some true)
  (xe5_NoView : W.kitOne K (.ref C5) (.ref C4) = some false)
  (xe5_NoWay : W.kitOne K (.ref C5) (.ref C8) = some false)
  (xe5_RuntimeError : W.kitOne K (.ref C5) (.type "RuntimeError") = some false)
  (xe5_Taken : W.kitOne K (.ref C5) (.ref C7) = some false)
  (xe5_TooMany : W.kitOne K (.ref C5) (.ref C3) = some false)
  (xe5_Unknown : W.kitOne K (.ref C5) (.ref C12) = some false)
  (xe5_ValueError : W.kitOne K (.ref C5) (.type "ValueError") = some true)
  (xe4_Changed : W.kitOne K (.ref C4) (.ref C10) = some false)
  (xe4_Faulted : W.kitOne K (.ref C4) (.ref C11) = some false)
  (xe4_Held : W.kitOne K (.ref C4) (.ref C9) = some false)
  (xe4_KeyError : W.kitOne K (.ref C4) (.type "KeyError") = some false)
  (xe4_LookupError : W.kitOne K (.ref C4) (.type "LookupError") = some false)
  (xe4_MakeError : W.kitOne K (.ref C4) (.ref C0) = some true)
  (xe4_NoDeed : W.kitOne K (.ref C4) (.ref C1) = some false)
  (xe4_NoPlace : W.kitOne K (.ref C4) (.ref C2) = some false)
  (xe4_NoRow : W.kitOne K (.ref C4) (.ref C6) = some false)
  (xe4_NoText : W.kitOne K (.ref C4) (.ref C5) = some false)
  (xe4_NoView : W.kitOne K (.ref C4) (.ref C4) = some true)
  (xe4_NoWay : W.kitOne K (.ref C4) (.ref C8) = some false)
  (xe4_RuntimeError : W.kitOne K (.ref C4) (.type "RuntimeError") = some false)
  (xe4_Taken : W.kitOne K (.ref C4) (.ref C7) = some false)
  (xe4_TooMany : W.kitOne K (.ref C4) (.ref C3) = some false)
  (xe4_Unknown : W.kitOne K (.ref C4) (.ref C12) = some false)
  (xe4_ValueError : W.kitOne K (.ref C4) (.type "ValueError") = some true)
  (xe8_Changed : W.kitOne K (.ref C8) (.ref C10) = some false)
  (xe8_Faulted : W.kitOne K (.ref C8) (.ref C11) = some false)
  (xe8_Held : W.kitOne K (.ref C8) (.ref C9) = some false)
  (xe8_KeyError : W.kitOne K (.ref C8) (.type "KeyError") = some false)
  (xe8_LookupError : W.kitOne K (.ref C8) (.type "LookupError") = some false)
  (xe8_MakeError : W.kitOne K (.ref C8) (.ref C0) = some true)
  (xe8_NoDeed : W.kitOne K (.ref C8) (.ref C1) = some false)
  (xe8_NoPlace : W.kitOne K (.ref C8) (.ref C2) = some false)
  (xe8_NoRow : W.kitOne K (.ref C8) (.ref C6) = some false)
  (xe8_NoText : W.kitOne K (.ref C8) (.ref C5) = some false)
  (xe8_NoView : W.kitOne K (.ref C8) (.ref C4) = some false)
  (xe8_NoWay : W.kitOne K (.ref C8) (.ref C8) = some true)
  (xe8_RuntimeError : W.kitOne K (.ref C8) (.type "RuntimeError") = some false)
  (xe8_Taken : W.kitOne K (.ref C8) (.ref C7) = some false)
  (xe8_TooMany : W.kitOne K (.ref C8) (.ref C3) = some false)
  (xe8_Unknown : W.kitOne K (.ref C8) (.ref C12) = some false)
  (xe8_ValueError : W.kitOne K (.ref C8) (.type "ValueError") = some true)
  (xe7_Changed : W.kitOne K (.ref C7) (.ref C10) = some false)
  (xe7_Faulted : W.kitOne K (.ref C7) (.ref C11) = some false)
  (xe7_Held : W.kitOne K (.ref C7) (.ref C9) = some false)
  (xe7_KeyError : W.kitOne K (.ref C7) (.type "KeyError") = some false)
  (xe7_LookupError : W.kitOne K (.ref C7) (.type "LookupError") = some false)
  (xe7_MakeError : W.kitOne K (.ref C7) (.ref C0) = some true)
  (xe7_NoDeed : W.kitOne K (.ref C7) (.ref C1) = some false)
  (xe7_NoPlace : W.kitOne K (.ref C7) (.ref C2) = some false)
  (xe7_NoRow : W.kitOne K (.ref C7) (.ref C6) = some false)
  (xe7_NoText : W.kitOne K (.ref C7) (.ref C5) = some false)
  (xe7_NoView : W.kitOne K (.ref C7) (.ref C4) = some false)
  (xe7_NoWay : W.kitOne K (.ref C7) (.ref C8) = some false)
  (xe7_RuntimeError : W.kitOne K (.ref C7) (.type "RuntimeError") = some false)
  (xe7_Taken : W.kitOne K (.ref C7) (.ref C7) = some true)
  (xe7_TooMany : W.kitOne K (.ref C7) (.ref C3) = some false)
  (xe7_Unknown : W.kitOne K (.ref C7) (.ref C12) = some false)
  (xe7_ValueError : W.kitOne K (.ref C7) (.type "ValueError") = some true)
  (xe3_Changed : W.kitOne K (.ref C3) (.ref C10) = some false)
  (xe3_Faulted : W.kitOne K (.ref C3) (.ref C11) = some false)
  (xe3_Held : W.kitOne K (.ref C3) (.ref C9) = some false)
  (xe3_KeyError : W.kitOne K (.ref C3) (.type "KeyError") = some false)
  (xe3_LookupError : W.kitOne K (.ref C3) (.type "LookupError") = some false)
  (xe3_MakeError : W.kitOne K (.ref C3) (.ref C0) = some true)
  (xe3_NoDeed : W.kitOne K (.ref C3) (.ref C1) = some false)
  (xe3_NoPlace : W.kitOne K (.ref C3) (.ref C2) = some false)
  (xe3_NoRow : W.kitOne K (.ref C3) (.ref C6) = some false)
  (xe3_NoText : W.kitOne K (.ref C3) (.ref C5) = some false)
  (xe3_NoView : W.kitOne K (.ref C3) (.ref C4) = some false)
  (xe3_NoWay : W.kitOne K (.ref C3) (.ref C8) = some false)
  (xe3_RuntimeError : W.kitOne K (.ref C3) (.type "RuntimeError") = some false)
  (xe3_Taken : W.kitOne K (.ref C3) (.ref C7) = some false)
  (xe3_TooMany : W.kitOne K (.ref C3) (.ref C3) = some true)
  (xe3_Unknown : W.kitOne K (.ref C3) (.ref C12) = some false)
  (xe3_ValueError : W.kitOne K (.ref C3) (.type "ValueError") = some true)
  (xe12_Changed : W.kitOne K (.ref C12) (.ref C10) = some false)
  (xe12_Faulted : W.kitOne K (.ref C12) (.ref C11) = some false)
  (xe12_Held : W.kitOne K (.ref C12) (.ref C9) = some false)
  (xe12_KeyError : W.kitOne K (.ref C12) (.type "KeyError") = some true)
  (xe12_LookupError : W.kitOne K (.ref C12) (.type "LookupError") = some true)
  (xe12_MakeError : W.kitOne K (.ref C12) (.ref C0) = some false)
  (xe12_NoDeed : W.kitOne K (.ref C12) (.ref C1) = some false)
  (xe12_NoPlace : W.kitOne K (.ref C12) (.ref C2) = some false)
  (xe12_NoRow : W.kitOne K (.ref C12) (.ref C6) = some false)
  (xe12_NoText : W.kitOne K (.ref C12) (.ref C5) = some false)
  (xe12_NoView : W.kitOne K (.ref C12) (.ref C4) = some false)
  (xe12_NoWay : W.kitOne K (.ref C12) (.ref C8) = some false)
  (xe12_RuntimeError : W.kitOne K (.ref C12) (.type "RuntimeError") = some false)
  (xe12_Taken : W.kitOne K (.ref C12) (.ref C7) = some false)
  (xe12_TooMany : W.kitOne K (.ref C12) (.ref C3) = some false)
  (xe12_Unknown : W.kitOne K (.ref C12) (.ref C12) = some true)
  (xe12_ValueError : W.kitOne K (.ref C12) (.type "ValueError") = some false)
  (su10_11 : W.subIn K (.ref C10) (.ref C11) = some false)
  (su11_11 : W.subIn K (.ref C11) (.ref C11) = some true)
  (su9_11 : W.subIn K (.ref C9) (.ref C11) = some false)
  (su0_11 : W.subIn K (.ref C0) (.ref C11) = some false)
  (su1_11 : W.subIn K (.ref C1) (.ref C11) = some false)
  (su2_11 : W.subIn K (.ref C2) (.ref C11) = some false)
  (su6_11 : W.subIn K (.ref C6) (.ref C11) = some false)
  (su5_11 : W.subIn K (.ref C5) (.ref C11) = some false)
  (su4_11 : W.subIn K (.ref C4) (.ref C11) = some false)
  (su8_11 : W.subIn K (.ref C8) (.ref C11) = some false)
  (su7_11 : W.subIn K (.ref C7) (.ref C11) = some false)
  (su3_11 : W.subIn K (.ref C3) (.ref C11) = some false)
  (su12_11 : W.subIn K (.ref C12) (.ref C11) = some false)
  (xc11 : W.clsIn K C11 = some xv11)
  (su10_9 : W.subIn K (.ref C10) (.ref C9) = some false)
  (su11_9 : W.subIn K (.ref C11) (.ref C9) = some false)
  (su9_9 : W.subIn K (.ref C9) (.ref C9) = some true)
  (su0_9 : W.subIn K (.ref C0) (.ref C9) = some false)
  (su1_9 : W.subIn K (.ref C1) (.ref C9) = some false)
  (su2_9 : W.subIn K (.ref C2) (.ref C9) = some false)
  (su6_9 : W.subIn K (.ref C6) (.ref C9) = some false)
  (su5_9 : W.subIn K (.ref C5) (.ref C9) = some false)
  (su4_9 : W.subIn K (.ref C4) (.ref C9) = some false)
  (su8_9 : W.subIn K (.ref C8) (.ref C9) = some false)
  (su7_9 : W.subIn K (.ref C7) (.ref C9) = some false)
  (su3_9 : W.subIn K (.ref C3) (.ref C9) = some false)
  (su12_9 : W.subIn K (.ref C12) (.ref C9) = some false)
  (xc9 : W.clsIn K C9 = some xv9)
  (su10_2 : W.subIn K (.ref C10) (.ref C2) = some false)
  (su11_2 : W.subIn K (.ref C11) (.ref C2) = some false)
  (su9_2 : W.subIn K (.ref C9) (.ref C2) = some false)
  (su0_2 : W.subIn K (.ref C0) (.ref C2) = some false)
  (su1_2 : W.subIn K (.ref C1) (.ref C2) = some false)
  (su2_2 : W.subIn K (.ref C2) (.ref C2) = some true)
  (su6_2 : W.subIn K (.ref C6) (.ref C2) = some false)
  (su5_2 : W.subIn K (.ref C5) (.ref C2) = some false)
  (su4_2 : W.subIn K (.ref C4) (.ref C2) = some false)
  (su8_2 : W.subIn K (.ref C8) (.ref C2) = some false)
  (su7_2 : W.subIn K (.ref C7) (.ref C2) = some false)
  (su3_2 : W.subIn K (.ref C3) (.ref C2) = some false)
  (su12_2 : W.subIn K (.ref C12) (.ref C2) = some false)
  (xc2 : W.clsIn K C2 = some xv2)
  (su10_5 : W.subIn K (.ref C10) (.ref C5) = some false)
  (su11_5 : W.subIn K (.ref C11) (.ref C5) = some false)
  (su9_5 : W.subIn K (.ref C9) (.ref C5) = some false)
  (su0_5 : W.subIn K (.ref C0) (.ref C5) = some false)
  (su1_5 : W.subIn K (.ref C1) (.ref C5) = some false)
  (su2_5 : W.subIn K (.ref C2) (.ref C5) = some false)
  (su6_5 : W.subIn K (.ref C6) (.ref C5) = some false)
  (su5_5 : W.subIn K (.ref C5) (.ref C5) = some true)
  (su4_5 : W.subIn K (.ref C4) (.ref C5) = some false)
  (su8_5 : W.subIn K (.ref C8) (.ref C5) = some false)
  (su7_5 : W.subIn K (.ref C7) (.ref C5) = some false)
  (su3_5 : W.subIn K (.ref C3) (.ref C5) = some false)
  (su12_5 : W.subIn K (.ref C12) (.ref C5) = some false)
  (xc5 : W.clsIn K C5 = some xv5)
  (su10_8 : W.subIn K (.ref C10) (.ref C8) = some false)
  (su11_8 : W.subIn K (.ref C11) (.ref C8) = some false)
  (su9_8 : W.subIn K (.ref C9) (.ref C8) = some false)
  (su0_8 : W.subIn K (.ref C0) (.ref C8) = some false)
  (su1_8 : W.subIn K (.ref C1) (.ref C8) = some false)
  (su2_8 : W.subIn K (.ref C2) (.ref C8) = some false)
  (su6_8 : W.subIn K (.ref C6) (.ref C8) = some false)
  (su5_8 : W.subIn K (.ref C5) (.ref C8) = some false)
  (su4_8 : W.subIn K (.ref C4) (.ref C8) = some false)
  (su8_8 : W.subIn K (.ref C8) (.ref C8) = some true)
  (su7_8 : W.subIn K (.ref C7) (.ref C8) = some false)
  (su3_8 : W.subIn K (.ref C3) (.ref C8) = some false)
  (su12_8 : W.subIn K (.ref C12) (.ref C8) = some false)
  (xc8 : W.clsIn K C8 = some xv8)
  (su10_7 : W.subIn K (.ref C10) (.ref C7) = some false)
  (su11_7 : W.subIn K (.ref C11) (.ref C7) = some false)
  (su9_7 : W.subIn K (.ref C9) (.ref C7) = some false)
  (su0_7 : W.subIn K (.ref C0) (.ref C7) = some false)
  (su1_7 : W.subIn K (.ref C1) (.ref C7) = some false)
  (su2_7 : W.subIn K (.ref C2) (.ref C7) = some false)
  (su6_7 : W.subIn K (.ref C6) (.ref C7) = some false)
  (su5_7 : W.subIn K (.ref C5) (.ref C7) = some false)
  (su4_7 : W.subIn K (.ref C4) (.ref C7) = some false)
  (su8_7 : W.subIn K (.ref C8) (.ref C7) = some false)
  (su7_7 : W.subIn K (.ref C7) (.ref C7) = some true)
  (su3_7 : W.subIn K (.ref C3) (.ref C7) = some false)
  (su12_7 : W.subIn K (.ref C12) (.ref C7) = some false)
  (xc7 : W.clsIn K C7 = some xv7)
  (su10_3 : W.subIn K (.ref C10) (.ref C3) = some false)
  (su11_3 : W.subIn K (.ref C11) (.ref C3) = some false)
  (su9_3 : W.subIn K (.ref C9) (.ref C3) = some false)
  (su0_3 : W.subIn K (.ref C0) (.ref C3) = some false)
  (su1_3 : W.subIn K (.ref C1) (.ref C3) = some false)
  (su2_3 : W.subIn K (.ref C2) (.ref C3) = some false)
  (su6_3 : W.subIn K (.ref C6) (.ref C3) = some false)
  (su5_3 : W.subIn K (.ref C5) (.ref C3) = some false)
  (su4_3 : W.subIn K (.ref C4) (.ref C3) = some false)
  (su8_3 : W.subIn K (.ref C8) (.ref C3) = some false)
  (su7_3 : W.subIn K (.ref C7) (.ref C3) = some false)
  (su3_3 : W.subIn K (.ref C3) (.ref C3) = some true)
  (su12_3 : W.subIn K (.ref C12) (.ref C3) = some false)
  (xc3 : W.clsIn K C3 = some xv3)
  (su10_12 : W.subIn K (.ref C10) (.ref C12) = some false)
  (su11_12 : W.subIn K (.ref C11) (.ref C12) = some false)
  (su9_12 : W.subIn K (.ref C9) (.ref C12) = some false)
  (su0_12 : W.subIn K (.ref C0) (.ref C12) = some false)
  (su1_12 : W.subIn K (.ref C1) (.ref C12) = some false)
  (su2_12 : W.subIn K (.ref C2) (.ref C12) = some false)
  (su6_12 : W.subIn K (.ref C6) (.ref C12) = some false)
  (su5_12 : W.subIn K (.ref C5) (.ref C12) = some false)
  (su4_12 : W.subIn K (.ref C4) (.ref C12) = some false)
  (su8_12 : W.subIn K (.ref C8) (.ref C12) = some false)
  (su7_12 : W.subIn K (.ref C7) (.ref C12) = some false)
  (su3_12 : W.subIn K (.ref C3) (.ref C12) = some false)
  (su12_12 : W.subIn K (.ref C12) (.ref C12) = some true)
  (xc12 : W.clsIn K C12 = some xv12)
  (l0 : LkF K f0 oc0 od0 "__init__" "NoPlace.__init__" Zi kV0 dc0 pm0 an0 cd0 ct0 sl0)
  (c0 : W.codeIn K cd0 "NoPlace.__init__" = true)
  (k0 : W.keepIn K (.ref f0) = true)
  (i0 : W.isFn K (.ref f0) = true)
  (l1 : LkF K f1 oc1 od1 "__init__" "TooMany.__init__" Zn kV1 dc1 pm1 an1 cd1 ct1 sl1)
  (c1 : W.codeIn K cd1 "TooMany.__init__" = true)
  (k1 : W.keepIn K (.ref f1) = true)
  (i1 : W.isFn K (.ref f1) = true)
  (l2 : LkF K f2 oc2 od2 "__init__" "NoText.__init__" Zp kV2 dc2 pm2 an2 cd2 ct2 sl2)
  (c2 : W.codeIn K cd2 "NoText.__init__" = true)
  (k2 : W.keepIn K (.ref f2) = true)
  (i2 : W.isFn K (.ref f2) = true)
  (l3 : LkF K f3 oc3 od3 "__init__" "Taken.__init__" Zr kV3 dc3 pm3 an3 cd3 ct3 sl3)
  (c3 : W.codeIn K cd3 "Taken.__init__" = true)
  (k3 : W.keepIn K (.ref f3) = true)
  (i3 : W.isFn K (.ref f3) = true)
  (l4 : LkF K f4 oc4 od4 "__init__" "NoWay.__init__" Zq kV4 dc4 pm4 an4 cd4 ct4 sl4)
  (c4 : W.codeIn K cd4 "NoWay.__init__" = true)
  (k4 : W.keepIn K (.ref f4) = true)
  (i4 : W.isFn K (.ref f4) = true)
  (l5 : LkF K f5 oc5 od5 "__init__" "Held.__init__" Zt kV5 dc5 pm5 an5 cd5 ct5 sl5)
  (c5 : W.codeIn K cd5 "Held.__init__" = true)
  (k5 : W.keepIn K (.ref f5) = true)
  (i5 : W.isFn K (.ref f5) = true)
  (l6 : LkF K f6 oc6 od6 "__init__" "Faulted.__init__" Zm kV6 dc6 pm6 an6 cd6 ct6 sl6)
  (c6 : W.codeIn K cd6 "Faulted.__init__" = true)
  (k6 : W.keepIn K (.ref f6) = true)
  (i6 : W.isFn K (.ref f6) = true)
  (l7 : LkF K f7 oc7 od7 "__init__" "Unknown.__init__" Zl kV7 dc7 pm7 an7 cd7 ct7 sl7)
  (c7 : W.codeIn K cd7 "Unknown.__init__" = true)
  (k7 : W.keepIn K (.ref f7) = true)
  (i7 : W.isFn K (.ref f7) = true)
  (l8 : LkF K f8 oc8 od8 "_law_value" "_law_value" ZK kV8 dc8 pm8 an8 cd8 ct8 sl8)
  (c8 : W.codeIn K cd8 "_law_value" = true)
  (k8 : W.keepIn K (.ref f8) = true)
  (l9 : LkF K f9 oc9 od9 "_law_ones" "_law_ones" ZV kV9 dc9 pm9 an9 cd9 ct9 sl9)
  (c9 : W.codeIn K cd9 "_law_ones" = true)
  (k9 : W.keepIn K (.ref f9) = true)
  (l10 : LkF K f10 oc10 od10 "_law_kinds" "_law_kinds" ZJ kV10 dc10 pm10 an10 cd10 ct10 sl10)
  (c10 : W.codeIn K cd10 "_law_kinds" = true)
  (k10 : W.keepIn K (.ref f10) = true)
  (l11 : LkF K f11 oc11 od11 "_law_fields" "_law_fields" ZG kV11 dc11 pm11 an11 cd11 ct11 sl11)
  (c11 : W.codeIn K cd11 "_law_fields" = true)
  (k11 : W.keepIn K (.ref f11) = true)
  (l12 : LkF K f12 oc12 od12 "law" "law" ZhK kV12 dc12 pm12 an12 cd12 ct12 sl12)
  (c12 : W.codeIn K cd12 "law" = true)
  (k12 : W.keepIn K (.ref f12) = true)
  (Zbf : W.nsIn K mainGlobals "KeyError" = some none)
  (Zaa : W.nsIn K mainGlobals "LookupError" = some none)
  (Z4 : W.nsIn K mainGlobals "RuntimeError" = some none)
  (Z8 : W.nsIn K mainGlobals "ValueError" = some none)
  (ZjX : W.nsIn K mainGlobals "any" = some none)
  (ZaJ : W.nsIn K mainGlobals "enumerate" = some none)
  (Zj : W.nsIn K mainGlobals "isinstance" = some none)
  (Zj1 : W.nsIn K mainGlobals "len" = some none)
  (Zgq : W.nsIn K mainGlobals "range" = some none)
  : ∃ (fi : Nat -> FI) (ci : Nat -> Addr) (ti : Nat -> TI), mg "law" = some (.ref (fi 12).a) /\ ((∀ p ∈ ([] : List (Addr × Addr)), W.codeHdIn K p.1 p.2 = true /\ K.lookup p.2 = none /\ mainGlobals ≠ p.2 /\ p.2 ∈ tsL) /\ (([] : List (Addr × Addr)).map (·.2)).Nodup) /\ ∀ (P : Program) (base : Heap), (∃ o, base.get? sysModules = some o) -> (∀ p ∈ ([] : List (Addr × Addr)), LamX.TabB base mg p.1 p.2) -> Txt ⟨P, w, K, mg, base, faF fi, caF ci, nkF, nfrF, tbF ti, fun _ => none⟩ fi ci ti := by
 have F0 := fun_mk (st := Zi) l0 c0 k0
 have b0 := F0.binds (ps := ["self", "place"]) fun _ _ _ _ _ _ us hl => match us, hl with | [_, _], _ => rfl
 have F1 := fun_mk (st := Zn) l1 c1 k1
 have b1 := F1.binds (ps := ["self", "most"]) fun _ _ _ _ _ _ us hl => match us, hl with | [_, _], _ => rfl
 have F2 := fun_mk (st := Zp) l2 c2 k2
 have b2 := F2.binds (ps := ["self", "line"]) fun _ _ _ _ _ _ us hl => match us, hl with | [_, _], _ => rfl
 have F3 := fun_mk (st := Zr) l3 c3 k3
 have b3 := F3.binds (ps := ["self", "name"]) fun _ _ _ _ _ _ us hl => match us, hl with | [_, _], _ => rfl
 have F4 := fun_mk (st := Zq) l4 c4 k4
 have b4 := F4.binds (ps := ["self", "name"]) fun _ _ _ _ _ _ us hl => match us, hl with | [_, _], _ => rfl
 have F5 := fun_mk (st := Zt) l5 c5 k5
 have b5 := F5.binds (ps := ["self", "name"]) fun _ _ _ _ _ _ us hl => match us, hl with | [_, _], _ => rfl
 have F6 := fun_mk (st := Zm) l6 c6 k6
 have b6 := F6.binds (ps := ["self", "asks"]) fun _ _ _ _ _ _ us hl => match us, hl with | [_, _], _ => rfl
 have F7 := fun_mk (st := Zl) l7 c7 k7
 have b7 := F7.binds (ps := ["self", "name"]) fun _ _ _ _ _ _ us hl => match us, hl with | [_, _], _ => rfl
 have F8 := fun_mk (st := ZK) l8 c8 k8
 have b8 := F8.binds (ps := ["_law_script", "_law_k"]) fun _ _ _ _ _ _ us hl => match us, hl with | [_, _], _ => rfl
 have F9 := fun_mk (st := ZV) l9 c9 k9
 have b9 := F9.binds (ps := ["_law_error"]) fun _ _ _ _ _ _ us hl => match us, hl with | [_], _ => rfl
 have F10 := fun_mk (st := ZJ) l10 c10 k10
 have b10 := F10.binds (ps := ["_law_error"]) fun _ _ _ _ _ _ us hl => match us, hl with | [_], _ => rfl
 have F11 := fun_mk (st := ZG) l11 c11 k11
 have b11 := F11.binds (ps := ["_law_one", "_law_other"]) fun _ _ _ _ _ _ us hl => match us, hl with | [_, _], _ => rfl
 have F12 := fun_mk (st := ZhK) l12 c12 k12
 have b12 := F12.binds (ps := ["_law_script"]) fun _ _ _ _ _ _ us hl => match us, hl with | [_], _ => rfl
 let fi : Nat -> FI := fun i => match i with
  | 0 => ⟨f0, W.fnOf "__init__" "NoPlace.__init__" (defArgs Zi) (defBody Zi) (defScope Zi) .none kV0 dc0 pm0 an0 cd0 ct0⟩
  | 1 => ⟨f1, W.fnOf "__init__" "TooMany.__init__" (defArgs Zn) (defBody Zn) (defScope Zn) .none kV1 dc1 pm1 an1 cd1 ct1⟩
  | 2 => ⟨f2, W.fnOf "__init__" "NoText.__init__" (defArgs Zp) (defBody Zp) (defScope Zp) .none kV2 dc2 pm2 an2 cd2 ct2⟩
  | 3 => ⟨f3, W.fnOf "__init__" "Taken.__init__" (defArgs Zr) (defBody Zr) (defScope Zr) .none kV3 dc3 pm3 an3 cd3 ct3⟩
  | 4 => ⟨f4, W.fnOf "__init__" "NoWay.__init__" (defArgs Zq) (defBody Zq) (defScope Zq) .none kV4 dc4 pm4 an4 cd4 ct4⟩
  | 5 => ⟨f5, W.fnOf "__init__" "Held.__init__" (defArgs Zt) (defBody Zt) (defScope Zt) .none kV5 dc5 pm5 an5 cd5 ct5⟩
  | 6 => ⟨f6, W.fnOf "__init__" "Faulted.__init__" (defArgs Zm) (defBody Zm) (defScope Zm) .none kV6 dc6 pm6 an6 cd6 ct6⟩
  | 7 => ⟨f7, W.fnOf "__init__" "Unknown.__init__" (defArgs Zl) (defBody Zl) (defScope Zl) .none kV7 dc7 pm7 an7 cd7 ct7⟩
  | 8 => ⟨f8, W.fnOf "_law_value" "_law_value" (defArgs ZK) (defBody ZK) (defScope ZK) .none kV8 dc8 pm8 an8 cd8 ct8⟩
  | 9 => ⟨f9, W.fnOf "_law_ones" "_law_ones" (defArgs ZV) (defBody ZV) (defScope ZV) .none kV9 dc9 pm9 an9 cd9 ct9⟩
  | 10 => ⟨f10, W.fnOf "_law_kinds" "_law_kinds" (defArgs ZJ) (defBody ZJ) (defScope ZJ) .none kV10 dc10 pm10 an10 cd10 ct10⟩
  | 11 => ⟨f11, W.fnOf "_law_fields" "_law_fields" (defArgs ZG) (defBody ZG) (defScope ZG) .none kV11 dc11 pm11 an11 cd11 ct11⟩
  | 12 => ⟨f12, W.fnOf "law" "law" (defArgs ZhK) (defBody ZhK) (defScope ZhK) .none kV12 dc12 pm12 an12 cd12 ct12⟩
  | _ => ⟨f0, W.fnOf "__init__" "NoPlace.__init__" (defArgs Zi) (defBody Zi) (defScope Zi) .none kV0 dc0 pm0 an0 cd0 ct0⟩
 let ci : Nat -> Addr := fun c => match c with
  | 10 => C10
  | 11 => C11
  | 9 => C9
  | 0 => C0
  | 1 => C1
  | 2 => C2
  | 6 => C6
  | 5 => C5
  | 4 => C4
  | 8 => C8
  | 7 => C7
  | 3 => C3
  | 12 => C12
  | _ => 0
 let ti : Nat -> TI := fun i => match i with
  | _ => ⟨0, 0⟩
 refine ⟨fi, ci, ti, W.mg_of X G a_law, ⟨fun p hp => (List.not_mem_nil hp).elim, List.nodup_nil⟩, fun P base sm TB => ?_⟩
 have em10_Faulted := Zb (Zd xs11 xt11 xc11 su10_11) (Ze)
 have em11_Faulted := Zb (Zd xs11 xt11 xc11 su11_11) (Ze)
 have em9_Faulted := Zb (Zd xs11 xt11 xc11 su9_11) (Ze)
 have em0_Faulted := Zb (Zd xs11 xt11 xc11 su0_11) (Ze)
 have em1_Faulted := Zb (Zd xs11 xt11 xc11 su1_11) (Ze)
 have em2_Faulted := Zb (Zd xs11 xt11 xc11 su2_11) (Ze)
 have em6_Faulted := Zb (Zd xs11 xt11 xc11 su6_11) (Ze)
 have em5_Faulted := Zb (Zd xs11 xt11 xc11 su5_11) (Ze)
 have em4_Faulted := Zb (Zd xs11 xt11 xc11 su4_11) (Ze)
 have em8_Faulted := Zb (Zd xs11 xt11 xc11 su8_11) (Ze)
 have em7_Faulted := Zb (Zd xs11 xt11 xc11 su7_11) (Ze)
 have em3_Faulted := Zb (Zd xs11 xt11 xc11 su3_11) (Ze)
 have em12_Faulted := Zb (Zd xs11 xt11 xc11 su12_11) (Ze)
 have em10_Held := Zb (Zd xs9 xt9 xc9 su10_9) (Ze)
 have em11_Held := Zb (Zd xs9 xt9 xc9 su11_9) (Ze)
 have em9_Held := Zb (Zd xs9 xt9 xc9 su9_9) (Ze)
 have em0_Held := Zb (Zd xs9 xt9 xc9 su0_9) (Ze)
 have em1_Held := Zb (Zd xs9 xt9 xc9 su1_9) (Ze)
 have em2_Held := Zb (Zd xs9 xt9 xc9 su2_9) (Ze)
 have em6_Held := Zb (Zd xs9 xt9 xc9 su6_9) (Ze)
 have em5_Held := Zb (Zd xs9 xt9 xc9 su5_9) (Ze)
 have em4_Held := Zb (Zd xs9 xt9 xc9 su4_9) (Ze)
 have em8_Held := Zb (Zd xs9 xt9 xc9 su8_9) (Ze)
 have em7_Held := Zb (Zd xs9 xt9 xc9 su7_9) (Ze)
 have em3_Held := Zb (Zd xs9 xt9 xc9 su3_9) (Ze)
 have em12_Held := Zb (Zd xs9 xt9 xc9 su12_9) (Ze)
 have em10_NoPlace := Zb (Zd xs2 xt2 xc2 su10_2) (Ze)
 have em11_NoPlace := Zb (Zd xs2 xt2 xc2 su11_2) (Ze)
 have em9_NoPlace := Zb (Zd xs2 xt2 xc2 su9_2) (Ze)
 have em0_NoPlace := Zb (Zd xs2 xt2 xc2 su0_2) (Ze)
 have em1_NoPlace := Zb (Zd xs2 xt2 xc2 su1_2) (Ze)
 have em2_NoPlace := Zb (Zd xs2 xt2 xc2 su2_2) (Ze)
 have em6_NoPlace := Zb (Zd xs2 xt2 xc2 su6_2) (Ze)
 have em5_NoPlace := Zb (Zd xs2 xt2 xc2 su5_2) (Ze)
 have em4_NoPlace := Zb (Zd xs2 xt2 xc2 su4_2) (Ze)
 have em8_NoPlace := Zb (Zd xs2 xt2 xc2 su8_2) (Ze)
 have em7_NoPlace := Zb (Zd xs2 xt2 xc2 su7_2) (Ze)
 have em3_NoPlace := Zb (Zd xs2 xt2 xc2 su3_2) (Ze)
 have em12_NoPlace := Zb (Zd xs2 xt2 xc2 su12_2) (Ze)
 have em10_NoText := Zb (Zd xs5 xt5 xc5 su10_5) (Ze)
 have em11_NoText := Zb (Zd xs5 xt5 xc5 su11_5) (Ze)
 have em9_NoText := Zb (Zd xs5 xt5 xc5 su9_5) (Ze)
 have em0_NoText := Zb (Zd xs5 xt5 xc5 su0_5) (Ze)
 have em1_NoText := Zb (Zd xs5 xt5 xc5 su1_5) (Ze)
 have em2_NoText := Zb (Zd xs5 xt5 xc5 su2_5) (Ze)
 have em6_NoText := Zb (Zd xs5 xt5 xc5 su6_5) (Ze)
 have em5_NoText := Zb (Zd xs5 xt5 xc5 su5_5) (Ze)
 have em4_NoText := Zb (Zd xs5 xt5 xc5 su4_5) (Ze)
 have em8_NoText := Zb (Zd xs5 xt5 xc5 su8_5) (Ze)
 have em7_NoText := Zb (Zd xs5 xt5 xc5 su7_5) (Ze)
 have em3_NoText := Zb (Zd xs5 xt5 xc5 su3_5) (Ze)
 have em12_NoText := Zb (Zd xs5 xt5 xc5 su12_5) (Ze)
 have em10_NoWay := Zb (Zd xs8 xt8 xc8 su10_8) (Ze)
 have em11_NoWay := Zb (Zd xs8 xt8 xc8 su11_8) (Ze)
 have em9_NoWay := Zb (Zd xs8 xt8 xc8 su9_8) (Ze)
 have em0_NoWay := Zb (Zd xs8 xt8 xc8 su0_8) (Ze)
 have em1_NoWay := Zb (Zd xs8 xt8 xc8 su1_8) (Ze)
 have em2_NoWay := Zb (Zd xs8 xt8 xc8 su2_8) (Ze)
 have em6_NoWay := Zb (Zd xs8 xt8 xc8 su6_8) (Ze)
 have em5_NoWay := Zb (Zd xs8 xt8 xc8 su5_8) (Ze)
 have em4_NoWay := Zb (Zd xs8 xt8 xc8 su4_8) (Ze)
 have em8_NoWay := Zb (Zd xs8 xt8 xc8 su8_8) (Ze)
 have em7_NoWay := Zb (Zd xs8 xt8 xc8 su7_8) (Ze)
 have em3_NoWay := Zb (Zd xs8 xt8 xc8 su3_8) (Ze)
 have em12_NoWay := Zb (Zd xs8 xt8 xc8 su12_8) (Ze)
 have em10_Taken := Zb (Zd xs7 xt7 xc7 su10_7) (Ze)
 have em11_Taken := Zb (Zd xs7 xt7 xc7 su11_7) (Ze)
 have em9_Taken := Zb (Zd xs7 xt7 xc7 su9_7) (Ze)
 have em0_Taken := Zb (Zd xs7 xt7 xc7 su0_7) (Ze)
 have em1_Taken := Zb (Zd xs7 xt7 xc7 su1_7) (Ze)
 have em2_Taken := Zb (Zd xs7 xt7 xc7 su2_7) (Ze)
 have em6_Taken := Zb (Zd xs7 xt7 xc7 su6_7) (Ze)
 have em5_Taken := Zb (Zd xs7 xt7 xc7 su5_7) (Ze)
 have em4_Taken := Zb (Zd xs7 xt7 xc7 su4_7) (Ze)
 have em8_Taken := Zb (Zd xs7 xt7 xc7 su8_7) (Ze)
 have em7_Taken := Zb (Zd xs7 xt7 xc7 su7_7) (Ze)
 have em3_Taken := Zb (Zd xs7 xt7 xc7 su3_7) (Ze)
 have em12_Taken := Zb (Zd xs7 xt7 xc7 su12_7) (Ze)
 have em10_TooMany := Zb (Zd xs3 xt3 xc3 su10_3) (Ze)
 have em11_TooMany := Zb (Zd xs3 xt3 xc3 su11_3) (Ze)
 have em9_TooMany := Zb (Zd xs3 xt3 xc3 su9_3) (Ze)
 have em0_TooMany := Zb (Zd xs3 xt3 xc3 su0_3) (Ze)
 have em1_TooMany := Zb (Zd xs3 xt3 xc3 su1_3) (Ze)
 have em2_TooMany := Zb (Zd xs3 xt3 xc3 su2_3) (Ze)
 have em6_TooMany := Zb (Zd xs3 xt3 xc3 su6_3) (Ze)
 have em5_TooMany := Zb (Zd xs3 xt3 xc3 su5_3) (Ze)
 have em4_TooMany := Zb (Zd xs3 xt3 xc3 su4_3) (Ze)
 have em8_TooMany := Zb (Zd xs3 xt3 xc3 su8_3) (Ze)
 have em7_TooMany := Zb (Zd xs3 xt3 xc3 su7_3) (Ze)
 have em3_TooMany := Zb (Zd xs3 xt3 xc3 su3_3) (Ze)
 have em12_TooMany := Zb (Zd xs3 xt3 xc3 su12_3) (Ze)
 have em10_Unknown := Zb (Zd xs12 xt12 xc12 su10_12) (Ze)
 have em11_Unknown := Zb (Zd xs12 xt12 xc12 su11_12) (Ze)
 have em9_Unknown := Zb (Zd xs12 xt12 xc12 su9_12) (Ze)
 have em0_Unknown := Zb (Zd xs12 xt12 xc12 su0_12) (Ze)
 have em1_Unknown := Zb (Zd xs12 xt12 xc12 su1_12) (Ze)
 have em2_Unknown := Zb (Zd xs12 xt12 xc12 su2_12) (Ze)
 have em6_Unknown := Zb (Zd xs12 xt12 xc12 su6_12) (Ze)
 have em5_Unknown := Zb (Zd xs12 xt12 xc12 su5_12) (Ze)
 have em4_Unknown := Zb (Zd xs12 xt12 xc12 su4_12) (Ze)
 have em8_Unknown := Zb (Zd xs12 xt12 xc12 su8_12) (Ze)
 have em7_Unknown := Zb (Zd xs12 xt12 xc12 su7_12) (Ze)
 have em3_Unknown := Zb (Zd xs12 xt12 xc12 su3_12) (Ze)
 have em12_Unknown := Zb (Zd xs12 xt12 xc12 su12_12) (Ze)
 exact ⟨sm, fun _ => rfl, fun _ => rfl, fun _ => rfl, fun _ => rfl, F0, b0, F1, b1, F2, b2, F3, b3, F4, b4, F5, b5, F6, b6, F7, b7, F8, b8, F9, b9, F10, b10, F11, b11, F12, b12, W.mg_of X G a__law_fields, W.mg_of X G a__law_kinds, W.mg_of X G a__law_ones, W.mg_of X G a__law_value, W.mg_of X G a_law, W.mg_none_of X G Zbf, W.mg_none_of X G Zaa, W.mg_none_of X G Z4, W.mg_none_of X G Z8, W.mg_none_of X G ZjX, W.mg_none_of X G ZaJ, W.mg_none_of X G Zj, W.mg_none_of X G Zj1, W.mg_none_of X G Zgq, W.mg_of X G ac10, xs10, xt10, xk10, xi10, W.mg_of X G ac11, xs11, xt11, xk11, Zs4 lx11 rv11 sx11 xs11 xt11 xk11, ix11, tx11, nx11, ⟨xa11, xb11, xs11, xh11⟩, W.mg_of X G ac9, xs9, xt9, xk9, ⟨⟨_, _, _, _, _, _, _, _, _, _, _, _, _, _, _, lx9, rv9⟩, sx9, xs9, xt9, xk9⟩, ix9, tx9, nx9, ⟨xa9, xb9, xs9, xh9⟩, W.mg_of X G ac0, xs0, xt0, xk0, xi0, W.mg_of X G ac1, xs1, xt1, xk1, xi1, W.mg_of X G ac2, xs2, xt2, xk2, ⟨⟨_, _, _, _, _, _, _, _, _, _, _, _, _, _, _, lx2, rv2⟩, sx2, xs2, xt2, xk2⟩, ix2, tx2, nx2, ⟨xa2, xb2, xs2, xh2⟩, W.mg_of X G ac6, xs6, xt6, xk6, xi6, W.mg_of X G ac5, xs5, xt5, xk5, ⟨⟨_, _, _, _, _, _, _, _, _, _, _, _, _, _, _, lx5, rv5⟩, sx5, xs5, xt5, xk5⟩, ix5, tx5, nx5, ⟨xa5, xb5, xs5, xh5⟩, W.mg_of X G ac4, xs4, xt4, xk4, xi4, W.mg_of X G ac8, xs8, xt8, xk8, ⟨⟨_, _, _, _, _, _, _, _, _, _, _, _, _, _, _, lx8, rv8⟩, sx8, xs8, xt8, xk8⟩, ix8, tx8, nx8, ⟨xa8, xb8, xs8, xh8⟩, W.mg_of X G ac7, xs7, xt7, xk7, ⟨⟨_, _, _, _, _, _, _, _, _, _, _, _, _, _, _, lx7, rv7⟩, sx7, xs7, xt7, xk7⟩, ix7, tx7, nx7, ⟨xa7, xb7, xs7, xh7⟩, W.mg_of X G ac3, xs3, xt3, xk3, ⟨⟨_, _, _, _, _, _, _, _, _, _, _, _, _, _, _, lx3, rv3⟩, sx3, xs3, xt3, xk3⟩, ix3, tx3, nx3, ⟨xa3, xb3, xs3, xh3⟩, W.mg_of X G ac12, xs12, xt12, xk12, Zs3 lx12 rv12 sx12 xs12 xt12 xk12, ix12, tx12, nx12, ⟨xa12, xb12, xs12, xh12⟩, ⟨xa10, xb10, xs10, xh10, xl10, ih_, it_, xm10⟩, xe10_Changed, xe10_Faulted, xe10_Held, xe10_KeyError, xe10_LookupError, xe10_MakeError, xe10_NoDeed, xe10_NoPlace, xe10_NoRow, xe10_NoText, xe10_NoView, xe10_NoWay, xe10_RuntimeError, xe10_Taken, xe10_TooMany, xe10_Unknown, xe10_ValueError, ⟨xa11, xb11, xs11, xh11, xl11, ih_, it_, xm11⟩, xe11_Changed, xe11_Faulted, xe11_Held, xe11_KeyError, xe11_LookupError, xe11_MakeError, xe11_NoDeed, xe11_NoPlace, xe11_NoRow, xe11_NoText, xe11_NoView, xe11_NoWay, xe11_RuntimeError, xe11_Taken, xe11_TooMany, xe11_Unknown, xe11_ValueError, ⟨xa9, xb9, xs9, xh9, xl9, ih_, it_, xm9⟩, xe9_Changed, xe9_Faulted, xe9_Held, xe9_KeyError, xe9_LookupError, xe9_MakeError, xe9_NoDeed, xe9_NoPlace, xe9_NoRow, xe9_NoText, xe9_NoView, xe9_NoWay, xe9_RuntimeError, xe9_Taken, xe9_TooMany, xe9_Unknown, xe9_ValueError, ⟨xa0, xb0, xs0, xh0, xl0, ih_, it_, xm0⟩, xe0_Changed, xe0_Faulted, xe0_Held, xe0_KeyError, xe0_LookupError, xe0_MakeError, xe0_NoDeed, xe0_NoPlace, xe0_NoRow, xe0_NoText, xe0_NoView, xe0_NoWay, xe0_RuntimeError, xe0_Taken, xe0_TooMany, xe0_Unknown, xe0_ValueError, ⟨xa1, xb1, xs1, xh1, xl1, ih_, it_, xm1⟩, xe1_Changed, xe1_Faulted, xe1_Held, xe1_KeyError, xe1_LookupError, xe1_MakeError, xe1_NoDeed, xe1_NoPlace, xe1_NoRow, xe1_NoText, xe1_NoView, xe1_NoWay, xe1_RuntimeError, xe1_Taken, xe1_TooMany, xe1_Unknown, xe1_ValueError, ⟨xa2, xb2, xs2, xh2, xl2, ih_, it_, xm2⟩, xe2_Changed, xe2_Faulted, xe2_Held, xe2_KeyError, xe2_LookupError, xe2_MakeError, xe2_NoDeed, xe2_NoPlace, xe2_NoRow, xe2_NoText, xe2_NoView, xe2_NoWay, xe2_RuntimeError, xe2_Taken, xe2_TooMany, xe2_Unknown, xe2_ValueError, ⟨xa6, xb6, xs6, xh6, xl6, ih_, it_, xm6⟩, xe6_Changed, xe6_Faulted, xe6_Held, xe6_KeyError, xe6_LookupError, xe6_MakeError, xe6_NoDeed, xe6_NoPlace, xe6_NoRow, xe6_NoText, xe6_NoView, xe6_NoWay, xe6_RuntimeError, xe6_Taken, xe6_TooMany, xe6_Unknown, xe6_ValueError, ⟨xa5, xb5, xs5, xh5, xl5, ih_, it_, xm5⟩, xe5_Changed, xe5_Faulted, xe5_Held, xe5_KeyError, xe5_LookupError, xe5_MakeError, xe5_NoDeed, xe5_NoPlace, xe5_NoRow, xe5_NoText, xe5_NoView, xe5_NoWay, xe5_RuntimeError, xe5_Taken, xe5_TooMany, xe5_Unknown, xe5_ValueError, ⟨xa4, xb4, xs4, xh4, xl4, ih_, it_, xm4⟩, xe4_Changed, xe4_Faulted, xe4_Held, xe4_KeyError, xe4_LookupError, xe4_MakeError, xe4_NoDeed, xe4_NoPlace, xe4_NoRow, xe4_NoText, xe4_NoView, xe4_NoWay, xe4_RuntimeError, xe4_Taken, xe4_TooMany, xe4_Unknown, xe4_ValueError, ⟨xa8, xb8, xs8, xh8, xl8, ih_, it_, xm8⟩, xe8_Changed, xe8_Faulted, xe8_Held, xe8_KeyError, xe8_LookupError, xe8_MakeError, xe8_NoDeed, xe8_NoPlace, xe8_NoRow, xe8_NoText, xe8_NoView, xe8_NoWay, xe8_RuntimeError, xe8_Taken, xe8_TooMany, xe8_Unknown, xe8_ValueError, ⟨xa7, xb7, xs7, xh7, xl7, ih_, it_, xm7⟩, xe7_Changed, xe7_Faulted, xe7_Held, xe7_KeyError, xe7_LookupError, xe7_MakeError, xe7_NoDeed, xe7_NoPlace, xe7_NoRow, xe7_NoText, xe7_NoView, xe7_NoWay, xe7_RuntimeError, xe7_Taken, xe7_TooMany, xe7_Unknown, xe7_ValueError, ⟨xa3, xb3, xs3, xh3, xl3, ih_, it_, xm3⟩, xe3_Changed, xe3_Faulted, xe3_Held, xe3_KeyError, xe3_LookupError, xe3_MakeError, xe3_NoDeed, xe3_NoPlace, xe3_NoRow, xe3_NoText, xe3_NoView, xe3_NoWay, xe3_RuntimeError, xe3_Taken, xe3_TooMany, xe3_Unknown, xe3_ValueError, ⟨xa12, xb12, xs12, xh12, xl12, ih_, it_, xm12⟩, xe12_Changed, xe12_Faulted, xe12_Held, xe12_KeyError, xe12_LookupError, xe12_MakeError, xe12_NoDeed, xe12_NoPlace, xe12_NoRow, xe12_NoText, xe12_NoView, xe12_NoWay, xe12_RuntimeError, xe12_Taken, xe12_TooMany, xe12_Unknown, xe12_ValueError, em10_Faulted, em11_Faulted, em9_Faulted, em0_Faulted, em1_Faulted, em2_Faulted, em6_Faulted, em5_Faulted, em4_Faulted, em8_Faulted, em7_Faulted, em3_Faulted, em12_Faulted, em10_Held, em11_Held, em9_Held, em0_Held, em1_Held, em2_Held, em6_Held, em5_Held, em4_Held, em8_Held, em7_Held, em3_Held, em12_Held, em10_NoPlace, em11_NoPlace, em9_NoPlace, em0_NoPlace, em1_NoPlace, em2_NoPlace, em6_NoPlace, em5_NoPlace, em4_NoPlace, em8_NoPlace, em7_NoPlace, em3_NoPlace, em12_NoPlace, em10_NoText, em11_NoText, em9_NoText, em0_NoText, em1_NoText, em2_NoText, em6_NoText, em5_NoText, em4_NoText, em8_NoText, em7_NoText, em3_NoText, em12_NoText, em10_NoWay, em11_NoWay, em9_NoWay, em0_NoWay, em1_NoWay, em2_NoWay, em6_NoWay, em5_NoWay, em4_NoWay, em8_NoWay, em7_NoWay, em3_NoWay, em12_NoWay, em10_Taken, em11_Taken, em9_Taken, em0_Taken, em1_Taken, em2_Taken, em6_Taken, em5_Taken, em4_Taken, em8_Taken, em7_Taken, em3_Taken, em12_Taken, em10_TooMany, em11_TooMany, em9_TooMany, em0_TooMany, em1_TooMany, em2_TooMany, em6_TooMany, em5_TooMany, em4_TooMany, em8_TooMany, em7_TooMany, em3_TooMany, em12_TooMany, em10_Unknown, em11_Unknown, em9_Unknown, em0_Unknown, em1_Unknown, em2_Unknown, em6_Unknown, em5_Unknown, em4_Unknown, em8_Unknown, em7_Unknown, em3_Unknown, em12_Unknown⟩
end Mi
namespace Mi
open PySem PySem.Spec PyProof.Rows L2
end Mi
noncomputable section
namespace Mi
open PySem PySem.Spec PyProof.Rows L2
theorem factsH {w : World} {h : Heap} {mg : Str -> Option Value} (Y : hkH.says w h) (G : h.Ns mainGlobals mg) : ∃ (K : Fr) (tsL : List Addr), K.In h /\ (∀ P ∈ tsL, h.get? P = some { cls := .none, data := .fields #[] }) /\
  ∃ (fi : Nat -> FI) (ci : Nat -> Addr) (ti : Nat -> TI), mg "law" = some (.ref (fi 12).a) /\ ((∀ p ∈ ([] : List (Addr × Addr)), W.codeHdIn K p.1 p.2 = true /\ K.lookup p.2 = none /\ mainGlobals ≠ p.2 /\ p.2 ∈ tsL) /\ (([] : List (Addr × Addr)).map (·.2)).Nodup) /\ ∀ (P : Program) (base : Heap), (∃ o, base.get? sysModules = some o) -> (∀ p ∈ ([] : List (Addr × Addr)), LamX.TabB base mg p.1 p.2) -> Txt ⟨P, w, K, mg, base, faF fi, caF ci, nkF, nfrF, tbF ti, fun _ => none⟩ fi ci ti := by
 obtain ⟨K, X, c⟩ := Y
 have m := c.more
 have a__law_fields := He.eqO_ok (exAt m 0 rfl : ex_0 K = true)
 have a__law_kinds := He.eqO_ok (exAt m 1 rfl : ex_1 K = true)
 have a__law_ones := He.eqO_ok (exAt m 2 rfl : ex_2 K = true)
 have a__law_value := He.eqO_ok (exAt m 3 rfl : ex_3 K = true)
 have a_law := He.eqO_ok (exAt m 4 rfl : ex_4 K = true)
 have ih_ := He.eqO_ok (exAt m 5 rfl : ex_5 K = true)
 have it_ := Za (exAt m 6 rfl : ex_6 K = true)
 have ac10 := He.eqO_ok (exAt m 7 rfl : ex_7 K = true)
 have xs10 := Za (exAt m 8 rfl : ex_8 K = true)
 have xt10 := ZU (exAt m 9 rfl : ex_9 K = true)
 have xk10 := (exAt m 10 rfl : ZuN K = true)
 have xa10 := He.eqO_ok (exAt m 11 rfl : Zu5 K = true)
 have xb10 := He.eqO_ok (exAt m 12 rfl : ZvD K = true)
 have xh10 := (exAt m 13 rfl : Zvi K = true)
 have xl10 := He.eqO_ok (exAt m 14 rfl : ZvG K = true)
 have xm10 := Za (exAt m 15 rfl : Zvc K = true)
 have xi10 := (exAt m 16 rfl : Zt1 K = true)
 have ac11 := He.eqO_ok (exAt m 17 rfl : Zuj K = true)
 have xs11 := Za (exAt m 18 rfl : ZuC K = true)
 have xt11 := ZU (exAt m 19 rfl : Zt5 K = true)
 have xk11 := (exAt m 20 rfl : Zvx K = true)
 have xl11 := He.eqO_ok (exAt m 21 rfl : ZuB K = true)
 have xm11 := Za (exAt m 22 rfl : ZtO K = true)
 obtain ⟨_, _, _, _, _, _, _, _, _, _, _, _, _, _, _, lx11, rv11⟩ := Zeh (exAt m 23 rfl : Zvl K = true)
 have rv11 := of_decide_eq_true rv11
 have xa11 := He.eqO_ok (exAt m 24 rfl : ZvZ K = true)
 have xb11 := He.eqO_ok (exAt m 25 rfl : ZuS K = true)
 have xh11 := (exAt m 26 rfl : Zwd K = true)
 have sx11 := He.eqO_ok (exAt m 27 rfl : ZuE K = true)
 have ix11 := He.eqO_ok (exAt m 28 rfl : ZvI K = true)
 have tx11 := ZU (exAt m 29 rfl : ZvN K = true)
 have nx11 := He.eqO_ok (exAt m 30 rfl : Zu3 K = true)
 have ac9 := He.eqO_ok (exAt m 31 rfl : Zt3 K = true)
 have xs9 := Za (exAt m 32 rfl : ZvX K = true)
 have xt9 := ZU (exAt m 33 rfl : Zub K = true)
 have xk9 := (exAt m 34 rfl : Zvm K = true)
 have xl9 := He.eqO_ok (exAt m 35 rfl : Zt2 K = true)
 have xm9 := Za (exAt m 36 rfl : Zuw K = true)
 obtain ⟨_, _, _, _, _, _, _, _, _, _, _, _, _, _, _, lx9, rv9⟩ := Zeh (exAt m 37 rfl : ZtS K = true)
 have xa9 := He.eqO_ok (exAt m 38 rfl : Zuc K = true)
 have xb9 := He.eqO_ok (exAt m 39 rfl : ZuJ K = true)
 have xh9 := (exAt m 40 rfl : ZvU K = true)
 have sx9 := He.eqO_ok (exAt m 41 rfl : Zvs K = true)
 have ix9 := He.eqO_ok (exAt m 42 rfl : ZuY K = true)
 have tx9 := ZU (exAt m 43 rfl : ZvQ K = true)
 have nx9 := He.eqO_ok (exAt m 44 rfl : Zvw K = true)
 have ac0 := He.eqO_ok (exAt m 45 rfl : ZvP K = true)
 have xs0 := Za (exAt m 46 rfl : Zwb K = true)
 have xt0 := ZU (exAt m 47 rfl : ZvC K = true)
 have xk0 := (exAt m 48 rfl : Zun K = true)
 have xa0 := He.eqO_ok (exAt m 49 rfl : ZvY K = true)
 have xb0 := He.eqO_ok (exAt m 50 rfl : Zt9 K = true)
 have xh0 := (exAt m 51 rfl : Zu2 K = true)
 have xl0 := He.eqO_ok (exAt m 52 rfl : Zv0 K = true)
 have xm0 := Za (exAt m 53 rfl : ZtQ K = true)
 have xi0 := (exAt m 54 rfl : Zuf K = true)
 have ac1 := He.eqO_ok (exAt m 55 rfl : ZuI K = true)
 have xs1 := Za (exAt m 56 rfl : Zut K = true)
 have xt1 := ZU (exAt m 57 rfl : ZuQ K = true)
 have xk1 := (exAt m 58 rfl : Zwe K = true)
 have xa1 := He.eqO_ok (exAt m 59 rfl : Zwo K = true)
 have xb1 := He.eqO_ok (exAt m 60 rfl : Zvz K = true)
 have xh1 := (exAt m 61 rfl : Zv8 K = true)
 have xl1 := He.eqO_ok (exAt m 62 rfl : Zv1 K = true)
 have xm1 := Za (exAt m 63 rfl : Zwf K = true)
 have xi1 := (exAt m 64 rfl : Zwh K = true)
 have ac2 := He.eqO_ok (exAt m 65 rfl : Zuu K = true)
 have xs2 := Za (exAt m 66 rfl : Zvj K = true)
 have xt2 := ZU (exAt m 67 rfl : ZvV K = true)
 have xk2 := (exAt m 68 rfl : Zva K = true)
 have xl2 := He.eqO_ok (exAt m 69 rfl : Zvv K = true)
 have xm2 := Za (exAt m 70 rfl : ZtM K = true)
 obtain ⟨_, _, _, _, _, _, _, _, _, _, _, _, _, _, _, lx2, rv2⟩ := Zeh (exAt m 71 rfl : ZuP K = true)
 have xa2 := He.eqO_ok (exAt m 72 rfl : Zuv K = true)
 have xb2 := He.eqO_ok (exAt m 73 rfl : Zwm K = true)
 have xh2 := (exAt m 74 rfl : Zvg K = true)
 have sx2 := He.eqO_ok (exAt m 75 rfl : Zue K = true)
 have ix2 := He.eqO_ok (exAt m 76 rfl : Zuz K = true)
 have tx2 := ZU (exAt m 77 rfl : Zwi K = true)
 have nx2 := He.eqO_ok (exAt m 78 rfl : Zvf K = true)
 have ac6 := He.eqO_ok (exAt m 79 rfl : Zu8 K = true)
 have xs6 := Za (exAt m 80 rfl : Zwk K = true)
 have xt6 := ZU (exAt m 81 rfl : ZtT K = true)
 have xk6 := (exAt m 82 rfl : Zvp K = true)
 have xa6 := He.eqO_ok (exAt m 83 rfl : Zv2 K = true)
 have xb6 := He.eqO_ok (exAt m 84 rfl : ZvO K = true)
 have xh6 := (exAt m 85 rfl : Zu0 K = true)
 have xl6 := He.eqO_ok (exAt m 86 rfl : Zuy K = true)
 have xm6 := Za (exAt m 87 rfl : ZtJ K = true)
 have xi6 := (exAt m 88 rfl : Zur K = true)
 have ac5 := He.eqO_ok (exAt m 89 rfl : Zvk K = true)
 have xs5 := Za (exAt m 90 rfl : ZuW K = true)
 have xt5 := ZU (exAt m 91 rfl : ZvE K = true)
 have xk5 := (exAt m 92 rfl : ZuX K = true)
 have xl5 := He.eqO_ok (exAt m 93 rfl : ZvK K = true)
 have xm5 := Za (exAt m 94 rfl : ZtV K = true)
 obtain ⟨_, _, _, _, _, _, _, _, _, _, _, _, _, _, _, lx5, rv5⟩ := Zeh (exAt m 95 rfl : Zvq K = true)
 have xa5 := He.eqO_ok (exAt m 96 rfl : ZvJ K = true)
 have xb5 := He.eqO_ok (exAt m 97 rfl : ZuF K = true)
 have xh5 := (exAt m 98 rfl : Zuk K = true)
 have sx5 := He.eqO_ok (exAt m 99 rfl : ZtW K = true)
 have ix5 := He.eqO_ok (exAt m 100 rfl : Znb K = true)
 have tx5 := ZU (exAt m 101 rfl : Zsv K = true)
 have nx5 := He.eqO_ok (exAt m 102 rfl : ZqG K = true)
 have ac4 := He.eqO_ok (exAt m 103 rfl : Zl0 K = true)
 have xs4 := Za (exAt m 104 rfl : ZoL K = true)
 have xt4 := ZU (exAt m 105 rfl : ZnX K = true)
 have xk4 := (exAt m 106 rfl : Zra K = true)
 have xa4 := He.eqO_ok (exAt m 107 rfl : ZqY K = true)
 have xb4 := He.eqO_ok (exAt m 108 rfl : Zrp K = true)
 have xh4 := (exAt m 109 rfl : ZnW K = true)
 have xl4 := He.eqO_ok (exAt m 110 rfl : Zpp K = true)
 have xm4 := Za (exAt m 111 rfl : ZpP K = true)
 have xi4 := (exAt m 112 rfl : ZrN K = true)
 have ac8 := He.eqO_ok (exAt m 113 rfl : Zqg K = true)
 have xs8 := Za (exAt m 114 rfl : Zpc K = true)
 have xt8 := ZU (exAt m 115 rfl : ZrV K = true)
 have xk8 := (exAt m 116 rfl : Zrz K = true)
 have xl8 := He.eqO_ok (exAt m 117 rfl : Zox K = true)
 have xm8 := Za (exAt m 118 rfl : Zmn K = true)
 obtain ⟨_, _, _, _, _, _, _, _, _, _, _, _, _, _, _, lx8, rv8⟩ := Zeh (exAt m 119 rfl : Zpx K = true)
 have xa8 := He.eqO_ok (exAt m 120 rfl : ZmW K = true)
 have xb8 := He.eqO_ok (exAt m 121 rfl : ZqD K = true)
 have xh8 := (exAt m 122 rfl : ZnT K = true)
 have sx8 := He.eqO_ok (exAt m 123 rfl : Zps K = true)
 have ix8 := He.eqO_ok (exAt m 124 rfl : Zpz K = true)
 have tx8 := ZU (exAt m 125 rfl : ZqJ K = true)
 have nx8 := He.eqO_ok (exAt m 126 rfl : Zro K = true)
 have ac7 := He.eqO_ok (exAt m 127 rfl : ZoF K = true)
 have xs7 := Za (exAt m 128 rfl : ZoI K = true)
 have xt7 := ZU (exAt m 129 rfl : Zp8 K = true)
 have xk7 := (exAt m 130 rfl : ZqZ K = true)
 have xl7 := He.eqO_ok (exAt m 131 rfl : Zqz K = true)
 have xm7 := Za (exAt m 132 rfl : ZmQ K = true)
 obtain ⟨_, _, _, _, _, _, _, _, _, _, _, _, _, _, _, lx7, rv7⟩ := Zeh (exAt m 133 rfl : ZnR K = true)
 have xa7 := He.eqO_ok (exAt m 134 rfl : Zsf K = true)
 have xb7 := He.eqO_ok (exAt m 135 rfl : Znj K = true)
 have xh7 := (exAt m 136 rfl : Zoa K = true)
 have sx7 := He.eqO_ok (exAt m 137 rfl : ZmT K = true)
 have ix7 := He.eqO_ok (exAt m 138 rfl : ZpY K = true)
 have tx7 := ZU (exAt m 139 rfl : ZmO K = true)
 have nx7 := He.eqO_ok (exAt m 140 rfl : Znf K = true)
 have ac3 := He.eqO_ok (exAt m 141 rfl : Zpr K = true)
 have xs3 := Za (exAt m 142 rfl : Zsx K = true)
 have xt3 := ZU (exAt m 143 rfl : Zno K = true)
 have xk3 := (exAt m 144 rfl : Zn2 K = true)
 have xl3 := He.eqO_ok (exAt m 145 rfl : Zp2 K = true)
 have xm3 := Za (exAt m 146 rfl : ZoS K = true)
 obtain ⟨_, _, _, _, _, _, _, _, _, _, _, _, _, _, _, lx3, rv3⟩ := Zeh (exAt m 147 rfl : Zqo K = true)
 have xa3 := He.eqO_ok (exAt m 148 rfl : ZrO K = true)
 have xb3 := He.eqO_ok (exAt m 149 rfl : Zof K = true)
 have xh3 := (exAt m 150 rfl : ZsB K = true)
 have sx3 := He.eqO_ok (exAt m 151 rfl : ZmE K = true)
 have ix3 := He.eqO_ok (exAt m 152 rfl : Zsg K = true)
 have tx3 := ZU (exAt m 153 rfl : ZmA K = true)
 have nx3 := He.eqO_ok (exAt m 154 rfl : Zp5 K = true)
 have ac12 := He.eqO_ok (exAt m 155 rfl : Zl5 K = true)
 have xs12 := Za (exAt m 156 rfl : Zmi K = true)
 have xt12 := ZU (exAt m 157 rfl : Zoi K = true)
 have xk12 := (exAt m 158 rfl : ZoE K = true)
 have xl12 := He.eqO_ok (exAt m 159 rfl : ZsF K = true)
 have xm12 := Za (exAt m 160 rfl : Zmx K = true)
 obtain ⟨_, _, _, _, _, _, _, _, _, _, _, _, _, _, _, lx12, rv12⟩ := Zeh (exAt m 161 rfl : ZoG K = true)
 have rv12 := of_decide_eq_true rv12
 have xa12 := He.eqO_ok (exAt m 162 rfl : ZmB K = true)
 have xb12 := He.eqO_ok (exAt m 163 rfl : Zml K = true)
 have xh12 := (exAt m 164 rfl : ZrE K = true)
 have sx12 := He.eqO_ok (exAt m 165 rfl : Zr8 K = true)
 have ix12 := He.eqO_ok (exAt m 166 rfl : Zn7 K = true)
 have tx12 := ZU (exAt m 167 rfl : Zrf K = true)
 have nx12 := He.eqO_ok (exAt m 168 rfl : Zog K = true)
 have xe10_Changed := Za (exAt m 169 rfl : ZrT K = true)
 have xe10_Faulted := Za (exAt m 170 rfl : Zo7 K = true)
 have xe10_Held := Za (exAt m 171 rfl : ZlZ K = true)
 have xe10_KeyError := Za (exAt m 172 rfl : Zl7 K = true)
 have xe10_LookupError := Za (exAt m 173 rfl : ZqE K = true)
 have xe10_MakeError := Za (exAt m 174 rfl : ZmV K = true)
 have xe10_NoDeed := Za (exAt m 175 rfl : Zlq K = true)
 have xe10_NoPlace := Za (exAt m 176 rfl : Zsb K = true)
 have xe10_NoRow := Za (exAt m 177 rfl : Zon K = true)
 have xe10_NoText := Za (exAt m 178 rfl : Znd K = true)
 have xe10_NoView := Za (exAt m 179 rfl : Zq6 K = true)
 have xe10_NoWay := Za (exAt m 180 rfl : ZqC K = true)
 have xe10_RuntimeError := Za (exAt m 181 rfl : Zrd K = true)
 have xe10_Taken := Za (exAt m 182 rfl : Zm5 K = true)
 have xe10_TooMany := Za (exAt m 183 rfl : Zsu K = true)
 have xe10_Unknown := Za (exAt m 184 rfl : Zov K = true)
 have xe10_ValueError := Za (exAt m 185 rfl : Zsr K = true)
 have xe11_Changed := Za (exAt m 186 rfl : Zok K = true)
 have xe11_Faulted := Za (exAt m 187 rfl : Zpt K = true)
 have xe11_Held := Za (exAt m 188 rfl : Zou K = true)
 have xe11_KeyError := Za (exAt m 189 rfl : Zst K = true)
 have xe11_LookupError := Za (exAt m 190 rfl : ZlO K = true)
 have xe11_MakeError := Za (exAt m 191 rfl : ZoC K = true)
 have xe11_NoDeed := Za (exAt m 192 rfl : ZnO K = true)
 have xe11_NoPlace := Za (exAt m 193 rfl : Zq9 K = true)
 have xe11_NoRow := Za (exAt m 194 rfl : ZqO K = true)
 have xe11_NoText := Za (exAt m 195 rfl : Zq2 K = true)
 have xe11_NoView := Za (exAt m 196 rfl : Zpl K = true)
 have xe11_NoWay := Za (exAt m 197 rfl : Zrn K = true)
 have xe11_RuntimeError := Za (exAt m 198 rfl : Zri K = true)
 have xe11_Taken := Za (exAt m 199 rfl : Zrj K = true)
 have xe11_TooMany := Za (exAt m 200 rfl : Znk K = true)
 have xe11_Unknown := Za (exAt m 201 rfl : Zrq K = true)
 have xe11_ValueError := Za (exAt m 202 rfl : Zoh K = true)
 have xe9_Changed := Za (exAt m 203 rfl : Zq3 K = true)
 have xe9_Faulted := Za (exAt m 204 rfl : ZmL K = true)
 have xe9_Held := Za (exAt m 205 rfl : ZlA K = true)
 have xe9_KeyError := Za (exAt m 206 rfl : Zo4 K = true)
 have xe9_LookupError := Za (exAt m 207 rfl : ZoA K = true)
 have xe9_MakeError := Za (exAt m 208 rfl : Zpo K = true)
 have xe9_NoDeed := Za (exAt m 209 rfl : ZqA K = true)
 have xe9_NoPlace := Za (exAt m 210 rfl : Zme K = true)
 have xe9_NoRow := Za (exAt m 211 rfl : Zpu K = true)
 have xe9_NoText := Za (exAt m 212 rfl : ZpK K = true)
 have xe9_NoView := Za (exAt m 213 rfl : ZlP K = true)
 have xe9_NoWay := Za (exAt m 214 rfl : Zo5 K = true)
 have xe9_RuntimeError := Za (exAt m 215 rfl : ZqS K = true)
 have xe9_Taken := Za (exAt m 216 rfl : ZqV K = true)
 have xe9_TooMany := Za (exAt m 217 rfl : Zmo K = true)
 have xe9_Unknown := Za (exAt m 218 rfl : Zom K = true)
 have xe9_ValueError := Za (exAt m 219 rfl : ZrG K = true)
 have xe0_Changed := Za (exAt m 220 rfl : Zr3 K = true)
 have xe0_Faulted := Za (exAt m 221 rfl : Zrk K = true)
 have xe0_Held := Za (exAt m 222 rfl : ZoJ K = true)
 have xe0_KeyError := Za (exAt m 223 rfl : Zrg K = true)
 have xe0_LookupError := Za (exAt m 224 rfl : Zmy K = true)
 have xe0_MakeError := Za (exAt m 225 rfl : ZpO K = true)
 have xe0_NoDeed := Za (exAt m 226 rfl : Zqf K = true)
 have xe0_NoPlace := Za (exAt m 227 rfl : ZlM K = true)
 have xe0_NoRow := Za (exAt m 228 rfl : ZlH K = true)
 have xe0_NoText := Za (exAt m 229 rfl : ZlR K = true)
 have xe0_NoView := Za (exAt m 230 rfl : ZqR K = true)
 have xe0_NoWay := Za (exAt m 231 rfl : ZnB K = true)
 have xe0_RuntimeError := Za (exAt m 232 rfl : Zmj K = true)
 have xe0_Taken := Za (exAt m 233 rfl : Zq0 K = true)
 have xe0_TooMany := Za (exAt m 234 rfl : Zpw K = true)
 have xe0_Unknown := Za (exAt m 235 rfl : ZmY K = true)
 have xe0_ValueError := Za (exAt m 236 rfl : ZpX K = true)
 have xe1_Changed := Za (exAt m 237 rfl : Zo9 K = true)
 have xe1_Faulted := Za (exAt m 238 rfl : Zrc K = true)
 have xe1_Held := Za (exAt m 239 rfl : ZqL K = true)
 have xe1_KeyError := Za (exAt m 240 rfl : ZrI K = true)
 have xe1_LookupError := Za (exAt m 241 rfl : ZmX K = true)
 have xe1_MakeError := Za (exAt m 242 rfl : ZlV K = true)
 have xe1_NoDeed := Za (exAt m 243 rfl : Znq K = true)
 have xe1_NoPlace := Za (exAt m 244 rfl : ZnY K = true)
 have xe1_NoRow := Za (exAt m 245 rfl : ZqX K = true)
 have xe1_NoText := Za (exAt m 246 rfl : ZrH K = true)
 have xe1_NoView := Za (exAt m 247 rfl : ZmC K = true)
 have xe1_NoWay := Za (exAt m 248 rfl : ZqB K = true)
 have xe1_RuntimeError := Za (exAt m 249 rfl : Zm8 K = true)
 have xe1_Taken := Za (exAt m 250 rfl : Znn K = true)
 have xe1_TooMany := Za (exAt m 251 rfl : ZpW K = true)
 have xe1_Unknown := Za (exAt m 252 rfl : Zlx K = true)
 have xe1_ValueError := Za (exAt m 253 rfl : Zlt K = true)
 have xe2_Changed := Za (exAt m 254 rfl : Zq8 K = true)
 have xe2_Faulted := Za (exAt m 255 rfl : ZrU K = true)
 have xe2_Held := Za (exAt m 256 rfl : ZmJ K = true)
 have xe2_KeyError := Za (exAt m 257 rfl : ZmN K = true)
 have xe2_LookupError := Za (exAt m 258 rfl : ZmH K = true)
 have xe2_MakeError := Za (exAt m 259 rfl : Znm K = true)
 have xe2_NoDeed := Za (exAt m 260 rfl : ZpA K = true)
 have xe2_NoPlace := Za (exAt m 261 rfl : Zol K = true)
 have xe2_NoRow := Za (exAt m 262 rfl : Zo0 K = true)
 have xe2_NoText := Za (exAt m 263 rfl : Zr2 K = true)
 have xe2_NoView := Za (exAt m 264 rfl : ZrJ K = true)
 have xe2_NoWay := Za (exAt m 265 rfl : Zqn K = true)
 have xe2_RuntimeError := Za (exAt m 266 rfl : ZpB K = true)
 have xe2_Taken := Za (exAt m 267 rfl : Zmu K = true)
 have xe2_TooMany := Za (exAt m 268 rfl : Zsd K = true)
 have xe2_Unknown := Za (exAt m 269 rfl : Zre K = true)
 have xe2_ValueError := Za (exAt m 270 rfl : ZqH K = true)
 have xe6_Changed := Za (exAt m 271 rfl : Znh K = true)
 have xe6_Faulted := Za (exAt m 272 rfl : Zq5 K = true)
 have xe6_Held := Za (exAt m 273 rfl : ZpQ K = true)
 have xe6_KeyError := Za (exAt m 274 rfl : ZrM K = true)
 have xe6_LookupError := Za (exAt m 275 rfl : Zry K = true)
 have xe6_MakeError := Za (exAt m 276 rfl : Zqx K = true)
 have xe6_NoDeed := Za (exAt m 277 rfl : ZqW K = true)
 have xe6_NoPlace := Za (exAt m 278 rfl : ZrR K = true)
 have xe6_NoRow := Za (exAt m 279 rfl : Zoj K = true)
 have xe6_NoText := Za (exAt m 280 rfl : Zsp K = true)
 have xe6_NoView := Za (exAt m 281 rfl : Zpy K = true)
 have xe6_NoWay := Za (exAt m 282 rfl : ZlJ K = true)
 have xe6_RuntimeError := Za (exAt m 283 rfl : Zsq K = true)
 have xe6_Taken := Za (exAt m 284 rfl : Zoo K = true)
 have xe6_TooMany := Za (exAt m 285 rfl : Zl1 K = true)
 have xe6_Unknown := Za (exAt m 286 rfl : ZlB K = true)
 have xe6_ValueError := Za (exAt m 287 rfl : Zqq K = true)
 have xe5_Changed := Za (exAt m 288 rfl : Zmb K = true)
 have xe5_Faulted := Za (exAt m 289 rfl : ZrZ K = true)
 have xe5_Held := Za (exAt m 290 rfl : Zsn K = true)
 have xe5_KeyError := Za (exAt m 291 rfl : ZqQ K = true)
 have xe5_LookupError := Za (exAt m 292 rfl : ZoW K = true)
 have xe5_MakeError := Za (exAt m 293 rfl : Zmz K = true)
 have xe5_NoDeed := Za (exAt m 294 rfl : ZmR K = true)
 have xe5_NoPlace := Za (exAt m 295 rfl : Zqs K = true)
 have xe5_NoRow := Za (exAt m 296 rfl : Zpg K = true)
 have xe5_NoText := Za (exAt m 297 rfl : ZlQ K = true)
 have xe5_NoView := Za (exAt m 298 rfl : ZnV K = true)
 have xe5_NoWay := Za (exAt m 299 rfl : Zsw K = true)
 have xe5_RuntimeError := Za (exAt m 300 rfl : ZnS K = true)
 have xe5_Taken := Za (exAt m 301 rfl : Zqw K = true)
 have xe5_TooMany := Za (exAt m 302 rfl : Zms K = true)
 have xe5_Unknown := Za (exAt m 303 rfl : Zni K = true)
 have xe5_ValueError := Za (exAt m 304 rfl : Zp6 K = true)
 have xe4_Changed := Za (exAt m 305 rfl : Zpk K = true)
 have xe4_Faulted := Za (exAt m 306 rfl : ZlE K = true)
 have xe4_Held := Za (exAt m 307 rfl : Zn3 K = true)
 have xe4_KeyError := Za (exAt m 308 rfl : ZsA K = true)
 have xe4_LookupError := Za (exAt m 309 rfl : ZpI K = true)
 have xe4_MakeError := Za (exAt m 310 rfl : ZpE K = true)
 have xe4_NoDeed := Za (exAt m 311 rfl : Zo1 K = true)
 have xe4_NoPlace := Za (exAt m 312 rfl : Zr9 K = true)
 have xe4_NoRow := Za (exAt m 313 rfl : Zpv K = true)
 have xe4_NoText := Za (exAt m 314 rfl : Zmm K = true)
 have xe4_NoView := Za (exAt m 315 rfl : ZlI K = true)
 have xe4_NoWay := Za (exAt m 316 rfl : ZmF K = true)
 have xe4_RuntimeError := Za (exAt m 317 rfl : Znu K = true)
 have xe4_Taken := Za (exAt m 318 rfl : ZpN K = true)
 have xe4_TooMany := Za (exAt m 319 rfl : Zoq K = true)
 have xe4_Unknown := Za (exAt m 320 rfl : Zny K = true)
 have xe4_ValueError := Za (exAt m 321 rfl : ZoR K = true)
 have xe8_Changed := Za (exAt m 322 rfl : ZnM K = true)
 have xe8_Faulted := Za (exAt m 323 rfl : ZnG K = true)
 have xe8_Held := Za (exAt m 324 rfl : ZmD K = true)
 have xe8_KeyError := Za (exAt m 325 rfl : Zp0 K = true)
 have xe8_LookupError := Za (exAt m 326 rfl : Zqt K = true)
 have xe8_MakeError := Za (exAt m 327 rfl : ZrD K = true)
 have xe8_NoDeed := Za (exAt m 328 rfl : ZrQ K = true)
 have xe8_NoPlace := Za (exAt m 329 rfl : Zns K = true)
 have xe8_NoRow := Za (exAt m 330 rfl : ZsC K = true)
 have xe8_NoText := Za (exAt m 331 rfl : Zsk K = true)
 have xe8_NoView := Za (exAt m 332 rfl : ZrK K = true)
 have xe8_NoWay := Za (exAt m 333 rfl : Zsc K = true)
 have xe8_RuntimeError := Za (exAt m 334 rfl : Zqc K = true)
 have xe8_Taken := Za (exAt m 335 rfl : Zpn K = true)
 have xe8_TooMany := Za (exAt m 336 rfl : ZoO K = true)
 have xe8_Unknown := Za (exAt m 337 rfl : Zp4 K = true)
 have xe8_ValueError := Za (exAt m 338 rfl : Zp1 K = true)
 have xe7_Changed := Za (exAt m 339 rfl : Znr K = true)
 have xe7_Faulted := Za (exAt m 340 rfl : Zr4 K = true)
 have xe7_Held := Za (exAt m 341 rfl : Zop K = true)
 have xe7_KeyError := Za (exAt m 342 rfl : ZpC K = true)
 have xe7_LookupError := Za (exAt m 343 rfl : Zl9 K = true)
 have xe7_MakeError := Za (exAt m 344 rfl : ZlF K = true)
 have xe7_NoDeed := Za (exAt m 345 rfl : Zm4 K = true)
 have xe7_NoPlace := Za (exAt m 346 rfl : ZqU K = true)
 have xe7_NoRow := Za (exAt m 347 rfl : Zr1 K = true)
 have xe7_NoText := Za (exAt m 348 rfl : Zoy K = true)
 have xe7_NoView := Za (exAt m 349 rfl : Zor K = true)
 have xe7_NoWay := Za (exAt m 350 rfl : Znz K = true)
 have xe7_RuntimeError := Za (exAt m 351 rfl : Zsz K = true)
 have xe7_Taken := Za (exAt m 352 rfl : ZnF K = true)
 have xe7_TooMany := Za (exAt m 353 rfl : ZnE K = true)
 have xe7_Unknown := Za (exAt m 354 rfl : Zng K = true)
 have xe7_ValueError := Za (exAt m 355 rfl : Zn5 K = true)
 have xe3_Changed := Za (exAt m 356 rfl : Zmw K = true)
 have xe3_Faulted := Za (exAt m 357 rfl : ZrL K = true)
 have xe3_Held := Za (exAt m 358 rfl : Zqk K = true)
 have xe3_KeyError := Za (exAt m 359 rfl : Zqj K = true)
 have xe3_LookupError := Za (exAt m 360 rfl : ZrF K = true)
 have xe3_MakeError := Za (exAt m 361 rfl : ZqP K = true)
 have xe3_NoDeed := Za (exAt m 362 rfl : ZlN K = true)
 have xe3_NoPlace := Za (exAt m 363 rfl : Zpj K = true)
 have xe3_NoRow := Za (exAt m 364 rfl : ZnA K = true)
 have xe3_NoText := Za (exAt m 365 rfl : Zrr K = true)
 have xe3_NoView := Za (exAt m 366 rfl : ZrS K = true)
 have xe3_NoWay := Za (exAt m 367 rfl : Zsi K = true)
 have xe3_RuntimeError := Za (exAt m 368 rfl : ZoB K = true)
 have xe3_Taken := Za (exAt m 369 rfl : ZmP K = true)
 have xe3_TooMany := Za (exAt m 370 rfl : Zrw K = true)
 have xe3_Unknown := Za (exAt m 371 rfl : Zse K = true)
 have xe3_ValueError := Za (exAt m 372 rfl : Zpd K = true)
 have xe12_Changed := Za (exAt m 373 rfl : Zm9 K = true)
 have xe12_Faulted := Za (exAt m 374 rfl : Zrb K = true)
 have xe12_Held := Za (exAt m 375 rfl : ZpL K = true)
 have xe12_KeyError := Za (exAt m 376 rfl : ZoY K = true)
 have xe12_LookupError := Za (exAt m 377 rfl : Zmh K = true)
 have xe12_MakeError := Za (exAt m 378 rfl : Zo6 K = true)
 have xe12_NoDeed := Za (exAt m 379 rfl : ZpH K = true)
 have xe12_NoPlace := Za (exAt m 380 rfl : Znv K = true)
 have xe12_NoRow := Za (exAt m 381 rfl : ZqM K = true)
 have xe12_NoText := Za (exAt m 382 rfl : ZrX K = true)
 have xe12_NoView := Za (exAt m 383 rfl : Zm0 K = true)
 have xe12_NoWay := Za (exAt m 384 rfl : ZoM K = true)
 have xe12_RuntimeError := Za (exAt m 385 rfl : ZnN K = true)
 have xe12_Taken := Za (exAt m 386 rfl : Zsm K = true)
 have xe12_TooMany := Za (exAt m 387 rfl : Zow K = true)
 have xe12_Unknown := Za (exAt m 388 rfl : Znc K = true)
 have xe12_ValueError := Za (exAt m 389 rfl : Zq4 K = true)
 have su10_11 := Za (exAt m 390 rfl : Zr5 K = true)
 have su11_11 := Za (exAt m 391 rfl : Zru K = true)
 have su9_11 := Za (exAt m 392 rfl : ZlT K = true)
 have su0_11 := Za (exAt m 393 rfl : ZoQ K = true)
 have su1_11 := Za (exAt m 394 rfl : Zlv K = true)
 have su2_11 := Za (exAt m 395 rfl : Zn9 K = true)
 have su6_11 := Za (exAt m 396 rfl : ZlL K = true)
 have su5_11 := Za (exAt m 397 rfl : Zsy K = true)
 have su4_11 := Za (exAt m 398 rfl : ZqT K = true)
 have su8_11 := Za (exAt m 399 rfl : ZmM K = true)
 have su7_11 := Za (exAt m 400 rfl : ZnJ K = true)
 have su3_11 := Za (exAt m 401 rfl : ZlK K = true)
 have su12_11 := Za (exAt m 402 rfl : ZnK K = true)
 obtain ⟨xv11, xc11⟩ := Zd2 (exAt m 403 rfl : ZnC K = true)
 have su10_9 := Za (exAt m 404 rfl : Zmk K = true)
 have su11_9 := Za (exAt m 405 rfl : Zo8 K = true)
 have su9_9 := Za (exAt m 406 rfl : ZlY K = true)
 have su0_9 := Za (exAt m 407 rfl : Zqp K = true)
 have su1_9 := Za (exAt m 408 rfl : Zrx K = true)
 have su2_9 := Za (exAt m 409 rfl : Zl8 K = true)
 have su6_9 := Za (exAt m 410 rfl : Znx K = true)
 have su5_9 := Za (exAt m 411 rfl : Zrt K = true)
 have su4_9 := Za (exAt m 412 rfl : ZoZ K = true)
 have su8_9 := Za (exAt m 413 rfl : ZpJ K = true)
 have su7_9 := Za (exAt m 414 rfl : Zpf K = true)
 have su3_9 := Za (exAt m 415 rfl : Zm3 K = true)
 have su12_9 := Za (exAt m 416 rfl : Zoc K = true)
 obtain ⟨xv9, xc9⟩ := Zd2 (exAt m 417 rfl : Zpq K = true)
 have su10_2 := Za (exAt m 418 rfl : ZnL K = true)
 have su11_2 := Za (exAt m 419 rfl : ZpU K = true)
 have su9_2 := Za (exAt m 420 rfl : Zp3 K = true)
 have su0_2 := Za (exAt m 421 rfl : Zr7 K = true)
 have su1_2 := Za (exAt m 422 rfl : ZrB K = true)
 have su2_2 := Za (exAt m 423 rfl : ZlS K = true)
 have su6_2 := Za (exAt m 424 rfl : ZmG K = true)
 have su5_2 := Za (exAt m 425 rfl : ZlC K = true)
 have su4_2 := Za (exAt m 426 rfl : Zmf K = true)
 have su8_2 := Za (exAt m 427 rfl : Zmd K = true)
 have su7_2 := Za (exAt m 428 rfl : ZoH K = true)
 have su3_2 := Za (exAt m 429 rfl : Zrl K = true)
 have su12_2 := Za (exAt m 430 rfl : Zn0 K = true)
 obtain ⟨xv2, xc2⟩ := Zd2 (exAt m 431 rfl : Zqr K = true)
 have su10_5 := Za (exAt m 432 rfl : Zoe K = true)
 have su11_5 := Za (exAt m 433 rfl : ZnU K = true)
 have su9_5 := Za (exAt m 434 rfl : Zmr K = true)
 have su0_5 := Za (exAt m 435 rfl : Zoz K = true)
 have su1_5 := Za (exAt m 436 rfl : ZlU K = true)
 have su2_5 := Za (exAt m 437 rfl : Zmc K = true)
 have su6_5 := Za (exAt m 438 rfl : Zsh K = true)
 have su5_5 := Za (exAt m 439 rfl : Zm7 K = true)
 have su4_5 := Za (exAt m 440 rfl : ZpV K = true)
 have su8_5 := Za (exAt m 441 rfl : Zlu K = true)
 have su7_5 := Za (exAt m 442 rfl : Zn6 K = true)
 have su3_5 := Za (exAt m 443 rfl : ZrW K = true)
 have su12_5 := Za (exAt m 444 rfl : Zm2 K = true)
 obtain ⟨xv5, xc5⟩ := Zd2 (exAt m 445 rfl : Zpm K = true)
 have su10_8 := Za (exAt m 446 rfl : Zmv K = true)
 have su11_8 := Za (exAt m 447 rfl : Zl6 K = true)
 have su9_8 := Za (exAt m 448 rfl : Zsa K = true)
 have su0_8 := Za (exAt m 449 rfl : ZoV K = true)
 have su1_8 := Za (exAt m 450 rfl : Zna K = true)
 have su2_8 := Za (exAt m 451 rfl : ZpF K = true)
 have su6_8 := Za (exAt m 452 rfl : Zn8 K = true)
 have su5_8 := Za (exAt m 453 rfl : Zqh K = true)
 have su4_8 := Za (exAt m 454 rfl : Zso K = true)
 have su8_8 := Za (exAt m 455 rfl : Zqe K = true)
 have su7_8 := Za (exAt m 456 rfl : Zob K = true)
 have su3_8 := Za (exAt m 457 rfl : Zqi K = true)
 have su12_8 := Za (exAt m 458 rfl : ZoP K = true)
 obtain ⟨xv8, xc8⟩ := Zd2 (exAt m 459 rfl : ZmZ K = true)
 have su10_7 := Za (exAt m 460 rfl : ZnD K = true)
 have su11_7 := Za (exAt m 461 rfl : ZrA K = true)
 have su9_7 := Za (exAt m 462 rfl : Zn1 K = true)
 have su0_7 := Za (exAt m 463 rfl : Zmp K = true)
 have su1_7 := Za (exAt m 464 rfl : ZnQ K = true)
 have su2_7 := Za (exAt m 465 rfl : ZpM K = true)
 have su6_7 := Za (exAt m 466 rfl : ZlX K = true)
 have su5_7 := Za (exAt m 467 rfl : Zod K = true)
 have su4_7 := Za (exAt m 468 rfl : Zl2 K = true)
 have su8_7 := Za (exAt m 469 rfl : Zrs K = true)
 have su7_7 := Za (exAt m 470 rfl : Zpb K = true)
 have su3_7 := Za (exAt m 471 rfl : Zr6 K = true)
 have su12_7 := Za (exAt m 472 rfl : Zm6 K = true)
 obtain ⟨xv7, xc7⟩ := Zd2 (exAt m 473 rfl : ZnI K = true)
 have su10_3 := Za (exAt m 474 rfl : ZqK K = true)
 have su11_3 := Za (exAt m 475 rfl : Zo2 K = true)
 have su9_3 := Za (exAt m 476 rfl : Zo3 K = true)
 have su0_3 := Za (exAt m 477 rfl : Zql K = true)
 have su1_3 := Za (exAt m 478 rfl : ZoT K = true)
 have su2_3 := Za (exAt m 479 rfl : ZrC K = true)
 have su6_3 := Za (exAt m 480 rfl : Zmt K = true)
 have su5_3 := Za (exAt m 481 rfl : Zmq K = true)
 have su4_3 := Za (exAt m 482 rfl : Zl4 K = true)
 have su8_3 := Za (exAt m 483 rfl : ZsE K = true)
 have su7_3 := Za (exAt m 484 rfl : ZoU K = true)
 have su3_3 := Za (exAt m 485 rfl : Znw K = true)
 have su12_3 := Za (exAt m 486 rfl : Zne K = true)
 obtain ⟨xv3, xc3⟩ := Zd2 (exAt m 487 rfl : ZnH K = true)
 have su10_12 := Za (exAt m 488 rfl : Zl3 K = true)
 have su11_12 := Za (exAt m 489 rfl : Zrh K = true)
 have su9_12 := Za (exAt m 490 rfl : Zqm K = true)
 have su0_12 := Za (exAt m 491 rfl : Zly K = true)
 have su1_12 := Za (exAt m 492 rfl : ZmI K = true)
 have su2_12 := Za (exAt m 493 rfl : Zma K = true)
 have su6_12 := Za (exAt m 494 rfl : Zpi K = true)
 have su5_12 := Za (exAt m 495 rfl : ZpT K = true)
 have su4_12 := Za (exAt m 496 rfl : ZlW K = true)
 have su8_12 := Za (exAt m 497 rfl : Zmg K = true)
 have su7_12 := Za (exAt m 498 rfl : ZmK K = true)
 have su3_12 := Za (exAt m 499 rfl : Zqd K = true)
 have su12_12 := Za (exAt m 500 rfl : Zlz K = true)
 obtain ⟨xv12, xc12⟩ := Zd2 (exAt m 501 rfl : ZoK K = true)
 obtain ⟨_, F0⟩ := c.t.d.def_ 0 (d := fd_0) rfl
 obtain ⟨_, _, _, _, _, _, _, _, _, l0, c0, k0⟩ := ZcD F0
 have i0 := (exAt m 502 rfl : Zqb K = true)
 obtain ⟨_, F1⟩ := c.t.d.def_ 1 (d := fd_1) rfl
 obtain ⟨_, _, _, _, _, _, _, _, _, l1, c1, k1⟩ := ZcD F1
 have i1 := (exAt m 503 rfl : Zp7 K = true)
 obtain ⟨_, F2⟩ := c.t.d.def_ 2 (d := fd_2) rfl
 obtain ⟨_, _, _, _, _, _, _, _, _, l2, c2, k2⟩ := ZcD F2
 have i2 := (exAt m 504 rfl : Zm1 K = true)
 obtain ⟨_, F3⟩ := c.t.d.def_ 3 (d := fd_3) rfl
 obtain ⟨_, _, _, _, _, _, _, _, _, l3, c3, k3⟩ := ZcD F3
 have i3 := (exAt m 505 rfl : Zrv K = true)
 obtain ⟨_, F4⟩ := c.t.d.def_ 4 (d := fd_4) rfl
 obtain ⟨_, _, _, _, _, _, _, _, _, l4, c4, k4⟩ := ZcD F4
 have i4 := (exAt m 506 rfl : Zpa K = true)
 obtain ⟨_, F5⟩ := c.t.d.def_ 5 (d := fd_5) rfl
 obtain ⟨_, _, _, _, _, _, _, _, _, l5, c5, k5⟩ := ZcD F5
 have i5 := (exAt m 507 rfl : Zls K = true)
 obtain ⟨_, F6⟩ := c.t.d.def_ 6 (d := fd_6) rfl
 obtain ⟨_, _, _, _, _, _, _, _, _, l6, c6, k6⟩ := ZcD F6
 have i6 := (exAt m 508 rfl : Zqa K = true)
 obtain ⟨_, F7⟩ := c.t.d.def_ 7 (d := fd_7) rfl
 obtain ⟨_, _, _, _, _, _, _, _, _, l7, c7, k7⟩ := ZcD F7
 have i7 := (exAt m 509 rfl : ZqF K = true)
 obtain ⟨_, F8⟩ := c.t.d.def_ 8 (d := fd_8) rfl
 obtain ⟨_, _, _, _, _, _, _, _, _, l8, c8, k8⟩ := ZcD F8
 obtain ⟨_, F9⟩ := c.t.d.def_ 9 (d := fd_9) rfl
 obtain ⟨_, _, _, _, _, _, _, _, _, l9, c9, k9⟩ := ZcD F9
 obtain ⟨_, F10⟩ := c.t.d.def_ 10 (d := ZuR) rfl
 obtain ⟨_, _, _, _, _, _, _, _, _, l10, c10, k10⟩ := ZcD F10
 obtain ⟨_, F11⟩ := c.t.d.def_ 11 (d := Zu1) rfl
 obtain ⟨_, _, _, _, _, _, _, _, _, l11, c11, k11⟩ := ZcD F11
 obtain ⟨_, F12⟩ := c.t.d.def_ 12 (d := ZtL) rfl
 obtain ⟨_, _, _, _, _, _, _, _, _, l12, c12, k12⟩ := ZcD F12
 have Zbf := He.eqO_ok (exAt m 510 rfl : ZqN K = true)
 have Zaa := He.eqO_ok (exAt m 511 rfl : Zp9 K = true)
 have Z4 := He.eqO_ok (exAt m 512 rfl : ZpD K = true)
 have Z8 := He.eqO_ok (exAt m 513 rfl : Znt K = true)
 have ZjX := He.eqO_ok (exAt m 514 rfl : Zrm K = true)
 have ZaJ := He.eqO_ok (exAt m 515 rfl : ZoD K = true)
 have Zj := He.eqO_ok (exAt m 516 rfl : ZnP K = true)
 have Zj1 := He.eqO_ok (exAt m 517 rfl : ZpR K = true)
 have Zgq := He.eqO_ok (exAt m 518 rfl : ZmU K = true)
 refine ⟨K, tfH.map fun p => (He.cT K p).2, X, fun P hP => ?_, ZtZ w X G a__law_fields a__law_kinds a__law_ones a__law_value a_law ih_ it_ ac10 xs10 xt10 xk10 xa10 xb10 xh10 xl10 xm10 xi10 ac11 xs11 xt11 xk11 xl11 xm11 lx11 rv11 xa11 xb11 xh11 sx11 ix11 tx11 nx11 ac9 xs9 xt9 xk9 xl9 xm9 lx9 rv9 xa9 xb9 xh9 sx9 ix9 tx9 nx9 ac0 xs0 xt0 xk0 xa0 xb0 xh0 xl0 xm0 xi0 ac1 xs1 xt1 xk1 xa1 xb1 xh1 xl1 xm1 xi1 ac2 xs2 xt2 xk2 xl2 xm2 lx2 rv2 xa2 xb2 xh2 sx2 ix2 tx2 nx2 ac6 xs6 xt6 xk6 xa6 xb6 xh6 xl6 xm6 xi6 ac5 xs5 xt5 xk5 xl5 xm5 lx5 rv5 xa5 xb5 xh5 sx5 ix5 tx5 nx5 ac4 xs4 xt4 xk4 xa4 xb4 xh4 xl4 xm4 xi4 ac8 xs8 xt8 xk8 xl8 xm8 lx8 rv8 xa8 xb8 xh8 sx8 ix8 tx8 nx8 ac7 xs7 xt7 xk7 xl7 xm7 lx7 rv7 xa7 xb7 xh7 sx7 ix7 tx7 nx7 ac3 xs3 xt3 xk3 xl3 xm3 lx3 rv3 xa3 xb3 xh3 sx3 ix3 tx3 nx3 ac12 xs12 xt12 xk12 xl12 xm12 lx12 rv12 xa12 xb12 xh12 sx12 ix12 tx12 nx12 xe10_Changed xe10_Faulted xe10_Held xe10_KeyError xe10_LookupError xe10_MakeError xe10_NoDeed xe10_NoPlace xe10_NoRow xe10_NoText xe10_NoView xe10_NoWay xe10_RuntimeError xe10_Taken xe10_TooMany xe10_Unknown xe10_ValueError xe11_Changed xe11_Faulted xe11_Held xe11_KeyError xe11_LookupError xe11_MakeError xe11_NoDeed xe11_NoPlace xe11_NoRow xe11_NoText xe11_NoView xe11_NoWay xe11_RuntimeError xe11_Taken xe11_TooMany xe11_Unknown xe11_ValueError xe9_Changed xe9_Faulted xe9_Held xe9_KeyError xe9_LookupError xe9_MakeError xe9_NoDeed xe9_NoPlace xe9_NoRow xe9_NoText xe9_NoView xe9_NoWay xe9_RuntimeError xe9_Taken xe9_TooMany xe9_Unknown xe9_ValueError xe0_Changed xe0_Faulted xe0_Held xe0_KeyError xe0_LookupError xe0_MakeError xe0_NoDeed xe0_NoPlace xe0_NoRow xe0_NoText xe0_NoView xe0_NoWay xe0_RuntimeError xe0_Taken xe0_TooMany xe0_Unknown xe0_ValueError xe1_Changed xe1_Faulted xe1_Held xe1_KeyError xe1_LookupError xe1_MakeError xe1_NoDeed xe1_NoPlace xe1_NoRow xe1_NoText xe1_NoView xe1_NoWay xe1_RuntimeError xe1_Taken xe1_TooMany xe1_Unknown xe1_ValueError xe2_Changed xe2_Faulted xe2_Held xe2_KeyError xe2_LookupError xe2_MakeError xe2_NoDeed xe2_NoPlace xe2_NoRow xe2_NoText xe2_NoView xe2_NoWay xe2_RuntimeError xe2_Taken xe2_TooMany xe2_Unknown xe2_ValueError xe6_Changed xe6_Faulted xe6_Held xe6_KeyError xe6_LookupError xe6_MakeError xe6_NoDeed xe6_NoPlace xe6_NoRow xe6_NoText xe6_NoView xe6_NoWay xe6_RuntimeError xe6_Taken xe6_TooMany xe6_Unknown xe6_ValueError xe5_Changed xe5_Faulted xe5_Held xe5_KeyError xe5_LookupError xe5_MakeError xe5_NoDeed xe5_NoPlace xe5_NoRow xe5_NoText xe5_NoView xe5_NoWay xe5_RuntimeError xe5_Taken xe5_TooMany xe5_Unknown xe5_ValueError xe4_Changed xe4_Faulted xe4_Held xe4_KeyError xe4_LookupError xe4_MakeError xe4_NoDeed xe4_NoPlace xe4_NoRow xe4_NoText xe4_NoView xe4_NoWay xe4_RuntimeError xe4_Taken xe4_TooMany xe4_Unknown xe4_ValueError xe8_Changed xe8_Faulted xe8_Held xe8_KeyError xe8_LookupError xe8_MakeError xe8_NoDeed xe8_NoPlace xe8_NoRow xe8_NoText xe8_NoView xe8_NoWay xe8_RuntimeError xe8_Taken xe8_TooMany xe8_Unknown xe8_ValueError xe7_Changed xe7_Faulted xe7_Held xe7_KeyError xe7_LookupError xe7_MakeError xe7_NoDeed xe7_NoPlace xe7_NoRow xe7_NoText xe7_NoView xe7_NoWay xe7_RuntimeError xe7_Taken xe7_TooMany xe7_Unknown xe7_ValueError xe3_Changed xe3_Faulted xe3_Held xe3_KeyError xe3_LookupError xe3_MakeError xe3_NoDeed xe3_NoPlace xe3_NoRow xe3_NoText xe3_NoView xe3_NoWay xe3_RuntimeError xe3_Taken xe3_TooMany xe3_Unknown xe3_ValueError xe12_Changed xe12_Faulted xe12_Held xe12_KeyError xe12_LookupError xe12_MakeError xe12_NoDeed xe12_NoPlace xe12_NoRow xe12_NoText xe12_NoView xe12_NoWay xe12_RuntimeError xe12_Taken xe12_TooMany xe12_Unknown xe12_ValueError su10_11 su11_11 su9_11 su0_11 su1_11 su2_11 su6_11 su5_11 su4_11 su8_11 su7_11 su3_11 su12_11 xc11 su10_9 su11_9 su9_9 su0_9 su1_9 su2_9 su6_9 su5_9 su4_9 su8_9 su7_9 su3_9 su12_9 xc9 su10_2 su11_2 su9_2 su0_2 su1_2 su2_2 su6_2 su5_2 su4_2 su8_2 su7_2 su3_2 su12_2 xc2 su10_5 su11_5 su9_5 su0_5 su1_5 su2_5 su6_5 su5_5 su4_5 su8_5 su7_5 su3_5 su12_5 xc5 su10_8 su11_8 su9_8 su0_8 su1_8 su2_8 su6_8 su5_8 su4_8 su8_8 su7_8 su3_8 su12_8 xc8 su10_7 su11_7 su9_7 su0_7 su1_7 su2_7 su6_7 su5_7 su4_7 su8_7 su7_7 su3_7 su12_7 xc7 su10_3 su11_3 su9_3 su0_3 su1_3 su2_3 su6_3 su5_3 su4_3 su8_3 su7_3 su3_3 su12_3 xc3 su10_12 su11_12 su9_12 su0_12 su1_12 su2_12 su6_12 su5_12 su4_12 su8_12 su7_12 su3_12 su12_12 xc12 l0 c0 k0 i0 l1 c1 k1 i1 l2 c2 k2 i2 l3 c3 k3 i3 l4 c4 k4 i4 l5 c5 k5 i5 l6 c6 k6 i6 l7 c7 k7 i7 l8 c8 k8 l9 c9 k9 l10 c10 k10 l11 c11 k11 l12 c12 k12 Zbf Zaa Z4 Z8 ZjX ZaJ Zj Zj1 Zgq⟩
 obtain ⟨p, hp, rfl⟩ := List.mem_map.mp hP
 exact c.empty p hp
theorem walk8 {l : W.OpenLaw} {q : Program} {loose : List Str} {XP : (Str -> Option Value) -> Heap -> Prop} {YP : World -> Heap -> Prop} {d : DefRec} (hn : l.most = some 63) (hq : importsNone q = true) (hdf : d.params.defaults = []) (hnm : d.name = "law")
  (yes : ∀ ns : List Int, ns.length <= 63 -> ∃ st, Phi prog 100 Zj0 [.kl (ns.map .int)] [] = .ok (.bl true) st) 
  (F : ∀ (w : World) (mg : Str -> Option Value) (h : Heap), YP w h -> h.Ns mainGlobals mg -> ∃ (K : Fr) (tsL : List Addr), K.In h /\ (∀ P ∈ tsL, h.get? P = some { cls := .none, data := .fields #[] }) /\ ∃ (fi : Nat -> FI) (ci : Nat -> Addr) (ti : Nat -> TI), mg "law" = some (.ref (fi 12).a) /\ ((∀ p ∈ ([] : List (Addr × Addr)), W.codeHdIn K p.1 p.2 = true /\ K.lookup p.2 = none /\ mainGlobals ≠ p.2 /\ p.2 ∈ tsL) /\ (([] : List (Addr × Addr)).map (·.2)).Nodup) /\ ∀ (P : Program) (base : Heap), (∃ o, base.get? sysModules = some o) -> (∀ p ∈ ([] : List (Addr × Addr)), LamX.TabB base mg p.1 p.2) -> Txt ⟨P, w, K, mg, base, faF fi, caF ci, nkF, nfrF, tbF ti, fun _ => none⟩ fi ci ti) :
  W.WalkO q loose XP YP l.row.toRowW d [] (fun f vs => PySem.call f vs) := by
 refine Att.attach_call hn hdf fun w s₀ s₁ mg mb fa o pm cd doc a vs ns G Y ho hd hcd hmg hobj hints hlen hg => ?_
 obtain ⟨K, tsL, kx, hT, fi, ci, ti, m1, ⟨tf, tn⟩, T⟩ := F w mg _ Y G.T.g
 rw [hnm, m1] at hmg
 cases hmg
 have hs : ∃ o es ep, s₁.heap.get? sysModules = some o /\ o.data = .dict es ep := by
  obtain ⟨mm, ⟨o, es, ep, e, d, _⟩, _⟩ := (G.T.seer hq).mods
  exact ⟨o, es, ep, e, d⟩
 obtain ⟨ct, hct⟩ : ∃ ct : List (Addr × Addr), ct = ([] : List (Addr × Addr)) := ⟨_, rfl⟩
 rw [<- hct] at tf tn T
 have hcd2 : ∀ p ∈ ct, W.CodeHd s₁.heap p.1 p.2 := fun p hp => W.codeHd_of_K kx (tf p hp).1
 have bmn := G.T.bmain
 have TBh : ∀ p ∈ ct, LamX.TabB s₁.heap mg p.1 p.2 := fun p hp => ⟨hcd2 p hp, Zz7 bmn G.T.g (hT _ (tf p hp).2.2.2), (tf p hp).2.2.1⟩
 have inT : ∀ {P : Addr}, P ∈ ct.map (·.2) -> ∃ p, p ∈ ct /\ p.2 = P := fun hp => List.mem_map.mp hp
 exact Zk2 (g := ⟨l.prog, w, K, mg, s₁.heap, faF fi, caF ci, nkF, nfrF, tbF ti, fun _ => none⟩) (tbs := ct.map (·.2)) (ct := ct) (k := 2 * 100 + 2) kx G.T.g G.T.b G.T.builtins G.T.nolimit hs hg hobj hints (Nat.le_trans hlen (by decide)) ⟨rfl, by decide, by decide⟩ (fun _ => rfl) (by rw [hct]; exact fun j P e => (by simp at e)) tn
  (fun P hp => let ⟨p, h1, h2⟩ := inT hp; h2 ▸ hT _ (tf p h1).2.2.2) rfl hcd2 (fun P hp => let ⟨p, h1, h2⟩ := inT hp; h2 ▸ (tf p h1).2.2.1) bmn (fun P hp => let ⟨p, h1, h2⟩ := inT hp; h2 ▸ (tf p h1).2.1)
  (fun b _ _ hb tb => (fns (T l.prog b hb tb) 100 (fun _ => none)).f_law) (T l.prog s₁.heap (let ⟨o, _, _, e, _⟩ := hs; ⟨o, e⟩) TBh).Ziw (by rw [hct]; exact yes ns hlen)
end Mi
open PySem PySem.W PySem.Calls PyProof.Rows in
set_option maxRecDepth 100000 in
set_option maxHeartbeats 0 in
theorem PySem.Challenge.cw_oneprotocol_k99_each_refusal_of_its_clas_holds : PySem.Challenge.rw_oneprotocol_k99_each_refusal_of_its_clas.Holds := by
 w_on; o_law
 refine HandSHeadRun.head_any (r := Mi.hdR) (q := Mi.qH) (H := Mi.hkH) (ob := Mi.obH) (M := 60000) (loose := Mi.nmsH) (d := HandSHeadRun.topDef Mi.hdR.prog 19) (kwd := []) Mi.obH_eq
  (by kernel_rfl) (fun s => by kernel_rfl) Mi.runH (by kernel_rfl) (by kernel_rfl) (by kernel_rfl) (by rfl) (by first | assumption | decide +kernel) (by decide +kernel) ⟨rfl, rfl, rfl, rfl, rfl, by decide +kernel⟩ ?hw ?hc
 case hw => w_witness2
 case hc => exact Mi.walk8 (l := PySem.Challenge.rw_oneprotocol_k99_each_refusal_of_its_clas) rfl (by kernel_rfl) (by kernel_rfl) (by kernel_rfl) Mi.yes fun w mg h Y G => Mi.factsH Y G