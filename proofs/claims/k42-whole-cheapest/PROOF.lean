import PyProof.Rows.All
import Wide.All
import OpenK.AllK
import Wide.FinOn
import KE.KStateDown
import HandS.ForMost
import HandS.ForExc
import HandS.Defaults
import HandS.Walk
import HandS.Flow
import HandS.Style
import HandS.IsInst
import HandS.Zip
import HandS.SortInts
import HandS.SetFor
import HandS.Strs
import HandS.Wide
import HandS.Head0
import HandS.Head1
import HandS.Head2
import HandS.HeadEnd
import HandS.HeadHook1
import HandS.HeadHook2
import HandS.Conv
import HandS.ExcIs
import HandS.ExcValue
import PyProof.ExcBaseAll.LookupError
import HandS.Sort
import KE.KDictZip
import HandS.MakeKw
import KE.KDictSum
import HandS.Deep
import HandS.Lambda
import HandS.EndTab
import HandS.HeadHook4
import HandS.HeadWalk
import KE.SortKeyHeap
import KE.SortData
import KE.DataCmp
import HandS.TupMul
import HandS.FStr
import HandS.RaiseMore
import HandS.Text
import KE.KFmtOwn
import PyProof.EqKinds
import HandS.OwnEq
import HandS.ExcInit
import HandS.ExcField
import KE.KExcInit
import KE.KExcIs
import HandS.CallLocal
import KE.KIntText
import KE.DataMinKey
import KE.KDictCopyH
import KE.KDictDisplayH
import HandS.DictTup
import PySem.Challenge.RW_pocketrow_k42_whole_cheapest
set_option Elab.async false
set_option linter.all false
set_option maxRecDepth 100000
set_option maxHeartbeats 4000000
/-! Part 0: what the head looks at. -/
namespace Pr
open PySem PySem.Spec PyProof.Rows L2
abbrev Fg := PySem.W.Frag
def tyCB (K : Fg) (C : Addr) : Bool := He.eqO (PySem.W.findIn K (.ref C) "__class__") (some (some (.builtin "object.__class__"))) && (He.eqO (PySem.W.specialIn K (.builtin "object.__class__") "__get__") (some (some (.builtin "getset_descriptor.__get__"))) &&
  (decide (PySem.W.takesIn K (.builtin "object.__class__") = some true) && decide (PySem.W.mroIn K C (.type "object") = some true)))
def kindsL : List Str := ["BadDeck", "Unlike", "BadMachine", "BadPlan", "BadRow", "TooMany", "BadNumber", "BadOffers", "BadKeys", "BadCards", "BadColumns", "Jammed", "NotJammed", "Nothing", "BadText"]
/-- the kinds at these places are told from all -/
def kindsI (is : List Nat) (K : Fg) : Bool := is.all fun i => kindsL.all fun y => decide (PySem.W.kitOne K (.ref (He.ga K (kindsL.getD i ""))) (.ref (He.ga K y)) = some (decide (kindsL.getD i "" = y)))
def excB (K : Fg) (x : Str) : Bool :=
  PySem.W.excIn K (He.ga K x) [.type "LookupError", .type "Exception", .type "BaseException", .type "object"] "LookupError.__new__" && PySem.W.keepIn K (.ref (He.ga K x)) &&
  decide (PySem.W.subIn K (.ref (He.ga K x)) (.type "BaseException") = some true) && decide (PySem.W.typeIn K (.ref (He.ga K x)) = some (.type "type")) &&
  He.eqO (PySem.W.findIn K (.ref (He.ga K x)) "__getattribute__") (some (some (.builtin "BaseException.__getattribute__"))) && He.eqO (PySem.W.findIn K (.ref (He.ga K x)) "__getattr__") (some none) &&
  PySem.W.hasDictIn K (He.ga K x) && He.eqO (PySem.W.findIn K (.ref (He.ga K x)) "__class__") (some (some (.builtin "object.__class__"))) &&
  He.eqO (PySem.W.specialIn K (.builtin "object.__class__") "__get__") (some (some (.builtin "getset_descriptor.__get__"))) && decide (PySem.W.takesIn K (.builtin "object.__class__") = some true) &&
  decide (PySem.W.mroIn K (He.ga K x) (.type "object") = some true) && decide (PySem.W.exmOne K (.ref (He.ga K x)) (.ref (He.ga K "SortError")) = some true) && decide (PySem.W.kitOne K (.ref (He.ga K x)) (.type "LookupError") = some true)
abbrev leTail : List Value := [.type "LookupError", .type "Exception", .type "BaseException", .type "object"]
/-- an own exception class whose __init__ stores into f -/
def jamB (K : Fg) (x f : Str) : Bool :=
  PySem.W.excInitIn K (He.ga K x) leTail "LookupError.__new__" && ((PySem.W.clsIn K (He.ga K x)).any fun cd => PySem.W.excTail leTail cd.mro && !cd.mro.isEmpty && cd.hasDict) &&
  He.eqO (PySem.W.findIn K (.ref (He.ga K x)) "__setattr__") (some (some (.builtin "object.__setattr__"))) && decide (PySem.W.subIn K (.ref (He.ga K x)) (.type "BaseException") = some true) && decide (PySem.W.typeIn K (.ref (He.ga K x)) = some (.type "type")) && PySem.W.keepIn K (.ref (He.ga K x)) &&
  He.eqO (PySem.W.findIn K (.ref (He.ga K x)) f) (some none) && He.eqO (PySem.W.findIn K (.ref (He.ga K x)) "__init__") (some (some (.ref (He.ma K (He.ga K x) "__init__")))) && decide (PySem.W.typeIn K (.ref (He.ma K (He.ga K x) "__init__")) = some (.type "function")) &&
  He.eqO (PySem.W.findIn K (.ref (He.ga K x)) "__getattribute__") (some (some (.builtin "BaseException.__getattribute__"))) && He.eqO (PySem.W.findIn K (.ref (He.ga K x)) "__getattr__") (some none) &&
  PySem.W.hasDictIn K (He.ga K x) && He.eqO (PySem.W.findIn K (.ref (He.ga K x)) "__class__") (some (some (.builtin "object.__class__"))) &&
  He.eqO (PySem.W.specialIn K (.builtin "object.__class__") "__get__") (some (some (.builtin "getset_descriptor.__get__"))) && decide (PySem.W.takesIn K (.builtin "object.__class__") = some true) &&
  decide (PySem.W.mroIn K (He.ga K x) (.type "object") = some true) && decide (PySem.W.exmOne K (.ref (He.ga K x)) (.ref (He.ga K "SortError")) = some true) && decide (PySem.W.kitOne K (.ref (He.ga K x)) (.type "LookupError") = some true) && decide (PySem.W.exmOne K (.ref (He.ga K x)) (.ref (He.ga K x)) = some true)
/-- the kinds at these places are not caught as x -/
def notX (K : Fg) (x : Str) (is : List Nat) : Bool := is.all fun i => decide (kindsL.getD i "" = x) || decide (PySem.W.exmOne K (.ref (He.ga K (kindsL.getD i ""))) (.ref (He.ga K x)) = some false)
def obsX (ck : List (Fg → Bool)) (fa : List He.Fa) (fn : List He.DefD) (K : Fg) : Bool × He.AlD := (ck.all fun f => f K, He.obsD fa fn K)
def obsXG (n : Nat) (ck : List (Fg → Bool)) (fa : List He.Fa) (fn : List He.DefD) (g : Addr → Option Obj) : Bool × He.AlD := obsX ck fa fn (He.frG g (He.asD g n))
def SaysX (ck : List (Fg → Bool)) (fa : List He.Fa) (fn : List He.DefD) (K : Fg) : Prop := He.SaysD fa fn K ∧ (ck.all fun f => f K) = true
theorem ck_at {K : Fg} {ck : List (Fg → Bool)} (h : (ck.all fun f => f K) = true) (i : Nat) {f : Fg → Bool} (e : ck[i]? = some f) : f K = true := List.all_eq_true.mp h f (List.mem_of_getElem? e)
def hookX (n : Nat) (ck : List (Fg → Bool)) (fa : List He.Fa) (fn : List He.DefD) : PySem.W.Hook where
  α := Bool × He.AlD
  obs := fun s => obsXG n ck fa fn s.heap.get?
  val := fun _ => (true, He.valD fn)
  says := fun _ h => ∃ K : PySem.W.Frag, K.In h ∧ SaysX ck fa fn K
  of := fun _ _ e => ⟨_, He.frG_in, congrArg (fun z : Bool × He.AlD => z.2) e, congrArg (fun z : Bool × He.AlD => z.1) e⟩
  keeps := fun _ _ _ ⟨K, hK, c⟩ k => ⟨K, PySem.W.Frag.In.keeps hK k, c⟩
theorem obsXG_eq {n : Nat} {ck : List (Fg → Bool)} {fa : List He.Fa} {fn : List He.DefD} {g : Addr → Option Obj} {s : Shared} (h : ∀ a, g a = s.heap.get? a) : obsXG n ck fa fn g = (hookX n ck fa fn).obs s := by
  have e : g = s.heap.get? := funext h
  rw [e] <;> rfl
/-! ### the head, with tables -/
def obsYG (n : Nat) (ck : List (Fg → Bool)) (fa : List He.Fa) (fn : List He.DefD) (tf : List He.Defn) (g : Addr → Option Obj) : Bool × He.AlD := ((ck.all fun f => f (He.frT g (He.asD g n))) && He.tabsB g tf (He.frT g (He.asD g n)), He.obsD fa fn (He.frT g (He.asD g n)))
def SaysY (ck : List (Fg → Bool)) (fa : List He.Fa) (fn : List He.DefD) (tf : List He.Defn) (h : Heap) (K : Fg) : Prop := SaysX ck fa fn K ∧ ∀ p ∈ tf, PySem.W.codeHdIn K (He.cT K p).1 (He.cT K p).2 = true ∧ K.lookup (He.cT K p).2 = none ∧ h.get? (He.cT K p).2 = some { cls := .none, data := .fields #[] }
def hookY (n : Nat) (ck : List (Fg → Bool)) (fa : List He.Fa) (fn : List He.DefD) (tf : List He.Defn) : PySem.W.Hook where
  α := Bool × He.AlD
  obs := fun s => obsYG n ck fa fn tf s.heap.get?
  val := fun _ => (true, He.valD fn)
  says := fun _ h => ∃ K : PySem.W.Frag, K.In h ∧ SaysY ck fa fn tf h K
  of := fun _ h e => by
    obtain ⟨e1, e2⟩ := He.ba (congrArg (fun z : Bool × He.AlD => z.1) e)
    refine ⟨_, He.frT_in, ⟨congrArg (fun z : Bool × He.AlD => z.2) e, e1⟩, fun p hp => ?_⟩
    obtain ⟨h3, h4⟩ := He.ba (List.all_eq_true.mp e2 p hp)
    refine ⟨h3, ?_⟩
    revert h4
    generalize hq : h.heap.get? (He.cT (He.frT h.heap.get? (He.asD h.heap.get? n)) p).2 = r
    cases r with
    | none => exact fun z => by cases z
    | some o => exact fun z => ⟨He.frT_none hq z, by rw [He.emptyTab_eq z]⟩
  keeps := fun _ _ _ ⟨K, hK, c, t⟩ k => ⟨K, PySem.W.Frag.In.keeps hK k, c, fun p hp => let ⟨a, b, d⟩ := t p hp; ⟨a, b, k _ _ d⟩⟩
theorem obsYG_eq {n : Nat} {ck : List (Fg → Bool)} {fa : List He.Fa} {fn : List He.DefD} {tf : List He.Defn} {g : Addr → Option Obj} {s : Shared} (h : ∀ a, g a = s.heap.get? a) : obsYG n ck fa fn tf g = (hookY n ck fa fn tf).obs s := by
  have e : g = s.heap.get? := funext h
  rw [e] <;> rfl
end Pr
/-! ### the text by places -/
namespace Pr
open PySem L2
def top (i : Nat) : Stmt := PySem.Challenge.pw_pocketrow_k42_whole_cheapest.main.body.getD i (.Pass ⟨0, 0, 0, 0⟩)
abbrev s_is_number : Stmt := top 20
abbrev s_is_cards : Stmt := top 21
abbrev s_is_machine : Stmt := top 25
abbrev s_is_offer : Stmt := top 27
abbrev s_cheapest : Stmt := top 28
abbrev s__law_town : Stmt := top 30
abbrev s__law_draw : Stmt := top 31
abbrev s__law_pick : Stmt := top 32
abbrev s__law_word : Stmt := top 33
abbrev s__law_refused : Stmt := top 34
abbrev s__law_told : Stmt := top 35
abbrev s__law_whole : Stmt := top 36
abbrev s__law_cards : Stmt := top 37
abbrev s__law_rising : Stmt := top 38
abbrev s__law_falling : Stmt := top 39
abbrev s__law_machine : Stmt := top 40
abbrev s__law_room : Stmt := top 41
abbrev s__law_odd : Stmt := top 42
abbrev s__law_one : Stmt := top 43
abbrev s__law_least : Stmt := top 44
abbrev s_law : Stmt := top 45
abbrev s_Deck___init__ : Stmt := inClass (top 22) 0
abbrev s_Deck_places : Stmt := inClass (top 22) 6
abbrev s_Deck_rising : Stmt := inClass (top 22) 7
abbrev s_Deck_falling : Stmt := inClass (top 22) 8
abbrev kxI : List Nat := [7]
end Pr
namespace Pr
open PySem PySem.Spec PyProof.Rows L2
def d_is_number : He.DefD := ⟨("is_number", none), "is_number", "is_number", defArgs s_is_number, defBody s_is_number, defScope s_is_number, [], []⟩
def d_is_cards : He.DefD := ⟨("is_cards", none), "is_cards", "is_cards", defArgs s_is_cards, defBody s_is_cards, defScope s_is_cards, [], []⟩
def d_is_machine : He.DefD := ⟨("is_machine", none), "is_machine", "is_machine", defArgs s_is_machine, defBody s_is_machine, defScope s_is_machine, [], []⟩
def d_is_offer : He.DefD := ⟨("is_offer", none), "is_offer", "is_offer", defArgs s_is_offer, defBody s_is_offer, defScope s_is_offer, [], []⟩
def d_cheapest : He.DefD := ⟨("cheapest", none), "cheapest", "cheapest", defArgs s_cheapest, defBody s_cheapest, defScope s_cheapest, [], []⟩
def d__law_town : He.DefD := ⟨("_law_town", none), "_law_town", "_law_town", defArgs s__law_town, defBody s__law_town, defScope s__law_town, [], []⟩
def d__law_draw : He.DefD := ⟨("_law_draw", none), "_law_draw", "_law_draw", defArgs s__law_draw, defBody s__law_draw, defScope s__law_draw, [], []⟩
def d__law_pick : He.DefD := ⟨("_law_pick", none), "_law_pick", "_law_pick", defArgs s__law_pick, defBody s__law_pick, defScope s__law_pick, [], []⟩
def d__law_word : He.DefD := ⟨("_law_word", none), "_law_word", "_law_word", defArgs s__law_word, defBody s__law_word, defScope s__law_word, [], []⟩
def d__law_refused : He.DefD := ⟨("_law_refused", none), "_law_refused", "_law_refused", defArgs s__law_refused, defBody s__law_refused, defScope s__law_refused, [], []⟩
def d__law_told : He.DefD := ⟨("_law_told", none), "_law_told", "_law_told", defArgs s__law_told, defBody s__law_told, defScope s__law_told, [], []⟩
def d__law_whole : He.DefD := ⟨("_law_whole", none), "_law_whole", "_law_whole", defArgs s__law_whole, defBody s__law_whole, defScope s__law_whole, [], []⟩
def d__law_cards : He.DefD := ⟨("_law_cards", none), "_law_cards", "_law_cards", defArgs s__law_cards, defBody s__law_cards, defScope s__law_cards, [], []⟩
def d__law_rising : He.DefD := ⟨("_law_rising", none), "_law_rising", "_law_rising", defArgs s__law_rising, defBody s__law_rising, defScope s__law_rising, [], []⟩
def d__law_falling : He.DefD := ⟨("_law_falling", none), "_law_falling", "_law_falling", defArgs s__law_falling, defBody s__law_falling, defScope s__law_falling, [], []⟩
def d__law_machine : He.DefD := ⟨("_law_machine", none), "_law_machine", "_law_machine", defArgs s__law_machine, defBody s__law_machine, defScope s__law_machine, [], []⟩
def d__law_room : He.DefD := ⟨("_law_room", none), "_law_room", "_law_room", defArgs s__law_room, defBody s__law_room, defScope s__law_room, [], []⟩
def d__law_odd : He.DefD := ⟨("_law_odd", none), "_law_odd", "_law_odd", defArgs s__law_odd, defBody s__law_odd, defScope s__law_odd, [], []⟩
def d__law_one : He.DefD := ⟨("_law_one", none), "_law_one", "_law_one", defArgs s__law_one, defBody s__law_one, defScope s__law_one, [], []⟩
def d__law_least : He.DefD := ⟨("_law_least", none), "_law_least", "_law_least", defArgs s__law_least, defBody s__law_least, defScope s__law_least, [], []⟩
def d_law : He.DefD := ⟨("law", none), "law", "law", defArgs s_law, defBody s_law, defScope s_law, [], []⟩
def d_Deck___init__ : He.DefD := ⟨("Deck", some "__init__"), "__init__", "Deck.__init__", defArgs s_Deck___init__, defBody s_Deck___init__, defScope s_Deck___init__, [], []⟩
def d_Deck_places : He.DefD := ⟨("Deck", some "places"), "places", "Deck.places", defArgs s_Deck_places, defBody s_Deck_places, defScope s_Deck_places, [], []⟩
def d_Deck_rising : He.DefD := ⟨("Deck", some "rising"), "rising", "Deck.rising", defArgs s_Deck_rising, defBody s_Deck_rising, defScope s_Deck_rising, [], []⟩
def d_Deck_falling : He.DefD := ⟨("Deck", some "falling"), "falling", "Deck.falling", defArgs s_Deck_falling, defBody s_Deck_falling, defScope s_Deck_falling, [], []⟩
def fn : List He.DefD := [d_is_number, d_is_cards, d_is_machine, d_is_offer, d_cheapest, d__law_town, d__law_draw, d__law_pick, d__law_word, d__law_refused, d__law_told, d__law_whole, d__law_cards, d__law_rising, d__law_falling, d__law_machine, d__law_room, d__law_odd, d__law_one, d__law_least, d_law, d_Deck___init__, d_Deck_places, d_Deck_rising, d_Deck_falling]
def fa0 : List He.Fa := [.free "LookupError", .free "all", .free "bool", .free "enumerate", .free "int", .free "isinstance", .free "len", .free "list", .free "min", .free "range", .free "set", .free "sorted", .free "str", .free "sum", .free "tuple", .free "zip", .int "MOST_CARDS" 40, .int "MOST_POCKETS" 300, .glo "is_number", .glo "is_cards", .glo "is_machine", .glo "is_offer", .glo "cheapest", .glo "_law_town", .glo "_law_draw", .glo "_law_pick", .glo "_law_word", .glo "_law_refused", .glo "_law_told", .glo "_law_whole"]
def fa1 : List He.Fa := [.glo "_law_cards", .glo "_law_rising", .glo "_law_falling", .glo "_law_machine", .glo "_law_room", .glo "_law_odd", .glo "_law_one", .glo "_law_least", .glo "law", .glo "Deck", .cls "Deck", .mkr "Deck", .noat "Deck" "pile", .meth "Deck" "places", .meth "Deck" "rising", .meth "Deck" "falling", .glo "SortError", .glo "BadDeck", .glo "Unlike", .glo "BadMachine", .glo "BadPlan", .glo "BadRow", .glo "TooMany", .glo "BadNumber", .glo "BadOffers", .glo "BadKeys", .glo "BadCards", .glo "BadColumns", .glo "Jammed", .glo "NotJammed"]
def fa2 : List He.Fa := [.glo "Nothing", .glo "BadText"]
def fa : List He.Fa := fa0 ++ fa1 ++ fa2
def ckl : List (Fg → Bool) := [fun K => He.eqO (PySem.W.findIn K (.ref (He.ga K "Deck")) "__ne__") (some (some (.builtin "object.__ne__"))),
  fun K => decide (PySem.W.subIn K (.ref (He.ga K "Deck")) (.type "object") = some true),
  fun K => tyCB K (He.ga K "Deck"),
  fun K => excB K "BadOffers",
  kindsI kxI]
def nm0 : List Str := ["_wall", "SortError", "BadDeck", "Unlike", "BadMachine", "BadPlan", "BadRow", "TooMany", "BadNumber", "BadOffers", "BadKeys", "BadCards", "BadColumns", "Jammed", "NotJammed", "Nothing", "BadText", "MOST_CARDS", "is_number", "is_cards", "Deck", "MOST_POCKETS", "is_machine", "is_offer", "cheapest", "_law_town", "_law_draw", "_law_pick", "_law_word", "_law_refused"]
def nm1 : List Str := ["_law_told", "_law_whole", "_law_cards", "_law_rising", "_law_falling", "_law_machine", "_law_room", "_law_odd", "_law_one", "_law_least"]
def nm : List Str := nm0 ++ nm1
abbrev R : PySem.W.OpenRow := PySem.W.OpenLaw.row PySem.Challenge.rw_pocketrow_k42_whole_cheapest
def tf : List He.Defn := [("cheapest", none)]
abbrev hk : PySem.W.Hook := hookY 6 ckl fa fn tf
def ob (s : PySem.W.SharedT) : Bool × He.AlD := obsYG 6 ckl fa fn tf (HandSHeadRun.getT s)
theorem ob_eq (s : PySem.W.SharedT) : ob s = hk.obs s.abs := obsYG_eq (HandSHeadRun.getT_eq s)
set_option maxHeartbeats 0 in
theorem run_top (w : World) : HandSHeadRun.RunEq R (PySem.W.view R.prog [45]) hk ob 20000 nm w := by
  intro os
  kernel_rfl
end Pr
/-! Part A: data, what denotes what, worlds, judgements (own work). -/
namespace Pr
open PySem L2
/-- data -/
inductive D where
  | non | bl (b : Bool) | int (i : Int) | str (x : Str) | ref (a : Addr) | ty (n : String)
  | lst (xs : List D) | tup (xs : List D) | ins (C : Addr) (ns : List Str) (ds : List D) | scr (ns : List Int) | dic (ks : List Int)
mutual
/-- a value denotes a datum in an immutable part of the heap -/
inductive Den (K : Fg) (H : Hp) : V → D → Prop
  | non : Den K H .non .non
  | bl (b : Bool) : Den K H (.bl b) (.bl b)
  | int (i : Int) : Den K H (.int i) (.int i)
  | str (x : Str) : Den K H (.str x) (.str x)
  | ref (a : Addr) : Den K H (.ref a) (.ref a)
  | ty (n : String) : Den K H (.ty n) (.ty n)
  | lst {a : Addr} {vs : List V} {ds : List D} : H a = some (.lst vs) → Dens K H vs ds → Den K H (.ref a) (.lst ds)
  | tup {a : Addr} {vs : List V} {ds : List D} : H a = some (.tup vs) → Dens K H vs ds → Den K H (.ref a) (.tup ds)
  | scr {a : Addr} {ns : List Int} : SqL K H a (ns.map V.int) → Den K H (.ref a) (.scr ns)
  | ins {a C dx : Addr} {fs : List (Str × V)} {ns : List Str} {ds : List D} : H a = some (.ins C dx fs) → fs.map (·.1) = ns → Dens K H (fs.map (·.2)) ds → Den K H (.ref a) (.ins C ns ds)
  | dic {a : Addr} {kvs : List (Key × V)} {ks : List Int} : H a = some (.dK kvs) → kvs.map (·.1) = ks.map Sum.inl → Den K H (.ref a) (.dic ks)
inductive Dens (K : Fg) (H : Hp) : List V → List D → Prop
  | nil : Dens K H [] []
  | cons {v : V} {vs : List V} {d : D} {ds : List D} : Den K H v d → Dens K H vs ds → Dens K H (v :: vs) (d :: ds)
end
theorem same_seqT {K : Fg} {H H' : Hp} {a : Addr} {xs : List V} (e : Same H H') (h : SqT K H a xs) : SqT K H' a xs := by
  rcases h with (h | ⟨o, h⟩) | h
  · exact .inl (.inl (e _ _ h))
  · exact .inl (.inr ⟨o, e _ _ h⟩)
  · exact .inr h
mutual
theorem Den.up {K : Fg} {H H' : Hp} (e : Same H H') : ∀ {v : V} {d : D}, Den K H v d → Den K H' v d
  | _, _, .non => .non
  | _, _, .bl b => .bl b
  | _, _, .int b => .int b
  | _, _, .str b => .str b
  | _, _, .ref b => .ref b
  | _, _, .ty b => .ty b
  | _, _, .lst h t => .lst (e _ _ h) (Dens.up e t)
  | _, _, .tup h t => .tup (e _ _ h) (Dens.up e t)
  | _, _, .scr h => .scr (e.seq h)
  | _, _, .ins h n t => .ins (e _ _ h) n (Dens.up e t)
  | _, _, .dic h n => .dic (e _ _ h) n
theorem Dens.up {K : Fg} {H H' : Hp} (e : Same H H') : ∀ {vs : List V} {ds : List D}, Dens K H vs ds → Dens K H' vs ds
  | _, _, .nil => .nil
  | _, _, .cons h t => .cons (Den.up e h) (Dens.up e t)
end
theorem Dens.length {K : Fg} {H : Hp} : ∀ {vs : List V} {ds : List D}, Dens K H vs ds → vs.length = ds.length
  | _, _, .nil => rfl
  | _, _, .cons _ t => by rw [List.length_cons, List.length_cons, t.length]
theorem Dens.get {K : Fg} {H : Hp} : ∀ {vs : List V} {ds : List D} {i : Nat} {d : D}, Dens K H vs ds → ds[i]? = some d → ∃ v, vs[i]? = some v ∧ Den K H v d
  | _, _, _, _, .nil, e => by simp at e
  | _, _, 0, _, .cons h _, e => by simp at e; subst e; exact ⟨_, rfl, h⟩
  | _, _, i + 1, _, .cons _ t, e => by
    obtain ⟨v, h1, h2⟩ := Dens.get (i := i) t (by simpa using e)
    exact ⟨v, by simpa using h1, h2⟩
theorem Dens.getV {K : Fg} {H : Hp} : ∀ {vs : List V} {ds : List D} {i : Nat} {v : V}, Dens K H vs ds → vs[i]? = some v → ∃ d, ds[i]? = some d ∧ Den K H v d
  | _, _, _, _, .nil, e => by simp at e
  | _, _, 0, _, .cons h _, e => by simp at e; subst e; exact ⟨_, rfl, h⟩
  | _, _, i + 1, _, .cons _ t, e => by
    obtain ⟨v, h1, h2⟩ := Dens.getV (i := i) t (by simpa using e)
    exact ⟨v, by simpa using h1, h2⟩
theorem Dens.append {K : Fg} {H : Hp} : ∀ {vs ws : List V} {ds es : List D}, Dens K H vs ds → Dens K H ws es → Dens K H (vs ++ ws) (ds ++ es)
  | _, _, _, _, .nil, h => h
  | _, _, _, _, .cons h t, s => .cons h (Dens.append t s)
theorem Dens.take {K : Fg} {H : Hp} : ∀ {vs : List V} {ds : List D} (n : Nat), Dens K H vs ds → Dens K H (vs.take n) (ds.take n)
  | _, _, 0, _ => by simp; exact .nil
  | _, _, _ + 1, .nil => by simp; exact .nil
  | _, _, n + 1, .cons h t => .cons h (Dens.take n t)
theorem Dens.drop {K : Fg} {H : Hp} : ∀ {vs : List V} {ds : List D} (n : Nat), Dens K H vs ds → Dens K H (vs.drop n) (ds.drop n)
  | _, _, 0, h => h
  | _, _, _ + 1, .nil => .nil
  | _, _, n + 1, .cons _ t => Dens.drop n t
theorem Dens.set {K : Fg} {H : Hp} {v : V} {d : D} (h : Den K H v d) : ∀ {vs : List V} {ds : List D} (n : Nat), Dens K H vs ds → Dens K H (vs.set n v) (ds.set n d)
  | _, _, _, .nil => .nil
  | _, _, 0, .cons _ t => .cons h t
  | _, _, n + 1, .cons q t => .cons q (Dens.set h n t)
theorem Dens.reverse {K : Fg} {H : Hp} : ∀ {vs : List V} {ds : List D}, Dens K H vs ds → Dens K H vs.reverse ds.reverse
  | _, _, .nil => .nil
  | _, _, .cons h t => by
    rw [List.reverse_cons, List.reverse_cons]
    exact (Dens.reverse t).append (.cons h .nil)
theorem Dens.eraseIdx {K : Fg} {H : Hp} : ∀ {vs : List V} {ds : List D} (n : Nat), Dens K H vs ds → Dens K H (vs.eraseIdx n) (ds.eraseIdx n)
  | _, _, _, .nil => .nil
  | _, _, 0, .cons _ t => t
  | _, _, n + 1, .cons q t => .cons q (Dens.eraseIdx n t)
/-- ints, bools, texts: the values are told -/
theorem Den.int_eq {K : Fg} {H : Hp} {v : V} {i : Int} (h : Den K H v (.int i)) : v = .int i := by cases h; rfl
theorem Den.bl_eq {K : Fg} {H : Hp} {v : V} {i : Bool} (h : Den K H v (.bl i)) : v = .bl i := by cases h; rfl
theorem Den.str_eq {K : Fg} {H : Hp} {v : V} {i : Str} (h : Den K H v (.str i)) : v = .str i := by cases h; rfl
theorem Den.ref_eq {K : Fg} {H : Hp} {v : V} {i : Addr} (h : Den K H v (.ref i)) : v = .ref i := by cases h; rfl
theorem Den.non_eq {K : Fg} {H : Hp} {v : V} (h : Den K H v .non) : v = .non := by cases h; rfl
theorem Den.lst_out {K : Fg} {H : Hp} {v : V} {ds : List D} (h : Den K H v (.lst ds)) : ∃ a vs, v = .ref a ∧ H a = some (.lst vs) ∧ Dens K H vs ds := by
  cases h with | lst h t => exact ⟨_, _, rfl, h, t⟩
theorem Den.tup_out {K : Fg} {H : Hp} {v : V} {ds : List D} (h : Den K H v (.tup ds)) : ∃ a vs, v = .ref a ∧ H a = some (.tup vs) ∧ Dens K H vs ds := by
  cases h with | tup h t => exact ⟨_, _, rfl, h, t⟩
theorem Den.scr_out {K : Fg} {H : Hp} {v : V} {ns : List Int} (h : Den K H v (.scr ns)) : ∃ a, v = .ref a ∧ SqL K H a (ns.map V.int) := by
  cases h with | scr h => exact ⟨_, rfl, h⟩
theorem Den.ins_out {K : Fg} {H : Hp} {v : V} {C : Addr} {ns : List Str} {ds : List D} (h : Den K H v (.ins C ns ds)) : ∃ a dx fs, v = .ref a ∧ H a = some (.ins C dx fs) ∧ fs.map (·.1) = ns ∧ Dens K H (fs.map (·.2)) ds := by
  cases h with | ins h n t => exact ⟨_, _, _, rfl, h, n, t⟩
theorem Dens.cons_out {K : Fg} {H : Hp} {vs : List V} {d : D} {ds : List D} (h : Dens K H vs (d :: ds)) : ∃ v ws, vs = v :: ws ∧ Den K H v d ∧ Dens K H ws ds := by
  cases h with | cons h t => exact ⟨_, _, rfl, h, t⟩
theorem Dens.nil_out {K : Fg} {H : Hp} {vs : List V} (h : Dens K H vs []) : vs = [] := by cases h; rfl
abbrev iL (xs : List Int) : List D := xs.map D.int
abbrev sL (xs : List Str) : List D := xs.map D.str
abbrev bL (xs : List Bool) : List D := xs.map D.bl
theorem Dens.ints_eq {K : Fg} {H : Hp} : ∀ {vs : List V} {xs : List Int}, Dens K H vs (iL xs) → vs = xs.map V.int
  | _, [], h => by cases h; rfl
  | _, x :: xs, h => by
    cases h with
    | cons h t => rw [h.int_eq, Dens.ints_eq (xs := xs) t]; rfl
theorem Dens.strs_eq {K : Fg} {H : Hp} : ∀ {vs : List V} {xs : List Str}, Dens K H vs (sL xs) → vs = xs.map V.str
  | _, [], h => by cases h; rfl
  | _, x :: xs, h => by
    cases h with
    | cons h t => rw [h.str_eq, Dens.strs_eq (xs := xs) t]; rfl
theorem Dens.bls_eq {K : Fg} {H : Hp} : ∀ {vs : List V} {xs : List Bool}, Dens K H vs (bL xs) → vs = xs.map V.bl
  | _, [], h => by cases h; rfl
  | _, x :: xs, h => by
    cases h with
    | cons h t => rw [h.bl_eq, Dens.bls_eq (xs := xs) t]; rfl
theorem Dens.of_ints {K : Fg} {H : Hp} : ∀ (xs : List Int), Dens K H (xs.map V.int) (iL xs)
  | [] => .nil
  | x :: xs => .cons (.int x) (Dens.of_ints xs)
theorem Dens.of_bls {K : Fg} {H : Hp} : ∀ (xs : List Bool), Dens K H (xs.map V.bl) (bL xs)
  | [] => .nil
  | x :: xs => .cons (.bl x) (Dens.of_bls xs)
theorem Dens.of_strs {K : Fg} {H : Hp} : ∀ (xs : List Str), Dens K H (xs.map V.str) (sL xs)
  | [] => .nil
  | x :: xs => .cons (.str x) (Dens.of_strs xs)
/-- slots -/
abbrev Sl := List (Option D)
structure SlD (K : Fg) (H : Hp) (σ : St) (G : Sl) : Prop where
  len : σ.length = G.length
  has : ∀ (i : Nat) (d : D), G[i]? = some (some d) → ∃ v, σ[i]? = some (some v) ∧ Den K H v d
theorem SlD.up {K : Fg} {H H' : Hp} {σ : St} {G : Sl} (e : Same H H') (h : SlD K H σ G) : SlD K H' σ G :=
  ⟨h.len, fun i d g => let ⟨v, a, b⟩ := h.has i d g; ⟨v, a, b.up e⟩⟩
theorem SlD.put {K : Fg} {H : Hp} {σ : St} {G : Sl} {j : Nat} {v : V} {d : D} (h : SlD K H σ G) (r : Den K H v d) : SlD K H (σ.set j (some v)) (G.set j (some d)) := by
  refine ⟨by rw [List.length_set, List.length_set, h.len], fun i e g => ?_⟩
  by_cases hij : j = i
  · subst hij
    by_cases hl : j < G.length
    · rw [List.getElem?_set_self hl] at g
      cases g
      exact ⟨v, List.getElem?_set_self (by rw [h.len]; exact hl), r⟩
    · rw [List.getElem?_eq_none (by rw [List.length_set]; omega)] at g
      cases g
  · rw [List.getElem?_set_ne hij] at g
    obtain ⟨w, a, b⟩ := h.has i e g
    exact ⟨w, by rw [List.getElem?_set_ne hij]; exact a, b⟩
theorem SlD.drop {K : Fg} {H : Hp} {σ : St} {G : Sl} {j : Nat} {o : Option V} (h : SlD K H σ G) : SlD K H (σ.set j o) (G.set j none) := by
  refine ⟨by rw [List.length_set, List.length_set, h.len], fun i e g => ?_⟩
  by_cases hij : j = i
  · subst hij
    by_cases hl : j < G.length
    · rw [List.getElem?_set_self hl] at g
      cases g
    · rw [List.getElem?_eq_none (by rw [List.length_set]; omega)] at g
      cases g
  · rw [List.getElem?_set_ne hij] at g
    obtain ⟨w, a, b⟩ := h.has i e g
    exact ⟨w, by rw [List.getElem?_set_ne hij]; exact a, b⟩
/-- what is known of G is known of G' -/
def SlLe (G' G : Sl) : Prop := G'.length = G.length ∧ ∀ (i : Nat) (d : D), G'[i]? = some (some d) → G[i]? = some (some d)
theorem SlD.weak {K : Fg} {H : Hp} {σ : St} {G G' : Sl} (h : SlD K H σ G) (l : SlLe G' G) : SlD K H σ G' :=
  ⟨by rw [h.len, l.1], fun i d g => h.has i d (l.2 i d g)⟩
def wipeD (G : Sl) : List Nat → Sl
  | [] => G
  | i :: vs => (wipeD G vs).set i none
theorem SlD.wiped {K : Fg} {H : Hp} {σ : St} {G : Sl} (h : SlD K H σ G) : ∀ vs : List Nat, SlD K H (wipe σ vs) (wipeD G vs)
  | [] => h
  | i :: vs => (h.wiped vs).drop

/-! ### steps of the heap: H0 the immutable part, H the whole -/
structure Stp (H0 H H0' H' : Hp) : Prop where
  a : Same H0 H0'
  b : Same H H'
  c : Same H0' H'
  f : ∀ p, H0 p = none → H0' p ≠ none → H p = none
theorem Stp.refl {H0 H : Hp} (e : Same H0 H) : Stp H0 H H0 H := ⟨Same.refl _, Same.refl _, e, fun _ a b => absurd a b⟩
theorem Stp.trans {H0 H H1 H' H2 H'' : Hp} (s : Stp H0 H H1 H') (t : Stp H1 H' H2 H'') : Stp H0 H H2 H'' :=
  ⟨s.a.trans t.a, s.b.trans t.b, t.c, fun p h0 h2 => by
    by_cases h1 : H1 p = none
    · exact s.b.free (t.f p h1 h2)
    · exact s.f p h0 h1⟩
theorem same_new {H : Hp} {p : Addr} {o : HO} (h : H p = none) : Same H (upd H p o) := fun b x e => by
  rw [upd_ne (ne_of_none e h)]
  exact e
theorem same_upd2 {H0 H : Hp} {p : Addr} {o : HO} (e : Same H0 H) : Same (upd H0 p o) (upd H p o) := fun b x q => by
  unfold upd at *
  split at q
  · rename_i hb; rw [if_pos hb]; exact q
  · rename_i hb; rw [if_neg hb]; exact e _ _ q
theorem Stp.new {H0 H : Hp} {p : Addr} {o : HO} (e : Same H0 H) (h : H p = none) : Stp H0 H (upd H0 p o) (upd H p o) :=
  ⟨same_new (e.free h), same_new h, same_upd2 e, fun q h0 h1 => by
    by_cases hq : q = p
    · subst hq; exact h
    · rw [upd_ne hq] at h1; exact absurd h0 h1⟩
theorem Stp.own {H0 H : Hp} {p : Addr} {o : HO} (e : Same H0 H) (h : H p = none) : Stp H0 H H0 (upd H p o) :=
  ⟨Same.refl _, same_new h, e.trans (same_new h), fun _ a b => absurd a b⟩
/-- an own object becomes immutable -/
theorem Stp.freeze {H0 H H0' H' : Hp} {p : Addr} {o : HO} (s : Stp H0 H H0' H') (hp : H p = none) (h0 : H0' p = none) (h : H' p = some o) : Stp H0 H (upd H0' p o) H' :=
  ⟨s.a.trans (same_new h0), s.b, fun b x q => by
    by_cases hb : b = p
    · subst hb; rw [upd_same] at q; rw [h]; exact q
    · rw [upd_ne hb] at q; exact s.c _ _ q, fun q h0 h1 => by
    by_cases hq : q = p
    · subst hq; exact hp
    · rw [upd_ne hq] at h1; exact s.f q h0 h1⟩

/-! ### results -/
inductive Res where
  | val (d : D) | new (ds : List D) | exc (c : Value)
def Res.sat (K : Fg) (E : XK) (H0 H : Hp) (Q : VK) : Res → Prop
  | .val d => ∀ v H0' H', Stp H0 H H0' H' → Den K H0' v d → Q v H'
  | .new ds => ∀ p vs H0' H', Stp H0 H H0' H' → H p = none → H0' p = none → H' p = some (.lst vs) → Dens K H0' vs ds → Q (.ref p) H'
  | .exc c => ∀ H', Same H H' → E c none H'
theorem Res.sat_new {K : Fg} {E : XK} {H0 H : Hp} {Q : VK} {ds : List D} (h : Res.sat K E H0 H Q (.val (.lst ds))) : Res.sat K E H0 H Q (.new ds) := fun p vs H0' H' s hp h0 h' r =>
  h (.ref p) (upd H0' p (.lst vs)) H' (s.freeze hp h0 h') (.lst upd_same (r.up (same_new h0)))
theorem Res.sat_step {K : Fg} {E : XK} {H0 H H1 H' : Hp} {Q : VK} (s : Stp H0 H H1 H') : ∀ {r : Res}, Res.sat K E H0 H Q r → Res.sat K E H1 H' Q r
  | .val _, h => fun v a b t d => h v a b (s.trans t) d
  | .new _, h => fun p vs a b t hp h0 h1 d => h p vs a b (s.trans t) (s.b.free hp) h0 h1 d
  | .exc _, h => fun b t => h b (s.b.trans t)
/-- an expression's value, its slots denoting G -/
def EvR (K : Fg) (E : XK) (te : TE) (G : Sl) (r : Res) : Prop := ∀ (σ : St) (H0 H : Hp), Same H0 H → SlD K H0 σ G → ∀ Q : VK, Res.sat K E H0 H Q r → te σ H Q
abbrev EvD (K : Fg) (E : XK) (te : TE) (G : Sl) (d : D) : Prop := EvR K E te G (.val d)
abbrev EvN (K : Fg) (E : XK) (te : TE) (G : Sl) (ds : List D) : Prop := EvR K E te G (.new ds)
theorem EvR.lst {K : Fg} {E : XK} {te : TE} {G : Sl} {ds : List D} (h : EvR K E te G (.new ds)) : EvR K E te G (.val (.lst ds)) := fun σ H0 H e s Q q => h σ H0 H e s Q (Res.sat_new q)
def EvT (K : Fg) (tt : TT) (G : Sl) (b : Bool) : Prop := ∀ (σ : St) (H0 H : Hp), Same H0 H → SlD K H0 σ G → ∀ Q : Bool → Hp → Prop, (∀ H0' H', Stp H0 H H0' H' → Q b H') → tt σ H Q
def EvA (K : Fg) (ta : TA) (G : Sl) (ds : List D) : Prop := ∀ (σ : St) (H0 H : Hp), Same H0 H → SlD K H0 σ G → ∀ Q : List V → Hp → Prop, (∀ vs H0' H', Stp H0 H H0' H' → Dens K H0' vs ds → Q vs H') → ta σ H Q
def EvO (K : Fg) (tO : TO) (G : Sl) (o : Option Int) : Prop := ∀ (σ : St) (H0 H : Hp), Same H0 H → SlD K H0 σ G → ∀ Q : Option Int → Hp → Prop, (∀ H0' H', Stp H0 H H0' H' → Q o H') → tO σ H Q
/-- operations on data -/
def RD (K : Fg) (E : XK) (r : R2) (d1 d2 : D) (z : Res) : Prop := ∀ (H0 H : Hp), Same H0 H → ∀ (x y : V), Den K H0 x d1 → Den K H0 y d2 → ∀ Q : VK, z.sat K E H0 H Q → r x y H Q
def RU (K : Fg) (E : XK) (r : V → Hp → VK → Prop) (d1 : D) (z : Res) : Prop := ∀ (H0 H : Hp), Same H0 H → ∀ (x : V), Den K H0 x d1 → ∀ Q : VK, z.sat K E H0 H Q → r x H Q
def RC (K : Fg) (E : XK) (r : List V → Hp → VK → Prop) (ds : List D) (z : Res) : Prop := ∀ (H0 H : Hp), Same H0 H → ∀ (xs : List V), Dens K H0 xs ds → ∀ Q : VK, z.sat K E H0 H Q → r xs H Q
/-- a method of a built-in type -/
def RM (K : Fg) (E : XK) (r : V → List V → Hp → VK → Prop) (o : D) (ds : List D) (z : Res) : Prop := ∀ (H0 H : Hp), Same H0 H → ∀ (x : V) (xs : List V), Den K H0 x o → Dens K H0 xs ds → ∀ Q : VK, z.sat K E H0 H Q → r x xs H Q
section
variable {K : Fg} {E E' : XK} {G : Sl} {ta tb te tx : TE} {t u : TT} {d d1 d2 : D} {z : Res}
theorem sat_val {H0 H : Hp} {Q : VK} {v : V} (e : Same H0 H) (h : Res.sat K E H0 H Q (.val d)) (r : Den K H0 v d) : Q v H := h v H0 H (Stp.refl e) r
theorem ev_var {i : Nat} (h : G[i]? = some (some d)) : EvR K E (tVar i) G (.val d) := fun σ H0 H e s Q q => by
  obtain ⟨v, a, b⟩ := s.has i d h
  exact ⟨v, a, sat_val e q b⟩
theorem ev_c {v : V} (h : ∀ H, Den K H v d) : EvR K E (tC v) G (.val d) := fun σ H0 H e s Q q => sat_val e q (h H0)
theorem ev_int {i : Int} : EvR K E (tC (.int i)) G (.val (.int i)) := ev_c fun _ => .int i
theorem ev_str {i : Str} : EvR K E (tC (.str i)) G (.val (.str i)) := ev_c fun _ => .str i
theorem ev_bl {i : Bool} : EvR K E (tC (.bl i)) G (.val (.bl i)) := ev_c fun _ => .bl i
theorem ev_non : EvR K E (tC .non) G (.val .non) := ev_c fun _ => .non
theorem ev_ty {n : String} : EvR K E (tC (.ty n)) G (.val (.ty n)) := ev_c fun _ => .ty n
theorem ev_ref {n : Addr} : EvR K E (tC (.ref n)) G (.val (.ref n)) := ev_c fun _ => .ref n
theorem ev_op {r : R2} (ha : EvR K E ta G (.val d1)) (hb : EvR K E tb G (.val d2)) (hr : RD K E r d1 d2 z) : EvR K E (tOp r ta tb) G z := fun σ H0 H e s Q q =>
  ha σ H0 H e s _ fun x H1 H1' s1 r1 => hb σ H1 H1' s1.c (s.up s1.a) _ fun y H2 H2' s2 r2 => hr H2 H2' s2.c x y (r1.up s2.a) r2 Q (Res.sat_step (s1.trans s2) q)
theorem ev_un {r : V → Hp → VK → Prop} (ha : EvR K E ta G (.val d1)) (hr : RU K E r d1 z) : EvR K E (tUn r ta) G z := fun σ H0 H e s Q q =>
  ha σ H0 H e s _ fun x H1 H1' s1 r1 => hr H1 H1' s1.c x r1 Q (Res.sat_step s1 q)
theorem ea_nil : EvA K tNil G [] := fun σ H0 H e s Q q => q [] H0 H (Stp.refl e) .nil
theorem ea_cons {tr : TA} {ds : List D} (ha : EvR K E0 ta G (.val d)) (hr : EvA K tr G ds) : EvA K (tCons ta tr) G (d :: ds) := fun σ H0 H e s Q q =>
  ha σ H0 H e s _ fun x H1 H1' s1 r1 => hr σ H1 H1' s1.c (s.up s1.a) _ fun xs H2 H2' s2 r2 => q (x :: xs) H2 H2' (s1.trans s2) (.cons (r1.up s2.a) r2)
theorem ev_cb {r : List V → Hp → VK → Prop} {t : TA} {ds : List D} (ha : EvA K t G ds) (hr : RC K E r ds z) : EvR K E (tCB r t) G z := fun σ H0 H e s Q q =>
  ha σ H0 H e s _ fun xs H1 H1' s1 r1 => hr H1 H1' s1.c xs r1 Q (Res.sat_step s1 q)
theorem ev_lst {t : TA} {ds : List D} (ha : EvA K t G ds) (hl : ds.length ≤ 100000 := by decide) : EvR K E (tLst t) G (.new ds) := fun σ H0 H e s Q q =>
  ha σ H0 H e s _ fun xs H1 H1' s1 r1 => ⟨by rw [r1.length]; exact Nat.le_trans hl (by decide), fun p hp => q p xs H1 _ (s1.trans (Stp.own s1.c hp)) (s1.b.free hp) (s1.c.free hp) upd_same r1⟩
theorem ev_tup {t : TA} {ds : List D} (ha : EvA K t G ds) (hl : ds.length ≤ 100000 := by decide) : EvR K E (tTup t) G (.val (.tup ds)) := fun σ H0 H e s Q q =>
  ha σ H0 H e s _ fun xs H1 H1' s1 r1 => ⟨by rw [r1.length]; exact Nat.le_trans hl (by decide), fun p hp => q (.ref p) (upd H1 p (.tup xs)) _ (s1.trans (Stp.new s1.c hp)) (.tup upd_same (r1.up (same_new (s1.c.free hp))))⟩
theorem ev_is {d' : D} (h : EvR K E te G (.val d)) (e : d = d') : EvR K E te G (.val d') := e ▸ h
theorem ev_isN {ds ds' : List D} (h : EvR K E te G (.new ds)) (e : ds = ds') : EvR K E te G (.new ds') := e ▸ h
/-! tests -/
theorem et_test {b : Bool} (h : EvR K E0 te G (.val (.bl b))) : EvT K (tTest te) G b := fun σ H0 H e s Q q =>
  h σ H0 H e s _ fun v H1 H1' s1 r1 => ⟨b, r1.bl_eq, q H1 H1' s1⟩
theorem et_B {b : Bool} (h : EvR K E0 te G (.val (.bl b))) : EvT K (tB te) G b := fun σ H0 H e s Q q =>
  h σ H0 H e s _ fun v H1 H1' s1 r1 => ⟨b, r1.bl_eq, q H1 H1' s1⟩
theorem et_not {a : Bool} (h1 : EvT K t G a) : EvT K (tNot t) G (!a) := fun σ H0 H e s Q q => h1 σ H0 H e s _ fun H1 H1' s1 => q H1 H1' s1
theorem et_and {a b : Bool} (h1 : EvT K t G a) (h2 : a = true → EvT K u G b) : EvT K (tAnd t u) G (a && b) := fun σ H0 H e s Q q => h1 σ H0 H e s _ fun H1 H1' s1 => by
  cases a with
  | true =>
    show u σ H1' Q
    exact h2 rfl σ H1 H1' s1.c (s.up s1.a) Q fun H2 H2' s2 => q H2 H2' (s1.trans s2)
  | false =>
    show Q false H1'
    exact q H1 H1' s1
theorem et_or {a b : Bool} (h1 : EvT K t G a) (h2 : a = false → EvT K u G b) : EvT K (tOr t u) G (a || b) := fun σ H0 H e s Q q => h1 σ H0 H e s _ fun H1 H1' s1 => by
  cases a with
  | false =>
    show u σ H1' Q
    exact h2 rfl σ H1 H1' s1.c (s.up s1.a) Q fun H2 H2' s2 => q H2 H2' (s1.trans s2)
  | true =>
    show Q true H1'
    exact q H1 H1' s1
theorem et_yes : EvT K tYes G true := fun σ H0 H e s Q q => q H0 H (Stp.refl e)
theorem et_is {a b : Bool} (h : EvT K t G a) (e : a = b) : EvT K t G b := e ▸ h
theorem ev_andV {a b : Bool} (h1 : EvR K E ta G (.val (.bl a))) (h2 : a = true → EvR K E tb G (.val (.bl b))) : EvR K E (tAndV ta tb) G (.val (.bl (a && b))) := fun σ H0 H e s Q q => h1 σ H0 H e s _ fun v H1 H1' s1 r1 => ⟨a, r1.bl_eq, by
  cases a with
  | true =>
    show tb σ H1' Q
    exact h2 rfl σ H1 H1' s1.c (s.up s1.a) Q (Res.sat_step (r := .val (.bl (true && b))) s1 q)
  | false =>
    show Q (.bl false) H1'
    exact q _ H1 H1' s1 (.bl _)⟩
theorem ev_orV {a b : Bool} (h1 : EvR K E ta G (.val (.bl a))) (h2 : a = false → EvR K E tb G (.val (.bl b))) : EvR K E (tOrV ta tb) G (.val (.bl (a || b))) := fun σ H0 H e s Q q => h1 σ H0 H e s _ fun v H1 H1' s1 r1 => ⟨a, r1.bl_eq, by
  cases a with
  | false =>
    show tb σ H1' Q
    exact h2 rfl σ H1 H1' s1.c (s.up s1.a) Q (Res.sat_step (r := .val (.bl (false || b))) s1 q)
  | true =>
    show Q (.bl true) H1'
    exact q _ H1 H1' s1 (.bl _)⟩
theorem ev_notV {a : Bool} (h1 : EvR K E ta G (.val (.bl a))) : EvR K E (tNotV ta) G (.val (.bl (!a))) := fun σ H0 H e s Q q => h1 σ H0 H e s _ fun v H1 H1' s1 r1 => ⟨a, r1.bl_eq, q _ H1 H1' s1 (.bl _)⟩
theorem ev_if {b : Bool} (h : EvT K t G b) (h1 : b = true → EvR K E ta G z) (h2 : b = false → EvR K E tb G z) : EvR K E (tIf t ta tb) G z := fun σ H0 H e s Q q => h σ H0 H e s _ fun H1 H1' s1 => by
  cases b with
  | true =>
    show ta σ H1' Q
    exact h1 rfl σ H1 H1' s1.c (s.up s1.a) Q (Res.sat_step s1 q)
  | false =>
    show tb σ H1' Q
    exact h2 rfl σ H1 H1' s1.c (s.up s1.a) Q (Res.sat_step s1 q)
/-- a < b < c -/
theorem ev_chain {r r' : R2} {tc : TE} {d3 : D} {a b : Bool} (ha : EvR K E ta G (.val d1)) (hb : EvR K E tb G (.val d2)) (hr : RD K E r d1 d2 (.val (.bl a))) (hc : a = true → EvR K E tc G (.val d3)) (hr' : a = true → RD K E r' d2 d3 (.val (.bl b))) :
    EvR K E (tChain r r' ta tb tc) G (.val (.bl (a && b))) := fun σ H0 H e s Q q =>
  ha σ H0 H e s _ fun x H1 H1' s1 r1 => hb σ H1 H1' s1.c (s.up s1.a) _ fun y H2 H2' s2 r2 => hr H2 H2' s2.c x y (r1.up s2.a) r2 _ fun v H3 H3' s3 r3 => by
    refine ⟨a, r3.bl_eq, ?_⟩
    cases a with
    | false =>
      show Q (.bl false) H3'
      exact q _ H3 H3' ((s1.trans s2).trans s3) (.bl _)
    | true =>
      show tc σ H3' _
      exact hc rfl σ H3 H3' s3.c (s.up ((s1.trans s2).trans s3).a) _ fun w H4 H4' s4 r4 => hr' rfl H4 H4' s4.c y w (r2.up (s3.trans s4).a) r4 Q fun v5 H5 H5' s5 r5 => q v5 H5 H5' ((((s1.trans s2).trans s3).trans s4).trans s5) r5
/-! slices' parts -/
theorem eo_none : EvO K tNoPart G none := fun σ H0 H e s Q q => q H0 H (Stp.refl e)
theorem eo_some {i : Int} (h : EvR K E0 te G (.val (.int i))) : EvO K (tPart te) G (some i) := fun σ H0 H e s Q q => h σ H0 H e s _ fun v H1 H1' s1 r1 => ⟨i, r1.int_eq, q H1 H1' s1⟩
end
end Pr
/-! Part B: operations on data. -/
namespace Pr
open PySem L2
/-! ### data that == compares -/
mutual
def D.py : D → PyData
  | .non => .none
  | .bl b => .bool b
  | .int i => .int i
  | .str x => .str x
  | .lst ds => .list (pys ds)
  | .tup ds => .tuple (pys ds)
  | .scr ns => .list (ns.map .int)
  | .ref _ => .none
  | .ty _ => .none
  | .ins _ _ _ => .none
  | .dic _ => .none
def pys : List D → List PyData
  | [] => []
  | d :: ds => d.py :: pys ds
end
/-- plain data of at most so many floors -/
inductive Pl : Nat → D → Prop
  | non (n : Nat) : Pl n .non
  | bl (n : Nat) (b : Bool) : Pl n (.bl b)
  | int (n : Nat) (i : Int) : Pl n (.int i)
  | str (n : Nat) {x : Str} (h : PyData.strOk x = true) : Pl n (.str x)
  | lst {n : Nat} {ds : List D} (h : ∀ d ∈ ds, Pl n d) : Pl (n + 1) (.lst ds)
  | tup {n : Nat} {ds : List D} (h : ∀ d ∈ ds, Pl n d) : Pl (n + 1) (.tup ds)
  | scr (n : Nat) (ns : List Int) : Pl (n + 1) (.scr ns)
theorem pl_ints (n : Nat) (xs : List Int) : ∀ d ∈ iL xs, Pl n d := fun d h => by
  obtain ⟨x, _, rfl⟩ := List.mem_map.mp h
  exact .int n x
theorem pl_iL (n : Nat) (xs : List Int) : Pl (n + 1) (.lst (iL xs)) := .lst (pl_ints n xs)
theorem dpAll_ints {K : Fg} {H : Hp} : ∀ ns : List Int, DpAll K H (ns.map V.int) (ns.map PyData.int)
  | [] => .nil
  | n :: ns => .cons (.int n) (dpAll_ints ns)
mutual
theorem Den.dp {K : Fg} {H : Hp} : ∀ {v : V} {d : D}, Den K H v d → (∃ n, Pl n d) → Dp K H v d.py
  | _, _, .non, _ => .non
  | _, _, .bl b, _ => .bl b
  | _, _, .int b, _ => .int b
  | _, _, .str b, _ => .str b
  | _, _, .ref b, p => by obtain ⟨n, p⟩ := p; cases p
  | _, _, .ty b, p => by obtain ⟨n, p⟩ := p; cases p
  | _, _, .lst h t, p => .lst (.inl (.inl h)) (Dens.dp t fun d hd => by
      obtain ⟨n, p⟩ := p
      cases p with
      | lst q => exact ⟨_, q d hd⟩)
  | _, _, .tup h t, p => .tup (.inl (.inl h)) (Dens.dp t fun d hd => by
      obtain ⟨n, p⟩ := p
      cases p with
      | tup q => exact ⟨_, q d hd⟩)
  | _, _, .scr h, _ => .lst h (dpAll_ints _)
  | _, _, .ins h n t, p => by obtain ⟨n, p⟩ := p; cases p
theorem Dens.dp {K : Fg} {H : Hp} : ∀ {vs : List V} {ds : List D}, Dens K H vs ds → (∀ d ∈ ds, ∃ n, Pl n d) → DpAll K H vs (pys ds)
  | _, _, .nil, _ => .nil
  | _, _, .cons h t, p => .cons (Den.dp h (p _ List.mem_cons_self)) (Dens.dp t fun d hd => p d (List.mem_cons_of_mem _ hd))
end
theorem canLay_ints : ∀ ns : List Int, PyData.canLayAll0 (ns.map PyData.int) = true
  | [] => by simp [PyData.canLayAll0]
  | n :: ns => by
    rw [List.map_cons, PyData.canLayAll0, canLay_ints ns]
    simp [PyData.canLay0]
theorem depth_ints : ∀ ns : List Int, PyData.depthAll (ns.map PyData.int) = 0
  | [] => by simp [PyData.depthAll]
  | n :: ns => by
    rw [List.map_cons, PyData.depthAll, depth_ints ns]
    simp [PyData.depth]
theorem canLay_pys {n : Nat} : ∀ ds : List D, (∀ d ∈ ds, PyData.canLay0 d.py = true ∧ PyData.depth d.py ≤ n) → PyData.canLayAll0 (pys ds) = true ∧ PyData.depthAll (pys ds) ≤ n
  | [], _ => by simp [pys, PyData.canLayAll0, PyData.depthAll]
  | d :: ds, h => by
    have h1 := h d List.mem_cons_self
    have h2 := canLay_pys ds fun e he => h e (List.mem_cons_of_mem _ he)
    rw [pys, PyData.canLayAll0, PyData.depthAll, h1.1, h2.1]
    exact ⟨rfl, Nat.max_le.mpr ⟨h1.2, h2.2⟩⟩
theorem Pl.lay {n : Nat} {d : D} (p : Pl n d) : PyData.canLay0 d.py = true ∧ PyData.depth d.py ≤ n := by
  induction p with
  | non n => simp [D.py, PyData.canLay0, PyData.depth]
  | bl n b => simp [D.py, PyData.canLay0, PyData.depth]
  | int n b => simp [D.py, PyData.canLay0, PyData.depth]
  | str n h => simp [D.py, PyData.canLay0, PyData.depth, h]
  | lst h ih =>
    have q := canLay_pys _ ih
    rw [D.py, PyData.canLay0, PyData.depth, q.1]
    exact ⟨rfl, by omega⟩
  | tup h ih =>
    have q := canLay_pys _ ih
    rw [D.py, PyData.canLay0, PyData.depth, q.1]
    exact ⟨rfl, by omega⟩
  | scr n ns =>
    rw [D.py, PyData.canLay0, PyData.depth, canLay_ints, depth_ints]
    exact ⟨rfl, by omega⟩
theorem Pl.shaped {n : Nat} {d : D} (p : Pl n d) (h : n ≤ 64) : SeqAt.shaped d.py = true := by
  have q := p.lay
  unfold SeqAt.shaped
  rw [q.1, decide_eq_true (Nat.le_trans q.2 h)]
  rfl
def deq (d e : D) : Bool := PyData.eqv d.py e.py
/-- no truths within, no pointers -/
inductive Nb : D → Prop
  | non : Nb .non
  | int (i : Int) : Nb (.int i)
  | str (x : Str) : Nb (.str x)
  | lst {ds : List D} (h : ∀ d ∈ ds, Nb d) : Nb (.lst ds)
  | tup {ds : List D} (h : ∀ d ∈ ds, Nb d) : Nb (.tup ds)
theorem nb_ints (xs : List Int) : ∀ d ∈ iL xs, Nb d := fun d h => by
  obtain ⟨x, _, rfl⟩ := List.mem_map.mp h
  exact .int x
theorem nb_iL (xs : List Int) : Nb (.lst (iL xs)) := .lst (nb_ints xs)
theorem eqvAll_iff {ds es : List D} : (∀ d ∈ ds, ∀ e, Nb e → (PyData.eqv d.py e.py = true ↔ d = e)) → (∀ e ∈ es, Nb e) → (PyData.eqvAll (pys ds) (pys es) = true ↔ ds = es) := by
  induction ds generalizing es with
  | nil =>
    intro _ _
    cases es with
    | nil => simp [pys, PyData.eqvAll]
    | cons e es => simp [pys, PyData.eqvAll]
  | cons d ds ih =>
    intro h he
    cases es with
    | nil => simp [pys, PyData.eqvAll]
    | cons e es =>
      rw [pys, pys, PyData.eqvAll, Bool.and_eq_true, h d List.mem_cons_self e (he e List.mem_cons_self), ih (fun x hx => h x (List.mem_cons_of_mem _ hx)) (fun x hx => he x (List.mem_cons_of_mem _ hx))]
      simp
theorem deq_iff {d : D} (p : Nb d) : ∀ {e : D}, Nb e → (deq d e = true ↔ d = e) := by
  unfold deq
  induction p with
  | non => intro e q; cases q <;> simp [D.py, PyData.eqv]
  | int i => intro e q; cases q <;> simp [D.py, PyData.eqv]
  | str i => intro e q; cases q <;> simp [D.py, PyData.eqv]
  | lst h ih =>
    intro e q
    cases q with
    | lst h' =>
      rw [D.py, D.py, PyData.eqv, eqvAll_iff (fun d hd e he => ih d hd he) h']
      simp
    | _ => simp [D.py, PyData.eqv]
  | tup h ih =>
    intro e q
    cases q with
    | tup h' =>
      rw [D.py, D.py, PyData.eqv, eqvAll_iff (fun d hd e he => ih d hd he) h']
      simp
    | _ => simp [D.py, PyData.eqv]
theorem int_inj {xs ys : List Int} (h : iL xs = iL ys) : xs = ys := by
  induction xs generalizing ys with
  | nil => cases ys with
    | nil => rfl
    | cons y ys => cases h
  | cons x xs ih => cases ys with
    | nil => cases h
    | cons y ys =>
      have h : D.int x :: iL xs = D.int y :: iL ys := h
      injection h with h1 h2
      injection h1 with h1
      rw [h1, ih h2]
theorem deq_iL (xs ys : List Int) : deq (.lst (iL xs)) (.lst (iL ys)) = decide (xs = ys) := by
  rw [Bool.eq_iff_iff, deq_iff (nb_iL xs) (nb_iL ys), decide_eq_true_iff]
  exact ⟨fun h => int_inj (D.lst.inj h), fun h => by rw [h]⟩
theorem deq_scr (xs : List Int) (ds : List D) : deq (.scr xs) (.lst ds) = deq (.lst (iL xs)) (.lst ds) := by
  unfold deq
  have e : ∀ l : List Int, pys (iL l) = l.map PyData.int := fun l => by
    induction l with
    | nil => rfl
    | cons x l ih =>
      show pys (D.int x :: iL l) = PyData.int x :: l.map PyData.int
      rw [pys, ih]
      rfl
  rw [D.py, D.py, D.py, e]
theorem deq_self {d : D} (p : Nb d) : deq d d = true := (deq_iff p p).mpr rfl

/-! ### operations -/
section
variable {K : Fg} {E : XK} {G : Sl}
theorem rd_i {f : Int → Int → Int} {i j : Int} : RD K E (rI0 fun i j => .int (f i j)) (.int i) (.int j) (.val (.int (f i j))) := fun H0 H e x y r1 r2 Q q => ⟨i, j, r1.int_eq, r2.int_eq, sat_val e q (.int _)⟩
theorem rd_b {f : Int → Int → Bool} {i j : Int} : RD K E (rI0 fun i j => .bl (f i j)) (.int i) (.int j) (.val (.bl (f i j))) := fun H0 H e x y r1 r2 Q q => ⟨i, j, r1.int_eq, r2.int_eq, sat_val e q (.bl _)⟩
theorem rd_ic {C : Int → Int → Prop} {f : Int → Int → Int} {i j : Int} (hc : C i j) : RD K E (rI C fun i j => .int (f i j)) (.int i) (.int j) (.val (.int (f i j))) := fun H0 H e x y r1 r2 Q q => ⟨i, j, r1.int_eq, r2.int_eq, hc, sat_val e q (.int _)⟩
theorem ru_i {f : Int → Int} {i : Int} : RU K E (rU fun i => .int (f i)) (.int i) (.val (.int (f i))) := fun H0 H e x r1 Q q => ⟨i, r1.int_eq, sat_val e q (.int _)⟩
theorem rd_eqI {i j : Int} : RD K E rEq (.int i) (.int j) (.val (.bl (decide (i = j)))) := fun H0 H e x y r1 r2 Q q => by
  rw [r1.int_eq, r2.int_eq]
  refine ⟨rfl, ?_⟩
  rw [show decide (V.int i = V.int j) = decide (i = j) by rw [Bool.eq_iff_iff]; simp]
  exact sat_val e q (.bl _)
theorem rd_neI {i j : Int} : RD K E rNe (.int i) (.int j) (.val (.bl (!decide (i = j)))) := fun H0 H e x y r1 r2 Q q => by
  rw [r1.int_eq, r2.int_eq]
  refine ⟨rfl, ?_⟩
  rw [show decide (V.int i = V.int j) = decide (i = j) by rw [Bool.eq_iff_iff]; simp]
  exact sat_val e q (.bl _)
theorem rd_eqS {i j : Str} : RD K E rEq (.str i) (.str j) (.val (.bl (decide (i = j)))) := fun H0 H e x y r1 r2 Q q => by
  rw [r1.str_eq, r2.str_eq]
  refine ⟨rfl, ?_⟩
  rw [show decide (V.str i = V.str j) = decide (i = j) by rw [Bool.eq_iff_iff]; simp]
  exact sat_val e q (.bl _)
theorem rd_neS {i j : Str} : RD K E rNe (.str i) (.str j) (.val (.bl (!decide (i = j)))) := fun H0 H e x y r1 r2 Q q => by
  rw [r1.str_eq, r2.str_eq]
  refine ⟨rfl, ?_⟩
  rw [show decide (V.str i = V.str j) = decide (i = j) by rw [Bool.eq_iff_iff]; simp]
  exact sat_val e q (.bl _)
theorem rd_eqB {i j : Bool} : RD K E rEq (.bl i) (.bl j) (.val (.bl (decide (i = j)))) := fun H0 H e x y r1 r2 Q q => by
  rw [r1.bl_eq, r2.bl_eq]
  refine ⟨rfl, ?_⟩
  rw [show decide (V.bl i = V.bl j) = decide (i = j) by rw [Bool.eq_iff_iff]; simp]
  exact sat_val e q (.bl _)
theorem rd_neB {i j : Bool} : RD K E rNe (.bl i) (.bl j) (.val (.bl (!decide (i = j)))) := fun H0 H e x y r1 r2 Q q => by
  rw [r1.bl_eq, r2.bl_eq]
  refine ⟨rfl, ?_⟩
  rw [show decide (V.bl i = V.bl j) = decide (i = j) by rw [Bool.eq_iff_iff]; simp]
  exact sat_val e q (.bl _)
/-- is True, is False, is None -/
theorem rd_isN {d : D} : RD K E (fun x y H Q => y = .non ∧ Q (.bl (decide (x = .non))) H) d .non (.val (.bl (match d with | .non => true | _ => false))) := fun H0 H e x y r1 r2 Q q => by
  refine ⟨r2.non_eq, ?_⟩
  cases r1 <;> exact sat_val e q (.bl _)
theorem rd_notN {d : D} : RD K E (fun x y H Q => y = .non ∧ Q (.bl (!decide (x = .non))) H) d .non (.val (.bl (match d with | .non => false | _ => true))) := fun H0 H e x y r1 r2 Q q => by
  refine ⟨r2.non_eq, ?_⟩
  cases r1 <;> exact sat_val e q (.bl _)
theorem rd_eqD {d1 d2 : D} {n m : Nat} (p : Pl n d1) (q : Pl m d2) (hn : n ≤ 64 := by decide) (hm : m ≤ 64 := by decide) : RD K E (rEqD K) d1 d2 (.val (.bl (deq d1 d2))) := fun H0 H e x y r1 r2 Q k =>
  ⟨d1.py, d2.py, (r1.up e).dp ⟨n, p⟩, (r2.up e).dp ⟨m, q⟩, p.shaped hn, q.shaped hm, sat_val e k (.bl _)⟩
theorem rd_neD {d1 d2 : D} {n m : Nat} (p : Pl n d1) (q : Pl m d2) (hn : n ≤ 64 := by decide) (hm : m ≤ 64 := by decide) : RD K E (rNeD K) d1 d2 (.val (.bl (!deq d1 d2))) := fun H0 H e x y r1 r2 Q k =>
  ⟨d1.py, d2.py, (r1.up e).dp ⟨n, p⟩, (r2.up e).dp ⟨m, q⟩, p.shaped hn, q.shaped hm, sat_val e k (.bl _)⟩
/-! subscripts -/
theorem atI_dens {H : Hp} {vs : List V} {ds : List D} {i : Int} {d : D} (r : Dens K H vs ds) (h : atI ds i = some d) : ∃ v, atI vs i = some v ∧ Den K H v d := by
  unfold atI at *
  rw [r.length]
  cases e : ixN ds.length i with
  | none => rw [e] at h; cases h
  | some j =>
    rw [e] at h
    exact r.get h
theorem rd_ixL {ds : List D} {i : Int} {d : D} (h : atI ds i = some d) : RD K E (rIxL K) (.lst ds) (.int i) (.val d) := fun H0 H e x y r1 r2 Q q => by
  obtain ⟨a, vs, rfl, ha, t⟩ := r1.lst_out
  obtain ⟨v, h1, h2⟩ := atI_dens t h
  exact ⟨a, vs, i, v, rfl, r2.int_eq, .inl (.inl (e _ _ ha)), h1, sat_val e q h2⟩
theorem rd_ixT {ds : List D} {i : Int} {d : D} (h : atI ds i = some d) : RD K E (rIxT K) (.tup ds) (.int i) (.val d) := fun H0 H e x y r1 r2 Q q => by
  obtain ⟨a, vs, rfl, ha, t⟩ := r1.tup_out
  obtain ⟨v, h1, h2⟩ := atI_dens t h
  exact ⟨a, vs, i, v, rfl, r2.int_eq, .inl (.inl (e _ _ ha)), h1, sat_val e q h2⟩
theorem rd_ixC {ns : List Int} {i : Int} {n : Int} (h : atI ns i = some n) : RD K E (rIxL K) (.scr ns) (.int i) (.val (.int n)) := fun H0 H e x y r1 r2 Q q => by
  obtain ⟨a, rfl, ha⟩ := r1.scr_out
  have h1 : atI (ns.map V.int) i = some (.int n) := by
    unfold atI at *
    rw [List.length_map]
    cases e : ixN ns.length i with
    | none => rw [e] at h; cases h
    | some j =>
      rw [e] at h
      have h : ns[j]? = some n := h
      show (ns.map V.int)[j]? = _
      rw [List.getElem?_map, h]
      rfl
  exact ⟨a, ns.map V.int, i, _, rfl, r2.int_eq, e.seq ha, h1, sat_val e q (.int _)⟩
theorem atI_ok {α : Type} {xs : List α} {i : Int} {x : α} (h0 : 0 ≤ i) (h : xs[i.toNat]? = some x) : atI xs i = some x := by
  have hl : i.toNat < xs.length := (List.getElem?_eq_some_iff.mp h).1
  unfold atI ixN
  rw [if_pos h0, if_pos (by omega)]
  exact h
theorem at_zero {α : Type} {x : α} {xs : List α} : atI (x :: xs) 0 = some x := atI_ok (by decide) rfl
theorem atI_map {α β : Type} {xs : List α} {f : α → β} {i : Int} {x : α} (h : atI xs i = some x) : atI (xs.map f) i = some (f x) := by
  unfold atI at *
  rw [List.length_map]
  cases e : ixN xs.length i with
  | none => rw [e] at h; cases h
  | some j =>
    rw [e] at h
    have h : xs[j]? = some x := h
    show (xs.map f)[j]? = _
    rw [List.getElem?_map, h]
    rfl
/-! in -/
def vOf : D → V
  | .bl b => .bl b
  | .int i => .int i
  | .str x => .str x
  | _ => .non
def flatD : D → Bool
  | .non => true
  | .bl _ => true
  | .int _ => true
  | .str _ => true
  | _ => false
theorem flat_den {H : Hp} {v : V} {d : D} (r : Den K H v d) (f : flatD d = true) : v = vOf d ∧ flatV v = true := by
  cases r <;> first | exact ⟨rfl, rfl⟩ | cases f
theorem flat_dens {H : Hp} : ∀ {vs : List V} {ds : List D}, Dens K H vs ds → ds.all flatD = true → vs = ds.map vOf ∧ vs.all flatV = true
  | _, _, .nil, _ => ⟨rfl, rfl⟩
  | _, _, .cons r t, f => by
    rw [List.all_cons, Bool.and_eq_true] at f
    obtain ⟨a, b⟩ := flat_den r f.1
    obtain ⟨c, d⟩ := flat_dens t f.2
    exact ⟨by rw [List.map_cons, a, c], by rw [List.all_cons, b, d]; rfl⟩
def inD (d : D) (ds : List D) : Bool := inV (vOf d) (ds.map vOf)
theorem rd_inL {neg : Bool} {d : D} {ds : List D} (h1 : flatD d = true) (h2 : ds.all flatD = true) : RD K E (rIn K neg) d (.lst ds) (.val (.bl (if neg then !inD d ds else inD d ds))) := fun H0 H e x y r1 r2 Q q => by
  obtain ⟨a, vs, rfl, ha, t⟩ := r2.lst_out
  obtain ⟨e1, f1⟩ := flat_den r1 h1
  obtain ⟨e2, f2⟩ := flat_dens t h2
  refine ⟨a, vs, rfl, .inl (.inl (.inl (e _ _ ha))), f1, f2, ?_⟩
  rw [e1, e2]
  exact sat_val e q (.bl _)
theorem rd_inT {neg : Bool} {d : D} {ds : List D} (h1 : flatD d = true) (h2 : ds.all flatD = true) : RD K E (rIn K neg) d (.tup ds) (.val (.bl (if neg then !inD d ds else inD d ds))) := fun H0 H e x y r1 r2 Q q => by
  obtain ⟨a, vs, rfl, ha, t⟩ := r2.tup_out
  obtain ⟨e1, f1⟩ := flat_den r1 h1
  obtain ⟨e2, f2⟩ := flat_dens t h2
  refine ⟨a, vs, rfl, .inr (.inl (.inl (e _ _ ha))), f1, f2, ?_⟩
  rw [e1, e2]
  exact sat_val e q (.bl _)
theorem inD_ints (x : Int) (xs : List Int) : inD (.int x) (iL xs) = decide (x ∈ xs) := by
  unfold inD inV
  rw [Bool.eq_iff_iff, List.any_eq_true, decide_eq_true_iff]
  constructor
  · rintro ⟨y, h1, h2⟩
    rw [List.map_map] at h1
    obtain ⟨z, h3, rfl⟩ := List.mem_map.mp h1
    have : z = x := by simpa [eqV, vOf] using h2
    exact this ▸ h3
  · intro h
    exact ⟨.int x, by rw [List.map_map]; exact List.mem_map.mpr ⟨x, h, rfl⟩, by simp [eqV, vOf]⟩
/-! slices, + and * of lists -/
def cut {α : Type} (xs : List α) (lo hi : Option Int) : List α := (xs.drop (HT.sIx xs.length 0 lo)).take (HT.sIx xs.length xs.length hi - HT.sIx xs.length 0 lo)
theorem cut_map {α β : Type} (f : α → β) (xs : List α) (lo hi : Option Int) : cut (xs.map f) lo hi = (cut xs lo hi).map f := by
  unfold cut
  rw [List.length_map, List.map_take, List.map_drop]
theorem cut_dens {H : Hp} {vs : List V} {ds : List D} (r : Dens K H vs ds) (lo hi : Option Int) : Dens K H (cutV vs lo hi) (cut ds lo hi) := by
  unfold cutV cut
  rw [r.length]
  exact (r.drop _).take _
theorem ev_sl {te : TE} {tl th : TO} {ds : List D} {lo hi : Option Int} (h : EvR K E te G (.val (.lst ds))) (h1 : EvO K tl G lo) (h2 : EvO K th G hi) : EvR K E (tSl (rSlL K) te tl th) G (.new (cut ds lo hi)) := fun σ H0 H e s Q q =>
  h σ H0 H e s _ fun v H1 H1' s1 r1 => h1 σ H1 H1' s1.c (s.up s1.a) _ fun H2 H2' s2 => h2 σ H2 H2' s2.c (s.up (s1.trans s2).a) _ fun H3 H3' s3 => by
    obtain ⟨a, vs, rfl, ha, t⟩ := r1.lst_out
    have ss := (s1.trans s2).trans s3
    refine ⟨a, vs, rfl, .inl (.inl ((s2.trans s3).b _ _ (s1.c _ _ ha))), fun p hp => ?_⟩
    exact q p _ H3 _ (ss.trans (Stp.own s3.c hp)) (ss.b.free hp) (s3.c.free hp) upd_same (cut_dens (t.up (s2.trans s3).a) lo hi)
theorem rd_cat {ds es : List D} (h : ds.length + es.length ≤ 100000) : RD K E rCat (.lst ds) (.lst es) (.new (ds ++ es)) := fun H0 H e x y r1 r2 Q q => by
  obtain ⟨a, vs, rfl, ha, t⟩ := r1.lst_out
  obtain ⟨b, ws, rfl, hb, u⟩ := r2.lst_out
  refine ⟨a, b, vs, ws, rfl, rfl, e _ _ ha, e _ _ hb, by rw [t.length, u.length]; exact Nat.le_trans h (by decide), fun p hp => ?_⟩
  exact q p _ H0 _ (Stp.own e hp) hp (e.free hp) upd_same (t.append u)
/-! len, list, all, any, sum -/
theorem rc_len {ds : List D} : RC K E (fun xs H Q => ∃ x n, xs = [x] ∧ LenV K x H n ∧ Q (.int n) H) [.lst ds] (.val (.int ds.length)) := fun H0 H e xs r Q q => by
  obtain ⟨v, ws, rfl, r1, r2⟩ := r.cons_out
  obtain rfl := r2.nil_out
  obtain ⟨a, vs, rfl, ha, t⟩ := r1.lst_out
  exact ⟨.ref a, vs.length, rfl, .inl ⟨vs, .inl (.inl (e _ _ ha)), rfl⟩, by rw [t.length]; exact sat_val e q (.int _)⟩
theorem rc_lenT {ds : List D} : RC K E (fun xs H Q => ∃ x n, xs = [x] ∧ LenV K x H n ∧ Q (.int n) H) [.tup ds] (.val (.int ds.length)) := fun H0 H e xs r Q q => by
  obtain ⟨v, ws, rfl, r1, r2⟩ := r.cons_out
  obtain rfl := r2.nil_out
  obtain ⟨a, vs, rfl, ha, t⟩ := r1.tup_out
  exact ⟨.ref a, vs.length, rfl, .inr ⟨vs, .inl (.inl (e _ _ ha)), rfl⟩, by rw [t.length]; exact sat_val e q (.int _)⟩
theorem rc_lenC {ns : List Int} : RC K E (fun xs H Q => ∃ x n, xs = [x] ∧ LenV K x H n ∧ Q (.int n) H) [.scr ns] (.val (.int ns.length)) := fun H0 H e xs r Q q => by
  obtain ⟨v, ws, rfl, r1, r2⟩ := r.cons_out
  obtain rfl := r2.nil_out
  obtain ⟨a, rfl, ha⟩ := r1.scr_out
  exact ⟨.ref a, (ns.map V.int).length, rfl, .inl ⟨_, e.seq ha, rfl⟩, by rw [List.length_map]; exact sat_val e q (.int _)⟩
theorem rc_all {bs : List Bool} : RC K E (rAll K) [.lst (bL bs)] (.val (.bl (bs.all id))) := fun H0 H e xs r Q q => by
  obtain ⟨v, ws, rfl, r1, r2⟩ := r.cons_out
  obtain rfl := r2.nil_out
  obtain ⟨a, vs, rfl, ha, t⟩ := r1.lst_out
  obtain rfl := t.bls_eq
  exact ⟨a, bs, rfl, .inl (.inl (e _ _ ha)), sat_val e q (.bl _)⟩
theorem rc_any {bs : List Bool} : RC K E (rAny K) [.lst (bL bs)] (.val (.bl (bs.any id))) := fun H0 H e xs r Q q => by
  obtain ⟨v, ws, rfl, r1, r2⟩ := r.cons_out
  obtain rfl := r2.nil_out
  obtain ⟨a, vs, rfl, ha, t⟩ := r1.lst_out
  obtain rfl := t.bls_eq
  exact ⟨a, bs, rfl, .inl (.inl (e _ _ ha)), sat_val e q (.bl _)⟩
theorem rc_sum {ns : List Int} : RC K E (rSum K) [.lst (iL ns)] (.val (.int ns.sum)) := fun H0 H e xs r Q q => by
  obtain ⟨v, ws, rfl, r1, r2⟩ := r.cons_out
  obtain rfl := r2.nil_out
  obtain ⟨a, vs, rfl, ha, t⟩ := r1.lst_out
  obtain rfl := t.ints_eq
  exact ⟨a, ns, rfl, .inl (.inl (e _ _ ha)), sat_val e q (.int _)⟩
theorem rc_int_bl {b : Bool} : RC K E (fun xs H Q => (∃ i, xs = [.int i] ∧ Q (.int i) H) ∨ ∃ k, xs = [.bl k] ∧ Q (.int (if k then 1 else 0)) H) [.bl b] (.val (.int (if b then 1 else 0))) := fun H0 H e xs r Q q => by
  obtain ⟨v, ws, rfl, r1, r2⟩ := r.cons_out
  obtain rfl := r2.nil_out
  obtain rfl := r1.bl_eq
  exact .inr ⟨b, rfl, sat_val e q (.int _)⟩
theorem rc_min2 {i j : Int} : RC K E (fun xs H Q => ∃ i j, xs = [.int i, .int j] ∧ Q (.int (if j < i then j else i)) H) [.int i, .int j] (.val (.int (if j < i then j else i))) := fun H0 H e xs r Q q => by
  obtain ⟨v, ws, rfl, r1, r2⟩ := r.cons_out
  obtain ⟨w, ws, rfl, r4, r3⟩ := r2.cons_out
  obtain rfl := r3.nil_out
  exact ⟨i, j, by rw [r1.int_eq, r4.int_eq], sat_val e q (.int _)⟩
theorem rc_max2 {i j : Int} : RC K E (fun xs H Q => ∃ i j, xs = [.int i, .int j] ∧ Q (.int (if j > i then j else i)) H) [.int i, .int j] (.val (.int (if j > i then j else i))) := fun H0 H e xs r Q q => by
  obtain ⟨v, ws, rfl, r1, r2⟩ := r.cons_out
  obtain ⟨w, ws, rfl, r4, r3⟩ := r2.cons_out
  obtain rfl := r3.nil_out
  exact ⟨i, j, by rw [r1.int_eq, r4.int_eq], sat_val e q (.int _)⟩
theorem rc_abs {i : Int} : RC K E (fun xs H Q => ∃ i, xs = [.int i] ∧ Q (.int (if i < 0 then -i else i)) H) [.int i] (.val (.int (if i < 0 then -i else i))) := fun H0 H e xs r Q q => by
  obtain ⟨v, ws, rfl, r1, r2⟩ := r.cons_out
  obtain rfl := r2.nil_out
  exact ⟨i, by rw [r1.int_eq], sat_val e q (.int _)⟩
theorem rc_list {ds : List D} : RC K E (fun xs H Q => ∃ p ys, xs = [.ref p] ∧ (SqL K H p ys ∨ SqT K H p ys) ∧ ∀ l, H l = none → Q (.ref l) (upd H l (.lst ys))) [.lst ds] (.new ds) := fun H0 H e xs r Q q => by
  obtain ⟨v, ws, rfl, r1, r2⟩ := r.cons_out
  obtain rfl := r2.nil_out
  obtain ⟨a, vs, rfl, ha, t⟩ := r1.lst_out
  exact ⟨a, vs, rfl, .inl (.inl (.inl (e _ _ ha))), fun p hp => q p vs H0 _ (Stp.own e hp) hp (e.free hp) upd_same t⟩
theorem rc_listT {ds : List D} : RC K E (fun xs H Q => ∃ p ys, xs = [.ref p] ∧ (SqL K H p ys ∨ SqT K H p ys) ∧ ∀ l, H l = none → Q (.ref l) (upd H l (.lst ys))) [.tup ds] (.new ds) := fun H0 H e xs r Q q => by
  obtain ⟨v, ws, rfl, r1, r2⟩ := r.cons_out
  obtain rfl := r2.nil_out
  obtain ⟨a, vs, rfl, ha, t⟩ := r1.tup_out
  exact ⟨a, vs, rfl, .inr (.inl (.inl (e _ _ ha))), fun p hp => q p vs H0 _ (Stp.own e hp) hp (e.free hp) upd_same t⟩
theorem rc_listC {ns : List Int} : RC K E (fun xs H Q => ∃ p ys, xs = [.ref p] ∧ (SqL K H p ys ∨ SqT K H p ys) ∧ ∀ l, H l = none → Q (.ref l) (upd H l (.lst ys))) [.scr ns] (.new (iL ns)) := fun H0 H e xs r Q q => by
  obtain ⟨v, ws, rfl, r1, r2⟩ := r.cons_out
  obtain rfl := r2.nil_out
  obtain ⟨a, rfl, ha⟩ := r1.scr_out
  exact ⟨a, _, rfl, .inl (e.seq ha), fun p hp => q p _ H0 _ (Stp.own e hp) hp (e.free hp) upd_same (Dens.of_ints ns)⟩
/-! isinstance against a built-in type -/
def tyD : D → String
  | .non => "NoneType"
  | .bl _ => "bool"
  | .int _ => "int"
  | .str _ => "str"
  | .lst _ => "list"
  | .tup _ => "tuple"
  | .dic _ => "dict"
  | _ => ""
theorem tyD_ok {H : Hp} {v : V} {d : D} {t : String} (r : Den K H v d) (h : tyD d = t) (ht : t ≠ "") : TyX K H v (.type t) := by
  cases r with
  | non => subst h; exact .base .non
  | bl b => subst h; exact .base (.bl b)
  | int b => subst h; exact .base (.int b)
  | str b => subst h; exact .base (.str b)
  | lst h' _ => subst h; exact .base (.lst h')
  | tup h' _ => subst h; exact .base (.tup h')
  | dic h' _ => subst h; exact .base (.dK h')
  | _ => exact absurd h.symm ht
theorem rc_isi {d : D} {n t : String} {b : Bool} (h : tyD d = t) (ht : t ≠ "") (k : kitB t n = some b) : RC K E (rIsi K) [d, .ty n] (.val (.bl b)) := fun H0 H e xs r Q q => by
  obtain ⟨v, ws, rfl, r1, r2⟩ := r.cons_out
  obtain ⟨w, ws, rfl, r4, r3⟩ := r2.cons_out
  obtain rfl := r3.nil_out
  have hw : w = .ty n := by cases r4; rfl
  exact ⟨v, w, .type t, .type n, b, rfl, by rw [hw]; exact .ty n, tyD_ok (r1.up e) h ht, kit_ty k, sat_val e q (.bl _)⟩
def nrD : D → Bool
  | .ref _ => false
  | .ty _ => false
  | .ins _ _ _ => false
  | .scr _ => false
  | _ => true
theorem rc_isi' {d : D} {n t : String} {b : Bool} (h : tyD d = t) (ht : t ≠ "") (k : kitB t n = some b) : RC K E (rIsi K) [d, .ty n] (.val (.bl b)) := rc_isi h ht k
def isI : D → Bool
  | .int _ => true
  | .bl _ => true
  | _ => false
theorem rc_isI {d : D} (h : nrD d = true) : RC K E (rIsi K) [d, .ty "int"] (.val (.bl (isI d))) := by
  cases d with
  | non => exact rc_isi (t := "NoneType") (b := false) rfl (by decide) (by decide +kernel)
  | bl b => exact rc_isi (t := "bool") (b := true) rfl (by decide) (by decide +kernel)
  | int i => exact rc_isi (t := "int") (b := true) rfl (by decide) (by decide +kernel)
  | str x => exact rc_isi (t := "str") (b := false) rfl (by decide) (by decide +kernel)
  | lst xs => exact rc_isi (t := "list") (b := false) rfl (by decide) (by decide +kernel)
  | tup xs => exact rc_isi (t := "tuple") (b := false) rfl (by decide) (by decide +kernel)
  | dic => exact rc_isi (t := "dict") (b := false) rfl (by decide) (by decide +kernel)
  | _ => cases h
def isB : D → Bool
  | .bl _ => true
  | _ => false
theorem rc_isB {d : D} (h : nrD d = true) : RC K E (rIsi K) [d, .ty "bool"] (.val (.bl (isB d))) := by
  cases d with
  | non => exact rc_isi (t := "NoneType") (b := false) rfl (by decide) (by decide +kernel)
  | bl b => exact rc_isi (t := "bool") (b := true) rfl (by decide) (by decide +kernel)
  | int i => exact rc_isi (t := "int") (b := false) rfl (by decide) (by decide +kernel)
  | str x => exact rc_isi (t := "str") (b := false) rfl (by decide) (by decide +kernel)
  | lst xs => exact rc_isi (t := "list") (b := false) rfl (by decide) (by decide +kernel)
  | tup xs => exact rc_isi (t := "tuple") (b := false) rfl (by decide) (by decide +kernel)
  | dic => exact rc_isi (t := "dict") (b := false) rfl (by decide) (by decide +kernel)
  | _ => cases h
def isS : D → Bool
  | .str _ => true
  | _ => false
theorem rc_isS {d : D} (h : nrD d = true) : RC K E (rIsi K) [d, .ty "str"] (.val (.bl (isS d))) := by
  cases d with
  | non => exact rc_isi (t := "NoneType") (b := false) rfl (by decide) (by decide +kernel)
  | bl b => exact rc_isi (t := "bool") (b := false) rfl (by decide) (by decide +kernel)
  | int i => exact rc_isi (t := "int") (b := false) rfl (by decide) (by decide +kernel)
  | str x => exact rc_isi (t := "str") (b := true) rfl (by decide) (by decide +kernel)
  | lst xs => exact rc_isi (t := "list") (b := false) rfl (by decide) (by decide +kernel)
  | tup xs => exact rc_isi (t := "tuple") (b := false) rfl (by decide) (by decide +kernel)
  | dic => exact rc_isi (t := "dict") (b := false) rfl (by decide) (by decide +kernel)
  | _ => cases h
def isL : D → Bool
  | .lst _ => true
  | _ => false
theorem rc_isL {d : D} (h : nrD d = true) : RC K E (rIsi K) [d, .ty "list"] (.val (.bl (isL d))) := by
  cases d with
  | non => exact rc_isi (t := "NoneType") (b := false) rfl (by decide) (by decide +kernel)
  | bl b => exact rc_isi (t := "bool") (b := false) rfl (by decide) (by decide +kernel)
  | int i => exact rc_isi (t := "int") (b := false) rfl (by decide) (by decide +kernel)
  | str x => exact rc_isi (t := "str") (b := false) rfl (by decide) (by decide +kernel)
  | lst xs => exact rc_isi (t := "list") (b := true) rfl (by decide) (by decide +kernel)
  | tup xs => exact rc_isi (t := "tuple") (b := false) rfl (by decide) (by decide +kernel)
  | dic => exact rc_isi (t := "dict") (b := false) rfl (by decide) (by decide +kernel)
  | _ => cases h
def isT : D → Bool
  | .tup _ => true
  | _ => false
theorem rc_isT {d : D} (h : nrD d = true) : RC K E (rIsi K) [d, .ty "tuple"] (.val (.bl (isT d))) := by
  cases d with
  | non => exact rc_isi (t := "NoneType") (b := false) rfl (by decide) (by decide +kernel)
  | bl b => exact rc_isi (t := "bool") (b := false) rfl (by decide) (by decide +kernel)
  | int i => exact rc_isi (t := "int") (b := false) rfl (by decide) (by decide +kernel)
  | str x => exact rc_isi (t := "str") (b := false) rfl (by decide) (by decide +kernel)
  | lst xs => exact rc_isi (t := "list") (b := false) rfl (by decide) (by decide +kernel)
  | tup xs => exact rc_isi (t := "tuple") (b := true) rfl (by decide) (by decide +kernel)
  | dic => exact rc_isi (t := "dict") (b := false) rfl (by decide) (by decide +kernel)
  | _ => cases h
theorem RC.lst {r : List V → Hp → VK → Prop} {ds es : List D} (h : RC K E r ds (.new es)) : RC K E r ds (.val (.lst es)) := fun H0 H e xs rd Q q => h H0 H e xs rd Q (Res.sat_new q)
theorem RD.lst {r : R2} {d1 d2 : D} {es : List D} (h : RD K E r d1 d2 (.new es)) : RD K E r d1 d2 (.val (.lst es)) := fun H0 H e x y r1 r2 Q q => h H0 H e x y r1 r2 Q (Res.sat_new q)
theorem ev_lstV {t : TA} {ds : List D} (ha : EvA K t G ds) (hl : ds.length ≤ 100000 := by decide) : EvR K E (tLst t) G (.val (.lst ds)) := (ev_lst ha hl).lst
theorem ev_slV {te : TE} {tl th : TO} {ds : List D} {lo hi : Option Int} (h : EvR K E te G (.val (.lst ds))) (h1 : EvO K tl G lo) (h2 : EvO K th G hi) : EvR K E (tSl (rSlL K) te tl th) G (.val (.lst (cut ds lo hi))) := (ev_sl h h1 h2).lst
theorem rd_isB {a b : Bool} : RD K E rIsB (.bl a) (.bl b) (.val (.bl (decide (a = b)))) := fun H0 H e x y r1 r2 Q q => ⟨a, b, r1.bl_eq, r2.bl_eq, sat_val e q (.bl _)⟩
theorem rd_notB {a b : Bool} : RD K E rNotB (.bl a) (.bl b) (.val (.bl (!decide (a = b)))) := fun H0 H e x y r1 r2 Q q => ⟨a, b, r1.bl_eq, r2.bl_eq, sat_val e q (.bl _)⟩
theorem ev_rev {te : TE} {ds : List D} (h : EvR K E te G (.val (.lst ds))) : EvR K E (tRevL K te) G (.new ds.reverse) := fun σ H0 H e s Q q => h σ H0 H e s _ fun v H1 H1' s1 r1 => by
  obtain ⟨a, vs, rfl, ha, t⟩ := r1.lst_out
  exact ⟨a, vs, rfl, .inl (.inl (s1.c _ _ ha)), fun p hp => q p _ H1 _ (s1.trans (Stp.own s1.c hp)) (s1.b.free hp) (s1.c.free hp) upd_same t.reverse⟩
theorem ev_revV {te : TE} {ds : List D} (h : EvR K E te G (.val (.lst ds))) : EvR K E (tRevL K te) G (.val (.lst ds.reverse)) := (ev_rev h).lst
end
end Pr
/-! Part C: worlds with own objects, promises, sources, targets, comprehensions. -/
namespace Pr
open PySem L2
inductive Ob where
  | lst (ds : List D) | town (m n : Nat) | raw (o : HO) | obj (C : Addr) (fs : List (Str × D)) | tab (q : Str)
  | ext (F : Fg → Hp → HO → Prop) (up : ∀ (K : Fg) (H0 H1 : Hp) (o : HO), Same H0 H1 → F K H0 o → F K H1 o)
abbrev Om := Addr → Option Ob
def ObD (K : Fg) (H0 : Hp) (o : HO) : Ob → Prop
  | .lst ds => ∃ vs, o = .lst vs ∧ Dens K H0 vs ds
  | .town m n => ∃ (c : Int) (cells : List Int), o = .lst (.int c :: cells.map V.int) ∧ 0 ≤ c ∧ c ≤ n ∧ cells.length = m
  | .raw o' => o = o'
  | .obj C fs => ∃ dx gs, o = .ins C dx gs ∧ gs.map (·.1) = fs.map (·.1) ∧ Dens K H0 (gs.map (·.2)) (fs.map (·.2))
  | .tab q => ∃ ps : Array Value, o = .tbl ps ∧ TriplesOk ps.toList ∧ ∀ (pos : Pos) (cv : Value), codeAmong pos ps.toList = some cv → ∃ c, cv = .ref c ∧ H0 c = some (LamX.CodeO c q)
  | .ext F _ => F K H0 o
theorem ObD.up {K : Fg} {H0 H0' : Hp} {o : HO} (e : Same H0 H0') : ∀ {b : Ob}, ObD K H0 o b → ObD K H0' o b
  | .lst _, ⟨vs, a, b⟩ => ⟨vs, a, b.up e⟩
  | .town _ _, h => h
  | .raw _, h => h
  | .obj _ _, ⟨dx, gs, a, b, c⟩ => ⟨dx, gs, a, b, c.up e⟩
  | .tab _, ⟨ps, a, b, c⟩ => ⟨ps, a, b, fun pos cv h => let ⟨x, y, z⟩ := c pos cv h; ⟨x, y, e _ _ z⟩⟩
  | .ext _ u, h => u K H0 H0' o e h
structure Wd (K : Fg) (H0 H : Hp) (O : Om) : Prop where
  le : Same H0 H
  own : ∀ p b, O p = some b → H0 p = none ∧ ∃ o, H p = some o ∧ ObD K H0 o b
def oput (O : Om) (p : Addr) (b : Ob) : Om := fun q => if q = p then some b else O q
def odrop (O : Om) (p : Addr) : Om := fun q => if q = p then none else O q
theorem oput_same {O : Om} {p : Addr} {b : Ob} : oput O p b p = some b := by unfold oput; rw [if_pos rfl]
theorem oput_ne {O : Om} {p q : Addr} {b : Ob} (h : q ≠ p) : oput O p b q = O q := by unfold oput; rw [if_neg h]
theorem oput_oput {O : Om} {p : Addr} {b c : Ob} : oput (oput O p b) p c = oput O p c := by
  funext q; unfold oput; split <;> rfl
theorem one_none {O : Om} {p q : Addr} {b : Ob} (h : O p = some b) (h' : O q = none) : p ≠ q := fun e => by
  subst e; rw [h] at h'; cases h'
theorem one_ne {O : Om} {p q : Addr} {b c : Ob} (h : O p = some b) (h' : O q = some c) (d : b ≠ c) : p ≠ q := fun e => by
  subst e; rw [h] at h'; exact d (Option.some.inj h')
def OLe (O O' : Om) : Prop := ∀ p b, O p = some b → O' p = some b
theorem OLe.refl (O : Om) : OLe O O := fun _ _ h => h
theorem OLe.trans {O O1 O2 : Om} (a : OLe O O1) (b : OLe O1 O2) : OLe O O2 := fun p c h => b p c (a p c h)
theorem OLe.new {O : Om} {p : Addr} {b : Ob} (h : O p = none) : OLe O (oput O p b) := fun q c e => by
  rw [oput_ne (one_none e h)]; exact e
theorem OLe.mut {O O' : Om} {p : Addr} {b : Ob} (a : OLe O O') (h : O p = none) : OLe O (oput O' p b) := fun q c e => by
  rw [oput_ne (one_none e h)]; exact a q c e
section
variable {K : Fg} {H0 H H0' H' : Hp} {O O' : Om}
theorem Wd.step (w : Wd K H0 H O) (s : Stp H0 H H0' H') : Wd K H0' H' O :=
  ⟨s.c, fun p b h => by
    obtain ⟨h0, o, ho, r⟩ := w.own p b h
    refine ⟨?_, o, s.b _ _ ho, r.up s.a⟩
    cases q : H0' p with
    | none => rfl
    | some x =>
      have := s.f p h0 (by rw [q]; simp)
      rw [ho] at this; cases this⟩
theorem Wd.weak (w : Wd K H0 H O) (l : OLe O' O) : Wd K H0 H O' := ⟨w.le, fun p b h => w.own p b (l p b h)⟩
theorem Wd.free (w : Wd K H0 H O) {p : Addr} (h : H p = none) : O p = none := by
  cases q : O p with
  | none => rfl
  | some b =>
    obtain ⟨_, o, ho, _⟩ := w.own p b q
    rw [h] at ho; cases ho
/-- an own object is laid down, or changed -/
theorem Wd.put {p : Addr} {o : HO} {b : Ob} (w : Wd K H0 H O) (h0 : H0 p = none) (r : ObD K H0 o b) : Wd K H0 (upd H p o) (oput O p b) :=
  ⟨fun a x e => by rw [upd_ne (ne_of_none e h0)]; exact w.le _ _ e, fun q c h => by
    by_cases hq : q = p
    · subst hq
      rw [oput_same] at h
      cases h
      exact ⟨h0, o, upd_same, r⟩
    · rw [oput_ne hq] at h
      obtain ⟨a, o', b', c'⟩ := w.own q c h
      exact ⟨a, o', by rw [upd_ne hq]; exact b', c'⟩⟩
theorem Wd.add {p : Addr} {o : HO} {b : Ob} (w : Wd K H0 H O) (h0 : H0 p = none) (h : H p = some o) (r : ObD K H0 o b) : Wd K H0 H (oput O p b) :=
  ⟨w.le, fun q c h' => by
    by_cases hq : q = p
    · subst hq
      rw [oput_same] at h'
      cases h'
      exact ⟨h0, o, h, r⟩
    · rw [oput_ne hq] at h'
      exact w.own q c h'⟩
/-- an own list becomes immutable -/
theorem Wd.freeze {p : Addr} {ds : List D} (w : Wd K H0 H O) (h : O p = some (.lst ds)) : ∃ H1, Same H0 H1 ∧ Wd K H1 H (odrop O p) ∧ Den K H1 (.ref p) (.lst ds) := by
  obtain ⟨h0, o, ho, vs, rfl, r⟩ := w.own p _ h
  refine ⟨upd H0 p (.lst vs), same_new h0, ⟨fun b x q => ?_, fun q c h' => ?_⟩, .lst upd_same (r.up (same_new h0))⟩
  · by_cases hb : b = p
    · subst hb; rw [upd_same] at q; rw [ho]; exact q
    · rw [upd_ne hb] at q; exact w.le _ _ q
  · unfold odrop at h'
    split at h'
    · cases h'
    · rename_i hq
      obtain ⟨a, o', b', c'⟩ := w.own q c h'
      exact ⟨by rw [upd_ne hq]; exact a, o', b', c'.up (same_new h0)⟩
end
/-- the whole heap behind the immutable part, as it stands -/
def rawOm (H0 H : Hp) : Om := fun p => match H0 p with
  | none => (H p).map .raw
  | some _ => none
theorem Wd.raw {K : Fg} {H0 H : Hp} (e : Same H0 H) : Wd K H0 H (rawOm H0 H) := ⟨e, fun p b h => by
  unfold rawOm at h
  cases q : H0 p with
  | some x => rw [q] at h; cases h
  | none =>
    rw [q] at h
    cases q' : H p with
    | none => rw [q'] at h; cases h
    | some o =>
      rw [q'] at h
      cases h
      exact ⟨rfl, o, rfl, rfl⟩⟩
theorem raw_none {H0 H : Hp} {p : Addr} (e : Same H0 H) (h : rawOm H0 H p = none) (h0 : H0 p = none) : H p = none := by
  unfold rawOm at h
  rw [h0] at h
  cases q : H p with
  | none => rfl
  | some o => rw [q] at h; cases h
/-- behind a pure body -/
theorem stp_raw {K : Fg} {H0 H H0' H' : Hp} {O : Om} (e : Same H0 H) (s : Same H0 H0') (w : Wd K H0' H' O) (l : OLe (rawOm H0 H) O) : Stp H0 H H0' H' := by
  have hr : ∀ p o, H0 p = none → H p = some o → rawOm H0 H p = some (.raw o) := fun p o h0 h => by
    unfold rawOm
    rw [h0, h]
    rfl
  refine ⟨s, fun p o h => ?_, w.le, fun p h0 h1 => ?_⟩
  · cases q : H0 p with
    | some x =>
      have h2 := e p x q
      rw [h] at h2
      cases h2
      exact w.le _ _ (s _ _ q)
    | none =>
      obtain ⟨_, o', h2, r⟩ := w.own p _ (l p _ (hr p o q h))
      have r : o' = o := r
      rw [h2, r]
  · cases q : H p with
    | none => rfl
    | some o =>
      obtain ⟨h2, _⟩ := w.own p _ (l p _ (hr p o h0 q))
      exact absurd h2 h1

/-! ### promises -/
/-- a def whose end is told by its data alone -/
def SpR (K : Fg) (P : List D → Res → Prop) : Sp := fun vs H Q E => ∃ (H0 : Hp) (ds : List D) (r : Res), Same H0 H ∧ Dens K H0 vs ds ∧ P ds r ∧ r.sat K E H0 H Q
/-- a def that may change own objects of its caller's -/
def SpM (K : Fg) (P : List D → Om → (D → Om → Prop) → Prop) : Sp := fun vs H Q _ => ∃ (H0 : Hp) (O : Om) (ds : List D) (k : D → Om → Prop), Wd K H0 H O ∧ Dens K H0 vs ds ∧ P ds O k ∧
  ∀ d O' v H0' H', k d O' → Same H0 H0' → Wd K H0' H' O' → Den K H0' v d → Q v H'

/-! ### expressions that may change own objects -/
def EvM (K : Fg) (te : TE) (G : Sl) (O : Om) (P : D → Om → Prop) : Prop := ∀ (σ : St) (H0 H : Hp), Wd K H0 H O → SlD K H0 σ G → ∀ Q : VK,
  (∀ v d H0' H' O', P d O' → Same H0 H0' → Wd K H0' H' O' → Den K H0' v d → Q v H') → te σ H Q
def EvMA (K : Fg) (ta : TA) (G : Sl) (O : Om) (P : List D → Om → Prop) : Prop := ∀ (σ : St) (H0 H : Hp), Wd K H0 H O → SlD K H0 σ G → ∀ Q : List V → Hp → Prop,
  (∀ vs ds H0' H' O', P ds O' → Same H0 H0' → Wd K H0' H' O' → Dens K H0' vs ds → Q vs H') → ta σ H Q
def EvMT (K : Fg) (tt : TT) (G : Sl) (O : Om) (P : Bool → Om → Prop) : Prop := ∀ (σ : St) (H0 H : Hp), Wd K H0 H O → SlD K H0 σ G → ∀ Q : Bool → Hp → Prop,
  (∀ b H0' H' O', P b O' → Same H0 H0' → Wd K H0' H' O' → Q b H') → tt σ H Q
section
variable {K : Fg} {E E' : XK} {G : Sl} {O : Om} {ta tb te tx : TE} {t u : TT} {d d1 d2 : D} {P : D → Om → Prop}
theorem em_val (h : EvR K E0 te G (.val d)) (k : P d O) : EvM K te G O P := fun σ H0 H w s Q q =>
  h σ H0 H w.le s _ fun v H1 H1' s1 r1 => q v d H1 H1' O k s1.a (w.step s1) r1
theorem em_new {ds : List D} (h : EvR K E0 te G (.new ds)) (k : ∀ p, O p = none → P (.ref p) (oput O p (.lst ds))) : EvM K te G O P := fun σ H0 H w s Q q =>
  h σ H0 H w.le s _ fun p vs H1 H1' s1 hp h0 h1 r1 => q (.ref p) (.ref p) H1 H1' _ (k p (w.free hp)) s1.a ((w.step s1).add h0 h1 ⟨vs, rfl, r1⟩) (.ref p)
theorem em_imp {P' : D → Om → Prop} (h : EvM K te G O P) (k : ∀ d O', P d O' → P' d O') : EvM K te G O P' := fun σ H0 H w s Q q => h σ H0 H w s Q fun v d H1 H1' O1 p => q v d H1 H1' O1 (k d O1 p)
theorem em_op {r : R2} (h : EvM K ta G O fun d1 O1 => EvM K tb G O1 fun d2 O2 => ∃ d, RD K E0 r d1 d2 (.val d) ∧ P d O2) : EvM K (tOp r ta tb) G O P := fun σ H0 H w s Q q =>
  h σ H0 H w s _ fun x d1 H1 H1' O1 p1 s1 w1 r1 => p1 σ H1 H1' w1 (s.up s1) _ fun y d2 H2 H2' O2 ⟨d, hr, p2⟩ s2 w2 r2 => hr H2 H2' w2.le x y (r1.up s2) r2 Q fun v H3 H3' s3 r3 => q v d H3 H3' O2 p2 ((s1.trans s2).trans s3.a) (w2.step s3) r3
theorem em_un {r : V → Hp → VK → Prop} (h : EvM K ta G O fun d1 O1 => ∃ d, RU K E0 r d1 (.val d) ∧ P d O1) : EvM K (tUn r ta) G O P := fun σ H0 H w s Q q =>
  h σ H0 H w s _ fun x d1 H1 H1' O1 ⟨d, hr, p1⟩ s1 w1 r1 => hr H1 H1' w1.le x r1 Q fun v H3 H3' s3 r3 => q v d H3 H3' O1 p1 (s1.trans s3.a) (w1.step s3) r3
theorem ma_nil {PA : List D → Om → Prop} (k : PA [] O) : EvMA K tNil G O PA := fun σ H0 H w s Q q => q [] [] H0 H O k (Same.refl _) w .nil
theorem ma_cons {tr : TA} {PA : List D → Om → Prop} (h : EvM K ta G O fun d O1 => EvMA K tr G O1 fun ds O2 => PA (d :: ds) O2) : EvMA K (tCons ta tr) G O PA := fun σ H0 H w s Q q =>
  h σ H0 H w s _ fun x d H1 H1' O1 p1 s1 w1 r1 => p1 σ H1 H1' w1 (s.up s1) _ fun xs ds H2 H2' O2 p2 s2 w2 r2 => q (x :: xs) (d :: ds) H2 H2' O2 p2 (s1.trans s2) w2 (.cons (r1.up s2) r2)
theorem ma_val {t : TA} {ds : List D} {PA : List D → Om → Prop} (h : EvA K t G ds) (k : PA ds O) : EvMA K t G O PA := fun σ H0 H w s Q q => h σ H0 H w.le s _ fun vs H1 H1' s1 r1 => q vs ds H1 H1' O k s1.a (w.step s1) r1
theorem em_cb {r : List V → Hp → VK → Prop} {t : TA} (h : EvMA K t G O fun ds O1 => ∃ d, RC K E0 r ds (.val d) ∧ P d O1) : EvM K (tCB r t) G O P := fun σ H0 H w s Q q =>
  h σ H0 H w s _ fun xs ds H1 H1' O1 ⟨d, hr, p1⟩ s1 w1 r1 => hr H1 H1' w1.le xs r1 Q fun v H3 H3' s3 r3 => q v d H3 H3' O1 p1 (s1.trans s3.a) (w1.step s3) r3
theorem em_tup {t : TA} (h : EvMA K t G O fun ds O1 => ds.length ≤ 100000 ∧ P (.tup ds) O1) : EvM K (tTup t) G O P := fun σ H0 H w s Q q =>
  h σ H0 H w s _ fun xs ds H1 H1' O1 ⟨hl, p1⟩ s1 w1 r1 => ⟨by rw [r1.length]; exact Nat.le_trans hl (by decide), fun p hp =>
    q (.ref p) (.tup ds) (upd H1 p (.tup xs)) _ O1 p1 (s1.trans (same_new (w1.le.free hp))) (w1.step (Stp.new w1.le hp)) (.tup upd_same (r1.up (same_new (w1.le.free hp))))⟩
theorem em_lst {t : TA} (h : EvMA K t G O fun ds O1 => ds.length ≤ 100000 ∧ ∀ p, O1 p = none → P (.ref p) (oput O1 p (.lst ds))) : EvM K (tLst t) G O P := fun σ H0 H w s Q q =>
  h σ H0 H w s _ fun xs ds H1 H1' O1 ⟨hl, p1⟩ s1 w1 r1 => ⟨by rw [r1.length]; exact Nat.le_trans hl (by decide), fun p hp =>
    q (.ref p) (.ref p) H1 _ _ (p1 p (w1.free hp)) s1 (w1.put (w1.le.free hp) ⟨xs, rfl, r1⟩) (.ref p)⟩
theorem em_if {b : Bool} (h : EvT K t G b) (h1 : b = true → EvM K ta G O P) (h2 : b = false → EvM K tb G O P) : EvM K (tIf t ta tb) G O P := fun σ H0 H w s Q q => h σ H0 H w.le s _ fun H1 H1' s1 => by
  cases b with
  | true =>
    show ta σ H1' Q
    exact h1 rfl σ H1 H1' (w.step s1) (s.up s1.a) Q fun v d H2 H2' O2 p s2 => q v d H2 H2' O2 p (s1.a.trans s2)
  | false =>
    show tb σ H1' Q
    exact h2 rfl σ H1 H1' (w.step s1) (s.up s1.a) Q fun v d H2 H2' O2 p s2 => q v d H2 H2' O2 p (s1.a.trans s2)
theorem em_ifM (h : EvMT K t G O fun b O1 => (b = true → EvM K ta G O1 P) ∧ (b = false → EvM K tb G O1 P)) : EvM K (tIf t ta tb) G O P := fun σ H0 H w s Q q => h σ H0 H w s _ fun b H1 H1' O1 ⟨h1, h2⟩ s1 w1 => by
  cases b with
  | true =>
    show ta σ H1' Q
    exact h1 rfl σ H1 H1' w1 (s.up s1) Q fun v d H2 H2' O2 p s2 => q v d H2 H2' O2 p (s1.trans s2)
  | false =>
    show tb σ H1' Q
    exact h2 rfl σ H1 H1' w1 (s.up s1) Q fun v d H2 H2' O2 p s2 => q v d H2 H2' O2 p (s1.trans s2)
theorem mt_val {b : Bool} {PT : Bool → Om → Prop} (h : EvT K t G b) (k : PT b O) : EvMT K t G O PT := fun σ H0 H w s Q q => h σ H0 H w.le s _ fun H1 H1' s1 => q b H1 H1' O k s1.a (w.step s1)
theorem mt_test {PT : Bool → Om → Prop} (h : EvM K te G O fun d O1 => ∃ b, d = .bl b ∧ PT b O1) : EvMT K (tTest te) G O PT := fun σ H0 H w s Q q => h σ H0 H w s _ fun v d H1 H1' O1 ⟨b, e, k⟩ s1 w1 r1 => by
  subst e
  exact ⟨b, r1.bl_eq, q b H1 H1' O1 k s1 w1⟩
theorem mt_B {PT : Bool → Om → Prop} (h : EvM K te G O fun d O1 => ∃ b, d = .bl b ∧ PT b O1) : EvMT K (tB te) G O PT := fun σ H0 H w s Q q => h σ H0 H w s _ fun v d H1 H1' O1 ⟨b, e, k⟩ s1 w1 r1 => by
  subst e
  exact ⟨b, r1.bl_eq, q b H1 H1' O1 k s1 w1⟩
theorem mt_not {PT : Bool → Om → Prop} (h : EvMT K t G O fun b O1 => PT (!b) O1) : EvMT K (tNot t) G O PT := fun σ H0 H w s Q q => h σ H0 H w s _ fun b H1 H1' O1 k s1 w1 => q (!b) H1 H1' O1 k s1 w1
theorem mt_and {PT : Bool → Om → Prop} (h : EvMT K t G O fun b O1 => (b = true → EvMT K u G O1 PT) ∧ (b = false → PT false O1)) : EvMT K (tAnd t u) G O PT := fun σ H0 H w s Q q => h σ H0 H w s _ fun b H1 H1' O1 k s1 w1 => by
  cases b with
  | true =>
    show u σ H1' Q
    exact k.1 rfl σ H1 H1' w1 (s.up s1) Q fun b H2 H2' O2 p s2 w2 => q b H2 H2' O2 p (s1.trans s2) w2
  | false =>
    show Q false H1'
    exact q false H1 H1' O1 (k.2 rfl) s1 w1
theorem mt_or {PT : Bool → Om → Prop} (h : EvMT K t G O fun b O1 => (b = false → EvMT K u G O1 PT) ∧ (b = true → PT true O1)) : EvMT K (tOr t u) G O PT := fun σ H0 H w s Q q => h σ H0 H w s _ fun b H1 H1' O1 k s1 w1 => by
  cases b with
  | false =>
    show u σ H1' Q
    exact k.1 rfl σ H1 H1' w1 (s.up s1) Q fun b H2 H2' O2 p s2 w2 => q b H2 H2' O2 p (s1.trans s2) w2
  | true =>
    show Q true H1'
    exact q true H1 H1' O1 (k.2 rfl) s1 w1
/-! calls -/
theorem ev_callV {P : List D → Res → Prop} {t : TA} {ds : List D} (h : EvA K t G ds) (p : P ds (.val d)) : EvR K E (tCall (SpR K P) [] E' t) G (.val d) := fun σ H0 H e s Q q =>
  h σ H0 H e s _ fun vs H1 H1' s1 r1 => ⟨H1, ds, _, s1.c, by rw [List.append_nil]; exact r1, p, Res.sat_step (r := .val d) (E := E') s1 q⟩
theorem ev_callN {P : List D → Res → Prop} {t : TA} {ds es : List D} (h : EvA K t G ds) (p : P ds (.new es)) : EvR K E (tCall (SpR K P) [] E' t) G (.new es) := fun σ H0 H e s Q q =>
  h σ H0 H e s _ fun vs H1 H1' s1 r1 => ⟨H1, ds, _, s1.c, by rw [List.append_nil]; exact r1, p, Res.sat_step (r := .new es) (E := E') s1 q⟩
theorem ev_callX {P : List D → Res → Prop} {t : TA} {ds : List D} {c : Value} (h : EvA K t G ds) (p : P ds (.exc c)) : EvR K E (tCall (SpR K P) [] E t) G (.exc c) := fun σ H0 H e s Q q =>
  h σ H0 H e s _ fun vs H1 H1' s1 r1 => ⟨H1, ds, _, s1.c, by rw [List.append_nil]; exact r1, p, Res.sat_step (r := .exc c) (E := E) s1 q⟩
theorem em_call {PS : List D → Om → (D → Om → Prop) → Prop} {t : TA} (h : EvMA K t G O fun ds O1 => PS ds O1 P) : EvM K (tCall (SpM K PS) [] E' t) G O P := fun σ H0 H w s Q q =>
  h σ H0 H w s _ fun vs ds H1 H1' O1 p1 s1 w1 r1 => ⟨H1, O1, ds, P, w1, by rw [List.append_nil]; exact r1, p1, fun d O' v H2 H2' k s2 w2 r2 => q v d H2 H2' O' k (s1.trans s2) w2 r2⟩
/-- a pure def called with arguments that draw -/
theorem em_callR {P' : List D → Res → Prop} {t : TA} (h : EvMA K t G O fun ds O1 => ∃ d, P' ds (.val d) ∧ P d O1) : EvM K (tCall (SpR K P') [] E' t) G O P := fun σ H0 H w s Q q =>
  h σ H0 H w s _ fun vs ds H1 H1' O1 ⟨d, p, k⟩ s1 w1 r1 => ⟨H1, ds, .val d, w1.le, by rw [List.append_nil]; exact r1, p, fun v H2 H2' s2 r2 => q v d H2 H2' O1 k (s1.trans s2.a) (w1.step s2) r2⟩
theorem ev_callNV {P : List D → Res → Prop} {t : TA} {ds es : List D} (h : EvA K t G ds) (p : P ds (.new es)) : EvR K E (tCall (SpR K P) [] E' t) G (.val (.lst es)) := (ev_callN h p).lst
/-- an item of an own list -/
theorem em_ixO {to ti : TE} (h : EvM K to G O fun d O1 => ∃ p, d = .ref p ∧ EvM K ti G O1 fun i O2 => ∃ (j : Int) (e : D) (ds : List D), i = .int j ∧ O2 p = some (.lst ds) ∧ atI ds j = some e ∧ P e O2) : EvM K (tOp (rIxL K) to ti) G O P := fun σ H0 H w s Q q =>
  h σ H0 H w s _ fun x d1 H1 H1' O1 ⟨p, e1, p1⟩ s1 w1 r1 => p1 σ H1 H1' w1 (s.up s1) _ fun y d2 H2 H2' O2 ⟨j, e, ds, e2, hp, ha, p2⟩ s2 w2 r2 => by
    subst e1 e2
    obtain rfl := r1.ref_eq
    obtain ⟨_, o, ho, vs, rfl, rv⟩ := w2.own p _ hp
    obtain ⟨v, h1, h2⟩ := atI_dens rv ha
    exact ⟨p, vs, j, v, rfl, r2.int_eq, .inl (.inl ho), h1, q v e H2 H2' O2 p2 (s1.trans s2) w2 h2⟩
/-- the own objects, otherwise told -/
def OTo (K : Fg) (O O' : Om) : Prop := ∀ H0 H, Wd K H0 H O → Wd K H0 H O'
theorem OTo.refl (O : Om) : OTo K O O := fun _ _ h => h
theorem OTo.le {O O' : Om} (h : OLe O' O) : OTo K O O' := fun _ _ w => w.weak h
theorem OTo.one {O : Om} {p : Addr} {b c : Ob} (h : O p = some b) (k : ∀ H0 o, ObD K H0 o b → ObD K H0 o c) : OTo K O (oput O p c) := fun H0 H w => ⟨w.le, fun q d hq => by
  by_cases e : q = p
  · subst e
    rw [oput_same] at hq
    cases hq
    obtain ⟨a, o, ho, r⟩ := w.own q b h
    exact ⟨a, o, ho, k H0 o r⟩
  · rw [oput_ne e] at hq
    exact w.own q d hq⟩
theorem OTo.town {O : Om} {t : Addr} {m n n' : Nat} (h : O t = some (.town m n)) (hn : n ≤ n') : OTo K O (oput O t (.town m n')) := OTo.one h fun H0 o ⟨c, cells, a, b, d, e⟩ => ⟨c, cells, a, b, by omega, e⟩
theorem OTo.close {O : Om} {t : Addr} {m n : Nat} {c : Int} {cells : List Int} (h : O t = some (.lst (iL (c :: cells)))) (h0 : 0 ≤ c) (hn : c ≤ n) (hm : cells.length = m) : OTo K O (oput O t (.town m n)) := OTo.one h fun H0 o ⟨vs, a, b⟩ => by
  have := b.ints_eq
  exact ⟨c, cells, by rw [a, this]; rfl, h0, hn, hm⟩
theorem em_conv (h : EvM K te G O fun d O1 => ∃ O2, OTo K O1 O2 ∧ P d O2) : EvM K te G O P := fun σ H0 H w s Q q => h σ H0 H w s Q fun v d H1 H1' O1 ⟨O2, c, p⟩ s1 w1 r1 => q v d H1 H1' O2 p s1 (c _ _ w1) r1
theorem em_pre {O' : Om} (c : OTo K O O') (h : EvM K te G O' P) : EvM K te G O P := fun σ H0 H w s Q q => h σ H0 H (c _ _ w) s Q q
end
/-! ### sources and targets -/
def WalkD (K : Fg) (J : It) (H0 : Hp) (ds : List D) : Prop := ∃ Y : Nat → Hp → V → Hp → Prop, Walk J ds.length (fun H => Same H0 H) Y ∧
  ∀ i Hc H x H', i < ds.length → Same H0 Hc → Same Hc H → Y i H x H' → ∃ Hd d, ds[i]? = some d ∧ Stp Hc H Hd H' ∧ Den K Hd x d
def SrcD (K : Fg) (wi : TI) (G : Sl) (ds : List D) : Prop := ∀ (σ : St) (H0 H : Hp), Same H0 H → SlD K H0 σ G → ∀ R : It → Hp → Prop, (∀ J H0' H', Stp H0 H H0' H' → WalkD K J H0' ds → R J H') → wi σ H R
def SrcM (K : Fg) (wi : TI) (G : Sl) (O : Om) (P : List D → Om → Prop) : Prop := ∀ (σ : St) (H0 H : Hp), Wd K H0 H O → SlD K H0 σ G → ∀ R : It → Hp → Prop,
  (∀ J ds O' H0' H', P ds O' → Same H0 H0' → Wd K H0' H' O' → WalkD K J H0' ds → R J H') → wi σ H R
section
variable {K : Fg} {E : XK} {G : Sl} {O : Om} {te : TE} {ta : TA}
theorem src_m {wi : TI} {ds : List D} {P : List D → Om → Prop} (h : SrcD K wi G ds) (k : P ds O) : SrcM K wi G O P := fun σ H0 H w s R q => h σ H0 H w.le s R fun J H1 H1' s1 wd => q J ds O H1 H1' k s1.a (w.step s1) wd
theorem walkD_list {H0 : Hp} {a : Addr} {vs : List V} {ds : List D} (ha : SqL K H0 a vs) (t : Dens K H0 vs ds) : WalkD K (Itl K a) H0 ds := by
  refine ⟨YAt vs, ?_, fun i Hc H x H' hi hc h y => ?_⟩
  · rw [← t.length]
    exact walk_list.mono (fun H e => e.seq ha) fun _ _ _ _ _ _ y => y
  · obtain ⟨rfl, hx⟩ := y
    obtain ⟨d, hd, r⟩ := t.getV hx
    exact ⟨Hc, d, hd, Stp.refl h, r.up hc⟩
theorem walkD_tup {H0 : Hp} {a : Addr} {vs : List V} {ds : List D} (ha : SqT K H0 a vs) (t : Dens K H0 vs ds) : WalkD K (Itt K a) H0 ds := by
  refine ⟨YAt vs, ?_, fun i Hc H x H' hi hc h y => ?_⟩
  · rw [← t.length]
    exact walk_tup.mono (fun H e => same_seqT e ha) fun _ _ _ _ _ _ y => y
  · obtain ⟨rfl, hx⟩ := y
    obtain ⟨d, hd, r⟩ := t.getV hx
    exact ⟨Hc, d, hd, Stp.refl h, r.up hc⟩
theorem src_list {ds : List D} (h : EvR K E0 te G (.val (.lst ds))) : SrcD K (iList K te) G ds := fun σ H0 H e s R q => h σ H0 H e s _ fun v H1 H1' s1 r1 => by
  obtain ⟨a, vs, rfl, ha, t⟩ := r1.lst_out
  exact ⟨a, rfl, ⟨vs, .inl (.inl (s1.c _ _ ha))⟩, q _ H1 H1' s1 (walkD_list (.inl (.inl ha)) t)⟩
theorem src_scr {ns : List Int} (h : EvR K E0 te G (.val (.scr ns))) : SrcD K (iList K te) G (iL ns) := fun σ H0 H e s R q => h σ H0 H e s _ fun v H1 H1' s1 r1 => by
  obtain ⟨a, rfl, ha⟩ := r1.scr_out
  exact ⟨a, rfl, ⟨_, s1.c.seq ha⟩, q _ H1 H1' s1 (walkD_list ha (Dens.of_ints ns))⟩
theorem src_tup {ds : List D} (h : EvR K E0 te G (.val (.tup ds))) : SrcD K (iTup K te) G ds := fun σ H0 H e s R q => h σ H0 H e s _ fun v H1 H1' s1 r1 => by
  obtain ⟨a, vs, rfl, ha, t⟩ := r1.tup_out
  exact ⟨a, rfl, ⟨vs, .inl (.inl (s1.c _ _ ha))⟩, q _ H1 H1' s1 (walkD_tup (.inl (.inl ha)) t)⟩
/-- lo, lo + 1, .. -/
def rng (lo : Int) (n : Nat) : List Int := (List.range n).map fun i => lo + (i : Nat)
theorem rng_len (lo : Int) (n : Nat) : (rng lo n).length = n := by unfold rng; rw [List.length_map, List.length_range]
theorem rng_get {lo : Int} {n i : Nat} (h : i < n) : (rng lo n)[i]? = some (lo + i) := by
  unfold rng
  rw [List.getElem?_map, List.getElem?_range h]
  rfl
theorem walkD_rng {H0 : Hp} {lo : Int} {n : Nat} : WalkD K (Itr lo n) H0 (iL (rng lo n)) := by
  refine ⟨YFn fun i => .int (lo + i), ?_, fun i Hc H x H' hi hc h y => ?_⟩
  · rw [List.length_map, rng_len]
    exact walk_range.mono (fun _ _ => trivial) fun _ _ _ _ _ _ y => y
  · obtain ⟨rfl, rfl⟩ := y
    rw [List.length_map, rng_len] at hi
    refine ⟨Hc, .int (lo + i), ?_, Stp.refl h, .int _⟩
    rw [List.getElem?_map, rng_get hi]
    rfl
theorem src_r1 {n : Int} (h : EvA K ta G [.int n]) (h1 : -(2 ^ 62) ≤ n) (h2 : n < 2 ^ 62) : SrcD K (iRng1 ta) G (iL (rng 0 n.toNat)) := fun σ H0 H e s R q => h σ H0 H e s _ fun vs H1 H1' s1 r1 => by
  obtain ⟨v, ws, rfl, a, b⟩ := r1.cons_out
  obtain rfl := b.nil_out
  exact ⟨n, by rw [a.int_eq], h1, h2, q _ H1 H1' s1 walkD_rng⟩
theorem src_r2 {m n : Int} (h : EvA K ta G [.int m, .int n]) (hb : -(2 ^ 62) ≤ m ∧ m < 2 ^ 62 ∧ -(2 ^ 62) ≤ n ∧ n < 2 ^ 62) : SrcD K (iRng2 ta) G (iL (rng m (n - m).toNat)) := fun σ H0 H e s R q => h σ H0 H e s _ fun vs H1 H1' s1 r1 => by
  obtain ⟨v, ws, rfl, a, b⟩ := r1.cons_out
  obtain ⟨v', ws, rfl, a', b⟩ := b.cons_out
  obtain rfl := b.nil_out
  exact ⟨m, n, by rw [a.int_eq, a'.int_eq], hb, q _ H1 H1' s1 walkD_rng⟩
theorem src_r1M {P : List D → Om → Prop} (h : EvMA K ta G O fun ds O1 => ∃ n : Int, ds = [.int n] ∧ -(2 ^ 62) ≤ n ∧ n < 2 ^ 62 ∧ P (iL (rng 0 n.toNat)) O1) : SrcM K (iRng1 ta) G O P := fun σ H0 H w s R q => h σ H0 H w s _ fun vs ds H1 H1' O1 ⟨n, e, h1, h2, k⟩ s1 w1 r1 => by
  subst e
  obtain ⟨v, ws, rfl, a, b⟩ := r1.cons_out
  obtain rfl := b.nil_out
  exact ⟨n, by rw [a.int_eq], h1, h2, q _ _ O1 H1 H1' k s1 w1 walkD_rng⟩
/-- pairs of the i-th ones -/
def pairsD (as bs : List D) : List D := List.zipWith (fun a b => D.tup [a, b]) as bs
theorem walkD_pair {J : It} {H0 : Hp} {as bs : List D} {n : Nat} (fx fy : Nat → Option V) (hn : n = min as.length bs.length) (w : Walk J n (fun H => Same H0 H) (YPair fx fy))
    (h1 : ∀ i x, i < n → fx i = some x → ∃ d, as[i]? = some d ∧ Den K H0 x d) (h2 : ∀ i x, i < n → fy i = some x → ∃ d, bs[i]? = some d ∧ Den K H0 x d) : WalkD K J H0 (pairsD as bs) := by
  refine ⟨YPair fx fy, ?_, fun i Hc H x H' hi hc h y => ?_⟩
  · unfold pairsD
    rw [List.length_zipWith, ← hn]
    exact w
  · unfold pairsD at hi ⊢
    rw [List.length_zipWith, ← hn] at hi
    obtain ⟨T, x1, x2, rfl, nT, rfl, e1, e2⟩ := y
    obtain ⟨d1, g1, r1⟩ := h1 i x1 hi e1
    obtain ⟨d2, g2, r2⟩ := h2 i x2 hi e2
    refine ⟨upd Hc T (.tup [x1, x2]), .tup [d1, d2], ?_, Stp.new h nT, .tup upd_same (.cons ?_ (.cons ?_ .nil))⟩
    · rw [List.getElem?_zipWith, g1, g2]
    · exact (r1.up hc).up (same_new (h.free nT))
    · exact (r2.up hc).up (same_new (h.free nT))
theorem src_zip {as bs : List D} (h : EvA K ta G [.lst as, .lst bs]) : SrcD K (iZip K ta) G (pairsD as bs) := fun σ H0 H e s R q => h σ H0 H e s _ fun vs H1 H1' s1 r1 => by
  obtain ⟨v, ws, rfl, a, b⟩ := r1.cons_out
  obtain ⟨v', ws, rfl, a', b⟩ := b.cons_out
  obtain rfl := b.nil_out
  obtain ⟨p, xs, rfl, hp, tp⟩ := a.lst_out
  obtain ⟨p', xs', rfl, hp', tp'⟩ := a'.lst_out
  refine ⟨p, p', xs, xs', rfl, .inl (.inl (s1.c _ _ hp)), .inl (.inl (s1.c _ _ hp')), q _ H1 H1' s1 (walkD_pair (fun i => xs[i]?) (fun i => xs'[i]?) (n := min xs.length xs'.length) (by rw [tp.length, tp'.length]) ?_ (fun i x _ e => tp.getV e) (fun i x _ e => tp'.getV e))⟩
  exact (walk_zip rfl).mono (fun H e => ⟨e.seq (.inl (.inl hp)), e.seq (.inl (.inl hp'))⟩) fun _ _ _ _ _ _ y => y
theorem src_enum {bs : List D} (h : EvA K ta G [.lst bs]) : SrcD K (iEnum K ta) G (pairsD (iL (rng 0 bs.length)) bs) := fun σ H0 H e s R q => h σ H0 H e s _ fun vs H1 H1' s1 r1 => by
  obtain ⟨v, ws, rfl, a, b⟩ := r1.cons_out
  obtain rfl := b.nil_out
  obtain ⟨p, xs, rfl, hp, tp⟩ := a.lst_out
  refine ⟨p, xs, rfl, .inl (.inl (s1.c _ _ hp)), q _ H1 H1' s1 (walkD_pair (fun i => some (.int (i : Nat))) (fun i => xs[i]?) (n := xs.length) (by rw [List.length_map, rng_len, tp.length, Nat.min_self]) ?_ (fun i x hi e => ?_) (fun i x _ e => tp.getV e))⟩
  · exact walk_enum.mono (fun H e => e.seq (.inl (.inl hp))) fun _ _ _ _ _ _ y => y
  · cases e
    rw [tp.length] at hi
    refine ⟨.int i, ?_, .int _⟩
    rw [List.getElem?_map, rng_get hi]
    show some (D.int (0 + i)) = _
    rw [Int.zero_add]
end
/-- a target, the slots that it stores -/
def TgD (K : Fg) (g : TG) (d : D) (G G' : Sl) (ws : List Nat) : Prop := ∀ (v : V) (σ : St) (H0 H : Hp), Same H0 H → SlD K H0 σ G → Den K H0 v d → ∀ Q : St → Hp → Prop, (∀ σ', SlD K H0 σ' G' → σ'.length = σ.length → (∀ j, j ∉ ws → σ'[j]? = σ[j]?) → Q σ' H) → g v σ H Q
section
variable {K : Fg} {G : Sl}
theorem tg_name {j : Nat} {d : D} : TgD K (gName j) d G (G.set j (some d)) [j] := fun v σ H0 H e s r Q q => q _ (s.put r) (List.length_set ..) fun i hi => List.getElem?_set_ne fun e => hi (by rw [e]; exact List.mem_cons_self)
theorem tg_tup2 {i j : Nat} {a b : D} : TgD K (gTup K 2 (gCons (gName i) (gCons (gName j) gNil))) (.tup [a, b]) G ((G.set i (some a)).set j (some b)) [i, j] := fun v σ H0 H e s r Q q => by
  obtain ⟨p, vs, rfl, hp, t⟩ := r.tup_out
  obtain ⟨x, ws, rfl, rx, t⟩ := t.cons_out
  obtain ⟨y, ws, rfl, ry, t⟩ := t.cons_out
  obtain rfl := t.nil_out
  refine ⟨p, _, rfl, .inl (.inl (e _ _ hp)), rfl, x, [y], rfl, y, [], rfl, rfl, ?_⟩
  refine q _ ((s.put rx).put ry) (by rw [List.length_set, List.length_set]) fun k hk => ?_
  have h1 : j ≠ k := fun e => hk (by rw [e]; simp)
  have h2 : i ≠ k := fun e => hk (by rw [e]; simp)
  rw [List.getElem?_set_ne h1, List.getElem?_set_ne h2]
theorem tg_tup3 {i j l : Nat} {a b c : D} : TgD K (gTup K 3 (gCons (gName i) (gCons (gName j) (gCons (gName l) gNil)))) (.tup [a, b, c]) G (((G.set i (some a)).set j (some b)).set l (some c)) [i, j, l] := fun v σ H0 H e s r Q q => by
  obtain ⟨p, vs, rfl, hp, t⟩ := r.tup_out
  obtain ⟨x, ws, rfl, rx, t⟩ := t.cons_out
  obtain ⟨y, ws, rfl, ry, t⟩ := t.cons_out
  obtain ⟨z, ws, rfl, rz, t⟩ := t.cons_out
  obtain rfl := t.nil_out
  refine ⟨p, _, rfl, .inl (.inl (e _ _ hp)), rfl, x, [y, z], rfl, y, [z], rfl, z, [], rfl, rfl, ?_⟩
  refine q _ (((s.put rx).put ry).put rz) (by rw [List.length_set, List.length_set, List.length_set]) fun k hk => ?_
  have h1 : j ≠ k := fun e => hk (by rw [e]; simp)
  have h2 : i ≠ k := fun e => hk (by rw [e]; simp)
  have h3 : l ≠ k := fun e => hk (by rw [e]; simp)
  rw [List.getElem?_set_ne h3, List.getElem?_set_ne h1, List.getElem?_set_ne h2]
end
theorem wipe_len (σ : St) : ∀ vs : List Nat, (wipe σ vs).length = σ.length
  | [] => rfl
  | i :: vs => by
    show ((wipe σ vs).set i none).length = _
    rw [List.length_set, wipe_len σ vs]
theorem wipe_mem {σ : St} {i : Nat} : ∀ {vs : List Nat}, i ∈ vs → i < σ.length → (wipe σ vs)[i]? = some none
  | [], h, _ => by cases h
  | v :: vs, h, hl => by
    show ((wipe σ vs).set v none)[i]? = _
    by_cases e : v = i
    · subst e
      exact List.getElem?_set_self (by rw [wipe_len]; exact hl)
    · rw [List.getElem?_set_ne e]
      rcases List.mem_cons.mp h with h | h
      · exact absurd h.symm e
      · exact wipe_mem h hl
theorem wipe_same {σ σ2 : St} {vs : List Nat} (hl : σ2.length = (wipe σ vs).length) (h : ∀ j, j ∉ vs → σ2[j]? = (wipe σ vs)[j]?) : wipe σ2 vs = wipe σ vs := by
  refine List.ext_getElem? fun j => ?_
  rw [wipe_len] at hl
  by_cases hj : j ∈ vs
  · by_cases hlt : j < σ.length
    · rw [wipe_mem hj hlt, wipe_mem hj (by omega)]
    · rw [List.getElem?_eq_none (by rw [wipe_len]; omega), List.getElem?_eq_none (by rw [wipe_len]; omega)]
  · rw [wipe_out hj, wipe_out hj, h j hj, wipe_out hj]
section
variable {K : Fg} {E : XK} {G : Sl} {O : Om} {wi : TI} {g : TG} {tt : TT} {te : TE} {ws : List Nat}
/-- a comprehension of pure parts -/
theorem ev_lc {ds : List D} {Gd : D → Sl} {f : D → Bool} {h : D → D} (hs : SrcD K wi G ds) (hg : ∀ d ∈ ds, TgD K g d (wipeD G ws) (Gd d) ws) (ht : ∀ d ∈ ds, EvT K tt (Gd d) (f d)) (he : ∀ d ∈ ds, f d = true → EvR K E te (Gd d) (.val (h d))) (hl : ds.length ≤ 100000) :
    EvR K E (tLc wi g tt te ws) G (.new ((ds.filter f).map h)) := fun σ H0 H e s Q q =>
  hs σ H0 H e s _ fun J H1 H1' s1 ⟨Y, w, hY⟩ D hD => by
    have main := lc_it w (g := g) (tt := tt) (te := te) (vs := ws) (σ := σ) (H1 := H1') (D := D) (Qd := Q (.ref D))
      (fun i H2 => ∃ Hc vs, Stp H1 H1' Hc H2 ∧ Hc D = none ∧ H2 D = some (.lst vs) ∧ Dens K Hc vs (((ds.take i).filter f).map h))
      ⟨H1, [], Stp.own s1.c hD, s1.c.free hD, upd_same, .nil⟩ (fun i H2 _ ⟨Hc, vs, st, _, _, _⟩ => st.a.trans st.c) ?_ ?_
    · exact main
    · rintro i x H2 H3 hi ⟨Hc, vs, st, hc, hD2, r⟩ y
      obtain ⟨Hd, d, hd, st2, rx⟩ := hY i Hc H2 x H3 hi st.a st.c y
      have md : d ∈ ds := List.mem_of_getElem? hd
      have htk : ds.take (i + 1) = ds.take i ++ [d] := by rw [List.take_add_one, hd]; rfl
      have hc2 : Hd D = none := by
        cases qq : Hd D with
        | none => rfl
        | some z =>
          have := st2.f D hc (by rw [qq]; simp)
          rw [hD2] at this; cases this
      refine hg d md x (wipe σ ws) Hd H3 st2.c (((s.up s1.a).up (st.a.trans st2.a)).wiped ws) rx _ fun σ2 sl2 hl2 hj2 => ⟨wipe_same hl2 hj2, ?_⟩
      refine ht d md σ2 Hd H3 st2.c sl2 _ fun H4 H4' s4 => ?_
      have hc4 : H4 D = none := by
        cases qq : H4 D with
        | none => rfl
        | some z =>
          have := s4.f D hc2 (by rw [qq]; simp)
          rw [st2.b _ _ hD2] at this; cases this
      cases hf : f d with
      | false =>
        show ∃ Hc vs, _
        refine ⟨H4, vs, (st.trans st2).trans s4, hc4, s4.b _ _ (st2.b _ _ hD2), ?_⟩
        rw [htk, List.filter_append, List.filter_cons, if_neg (by rw [hf]; decide), List.filter_nil, List.append_nil]
        exact r.up (st2.a.trans s4.a)
      | true =>
        show te σ2 H4' _
        refine he d md hf σ2 H4 H4' s4.c (sl2.up s4.a) _ fun v H5 H5' s5 r5 => ⟨vs, s5.b _ _ (s4.b _ _ (st2.b _ _ hD2)), ?_, H5, vs ++ [v], ?_, ?_, upd_same, ?_⟩
        · rw [r.length, List.length_map]
          have h1 := List.length_filter_le f (ds.take i)
          rw [List.length_take] at h1
          exact Nat.lt_of_le_of_lt (Nat.le_trans h1 (Nat.le_trans (Nat.min_le_right _ _) hl)) (by decide)
        · have ss := ((st.trans st2).trans s4).trans s5
          refine ⟨ss.a, fun b o hb => ?_, fun b o hb => ?_, ss.f⟩
          · rw [upd_ne (ne_of_none hb hD)]; exact ss.b _ _ hb
          · have : b ≠ D := fun e => by
              subst e
              have := s5.f b hc4 (by rw [hb]; simp)
              rw [s4.b _ _ (st2.b _ _ hD2)] at this; cases this
            rw [upd_ne this]; exact ss.c _ _ hb
        · cases qq : H5 D with
          | none => rfl
          | some z =>
            have := s5.f D hc4 (by rw [qq]; simp)
            rw [s4.b _ _ (st2.b _ _ hD2)] at this; cases this
        · rw [htk, List.filter_append, List.filter_cons, if_pos hf, List.filter_nil, List.map_append]
          exact (r.up ((st2.a.trans s4.a).trans s5.a)).append (.cons r5 .nil)
    · rintro H2 ⟨Hc, vs, st, hc, hD2, r⟩
      rw [List.take_length] at r
      exact q D vs Hc H2 (s1.trans st) (s1.b.free hD) hc hD2 r
/-- without a test -/
theorem ev_lc0 {ds : List D} {Gd : D → Sl} {h : D → D} (hs : SrcD K wi G ds) (hg : ∀ d ∈ ds, TgD K g d (wipeD G ws) (Gd d) ws) (he : ∀ d ∈ ds, EvR K E te (Gd d) (.val (h d))) (hl : ds.length ≤ 100000) :
    EvR K E (tLc wi g tYes te ws) G (.new (ds.map h)) := by
  have q := ev_lc (f := fun _ => true) (tt := tYes) hs hg (fun _ _ => et_yes) (fun d m _ => he d m) hl
  rw [List.filter_eq_self.mpr fun _ _ => rfl] at q
  exact q
/-- over typed items -/
theorem ev_lcT {α : Type} {enc : α → D} {xs : List α} {Gx : α → Sl} {h : α → D} (hs : SrcD K wi G (xs.map enc)) (hg : ∀ x ∈ xs, TgD K g (enc x) (wipeD G ws) (Gx x) ws) (he : ∀ x ∈ xs, EvR K E te (Gx x) (.val (h x))) (inj : ∀ x y, enc x = enc y → x = y) (hl : xs.length ≤ 100000) :
    EvR K E (tLc wi g tYes te ws) G (.new (xs.map h)) := by
  classical
  have hdec : ∀ x ∈ xs, ∃ y, enc y = enc x ∧ y = x := fun x _ => ⟨x, rfl, rfl⟩
  cases xs with
  | nil =>
    exact ev_lc0 (ds := []) (Gd := fun _ => G) (h := fun d => d) hs (fun d m => by cases m) (fun d m => by cases m) (Nat.zero_le _)
  | cons x0 xs0 =>
    let dec : D → α := fun d => if p : ∃ x, enc x = d then p.choose else x0
    have hd : ∀ x, dec (enc x) = x := fun x => by
      have p : ∃ y, enc y = enc x := ⟨x, rfl⟩
      show (if p : ∃ y, enc y = enc x then p.choose else x0) = x
      rw [dif_pos p]
      exact inj _ _ p.choose_spec
    have q := ev_lc0 (ds := (x0 :: xs0).map enc) (Gd := fun d => Gx (dec d)) (h := fun d => h (dec d)) (K := K) (E := E) (G := G) (wi := wi) (g := g) (te := te) (ws := ws) hs
      (fun d m => by
        obtain ⟨x, mx, rfl⟩ := List.mem_map.mp m
        show TgD K g (enc x) _ (Gx (dec (enc x))) ws
        rw [hd]
        exact hg x mx)
      (fun d m => by
        obtain ⟨x, mx, rfl⟩ := List.mem_map.mp m
        show EvR K E te (Gx (dec (enc x))) (.val (h (dec (enc x))))
        rw [hd]
        exact he x mx) (by rw [List.length_map]; exact hl)
    rw [List.map_map] at q
    rw [show (x0 :: xs0).map h = (x0 :: xs0).map ((fun d => h (dec d)) ∘ enc) from List.map_congr_left fun x _ => by show h x = h (dec (enc x)); rw [hd]]
    exact q
theorem ev_lcF {α : Type} {enc : α → D} {xs : List α} {Gx : α → Sl} {h : α → D} {f : α → Bool} (hs : SrcD K wi G (xs.map enc)) (hg : ∀ x ∈ xs, TgD K g (enc x) (wipeD G ws) (Gx x) ws) (ht : ∀ x ∈ xs, EvT K tt (Gx x) (f x)) (he : ∀ x ∈ xs, f x = true → EvR K E te (Gx x) (.val (h x))) (inj : ∀ x y, enc x = enc y → x = y) (hl : xs.length ≤ 100000) :
    EvR K E (tLc wi g tt te ws) G (.new ((xs.filter f).map h)) := by
  classical
  cases xs with
  | nil =>
    exact ev_lc (ds := []) (Gd := fun _ => G) (f := fun _ => true) (h := fun d => d) hs (fun d m => by cases m) (fun d m => by cases m) (fun d m => by cases m) (Nat.zero_le _)
  | cons x0 xs0 =>
    let dec : D → α := fun d => if p : ∃ x, enc x = d then p.choose else x0
    have hd : ∀ x, dec (enc x) = x := fun x => by
      have p : ∃ y, enc y = enc x := ⟨x, rfl⟩
      show (if p : ∃ y, enc y = enc x then p.choose else x0) = x
      rw [dif_pos p]
      exact inj _ _ p.choose_spec
    have q := ev_lc (ds := (x0 :: xs0).map enc) (Gd := fun d => Gx (dec d)) (f := fun d => f (dec d)) (h := fun d => h (dec d)) (K := K) (E := E) (G := G) (wi := wi) (g := g) (tt := tt) (te := te) (ws := ws) hs
      (fun d m => by
        obtain ⟨x, mx, rfl⟩ := List.mem_map.mp m
        show TgD K g (enc x) _ (Gx (dec (enc x))) ws
        rw [hd]
        exact hg x mx)
      (fun d m => by
        obtain ⟨x, mx, rfl⟩ := List.mem_map.mp m
        show EvT K tt (Gx (dec (enc x))) (f (dec (enc x)))
        rw [hd]
        exact ht x mx)
      (fun d m => by
        obtain ⟨x, mx, rfl⟩ := List.mem_map.mp m
        show f (dec (enc x)) = true → EvR K E te (Gx (dec (enc x))) (.val (h (dec (enc x))))
        rw [hd]
        exact he x mx) (by rw [List.length_map]; exact hl)
    rw [List.filter_map, List.map_map] at q
    rw [show (fun d => f (dec d)) ∘ enc = f from funext fun x => by show f (dec (enc x)) = f x; rw [hd]] at q
    rw [show (fun d => h (dec d)) ∘ enc = h from funext fun x => by show h (dec (enc x)) = h x; rw [hd]] at q
    exact q
/-- a comprehension whose element changes own objects: Iv of the new list's place, the turn, the list so far, the own objects (the new list among them) -/
theorem em_lc {P : D → Om → Prop} (hs : SrcM K wi G O fun ds O1 => ds.length ≤ 100000 ∧ ∃ (Gd : D → Sl) (Iv : Addr → Nat → List D → Om → Prop), (∀ d ∈ ds, TgD K g d (wipeD G ws) (Gd d) ws) ∧ (∀ p, O1 p = none → Iv p 0 [] (oput O1 p (.lst []))) ∧
      (∀ p i d acc O2, O1 p = none → ds[i]? = some d → Iv p i acc O2 → O2 p = some (.lst acc) → EvM K te (Gd d) O2 fun y O3 => O3 p = some (.lst acc) ∧ Iv p (i + 1) (acc ++ [y]) (oput O3 p (.lst (acc ++ [y])))) ∧
      (∀ p acc O2, O1 p = none → acc.length = ds.length → O2 p = some (.lst acc) → Iv p ds.length acc O2 → P (.ref p) O2)) : EvM K (tLc wi g tYes te ws) G O P := fun σ H0 H w s Q q =>
  hs σ H0 H w s _ fun J ds O1 H1 H1' ⟨hl, Gd, Iv, hg, h0, hst, hend⟩ s1 w1 ⟨Y, wk, hY⟩ D hD => by
    have hO1 := w1.free hD
    have main := lc_it wk (g := g) (tt := tYes) (te := te) (vs := ws) (σ := σ) (H1 := H1') (D := D) (Qd := Q (.ref D))
      (fun i H2 => ∃ Hc acc O2, Same H1 Hc ∧ Wd K Hc H2 O2 ∧ O2 D = some (.lst acc) ∧ acc.length = i ∧ Iv D i acc O2)
      ⟨H1, [], _, Same.refl _, w1.put (b := .lst []) (w1.le.free hD) ⟨[], rfl, .nil⟩, oput_same, rfl, h0 D hO1⟩ (fun i H2 _ ⟨Hc, acc, O2, a, b, _, _, _⟩ => a.trans b.le) ?_ ?_
    · exact main
    · rintro i x H2 H3 hi ⟨Hc, acc, O2, sc, w2, hD2, hla, iv⟩ y
      obtain ⟨Hd, d, hd, st2, rx⟩ := hY i Hc H2 x H3 hi sc w2.le y
      have md : d ∈ ds := List.mem_of_getElem? hd
      refine hg d md x (wipe σ ws) Hd H3 st2.c (((s.up s1).up (sc.trans st2.a)).wiped ws) rx _ fun σ2 sl2 hl2 hj2 => ⟨wipe_same hl2 hj2, ?_⟩
      show te σ2 H3 _
      refine hst D i d acc O2 hO1 hd iv hD2 σ2 Hd H3 (w2.step st2) sl2 _ fun v e H5 H5' O5 ⟨hD5, iv5⟩ s5 w5 r5 => ?_
      obtain ⟨hn5, o5, ho5, vs, rfl, rvs⟩ := w5.own D _ hD5
      refine ⟨vs, ho5, ?_, H5, acc ++ [e], _, (sc.trans st2.a).trans s5, w5.put (b := .lst (acc ++ [e])) hn5 ⟨vs ++ [v], rfl, rvs.append (.cons r5 .nil)⟩, oput_same, ?_, iv5⟩
      · rw [rvs.length, hla]
        exact Nat.lt_of_lt_of_le (Nat.lt_of_lt_of_le hi hl) (by decide)
      · rw [List.length_append, hla]
        rfl
    · rintro H2 ⟨Hc, acc, O2, sc, w2, hD2, hla, iv⟩
      exact q (.ref D) (.ref D) Hc H2 O2 (hend D acc O2 hO1 hla hD2 iv) (s1.trans sc) w2 (.ref D)
/-- a new list that is changed no more -/
theorem em_freeze {P : D → Om → Prop} {te : TE} (h : EvM K te G O fun d O1 => ∃ p ds, d = .ref p ∧ O1 p = some (.lst ds) ∧ P (.lst ds) (odrop O1 p)) : EvM K te G O P := fun σ H0 H w s Q q =>
  h σ H0 H w s Q fun v d H1 H1' O1 ⟨p, ds, e, hp, k⟩ s1 w1 r1 => by
    subst e
    obtain rfl := r1.ref_eq
    obtain ⟨H2, s2, w2, r2⟩ := w1.freeze hp
    exact q _ _ H2 H1' _ k (s1.trans s2) w2 r2
theorem odrop_put {O : Om} {p : Addr} {b : Ob} (h : O p = none) : odrop (oput O p b) p = O := by
  funext q
  unfold odrop oput
  split
  · rename_i e
    rw [e, h]
  · rfl
theorem oput_comm {O : Om} {p q : Addr} {b c : Ob} (h : p ≠ q) : oput (oput O p b) q c = oput (oput O q c) p b := by
  funext r
  unfold oput
  by_cases h1 : r = q
  · rw [if_pos h1, if_neg (fun e => h (e.symm.trans h1)), if_pos h1]
  · rw [if_neg h1]
    by_cases h2 : r = p
    · rw [if_pos h2, if_pos h2]
    · rw [if_neg h2, if_neg h2, if_neg h1]
end
end Pr
/-! Part D: statements, loops, defs. -/
namespace Pr
open PySem L2
structure En where
  nx : Sl → Om → Prop
  rt : D → Om → Prop
  bk : Sl → Om → Prop := fun _ _ => False
  ct : Sl → Om → Prop := fun _ _ => False
  ex : Value → Om → Prop := fun _ _ => False
  ey : Value → Addr → Om → Prop := fun _ _ _ => False
structure EnD (K : Fg) (E : XK) (H0 : Hp) (N : En) (D : Ends) : Prop where
  nx : ∀ G O σ H0' H', N.nx G O → Same H0 H0' → Wd K H0' H' O → SlD K H0' σ G → D.nx σ H'
  rt : ∀ d O v H0' H', N.rt d O → Same H0 H0' → Wd K H0' H' O → Den K H0' v d → D.rt v H'
  bk : ∀ G O σ H0' H', N.bk G O → Same H0 H0' → Wd K H0' H' O → SlD K H0' σ G → D.bk σ H'
  ct : ∀ G O σ H0' H', N.ct G O → Same H0 H0' → Wd K H0' H' O → SlD K H0' σ G → D.ct σ H'
  ex : ∀ c O H0' H', N.ex c O → Same H0 H0' → Wd K H0' H' O → E c none H'
  ey : ∀ c dd O H0' H', N.ey c dd O → Same H0 H0' → Wd K H0' H' O → E c (some dd) H'
theorem EnD.up {K : Fg} {E : XK} {H0 H1 : Hp} {N : En} {D : Ends} (h : EnD K E H0 N D) (e : Same H0 H1) : EnD K E H1 N D :=
  ⟨fun G O σ a b n s => h.nx G O σ a b n (e.trans s), fun d O v a b n s => h.rt d O v a b n (e.trans s), fun G O σ a b n s => h.bk G O σ a b n (e.trans s), fun G O σ a b n s => h.ct G O σ a b n (e.trans s), fun c O a b n s => h.ex c O a b n (e.trans s), fun c dd O a b n s => h.ey c dd O a b n (e.trans s)⟩
/-- a statement, from slots G and own objects O, keeps N -/
def Sv (K : Fg) (E : XK) (ts : TS) (N : En) (G : Sl) (O : Om) : Prop := ∀ (D : Ends) (σ : St) (H0 H : Hp), Wd K H0 H O → SlD K H0 σ G → EnD K E H0 N D → ts D σ H
section
variable {K : Fg} {E E' : XK} {G : Sl} {O : Om} {N : En} {te ta tb : TE} {t u : TT} {tu tw : TS} {d : D}
theorem sv_seq (h : Sv K E tu { N with nx := fun G' O' => Sv K E tw N G' O' } G O) : Sv K E (tSeq tu tw) N G O := fun D σ H0 H w s n =>
  h { D with nx := tw D } σ H0 H w s ⟨fun G' O' σ' a b k s1 w1 sl => k D σ' a b w1 sl (n.up s1), n.rt, n.bk, n.ct, n.ex, n.ey⟩
/-- what is known between two statements -/
theorem sv_cut (Po : Sl → Om → Prop) (h1 : Sv K E tu { N with nx := Po } G O) (h2 : ∀ G' O', Po G' O' → Sv K E tw N G' O') : Sv K E (tSeq tu tw) N G O := fun D σ H0 H w s n =>
  h1 { D with nx := tw D } σ H0 H w s ⟨fun G' O' σ' a b k s1 w1 sl => h2 G' O' k D σ' a b w1 sl (n.up s1), n.rt, n.bk, n.ct, n.ex, n.ey⟩
theorem sv_next (h : N.nx G O) : Sv K E tNext N G O := fun D σ H0 H w s n => n.nx G O σ H0 H h (Same.refl _) w s
theorem sv_break (h : N.bk G O) : Sv K E tBreak N G O := fun D σ H0 H w s n => n.bk G O σ H0 H h (Same.refl _) w s
theorem sv_cont (h : N.ct G O) : Sv K E tCont N G O := fun D σ H0 H w s n => n.ct G O σ H0 H h (Same.refl _) w s
theorem sv_weak {G' : Sl} {O' : Om} (h : Sv K E tu N G' O') (g : SlLe G' G) (o : OLe O' O) : Sv K E tu N G O := fun D σ H0 H w s n => h D σ H0 H (w.weak o) (s.weak g) n
theorem sv_asg {i : Nat} (h : EvR K E0 te G (.val d)) (k : N.nx (G.set i (some d)) O) : Sv K E (tAsg te (gName i)) N G O := fun D σ H0 H w s n =>
  h σ H0 H w.le s _ fun v H1 H1' s1 r1 => n.nx _ O _ H1 H1' k s1.a (w.step s1) ((s.up s1.a).put r1)
theorem sv_asgM {i : Nat} (h : EvM K te G O fun d O' => N.nx (G.set i (some d)) O') : Sv K E (tAsg te (gName i)) N G O := fun D σ H0 H w s n =>
  h σ H0 H w s _ fun v d H1 H1' O1 k s1 w1 r1 => n.nx _ O1 _ H1 H1' k s1 w1 ((s.up s1).put r1)
theorem sv_asgN {i : Nat} {ds : List D} (h : EvR K E0 te G (.new ds)) (k : ∀ p, O p = none → N.nx (G.set i (some (.ref p))) (oput O p (.lst ds))) : Sv K E (tAsg te (gName i)) N G O := sv_asgM (em_new h k)
/-- to a target of any form -/
theorem sv_asgT {g : TG} {G' : Sl} {ws : List Nat} (h : EvR K E0 te G (.val d)) (hg : TgD K g d G G' ws) (k : N.nx G' O) : Sv K E (tAsg te g) N G O := fun D σ H0 H w s n =>
  h σ H0 H w.le s _ fun v H1 H1' s1 r1 => hg v σ H1 H1' s1.c (s.up s1.a) r1 _ fun σ' sl _ _ => n.nx G' O σ' H1 H1' k s1.a (w.step s1) sl
theorem sv_asgTM {g : TG} (h : EvM K te G O fun d O' => ∃ G' ws, TgD K g d G G' ws ∧ N.nx G' O') : Sv K E (tAsg te g) N G O := fun D σ H0 H w s n =>
  h σ H0 H w s _ fun v d H1 H1' O1 ⟨G', ws, hg, k⟩ s1 w1 r1 => hg v σ H1 H1' w1.le (s.up s1) r1 _ fun σ' sl _ _ => n.nx G' O1 σ' H1 H1' k s1 w1 sl
/-- a, b = x, y -/
theorem sv_par {i j : Nat} {ta : TA} {a b : D} (h : EvA K ta G [a, b]) (k : N.nx ((G.set i (some a)).set j (some b)) O) : Sv K E (tPar i j ta) N G O := fun D σ H0 H w s n =>
  h σ H0 H w.le s _ fun vs H1 H1' s1 r1 => by
    obtain ⟨x, ws, rfl, rx, r2⟩ := r1.cons_out
    obtain ⟨y, ws, rfl, ry, r3⟩ := r2.cons_out
    obtain rfl := r3.nil_out
    exact ⟨x, y, rfl, n.nx _ O _ H1 H1' k s1.a (w.step s1) (((s.up s1.a).put rx).put ry)⟩
theorem sv_ret (h : EvR K E0 te G (.val d)) (k : N.rt d O) : Sv K E (tRet te) N G O := fun D σ H0 H w s n =>
  h σ H0 H w.le s _ fun v H1 H1' s1 r1 => n.rt d O v H1 H1' k s1.a (w.step s1) r1
theorem sv_retM (h : EvM K te G O fun d O' => N.rt d O') : Sv K E (tRet te) N G O := fun D σ H0 H w s n =>
  h σ H0 H w s _ fun v d H1 H1' O1 k s1 w1 r1 => n.rt d O1 v H1 H1' k s1 w1 r1
theorem sv_retN {ds : List D} (h : EvR K E0 te G (.new ds)) (k : ∀ p, O p = none → N.rt (.ref p) (oput O p (.lst ds))) : Sv K E (tRet te) N G O := sv_retM (em_new h k)
theorem sv_retNone (k : N.rt .non O) : Sv K E tRetN N G O := fun D σ H0 H w s n => n.rt .non O .non H0 H k (Same.refl _) w .non
theorem sv_drop (h : EvR K E0 te G (.val d)) (k : N.nx G O) : Sv K E (tDrop te) N G O := fun D σ H0 H w s n =>
  h σ H0 H w.le s _ fun v H1 H1' s1 r1 => n.nx G O σ H1 H1' k s1.a (w.step s1) (s.up s1.a)
theorem sv_dropM (h : EvM K te G O fun _ O' => N.nx G O') : Sv K E (tDrop te) N G O := fun D σ H0 H w s n =>
  h σ H0 H w s _ fun v d H1 H1' O1 k s1 w1 r1 => n.nx G O1 σ H1 H1' k s1 w1 (s.up s1)
/-! what raises -/
theorem sv_dropX {c : Value} (h : EvR K E te G (.exc c)) (k : N.ex c O) : Sv K E (tDrop te) N G O := fun D σ H0 H w s n =>
  h σ H0 H w.le s _ fun H' s1 => n.ex c O H0 H' k (Same.refl _) ⟨w.le.trans s1, fun p b hp => let ⟨a, o, ho, r⟩ := w.own p b hp; ⟨a, o, s1 _ _ ho, r⟩⟩
theorem sv_asgX {c : Value} {g : TG} (h : EvR K E te G (.exc c)) (k : N.ex c O) : Sv K E (tAsg te g) N G O := fun D σ H0 H w s n =>
  h σ H0 H w.le s _ fun H' s1 => n.ex c O H0 H' k (Same.refl _) ⟨w.le.trans s1, fun p b hp => let ⟨a, o, ho, r⟩ := w.own p b hp; ⟨a, o, s1 _ _ ho, r⟩⟩
theorem sv_retX {c : Value} (h : EvR K E te G (.exc c)) (k : N.ex c O) : Sv K E (tRet te) N G O := fun D σ H0 H w s n =>
  h σ H0 H w.le s _ fun H' s1 => n.ex c O H0 H' k (Same.refl _) ⟨w.le.trans s1, fun p b hp => let ⟨a, o, ho, r⟩ := w.own p b hp; ⟨a, o, s1 _ _ ho, r⟩⟩
theorem sv_if {b : Bool} (h : EvT K t G b) (h1 : b = true → Sv K E tu N G O) (h2 : b = false → Sv K E tw N G O) : Sv K E (tIfS t tu tw) N G O := fun D σ H0 H w s n => h σ H0 H w.le s _ fun H1 H1' s1 => by
  cases b with
  | true =>
    show tu D σ H1'
    exact h1 rfl D σ H1 H1' (w.step s1) (s.up s1.a) (n.up s1.a)
  | false =>
    show tw D σ H1'
    exact h2 rfl D σ H1 H1' (w.step s1) (s.up s1.a) (n.up s1.a)
theorem sv_ifM (h : EvMT K t G O fun b O1 => (b = true → Sv K E tu N G O1) ∧ (b = false → Sv K E tw N G O1)) : Sv K E (tIfS t tu tw) N G O := fun D σ H0 H w s n => h σ H0 H w s _ fun b H1 H1' O1 ⟨h1, h2⟩ s1 w1 => by
  cases b with
  | true =>
    show tu D σ H1'
    exact h1 rfl D σ H1 H1' w1 (s.up s1) (n.up s1)
  | false =>
    show tw D σ H1'
    exact h2 rfl D σ H1 H1' w1 (s.up s1) (n.up s1)
/-- x op= e, ints -/
theorem sv_aug {i : Nat} {f : Int → Int → Int} {a b : Int} (hx : G[i]? = some (some (.int a))) (h : EvR K E0 te G (.val (.int b))) (k : N.nx (G.set i (some (.int (f a b)))) O) : Sv K E (tAug i te (ipI f)) N G O := fun D σ H0 H w s n => by
  obtain ⟨v, hv, r⟩ := s.has i _ hx
  refine ⟨v, hv, h σ H0 H w.le s _ fun y H1 H1' s1 r1 => ⟨a, b, r.int_eq, r1.int_eq, ?_⟩⟩
  exact n.nx _ O _ H1 H1' k s1.a (w.step s1) ((s.up s1.a).put (.int _))
theorem sv_augM {i : Nat} {f : Int → Int → Int} {a : Int} (hx : G[i]? = some (some (.int a))) (h : EvM K te G O fun d O' => ∃ b, d = .int b ∧ N.nx (G.set i (some (.int (f a b)))) O') : Sv K E (tAug i te (ipI f)) N G O := fun D σ H0 H w s n => by
  obtain ⟨v, hv, r⟩ := s.has i _ hx
  refine ⟨v, hv, h σ H0 H w s _ fun y d H1 H1' O1 ⟨b, e, k⟩ s1 w1 r1 => ?_⟩
  subst e
  exact ⟨a, b, r.int_eq, r1.int_eq, n.nx _ O1 _ H1 H1' k s1 w1 ((s.up s1).put (.int _))⟩
/-- an own list is changed no more -/
theorem sv_freeze {i : Nat} {p : Addr} {ds : List D} (hx : G[i]? = some (some (.ref p))) (hp : O p = some (.lst ds)) (k : Sv K E tu N (G.set i (some (.lst ds))) (odrop O p)) : Sv K E tu N G O := fun D σ H0 H w s n => by
  obtain ⟨H1, s1, w1, r1⟩ := w.freeze hp
  obtain ⟨v, hv, r⟩ := s.has i _ hx
  have ev : v = .ref p := r.ref_eq
  subst ev
  have sl := (s.up s1).put (j := i) r1
  rw [show σ.set i (some (V.ref p)) = σ from List.ext_getElem? fun j => by
    by_cases e : i = j
    · subst e
      rw [List.getElem?_set_self (List.getElem?_eq_some_iff.mp hv).1, hv]
    · rw [List.getElem?_set_ne e]] at sl
  exact k D σ H1 H w1 sl (n.up s1)
/-! loops -/
theorem sv_forM {wi : TI} {g : TG} (hs : SrcM K wi G O fun ds O1 => ∃ Iv : Nat → Sl → Om → Prop, Iv 0 G O1 ∧
      (∀ i d G2 O2, ds[i]? = some d → Iv i G2 O2 → ∃ G3 ws, TgD K g d G2 G3 ws ∧ Sv K E tu { N with nx := Iv (i + 1), ct := Iv (i + 1), bk := N.nx } G3 O2) ∧ (∀ G2 O2, Iv ds.length G2 O2 → N.nx G2 O2)) : Sv K E (tFor wi g tu) N G O := fun D σ H0 H w s n =>
  hs σ H0 H w s _ fun J ds O1 H1 H1' ⟨Iv, h0, hst, hend⟩ s1 w1 ⟨Y, wk, hY⟩ => by
    refine for_it wk (g := g) (tb := tu) (D := D) (σ := σ) (H := H1') (fun i σ2 H2 => ∃ Hc G2 O2, Same H1 Hc ∧ Wd K Hc H2 O2 ∧ SlD K Hc σ2 G2 ∧ Iv i G2 O2)
      ⟨H1, G, O1, Same.refl _, w1, s.up s1, h0⟩ (fun i σ2 H2 _ ⟨Hc, G2, O2, a, b, _, _⟩ => a.trans b.le) ?_ ?_
    · rintro i x σ2 H2 H3 hi ⟨Hc, G2, O2, sc, w2, sl2, iv⟩ y
      obtain ⟨Hd, d, hd, st2, rx⟩ := hY i Hc H2 x H3 hi sc w2.le y
      obtain ⟨G3, ws, hg, hb⟩ := hst i d G2 O2 hd iv
      refine hg x σ2 Hd H3 st2.c (sl2.up st2.a) rx _ fun σ3 sl3 _ _ => ?_
      refine hb _ σ3 Hd H3 (w2.step st2) sl3 ⟨fun G4 O4 σ4 a b k s4 w4 sl4 => ?_, fun d' O4 v a b k s4 w4 r4 => ?_, fun G4 O4 σ4 a b k s4 w4 sl4 => ?_, fun G4 O4 σ4 a b k s4 w4 sl4 => ?_, fun c O4 a b k s4 w4 => ?_, fun c dd O4 a b k s4 w4 => ?_⟩
      · exact ⟨a, G4, O4, (sc.trans st2.a).trans s4, w4, sl4, k⟩
      · exact n.rt d' O4 v a b k (s1.trans ((sc.trans st2.a).trans s4)) w4 r4
      · exact n.nx G4 O4 σ4 a b k (s1.trans ((sc.trans st2.a).trans s4)) w4 sl4
      · exact ⟨a, G4, O4, (sc.trans st2.a).trans s4, w4, sl4, k⟩
      · exact n.ex c O4 a b k (s1.trans ((sc.trans st2.a).trans s4)) w4
      · exact n.ey c dd O4 a b k (s1.trans ((sc.trans st2.a).trans s4)) w4
    · rintro σ2 H2 ⟨Hc, G2, O2, sc, w2, sl2, iv⟩
      exact n.nx G2 O2 σ2 Hc H2 (hend G2 O2 iv) (s1.trans sc) w2 sl2
/-- a for over pure items -/
theorem sv_for {wi : TI} {g : TG} {ds : List D} (hs : SrcD K wi G ds) (Iv : Nat → Sl → Om → Prop) (h0 : Iv 0 G O)
    (hst : ∀ i d G2 O2, ds[i]? = some d → Iv i G2 O2 → ∃ G3 ws, TgD K g d G2 G3 ws ∧ Sv K E tu { N with nx := Iv (i + 1), ct := Iv (i + 1), bk := N.nx } G3 O2) (hend : ∀ G2 O2, Iv ds.length G2 O2 → N.nx G2 O2) : Sv K E (tFor wi g tu) N G O :=
  sv_forM (src_m hs ⟨Iv, h0, hst, hend⟩)
/-- a while: a word of the measure -/
theorem sv_while (Iv : Nat → Sl → Om → Prop) (m0 : Nat) (h0 : Iv m0 G O)
    (hst : ∀ m G2 O2, Iv m G2 O2 → EvMT K t G2 O2 fun b O3 => (b = true → Sv K E tu { N with nx := fun G4 O4 => ∃ m', m' < m ∧ Iv m' G4 O4, ct := fun G4 O4 => ∃ m', m' < m ∧ Iv m' G4 O4, bk := N.nx } G2 O3) ∧ (b = false → N.nx G2 O3)) :
    Sv K E (tWhile t tu) N G O := fun D σ H0 H w s n => by
  refine ⟨fun m σ2 H2 => ∃ Hc G2 O2, Same H0 Hc ∧ Wd K Hc H2 O2 ∧ SlD K Hc σ2 G2 ∧ Iv m G2 O2, ⟨m0, H0, G, O, Same.refl _, w, s, h0⟩, ?_⟩
  rintro m σ2 H2 ⟨Hc, G2, O2, sc, w2, sl2, iv⟩
  refine hst m G2 O2 iv σ2 Hc H2 w2 sl2 _ fun b H3 H3' O3 ⟨k1, k2⟩ s3 w3 => ?_
  cases b with
  | true =>
    rw [if_pos rfl]
    refine ⟨fun σ' H' => ∃ m', m' < m ∧ ∃ Hc G2 O2, Same H0 Hc ∧ Wd K Hc H' O2 ∧ SlD K Hc σ' G2 ∧ Iv m' G2 O2, fun σ' H' ⟨m', hm, x⟩ => ⟨m', hm, x⟩, ?_⟩
    refine k1 rfl _ σ2 H3 H3' w3 (sl2.up s3) ⟨fun G4 O4 σ4 a b k s4 w4 sl4 => ?_, fun d' O4 v a b k s4 w4 r4 => ?_, fun G4 O4 σ4 a b k s4 w4 sl4 => ?_, fun G4 O4 σ4 a b k s4 w4 sl4 => ?_, fun c O4 a b k s4 w4 => ?_, fun c dd O4 a b k s4 w4 => ?_⟩
    · obtain ⟨m', hm, k⟩ := k
      exact ⟨m', hm, a, G4, O4, (sc.trans s3).trans s4, w4, sl4, k⟩
    · exact n.rt d' O4 v a b k ((sc.trans s3).trans s4) w4 r4
    · exact n.nx G4 O4 σ4 a b k ((sc.trans s3).trans s4) w4 sl4
    · obtain ⟨m', hm, k⟩ := k
      exact ⟨m', hm, a, G4, O4, (sc.trans s3).trans s4, w4, sl4, k⟩
    · exact n.ex c O4 a b k ((sc.trans s3).trans s4) w4
    · exact n.ey c dd O4 a b k ((sc.trans s3).trans s4) w4
  | false =>
    rw [if_neg Bool.false_ne_true]
    exact n.nx G2 O3 σ2 H3 H3' (k2 rfl) (sc.trans s3) w3 (sl2.up s3)
end
/-! ### own lists changed -/
section
variable {K : Fg} {E E' : XK} {G : Sl} {O : Om} {N : En} {te ta tb to : TE} {d : D} {P : D → Om → Prop}
theorem em_append (h : EvM K to G O fun d O1 => ∃ p ds, d = .ref p ∧ O1 p = some (.lst ds) ∧ EvM K te G O1 fun e O2 => ∃ es, O2 p = some (.lst es) ∧ es.length < 100000 ∧ P .non (oput O2 p (.lst (es ++ [e])))) :
    EvM K (tBM K "list" rAppend to (tCons te tNil)) G O P := fun σ H0 H w s Q q => h σ H0 H w s _ fun v d H1 H1' O1 ⟨p, ds, e, hp, k⟩ s1 w1 r1 => by
  subst e
  obtain rfl := r1.ref_eq
  obtain ⟨_, o, ho, vs, rfl, _⟩ := w1.own p _ hp
  refine ⟨.inl ⟨rfl, _, .inl (.inl ho)⟩, k σ H1 H1' w1 (s.up s1) _ fun y e H2 H2' O2 ⟨es, hp2, hl, k2⟩ s2 w2 r2 => ?_⟩
  obtain ⟨h0, o2, ho2, ws, rfl, rw2⟩ := w2.own p _ hp2
  refine ⟨p, ws, y, rfl, rfl, ho2, by rw [rw2.length]; exact Nat.lt_of_lt_of_le hl (by decide), ?_⟩
  exact q .non .non H2 _ _ k2 (s1.trans s2) (w2.put (b := .lst (es ++ [e])) h0 ⟨ws ++ [y], rfl, rw2.append (.cons r2 .nil)⟩) .non
theorem sv_setL {ti : TE} (h : EvM K te G O fun e O1 => EvM K to G O1 fun d O2 => ∃ p, d = .ref p ∧ EvM K ti G O2 fun i O3 => ∃ (j : Nat) (ds : List D), i = .int j ∧ O3 p = some (.lst ds) ∧ j < ds.length ∧ N.nx G (oput O3 p (.lst (ds.set j e)))) :
    Sv K E (tAsg te (gSub to ti rSetL)) N G O := fun D σ H0 H w s n => h σ H0 H w s _ fun v e H1 H1' O1 k1 s1 w1 r1 => k1 σ H1 H1' w1 (s.up s1) _ fun x d H2 H2' O2 ⟨p, ed, k2⟩ s2 w2 r2 => k2 σ H2 H2' w2 (s.up (s1.trans s2)) _ fun y i H3 H3' O3 ⟨j, ds, ei, hp, hj, k3⟩ s3 w3 r3 => by
  subst ed ei
  obtain rfl := r2.ref_eq
  obtain ⟨h0, o, ho, vs, rfl, rv⟩ := w3.own p _ hp
  refine ⟨p, vs, (j : Int), j, rfl, r3.int_eq, ho, ?_, ?_⟩
  · unfold ixN
    rw [if_pos (by omega), if_pos (by rw [rv.length]; omega)]
    simp
  · exact n.nx G _ σ H3 _ k3 ((s1.trans s2).trans s3) (w3.put (b := .lst (ds.set j e)) h0 ⟨vs.set j v, rfl, rv.set (r1.up (s2.trans s3)) j⟩) (s.up ((s1.trans s2).trans s3))
end
/-! ### the own objects otherwise told -/
theorem sv_conv {K : Fg} {E : XK} {ts : TS} {N : En} {G : Sl} {O O' : Om} (c : OTo K O O') (h : Sv K E ts N G O') : Sv K E ts N G O := fun D σ H0 H w s n => h D σ H0 H (c _ _ w) s n
theorem sv_town {K : Fg} {E : XK} {ts : TS} {N : En} {G : Sl} {O : Om} {t : Addr} {m n : Nat} (ht : O t = some (.town m n)) (h : ∀ (c : Int) (cells : List Int), 0 ≤ c → c ≤ n → cells.length = m → Sv K E ts N G (oput O t (.lst (iL (c :: cells))))) : Sv K E ts N G O := fun D σ H0 H w s nn => by
  obtain ⟨h0, o, ho, c, cells, rfl, a, b, e⟩ := w.own t _ ht
  exact h c cells a b e D σ H0 H (w.add (b := .lst (iL (c :: cells))) h0 ho ⟨_, rfl, Dens.of_ints (c :: cells)⟩) s nn
theorem sv_exch {K : Fg} {E : XK} {ts : TS} {N N' : En} {G : Sl} {O : Om} (h : Sv K E ts N G O) (h1 : ∀ G O, N.nx G O → N'.nx G O) (h2 : ∀ d O, N.rt d O → N'.rt d O) (h3 : ∀ G O, N.bk G O → N'.bk G O) (h4 : ∀ G O, N.ct G O → N'.ct G O) (h5 : ∀ c O, N.ex c O → N'.ex c O) (h6 : ∀ c dd O, N.ey c dd O → N'.ey c dd O := by intro _ _ _ z; exact z) : Sv K E ts N' G O := fun D σ H0 H w s n =>
  h D σ H0 H w s ⟨fun G O σ a b k => n.nx G O σ a b (h1 _ _ k), fun d O v a b k => n.rt d O v a b (h2 _ _ k), fun G O σ a b k => n.bk G O σ a b (h3 _ _ k), fun G O σ a b k => n.ct G O σ a b (h4 _ _ k), fun c O a b k => n.ex c O a b (h5 _ _ k), fun c dd O a b k => n.ey c dd O a b (h6 _ _ _ k)⟩
/-! ### defs -/
def startD (n : Nat) (ds : List D) : Sl := ds.map some ++ List.replicate (n - ds.length) none
theorem slD_start {K : Fg} {H : Hp} {N : List Str} {vs : List V} {ds : List D} (r : Dens K H vs ds) : SlD K H (L2.start N vs) (startD N.length ds) := by
  have hl := r.length
  refine ⟨?_, fun i d g => ?_⟩
  · unfold L2.start startD
    rw [List.length_append, List.length_append, List.length_map, List.length_map, List.length_replicate, List.length_replicate, hl]
  · unfold startD at g
    by_cases hi : i < ds.length
    · rw [List.getElem?_append_left (by rw [List.length_map]; exact hi), List.getElem?_map] at g
      cases e : ds[i]? with
      | none => rw [e] at g; cases g
      | some x =>
        rw [e] at g
        cases g
        obtain ⟨v, hv, rv⟩ := r.get e
        refine ⟨v, ?_, rv⟩
        unfold L2.start
        rw [List.getElem?_append_left (by rw [List.length_map, hl]; exact hi), List.getElem?_map, hv]
        rfl
    · rw [List.getElem?_append_right (by rw [List.length_map]; omega), List.getElem?_replicate] at g
      split at g <;> cases g
/-- what a body must reach -/
def enR (r : Res) (O : Om) : En := match r with
  | .val d => { nx := fun _ O' => d = .non ∧ OLe O O', rt := fun d' O' => d' = d ∧ OLe O O' }
  | .new ds => { nx := fun _ _ => False, rt := fun d' O' => ∃ p, d' = .ref p ∧ O p = none ∧ O' p = some (.lst ds) ∧ OLe O O' }
  | .exc c => { nx := fun _ _ => False, rt := fun _ _ => False, ex := fun c' O' => c' = c ∧ OLe O O' }
theorem body_pure {K : Fg} {E : XK} {N : List Str} {P : List D → Res → Prop} {t : TS} {vs : List V} {H : Hp} {Q : VK} (h : SpR K P vs H Q E) (hb : ∀ ds r O, P ds r → Sv K E t (enR r O) (startD N.length ds) O) :
    t { nx := fun _ H' => Q .non H', rt := Q } (L2.start N vs) H := by
  obtain ⟨H0, ds, r, e, rd, p, q⟩ := h
  refine hb ds r (rawOm H0 H) p _ (L2.start N vs) H0 H (Wd.raw e) (slD_start rd) ⟨fun G O σ H1 H' n s w sl => ?_, fun d O v H1 H' n s w rv => ?_, fun G O σ H1 H' n s w sl => ?_, fun G O σ H1 H' n s w sl => ?_, fun c O H1 H' n s w => ?_, fun c dd O H1 H' n s w => ?_⟩
  · cases r with
    | val d =>
      obtain ⟨rfl, l⟩ := n
      exact q .non H1 H' (stp_raw e s w l) .non
    | new ds => exact n.elim
    | exc c => exact n.elim
  · cases r with
    | val d =>
      obtain ⟨rfl, l⟩ := n
      exact q v H1 H' (stp_raw e s w l) rv
    | new ds =>
      obtain ⟨p, rfl, hn, hp, l⟩ := n
      obtain rfl := rv.ref_eq
      obtain ⟨h1, o, ho, vs, rfl, rvs⟩ := w.own p _ hp
      refine q p vs H1 H' (stp_raw e s w l) (raw_none e hn (s.free h1)) h1 ho rvs
    | exc c => exact n.elim
  · cases r <;> exact n.elim
  · cases r <;> exact n.elim
  · cases r with
    | val d => exact n.elim
    | new ds => exact n.elim
    | exc c' =>
      obtain ⟨rfl, l⟩ := n
      exact q H' (stp_raw e s w l).b
  · cases r <;> exact n.elim
theorem body_m {K : Fg} {E : XK} {N : List Str} {P : List D → Om → (D → Om → Prop) → Prop} {t : TS} {vs : List V} {H : Hp} {Q : VK} (h : SpM K P vs H Q E) (hb : ∀ ds O k, P ds O k → Sv K E t { nx := fun _ O' => k .non O', rt := k } (startD N.length ds) O) :
    t { nx := fun _ H' => Q .non H', rt := Q } (L2.start N vs) H := by
  obtain ⟨H0, O, ds, k, w, rd, p, q⟩ := h
  refine hb ds O k p _ (L2.start N vs) H0 H w (slD_start rd) ⟨fun G O' σ H1 H' n s w sl => ?_, fun d O' v H1 H' n s w rv => ?_, fun G O σ H1 H' n s w sl => n.elim, fun G O σ H1 H' n s w sl => n.elim, fun c O H1 H' n s w => n.elim, fun c dd O H1 H' n s w => n.elim⟩
  · exact q .non O' .non H1 H' n s w .non
  · exact q d O' v H1 H' n s w rv
theorem cx_K {CX : CXT} {P : Program} {w : World} {K : Fg} {mg : Str → Option Value} {base : Heap} {N : List Str} {qual : Str} {scope : Scope} {f : Addr} {cd : Value} {A : Around} {outer : List Env} {s : Shared} {H : Hp} {E : XK} :
    (cxOf CX P w K mg base N qual scope f cd A outer s H E).K = K := rfl
/-- a def that can be called by its name -/
structure Cal (P : Program) (w : World) (K : Fg) (mg : Str → Option Value) (base : Heap) (x : Str) (k : Nat) (ps : List Str) (sp : Sp) : Prop where
  ex : ∃ (f : Addr) (fd : FuncData), mg x = some (.ref f) ∧ PySem.W.keepIn K (.ref f) = true ∧ FnOk P w K mg base (L2.CX P w) k f fd ps sp ∧ Binds K fd ps [] ∧ (∀ (s : Shared) (us : List Value), us.length = ps.length → BindsTo s fd ⟨us, []⟩ (ps.zip us)) ∧ ∃ o : Obj, K.lookup f = some o ∧ o.data = .func fd
section
variable {X : Cx} {k : Nat} {x : Str} {ps : List Str} {sp : Sp} {E : XK} {p pos : Pos} {e : Expr} {es : List Expr} {t : TA}
theorem pe_cal (C : Cal X.prog X.w X.K X.mg X.base x k ps sp) (hr : Room k X.A) (ha : PA X (e :: es) t) (hg : Gl X x := by rfl) (hdb : (x == ("__debug__" : Str)) = false := by decide)
    (he : starEach (e :: es) X.env = (false, eval e X.env) :: starEach es X.env := by rfl) (hpl : (backTo pos (starEach es X.env)).any (·.1) = false := by rfl) : PE X (.Call (.Name x p) (e :: es) [] pos) (tCall sp [] E0 t) := by
  obtain ⟨f, fd, hm, kp, F, b, _⟩ := C.ex
  exact pe_call F hr hg hm kp b .nil passL ha hdb he hpl
end
section
variable {P : Program} {w : World} {K : Fg} {mg : Str → Option Value} {base : Heap} {x qual : Str} {params : Arguments} {body : List Stmt} {scope : Scope} {f : Addr}
/-- a def that raises nothing -/
theorem cal_nox {N ps : List Str} {k : Nat} {sp : Sp} (hm : mg x = some (.ref f)) (F : ∃ fd, FunD K x qual params body scope [] [] f fd) (S : FnScope N ps scope) (len : ∀ vs H Q E, sp vs H Q E → vs.length = ps.length)
    (h : ∀ (kV doc pm : Value) (an : Option Addr) (cdv ct : Value) (us : List Value), us.length = ps.length → bindArgs (PySem.W.fnOf x qual params body scope .none kV doc pm an cdv ct) ⟨us, []⟩ = pure (ps.zip us))
    (hbody : ∀ (cdv : Value) (A : Around) (outer : List Env) (s : Shared) (H : Hp) (vs : List V) (Q : VK) (E : XK), Room k (A.deeper (PyProof.Rows.envOfC qual scope s.heap.objs.size f cdv)) → sp vs H Q E →
      ∃ t, PSs (cxOf (L2.CX P w) P w K mg base N qual scope f cdv A outer s H E).nox body t ∧ t { nx := fun _ H' => Q .non H', rt := Q } (L2.start N vs) H) : Cal P w K mg base x (k + 1) ps sp := by
  obtain ⟨fd, F⟩ := F
  refine ⟨f, fd, hm, F.kp, F.ok S len fun cdv A outer s H vs Q E hr hsp => ?_, F.bindsN h, fun s us hl => F.bindsA h s us hl, ?_⟩
  rotate_left
  · obtain ⟨oc, od, dV, kV, doc, pm, an, cdv, ct, osl, rfl, lk, _⟩ := F.ex
    exact ⟨_, lk, rfl⟩
  obtain ⟨t, a, b⟩ := hbody cdv A outer s H vs Q E hr hsp
  exact ⟨t, a.nox, b⟩
end
theorem len_R {K : Fg} {P : List D → Res → Prop} {n : Nat} (h : ∀ ds r, P ds r → ds.length = n) : ∀ vs H Q E, SpR K P vs H Q E → vs.length = n := fun vs H Q E ⟨H0, ds, r, _, rd, p, _⟩ => by rw [rd.length]; exact h ds r p
theorem len_M {K : Fg} {P : List D → Om → (D → Om → Prop) → Prop} {n : Nat} (h : ∀ ds O k, P ds O k → ds.length = n) : ∀ vs H Q E, SpM K P vs H Q E → vs.length = n := fun vs H Q E ⟨H0, O, ds, k, _, rd, p, _⟩ => by rw [rd.length]; exact h ds O k p
/-- a module's constant -/
theorem pe_cst {X : Cx} {x : Str} {i : Int} {pos : Pos} (h : ∃ t, X.mg x = some (.int i t)) (hg : Gl X x := by rfl) (hd : (x == ("__debug__" : Str)) = false := by decide) : PE X (.Name x pos) (tC (.int i)) := by
  obtain ⟨t, h⟩ := h
  exact pe_glob hg h ⟨t, rfl⟩ hd
theorem pe_cstS {X : Cx} {x : Str} {i : Str} {pos : Pos} (h : ∃ t, X.mg x = some (.str i t)) (hg : Gl X x := by rfl) (hd : (x == ("__debug__" : Str)) = false := by decide) : PE X (.Name x pos) (tC (.str i)) := by
  obtain ⟨t, h⟩ := h
  exact pe_glob hg h ⟨t, rfl⟩ hd
/-- x *= e -/
def ipMul : TIp := fun x y H Q => ∃ i j, x = .int i ∧ y = .int j ∧ CMul i j ∧ Q (.int (i * j)) H
theorem ip_mul {X : Cx} : PIp X .Mult ipMul := by
  intro pins s σ H x y v u Q I r1 r2 h
  obtain ⟨i, j, e1, e2, hc, q⟩ := h
  subst e1; subst e2
  obtain ⟨t, rfl⟩ := r1
  obtain ⟨t', rfl⟩ := r2
  exact PySem.AutoIntOps.imul_0 ⟨.int (i * j), H, I.tok _, ⟨_, rfl⟩, q⟩ hc.ok
theorem sv_augMul {K : Fg} {E : XK} {G : Sl} {O : Om} {N : En} {te : TE} {i : Nat} {a b : Int} (hx : G[i]? = some (some (.int a))) (h : EvR K E0 te G (.val (.int b))) (hc : CMul a b) (k : N.nx (G.set i (some (.int (a * b)))) O) : Sv K E (tAug i te ipMul) N G O := fun D σ H0 H w s n => by
  obtain ⟨v, hv, r⟩ := s.has i _ hx
  refine ⟨v, hv, h σ H0 H w.le s _ fun y H1 H1' s1 r1 => ⟨a, b, r.int_eq, r1.int_eq, hc, ?_⟩⟩
  exact n.nx _ O _ H1 H1' k s1.a (w.step s1) ((s.up s1.a).put (.int _))
/-! ### the law's end -/
inductive PLaw : List D → Om → (D → Om → Prop) → Prop
  | mk (ns : List Int) (O : Om) (k : D → Om → Prop) (h : ns.length ≤ 63) (hk : ∀ O', k (.bl true) O') : PLaw [.scr ns] O k
theorem law_end {P : Program} {w : World} {K : Fg} {mg : Str → Option Value} {fa : Addr} {k : Nat} (hfa : mg "law" = some (.ref fa)) (C : ∀ base : Heap, Cal P w K mg base "law" k ["script"] (SpM K PLaw)) :
    ∃ (fd : FuncData) (sp : Sp), (∀ (s : Shared) (u : Value), BindsTo s fd ⟨[u], []⟩ [("script", u)]) ∧
      (∀ (H : Hp) (a : Addr) (ns : List Int), ns.length ≤ 63 → Only H → SqL K H a (ns.map V.int) → sp [.ref a] H (fun v _ => v = .bl true) fun _ _ _ => False) ∧
        ∀ base : Heap, K.In base → base.Ns mainGlobals mg → FnOk P w K mg base CX0 k fa fd ["script"] sp := by
  obtain ⟨f, fd, hm, kp, F, b, bA, o, lo, od⟩ := (C default).ex
  have e := hfa.symm.trans hm
  cases e
  refine ⟨fd, fun vs H Q _ => SpM K PLaw vs H Q E0, fun s u => bA s [u] rfl, fun H a ns hl _ hS => ?_, fun base _ _ => ?_⟩
  · exact ⟨H, fun _ => none, [.scr ns], fun d _ => d = .bl true, ⟨Same.refl _, fun p b h => by cases h⟩, .cons (.scr hS) .nil, .mk ns _ _ hl fun _ => rfl, fun d O' v H0' H' hd _ _ r => by subst hd; exact r.bl_eq⟩
  · obtain ⟨f', fd', hm', kp', F', b', bA', o', lo', od'⟩ := (C base).ex
    have e := hm.symm.trans hm'
    cases e
    have e := lo.symm.trans lo'
    cases e
    have e := od.symm.trans od'
    cases e
    refine ⟨fun vs H Q _ h => F'.len vs H Q E0 h, fun A outer s H args us vs Q E hr h0 hb hv h => ?_⟩
    refine codeAny_mono (F'.run A outer s H args us vs Q E0 hr h0 hb hv h) fun r s' q => ?_
    cases r with
    | error e =>
      obtain ⟨_, _, _, _, _, _, _, _, _, _, _, _, z⟩ := q
      exact z.elim
    | ok fl =>
      cases fl with
      | ret u => exact q
      | next => exact q
      | brk => exact q
      | cont => exact q
end Pr
/-! Part R: further rules of the layer. -/
namespace L2
open PySem PySem.Spec PyProof.Rows
section
variable {X : Cx}
theorem count_eqU {x : V} : ∀ {xs : List V} {us : List Value}, Vals xs us → xs.all flatV = true → us.countP (eqU x) = xs.countP fun y => eqV y x
  | _, _, .nil, _ => rfl
  | y :: xs, u :: us, .cons r t, f => by
    rw [List.all_cons, Bool.and_eq_true] at f
    rw [List.countP_cons, List.countP_cons, eqU_of r f.1, count_eqU t f.2]
/-- xs.count(y), flat items -/
def rCntF (K : PySem.W.Frag) : V → List V → Hp → VK → Prop := fun x xs H Q => ∃ (p : Addr) (ys : List V) (y : V), x = .ref p ∧ xs = [y] ∧ SqL K H p ys ∧ flatV y = true ∧ ys.all flatV = true ∧ Q (.int (ys.countP fun z => eqV z y : Nat)) H
theorem mt_cntF : MtR X "list.count" (rCntF X.K) := by
  intro pins s σ H x xs v us Q I rx rxs h
  obtain ⟨p, ys, y, rfl, rfl, hs, fy, fs, q⟩ := h
  cases rx
  obtain ⟨u, rfl, ru⟩ := rxs.one
  obtain ⟨its, rv, ⟨⟨cls, dd, data, sl⟩, n, ho, hc, hdn, hd⟩, hlen⟩ := I.list hs
  simp only at hc hd
  subst hc hd
  refine call_meets PySem.F.slot_list_count ⟨_, ho, rfl⟩ PySem.F.entry_list_count (PySem.F.args_list_count_2 _ _)
    (SeqAt.list_countAt p its.toArray n dd sl u (eqU y)) ⟨ho, fun z hz => mem_eqAt ru fy rv fs z (by simpa using hz), ?_⟩
  refine ⟨.int (ys.countP fun z => eqV z y : Nat), H, I.tok _, ⟨s.toks, ?_⟩, q⟩
  show Value.int ((its.toArray.toList.countP (eqU y) : Nat) : Int) s.toks = Value.int ((ys.countP fun z => eqV z y : Nat) : Int) s.toks
  rw [show its.toArray.toList = its from rfl, count_eqU rv fs]
end
end L2
namespace Pr
open PySem L2
section
variable {K : Fg} {E : XK} {G : Sl}
theorem ev_bm {te : TE} {t : TA} {r : V → List V → Hp → VK → Prop} {ds es : List D} {z : Res} (h : EvR K E te G (.val (.lst ds))) (ha : EvA K t G es) (hr : RM K E r (.lst ds) es z) : EvR K E (tBM K "list" r te t) G z := fun σ H0 H e s Q q =>
  h σ H0 H e s _ fun v H1 H1' s1 r1 => by
    obtain ⟨a, vs, rfl, hv, tv⟩ := r1.lst_out
    exact ⟨.inl ⟨rfl, vs, .inl (.inl (s1.c _ _ hv))⟩, ha σ H1 H1' s1.c (s.up s1.a) _ fun xs H2 H2' s2 r2 => hr H2 H2' s2.c _ xs (r1.up s2.a) r2 Q (Res.sat_step (s1.trans s2) q)⟩
def cntD (d : D) (ds : List D) : Nat := (ds.map vOf).countP fun z => eqV z (vOf d)
theorem rm_cnt {ds : List D} {d : D} (h1 : flatD d = true) (h2 : ds.all flatD = true) : RM K E (rCntF K) (.lst ds) [d] (.val (.int (cntD d ds : Nat))) := fun H0 H e x xs r1 r2 Q q => by
  obtain ⟨a, vs, rfl, ha, t⟩ := r1.lst_out
  obtain ⟨v, ws, rfl, r3, r4⟩ := r2.cons_out
  obtain rfl := r4.nil_out
  obtain ⟨e1, f1⟩ := flat_den r3 h1
  obtain ⟨e2, f2⟩ := flat_dens t h2
  refine ⟨a, vs, v, rfl, rfl, .inl (.inl (e _ _ ha)), f1, f2, ?_⟩
  rw [e1, e2]
  exact sat_val e q (.int _)
theorem cntD_strs (x : Str) (xs : List Str) : cntD (.str x) (sL xs) = xs.count x := by
  unfold cntD
  rw [List.map_map]
  induction xs with
  | nil => rfl
  | cons y ys ih =>
    rw [List.map_cons, List.countP_cons, ih, List.count_cons]
    rfl
theorem cntD_bls (x : Bool) (xs : List Bool) : cntD (.bl x) (bL xs) = xs.count x := by
  unfold cntD
  rw [List.map_map]
  induction xs with
  | nil => rfl
  | cons y ys ih =>
    rw [List.map_cons, List.countP_cons, ih, List.count_cons]
    rfl
end
end Pr
/-! Part S: own classes: len, ==, != by own methods; instances as data; methods, new instances. -/
namespace L2
open PySem PySem.Spec PyProof.Rows PySem.W
/-- a def run one builtin deeper -/
theorem run_in1 {X : Cx} {k : Nat} {f : Addr} {fd : FuncData} {ps : List Str} {sp : Sp} {pins : List (Addr × Obj)} {σ : St} {H : Hp} {s : Shared} {Q : VK} {us : List Value} {vs : List V} (F : FnOk X.prog X.w X.K X.mg X.base (L2.CX X.prog X.w) k f fd ps sp) (hr : Room (k + 1) X.A)
    (hb : Binds X.K fd ps []) (I : Inv X pins σ H s) (r : Vals vs us) (h : sp vs H Q E0) : wpAny (model X.prog X.w) X.A.in1 (call (.ref f) us) (EP X pins σ Q) X.xe s := by
  have hl : (us ++ []).length = ps.length := by rw [List.append_nil, ← r.length]; exact F.len _ _ _ _ h
  have hb2 := hb s us I.kIn hl
  rw [List.append_nil] at hb2
  refine wpAny_call (codeAny_mono (F.run X.A.in1 X.stack s H ⟨us, []⟩ us vs Q E0 hr.in1 I.env0.in1 hb2 r h) fun r s' hq => ?_)
  cases r with
  | error e =>
    obtain ⟨_, _, _, _, _, _, _, _, _, _, _, _, z⟩ := hq
    exact z.elim
  | ok fl =>
    cases fl with
    | ret u => exact I.after hq
    | next => exact False.elim hq
    | brk => exact False.elim hq
    | cont => exact False.elim hq
theorem run_in0 {X : Cx} {k : Nat} {f : Addr} {fd : FuncData} {ps : List Str} {sp : Sp} {pins : List (Addr × Obj)} {σ : St} {H : Hp} {s : Shared} {Q : VK} {us : List Value} {vs : List V} (F : FnOk X.prog X.w X.K X.mg X.base (L2.CX X.prog X.w) k f fd ps sp) (hr : Room k X.A)
    (hb : Binds X.K fd ps []) (I : Inv X pins σ H s) (r : Vals vs us) (h : sp vs H Q E0) : wpAny (model X.prog X.w) X.A (call (.ref f) us) (EP X pins σ Q) X.xe s := by
  have e : vs ++ [] = vs := List.append_nil _
  exact run_fn (dvs := []) F hr hb .nil passL I r (by rw [e]; exact h)
/-- what an own method promises, found in the class -/
structure CalM (P : Program) (w : World) (K : Frag) (mg : Str → Option Value) (base : Heap) (C : Addr) (m : Str) (k : Nat) (ps : List Str) (sp : Sp) : Prop where
  ex : ∃ (f : Addr) (fd : FuncData), Meth K C m f ∧ FnOk P w K mg base (L2.CX P w) k f fd ps sp ∧ Binds K fd ps []
section
variable {X : Cx} {k : Nat} {C : Addr} {m : Str} {ps : List Str} {sp : Sp} {apos pos p : Pos} {o e : Expr} {es : List Expr} {ta : TE} {t : TA}
theorem pe_mth {pl : Sem Bool} (M : CalM X.prog X.w X.K X.mg X.base C m k ps sp) (c : Cls X.K C) (hr : Room k X.A) (he : PE X o ta) (ha : PA X (e :: es) t)
    (hst : starEach (e :: es) X.env = (false, eval e X.env) :: starEach es X.env := by rfl) (hpl : (backTo pos (starEach es X.env)).any (·.1) = false := by rfl)
    (ht : eval (.Call (.Attribute o m apos) (e :: es) [] pos) X.env = (do
      let ov ← eval o X.env
      standAt apos.atName
      let (f, first) ← holding [ov] (getMethod ov m pl)
      callWith pos f first (backTo pos (starEach (e :: es) X.env)) (backToKw pos (keywordEach [] X.env))) := by rfl) :
    PE X (.Call (.Attribute o m apos) (e :: es) [] pos) (tMeth C m sp [] E0 ta t) := by
  obtain ⟨f, fd, hm, F, b⟩ := M.ex
  exact pe_meth he c hm F hr b .nil passL ha hst hpl ht
theorem pe_mth0 {pl : Sem Bool} (M : CalM X.prog X.w X.K X.mg X.base C m k ps sp) (c : Cls X.K C) (hr : Room k X.A) (he : PE X o ta)
    (ht : eval (.Call (.Attribute o m apos) [] [] pos) X.env = (do
      let ov ← eval o X.env
      standAt apos.atName
      let (f, first) ← holding [ov] (getMethod ov m pl)
      callWith pos f first (backTo pos (starEach [] X.env)) (backToKw pos (keywordEach [] X.env))) := by rfl) :
    PE X (.Call (.Attribute o m apos) [] [] pos) (tMeth C m sp [] E0 ta tNil) := by
  obtain ⟨f, fd, hm, F, b⟩ := M.ex
  exact pe_meth0 he c hm F hr b .nil passL ht
/-- len(o) by an own __len__ -/
theorem call_lenOwn (M : CalM X.prog X.w X.K X.mg X.base C "__len__" k ps sp) (hr : Room (k + 1) X.A) : CallR X (.builtin "len") (fun xs H Q => ∃ a dx fs, xs = [.ref a] ∧ H a = some (.ins C dx fs) ∧ sp [.ref a] H (fun v H' => ∃ n : Int, v = .int n ∧ 0 ≤ n ∧ n < 2 ^ 63 ∧ Q (.int n) H') E0) := by
  obtain ⟨f, fd, hm, F, b⟩ := M.ex
  intro pins s σ H xs us Q I r h
  obtain ⟨a, dx, fs, rfl, ha, hq⟩ := h
  obtain ⟨u, rfl, rx⟩ := vals1 r
  cases rx
  obtain ⟨mA, O, _⟩ := ins_get I.hok ha
  obtain ⟨od, J, _⟩ := O.look
  obtain ⟨mm, Fm⟩ := I.fr
  refine len_K Fm I.ok.mod.kin J hm.at_ hm.fn (wpAny_mono (run_in1 (vs := [.ref a]) F hr b I (.cons rfl .nil) hq) (fun v s' hv => ?_) fun _ _ z => z)
  obtain ⟨z, H', I', rz, n, rfl, h0, h1, q⟩ := hv
  obtain ⟨tk, rfl⟩ := rz
  exact ⟨⟨h0, h1⟩, ⟨.int n, H', I'.tok _, ⟨_, rfl⟩, q⟩⟩
/-- o == p by an own __eq__, both of one class -/
def rEqOwn (C : Addr) (sp : Sp) : R2 := fun x y H Q => ∃ a dx fs b dx' fs', x = .ref a ∧ y = .ref b ∧ H a = some (.ins C dx fs) ∧ H b = some (.ins C dx' fs') ∧ sp [.ref a, .ref b] H (fun v H' => ∃ r : Bool, v = .bl r ∧ Q (.bl r) H') E0
theorem op_eqOwn (M : CalM X.prog X.w X.K X.mg X.base C "__eq__" k ps sp) (hr : Room k X.A) : OpR X (compareOp .Eq) (rEqOwn C sp) := by
  obtain ⟨f, fd, hm, F, b⟩ := M.ex
  intro pins s σ H x y v u Q I rx ry h
  obtain ⟨a, dx, fs, b', dx', fs', rfl, rfl, ha, hb, hq⟩ := h
  cases rx
  cases ry
  obtain ⟨mA, O, _⟩ := ins_get I.hok ha
  obtain ⟨od, J, _⟩ := O.look
  obtain ⟨mA', O', _⟩ := ins_get I.hok hb
  obtain ⟨od', J', _⟩ := O'.look
  obtain ⟨mm, Fm⟩ := I.fr
  refine cmp_ofEq (cmp_K (op := .Eq) hr.units0 Fm I.ok.mod.kin J (InstAt.type J') (by unfold notFirst; simp) hm.at_ hm.fn (wpAny_mono (run_in0 (vs := [.ref a, .ref b']) F hr b I (.cons rfl (.cons rfl .nil)) hq) (fun v s' hv => ?_) fun _ _ z => z))
  obtain ⟨z, H', I', rz, r, rfl, q⟩ := hv
  cases rz
  exact ⟨.bl r, H', I', rfl, q⟩
def rNeOwn (C : Addr) (sp : Sp) : R2 := fun x y H Q => ∃ a dx fs b dx' fs', x = .ref a ∧ y = .ref b ∧ H a = some (.ins C dx fs) ∧ H b = some (.ins C dx' fs') ∧ sp [.ref a, .ref b] H (fun v H' => ∃ r : Bool, v = .bl r ∧ Q (.bl (!r)) H') E0
end
section
variable {prog : Program} {w : World} {A : Around} {E : Value → Shared → Prop} {s : Shared} {K : Frag} {x C f : Addr} {ox : Obj} {od : Option Obj} {b tb : Value}
/-- object.__ne__ over an own __eq__ -/
theorem ne_ownK {Q : Value → Shared → Prop} (hu : A.units + 1 < cLine) (X : K.In s.heap) (I : InstAt s.heap x ox C od) (hb : Looks (model prog w) s.heap (typeOf b) tb) (hn : notFirst K C tb = true)
    (hne : findIn K (.ref C) "__ne__" = some (some (.builtin "object.__ne__"))) (hs : findIn K (.ref C) "__eq__" = some (some (.ref f))) (hf : isFn K (.ref f) = true) (hsub : subIn K (.ref C) (.type "object") = some true)
    (h : wpAny (model prog w) A.in1 (call (.ref f) [.ref x, b]) (fun v s' => ∃ r, v = .bool r ∧ Q (.bool (!r)) s') E s) : wpAny (model prog w) A (richCompare .NotEq (.ref x) b) Q E s := by
  have one : wpAny (model prog w) A (tryCompare (.ref x) (cmpInfo .NotEq).2.1 b) (fun r s' => ∃ v, r = some v ∧ Q v s') E s := by
    show wpAny (model prog w) A (tryCompare (.ref x) "__ne__" b) _ E s
    unfold tryCompare
    have big : wpAny (model prog w) A (call (.builtin "object.__ne__") [.ref x, b]) (fun v s' => ∃ r, v = .bool r ∧ Q (.bool r) s') E s := by
      refine wpAny_call (codeAny_call_builtin F.cmp_object.ne.plain F.cmpEntry_ne (check_slot F.cmpKind_ne F.cmpSplit_ne ?_ (F.cmpArgs_ne _ _) ?_))
      · unfold isInstance
        exact I.type.andThen (looks_subIn X hsub)
      · unfold Builtin.«object.__ne__»
        refine wpAny_bind (wpAny_of_eq (a := ((Value.ref x : Value), [b])) (by first | rfl | (simp only [slotArgs]; rfl)) ?_)
        refine wpAny_bind (m := cRoomFor _ _) (wpAny_cRoomFor hu ?_)
        refine wpAny_bind (m := callSpecialIfBound? (.ref x) (Str.ofString "__eq__") [b]) (ifBound_K X I hs hf (wpAny_mono h (fun v s' hv => ?_) fun _ _ e => e))
        obtain ⟨r, rfl, hq⟩ := hv
        refine wpAny_bind (m := truthy (.bool _)) (wpAny_truthy_bool ?_)
        exact wpAny_pure ⟨_, rfl, hq⟩
    have fin : wpAny (model prog w) A (call (.builtin "object.__ne__") ([.ref x] ++ [b]) >>= fun v => pure (some v)) (fun r s' => ∃ v, r = some (.bool v) ∧ Q (.bool v) s') E s :=
      wpAny_bind (wpAny_mono big (fun v s' ⟨r, e, q⟩ => wpAny_pure ⟨r, by rw [e], q⟩) fun _ _ z => z)
    refine wpAny_bind (m := callSpecialIfBound? (.ref x) (Str.ofString "__ne__") [b]) (wpAny_mono (Q := fun r s' => ∃ v, r = some (.bool v) ∧ Q (.bool v) s') (E := E) ?_ (fun r s' ⟨v, e, q⟩ => by subst e; exact wpAny_pure ⟨_, rfl, q⟩) fun _ _ z => z)
    simp only [callSpecialIfBound?, bindSpecialIfBound?]
    refine wpAny_holding (wpAny_bind (wpAny_bind (wpAny_bind (I.type.here ((looks_findIn X hne).here ?_)))))
    simp only [F.cmp_object.ne.bind]
    refine wpAny_bind (wpAny_askSetting (wpAny_ite ?_))
    split
    · exact wpAny_bind (wpAny_pure (wpAny_pure fin))
    · exact wpAny_tryCatch (wpAny_bind (wpAny_pure (wpAny_pure fin)))
  unfold richCompare
  simp only [oneThing_ref]
  refine wpAny_holding (wpAny_bind (wpAny_cRoomFor (Nat.lt_of_succ_lt hu) ?_))
  refine wpAny_bind (I.type.here (wpAny_bind (hb.here ?_)))
  split
  · rename_i q
    have e : subIn K tb (.ref C) = some false := by
      rcases Bool.or_eq_true_iff.mp hn with e | e
      · rw [beq_iff_eq.mp e] at q; simp at q
      · exact beq_iff_eq.mp e
    refine wpAny_bind ((looks_subIn X e).here ?_)
    simp only [Bool.false_eq_true, if_false]
    refine wpAny_bind (wpAny_mono one (fun r s' z => ?_) fun _ _ e => e)
    obtain ⟨v, rfl, hq⟩ := z
    exact wpAny_pure hq
  · refine wpAny_bind (wpAny_pure ?_)
    simp only [Bool.false_eq_true, if_false]
    refine wpAny_bind (wpAny_mono one (fun r s' z => ?_) fun _ _ e => e)
    obtain ⟨v, rfl, hq⟩ := z
    exact wpAny_pure hq
end
section
variable {X : Cx} {k : Nat} {C : Addr} {ps : List Str} {sp : Sp}
theorem op_neOwn (M : CalM X.prog X.w X.K X.mg X.base C "__eq__" k ps sp) (hne : findIn X.K (.ref C) "__ne__" = some (some (.builtin "object.__ne__"))) (hsub : subIn X.K (.ref C) (.type "object") = some true) (hr : Room (k + 1) X.A) : OpR X (compareOp .NotEq) (rNeOwn C sp) := by
  obtain ⟨f, fd, hm, F, b⟩ := M.ex
  intro pins s σ H x y v u Q I rx ry h
  obtain ⟨a, dx, fs, b', dx', fs', rfl, rfl, ha, hb, hq⟩ := h
  cases rx
  cases ry
  obtain ⟨mA, O, _⟩ := ins_get I.hok ha
  obtain ⟨od, J, _⟩ := O.look
  obtain ⟨mA', O', _⟩ := ins_get I.hok hb
  obtain ⟨od', J', _⟩ := O'.look
  refine cmp_ofNotEq (ne_ownK (Nat.lt_of_le_of_lt (by omega) hr.units) I.kIn J (InstAt.type J') (by unfold notFirst; simp) hne hm.at_ hm.fn hsub (wpAny_mono (run_in1 (vs := [.ref a, .ref b']) F hr b I (.cons rfl (.cons rfl .nil)) hq) (fun v s' hv => ?_) fun _ _ z => z))
  obtain ⟨z, H', I', rz, r, rfl, q⟩ := hv
  cases rz
  exact ⟨r, rfl, ⟨.bl (!r), H', I', rfl, q⟩⟩
end
end L2
/-! ### instances as data -/
namespace Pr
open PySem L2
theorem lookup_none_of {fs : List (Str × V)} {m : Str} : fs.map (·.1) = fs.map (·.1) → m ∉ fs.map (·.1) → fs.lookup m = none := fun _ h => by
  induction fs with
  | nil => rfl
  | cons p fs ih =>
    obtain ⟨n, v⟩ := p
    rw [List.map_cons, List.mem_cons, not_or] at h
    rw [List.lookup_cons]
    have : (m == n) = false := beq_eq_false_iff_ne.mpr h.1
    rw [this]
    exact ih rfl h.2
theorem lookup_den {K : Fg} {H : Hp} {f : Str} {d : D} : ∀ {fs : List (Str × V)} {ds : List D}, Dens K H (fs.map (·.2)) ds → ((fs.map (·.1)).zip ds).lookup f = some d → ∃ v, fs.lookup f = some v ∧ Den K H v d
  | [], ds, h, e => by cases h; cases e
  | (n, v) :: fs, ds, h, e => by
    obtain ⟨w, ws, e1, r1, r2⟩ : ∃ d' ds', ds = d' :: ds' ∧ Den K H v d' ∧ Dens K H (fs.map (·.2)) ds' := by
      cases h with
      | cons h t => exact ⟨_, _, rfl, h, t⟩
    subst e1
    rw [List.map_cons, List.zip_cons_cons, List.lookup_cons] at e
    rw [List.lookup_cons]
    cases q : (f == n) with
    | true =>
      rw [q] at e
      cases e
      exact ⟨v, rfl, r1⟩
    | false =>
      rw [q] at e
      exact lookup_den r2 e
section
variable {K : Fg} {E : XK} {G : Sl} {O : Om} {ta te : TE} {t : TA} {C : Addr} {m f : Str} {ns : List Str} {ds : List D}
theorem ev_fld {d : D} (h : EvR K E ta G (.val (.ins C ns ds))) (c : Cls K C) (n : NoAttr K C f) (hl : (ns.zip ds).lookup f = some d) : EvR K E (tFld K ta f) G (.val d) := fun σ H0 H e s Q q =>
  h σ H0 H e s _ fun v H1 H1' s1 r1 => by
    obtain ⟨a, dx, fs, rfl, ha, hn, rd⟩ := r1.ins_out
    subst hn
    obtain ⟨v, hv, rv⟩ := lookup_den rd hl
    exact ⟨a, C, dx, fs, v, rfl, s1.c _ _ ha, c, n, hv, q v H1 H1' s1 rv⟩
theorem ev_meth {P : List D → Res → Prop} {es : List D} {z : Res} (h : EvR K E ta G (.val (.ins C ns ds))) (hm : m ∉ ns) (ha : EvA K t G es) (p : P (.ins C ns ds :: es) z) (hz : ∀ c, z ≠ .exc c) : EvR K E (tMeth C m (SpR K P) [] E0 ta t) G z := fun σ H0 H e s Q q =>
  h σ H0 H e s _ fun v H1 H1' s1 r1 => by
    obtain ⟨a, dx, fs, rfl, hp, hn, rd⟩ := id r1.ins_out
    refine ⟨a, dx, fs, rfl, s1.c _ _ hp, lookup_none_of rfl (by rw [hn]; exact hm), ha σ H1 H1' s1.c (s.up s1.a) _ fun xs H2 H2' s2 r2 => ?_⟩
    refine ⟨H2, .ins C ns ds :: es, z, s2.c, by rw [List.append_nil]; exact .cons (r1.up s2.a) r2, p, ?_⟩
    have q2 := Res.sat_step (s1.trans s2) q
    cases z with
    | val d => exact q2
    | new ds => exact q2
    | exc c => exact absurd rfl (hz c)
theorem ev_methV {P : List D → Res → Prop} {es : List D} {d : D} (h : EvR K E ta G (.val (.ins C ns ds))) (hm : m ∉ ns) (ha : EvA K t G es) (p : P (.ins C ns ds :: es) (.val d)) : EvR K E (tMeth C m (SpR K P) [] E0 ta t) G (.val d) := ev_meth h hm ha p fun _ z => by cases z
theorem ev_methN {P : List D → Res → Prop} {es rs : List D} (h : EvR K E ta G (.val (.ins C ns ds))) (hm : m ∉ ns) (ha : EvA K t G es) (p : P (.ins C ns ds :: es) (.new rs)) : EvR K E (tMeth C m (SpR K P) [] E0 ta t) G (.new rs) := ev_meth h hm ha p fun _ z => by cases z
theorem ev_methNV {P : List D → Res → Prop} {es rs : List D} (h : EvR K E ta G (.val (.ins C ns ds))) (hm : m ∉ ns) (ha : EvA K t G es) (p : P (.ins C ns ds :: es) (.new rs)) : EvR K E (tMeth C m (SpR K P) [] E0 ta t) G (.val (.lst rs)) := (ev_methN h hm ha p).lst
theorem rc_lenOwn {P : List D → Res → Prop} {n : Int} (p : P [.ins C ns ds] (.val (.int n))) (h0 : 0 ≤ n) (h1 : n < 2 ^ 63) :
    RC K E (fun xs H Q => ∃ a dx fs, xs = [.ref a] ∧ H a = some (.ins C dx fs) ∧ SpR K P [.ref a] H (fun v H' => ∃ n : Int, v = .int n ∧ 0 ≤ n ∧ n < 2 ^ 63 ∧ Q (.int n) H') E0) [.ins C ns ds] (.val (.int n)) := fun H0 H e xs r Q q => by
  obtain ⟨v, ws, rfl, r1, r2⟩ := r.cons_out
  obtain rfl := r2.nil_out
  obtain ⟨a, dx, fs, rfl, ha, _⟩ := id r1.ins_out
  exact ⟨a, dx, fs, rfl, e _ _ ha, H0, _, _, e, .cons r1 .nil, p, fun v H1 H1' s1 rv => ⟨n, rv.int_eq, h0, h1, by rw [rv.int_eq] at rv; exact q _ H1 H1' s1 rv⟩⟩
theorem rd_eqOwn {P : List D → Res → Prop} {ns' : List Str} {ds' : List D} {b : Bool} (p : P [.ins C ns ds, .ins C ns' ds'] (.val (.bl b))) : RD K E (rEqOwn C (SpR K P)) (.ins C ns ds) (.ins C ns' ds') (.val (.bl b)) := fun H0 H e x y r1 r2 Q q => by
  obtain ⟨a, dx, fs, rfl, ha, _⟩ := id r1.ins_out
  obtain ⟨a', dx', fs', rfl, ha', _⟩ := id r2.ins_out
  exact ⟨a, dx, fs, a', dx', fs', rfl, rfl, e _ _ ha, e _ _ ha', H0, _, _, e, .cons r1 (.cons r2 .nil), p, fun v H1 H1' s1 rv => ⟨b, rv.bl_eq, by rw [rv.bl_eq] at rv; exact q _ H1 H1' s1 rv⟩⟩
theorem rd_neOwn {P : List D → Res → Prop} {ns' : List Str} {ds' : List D} {b : Bool} (p : P [.ins C ns ds, .ins C ns' ds'] (.val (.bl b))) : RD K E (rNeOwn C (SpR K P)) (.ins C ns ds) (.ins C ns' ds') (.val (.bl (!b))) := fun H0 H e x y r1 r2 Q q => by
  obtain ⟨a, dx, fs, rfl, ha, _⟩ := id r1.ins_out
  obtain ⟨a', dx', fs', rfl, ha', _⟩ := id r2.ins_out
  exact ⟨a, dx, fs, a', dx', fs', rfl, rfl, e _ _ ha, e _ _ ha', H0, _, _, e, .cons r1 (.cons r2 .nil), p, fun v H1 H1' s1 rv => ⟨b, rv.bl_eq, q _ H1 H1' s1 (.bl _)⟩⟩
end
/-! ### own instances: stores to fields, new ones -/
def putFD (f : Str) (d : D) : List (Str × D) → List (Str × D)
  | [] => [(f, d)]
  | (g, e) :: r => if g = f then (g, d) :: r else (g, e) :: putFD f d r
theorem putF_den {K : Fg} {H : Hp} {f : Str} {v : V} {d : D} (r : Den K H v d) : ∀ {gs : List (Str × V)} {fs : List (Str × D)}, gs.map (·.1) = fs.map (·.1) → Dens K H (gs.map (·.2)) (fs.map (·.2)) → (putF f v gs).map (·.1) = (putFD f d fs).map (·.1) ∧ Dens K H ((putF f v gs).map (·.2)) ((putFD f d fs).map (·.2))
  | [], [], _, _ => ⟨rfl, .cons r .nil⟩
  | [], _ :: _, e, _ => by cases e
  | _ :: _, [], e, _ => by cases e
  | (g, w) :: gs, (h, x) :: fs, e, t => by
    rw [List.map_cons, List.map_cons] at e
    injection e with e1 e2
    have e1 : g = h := e1
    subst e1
    cases t with
    | cons t1 t2 =>
      unfold putF putFD
      by_cases hg : g = f
      · rw [if_pos hg, if_pos hg]
        exact ⟨by rw [List.map_cons, List.map_cons, e2], .cons r t2⟩
      · rw [if_neg hg, if_neg hg]
        obtain ⟨a, b⟩ := putF_den r e2 t2
        exact ⟨by rw [List.map_cons, List.map_cons, a], .cons t1 b⟩
section
variable {K : Fg} {E : XK} {G : Sl} {O : Om} {N : En} {ta te tv : TE} {t : TA} {C : Addr} {f : Str}
theorem sv_fld (h : EvM K tv G O fun d O1 => EvM K ta G O1 fun o O2 => ∃ (p : Addr) (fs : List (Str × D)), o = .ref p ∧ O2 p = some (.obj C fs) ∧ fs.length < 1000 ∧ N.nx G (oput O2 p (.obj C (putFD f d fs)))) (c : Cls K C) (n : NoAttr K C f) : Sv K E (sFld K ta tv f) N G O := fun De σ H0 H w s nn =>
  h σ H0 H w s _ fun y d H1 H1' O1 k1 s1 w1 r1 => k1 σ H1 H1' w1 (s.up s1) _ fun x o H2 H2' O2 ⟨p, fs, e, hp, hl, k2⟩ s2 w2 r2 => by
    subst e
    obtain rfl := r2.ref_eq
    obtain ⟨h0, ob, ho, dx, gs, rfl, hn, rd⟩ := w2.own p _ hp
    obtain ⟨a, b⟩ := putF_den (f := f) (r1.up s2) hn rd
    refine ⟨p, C, dx, gs, rfl, ho, c, n, ?_, ?_⟩
    · have := congrArg List.length hn
      rw [List.length_map, List.length_map] at this
      omega
    · exact nn.nx G _ σ H2 _ k2 (s1.trans s2) (w2.put (b := .obj C (putFD f d fs)) h0 ⟨dx, _, rfl, a, b⟩) (s.up (s1.trans s2))
/-- a field of an own instance -/
theorem em_fldO {P : D → Om → Prop} (h : EvM K ta G O fun o O1 => ∃ (p : Addr) (fs : List (Str × D)) (d : D), o = .ref p ∧ O1 p = some (.obj C fs) ∧ ((fs.map (·.1)).zip (fs.map (·.2))).lookup f = some d ∧ P d O1) (c : Cls K C) (n : NoAttr K C f) : EvM K (tFld K ta f) G O P := fun σ H0 H w s Q q =>
  h σ H0 H w s _ fun x o H1 H1' O1 ⟨p, fs, d, e, hp, hl, k⟩ s1 w1 r1 => by
    subst e
    obtain rfl := r1.ref_eq
    obtain ⟨h0, ob, ho, dx, gs, rfl, hn, rd⟩ := w1.own p _ hp
    rw [← hn] at hl
    obtain ⟨v, hv, rv⟩ := lookup_den rd hl
    exact ⟨p, C, dx, gs, v, rfl, ho, c, n, hv, q v d H1 H1' O1 k s1 w1 rv⟩
/-- C(e, ..): the new instance becomes data -/
theorem ev_make {PI : List D → Om → (D → Om → Prop) → Prop} {es : List D} {fs : List (Str × D)} {E' : XK} (ha : EvA K t G es)
    (p : ∀ (O : Om) (x : Addr), O x = some (.obj C []) → ∀ k : D → Om → Prop, (k .non (oput O x (.obj C fs))) → PI (.ref x :: es) O k) : EvR K E (tMake C (SpM K PI) [] E' t) G (.val (.ins C (fs.map (·.1)) (fs.map (·.2)))) := fun σ H0 H e s Q q =>
  ha σ H0 H e s _ fun vs H1 H1' s1 r1 x dx hx hdx ne => by
    have hs : Same H1 (upd (upd H1' dx (.own x)) x (.ins C dx [])) := fun b o hb => by
      rw [upd_ne (ne_of_none (s1.c _ _ hb) hx), upd_ne (ne_of_none (s1.c _ _ hb) hdx)]
      exact s1.c _ _ hb
    have hx0 : H1 x = none := s1.c.free hx
    have w0 : Wd K H1 (upd (upd H1' dx (.own x)) x (.ins C dx [])) (oput (rawOm H1 H1') x (.obj C [])) := by
      refine ⟨hs, fun b o hb => ?_⟩
      by_cases hbx : b = x
      · subst hbx
        rw [oput_same] at hb
        cases hb
        exact ⟨hx0, _, upd_same, dx, [], rfl, rfl, .nil⟩
      · rw [oput_ne hbx] at hb
        obtain ⟨h0, o', ho', r⟩ := (Wd.raw (K := K) s1.c).own b o hb
        exact ⟨h0, o', by rw [upd_ne hbx, upd_ne (ne_of_none ho' hdx)]; exact ho', r⟩
    refine ⟨H1, _, .ref x :: es, fun d O' => d = .non ∧ O' = oput (oput (rawOm H1 H1') x (.obj C [])) x (.obj C fs), w0, by rw [List.append_nil]; exact .cons (.ref x) r1, p _ x oput_same _ ⟨rfl, rfl⟩, ?_⟩
    rintro d O' v H0' H' ⟨rfl, rfl⟩ s2 w2 rv
    refine ⟨rv.non_eq, ?_⟩
    rw [oput_oput] at w2
    have hraw : rawOm H1 H1' x = none := (Wd.raw (K := K) s1.c).free hx
    have st := stp_raw (K := K) s1.c s2 (w2.weak (OLe.new hraw)) (OLe.refl _)
    obtain ⟨h0, o, ho, dx', gs, rfl, hn, rd⟩ := w2.own x _ oput_same
    refine q (.ref x) (upd H0' x (.ins C dx' gs)) H' (s1.trans (st.freeze hx h0 ho)) (.ins upd_same hn (rd.up (same_new h0)))
end
end Pr
/-! Part H: the head's facts, with checks of my own. -/
namespace Pr
open PySem L2
/-- what isinstance asks of an own class's instance -/
structure TyC (K : Fg) (C : Addr) : Prop where
  ha : PySem.W.findIn K (.ref C) "__class__" = some (some (.builtin "object.__class__"))
  hn : PySem.W.specialIn K (.builtin "object.__class__") "__get__" = some (some (.builtin "getset_descriptor.__get__"))
  htk : PySem.W.takesIn K (.builtin "object.__class__") = some true
  hm : PySem.W.mroIn K C (.type "object") = some true
theorem tyC_ok {K : Fg} {C : Addr} (h : tyCB K C = true) : TyC K C := by
  obtain ⟨h1, h⟩ := He.ba h
  obtain ⟨h2, h⟩ := He.ba h
  obtain ⟨h3, h4⟩ := He.ba h
  exact ⟨He.eqO_ok h1, He.eqO_ok h2, of_decide_eq_true h3, of_decide_eq_true h4⟩
/-- an instance's type -/
theorem tyX_ins {K : Fg} {H : Hp} {a C dx : Addr} {fs : List (Str × V)} (h : H a = some (.ins C dx fs)) (c : Cls K C) (t : TyC K C) : TyX K H (.ref a) (.ref C) := .base (.ins h c t.ha t.hn t.htk t.hm)
theorem rc_isOwn {K : Fg} {E : XK} {C : Addr} {ns : List Str} {ds : List D} (c : Cls K C) (t : TyC K C) : RC K E (rIsi K) [.ins C ns ds, .ref C] (.val (.bl true)) := fun H0 H e xs r Q q => by
  obtain ⟨v, ws, rfl, r1, r2⟩ := r.cons_out
  obtain ⟨w, ws, rfl, r3, r4⟩ := r2.cons_out
  obtain rfl := r4.nil_out
  obtain ⟨a, dx, fs, rfl, ha, _⟩ := r1.ins_out
  refine ⟨.ref a, w, .ref C, .ref C, true, rfl, by rw [r3.ref_eq]; exact .own C, tyX_ins (e _ _ ha) c t, ?_, sat_val e q (.bl _)⟩
  unfold PySem.W.kitOne
  rw [if_pos (by simp)]
/-- new instances by an own __init__ -/
structure CalI (P : Program) (w : World) (K : Fg) (mg : Str → Option Value) (base : Heap) (C : Addr) (k : Nat) (ps : List Str) (sp : Sp) : Prop where
  ex : ∃ (f : Addr) (fd : FuncData), Mk K C f ∧ FnOk P w K mg base (L2.CX P w) k f fd ps sp ∧ Binds K fd ps []
section
variable {X : Cx} {k : Nat} {C : Addr} {x : Str} {ps : List Str} {sp : Sp} {pos p : Pos} {e : Expr} {es : List Expr} {t : TA}
theorem pe_mk (I : CalI X.prog X.w X.K X.mg X.base C k ps sp) (hr : Room (k + 1) X.A) (ha : PA X (e :: es) t) (hm : X.mg x = some (.ref C)) (hg : Gl X x := by rfl) (hdb : (x == ("__debug__" : Str)) = false := by decide)
    (he : starEach (e :: es) X.env = (false, eval e X.env) :: starEach es X.env := by rfl) (hpl : (backTo pos (starEach es X.env)).any (·.1) = false := by rfl) : PE X (.Call (.Name x p) (e :: es) [] pos) (tMake C sp [] E0 t) := by
  obtain ⟨f, fd, M, F, b⟩ := I.ex
  exact pe_make M F hr hg hm b .nil passL ha hdb he hpl
end
section
variable {P : Program} {w : World} {K : Fg} {mg : Str → Option Value} {base : Heap} {x qual : Str} {params : Arguments} {body : List Stmt} {scope : Scope} {f C : Addr}
theorem calM_nox {N ps : List Str} {k : Nat} {sp : Sp} (hm : Meth K C x f) (F : ∃ fd, FunD K x qual params body scope [] [] f fd) (S : FnScope N ps scope) (len : ∀ vs H Q E, sp vs H Q E → vs.length = ps.length)
    (h : ∀ (kV doc pm : Value) (an : Option Addr) (cdv ct : Value) (us : List Value), us.length = ps.length → bindArgs (PySem.W.fnOf x qual params body scope .none kV doc pm an cdv ct) ⟨us, []⟩ = pure (ps.zip us))
    (hbody : ∀ (cdv : Value) (A : Around) (outer : List Env) (s : Shared) (H : Hp) (vs : List V) (Q : VK) (E : XK), Room k (A.deeper (PyProof.Rows.envOfC qual scope s.heap.objs.size f cdv)) → sp vs H Q E →
      ∃ t, PSs (cxOf (L2.CX P w) P w K mg base N qual scope f cdv A outer s H E).nox body t ∧ t { nx := fun _ H' => Q .non H', rt := Q } (L2.start N vs) H) : CalM P w K mg base C x (k + 1) ps sp := by
  obtain ⟨fd, F⟩ := F
  refine ⟨f, fd, hm, F.ok S len fun cdv A outer s H vs Q E hr hsp => ?_, F.bindsN h⟩
  obtain ⟨t, a, b⟩ := hbody cdv A outer s H vs Q E hr hsp
  exact ⟨t, a.nox, b⟩
theorem calI_nox {N ps : List Str} {k : Nat} {sp : Sp} (hm : Mk K C f) (F : ∃ fd, FunD K x qual params body scope [] [] f fd) (S : FnScope N ps scope) (len : ∀ vs H Q E, sp vs H Q E → vs.length = ps.length)
    (h : ∀ (kV doc pm : Value) (an : Option Addr) (cdv ct : Value) (us : List Value), us.length = ps.length → bindArgs (PySem.W.fnOf x qual params body scope .none kV doc pm an cdv ct) ⟨us, []⟩ = pure (ps.zip us))
    (hbody : ∀ (cdv : Value) (A : Around) (outer : List Env) (s : Shared) (H : Hp) (vs : List V) (Q : VK) (E : XK), Room k (A.deeper (PyProof.Rows.envOfC qual scope s.heap.objs.size f cdv)) → sp vs H Q E →
      ∃ t, PSs (cxOf (L2.CX P w) P w K mg base N qual scope f cdv A outer s H E).nox body t ∧ t { nx := fun _ H' => Q .non H', rt := Q } (L2.start N vs) H) : CalI P w K mg base C (k + 1) ps sp := by
  obtain ⟨fd, F⟩ := F
  refine ⟨f, fd, hm, F.ok S len fun cdv A outer s H vs Q E hr hsp => ?_, F.bindsN h⟩
  obtain ⟨t, a, b⟩ := hbody cdv A outer s H vs Q E hr hsp
  exact ⟨t, a.nox, b⟩
end
end Pr
/-! Part K: rules whose reading names the written part by a letter (for the blocks of comprehensions). -/
namespace Pr
open PySem L2
section
variable {X : Cx} {K : Fg}
theorem ixL (h : X.K = K := by rfl) : IxR X (rIxL K) := by subst h; exact ix_list
theorem ixT (h : X.K = K := by rfl) : IxR X (rIxT K) := by subst h; exact ix_tup
theorem slL (h : X.K = K := by rfl) : SlR X (rSlL K) := by subst h; exact sl_list
theorem slT (h : X.K = K := by rfl) : SlR X (rSlT K) := by subst h; exact sl_tup
theorem inS (h : X.K = K := by rfl) : OpR X (compareOp .In) (rIn K false) := by subst h; exact op_in_seq
theorem niS (h : X.K = K := by rfl) : OpR X (compareOp .NotIn) (rIn K true) := by subst h; exact op_notIn_seq
theorem eqDK (hu : X.A.units + 64 < cLine) (h : X.K = K := by rfl) : OpR X (compareOp .Eq) (rEqD K) := by subst h; exact op_eqD hu
theorem neDK (hu : X.A.units + 64 < cLine) (h : X.K = K := by rfl) : OpR X (compareOp .NotEq) (rNeD K) := by subst h; exact op_neD hu
theorem catT (h : X.K = K := by rfl) : OpR X (binaryOp .Add) (rCatT K) := by subst h; exact op_catT
theorem lenK (h : X.K = K := by rfl) : CallR X (.builtin "len") (fun xs H Q => ∃ x n, xs = [x] ∧ LenV K x H n ∧ Q (.int n) H) := by subst h; exact call_len
theorem isiK (h : X.K = K := by rfl) : CallR X (.builtin "isinstance") (rIsi K) := by subst h; exact call_isi
theorem allK (hc : X.calm = true := by rfl) (h : X.K = K := by rfl) : CallR X (.builtin "all") (rAll K) := by subst h; exact cr_all hc
theorem anyK (hc : X.calm = true := by rfl) (h : X.K = K := by rfl) : CallR X (.builtin "any") (rAny K) := by subst h; exact cr_any hc
theorem sumK (hc : X.calm = true := by rfl) (h : X.K = K := by rfl) : CallR X (.builtin "sum") (rSum K) := by subst h; exact cr_sum hc
theorem maxK (hc : X.calm = true := by rfl) (h : X.K = K := by rfl) : CallR X (.builtin "max") (rMax K) := by subst h; exact cr_max hc
theorem minK (hc : X.calm = true := by rfl) (h : X.K = K := by rfl) : CallR X (.builtin "min") (rMin K) := by subst h; exact cr_min hc
theorem listK (h : X.K = K := by rfl) : CallR X (.type "list") (fun xs H Q => ∃ p ys, xs = [.ref p] ∧ (SqL K H p ys ∨ SqT K H p ys) ∧ ∀ l, H l = none → Q (.ref l) (upd H l (.lst ys))) := by subst h; exact call_list_of
theorem tupleK (h : X.K = K := by rfl) : CallR X (.type "tuple") (fun xs H Q => ∃ p ys, xs = [.ref p] ∧ ((SqL K H p ys ∧ ∀ l, H l = none → Q (.ref l) (upd H l (.tup ys))) ∨ (SqT K H p ys ∧ Q (.ref p) H))) := by subst h; exact call_tuple_of
theorem sortedK (h : X.K = K := by rfl) : CallR X (.builtin "sorted") (rSortedI K) := by subst h; exact cr_sortedI
theorem mtIndexK (h : X.K = K := by rfl) : MtR X "list.index" (rIndex K) := by subst h; exact mt_index
theorem mtCntK (h : X.K = K := by rfl) : MtR X "list.count" (rCntF K) := by subst h; exact mt_cntF
section
variable {e l : Expr} {ta tl te to : TE} {f : Str} {pos : Pos}
theorem fldK (he : PE X e ta) (hb : attributeBase e f X.env (eval e X.env) = eval e X.env := by rfl) (h : X.K = K := by rfl) : PE X (.Attribute e f pos) (tFld K ta f) := by subst h; exact pe_fld he hb
theorem piL {tg : Expr} (hl : PE X l tl) (h : X.K = K := by rfl) : PI X tg l (iList K tl) := by subst h; exact pi_list hl
theorem piT {tg : Expr} (hl : PE X l tl) (h : X.K = K := by rfl) : PI X tg l (iTup K tl) := by subst h; exact pi_tup hl
theorem piEnum {t : TA} {p tpos : Pos} {elts : List Expr} {kk : Nat} (hg : Gl X "enumerate") (hm : X.mg "enumerate" = none) (ha : PA X [e] t) (hs : starEach [e] X.env = [(false, eval e X.env)] := by rfl) (h : X.K = K := by rfl) : PI X (.Tuple elts kk tpos) (.Call (.Name "enumerate" p) [e] [] pos) (iEnum K t) := by
  subst h; exact pi_enum hg hm ha hs
theorem piZip {e2 : Expr} {t : TA} {p tpos : Pos} {elts : List Expr} {kk : Nat} (hg : Gl X "zip") (hm : X.mg "zip" = none) (ha : PA X [e, e2] t) (hs : starEach [e, e2] X.env = (false, eval e X.env) :: starEach [e2] X.env := by rfl) (hpl : (backTo pos (starEach [e2] X.env)).any (·.1) = false := by rfl) (h : X.K = K := by rfl) : PI X (.Tuple elts kk tpos) (.Call (.Name "zip" p) [e, e2] [] pos) (iZip K t) := by
  subst h; exact pi_zip hg hm ha hs hpl
theorem pgT {es : List Expr} {k : Nat} {t : TGs} {n : Nat} (hc : X.calm = true) (hp : PGs X es t) (hn : (assignEach es X.env).length = n := by rfl) (hst : (assignEach es X.env).findIdx? (·.1) = none := by rfl) (h : X.K = K := by rfl) : PG X (.Tuple es k pos) (gTup K n t) := by
  subst h; exact pg_tup hc hp hn hst
theorem revK {k : Nat} {p1 p2 p3 : Pos} (he : PE X e te) (h : X.K = K := by rfl) : PE X (.Subscript e (.Slice none none (some (.UnaryOp .USub (.Constant (.int 1) k p1) p2)) p3) pos) (tRevL K te) := by subst h; exact pe_revL he
theorem lenSetK {p p2 q : Pos} (hg : Gl X "len") (hm : X.mg "len" = none) (hg2 : Gl X "set") (hm2 : X.mg "set" = none) (ha : PE X e ta) (hc : X.calm = true := by rfl) (na : starEach [e] X.env = (false, eval e X.env) :: starEach [] X.env := by rfl) (h : X.K = K := by rfl) :
    PE X (.Call (.Name "len" p) [.Call (.Name "set" p2) [e] [] q] [] pos) (RZ.tLenSetI K ta) := by subst h; exact RZ.pe_lenSetI hg hm hg2 hm2 ha hc na
section
variable {T : String} {name : Str} {id : String} {r : V → List V → Hp → VK → Prop} {o : Expr} {es : List Expr} {t : TA} {apos cpos : Pos}
theorem bm0K (pa : PlainAttrs T) (slot : Slot T name id) (hty : typeOf (.builtin id) = pure (.type "method_descriptor")) (hm : MtR X id r) (ho : PE X o to)
    (hbase : attributeBase o name X.env (eval o X.env) = eval o X.env := by rfl) (hline : (apos.endLine == cpos.line) = true := by rfl) (h : X.K = K := by rfl) : PE X (.Call (.Attribute o name apos) [] [] cpos) (tBM0 K T r to) := by
  subst h; exact pe_bm0 pa slot hty hm ho hbase hline
theorem bmK (pa : PlainAttrs T) (slot : Slot T name id) (hty : typeOf (.builtin id) = pure (.type "method_descriptor")) (hm : MtR X id r) (ho : PE X o to) (ha : PA X (e :: es) t)
    (hbase : attributeBase o name X.env (eval o X.env) = eval o X.env := by rfl)
    (hfew : ((backTo cpos (starEach (e :: es) X.env)).all (fun x => !x.1) && (backToKw cpos (keywordEach [] X.env)).all (fun x => x.1.isSome)
      && decide ((e :: es).length + ([] : List Keyword).length + (if ([] : List Keyword).isEmpty then 0 else 1) < 30)) = true := by rfl)
    (hline : (apos.endLine == cpos.line) = true := by rfl) (hs : starEach (e :: es) X.env = (false, eval e X.env) :: starEach es X.env := by rfl) (hplain : (backTo cpos (starEach es X.env)).any (·.1) = false := by rfl) (h : X.K = K := by rfl) :
    PE X (.Call (.Attribute o name apos) (e :: es) [] cpos) (tBM K T r to t) := by
  subst h; exact pe_bm pa slot hty hm ho ha hbase hfew hline hs hplain
end
end
end
end Pr
/-! Part P: several own lists of ints; more of own lists. -/
namespace Pr
open PySem L2
abbrev ilO (h : List Int) : Ob := .lst (iL h)
def oputL (O : Om) (qs : List Addr) (hs : List (List Int)) : Om := fun p => match (qs.zip hs).lookup p with
  | some h => some (ilO h)
  | none => O p
theorem lookup_zip {qs : List Addr} {hs : List (List Int)} {q : Addr} {h : List Int} {j : Nat} (nd : qs.Nodup) (hq : qs[j]? = some q) (hh : hs[j]? = some h) : (qs.zip hs).lookup q = some h := by
  induction qs generalizing hs j with
  | nil => cases hq
  | cons a qs ih =>
    cases hs with
    | nil => cases hh
    | cons b hs =>
      rw [List.zip_cons_cons, List.lookup_cons]
      obtain ⟨n1, n2⟩ := List.nodup_cons.mp nd
      cases j with
      | zero =>
        have e1 : a = q := Option.some.inj hq
        have e2 : b = h := Option.some.inj hh
        rw [e1, e2]
        simp
      | succ j =>
        have hq' : qs[j]? = some q := by simpa using hq
        have hh' : hs[j]? = some h := by simpa using hh
        have : (q == a) = false := beq_eq_false_iff_ne.mpr fun e => n1 (e ▸ List.mem_of_getElem? hq')
        rw [this]
        exact ih n2 hq' hh'
theorem lookup_zip_none {qs : List Addr} {hs : List (List Int)} {p : Addr} (h : p ∉ qs) : (qs.zip hs).lookup p = none := by
  induction qs generalizing hs with
  | nil => rfl
  | cons a qs ih =>
    cases hs with
    | nil => rfl
    | cons b hs =>
      rw [List.zip_cons_cons, List.lookup_cons]
      rw [List.mem_cons, not_or] at h
      have : (p == a) = false := beq_eq_false_iff_ne.mpr h.1
      rw [this]
      exact ih h.2
section
variable {O : Om} {qs : List Addr} {hs : List (List Int)} {q p : Addr} {h : List Int} {j : Nat}
theorem oputL_at (nd : qs.Nodup) (hq : qs[j]? = some q) (hh : hs[j]? = some h) : oputL O qs hs q = some (ilO h) := by
  unfold oputL
  rw [lookup_zip nd hq hh]
theorem oputL_out (hp : p ∉ qs) : oputL O qs hs p = O p := by
  unfold oputL
  rw [lookup_zip_none hp]
theorem oputL_put (nd : qs.Nodup) (hl : qs.length = hs.length) (hq : qs[j]? = some q) : oput (oputL O qs hs) q (ilO h) = oputL O qs (hs.set j h) := by
  funext p
  have hj : j < hs.length := by rw [← hl]; exact (List.getElem?_eq_some_iff.mp hq).1
  by_cases e : p = q
  · subst e
    rw [oput_same, oputL_at nd hq (List.getElem?_set_self hj)]
  · rw [oput_ne e]
    by_cases hm : p ∈ qs
    · obtain ⟨i, hi⟩ := List.getElem?_of_mem hm
      have hij : j ≠ i := fun z => by
        subst z
        rw [hi] at hq
        exact e (Option.some.inj hq)
      have hil : i < hs.length := by rw [← hl]; exact (List.getElem?_eq_some_iff.mp hi).1
      rw [oputL_at nd hi (List.getElem?_eq_getElem hil), oputL_at (h := hs[i]) nd hi (by rw [List.getElem?_set_ne hij]; exact List.getElem?_eq_getElem hil)]
    · rw [oputL_out hm, oputL_out hm]
theorem oputL_comm (hp : p ∉ qs) {b : Ob} : oput (oputL O qs hs) p b = oputL (oput O p b) qs hs := by
  funext r
  by_cases e : r = p
  · subst e
    rw [oput_same, oputL_out hp, oput_same]
  · rw [oput_ne e]
    unfold oputL
    rw [oput_ne e]
theorem OLe.puts (hf : ∀ q ∈ qs, O q = none) : OLe O (oputL O qs hs) := fun r b e => by
  have : r ∉ qs := fun hm => by
    rw [hf r hm] at e
    cases e
  rw [oputL_out this]
  exact e
theorem oputL_snoc (hn : p ∉ qs) (hl : qs.length = hs.length) : oputL O (qs ++ [p]) (hs ++ [h]) = oput (oputL O qs hs) p (ilO h) := by
  funext r
  unfold oputL
  rw [List.zip_append hl, List.lookup_append]
  by_cases e : r = p
  · subst e
    rw [oput_same, lookup_zip_none hn]
    simp [List.lookup_cons]
  · rw [oput_ne e]
    cases q : (qs.zip hs).lookup r with
    | some x => rfl
    | none =>
      have : (r == p) = false := beq_eq_false_iff_ne.mpr e
      simp [List.lookup_cons, this]
theorem Wd.freezeL {K : Fg} {H0 H : Hp} (nd : qs.Nodup) (hl : qs.length = hs.length) (hf : ∀ q ∈ qs, O q = none) (w : Wd K H0 H (oputL O qs hs)) : ∃ H1, Same H0 H1 ∧ Wd K H1 H O ∧ Dens K H1 (qs.map V.ref) (hs.map fun h => .lst (iL h)) := by
  have hq : ∀ (i : Nat) (q : Addr) (h : List Int), qs[i]? = some q → hs[i]? = some h → H0 q = none ∧ H q = some (.lst (h.map V.int)) := fun i q h h1 h2 => by
    obtain ⟨a, o, ho, vs, rfl, r⟩ := w.own q _ (oputL_at nd h1 h2)
    rw [r.ints_eq] at ho
    exact ⟨a, ho⟩
  have hq0 : ∀ q ∈ qs, H0 q = none := fun q hm => by
    obtain ⟨i, hi⟩ := List.getElem?_of_mem hm
    have hil : i < hs.length := by rw [← hl]; exact (List.getElem?_eq_some_iff.mp hi).1
    exact (hq i q _ hi (List.getElem?_eq_getElem hil)).1
  have s1 : Same H0 (fun p => if p ∈ qs then H p else H0 p) := fun b x hb => by
    have : b ∉ qs := fun hm => by rw [hq0 b hm] at hb; cases hb
    show (if b ∈ qs then H b else H0 b) = _
    rw [if_neg this]
    exact hb
  refine ⟨fun p => if p ∈ qs then H p else H0 p, s1, ⟨fun b x hb => ?_, fun b x hb => ?_⟩, ?_⟩
  · have hb : (if b ∈ qs then H b else H0 b) = some x := hb
    split at hb
    · exact hb
    · exact w.le _ _ hb
  · have hm : b ∉ qs := fun hm => by rw [hf b hm] at hb; cases hb
    obtain ⟨a, o, ho, r⟩ := w.own b x (by rw [oputL_out hm]; exact hb)
    refine ⟨?_, o, ho, r.up s1⟩
    show (if b ∈ qs then H b else H0 b) = _
    rw [if_neg hm]
    exact a
  · have gen : ∀ (as : List Addr) (bs : List (List Int)), as.length = bs.length → (∀ (i : Nat) (q : Addr) (h : List Int), as[i]? = some q → bs[i]? = some h → q ∈ qs ∧ H q = some (.lst (h.map V.int))) → Dens K (fun p => if p ∈ qs then H p else H0 p) (as.map V.ref) (bs.map fun h => .lst (iL h)) := by
      intro as
      induction as with
      | nil => intro bs e _; cases bs with
        | nil => exact .nil
        | cons b bs => cases e
      | cons a as ih => intro bs e k; cases bs with
        | nil => cases e
        | cons b bs =>
          have k0 := k 0 a b rfl rfl
          refine .cons (.lst ?_ (Dens.of_ints b)) (ih bs (by simpa using e) fun i q h h1 h2 => k (i + 1) q h (by simpa using h1) (by simpa using h2))
          show (if a ∈ qs then H a else H0 a) = _
          rw [if_pos k0.1]
          exact k0.2
    exact gen qs hs hl fun i q h h1 h2 => ⟨List.mem_of_getElem? h1, (hq i q h h1 h2).2⟩
theorem refs_eq {K : Fg} {H : Hp} : ∀ {vs : List V} {qs : List Addr}, Dens K H vs (qs.map D.ref) → vs = qs.map V.ref
  | _, [], h => by cases h; rfl
  | _, q :: qs, h => by
    cases h with
    | cons h t => rw [h.ref_eq, refs_eq (qs := qs) t]; rfl
theorem sv_freezeL {K : Fg} {E : XK} {ts : TS} {N : En} {G : Sl} {i : Nat} (nd : qs.Nodup) (hl : qs.length = hs.length) (hf : ∀ q ∈ qs, O q = none) (hx : G[i]? = some (some (.lst (qs.map D.ref)))) (k : Sv K E ts N (G.set i (some (.lst (hs.map fun h => .lst (iL h))))) O) : Sv K E ts N G (oputL O qs hs) := fun D σ H0 H w s n => by
  obtain ⟨H1, s1, w1, r1⟩ := w.freezeL nd hl hf
  obtain ⟨v, hv, r⟩ := s.has i _ hx
  obtain ⟨a, vs, rfl, ha, t⟩ := r.lst_out
  have e := refs_eq t
  subst e
  have sl := (s.up s1).put (j := i) (v := .ref a) (d := .lst (hs.map fun h => .lst (iL h))) (.lst (s1 _ _ ha) r1)
  rw [show σ.set i (some (V.ref a)) = σ from List.ext_getElem? fun j => by
    by_cases e : i = j
    · subst e
      rw [List.getElem?_set_self (List.getElem?_eq_some_iff.mp hv).1, hv]
    · rw [List.getElem?_set_ne e]] at sl
  exact k D σ H1 H w1 sl (n.up s1)
end
section
variable {K : Fg} {E : XK} {G : Sl} {O : Om} {te ta to ti : TE} {P : D → Om → Prop}
/-- [[] for v in range(n)] -/
theorem em_piles {t : TA} {j : Nat} {n : Int} (h : EvA K t G [.int n]) (h0 : 0 ≤ n) (h1 : n ≤ 100000) (k : ∀ qs : List Addr, qs.length = n.toNat → qs.Nodup → (∀ q ∈ qs, O q = none) → P (.lst (qs.map D.ref)) (oputL O qs (List.replicate qs.length []))) :
    EvM K (tLc (iRng1 t) (gName j) tYes (tLst tNil) [j]) G O P := by
  refine em_freeze (em_lc (src_m (src_r1 h (by omega) (by omega)) ?_))
  have hlen : (iL (rng 0 n.toNat)).length = n.toNat := by rw [List.length_map, rng_len]
  refine ⟨by rw [hlen]; omega, fun d => (wipeD G [j]).set j (some d), fun p i acc O2 => ∃ qs : List Addr, acc = qs.map D.ref ∧ qs.length = i ∧ qs.Nodup ∧ (∀ q ∈ qs, O q = none) ∧ p ∉ qs ∧ O2 = oput (oputL O qs (List.replicate qs.length [])) p (.lst acc),
    fun d _ => tg_name, fun p hp => ⟨[], rfl, rfl, List.nodup_nil, fun q hq => absurd hq (List.not_mem_nil), List.not_mem_nil, rfl⟩, ?_, ?_⟩
  · rintro p i d acc O2 hp hd ⟨qs, rfl, hq, nd, hf, hn, rfl⟩ _
    refine em_new (ev_lst ea_nil) fun q hqn => ⟨?_, qs ++ [q], by simp, by simp [hq], ?_, ?_, ?_, ?_⟩
    · have : p ≠ q := one_none oput_same hqn
      rw [oput_ne this]
      exact oput_same
    · have hqq : q ∉ qs := fun hm => by
        have hpq : q ≠ p := fun e => hn (e ▸ hm)
        rw [oput_ne hpq] at hqn
        obtain ⟨i, hi⟩ := List.getElem?_of_mem hm
        rw [oputL_at nd hi (h := []) (by rw [List.getElem?_replicate, if_pos (List.getElem?_eq_some_iff.mp hi).1])] at hqn
        cases hqn
      exact List.nodup_append.mpr ⟨nd, by simp, fun a ha b hb => by
        rw [List.mem_singleton.mp hb]
        exact fun e => hqq (e ▸ ha)⟩
    · intro r hr
      rcases List.mem_append.mp hr with hr | hr
      · exact hf r hr
      · rw [List.mem_singleton.mp hr]
        have hpq : q ≠ p := (one_none oput_same hqn).symm
        rw [oput_ne hpq] at hqn
        by_cases hm : q ∈ qs
        · exact hf q hm
        · rw [oputL_out hm] at hqn
          exact hqn
    · intro hm
      rcases List.mem_append.mp hm with hm | hm
      · exact hn hm
      · exact (one_none oput_same hqn) (List.mem_singleton.mp hm)
    · have hpq : p ≠ q := one_none oput_same hqn
      have hqq : q ∉ qs := fun hm => by
        rw [oput_ne hpq.symm] at hqn
        obtain ⟨i, hi⟩ := List.getElem?_of_mem hm
        rw [oputL_at nd hi (h := []) (by rw [List.getElem?_replicate, if_pos (List.getElem?_eq_some_iff.mp hi).1])] at hqn
        cases hqn
      rw [oput_comm hpq, oput_oput, List.length_append, show qs.length + [q].length = qs.length + 1 from rfl, List.replicate_succ', oputL_snoc hqq (by rw [List.length_replicate])]
      rfl
  · rintro p acc O2 hp _ _ ⟨qs, rfl, hq, nd, hf, hn, rfl⟩
    rw [hlen] at hq
    refine ⟨p, _, rfl, oput_same, ?_⟩
    rw [odrop_put (by rw [oputL_out hn]; exact hp)]
    exact k qs hq nd hf
theorem em_lenO (h : EvM K to G O fun d O1 => ∃ p ds, d = .ref p ∧ O1 p = some (.lst ds) ∧ P (.int ds.length) O1) : EvM K (tCB (fun xs H Q => ∃ x n, xs = [x] ∧ LenV K x H n ∧ Q (.int n) H) (tCons to tNil)) G O P := fun σ H0 H w s Q q =>
  h σ H0 H w s _ fun v d H1 H1' O1 ⟨p, ds, e, hp, k⟩ s1 w1 r1 => by
    subst e
    obtain rfl := r1.ref_eq
    obtain ⟨_, o, ho, vs, rfl, rv⟩ := w1.own p _ hp
    exact ⟨.ref p, vs.length, rfl, .inl ⟨vs, .inl (.inl ho), rfl⟩, by rw [rv.length]; exact q _ _ H1 H1' O1 k s1 w1 (.int _)⟩
theorem em_insert (h : EvM K to G O fun d O1 => ∃ p ds, d = .ref p ∧ O1 p = some (.lst ds) ∧ EvM K ti G O1 fun i O2 => EvM K te G O2 fun e O3 => ∃ (j : Nat) (es : List D), i = .int j ∧ j ≤ 1000000 ∧ O3 p = some (.lst es) ∧ es.length < 100000 ∧ P .non (oput O3 p (.lst (es.take j ++ [e] ++ es.drop j)))) :
    EvM K (tBM K "list" (fun x vs H Q => ∃ (l : Addr) (xs : List V) (i : Int) (y : V), x = .ref l ∧ vs = [.int i, y] ∧ H l = some (.lst xs) ∧ xs.length < sizeLine ∧ 0 ≤ i ∧ i < 2 ^ 63 ∧ Q .non (upd H l (.lst (xs.take i.toNat ++ [y] ++ xs.drop i.toNat)))) to (tCons ti (tCons te tNil))) G O P := fun σ H0 H w s Q q => h σ H0 H w s _ fun v d H1 H1' O1 ⟨p, ds, e, hp, k⟩ s1 w1 r1 => by
  subst e
  obtain rfl := r1.ref_eq
  obtain ⟨_, o, ho, vs, rfl, _⟩ := w1.own p _ hp
  refine ⟨.inl ⟨rfl, _, .inl (.inl ho)⟩, k σ H1 H1' w1 (s.up s1) _ fun x i H2 H2' O2 k2 s2 w2 r2 => k2 σ H2 H2' w2 (s.up (s1.trans s2)) _ fun y e H3 H3' O3 ⟨j, es, ei, hj, hp3, hl, k3⟩ s3 w3 r3 => ?_⟩
  subst ei
  obtain ⟨h0, o3, ho3, ws, rfl, rw3⟩ := w3.own p _ hp3
  refine ⟨p, ws, (j : Int), y, rfl, by rw [r2.int_eq], ho3, by rw [rw3.length]; exact Nat.lt_of_lt_of_le hl (by decide), by omega, by omega, ?_⟩
  have ej : (j : Int).toNat = j := by omega
  rw [ej]
  exact q .non .non H3 _ _ k3 ((s1.trans s2).trans s3) (w3.put (b := .lst (es.take j ++ [e] ++ es.drop j)) h0 ⟨_, rfl, ((rw3.take j).append (.cons r3 .nil)).append (rw3.drop j)⟩) .non
theorem em_extend (h : EvM K to G O fun d O1 => ∃ p ds, d = .ref p ∧ O1 p = some (.lst ds) ∧ EvM K te G O1 fun e O2 => ∃ es fs, e = .lst fs ∧ O2 p = some (.lst es) ∧ es.length + fs.length ≤ 100000 ∧ P .non (oput O2 p (.lst (es ++ fs)))) :
    EvM K (tBM K "list" rExtend to (tCons te tNil)) G O P := fun σ H0 H w s Q q => h σ H0 H w s _ fun v d H1 H1' O1 ⟨p, ds, e, hp, k⟩ s1 w1 r1 => by
  subst e
  obtain rfl := r1.ref_eq
  obtain ⟨_, o, ho, vs, rfl, _⟩ := w1.own p _ hp
  refine ⟨.inl ⟨rfl, _, .inl (.inl ho)⟩, k σ H1 H1' w1 (s.up s1) _ fun y e H2 H2' O2 ⟨es, fs, ee, hp2, hl, k2⟩ s2 w2 r2 => ?_⟩
  subst ee
  obtain ⟨b, zs, rfl, hb, rz⟩ := r2.lst_out
  obtain ⟨h0, o2, ho2, ws, rfl, rw2⟩ := w2.own p _ hp2
  refine ⟨p, b, ws, zs, rfl, rfl, ho2, w2.le _ _ hb, by rw [rw2.length, rz.length]; exact Nat.le_trans hl (by decide), ?_⟩
  exact q .non .non H2 _ _ k2 (s1.trans s2) (w2.put (b := .lst (es ++ fs)) h0 ⟨ws ++ zs, rfl, rw2.append rz⟩) .non
/-- xs * k -/
theorem rd_rep {ds : List D} {k : Int} (h0 : 0 ≤ k) (h1 : ds.length * k.toNat ≤ 100000) (h2 : k < 2 ^ 62) : RD K E rRep (.lst ds) (.int k) (.new (List.replicate k.toNat ds).flatten) := fun H0 H e x y r1 r2 Q q => by
  obtain ⟨a, vs, rfl, ha, t⟩ := r1.lst_out
  refine ⟨a, k, vs, rfl, r2.int_eq, e _ _ ha, by omega, by omega, by rw [t.length]; exact Nat.le_trans h1 (by decide), fun p hp => ?_⟩
  refine q p _ H0 _ (Stp.own e hp) hp (e.free hp) upd_same ?_
  have gen : ∀ n : Nat, Dens K H0 (List.replicate n vs).flatten (List.replicate n ds).flatten := by
    intro n
    induction n with
    | zero => exact .nil
    | succ n ih =>
      rw [List.replicate_succ, List.replicate_succ, List.flatten_cons, List.flatten_cons]
      exact t.append ih
  exact gen _
end
end Pr
namespace L2
open PySem PySem.Spec PyProof.Rows
theorem op_fdivB {X : Cx} : OpR X (binaryOp .FloorDiv) (rI (fun _ j => 0 < j ∧ j < 9223372036854775808) fun i j => .int (i / j)) := opI fun i j _ _ _ _ _ hc q => by
  have h1 : (0 : Int) < j := hc.1
  have h2 : j < 9223372036854775808 := hc.2
  refine floordiv_int (by omega) (by rw [Int.fdiv_eq_ediv_of_nonneg i (by omega)]; exact q) (.inl (PyProof.noPylong_of_log2 ?_))
  have h0 : j.natAbs ≠ 0 := by omega
  have h63 : j.natAbs.log2 < 63 := (Nat.log2_lt h0).mpr (by omega)
  omega
end L2
namespace Pr
open PySem L2
/-! more rules: setting by any index -/
theorem sv_setI {K : Fg} {E : XK} {N : En} {G : Sl} {O : Om} {te to ti : TE} (h : EvM K te G O fun e O1 => EvM K to G O1 fun d O2 => ∃ p, d = .ref p ∧ EvM K ti G O2 fun i O3 => ∃ (z : Int) (j : Nat) (ds : List D), i = .int z ∧ O3 p = some (.lst ds) ∧ ixN ds.length z = some j ∧ N.nx G (oput O3 p (.lst (ds.set j e)))) :
    Sv K E (tAsg te (gSub to ti rSetL)) N G O := fun D σ H0 H w s n => h σ H0 H w s _ fun v e H1 H1' O1 k1 s1 w1 r1 => k1 σ H1 H1' w1 (s.up s1) _ fun x d H2 H2' O2 ⟨p, ed, k2⟩ s2 w2 r2 => k2 σ H2 H2' w2 (s.up (s1.trans s2)) _ fun y i H3 H3' O3 ⟨z, j, ds, ei, hp, hj, k3⟩ s3 w3 r3 => by
  subst ed ei
  obtain rfl := r2.ref_eq
  obtain ⟨h0, o, ho, vs, rfl, rv⟩ := w3.own p _ hp
  refine ⟨p, vs, z, j, rfl, r3.int_eq, ho, by rw [rv.length]; exact hj, ?_⟩
  exact n.nx G _ σ H3 _ k3 ((s1.trans s2).trans s3) (w3.put (b := .lst (ds.set j e)) h0 ⟨vs.set j v, rfl, rv.set (r1.up (s2.trans s3)) j⟩) (s.up ((s1.trans s2).trans s3))
theorem rgV_eq (a b : Int) : rgV a b = (rng a (b - a).toNat).map V.int := by
  unfold rgV rng
  rw [List.map_map]
  rfl
theorem ev_lrg1 {K : Fg} {E : XK} {G : Sl} {te : TE} {n : Int} (h : EvR K E te G (.val (.int n))) (h0 : 0 ≤ n) (h1 : n ≤ 100000) : EvR K E (tLstRg (tRg1 te)) G (.new (iL (rng 0 n.toNat))) := fun σ H0 H e s Q q => h σ H0 H e s _ fun v H1 H1' s1 r1 => by
  refine ⟨n, r1.int_eq, .of_le (by omega) (by omega) (by omega) h0, fun p hp => ?_⟩
  refine q p _ H1 _ (s1.trans (Stp.own s1.c hp)) (s1.b.free hp) (s1.c.free hp) upd_same ?_
  rw [rgV_eq, show n - 0 = n by omega]
  exact Dens.of_ints _
theorem ev_lrg2 {K : Fg} {E : XK} {G : Sl} {ta tb : TE} {m n : Int} (h : EvR K E ta G (.val (.int m))) (hb : EvR K E tb G (.val (.int n))) (h0 : 0 ≤ m) (h1 : m ≤ 100000) (h2 : 0 ≤ n) (h3 : n ≤ 100000) : EvR K E (tLstRg (tRg2 ta tb)) G (.new (iL (rng m (n - m).toNat))) := fun σ H0 H e s Q q => h σ H0 H e s _ fun v H1 H1' s1 r1 => hb σ H1 H1' s1.c (s.up s1.a) _ fun u H2 H2' s2 r2 => by
  refine ⟨m, n, (r1.up s2.a).int_eq, r2.int_eq, .of_le h0 (by omega) (by omega) h2, fun p hp => ?_⟩
  have s3 := s1.trans s2
  refine q p _ H2 _ (s3.trans (Stp.own s3.c hp)) (s3.b.free hp) (s3.c.free hp) upd_same ?_
  rw [rgV_eq]
  exact Dens.of_ints _
/-- xs.index(x) -/
theorem rm_index {K : Fg} {E : XK} {xs : List Int} {x : Int} (h : x ∈ xs) : RM K E (rIndex K) (.lst (iL xs)) [.int x] (.val (.int (xs.idxOf x : Nat))) := fun H0 H e v vs r1 r2 Q q => by
  obtain ⟨a, ws, rfl, ha, t⟩ := r1.lst_out
  obtain rfl := t.ints_eq
  obtain ⟨u, us, rfl, r3, r4⟩ := r2.cons_out
  obtain rfl := r4.nil_out
  obtain rfl := r3.int_eq
  have hi := List.idxOf_lt_length_of_mem h
  refine ⟨a, _, _, xs.idxOf x, .int x, rfl, rfl, .inl (.inl (e _ _ ha)), rfl, ?_, ?_, ?_, fun m z hm hz => ?_, sat_val e q (.int _)⟩
  · rw [List.all_map]
    exact List.all_eq_true.mpr fun _ _ => rfl
  · rw [List.getElem?_map, List.getElem?_eq_getElem hi, List.getElem_idxOf hi]
    rfl
  · show decide (x = x) = true
    simp
  · rw [List.getElem?_map] at hz
    cases hx : xs[m]? with
    | none => rw [hx] at hz; cases hz
    | some y =>
      rw [hx] at hz
      obtain rfl := Option.some.inj hz
      show decide (y = x) = false
      refine decide_eq_false fun e2 => ?_
      subst e2
      have hml := (List.getElem?_eq_some_iff.mp hx).1
      have := List.not_of_lt_findIdx (p := (· == y)) (xs := xs) hm
      rw [(List.getElem?_eq_some_iff.mp hx).2] at this
      simp at this
/-- == and != of scalars of one kind, or with None -/
theorem rd_eqU {K : Fg} {E : XK} {d1 d2 : D} (h1 : flatD d1 = true) (h2 : flatD d2 = true) (hs : scal (vOf d1) (vOf d2) = true) : RD K E rEq d1 d2 (.val (.bl (decide (vOf d1 = vOf d2)))) := fun H0 H e x y r1 r2 Q q => by
  obtain ⟨e1, _⟩ := flat_den r1 h1
  obtain ⟨e2, _⟩ := flat_den r2 h2
  subst e1 e2
  exact ⟨hs, sat_val e q (.bl _)⟩
theorem rd_neU {K : Fg} {E : XK} {d1 d2 : D} (h1 : flatD d1 = true) (h2 : flatD d2 = true) (hs : scal (vOf d1) (vOf d2) = true) : RD K E rNe d1 d2 (.val (.bl (!decide (vOf d1 = vOf d2)))) := fun H0 H e x y r1 r2 Q q => by
  obtain ⟨e1, _⟩ := flat_den r1 h1
  obtain ⟨e2, _⟩ := flat_den r2 h2
  subst e1 e2
  exact ⟨hs, sat_val e q (.bl _)⟩
/-- a def with defaults, all parameters given -/
structure CalD (P : Program) (w : World) (K : Fg) (mg : Str → Option Value) (base : Heap) (x : Str) (k : Nat) (ps : List Str) (sp : Sp) : Prop where
  ex : ∃ (f : Addr) (fd : FuncData), mg x = some (.ref f) ∧ PySem.W.keepIn K (.ref f) = true ∧ FnOk P w K mg base (L2.CX P w) k f fd ps sp ∧ Binds K fd ps []
theorem pe_calD {X : Cx} {k : Nat} {x : Str} {ps : List Str} {sp : Sp} {p pos : Pos} {e : Expr} {es : List Expr} {t : TA} (C : CalD X.prog X.w X.K X.mg X.base x k ps sp) (hr : Room k X.A) (ha : PA X (e :: es) t) (hg : Gl X x := by rfl) (hdb : (x == ("__debug__" : Str)) = false := by decide)
    (he : starEach (e :: es) X.env = (false, eval e X.env) :: starEach es X.env := by rfl) (hpl : (backTo pos (starEach es X.env)).any (·.1) = false := by rfl) : PE X (.Call (.Name x p) (e :: es) [] pos) (tCall sp [] E0 t) := by
  obtain ⟨f, fd, hm, kp, F, b⟩ := C.ex
  exact pe_call F hr hg hm kp b .nil passL ha hdb he hpl
theorem cal_noxD {P : Program} {w : World} {K : Fg} {mg : Str → Option Value} {base : Heap} {x qual : Str} {params : Arguments} {body : List Stmt} {scope : Scope} {f : Addr} {dvs : List V} {N ps : List Str} {k : Nat} {sp : Sp} (hm : mg x = some (.ref f)) (F : ∃ fd, FunD K x qual params body scope dvs [] f fd) (hd : dvs ≠ []) (S : FnScope N ps scope) (len : ∀ vs H Q E, sp vs H Q E → vs.length = ps.length)
    (h : ∀ (T : Addr) (kV doc pm : Value) (an : Option Addr) (cdv ct : Value) (us its : List Value), us.length = ps.length → its.length = dvs.length → ∃ k, bindArgs (PySem.W.fnOf x qual params body scope (.ref T) kV doc pm an cdv ct) ⟨us, []⟩ = seqItems? (.ref T) >>= k ∧ k (some its.toArray) = pure (ps.zip us))
    (hbody : ∀ (cdv : Value) (A : Around) (outer : List Env) (s : Shared) (H : Hp) (vs : List V) (Q : VK) (E : XK), Room k (A.deeper (PyProof.Rows.envOfC qual scope s.heap.objs.size f cdv)) → sp vs H Q E →
      ∃ t, PSs (cxOf (L2.CX P w) P w K mg base N qual scope f cdv A outer s H E).nox body t ∧ t { nx := fun _ H' => Q .non H', rt := Q } (L2.start N vs) H) : CalD P w K mg base x (k + 1) ps sp := by
  obtain ⟨fd, F⟩ := F
  obtain ⟨ds, hv, hb⟩ := F.binds1 (ps := ps) ps.length dvs.length hd (by omega) fun T kV doc pm an cdv ct us its hu hi => by
    obtain ⟨k, e1, e2⟩ := h T kV doc pm an cdv ct us its hu hi
    exact ⟨k, e1, by rw [e2, ← hi, List.drop_length, List.append_nil]⟩
  rw [List.drop_length] at hv
  cases hv
  refine ⟨f, fd, hm, F.kp, F.ok S len fun cdv A outer s H vs Q E hr hsp => ?_, hb⟩
  obtain ⟨t, a, b⟩ := hbody cdv A outer s H vs Q E hr hsp
  exact ⟨t, a.nox, b⟩
theorem Wd.freezeO {K : Fg} {H0 H : Hp} {O : Om} {p C : Addr} {fs : List (Str × D)} (w : Wd K H0 H O) (h : O p = some (.obj C fs)) : ∃ H1, Same H0 H1 ∧ Wd K H1 H (odrop O p) ∧ Den K H1 (.ref p) (.ins C (fs.map (·.1)) (fs.map (·.2))) := by
  obtain ⟨h0, o, ho, dx, gs, rfl, hn, rd⟩ := w.own p _ h
  refine ⟨upd H0 p (.ins C dx gs), same_new h0, ⟨fun b x q => ?_, fun q c h' => ?_⟩, .ins upd_same hn (rd.up (same_new h0))⟩
  · by_cases hb : b = p
    · subst hb; rw [upd_same] at q; rw [ho]; exact q
    · rw [upd_ne hb] at q; exact w.le _ _ q
  · by_cases hq : q = p
    · subst hq
      unfold odrop at h'
      rw [if_pos rfl] at h'
      cases h'
    · unfold odrop at h'
      rw [if_neg hq] at h'
      obtain ⟨a, o, b, r⟩ := w.own q c h'
      exact ⟨by rw [upd_ne hq]; exact a, o, b, r.up (same_new h0)⟩
theorem ma_imp {K : Fg} {G : Sl} {O : Om} {t : TA} {PA PA' : List D → Om → Prop} (h : EvMA K t G O PA) (k : ∀ ds O', PA ds O' → PA' ds O') : EvMA K t G O PA' := fun σ H0 H w s Q q => h σ H0 H w s Q fun vs ds H1 H1' O1 p => q vs ds H1 H1' O1 (k ds O1 p)
/-- C(e, ..), the arguments with effects -/
theorem em_make {K : Fg} {G : Sl} {O : Om} {C : Addr} {t : TA} {P : D → Om → Prop} {PI : List D → Om → (D → Om → Prop) → Prop} {E' : XK}
    (h : EvMA K t G O fun es O1 => ∃ fs : List (Str × D), (∀ (O : Om) (x : Addr), O x = some (.obj C []) → ∀ k : D → Om → Prop, (k .non (oput O x (.obj C fs))) → PI (.ref x :: es) O k) ∧ P (.ins C (fs.map (·.1)) (fs.map (·.2))) O1) : EvM K (tMake C (SpM K PI) [] E' t) G O P := fun σ H0 H w s Q q =>
  h σ H0 H w s _ fun vs es H1 H1' O1 ⟨fs, p, k⟩ s1 w1 r1 x dx hx hdx ne => by
    have hs : Same H1 (upd (upd H1' dx (.own x)) x (.ins C dx [])) := fun b o hb => by
      rw [upd_ne (ne_of_none (w1.le _ _ hb) hx), upd_ne (ne_of_none (w1.le _ _ hb) hdx)]
      exact w1.le _ _ hb
    have hx0 : H1 x = none := w1.le.free hx
    have hox : O1 x = none := w1.free hx
    have w0 : Wd K H1 (upd (upd H1' dx (.own x)) x (.ins C dx [])) (oput O1 x (.obj C [])) := by
      refine ⟨hs, fun b o hb => ?_⟩
      by_cases hbx : b = x
      · subst hbx
        rw [oput_same] at hb
        cases hb
        exact ⟨hx0, _, upd_same, dx, [], rfl, rfl, .nil⟩
      · rw [oput_ne hbx] at hb
        obtain ⟨h0, o', ho', r⟩ := w1.own b o hb
        exact ⟨h0, o', by rw [upd_ne hbx, upd_ne (ne_of_none ho' hdx)]; exact ho', r⟩
    refine ⟨H1, _, .ref x :: es, fun d O' => d = .non ∧ O' = oput (oput O1 x (.obj C [])) x (.obj C fs), w0, by rw [List.append_nil]; exact .cons (.ref x) r1, p _ x oput_same _ ⟨rfl, rfl⟩, ?_⟩
    rintro d O' v H0' H' ⟨rfl, rfl⟩ s2 w2 rv
    refine ⟨rv.non_eq, ?_⟩
    rw [oput_oput] at w2
    obtain ⟨H2, s3, w3, r3⟩ := Wd.freezeO w2 oput_same
    rw [odrop_put hox] at w3
    exact q (.ref x) _ H2 H' O1 k ((s1.trans s2).trans s3) w3 r3
/-- sorted(xs) of ints: the one order -/
theorem rc_sorted {K : Fg} {E : XK} {xs ys : List Int} (h : ∀ zs : List Int, zs.Perm xs → zs.Pairwise (· ≤ ·) → zs = ys) : RC K E (rSortedI K) [.lst (iL xs)] (.new (iL ys)) := fun H0 H e vs r Q q => by
  obtain ⟨v, ws, rfl, r3, r4⟩ := r.cons_out
  obtain rfl := r4.nil_out
  obtain ⟨a, us, rfl, ha, t⟩ := r3.lst_out
  obtain rfl := t.ints_eq
  refine ⟨a, xs, rfl, .inl (.inl (e _ _ ha)), fun zs p hp hs hn => ?_⟩
  rw [h zs hp hs]
  exact q p _ H0 _ (Stp.own e hn) hn (e.free hn) upd_same (Dens.of_ints _)
end Pr
/-! Part Z: zip(a, b, strict=True) of two lists of one length. -/
namespace PySem
open Sem (wp)
section
variable {prog : Program} {w : World} {A : Around} {E : Value → Shared → Prop} {s : Shared}
theorem nextOrEnd_item {i l : Addr} {k : Nat} {xs : Array Value} {x : Value} {Q : Option Value → Shared → Prop} (h1 : s.heap.IsListIter i l k) (hl : s.heap.IsList l xs) (hx : xs[k]? = some x)
    (hQ : ∀ h', h'.IsListIter i l (k + 1) → Heap.SameBut i s.heap h' → Q (some x) { s with heap := h' }) : wpAny (model prog w) A (Builtin.SmallTypes.nextOrEnd (.ref i)) Q E s := by
  unfold Builtin.SmallTypes.nextOrEnd
  exact wpAny_bind (wpAny_attempt (wpAny_nextOf_list_item h1 hl hx fun h' a b => wpAny_pure (hQ h' a b)))
theorem nextOrEnd_end {i l : Addr} {k : Nat} {xs : Array Value} {Q : Option Value → Shared → Prop} (hh : A.handled = none) (h1 : s.heap.IsListIter i l k) (hl : s.heap.IsList l xs) (hx : xs[k]? = none)
    (hQ : ∀ h', (∀ c o, c ≠ i → s.heap.get? c = some o → h'.get? c = some o) → Q none { s with heap := h' }) : wpAny (model prog w) A (Builtin.SmallTypes.nextOrEnd (.ref i)) Q E s := by
  unfold Builtin.SmallTypes.nextOrEnd
  refine wpAny_bind (wpAny_attempt (wpAny_nextOf_list_end hh h1 hl hx fun h' e hk he => ?_))
  obtain ⟨o, ho, hc⟩ := he
  exact wpAny_bind (wpAny_isInstance (T := "StopIteration") (b := true) ⟨o, ho, hc⟩ isSubtype_stop (wpAny_pure (hQ h' hk)))
abbrev IsZipS (h : Heap) (z TI TO : Addr) (f0 : Value) : Prop :=
  h.get? z = some { cls := .type "zip", dict := none, data := .fields #[f0, .bool false, .bool true, .ref TI, .ref TO], slots := #[] }
theorem zipS_item {z TI TO i1 i2 l1 l2 : Addr} {k1 k2 : Nat} {xs ys : Array Value} {x y a b : Value} {Q : Value → Shared → Prop} (D : ZipApart z TI TO i1 i2 l1 l2)
    (hz : IsZipS s.heap z TI TO .none) (hTI : IsPair s.heap TI (.ref i1) (.ref i2)) (hTO : IsPair s.heap TO a b)
    (h1 : s.heap.IsListIter i1 l1 k1) (h2 : s.heap.IsListIter i2 l2 k2) (hl1 : s.heap.IsList l1 xs) (hl2 : s.heap.IsList l2 ys) (hx : xs[k1]? = some x) (hy : ys[k2]? = some y)
    (hQ : ∀ h', IsZipS h' z TI TO (rawInt s.heap.objs.size) → IsPair h' TO x y → h'.IsListIter i1 l1 (k1 + 1) → h'.IsListIter i2 l2 (k2 + 1) → IsPair h' s.heap.objs.size x y → h'.objs.size = s.heap.objs.size + 1 →
      (∀ c o, c ≠ z → c ≠ TO → c ≠ i1 → c ≠ i2 → s.heap.get? c = some o → h'.get? c = some o) → Q (.ref s.heap.objs.size) { s with heap := h' }) :
    wpAny (model prog w) A (Builtin.«zip.__next__» ⟨[.ref z], []⟩) (fun fin s' => ∃ v, fin = .done (.ret v) ∧ Q v s') E s := by
  show wpAny _ _ (field (.ref z) 2 >>= _) _ _ _
  refine wpAny_bind (wpAny_field hz rfl (x := .bool true) rfl ?_)
  show wpAny _ _ (field (.ref z) 3 >>= _) _ _ _
  refine wpAny_bind (wpAny_field hz rfl (x := .ref TI) rfl (wpAny_bind (wpAny_seqItems hTI rfl ?_)))
  show wpAny _ _ (Builtin.SmallTypes.ownedTupleIsFree (.ref z) >>= _) _ _ _
  refine wpAny_bind ?_
  unfold Builtin.SmallTypes.ownedTupleIsFree
  refine wpAny_bind (wpAny_field hz rfl (x := .none) rfl (wpAny_pure ?_))
  simp only [if_true]
  refine wpAny_bind (wpAny_rule (wpAny_bind (wpAny_field hz rfl (x := .ref TO) rfl (wpAny_bind (wpAny_setField_rec hz (by simp) fun g1 z1 b1 => ?_)))))
  replace z1 : IsZipS g1 z TI TO .ellipsis := z1
  refine wpAny_bind ?_
  simp only [List.zipIdx_cons, List.zipIdx_nil, List.forIn_cons, List.forIn_nil]
  refine wpAny_bind (wpAny_bind (wpAny_onRaise ?_))
  show wpAny _ _ (Builtin.SmallTypes.nextOrEnd (.ref i1)) _ _ _
  refine nextOrEnd_item (h1.extBut b1.extBut D.i1z) (hl1.extBut b1.extBut D.l1z) hx fun g2 j1 b2 => ?_
  have t2 : IsPair g2 TO a b := b2.extBut _ _ D.TOi1 (b1.extBut _ _ D.TOz hTO)
  refine wpAny_bind (wpAny_seqItems t2 rfl (wpAny_bind (wpAny_updateSeq_pair t2 fun g3 t3 b3 => ?_)))
  replace t3 : IsPair g3 TO x b := t3
  refine wpAny_bind (wpAny_letGo (wpAny_pure ?_))
  refine wpAny_bind (wpAny_bind (wpAny_onRaise ?_))
  show wpAny _ _ (Builtin.SmallTypes.nextOrEnd (.ref i2)) _ _ _
  refine nextOrEnd_item (((h2.extBut b1.extBut D.i2z).extBut b2.extBut D.i12.symm).extBut b3.extBut D.TOi2.symm) (((hl2.extBut b1.extBut D.l2z).extBut b2.extBut D.l2i1).extBut b3.extBut D.l2TO) hy fun g4 j2 b4 => ?_
  have t4 : IsPair g4 TO x b := b4.extBut _ _ D.TOi2 t3
  refine wpAny_bind (wpAny_seqItems t4 rfl (wpAny_bind (wpAny_updateSeq_pair t4 fun g5 t5 b5 => ?_)))
  replace t5 : IsPair g5 TO x y := t5
  refine wpAny_bind (wpAny_letGo (wpAny_pure (wpAny_pure ?_)))
  refine wpAny_bind (wpAny_seqItems t5 rfl (wpAny_bind (wpAny_newTuple ?_)))
  have hsz : g5.objs.size = s.heap.objs.size := by rw [b5.1, b4.1, b3.1, b2.1, b1.1]
  have z5 : IsZipS g5 z TI TO .ellipsis := b5.extBut _ _ D.TOz.symm (b4.extBut _ _ D.i2z.symm (b3.extBut _ _ D.TOz.symm (b2.extBut _ _ D.i1z.symm z1)))
  have k5 : ∀ c o, c ≠ z → c ≠ TO → c ≠ i1 → c ≠ i2 → s.heap.get? c = some o → g5.get? c = some o := fun c o c1 c2 c3 c4 e =>
    b5.extBut _ _ c2 (b4.extBut _ _ c4 (b3.extBut _ _ c2 (b2.extBut _ _ c3 (b1.extBut _ _ c1 e))))
  have j15 : g5.IsListIter i1 l1 (k1 + 1) := ((j1.extBut b3.extBut D.TOi1.symm).extBut b4.extBut D.i12).extBut b5.extBut D.TOi1.symm
  have j25 : g5.IsListIter i2 l2 (k2 + 1) := j2.extBut b5.extBut D.TOi2.symm
  have hzlt : z < g5.objs.size := Heap.lt_size z5
  show wpAny _ _ (Builtin.SmallTypes.ownedTupleHandOut (.ref z) (.ref g5.objs.size) >>= _) _ _ _
  refine wpAny_bind ?_
  unfold Builtin.SmallTypes.ownedTupleHandOut
  have z6 : IsZipS (g5.push { cls := .type "tuple", data := .seq #[x, y] }) z TI TO .ellipsis := Heap.get?_push_of_some _ z5
  refine wpAny_bind (wpAny_setField_rec z6 (by simp) fun g7 z7 b7 => ?_)
  replace z7 : IsZipS g7 z TI TO (rawInt g5.objs.size) := z7
  refine wpAny_setField_rec z7 (by simp) fun g8 z8 b8 => ?_
  replace z8 : IsZipS g8 z TI TO (rawInt g5.objs.size) := z8
  have up : ∀ c o, c ≠ z → g5.get? c = some o → g8.get? c = some o := fun c o c1 e => b8.extBut _ _ c1 (b7.extBut _ _ c1 (Heap.get?_push_of_some _ e))
  have hT8 : IsPair g8 g5.objs.size x y := b8.extBut _ _ (Nat.ne_of_gt hzlt) (b7.extBut _ _ (Nat.ne_of_gt hzlt) (Heap.get?_push_size _ rfl))
  have hz8 : g8.objs.size = g5.objs.size + 1 := by rw [b8.1, b7.1, Heap.size_push]
  rw [hsz] at z8 hT8 hz8
  refine wpAny_pure ⟨_, rfl, ?_⟩
  show Q (.ref g5.objs.size) _
  rw [hsz]
  exact hQ g8 z8 (up _ _ D.TOz t5) (j15.at fun o e => up _ o D.i1z e) (j25.at fun o e => up _ o D.i2z e) hT8 hz8 fun c o c1 c2 c3 c4 e => up c o c1 (k5 c o c1 c2 c3 c4 e)
theorem stop_iter {α : Type} {Q : α → Shared → Prop} (hh : A.handled = none) (hE : ∀ h' e, (∀ c o, s.heap.get? c = some o → h'.get? c = some o) → (∃ o, h'.get? e = some o ∧ o.cls = .type "StopIteration") → E (.ref e) { s with heap := h' }) :
    wpAny (model prog w) A (Builtin.SmallTypes.stopIteration (α := α)) Q E s := by
  unfold Builtin.SmallTypes.stopIteration
  refine wpAny_bind ?_
  simp only [newExc, newTuple]
  refine wpAny_bind (wpAny_newObj_type ?_ (by size_fits))
  refine wpAny_bind (m := firstArgMember _ _) (wpAny_of_eq (a := Value.none) (by first | rfl | (simp only [firstArgMember]; rfl)) ?_)
  refine wpAny_newObj_type ?_ (by size_fits)
  simp only [raiseNew]
  refine wpAny_bind (wpAny_handled ?_)
  rw [hh]
  refine wpAny_bind (wpAny_pure (wpAny_throw ?_))
  exact hE _ _ (fun c o e => Heap.get?_push_of_some _ (Heap.get?_push_of_some _ e)) ⟨_, Heap.get?_push_size _ rfl, rfl⟩
theorem zipS_end {z TI TO i1 i2 l1 l2 : Addr} {k1 k2' : Nat} {xs ys : Array Value} {a b : Value} {Q : Fin → Shared → Prop} (hh : A.handled = none) (D : ZipApart z TI TO i1 i2 l1 l2)
    (hz : IsZipS s.heap z TI TO .none) (hTI : IsPair s.heap TI (.ref i1) (.ref i2)) (hTO : IsPair s.heap TO a b)
    (h1 : s.heap.IsListIter i1 l1 k1) (h2 : s.heap.IsListIter i2 l2 k2') (hl1 : s.heap.IsList l1 xs) (hl2 : s.heap.IsList l2 ys) (hx : xs[k1]? = none) (hy : ys[k2']? = none)
    (hE : ∀ h' e, (∀ c o, c ≠ z → c ≠ TO → c ≠ i1 → c ≠ i2 → s.heap.get? c = some o → h'.get? c = some o) → (∃ o, h'.get? e = some o ∧ o.cls = .type "StopIteration") → E (.ref e) { s with heap := h' }) :
    wpAny (model prog w) A (Builtin.«zip.__next__» ⟨[.ref z], []⟩) Q E s := by
  show wpAny _ _ (field (.ref z) 2 >>= _) _ _ _
  refine wpAny_bind (wpAny_field hz rfl (x := .bool true) rfl ?_)
  show wpAny _ _ (field (.ref z) 3 >>= _) _ _ _
  refine wpAny_bind (wpAny_field hz rfl (x := .ref TI) rfl (wpAny_bind (wpAny_seqItems hTI rfl ?_)))
  show wpAny _ _ (Builtin.SmallTypes.ownedTupleIsFree (.ref z) >>= _) _ _ _
  refine wpAny_bind ?_
  unfold Builtin.SmallTypes.ownedTupleIsFree
  refine wpAny_bind (wpAny_field hz rfl (x := .none) rfl (wpAny_pure ?_))
  simp only [if_true]
  refine wpAny_bind (wpAny_rule (wpAny_bind (wpAny_field hz rfl (x := .ref TO) rfl (wpAny_bind (wpAny_setField_rec hz (by simp) fun g1 z1 b1 => ?_)))))
  replace z1 : IsZipS g1 z TI TO .ellipsis := z1
  refine wpAny_bind ?_
  simp only [List.zipIdx_cons, List.zipIdx_nil, List.forIn_cons, List.forIn_nil]
  refine wpAny_bind (wpAny_bind (wpAny_onRaise ?_))
  show wpAny _ _ (Builtin.SmallTypes.nextOrEnd (.ref i1)) _ _ _
  refine nextOrEnd_end hh (h1.extBut b1.extBut D.i1z) (hl1.extBut b1.extBut D.l1z) hx fun g2 k2 => ?_
  have z2 : IsZipS g2 z TI TO .ellipsis := k2 _ _ D.i1z.symm z1
  refine wpAny_bind (wpAny_setField_rec z2 (by simp) fun g3 z3 b3 => ?_)
  have j2 : g3.IsListIter i2 l2 k2' := ((h2.extBut b1.extBut D.i2z).at fun o e => k2 _ o D.i12.symm e).extBut b3.extBut D.i2z
  have m2 : g3.IsList l2 ys := ((hl2.extBut b1.extBut D.l2z).at fun o e => k2 _ o D.l2i1 e).extBut b3.extBut D.l2z
  refine wpAny_bind ?_
  show wpAny _ _ (forIn [(Value.ref i2, 1)] PUnit.unit _ >>= _) _ _ _
  refine wpAny_bind ?_
  simp only [List.forIn_cons, List.forIn_nil]
  refine wpAny_bind (wpAny_bind (nextOrEnd_end hh j2 m2 hy fun g4 k4 => ?_))
  show wpAny _ _ (pure (ForInStep.yield PUnit.unit)) _ _ _
  refine wpAny_pure (wpAny_pure ?_)
  refine wpAny_bind (wpAny_rule (stop_iter hh fun g5 e k5 he => ?_))
  exact hE g5 e (fun c o c1 _ c3 c4 q => k5 c o (k4 c o c4 (b3.extBut _ _ c1 (k2 c o c3 (b1.extBut _ _ c1 q))))) he
end
end PySem
/-! Part Y: the call zip(a, b, strict=True), its turns, its rule. -/
namespace PySem
open Sem (wp)
section
variable {prog : Program} {w : World} {A : Around} {E : Value → Shared → Prop} {s : Shared}
theorem pyNext_zipS_item {z TI TO i1 i2 l1 l2 : Addr} {k1 k2 : Nat} {xs ys : Array Value} {x y a b : Value} {Q : Option Value → Shared → Prop} (D : ZipApart z TI TO i1 i2 l1 l2)
    (hz : IsZipS s.heap z TI TO .none) (hTI : IsPair s.heap TI (.ref i1) (.ref i2)) (hTO : IsPair s.heap TO a b)
    (h1 : s.heap.IsListIter i1 l1 k1) (h2 : s.heap.IsListIter i2 l2 k2) (hl1 : s.heap.IsList l1 xs) (hl2 : s.heap.IsList l2 ys) (hx : xs[k1]? = some x) (hy : ys[k2]? = some y)
    (hQ : ∀ h', IsZipS h' z TI TO (rawInt s.heap.objs.size) → IsPair h' TO x y → h'.IsListIter i1 l1 (k1 + 1) → h'.IsListIter i2 l2 (k2 + 1) → IsPair h' s.heap.objs.size x y → h'.objs.size = s.heap.objs.size + 1 →
      (∀ c o, c ≠ z → c ≠ TO → c ≠ i1 → c ≠ i2 → s.heap.get? c = some o → h'.get? c = some o) → Q (some (.ref s.heap.objs.size)) { s with heap := h' }) :
    wpAny (model prog w) A (pyNext (.ref z)) Q E s := by
  have hT : s.TypeIs (.ref z) "zip" := ⟨_, hz, rfl⟩
  unfold pyNext
  exact wpAny_bind (wpAny_attempt (wpAny_callSpecial?_slot (name := Str.ofString "__next__") hT F.slot_zip_next
    (wpAny_call_entry F.slot_zip_next hT F.entry_zip_next
      (zipS_item D hz hTI hTO h1 h2 hl1 hl2 hx hy fun h' a1 a2 a3 a4 a5 a6 a7 => wpAny_pure (hQ h' a1 a2 a3 a4 a5 a6 a7)) (F.args_zip_next_1 _))))
theorem pyNext_zipS_end {z TI TO i1 i2 l1 l2 : Addr} {k1 k2 : Nat} {xs ys : Array Value} {a b : Value} {Q : Option Value → Shared → Prop} (hh : A.handled = none) (D : ZipApart z TI TO i1 i2 l1 l2)
    (hz : IsZipS s.heap z TI TO .none) (hTI : IsPair s.heap TI (.ref i1) (.ref i2)) (hTO : IsPair s.heap TO a b)
    (h1 : s.heap.IsListIter i1 l1 k1) (h2 : s.heap.IsListIter i2 l2 k2) (hl1 : s.heap.IsList l1 xs) (hl2 : s.heap.IsList l2 ys) (hx : xs[k1]? = none) (hy : ys[k2]? = none)
    (hQ : ∀ h', (∀ c o, c ≠ z → c ≠ TO → c ≠ i1 → c ≠ i2 → s.heap.get? c = some o → h'.get? c = some o) → Q none { s with heap := h' }) : wpAny (model prog w) A (pyNext (.ref z)) Q E s := by
  have hT : s.TypeIs (.ref z) "zip" := ⟨_, hz, rfl⟩
  unfold pyNext
  refine wpAny_bind (wpAny_attempt (wpAny_callSpecial?_slot (name := Str.ofString "__next__") hT F.slot_zip_next
    (wpAny_call_entry F.slot_zip_next hT F.entry_zip_next (zipS_end hh D hz hTI hTO h1 h2 hl1 hl2 hx hy fun h' e hk he => ?_) (F.args_zip_next_1 _))))
  obtain ⟨o, ho, hc⟩ := he
  refine wpAny_bind (wpAny_isInstance (T := "StopIteration") (b := true) ⟨o, ho, hc⟩ isSubtype_stop ?_)
  exact wpAny_pure (hQ _ hk)
theorem go_zipS {elts : List Expr} {x1} {pos : Pos} {z TI TO T : Addr} {Q : Unit → Shared → Prop} (hz : IsZipS s.heap z TI TO (rawInt T))
    (hQ : ∀ h', IsZipS h' z TI TO .none → Heap.SameBut z s.heap h' → Q () { s with heap := h' }) :
    wpAny (model prog w) A (letOwnedTupleGo (.Tuple elts x1 pos) (.ref z) (.ref T)) Q E s := by
  unfold letOwnedTupleGo
  refine wpAny_bind (wpAny_load hz ?_)
  show wpAny _ _ (if (["enumerate", "zip", "dict_itemiterator", "dict_reverseitemiterator", "odict_iterator", "itertools.zip_longest", "itertools.pairwise"].contains "zip" &&
      (#[rawInt T, .bool false, .bool true, .ref TI, .ref TO] : Array Value)[0]? == some (rawInt T)) = true then _ else _) Q E s
  rw [if_pos (by simp)]
  refine wpAny_bind (wpAny_rule ?_)
  show wpAny _ _ (setField (.ref z) 0 .none) Q E s
  exact wpAny_setField_rec hz (by simp) fun h' hz' hs' => hQ h' hz' hs'
theorem iter_zipS {z TI TO : Addr} {f0 : Value} {Q : Value → Shared → Prop} (hz : IsZipS s.heap z TI TO f0) (h : Q (.ref z) s) : wpAny (model prog w) A (pyIter (.ref z)) Q E s := by
  have hT : s.TypeIs (.ref z) "zip" := ⟨_, hz, rfl⟩
  refine wpAny_pyIter_slot hT F.slot_zip_iter (wpAny_call_entry F.slot_zip_iter hT F.entry_zip_iter ?_ (F.args_zip_iter_1 _))
  show wpAny _ _ (ret (.ref z)) _ _ s
  exact wpAny_pure ⟨_, rfl, "zip", _, hT, F.slot_zip_next.lookup, h⟩
end
abbrev kwS : List (Str × Value) := [("strict", .bool true)]
theorem argsS_type (a b : Value) : checkTypeCall "zip" ⟨[a, b], kwS⟩ = pure () := by kernel_rfl
theorem argsS_new (a b : Value) : checkBuiltinCall "zip.__new__" ⟨[.type "zip", a, b], kwS⟩ = pure () := by kernel_rfl
theorem argsS_init (a b c : Value) : argsOk "object.__init__" ⟨[a, b, c], kwS⟩ := by
  unfold argsOk; rw [signature?_of (id := "object.__init__") (n := ['_', '_', 't', 'i', 'n', 'i', '_', '_']) (o := ['t', 'c', 'e', 'j', 'b', 'o']) (by kernel_rfl) F.owner_object]; kernel_rfl
end PySem
namespace PySem
open Sem (wp)
section
variable {prog : Program} {w : World} {A : Around} {E : Value → Shared → Prop} {s : Shared}
theorem callTypeK {T newId initId : String} {Bn Bi : Builtin} {args : List Value} {kw : List (Str × Value)} {S : Spec} {Q Q₁ : Value → Shared → Prop} (ft : TypeCalled T newId initId)
    (hct : checkTypeCall T ⟨args, kw⟩ = pure ()) (hcn : checkBuiltinCall newId ⟨.type T :: args, kw⟩ = pure ())
    (entryN : entryFor table newId = some Bn) (entryI : entryFor table initId = some Bi) (g : Meets (Bn ⟨.type T :: args, kw⟩) S)
    (h : S A.in1 (wants Q₁ E) s)
    (hnext : ∀ obj s₁, Q₁ obj s₁ → s₁.TypeIs obj T ∧ argsOk initId ⟨obj :: args, kw⟩ ∧ ∃ Si, Meets (Bi ⟨obj :: args, kw⟩) Si ∧ Si A.in1 (wants (fun r s₂ => r = .none ∧ Q obj s₂) E) s₁) :
    wpAny (model prog w) A (call (.type T) args kw) Q E s := by
  obtain ⟨c, tl, hmro⟩ := ft.mro
  have hmade := ft.made
  have hsub := ft.sub
  refine wpAny_call (codeAny_of_tree ?_)
  show wpAny _ _ (callAny (.type T) _) _ _ _
  refine wpAny_pure ⟨Code.quiet_builtin _ (by decide +kernel), codeAny_builtin F.entry_type_call ?_⟩
  rw [Around.under_plain (weight_type_call_type T args kw) (units_type_call_type T args kw)]
  have h1 := ft.notType
  have h2 := ft.canCreate
  repeat (any_goals (first | assumption | wp_step))
  refine codeAny_mono (codeAny_call_builtin ft.plain entryN (wpAny_of_eq hcn (g prog w A.in1 _ s h))) fun r s₁ hr => ?_
  cases r with
  | error e => exact hr
  | ok fl =>
    cases fl with
    | ret obj =>
      obtain ⟨hT, hok, Si, gi, hsi⟩ := hnext _ _ hr
      have hli := ft.init.lookup
      have hbi := ft.init.bind obj
      repeat (any_goals (first | assumption | wp_step))
      refine codeAny_mono (codeAny_call_builtin ft.init.plain entryI (ft.init.check _ _ _ _ _ _ _ _ hT hok (gi prog w A.in1 _ s₁ hsi))) fun r₂ s₂ hr₂ => ?_
      cases r₂ with
      | error e => exact hr₂
      | ok fl₂ =>
        cases fl₂ with
        | ret r =>
          obtain ⟨rfl, hq⟩ := hr₂
          repeat (any_goals (first | assumption | wp_step))
        | _ => exact hr₂.elim
    | _ => exact hr.elim
theorem initK_meets {T newId : String} {self a : Value} {rest : List Value} {kw : List (Str × Value)} (hl : typeLookup (.type T) "__init__" = pure (some (.builtin "object.__init__")))
    (hm : Bind.madeBy (.type T) = pure (some newId)) (hne : (some newId != some "object.__new__") = true) :
    Meets (Builtin.«object.__init__» ⟨self :: a :: rest, kw⟩) (fun _ R s => s.TypeIs self T ∧ R (.ok (.ret .none)) s) := by
  refine Meets.of_wp fun prog w A R s hs => ?_
  obtain ⟨hT, hq⟩ := hs
  repeat (any_goals (first | assumption | wp_step))
  exact ⟨_, rfl, hq⟩
end
abbrev zipS5 (h : Heap) (l1 l2 : Addr) : Heap := (zipH4 h l1 l2).push { cls := .type "zip", data := .fields #[.none, .bool false, .bool true, .ref (zipH2 h l1 l2).objs.size, .ref (zipH3 h l1 l2).objs.size] }
theorem meets_zipS_new (l1 l2 : Addr) (xs ys : Array Value) :
    Meets (Builtin.«zip.__new__» ⟨[.type "zip", .ref l1, .ref l2], kwS⟩) (fun _ R s => s.heap.IsList l1 xs ∧ s.heap.IsList l2 ys ∧
      R (.ok (.ret (.ref (zipH4 s.heap l1 l2).objs.size))) { s with heap := zipS5 s.heap l1 l2 }) :=
  .of_wp fun prog w A R s h => by
    obtain ⟨hp, g, d, tk, os⟩ := s; obtain ⟨hl1, hl2, h⟩ := h
    have hsub := sub_zip
    have hL1 : Heap.IsList (Shared.heap ⟨hp, g, d, tk, os⟩) l1 xs := hl1
    have hL2 : Heap.IsList (Shared.heap ⟨hp.push { cls := .type "list_iterator", data := .fields #[.ref l1, .int 0 0] }, g, d, tk, os⟩) l2 ys := Heap.IsList.push hl2 _
    wp_walk using wpAny_pyIter_list hL1, wpAny_pyIter_list hL2
    exact ⟨_, rfl, h⟩
section
variable {prog : Program} {w : World} {A : Around} {E : Value → Shared → Prop} {s : Shared}
theorem call_zipS {l1 l2 : Addr} {xs ys : Array Value} {Q : Value → Shared → Prop} (hl1 : s.heap.IsList l1 xs) (hl2 : s.heap.IsList l2 ys)
    (h : ∀ h', IsZipS h' (s.heap.objs.size + 4) (s.heap.objs.size + 2) (s.heap.objs.size + 3) .none → IsPair h' (s.heap.objs.size + 2) (.ref s.heap.objs.size) (.ref (s.heap.objs.size + 1)) →
      IsPair h' (s.heap.objs.size + 3) .none .none → h'.IsListIter s.heap.objs.size l1 0 → h'.IsListIter (s.heap.objs.size + 1) l2 0 → h'.objs.size = s.heap.objs.size + 5 →
      (∀ c o, s.heap.get? c = some o → h'.get? c = some o) → Q (.ref (s.heap.objs.size + 4)) { s with heap := h' }) :
    wpAny (model prog w) A (call (.type "zip") [.ref l1, .ref l2] kwS) Q E s := by
  refine callTypeK F.called_zip (argsS_type _ _) (argsS_new _ _) F.entry_zip_new F.entry_object_init (meets_zipS_new l1 l2 xs ys) (Q₁ := fun obj s₁ => s₁.TypeIs obj "zip" ∧ Q obj s₁) ⟨hl1, hl2, ?_⟩
    fun obj s₁ hq => ⟨hq.1, argsS_init obj _ _, _, initK_meets F.called_zip.init.lookup F.called_zip.made (by decide), hq.1, rfl, hq.2⟩
  have z1 : (zipH1 s.heap l1).objs.size = s.heap.objs.size + 1 := Heap.size_push ..
  have z2 : (zipH2 s.heap l1 l2).objs.size = s.heap.objs.size + 2 := by rw [Heap.size_push, z1]
  have z3 : (zipH3 s.heap l1 l2).objs.size = s.heap.objs.size + 3 := by rw [Heap.size_push, z2]
  have z4 : (zipH4 s.heap l1 l2).objs.size = s.heap.objs.size + 4 := by rw [Heap.size_push, z3]
  have z5 : (zipS5 s.heap l1 l2).objs.size = s.heap.objs.size + 5 := by rw [Heap.size_push, z4]
  have g5 : (zipS5 s.heap l1 l2).get? (zipH4 s.heap l1 l2).objs.size = some _ := Heap.get?_push_size _ rfl
  have g4 : (zipS5 s.heap l1 l2).get? (zipH3 s.heap l1 l2).objs.size = some _ := Heap.get?_push_of_some _ (Heap.get?_push_size _ rfl)
  have g3 : (zipS5 s.heap l1 l2).get? (zipH2 s.heap l1 l2).objs.size = some _ := Heap.get?_push_of_some _ (Heap.get?_push_of_some _ (Heap.get?_push_size _ rfl))
  have g2 : (zipS5 s.heap l1 l2).get? (zipH1 s.heap l1).objs.size = some _ := Heap.get?_push_of_some _ (Heap.get?_push_of_some _ (Heap.get?_push_of_some _ (Heap.get?_push_size _ rfl)))
  have g1 : (zipS5 s.heap l1 l2).get? s.heap.objs.size = some _ := Heap.get?_push_of_some _ (Heap.get?_push_of_some _ (Heap.get?_push_of_some _ (Heap.get?_push_of_some _ (Heap.get?_push_size _ rfl))))
  show _ ∧ _
  rw [z2, z3, z4] at g5
  rw [z1, z2] at g3
  rw [z3] at g4
  rw [z1] at g2
  rw [z4]
  exact ⟨⟨_, g5, rfl⟩, h _ g5 g3 g4 ⟨_, g1, rfl, rfl⟩ ⟨_, g2, rfl, rfl⟩ z5 fun c o x =>
    Heap.get?_push_of_some _ (Heap.get?_push_of_some _ (Heap.get?_push_of_some _ (Heap.get?_push_of_some _ (Heap.get?_push_of_some _ x))))⟩
theorem callWith_typeK {M : Model} {E : Value → Shared → Prop} {s : Shared} {pos : Pos} {T : String} {args : List (Bool × Sem Value)} {keywords : List (Option Str × Sem Value)} {Q : Value → Shared → Prop}
    (hplain : args.any (·.1) = false) (hkw : keywords.any (·.1.isNone) = false)
    (h : wpAny M A (evalArgs (.type T) true args keywords) (fun a s₁ => wpAny M A (call (.type T) a.pos a.kw) Q E s₁) E s) :
    wpAny M A (callWith pos (.type T) [] args keywords) Q E s := by
  unfold callWith
  refine wpAny_bind (wpAny_holding (wpAny_mono h (fun a s₁ h₁ => wpAny_bind (wpAny_standAt ?_)) fun _ _ x => x))
  simp only [hplain, hkw, Bool.or_false]
  refine wpAny_bind (wpAny_pure ?_)
  exact wpAny_bind (wpAny_mono h₁ (fun r s₂ hr => wpAny_bind (wpAny_holding (wpAny_point (wpAny_pure hr)))) fun _ _ x => x)
end
end PySem
section ZipOpen
open PySem PySem.Spec PyProof.Rows L2
def ItzS (K : PySem.W.Frag) (a b : Addr) : It :=
  ⟨(Itz K a b).go, (Itz K a b).yld, fun i H => ∃ xs ys : List V, SqL K H a xs ∧ SqL K H b ys ∧ xs.length ≤ i ∧ ys.length ≤ i⟩
theorem turn_zipS {P : Program} {w : World} {K : PySem.W.Frag} {elts : List Expr} {kk : Nat} {tpos : Pos} {a b z TI TO i1 i2 : Addr} (D : ZipApart z TI TO i1 i2 a b) :
    Turn P w K (.Tuple elts kk tpos) (ItzS K a b) [z, TI, TO, i1, i2] z (fun i h => IsZipS h z TI TO .none ∧ IsPair h TI (.ref i1) (.ref i2) ∧ (∃ x y, IsPair h TO x y) ∧ h.IsListIter i1 a i ∧ h.IsListIter i2 b i) where
  mem := by simp
  obj := fun i h st c hc => by
    obtain ⟨hz, hTI, ⟨x, y, hTO⟩, ⟨o1, e1, _, d1⟩, ⟨o2, e2, _, d2⟩⟩ := st
    have e' : c = z ∨ c = TI ∨ c = TO ∨ c = i1 ∨ c = i2 := by simpa using hc
    rcases e' with q | q | q | q | q
    · rw [q]; exact ⟨_, hz, fun v q => nomatch q⟩
    · rw [q]; exact ⟨_, hTI, fun v q => nomatch q⟩
    · rw [q]; exact ⟨_, hTO, fun v q => nomatch q⟩
    · rw [q]; exact ⟨o1, e1, fun v q => by rw [d1] at q; cases q⟩
    · rw [q]; exact ⟨o2, e2, fun v q => by rw [d2] at q; cases q⟩
  keep := fun i h h' st k => by
    obtain ⟨hz, hTI, ⟨x, y, hTO⟩, h1, h2⟩ := st
    exact ⟨k z (by simp) _ hz, k TI (by simp) _ hTI, ⟨x, y, k TO (by simp) _ hTO⟩, h1.at fun o q => k i1 (by simp) o q, h2.at fun o q => k i2 (by simp) o q⟩
  item := by
    intro X hP hw hK hc i pins s σ H E I hf st hg
    subst hP hw hK
    obtain ⟨hz, hTI, ⟨x0, y0, hTO⟩, h1, h2⟩ := st
    obtain ⟨xs, ys, x, y, hqx, hqy, hx, hy⟩ := hg
    obtain ⟨its, rv, p, _⟩ := I.list hqx
    obtain ⟨its2, rv2, p2, _⟩ := I.list hqy
    obtain ⟨u, hu, ru⟩ := rv.get hx
    obtain ⟨u2, hu2, ru2⟩ := rv2.get hy
    have hzl : z < s.heap.objs.size := Heap.lt_size hz
    refine pyNext_zipS_item D hz hTI hTO h1 h2 p.isList p2.isList (x := u) (y := u2) (by simpa using hu) (by simpa using hu2) fun h' z' TO' h1' h2' hT hsz hk => ?_
    refine ⟨_, rfl, go_zipS (s := { s with heap := h' }) z' fun h'' z'' sb => ?_⟩
    have hT2 : h''.get? s.heap.objs.size = some { cls := .type "tuple", data := .seq #[u, u2] } := (sb.2 _ (Nat.ne_of_gt hzl)).trans hT
    have new : ObjOk X.prog X.w (upd H s.heap.objs.size (.tup [x, y])) h'' s.heap.objs.size (.tup [x, y]) :=
      ⟨by show 2 ≤ sizeLine; decide, [u, u2], .cons ru (.cons ru2 .nil), ⟨_, hT2, rfl, _, rfl⟩⟩
    have I1 : Inv X pins σ (upd H s.heap.objs.size (.tup [x, y])) { s with heap := h'' } :=
      I.turnedNew (t' := s.toks) (ch := [z, TI, TO, i1, i2]) (fun c o hb q => (sb.2 c (fun q' => hb (by simp [q']))).trans (hk c o (fun q' => hb (by simp [q'])) (fun q' => hb (by simp [q'])) (fun q' => hb (by simp [q'])) (fun q' => hb (by simp [q'])) q)) hf (Nat.le_refl _) new
    refine ⟨.ref s.heap.objs.size, _, I1, rfl, ⟨_, x, y, rfl, I.hok.fresh (Nat.le_refl _), rfl, fun l hl => by rw [I.list_inj hl hqx]; exact hx, fun l hl => by rw [I.list_inj hl hqy]; exact hy⟩, ⟨z'', ?_, ⟨u, u2, ?_⟩, ?_, ?_⟩, fun c hcm => ?_⟩
    · exact (sb.2 _ D.TIz).trans (hk _ _ D.TIz D.TITO D.TIi1 D.TIi2 hTI)
    · exact (sb.2 _ D.TOz).trans TO'
    · exact h1'.at fun o q => (sb.2 _ D.i1z).trans q
    · exact h2'.at fun o q => (sb.2 _ D.i2z).trans q
    · have hlt : c < s.heap.objs.size := by
        have e' : c = z ∨ c = TI ∨ c = TO ∨ c = i1 ∨ c = i2 := by simpa using hcm
        rcases e' with q | q | q | q | q
        · rw [q]; exact hzl
        · rw [q]; exact Heap.lt_size hTI
        · rw [q]; exact Heap.lt_size hTO
        · rw [q]; obtain ⟨_, e1, _⟩ := h1; exact Heap.lt_size e1
        · rw [q]; obtain ⟨_, e2, _⟩ := h2; exact Heap.lt_size e2
      rw [upd_ne (Nat.ne_of_lt hlt)]
      exact (hf c hcm).1
  done := by
    intro X hP hw hK hc i pins s σ H E I hf st hg
    subst hP hw hK
    obtain ⟨hz, hTI, ⟨x0, y0, hTO⟩, h1, h2⟩ := st
    obtain ⟨xs, ys, hqx, hqy, q1, q2⟩ := hg
    obtain ⟨its, rv, p, _⟩ := I.list hqx
    obtain ⟨its2, rv2, p2, _⟩ := I.list hqy
    have l1 := rv.length
    have l2 := rv2.length
    exact pyNext_zipS_end (I.ok.hd hc) D hz hTI hTO h1 h2 p.isList p2.isList (by simp; omega) (by simp; omega) fun h' hk => ⟨rfl, I.turnedL (t' := s.toks) (ch := [z, TI, TO, i1, i2]) (fun c o hb q =>
      hk c o (fun q' => hb (by simp [q'])) (fun q' => hb (by simp [q'])) (fun q' => hb (by simp [q'])) (fun q' => hb (by simp [q'])) q) hf⟩
  self := fun A i s Q E st h => iter_zipS st.1 h
def iZipS (K : PySem.W.Frag) (ta : TA) : TI := fun σ H R => ta σ H fun vs H1 => ∃ a b xs ys, vs = [.ref a, .ref b] ∧ SqL K H1 a xs ∧ SqL K H1 b ys ∧ R (ItzS K a b) H1
theorem pi_zipS {X : Cx} {e e2 : Expr} {ta : TA} {p pos kp kp2 tpos : Pos} {elts : List Expr} {kk j : Nat} (hg : Gl X "zip") (hm : X.mg "zip" = none) (ha : PA X [e, e2] ta)
    (hs : backTo pos (starEach [e, e2] X.env) = (false, eval e X.env) :: backTo pos (starEach [e2] X.env) := by rfl) (hpl : (backTo pos (starEach [e, e2] X.env)).any (·.1) = false := by rfl) :
    PI X (.Tuple elts kk tpos) (.Call (.Name "zip" p) [e, e2] [⟨some "strict", .Constant (.bool true) j kp, kp2⟩] pos) (iZipS X.K ta) := by
  refine ⟨fun pins s σ H R I h => ?_⟩
  refine wpAny_Call_Name_kw (ld_blt I hg hm PyProof.Rows.boot_zip ?_)
  refine callWith_typeK hpl (by rfl) ?_
  have k1 := ha.run pos pins s σ H _ I h
  rw [hs] at k1 ⊢
  refine PyProof.Rows.evalArgs_kwB (by rfl) (thn k1 fun us s1 ⟨vs, H1, I1, r1, q1⟩ => ?_)
  obtain ⟨a, b, xs, ys, ex, hqx, hqy, q⟩ := q1
  subst ex
  refine PyProof.Rows.kws_cons (rest := []) ?_
  refine thn ((pe_bl (X := X) (b := true) (j := j) (pos := kp)).run pins s1 σ H1 (fun v H2 => v = .bl true ∧ H2 = H1) I1 ⟨rfl, rfl⟩) fun u s2 ⟨v, H2, I2, r2, e2, e3⟩ => ?_
  subst e2 e3
  cases r2
  refine PyProof.Rows.kws_nil ?_
  cases r1 with
  | cons r rr =>
    cases rr with
    | cons r' rr =>
      cases rr
      cases r
      cases r'
      have fresh5 : ∀ c, c ∈ [s2.heap.objs.size + 4, s2.heap.objs.size + 2, s2.heap.objs.size + 3, s2.heap.objs.size, s2.heap.objs.size + 1] → FpOk X pins H2 c := fun c hcm => by
        have e' : c = s2.heap.objs.size + 4 ∨ c = s2.heap.objs.size + 2 ∨ c = s2.heap.objs.size + 3 ∨ c = s2.heap.objs.size ∨ c = s2.heap.objs.size + 1 := by simpa using hcm
        have hle : s2.heap.objs.size ≤ c := by
          rcases e' with z | z | z | z | z
          · rw [z]; exact Nat.le_add_right _ _
          · rw [z]; exact Nat.le_add_right _ _
          · rw [z]; exact Nat.le_add_right _ _
          · rw [z]; exact Nat.le_refl _
          · rw [z]; exact Nat.le_add_right _ _
        exact I2.fpOk hle (I2.hok.fresh hle)
      obtain ⟨its, rv, p1, _⟩ := I2.list hqx
      obtain ⟨its2, rv2, p2, _⟩ := I2.list hqy
      show wpAny _ _ (call (.type "zip") [.ref a, .ref b] kwS) _ _ _
      refine call_zipS p1.isList p2.isList fun h' hz hTI hTO h1 h2 hsz hk => iter_zipS hz ?_
      have I3 : Inv X pins σ H2 { s2 with heap := h' } := I2.kept (t' := s2.toks) hk
      exact ⟨s2.heap.objs.size + 4, [s2.heap.objs.size + 4, s2.heap.objs.size + 2, s2.heap.objs.size + 3, s2.heap.objs.size, s2.heap.objs.size + 1], _, _, H2, rfl, I3, turn_zipS (PySem.W.ktu_apart s2.heap.objs.size a b p1.lt p2.lt), ⟨hz, hTI, ⟨_, _, hTO⟩, h1, h2⟩, fresh5, q⟩
theorem walk_zipS {K : PySem.W.Frag} {a b : Addr} {xs ys : List V} (hl : xs.length = ys.length) : Walk (ItzS K a b) xs.length (fun H => SqL K H a xs ∧ SqL K H b ys) (YPair (fun i => xs[i]?) (fun i => ys[i]?)) := by
  refine ⟨fun i _ hi q => ?_, fun _ q => ⟨xs, ys, q.1, q.2, Nat.le_refl _, by omega⟩, fun i H v H' _ q y => ?_⟩
  · have h2 : i < ys.length := by omega
    exact ⟨xs, ys, xs[i], ys[i], q.1, q.2, by simp [hi], by simp [h2]⟩
  · obtain ⟨T, x, z, h1, h2, h3, h4, h5⟩ := y
    exact ⟨T, x, z, h1, h2, h3, h4 xs q.1, h5 ys q.2⟩

end ZipOpen
namespace Pr
open PySem L2
theorem src_zipS {K : Fg} {G : Sl} {ta : TA} {as bs : List D} (hl : as.length = bs.length) (h : EvA K ta G [.lst as, .lst bs]) : SrcD K (iZipS K ta) G (pairsD as bs) := fun σ H0 H e s R q => h σ H0 H e s _ fun vs H1 H1' s1 r1 => by
  obtain ⟨v, ws, rfl, a, b⟩ := r1.cons_out
  obtain ⟨v', ws, rfl, a', b⟩ := b.cons_out
  obtain rfl := b.nil_out
  obtain ⟨p, xs, rfl, hp, tp⟩ := a.lst_out
  obtain ⟨p', xs', rfl, hp', tp'⟩ := a'.lst_out
  have l1 := tp.length
  have l2 := tp'.length
  refine ⟨p, p', xs, xs', rfl, .inl (.inl (s1.c _ _ hp)), .inl (.inl (s1.c _ _ hp')), q _ H1 H1' s1 (walkD_pair (fun i => xs[i]?) (fun i => xs'[i]?) (n := xs.length) (by omega) ?_ (fun i x _ e => tp.getV e) (fun i x _ e => tp'.getV e))⟩
  exact (walk_zipS (by omega)).mono (fun H e => ⟨e.seq (.inl (.inl hp)), e.seq (.inl (.inl hp'))⟩) fun _ _ _ _ _ _ y => y
end Pr
/-! Part Y: defs with defaults that are left out by the callers. -/
namespace Pr
open PySem L2
structure CalE (P : Program) (w : World) (K : Fg) (mg : Str → Option Value) (base : Heap) (x : Str) (k : Nat) (ps : List Str) (dvs : List V) (sp : Sp) : Prop where
  ex : ∃ (f : Addr) (fd : FuncData) (ds : List Value), mg x = some (.ref f) ∧ PySem.W.keepIn K (.ref f) = true ∧ FnOk P w K mg base (L2.CX P w) k f fd ps sp ∧ Binds K fd ps ds ∧ Vals dvs ds
theorem pe_calE {X : Cx} {k : Nat} {x : Str} {ps : List Str} {dvs : List V} {sp : Sp} {p pos : Pos} {e : Expr} {es : List Expr} {t : TA} (C : CalE X.prog X.w X.K X.mg X.base x k ps dvs sp) (hr : Room k X.A) (ha : PA X (e :: es) t) (hg : Gl X x := by rfl) (hdb : (x == ("__debug__" : Str)) = false := by decide)
    (he : starEach (e :: es) X.env = (false, eval e X.env) :: starEach es X.env := by rfl) (hpl : (backTo pos (starEach es X.env)).any (·.1) = false := by rfl) : PE X (.Call (.Name x p) (e :: es) [] pos) (tCall sp dvs E0 t) := by
  obtain ⟨f, fd, ds, hm, kp, F, b, r⟩ := C.ex
  exact pe_call F hr hg hm kp b r passL ha hdb he hpl
theorem cal_noxE {P : Program} {w : World} {K : Fg} {mg : Str → Option Value} {base : Heap} {x qual : Str} {params : Arguments} {body : List Stmt} {scope : Scope} {f : Addr} {dvs : List V} {N ps : List Str} {k : Nat} {sp : Sp} (n j : Nat) (hm : mg x = some (.ref f)) (F : ∃ fd, FunD K x qual params body scope dvs [] f fd) (hd : dvs ≠ []) (hn : n + (dvs.length - j) = ps.length) (S : FnScope N ps scope) (len : ∀ vs H Q E, sp vs H Q E → vs.length = ps.length)
    (h : ∀ (T : Addr) (kV doc pm : Value) (an : Option Addr) (cdv ct : Value) (us its : List Value), us.length = n → its.length = dvs.length → ∃ k, bindArgs (PySem.W.fnOf x qual params body scope (.ref T) kV doc pm an cdv ct) ⟨us, []⟩ = seqItems? (.ref T) >>= k ∧ k (some its.toArray) = pure (ps.zip (us ++ its.drop j)))
    (hbody : ∀ (cdv : Value) (A : Around) (outer : List Env) (s : Shared) (H : Hp) (vs : List V) (Q : VK) (E : XK), Room k (A.deeper (PyProof.Rows.envOfC qual scope s.heap.objs.size f cdv)) → sp vs H Q E →
      ∃ t, PSs (cxOf (L2.CX P w) P w K mg base N qual scope f cdv A outer s H E).nox body t ∧ t { nx := fun _ H' => Q .non H', rt := Q } (L2.start N vs) H) : CalE P w K mg base x (k + 1) ps (dvs.drop j) sp := by
  obtain ⟨fd, F⟩ := F
  obtain ⟨ds, hv, hb⟩ := F.binds1 (ps := ps) n j hd hn h
  refine ⟨f, fd, ds, hm, F.kp, F.ok S len fun cdv A outer s H vs Q E hr hsp => ?_, hb, hv⟩
  obtain ⟨t, a, b⟩ := hbody cdv A outer s H vs Q E hr hsp
  exact ⟨t, a.nox, b⟩
theorem ev_callVE {K : Fg} {E E' : XK} {G : Sl} {P : List D → Res → Prop} {t : TA} {ds es : List D} {dvs : List V} {d : D} (h : EvA K t G ds) (he : ∀ H, Dens K H dvs es) (p : P (ds ++ es) (.val d)) : EvR K E (tCall (SpR K P) dvs E' t) G (.val d) := fun σ H0 H e s Q q =>
  h σ H0 H e s _ fun vs H1 H1' s1 r1 => ⟨H1, ds ++ es, _, s1.c, r1.append (he H1), p, Res.sat_step (r := .val d) (E := E') s1 q⟩
/-- {} -/
theorem ev_dic {K : Fg} {E : XK} {G : Sl} : EvR K E tDNewK G (.val (.dic [])) := fun σ H0 H e s Q q p hp =>
  q (.ref p) (upd H0 p (.dK [])) _ (Stp.new e hp) (.dic upd_same rfl)
end Pr
/-! Part X: exceptions: raise, calls that let them out, try .. except X as e with the exception kept. -/
namespace L2
open PySem PySem.Spec PyProof.Rows
/-- a caught exception, kept -/
def ExT (cls : Value) (d : Option Addr) (a : Addr) : HO := .ext fun h => ∃ (oe : Obj) (vs : Array Value), h.get? a = some oe ∧ Zc cls d oe ∧ oe.data = .fields vs
theorem exT_ok {P : Program} {w : World} {H : Hp} {h : Heap} {a : Addr} {cls : Value} {d : Option Addr} {oe : Obj} {vs : Array Value} (e : h.get? a = some oe) (z : Zc cls d oe) (hd : oe.data = .fields vs) : ObjOk P w H h a (ExT cls d a) :=
  ⟨⟨oe, vs, e, z, hd⟩, ⟨oe, e⟩, fun _ _ ⟨o, v, q, r⟩ k => ⟨o, v, k o q, r⟩⟩
def wKeep (K : PySem.W.Frag) (c : Value) (i : Nat) (ts : TS) (Wout : WX) (D : Ends) : WX := fun cls d σ H =>
  ∃ b, PySem.W.exmOne K cls c = some b ∧ (b = true → ∀ a, H a = none → ts { nx := fun σ' H' => D.nx (σ'.set i none) H', rt := D.rt, bk := fun σ' H' => D.bk (σ'.set i none) H', ct := fun σ' H' => D.ct (σ'.set i none) H' } (σ.set i (some (.ref a))) (upd H a (ExT cls d a))) ∧
    (b = false → Wout cls d σ H)
section
variable {X : Cx} {x n : Str} {c : Value} {i : Nat} {body suite : List Stmt} {b₀ : Stmt} {np pos pos' : Pos} {tb : WX → TS} {ts : TS} {Wout : WX}
theorem ps_try_keep (hs : X.stack = X.env :: X.outer) (hf : X.env.frame = some X.env.locals) (hN : X.N.Nodup) (hi : X.N[i]? = some n) (hln : X.env.kindOf n = some .local) (hc : Names X x c) (tk : Takes X Wout)
    (hb : ∀ (W : WX) (pn : List (Addr × Obj)) (xe : Value → Shared → Prop), Takes (X.tr pn xe) W → PassesOwn (model X.prog X.w) X.A X.env xe → PSs (X.tr pn xe) body (tb W))
    (hsu : ∀ (a : Addr) (pn : List (Addr × Obj)), PSs (X.suite a pn) (b₀ :: suite) ts) :
    PS X (.Try body [.ExceptHandler (some (.Name x np)) (some n) (b₀ :: suite) pos'] [] [] pos) (fun D σ H => tb (wKeep X.K c i ts Wout D) D σ H) := by
  refine ⟨fun pins s σ H D I h => ?_⟩
  have ok := I.ok
  have hfr : X.A.frames = some (X.env :: X.outer) := by rw [ok.frames, hs]
  have hloc : Loc X.env.scope n := .inl hln
  refine wpAny_Try_except ?_
  refine wpAny_mono ((hb (wKeep X.K c i ts Wout D) (X.pn ++ pins) (fun e s₁ => wpAny (model X.prog X.w) X.A (noteFrame e X.env) (fun _ s₂ => wpAny (model X.prog X.w) X.A (setFlight e none) (fun _ s₃ =>
    wpAny (model X.prog X.w) X.A (handleBy e X.env [.ExceptHandler (some (.Name x np)) (some n) (b₀ :: suite) pos']) (SP X pins D) X.xe s₃) X.xe s₂) X.xe s₁) (fun u s' xx => ?_) PassesOwn.looking).run [] s σ H D (I.toTry _) h) (fun f s1 hsp => ?_) (fun e s1 he => he)
  · obtain ⟨a, B, sI, pins', σ', H', cls, d, rfl, J', nb, up, sky, na, os, ag, b, hb1, hyes, hno⟩ := xx
    have J : Inv X pins σ' H' sI := J'.ofTry ok
    have sky' : Sky B (X.env :: X.outer) a (Zc cls d) X.env.locals s'.heap := by rw [← hs]; exact sky
    show wpAny (model X.prog X.w) X.A (noteFrame (.ref a) X.env) _ _ _
    refine Sky.land Zc.steady hfr hf sky' fun h3 fl3 up3 => ?_
    have J3 : Inv X pins σ' H' { s' with heap := h3 } := J.landed nb fl3.1 (up.trans up3) os ag
    obtain ⟨oe3, vs3, he3, hz3, hd3⟩ := fl3.there
    have notFr : ∀ {h : Heap} {o : Obj} {vs : Array Value}, h.FunFrames B (X.env :: X.outer) → h.get? a = some o → o.data = .fields vs → a ∉ frs (X.env :: X.outer) := fun {h o vs} ff e dd hm => by
      obtain ⟨_, o', e', hnf⟩ := ff.mem hm
      rw [e] at e'; cases e'
      exact hnf _ dd
    have nfr := notFr fl3.2.2.1 he3 hd3
    have nL : a ≠ X.env.locals := fun z => nfr (List.mem_filterMap.mpr ⟨X.env, List.mem_cons_self, by rw [hf, z]⟩)
    have nF : a ∉ X.fs := fun hm => by
      obtain ⟨e, he, q⟩ := List.mem_filterMap.mp hm
      exact nfr (List.mem_filterMap.mpr ⟨e, List.mem_cons_of_mem _ he, q⟩)
    have S3 := J3.suite he3 hd3 na nL nF
    refine wpAny_handleBy_cons (codeAny_handlers_test ?_) (by intro q; cases q)
    have LT : PySem.W.Looks (model X.prog X.w) h3 (typeOf (.ref a)) cls := fun A Q E s k q => wpAny_typeOf_ref (k _ _ he3) (by rw [hz3.1]; exact q)
    have LM := PySem.W.exm_one (M := model X.prog X.w) (J3.kIn) LT hb1
    have test : ∀ {Q : Value → Shared → Prop} {E : Value → Shared → Prop}, Q c { s' with heap := h3 } → wpAny (model X.prog X.w) (X.A.mark (some (.ref a))) (eval (.Name x np) X.env) Q E { s' with heap := h3 } := fun {Q E} q => by
      obtain ⟨hg, hdbg, hm | ⟨hm, hv, hnn⟩⟩ := hc
      · exact ld_glob (X := X.suite a ((a, oe3) :: (X.pn ++ pins))) S3 hg hm q hdbg
      · exact ld_blt (X := X.suite a ((a, oe3) :: (X.pn ++ pins))) S3 hg hm hv q hnn hdbg
    refine test (LM.here ?_)
    cases b with
    | true =>
      refine codeAny_handlers_suite_as ?_
      refine HandSPX.lands_againZ fl3 fun h4 fl4 up4 => ?_
      obtain ⟨oe4, vs4, he4, hz4, hd4⟩ := fl4.there
      obtain ⟨G, g1, g2⟩ := restrict h4 fun b => decide (b ≠ a)
      have upA := (up.trans up3).trans up4
      have hBa : B.get? a = none := fl4.2.1
      have hIa : sI.heap.get? a = none := by
        cases q : sI.heap.get? a with
        | none => rfl
        | some o =>
          have z := nb a o q (by rw [hs]; exact nfr)
          rw [hBa] at z
          cases z
      have stG : B.StaysIn G := fun b o e => by
        have hne : b ≠ a := fun z => by rw [z, hBa] at e; cases e
        rw [g1 b (decide_eq_true hne)]
        exact fl4.1 b o e
      have upG : sI.heap.UpToSlots G := fun b o e hnf => by
        have hne : b ≠ a := fun z => by rw [z, hIa] at e; cases e
        obtain ⟨sl, q⟩ := upA b o e hnf
        exact ⟨sl, by rw [g1 b (decide_eq_true hne)]; exact q⟩
      have JG : Inv X pins σ' H' { s' with heap := G } := J.landed (s' := { s' with heap := G }) nb stG upG os ag
      have kG : ∀ b u, G.get? b = some u → h4.get? b = some u := fun b u e => by
        have hne : b ≠ a := fun z => by
          rw [z, g2 a (by simp)] at e
          cases e
        rw [g1 b (decide_eq_true hne)] at e
        exact e
      have JT : Inv X pins σ' (upd H' a (ExT cls d a)) { s' with heap := h4 } := Inv.laidN (s := { s' with heap := G }) (t' := s'.toks) JG kG (g2 a (by simp)) na (exT_ok he4 hz4 hd4)
      have S4 : Inv (X.suite a (X.pn ++ pins)) [] σ' (upd H' a (ExT cls d a)) { s' with heap := h4 } :=
        ⟨JT.ok.suite _ _, JT.os, JT.bare, JT.base, JT.loc, JT.cell, JT.free, JT.freeC, fun p hp => JT.pin p (by rw [List.append_nil] at hp; exact hp), JT.hok, JT.len⟩
      refine store_ok (X := X.suite a (X.pn ++ pins)) (v := .ref a) S4 hN hi hloc rfl (fun s5 S5 => ?_) (.inr hln)
      refine wpAny_mono ((hsu a (X.pn ++ pins)).run [] s5 _ _ _ S5 (hyes rfl a na)) (fun f s6 hsp => ?_) (fun _ _ z => False.elim z)
      have un : ∀ {σ6 : St} {H6 : Hp}, Inv (X.suite a (X.pn ++ pins)) [] σ6 H6 s6 → Inv X pins σ6 H6 s6 := fun {σ6 H6} S6 =>
        ⟨ok, S6.os, S6.bare, S6.base, S6.loc, S6.cell, S6.free, S6.freeC, fun p hp => S6.pin p (List.mem_append_left _ hp), S6.hok, S6.len⟩
      have end_ : ∀ {σ6 : St} {H6 : Hp} {Q : Shared → Prop}, Inv (X.suite a (X.pn ++ pins)) [] σ6 H6 s6 → (∀ s7, Inv X pins (σ6.set i none) H6 s7 → Q s7) →
          wpAny (model X.prog X.w) X.A (do bindName X.env n .none; unbindBehindTheSuite X.env n pos') (fun _ s7 => Q s7) X.xe s6 := fun {σ6 H6 Q} S6 hq => gone_ok (un S6) hN hi hln hq
      cases f with
      | next =>
        obtain ⟨σ6, H6, S6, q6⟩ := hsp
        exact end_ S6 fun s7 J7 => ⟨_, _, J7, q6⟩
      | brk =>
        obtain ⟨σ6, H6, S6, q6⟩ := hsp
        exact end_ S6 fun s7 J7 => ⟨_, _, J7, q6⟩
      | cont =>
        obtain ⟨σ6, H6, S6, q6⟩ := hsp
        exact end_ S6 fun s7 J7 => ⟨_, _, J7, q6⟩
      | ret u =>
        obtain ⟨v6, σ6, H6, S6, r6, q6⟩ := hsp
        exact end_ S6 fun s7 J7 => ⟨_, _, _, J7, r6, q6⟩
    | false =>
      show wpAny _ X.A (handleBy (.ref a) X.env []) _ _ _
      refine wpAny_handleBy_nil ?_
      obtain ⟨k1, k2, k3, oe, vs, T, oT, ts', he, hz, hd, h1, hr⟩ := id fl3
      unfold PySem.passOn
      refine wpAny_bind (wpAny_field he hd h1 ?_)
      rw [if_neg (show ¬ ((Value.ref T == Value.none) = true) from by simp)]
      have fin : wpAny (model X.prog X.w) X.A (setFlight (.ref a) X.env.frame) (fun _ s4 => wpAny (model X.prog X.w) X.A (throw (.ref a) : Sem Flow) (SP X pins D) X.xe s4) X.xe { s' with heap := h3 } := by
        rw [hf]
        refine HandSPX.setFlight_upZ fl3 fun h4 hh4 up4 => wpAny_throw (tk _ _ ?_)
        exact ⟨a, B, sI, pins, σ', H', cls, d, rfl, J, nb, (up.trans up3).trans up4, .inr (.inr (by rw [hs]; exact hh4)), na, os, ag, hno rfl⟩
      first
        | exact wpAny_bind (wpAny_pure (wpAny_bind fin))
        | exact wpAny_bind fin
  · cases f with
    | next =>
      obtain ⟨σ', H', J', q⟩ := hsp
      exact wpAny_execs_nil ⟨σ', H', J'.ofTry ok, q⟩
    | brk =>
      obtain ⟨σ', H', J', q⟩ := hsp
      exact ⟨σ', H', J'.ofTry ok, q⟩
    | cont =>
      obtain ⟨σ', H', J', q⟩ := hsp
      exact ⟨σ', H', J'.ofTry ok, q⟩
    | ret u =>
      obtain ⟨v, σ', H', J', r, q⟩ := hsp
      exact ⟨v, σ', H', J'.ofTry ok, r, q⟩
end
/-- isinstance(e, c), e a caught exception that is kept -/
def rIsX (K : PySem.W.Frag) : List V → Hp → VK → Prop := fun xs H Q => ∃ (a D : Addr) (c : V) (cv : Value) (b : Bool), xs = [.ref a, c] ∧ H a = some (ExT (.ref D) none a) ∧ ExcC K D ∧ (∀ u, RelV c u → u = cv) ∧ PySem.W.kitOne K (.ref D) cv = some b ∧ Q (.bl b) H
theorem call_isX {X : Cx} : CallR X (.builtin "isinstance") (rIsX X.K) := by
  intro pins s σ H xs us Q I r h
  obtain ⟨a, D, c, cv, b, rfl, hT, C, hcv, e, q⟩ := h
  cases r with
  | cons rx rr =>
    cases rr with
    | cons rt rr =>
      cases rr
      cases rx
      have ec := hcv _ rt
      subst ec
      obtain ⟨⟨oe, vs, hget, hz, hv⟩, _⟩ := I.hok a _ hT
      have J : PySem.W.InstAt s.heap a oe D none := by
        obtain ⟨oc, od, oda, osl⟩ := oe
        obtain ⟨h1, h2⟩ := hz
        dsimp only at h1 h2 hv
        subst h1 h2 hv
        exact ⟨hget, rfl, rfl, trivial⟩
      exact PySem.W.kia_one (PySem.W.handS_kitx_exc C.hg C.hk C.hs C.hd C.ha C.hn C.ht C.hm) I.kIn J e (fun z => nomatch z) fun tk => ⟨.bl b, H, I.kept (t' := tk) fun _ _ z => z, rfl, q⟩
end L2
namespace Pr
open PySem L2
/-- what an exception class of the program says -/
structure ExcK (K : Fg) (mg : Str → Option Value) (x : Str) : Prop where
  g : mg x = some (.ref (He.ga K x))
  q : PySem.W.excIn K (He.ga K x) [.type "LookupError", .type "Exception", .type "BaseException", .type "object"] "LookupError.__new__" = true
  k : PySem.W.keepIn K (.ref (He.ga K x)) = true
  s : PySem.W.subIn K (.ref (He.ga K x)) (.type "BaseException") = some true
  t : PySem.W.typeIn K (.ref (He.ga K x)) = some (.type "type")
  c : ExcC K (He.ga K x)
  m : PySem.W.exmOne K (.ref (He.ga K x)) (.ref (He.ga K "SortError")) = some true
  l : PySem.W.kitOne K (.ref (He.ga K x)) (.type "LookupError") = some true
theorem kinds_ok {K : Fg} {is : List Nat} (h : kindsI is K = true) {i : Nat} {x y : Str} (hi : i ∈ is) (hx : kindsL[i]? = some x) (hy : y ∈ kindsL) : PySem.W.kitOne K (.ref (He.ga K x)) (.ref (He.ga K y)) = some (decide (x = y)) := by
  have e := of_decide_eq_true (List.all_eq_true.mp (List.all_eq_true.mp h i hi) y hy)
  rw [List.getD_eq_getElem?_getD, hx] at e
  exact e
theorem excB_ok {K : Fg} {mg : Str → Option Value} {x : Str} (g : mg x = some (.ref (He.ga K x))) (h : excB K x = true) : ExcK K mg x := by
  unfold excB at h
  simp only [Bool.and_eq_true] at h
  obtain ⟨⟨⟨⟨⟨⟨⟨⟨⟨⟨⟨⟨h1, h2⟩, h3⟩, h4⟩, h5⟩, h6⟩, h7⟩, h8⟩, h9⟩, h10⟩, h11⟩, h12⟩, h13⟩ := h
  exact ⟨g, h1, h2, of_decide_eq_true h3, of_decide_eq_true h4, ⟨He.eqO_ok h5, He.eqO_ok h6, of_decide_eq_true h3, h7, He.eqO_ok h8, He.eqO_ok h9, of_decide_eq_true h10, of_decide_eq_true h11⟩, of_decide_eq_true h12, of_decide_eq_true h13⟩
def tRaise (E : XK) (C : Addr) : TS := fun _ _ H => E (.ref C) none H
theorem ps_raiseX {X : Cx} {E : XK} {x m : Str} {j : Nat} {p p2 pos pos' : Pos} (T : ExcK X.K X.mg x) (tk : Takes X (fun cls d _ H => E cls d H)) (hc : X.calm = true := by rfl) (hg : Gl X x := by rfl) (hdb : (x == ("__debug__" : Str)) = false := by decide) :
    PS X (.Raise (some (.Call (.Name x p) [.Constant (.str m) j p2] [] pos)) none pos') (tRaise E (He.ga X.K x)) :=
  ps_raise (W := fun cls d _ H => E cls d H) hc tk (pmk_own PySem.F.excBase_LookupError T.q T.g T.k (raises_own T.s T.t) hg hdb)
theorem sv_raise {K : Fg} {E : XK} {N : En} {G : Sl} {O : Om} {C : Addr} (k : N.ex (.ref C) O) : Sv K E (tRaise E C) N G O := fun D σ H0 H w s n => n.ex _ O H0 H k (Same.refl _) w
section
variable {X : Cx} {k : Nat} {x : Str} {ps : List Str} {sp : Sp} {E : XK} {p pos : Pos} {e : Expr} {es : List Expr} {t : TA}
/-- a call that may let an exception out -/
theorem pe_calX (C : Cal X.prog X.w X.K X.mg X.base x k ps sp) (hr : Room k X.A) (tk : Takes X (fun cls d _ H => E cls d H)) (ha : PA X (e :: es) t) (hg : Gl X x := by rfl) (hdb : (x == ("__debug__" : Str)) = false := by decide)
    (he : starEach (e :: es) X.env = (false, eval e X.env) :: starEach es X.env := by rfl) (hpl : (backTo pos (starEach es X.env)).any (·.1) = false := by rfl) : PE X (.Call (.Name x p) (e :: es) [] pos) (tCall sp [] E t) := by
  obtain ⟨f, fd, hm, kp, F, b, _⟩ := C.ex
  exact pe_call F hr hg hm kp b .nil (passes_call tk fun _ _ _ _ h => h) ha hdb he hpl
theorem pe_calXD (C : CalD X.prog X.w X.K X.mg X.base x k ps sp) (hr : Room k X.A) (tk : Takes X (fun cls d _ H => E cls d H)) (ha : PA X (e :: es) t) (hg : Gl X x := by rfl) (hdb : (x == ("__debug__" : Str)) = false := by decide)
    (he : starEach (e :: es) X.env = (false, eval e X.env) :: starEach es X.env := by rfl) (hpl : (backTo pos (starEach es X.env)).any (·.1) = false := by rfl) : PE X (.Call (.Name x p) (e :: es) [] pos) (tCall sp [] E t) := by
  obtain ⟨f, fd, hm, kp, F, b⟩ := C.ex
  exact pe_call F hr hg hm kp b .nil (passes_call tk fun _ _ _ _ h => h) ha hdb he hpl
theorem pe_calXE {dvs : List V} (C : CalE X.prog X.w X.K X.mg X.base x k ps dvs sp) (hr : Room k X.A) (tk : Takes X (fun cls d _ H => E cls d H)) (ha : PA X (e :: es) t) (hg : Gl X x := by rfl) (hdb : (x == ("__debug__" : Str)) = false := by decide)
    (he : starEach (e :: es) X.env = (false, eval e X.env) :: starEach es X.env := by rfl) (hpl : (backTo pos (starEach es X.env)).any (·.1) = false := by rfl) : PE X (.Call (.Name x p) (e :: es) [] pos) (tCall sp dvs E t) := by
  obtain ⟨f, fd, ds, hm, kp, F, b, r⟩ := C.ex
  exact pe_call F hr hg hm kp b r (passes_call tk fun _ _ _ _ h => h) ha hdb he hpl
/-- a call within a try -/
theorem pe_calS {W : WX} (C : Cal X.prog X.w X.K X.mg X.base x k ps sp) (hr : Room k X.A) (tk : Takes X W) (ha : PA X (e :: es) t) (hg : Gl X x := by rfl) (hdb : (x == ("__debug__" : Str)) = false := by decide)
    (he : starEach (e :: es) X.env = (false, eval e X.env) :: starEach es X.env := by rfl) (hpl : (backTo pos (starEach es X.env)).any (·.1) = false := by rfl) : PE X (.Call (.Name x p) (e :: es) [] pos) (tCallS sp (WE W) t) := by
  obtain ⟨f, fd, hm, kp, F, b, _⟩ := C.ex
  exact pe_callS F hr hg hm kp b (fun σ => passAt tk σ) ha hdb he hpl
end
section
variable {P : Program} {w : World} {K : Fg} {mg : Str → Option Value} {base : Heap} {x qual : Str} {params : Arguments} {body : List Stmt} {scope : Scope} {f : Addr}
/-- a def that may raise -/
theorem cal_ex {N ps : List Str} {k : Nat} {sp : Sp} (hm : mg x = some (.ref f)) (F : ∃ fd, FunD K x qual params body scope [] [] f fd) (S : FnScope N ps scope) (len : ∀ vs H Q E, sp vs H Q E → vs.length = ps.length)
    (h : ∀ (kV doc pm : Value) (an : Option Addr) (cdv ct : Value) (us : List Value), us.length = ps.length → bindArgs (PySem.W.fnOf x qual params body scope .none kV doc pm an cdv ct) ⟨us, []⟩ = pure (ps.zip us))
    (hbody : ∀ (cdv : Value) (A : Around) (outer : List Env) (s : Shared) (H : Hp) (vs : List V) (Q : VK) (E : XK), Room k (A.deeper (PyProof.Rows.envOfC qual scope s.heap.objs.size f cdv)) → sp vs H Q E →
      ∃ t, PSs (cxOf (L2.CX P w) P w K mg base N qual scope f cdv A outer s H E) body t ∧ t { nx := fun _ H' => Q .non H', rt := Q } (L2.start N vs) H) : Cal P w K mg base x (k + 1) ps sp := by
  obtain ⟨fd, F⟩ := F
  refine ⟨f, fd, hm, F.kp, F.ok S len fun cdv A outer s H vs Q E hr hsp => hbody cdv A outer s H vs Q E hr hsp, F.bindsN h, fun s us hl => F.bindsA h s us hl, ?_⟩
  obtain ⟨oc, od, dV, kV, doc, pm, an, cdv, ct, osl, rfl, lk, _⟩ := F.ex
  exact ⟨_, lk, rfl⟩
theorem cal_exD {dvs : List V} {N ps : List Str} {k : Nat} {sp : Sp} (hm : mg x = some (.ref f)) (F : ∃ fd, FunD K x qual params body scope dvs [] f fd) (hd : dvs ≠ []) (S : FnScope N ps scope) (len : ∀ vs H Q E, sp vs H Q E → vs.length = ps.length)
    (h : ∀ (T : Addr) (kV doc pm : Value) (an : Option Addr) (cdv ct : Value) (us its : List Value), us.length = ps.length → its.length = dvs.length → ∃ k, bindArgs (PySem.W.fnOf x qual params body scope (.ref T) kV doc pm an cdv ct) ⟨us, []⟩ = seqItems? (.ref T) >>= k ∧ k (some its.toArray) = pure (ps.zip us))
    (hbody : ∀ (cdv : Value) (A : Around) (outer : List Env) (s : Shared) (H : Hp) (vs : List V) (Q : VK) (E : XK), Room k (A.deeper (PyProof.Rows.envOfC qual scope s.heap.objs.size f cdv)) → sp vs H Q E →
      ∃ t, PSs (cxOf (L2.CX P w) P w K mg base N qual scope f cdv A outer s H E) body t ∧ t { nx := fun _ H' => Q .non H', rt := Q } (L2.start N vs) H) : CalD P w K mg base x (k + 1) ps sp := by
  obtain ⟨fd, F⟩ := F
  obtain ⟨ds, hv, hb⟩ := F.binds1 (ps := ps) ps.length dvs.length hd (by omega) fun T kV doc pm an cdv ct us its hu hi => by
    obtain ⟨k, e1, e2⟩ := h T kV doc pm an cdv ct us its hu hi
    exact ⟨k, e1, by rw [e2, ← hi, List.drop_length, List.append_nil]⟩
  rw [List.drop_length] at hv
  cases hv
  exact ⟨f, fd, hm, F.kp, F.ok S len fun cdv A outer s H vs Q E hr hsp => hbody cdv A outer s H vs Q E hr hsp, hb⟩
theorem cal_exE {dvs : List V} {N ps : List Str} {k : Nat} {sp : Sp} (n j : Nat) (hm : mg x = some (.ref f)) (F : ∃ fd, FunD K x qual params body scope dvs [] f fd) (hd : dvs ≠ []) (hn : n + (dvs.length - j) = ps.length) (S : FnScope N ps scope) (len : ∀ vs H Q E, sp vs H Q E → vs.length = ps.length)
    (h : ∀ (T : Addr) (kV doc pm : Value) (an : Option Addr) (cdv ct : Value) (us its : List Value), us.length = n → its.length = dvs.length → ∃ k, bindArgs (PySem.W.fnOf x qual params body scope (.ref T) kV doc pm an cdv ct) ⟨us, []⟩ = seqItems? (.ref T) >>= k ∧ k (some its.toArray) = pure (ps.zip (us ++ its.drop j)))
    (hbody : ∀ (cdv : Value) (A : Around) (outer : List Env) (s : Shared) (H : Hp) (vs : List V) (Q : VK) (E : XK), Room k (A.deeper (PyProof.Rows.envOfC qual scope s.heap.objs.size f cdv)) → sp vs H Q E →
      ∃ t, PSs (cxOf (L2.CX P w) P w K mg base N qual scope f cdv A outer s H E) body t ∧ t { nx := fun _ H' => Q .non H', rt := Q } (L2.start N vs) H) : CalE P w K mg base x (k + 1) ps (dvs.drop j) sp := by
  obtain ⟨fd, F⟩ := F
  obtain ⟨ds, hv, hb⟩ := F.binds1 (ps := ps) n j hd hn h
  exact ⟨f, fd, ds, hm, F.kp, F.ok S len fun cdv A outer s H vs Q E hr hsp => hbody cdv A outer s H vs Q E hr hsp, hb, hv⟩
end
theorem ev_callXE {K : Fg} {E : XK} {G : Sl} {P : List D → Res → Prop} {t : TA} {ds es : List D} {dvs : List V} {c : Value} (h : EvA K t G ds) (he : ∀ H, Dens K H dvs es) (p : P (ds ++ es) (.exc c)) : EvR K E (tCall (SpR K P) dvs E t) G (.exc c) := fun σ H0 H e s Q q =>
  h σ H0 H e s _ fun vs H1 H1' s1 r1 => ⟨H1, ds ++ es, _, s1.c, r1.append (he H1), p, Res.sat_step (r := .exc c) (E := E) s1 q⟩
/-- try: x_j = f(..) except c as e: x_i = e -/
def tTry (K : Fg) (c : Value) (ie ic j : Nat) (sp : Sp) (t : TA) : TS := fun D σ H => tAsg (tCallS sp (WE (wKeep K c ie (tAsg (tVar ie) (gName ic)) (fun _ _ _ _ => False) D)) t) (gName j) D σ H
section
variable {K : Fg} {E : XK} {N : En} {G : Sl} {O : Om} {c : Value} {ie ic j : Nat} {P : List D → Res → Prop} {t : TA} {ds : List D}
theorem sv_tryV {d : D} (h : EvA K t G ds) (p : P ds (.val d)) (k : N.nx (G.set j (some d)) O) : Sv K E (tTry K c ie ic j (SpR K P) t) N G O := fun D σ H0 H w s n =>
  h σ H0 H w.le s _ fun vs H1 H1' s1 r1 => ⟨H1, ds, .val d, s1.c, r1, p, fun v H2 H2' s2 r2 => n.nx _ O _ H2 H2' k (s1.a.trans s2.a) ((w.step s1).step s2) ((s.up (s1.a.trans s2.a)).put r2)⟩
theorem sv_tryN {es : List D} (h : EvA K t G ds) (p : P ds (.new es)) (k : N.nx (G.set j (some (.lst es))) O) : Sv K E (tTry K c ie ic j (SpR K P) t) N G O := fun D σ H0 H w s n =>
  h σ H0 H w.le s _ fun vs H1 H1' s1 r1 => ⟨H1, ds, .new es, s1.c, r1, p, Res.sat_new (fun v H2 H2' s2 r2 => n.nx _ O _ H2 H2' k (s1.a.trans s2.a) ((w.step s1).step s2) ((s.up (s1.a.trans s2.a)).put r2))⟩
theorem sv_tryX {cls : Value} (h : EvA K t G ds) (p : P ds (.exc cls)) (hm : PySem.W.exmOne K cls c = some true) (hl : ie < G.length) (k : ∀ a, O a = none → N.nx (((G.set ie (some (.ref a))).set ic (some (.ref a))).set ie none) (oput O a (.raw (ExT cls none a)))) : Sv K E (tTry K c ie ic j (SpR K P) t) N G O := fun D σ H0 H w s n =>
  h σ H0 H w.le s _ fun vs H1 H1' s1 r1 => ⟨H1, ds, .exc cls, s1.c, r1, p, fun H2 s2 => by
    have w1 := w.step s1
    have w2 : Wd K H1 H2 O := ⟨w1.le.trans s2, fun p b hp => let ⟨a, o, ho, r⟩ := w1.own p b hp; ⟨a, o, s2 _ _ ho, r⟩⟩
    refine ⟨true, hm, fun _ a ha => ?_, fun z => by cases z⟩
    refine ⟨.ref a, List.getElem?_set_self (by rw [s.len]; exact hl), ?_⟩
    have s2 := ((s.up s1.a).put (j := ie) (Den.ref a)).put (j := ic) (Den.ref a)
    exact n.nx _ _ _ H1 _ (k a (w2.free ha)) s1.a (w2.put (b := .raw (ExT cls none a)) (w2.le.free ha) rfl) s2.drop⟩
/-- isinstance of a kept exception -/
theorem em_isX {a C : Addr} {v : V} {cv : Value} {b : Bool} {i : Nat} {P : D → Om → Prop} (hx : G[i]? = some (some (.ref a))) (hO : O a = some (.raw (ExT (.ref C) none a))) (T : ExcC K C) (hv : ∀ u, RelV v u → u = cv) (hk : PySem.W.kitOne K (.ref C) cv = some b) (k : P (.bl b) O) :
    EvM K (tCB (rIsX K) (tCons (tVar i) (tCons (tC v) tNil))) G O P := fun σ H0 H w s Q q => by
  obtain ⟨x, h1, h2⟩ := s.has i _ hx
  obtain rfl := h2.ref_eq
  obtain ⟨_, o, ho, r⟩ := w.own a _ hO
  have r : o = ExT (.ref C) none a := r
  subst r
  exact ⟨_, h1, a, C, v, cv, b, rfl, ho, T, hv, hk, q (.bl b) (.bl b) H0 H O k (Same.refl _) w (.bl b)⟩
end
/-- xs.index(x) of flat things -/
theorem rm_indexF {K : Fg} {E : XK} {ds : List D} {d e : D} {i : Nat} (h1 : flatD d = true) (h2 : ds.all flatD = true) (hi : ds[i]? = some e) (he : eqV (vOf e) (vOf d) = true) (hlt : ((ds.take i).all fun z => !eqV (vOf z) (vOf d)) = true) : RM K E (rIndex K) (.lst ds) [d] (.val (.int (i : Nat))) := fun H0 H e' v vs r1 r2 Q q => by
  obtain ⟨a, ws, rfl, ha, t⟩ := r1.lst_out
  obtain ⟨u, us, rfl, r3, r4⟩ := r2.cons_out
  obtain rfl := r4.nil_out
  obtain ⟨e1, f1⟩ := flat_den r3 h1
  obtain ⟨e2, f2⟩ := flat_dens t h2
  subst e1 e2
  refine ⟨a, _, _, i, vOf e, rfl, rfl, .inl (.inl (e' _ _ ha)), f1, f2, by rw [List.getElem?_map, hi]; rfl, he, fun m z hm hz => ?_, sat_val e' q (.int _)⟩
  rw [List.getElem?_map] at hz
  cases hx : ds[m]? with
  | none => rw [hx] at hz; cases hz
  | some y =>
    rw [hx] at hz
    obtain rfl := Option.some.inj hz
    have := List.all_eq_true.mp hlt y (List.mem_of_getElem? (i := m) (by rw [List.getElem?_take, if_pos hm]; exact hx))
    simpa using this
theorem isxK {X : Cx} {K : Fg} (h : X.K = K := by rfl) : CallR X (.builtin "isinstance") (rIsX K) := by subst h; exact call_isX
end Pr
namespace L2
open PySem PySem.Spec PyProof.Rows
section
variable {X : Cx}
theorem cr_range1 : CallR X (.type "range") (fun vs H Q => ∃ j, vs = [V.int j] ∧ ∀ p, H p = none → Q (.ref p) (upd H p (.rng 0 j))) := by
  intro pins s σ H vs us Q I r h
  obtain ⟨j, rfl, q⟩ := h
  obtain ⟨u1, rfl, rj⟩ := vals1 r
  obtain ⟨u, rfl⟩ := rj
  refine call_range_1 ⟨.ref s.heap.objs.size, upd H s.heap.objs.size (.rng 0 j), I.laid (t' := s.toks + 2) (fun b o e => Heap.get?_push_of_some _ e) (Nat.le_refl _) ?_, rfl, q _ (I.hok.fresh (Nat.le_refl _))⟩
  exact ⟨_, u, _, Heap.get?_push_size _ rfl⟩
theorem op_notin_rng : OpR X (compareOp .NotIn) (fun x y H Q => ∃ i a lo hi, x = V.int i ∧ y = V.ref a ∧ H a = some (.rng lo hi) ∧ Q (.bl (!decide (lo ≤ i ∧ i < hi))) H) := by
  intro pins s σ H x y v u Q I rx ry h
  obtain ⟨i, a, lo, hi, rfl, rfl, ha, q⟩ := h
  obtain ⟨k, rfl⟩ := rx
  obtain rfl : u = Value.ref a := ry
  obtain ⟨t1, t2, t3, ho⟩ := I.hok a _ ha
  show wpAny _ _ (do return Value.bool (!(← contains (Value.ref a) (Value.int i k)))) _ _ s
  refine wpAny_bind (wpAny_contains_slot (T := "range") ⟨_, ho, rfl⟩ F.slot_range_contains (call_meets F.slot_range_contains ⟨_, ho, rfl⟩ F.entry_range_contains (F.args_range_contains_2 _ _) (q_contains a lo hi i t1 t2 t3 k)
    ⟨ho, wpAny_truthy_bool (wpAny_pure ⟨.bl _, H, I, rfl, ?_⟩)⟩))
  rw [place1]
  exact q
end
end L2
namespace Pr
open PySem L2
abbrev rRg1 : List V → Hp → VK → Prop := fun vs H Q => ∃ j, vs = [V.int j] ∧ ∀ p, H p = none → Q (.ref p) (upd H p (.rng 0 j))
abbrev rRg2 : List V → Hp → VK → Prop := fun vs H Q => ∃ i j, vs = [V.int i, V.int j] ∧ ∀ p, H p = none → Q (.ref p) (upd H p (.rng i j))
abbrev rNiRg : R2 := fun x y H Q => ∃ i a lo hi, x = V.int i ∧ y = V.ref a ∧ H a = some (.rng lo hi) ∧ Q (.bl (!decide (lo ≤ i ∧ i < hi))) H
theorem ev_ni1 {K : Fg} {E : XK} {G : Sl} {ta tb : TE} {i j : Int} (ha : EvR K E ta G (.val (.int i))) (hb : EvR K E0 tb G (.val (.int j))) : EvR K E (tOp rNiRg ta (tCB rRg1 (tCons tb tNil))) G (.val (.bl (!decide (0 ≤ i ∧ i < j)))) := fun σ H0 H e s Q q =>
  ha σ H0 H e s _ fun x H1 H1' s1 r1 => hb σ H1 H1' s1.c (s.up s1.a) _ fun y H2 H2' s2 r2 => ⟨j, by rw [r2.int_eq], fun p hp => by
    refine ⟨i, p, 0, j, (r1.up s2.a).int_eq, rfl, upd_same, ?_⟩
    exact q (.bl _) H2 _ ((s1.trans s2).trans (Stp.own s2.c hp)) (.bl _)⟩
theorem ev_ni2 {K : Fg} {E : XK} {G : Sl} {ta tb tc : TE} {i l j : Int} (ha : EvR K E ta G (.val (.int i))) (hb : EvR K E0 tb G (.val (.int l))) (hc : EvR K E0 tc G (.val (.int j))) : EvR K E (tOp rNiRg ta (tCB rRg2 (tCons tb (tCons tc tNil)))) G (.val (.bl (!decide (l ≤ i ∧ i < j)))) := fun σ H0 H e s Q q =>
  ha σ H0 H e s _ fun x H1 H1' s1 r1 => hb σ H1 H1' s1.c (s.up s1.a) _ fun y H2 H2' s2 r2 => hc σ H2 H2' s2.c ((s.up s1.a).up s2.a) _ fun z H3 H3' s3 r3 => ⟨l, j, by rw [(r2.up s3.a).int_eq, r3.int_eq], fun p hp => by
    refine ⟨i, p, l, j, ((r1.up s2.a).up s3.a).int_eq, rfl, upd_same, ?_⟩
    exact q (.bl _) H3 _ (((s1.trans s2).trans s3).trans (Stp.own s3.c hp)) (.bl _)⟩
/-- a block whose first statement goes no further -/
def tStop (t : TS) : TS := fun D σ H => t { D with nx := fun _ _ => False } σ H
theorem pss_stop {X : Cx} {s : Stmt} {rest : List Stmt} {t : TS} (h : PS X s t) : PSs X (s :: rest) (tStop t) := by
  refine ⟨fun pins s1 σ H D I q => ?_⟩
  refine wpAny_execs_cons (wpAny_mono (h.run pins s1 σ H _ I q) (fun f s2 r => ?_) fun _ _ z => z)
  cases f with
  | next =>
    obtain ⟨_, _, _, z⟩ := r
    exact z.elim
  | ret v => exact r
  | brk => exact r
  | cont => exact r
theorem sv_stop {K : Fg} {E : XK} {ts : TS} {N : En} {G : Sl} {O : Om} (h : Sv K E ts { N with nx := fun _ _ => False } G O) : Sv K E (tStop ts) N G O := fun D σ H0 H w s n =>
  h { D with nx := fun _ _ => False } σ H0 H w s ⟨fun _ _ _ _ _ z => z.elim, n.rt, n.bk, n.ct, n.ex, n.ey⟩
theorem tg_tup4 {K : Fg} {G : Sl} {i j l m : Nat} {a b c e : D} : TgD K (gTup K 4 (gCons (gName i) (gCons (gName j) (gCons (gName l) (gCons (gName m) gNil))))) (.tup [a, b, c, e]) G ((((G.set i (some a)).set j (some b)).set l (some c)).set m (some e)) [i, j, l, m] := fun v σ H0 H e s r Q q => by
  obtain ⟨p, vs, rfl, hp, t⟩ := r.tup_out
  obtain ⟨x, ws, rfl, rx, t⟩ := t.cons_out
  obtain ⟨y, ws, rfl, ry, t⟩ := t.cons_out
  obtain ⟨z, ws, rfl, rz, t⟩ := t.cons_out
  obtain ⟨u, ws, rfl, ru, t⟩ := t.cons_out
  obtain rfl := t.nil_out
  refine ⟨p, _, rfl, .inl (.inl (e _ _ hp)), rfl, x, [y, z, u], rfl, y, [z, u], rfl, z, [u], rfl, u, [], rfl, rfl, ?_⟩
  refine q _ ((((s.put rx).put ry).put rz).put ru) (by rw [List.length_set, List.length_set, List.length_set, List.length_set]) fun k hk => ?_
  have h1 : j ≠ k := fun e => hk (by rw [e]; simp)
  have h2 : i ≠ k := fun e => hk (by rw [e]; simp)
  have h3 : l ≠ k := fun e => hk (by rw [e]; simp)
  have h4 : m ≠ k := fun e => hk (by rw [e]; simp)
  rw [List.getElem?_set_ne h4, List.getElem?_set_ne h3, List.getElem?_set_ne h1, List.getElem?_set_ne h2]
end Pr
namespace L2
open PySem PySem.Spec PyProof.Rows
def rgC (i c : Int) (n : Nat) : List V := (List.range n).map fun k => V.int (i + (k : Nat) * c)
theorem vals_rgC {a c : Int} {n : Nat} {acc : Array Value} (h : ItemsOf (fun i v => ∃ t, v = .int (a + i * c) t) acc n) : Vals (rgC a c n) acc.toList := by
  have e : acc.toList.length = n := by rw [Array.length_toList]; exact h.1
  unfold rgC
  rw [← e]
  refine vals_of_get acc.toList _ fun j u hj => ?_
  obtain ⟨t, rfl⟩ := h.2 j u (by rw [← hj, Array.getElem?_toList])
  exact ⟨t, rfl⟩
def tLstC (ta : TA) : TE := fun σ H Q => ta σ H fun vs H1 => ∃ (i j c : Int) (n : Nat), vs = [.int i, .int j, .int c] ∧ RgC i j c n ∧ n ≤ 2 ^ 24 ∧ ∀ q, H1 q = none → Q (.ref q) (upd H1 q (.lst (rgC i c n)))
/-- list(range(a, b, c)) -/
theorem pe_listC {X : Cx} {a b c : Expr} {ta : TA} {p pos p2 pos2 : Pos} (hc : X.calm = true) (hg : Gl X "list") (hm : X.mg "list" = none) (hg2 : Gl X "range") (hm2 : X.mg "range" = none) (ha : PA X [a, b, c] ta)
    (hs : starEach [a, b, c] X.env = (false, eval a X.env) :: starEach [b, c] X.env := by rfl) (hpl : (backTo pos2 (starEach [b, c] X.env)).any (·.1) = false := by rfl)
    (na : starEach [.Call (.Name "range" p2) [a, b, c] [] pos2] X.env = (false, eval (.Call (.Name "range" p2) [a, b, c] [] pos2) X.env) :: starEach [] X.env := by rfl) :
    PE X (.Call (.Name "list" p) [.Call (.Name "range" p2) [a, b, c] [] pos2] [] pos) (tLstC ta) := by
  refine ⟨fun pins s σ H Q I h => ?_⟩
  refine Call_ (ld_blt I hg hm boot_list (PyProof.Rows.callWith_type1 (args_cons (Call_ (ld_blt I hg2 hm2 boot_range (PyProof.Rows.callWith_type1 (thn (ha.run pos2 pins s σ H _ I h) fun us s1 ⟨vs, H1, I1, r1, q1⟩ => ?_) hs hpl))) na) na))
  obtain ⟨i, j, k, n, e, ⟨c0, c1, c2, c3⟩, hn, q⟩ := q1
  subst e
  cases r1 with
  | cons r rr =>
    cases rr with
    | cons r' rr =>
      cases rr with
      | cons r'' rr =>
        cases rr
        obtain ⟨t, rfl⟩ := r
        obtain ⟨t', rfl⟩ := r'
        obtain ⟨t'', rfl⟩ := r''
        refine call_range_3 c0 ?_ (.inl (PyProof.noPylong_small c1))
        refine args_nil ?_
        have I2 : Inv X pins σ H1 { s1 with heap := s1.heap.push { cls := .type "range", data := .fields #[.int i t, .int j t', .int k t''] } } := I1.kept (t' := s1.toks) fun b o e => Heap.get?_push_of_some _ e
        refine call_list_range (n := n) (I2.ok.hd hc) (IsRange.new _ _ _ _ _ _ _) c2 c3 hn fun h' tk acc c' hk e' hi => ?_
        refine ⟨.ref _, upd H1 _ (.lst (rgC i k n)), I2.laid hk (Nat.le_refl _) (show ObjOk X.prog X.w _ _ _ (.lst (rgC i k n)) from ⟨?_, acc.toList, c', vals_rgC hi, ?_⟩), rfl, q _ (I2.hok.fresh (Nat.le_refl _))⟩
        · unfold rgC
          rw [List.length_map, List.length_range, sizeLine_eq]; omega
        · rw [Array.toArray_toList]; exact e'
end L2
namespace Pr
open PySem L2
/-- list(range(a, b, -1)) -/
theorem ev_lstDown {K : Fg} {E : XK} {G : Sl} {ta : TA} {i j : Int} (h : EvA K ta G [.int i, .int j, .int (-1)]) (h0 : 0 ≤ i) (h1 : i ≤ 100000) (h2 : -1 ≤ j) (h3 : j ≤ 100000) : EvR K E (tLstC ta) G (.new (iL ((List.range (i - j).toNat).map fun k : Nat => i - (k : Int)))) := fun σ H0 H e s Q q =>
  h σ H0 H e s _ fun vs H1 H1' s1 r1 => by
    obtain ⟨v, ws, rfl, a, b⟩ := r1.cons_out
    obtain ⟨v', ws, rfl, a', b⟩ := b.cons_out
    obtain ⟨v'', ws, rfl, a'', b⟩ := b.cons_out
    obtain rfl := b.nil_out
    refine ⟨i, j, -1, _, by rw [a.int_eq, a'.int_eq, a''.int_eq], RgC.neg (by omega) (by omega) (by omega) (by omega), by omega, fun p hp => ?_⟩
    refine q p _ H1 _ (s1.trans (Stp.own s1.c hp)) (s1.b.free hp) (s1.c.free hp) upd_same ?_
    have e : rgC i (-1) (i - j).toNat = ((List.range (i - j).toNat).map fun k : Nat => i - (k : Int)).map V.int := by
      unfold rgC
      rw [List.map_map]
      refine List.map_congr_left fun k _ => ?_
      show V.int (i + (k : Int) * -1) = V.int (i - (k : Int))
      congr 1
      omega
    rw [e]
    exact Dens.of_ints _
theorem ev_argX {K : Fg} {E E' : XK} {G : Sl} {sp : Sp} {te : TE} {ts : TA} {dvs : List V} {c : Value} (h : EvR K E te G (.exc c)) : EvR K E (tCall sp dvs E' (tCons te ts)) G (.exc c) := fun σ H0 H e s Q q => h σ H0 H e s _ q
end Pr
/-! Part V: more rules. -/
namespace L2
open PySem PySem.Spec PyProof.Rows PySem.SeqAt PySem.MeetsSeq
theorem tuple_neFirst (l b : Addr) (y0 x0 : Value) (ys xs : List Value) (n n2 : Nat) (dd dd2 : Option Addr) (sl sl2 : Array (Option Value)) :
    Meets (Builtin.«tuple.__ne__» ⟨[.ref l, .ref b], []⟩)
      (fun A R s => s.heap.get? l = some { cls := .type "tuple", dict := dd, data := .seq (y0 :: ys).toArray n, slots := sl } ∧ s.heap.get? b = some { cls := .type "tuple", dict := dd2, data := .seq (x0 :: xs).toArray n2, slots := sl2 } ∧
        EqAt A.in1 s y0 x0 false ∧ R (.ok (.ret (.bool true))) s) :=
  .of_wp fun prog w A R s h => by
    obtain ⟨hp, g, d, tk, os⟩ := s; obtain ⟨hl, hb, he, h⟩ := h
    have f2 := AutoSeq1.sub_tuple_tuple
    wp_walk using wpAny_loadPart' hl, wpAny_loadPart' hb, wpAny_forIn_list _ (fun rest b s' => b.1 = none ∧ s' = ⟨hp, g, d, tk, os⟩ ∧ rest = (y0 :: ys).zip (x0 :: xs)) _
    case turn =>
      rintro ⟨y, x⟩ rest b s' ⟨hb', rfl, hz⟩
      injection hz with hyx hrest
      injection hyx with hy hx
      subst hy hx
      refine wpAny_bind (he prog w _ _ ?_)
      wp_walk
      exact ⟨_, rfl, h⟩
    case fin =>
      rintro ⟨b1, b2⟩ s' ⟨hb', rfl, hz⟩
      cases hz
    case h =>
      exact ⟨rfl, rfl, rfl⟩
theorem rcNe_first {A : Around} {s : Shared} {l b : Addr} {y0 x0 : Value} {ys xs : List Value} (hl : s.heap.IsTuple l (y0 :: ys).toArray) (hb : s.heap.IsTuple b (x0 :: xs).toArray) (hu : A.units < cLine)
    (he : EqAt A.in1 s y0 x0 false) : RcNeAt A s (.ref l) (.ref b) true := fun prog w E Q h => by
  obtain ⟨⟨cls, dd, data, sl⟩, ho, hc, n, hd⟩ := id hl
  obtain ⟨⟨cls2, dd2, data2, sl2⟩, ho2, hc2, n2, hd2⟩ := id hb
  simp only at hc hd hc2 hd2
  subst hc hd hc2 hd2
  exact richCompare_meets_room (op := .NotEq) ⟨_, ho, rfl⟩ ⟨_, ho2, rfl⟩ F.slot_tuple_ne F.entry_tuple_ne (F.args_tuple_ne_2 _ _) (tuple_neFirst l b y0 x0 ys xs n n2 dd dd2 sl sl2)
    ⟨ho, ho2, he, show Value.bool true ≠ Value.notImplemented ∧ Q (.bool true) s from ⟨(fun x => nomatch x), h⟩⟩ hu
def rNeF (K : PySem.W.Frag) : R2 := fun x y H Q => rNeD K x y H Q ∨ ∃ a b s t xs ys, x = .ref a ∧ y = .ref b ∧ SqT K H a (.str s :: xs) ∧ SqT K H b (.str t :: ys) ∧ s ≠ t ∧ Q (.bl true) H
theorem neFK {X : Cx} {K : PySem.W.Frag} (hu : X.A.units + 64 < cLine) (h : X.K = K := by rfl) : OpR X (compareOp .NotEq) (rNeF K) := by
  subst h
  intro pins s σ H x y v u Q I rx ry h
  rcases h with h | ⟨a, b, s1, t1, xs, ys, rfl, rfl, ha, hb, hst, q⟩
  · exact op_neD hu pins s σ H x y v u Q I rx ry h
  · cases rx
    cases ry
    obtain ⟨its, r, e, z⟩ := I.tuple ha
    obtain ⟨its2, r2, e2, z2⟩ := I.tuple hb
    cases r with
    | cons ra rr =>
      cases r2 with
      | cons rb rr2 =>
        obtain ⟨t, rfl⟩ := ra
        obtain ⟨t', rfl⟩ := rb
        refine rcNe_first e e2 (by omega) ?_ _ _ _ _ ⟨.bl true, H, I, rfl, q⟩
        have := EqAt.str_str (A := X.A.in1) (s := s) s1 t t1 t'
        rw [show (s1 == t1) = false from beq_false_of_ne hst] at this
        exact this
end L2
namespace Pr
open PySem L2
theorem rd_neFD {K : Fg} {E : XK} {d1 d2 : D} {n m : Nat} (p : Pl n d1) (q : Pl m d2) (hn : n ≤ 64 := by decide) (hm : m ≤ 64 := by decide) : RD K E (rNeF K) d1 d2 (.val (.bl (!deq d1 d2))) := fun H0 H e x y r1 r2 Q k =>
  .inl (rd_neD (K := K) (E := E) p q hn hm H0 H e x y r1 r2 Q k)
theorem rd_neF1 {K : Fg} {E : XK} {s t : Str} {xs ys : List D} (h : s ≠ t) : RD K E (rNeF K) (.tup (.str s :: xs)) (.tup (.str t :: ys)) (.val (.bl true)) := fun H0 H e x y r1 r2 Q k => by
  obtain ⟨a, vs, rfl, ha, ta⟩ := r1.tup_out
  obtain ⟨b, ws, rfl, hb, tb⟩ := r2.tup_out
  obtain ⟨v, vs, rfl, rv, ta⟩ := ta.cons_out
  obtain ⟨w, ws, rfl, rw', tb⟩ := tb.cons_out
  obtain rfl := rv.str_eq
  obtain rfl := rw'.str_eq
  exact .inr ⟨a, b, s, t, vs, ws, rfl, rfl, .inl (.inl (e _ _ ha)), .inl (.inl (e _ _ hb)), h, sat_val e k (.bl _)⟩
end Pr
/-! Part W: own dicts with scalar values. -/
namespace Pr
open PySem L2
section
variable {K : Fg} {E : XK} {G : Sl} {O : Om} {N : En} {td ty tx tv : TE} {P : D → Om → Prop}
abbrev kI (ws : List Int) : List Key := ws.map Sum.inl
theorem kI_kV (ws : List Int) : (kI ws).map kV = ws.map V.int := by
  unfold kI
  rw [List.map_map]
  rfl
theorem kI_inj {a b : List Int} : kI a = kI b ↔ a = b := by
  constructor
  · intro h
    induction a generalizing b with
    | nil => cases b with
      | nil => rfl
      | cons y b => cases h
    | cons x a ih => cases b with
      | nil => cases h
      | cons y b =>
        injection h with h1 h2
        injection h1 with h1
        rw [h1, ih h2]
  · exact fun h => by rw [h]
theorem em_dnewT (k : ∀ p, O p = none → P (.ref p) (oput O p (.raw (.dT [])))) : EvM K tDNewT G O P := fun σ H0 H w s Q q p hp =>
  q (.ref p) (.ref p) H0 _ _ (k p (w.free hp)) (Same.refl _) (w.put (b := .raw (.dT [])) (w.le.free hp) rfl) (.ref p)
theorem em_dnewK (k : ∀ p, O p = none → P (.ref p) (oput O p (.raw (.dK [])))) : EvM K tDNewK G O P := fun σ H0 H w s Q q p hp =>
  q (.ref p) (.ref p) H0 _ _ (k p (w.free hp)) (Same.refl _) (w.put (b := .raw (.dK [])) (w.le.free hp) rfl) (.ref p)
theorem own_raw {H0 H : Hp} {p : Addr} {o : HO} (w : Wd K H0 H O) (h : O p = some (.raw o)) : H0 p = none ∧ H p = some o := by
  obtain ⟨h0, o', ho, r⟩ := w.own p _ h
  have r : o' = o := r
  subst r
  exact ⟨h0, ho⟩
/-- the key at an address -/
theorem key_at {H0 H : Hp} {v : V} {ws : List Int} (e : Same H0 H) (r : Den K H0 v (.tup (iL ws))) : ∃ b, v = .ref b ∧ H b = some (.tup ((kI ws).map kV)) := by
  obtain ⟨b, vs, rfl, hb, t⟩ := r.tup_out
  obtain rfl := t.ints_eq
  exact ⟨b, rfl, by rw [kI_kV]; exact e _ _ hb⟩
theorem em_dget2T (h : EvM K td G O fun d O1 => ∃ p kvs, d = .ref p ∧ O1 p = some (.raw (.dT kvs)) ∧ EvM K ty G O1 fun y O2 => EvM K tx G O2 fun z O3 => ∃ kvs ws i j, y = .tup (iL ws) ∧ z = .int j ∧ O3 p = some (.raw (.dT kvs)) ∧ (valV kvs (kI ws)).getD (.int j) = .int i ∧ P (.int i) O3) : EvM K (tDGet2 td ty tx) G O P := fun σ H0 H w s Q q =>
  h σ H0 H w s _ fun x d H1 H1' O1 ⟨p, kvs0, e, hp, k1⟩ s1 w1 r1 => by
    subst e
    obtain rfl := r1.ref_eq
    refine ⟨p, rfl, .inr ⟨kvs0, .inl (own_raw w1 hp).2⟩, k1 σ H1 H1' w1 (s.up s1) _ fun y dy H2 H2' O2 k2 s2 w2 r2 => k2 σ H2 H2' w2 (s.up (s1.trans s2)) _ fun z dz H3 H3' O3 ⟨kvs, ws, i, j, ey, ez, hp3, hv, k3⟩ s3 w3 r3 => ?_⟩
    subst ey ez
    obtain ⟨b, rfl, hb⟩ := key_at w3.le (r2.up s3)
    obtain rfl := r3.int_eq
    refine ⟨_, DGet.t (own_raw w3 hp3).2 hb, ?_⟩
    rw [hv]
    exact q (.int i) (.int i) H3 H3' O3 k3 ((s1.trans s2).trans s3) w3 (.int i)
theorem em_dgetT (h : EvM K td G O fun d O1 => ∃ p, d = .ref p ∧ EvM K ty G O1 fun y O2 => ∃ kvs ws i, y = .tup (iL ws) ∧ O2 p = some (.raw (.dT kvs)) ∧ valV kvs (kI ws) = some (.int i) ∧ P (.int i) O2) : EvM K (tDGet td ty) G O P := fun σ H0 H w s Q q =>
  h σ H0 H w s _ fun x d H1 H1' O1 ⟨p, e, k1⟩ s1 w1 r1 => by
    subst e
    obtain rfl := r1.ref_eq
    refine k1 σ H1 H1' w1 (s.up s1) _ fun y dy H2 H2' O2 ⟨kvs, ws, i, ey, hp, hv, k2⟩ s2 w2 r2 => ?_
    subst ey
    obtain ⟨b, rfl, hb⟩ := key_at w2.le r2
    refine ⟨p, .int i, rfl, ?_, q (.int i) (.int i) H2 H2' O2 k2 (s1.trans s2) w2 (.int i)⟩
    rw [← hv]
    exact DGet.t (own_raw w2 hp).2 hb
theorem sv_dputT {hs : Unit} (h : EvM K tv G O fun v O1 => EvM K td G O1 fun d O2 => ∃ p, d = .ref p ∧ EvM K ty G O2 fun y O3 => ∃ kvs ws i, v = .int i ∧ y = .tup (iL ws) ∧ O3 p = some (.raw (.dT kvs)) ∧ kvs.length < 100000 ∧ N.nx G (oput O3 p (.raw (.dT (putK kvs (kI ws) (.int i)))))) : Sv K E (sDPut td ty tv) N G O := fun De σ H0 H w s n =>
  h σ H0 H w s _ fun v dv H1 H1' O1 k1 s1 w1 r1 => k1 σ H1 H1' w1 (s.up s1) _ fun x d H2 H2' O2 ⟨p, e, k2⟩ s2 w2 r2 => by
    subst e
    obtain rfl := r2.ref_eq
    refine k2 σ H2 H2' w2 (s.up (s1.trans s2)) _ fun y dy H3 H3' O3 ⟨kvs, ws, i, ev, ey, hp, hl, k3⟩ s3 w3 r3 => ?_
    subst ev ey
    obtain rfl := r1.int_eq
    obtain ⟨b, rfl, hb⟩ := key_at w3.le r3
    obtain ⟨h0, hh⟩ := own_raw w3 hp
    refine ⟨p, _, rfl, DPut.t hh hb (Nat.lt_of_lt_of_le hl (by decide)), ?_⟩
    exact n.nx G _ σ H3 _ k3 ((s1.trans s2).trans s3) (w3.put (b := .raw (.dT (putK kvs (kI ws) (.int i)))) h0 rfl) (s.up ((s1.trans s2).trans s3))
theorem hu1 {n c : Nat} (h : n + 64 < c) : n + 1 < c := by omega
theorem put_len {κ : Type} [DecidableEq κ] (kvs : List (κ × V)) (k : κ) (v : V) : (putK kvs k v).length ≤ kvs.length + 1 := by
  unfold putK
  split
  · rw [List.length_map]; omega
  · rw [List.length_append, List.length_singleton]; exact Nat.le_refl _
end
end Pr
/-! Part U: max(xs, default=d); set(xs) of a list of ints, sorted of it. -/
namespace PySem
open PySem.Spec
section
variable {prog : Program} {w : World} {A : Around} {E : Value → Shared → Prop} {s : Shared} {R : Result → Shared → Prop} {I S : Addr} {fp wr : List Addr} {n : Nat} {P : Nat → Value → Prop} {St : Nat → Heap → Prop} {d : Value}
abbrev kwD (d : Value) : List (Str × Value) := [("default", d)]
abbrev lObj (xs : Array Value) (c : Nat) : Obj := { cls := .type "list", dict := none, data := .seq xs c, slots := #[] }
theorem mxName : (toString "max" ++ toString ".loop" : String) = "max.loop" := by decide
theorem maxD_go (W : Walks prog w A.in1 I fp wr n P St) (bt : Nat → Nat → Bool) (hcmp : CmpOf prog w A.in1 .Gt P bt) (hSf : S ∉ fp) : ∀ (k j : Nat) (s : Shared) (vb : Value) (c : Nat), n - (j + 1) = k → j + 1 ≤ n → St (j + 1) s.heap → P (argBest bt j) vb → s.heap.get? S = some (lObj #[vb, vb] c) →
    (∀ v h' tk, P (argBest bt (n - 1)) v → (∀ b o, b ∉ wr → b ≠ S → s.heap.get? b = some o → h'.get? b = some o) → R (.ok (.ret v)) { s with heap := h', toks := tk }) → codeAny (model prog w) A (.builtin "max.loop" ⟨[.ref I, .none, .ref S], kwD d⟩) R s := by
  have hw : S ∉ wr := fun z => hSf (W.sub _ z)
  intro k
  induction k with
  | zero =>
    intro j s vb c e1 e2 st pb hS hR
    have en : j + 1 = n := by omega
    refine codeAny_builtin F.entry_max_loop ?_; rw [Around.under_plainId F.plain_max_loop _]
    show wpAny _ A.in1 (seqItems? (.ref S) >>= _) _ _ _; refine wpAny_bind (wpAny_seqItems hS rfl ?_)
    show wpAny _ A.in1 (tryCatch (pyNext (.ref I)) _ >>= _) _ _ _; refine wpAny_bind (wpAny_tryCatch (W.done s _ _ (en ▸ st) fun h1 t1 k1 => ?_))
    have hS1 := k1 S _ hw hS
    show wpAny _ A.in1 (updateSeq S (fun _ => #[]) >>= _) _ _ _; refine wpAny_bind (wpAny_updateSeq hS1 rfl (wpAny_bind (wpAny_letGo (wpAny_pure ?_))))
    exact hR vb _ t1 (by rw [← en]; exact pb) fun b o b1 b2 e => (Heap.get?_update_other _ _ (Ne.symm b2)).trans (k1 b o b1 e)
  | succ k ih =>
    intro j s vb c e1 e2 st pb hS hR
    have lt : j + 1 < n := by omega
    refine codeAny_builtin F.entry_max_loop ?_; rw [Around.under_plainId F.plain_max_loop _]
    show wpAny _ A.in1 (seqItems? (.ref S) >>= _) _ _ _; refine wpAny_bind (wpAny_seqItems hS rfl ?_)
    show wpAny _ A.in1 (tryCatch (pyNext (.ref I)) _ >>= _) _ _ _; refine wpAny_bind (wpAny_tryCatch (W.item (j + 1) s _ _ lt st fun v h1 t1 pv st1 k1 => ?_))
    have hS1 := k1 S _ hw hS
    show wpAny _ A.in1 (tryCatch (holding [v, v] (richCompare .Gt v vb >>= _)) _ >>= _) _ _ _; refine wpAny_bind (wpAny_tryCatch (wpAny_holding (wpAny_bind (hcmp (j + 1) (argBest bt j) v vb _ _ _ pv pb ?_))))
    refine wpAny_bind (wpAny_holding (wpAny_truthy_bool ?_)); refine wpAny_bind (wpAny_letGo (wpAny_pure ?_))
    cases hb : bt (j + 1) (argBest bt j) with
    | true =>
      simp only [if_true]
      refine wpAny_bind (wpAny_updateSeq hS1 rfl (wpAny_bind (wpAny_letGo ?_))); rw [mxName]
      refine wpAny_pure ⟨plainId_quiet F.plain_max_loop _, ih (j + 1) _ v _ (by omega) lt (W.frame _ _ _ st1 fun b hbf o e => ?_) (by simp only [argBest, hb, if_true]; exact pv) (Heap.get?_update_self _ hS1 rfl) fun v2 h2 t2 p2 k2 => ?_⟩
      · exact (Heap.get?_update_other _ _ (fun z : S = b => hSf (by rw [z]; exact hbf))).trans e
      · exact hR v2 h2 t2 p2 fun b o b1 b2 e => k2 b o b1 b2 ((Heap.get?_update_other _ _ (Ne.symm b2)).trans (k1 b o b1 e))
    | false =>
      simp only [Bool.false_eq_true, if_false]
      refine wpAny_bind (wpAny_letGo ?_); rw [mxName]
      refine wpAny_pure ⟨plainId_quiet F.plain_max_loop _, ih (j + 1) _ vb c (by omega) lt st1 (by simp only [argBest, hb, Bool.false_eq_true, if_false]; exact pb) hS1 fun v2 h2 t2 p2 k2 => ?_⟩
      exact hR v2 h2 t2 p2 fun b o b1 b2 e => k2 b o b1 b2 (k1 b o b1 e)
theorem maxD_first (W : Walks prog w A.in1 I fp wr n P St) (bt : Nat → Nat → Bool) (hcmp : CmpOf prog w A.in1 .Gt P bt) (hSf : S ∉ fp) (hn : 0 < n) {c : Nat} (st : St 0 s.heap) (hS : s.heap.get? S = some (lObj #[] c))
    (hR : ∀ v h' tk, P (argBest bt (n - 1)) v → (∀ b o, b ∉ wr → b ≠ S → s.heap.get? b = some o → h'.get? b = some o) → R (.ok (.ret v)) { s with heap := h', toks := tk }) : codeAny (model prog w) A (.builtin "max.loop" ⟨[.ref I, .none, .ref S], kwD d⟩) R s := by
  have hw : S ∉ wr := fun z => hSf (W.sub _ z)
  refine codeAny_builtin F.entry_max_loop ?_; rw [Around.under_plainId F.plain_max_loop _]
  show wpAny _ A.in1 (seqItems? (.ref S) >>= _) _ _ _; refine wpAny_bind (wpAny_seqItems hS rfl ?_)
  show wpAny _ A.in1 (tryCatch (pyNext (.ref I)) _ >>= _) _ _ _; refine wpAny_bind (wpAny_tryCatch (W.item 0 s _ _ hn st fun v h1 t1 pv st1 k1 => ?_))
  have hS1 := k1 S _ hw hS
  show wpAny _ A.in1 (updateSeq S (fun _ => #[v, v]) >>= _) _ _ _; refine wpAny_bind (wpAny_updateSeq hS1 rfl ?_); rw [mxName]
  refine wpAny_pure ⟨plainId_quiet F.plain_max_loop _, maxD_go W bt hcmp hSf _ 0 _ v _ rfl hn (W.frame _ _ _ st1 fun b hbf o e => ?_) pv (Heap.get?_update_self _ hS1 rfl) fun v2 h2 t2 p2 k2 => ?_⟩
  · exact (Heap.get?_update_other _ _ (fun z : S = b => hSf (by rw [z]; exact hbf))).trans e
  · exact hR v2 h2 t2 p2 fun b o b1 b2 e => k2 b o b1 b2 ((Heap.get?_update_other _ _ (Ne.symm b2)).trans (k1 b o b1 e))
theorem maxD_none (W : Walks prog w A.in1 I fp wr 0 P St) (hSf : S ∉ fp) {c : Nat} (st : St 0 s.heap) (hS : s.heap.get? S = some (lObj #[] c))
    (hR : ∀ h' tk, (∀ b o, b ∉ wr → b ≠ S → s.heap.get? b = some o → h'.get? b = some o) → R (.ok (.ret d)) { s with heap := h', toks := tk }) : codeAny (model prog w) A (.builtin "max.loop" ⟨[.ref I, .none, .ref S], kwD d⟩) R s := by
  refine codeAny_builtin F.entry_max_loop ?_; rw [Around.under_plainId F.plain_max_loop _]
  show wpAny _ A.in1 (seqItems? (.ref S) >>= _) _ _ _; refine wpAny_bind (wpAny_seqItems hS rfl ?_)
  show wpAny _ A.in1 (tryCatch (pyNext (.ref I)) _ >>= _) _ _ _; refine wpAny_bind (wpAny_tryCatch (W.done s _ _ st fun h1 t1 k1 => ?_))
  refine wpAny_bind (wpAny_rule (wpAny_pure (hR h1 t1 fun b o b1 _ e => k1 b o b1 e)))
theorem argsD_max (a d : Value) : argsOk "max" ⟨[a], kwD d⟩ := by unfold argsOk; kernel_rfl
theorem call_treeK {id : String} {b : Builtin} {args : List Value} {kw : List (Str × Value)} {Q : Value → Shared → Prop} (hk : builtinKind id = none) (hp : plainId id = true) (hb : entryFor table id = some b) (ha : argsOk id ⟨args, kw⟩)
    (hc : wpAny (model prog w) A.in1 (b ⟨args, kw⟩) (fun fin s' => match fin with
      | .done f => (match (Except.ok f : Result) with | .ok (.ret v) => Q v s' | .ok _ => False | .error e => E e s') | .again c' => c'.quiet = true ∧ codeAny (model prog w) A c' (fun r s' => match r with | .ok (.ret v) => Q v s' | .ok _ => False | .error e => E e s') s') E s) : wpAny (model prog w) A (call (.builtin id) args kw) Q E s := by
  refine wpAny_call (codeAny_call_builtin hp hb ?_)
  simp only [checkBuiltinCall, hk]
  cases hsig : Manifest.signature? id with
  | none => exact wpAny_pure hc
  | some sig =>
    have z : Bind.checkArgs id sig ⟨args, kw⟩ = pure () := by simpa only [argsOk, hsig] using ha
    simp only [z]
    exact wpAny_pure hc
/-- max(xs, default=d), ints -/
theorem call_maxD {l : Addr} {its : Array Value} {ns : List Int} {Q : Value → Shared → Prop} (hh : A.handled = none) (hl : s.heap.IsList l its) (hi : PyProof.Rows.IntsAre its.toList ns)
    (h1 : ns.length = 0 → ∀ h' tk, (∀ b o, s.heap.get? b = some o → h'.get? b = some o) → Q d { s with heap := h', toks := tk })
    (h2 : 0 < ns.length → ∀ h' tk M t', (∀ b o, s.heap.get? b = some o → h'.get? b = some o) → M ∈ ns → (∀ a, a ∈ ns → a ≤ M) → Q (.int M t') { s with heap := h', toks := tk }) : wpAny (model prog w) A (call (.builtin "max") [.ref l] (kwD d)) Q E s := by
  have hsz : its.size = ns.length := by
    have q := PyProof.Rows.IntsAre.length hi
    rw [Array.length_toList] at q
    exact q
  have hval : ∀ (i : Nat) (v : Value), its[i]? = some v → ∃ t, ns[i]? = some (ns.getD i 0) ∧ v = .int (ns.getD i 0) t := fun i v hv => by
    have hlt : i < ns.length := by rw [← hsz]; exact (Array.getElem?_eq_some_iff.mp hv).1
    obtain ⟨t, e⟩ := PyProof.Rows.IntsAre.int_at hi i v (by rw [Array.getElem?_toList]; exact hv)
    refine ⟨t, ?_, e⟩
    rw [List.getD_eq_getElem?_getD, List.getElem?_eq_getElem hlt]
    rfl
  refine call_treeK F.kind_max F.plain_max F.entry_max (argsD_max _ _) ?_
  show wpAny _ A.in1 (Builtin.Builtins.bindParams "max" ["key", "default"] 0 ⟨[], kwD d⟩ >>= _) _ _ s
  refine wpAny_bind (wpAny_of_eq (show Builtin.Builtins.bindParams "max" ["key", "default"] 0 ⟨[], kwD d⟩ = pure [none, some d] from rfl) ?_)
  refine wpAny_bind (wpAny_pure ?_)
  refine wpAny_bind (wpAny_pyIter_list hl ?_)
  have hlt : l < s.heap.objs.size := by
    obtain ⟨o, ho, _⟩ := id hl
    exact Heap.lt_size ho
  have ne : l ≠ s.heap.objs.size := Nat.ne_of_lt hlt
  refine wpAny_bind (wpAny_newObj_type ?_)
  have hSf : (s.heap.push { cls := .type "list_iterator", data := .fields #[.ref l, .int 0 0] }).objs.size ∉ [s.heap.objs.size, l] := by
    rw [Heap.size_push]
    simp only [List.mem_cons, List.not_mem_nil, or_false, not_or]
    exact ⟨Nat.succ_ne_self _, Nat.ne_of_gt (Nat.lt_succ_of_lt hlt)⟩
  have W := Walks.list (prog := prog) (w := w) (A := A.in1) (show A.in1.handled = none by simp [hh]) s.heap.objs.size l ne its
  have st0 : ((s.heap.push { cls := .type "list_iterator", data := .fields #[.ref l, .int 0 0] }).push (lObj #[] 0)).IsListIter s.heap.objs.size l 0 ∧ ((s.heap.push { cls := .type "list_iterator", data := .fields #[.ref l, .int 0 0] }).push (lObj #[] 0)).IsList l its :=
    ⟨⟨_, Heap.get?_push_of_some _ (Heap.get?_push_size _ rfl), rfl, rfl⟩, (hl.push _).push _⟩
  have keep : ∀ {h' : Heap}, (∀ b o, b ∉ [s.heap.objs.size] → b ≠ (s.heap.push { cls := .type "list_iterator", data := .fields #[.ref l, .int 0 0] }).objs.size → ((s.heap.push { cls := .type "list_iterator", data := .fields #[.ref l, .int 0 0] }).push (lObj #[] 0)).get? b = some o → h'.get? b = some o) → ∀ b o, s.heap.get? b = some o → h'.get? b = some o := fun k b o e => by
    have hb := Heap.lt_size e
    exact k b o (by simp only [List.mem_singleton]; exact Nat.ne_of_lt hb) (by rw [Heap.size_push]; exact Nat.ne_of_lt (Nat.lt_succ_of_lt hb)) (Heap.get?_push_of_some _ (Heap.get?_push_of_some _ e))
  rw [mxName]
  refine wpAny_pure ⟨plainId_quiet F.plain_max_loop _, ?_⟩
  by_cases hz : ns.length = 0
  · have W0 := W
    rw [hsz, hz] at W0
    exact maxD_none W0 hSf st0 (Heap.get?_push_size _ rfl) fun h' tk k => h1 hz h' tk (keep k)
  · refine maxD_first W (fun i j => decide (ns.getD i 0 > ns.getD j 0)) (CmpOf.ints_gt (fun i => ns.getD i 0) fun i v hv => ?_) hSf (by omega) st0 (Heap.get?_push_size _ rfl) fun v h' tk hP k => ?_
    · obtain ⟨t, _, e⟩ := hval i v hv
      exact ⟨t, e⟩
    · obtain ⟨t, e1, e2⟩ := hval _ v hP
      subst e2
      obtain ⟨g1, g2⟩ := argBest_gt (fun i => ns.getD i 0) (its.size - 1)
      refine h2 (by omega) h' tk _ t (keep k) (List.mem_of_getElem? e1) fun a ha => ?_
      obtain ⟨j, hj⟩ := List.getElem?_of_mem ha
      have hjl := (List.getElem?_eq_some_iff.mp hj).1
      have := g2 j (by omega)
      rw [List.getD_eq_getElem?_getD, hj] at this
      exact this
end
end PySem
namespace L2
open PySem PySem.Spec PyProof.Rows
/-- max(e, default=f) -/
def tMaxD (K : PySem.W.Frag) (ta td : TE) : TE := fun σ H Q => ta σ H fun x H1 => td σ H1 fun y H2 => ∃ (a : Addr) (ns : List Int), x = .ref a ∧ SqL K H2 a (ns.map V.int) ∧ (ns = [] → Q y H2) ∧ (ns ≠ [] → ∀ m, m ∈ ns → (∀ z, z ∈ ns → z ≤ m) → Q (.int m) H2)
theorem pe_maxD {X : Cx} {K : PySem.W.Frag} {e f : Expr} {ta td : TE} {p pos kp : Pos} (hg : Gl X "max") (hm : X.mg "max" = none) (ha : PE X e ta) (hd : PE X f td) (hc : X.calm = true := by rfl) (hK : X.K = K := by rfl)
    (hs : backTo pos (starEach [e] X.env) = (false, eval e X.env) :: backTo pos (starEach [] X.env) := by rfl) (hpl : (backTo pos (starEach [e] X.env)).any (·.1) = false := by rfl) (na : starEach [e] X.env = (false, eval e X.env) :: starEach [] X.env := by rfl) :
    PE X (.Call (.Name "max" p) [e] [⟨some "default", f, kp⟩] pos) (tMaxD K ta td) := by
  subst hK
  refine ⟨fun pins s σ H Q I h => ?_⟩
  refine wpAny_Call_Name_kw (ld_blt I hg hm boot_max ?_)
  refine callWith_kw (args_cons (thn (ha.run pins s σ H _ I h) fun v s1 ⟨x, H1, I1, r1, q1⟩ => args_nil ?_) na) hs hpl (by rfl) (by rfl)
  refine kws_cons (rest := []) (thn (hd.run pins s1 σ H1 _ I1 q1) fun u s2 ⟨y, H2, I2, r2, a, ns, ex, hq, q0, q2⟩ => kws_nil ?_)
  subst ex
  cases r1
  obtain ⟨its, rv, pl, hz⟩ := I2.list hq
  refine call_maxD (I2.ok.hd hc) pl.isList (by simpa using RZ.intsAre_vals rv) (fun h0 h' tk k => ?_) fun h0 h' tk M t' k m1 m2 => ?_
  · exact ⟨y, H2, I2.kept k, r2, q0 (List.length_eq_zero_iff.mp h0)⟩
  · exact ⟨.int M, H2, I2.kept k, ⟨_, rfl⟩, q2 (fun z => by rw [z] at h0; exact absurd h0 (by decide)) M m1 m2⟩
end L2
namespace L2
open PySem PySem.Spec PyProof.Rows
abbrev set0 (w : World) : Obj := { cls := .type "set", dict := none, data := .set #[] 0 (.fresh 0 0 (!w.params.followText "set-order")) }
section
variable {P : Program} {w : World} {A : Around} {E : Value → Shared → Prop} {s : Shared}
set_option maxHeartbeats 3200000 in
theorem call_set_lstI {l : Addr} {its : Array Value} (zs : List Int) {Q : Value → Shared → Prop} (hh : A.handled = none) (hl : s.heap.IsList l its) (hit : IntsAre its.toList zs) (hb : zs.length + 1 < scanBound)
    (h : ∀ (h' : Heap) (tk c : Nat), SetR w h' s.heap.objs.size (fun j => decide (j ∈ zs)) c → c ≤ zs.length → (∀ b o, s.heap.get? b = some o → h'.get? b = some o) → Q (.ref s.heap.objs.size) { s with heap := h', toks := tk }) : wpAny (model P w) A (call (.type "set") [.ref l]) Q E s := by
  have hsz : its.size = zs.length := by
    have q := IntsAre.length hit
    rw [Array.length_toList] at q
    exact q
  obtain ⟨c, tl, hmr⟩ := F.called_set.mro
  have f1 := F.called_set.made
  have f2 := F.called_set.sub
  refine wpAny_call (codeAny_of_tree ?_)
  show wpAny _ _ (callAny (.type "set") _) _ _ _
  refine wpAny_pure ⟨Code.quiet_builtin _ (by decide +kernel), codeAny_builtin F.entry_type_call ?_⟩; rw [Around.under_plain (weight_type_call_type "set" [.ref l] []) rfl]
  have f3 := F.called_set.notType
  have f4 := F.called_set.canCreate
  have f5 := F.typeCall_set_1 (.ref l)
  repeat (any_goals (first | assumption | wp_step))
  refine codeAny_mono (code_set_led1 (.ref l) (E := E) (Q₁ := fun ob s1 => ob = .ref s.heap.objs.size ∧ s1 = { s with heap := s.heap.push (set0 w) }) ⟨rfl, rfl⟩) fun r s1 hr => ?_
  cases r with
  | error e => exact hr
  | ok fl =>
    cases fl with
    | ret ob =>
      obtain ⟨rfl, rfl⟩ := hr
      have hS : (s.heap.push (set0 w)).get? s.heap.objs.size = some (set0 w) := Heap.get?_push_size _ rfl
      have hT : Shared.TypeIs { s with heap := s.heap.push (set0 w) } (.ref s.heap.objs.size) "set" := ⟨_, hS, rfl⟩
      have f6 := F.called_set.init.lookup
      have f7 := F.called_set.init.bind (.ref s.heap.objs.size)
      repeat (any_goals (first | assumption | wp_step))
      refine codeAny_mono (codeAny_call_builtin (R := wants (fun r s2 => r = .none ∧ ∃ h' tk c, s2 = { s with heap := h', toks := tk } ∧ SetR w h' s.heap.objs.size (fun j => decide (j ∈ zs)) c ∧ c ≤ zs.length ∧ (∀ b o, s.heap.get? b = some o → h'.get? b = some o)) E) F.called_set.init.plain F.entry_set_init (check_set_init_1 hT ?_)) fun r2 s2 hr2 => ?_
      · obtain ⟨ol, hol, hcl, nl, hdl⟩ := hl
        obtain ⟨oc, od, oda, osl⟩ := ol
        simp only at hcl hdl
        subst hcl; subst hdl
        have hol2 : (s.heap.push (set0 w)).get? l = some { cls := .type "list", dict := od, data := .seq its nl, slots := osl } := Heap.get?_push_of_some _ hol
        have g1 := F.sub_list_set
        have g2 := F.sub_list_frozenset
        have g3 : (Value.type "list" == Value.type "dict") = false := by decide
        have hl1 : (s.heap.push (set0 w)).IsList l its := ⟨_, hol2, rfl, nl, rfl⟩
        unfold Builtin.«set.__init__» noKeywords Builtin.Frozenset.updateFrom
        generalize hPI : pyIter = PI
        wp_walk
        subst hPI
        refine wpAny_pyIter_list hl1 ?_
        refine wpAny_bind (wpAny_runValue ?_)
        have hlS : l < s.heap.objs.size := Heap.lt_size hol
        have hn3 : A.in1.in1.in1.handled = none := by simp [hh]
        have hneI : l ≠ (s.heap.push (set0 w)).objs.size := by
          rw [Heap.size_push]
          exact Nat.ne_of_lt (Nat.lt_succ_of_lt hlS)
        have hSf : s.heap.objs.size ∉ [(s.heap.push (set0 w)).objs.size, l] := by
          rw [Heap.size_push]
          simp only [List.mem_cons, List.not_mem_nil, or_false, not_or]
          exact ⟨Nat.ne_of_lt (Nat.lt_succ_self _), Nat.ne_of_gt hlS⟩
        have hval : ∀ (i : Nat) (v : Value), its[i]? = some v → ∃ k t, zs[i]? = some k ∧ v = .int k t := fun i v hv => by
          have hi : i < zs.length := by rw [← hsz]; exact (Array.getElem?_eq_some_iff.mp hv).1
          obtain ⟨t, e⟩ := PyProof.Rows.IntsAre.int_at hit i v (by rw [Array.getElem?_toList]; exact hv)
          refine ⟨zs[i], t, List.getElem?_eq_getElem hi, ?_⟩
          rw [e, List.getD_eq_getElem?_getD, List.getElem?_eq_getElem hi]
          rfl
        refine set_update_ints ((Walks.list hn3 _ l hneI its).toS) s.heap.objs.size hSf zs hsz hb hval (its.size - 0) 0 _ (by omega) (Nat.zero_le _) ⟨⟨_, Heap.get?_push_size _ rfl, rfl, rfl⟩, (hl1.push _)⟩ ?z0 ?zR
        case z0 => exact ⟨0, Nat.le_refl 0, setR_new_at (Heap.get?_push_of_some _ hS)⟩
        case zR =>
          intro s' c' hm hc' hS'
          obtain ⟨h', y1, y2, tk', y3⟩ := s'
          have e1 : y1 = s.gens := hm.gens
          have e2 : y2 = s.drawn := hm.drawn
          have e3 : y3 = s.os := hm.os
          subst e1 e2 e3
          show wpAny _ _ _ _ _ _
          refine wpAny_pure ?_
          show wpAny _ _ (ret Value.none) _ _ _
          rw [hsz] at hc'
          refine wpAny_pure ⟨rfl, h', tk', c', rfl, hS', hc', fun b o e => ?_⟩
          have hb0 : b < s.heap.objs.size := Heap.lt_size e
          refine hm.heap b o ?_ (Heap.get?_push_of_some _ (Heap.get?_push_of_some _ e))
          simp only [List.mem_cons, List.not_mem_nil, or_false, not_or]
          exact ⟨Nat.ne_of_lt hb0, by rw [Heap.size_push]; exact Nat.ne_of_lt (Nat.lt_succ_of_lt hb0)⟩
      · cases r2 with
        | error e => exact hr2
        | ok fl2 =>
          cases fl2 with
          | ret r =>
            obtain ⟨rfl, h', tk, c', rfl, hS', hc', hk'⟩ := hr2
            repeat (any_goals (first | assumption | wp_step))
            exact h _ _ _ hS' hc' hk'
          | _ => exact hr2.elim
    | _ => exact hr.elim
end
/-- sorted(set(e)), ints, fewer than 64 -/
def tSortSet (K : PySem.W.Frag) (ta : TE) : TE := fun σ H Q => ta σ H fun x H1 => ∃ (a : Addr) (zs : List Int), x = .ref a ∧ SqL K H1 a (zs.map V.int) ∧ zs.length < 64 ∧
  ∀ (ns : List Int) (p q : Addr) (o : HO), ns.Pairwise (· < ·) → (∀ k : Int, k ∈ ns ↔ k ∈ zs) → H1 q = none → H1 p = none → p ≠ q → Q (.ref p) (upd (upd H1 q o) p (.lst (ns.map V.int)))
theorem pe_sortSet {X : Cx} {K : PySem.W.Frag} {e : Expr} {ta : TE} {p pos p2 pos2 : Pos} (hg : Gl X "sorted") (hm : X.mg "sorted" = none) (hg2 : Gl X "set") (hm2 : X.mg "set" = none) (ha : PE X e ta) (hc : X.calm = true := by rfl) (hK : X.K = K := by rfl)
    (na : starEach [e] X.env = (false, eval e X.env) :: starEach [] X.env := by rfl) : PE X (.Call (.Name "sorted" p) [.Call (.Name "set" p2) [e] [] pos2] [] pos) (tSortSet K ta) := by
  subst hK
  refine ⟨fun pins s σ H Q I h => ?_⟩
  refine Call_ (ld_blt I hg hm boot_sorted ?_)
  refine PyProof.Rows.callWith_builtin1 (PyProof.Rows.args_cons ?_ rfl) rfl rfl
  refine Call_ (ld_blt I hg2 hm2 boot_set ?_)
  refine PyProof.Rows.callWith_type1 (PyProof.Rows.args_cons (thn (ha.run pins s σ H _ I h) fun v s1 ⟨x, H1, I1, r1, a, zs, ex, hq, hl, q⟩ => PyProof.Rows.args_nil ?_) na) na rfl
  subst ex
  cases r1
  obtain ⟨its, rv, pl, hz⟩ := I1.list hq
  refine call_set_lstI (w := X.w) zs (I1.ok.hd hc) pl.isList (by simpa using RZ.intsAre_vals rv) (by unfold scanBound; omega) fun h' tk c hS hcl hk => ?_
  refine PyProof.Rows.args_nil ?_
  have hn : H1 s1.heap.objs.size = none := I1.hok.fresh (Nat.le_refl _)
  have I2 : Inv X pins σ (upd H1 s1.heap.objs.size (SetO X.w s1.heap.objs.size (fun j => decide (j ∈ zs)) c)) { s1 with heap := h', toks := tk } := I1.laid (t' := tk) hk (Nat.le_refl _) (setO_new hS)
  refine cr_sortedSet hc pins _ σ _ [.ref s1.heap.objs.size] [.ref s1.heap.objs.size] Q I2 (.cons rfl .nil) ⟨s1.heap.objs.size, _, c, rfl, upd_same, by omega, fun ns p hp hm _ hpn => ?_⟩
  have hpq : p ≠ s1.heap.objs.size := fun z => by rw [z, upd_same] at hpn; cases hpn
  rw [upd_ne hpq] at hpn
  exact q ns p _ _ hp (fun k => (hm k).trans (by simp)) hn hpn hpq
end L2
namespace Pr
open PySem L2
section
variable {K : Fg} {E : XK} {G : Sl} {ta td : TE}
theorem ev_sortSet {xs ys : List Int} (h : EvR K E ta G (.val (.lst (iL xs)))) (hl : xs.length < 64) (hy : ∀ ns : List Int, ns.Pairwise (· < ·) → (∀ k : Int, k ∈ ns ↔ k ∈ xs) → ns = ys) : EvR K E (tSortSet K ta) G (.new (iL ys)) := fun σ H0 H e s Q q =>
  h σ H0 H e s _ fun v H1 H1' s1 r1 => by
    obtain ⟨a, vs, rfl, ha, t⟩ := r1.lst_out
    obtain rfl := t.ints_eq
    refine ⟨a, xs, rfl, .inl (.inl (s1.c _ _ ha)), hl, fun ns p z o hp hm hz hpn hpz => ?_⟩
    rw [hy ns hp hm]
    have st : Stp H1 H1' H1 (upd H1' z o) := Stp.own s1.c hz
    have hpn2 : (upd H1' z o) p = none := by rw [upd_ne hpz]; exact hpn
    exact q p _ H1 _ ((s1.trans st).trans (Stp.own st.c hpn2)) (s1.b.free hpn) (s1.c.free hpn) upd_same (Dens.of_ints _)
theorem ev_maxD {xs : List Int} {d m : Int} (h : EvR K E ta G (.val (.lst (iL xs)))) (hd : EvR K E td G (.val (.int d))) (h0 : xs = [] → m = d) (h1 : xs ≠ [] → m ∈ xs ∧ ∀ z ∈ xs, z ≤ m) : EvR K E (tMaxD K ta td) G (.val (.int m)) := fun σ H0 H e s Q q =>
  h σ H0 H e s _ fun v H1 H1' s1 r1 => hd σ H1 H1' s1.c (s.up s1.a) _ fun u H2 H2' s2 r2 => by
    obtain ⟨a, vs, rfl, ha, t⟩ := (r1.up s2.a).lst_out
    obtain rfl := t.ints_eq
    obtain rfl := r2.int_eq
    refine ⟨a, xs, rfl, .inl (.inl (s2.c _ _ ha)), fun z => ?_, fun z M hM hall => ?_⟩
    · rw [h0 z] at q
      exact q _ H2 H2' (s1.trans s2) (.int _)
    · obtain ⟨g1, g2⟩ := h1 z
      have := hall m g1
      have := g2 M hM
      obtain rfl : M = m := by omega
      exact q _ H2 H2' (s1.trans s2) (.int _)
theorem rc_maxL {xs : List Int} {m : Int} (h0 : m ∈ xs) (h1 : ∀ z ∈ xs, z ≤ m) : RC K E (rMax K) [.lst (iL xs)] (.val (.int m)) := fun H0 H e vs r Q q => by
  obtain ⟨v, ws, rfl, r3, r4⟩ := r.cons_out
  obtain rfl := r4.nil_out
  obtain ⟨a, us, rfl, ha, t⟩ := r3.lst_out
  obtain rfl := t.ints_eq
  refine ⟨a, xs, rfl, .inl (.inl (e _ _ ha)), List.length_pos_of_mem h0, fun M hM hall => ?_⟩
  have := hall m h0
  have := h1 M hM
  obtain rfl : M = m := by omega
  exact sat_val e q (.int _)
end
end Pr
/-! Part N: new instances that may refuse; len(set(xs)) of any ints; {k: v}. -/
namespace Pr
open PySem L2
def SpI (K : Fg) (P : List D → Om → (D → Om → Prop) → Prop) (PX : List D → Value → Prop) : Sp := fun vs H Q E => SpM K P vs H Q E ∨ ∃ (H0 : Hp) (ds : List D) (c : Value), Same H0 H ∧ Dens K H0 vs ds ∧ PX ds c ∧ ∀ H', Same H H' → E c none H'
theorem len_I {K : Fg} {P : List D → Om → (D → Om → Prop) → Prop} {PX : List D → Value → Prop} {n : Nat} (h : ∀ ds O k, P ds O k → ds.length = n) (hx : ∀ ds c, PX ds c → ds.length = n) : ∀ vs H Q E, SpI K P PX vs H Q E → vs.length = n := fun vs H Q E z => by
  rcases z with z | ⟨H0, ds, c, _, rd, p, _⟩
  · exact len_M h vs H Q E z
  · rw [rd.length]; exact hx ds c p
theorem body_i {K : Fg} {E : XK} {N : List Str} {P : List D → Om → (D → Om → Prop) → Prop} {PX : List D → Value → Prop} {t : TS} {vs : List V} {H : Hp} {Q : VK} (h : SpI K P PX vs H Q E) (hb : ∀ ds O k, P ds O k → Sv K E t { nx := fun _ O' => k .non O', rt := k } (startD N.length ds) O)
    (hx : ∀ ds c O, PX ds c → Sv K E t (enR (.exc c) O) (startD N.length ds) O) : t { nx := fun _ H' => Q .non H', rt := Q } (L2.start N vs) H := by
  rcases h with h | ⟨H0, ds, c, e, rd, p, q⟩
  · exact body_m h hb
  · exact body_pure (P := fun ds r => ∃ c, r = .exc c ∧ PX ds c) ⟨H0, ds, .exc c, e, rd, ⟨c, rfl, p⟩, q⟩ fun ds r O ⟨c, er, p⟩ => by subst er; exact hx ds c O p
section
variable {P : Program} {w : World} {K : Fg} {mg : Str → Option Value} {base : Heap} {x qual : Str} {params : Arguments} {body : List Stmt} {scope : Scope} {f C : Addr}
theorem calI_ex {N ps : List Str} {k : Nat} {sp : Sp} (hm : Mk K C f) (F : ∃ fd, FunD K x qual params body scope [] [] f fd) (S : FnScope N ps scope) (len : ∀ vs H Q E, sp vs H Q E → vs.length = ps.length)
    (h : ∀ (kV doc pm : Value) (an : Option Addr) (cdv ct : Value) (us : List Value), us.length = ps.length → bindArgs (PySem.W.fnOf x qual params body scope .none kV doc pm an cdv ct) ⟨us, []⟩ = pure (ps.zip us))
    (hbody : ∀ (cdv : Value) (A : Around) (outer : List Env) (s : Shared) (H : Hp) (vs : List V) (Q : VK) (E : XK), Room k (A.deeper (PyProof.Rows.envOfC qual scope s.heap.objs.size f cdv)) → sp vs H Q E →
      ∃ t, PSs (cxOf (L2.CX P w) P w K mg base N qual scope f cdv A outer s H E) body t ∧ t { nx := fun _ H' => Q .non H', rt := Q } (L2.start N vs) H) : CalI P w K mg base C (k + 1) ps sp := by
  obtain ⟨fd, F⟩ := F
  exact ⟨f, fd, hm, F.ok S len fun cdv A outer s H vs Q E hr hsp => hbody cdv A outer s H vs Q E hr hsp, F.bindsN h⟩
end
section
variable {X : Cx} {k : Nat} {C : Addr} {x : Str} {ps : List Str} {sp : Sp} {E : XK} {pos p : Pos} {e : Expr} {es : List Expr} {t : TA}
theorem pe_mkX (I : CalI X.prog X.w X.K X.mg X.base C k ps sp) (hr : Room (k + 1) X.A) (tk : Takes X (fun cls d _ H => E cls d H)) (ha : PA X (e :: es) t) (hm : X.mg x = some (.ref C)) (hg : Gl X x := by rfl) (hdb : (x == ("__debug__" : Str)) = false := by decide)
    (he : starEach (e :: es) X.env = (false, eval e X.env) :: starEach es X.env := by rfl) (hpl : (backTo pos (starEach es X.env)).any (·.1) = false := by rfl) : PE X (.Call (.Name x p) (e :: es) [] pos) (tMake C sp [] E t) := by
  obtain ⟨f, fd, M, F, b⟩ := I.ex
  exact pe_make M F hr hg hm b .nil (passes_call tk fun _ _ _ _ h => h) ha hdb he hpl
end
section
variable {K : Fg} {E E' : XK} {G : Sl} {O : Om} {C : Addr} {t : TA} {sp : Sp}
theorem same_ins {H1 : Hp} {x dx : Addr} (hx : H1 x = none) (hdx : H1 dx = none) : Same H1 (upd (upd H1 dx (.own x)) x (.ins C dx [])) := fun b o hb => by
  rw [upd_ne (ne_of_none hb hx), upd_ne (ne_of_none hb hdx)]
  exact hb
theorem ev_makeS {PI : List D → Om → (D → Om → Prop) → Prop} {es : List D} {fs : List (Str × D)} (hsp : ∀ vs H Q E, SpM K PI vs H Q E → sp vs H Q E) (ha : EvA K t G es)
    (p : ∀ (O : Om) (x : Addr), O x = some (.obj C []) → ∀ k : D → Om → Prop, (k .non (oput O x (.obj C fs))) → PI (.ref x :: es) O k) : EvR K E (tMake C sp [] E' t) G (.val (.ins C (fs.map (·.1)) (fs.map (·.2)))) := fun σ H0 H e s Q q =>
  ha σ H0 H e s _ fun vs H1 H1' s1 r1 x dx hx hdx ne => by
    have hs : Same H1 (upd (upd H1' dx (.own x)) x (.ins C dx [])) := s1.c.trans (same_ins hx hdx)
    have hx0 : H1 x = none := s1.c.free hx
    have w0 : Wd K H1 (upd (upd H1' dx (.own x)) x (.ins C dx [])) (oput (rawOm H1 H1') x (.obj C [])) := by
      refine ⟨hs, fun b o hb => ?_⟩
      by_cases hbx : b = x
      · subst hbx
        rw [oput_same] at hb
        cases hb
        exact ⟨hx0, _, upd_same, dx, [], rfl, rfl, .nil⟩
      · rw [oput_ne hbx] at hb
        obtain ⟨h0, o', ho', r⟩ := (Wd.raw (K := K) s1.c).own b o hb
        exact ⟨h0, o', same_ins hx hdx _ _ ho', r⟩
    refine hsp _ _ _ _ ⟨H1, _, .ref x :: es, fun d O' => d = .non ∧ O' = oput (oput (rawOm H1 H1') x (.obj C [])) x (.obj C fs), w0, by rw [List.append_nil]; exact .cons (.ref x) r1, p _ x oput_same _ ⟨rfl, rfl⟩, ?_⟩
    rintro d O' v H0' H' ⟨rfl, rfl⟩ s2 w2 rv
    refine ⟨rv.non_eq, ?_⟩
    rw [oput_oput] at w2
    have hraw : rawOm H1 H1' x = none := (Wd.raw (K := K) s1.c).free hx
    have st := stp_raw (K := K) s1.c s2 (w2.weak (OLe.new hraw)) (OLe.refl _)
    obtain ⟨h0, o, ho, dx', gs, rfl, hn, rd⟩ := w2.own x _ oput_same
    refine q (.ref x) (upd H0' x (.ins C dx' gs)) H' (s1.trans (st.freeze hx h0 ho)) (.ins upd_same hn (rd.up (same_new h0)))
theorem em_makeS {P : D → Om → Prop} {PI : List D → Om → (D → Om → Prop) → Prop} (hsp : ∀ vs H Q E, SpM K PI vs H Q E → sp vs H Q E)
    (h : EvMA K t G O fun es O1 => ∃ fs : List (Str × D), (∀ (O : Om) (x : Addr), O x = some (.obj C []) → ∀ k : D → Om → Prop, (k .non (oput O x (.obj C fs))) → PI (.ref x :: es) O k) ∧ P (.ins C (fs.map (·.1)) (fs.map (·.2))) O1) : EvM K (tMake C sp [] E' t) G O P := fun σ H0 H w s Q q =>
  h σ H0 H w s _ fun vs es H1 H1' O1 ⟨fs, p, k⟩ s1 w1 r1 x dx hx hdx ne => by
    have hx0 : H1 x = none := w1.le.free hx
    have hox : O1 x = none := w1.free hx
    have w0 : Wd K H1 (upd (upd H1' dx (.own x)) x (.ins C dx [])) (oput O1 x (.obj C [])) := by
      refine ⟨w1.le.trans (same_ins hx hdx), fun b o hb => ?_⟩
      by_cases hbx : b = x
      · subst hbx
        rw [oput_same] at hb
        cases hb
        exact ⟨hx0, _, upd_same, dx, [], rfl, rfl, .nil⟩
      · rw [oput_ne hbx] at hb
        obtain ⟨h0, o', ho', r⟩ := w1.own b o hb
        exact ⟨h0, o', same_ins hx hdx _ _ ho', r⟩
    refine hsp _ _ _ _ ⟨H1, _, .ref x :: es, fun d O' => d = .non ∧ O' = oput (oput O1 x (.obj C [])) x (.obj C fs), w0, by rw [List.append_nil]; exact .cons (.ref x) r1, p _ x oput_same _ ⟨rfl, rfl⟩, ?_⟩
    rintro d O' v H0' H' ⟨rfl, rfl⟩ s2 w2 rv
    refine ⟨rv.non_eq, ?_⟩
    rw [oput_oput] at w2
    obtain ⟨H2, s3, w3, r3⟩ := Wd.freezeO w2 oput_same
    rw [odrop_put hox] at w3
    exact q (.ref x) _ H2 H' O1 k ((s1.trans s2).trans s3) w3 r3
theorem ev_makeX {PI : List D → Om → (D → Om → Prop) → Prop} {PX : List D → Value → Prop} {es : List D} {c : Value} (ha : EvA K t G es) (p : ∀ x : Addr, PX (.ref x :: es) c) : EvR K E (tMake C (SpI K PI PX) [] E t) G (.exc c) := fun σ H0 H e s Q q =>
  ha σ H0 H e s _ fun vs H1 H1' s1 r1 x dx hx hdx ne => .inr ⟨H1, .ref x :: es, c, s1.c.trans (same_ins hx hdx), by rw [List.append_nil]; exact .cons (.ref x) r1, p x, fun H' s' => q H' ((s1.b.trans (same_ins hx hdx)).trans s')⟩
end
theorem sp_inl {K : Fg} {P : List D → Om → (D → Om → Prop) → Prop} {PX : List D → Value → Prop} : ∀ vs H Q E, SpM K P vs H Q E → SpI K P PX vs H Q E := fun _ _ _ _ h => .inl h
end Pr
namespace L2
open PySem PySem.Spec PyProof.Rows
def tLenSetA (K : PySem.W.Frag) (ta : TE) : TE := fun σ H Q => ta σ H fun x H1 => ∃ (l : Addr) (ns : List Int), x = .ref l ∧ SqL K H1 l (ns.map V.int) ∧ ns.length ≤ 4000 ∧ Q (.int ((firstMet (fun i => ns.getD i 0) ns.length).length : Nat)) H1
theorem lenSetA {X : Cx} {K : PySem.W.Frag} {a : Expr} {ta : TE} {p p2 q pos : Pos} (hg : Gl X "len") (hm : X.mg "len" = none) (hg2 : Gl X "set") (hm2 : X.mg "set" = none) (ha : PE X a ta) (hc : X.calm = true := by rfl) (hK : X.K = K := by rfl)
    (na : starEach [a] X.env = (false, eval a X.env) :: starEach [] X.env := by rfl) : PE X (.Call (.Name "len" p) [.Call (.Name "set" p2) [a] [] q] [] pos) (tLenSetA K ta) := by
  subst hK
  refine ⟨fun pins s σ H Q I h => Call_ (ld_blt I hg hm boot_len (callWith_builtin1 (args_cons (Call_ (ld_blt I hg2 hm2 boot_set ?_)) rfl) rfl rfl))⟩
  refine callWith_type1 (args_cons (thn (ha.run pins s σ H _ I h) fun v s1 ⟨x, H1, I1, r1, l, ns, ex, hq, hl, q1⟩ => args_nil ?_) na) na rfl
  subst ex
  cases r1
  obtain ⟨its, r, pl, hz⟩ := I1.list hq
  have hlen : its.toArray.size = ns.length := by rw [List.size_toArray, ← r.length, List.length_map]
  refine call_set_list (I1.ok.hd hc) pl.isList (by simpa using RZ.intsAre_vals r) (by rw [hlen]; unfold scanBound; omega) fun h' tk hS hk => args_nil ?_
  rw [hlen] at hS
  obtain ⟨o, es, ep, t, ho, hex, hd, _, _, _, hf, hn⟩ := hS
  have I2 : Inv X pins σ H1 { s1 with heap := h', toks := tk } := I1.kept fun b o e => hk b o (Heap.lt_size e) e
  have hle := firstMet_length_le (fun i => ns.getD i 0) ns.length
  exact call_len_set ho hex hd hf (by rw [hn]; omega) ⟨.int _, H1, I2.tok _, ⟨_, by rw [hn]⟩, q1⟩
theorem met_all {ns : List Int} : ∀ i, i ≤ ns.length → (firstMet (fun i => ns.getD i 0) i).length = i → firstMet (fun i => ns.getD i 0) i = ns.take i ∧ (ns.take i).Nodup
  | 0, _, _ => ⟨rfl, by simp⟩
  | i + 1, hi, e => by
    have hle := firstMet_length_le (fun i => ns.getD i 0) i
    rw [firstMet_succ] at e ⊢
    unfold step_dedup at e ⊢
    by_cases hb : (firstMet (fun i => ns.getD i 0) i).any (· == ns.getD i 0) = true
    · rw [if_pos hb] at e
      omega
    · rw [if_neg hb] at e ⊢
      rw [List.length_append, List.length_singleton] at e
      obtain ⟨h1, h2⟩ := met_all (ns := ns) i (by omega) (by omega)
      have hg : ns[i]? = some (ns.getD i 0) := by rw [List.getD_eq_getElem?_getD, List.getElem?_eq_getElem (show i < ns.length from hi)]; rfl
      rw [List.take_add_one, hg, h1]
      refine ⟨rfl, ?_⟩
      refine List.nodup_append.mpr ⟨h2, by simp, fun a ha b hb2 e2 => ?_⟩
      have hb3 : b = ns.getD i 0 := by simpa using hb2
      subst e2
      rw [h1] at hb
      exact hb (List.any_eq_true.mpr ⟨a, ha, by rw [hb3]; simp⟩)
theorem met_iff (ns : List Int) : ((firstMet (fun i => ns.getD i 0) ns.length).length = ns.length) ↔ ns.Nodup := by
  constructor
  · intro e
    have := (met_all ns.length (Nat.le_refl _) e).2
    rwa [List.take_length] at this
  · intro h
    rw [RZ.firstMet_nodup h ns.length (Nat.le_refl _), List.take_length]
end L2
namespace Pr
open PySem L2
theorem ev_lenSetA {K : Fg} {E : XK} {G : Sl} {te : TE} {ns : List Int} (h : EvR K E te G (.val (.lst (iL ns)))) (hl : ns.length ≤ 4000) : EvR K E (tLenSetA K te) G (.val (.int ((PyProof.Rows.firstMet (fun i => ns.getD i 0) ns.length).length : Nat))) := fun σ H0 H e s Q q =>
  h σ H0 H e s _ fun v H1 H1' s1 r1 => by
    obtain ⟨a, vs, rfl, ha, t⟩ := r1.lst_out
    obtain rfl := t.ints_eq
    exact ⟨a, ns, rfl, .inl (.inl (s1.c _ _ ha)), hl, q _ H1 H1' s1 (.int _)⟩
/-- {i: j} -/
theorem ev_disp1 {K : Fg} {E : XK} {G : Sl} {i : Int} {v : V} : EvR K E (tDisp [(tC (.int i), tC v)]) G (.val (.dic [i])) := fun σ H0 H e s Q q p hp => by
  refine ⟨upd_same, [(.inl i, v)], rfl, by show 1 ≤ 15; decide, ?_⟩
  have hs : upd (upd H p (.dK [])) p (.dK (mergeK [] [(.inl i, v)])) = upd H p (.dK (mergeK [] [(.inl i, v)])) := by
    funext b
    unfold upd
    split <;> rfl
  rw [hs]
  exact q (.ref p) (upd H0 p (.dK (mergeK [] [(.inl i, v)]))) _ (Stp.new e hp) (.dic upd_same rfl)
end Pr
namespace L2
open PySem PySem.Spec PyProof.Rows PySem.SeqAt PySem.MeetsSeq
theorem tuple_eqFirst (l b : Addr) (y0 x0 : Value) (ys xs : List Value) (n n2 : Nat) (dd dd2 : Option Addr) (sl sl2 : Array (Option Value)) :
    Meets (Builtin.«tuple.__eq__» ⟨[.ref l, .ref b], []⟩) (fun A R s => s.heap.get? l = some { cls := .type "tuple", dict := dd, data := .seq (y0 :: ys).toArray n, slots := sl } ∧ s.heap.get? b = some { cls := .type "tuple", dict := dd2, data := .seq (x0 :: xs).toArray n2, slots := sl2 } ∧ EqAt A.in1 s y0 x0 false ∧ R (.ok (.ret (.bool false))) s) :=
  .of_wp fun prog w A R s h => by
    obtain ⟨hp, g, d, tk, os⟩ := s; obtain ⟨hl, hb, he, h⟩ := h
    have f2 := AutoSeq1.sub_tuple_tuple
    wp_walk using wpAny_loadPart' hl, wpAny_loadPart' hb, wpAny_forIn_list _ (fun rest b s' => b.1 = none ∧ s' = ⟨hp, g, d, tk, os⟩ ∧ rest = (y0 :: ys).zip (x0 :: xs)) _
    case turn =>
      rintro ⟨y, x⟩ rest b s' ⟨hb', rfl, hz⟩
      injection hz with hyx hrest
      injection hyx with hy hx
      subst hy hx
      refine wpAny_bind (he prog w _ _ ?_)
      wp_walk
      exact ⟨_, rfl, h⟩
    case fin =>
      rintro ⟨b1, b2⟩ s' ⟨hb', rfl, hz⟩
      cases hz
    case h => exact ⟨rfl, rfl, rfl⟩
theorem rcEq_first {A : Around} {s : Shared} {l b : Addr} {y0 x0 : Value} {ys xs : List Value} (hl : s.heap.IsTuple l (y0 :: ys).toArray) (hb : s.heap.IsTuple b (x0 :: xs).toArray) (hu : A.units < cLine) (he : EqAt A.in1 s y0 x0 false) : RcAt A s (.ref l) (.ref b) false := fun prog w E Q h => by
  obtain ⟨⟨cls, dd, data, sl⟩, ho, hc, n, hd⟩ := id hl
  obtain ⟨⟨cls2, dd2, data2, sl2⟩, ho2, hc2, n2, hd2⟩ := id hb
  simp only at hc hd hc2 hd2
  subst hc hd hc2 hd2
  exact richCompare_meets_room (op := .Eq) ⟨_, ho, rfl⟩ ⟨_, ho2, rfl⟩ F.slot_tuple_eq F.entry_tuple_eq (F.args_tuple_eq_2 _ _) (tuple_eqFirst l b y0 x0 ys xs n n2 dd dd2 sl sl2) ⟨ho, ho2, he, show Value.bool false ≠ Value.notImplemented ∧ Q (.bool false) s from ⟨(fun x => nomatch x), h⟩⟩ hu
/-- a tuple that begins with a text, in a list of such that begin with other ones -/
def rInF (K : PySem.W.Frag) : R2 := fun x y H Q => ∃ a z xs l ts, x = .ref a ∧ H a = some (.tup (.str z :: xs)) ∧ y = .ref l ∧ SqL K H l ts ∧ (∀ q ∈ ts, ∃ b t ys, q = .ref b ∧ H b = some (.tup (.str t :: ys)) ∧ t ≠ z) ∧ Q (.bl false) H
theorem vals_mem : ∀ {xs : List V} {us : List Value}, Vals xs us → ∀ u ∈ us, ∃ x ∈ xs, RelV x u
  | _, _, .nil, _, h => by cases h
  | _, _, .cons r t, u, h => by
    rcases List.mem_cons.mp h with rfl | h
    · exact ⟨_, List.mem_cons_self, r⟩
    · obtain ⟨x, hx, rx⟩ := vals_mem t u h
      exact ⟨x, List.mem_cons_of_mem _ hx, rx⟩
theorem inFK {X : Cx} {K : PySem.W.Frag} (hu : X.A.units + 64 < cLine) (hK : X.K = K := by rfl) : OpR X (compareOp .In) (rInF K) := by
  subst hK
  intro pins s σ H x y v u Q I rx ry h
  obtain ⟨a, z, xs, l, ts, rfl, ha, rfl, hq, hall, q⟩ := h
  cases rx
  cases ry
  obtain ⟨its, r, pl, hz⟩ := I.list hq
  refine SeqAt.in_listAt (fun _ => false) pl.isList (fun w hw => ?_) ⟨.bl false, H, I, by rw [show its.toArray.any (fun _ => false) = false by simp]; rfl, q⟩
  obtain ⟨e, he, re⟩ := vals_mem r w (by simpa using hw)
  obtain ⟨b, t, ys, rfl, hb, hne⟩ := hall e he
  cases re
  obtain ⟨i1, r1, e1, _⟩ := I.tuple (.inl (.inl ha))
  obtain ⟨i2, r2, e2, _⟩ := I.tuple (.inl (.inl hb))
  cases r1 with
  | cons ra _ =>
    cases r2 with
    | cons rb _ =>
      obtain ⟨k1, rfl⟩ := ra
      obtain ⟨k2, rfl⟩ := rb
      have hba : b ≠ a := fun e => by
        rw [e, ha] at hb
        cases hb
        exact hne rfl
      refine EqAt.of_refs hba (rcEq_first e2 e1 (by show _ < _; exact Nat.lt_of_le_of_lt (by simp [Around.in1]) hu) ?_)
      have := EqAt.str_str (A := X.A.in1.in1) (s := s) t k2 z k1
      rw [show (t == z) = false from beq_false_of_ne hne] at this
      exact this
end L2
namespace Pr
open PySem L2
theorem rd_inF {K : Fg} {E : XK} {z : Str} {xs ds : List D} (h : ∀ d ∈ ds, ∃ t ys, d = .tup (.str t :: ys) ∧ t ≠ z) : RD K E (rInF K) (.tup (.str z :: xs)) (.lst ds) (.val (.bl false)) := fun H0 H e x y r1 r2 Q q => by
  obtain ⟨a, vs, rfl, ha, ta⟩ := r1.tup_out
  obtain ⟨v, vs, rfl, rv, ta⟩ := ta.cons_out
  obtain rfl := rv.str_eq
  obtain ⟨l, ws, rfl, hl, tl⟩ := r2.lst_out
  refine ⟨a, z, vs, l, ws, rfl, e _ _ ha, rfl, .inl (.inl (e _ _ hl)), fun u hu => ?_, sat_val e q (.bl _)⟩
  obtain ⟨i, hi⟩ := List.getElem?_of_mem hu
  obtain ⟨d, hd, rd⟩ := tl.getV hi
  obtain ⟨t, ys, rfl, hne⟩ := h d (List.mem_of_getElem? hd)
  obtain ⟨b, us, rfl, hb, tb⟩ := rd.tup_out
  obtain ⟨c, us, rfl, rc, tb⟩ := tb.cons_out
  obtain rfl := rc.str_eq
  exact ⟨b, t, us, rfl, e _ _ hb, hne⟩
/-- list(range(e)), e with effects -/
theorem em_lrg1 {K : Fg} {G : Sl} {O : Om} {te : TE} {P : D → Om → Prop} (h : EvM K te G O fun d O1 => ∃ n : Int, d = .int n ∧ 0 ≤ n ∧ n ≤ 100000 ∧ P (.lst (iL (rng 0 n.toNat))) O1) : EvM K (tLstRg (tRg1 te)) G O P := fun σ H0 H w s Q q => h σ H0 H w s _ fun v d H1 H1' O1 ⟨n, ed, h0, h1, k⟩ s1 w1 r1 => by
  subst ed
  refine ⟨n, r1.int_eq, .of_le (by omega) (by omega) (by omega) h0, fun p hp => ?_⟩
  have e : rgV 0 n = (rng 0 n.toNat).map V.int := by rw [rgV_eq, show n - 0 = n by omega]
  rw [e]
  have w2 := w1.put (b := .lst (iL (rng 0 n.toNat))) (p := p) (w1.le.free hp) ⟨(rng 0 n.toNat).map V.int, rfl, Dens.of_ints _⟩
  obtain ⟨H2, s2, w3, r3⟩ := w2.freeze oput_same
  rw [odrop_put (w1.free hp)] at w3
  exact q _ _ H2 _ O1 k (s1.trans s2) w3 r3
end Pr
/-! list(zip(a, b)) of two lists of one length. -/
namespace PySem
theorem zl_no_len : typeLookup (.type "zip") "__len__" = pure none := by rw [typeLookup_type, builtinLookup_eq_fast]; kernel_rfl
theorem zl_no_hint : typeLookup (.type "zip") "__length_hint__" = pure none := by rw [typeLookup_type, builtinLookup_eq_fast]; kernel_rfl
/-- a zip at work whose tuples are all kept -/
def ZipAt (z TI TO i1 i2 l1 l2 S : Addr) (xs ys : Array Value) (i : Nat) (h : Heap) : Prop :=
  IsPair h TI (.ref i1) (.ref i2) ∧ h.IsListIter i1 l1 i ∧ h.IsListIter i2 l2 i ∧ h.IsList l1 xs ∧ h.IsList l2 ys ∧
    ((IsZip h z TI TO .none ∧ ∃ a b, IsPair h TO a b) ∨ ∃ T f ot, IsZipHeld h z TI TO T f ∧ h.get? T = some ot ∧ T ≠ z ∧ T ≠ i1 ∧ T ≠ i2 ∧ T ≠ S)
theorem ZipAt.on {z TI TO i1 i2 l1 l2 S : Addr} {xs ys : Array Value} {i : Nat} {h h' : Heap} (st : ZipAt z TI TO i1 i2 l1 l2 S xs ys i h) (hS : S ∉ [z, TI, TO, i1, i2, l1, l2]) (k : ∀ c o, c ≠ S → h.get? c = some o → h'.get? c = some o) : ZipAt z TI TO i1 i2 l1 l2 S xs ys i h' := by
  obtain ⟨gI, h1, h2, m1, m2, hz⟩ := st
  have n : ∀ c, c ∈ [z, TI, TO, i1, i2, l1, l2] → c ≠ S := fun c hc e => hS (by rw [← e]; exact hc)
  refine ⟨k _ _ (n _ (by simp)) gI, h1.at fun o e => k _ o (n _ (by simp)) e, h2.at fun o e => k _ o (n _ (by simp)) e, m1.at fun o e => k _ o (n _ (by simp)) e, m2.at fun o e => k _ o (n _ (by simp)) e, ?_⟩
  rcases hz with ⟨hz, a, b, gO⟩ | ⟨T, f, ot, hz, hT, r1, r2, r3, r4⟩
  · exact .inl ⟨k _ _ (n _ (by simp)) hz, a, b, k _ _ (n _ (by simp)) gO⟩
  · exact .inr ⟨T, f, ot, k _ _ (n _ (by simp)) hz, k _ _ r4 hT, r1, r2, r3, r4⟩
theorem ZipAt.type {z TI TO i1 i2 l1 l2 S : Addr} {xs ys : Array Value} {i : Nat} {s : Shared} (st : ZipAt z TI TO i1 i2 l1 l2 S xs ys i s.heap) : s.TypeIs (.ref z) "zip" := by
  obtain ⟨_, _, _, _, _, hz⟩ := st
  rcases hz with ⟨hz, _⟩ | ⟨T, f, ot, hz, _⟩
  · exact ⟨_, hz, rfl⟩
  · exact ⟨_, hz, rfl⟩
section
variable {prog : Program} {w : World} {A : Around} {E : Value → Shared → Prop} {s : Shared} {z TI TO i1 i2 l1 l2 S : Addr} {xs ys : Array Value}
theorem next_zipK {i : Nat} {Q : Option Value → Shared → Prop} (D : ZipApart z TI TO i1 i2 l1 l2) (hSs : S < s.heap.objs.size) (st : ZipAt z TI TO i1 i2 l1 l2 S xs ys i s.heap) {x y : Value} (ex : xs[i]? = some x) (ey : ys[i]? = some y)
    (hQ : ∀ h', ZipAt z TI TO i1 i2 l1 l2 S xs ys (i + 1) h' → IsPair h' s.heap.objs.size x y → h'.objs.size = s.heap.objs.size + 1 → (∀ c o, c ∉ [z, TO, i1, i2] → s.heap.get? c = some o → h'.get? c = some o) → Q (some (.ref s.heap.objs.size)) { s with heap := h' }) : wpAny (model prog w) A (pyNext (.ref z)) Q E s := by
  obtain ⟨gI, h1, h2, m1, m2, hz⟩ := st
  have lt : ∀ {c : Addr} {o : Obj}, s.heap.get? c = some o → s.heap.objs.size ≠ c := fun e => Nat.ne_of_gt (Heap.lt_size e)
  have n1 : s.heap.objs.size ≠ i1 := let ⟨_, e, _⟩ := h1; lt e
  have n2 : s.heap.objs.size ≠ i2 := let ⟨_, e, _⟩ := h2; lt e
  rcases hz with ⟨hz, a, b, gO⟩ | ⟨T, f, ot, hz, hT, r1, r2, r3, r4⟩
  · refine wpAny_pyNext_zip_item D hz gI gO h1 h2 m1 m2 ex ey fun h' a1 a2 a3 a4 a5 a6 hk => ?_
    refine hQ h' ⟨hk _ _ D.TIz D.TITO D.TIi1 D.TIi2 gI, a3, a4, m1.at fun o e => hk _ o D.l1z D.l1TO D.l1i1 D.l1i2 e, m2.at fun o e => hk _ o D.l2z D.l2TO D.l2i1 D.l2i2 e,
      .inr ⟨_, false, _, a1, a5, lt hz, n1, n2, Nat.ne_of_gt hSs⟩⟩ a5 a6 fun c o hc e => ?_
    simp only [List.mem_cons, List.not_mem_nil, or_false, not_or] at hc
    exact hk c o hc.1 hc.2.1 hc.2.2.1 hc.2.2.2 e
  · refine wpAny_pyNext_zip_item_held D hz hT gI h1 h2 m1 m2 ex ey fun h' a1 a3 a4 a5 a6 hk => ?_
    refine hQ h' ⟨hk _ _ D.TIz D.TIi1 D.TIi2 gI, a3, a4, m1.at fun o e => hk _ o D.l1z D.l1i1 D.l1i2 e, m2.at fun o e => hk _ o D.l2z D.l2i1 D.l2i2 e,
      .inr ⟨T, true, ot, a1, hk _ _ r1 r2 r3 hT, r1, r2, r3, r4⟩⟩ a5 a6 fun c o hc e => ?_
    simp only [List.mem_cons, List.not_mem_nil, or_false, not_or] at hc
    exact hk c o hc.1 hc.2.2.1 hc.2.2.2 e
theorem next_zipZ {i : Nat} {Q : Option Value → Shared → Prop} (hA : A.handled = none) (D : ZipApart z TI TO i1 i2 l1 l2) (st : ZipAt z TI TO i1 i2 l1 l2 S xs ys i s.heap) (ex : xs[i]? = none ∨ ys[i]? = none)
    (hQ : ∀ h', (∀ c o, c ∉ [z, TO, i1, i2] → s.heap.get? c = some o → h'.get? c = some o) → Q none { s with heap := h' }) : wpAny (model prog w) A (pyNext (.ref z)) Q E s := by
  obtain ⟨gI, h1, h2, m1, m2, hz⟩ := st
  rcases hz with ⟨hz, a, b, gO⟩ | ⟨T, f, ot, hz, hT, r1, r2, r3, r4⟩
  · refine wpAny_pyNext_zip_end hA D hz gI gO h1 h2 m1 m2 ex fun h' hk => hQ h' fun c o hc e => ?_
    simp only [List.mem_cons, List.not_mem_nil, or_false, not_or] at hc
    exact hk c o hc.1 hc.2.1 hc.2.2.1 hc.2.2.2 e
  · refine wpAny_pyNext_zip_end_held hA D hz hT gI h1 h2 m1 m2 ex fun h' hk => hQ h' fun c o hc e => ?_
    simp only [List.mem_cons, List.not_mem_nil, or_false, not_or] at hc
    exact hk c o hc.1 hc.2.2.1 hc.2.2.2 e
/-- what is known of the whole while the list grows -/
structure ZipInv (z TO i1 i2 S : Addr) (xs ys : Array Value) (J : List Addr → Shared → Prop) : Prop where
  stay : ∀ Ts (s : Shared) h', J Ts s → (∀ c o, c ∉ [S, z, TO, i1, i2] → s.heap.get? c = some o → h'.get? c = some o) → J Ts { s with heap := h' }
  step : ∀ Ts (s : Shared) h' x y, J Ts s → (∀ c ∈ [S, z, TO, i1, i2], c < s.heap.objs.size) → xs[Ts.length]? = some x → ys[Ts.length]? = some y → IsPair h' s.heap.objs.size x y → (∀ c o, c ∉ [S, z, TO, i1, i2] → s.heap.get? c = some o → h'.get? c = some o) → J (Ts ++ [s.heap.objs.size]) { s with heap := h' }
theorem loop_zipK {R : Result → Shared → Prop} {J : List Addr → Shared → Prop} (hA : A.in1.handled = none) (D : ZipApart z TI TO i1 i2 l1 l2) (hS : S ∉ [z, TI, TO, i1, i2, l1, l2]) (V : ZipInv z TO i1 i2 S xs ys J) (hl : xs.size = ys.size) (hn : xs.size ≤ sizeLine) (res : Value) :
    ∀ (k : Nat) (s : Shared) (Ts : List Addr) (c : Nat), xs.size - Ts.length = k → Ts.length ≤ xs.size → ZipAt z TI TO i1 i2 l1 l2 S xs ys Ts.length s.heap → s.heap.get? S = some { cls := .type "list", dict := none, data := .seq (Ts.map Value.ref).toArray c, slots := #[] } → J Ts s → (∀ c ∈ [S, z, TO, i1, i2], c < s.heap.objs.size) →
    (∀ (s' : Shared) Ts' c', s'.heap.get? S = some { cls := .type "list", dict := none, data := .seq (Ts'.map Value.ref).toArray c', slots := #[] } → Ts'.length = xs.size → J Ts' s' → R (.ok (.ret res)) s') →
    codeAny (model prog w) A (.builtin "list.extend.loop" ⟨[.ref S, .ref z, res], []⟩) R s := by
  have hSz : S ∉ [z, TO, i1, i2] := fun h => hS (by simp at h ⊢; rcases h with h | h | h | h <;> simp [h])
  intro k
  induction k with
  | zero =>
    intro s Ts c hk hi st hS1 j hb hR
    refine codeAny_builtin F.entry_extend_loop ?_; rw [Around.under_plainId F.plain_extend_loop _]
    show wpAny _ A.in1 (pyNext (.ref z) >>= _) _ _ s
    refine wpAny_bind (next_zipZ hA D st (.inl (Array.getElem?_eq_none (by omega))) fun h' hk' => wpAny_pure ?_)
    exact hR _ Ts c (hk' _ _ hSz hS1) (by omega) (V.stay _ _ _ j fun c o hc e => hk' c o (fun h => hc (List.mem_cons_of_mem _ h)) e)
  | succ k ih =>
    intro s Ts c hk hi st hS1 j hb hR
    have hlt : Ts.length < xs.size := by omega
    have hlt2 : Ts.length < ys.size := by omega
    have ex := Array.getElem?_eq_getElem hlt
    have ey := Array.getElem?_eq_getElem hlt2
    refine codeAny_builtin F.entry_extend_loop ?_; rw [Around.under_plainId F.plain_extend_loop _]
    show wpAny _ A.in1 (pyNext (.ref z) >>= _) _ _ s
    refine wpAny_bind (next_zipK D (Heap.lt_size hS1) st ex ey fun h' st' hp hz' hk' => ?_)
    have j' := V.step _ _ h' _ _ j hb ex ey hp fun c o hc e => hk' c o (fun h => hc (List.mem_cons_of_mem _ h)) e
    have hS' := hk' _ _ hSz hS1
    have e2 : ((Ts ++ [s.heap.objs.size]).map Value.ref).toArray = (Ts.map Value.ref).toArray.push (.ref s.heap.objs.size) := by simp
    have l2 : (Ts ++ [s.heap.objs.size]).length = Ts.length + 1 := by simp
    have hS2 : ∃ c', (h'.update S (Obj.mapSeq (·.push (.ref s.heap.objs.size)))).get? S = some { cls := .type "list", dict := none, data := .seq ((Ts ++ [s.heap.objs.size]).map Value.ref).toArray c', slots := #[] } := by
      refine ⟨?_, ?_⟩
      rotate_left
      · rw [e2]
        exact Heap.get?_update_self (Obj.mapSeq (·.push (.ref s.heap.objs.size))) hS' rfl
    obtain ⟨c2, hS2⟩ := hS2
    show wpAny _ A.in1 (updateSeq S (·.push (.ref s.heap.objs.size)) >>= _) _ _ _
    refine wpAny_bind ?_
    refine wpAny_updateSeq hS' rfl (wpAny_pure ⟨plainId_quiet F.plain_extend_loop _, ih _ (Ts ++ [s.heap.objs.size]) c2 (by rw [l2]; omega) (by rw [l2]; omega) ?_ hS2 ?_ (fun c hc => ?_) hR⟩)
      (by show (Ts.map Value.ref).toArray.size ≤ _; rw [List.size_toArray, List.length_map]; omega) (by show ((Ts.map Value.ref).toArray.push _).size ≤ sizeLine + 1; rw [Array.size_push, List.size_toArray, List.length_map]; omega)
    · rw [l2]
      exact st'.on hS fun c o hc e => (Heap.get?_update_other _ _ (Ne.symm hc)).trans e
    · refine V.stay _ _ _ j' fun c o hc e => ?_
      exact (Heap.get?_update_other _ _ (fun h : S = c => hc (by rw [h]; exact List.mem_cons_self))).trans e
    · show c < (h'.update S _).objs.size
      rw [(Heap.SameBut.update ..).1, hz']
      exact Nat.lt_succ_of_lt (hb c hc)
theorem ext_zipK {R : Result → Shared → Prop} {J : List Addr → Shared → Prop} (hA : A.in1.handled = none) (D : ZipApart z TI TO i1 i2 l1 l2) (hS : S ∉ [z, TI, TO, i1, i2, l1, l2]) (V : ZipInv z TO i1 i2 S xs ys J) (hl : xs.size = ys.size) (hn : xs.size ≤ sizeLine) (res : Value) {c₀ : Nat}
    (hz : IsZip s.heap z TI TO .none) (st : ZipAt z TI TO i1 i2 l1 l2 S xs ys 0 s.heap) (hS1 : s.heap.get? S = some { cls := .type "list", data := .seq #[] c₀ }) (j : J [] s) (hb : ∀ c ∈ [S, z, TO, i1, i2], c < s.heap.objs.size)
    (hR : ∀ (s' : Shared) Ts' c', s'.heap.get? S = some { cls := .type "list", dict := none, data := .seq (Ts'.map Value.ref).toArray c', slots := #[] } → Ts'.length = xs.size → J Ts' s' → R (.ok (.ret res)) s') :
    wpAny (model prog w) A.in1 (Builtin.List.listExtendWith (.ref S) (.ref z) res)
      (fun fin s' => match fin with | .done f => R (.ok f) s' | .again c' => c'.quiet = true ∧ codeAny (model prog w) A c' R s') (fun e s' => R (.error e) s') s := by
  have hSI : S ≠ z := fun e => hS (by rw [e]; exact List.mem_cons_self)
  unfold Builtin.List.listExtendWith; refine wpAny_bind (wpAny_typeOf st.type ?_)
  have d1 : Builtin.List.listSameRef (.ref S) (.ref z) = false := by simp [Builtin.List.listSameRef, hSI]
  have d2 : (Value.type "zip" == Value.type "list") = false := by decide
  have d3 : (Value.type "zip" == Value.type "tuple") = false := by decide
  simp only [d1, d2, d3, Bool.or_false, Bool.false_eq_true, if_false]
  refine wpAny_bind (wpAny_pyIter_zip hz ?_)
  refine wpAny_bind (wpAny_holding ?_); unfold Builtin.List.listLengthHint
  refine wpAny_bind (wpAny_specialOf st.type zl_no_len ?_)
  show wpAny _ A.in1 (specialOf (Value.ref z) (Str.ofString "__length_hint__") >>= _) _ _ _
  refine wpAny_bind (wpAny_specialOf st.type zl_no_hint ?_)
  refine wpAny_pure ?_
  show wpAny _ A.in1 (rule "list.extend.makes-room" >>= fun _ => Builtin.List.listTouch (.ref S) >>= fun _ => again (.builtin "list.extend.loop" ⟨[.ref S, .ref z, res], []⟩)) _ _ _
  refine wpAny_bind (wpAny_rule ?_); refine wpAny_bind ?_
  show wpAny _ A.in1 (updateSeq S (·.push .none) >>= fun _ => updateSeq S (·.pop)) _ _ _
  refine wpAny_bind (wpAny_updateSeq hS1 rfl ?_)
  have w2 := Heap.get?_update_self (Obj.mapSeq (·.push Value.none)) hS1 rfl
  refine wpAny_updateSeq (hz := by seq_fits) w2 rfl ?_
  have w3 := Heap.get?_update_self (Obj.mapSeq (·.pop)) w2 rfl
  have kp : ∀ b o, b ≠ S → s.heap.get? b = some o → ((s.heap.update S (Obj.mapSeq (·.push Value.none))).update S (Obj.mapSeq (·.pop))).get? b = some o :=
    fun b o hb e => (Heap.get?_update_other _ _ (Ne.symm hb)).trans ((Heap.get?_update_other _ _ (Ne.symm hb)).trans e)
  refine wpAny_pure ⟨plainId_quiet F.plain_extend_loop _, loop_zipK hA D hS V hl hn _ _ _ [] _ rfl (Nat.zero_le _) (st.on hS kp) w3 (V.stay [] s _ j fun c o hc e => kp c o (fun h => hc (by rw [h]; exact List.mem_cons_self)) e) (fun c hc => ?_) hR⟩
  show c < ((s.heap.update S _).update S _).objs.size
  rw [(Heap.SameBut.update ..).1, (Heap.SameBut.update ..).1]
  exact hb c hc
theorem call_listZ {Q : Value → Shared → Prop} {J : List Addr → Shared → Prop} (hA : A.handled = none) (D : ZipApart z TI TO i1 i2 l1 l2) (hS : s.heap.objs.size ∉ [z, TI, TO, i1, i2, l1, l2]) (V : ZipInv z TO i1 i2 s.heap.objs.size xs ys J) (hl : xs.size = ys.size) (hn : xs.size ≤ sizeLine)
    (hz : IsZip s.heap z TI TO .none) (st : ZipAt z TI TO i1 i2 l1 l2 s.heap.objs.size xs ys 0 s.heap) (hb : ∀ c ∈ [z, TO, i1, i2], c < s.heap.objs.size) (j : ∀ h', (∀ b o, s.heap.get? b = some o → h'.get? b = some o) → J [] { s with heap := h' })
    (hQ : ∀ (s' : Shared) Ts' c', s'.heap.get? s.heap.objs.size = some { cls := .type "list", dict := none, data := .seq (Ts'.map Value.ref).toArray c', slots := #[] } → Ts'.length = xs.size → J Ts' s' → Q (.ref s.heap.objs.size) s') :
    wpAny (model prog w) A (call (.type "list") [.ref z]) Q E s := by
  refine callType_codes (Q₁ := fun obj s₁ => obj = .ref s.heap.objs.size ∧ s₁ = { s with heap := s.heap.push { cls := .type "list", data := .seq #[] } }) F.called_list (F.typeCall_list_1 _) F.entry_list_init
    (code_list_new _ ⟨rfl, rfl⟩) fun obj s₁ h₁ => ?_
  obtain ⟨rfl, rfl⟩ := h₁
  have hS1 : (s.heap.push { cls := .type "list", data := .seq #[] }).get? s.heap.objs.size = some { cls := .type "list", data := .seq #[] } := Heap.get?_push_size _ rfl
  refine ⟨⟨_, hS1, rfl⟩, F.args_list_init_2 _ _, ?_⟩
  show wpAny _ A.in1.in1 (do let old ← Builtin.List.listItems (.ref s.heap.objs.size); Builtin.List.listUpdate (.ref s.heap.objs.size) (fun _ => #[]); letGo old.toList.reverse; Builtin.List.listExtendWith (.ref s.heap.objs.size) (.ref z) .none) _ _ _
  refine wpAny_bind ?_
  unfold Builtin.List.listItems
  refine wpAny_bind (wpAny_seqItems hS1 rfl (wpAny_pure ?_))
  show wpAny _ A.in1.in1 (updateSeq s.heap.objs.size (fun _ => #[]) >>= fun _ => letGo (#[] : Array Value).toList.reverse >>= fun _ => Builtin.List.listExtendWith (.ref s.heap.objs.size) (.ref z) .none) _ _ _
  refine wpAny_bind (wpAny_updateSeq hS1 rfl ?_)
  have w2 := Heap.get?_update_self (Obj.mapSeq (fun _ => (#[] : Array Value))) hS1 rfl
  have kp : ∀ b o, s.heap.get? b = some o → ((s.heap.push { cls := .type "list", data := .seq #[] }).update s.heap.objs.size (Obj.mapSeq (fun _ => (#[] : Array Value)))).get? b = some o :=
    fun b o e => (Heap.get?_update_other _ _ (Nat.ne_of_gt (Heap.lt_size e))).trans (Heap.get?_push_of_some _ e)
  refine wpAny_bind (wpAny_letGo ?_)
  have hb' : ∀ c ∈ [s.heap.objs.size, z, TO, i1, i2], c < ((s.heap.push { cls := .type "list", data := .seq #[] }).update s.heap.objs.size (Obj.mapSeq (fun _ => (#[] : Array Value)))).objs.size := fun c hc => by
    rw [(Heap.SameBut.update ..).1, Heap.size_push]
    rcases List.mem_cons.mp hc with rfl | hc
    · exact Nat.lt_succ_self _
    · exact Nat.lt_succ_of_lt (hb c hc)
  exact ext_zipK (A := A.in1) (R := wants (fun r s₂ => r = Value.none ∧ Q (Value.ref s.heap.objs.size) s₂) E) hA D hS V hl hn .none (kp _ _ hz) (st.on hS fun c o _ e => kp c o e) w2 (j _ kp) hb' fun s' Ts' c' h1 h2 h3 => ⟨rfl, hQ s' Ts' c' h1 h2 h3⟩
end
end PySem
namespace L2
open PySem PySem.Spec PyProof.Rows
/-- new pairs of two lists' items -/
inductive ZipMade : Hp → Hp → List V → List V → List Addr → Prop
  | nil {H : Hp} : ZipMade H H [] [] []
  | snoc {H H1 : Hp} {xs ys : List V} {Ts : List Addr} {x y : V} {T : Addr} (z : ZipMade H H1 xs ys Ts) (h : H1 T = none) : ZipMade H (upd H1 T (.tup [x, y])) (xs ++ [x]) (ys ++ [y]) (Ts ++ [T])
def tLstZ (K : PySem.W.Frag) (ta : TA) : TE := fun σ H Q => ta σ H fun vs H1 => ∃ (a b : Addr) (xs ys : List V), vs = [.ref a, .ref b] ∧ SqL K H1 a xs ∧ SqL K H1 b ys ∧ xs.length = ys.length ∧ ∀ H2 Ts q, ZipMade H1 H2 xs ys Ts → H2 q = none → Q (.ref q) (upd H2 q (.lst (Ts.map V.ref)))
theorem vals_refsZ : ∀ Ts : List Addr, Vals (Ts.map V.ref) (Ts.map Value.ref)
  | [] => .nil
  | _ :: Ts => .cons rfl (vals_refsZ Ts)
theorem vals_at : ∀ {xs : List V} {us : List Value} {i : Nat} {u : Value}, Vals xs us → us[i]? = some u → ∃ x, xs[i]? = some x ∧ RelV x u
  | _, _, _, _, .nil, h => by simp at h
  | _, _, 0, _, .cons r _, h => by simp at h; subst h; exact ⟨_, rfl, r⟩
  | _, _, i + 1, _, .cons _ r, h => by
    obtain ⟨x, hx, q⟩ := vals_at r (by simpa using h)
    exact ⟨x, by simpa using hx, q⟩
/-- an object of our own making is taken in -/
theorem Inv.adopt {X : Cx} {pins : List (Addr × Obj)} {σ : St} {H : Hp} {s : Shared} {S : Addr} {ob : HO} (I : Inv X pins σ H s) (f : FpOk X pins H S) (new : ObjOk X.prog X.w (upd H S ob) s.heap S ob) : Inv X pins σ (upd H S ob) s := by
  have hn := f.1
  refine I.step (h' := s.heap) (t' := s.toks) (g' := s.gens) (d' := s.drawn) (ch := [S]) (fun b hb => ?_) (fun b o _ _ _ e _ => e) (fun b o _ _ _ e _ => ⟨o.slots, e⟩) (fun b o hc _ n => ?_) (fun b o _ e => ⟨o, e⟩)
    (fun b xs e => by rw [upd_ne (ne_of_none e hn)]; exact e) (fun b o u e => by rw [upd_ne (ne_of_none e hn)]; exact e) (fun b ps e => ⟨#[], by rw [upd_ne (ne_of_none e hn), e]; simp⟩) (fun m hm => hm) (fun b u e => ?_) I.bare
  · rw [List.mem_singleton.mp hb]
    exact ⟨f.2.2.2.1, f.2.1, f.2.2.2.2.1, f.2.2.2.2.2⟩
  · rw [upd_ne (fun z => hc (by rw [z]; exact List.mem_singleton_self _))]
    exact n
  · by_cases hb : b = S
    · subst hb
      rw [upd_same] at e
      cases e
      exact new
    · rw [upd_ne hb] at e
      exact (I.hok b u e).stay (fun c v _ q => q) (fun c q => by rw [upd_ne (ne_of_none q hn)]; exact q) fun c xs q => by rw [upd_ne (ne_of_none q hn)]; exact q
theorem take_snoc {α : Type} {l : List α} {i : Nat} {x : α} (h : l[i]? = some x) : l.take (i + 1) = l.take i ++ [x] := by
  rw [List.take_succ, h]; rfl
theorem pe_listZ {X : Cx} {a b : Expr} {ta : TA} {p pos p2 pos2 : Pos} (hc : X.calm = true) (hg : Gl X "list") (hm : X.mg "list" = none) (hg2 : Gl X "zip") (hm2 : X.mg "zip" = none) (ha : PA X [a, b] ta)
    (hs : starEach [a, b] X.env = (false, eval a X.env) :: starEach [b] X.env := by rfl) (hpl : (backTo pos2 (starEach [b] X.env)).any (·.1) = false := by rfl)
    (na : starEach [.Call (.Name "zip" p2) [a, b] [] pos2] X.env = (false, eval (.Call (.Name "zip" p2) [a, b] [] pos2) X.env) :: starEach [] X.env := by rfl) :
    PE X (.Call (.Name "list" p) [.Call (.Name "zip" p2) [a, b] [] pos2] [] pos) (tLstZ X.K ta) := by
  refine ⟨fun pins s σ H Q I h => ?_⟩
  refine Call_ (ld_blt I hg hm boot_list (PyProof.Rows.callWith_type1 (args_cons (Call_ (ld_blt I hg2 hm2 PyProof.Rows.boot_zip (PyProof.Rows.callWith_type1 (thn (ha.run pos2 pins s σ H _ I h) fun us s1 ⟨vs, H1, I1, r1, q1⟩ => ?_) hs hpl))) na) na))
  obtain ⟨l1, l2, xs, ys, e, hqx, hqy, hl, q⟩ := q1
  subst e
  cases r1 with
  | cons r rr =>
    cases rr with
    | cons r' rr =>
      cases rr
      cases r
      cases r'
      obtain ⟨its, rv, p1, z1⟩ := I1.list hqx
      obtain ⟨its2, rv2, p2, z2⟩ := I1.list hqy
      have e1 := rv.length
      have e2 := rv2.length
      refine call_zip_2 p1.isList p2.isList fun h' hz gI gO h1 h2 hsz hk => ?_
      refine args_nil ?_
      have I2 : Inv X pins σ H1 { s1 with heap := h' } := I1.kept (t' := s1.toks) hk
      have a1 : l1 < s1.heap.objs.size := p1.lt
      have a2 : l2 < s1.heap.objs.size := p2.lt
      have hS : h'.objs.size ∉ [s1.heap.objs.size + 4, s1.heap.objs.size + 2, s1.heap.objs.size + 3, s1.heap.objs.size, s1.heap.objs.size + 1, l1, l2] := by
        rw [hsz]
        simp only [List.mem_cons, List.not_mem_nil, or_false, not_or]
        refine ⟨?_, ?_, ?_, ?_, ?_, ?_, ?_⟩ <;> first | exact Nat.ne_of_gt (by omega) | exact Nat.ne_of_gt (Nat.lt_of_lt_of_le a1 (Nat.le_add_right _ _)) | exact Nat.ne_of_gt (Nat.lt_of_lt_of_le a2 (Nat.le_add_right _ _))
      have fresh : ∀ c, c ∈ [h'.objs.size, s1.heap.objs.size + 4, s1.heap.objs.size + 3, s1.heap.objs.size, s1.heap.objs.size + 1] → s1.heap.objs.size ≤ c := fun c hcm => by
        have e' : c = h'.objs.size ∨ c = s1.heap.objs.size + 4 ∨ c = s1.heap.objs.size + 3 ∨ c = s1.heap.objs.size ∨ c = s1.heap.objs.size + 1 := by simpa using hcm
        rcases e' with z | z | z | z | z <;> rw [z] <;> first | exact Nat.le_refl _ | exact Nat.le_add_right _ _ | (rw [hsz]; exact Nat.le_add_right _ _)
      let J : List Addr → Shared → Prop := fun Ts s2 => ∃ H2, Inv X pins σ H2 s2 ∧ ZipMade H1 H2 (xs.take Ts.length) (ys.take Ts.length) Ts ∧ ∀ c, c ∈ [h'.objs.size, s1.heap.objs.size + 4, s1.heap.objs.size + 3, s1.heap.objs.size, s1.heap.objs.size + 1] → FpOk X pins H2 c
      have VI : ZipInv (s1.heap.objs.size + 4) (s1.heap.objs.size + 3) s1.heap.objs.size (s1.heap.objs.size + 1) h'.objs.size its.toArray its2.toArray J := by
        refine ⟨fun Ts s2 h2 ⟨H2, J1, J2, J3⟩ k => ⟨H2, J1.turnedL (t' := s2.toks) k J3, J2, J3⟩, fun Ts s2 h2 u u2 ⟨H2, J1, J2, J3⟩ hb hx hy hp k => ?_⟩
        have hu : its[Ts.length]? = some u := by simpa using hx
        have hu2 : its2[Ts.length]? = some u2 := by simpa using hy
        obtain ⟨x, hx, ru⟩ := vals_at rv hu
        obtain ⟨y, hy, ru2⟩ := vals_at rv2 hu2
        have new : ObjOk X.prog X.w (upd H2 s2.heap.objs.size (.tup [x, y])) h2 s2.heap.objs.size (.tup [x, y]) :=
          ⟨by show 2 ≤ sizeLine; decide, [u, u2], .cons ru (.cons ru2 .nil), ⟨_, hp, rfl, _, rfl⟩⟩
        refine ⟨_, J1.turnedNew (t' := s2.toks) k J3 (Nat.le_refl _) new, ?_, fun c hcm => ?_⟩
        · rw [show (Ts ++ [s2.heap.objs.size]).length = Ts.length + 1 by simp, take_snoc hx, take_snoc hy]
          exact .snoc J2 (J1.hok.fresh (Nat.le_refl _))
        · have o := J3 c hcm
          refine ⟨?_, o.2⟩
          rw [upd_ne (Nat.ne_of_lt (hb c hcm))]
          exact o.1
      have st : ZipAt (s1.heap.objs.size + 4) (s1.heap.objs.size + 2) (s1.heap.objs.size + 3) s1.heap.objs.size (s1.heap.objs.size + 1) l1 l2 h'.objs.size its.toArray its2.toArray 0 h' :=
        ⟨gI, h1, h2, p1.isList.at fun o e => hk _ _ e, p2.isList.at fun o e => hk _ _ e, .inl ⟨hz, _, _, gO⟩⟩
      refine call_listZ (s := { s1 with heap := h' }) (J := J) (I2.ok.hd hc) (PySem.W.ktu_apart s1.heap.objs.size l1 l2 a1 a2) hS VI (by simp; omega) (by simp; omega) hz st (fun c hcm => ?_) (fun h2 k => ⟨H1, I2.kept (t' := s1.toks) k, ?_, fun c hcm => I1.fpOk (fresh c hcm) (I1.hok.fresh (fresh c hcm))⟩) fun s2 Ts c' g m2 ⟨H2, J1, J2, J3⟩ => ?_
      · have e' : c = s1.heap.objs.size + 4 ∨ c = s1.heap.objs.size + 3 ∨ c = s1.heap.objs.size ∨ c = s1.heap.objs.size + 1 := by simpa using hcm
        show c < h'.objs.size
        rw [hsz]
        rcases e' with z | z | z | z <;> rw [z] <;> first | exact Nat.add_lt_add_left (by decide) _ | exact Nat.lt_add_of_pos_right (by decide)
      · simpa using ZipMade.nil
      · have n := (J3 h'.objs.size List.mem_cons_self).1
        have lx : Ts.length = xs.length := by rw [m2]; simp; omega
        rw [lx, List.take_of_length_le (Nat.le_refl _), List.take_of_length_le (by omega)] at J2
        refine ⟨.ref _, upd H2 _ (.lst (Ts.map V.ref)), J1.adopt (J3 _ List.mem_cons_self) ⟨?_, Ts.map Value.ref, c', vals_refsZ Ts, g⟩, rfl, q _ Ts _ J2 n⟩
        rw [List.length_map, lx]
        exact z1
end L2
namespace Pr
open PySem L2
theorem dens_snoc {K : Fg} {H : Hp} {x : V} : ∀ {vs : List V} {ds : List D}, Dens K H (vs ++ [x]) ds → ∃ es d, ds = es ++ [d] ∧ Dens K H vs es ∧ Den K H x d
  | [], _, .cons r .nil => ⟨[], _, rfl, .nil, r⟩
  | _ :: _, _, .cons r t => by
    obtain ⟨es, d, rfl, a, b⟩ := dens_snoc t
    exact ⟨_ :: es, d, rfl, .cons r a, b⟩
theorem _root_.L2.ZipMade.len {H1 H2 : Hp} {xs ys : List V} {Ts : List Addr} (z : ZipMade H1 H2 xs ys Ts) : xs.length = ys.length := by
  induction z with
  | nil => rfl
  | snoc _ _ ih => simp [ih]
theorem zipMade_den {K : Fg} {H1 H2 : Hp} {xs ys : List V} {Ts : List Addr} (z : ZipMade H1 H2 xs ys Ts) : ∀ {H0 : Hp} {as bs : List D}, Same H0 H1 → Dens K H0 xs as → Dens K H0 ys bs → ∃ H0', Stp H0 H1 H0' H2 ∧ Dens K H0' (Ts.map V.ref) (pairsD as bs) := by
  induction z with
  | nil =>
    intro H0 as bs e a b
    cases a
    cases b
    exact ⟨H0, Stp.refl e, .nil⟩
  | snoc z h ih =>
    rename_i x y T
    intro H0 as bs e a b
    obtain ⟨as', x', rfl, a1, a2⟩ := dens_snoc a
    obtain ⟨bs', y', rfl, b1, b2⟩ := dens_snoc b
    obtain ⟨H0', s, d⟩ := ih e a1 b1
    have lx : as'.length = bs'.length := by
      have q1 := a1.length
      have q2 := b1.length
      have q3 := z.len
      omega
    refine ⟨upd H0' _ (.tup [_, _]), s.trans (Stp.new s.c h), ?_⟩
    have n := same_new (o := HO.tup [x, y]) (s.c.free h)
    rw [List.map_append]
    unfold pairsD
    rw [List.zipWith_append lx]
    exact (d.up n).append (.cons (.tup upd_same (.cons ((a2.up s.a).up n) (.cons ((b2.up s.a).up n) .nil))) .nil)
theorem ev_listZ {K : Fg} {E : XK} {G : Sl} {ta : TA} {as bs : List D} (h : EvA K ta G [.lst as, .lst bs]) (hl : as.length = bs.length) : EvR K E (tLstZ K ta) G (.new (pairsD as bs)) := fun σ H0 H e s Q q =>
  h σ H0 H e s _ fun vs H1 H1' s1 r1 => by
    obtain ⟨v, ws, rfl, a, b⟩ := r1.cons_out
    obtain ⟨v', ws, rfl, a', b⟩ := b.cons_out
    obtain rfl := b.nil_out
    obtain ⟨p, xs, rfl, hp, tp⟩ := a.lst_out
    obtain ⟨p', xs', rfl, hp', tp'⟩ := a'.lst_out
    have l1 := tp.length
    have l2 := tp'.length
    refine ⟨p, p', xs, xs', rfl, .inl (.inl (s1.c _ _ hp)), .inl (.inl (s1.c _ _ hp')), by omega, fun H2 Ts r zm hr => ?_⟩
    obtain ⟨H0', t, d⟩ := zipMade_den zm s1.c tp tp'
    have t2 := s1.trans t
    exact q r _ H0' _ (t2.trans (Stp.own t2.c hr)) (t2.b.free hr) (t2.c.free hr) upd_same d
end Pr
/-! Part L: own instances lent as data; own dicts in their fields; makes with keywords; a second name of a def. -/
namespace Pr
open PySem L2
/-! ### data that need neither the class at C nor a dict -/
mutual
def cleanD (C : Addr) : D → Bool
  | .lst ds => cleanDs C ds
  | .tup ds => cleanDs C ds
  | .ins C' _ ds => decide (C' ≠ C) && cleanDs C ds
  | .scr _ => false
  | .dic _ => false
  | .non => true
  | .bl _ => true
  | .int _ => true
  | .str _ => true
  | .ref _ => true
  | .ty _ => true
def cleanDs (C : Addr) : List D → Bool
  | [] => true
  | d :: ds => cleanD C d && cleanDs C ds
end
theorem clean_iL (C : Addr) : ∀ xs : List Int, cleanDs C (iL xs) = true
  | [] => rfl
  | x :: xs => by
    show (cleanD C (.int x) && cleanDs C (iL xs)) = true
    rw [clean_iL C xs]
    rfl
def hole (H : Hp) (p b : Addr) : Hp := fun q => if q = p ∨ q = b then none else H q
theorem hole_at {H : Hp} {p b q : Addr} {o : HO} (h : H q = some o) (h1 : H p ≠ some o) (h2 : H b ≠ some o) : hole H p b q = some o := by
  unfold hole
  rw [if_neg]
  · exact h
  · rintro (rfl | rfl)
    · exact h1 h
    · exact h2 h
mutual
theorem Den.thaw {K : Fg} {H : Hp} {p b C dx : Addr} {gs : List (Str × V)} {kvs : List (Key × V)} (hp : H p = some (.ins C dx gs)) (hb : H b = some (.dK kvs)) : ∀ {v : V} {d : D}, Den K H v d → cleanD C d = true → Den K (hole H p b) v d
  | _, _, .non, _ => .non
  | _, _, .bl b, _ => .bl b
  | _, _, .int b, _ => .int b
  | _, _, .str b, _ => .str b
  | _, _, .ref b, _ => .ref b
  | _, _, .ty b, _ => .ty b
  | _, _, .lst h t, c => .lst (hole_at h (by rw [hp]; intro e; cases e) (by rw [hb]; intro e; cases e)) (Dens.thaw hp hb t (by unfold cleanD at c; exact c))
  | _, _, .tup h t, c => .tup (hole_at h (by rw [hp]; intro e; cases e) (by rw [hb]; intro e; cases e)) (Dens.thaw hp hb t (by unfold cleanD at c; exact c))
  | _, _, .scr h, c => by unfold cleanD at c; cases c
  | _, _, .ins h n t, c => by
    unfold cleanD at c
    obtain ⟨c1, c2⟩ := (Bool.and_eq_true _ _).mp c
    have c1 := of_decide_eq_true c1
    exact .ins (hole_at h (by rw [hp]; intro e; cases e; exact c1 rfl) (by rw [hb]; intro e; cases e)) n (Dens.thaw hp hb t c2)
  | _, _, .dic h n, c => by unfold cleanD at c; cases c
theorem Dens.thaw {K : Fg} {H : Hp} {p b C dx : Addr} {gs : List (Str × V)} {kvs : List (Key × V)} (hp : H p = some (.ins C dx gs)) (hb : H b = some (.dK kvs)) : ∀ {vs : List V} {ds : List D}, Dens K H vs ds → cleanDs C ds = true → Dens K (hole H p b) vs ds
  | _, _, .nil, _ => .nil
  | _, _, .cons h t, c => by
    unfold cleanDs at c
    obtain ⟨c1, c2⟩ := (Bool.and_eq_true _ _).mp c
    exact .cons (Den.thaw hp hb h c1) (Dens.thaw hp hb t c2)
end
theorem dens_last {K : Fg} {H : Hp} {e : D} : ∀ {ds : List D} {vs : List V}, Dens K H vs (ds ++ [e]) → ∃ us u, vs = us ++ [u] ∧ Dens K H us ds ∧ Den K H u e
  | [], _, .cons r .nil => ⟨[], _, rfl, .nil, r⟩
  | _ :: _, _, .cons r t => by
    obtain ⟨us, u, rfl, a, b⟩ := dens_last t
    exact ⟨_ :: us, u, rfl, .cons r a, b⟩
/-- an own instance with an own dict as its last field, as data -/
def lentD (C : Addr) (pre : List (Str × D)) (f : Str) (ks : List Int) : D := .ins C (pre.map (·.1) ++ [f]) (pre.map (·.2) ++ [.dic ks])
/-- an own instance at p with an own dict at b -/
structure Lent (O : Om) (C p b : Addr) (pre : List (Str × D)) (f : Str) (ks : List Int) : Prop where
  obj : O p = some (.obj C (pre ++ [(f, .ref b)]))
  dct : ∃ kvs : List (Key × V), O b = some (.raw (.dK kvs)) ∧ kvs.map (·.1) = ks.map Sum.inl ∧ kvs.length < 100000
section
variable {K : Fg} {E : XK} {G : Sl} {O : Om} {N : En} {ta te td ty tv : TE} {t : TA} {C p b : Addr} {f m : Str} {pre : List (Str × D)} {ks : List Int} {H0 H H1 H' : Hp} {P : D → Om → Prop}
theorem Wd.lend (w : Wd K H0 H O) (l : Lent O C p b pre f ks) : ∃ (H1 : Hp) (dx : Addr) (gs : List (Str × V)) (kvs : List (Key × V)), Same H0 H1 ∧ Same H1 H ∧ H1 p = some (.ins C dx gs) ∧ H1 b = some (.dK kvs) ∧ (∀ q, q ≠ p → q ≠ b → H1 q = H0 q) ∧ H0 p = none ∧ H0 b = none ∧ Den K H1 (.ref p) (lentD C pre f ks) := by
  obtain ⟨kvs, hb, hk, _⟩ := l.dct
  obtain ⟨hb0, hbH⟩ := own_raw w hb
  obtain ⟨h0, o, ho, dx, gs, rfl, hn, rd⟩ := w.own p _ l.obj
  have hpb : p ≠ b := one_ne l.obj hb (fun e => by cases e)
  have s1 : Same H0 (upd (upd H0 b (.dK kvs)) p (.ins C dx gs)) := (same_new hb0).trans (same_new (by rw [upd_ne hpb]; exact h0))
  have e2 : (upd (upd H0 b (.dK kvs)) p (.ins C dx gs)) b = some (.dK kvs) := by rw [upd_ne hpb.symm, upd_same]
  refine ⟨upd (upd H0 b (.dK kvs)) p (.ins C dx gs), dx, gs, kvs, s1, fun q x hq => ?_, upd_same, e2, fun q q1 q2 => by rw [upd_ne q1, upd_ne q2], h0, hb0, ?_⟩
  · by_cases q1 : q = p
    · subst q1
      rw [upd_same] at hq
      rw [ho]
      exact hq
    · rw [upd_ne q1] at hq
      by_cases q2 : q = b
      · subst q2
        rw [upd_same] at hq
        rw [hbH]
        exact hq
      · rw [upd_ne q2] at hq
        exact w.le _ _ hq
  · rw [List.map_append] at hn
    rw [List.map_append] at rd
    obtain ⟨us, u, e, r1, r2⟩ := dens_last rd
    obtain rfl := r2.ref_eq
    refine .ins upd_same hn ?_
    rw [e]
    exact (r1.up s1).append (.cons (.dic e2 hk) .nil)
theorem Wd.thaw {H1' : Hp} {dx : Addr} {gs : List (Str × V)} {kvs : List (Key × V)} (w : Wd K H0 H O) (s1 : Same H0 H1) (e3 : ∀ q, q ≠ p → q ≠ b → H1 q = H0 q) (p0 : H0 p = none) (b0 : H0 b = none) (st : Stp H1 H H1' H') : Same H0 (hole H1' p b) ∧ Wd K (hole H1' p b) H' O := by
  have sm : Same H0 (hole H1' p b) := fun q o hq => by
    unfold hole
    rw [if_neg]
    · exact st.a _ _ (s1 _ _ hq)
    · rintro (rfl | rfl)
      · rw [p0] at hq; cases hq
      · rw [b0] at hq; cases hq
  refine ⟨sm, ⟨fun q o hq => ?_, fun q c hc => ?_⟩⟩
  · unfold hole at hq
    split at hq
    · cases hq
    · exact st.c _ _ hq
  · obtain ⟨h0, o, ho, r⟩ := w.own q c hc
    refine ⟨?_, o, st.b _ _ ho, r.up sm⟩
    unfold hole
    split
    · rfl
    · rename_i hq
      have q1 : q ≠ p := fun e => hq (.inl e)
      have q2 : q ≠ b := fun e => hq (.inr e)
      cases hz : H1' q with
      | none => rfl
      | some z =>
        have := st.f q (by rw [e3 q q1 q2]; exact h0) (by rw [hz]; intro e; cases e)
        rw [this] at ho
        cases ho
theorem SlD.lend {σ : L2.St} {i : Nat} {d : D} (s : SlD K H0 σ G) (e : Same H0 H1) (hi : G[i]? = some (some (.ref p))) (r : Den K H1 (.ref p) d) : SlD K H1 σ (G.set i (some d)) := by
  refine ⟨by rw [List.length_set]; exact s.len, fun j x hj => ?_⟩
  by_cases hij : i = j
  · subst hij
    obtain ⟨v, hv, rv⟩ := s.has i _ hi
    obtain rfl := rv.ref_eq
    rw [List.getElem?_set_self (List.getElem?_eq_some_iff.mp hi).1] at hj
    cases hj
    exact ⟨_, hv, r⟩
  · rw [List.getElem?_set_ne hij] at hj
    obtain ⟨v, hv, rv⟩ := s.has j _ hj
    exact ⟨v, hv, rv.up e⟩
/-- an expression that only reads: the instance is data meanwhile -/
theorem em_lend {i : Nat} {d : D} (l : Lent O C p b pre f ks) (hi : G[i]? = some (some (.ref p))) (h : EvR K E0 te (G.set i (some (lentD C pre f ks))) (.val d)) (hc : cleanD C d = true) (k : P d O) : EvM K te G O P := fun σ H0 H w s Q q => by
  obtain ⟨H1, dx, gs, kvs, s1, s2, e1, e2, e3, p0, b0, r⟩ := w.lend l
  refine h σ H1 H s2 (s.lend s1 hi r) Q fun v H1' H' st rv => ?_
  obtain ⟨sm, w2⟩ := w.thaw (dx := dx) (gs := gs) (kvs := kvs) s1 e3 p0 b0 st
  exact q v d _ H' O k sm w2 (rv.thaw (st.a _ _ e1) (st.a _ _ e2) hc)
theorem mt_lend {tt : TT} {i : Nat} {x : Bool} {PT : Bool → Om → Prop} (l : Lent O C p b pre f ks) (hi : G[i]? = some (some (.ref p))) (h : EvT K tt (G.set i (some (lentD C pre f ks))) x) (k : PT x O) : EvMT K tt G O PT := fun σ H0 H w s Q q => by
  obtain ⟨H1, dx, gs, kvs, s1, s2, e1, e2, e3, p0, b0, r⟩ := w.lend l
  refine h σ H1 H s2 (s.lend s1 hi r) Q fun H1' H' st => ?_
  obtain ⟨sm, w2⟩ := w.thaw (dx := dx) (gs := gs) (kvs := kvs) s1 e3 p0 b0 st
  exact q x _ H' O k sm w2
/-- a method that may change its own instance -/
theorem em_methM {PS : List D → Om → (D → Om → Prop) → Prop} {E' : XK} (h : EvM K ta G O fun o O1 => ∃ (p : Addr) (fs : List (Str × D)), o = .ref p ∧ O1 p = some (.obj C fs) ∧ m ∉ fs.map (·.1) ∧ EvMA K t G O1 fun es O2 => PS (.ref p :: es) O2 P) : EvM K (tMeth C m (SpM K PS) [] E' ta t) G O P := fun σ H0 H w s Q q =>
  h σ H0 H w s _ fun x o H1 H1' O1 ⟨p, fs, e, hp, hm, k⟩ s1 w1 r1 => by
    subst e
    obtain rfl := r1.ref_eq
    obtain ⟨h0, ob, ho, dx, gs, rfl, hn, rd⟩ := w1.own p _ hp
    refine ⟨p, dx, gs, rfl, ho, lookup_none_of rfl (by rw [hn]; exact hm), k σ H1 H1' w1 (s.up s1) _ fun vs es H2 H2' O2 k2 s2 w2 r2 => ?_⟩
    rw [List.append_nil]
    exact ⟨H2, O2, .ref p :: es, P, w2, .cons (.ref p) r2, k2, fun d O3 v H3 H3' k3 s3 w3 r3 => q v d H3 H3' O3 k3 ((s1.trans s2).trans s3) w3 r3⟩
/-- C(e, .., k = e, ..): the new instance stays own -/
theorem em_makeN {PI : List D → Om → (D → Om → Prop) → Prop} {E' : XK} {tk : TA} {n j : Nat} {gV : List V → List V → List V} {gD : List D → List D → List D} (hg : ∀ (H : Hp) (us ws : List V) (vs zs : List D), Dens K H us vs → Dens K H ws zs → Dens K H (gV us ws) (gD vs zs))
    (h : EvMA K t G O fun es O1 => EvMA K tk G O1 fun zs O2 => es.length = n ∧ zs.length = j ∧ ∀ x, O2 x = none → PI (gD (.ref x :: es) zs) (oput O2 x (.obj C [])) fun d O3 => d = .non ∧ P (.ref x) O3) : EvM K (tMakeN C n j (SpM K PI) gV E' t tk) G O P := fun σ H0 H w s Q q =>
  h σ H0 H w s _ fun vs es H1 H1' O1 k1 s1 w1 r1 => k1 σ H1 H1' w1 (s.up s1) _ fun ws zs H2 H2' O2 ⟨l1, l2, k2⟩ s2 w2 r2 => by
    refine ⟨by rw [r1.length]; exact l1, by rw [r2.length]; exact l2, fun x dx hx hdx ne => ?_⟩
    have hx0 : H2 x = none := w2.le.free hx
    have hox : O2 x = none := w2.free hx
    have w0 : Wd K H2 (upd (upd H2' dx (.own x)) x (.ins C dx [])) (oput O2 x (.obj C [])) := by
      refine ⟨fun b o hb => ?_, fun b o hb => ?_⟩
      · rw [upd_ne (ne_of_none (w2.le _ _ hb) hx), upd_ne (ne_of_none (w2.le _ _ hb) hdx)]
        exact w2.le _ _ hb
      · by_cases hbx : b = x
        · subst hbx
          rw [oput_same] at hb
          cases hb
          exact ⟨hx0, _, upd_same, dx, [], rfl, rfl, .nil⟩
        · rw [oput_ne hbx] at hb
          obtain ⟨h0, o', ho', r⟩ := w2.own b o hb
          exact ⟨h0, o', by rw [upd_ne hbx, upd_ne (ne_of_none ho' hdx)]; exact ho', r⟩
    refine ⟨H2, _, gD (.ref x :: es) zs, _, w0, hg H2 _ _ _ _ (.cons (.ref x) (r1.up s2)) r2, k2 x hox, ?_⟩
    rintro d O' v H0' H' ⟨rfl, k3⟩ s3 w3 rv
    exact ⟨rv.non_eq, q (.ref x) (.ref x) H0' H' O' k3 ((s1.trans s2).trans s3) w3 (.ref x)⟩
/-! ### dicts with int keys -/
theorem val_some {κ : Type} [DecidableEq κ] {kvs : List (κ × V)} {k : κ} : (valV kvs k).isSome = decide (k ∈ kvs.map (·.1)) := by
  rw [← valV_any, Bool.eq_iff_iff, List.any_eq_true, decide_eq_true_iff, List.mem_map]
  exact ⟨fun ⟨x, hx, e⟩ => ⟨x, hx, of_decide_eq_true e⟩, fun ⟨x, hx, e⟩ => ⟨x, hx, decide_eq_true e⟩⟩
theorem put_keys {kvs : List (Key × V)} {ks : List Int} {i : Int} {v : V} (hk : kvs.map (·.1) = ks.map Sum.inl) (hi : i ∉ ks) : (putK kvs (.inl i) v).map (·.1) = (ks ++ [i]).map (Sum.inl : Int → Key) := by
  have hn : ¬ (kvs.any fun kv => decide (kv.1 = (.inl i : Key))) = true := fun e => by
    rw [List.any_eq_true] at e
    obtain ⟨x, hx, e⟩ := e
    have m := List.mem_map_of_mem (f := (·.1)) hx
    rw [hk, of_decide_eq_true e] at m
    obtain ⟨j, hj, e2⟩ := List.mem_map.mp m
    cases e2
    exact hi hj
  unfold putK
  rw [if_neg hn, List.map_append, List.map_append, hk]
  rfl
theorem dic_in {i : Int} {kvs : List (Key × V)} (hk : kvs.map (·.1) = ks.map Sum.inl) : (valV kvs (.inl i : Key)).isSome = decide (i ∈ ks) := by
  rw [val_some, hk, decide_eq_decide, List.mem_map]
  constructor
  · rintro ⟨a, ha, e⟩
    cases e
    exact ha
  · exact fun h => ⟨i, h, rfl⟩
theorem Den.dic_out {v : V} (h : Den K H v (.dic ks)) : ∃ a kvs, v = .ref a ∧ H a = some (.dK kvs) ∧ kvs.map (·.1) = ks.map Sum.inl := by
  cases h with | dic h n => exact ⟨_, _, rfl, h, n⟩
theorem ev_dIn {i : Int} (hy : EvR K E ty G (.val (.int i))) (hd : EvR K E td G (.val (.dic ks))) : EvR K E (tDIn ty td) G (.val (.bl (decide (i ∈ ks)))) := fun σ H0 H e s Q q =>
  hy σ H0 H e s _ fun y H1 H1' s1 r1 => hd σ H1 H1' s1.c (s.up s1.a) _ fun x H2 H2' s2 r2 => by
    obtain rfl := r1.int_eq
    obtain ⟨a, kvs, rfl, ha, hk⟩ := r2.dic_out
    refine ⟨a, _, rfl, DGet.k (k := .inl i) (s2.c _ _ ha), ?_⟩
    rw [dic_in hk]
    exact q _ H2 H2' (s1.trans s2) (.bl _)
theorem ev_dNotIn {i : Int} (hy : EvR K E ty G (.val (.int i))) (hd : EvR K E td G (.val (.dic ks))) : EvR K E (tDNotIn ty td) G (.val (.bl (!decide (i ∈ ks)))) := fun σ H0 H e s Q q =>
  hy σ H0 H e s _ fun y H1 H1' s1 r1 => hd σ H1 H1' s1.c (s.up s1.a) _ fun x H2 H2' s2 r2 => by
    obtain rfl := r1.int_eq
    obtain ⟨a, kvs, rfl, ha, hk⟩ := r2.dic_out
    refine ⟨a, _, rfl, DGet.k (k := .inl i) (s2.c _ _ ha), ?_⟩
    rw [dic_in hk]
    exact q _ H2 H2' (s1.trans s2) (.bl _)
/-- d[i] = b, d an own dict -/
theorem sv_dputK (h : EvM K tv G O fun v O1 => EvM K td G O1 fun d O2 => ∃ p, d = .ref p ∧ EvM K ty G O2 fun y O3 => ∃ (kvs : List (Key × V)) (i : Int) (x : Bool), v = .bl x ∧ y = .int i ∧ O3 p = some (.raw (.dK kvs)) ∧ kvs.length < 100000 ∧ N.nx G (oput O3 p (.raw (.dK (putK kvs (.inl i) (.bl x)))))) : Sv K E (sDPut td ty tv) N G O := fun De σ H0 H w s n =>
  h σ H0 H w s _ fun v dv H1 H1' O1 k1 s1 w1 r1 => k1 σ H1 H1' w1 (s.up s1) _ fun x d H2 H2' O2 ⟨p, e, k2⟩ s2 w2 r2 => by
    subst e
    obtain rfl := r2.ref_eq
    refine k2 σ H2 H2' w2 (s.up (s1.trans s2)) _ fun y dy H3 H3' O3 ⟨kvs, i, z, ev, ey, hp, hl, k3⟩ s3 w3 r3 => ?_
    subst ev ey
    obtain rfl := r1.bl_eq
    obtain rfl := r3.int_eq
    obtain ⟨h0, hh⟩ := own_raw w3 hp
    refine ⟨p, _, rfl, DPut.k (k := .inl i) hh (Nat.lt_of_lt_of_le hl (by decide)), ?_⟩
    exact n.nx G _ σ H3 _ k3 ((s1.trans s2).trans s3) (w3.put (b := .raw (.dK (putK kvs (.inl i) (.bl z)))) h0 rfl) (s.up ((s1.trans s2).trans s3))
end
theorem Cal.alias {P : Program} {w : World} {K : Fg} {mg : Str → Option Value} {base : Heap} {x y : Str} {k : Nat} {ps : List Str} {sp : Sp} (c : Cal P w K mg base x k ps sp) (h : mg y = mg x) : Cal P w K mg base y k ps sp := by
  obtain ⟨f, fd, hm, r⟩ := c.ex
  exact ⟨f, fd, h.trans hm, r⟩
end Pr
namespace Pr
open PySem PySem.Spec L2
/-- an __init__ that is called with keywords -/
structure CalN (P : Program) (w : World) (K : Fg) (mg : Str → Option Value) (base : Heap) (C : Addr) (k n : Nat) (ks : List Str) (gV : List V → List V → List V) (ps : List Str) (sp : Sp) : Prop where
  ex : ∃ (f : Addr) (fd : FuncData) (g : List Value → List Value → List Value), Mk K C f ∧ FnOk P w K mg base (L2.CX P w) k f fd ps sp ∧ KBn K fd ps (n + 1) ks g gV
theorem pe_mkN {X : Cx} {k n : Nat} {C : Addr} {x : Str} {ps ks : List Str} {sp : Sp} {pos p : Pos} {e : Expr} {es : List Expr} {t tk : TA} {kws : List Keyword} {gV : List V → List V → List V} (I : CalN X.prog X.w X.K X.mg X.base C k n ks gV ps sp) (hr : Room (k + 1) X.A) (ha : PA X (e :: es) t) (hkw : PK X kws tk) (hm : X.mg x = some (.ref C)) (hg : Gl X x := by rfl)
    (hall : (backToKw pos (keywordEach kws X.env)).all (·.1.isSome) = true := by rfl) (hks : (backToKw pos (keywordEach kws X.env)).filterMap (·.1) = ks := by rfl)
    (hdb : (x == ("__debug__" : Str)) = false := by decide) (he : starEach (e :: es) X.env = (false, eval e X.env) :: starEach es X.env := by rfl)
    (hpl : ((backTo pos (starEach (e :: es) X.env)).any (·.1) || (backToKw pos (keywordEach kws X.env)).any (·.1.isNone)) = false := by rfl) : PE X (.Call (.Name x p) (e :: es) kws pos) (tMakeN C n ks.length sp gV E0 t tk) := by
  obtain ⟨f, fd, g, M, F, b⟩ := I.ex
  exact pe_makeN M F hr hg hm b passL ha hkw hall hks hdb he hpl
section
variable {P : Program} {w : World} {K : Fg} {mg : Str → Option Value} {base : Heap} {x qual : Str} {params : Arguments} {body : List Stmt} {scope : Scope} {f C : Addr} {dvs : List V}
theorem calN_nox {N ps : List Str} {k : Nat} {sp : Sp} (n : Nat) (ks : List Str) (g : {α : Type} → List α → List α → List α → List α) (hm : Mk K C f) (F : ∃ fd, FunD K x qual params body scope dvs [] f fd) (hd : dvs ≠ []) (S : FnScope N ps scope) (len : ∀ vs H Q E, sp vs H Q E → vs.length = ps.length)
    (hrel : ∀ {vs ds zs : List V} {us its ws : List Value}, Vals vs us → Vals ds its → Vals zs ws → Vals (g vs ds zs) (g us its ws))
    (h : ∀ (T : Addr) (kV doc pm : Value) (an : Option Addr) (cdv ct : Value) (us its ws : List Value), us.length = n + 1 → its.length = dvs.length → ws.length = ks.length →
      ∃ k, bindArgs (PySem.W.fnOf x qual params body scope (.ref T) kV doc pm an cdv ct) ⟨us, ks.zip ws⟩ = seqItems? (.ref T) >>= k ∧ k (some its.toArray) = pure (ps.zip (g us its ws)))
    (hbody : ∀ (cdv : Value) (A : Around) (outer : List Env) (s : Shared) (H : Hp) (vs : List V) (Q : VK) (E : XK), Room k (A.deeper (PyProof.Rows.envOfC qual scope s.heap.objs.size f cdv)) → sp vs H Q E →
      ∃ t, PSs (cxOf (L2.CX P w) P w K mg base N qual scope f cdv A outer s H E).nox body t ∧ t { nx := fun _ H' => Q .non H', rt := Q } (L2.start N vs) H) : CalN P w K mg base C (k + 1) n ks (fun vs zs => g vs dvs zs) ps sp := by
  obtain ⟨fd, F⟩ := F
  obtain ⟨its, hb⟩ := F.kbindsD (ps := ps) (n + 1) ks g hd hrel h
  refine ⟨f, fd, _, hm, F.ok S len fun cdv A outer s H vs Q E hr hsp => ?_, hb⟩
  obtain ⟨t, a, b⟩ := hbody cdv A outer s H vs Q E hr hsp
  exact ⟨t, a.nox, b⟩
end
/-- the last ones given by keywords, in the other order -/
def gRev {α : Type} (us _ ws : List α) : List α := us ++ ws.reverse
theorem gRev_rel {vs ds zs : List V} {us its ws : List Value} (r : Vals vs us) (_ : Vals ds its) (z : Vals zs ws) : Vals (gRev vs ds zs) (gRev us its ws) := by
  unfold gRev
  exact r.append z.reverse
theorem gRev_den {K : Fg} {H : Hp} {us ws dvs : List V} {vs zs : List D} (r : Dens K H us vs) (z : Dens K H ws zs) : Dens K H (gRev us dvs ws) (vs ++ zs.reverse) := r.append z.reverse
end Pr
/-! Part F: sorted(d.keys()) of a dict with int keys. -/
namespace L2
open PySem PySem.Spec PyProof.Rows
section
variable {P : Program} {w : World} {A : Around} {E : Value → Shared → Prop} {s : Shared}
theorem sorted_dkeys {r d : Addr} {vs : List (Key × Value)} {ep : Nat} {zs : List Int} {Q : Value → Shared → Prop} (hr : s.heap.objs.size = r + 1) (hv : PySem.W.KdlKeysView s.heap r d) (hD : s.heap.DictAt (mixKind P w) d vs ep) (hk : vs.map (·.1) = zs.map Sum.inl) (hh : A.handled = none) (h64 : zs.length < 64)
    (hQ : ∀ (h' : Heap) (tk : Nat) (p : Addr) (out : Array Value) (c : Nat) (ns : List Int), (∀ b o, s.heap.get? b = some o → h'.get? b = some o) → s.heap.objs.size ≤ p → h'.get? p = some (seqObj "list" out c) → IntsAre out.toList ns → ns.Perm zs → ns.Pairwise (· ≤ ·) → Q (.ref p) { s with heap := h', toks := tk }) :
    wpAny (model P w) A (call (.builtin "sorted") [.ref r]) Q E s := by
  have hl : vs.length = zs.length := by
    have := congrArg List.length hk
    rw [List.length_map, List.length_map] at this
    exact this
  refine Calls.call_function_entry kind_sorted plain_sorted entry_sorted (args_sorted1 _) ?_
  unfold Builtin.«sorted»
  refine wpAny_bind (m := checkCount "sorted" 1 1 _) (wpAny_pure ?_)
  refine wpAny_bind (PySem.W.kdu_collect (A := A.in1) (PySem.W.kdl_keys (knd := mixKind P w) (kvs := vs) (ep := ep)) hh ⟨hv, hD⟩ (by rw [hl, sizeLine_eq]; omega) fun h1 tk acc k1 hacc => ?_)
  have hal : acc.toList.length = zs.length := by rw [Array.length_toList, ← hl]; exact hacc.1
  have hint : ∀ (j : Nat) (v : Value), acc.toList[j]? = some v → ∃ (z : Int) (t : Tok), zs[j]? = some z ∧ v = .int z t := fun j v hj => by
    obtain ⟨k, x, hx, hkk⟩ := hacc.2 j v (by rw [← Array.getElem?_toList]; exact hj)
    have hm : (vs.map (·.1))[j]? = some k := by rw [List.getElem?_map, hx]; rfl
    rw [hk, List.getElem?_map] at hm
    cases hz : zs[j]? with
    | none => rw [hz] at hm; cases hm
    | some z =>
      rw [hz] at hm
      obtain rfl := Option.some.inj hm
      rcases keyIs_shape (show keyIs (.inl z) v = true from hkk) with ⟨i, t, e1, e2⟩ | ⟨y, t, e1, e2⟩
      · cases e1
        exact ⟨_, t, rfl, e2⟩
      · cases e1
  have hI : IntsAre acc.toList (acc.toList.map Builtin.Re.reRawOf) := ints_of _ fun v hv => by
    obtain ⟨j, hj⟩ := List.getElem?_of_mem hv
    obtain ⟨z, t, _, e⟩ := hint j v hj
    exact ⟨z, t, e⟩
  have ez : acc.toList.map Builtin.Re.reRawOf = zs := by
    refine List.ext_getElem? fun j => ?_
    rw [List.getElem?_map]
    cases hj : acc.toList[j]? with
    | none =>
      have := List.getElem?_eq_none_iff.mp hj
      exact (List.getElem?_eq_none (by omega)).symm
    | some v =>
      obtain ⟨z, t, e1, e2⟩ := hint j v hj
      rw [e1, e2]
      rfl
  refine wpAny_bind (wpAny_newList ?_ (by rw [hal, sizeLine_eq]; omega))
  have hoL : (h1.push (seqObj "list" acc.toList.toArray 0)).get? h1.objs.size = some (seqObj "list" acc.toList.toArray 0) := Heap.get?_push_size _ rfl
  refine wpAny_bind (wpAny_holding (wpAny_call_entry slot_list_sort ⟨_, hoL, rfl⟩ entry_list_sort (list_sort_tree hoL hI (by rw [hal]; exact h64) fun out ns' a1 a2 a3 => ⟨_, rfl, ?_⟩) (args_list_sort _)))
  obtain ⟨c, hc⟩ := sortedHeap_at (vs := acc.toList) (out := out) hoL
  rw [ez] at a2
  have hz : s.heap.objs.size ≤ h1.objs.size := by
    obtain ⟨o, ho, _⟩ := id hv
    have := Heap.lt_size (k1 _ _ ho)
    rw [hr]
    exact this
  refine wpAny_pure ⟨_, rfl, hQ _ _ h1.objs.size out c ns' (fun b u e => ?_) hz hc a1 a2 a3⟩
  have q := k1 b u e
  have hlt := Heap.lt_size q
  show (sortedHeap (h1.push (seqObj "list" acc.toList.toArray 0)) h1.objs.size acc.toList out).get? b = some u
  rw [sortedHeap_old (Nat.ne_of_lt hlt) (by rw [size_push']; exact Nat.lt_succ_of_lt hlt)]
  exact Heap.get?_push_of_some _ q
end
/-- sorted(e.keys()), e a dict with fewer than 64 ints as keys -/
def tSortKeys (td : TE) : TE := fun σ H Q => td σ H fun x H1 => ∃ (d : Addr) (kvs : List (Key × V)) (zs : List Int), x = .ref d ∧ H1 d = some (.dK kvs) ∧ kvs.map (·.1) = zs.map Sum.inl ∧ zs.length < 64 ∧
  ∀ (ns : List Int) (p : Addr), ns.Perm zs → ns.Pairwise (· ≤ ·) → H1 p = none → Q (.ref p) (upd H1 p (.lst (ns.map V.int)))
theorem pe_sortKeys {X : Cx} {e : Expr} {td : TE} {p pos apos cpos : Pos} (hg : Gl X "sorted") (hm : X.mg "sorted" = none) (he : PE X e td) (hc : X.calm = true := by rfl)
    (hbase : attributeBase e "keys" X.env (eval e X.env) = eval e X.env := by rfl) (hline : (apos.endLine == cpos.line) = true := by rfl) : PE X (.Call (.Name "sorted" p) [.Call (.Attribute e "keys" apos) [] [] cpos] [] pos) (tSortKeys td) := by
  refine ⟨fun pins s σ H Q I h => ?_⟩
  refine Call_ (ld_blt I hg hm boot_sorted ?_)
  refine PyProof.Rows.callWith_builtin1 (PyProof.Rows.args_cons ?_ rfl) rfl rfl
  refine wpAny_Call_method (T := "dict") (id := "dict.keys") hbase rfl hline F.plainAttrs_dict F.slot_dict_keys F.type_dict_keys (thn (he.run pins s σ H _ I h) fun u s1 ⟨x, H1, I1, rx, d, kvs, zs, ex, hd, hz, h64, q⟩ => ?_)
  subst ex
  obtain rfl : u = Value.ref d := rx
  obtain ⟨_, hs, vs, kv, hD⟩ := dk_of I1.hok hd
  obtain ⟨ep, hat⟩ := hD.dictAt
  refine ⟨hD.typeIs, hD.mapOf.noDict, ?_⟩
  have I2 : Inv X pins σ H1 { s1 with heap := s1.heap.push { cls := .type "dict_keys", data := .fields #[.ref d] }, toks := s1.toks } := I1.kept (t' := s1.toks) fun b ob z => Heap.get?_push_of_some _ z
  show wpAny _ _ (callWith cpos (.builtin "dict.keys") [.ref d] [] []) _ X.xe s1
  refine method_meetsIn F.slot_dict_keys F.entry_dict_keys rfl (PySem.evalArgs_none ⟨rfl, hD.typeIs, F.args_dict_keys_1 _, _, PySem.W.kdl_meets_keys (mixKind X.prog X.w) d hs, ⟨vs, hD⟩, ?_⟩)
  refine PyProof.Rows.args_nil ?_
  refine sorted_dkeys (s := { s1 with heap := s1.heap.push { cls := .type "dict_keys", data := .fields #[.ref d] } }) (P := X.prog) (w := X.w) (Heap.size_push ..) ⟨_, Heap.get?_push_size _ rfl, rfl, rfl⟩ (hat.push _) (kv.keys.symm.trans hz) (I1.ok.hd hc) h64 fun h' tk p out c ns k hp hgt hi pm pw => ?_
  have hn : H1 p = none := I2.hok.fresh hp
  have J : Inv X pins σ (upd H1 p (.lst (ns.map V.int))) { s1 with heap := h', toks := tk } := I2.laid (t' := tk) k hp ⟨by rw [List.length_map, pm.length_eq, sizeLine_eq]; omega, out.toList, c, vals_of_ints hi, hgt⟩
  exact ⟨.ref p, _, J, rfl, q ns p pm pw hn⟩
end L2
namespace Pr
open PySem L2
theorem ev_sortKeys {K : Fg} {E : XK} {G : Sl} {td : TE} {zs ys : List Int} (h : EvR K E td G (.val (.dic zs))) (hl : zs.length < 64) (hy : ∀ ns : List Int, ns.Perm zs → ns.Pairwise (· ≤ ·) → ns = ys) : EvR K E (tSortKeys td) G (.new (iL ys)) := fun σ H0 H e s Q q =>
  h σ H0 H e s _ fun v H1 H1' s1 r1 => by
    obtain ⟨a, kvs, rfl, ha, hk⟩ := r1.dic_out
    refine ⟨a, kvs, zs, rfl, s1.c _ _ ha, hk, hl, fun ns p hp hw hpn => ?_⟩
    rw [hy ns hp hw]
    exact q p _ H1 _ (s1.trans (Stp.own s1.c hpn)) (s1.b.free hpn) (s1.c.free hpn) upd_same (Dens.of_ints _)
end Pr
/-! Part E: defs and classes with defaults, called in any shape. -/
namespace Pr
open PySem PySem.Spec L2
/-- where a parameter's value stands: among the given ones (0), the defaults (1), the keywords (2) -/
def gOne {α : Type} (us its ws : List α) (z : Nat × Nat) : Option α := match z.1 with
  | 0 => us[z.2]?
  | 1 => its[z.2]?
  | _ => ws[z.2]?
def gPick (sel : List (Nat × Nat)) {α : Type} (us its ws : List α) : List α := sel.filterMap (gOne us its ws)
theorem vals_at : ∀ {vs : List V} {us : List Value} (i : Nat), Vals vs us → (vs[i]? = none ∧ us[i]? = none) ∨ ∃ v u, vs[i]? = some v ∧ us[i]? = some u ∧ RelV v u
  | _, _, _, .nil => .inl ⟨rfl, rfl⟩
  | _, _, 0, .cons r _ => .inr ⟨_, _, rfl, rfl, r⟩
  | _, _, i + 1, .cons _ t => by
    rcases vals_at i t with ⟨a, b⟩ | ⟨v, u, a, b, r⟩
    · exact .inl ⟨by simpa using a, by simpa using b⟩
    · exact .inr ⟨v, u, by simpa using a, by simpa using b, r⟩
theorem gPick_rel {sel : List (Nat × Nat)} {vs ds zs : List V} {us its ws : List Value} (r : Vals vs us) (d : Vals ds its) (z : Vals zs ws) : Vals (gPick sel vs ds zs) (gPick sel us its ws) := by
  unfold gPick
  induction sel with
  | nil => exact .nil
  | cons p sel ih =>
    have one : (gOne vs ds zs p = none ∧ gOne us its ws p = none) ∨ ∃ v u, gOne vs ds zs p = some v ∧ gOne us its ws p = some u ∧ RelV v u := by
      obtain ⟨a, i⟩ := p
      unfold gOne
      rcases a with _ | _ | a
      · exact vals_at i r
      · exact vals_at i d
      · exact vals_at i z
    rcases one with ⟨a, b⟩ | ⟨v, u, a, b, c⟩
    · rw [List.filterMap_cons_none a, List.filterMap_cons_none b]
      exact ih
    · rw [List.filterMap_cons_some a, List.filterMap_cons_some b]
      exact .cons c ih
theorem dens_at {K : Fg} {H : Hp} {vs : List V} {ds : List D} (i : Nat) (r : Dens K H vs ds) : (vs[i]? = none ∧ ds[i]? = none) ∨ ∃ v d, vs[i]? = some v ∧ ds[i]? = some d ∧ Den K H v d := by
  cases h : vs[i]? with
  | none => exact .inl ⟨rfl, by rw [List.getElem?_eq_none_iff] at h ⊢; rw [← r.length]; exact h⟩
  | some v =>
    obtain ⟨d, hd, rd⟩ := r.getV h
    exact .inr ⟨v, d, rfl, hd, rd⟩
theorem gPick_den {K : Fg} {H : Hp} {sel : List (Nat × Nat)} {us its ws : List V} {vs ds zs : List D} (r : Dens K H us vs) (d : Dens K H its ds) (z : Dens K H ws zs) : Dens K H (gPick sel us its ws) (gPick sel vs ds zs) := by
  unfold gPick
  induction sel with
  | nil => exact .nil
  | cons p sel ih =>
    have one : (gOne us its ws p = none ∧ gOne vs ds zs p = none) ∨ ∃ v u, gOne us its ws p = some v ∧ gOne vs ds zs p = some u ∧ Den K H v u := by
      obtain ⟨a, i⟩ := p
      unfold gOne
      rcases a with _ | _ | a
      · exact dens_at i r
      · exact dens_at i d
      · exact dens_at i z
    rcases one with ⟨a, b⟩ | ⟨v, u, a, b, c⟩
    · rw [List.filterMap_cons_none a, List.filterMap_cons_none b]
      exact ih
    · rw [List.filterMap_cons_some a, List.filterMap_cons_some b]
      exact .cons c ih
structure CalF (P : Program) (w : World) (K : Fg) (mg : Str → Option Value) (base : Heap) (x qual : Str) (params : Arguments) (body : List Stmt) (scope : Scope) (dvs : List V) (k : Nat) (ps : List Str) (sp : Sp) : Prop where
  ex : ∃ (f : Addr) (fd : FuncData), mg x = some (.ref f) ∧ FnOk P w K mg base (L2.CX P w) k f fd ps sp ∧ FunD K x qual params body scope dvs [] f fd
/-- an __init__ -/
structure CalIF (P : Program) (w : World) (K : Fg) (mg : Str → Option Value) (base : Heap) (C : Addr) (x qual : Str) (params : Arguments) (body : List Stmt) (scope : Scope) (dvs : List V) (k : Nat) (ps : List Str) (sp : Sp) : Prop where
  ex : ∃ (f : Addr) (fd : FuncData), Mk K C f ∧ FnOk P w K mg base (L2.CX P w) k f fd ps sp ∧ FunD K x qual params body scope dvs [] f fd
section
variable {P : Program} {w : World} {K : Fg} {mg : Str → Option Value} {base : Heap} {x qual : Str} {params : Arguments} {body : List Stmt} {scope : Scope} {dvs : List V} {k : Nat} {ps : List Str} {sp : Sp} {f C : Addr} {N : List Str}
theorem calF_ex (hm : mg x = some (.ref f)) (F : ∃ fd, FunD K x qual params body scope dvs [] f fd) (S : FnScope N ps scope) (len : ∀ vs H Q E, sp vs H Q E → vs.length = ps.length)
    (hbody : ∀ (cdv : Value) (A : Around) (outer : List Env) (s : Shared) (H : Hp) (vs : List V) (Q : VK) (E : XK), Room k (A.deeper (PyProof.Rows.envOfC qual scope s.heap.objs.size f cdv)) → sp vs H Q E →
      ∃ t, PSs (cxOf (L2.CX P w) P w K mg base N qual scope f cdv A outer s H E) body t ∧ t { nx := fun _ H' => Q .non H', rt := Q } (L2.start N vs) H) : CalF P w K mg base x qual params body scope dvs (k + 1) ps sp := by
  obtain ⟨fd, F⟩ := F
  exact ⟨f, fd, hm, F.ok S len fun cdv A outer s H vs Q E hr hsp => hbody cdv A outer s H vs Q E hr hsp, F⟩
theorem calIF_ex (hm : Mk K C f) (F : ∃ fd, FunD K x qual params body scope dvs [] f fd) (S : FnScope N ps scope) (len : ∀ vs H Q E, sp vs H Q E → vs.length = ps.length)
    (hbody : ∀ (cdv : Value) (A : Around) (outer : List Env) (s : Shared) (H : Hp) (vs : List V) (Q : VK) (E : XK), Room k (A.deeper (PyProof.Rows.envOfC qual scope s.heap.objs.size f cdv)) → sp vs H Q E →
      ∃ t, PSs (cxOf (L2.CX P w) P w K mg base N qual scope f cdv A outer s H E) body t ∧ t { nx := fun _ H' => Q .non H', rt := Q } (L2.start N vs) H) : CalIF P w K mg base C x qual params body scope dvs (k + 1) ps sp := by
  obtain ⟨fd, F⟩ := F
  exact ⟨f, fd, hm, F.ok S len fun cdv A outer s H vs Q E hr hsp => hbody cdv A outer s H vs Q E hr hsp, F⟩
end
section
variable {X : Cx} {x y qual : Str} {params : Arguments} {body : List Stmt} {scope : Scope} {dvs : List V} {k : Nat} {ps : List Str} {sp : Sp} {E : XK} {p pos : Pos} {e : Expr} {es : List Expr} {kws : List Keyword} {t tk : TA} {C : Addr}
/-- f(e, .., k = e, ..): n values, the keywords ks; sel puts them and the defaults in order -/
theorem pe_calK (C : CalF X.prog X.w X.K X.mg X.base x qual params body scope dvs k ps sp) (hr : Room k X.A) (n : Nat) (ks : List Str) (sel : List (Nat × Nat)) (hd : dvs ≠ [])
    (h : ∀ (T : Addr) (kV doc pm : Value) (an : Option Addr) (cdv ct : Value) (us its ws : List Value), us.length = n → its.length = dvs.length → ws.length = ks.length →
      ∃ k, bindArgs (PySem.W.fnOf x qual params body scope (.ref T) kV doc pm an cdv ct) ⟨us, ks.zip ws⟩ = seqItems? (.ref T) >>= k ∧ k (some its.toArray) = pure (ps.zip (gPick sel us its ws)))
    (hx : Passes (L2.CX X.prog X.w) X E) (ha : PA X (e :: es) t) (hkw : PK X kws tk) (hg : Gl X x := by rfl) (hall : (backToKw pos (keywordEach kws X.env)).all (·.1.isSome) = true := by rfl) (hks : (backToKw pos (keywordEach kws X.env)).filterMap (·.1) = ks := by rfl)
    (hdb : (x == ("__debug__" : Str)) = false := by decide) (he : starEach (e :: es) X.env = (false, eval e X.env) :: starEach es X.env := by rfl)
    (hpl : ((backTo pos (starEach (e :: es) X.env)).any (·.1) || (backToKw pos (keywordEach kws X.env)).any (·.1.isNone)) = false := by rfl) :
    PE X (.Call (.Name x p) (e :: es) kws pos) (tCallN n ks.length sp (fun vs zs => gPick sel vs dvs zs) E t tk) := by
  obtain ⟨f, fd, hm, F, D⟩ := C.ex
  obtain ⟨its, hb⟩ := D.kbindsD (ps := ps) n ks (gPick sel) hd gPick_rel h
  exact pe_callN F hr hg hm D.kp hb hx ha hkw hall hks hdb he hpl
theorem pe_mkK (I : CalIF X.prog X.w X.K X.mg X.base C y qual params body scope dvs k ps sp) (hr : Room (k + 1) X.A) (n : Nat) (ks : List Str) (sel : List (Nat × Nat)) (hd : dvs ≠ [])
    (h : ∀ (T : Addr) (kV doc pm : Value) (an : Option Addr) (cdv ct : Value) (us its ws : List Value), us.length = n + 1 → its.length = dvs.length → ws.length = ks.length →
      ∃ k, bindArgs (PySem.W.fnOf y qual params body scope (.ref T) kV doc pm an cdv ct) ⟨us, ks.zip ws⟩ = seqItems? (.ref T) >>= k ∧ k (some its.toArray) = pure (ps.zip (gPick sel us its ws)))
    (hx : Passes (L2.CX X.prog X.w) X E) (ha : PA X (e :: es) t) (hkw : PK X kws tk) (hm : X.mg x = some (.ref C)) (hg : Gl X x := by rfl) (hall : (backToKw pos (keywordEach kws X.env)).all (·.1.isSome) = true := by rfl) (hks : (backToKw pos (keywordEach kws X.env)).filterMap (·.1) = ks := by rfl)
    (hdb : (x == ("__debug__" : Str)) = false := by decide) (he : starEach (e :: es) X.env = (false, eval e X.env) :: starEach es X.env := by rfl)
    (hpl : ((backTo pos (starEach (e :: es) X.env)).any (·.1) || (backToKw pos (keywordEach kws X.env)).any (·.1.isNone)) = false := by rfl) :
    PE X (.Call (.Name x p) (e :: es) kws pos) (tMakeN C n ks.length sp (fun vs zs => gPick sel vs dvs zs) E t tk) := by
  obtain ⟨f, fd, M, F, D⟩ := I.ex
  obtain ⟨its, hb⟩ := D.kbindsD (ps := ps) (n + 1) ks (gPick sel) hd gPick_rel h
  exact pe_makeN M F hr hg hm hb hx ha hkw hall hks hdb he hpl
end
section
variable {K : Fg} {E E' : XK} {G : Sl} {O : Om} {t tk : TA} {sp : Sp} {C : Addr} {n m : Nat} {sel : List (Nat × Nat)} {dvs : List V} {ds es zs : List D} {P : List D → Res → Prop}
theorem ev_callK {z : Res} (h : EvA K t G ds) (hk : EvA K tk G zs) (he : ∀ H, Dens K H dvs es) (l1 : ds.length = n) (l2 : zs.length = m) (p : P (gPick sel ds es zs) z) : EvR K E (tCallN n m (SpR K P) (fun vs zs => gPick sel vs dvs zs) E t tk) G z := fun σ H0 H e s Q q =>
  h σ H0 H e s _ fun vs H1 H1' s1 r1 => hk σ H1 H1' s1.c (s.up s1.a) _ fun ws H2 H2' s2 r2 => ⟨by rw [r1.length]; exact l1, by rw [r2.length]; exact l2, H2, _, z, s2.c, gPick_den (r1.up s2.a) (he H2) r2, p, Res.sat_step (E := E) (s1.trans s2) q⟩
theorem ev_callKV {d : D} (h : EvA K t G ds) (hk : EvA K tk G zs) (he : ∀ H, Dens K H dvs es) (l1 : ds.length = n) (l2 : zs.length = m) (p : P (gPick sel ds es zs) (.val d)) : EvR K E (tCallN n m (SpR K P) (fun vs zs => gPick sel vs dvs zs) E' t tk) G (.val d) := fun σ H0 H e s Q q =>
  h σ H0 H e s _ fun vs H1 H1' s1 r1 => hk σ H1 H1' s1.c (s.up s1.a) _ fun ws H2 H2' s2 r2 => ⟨by rw [r1.length]; exact l1, by rw [r2.length]; exact l2, H2, _, .val d, s2.c, gPick_den (r1.up s2.a) (he H2) r2, p, Res.sat_step (r := .val d) (E := E') (s1.trans s2) q⟩
/-- C(e, .., k = e, ..): the new instance becomes data -/
theorem ev_makeKV {PI : List D → Om → (D → Om → Prop) → Prop} {fs : List (Str × D)} (hsp : ∀ vs H Q E, SpM K PI vs H Q E → sp vs H Q E) (ha : EvA K t G ds) (hk : EvA K tk G zs) (he : ∀ H, Dens K H dvs es) (l1 : ds.length = n) (l2 : zs.length = m)
    (p : ∀ (O : Om) (x : Addr), O x = some (.obj C []) → ∀ k : D → Om → Prop, (k .non (oput O x (.obj C fs))) → PI (gPick sel (.ref x :: ds) es zs) O k) : EvR K E (tMakeN C n m sp (fun vs zs => gPick sel vs dvs zs) E' t tk) G (.val (.ins C (fs.map (·.1)) (fs.map (·.2)))) := fun σ H0 H e s Q q =>
  ha σ H0 H e s _ fun vs H1 H1' s1 r1 => hk σ H1 H1' s1.c (s.up s1.a) _ fun ws H2 H2' s2 r2 => ⟨by rw [r1.length]; exact l1, by rw [r2.length]; exact l2, fun x dx hx hdx ne => by
    have hs : Same H2 (upd (upd H2' dx (.own x)) x (.ins C dx [])) := s2.c.trans (same_ins hx hdx)
    have hx0 : H2 x = none := s2.c.free hx
    have w0 : Wd K H2 (upd (upd H2' dx (.own x)) x (.ins C dx [])) (oput (rawOm H2 H2') x (.obj C [])) := by
      refine ⟨hs, fun b o hb => ?_⟩
      by_cases hbx : b = x
      · subst hbx
        rw [oput_same] at hb
        cases hb
        exact ⟨hx0, _, upd_same, dx, [], rfl, rfl, .nil⟩
      · rw [oput_ne hbx] at hb
        obtain ⟨h0, o', ho', r⟩ := (Wd.raw (K := K) s2.c).own b o hb
        exact ⟨h0, o', same_ins hx hdx _ _ ho', r⟩
    refine hsp _ _ _ _ ⟨H2, _, gPick sel (.ref x :: ds) es zs, fun d O' => d = .non ∧ O' = oput (oput (rawOm H2 H2') x (.obj C [])) x (.obj C fs), w0, gPick_den (.cons (.ref x) (r1.up s2.a)) (he H2) r2, p _ x oput_same _ ⟨rfl, rfl⟩, ?_⟩
    rintro d O' v H0' H' ⟨rfl, rfl⟩ s3 w2 rv
    refine ⟨rv.non_eq, ?_⟩
    rw [oput_oput] at w2
    have hraw : rawOm H2 H2' x = none := (Wd.raw (K := K) s2.c).free hx
    have st := stp_raw (K := K) s2.c s3 (w2.weak (OLe.new hraw)) (OLe.refl _)
    obtain ⟨h0, o, ho, dx', gs, rfl, hn, rd⟩ := w2.own x _ oput_same
    refine q (.ref x) (upd H0' x (.ins C dx' gs)) H' ((s1.trans s2).trans (st.freeze hx h0 ho)) (.ins upd_same hn (rd.up (same_new h0)))⟩
theorem ev_makeKX {PI : List D → Om → (D → Om → Prop) → Prop} {PX : List D → Value → Prop} {c : Value} (ha : EvA K t G ds) (hk : EvA K tk G zs) (he : ∀ H, Dens K H dvs es) (l1 : ds.length = n) (l2 : zs.length = m) (p : ∀ x : Addr, PX (gPick sel (.ref x :: ds) es zs) c) : EvR K E (tMakeN C n m (SpI K PI PX) (fun vs zs => gPick sel vs dvs zs) E t tk) G (.exc c) := fun σ H0 H e s Q q =>
  ha σ H0 H e s _ fun vs H1 H1' s1 r1 => hk σ H1 H1' s1.c (s.up s1.a) _ fun ws H2 H2' s2 r2 => ⟨by rw [r1.length]; exact l1, by rw [r2.length]; exact l2, fun x dx hx hdx ne =>
    .inr ⟨H2, _, c, s2.c.trans (same_ins hx hdx), gPick_den (.cons (.ref x) (r1.up s2.a)) (he H2) r2, p x, fun H' s' => q H' (((s1.trans s2).b.trans (same_ins hx hdx)).trans s')⟩⟩
end
end Pr
/-! Part I: more operations. -/
namespace L2
open PySem PySem.Spec PyProof.Rows
/-- x in t, a tuple of data of any depth -/
def rInTD (K : PySem.W.Frag) (neg : Bool) : R2 := fun x y H Q => ∃ d ds, Dp K H x d ∧ Dp K H y (.tuple ds) ∧ SeqAt.shaped d = true ∧ SeqAt.shaped (.tuple ds) = true ∧ Q (.bl (if neg then !ds.any fun z => PyData.eqv z d else ds.any fun z => PyData.eqv z d)) H
theorem niTD {X : Cx} {K : PySem.W.Frag} (hu : X.A.units + 65 < cLine) (h : X.K = K := by rfl) : OpR X (compareOp .NotIn) (rInTD K true) := by
  subst h
  intro pins s σ H x y v u Q I rx ry h
  obtain ⟨d, ds, hd, he, sd, se, q⟩ := h
  obtain ⟨as, r1⟩ := Dp.reads I d x v hd rx
  obtain ⟨bs, r2⟩ := Dp.reads I (.tuple ds) y u he ry
  refine SeqAt.notIn_tuple_reads r2 r1 (SeqAt.canLay_of_shaped se) (SeqAt.canLay_of_shaped sd) (room_in_shaped sd hu) ⟨.bl _, H, I, rfl, ?_⟩
  exact q
theorem inTD {X : Cx} {K : PySem.W.Frag} (hu : X.A.units + 65 < cLine) (h : X.K = K := by rfl) : OpR X (compareOp .In) (rInTD K false) := by
  subst h
  intro pins s σ H x y v u Q I rx ry h
  obtain ⟨d, ds, hd, he, sd, se, q⟩ := h
  obtain ⟨as, r1⟩ := Dp.reads I d x v hd rx
  obtain ⟨bs, r2⟩ := Dp.reads I (.tuple ds) y u he ry
  refine SeqAt.in_tuple_reads r2 r1 (SeqAt.canLay_of_shaped se) (SeqAt.canLay_of_shaped sd) (room_in_shaped sd hu) ⟨.bl _, H, I, rfl, ?_⟩
  exact q
theorem room65 {k : Nat} {A : Around} (h : Room k A) : A.units + 65 < cLine := by have := h.un; omega
end L2
namespace Pr
open PySem L2
section
variable {K : Fg} {E : XK} {G : Sl}
theorem pys_any (d : D) : ∀ ds : List D, (pys ds).any (fun z => PyData.eqv z d.py) = ds.any fun z => deq z d
  | [] => rfl
  | a :: ds => by
    rw [pys, List.any_cons, List.any_cons, pys_any d ds]
    rfl
theorem rd_inTD {neg : Bool} {d : D} {ds : List D} {n m : Nat} (p : Pl n d) (q : Pl m (.tup ds)) (hn : n ≤ 64 := by decide) (hm : m ≤ 64 := by decide) : RD K E (rInTD K neg) d (.tup ds) (.val (.bl (if neg then !ds.any fun z => deq z d else ds.any fun z => deq z d))) := fun H0 H e x y r1 r2 Q k => by
  refine ⟨d.py, pys ds, (r1.up e).dp ⟨n, p⟩, (r2.up e).dp ⟨m, q⟩, p.shaped hn, q.shaped hm, ?_⟩
  rw [pys_any]
  exact sat_val e k (.bl _)
/-- one and the same thing: None, or an int -/
theorem rd_eqSame {d : D} (h : d = .non ∨ ∃ i, d = .int i) : RD K E rEq d d (.val (.bl true)) := fun H0 H e x y r1 r2 Q q => by
  rcases h with rfl | ⟨i, rfl⟩
  · rw [r1.non_eq, r2.non_eq]
    refine ⟨rfl, ?_⟩
    rw [decide_eq_true rfl]
    exact sat_val e q (.bl _)
  · rw [r1.int_eq, r2.int_eq]
    refine ⟨rfl, ?_⟩
    rw [decide_eq_true rfl]
    exact sat_val e q (.bl _)
/-- t + u, tuples -/
theorem rd_catT {ds es : List D} (h1 : ds ≠ []) (h2 : es ≠ []) (hl : ds.length + es.length ≤ 100000) : RD K E (rCatT K) (.tup ds) (.tup es) (.val (.tup (ds ++ es))) := fun H0 H e x y r1 r2 Q q => by
  obtain ⟨a, vs, rfl, ha, t⟩ := r1.tup_out
  obtain ⟨b, ws, rfl, hb, u⟩ := r2.tup_out
  refine ⟨a, b, vs, ws, rfl, rfl, .inl (.inl (e _ _ ha)), .inl (.inl (e _ _ hb)), fun z => ?_, by rw [t.length, u.length]; exact Nat.le_trans hl (by decide), fun z => ?_, fun _ p hp => ?_⟩
  · subst z; cases t; exact h1 rfl
  · subst z; cases u; exact absurd rfl h2
  · exact q (.ref p) (upd H0 p (.tup (vs ++ ws))) _ (Stp.new e hp) (.tup upd_same ((t.append u).up (same_new (e.free hp))))
theorem ev_slT {te : TE} {tl th : TO} {ds : List D} {lo hi : Option Int} (h : EvR K E te G (.val (.tup ds))) (h1 : EvO K tl G lo) (h2 : EvO K th G hi) (hn : ¬ (HT.sIx ds.length 0 lo = 0 ∧ HT.sIx ds.length ds.length hi = ds.length)) : EvR K E (tSl (rSlT K) te tl th) G (.val (.tup (cut ds lo hi))) := fun σ H0 H e s Q q =>
  h σ H0 H e s _ fun v H1 H1' s1 r1 => h1 σ H1 H1' s1.c (s.up s1.a) _ fun H2 H2' s2 => h2 σ H2 H2' s2.c (s.up (s1.trans s2).a) _ fun H3 H3' s3 => by
    obtain ⟨a, vs, rfl, ha, t⟩ := r1.tup_out
    have ss := (s1.trans s2).trans s3
    refine ⟨a, vs, rfl, .inl (.inl ((s2.trans s3).b _ _ (s1.c _ _ ha))), by rw [t.length]; exact hn, fun p hp => ?_⟩
    exact q (.ref p) (upd H3 p (.tup (cutV vs lo hi))) _ (ss.trans (Stp.new s3.c hp)) (.tup upd_same (((cut_dens (t.up (s2.trans s3).a) lo hi)).up (same_new (s3.c.free hp))))
/-! arguments that raise -/
def EvAX (K : Fg) (E : XK) (ta : TA) (G : Sl) (c : Value) : Prop := ∀ (σ : St) (H0 H : Hp), Same H0 H → SlD K H0 σ G → ∀ Q : List V → Hp → Prop, (∀ H', Same H H' → E c none H') → ta σ H Q
theorem eax_here {te : TE} {tr : TA} {c : Value} (h : EvR K E te G (.exc c)) : EvAX K E (tCons te tr) G c := fun σ H0 H e s Q q => h σ H0 H e s _ q
theorem eax_next {te : TE} {tr : TA} {c : Value} {d : D} (h : EvR K E0 te G (.val d)) (hr : EvAX K E tr G c) : EvAX K E (tCons te tr) G c := fun σ H0 H e s Q q =>
  h σ H0 H e s _ fun v H1 H1' s1 r1 => hr σ H1 H1' s1.c (s.up s1.a) _ fun H' s' => q H' (s1.b.trans s')
theorem ev_callAX {sp : Sp} {dvs : List V} {E' : XK} {t : TA} {c : Value} (h : EvAX K E t G c) : EvR K E (tCall sp dvs E' t) G (.exc c) := fun σ H0 H e s Q q => h σ H0 H e s _ q
theorem ev_makeAX {sp : Sp} {C : Addr} {dvs : List V} {E' : XK} {t : TA} {c : Value} (h : EvAX K E t G c) : EvR K E (tMake C sp dvs E' t) G (.exc c) := fun σ H0 H e s Q q => h σ H0 H e s _ q
theorem ev_cbAX {r : List V → Hp → VK → Prop} {t : TA} {c : Value} (h : EvAX K E t G c) : EvR K E (tCB r t) G (.exc c) := fun σ H0 H e s Q q => h σ H0 H e s _ q
end
end Pr
/-! Part O: defs that may change own objects and may raise. -/
namespace Pr
open PySem PySem.Spec L2
/-- the ends of a call: a value, an exception, an exception with a dict of its own -/
structure Cn where
  rt : D → Om → Prop
  ex : Value → Om → Prop := fun _ _ => False
  ey : Value → Addr → Om → Prop := fun _ _ _ => False
def SpX (K : Fg) (P : List D → Om → Cn → Prop) : Sp := fun vs H Q E => ∃ (H0 : Hp) (O : Om) (ds : List D) (k : Cn), Wd K H0 H O ∧ Dens K H0 vs ds ∧ P ds O k ∧
  (∀ d O' v H0' H', k.rt d O' → Same H0 H0' → Wd K H0' H' O' → Den K H0' v d → Q v H') ∧ (∀ c O' H0' H', k.ex c O' → Same H0 H0' → Wd K H0' H' O' → E c none H') ∧ (∀ c dd O' H0' H', k.ey c dd O' → Same H0 H0' → Wd K H0' H' O' → E c (some dd) H')
theorem len_X {K : Fg} {P : List D → Om → Cn → Prop} {n : Nat} (h : ∀ ds O k, P ds O k → ds.length = n) : ∀ vs H Q E, SpX K P vs H Q E → vs.length = n := fun vs H Q E ⟨H0, O, ds, k, _, rd, p, _⟩ => by rw [rd.length]; exact h ds O k p
theorem body_x {K : Fg} {E : XK} {N : List Str} {P : List D → Om → Cn → Prop} {t : TS} {vs : List V} {H : Hp} {Q : VK} (h : SpX K P vs H Q E) (hb : ∀ ds O k, P ds O k → Sv K E t { nx := fun _ O' => k.rt .non O', rt := k.rt, ex := k.ex, ey := k.ey } (startD N.length ds) O) :
    t { nx := fun _ H' => Q .non H', rt := Q } (L2.start N vs) H := by
  obtain ⟨H0, O, ds, k, w, rd, p, q, qx, qy⟩ := h
  refine hb ds O k p _ (L2.start N vs) H0 H w (slD_start rd) ⟨fun G O' σ H1 H' n s w sl => ?_, fun d O' v H1 H' n s w rv => ?_, fun G O σ H1 H' n s w sl => n.elim, fun G O σ H1 H' n s w sl => n.elim, fun c O H1 H' n s w => qx c O H1 H' n s w, fun c dd O H1 H' n s w => qy c dd O H1 H' n s w⟩
  · exact q .non O' .non H1 H' n s w .non
  · exact q d O' v H1 H' n s w rv
/-- an expression that may change own objects and may raise -/
def EvX (K : Fg) (E : XK) (te : TE) (G : Sl) (O : Om) (k : Cn) : Prop := ∀ (σ : St) (H0 H : Hp), Wd K H0 H O → SlD K H0 σ G → ∀ Q : VK,
  (∀ v d H0' H' O', k.rt d O' → Same H0 H0' → Wd K H0' H' O' → Den K H0' v d → Q v H') → (∀ c O' H0' H', k.ex c O' → Same H0 H0' → Wd K H0' H' O' → E c none H') → (∀ c dd O' H0' H', k.ey c dd O' → Same H0 H0' → Wd K H0' H' O' → E c (some dd) H') → te σ H Q
section
variable {K : Fg} {E E' : XK} {G : Sl} {O : Om} {N : En} {te ta : TE} {t tk : TA} {k : Cn} {C : Addr}
theorem ex_em (h : EvM K te G O k.rt) : EvX K E te G O k := fun σ H0 H w s Q q _ _ => h σ H0 H w s Q fun v d a b O' z => q v d a b O' z
theorem ex_val {d : D} (h : EvR K E0 te G (.val d)) (z : k.rt d O) : EvX K E te G O k := ex_em (em_val h z)
theorem Wd.same {H0 H H' : Hp} {O : Om} (w : Wd K H0 H O) (s : Same H H') : Wd K H0 H' O := ⟨w.le.trans s, fun p b hp => let ⟨a, o, ho, r⟩ := w.own p b hp; ⟨a, o, s _ _ ho, r⟩⟩
/-- a pure def that raises -/
theorem ex_exc {c : Value} (h : EvR K E te G (.exc c)) (z : k.ex c O) : EvX K E te G O k := fun σ H0 H w s Q _ qx _ => h σ H0 H w.le s _ fun H' s' => qx c O H0 H' z (Same.refl _) (w.same s')
theorem ex_call {PS : List D → Om → Cn → Prop} (h : EvMA K t G O fun ds O1 => PS ds O1 k) : EvX K E (tCall (SpX K PS) [] E t) G O k := fun σ H0 H w s Q q qx qy =>
  h σ H0 H w s _ fun vs ds H1 H1' O1 p1 s1 w1 r1 => ⟨H1, O1, ds, k, w1, by rw [List.append_nil]; exact r1, p1, fun d O' v H2 H2' z s2 w2 r2 => q v d H2 H2' O' z (s1.trans s2) w2 r2, fun c O' H2 H2' z s2 w2 => qx c O' H2 H2' z (s1.trans s2) w2, fun c dd O' H2 H2' z s2 w2 => qy c dd O' H2 H2' z (s1.trans s2) w2⟩
/-- a pure def, its arguments with effects -/
theorem ex_callR {P' : List D → Res → Prop} (h : EvMA K t G O fun ds O1 => ∃ r, P' ds r ∧ match r with | .val d => k.rt d O1 | .new es => k.rt (.lst es) O1 | .exc c => k.ex c O1) : EvX K E (tCall (SpR K P') [] E t) G O k := fun σ H0 H w s Q q qx qy =>
  h σ H0 H w s _ fun vs ds H1 H1' O1 ⟨r, p, z⟩ s1 w1 r1 => by
    refine ⟨H1, ds, r, w1.le, by rw [List.append_nil]; exact r1, p, ?_⟩
    cases r with
    | val d => exact fun v H2 H2' s2 r2 => q v d H2 H2' O1 z (s1.trans s2.a) (w1.step s2) r2
    | new es => exact Res.sat_new fun v H2 H2' s2 r2 => q v _ H2 H2' O1 z (s1.trans s2.a) (w1.step s2) r2
    | exc c => exact fun H' s' => qx c O1 H1 H' z s1 (w1.same s')
/-- where nothing is raised -/
theorem em_callX {PS : List D → Om → Cn → Prop} {P : D → Om → Prop} (h : EvMA K t G O fun ds O1 => PS ds O1 { rt := P }) : EvM K (tCall (SpX K PS) [] E' t) G O P := fun σ H0 H w s Q q =>
  h σ H0 H w s _ fun vs ds H1 H1' O1 p1 s1 w1 r1 => ⟨H1, O1, ds, { rt := P }, w1, by rw [List.append_nil]; exact r1, p1, fun d O' v H2 H2' z s2 w2 r2 => q v d H2 H2' O' z (s1.trans s2) w2 r2, fun _ _ _ _ z => z.elim, fun _ _ _ _ _ z => z.elim⟩
theorem ex_meth {PS : List D → Om → Cn → Prop} {m : Str} (h : EvM K ta G O fun o O1 => ∃ (p : Addr) (fs : List (Str × D)), o = .ref p ∧ O1 p = some (.obj C fs) ∧ m ∉ fs.map (·.1) ∧ EvMA K t G O1 fun es O2 => PS (.ref p :: es) O2 k) : EvX K E (tMeth C m (SpX K PS) [] E ta t) G O k := fun σ H0 H w s Q q qx qy =>
  h σ H0 H w s _ fun x o H1 H1' O1 ⟨p, fs, e, hp, hm, z⟩ s1 w1 r1 => by
    subst e
    obtain rfl := r1.ref_eq
    obtain ⟨h0, ob, ho, dx, gs, rfl, hn, rd⟩ := w1.own p _ hp
    refine ⟨p, dx, gs, rfl, ho, lookup_none_of rfl (by rw [hn]; exact hm), z σ H1 H1' w1 (s.up s1) _ fun vs es H2 H2' O2 z2 s2 w2 r2 => ?_⟩
    rw [List.append_nil]
    exact ⟨H2, O2, .ref p :: es, k, w2, .cons (.ref p) r2, z2, fun d O3 v H3 H3' z3 s3 w3 r3 => q v d H3 H3' O3 z3 ((s1.trans s2).trans s3) w3 r3, fun c O3 H3 H3' z3 s3 w3 => qx c O3 H3 H3' z3 ((s1.trans s2).trans s3) w3, fun c dd O3 H3 H3' z3 s3 w3 => qy c dd O3 H3 H3' z3 ((s1.trans s2).trans s3) w3⟩
theorem em_methX {PS : List D → Om → Cn → Prop} {m : Str} {P : D → Om → Prop} (h : EvM K ta G O fun o O1 => ∃ (p : Addr) (fs : List (Str × D)), o = .ref p ∧ O1 p = some (.obj C fs) ∧ m ∉ fs.map (·.1) ∧ EvMA K t G O1 fun es O2 => PS (.ref p :: es) O2 { rt := P }) : EvM K (tMeth C m (SpX K PS) [] E' ta t) G O P := fun σ H0 H w s Q q =>
  h σ H0 H w s _ fun x o H1 H1' O1 ⟨p, fs, e, hp, hm, z⟩ s1 w1 r1 => by
    subst e
    obtain rfl := r1.ref_eq
    obtain ⟨h0, ob, ho, dx, gs, rfl, hn, rd⟩ := w1.own p _ hp
    refine ⟨p, dx, gs, rfl, ho, lookup_none_of rfl (by rw [hn]; exact hm), z σ H1 H1' w1 (s.up s1) _ fun vs es H2 H2' O2 z2 s2 w2 r2 => ?_⟩
    rw [List.append_nil]
    exact ⟨H2, O2, .ref p :: es, { rt := P }, w2, .cons (.ref p) r2, z2, fun d O3 v H3 H3' z3 s3 w3 r3 => q v d H3 H3' O3 z3 ((s1.trans s2).trans s3) w3 r3, fun _ _ _ _ z => z.elim, fun _ _ _ _ _ z => z.elim⟩
theorem sv_asgE {i : Nat} (h : EvX K E te G O { rt := fun d O' => N.nx (G.set i (some d)) O', ex := N.ex, ey := N.ey }) : Sv K E (tAsg te (gName i)) N G O := fun D σ H0 H w s n =>
  h σ H0 H w s _ (fun v d H1 H1' O1 z s1 w1 r1 => n.nx _ O1 _ H1 H1' z s1 w1 ((s.up s1).put r1)) n.ex n.ey
theorem sv_retE (h : EvX K E te G O { rt := N.rt, ex := N.ex, ey := N.ey }) : Sv K E (tRet te) N G O := fun D σ H0 H w s n =>
  h σ H0 H w s _ (fun v d H1 H1' O1 z s1 w1 r1 => n.rt d O1 v H1 H1' z s1 w1 r1) n.ex n.ey
theorem sv_dropE (h : EvX K E te G O { rt := fun _ O' => N.nx G O', ex := N.ex, ey := N.ey }) : Sv K E (tDrop te) N G O := fun D σ H0 H w s n =>
  h σ H0 H w s _ (fun v d H1 H1' O1 z s1 w1 r1 => n.nx G O1 σ H1 H1' z s1 w1 (s.up s1)) n.ex n.ey
theorem ex_if {b : Bool} {tt : TT} {tb : TE} (h : EvT K tt G b) (h1 : b = true → EvX K E ta G O k) (h2 : b = false → EvX K E tb G O k) : EvX K E (tIf tt ta tb) G O k := fun σ H0 H w s Q q qx qy => h σ H0 H w.le s _ fun H1 H1' s1 => by
  cases b with
  | true =>
    show ta σ H1' Q
    exact h1 rfl σ H1 H1' (w.step s1) (s.up s1.a) Q (fun v d H2 H2' O2 p s2 => q v d H2 H2' O2 p (s1.a.trans s2)) (fun c O2 H2 H2' z s2 => qx c O2 H2 H2' z (s1.a.trans s2)) fun c dd O2 H2 H2' z s2 => qy c dd O2 H2 H2' z (s1.a.trans s2)
  | false =>
    show tb σ H1' Q
    exact h2 rfl σ H1 H1' (w.step s1) (s.up s1.a) Q (fun v d H2 H2' O2 p s2 => q v d H2 H2' O2 p (s1.a.trans s2)) (fun c O2 H2 H2' z s2 => qx c O2 H2 H2' z (s1.a.trans s2)) fun c dd O2 H2 H2' z s2 => qy c dd O2 H2 H2' z (s1.a.trans s2)
theorem own_made {H1 H1' : Hp} {x dx : Addr} (w : Wd K H1 H1' O) (hx : H1' x = none) (hdx : H1' dx = none) : Wd K H1 (upd (upd H1' dx (.own x)) x (.ins C dx [])) (oput O x (.obj C [])) := by
  refine ⟨w.le.trans (same_ins hx hdx), fun b o hb => ?_⟩
  by_cases hbx : b = x
  · subst hbx
    rw [oput_same] at hb
    cases hb
    exact ⟨w.le.free hx, _, upd_same, dx, [], rfl, rfl, .nil⟩
  · rw [oput_ne hbx] at hb
    obtain ⟨h0, o', ho', r⟩ := w.own b o hb
    exact ⟨h0, o', same_ins hx hdx _ _ ho', r⟩
/-- C(e, .., k = e, ..): the new instance becomes data -/
theorem ev_makeXV {PI : List D → Om → Cn → Prop} {n m : Nat} {sel : List (Nat × Nat)} {dvs : List V} {ds es zs : List D} {fs : List (Str × D)} (ha : EvA K t G ds) (hk : EvA K tk G zs) (he : ∀ H, Dens K H dvs es) (l1 : ds.length = n) (l2 : zs.length = m)
    (p : ∀ (O : Om) (x : Addr), O x = some (.obj C []) → ∀ k : Cn, (k.rt .non (oput O x (.obj C fs))) → PI (gPick sel (.ref x :: ds) es zs) O k) : EvR K E (tMakeN C n m (SpX K PI) (fun vs zs => gPick sel vs dvs zs) E' t tk) G (.val (.ins C (fs.map (·.1)) (fs.map (·.2)))) := fun σ H0 H e s Q q =>
  ha σ H0 H e s _ fun vs H1 H1' s1 r1 => hk σ H1 H1' s1.c (s.up s1.a) _ fun ws H2 H2' s2 r2 => ⟨by rw [r1.length]; exact l1, by rw [r2.length]; exact l2, fun x dx hx hdx ne => by
    refine ⟨H2, _, gPick sel (.ref x :: ds) es zs, { rt := fun d O' => d = .non ∧ O' = oput (oput (rawOm H2 H2') x (.obj C [])) x (.obj C fs) }, own_made (Wd.raw s2.c) hx hdx, gPick_den (.cons (.ref x) (r1.up s2.a)) (he H2) r2, p _ x oput_same _ ⟨rfl, rfl⟩, ?_, fun _ _ _ _ z => z.elim, fun _ _ _ _ _ z => z.elim⟩
    rintro d O' v H0' H' ⟨rfl, rfl⟩ s3 w2 rv
    refine ⟨rv.non_eq, ?_⟩
    rw [oput_oput] at w2
    have hraw : rawOm H2 H2' x = none := (Wd.raw (K := K) s2.c).free hx
    have st := stp_raw (K := K) s2.c s3 (w2.weak (OLe.new hraw)) (OLe.refl _)
    obtain ⟨h0, o, ho, dx', gs, rfl, hn, rd⟩ := w2.own x _ oput_same
    refine q (.ref x) (upd H0' x (.ins C dx' gs)) H' ((s1.trans s2).trans (st.freeze hx h0 ho)) (.ins upd_same hn (rd.up (same_new h0)))⟩
theorem ev_makeXX {PI : List D → Om → Cn → Prop} {n m : Nat} {sel : List (Nat × Nat)} {dvs : List V} {ds es zs : List D} {c : Value} (ha : EvA K t G ds) (hk : EvA K tk G zs) (he : ∀ H, Dens K H dvs es) (l1 : ds.length = n) (l2 : zs.length = m)
    (p : ∀ (O : Om) (x : Addr), O x = some (.obj C []) → ∀ k : Cn, (∀ b, k.ex c (oput O x b)) → PI (gPick sel (.ref x :: ds) es zs) O k) : EvR K E (tMakeN C n m (SpX K PI) (fun vs zs => gPick sel vs dvs zs) E t tk) G (.exc c) := fun σ H0 H e s Q q =>
  ha σ H0 H e s _ fun vs H1 H1' s1 r1 => hk σ H1 H1' s1.c (s.up s1.a) _ fun ws H2 H2' s2 r2 => ⟨by rw [r1.length]; exact l1, by rw [r2.length]; exact l2, fun x dx hx hdx ne => by
    refine ⟨H2, _, gPick sel (.ref x :: ds) es zs, { rt := fun _ _ => False, ex := fun c' O' => c' = c ∧ ∃ b, O' = oput (oput (rawOm H2 H2') x (.obj C [])) x b }, own_made (Wd.raw s2.c) hx hdx, gPick_den (.cons (.ref x) (r1.up s2.a)) (he H2) r2, p _ x oput_same _ fun b => ⟨rfl, b, rfl⟩, fun _ _ _ _ _ z => z.elim, ?_, fun _ _ _ _ _ z => z.elim⟩
    rintro c' O' H0' H' ⟨rfl, b, rfl⟩ s3 w2
    rw [oput_oput] at w2
    have hraw : rawOm H2 H2' x = none := (Wd.raw (K := K) s2.c).free hx
    have st := stp_raw (K := K) s2.c s3 (w2.weak (OLe.new hraw)) (OLe.refl _)
    exact q H' ((s1.trans s2).b.trans st.b)⟩
/-- the new instance stays own -/
theorem ex_makeK {PI : List D → Om → Cn → Prop} {n m : Nat} {sel : List (Nat × Nat)} {dvs : List V} {xs : List D} (he : ∀ H, Dens K H dvs xs)
    (h : EvMA K t G O fun es O1 => EvMA K tk G O1 fun zs O2 => es.length = n ∧ zs.length = m ∧ ∀ x, O2 x = none → PI (gPick sel (.ref x :: es) xs zs) (oput O2 x (.obj C [])) { rt := fun d O3 => d = .non ∧ k.rt (.ref x) O3, ex := k.ex, ey := k.ey }) : EvX K E (tMakeN C n m (SpX K PI) (fun vs zs => gPick sel vs dvs zs) E t tk) G O k := fun σ H0 H w s Q q qx qy =>
  h σ H0 H w s _ fun vs es H1 H1' O1 k1 s1 w1 r1 => k1 σ H1 H1' w1 (s.up s1) _ fun ws zs H2 H2' O2 ⟨l1, l2, k2⟩ s2 w2 r2 => by
    refine ⟨by rw [r1.length]; exact l1, by rw [r2.length]; exact l2, fun x dx hx hdx ne => ?_⟩
    refine ⟨H2, _, gPick sel (.ref x :: es) xs zs, _, own_made w2 hx hdx, gPick_den (.cons (.ref x) (r1.up s2)) (he H2) r2, k2 x (w2.free hx), ?_, fun c O' a b z s3 w3 => qx c O' a b z ((s1.trans s2).trans s3) w3, fun c dd O' a b z s3 w3 => qy c dd O' a b z ((s1.trans s2).trans s3) w3⟩
    rintro d O' v H0' H' ⟨rfl, k3⟩ s3 w3 rv
    exact ⟨rv.non_eq, q (.ref x) (.ref x) H0' H' O' k3 ((s1.trans s2).trans s3) w3 (.ref x)⟩
end
end Pr
/-! Part M: a lambda as a key, made by a def that keeps its code object in a table. -/
namespace L2
open PySem PySem.Spec PyProof.Rows
section
variable {X : Cx} {pins : List (Addr × Obj)} {σ : St} {H : Hp} {s : Shared}
/-- what a table tells -/
structure TbOk (H : Hp) (q : Str) (ps : Array Value) : Prop where
  tr : TriplesOk ps.toList
  co : ∀ (pos : Pos) (cv : Value), codeAmong pos ps.toList = some cv → ∃ c, cv = .ref c ∧ H c = some (LamX.CodeO c q)
/-- the states behind the making: as before, or with a new code object -/
def TbNew (H : Hp) (P : Addr) (q : Str) (ps : Array Value) (c' : Addr) (H1 : Hp) : Prop :=
  (H1 = H ∧ H c' = some (LamX.CodeO c' q)) ∨ (H c' = none ∧ ∃ ps' : Array Value, H1 = upd (upd H P (.tbl ps')) c' (LamX.CodeO c' q) ∧ TriplesOk ps'.toList ∧ ∀ (pos : Pos) (cv : Value), codeAmong pos ps'.toList = some cv → codeAmong pos ps.toList = some cv ∨ cv = .ref c')
theorem lam_mk {c P : Addr} {ps : Array Value} {params : Arguments} {body : Expr} {scope : Scope} {lpos : Pos} {E Q} (I : Inv X pins σ H s) (TB : LamX.TabB X.base X.mg c P) (hcode : X.env.code = .ref c) (hP : H P = some (.tbl ps)) (ht : TbOk H (X.env.qual ++ "<lambda>") ps)
    (hdef : defaultsOf params X.env = ([], [])) (hfree : ∀ y ∈ scope.names, y.2 = .free → ∃ c, X.env.cells.lookup y.1 = some c)
    (h : ∀ (f c' : Addr) (pm ctv : Value) (H1 : Hp) (s' : Shared), Inv X pins σ H1 s' → TbNew H P (X.env.qual ++ "<lambda>") ps c' H1 → H1 c' = some (LamX.CodeO c' (X.env.qual ++ "<lambda>")) →
      s'.heap.get? f = some (PySem.W.kla_obj "<lambda>" (X.env.qual ++ "<lambda>") params body scope (cloFrom X.env.cells scope.names []) pm c' ctv) → Q (.ref f) s') : wpAny (model X.prog X.w) X.A (eval (.Lambda params body scope lpos) X.env) Q E s := by
  refine PySem.W.kla_eval hdef ?_
  have b1 : s.heap.BuiltinsAt X.mg P := TB.bm.keeps I.bk
  have b2 : s.heap.get? P = some { cls := .none, data := .fields ps } := I.hok P _ hP
  cases hc : codeAmong lpos ps.toList with
  | some cv =>
    obtain ⟨c', e, hco⟩ := ht.co lpos cv hc
    subst e
    refine PySem.W.kla_makeFunctionHit (ps := ps) (P := P) (c := c) (mg := X.mg) (closure_ok hfree) I.ok.glob (I.mod.glob.keeps I.bk) hcode (TB.code.keeps I.bk) b2 ht.tr hc b1 fun ctv h' tk hx hsz => ?_
    exact h h'.objs.size c' ((X.mg "__name__").getD .none) ctv H _ (I.kept fun b o e => Heap.get?_push_of_some _ (hx b o e)) (.inl ⟨rfl, hco⟩) hco (Heap.get?_push_size _ rfl)
  | none =>
    refine PySem.W.kla_makeFunction (ps := ps) (P := P) (c := c) (mg := X.mg) (closure_ok hfree) I.ok.glob (I.mod.glob.keeps I.bk) hcode (TB.code.keeps I.bk) b2 ht.tr hc TB.gP b1 fun c' ctv h' tk hx hge hlt hrec htb => ?_
    obtain ⟨c2, oc, vs, t, e2, hoc, hd, hv⟩ := hrec
    cases e2
    have nC : H c' = none := I.hok.fresh hge
    have eL : (ps ++ #[rawInt lpos.line, rawInt lpos.col, .ref c']).toList = ps.toList ++ [rawInt lpos.line, rawInt lpos.col, .ref c'] := by simp
    have I1 := LamX.inv_table (t' := tk) (more := #[rawInt lpos.line, rawInt lpos.col, .ref c']) (h' := h'.push (PySem.W.kla_obj "<lambda>" (X.env.qual ++ "<lambda>") params body scope (cloFrom X.env.cells scope.names []) ((X.mg "__name__").getD .none) c' ctv)) I hP
      (fun b o hb e => Heap.get?_push_of_some _ (hx b o hb e)) (Heap.get?_push_of_some _ htb) hge ⟨oc, vs, t, Heap.get?_push_of_some _ hoc, hd, hv⟩
    refine h h'.objs.size c' ((X.mg "__name__").getD .none) ctv _ _ I1 (.inr ⟨nC, _, rfl, by rw [eL]; exact PySem.TriplesOk_snoc _ _ _ _ ht.tr, fun p cv hcv => ?_⟩) upd_same (Heap.get?_push_size _ rfl)
    rw [eL] at hcv
    exact LamX.among_app _ ht.tr hcv
/-- the scope of lambda x: x[y], y captured -/
structure KeyS (sc scope : Scope) (x y : Str) : Prop where
  kind : scope.kind = .function
  co : scope.isCoroutine = false
  gen : scope.isGenerator = false
  cell : ∀ z ∈ scope.names, z.2 ≠ .cell
  loc : scope.names.lookup x = some .local
  fre : scope.names.lookup y = some .free
  free : ∀ z ∈ scope.names, z.2 = .free → sc.names.lookup z.1 = some .cell ∨ sc.names.lookup z.1 = some .free
def keySB (sc scope : Scope) (x y : Str) : Bool :=
  decide (scope.kind = .function) && !scope.isCoroutine && !scope.isGenerator && (scope.names.all fun z => !decide (z.2 = .cell)) && decide (scope.names.lookup x = some .local) && decide (scope.names.lookup y = some .free) &&
    scope.names.all fun z => !decide (z.2 = .free) || decide (sc.names.lookup z.1 = some .cell) || decide (sc.names.lookup z.1 = some .free)
theorem keyS_by {sc scope : Scope} {x y : Str} (h : keySB sc scope x y = true) : KeyS sc scope x y := by
  unfold keySB at h
  simp only [Bool.and_eq_true, Bool.or_eq_true, Bool.not_eq_true', decide_eq_true_eq, decide_eq_false_iff_not, List.all_eq_true] at h
  obtain ⟨⟨⟨⟨⟨⟨h1, h2⟩, h3⟩, h4⟩, h5⟩, h6⟩, h7⟩ := h
  exact ⟨h1, h2, h3, h4, h5, h6, fun z hz e => by
    rcases h7 z hz with (q | q) | q
    · exact absurd e q
    · exact .inl q
    · exact .inr q⟩
theorem KeyS.has {scope : Scope} {x y : Str} (L : KeyS X.env.scope scope x y) (ok : X.Ok) : ∀ z ∈ scope.names, z.2 = .free → ∃ c, X.env.cells.lookup z.1 = some c := fun z hz e => by
  rcases L.free z hz e with k | k
  · exact ok.has _ (.inl k)
  · exact ok.has _ (.inr k)
theorem clo_cell {scope : Scope} {x y : Str} (L : KeyS X.env.scope scope x y) (ok : X.Ok) : ∃ c, (cloFrom X.env.cells scope.names []).lookup y = some c ∧ X.env.cells.lookup y = some c := by
  obtain ⟨c, hc⟩ := mem_lookup (cloFrom_has (cells := X.env.cells) (acc := []) (PySem.mem_of_lookup L.fre))
  refine ⟨c, hc, ?_⟩
  rcases cloFrom_mem (PySem.mem_of_lookup hc) with hm | ⟨h1, h2⟩
  · cases hm
  · obtain ⟨c1, hc1⟩ := L.has ok _ h1 rfl
    have hc1 : X.env.cells.lookup y = some c1 := hc1
    have e2 : c = c1 := by
      rw [h2, hc1] <;> rfl
    rw [e2]
    exact hc1
/-- one call of the key: x[y] -/
theorem key_turn {scope : Scope} {x y : Str} {i : Nat} {f c' : Addr} {pm ctv : Value} {params : Arguments} {p1 p2 p3 : Pos} {A2 : Around} {h : Heap} {tk : Nat} {t : Addr} {ys : List V} {col n : Int} (I : Inv X pins σ H s) (L : KeyS X.env.scope scope x y) (hroom : A2.depth < recursionLimit)
    (hf : s.heap.get? f = some (PySem.W.kla_obj "<lambda>" (X.env.qual ++ "<lambda>") params (.Subscript (.Name x p1) (.Name y p2) p3) scope (cloFrom X.env.cells scope.names []) pm c' ctv)) (hc : H c' = some (LamX.CodeO c' (X.env.qual ++ "<lambda>")))
    (hbind : ∀ v, bindArgs (PySem.W.kla_fn "<lambda>" (X.env.qual ++ "<lambda>") params (.Subscript (.Name x p1) (.Name y p2) p3) scope (cloFrom X.env.cells scope.names []) pm (.ref c') ctv) ⟨[v], []⟩ = pure [(x, v)])
    (hN : X.N[i]? = some y) (hσ : σ[i]? = some (some (.int col))) (ht : SqT X.K H t ys) (ha : atI ys col = some (.int n)) (kp : ∀ b o, s.heap.get? b = some o → h.get? b = some o)
    (hdx : (x == ("__debug__" : Str)) = false) (hdy : (y == ("__debug__" : Str)) = false) (hcy : (y == ("__classdict__" : Str)) = false) :
    wpAny (model X.prog X.w) A2 (call (.ref f) [.ref t]) (PySem.W.KeyPure (.int n) { s with heap := h, toks := tk }) (fun _ _ => False) { s with heap := h, toks := tk } := by
  obtain ⟨cc, hcl, hce⟩ := clo_cell L I.ok
  have hvis : Vis X.env.scope y := (L.free _ (PySem.mem_of_lookup L.fre) rfl).elim (fun k => .inr (.inl k)) fun k => .inr (.inr k)
  obtain ⟨m, hn, hl⟩ := I.loc
  obtain ⟨u, ru, lk⟩ := hl i y _ hN hσ hvis
  obtain ⟨tu, rfl⟩ := ru
  have hcell : s.heap.IsCell cc (some (.int col tu)) := by
    rcases lk with ⟨k', _⟩ | ⟨_, c3, e', z⟩
    · have k' : X.env.scope.names.lookup y = some .local := k'
      rcases L.free _ (PySem.mem_of_lookup L.fre) rfl with k2 | k2 <;> rw [show X.env.scope.names.lookup y = _ from k2] at k' <;> cases k'
    · rw [hce] at e'
      cases e'
      exact z
  obtain ⟨⟨oc, vs, t5, hoc, hdc, hvc⟩, _, _⟩ := I.hok c' _ hc
  obtain ⟨its, r, pl, hz⟩ := I.tuple ht
  obtain ⟨j, h1, h2, h3, h4, h5⟩ := atI_get ha
  obtain ⟨wv, ew, rw'⟩ := r.get h2
  obtain ⟨tw, rfl⟩ := rw'
  have hlr := r.length
  have hnl := line63
  refine wpAny_call (PySem.W.kla_callFunE hroom (kp _ _ hf) rfl L.co L.gen rfl ⟨c', oc, vs, t5, rfl, kp _ _ hoc, hdc, hvc⟩ ?_)
  rw [hbind]
  refine wpAny_pure (wpAny_newFunctionEnv L.cell (fun z hz => ?_) (fun h₁ hns hsb => ⟨(I.nolimit.keeps kp).fresh _ hsb, ?_⟩) L.kind)
  · rw [List.mem_singleton.mp hz]
    exact L.loc
  have kp1 : ∀ b o, h.get? b = some o → h₁.get? b = some o := fun b o e => hsb.extBut b o (Nat.ne_of_lt (Heap.lt_size e)) (Heap.get?_push_of_some _ e)
  refine PySem.W.kla_codeExpr ?_
  refine Subscript_ (wpAny_Name (wpAny_loadName_local L.kind L.loc hns (v := .ref t) (by simp [List.lookup]) ?_) hdx)
  refine wpAny_Name (wpAny_loadName_free L.kind L.fre hcl (v := .int col tu) (let ⟨o, ho, hd⟩ := hcell; ⟨o, kp1 _ _ (kp _ _ ho), hd⟩) ?_ hcy) hdy
  have pl' := pl.keeps (fun b o e => kp1 b o (kp b o e))
  refine subscriptTail_builtinR (x := .int n tw) pl'.typeIs slot_tuple_getitem.lookup (getItem_tuple (j := j) pl' (by omega) (by omega) (by rw [List.size_toArray, ← hlr]; exact h1) (by simpa using ew) ⟨rfl, h₁, _, rfl, kp1, .int n tw⟩)
theorem vals_each : ∀ {xs : List V} {us : List Value}, Vals xs us → PySem.W.EachIs (fun v x => RelV x v) us xs
  | _, _, .nil => .nil
  | _, _, .cons r t => .cons r (vals_each t)
theorem each_vals : ∀ {xs : List V} {us : List Value}, PySem.W.EachIs (fun v x => RelV x v) us xs → Vals xs us
  | _, _, .nil => .nil
  | _, _, .cons r t => .cons r (each_vals t)
/-- sorted(e, key=lambda x: x[y]) -/
def tSortLam (K : PySem.W.Frag) (P : Addr) (q : Str) (te : TE) (i : Nat) : TE := fun σ H Q => te σ H fun x H1 => ∃ (ps : Array Value) (a : Addr) (col : Int) (xs : List V) (kf : V → Int), x = .ref a ∧ SqL K H1 a xs ∧ σ[i]? = some (some (.int col)) ∧
  (∀ x ∈ xs, ∃ p ys, x = .ref p ∧ SqT K H1 p ys ∧ atI ys col = some (.int (kf x))) ∧ H1 P = some (.tbl ps) ∧ TbOk H1 q ps ∧ ∀ c' H2 p, TbNew H1 P q ps c' H2 → H2 p = none → Q (.ref p) (upd H2 p (.lst (xs.mergeSort fun x y => decide (kf x ≤ kf y))))
/-- sorted(xs), xs a list of tuples of ints -/
def rSortedT (K : PySem.W.Frag) : List V → Hp → VK → Prop := fun vs H Q => ∃ (a : Addr) (xs : List V) (kf : V → List Int), vs = [.ref a] ∧ SqL K H a xs ∧ (∀ x ∈ xs, kf x ≠ [] ∧ ∃ p, x = .ref p ∧ SqT K H p ((kf x).map V.int)) ∧
  ∀ p, H p = none → Q (.ref p) (upd H p (.lst (xs.mergeSort fun x y => decide (kf x ≤ kf y))))
theorem dataLe_tups {β : Type} (x : β → List Int) : PySem.W.dataLe false (fun b => .tuple ((x b).map .int)) = fun p q => decide (x p ≤ x q) := by
  rw [← PySem.W.dataLe_rows]
  rfl
theorem each_reads {pins : List (Addr × Obj)} {kf : V → List Int} (I : Inv X pins σ H s) : ∀ {xs : List V} {us : List Value}, Vals xs us → (∀ x ∈ xs, kf x ≠ [] ∧ ∃ p, x = .ref p ∧ SqT X.K H p ((kf x).map V.int)) → PySem.W.EachIs (fun v x => ∃ as, Reads s.heap v (.tuple ((kf x).map .int)) as) us xs
  | _, _, .nil, _ => .nil
  | _, _, .cons r t, h => .cons (by
      obtain ⟨_, p, rfl, ht⟩ := h _ List.mem_cons_self
      have dpi : ∀ ns : List Int, DpAll X.K H (ns.map V.int) (ns.map PyData.int) := fun ns => by
        induction ns with
        | nil => exact .nil
        | cons n ns ih => exact .cons (.int n) ih
      exact Dp.reads I _ _ _ (.tup ht (dpi _)) r) (each_reads I t fun x hx => h x (List.mem_cons_of_mem _ hx))
theorem sortedTK {K : PySem.W.Frag} (hu : X.A.units + 65 < cLine) (hK : X.K = K := by rfl) : CallR X (.builtin "sorted") (rSortedT K) := by
  subst hK
  intro pins s σ H vs us Q I r h
  obtain ⟨a, xs, kf, rfl, hs, hall, q⟩ := h
  obtain ⟨its, rv, hl, hz⟩ := I.list hs
  rw [Vals.ref1 r]
  classical
  let kg : V → List Int := fun x => if kf x = [] then [0] else kf x
  have ek : ∀ x ∈ xs, kg x = kf x := fun x hx => if_neg (hall x hx).1
  have hall2 : ∀ x ∈ xs, kg x ≠ [] ∧ ∃ p, x = .ref p ∧ SqT X.K H p ((kg x).map V.int) := fun x hx => by rw [ek x hx]; exact hall x hx
  refine PySem.W.sorted_data (β := V) (R := fun v x => RelV x v) (bs := xs) (enc := fun x => .tuple ((kg x).map .int)) hl.isList (vals_each rv) (each_reads I rv hall2) (PySem.W.AllAlike.of fun b b' => PySem.W.alike_ints _ _) (PySem.W.Sortable.tuples fun b => ?_) hz (fun x _ => by
    show X.A.units + 2 + (PyData.depthAll ((kg x).map .int) + 1) < cLine
    rw [PySem.W.depth_ints]
    omega) fun out hlen hE => ?_
  · cases e : kg b with
    | nil =>
      have : kg b = if kf b = [] then [0] else kf b := rfl
      rw [this] at e
      split at e
      · cases e
      · rename_i hne
        exact absurd e hne
    | cons n ns => exact ⟨.int n, ns.map .int, rfl⟩
  · rw [dataLe_tups] at hE
    have hv := each_vals hE
    have e2 : (xs.mergeSort fun x y => decide (kg x ≤ kg y)) = xs.mergeSort fun x y => decide (kf x ≤ kf y) := by
      have := List.map_mergeSort (r := fun x y => decide (kg x ≤ kg y)) (s := fun x y => decide (kf x ≤ kf y)) (f := fun x : V => x) (l := xs) (fun a ha b hb => by rw [ek a ha, ek b hb])
      simpa using this
    rw [e2] at hv
    obtain ⟨ep, he'⟩ := PyProof.Rows.sortedAll_at s.heap its out.toArray
    refine ⟨.ref _, upd H (s.heap.objs.size + 1) (.lst (xs.mergeSort fun x y => decide (kf x ≤ kf y))), I.laid (t' := s.toks) (fun _ _ => PyProof.Rows.sortedAll_old) (Nat.le_succ _) ⟨?_, out, ep, hv, he'⟩, rfl, q _ (I.hok.fresh (Nat.le_succ _))⟩
    rw [List.length_mergeSort]
    exact hz
theorem tbNew_seqL {H H2 : Hp} {P c' a : Addr} {q : Str} {ps : Array Value} {xs : List V} {K : PySem.W.Frag} (hP : H P = some (.tbl ps)) (tn : TbNew H P q ps c' H2) (h : SqL K H a xs) : SqL K H2 a xs := by
  rcases tn with ⟨rfl, _⟩ | ⟨nC, ps', rfl, _, _⟩
  · exact h
  · have key : ∀ {o : HO}, H a = some o → (∀ z, o ≠ .tbl z) → upd (upd H P (.tbl ps')) c' (LamX.CodeO c' q) a = some o := fun {o} e n => by
      rw [upd_ne (ne_of_none e nC), upd_ne (fun z => n ps (Option.some.inj (e.symm.trans (by rw [z]; exact hP))))]
      exact e
    rcases h with (h | ⟨o, h⟩) | h
    · exact .inl (.inl (key h fun z e => by cases e))
    · exact .inl (.inr ⟨o, key h fun z e => by cases e⟩)
    · exact .inr h
theorem tbNew_seqT {H H2 : Hp} {P c' a : Addr} {q : Str} {ps : Array Value} {xs : List V} {K : PySem.W.Frag} (hP : H P = some (.tbl ps)) (tn : TbNew H P q ps c' H2) (h : SqT K H a xs) : SqT K H2 a xs := by
  rcases tn with ⟨rfl, _⟩ | ⟨nC, ps', rfl, _, _⟩
  · exact h
  · have key : ∀ {o : HO}, H a = some o → (∀ z, o ≠ .tbl z) → upd (upd H P (.tbl ps')) c' (LamX.CodeO c' q) a = some o := fun {o} e n => by
      rw [upd_ne (ne_of_none e nC), upd_ne (fun z => n ps (Option.some.inj (e.symm.trans (by rw [z]; exact hP))))]
      exact e
    rcases h with (h | ⟨o, h⟩) | h
    · exact .inl (.inl (key h fun z e => by cases e))
    · exact .inl (.inr ⟨o, key h fun z e => by cases e⟩)
    · exact .inr h
theorem pe_sortLam {K : PySem.W.Frag} {c P : Addr} {i k : Nat} {x y q : Str} {e : Expr} {te : TE} {params : Arguments} {scope : Scope} {p p1 p2 p3 lpos kpos pos : Pos} (hr : Room (k + 2) X.A) (hg : Gl X "sorted") (hm : X.mg "sorted" = none) (ha : PA X [e] (tCons te tNil)) (TB : LamX.TabB X.base X.mg c P) (hcode : X.env.code = .ref c) (hq : q = X.env.qual ++ "<lambda>")
    (L : KeyS X.env.scope scope x y) (hN : X.N[i]? = some y) (hdef : defaultsOf params X.env = ([], []))
    (hbind : ∀ (q : Str) (cl : List (Str × Addr)) (pm cv ctv v : Value), bindArgs (PySem.W.kla_fn "<lambda>" q params (.Subscript (.Name x p1) (.Name y p2) p3) scope cl pm cv ctv) ⟨[v], []⟩ = pure [(x, v)])
    (hdx : (x == ("__debug__" : Str)) = false := by decide) (hdy : (y == ("__debug__" : Str)) = false := by decide) (hcy : (y == ("__classdict__" : Str)) = false := by decide)
    (he : backTo pos (starEach [e] X.env) = (false, eval e X.env) :: backTo pos (starEach [] X.env) := by rfl) (hpl : (backTo pos (starEach [e] X.env)).any (·.1) = false := by rfl) (hK : X.K = K := by rfl) :
    PE X (.Call (.Name "sorted" p) [e] [⟨some "key", .Lambda params (.Subscript (.Name x p1) (.Name y p2) p3) scope lpos, kpos⟩] pos) (tSortLam K P q te i) := by
  subst hK hq
  refine ⟨fun pins s σ H Q I h => ?_⟩
  refine wpAny_Call_Name_kw (ld_blt I hg hm boot_sorted ?_ (by decide) (by decide))
  refine PyProof.Rows.callWith_kw (thn (ha.run pos pins s σ H (fun vs H1 => match vs with
    | [x] => ∃ (ps : Array Value) (a : Addr) (col : Int) (xs : List V) (kf : V → Int), x = .ref a ∧ SqL X.K H1 a xs ∧ σ[i]? = some (some (.int col)) ∧
      (∀ x ∈ xs, ∃ p ys, x = .ref p ∧ SqT X.K H1 p ys ∧ atI ys col = some (.int (kf x))) ∧ H1 P = some (.tbl ps) ∧ TbOk H1 (X.env.qual ++ "<lambda>") ps ∧ ∀ c' H2 p, TbNew H1 P (X.env.qual ++ "<lambda>") ps c' H2 → H2 p = none → Q (.ref p) (upd H2 p (.lst (xs.mergeSort fun x y => decide (kf x ≤ kf y))))
    | _ => False) I h) fun us s1 ⟨vs, H1, I1, r1, q1⟩ => ?_) he hpl rfl rfl
  obtain ⟨x0, rfl⟩ : ∃ x0, vs = [x0] := by
    match vs, q1 with
    | [x0], _ => exact ⟨x0, rfl⟩
  obtain ⟨ps, a, col, xs, kf, ex, hs, hσ, hall, hP, hT, q⟩ := q1
  subst ex
  obtain rfl := Vals.ref1 r1
  show wpAny _ _ (evalAll ((do let v ← eval (.Lambda params (.Subscript (.Name x p1) (.Name y p2) p3) scope lpos) X.env; standAt pos; pure v) :: [])) _ _ s1
  refine wpAny_evalAll_cons (wpAny_bind (lam_mk I1 TB hcode hP hT hdef (L.has I1.ok) fun f c' pm ctv H2 s2 I2 tn hco hf => wpAny_bind (wpAny_standAt (wpAny_pure (wpAny_evalAll_nil ?_)))))
  show wpAny _ _ (call (.builtin "sorted") [.ref a] [(Str.ofString "key", .ref f)]) _ _ s2
  obtain ⟨its, rv, hl, hz⟩ := I2.list (tbNew_seqL hP tn hs)
  refine PySem.W.sorted_key_data (β := V) (R := fun v x => RelV x v) (bs := xs) (b := false) (f := .ref f) (fun x => .int (kf x)) hl.isList (vals_each rv) (PySem.W.AllAlike.of fun _ _ => rfl) (PySem.W.Sortable.others fun b => ⟨(fun z => by cases z), fun xs z => by cases z⟩) hz (fun x _ => by
    have := hr.un
    show X.A.units + 2 + 0 < cLine
    omega) (PyProof.Rows.ksk_s1 _ _) (fun _ => PyProof.Rows.ksk_l1 _ _) (fun z => PyProof.Rows.ksk_t1 f z) (fun v x hR hx h tk kp => ?_) fun out cc h' tk kp fr hD hlen hE => ?_
  · obtain ⟨t, ys, rfl, ht, hat⟩ := hall x hx
    obtain rfl : v = Value.ref t := hR
    exact key_turn I2 L (by have := hr.dp; show X.A.depth < _; omega) hf hco (hbind _ _ _ _ _) hN hσ (tbNew_seqT hP tn ht) hat kp hdx hdy hcy
  · rw [PySem.W.dataLe_int] at hE
    have hv := each_vals hE
    refine ⟨.ref _, upd H2 (s2.heap.objs.size + 1) (.lst (xs.mergeSort fun x y => decide (kf x ≤ kf y))), I2.laid (t' := tk) kp (Nat.le_succ _) ⟨?_, out, cc, hv, hD⟩, rfl, q c' H2 _ tn (I2.hok.fresh (Nat.le_succ _))⟩
    rw [List.length_mergeSort]
    exact hz
end
end L2
namespace Pr
open PySem L2
/-- the table is own, and stays so -/
theorem Wd.tabNew {K : Fg} {H0 H H2 : Hp} {O : Om} {P c' : Addr} {q : Str} {ps : Array Value} (w : Wd K H0 H O) (hO : O P = some (.tab q)) (hP : H P = some (.tbl ps)) (tn : TbNew H P q ps c' H2) : ∃ H1, Same H0 H1 ∧ Wd K H1 H2 O := by
  rcases tn with ⟨rfl, _⟩ | ⟨nC, ps', rfl, tr, al⟩
  · exact ⟨H0, Same.refl _, w⟩
  · obtain ⟨p0, o, ho, ps2, rfl, tr2, co2⟩ := w.own P _ hO
    have e2 : ps2 = ps := by
      rw [hP] at ho
      cases ho
      rfl
    subst e2
    have nC0 : H0 c' = none := w.le.free nC
    have hPc : P ≠ c' := ne_of_none hP nC
    refine ⟨upd H0 c' (LamX.CodeO c' q), same_new nC0, fun b o e => ?_, fun p b hb => ?_⟩
    · by_cases hbc : b = c'
      · subst hbc
        rw [upd_same] at e ⊢
        exact e
      · rw [upd_ne hbc] at e ⊢
        rw [upd_ne (fun z => by rw [z, p0] at e; cases e)]
        exact w.le _ _ e
    · obtain ⟨h0, o, ho, r⟩ := w.own p b hb
      have hpc : p ≠ c' := ne_of_none ho nC
      refine ⟨by rw [upd_ne hpc]; exact h0, ?_⟩
      by_cases hpP : p = P
      · subst hpP
        rw [hO] at hb
        cases hb
        refine ⟨.tbl ps', by rw [upd_ne hpc, upd_same], ps', rfl, tr, fun pos cv h => ?_⟩
        rcases al pos cv h with z | z
        · obtain ⟨c, e1, e2⟩ := co2 pos cv z
          exact ⟨c, e1, same_new nC0 _ _ e2⟩
        · exact ⟨c', z, upd_same⟩
      · exact ⟨o, by rw [upd_ne hpc, upd_ne hpP]; exact ho, r.up (same_new nC0)⟩
def keyV (H : Hp) (col : Int) : V → Int
  | .ref p => match H p with
    | some (.tup ys) => match atI ys col with
      | some (.int n) => n
      | _ => 0
    | _ => 0
  | _ => 0
theorem atI_dens2 {K : Fg} {H : Hp} {vs : List V} {ds : List D} {i : Int} {d : D} (r : Dens K H vs ds) (h : atI ds i = some d) : ∃ v, atI vs i = some v ∧ Den K H v d := atI_dens r h
/-- sorted, what is denoted -/
theorem dens_sortB {K : Fg} {H : Hp} {lv : V → V → Bool} {ld : D → D → Bool} {vs : List V} {ds : List D} (r : Dens K H vs ds) (h : ∀ a ∈ vs.zip ds, ∀ b ∈ vs.zip ds, lv a.1 b.1 = ld a.2 b.2) : Dens K H (vs.mergeSort lv) (ds.mergeSort ld) := by
  have e1 : ((vs.zip ds).mergeSort fun x y => ld x.2 y.2).map (·.1) = vs.mergeSort lv := by
    rw [List.map_mergeSort (s := lv)]
    · rw [List.map_fst_zip (Nat.le_of_eq r.length)]
    · intro a ha b hb
      exact (h a ha b hb).symm
  have e2 : ((vs.zip ds).mergeSort fun x y => ld x.2 y.2).map (·.2) = ds.mergeSort ld := by
    rw [List.map_mergeSort (s := ld)]
    · rw [List.map_snd_zip (Nat.le_of_eq r.length.symm)]
    · intro a _ b _
      rfl
  have key : ∀ L : List (V × D), (∀ p ∈ L, Den K H p.1 p.2) → Dens K H (L.map (·.1)) (L.map (·.2)) := fun L => by
    induction L with
    | nil => exact fun _ => .nil
    | cons p L ih => exact fun hp => .cons (hp p List.mem_cons_self) (ih fun q hq => hp q (List.mem_cons_of_mem _ hq))
  have all : ∀ {vs : List V} {ds : List D}, Dens K H vs ds → ∀ p ∈ vs.zip ds, Den K H p.1 p.2 := fun {vs ds} r => by
    intro p hp
    obtain ⟨i, hi⟩ := List.getElem?_of_mem hp
    rw [List.getElem?_zip_eq_some] at hi
    obtain ⟨d, hd, rd⟩ := r.getV hi.1
    rw [hi.2] at hd
    cases hd
    exact rd
  rw [← e1, ← e2]
  exact key _ fun p hp => all r p (List.mem_mergeSort.mp hp)
theorem dens_sort {K : Fg} {H : Hp} {kv : V → Int} {kd : D → Int} {vs : List V} {ds : List D} (r : Dens K H vs ds) (h : ∀ v d, (v, d) ∈ vs.zip ds → kv v = kd d) : Dens K H (vs.mergeSort fun x y => decide (kv x ≤ kv y)) (ds.mergeSort fun x y => decide (kd x ≤ kd y)) :=
  dens_sortB r fun a ha b hb => by rw [h a.1 a.2 ha, h b.1 b.2 hb]
def keyD (col : Int) : D → Int
  | .tup ds => match atI ds col with
    | some (.int n) => n
    | _ => 0
  | _ => 0
def keyRow (H : Hp) : V → List Int
  | .ref p => match H p with
    | some (.tup ys) => ys.map fun v => match v with
      | .int n => n
      | _ => 0
    | _ => []
  | _ => []
abbrev tupI (r : List Int) : D := .tup (iL r)
theorem tupI_inj {a b : List Int} (h : tupI a = tupI b) : a = b := int_inj (D.tup.inj h)
abbrev leR (a b : List Int) : Bool := decide (a ≤ b)
theorem rc_sortT {K : Fg} {E : XK} {rows : List (List Int)} (hn : ∀ r ∈ rows, r ≠ []) : RC K E (rSortedT K) [.lst (rows.map tupI)] (.new ((rows.mergeSort leR).map tupI)) := fun H0 H e xs r Q q => by
  obtain ⟨v, ws, rfl, r1, r2⟩ := r.cons_out
  obtain rfl := r2.nil_out
  obtain ⟨a, vs, rfl, ha, t⟩ := r1.lst_out
  have kr : ∀ v ∈ vs, ∀ row, Den K H0 v (tupI row) → keyRow H0 v = row ∧ ∃ p, v = .ref p ∧ H0 p = some (.tup (row.map V.int)) := fun v _ row rd => by
    obtain ⟨p, ys, rfl, hp, ty⟩ := rd.tup_out
    obtain rfl := ty.ints_eq
    refine ⟨?_, p, rfl, hp⟩
    show (match H0 p with | some (.tup ys) => ys.map (fun v => match v with | .int n => n | _ => 0) | _ => []) = row
    rw [hp]
    dsimp only
    rw [List.map_map]
    exact (List.map_congr_left fun n _ => rfl).trans (List.map_id _)
  have at_ : ∀ v ∈ vs, ∃ row ∈ rows, Den K H0 v (tupI row) := fun v hv => by
    obtain ⟨j, hj⟩ := List.getElem?_of_mem hv
    obtain ⟨d, hd, rd⟩ := t.getV hj
    rw [List.getElem?_map] at hd
    cases hr : rows[j]? with
    | none => rw [hr] at hd; cases hd
    | some row =>
      rw [hr] at hd
      obtain rfl := Option.some.inj hd
      exact ⟨row, List.mem_of_getElem? hr, rd⟩
  have md : (rows.mergeSort leR).map tupI = (rows.map tupI).mergeSort fun x y => leR (match x with | .tup ds => ds.map (fun d => match d with | .int n => n | _ => 0) | _ => []) (match y with | .tup ds => ds.map (fun d => match d with | .int n => n | _ => 0) | _ => []) := by
    refine List.map_mergeSort fun x _ y _ => ?_
    show leR x y = leR ((iL x).map fun d => match d with | .int n => n | _ => 0) ((iL y).map fun d => match d with | .int n => n | _ => 0)
    have e : ∀ z : List Int, ((iL z).map fun d => match d with | .int n => n | _ => (0 : Int)) = z := fun z => by
      unfold iL
      rw [List.map_map]
      exact (List.map_congr_left fun n _ => rfl).trans (List.map_id _)
    rw [e, e]
  refine ⟨a, vs, keyRow H0, rfl, .inl (.inl (e _ _ ha)), fun v hv => ?_, fun p hp => ?_⟩
  · obtain ⟨row, hr, rd⟩ := at_ v hv
    obtain ⟨e1, p, e2, e3⟩ := kr v hv row rd
    refine ⟨by rw [e1]; exact hn row hr, p, e2, ?_⟩
    rw [e1]
    exact .inl (.inl (e _ _ e3))
  · refine q p _ H0 _ (Stp.own e hp) hp (e.free hp) upd_same ?_
    rw [md]
    refine dens_sortB t fun x hx y hy => ?_
    have one : ∀ x : V × D, x ∈ vs.zip (rows.map tupI) → keyRow H0 x.1 = (match x.2 with | .tup ds => ds.map (fun d => match d with | .int n => n | _ => 0) | _ => []) := fun x hx => by
      obtain ⟨j, hj⟩ := List.getElem?_of_mem hx
      rw [List.getElem?_zip_eq_some] at hj
      obtain ⟨d, hd, rd⟩ := t.getV hj.1
      rw [hj.2] at hd
      have hd2 := Option.some.inj hd
      have hj2 := hj.2
      rw [List.getElem?_map] at hj2
      cases hr : rows[j]? with
      | none => rw [hr] at hj2; cases hj2
      | some row =>
        rw [hr] at hj2
        have ex : tupI row = x.2 := Option.some.inj hj2
        rw [← hd2, ← ex] at rd
        rw [(kr x.1 (List.mem_of_getElem? hj.1) row rd).1, ← ex]
        show row = (iL row).map _
        unfold iL
        rw [List.map_map]
        exact ((List.map_congr_left fun n _ => rfl).trans (List.map_id _)).symm
    show leR (keyRow H0 x.1) (keyRow H0 y.1) = _
    rw [one x hx, one y hy]
theorem em_sortLam {K : Fg} {G : Sl} {O : Om} {P : Addr} {q : Str} {te : TE} {i : Nat} {ds : List D} {col : Int} {PP : D → Om → Prop} (h : EvR K E0 te G (.val (.lst ds))) (hO : O P = some (.tab q)) (hi : G[i]? = some (some (.int col)))
    (hd : ∀ d ∈ ds, ∃ es n, d = .tup es ∧ atI es col = some (.int n)) (k : PP (.lst (ds.mergeSort fun x y => decide (keyD col x ≤ keyD col y))) O) : EvM K (tSortLam K P q te i) G O PP := fun σ H0 H w s Q qq =>
  h σ H0 H w.le s _ fun v H1 H1' s1 r1 => by
    have w1 := w.step s1
    obtain ⟨a, vs, rfl, ha, t⟩ := r1.lst_out
    obtain ⟨iv, e1, e2⟩ := s.has i _ hi
    obtain rfl := e2.int_eq
    obtain ⟨p0, o, ho, ps, rfl, tr, co⟩ := w1.own P _ hO
    have kvd : ∀ v d, (v, d) ∈ vs.zip ds → keyV H1 col v = keyD col d ∧ ∃ p ys, v = .ref p ∧ H1 p = some (.tup ys) ∧ atI ys col = some (.int (keyD col d)) := fun v d hm => by
      obtain ⟨j, hj⟩ := List.getElem?_of_mem hm
      rw [List.getElem?_zip_eq_some] at hj
      obtain ⟨d', hd', rd⟩ := t.getV hj.1
      rw [hj.2] at hd'
      cases hd'
      obtain ⟨es, n, rfl, hn⟩ := hd d (List.mem_of_getElem? hj.2)
      obtain ⟨p, ys, rfl, hp, ty⟩ := rd.tup_out
      obtain ⟨u, hu, ru⟩ := atI_dens ty hn
      obtain rfl := ru.int_eq
      have ek : keyD col (.tup es) = n := by
        show (match atI es col with | some (.int n) => n | _ => 0) = n
        rw [hn]
      refine ⟨?_, p, ys, rfl, hp, by rw [ek]; exact hu⟩
      show (match H1 p with | some (.tup ys) => (match atI ys col with | some (.int n) => n | _ => 0) | _ => 0) = _
      rw [hp]
      dsimp only
      rw [hu, ek]
    have kvv : ∀ v ∈ vs, ∃ p ys, v = .ref p ∧ H1 p = some (.tup ys) ∧ atI ys col = some (.int (keyV H1 col v)) := fun v hv => by
      obtain ⟨j, hj⟩ := List.getElem?_of_mem hv
      obtain ⟨d, hd', rd⟩ := t.getV hj
      have hm : (v, d) ∈ vs.zip ds := List.mem_of_getElem? (i := j) (by rw [List.getElem?_zip_eq_some]; exact ⟨hj, hd'⟩)
      obtain ⟨e, p, ys, e1, e2, e3⟩ := kvd v d hm
      exact ⟨p, ys, e1, e2, by rw [e]; exact e3⟩
    refine ⟨ps, a, col, vs, keyV H1 col, rfl, .inl (.inl (s1.c _ _ ha)), e1, fun v hv => ?_, ho, ⟨tr, fun pos cv hc => ?_⟩, fun c' H2 p tn hp => ?_⟩
    · obtain ⟨p, ys, e1, e2, e3⟩ := kvv v hv
      exact ⟨p, ys, e1, .inl (.inl (s1.c _ _ e2)), e3⟩
    · obtain ⟨c, x1, x2⟩ := co pos cv hc
      exact ⟨c, x1, s1.c _ _ x2⟩
    · obtain ⟨H3, s3, w3⟩ := w1.tabNew hO ho tn
      have w4 := w3.put (b := .lst (ds.mergeSort fun x y => decide (keyD col x ≤ keyD col y))) (p := p) (w3.le.free hp) ⟨_, rfl, (dens_sort t fun v d hm => (kvd v d hm).1).up s3⟩
      obtain ⟨H4, s4, w5, r5⟩ := w4.freeze oput_same
      rw [odrop_put (w3.free hp)] at w5
      exact qq _ _ H4 _ O k ((s1.a.trans s3).trans s4) w5 r5
end Pr
namespace Pr
open PySem PySem.Spec L2
/-! ### a def that makes a lambda: its code object is known -/
theorem calT_nox {P : Program} {w : World} {K : Fg} {mg : Str → Option Value} {base : Heap} {x qual : Str} {params : Arguments} {body : List Stmt} {scope : Scope} {N ps : List Str} {k : Nat} {sp : Sp} (hm : mg x = some (.ref (He.ga K x))) (F : ∃ fd, FunD K x qual params body scope [] [] (He.ga K x) fd) (S : FnScope N ps scope) (len : ∀ vs H Q E, sp vs H Q E → vs.length = ps.length)
    (h : ∀ (kV doc pm : Value) (an : Option Addr) (cdv ct : Value) (us : List Value), us.length = ps.length → bindArgs (PySem.W.fnOf x qual params body scope .none kV doc pm an cdv ct) ⟨us, []⟩ = pure (ps.zip us))
    (hbody : ∀ (cdv : Value) (A : Around) (outer : List Env) (s : Shared) (H : Hp) (vs : List V) (Q : VK) (E : XK), cdv = .ref (He.codeOf K (x, none)) → Room k (A.deeper (PyProof.Rows.envOfC qual scope s.heap.objs.size (He.ga K x) cdv)) → sp vs H Q E →
      ∃ t, PSs (cxOf (L2.CX P w) P w K mg base N qual scope (He.ga K x) cdv A outer s H E).nox body t ∧ t { nx := fun _ H' => Q .non H', rt := Q } (L2.start N vs) H) : Cal P w K mg base x (k + 1) ps sp := by
  obtain ⟨fd, F⟩ := F
  obtain ⟨oc, od, dV, kV, doc, pm, an, cdv, ct, osl, e, lk, hcd, hD, hKw⟩ := id F.ex
  obtain ⟨c, ec⟩ := He.codeIn_ref hcd
  have ecd : cdv = .ref (He.codeOf K (x, none)) := by
    rw [ec, He.codeOf_eq (K := K) (p := (x, none)) (c := c) lk (by rw [e]; exact ec)]
  refine ⟨He.ga K x, fd, hm, F.kp, ?_, F.bindsN h, fun s us hl => F.bindsA h s us hl, _, lk, rfl⟩
  subst e
  exact fn_of lk hcd S len fun A outer s H vs Q E hr hsp => let ⟨t, a, b⟩ := hbody cdv A outer s H vs Q E ecd hr hsp; ⟨t, a.nox, b⟩
/-! ### the law's end, with a table -/
inductive PLawT (T : Addr) (q : Str) : List D → Om → (D → Om → Prop) → Prop
  | mk (ns : List Int) (O : Om) (k : D → Om → Prop) (h : ns.length ≤ 63) (hO : O T = some (.tab q)) (hk : ∀ O', k (.bl true) O') : PLawT T q [.scr ns] O k
theorem law_endT {P : Program} {w : World} {K : Fg} {mg : Str → Option Value} {fa c T : Addr} {q : Str} {k : Nat} (hfa : mg "law" = some (.ref fa)) (C : ∀ base : Heap, LamX.TabB base mg c T → Cal P w K mg base "law" k ["script"] (SpM K (PLawT T q))) {qual : Str} {params : Arguments} {body : List Stmt} {scope : Scope} (FL : ∃ fd, FunD K "law" qual params body scope [] [] fa fd)
    (hb : ∀ (kV doc pm : Value) (an : Option Addr) (cdv ct : Value) (us : List Value), us.length = 1 → bindArgs (PySem.W.fnOf "law" qual params body scope .none kV doc pm an cdv ct) ⟨us, []⟩ = pure (([("script" : Str)]).zip us)) :
    ∃ (fd : FuncData) (sp : Sp), (∀ (s : Shared) (u : Value), BindsTo s fd ⟨[u], []⟩ [("script", u)]) ∧
      (∀ (H : Hp) (a : Addr) (ns : List Int), ns.length ≤ 63 → H T = some (.tbl #[]) → SqL K H a (ns.map V.int) → sp [.ref a] H (fun v _ => v = .bl true) fun _ _ _ => False) ∧
        ∀ base : Heap, LamX.TabB base mg c T → FnOk P w K mg base CX0 k fa fd ["script"] sp := by
  obtain ⟨fd, FL⟩ := FL
  obtain ⟨oc, ods, dV, kV, doc, pm, an, cdv, ct, osl, ef, lk, _⟩ := id FL.ex
  refine ⟨fd, fun vs H Q _ => SpM K (PLawT T q) vs H Q E0, fun s u => FL.bindsA (ps := [("script" : Str)]) hb s [u] rfl, fun H a ns hl hT hS => ?_, fun base TB => ?_⟩
  · have haT : a ≠ T ∨ ∀ H' : Hp, SqL K H' a (ns.map V.int) := by
      rcases hS with (h | ⟨o, h⟩) | h
      · exact .inl fun z => by rw [z, hT] at h; cases h
      · exact .inl fun z => by rw [z, hT] at h; cases h
      · exact .inr fun H' => .inr h
    have hS' : SqL K (fun b => if b = T then none else H b) a (ns.map V.int) := by
      rcases haT with z | z
      · have e : (fun b => if b = T then none else H b) a = H a := if_neg z
        rcases hS with (h | ⟨o, h⟩) | h
        · exact .inl (.inl (e.trans h))
        · exact .inl (.inr ⟨o, e.trans h⟩)
        · exact .inr h
      · exact z _
    refine ⟨fun b => if b = T then none else H b, fun b => if b = T then some (.tab q) else none, [.scr ns], fun d _ => d = .bl true, ⟨fun b o h => ?_, fun p b h => ?_⟩, .cons (.scr hS') .nil, .mk ns _ _ hl (if_pos rfl) fun _ => rfl, fun d O' v H0' H' hd _ _ r => by subst hd; exact r.bl_eq⟩
    · by_cases hb : b = T
      · rw [if_pos hb] at h; cases h
      · rw [if_neg hb] at h; exact h
    · by_cases hp : p = T
      · rw [if_pos hp] at h
        cases h
        refine ⟨if_pos hp, .tbl #[], by rw [hp]; exact hT, #[], rfl, True.intro, fun pos cv h => ?_⟩
        have z : codeAmong pos [] = some cv := h
        simp [codeAmong] at z
      · rw [if_neg hp] at h
        cases h
  · obtain ⟨f', fd', hm', kp', F', b', bA', o', lo', od'⟩ := (C base TB).ex
    have e := hfa.symm.trans hm'
    cases e
    have e := lk.symm.trans lo'
    cases e
    have e : Data.func fd = .func fd' := od'
    cases e
    refine ⟨fun vs H Q _ h => F'.len vs H Q E0 h, fun A outer s H args us vs Q E hr h0 hb hv h => ?_⟩
    refine codeAny_mono (F'.run A outer s H args us vs Q E0 hr h0 hb hv h) fun r s' q => ?_
    cases r with
    | error e =>
      obtain ⟨_, _, _, _, _, _, _, _, _, _, _, _, z⟩ := q
      exact z.elim
    | ok fl =>
      cases fl with
      | ret u => exact q
      | next => exact q
      | brk => exact q
      | cont => exact q
end Pr
namespace L2
open PySem PySem.Spec PyProof.Rows
theorem tuple_mul1 (l : Addr) (items : Array Value) (n : Nat) (dd : Option Addr) (sl : Array (Option Value)) (u : Tok) :
    Meets (Builtin.«tuple.__mul__» ⟨[.ref l, .int 1 u], []⟩) (fun _ R s => s.heap.get? l = some { cls := .type "tuple", dict := dd, data := .seq items n, slots := sl } ∧ R (.ok (.ret (.ref l))) s) :=
  .of_wp fun prog w A R s h => by
    obtain ⟨hp, g, d, tk, os⟩ := s
    obtain ⟨hl, h⟩ := h
    have f1 := AutoSeq1.idx_int
    have c0 : (decide ((1 : Int) < -(2 ^ 63)) || decide ((1 : Int) ≥ 2 ^ 63)) = false := by decide
    have c1 : (items.isEmpty || (1 : Int) == 1) = true := by simp
    wp_walk using wpAny_loadPart' hl
    repeat (first
      | (refine wpAny_ite_false (decide_eq_false (by rw [c0]; exact Bool.false_ne_true)) ?_; wp_walk using wpAny_loadPart' hl)
      | (refine wpAny_ite_true (decide_eq_true c1) ?_; wp_walk using wpAny_loadPart' hl))
    exact ⟨_, rfl, h⟩
/-- tuple * int, one or more -/
def rRepT1 (K : PySem.W.Frag) : R2 := fun x y H Q => rRepT K x y H Q ∨ ∃ l xs, x = .ref l ∧ y = .int 1 ∧ SqT K H l xs ∧ Q (.ref l) H
theorem repT1K {X : Cx} {K : PySem.W.Frag} (hK : X.K = K := by rfl) : OpR X (binaryOp .Mult) (rRepT1 K) := by
  subst hK
  intro pins s σ H x y v u Q I rx ry h
  rcases h with h | ⟨l, xs, rfl, rfl, hT, q⟩
  · exact op_repT pins s σ H x y v u Q I rx ry h
  · cases rx
    obtain ⟨t, rfl⟩ := ry
    obtain ⟨its, r, ⟨⟨cls, dd, data, sl⟩, ho, hc, n, hd⟩, hs⟩ := I.tuple hT
    simp only at hc hd
    subst hc hd
    exact wpAny_binaryOp_repeat_ref (T := "tuple") (U := "int") (by decide) ⟨_, ho, rfl⟩ (fun s' => typeIs_int s' 1 t) noFill_tuple_mul F.fills_int_mul F.slot_int_rmul repeat_tuple F.slot_int_index.lookup
      (call_meets F.slot_int_rmul (typeIs_int s 1 t) F.entry_int_rmul (F.args_int_rmul_2 _ _) (int_rmul_tuple 1 t l its.toArray n dd sl)
        ⟨ho, rfl, ⟨_, ho, rfl⟩, call_meets F.slot_tuple_mul ⟨_, ho, rfl⟩ F.entry_tuple_mul (F.args_tuple_mul_2 _ _) (tuple_mul1 l its.toArray n dd sl t) ⟨ho, ⟨.ref l, H, I, rfl, q⟩⟩⟩)
end L2
namespace Pr
open PySem L2
theorem rd_repT1 {K : Fg} {E : XK} {d : D} {k : Nat} (h1 : 1 ≤ k) (h2 : k ≤ 1000) : RD K E (rRepT1 K) (.tup [d]) (.int k) (.val (.tup (List.replicate k d))) := fun H0 H e x y r1 r2 Q q => by
  obtain ⟨a, vs, rfl, ha, t⟩ := r1.tup_out
  obtain rfl := r2.int_eq
  have el : ∀ (n : Nat) (z : List V) (w : V), z = [w] → (List.replicate n z).flatten = List.replicate n w := fun n z w hz => by
    subst hz
    induction n with
    | zero => rfl
    | succ n ih => rw [List.replicate_succ, List.flatten_cons, ih]; rfl
  obtain ⟨w, ws, rfl, rw1, tn⟩ := t.cons_out
  obtain rfl := tn.nil_out
  rcases Nat.lt_or_ge 1 k with hk | hk
  · refine .inl ⟨a, k, [w], rfl, rfl, .inl (.inl (e _ _ ha)), by simp, by omega, by omega, by show 1 ≤ 1000; decide, fun p hp => ?_⟩
    rw [show ((k : Nat) : Int).toNat = k by omega, el k [w] w rfl]
    have dr : ∀ n : Nat, Dens K H0 (List.replicate n w) (List.replicate n d) := fun n => by
      induction n with
      | zero => exact .nil
      | succ n ih => exact .cons rw1 ih
    exact q (.ref p) (upd H0 p (.tup (List.replicate k w))) _ (Stp.new e hp) (.tup upd_same ((dr k).up (same_new (e.free hp))))
  · have : k = 1 := by omega
    subst this
    exact .inr ⟨a, [w], rfl, rfl, .inl (.inl (e _ _ ha)), sat_val e q r1⟩
/-- try: x = f(..) except c as e: y = e, f with effects -/
theorem sv_tryE {K : Fg} {E : XK} {N : En} {G : Sl} {O : Om} {c : Value} {ie ic j : Nat} {PS : List D → Om → Cn → Prop} {t : TA} (h : EvMA K t G O fun ds O1 => PS ds O1 { rt := fun d O' => N.nx (G.set j (some d)) O', ex := fun cls O' => PySem.W.exmOne K cls c = some true ∧ ∀ a, O' a = none → N.nx (((G.set ie (some (.ref a))).set ic (some (.ref a))).set ie none) (oput O' a (.raw (ExT cls none a))) }) (hl : ie < G.length) :
    Sv K E (tTry K c ie ic j (SpX K PS) t) N G O := fun D σ H0 H w s n =>
  h σ H0 H w s _ fun vs ds H1 H1' O1 p1 s1 w1 r1 => ⟨H1, O1, ds, _, w1, r1, p1, fun d O' v H2 H2' z s2 w2 r2 => n.nx _ O' _ H2 H2' z (s1.trans s2) w2 ((s.up (s1.trans s2)).put r2), fun cls O' H2 H2' ⟨hm, z⟩ s2 w2 => by
    refine ⟨true, hm, fun _ a ha => ?_, fun z => by cases z⟩
    refine ⟨.ref a, List.getElem?_set_self (by rw [s.len]; exact hl), ?_⟩
    have s3 := ((s.up (s1.trans s2)).put (j := ie) (Den.ref a)).put (j := ic) (Den.ref a)
    exact n.nx _ _ _ H2 _ (z a (w2.free ha)) (s1.trans s2) (w2.put (b := .raw (ExT cls none a)) (w2.le.free ha) rfl) s3.drop, fun _ _ _ _ _ z => z.elim⟩
end Pr
/-! Part 1: own == against other kinds and in lists; texts of own instances. -/
namespace L2
open PySem PySem.Spec PySem.W PySem.Calls PyProof.Rows
section
variable {prog : Program} {w : World} {A : Around} {E : Value → Shared → Prop} {s : Shared} {K : Frag} {x C f : Addr} {ox : Obj} {od : Option Obj}
/-- a == o where a's own type declines -/
theorem eq_declK {a : Value} {Ta ida : String} {Q : Value → Shared → Prop} (hu : A.units < cLine) (X : K.In s.heap) (I : InstAt s.heap x ox C od) (ha : s.TypeIs a Ta) (hsub : subIn K (.ref C) (.type Ta) = some false)
    (h1 : Slot Ta (cmpInfo .Eq).2.1 ida) (hc : ∀ Q' : Value → Shared → Prop, Q' .notImplemented s → wpAny (model prog w) A (call (.builtin ida) [a, .ref x]) Q' E s)
    (hs : findIn K (.ref C) (cmpInfo .Eq).2.2 = some (some (.ref f))) (hf : isFn K (.ref f) = true)
    (h : wpAny (model prog w) A (call (.ref f) [.ref x, a]) (PySem.W.CmpBack Q) E s) : wpAny (model prog w) A (richCompare .Eq a (.ref x)) Q E s := by
  have two : wpAny (model prog w) A (tryCompare (.ref x) (cmpInfo .Eq).2.2 a) (fun r s' => ∃ v, r = some v ∧ Q v s') E s := by
    unfold tryCompare
    refine wpAny_bind (ifBound_K X I hs hf (wpAny_mono h (fun v s' hv => ?_) fun _ _ e => e))
    cases v <;> first | exact hv.elim | exact wpAny_pure ⟨_, rfl, hv⟩
  rcases hi : cmpInfo CmpOp.Eq with ⟨sym, g, r⟩
  rw [hi] at h1 two
  simp only [richCompare, hi, ha.oneThing_none]
  refine wpAny_holding (wpAny_bind (wpAny_cRoomFor hu ?_))
  refine wpAny_bind (wpAny_typeOf ha (wpAny_bind (I.type.here ?_)))
  rw [show (Value.type Ta != Value.ref C) = true from rfl]
  simp only [if_true]
  refine wpAny_bind ((looks_subIn X hsub).here ?_)
  simp only [Bool.false_eq_true, if_false, Bool.not_false, if_true]
  refine wpAny_bind (m := tryCompare a _ _) (wpAny_tryCompare_declines ha h1 (hc _ ⟨rfl, ?_⟩))
  refine wpAny_bind (m := tryCompare (.ref x) _ a) (wpAny_mono two (fun r s' z => ?_) fun _ _ e => e)
  obtain ⟨v, rfl, hq⟩ := z
  exact wpAny_pure hq
/-- a list declines an own instance -/
theorem list_declK {l : Addr} {o : Obj} {items : Array Value} {n : Nat} {Q : Value → Shared → Prop} (X : K.In s.heap) (I : InstAt s.heap x ox C od) (hl : s.heap.get? l = some o) (hc : o.cls = .type "list") (hd : o.data = .seq items n) (hsub : subIn K (.ref C) (.type "list") = some false)
    (h : Q .notImplemented s) : wpAny (model prog w) A (call (.builtin "list.__eq__") [.ref l, .ref x]) Q E s := by
  have L : ∀ (p : Program) (u : World), Looks (model p u) s.heap (isInstance (.ref x) (.type "list")) false := fun p u => I.type.andThen (looks_subIn X hsub)
  refine call_meets F.slot_list_eq ⟨_, hl, hc⟩ F.entry_list_eq (F.args_list_eq_2 _ _) (S := fun _ R s' => s' = s ∧ R (.ok (.ret .notImplemented)) s) (fun prog' w' A' R s' hz => ?_) ⟨rfl, h⟩
  obtain ⟨rfl, hz⟩ := hz
  obtain ⟨hp, g, d, tk, os⟩ := s'
  wp_walk using (L prog' w').here
  exact hz
/-- an int declines an own instance -/
theorem int_declK {i : Int} {t : Tok} {dx : Addr} {Q : Value → Shared → Prop} (I : PySem.W.InstAt s.heap x (instObj C dx) C od) (h : Q .notImplemented s) : wpAny (model prog w) A (call (.builtin "int.__eq__") [.int i t, .ref x]) Q E s := by
  refine call_meets F.slot_int_eq (typeIs_int _ _ _) F.entry_int_eq (F.args_int_eq_2 _ _) (S := fun _ R s' => s' = s ∧ R (.ok (.ret .notImplemented)) s) (fun prog' w' A' R s' hz => ?_) ⟨rfl, h⟩
  obtain ⟨rfl, hz⟩ := hz
  have hl := I.at_
  obtain ⟨hp, g, d, tk, os⟩ := s'
  wp_walk using wpAny_load hl
  exact hz
/-! turn by turn through a list -/
structure HasI (s : Shared) (l : Addr) (i : Nat) (v : Option Value) : Prop where
  ex : ∃ (its : Array Value) (n : Nat) (dd : Option Addr) (sl : Array (Option Value)), s.heap.get? l = some { cls := .type "list", dict := dd, data := .seq its n, slots := sl } ∧ its[i]? = v
def InG (prog : Program) (w : World) (A : Around) (l : Addr) (x : Value) (E : Value → Shared → Prop) (Q : Option Nat → Shared → Prop) : Nat → Nat → Shared → Prop
  | 0, i, s => HasI s l i none ∧ Q none s
  | k + 1, i, s => ∃ y, HasI s l i (some y) ∧ wpAny (model prog w) A.in1 (eqBool y x) (fun b s' => match b with | true => Q (some i) s' | false => InG prog w A l x E Q k (i + 1) s') E s
theorem inG_mono {l : Addr} {x : Value} {Q Q' : Option Nat → Shared → Prop} : ∀ {k i : Nat} {s : Shared}, InG prog w A l x E Q k i s → (∀ o s', Q o s' → Q' o s') → InG prog w A l x E Q' k i s
  | 0, i, s, ⟨h, q⟩, f => ⟨h, f _ _ q⟩
  | k + 1, i, s, ⟨y, h, q⟩, f => ⟨y, h, wpAny_mono q (fun b s' hb => by
    cases b with
    | true => exact f _ _ hb
    | false => exact inG_mono hb f) fun _ _ z => z⟩
theorem in_loopG {l : Addr} {x : Value} {R : Result → Shared → Prop} : ∀ (k i : Nat) (s : Shared), InG prog w A l x (fun e s' => R (.error e) s') (fun o s' => R (.ok (.ret (.bool o.isSome))) s') k i s →
    wpAny (model prog w) A.in1 (Builtin.«list.__contains__.loop» ⟨[.ref l, x, rawInt i], []⟩) (GQ.FinOf prog w A R) (fun e s' => R (.error e) s') s
  | 0, i, s, ⟨⟨its, n, dd, sl, hl, hi⟩, q⟩ => by
    obtain ⟨hp, g, d, tk, os⟩ := s
    have hi' : its[((i : Nat) : Int).toNat]? = none := hi
    wp_walk using AutoSeq1.wpAny_loadPart' hl
    rw [hi']
    wp_walk
    exact q
  | k + 1, i, s, ⟨y, ⟨its, n, dd, sl, hl, hi⟩, q⟩ => by
    obtain ⟨hp, g, d, tk, os⟩ := s
    have hi' : its[((i : Nat) : Int).toNat]? = some y := hi
    wp_walk using AutoSeq1.wpAny_loadPart' hl
    rw [hi']
    refine wpAny_bind (wpAny_mono q (fun b s' hb => ?_) fun _ _ e => e)
    cases b with
    | true =>
      wp_walk
      exact hb
    | false =>
      wp_walk
      rw [show ((i : Int) + 1) = ((i + 1 : Nat) : Int) by push_cast; rfl]
      exact ⟨plainId_quiet MeetsSeq.plain_contains_loop _, codeAny_builtin MeetsSeq.entry_contains_loop (by
        rw [Around.under_plainId MeetsSeq.plain_contains_loop _]
        exact in_loopG k (i + 1) s' hb)⟩
theorem ix_loopG {l : Addr} {x : Value} {R : Result → Shared → Prop} {upto : Int} (hup : 100000 ≤ upto) : ∀ (k i : Nat) (s : Shared), i + k < 100000 → InG prog w A l x (fun e s' => R (.error e) s') (fun o s' => ∃ j : Nat, o = some j ∧ R (.ok (.ret (.int j s'.toks))) { s' with toks := s'.toks + 1 }) k i s →
    wpAny (model prog w) A.in1 (Builtin.«list.index.loop» ⟨[.ref l, x, rawInt i, rawInt upto], []⟩) (GQ.FinOf prog w A R) (fun e s' => R (.error e) s') s
  | 0, i, s, _, ⟨_, j, q, _⟩ => by cases q
  | k + 1, i, s, hb, ⟨y, ⟨its, n, dd, sl, hl, hi⟩, q⟩ => by
    obtain ⟨hp, g, d, tk, os⟩ := s
    have hb' : i + (k + 1) < 100000 := hb
    have hi' : its[((i : Nat) : Int).toNat]? = some y := hi
    wp_walk using AutoSeq1.wpAny_loadPart' hl
    rw [if_pos (show ((i : Nat) : Int) < upto by omega), hi']
    refine wpAny_bind (wpAny_mono q (fun b s' hb => ?_) fun _ _ e => e)
    cases b with
    | true =>
      obtain ⟨j, ej, hb⟩ := hb
      cases ej
      obtain ⟨hp2, g2, d2, tk2, os2⟩ := s'
      wp_walk
      exact hb
    | false =>
      wp_walk
      rw [show ((i : Int) + 1) = ((i + 1 : Nat) : Int) by push_cast; rfl]
      exact ⟨plainId_quiet MeetsSeq.plain_index_loop _, codeAny_builtin MeetsSeq.entry_index_loop (by
        rw [Around.under_plainId MeetsSeq.plain_index_loop _]
        exact ix_loopG hup k (i + 1) s' (by omega) hb)⟩
/-- x in l -/
theorem call_inG {l : Addr} {x : Value} {k : Nat} {s : Shared} {Q : Value → Shared → Prop} (hT : s.TypeIs (.ref l) "list") (h : InG prog w A l x E (fun o s' => Q (.bool o.isSome) s') k 0 s) : wpAny (model prog w) A (call (.builtin "list.__contains__") [.ref l, x]) Q E s := by
  refine GQ.call_here F.slot_list_contains hT F.entry_list_contains (F.args_list_contains_2 _ _) ?_
  have h2 := in_loopG (R := wants Q E) k 0 s h
  obtain ⟨hp, g, d, tk, os⟩ := s
  wp_walk
  exact ⟨plainId_quiet MeetsSeq.plain_contains_loop _, codeAny_builtin MeetsSeq.entry_contains_loop (by
    rw [Around.under_plainId MeetsSeq.plain_contains_loop _]
    exact h2)⟩
/-- l.index(x) -/
theorem call_ixG {l : Addr} {x : Value} {k : Nat} {s : Shared} {Q : Value → Shared → Prop} (hT : s.TypeIs (.ref l) "list") (hk : k + 1 < 100000) (h : InG prog w A l x E (fun o s' => ∃ j : Nat, o = some j ∧ Q (.int j s'.toks) { s' with toks := s'.toks + 1 }) (k + 1) 0 s) : wpAny (model prog w) A (call (.builtin "list.index") [.ref l, x]) Q E s := by
  refine GQ.call_here F.slot_list_index hT F.entry_list_index (F.args_list_index_2 _ _) ?_
  have h2 := ix_loopG (R := wants Q E) (upto := 2 ^ 63 - 1) (by decide) (k + 1) 0 s (by omega) h
  obtain ⟨y, ⟨its, n, dd, sl, hl, _⟩, _⟩ := h
  obtain ⟨hp, g, d, tk, os⟩ := s
  wp_walk using AutoSeq1.wpAny_loadPart' hl
  have a1 : ((fun i : Int => if i < 0 then max 0 (i + (its.size : Int)) else i) ((none : Option Int).getD 0)) = ((0 : Nat) : Int) := by simp
  have a2 : ((fun i : Int => if i < 0 then max 0 (i + (its.size : Int)) else i) ((none : Option Int).getD (2 ^ 63 - 1))) = 2 ^ 63 - 1 := by simp
  rw [a1, a2]
  exact ⟨plainId_quiet MeetsSeq.plain_index_loop _, codeAny_builtin MeetsSeq.entry_index_loop (by
    rw [Around.under_plainId MeetsSeq.plain_index_loop _]
    exact h2)⟩
/-- repr(o) by an own __repr__ -/
theorem repr_K {Q : Value → Shared → Prop} (hu : A.in1.units < cLine) (X : K.In s.heap) (I : PySem.W.InstAt s.heap x ox C od) (hs : findIn K (.ref C) "__repr__" = some (some (.ref f))) (hf : isFn K (.ref f) = true)
    (h : wpAny (model prog w) A.in1 (call (.ref f) [.ref x]) (StrBack Q) E s) : wpAny (model prog w) A (call (.builtin "repr") [.ref x]) Q E s := by
  refine Calls.call_function_entry F.kind_repr F.plain_repr F.entry_repr (F.args_repr1 _) ?_
  unfold Builtin.«repr»
  refine wpAny_bind (m := oneArg "repr" _) (wpAny_pure ?_)
  refine wpAny_bind (m := cRoomFor _ _) (wpAny_cRoomFor hu ?_)
  refine wpAny_bind (m := specialOf (.ref x) (Str.ofString "__repr__")) (wpAny_bind (I.type.here ((looks_findIn X hs).here ?_)))
  refine wpAny_bind (m := callSpecialIfBound? (.ref x) (Str.ofString "__repr__") _) (ifBound_K X I hs hf (wpAny_mono h (fun r s' hr => ?_) fun _ _ y => y))
  cases r <;> first | exact hr.elim | skip
  rename_i y t
  refine wpAny_bind (wpAny_isInstance (T := "str") (b := true) (typeIs_str _ _ _) isSubtype_str_str ?_)
  exact wpAny_pure ⟨_, rfl, hr⟩
end
section
variable {X : Cx} {k : Nat} {C : Addr} {ps : List Str} {sp : Sp}
theorem run_in2 {f : Addr} {fd : FuncData} {pins : List (Addr × Obj)} {σ : St} {H : Hp} {s : Shared} {Q : VK} {us : List Value} {vs : List V} (F : FnOk X.prog X.w X.K X.mg X.base (L2.CX X.prog X.w) k f fd ps sp) (hr : Room (k + 2) X.A)
    (hb : Binds X.K fd ps []) (I : Inv X pins σ H s) (r : Vals vs us) (h : sp vs H Q E0) : wpAny (model X.prog X.w) X.A.in1.in1 (call (.ref f) us) (EP X pins σ Q) X.xe s := by
  have hl : (us ++ []).length = ps.length := by rw [List.append_nil, ← r.length]; exact F.len _ _ _ _ h
  have hb2 := hb s us I.kIn hl
  rw [List.append_nil] at hb2
  refine wpAny_call (codeAny_mono (F.run X.A.in1.in1 X.stack s H ⟨us, []⟩ us vs Q E0 hr.in1.in1 I.env0.in1.in1 hb2 r h) fun r s' hq => ?_)
  match r with
  | .error e =>
    obtain ⟨_, _, _, _, _, _, _, _, _, _, _, _, z⟩ := hq
    exact z.elim
  | .ok (.ret u) => exact I.after hq
  | .ok .next => exact False.elim hq
  | .ok .brk => exact False.elim hq
  | .ok .cont => exact False.elim hq
/-- o == v by an own __eq__, v of another kind -/
def rEqOther (K : PySem.W.Frag) (C : Addr) (sp : Sp) : R2 := fun x y H Q => ∃ a dx fs, x = .ref a ∧ H a = some (.ins C dx fs) ∧ ((∃ z, y = .str z) ∨ ∃ b ys, y = .ref b ∧ SqL K H b ys) ∧ sp [.ref a, y] H (fun v H' => ∃ r : Bool, v = .bl r ∧ Q (.bl r) H') E0
def rNeOther (K : PySem.W.Frag) (C : Addr) (sp : Sp) : R2 := fun x y H Q => ∃ a dx fs, x = .ref a ∧ H a = some (.ins C dx fs) ∧ ((∃ z, y = .str z) ∨ ∃ b ys, y = .ref b ∧ SqL K H b ys) ∧ sp [.ref a, y] H (fun v H' => ∃ r : Bool, v = .bl r ∧ Q (.bl (!r)) H') E0
theorem list_first {K : Frag} {C : Addr} : notFirst K C (.type "list") = true := by
  unfold notFirst subIn
  rw [show ((fastBuiltinMro "list").map (·.contains (Value.ref C)) == some false) = true from by kernel_rfl]
  exact Bool.or_true _
theorem str_first {K : Frag} {C : Addr} : notFirst K C (.type "str") = true := by
  unfold notFirst subIn
  rw [show ((fastBuiltinMro "str").map (·.contains (Value.ref C)) == some false) = true from by kernel_rfl]
  exact Bool.or_true _
theorem other_type {pins : List (Addr × Obj)} {σ : St} {H : Hp} {s : Shared} {y : V} {u : Value} (I : Inv X pins σ H s) (ry : RelV y u) (hy : (∃ z, y = .str z) ∨ ∃ b ys, y = .ref b ∧ SqL X.K H b ys) : ∃ tb, Looks (model X.prog X.w) s.heap (typeOf u) tb ∧ ∀ C, notFirst X.K C tb = true := by
  rcases hy with ⟨z, rfl⟩ | ⟨b, ys, rfl, hs⟩
  · obtain ⟨t, rfl⟩ := ry
    exact ⟨.type "str", .now, fun C => str_first⟩
  · cases ry
    obtain ⟨its, rv, ⟨o, n, ho, hc, hdn, hd⟩, hlen⟩ := I.list hs
    refine ⟨.type "list", ?_, fun C => list_first⟩
    refine (Looks.ld (part := none) ho).andThen ?_
    rw [hc]
    exact .now
theorem op_eqOther (M : CalM X.prog X.w X.K X.mg X.base C "__eq__" k ps sp) (hr : Room k X.A) : OpR X (compareOp .Eq) (rEqOther X.K C sp) := by
  obtain ⟨f, fd, hm, F, b⟩ := M.ex
  intro pins s σ H x y v u Q I rx ry h
  obtain ⟨a, dx, fs, rfl, ha, hy, hq⟩ := h
  cases rx
  obtain ⟨mA, O, _⟩ := ins_get I.hok ha
  obtain ⟨od, J, _⟩ := O.look
  obtain ⟨tb, ht, hn⟩ := other_type I ry hy
  obtain ⟨mm, Fm⟩ := I.fr
  refine cmp_ofEq (cmp_K (op := .Eq) hr.units0 Fm I.ok.mod.kin J ht (hn C) hm.at_ hm.fn (wpAny_mono (run_in0 (vs := [.ref a, y]) F hr b I (.cons rfl (.cons ry .nil)) hq) (fun v s' hv => ?_) fun _ _ z => z))
  obtain ⟨z, H', I', rz, r, rfl, q⟩ := hv
  cases rz
  exact ⟨.bl r, H', I', rfl, q⟩
theorem op_neOther (M : CalM X.prog X.w X.K X.mg X.base C "__eq__" k ps sp) (hne : findIn X.K (.ref C) "__ne__" = some (some (.builtin "object.__ne__"))) (hsub : subIn X.K (.ref C) (.type "object") = some true) (hr : Room (k + 1) X.A) : OpR X (compareOp .NotEq) (rNeOther X.K C sp) := by
  obtain ⟨f, fd, hm, F, b⟩ := M.ex
  intro pins s σ H x y v u Q I rx ry h
  obtain ⟨a, dx, fs, rfl, ha, hy, hq⟩ := h
  cases rx
  obtain ⟨mA, O, _⟩ := ins_get I.hok ha
  obtain ⟨od, J, _⟩ := O.look
  obtain ⟨tb, ht, hn⟩ := other_type I ry hy
  refine cmp_ofNotEq (ne_ownK (Nat.lt_of_le_of_lt (by omega) hr.units) I.kIn J ht (hn C) hne hm.at_ hm.fn hsub (wpAny_mono (run_in1 (vs := [.ref a, y]) F hr b I (.cons rfl (.cons ry .nil)) hq) (fun v s' hv => ?_) fun _ _ z => z))
  obtain ⟨z, H', I', rz, r, rfl, q⟩ := hv
  cases rz
  exact ⟨r, rfl, ⟨.bl (!r), H', I', rfl, q⟩⟩
/-- l == o -/
def rEqBack (K : PySem.W.Frag) (C : Addr) (sp : Sp) : R2 := fun y x H Q => ∃ a dx fs b ys, x = .ref a ∧ H a = some (.ins C dx fs) ∧ y = .ref b ∧ SqL K H b ys ∧ sp [.ref a, .ref b] H (fun v H' => ∃ r : Bool, v = .bl r ∧ Q (.bl r) H') E0
theorem op_eqBack (M : CalM X.prog X.w X.K X.mg X.base C "__eq__" k ps sp) (hl : subIn X.K (.ref C) (.type "list") = some false) (hr : Room k X.A) : OpR X (compareOp .Eq) (rEqBack X.K C sp) := by
  obtain ⟨f, fd, hm, F, b⟩ := M.ex
  intro pins s σ H y x u v Q I ry rx h
  obtain ⟨a, dx, fs, b', ys, rfl, ha, rfl, hs, hq⟩ := h
  cases rx
  cases ry
  obtain ⟨mA, O, _⟩ := ins_get I.hok ha
  obtain ⟨od, J, _⟩ := O.look
  obtain ⟨its, rv, ⟨o, n, ho, hc, hdn, hd⟩, hlen⟩ := I.list hs
  refine cmp_ofEq (eq_declK hr.units0 I.kIn J ⟨_, ho, hc⟩ hl PySem.F.slot_list_eq (fun Q' hQ => list_declK I.kIn J ho hc hd hl hQ) hm.at_ hm.fn (wpAny_mono (run_in0 (vs := [.ref a, .ref b']) F hr b I (.cons rfl (.cons rfl .nil)) hq) (fun v s' hv => ?_) fun _ _ z => z))
  obtain ⟨z, H', I', rz, r, rfl, q⟩ := hv
  cases rz
  exact ⟨.bl r, H', I', rfl, q⟩
/-- an item of a list against an own instance -/
def rOne (K : PySem.W.Frag) (C : Addr) (sp : Sp) (y x : V) (H : Hp) (Q : Bool → Hp → Prop) : Prop := ∃ a dx fs, x = .ref a ∧ H a = some (.ins C dx fs) ∧
  ((∃ i : Int, y = .int i ∧ sp [.ref a, .int i] H (fun v H' => ∃ r : Bool, v = .bl r ∧ Q r H') E0) ∨ (∃ b ys, y = .ref b ∧ SqL K H b ys ∧ sp [.ref a, .ref b] H (fun v H' => ∃ r : Bool, v = .bl r ∧ Q r H') E0) ∨
    (∃ b dx' fs', y = .ref b ∧ H b = some (.ins C dx' fs') ∧ (b = a → Q true H) ∧ (b ≠ a → sp [.ref b, .ref a] H (fun v H' => ∃ r : Bool, v = .bl r ∧ Q r H') E0)))
theorem one_run (M : CalM X.prog X.w X.K X.mg X.base C "__eq__" k ps sp) (hi : subIn X.K (.ref C) (.type "int") = some false) (hl : subIn X.K (.ref C) (.type "list") = some false) (hr : Room (k + 1) X.A)
    {pins : List (Addr × Obj)} {σ : St} {H : Hp} {s : Shared} {y x : V} {u v : Value} {Q : Bool → Hp → Prop} (I : Inv X pins σ H s) (ry : RelV y u) (rx : RelV x v) (h : rOne X.K C sp y x H Q) :
    wpAny (model X.prog X.w) X.A.in1 (eqBool u v) (fun b s' => ∃ H', Inv X pins σ H' s' ∧ Q b H') X.xe s := by
  obtain ⟨f, fd, hm, F, b⟩ := M.ex
  obtain ⟨a, dx, fs, rfl, ha, h⟩ := h
  cases rx
  obtain ⟨mA, O, _⟩ := ins_get I.hok ha
  obtain ⟨od, J, _⟩ := O.look
  have hu : X.A.in1.units < cLine := hr.in1.units0
  have back : ∀ {v : Value} {s' : Shared}, EP X pins σ (fun v H' => ∃ r : Bool, v = .bl r ∧ Q r H') v s' → PySem.W.CmpBack (fun v s' => ∃ r, v = .bool r ∧ ∃ H', Inv X pins σ H' s' ∧ Q r H') v s' := fun hv => by
    obtain ⟨z, H', I', rz, r, rfl, q⟩ := hv
    cases rz
    exact ⟨r, rfl, H', I', q⟩
  rcases h with ⟨i, rfl, hq⟩ | ⟨b', ys, rfl, hs, hq⟩ | ⟨b', dx', fs', rfl, hb', heq, hq⟩
  · obtain ⟨t, rfl⟩ := ry
    have rc : wpAny (model X.prog X.w) X.A.in1 (richCompare .Eq (.int i t) (.ref a)) (fun v s' => ∃ r, v = .bool r ∧ ∃ H', Inv X pins σ H' s' ∧ Q r H') X.xe s :=
      eq_declK hu I.kIn J (typeIs_int _ _ _) hi PySem.F.slot_int_eq (fun Q' hQ => int_declK J hQ) hm.at_ hm.fn (wpAny_mono (run_in1 (vs := [.ref a, .int i]) F hr b I (.cons rfl (.cons ⟨t, rfl⟩ .nil)) hq) (fun v s' hv => back hv) fun _ _ z => z)
    unfold eqBool
    refine wpAny_holding ?_
    refine wpAny_ite_split (fun hab => by cases eq_of_beq hab) (fun _ => ?_)
    refine wpAny_bind (wpAny_mono rc (fun v s' hv => ?_) fun _ _ x => x)
    obtain ⟨r, rfl, q⟩ := hv
    exact wpAny_truthy_bool q
  · cases ry
    obtain ⟨its, rv, ⟨o, n, ho, hc, hdn, hd⟩, hlen⟩ := I.list hs
    refine GQ.eqBool_refG (fun e => ?_) (eq_declK hu I.kIn J ⟨_, ho, hc⟩ hl PySem.F.slot_list_eq (fun Q' hQ => list_declK I.kIn J ho hc hd hl hQ) hm.at_ hm.fn (wpAny_mono (run_in1 (vs := [.ref a, .ref b']) F hr b I (.cons rfl (.cons rfl .nil)) hq) (fun v s' hv => back hv) fun _ _ z => z))
    subst e
    rw [J.at_] at ho
    cases ho
    cases hc
  · cases ry
    obtain ⟨mA', O', _⟩ := ins_get I.hok hb'
    obtain ⟨od', J', _⟩ := O'.look
    obtain ⟨mm, Fm⟩ := I.fr
    by_cases e : b' = a
    · subst e
      unfold eqBool
      refine wpAny_holding ?_
      refine wpAny_ite_split (fun _ => wpAny_bind (wpAny_rule (wpAny_pure ⟨H, I, heq rfl⟩))) (fun hn => absurd (by simp) hn)
    · exact GQ.eqBool_refG e (cmp_K (op := .Eq) hu Fm I.ok.mod.kin J' (InstAt.type J) (by unfold notFirst; simp) hm.at_ hm.fn (wpAny_mono (run_in1 (vs := [.ref b', .ref a]) F hr b I (.cons rfl (.cons rfl .nil)) (hq e)) (fun v s' hv => back hv) fun _ _ z => z))
/-- item by item -/
def inLoop (K : PySem.W.Frag) (C : Addr) (sp : Sp) (p : Addr) (x : V) (all : List V) (Q : Option Nat → Hp → Prop) : Nat → Nat → Hp → Prop
  | 0, i, H => SqL K H p all ∧ all[i]? = none ∧ Q none H
  | k + 1, i, H => SqL K H p all ∧ ∃ y, all[i]? = some y ∧ rOne K C sp y x H fun b H' => match b with | true => Q (some i) H' | false => inLoop K C sp p x all Q k (i + 1) H'
theorem loop_run (M : CalM X.prog X.w X.K X.mg X.base C "__eq__" k ps sp) (hi : subIn X.K (.ref C) (.type "int") = some false) (hl : subIn X.K (.ref C) (.type "list") = some false) (hr : Room (k + 1) X.A)
    {pins : List (Addr × Obj)} {σ : St} {p : Addr} {x : V} {v : Value} {all : List V} {Q : Option Nat → Hp → Prop} (rx : RelV x v) : ∀ (n i : Nat) (H : Hp) (s : Shared), Inv X pins σ H s → inLoop X.K C sp p x all Q n i H →
    InG X.prog X.w X.A p v X.xe (fun o s' => ∃ H', Inv X pins σ H' s' ∧ Q o H') n i s
  | 0, i, H, s, I, ⟨hs, hi', q⟩ => by
    obtain ⟨its, rv, ⟨⟨cls, dd, data, sl⟩, n, ho, hc, hdn, hd⟩, hlen⟩ := I.list hs
    simp only at hc hd
    subst hc hd
    refine ⟨⟨its.toArray, n, dd, sl, ho, ?_⟩, H, I, q⟩
    rw [List.getElem?_toArray]
    rw [List.getElem?_eq_none_iff] at hi' ⊢
    rw [← rv.length]
    exact hi'
  | n + 1, i, H, s, I, ⟨hs, y, hy, h⟩ => by
    obtain ⟨its, rv, ⟨⟨cls, dd, data, sl⟩, m, ho, hc, hdn, hd⟩, hlen⟩ := I.list hs
    simp only at hc hd
    subst hc hd
    obtain ⟨u, hu, ru⟩ := rv.get hy
    refine ⟨u, ⟨its.toArray, m, dd, sl, ho, by rw [List.getElem?_toArray]; exact hu⟩, wpAny_mono (one_run M hi hl hr I ru rx h) (fun b s' hb => ?_) fun _ _ z => z⟩
    obtain ⟨H', I', q⟩ := hb
    cases b with
    | true => exact ⟨H', I', q⟩
    | false => exact loop_run M hi hl hr rx n (i + 1) H' s' I' q
/-- o in l -/
def rInOwn (K : PySem.W.Frag) (C : Addr) (sp : Sp) : R2 := fun x y H Q => ∃ p all, y = .ref p ∧ inLoop K C sp p x all (fun o H' => Q (.bl o.isSome) H') all.length 0 H
theorem op_inOwn (M : CalM X.prog X.w X.K X.mg X.base C "__eq__" k ps sp) (hi : subIn X.K (.ref C) (.type "int") = some false) (hl : subIn X.K (.ref C) (.type "list") = some false) (hr : Room (k + 1) X.A) : OpR X (compareOp .In) (rInOwn X.K C sp) := by
  intro pins s σ H x y v u Q I rx ry h
  obtain ⟨p, all, rfl, h⟩ := h
  cases ry
  have hs : SqL X.K H p all := by
    cases all with
    | nil => exact h.1
    | cons _ _ => exact h.1
  obtain ⟨its, rv, ⟨o, n, ho, hc, hdn, hd⟩, hlen⟩ := I.list hs
  show wpAny _ _ (do return Value.bool (← contains (Value.ref p) v)) _ _ s
  refine wpAny_bind (wpAny_contains_slot (T := "list") ⟨_, ho, hc⟩ PySem.F.slot_list_contains (call_inG ⟨_, ho, hc⟩ (k := all.length) ?_))
  refine inG_mono (loop_run M hi hl hr rx all.length 0 H s I h) fun o s' hq => ?_
  obtain ⟨H', I', q⟩ := hq
  exact wpAny_truthy_bool (wpAny_pure ⟨.bl o.isSome, H', I', rfl, q⟩)
/-- l.index(o) -/
def rIxOwn (K : PySem.W.Frag) (C : Addr) (sp : Sp) : V → List V → Hp → VK → Prop := fun y xs H Q => ∃ p all x, y = .ref p ∧ xs = [x] ∧ 0 < all.length ∧ all.length < 100000 ∧ inLoop K C sp p x all (fun o H' => ∃ j : Nat, o = some j ∧ Q (.int j) H') all.length 0 H
theorem mt_ixOwn (M : CalM X.prog X.w X.K X.mg X.base C "__eq__" k ps sp) (hi : subIn X.K (.ref C) (.type "int") = some false) (hl : subIn X.K (.ref C) (.type "list") = some false) (hr : Room (k + 1) X.A) : MtR X "list.index" (rIxOwn X.K C sp) := by
  intro pins s σ H y xs u us Q I ry rxs h
  obtain ⟨p, all, x, rfl, rfl, h0, h1, h⟩ := h
  cases ry
  obtain ⟨v, rfl, rx⟩ := vals1 rxs
  have hs : SqL X.K H p all := by
    cases all with
    | nil => exact h.1
    | cons _ _ => exact h.1
  obtain ⟨its, rv, ⟨o, n, ho, hc, hdn, hd⟩, hlen⟩ := I.list hs
  obtain ⟨m, hm⟩ : ∃ m, all.length = m + 1 := ⟨all.length - 1, by omega⟩
  refine call_ixG (k := m) ⟨_, ho, hc⟩ (by omega) ?_
  rw [hm] at h
  refine inG_mono (loop_run M hi hl hr rx (m + 1) 0 H s I h) fun o s' hq => ?_
  obtain ⟨H', I', j, rfl, q⟩ := hq
  exact ⟨j, rfl, .int j, H', I'.tok _, ⟨_, rfl⟩, q⟩
/-- str(o), repr(o), {o} by own __str__, __repr__ -/
abbrev rStrOwn (C : Addr) (sp : Sp) : List V → Hp → VK → Prop := fun xs H Q => ∃ a dx fs, xs = [.ref a] ∧ H a = some (.ins C dx fs) ∧ sp [.ref a] H (fun v H' => ∃ y : Str, v = .str y ∧ Q (.str y) H') E0
theorem call_strOwn (M : CalM X.prog X.w X.K X.mg X.base C "__str__" k ps sp) (hr : Room (k + 2) X.A) : CallR X (.type "str") (rStrOwn C sp) := by
  obtain ⟨f, fd, hm, F, b⟩ := M.ex
  intro pins s σ H xs us Q I r h
  obtain ⟨a, dx, fs, rfl, ha, hq⟩ := h
  obtain ⟨u, rfl, rx⟩ := vals1 r
  cases rx
  obtain ⟨mA, O, _⟩ := ins_get I.hok ha
  obtain ⟨od, J, _⟩ := O.look
  refine kso_call hr.in1.in1.units0 I.kIn J hm.at_ hm.fn (wpAny_mono (run_in2 (vs := [.ref a]) F hr b I (.cons rfl .nil) hq) (fun v s' hv => ?_) fun _ _ z => z)
  obtain ⟨z, H', I', rz, y, rfl, q⟩ := hv
  obtain ⟨t, rfl⟩ := rz
  exact ⟨.str y, H', I', ⟨t, rfl⟩, q⟩
theorem call_reprOwn (M : CalM X.prog X.w X.K X.mg X.base C "__repr__" k ps sp) (hr : Room (k + 1) X.A) : CallR X (.builtin "repr") (rStrOwn C sp) := by
  obtain ⟨f, fd, hm, F, b⟩ := M.ex
  intro pins s σ H xs us Q I r h
  obtain ⟨a, dx, fs, rfl, ha, hq⟩ := h
  obtain ⟨u, rfl, rx⟩ := vals1 r
  cases rx
  obtain ⟨mA, O, _⟩ := ins_get I.hok ha
  obtain ⟨od, J, _⟩ := O.look
  refine repr_K hr.in1.units0 I.kIn J hm.at_ hm.fn (wpAny_mono (run_in1 (vs := [.ref a]) F hr b I (.cons rfl .nil) hq) (fun v s' hv => ?_) fun _ _ z => z)
  obtain ⟨z, H', I', rz, y, rfl, q⟩ := hv
  obtain ⟨t, rfl⟩ := rz
  exact ⟨.str y, H', I', ⟨t, rfl⟩, q⟩
def tFmtOwn (C : Addr) (sp : Sp) (te : TE) : TE := fun σ H Q => te σ H fun x H1 => rStrOwn C sp [x] H1 Q
theorem pe_fmtOwn {e : Expr} {te : TE} {pos : Pos} (M : CalM X.prog X.w X.K X.mg X.base C "__str__" k ps sp) (hfm : findIn X.K (.ref C) "__format__" = some (some (.builtin "object.__format__"))) (hob : mroIn X.K C (.type "object") = some true) (hr : Room (k + 1) X.A) (he : PE X e te) : PE X (.FormattedValue e (-1) none pos) (tFmtOwn C sp te) := by
  obtain ⟨f, fd, hm, F, b⟩ := M.ex
  refine ⟨fun pins s σ H Q I h => ?_⟩
  refine wpAny_FormattedValue_plain (thn (he.run pins s σ H _ I h) fun v s1 hv => ?_)
  obtain ⟨x, H1, I1, r1, a, dx, fs, e1, ha, hq⟩ := hv
  cases e1
  cases r1
  obtain ⟨mA, O, _⟩ := ins_get I1.hok ha
  obtain ⟨od, J, _⟩ := O.look
  refine kfo_fieldS hr.in1.units0 I1.kIn J hfm hob hm.at_ hm.fn (wpAny_mono (run_in1 (vs := [.ref a]) F hr b (I1.tok _) (.cons rfl .nil) hq) (fun v s' hv => ?_) fun _ _ z => z)
  obtain ⟨z, H', I', rz, y, rfl, q⟩ := hv
  obtain ⟨t, rfl⟩ := rz
  exact ⟨.str y, H', I', ⟨t, rfl⟩, q⟩
end
end L2
namespace Pr
open PySem PySem.Spec L2
section
variable {K : Fg} {E : XK} {G : Sl} {C : Addr} {ns : List Str} {ds : List D} {P : List D → Res → Prop}
theorem rd_eqOther {d : D} {b : Bool} (hd : (∃ z, d = .str z) ∨ ∃ es, d = .lst es) (p : P [.ins C ns ds, d] (.val (.bl b))) : RD K E (rEqOther K C (SpR K P)) (.ins C ns ds) d (.val (.bl b)) := fun H0 H e x y r1 r2 Q q => by
  obtain ⟨a, dx, fs, rfl, ha, _⟩ := id r1.ins_out
  refine ⟨a, dx, fs, rfl, e _ _ ha, ?_, H0, _, _, e, .cons r1 (.cons r2 .nil), p, fun v H1 H1' s1 rv => ⟨b, rv.bl_eq, by rw [rv.bl_eq] at rv; exact q _ H1 H1' s1 rv⟩⟩
  rcases hd with ⟨z, rfl⟩ | ⟨es, rfl⟩
  · exact .inl ⟨z, r2.str_eq⟩
  · obtain ⟨a', vs, rfl, ha', t⟩ := r2.lst_out
    exact .inr ⟨a', vs, rfl, .inl (.inl (e _ _ ha'))⟩
theorem rd_neOther {d : D} {b : Bool} (hd : (∃ z, d = .str z) ∨ ∃ es, d = .lst es) (p : P [.ins C ns ds, d] (.val (.bl b))) : RD K E (rNeOther K C (SpR K P)) (.ins C ns ds) d (.val (.bl (!b))) := fun H0 H e x y r1 r2 Q q => by
  obtain ⟨a, dx, fs, rfl, ha, _⟩ := id r1.ins_out
  refine ⟨a, dx, fs, rfl, e _ _ ha, ?_, H0, _, _, e, .cons r1 (.cons r2 .nil), p, fun v H1 H1' s1 rv => ⟨b, rv.bl_eq, q _ H1 H1' s1 (.bl _)⟩⟩
  rcases hd with ⟨z, rfl⟩ | ⟨es, rfl⟩
  · exact .inl ⟨z, r2.str_eq⟩
  · obtain ⟨a', vs, rfl, ha', t⟩ := r2.lst_out
    exact .inr ⟨a', vs, rfl, .inl (.inl (e _ _ ha'))⟩
theorem rd_eqBack {es : List D} {b : Bool} (p : P [.ins C ns ds, .lst es] (.val (.bl b))) : RD K E (rEqBack K C (SpR K P)) (.lst es) (.ins C ns ds) (.val (.bl b)) := fun H0 H e y x r2 r1 Q q => by
  obtain ⟨a, dx, fs, rfl, ha, _⟩ := id r1.ins_out
  obtain ⟨a', vs, rfl, ha', t⟩ := id r2.lst_out
  exact ⟨a, dx, fs, a', vs, rfl, e _ _ ha, rfl, .inl (.inl (e _ _ ha')), H0, _, _, e, .cons r1 (.cons r2 .nil), p, fun v H1 H1' s1 rv => ⟨b, rv.bl_eq, by rw [rv.bl_eq] at rv; exact q _ H1 H1' s1 rv⟩⟩
/-- what the own == says of an item -/
def oneB (K : Fg) (C : Addr) (P : List D → Res → Prop) (x y : D) (b : Bool) : Prop := match y with
  | .int i => P [x, .int i] (.val (.bl b))
  | .lst es => P [x, .lst es] (.val (.bl b))
  | .ins C' ns ds => C' = C ∧ P [.ins C' ns ds, x] (.val (.bl b)) ∧ ∀ H v, Den K H v (.ins C' ns ds) → Den K H v x → b = true
  | _ => False
theorem one_den {H0 H : Hp} {x y : V} {d : D} {b : Bool} {Q : Bool → Hp → Prop} (e : Same H0 H) (r1 : Den K H0 x (.ins C ns ds)) (r2 : Den K H0 y d) (h : oneB K C P (.ins C ns ds) d b) (q : ∀ H0' H', Stp H0 H H0' H' → Q b H') : rOne K C (SpR K P) y x H Q := by
  obtain ⟨a, dx, fs, rfl, ha, _⟩ := id r1.ins_out
  refine ⟨a, dx, fs, rfl, e _ _ ha, ?_⟩
  cases d with
  | int i =>
    obtain rfl := r2.int_eq
    exact .inl ⟨i, rfl, H0, _, _, e, .cons r1 (.cons r2 .nil), h, fun v H1 H1' s1 rv => ⟨b, rv.bl_eq, q H1 H1' s1⟩⟩
  | lst es =>
    obtain ⟨a', vs, rfl, ha', t⟩ := id r2.lst_out
    exact .inr (.inl ⟨a', vs, rfl, .inl (.inl (e _ _ ha')), H0, _, _, e, .cons r1 (.cons r2 .nil), h, fun v H1 H1' s1 rv => ⟨b, rv.bl_eq, q H1 H1' s1⟩⟩)
  | ins C' ns' ds' =>
    obtain ⟨rfl, hp, hs⟩ := h
    obtain ⟨a', dx', fs', rfl, ha', _⟩ := id r2.ins_out
    refine .inr (.inr ⟨a', dx', fs', rfl, e _ _ ha', fun ea => ?_, fun _ => ⟨H0, _, _, e, .cons r2 (.cons r1 .nil), hp, fun v H1 H1' s1 rv => ⟨b, rv.bl_eq, q H1 H1' s1⟩⟩⟩)
    subst ea
    have := q H0 H (Stp.refl e)
    rw [hs H0 _ r2 r1] at this
    exact this
  | _ => exact h.elim
def firstT (f : Nat → Bool) : Nat → Nat → Option Nat
  | 0, _ => none
  | k + 1, i => match f i with | true => some i | false => firstT f k (i + 1)
theorem loop_den {H0 H : Hp} {x : V} {p : Addr} {vs : List V} {es : List D} {f : Nat → Bool} {Q : Option Nat → Hp → Prop} (hx : Den K H0 x (.ins C ns ds)) (hp : H0 p = some (.lst vs)) (t : Dens K H0 vs es) (hf : ∀ i y, es[i]? = some y → oneB K C P (.ins C ns ds) y (f i)) :
    ∀ (n i : Nat) (H1 H1' : Hp), n + i = es.length → Stp H0 H H1 H1' → (∀ H2 H2', Stp H0 H H2 H2' → Q (firstT f n i) H2') → inLoop K C (SpR K P) p x vs Q n i H1'
  | 0, i, H1, H1', hn, s, q => by
    refine ⟨.inl (.inl (s.c _ _ (s.a _ _ hp))), ?_, q H1 H1' s⟩
    rw [List.getElem?_eq_none_iff, t.length]
    omega
  | n + 1, i, H1, H1', hn, s, q => by
    have hi : i < es.length := by omega
    obtain ⟨v, hv, rd⟩ := t.get (List.getElem?_eq_getElem hi)
    refine ⟨.inl (.inl (s.c _ _ (s.a _ _ hp))), v, hv, ?_⟩
    refine one_den s.c (hx.up s.a) (rd.up s.a) (hf i _ (List.getElem?_eq_getElem hi)) fun H2 H2' s2 => ?_
    have q' := q
    unfold firstT at q'
    cases hfi : f i with
    | true =>
      rw [hfi] at q'
      exact q' H2 H2' (s.trans s2)
    | false =>
      rw [hfi] at q'
      exact loop_den hx hp t hf n (i + 1) H2 H2' (by omega) (s.trans s2) q'
theorem rd_inOwn {es : List D} (f : Nat → Bool) (hf : ∀ i y, es[i]? = some y → oneB K C P (.ins C ns ds) y (f i)) : RD K E (rInOwn K C (SpR K P)) (.ins C ns ds) (.lst es) (.val (.bl (firstT f es.length 0).isSome)) := fun H0 H e x y r1 r2 Q q => by
  obtain ⟨p, vs, rfl, hp, t⟩ := r2.lst_out
  refine ⟨p, vs, rfl, ?_⟩
  rw [t.length]
  exact loop_den r1 hp t hf _ 0 H0 H rfl (Stp.refl e) fun H2 H2' s2 => q _ H2 H2' s2 (.bl _)
theorem rm_ixOwn {es : List D} {j : Nat} (f : Nat → Bool) (hf : ∀ i y, es[i]? = some y → oneB K C P (.ins C ns ds) y (f i)) (h0 : 0 < es.length) (h1 : es.length < 100000) (hj : firstT f es.length 0 = some j) : RM K E (rIxOwn K C (SpR K P)) (.lst es) [.ins C ns ds] (.val (.int (j : Nat))) := fun H0 H e y xs r2 rs Q q => by
  obtain ⟨p, vs, rfl, hp, t⟩ := r2.lst_out
  obtain ⟨x, ws, rfl, r1, r3⟩ := rs.cons_out
  obtain rfl := r3.nil_out
  refine ⟨p, vs, x, rfl, rfl, by rw [t.length]; exact h0, by rw [t.length]; exact h1, ?_⟩
  rw [t.length]
  exact loop_den r1 hp t hf _ 0 H0 H rfl (Stp.refl e) fun H2 H2' s2 => ⟨j, hj, q _ H2 H2' s2 (.int _)⟩
theorem rc_strOwn {y : Str} (p : P [.ins C ns ds] (.val (.str y))) : RC K E (rStrOwn C (SpR K P)) [.ins C ns ds] (.val (.str y)) := fun H0 H e xs r Q q => by
  obtain ⟨v, ws, rfl, r1, r2⟩ := r.cons_out
  obtain rfl := r2.nil_out
  obtain ⟨a, dx, fs, rfl, ha, _⟩ := id r1.ins_out
  exact ⟨a, dx, fs, rfl, e _ _ ha, H0, _, _, e, .cons r1 .nil, p, fun v H1 H1' s1 rv => ⟨y, rv.str_eq, by rw [rv.str_eq] at rv; exact q _ H1 H1' s1 rv⟩⟩
theorem ev_fmtOwn {te : TE} {y : Str} (h : EvR K E te G (.val (.ins C ns ds))) (p : P [.ins C ns ds] (.val (.str y))) : EvR K E (tFmtOwn C (SpR K P) te) G (.val (.str y)) := fun σ H0 H e s Q q =>
  h σ H0 H e s _ fun v H1 H1' s1 r1 => rc_strOwn (E := E) p H1 H1' s1.c [v] (.cons r1 .nil) Q (Res.sat_step s1 q)
/-! texts -/
abbrev rStrI : List V → Hp → VK → Prop := fun xs H Q => ∃ i : Int, xs = [.int i] ∧ i.natAbs.log2 < 1920 ∧ Q (.str (toString i)) H
theorem rc_strI {i : Int} (h : i.natAbs.log2 < 1920) : RC K E rStrI [.int i] (.val (.str (toString i))) := fun H0 H e xs r Q q => by
  obtain ⟨v, ws, rfl, r1, r2⟩ := r.cons_out
  obtain rfl := r2.nil_out
  obtain rfl := r1.int_eq
  exact ⟨i, rfl, h, sat_val e q (.str _)⟩
abbrev rJoin (K : Fg) : V → List V → Hp → VK → Prop := fun x xs H Q => ∃ a p, ∃ ys : List Str, x = .str a ∧ xs = [.ref p] ∧ (SqL K H p (ys.map V.str) ∨ SqT K H p (ys.map V.str)) ∧
    (ys.map (·.length)).sum + ys.length * a.length ≤ 16777216 ∧ Q (.str (Txt.join a ys)) H
theorem joinK {X : Cx} (h : X.K = K := by rfl) : MtR X "str.join" (rJoin K) := by subst h; exact mt_join
theorem strs_den {H : Hp} : ∀ {vs : List V} {ys : List Str}, Dens K H vs (ys.map D.str) → vs = ys.map V.str
  | [], [], _ => rfl
  | [], _ :: _, h => by cases h
  | _ :: _, [], h => by cases h
  | v :: vs, y :: ys, h => by
    obtain ⟨w, ws, e, r1, r2⟩ := h.cons_out
    cases e
    rw [List.map_cons, r1.str_eq, strs_den r2]
theorem rm_join {a : Str} {ys : List Str} (hz : (ys.map (·.length)).sum + ys.length * a.length ≤ 16777216) : RM K E (rJoin K) (.str a) [.lst (ys.map D.str)] (.val (.str (Txt.join a ys))) := fun H0 H e x xs r1 r2 Q q => by
  obtain ⟨v, ws, rfl, r3, r4⟩ := r2.cons_out
  obtain rfl := r4.nil_out
  obtain ⟨p, vs, rfl, hp, t⟩ := r3.lst_out
  obtain rfl := strs_den t
  exact ⟨a, p, ys, r1.str_eq, rfl, .inl (.inl (.inl (e _ _ hp))), hz, sat_val e q (.str _)⟩
theorem ev_m1 {r : V → List V → Hp → VK → Prop} {to te : TE} {a : Str} {d : D} {z : Res} (h : EvR K E to G (.val (.str a))) (h2 : EvR K E te G (.val d)) (hr : RM K E r (.str a) [d] z) : EvR K E (tM1 r to te) G z := fun σ H0 H e s Q q =>
  h σ H0 H e s _ fun x H1 H1' s1 r1 => ⟨⟨a, r1.str_eq⟩, h2 σ H1 H1' s1.c (s.up s1.a) _ fun y H2 H2' s2 r2 => hr H2 H2' s2.c x [y] (r1.up s2.a) (.cons r2 .nil) Q (Res.sat_step (s1.trans s2) q)⟩
theorem ev_fmt {te : TE} {y : Str} (h : EvR K E te G (.val (.str y))) (hy : y.length ≤ 16777216) : EvR K E (tFmt te) G (.val (.str y)) := fun σ H0 H e s Q q =>
  h σ H0 H e s _ fun v H1 H1' s1 r1 => .inl ⟨y, r1.str_eq, by rw [sizeLine_eq]; exact hy, q _ H1 H1' s1 (.str _)⟩
/-- f'..' -/
theorem ev_js3 {t1 t2 t3 : TE} {x y z : Str} (h1 : EvR K E t1 G (.val (.str x))) (h2 : EvR K E t2 G (.val (.str y))) (h3 : EvR K E t3 G (.val (.str z))) (hl : x.length + y.length + z.length ≤ 16777216) :
    EvR K E (fun σ H Q => tJs [t1, t2, t3] Str.empty σ H fun out H1 => Q (.str out) H1) G (.val (.str (Str.empty ++ x ++ y ++ z))) := fun σ H0 H e s Q q => by
  have e0 : Str.empty.length = 0 := rfl
  have l1 : (Str.empty ++ x).length = x.length := by rw [Str.length_append, e0, Nat.zero_add]
  have l2 : (Str.empty ++ x ++ y).length = x.length + y.length := by rw [Str.length_append, l1]
  have l3 : (Str.empty ++ x ++ y ++ z).length = x.length + y.length + z.length := by rw [Str.length_append, l2]
  exact h1 σ H0 H e s _ fun v H1 H1' s1 r1 => ⟨x, r1.str_eq, (by rw [sizeLine_eq, l1]; omega), h2 σ H1 H1' s1.c (s.up s1.a) _ fun v2 H2 H2' s2 r2 => ⟨y, r2.str_eq, (by rw [sizeLine_eq, l2]; omega), h3 σ H2 H2' s2.c (s.up (s1.trans s2).a) _ fun v3 H3 H3' s3 r3 => ⟨z, r3.str_eq, (by rw [sizeLine_eq, l3]; exact hl), q _ H3 H3' ((s1.trans s2).trans s3) (.str _)⟩⟩⟩
abbrev rAddS : R2 := fun x y H Q => ∃ i j, x = .str i ∧ y = .str j ∧ i.length + j.length ≤ sizeLine ∧ Q (.str (i ++ j)) H
theorem rd_addS {x y : Str} (h : x.length + y.length ≤ 16777216) : RD K E rAddS (.str x) (.str y) (.val (.str (x ++ y))) := fun H0 H e u v r1 r2 Q q => ⟨x, y, r1.str_eq, r2.str_eq, by rw [sizeLine_eq]; exact h, sat_val e q (.str _)⟩
end
end Pr
/-! Part 2: own lists lent for a while; <= of lists; own dicts with tuples asked. -/
namespace L2
open PySem PySem.Spec PySem.W PySem.Calls PyProof.Rows
/-- the order of lists -/
def ltL : List Int → List Int → Bool
  | [], [] => false
  | [], _ :: _ => true
  | _ :: _, [] => false
  | x :: xs, y :: ys => decide (x < y) || (decide (x = y) && ltL xs ys)
theorem firstLt_up (e r : Nat → Bool) (fin : Bool) : ∀ l : List Nat, SeqAt.firstLt e r fin (l.map Nat.succ) = SeqAt.firstLt (fun j => e (j + 1)) (fun j => r (j + 1)) fin l
  | [] => rfl
  | j :: l => by
    rw [List.map_cons]
    unfold SeqAt.firstLt
    rw [firstLt_up e r fin l]
theorem firstLt_le : ∀ ns ms : List Int, SeqAt.firstLt (fun j => decide (ns.getD j 0 = ms.getD j 0)) (fun j => decide (ns.getD j 0 ≤ ms.getD j 0)) (decide (ns.length ≤ ms.length)) (List.range (min ns.length ms.length)) = !ltL ms ns
  | [], [] => rfl
  | [], m :: ms => by
    rw [show min ([] : List Int).length (m :: ms).length = 0 from Nat.zero_min _]
    rfl
  | n :: ns, [] => by
    rw [show min (n :: ns).length ([] : List Int).length = 0 from Nat.min_zero _]
    rfl
  | n :: ns, m :: ms => by
    rw [show min (n :: ns).length (m :: ms).length = min ns.length ms.length + 1 from by rw [List.length_cons, List.length_cons]; omega, List.range_succ_eq_map]
    unfold SeqAt.firstLt
    rw [firstLt_up]
    show (if decide (n = m) = true then SeqAt.firstLt (fun j => decide (ns.getD j 0 = ms.getD j 0)) (fun j => decide (ns.getD j 0 ≤ ms.getD j 0)) (decide (ns.length + 1 ≤ ms.length + 1)) (List.range (min ns.length ms.length)) else decide (n ≤ m)) = !(decide (m < n) || (decide (m = n) && ltL ms ns))
    rw [show decide (ns.length + 1 ≤ ms.length + 1) = decide (ns.length ≤ ms.length) from decide_eq_decide.mpr (by omega), firstLt_le ns ms]
    by_cases h : n = m
    · subst h
      rw [if_pos (decide_eq_true rfl), decide_eq_false (by omega), decide_eq_true (rfl : n = n)]
      rfl
    · rw [if_neg (by simpa using h), decide_eq_false (fun z => h z.symm : ¬ m = n), Bool.false_and, Bool.or_false]
      by_cases g : m < n
      · rw [decide_eq_true g, decide_eq_false (by omega)]
        rfl
      · rw [decide_eq_false g, decide_eq_true (by omega)]
        rfl
def rLeL (K : PySem.W.Frag) : R2 := fun x y H Q => ∃ (a b : Addr) (ns ms : List Int), x = .ref a ∧ y = .ref b ∧ SqL K H a (ns.map V.int) ∧ SqL K H b (ms.map V.int) ∧ Q (.bl (!ltL ms ns)) H
theorem op_leL {X : Cx} (hu : X.A.units + 64 < cLine) : OpR X (compareOp .LtE) (rLeL X.K) := by
  intro pins s σ H x y v u Q I rx ry h
  obtain ⟨a, b, ns, ms, rfl, rfl, ha, hb, q⟩ := h
  cases rx
  cases ry
  obtain ⟨its, r1, ⟨o1, n1, g1, c1, d1, s1⟩, _⟩ := I.list ha
  obtain ⟨its2, r2, ⟨o2, n2, g2, c2, d2, s2⟩, _⟩ := I.list hb
  have p1 : s.heap.IsList a its.toArray := ⟨o1, g1, c1, n1, s1⟩
  have p2 : s.heap.IsList b its2.toArray := ⟨o2, g2, c2, n2, s2⟩
  have i1 : IntsAre its ns := Vals.ints r1
  have i2 : IntsAre its2 ms := Vals.ints r2
  have e1 : its.toArray.size = ns.length := (List.size_toArray ..).trans i1.length
  have e2 : its2.toArray.size = ms.length := (List.size_toArray ..).trans i2.length
  have at1 : ∀ j (h1 : j < its.toArray.size), ∃ t, its.toArray[j] = .int (ns.getD j 0) t := fun j h1 => IntsAre.int_at i1 _ _ (by simp at h1; simp [h1])
  have at2 : ∀ j (h1 : j < its2.toArray.size), ∃ t, its2.toArray[j] = .int (ms.getD j 0) t := fun j h1 => IntsAre.int_at i2 _ _ (by simp at h1; simp [h1])
  have R := PySem.SeqAt.RcOp.lists_le (A := X.A) (s := s) (e := fun j => decide (ns.getD j 0 = ms.getD j 0)) (r := fun j => decide (ns.getD j 0 ≤ ms.getD j 0)) p1 p2 (Nat.lt_of_le_of_lt (Nat.le_add_right _ _) hu) (fun j h1 h2 => by
    obtain ⟨t, et⟩ := at1 j h1
    obtain ⟨t', et'⟩ := at2 j h2
    rw [et, et', show decide (ns.getD j 0 = ms.getD j 0) = (ns.getD j 0 == ms.getD j 0) from rfl]
    exact SeqAt.EqAt.int_int _ _ _ _) (fun j h1 h2 _ => by
    obtain ⟨t, et⟩ := at1 j h1
    obtain ⟨t', et'⟩ := at2 j h2
    rw [et, et']
    exact fun _ _ _ _ h => PyProof.Rows.le_int h)
  rw [e1, e2, firstLt_le] at R
  exact R X.prog X.w X.xe (EP X pins σ Q) ⟨.bl _, H, I, rfl, q⟩
end L2
namespace Pr
open PySem PySem.Spec L2
theorem leLK {X : Cx} {K : Fg} (hu : X.A.units + 64 < cLine) (h : X.K = K := by rfl) : OpR X (compareOp .LtE) (rLeL K) := by subst h; exact op_leL hu
section
variable {K : Fg} {E : XK}
theorem rd_leL {ns ms : List Int} : RD K E (rLeL K) (.lst (iL ns)) (.lst (iL ms)) (.val (.bl (!ltL ms ns))) := fun H0 H e x y r1 r2 Q q => by
  obtain ⟨a, vs, rfl, ha, t⟩ := r1.lst_out
  obtain ⟨b, ws, rfl, hb, u⟩ := r2.lst_out
  obtain rfl := t.ints_eq
  obtain rfl := u.ints_eq
  exact ⟨a, b, ns, ms, rfl, rfl, .inl (.inl (e _ _ ha)), .inl (.inl (e _ _ hb)), sat_val e q (.bl _)⟩
/-! an own list is read as data, and is own again behind it -/
def flatO : D → Bool
  | .lst _ => false
  | .tup _ => false
  | .ins _ _ _ => false
  | .scr _ => false
  | .dic _ => false
  | _ => true
theorem den_flat {H H' : Hp} {v : V} {d : D} (h : Den K H v d) (c : flatO d = true) : Den K H' v d := by
  cases h with
  | non => exact .non
  | bl b => exact .bl b
  | int b => exact .int b
  | str b => exact .str b
  | ref b => exact .ref b
  | ty b => exact .ty b
  | _ => cases c
theorem dens_flat {H H' : Hp} : ∀ {vs : List V} {ds : List D}, Dens K H vs ds → ds.all flatO = true → Dens K H' vs ds
  | _, _, .nil, _ => .nil
  | _, _, .cons h t, c => by
    rw [List.all_cons, Bool.and_eq_true] at c
    exact .cons (den_flat h c.1) (dens_flat t c.2)
def flatOb : Ob → Bool
  | .lst ds => ds.all flatO
  | .obj _ fs => (fs.map (·.2)).all flatO
  | .tab _ => false
  | .ext _ _ => false
  | _ => true
theorem flatO_one {H H' : Hp} {v w : V} {d : D} (c : flatO d = true) (h : Den K H v d) (h' : Den K H' w d) : v = w := by
  cases h <;> cases h' <;> first | rfl | cases c
theorem flatO_same {H H' : Hp} : ∀ {ds : List D} {vs ws : List V}, ds.all flatO = true → Dens K H vs ds → Dens K H' ws ds → vs = ws
  | [], _, _, _, .nil, .nil => rfl
  | d :: ds, _, _, c, .cons h t, .cons h' t' => by
    rw [List.all_cons, Bool.and_eq_true] at c
    rw [flatO_one c.1 h h', flatO_same c.2 t t']
theorem obD_flat {H H' : Hp} {o : HO} : ∀ {b : Ob}, ObD K H o b → flatOb b = true → ObD K H' o b
  | .lst _, ⟨vs, a, b⟩, c => ⟨vs, a, dens_flat b c⟩
  | .town _ _, h, _ => h
  | .raw _, h, _ => h
  | .obj _ _, ⟨dx, gs, a, b, r⟩, c => ⟨dx, gs, a, b, dens_flat r c⟩
theorem em_lendL {G : Sl} {O : Om} {te : TE} {P : D → Om → Prop} {i : Nat} {p : Addr} {ds : List D} (hg : G[i]? = some (some (.ref p))) (hp : O p = some (.lst ds))
    (h : EvM K te (G.set i (some (.lst ds))) (odrop O p) fun d O' => O' p = none → flatO d = true ∧ (∀ q b, O' q = some b → flatOb b = true) ∧ P d (oput O' p (.lst ds))) : EvM K te G O P := fun σ H0 H w s Q q => by
  obtain ⟨h0, o, ho, vs, rfl, rv⟩ := w.own p _ hp
  obtain ⟨H1, s1, w1, r1⟩ := w.freeze hp
  obtain ⟨p', vs', e', hp1, _⟩ := id r1.lst_out
  cases e'
  have hv : vs' = vs := by
    have := w1.le _ _ hp1
    rw [ho] at this
    cases this
    rfl
  subst hv
  refine h σ H1 H w1 (s.lend s1 hg r1) Q fun v d H2 H' O' hh s2 w2 rv2 => ?_
  obtain ⟨hd, hO, k⟩ := hh (by
    cases e : O' p with
    | none => rfl
    | some b =>
      obtain ⟨z, _⟩ := w2.own p b e
      rw [s2 _ _ hp1] at z
      cases z)
  refine q v d H0 H' _ k (Same.refl H0) ⟨(s1.trans s2).trans w2.le, fun a b hab => ?_⟩ (den_flat rv2 hd)
  by_cases e : a = p
  · subst e
    rw [oput_same] at hab
    cases hab
    exact ⟨h0, _, w2.le _ _ (s2 _ _ hp1), vs', rfl, rv⟩
  · rw [oput_ne e] at hab
    obtain ⟨z0, o2, ho2, r⟩ := w2.own a b hab
    exact ⟨(s1.trans s2).free z0, o2, ho2, obD_flat r (hO a b hab)⟩
theorem em_makeO {G : Sl} {O : Om} {C : Addr} {t : TA} {P : D → Om → Prop} {PI : List D → Om → (D → Om → Prop) → Prop} {E' : XK}
    (h : EvMA K t G O fun es O1 => ∀ x, O1 x = none → PI (.ref x :: es) (oput O1 x (.obj C [])) fun d O3 => d = .non ∧ P (.ref x) O3) : EvM K (tMake C (SpM K PI) [] E' t) G O P := fun σ H0 H w s Q q =>
  h σ H0 H w s _ fun vs es H1 H1' O1 k1 s1 w1 r1 x dx hx hdx ne => by
    refine ⟨H1, _, .ref x :: es, _, own_made w1 hx hdx, by rw [List.append_nil]; exact .cons (.ref x) r1, k1 x (w1.free hx), ?_⟩
    rintro d O' v H0' H' ⟨rfl, k3⟩ s3 w3 rv
    exact ⟨rv.non_eq, q (.ref x) (.ref x) H0' H' O' k3 (s1.trans s3) w3 (.ref x)⟩
/-- l.reverse() of an own list -/
theorem em_reverse {G : Sl} {O : Om} {to : TE} {P : D → Om → Prop} (h : EvM K to G O fun d O1 => ∃ p ds, d = .ref p ∧ O1 p = some (.lst ds) ∧ P .non (oput O1 p (.lst ds.reverse))) : EvM K (tBM0 K "list" rReverse to) G O P := fun σ H0 H w s Q q =>
  h σ H0 H w s _ fun v d H1 H1' O1 ⟨p, ds, e, hp, k⟩ s1 w1 r1 => by
    subst e
    obtain rfl := r1.ref_eq
    obtain ⟨h0, o, ho, vs, rfl, rv⟩ := w1.own p _ hp
    refine ⟨.inl ⟨rfl, vs, .inl (.inl ho)⟩, p, vs, rfl, rfl, ho, ?_⟩
    exact q .non .non H1 _ _ k s1 (w1.put (b := .lst ds.reverse) h0 ⟨vs.reverse, rfl, rv.reverse⟩) .non
/-- a list in an own instance's field is own no more, nor is the instance -/
theorem sv_freezeF {E : XK} {tu : TS} {N : En} {G : Sl} {O : Om} {i : Nat} {x y C : Addr} {f : Str} {ds : List D} (hg : G[i]? = some (some (.ref x))) (hx : O x = some (.obj C [(f, .ref y)])) (hy : O y = some (.lst ds)) (k : Sv K E tu N (G.set i (some (.ins C [f] [.lst ds]))) (odrop (odrop O y) x)) : Sv K E tu N G O := fun D σ H0 H w s n => by
  obtain ⟨H1, s1, w1, r1⟩ := w.freeze hy
  have hxy : x ≠ y := fun e => by subst e; rw [hx] at hy; cases hy
  have hx1 : odrop O y x = some (.obj C [(f, .ref y)]) := by unfold odrop; rw [if_neg hxy]; exact hx
  obtain ⟨z0, o, ho, dx, gs, rfl, hn, rd⟩ := w1.own x _ hx1
  have w2 : Wd K H1 H (oput (odrop O y) x (.obj C [(f, .lst ds)])) := by
    refine w1.add z0 ho ⟨dx, gs, rfl, hn, ?_⟩
    match gs, rd with
    | [], rd => cases rd
    | [g], rd =>
      obtain ⟨v, ws, e, r2, r3⟩ := rd.cons_out
      cases e
      exact .cons (by rw [r2.ref_eq]; exact r1) .nil
    | _ :: _ :: _, rd =>
      obtain ⟨v, ws, e, r2, r3⟩ := rd.cons_out
      cases e
      cases r3
  obtain ⟨H3, s3, w3, r3⟩ := Wd.freezeO w2 oput_same
  have ed : odrop (oput (odrop O y) x (.obj C [(f, .lst ds)])) x = odrop (odrop O y) x := by
    funext q
    unfold odrop oput
    split <;> rfl
  rw [ed] at w3
  refine k D σ H3 H w3 (s.lend (s1.trans s3) hg r3) (n.up (s1.trans s3))

/-! a pure expression reads an own list -/
def hole1 (H : Hp) (p : Addr) : Hp := fun q => if q = p then none else H q
theorem Wd.lendL {H0 H : Hp} {O : Om} {p : Addr} {ds : List D} (w : Wd K H0 H O) (hp : O p = some (.lst ds)) : ∃ vs, H0 p = none ∧ Dens K H0 vs ds ∧ Same H0 (upd H0 p (.lst vs)) ∧ Same (upd H0 p (.lst vs)) H ∧ Den K (upd H0 p (.lst vs)) (.ref p) (.lst ds) := by
  obtain ⟨h0, o, ho, vs, rfl, rv⟩ := w.own p _ hp
  refine ⟨vs, h0, rv, same_new h0, fun b x q => ?_, .lst upd_same (rv.up (same_new h0))⟩
  by_cases hb : b = p
  · subst hb; rw [upd_same] at q; rw [ho]; exact q
  · rw [upd_ne hb] at q; exact w.le _ _ q
theorem Wd.thawL {H0 H H1 H' : Hp} {O : Om} {p : Addr} {o : HO} (w : Wd K H0 H O) (p0 : H0 p = none) (st : Stp (upd H0 p o) H H1 H') : Same H0 (hole1 H1 p) ∧ Wd K (hole1 H1 p) H' O := by
  have sm : Same H0 (hole1 H1 p) := fun q x hq => by
    unfold hole1
    rw [if_neg (fun e => by rw [e, p0] at hq; cases hq)]
    exact st.a _ _ (same_new p0 _ _ hq)
  refine ⟨sm, ⟨fun q x hq => ?_, fun q c hc => ?_⟩⟩
  · unfold hole1 at hq
    split at hq
    · cases hq
    · exact st.c _ _ hq
  · obtain ⟨h0, x, ho, r⟩ := w.own q c hc
    refine ⟨?_, x, st.b _ _ ho, r.up sm⟩
    unfold hole1
    split
    · rfl
    · rename_i hq
      cases hz : H1 q with
      | none => rfl
      | some z =>
        have := st.f q (by rw [upd_ne hq]; exact h0) (by rw [hz]; intro e; cases e)
        rw [this] at ho
        cases ho
theorem em_lendQ {G : Sl} {O : Om} {te : TE} {P : D → Om → Prop} {p : Addr} {ds : List D} (i : Nat) {d : D} (hg : G[i]? = some (some (.ref p))) (hp : O p = some (.lst ds)) (h : EvR K E0 te (G.set i (some (.lst ds))) (.val d)) (hd : flatO d = true) (k : P d O) : EvM K te G O P := fun σ H0 H w s Q q => by
  obtain ⟨vs, p0, rv, s1, s2, r1⟩ := w.lendL hp
  refine h σ _ H s2 (s.lend s1 hg r1) Q fun v H1 H' st rv' => ?_
  obtain ⟨sm, w2⟩ := w.thawL p0 st
  exact q v d _ H' O k sm w2 (den_flat rv' hd)
theorem mt_lendQ {G : Sl} {O : Om} {tt : TT} {PT : Bool → Om → Prop} {p : Addr} {ds : List D} (i : Nat) {x : Bool} (hg : G[i]? = some (some (.ref p))) (hp : O p = some (.lst ds)) (h : EvT K tt (G.set i (some (.lst ds))) x) (k : PT x O) : EvMT K tt G O PT := fun σ H0 H w s Q q => by
  obtain ⟨vs, p0, rv, s1, s2, r1⟩ := w.lendL hp
  refine h σ _ H s2 (s.lend s1 hg r1) Q fun H1 H' st => ?_
  obtain ⟨sm, w2⟩ := w.thawL p0 st
  exact q x _ H' O k sm w2
theorem ex_lendQ {G : Sl} {O : Om} {te : TE} {k : Cn} {p : Addr} {ds : List D} (i : Nat) {c : Value} (hg : G[i]? = some (some (.ref p))) (hp : O p = some (.lst ds)) (h : EvR K E te (G.set i (some (.lst ds))) (.exc c)) (z : k.ex c O) : EvX K E te G O k := fun σ H0 H w s Q q qx qy => by
  obtain ⟨vs, p0, rv, s1, s2, r1⟩ := w.lendL hp
  exact h σ _ H s2 (s.lend s1 hg r1) Q fun H' s' => qx c O H0 H' z (Same.refl _) (w.same s')
/-- a new list of an own one's items -/
theorem em_lendN {G : Sl} {O : Om} {te : TE} {P : D → Om → Prop} {p : Addr} {ds es : List D} (i : Nat) (hg : G[i]? = some (some (.ref p))) (hp : O p = some (.lst ds)) (h : EvR K E0 te (G.set i (some (.lst ds))) (.new es)) (hd : es.all flatO = true) (k : ∀ q, O q = none → P (.ref q) (oput O q (.lst es))) : EvM K te G O P := fun σ H0 H w s Q q => by
  obtain ⟨vs, p0, rv, s1, s2, r1⟩ := w.lendL hp
  refine h σ _ H s2 (s.lend s1 hg r1) Q fun a ws H1 H' st ha h0 h1 r => ?_
  obtain ⟨sm, w2⟩ := w.thawL p0 st
  refine q (.ref a) (.ref a) _ H' _ (k a (w.free ha)) sm (w2.add ?_ h1 ⟨ws, rfl, dens_flat r hd⟩) (.ref a)
  unfold hole1
  split
  · rfl
  · exact h0
/-- l.pop(i) -/
theorem em_popAt {G : Sl} {O : Om} {to ti : TE} {P : D → Om → Prop} (h : EvM K to G O fun d O1 => ∃ p ds, d = .ref p ∧ O1 p = some (.lst ds) ∧ EvM K ti G O1 fun i O2 => ∃ (j : Nat) (es : List D) (e : D), i = .int j ∧ O2 p = some (.lst es) ∧ es[j]? = some e ∧ j < 100000 ∧ P e (oput O2 p (.lst (es.eraseIdx j)))) : EvM K (tBM K "list" rPopAt to (tCons ti tNil)) G O P := fun σ H0 H w s Q q => h σ H0 H w s _ fun v d H1 H1' O1 ⟨p, ds, e, hp, k⟩ s1 w1 r1 => by
  subst e
  obtain rfl := r1.ref_eq
  obtain ⟨_, o, ho, vs, rfl, _⟩ := w1.own p _ hp
  refine ⟨.inl ⟨rfl, _, .inl (.inl ho)⟩, k σ H1 H1' w1 (s.up s1) _ fun y i H2 H2' O2 ⟨j, es, e, ei, hp2, he, hj, k2⟩ s2 w2 r2 => ?_⟩
  subst ei
  obtain rfl := r2.int_eq
  obtain ⟨h0, o2, ho2, ws, rfl, rw2⟩ := w2.own p _ hp2
  obtain ⟨z, hz, rz⟩ := rw2.get he
  have hlt := (List.getElem?_eq_some_iff.mp hz).1
  refine ⟨p, ws, (j : Int), j, z, rfl, rfl, ho2, by omega, by omega, ?_, hz, ?_⟩
  · have e1 : ¬ ((j : Nat) : Int) < 0 := by omega
    have e2 : (0 : Int) ≤ ((j : Nat) : Int) ∧ ((j : Nat) : Int) < ((ws.length : Nat) : Int) := ⟨by omega, by omega⟩
    unfold seqIndex?
    simp only [e1, if_false, e2.1, e2.2, decide_true, Bool.and_self, if_true, Int.toNat_natCast]
  · exact q z e H2 _ _ k2 (s1.trans s2) (w2.put (b := .lst (es.eraseIdx j)) h0 ⟨ws.eraseIdx j, rfl, rw2.eraseIdx j⟩) rz
theorem em_dNotInT {G : Sl} {O : Om} {td ty : TE} {P : D → Om → Prop} (h : EvM K ty G O fun y O1 => EvM K td G O1 fun d O2 => ∃ p kvs ws, d = .ref p ∧ y = .tup (iL ws) ∧ O2 p = some (.raw (.dT kvs)) ∧ P (.bl (!(valV kvs (kI ws)).isSome)) O2) : EvM K (tDNotIn ty td) G O P := fun σ H0 H w s Q q =>
  h σ H0 H w s _ fun y dy H1 H1' O1 k1 s1 w1 r1 => k1 σ H1 H1' w1 (s.up s1) _ fun x d H2 H2' O2 ⟨p, kvs, ws, e, ey, hp, k2⟩ s2 w2 r2 => by
    subst e ey
    obtain rfl := r2.ref_eq
    obtain ⟨b, rfl, hb⟩ := key_at w2.le (r1.up s2)
    exact ⟨p, _, rfl, DGet.t (own_raw w2 hp).2 hb, q _ _ H2 H2' O2 k2 (s1.trans s2) w2 (.bl _)⟩
/-- a for over an own list that is not changed meanwhile -/
theorem sv_forO {G : Sl} {O : Om} {N : En} {te : TE} {g : TG} {tu : TS} {p : Addr} {ds : List D} (he : EvR K E0 te G (.val (.ref p))) (hp : O p = some (.lst ds)) (Iv : Nat → Sl → Om → Prop) (h0 : Iv 0 G O) (hkeep : ∀ i G2 O2, Iv i G2 O2 → O2 p = some (.lst ds))
    (hst : ∀ i d G2 O2, ds[i]? = some d → Iv i G2 O2 → ∃ G3 ws, TgD K g d G2 G3 ws ∧ Sv K E tu { N with nx := Iv (i + 1), ct := Iv (i + 1), bk := N.nx } G3 O2) (hend : ∀ G2 O2, Iv ds.length G2 O2 → N.nx G2 O2) (hfl : ds.all flatO = true) : Sv K E (tFor (iList K te) g tu) N G O := fun De σ H0 H w s n => by
  obtain ⟨p0, o, ho, vs, rfl, rv⟩ := w.own p _ hp
  refine he σ H0 H w.le s _ fun v H1 H1' s1 r1 => ?_
  obtain rfl := r1.ref_eq
  have w1 := w.step s1
  refine ⟨p, rfl, ⟨vs, .inl (.inl (s1.b _ _ ho))⟩, ?_⟩
  have same_vs : ∀ (Hc H2 : Hp) (O2 : Om), Wd K Hc H2 O2 → O2 p = some (.lst ds) → ∃ us, H2 p = some (.lst us) ∧ us = vs := fun Hc H2 O2 w2 h2 => by
    obtain ⟨_, o2, ho2, us, rfl, ru⟩ := w2.own p _ h2
    exact ⟨us, ho2, flatO_same hfl ru rv⟩
  have wk : Walk (Itl K p) ds.length (fun H => SqL K H p vs) (YAt vs) := by rw [← rv.length]; exact walk_list
  refine for_it wk (g := g) (tb := tu) (D := De) (σ := σ) (H := H1') (fun i σ2 H2 => ∃ Hc G2 O2, Same H1 Hc ∧ Wd K Hc H2 O2 ∧ SlD K Hc σ2 G2 ∧ Iv i G2 O2)
    ⟨H1, G, O, Same.refl _, w1, s.up s1.a, h0⟩ (fun i σ2 H2 _ ⟨Hc, G2, O2, a, b, _, iv⟩ => ?_) ?_ ?_
  · obtain ⟨us, h2, e⟩ := same_vs Hc H2 O2 b (hkeep i G2 O2 iv)
    subst e
    exact .inl (.inl h2)
  · rintro i x σ2 H2 H3 hi ⟨Hc, G2, O2, sc, w2, sl2, iv⟩ ⟨rfl, hx⟩
    obtain ⟨d, hd, rd⟩ := rv.getV hx
    obtain ⟨G3, ws, hg, hb⟩ := hst i d G2 O2 hd iv
    have hfd : flatO d = true := List.all_eq_true.mp hfl d (List.mem_of_getElem? hd)
    refine hg x σ2 Hc H3 w2.le sl2 (den_flat rd hfd) _ fun σ3 sl3 _ _ => ?_
    refine hb _ σ3 Hc H3 w2 sl3 ⟨fun G4 O4 σ4 a b k s4 w4 sl4 => ?_, fun d' O4 v a b k s4 w4 r4 => ?_, fun G4 O4 σ4 a b k s4 w4 sl4 => ?_, fun G4 O4 σ4 a b k s4 w4 sl4 => ?_, fun c O4 a b k s4 w4 => ?_, fun c dd O4 a b k s4 w4 => ?_⟩
    · exact ⟨a, G4, O4, sc.trans s4, w4, sl4, k⟩
    · exact n.rt d' O4 v a b k (s1.a.trans (sc.trans s4)) w4 r4
    · exact n.nx G4 O4 σ4 a b k (s1.a.trans (sc.trans s4)) w4 sl4
    · exact ⟨a, G4, O4, sc.trans s4, w4, sl4, k⟩
    · exact n.ex c O4 a b k (s1.a.trans (sc.trans s4)) w4
    · exact n.ey c dd O4 a b k (s1.a.trans (sc.trans s4)) w4
  · rintro σ2 H2 ⟨Hc, G2, O2, sc, w2, sl2, iv⟩
    exact n.nx G2 O2 σ2 Hc H2 (hend G2 O2 iv) (s1.a.trans sc) w2 sl2
end
end Pr
/-! Part 3: own exceptions over LookupError whose __init__ stores; two except clauses; an exception's field. -/
namespace L2
open PySem PySem.Spec PySem.W PySem.Calls PyProof.Rows
section
open Builtin Builtin.ObjectAttr
variable {prog : Program} {w : World} {A : Around} {R : Result → Shared → Prop} {hp : Heap} {g : Array GenState} {d : Drawn} {t : Nat} {os : OsState}
/-- self.name = v: the exception's dict is laid -/
theorem exl_osa {K : Frag} {name : Str} {tk : Tok} {v : Value} {x C : Addr} {fv : Array Value} {cd : ClassData} (X : K.In hp) (hx : hp.get? x = some { cls := .ref C, data := .fields fv }) (hcd : clsIn K C = some cd) (hm : excTail Pr.leTail cd.mro = true) (ne : cd.mro.isEmpty = false) (hh : cd.hasDict = true) (ha : findIn K (.ref C) name = some none)
    (hq : ∀ h' tk' dx, (∀ b o, b ≠ x → hp.get? b = some o → h'.get? b = some o) → hp.objs.size ≤ dx → dx ≠ x → h'.get? x = some { cls := .ref C, dict := some dx, data := .fields fv } → h'.Ns1 dx (fun y => if y = name then some v else none) → R (.ok (.ret .none)) ⟨h', g, d, tk', os⟩) :
    codeAny (model prog w) A (.call (.builtin "object.__setattr__") ⟨[.ref x, .str name tk, v], []⟩) R ⟨hp, g, d, t, os⟩ := by
  have I : PySem.W.InstAt hp x { cls := .ref C, data := .fields fv } C none := ⟨hx, rfl, rfl, trivial⟩; have SF := F.store_object
  have hob : cd.mro.contains (.type "object") = true := (excTail_contains "object" _ hm).trans (by decide +kernel); have hxs : x ≠ hp.objs.size := Nat.ne_of_lt (Heap.lt_size hx)
  have sub : Looks (model prog w) hp (isInstance (.ref x) (.type "object")) true := I.type.andThen (looks_mroIn X (by unfold mroIn; rw [hcd, Option.bind_some, if_neg (by rw [ne]; decide), hob]))
  refine codeAny_call_builtin SF.slot.plain SF.entry (@check_slot (model prog w) _ _ ⟨hp, g, d, t, os⟩ "object.__setattr__" "object" "__setattr__" (.ref x) [.str name tk, v] [] _ SF.kind SF.split sub (SF.args (.ref x) (.str name tk) v) ?_)
  have hmr : Looks (model prog w) hp (mroOf (.ref C)) cd.mro := (looks_clsIn X hcd).andThen .now; have L3 : Looks (model prog w) hp (storeTaker? none) none := .now
  have hcls : Looks (model prog w) hp (classData C) cd := looks_clsIn X hcd; rw [osa_eq, refuse_eq]
  refine wpAny_bind (wpAny_bind (I.type.at (wpAny_bind (hmr.at ?_)))); rw [excTail_pass _ (F.store_LookupError.passes _) _ hm]
  refine wpAny_pure (wpAny_bind (I.type.at (wpAny_bind ((looks_findIn X ha).at (wpAny_bind (L3.at ?_)))))); show wpAny _ _ (storeInOwnDict (.ref x) (.ref C) (.str name tk) name v false) _ _ _
  obtain ⟨nm, bs, mro, ns, qn, hd, sn, sb, ab, col, del⟩ := cd; dsimp only at hh; subst hh
  unfold storeInOwnDict ownDictForStores
  repeat (first | with_reducible refine PySem.HandSPX.store_in_new ?_ ?_ | with_reducible refine wpAny_loadPart_at hx ?_ | with_reducible refine hcls.at ?_ | wp_step)
  · exact ⟨_, #[], _, (Heap.get?_update_ne _ _ _ _ hxs.symm).trans (Heap.get?_push_at rfl rfl), rfl, (fun e he => absurd he (by simp)), fun _ => rfl⟩
  · intro h' tk' hn' hs; have hx₁ : (hp.push { cls := .type "dict", data := .dict #[] }).get? x = some { cls := .ref C, data := .fields fv } := Heap.get?_push_of_some _ hx
    refine hq h' tk' hp.objs.size (fun b o hb ho => (hs.2 b (Nat.ne_of_lt (Heap.lt_size ho))).trans ((Heap.get?_update_ne _ _ _ _ hb).trans (Heap.get?_push_of_some _ ho))) (Nat.le_refl _) hxs.symm ((hs.2 x hxs).trans (Heap.get?_update_self _ hx₁ rfl)) hn'
end
/-- what the written part says of such a class -/
structure OelC (K : Frag) (C : Addr) : Prop where
  q : excInitIn K C Pr.leTail "LookupError.__new__" = true
  cd : ∃ cd, clsIn K C = some cd ∧ excTail Pr.leTail cd.mro = true ∧ cd.mro.isEmpty = false ∧ cd.hasDict = true
  sa : findIn K (.ref C) "__setattr__" = some (some (.builtin "object.__setattr__"))
  exC : subIn K (.ref C) (.type "BaseException") = some true
  tyC : typeIn K (.ref C) = some (.type "type")
  kC : keepIn K (.ref C) = true
section
variable {X : Cx} {pins : List (Addr × Obj)} {σ : St} {H : Hp} {s : Shared} {a C : Addr} {f : Str} {y : V} {u : Value} {Q : Unit → Shared → Prop} {E : Value → Shared → Prop} {A : Around}
theorem oel_new (T : OelC X.K C) (I : Inv X pins σ H s) (e : H a = some (exo a C none)) (hno : findIn X.K (.ref C) f = some none) (ry : RelV y u)
    (h : ∀ dx s', H dx = none → dx ≠ a → Inv X pins σ (upd (upd H dx (exd dx [(f, y)])) a (exo a C (some dx))) s' → Q () s') : wpAny (model X.prog X.w) A (setAttr (.ref a) f u) Q E s := by
  obtain ⟨cd, hcl, hm, hne, hh⟩ := T.cd
  obtain ⟨t1, ho⟩ := exo_at I.hok e
  obtain ⟨hp, g, d, t, os⟩ := s
  refine set_plain I.kIn (ox := { cls := .ref C, dict := none, data := .fields #[.ref t1, .none, .none, .none, .bool false, .none] }) (od := none) ⟨ho, rfl, rfl, trivial⟩ T.sa (exl_osa I.kIn ho hcl hm hne hh hno fun h' tk' dx k dn dne hx hn => ?_)
  have hnd : H dx = none := I.hok.fresh dn
  have nd : ∀ {b : Addr} {o : Obj}, hp.get? b = some o → b ≠ dx := fun {b o} q => Nat.ne_of_lt (Nat.lt_of_lt_of_le (Heap.lt_size q) (show hp.objs.size ≤ dx from dn))
  have na : ∀ {b : Addr}, H b = none → b ≠ a := fun {b} n => (ne_of_none e n).symm
  have U : Un X.fs [] H (upd (upd H dx (exd dx [(f, y)])) a (exo a C (some dx))) hp h' := by
    refine ⟨fun b o q n _ _ => k b o (na n) q, fun b o q n _ _ => ⟨o.slots, k b o (na n) q⟩, fun b o q n _ => ?_, fun b o q _ => ?_, fun b xs q => ?_, fun b o v q => ?_, fun b ps q => ⟨#[], ?_⟩⟩
    · rw [upd_ne (na n), upd_ne (nd q), n]
    · by_cases hb : b = a
      · subst hb
        exact ⟨_, hx⟩
      · exact ⟨o, k b o hb q⟩
    · rw [upd_ne (at_ne e q exo_tup), upd_ne (ne_of_none q hnd), q]
    · rw [upd_ne (at_ne e q exo_frz), upd_ne (ne_of_none q hnd), q]
    · rw [upd_ne (at_ne e q exo_tbl), upd_ne (ne_of_none q hnd), q]
      simp
  refine h dx _ hnd dne (I.un (t' := tk') U fun b o q => ?_)
  by_cases hb : b = a
  · subst hb
    rw [upd_same] at q
    cases q
    exact exo_ok hx
  by_cases hd : b = dx
  · subst hd
    rw [upd_ne hb, upd_same] at q
    cases q
    exact exd_ok hn (relO_put (fs := []) ry fun _ => trivial)
  · rw [upd_ne hb, upd_ne hd] at q
    refine (I.hok b o q).stay (fun c v hc z => k c v ?_ z) (fun c hc => ?_) fun c xs hc => ?_
    · rcases hc with rfl | hc
      · exact hb
      · exact at_ne e hc exo_own
    · rw [upd_ne (at_ne e hc exo_own), upd_ne (ne_of_none hc hnd), hc]
    · rw [upd_ne (at_ne e hc exo_tup), upd_ne (ne_of_none hc hnd), hc]
end
/-- self.f = e in such an __init__, the only one -/
def tOsl (K : Frag) (f : Str) (to te : TE) : TS := fun D σ H => te σ H fun y H1 => to σ H1 fun x H2 => ∃ a C : Addr, x = .ref a ∧ OelC K C ∧ findIn K (.ref C) f = some none ∧ H2 a = some (exo a C none) ∧ ∀ dx, H2 dx = none → dx ≠ a → D.nx σ (upd (upd H2 dx (exd dx [(f, y)])) a (exo a C (some dx)))
section
variable {X : Cx} {o e : Expr} {es : List Expr} {to te : TE} {ta : TA} {f : Str} {p p' pos : Pos}
theorem ps_osl (ho : PE X o to) (he : PE X e te) (hs : swapsWith e (some (.Attribute o f p')) pos.line X.env = pure false := by rfl) : PS X (.Assign [.Attribute o f p'] e pos) (tOsl X.K f to te) := by
  refine ⟨fun pins s σ H D I h => plainObj_wpAny_Assign_Attribute (thn (he.run pins s σ H _ I h) fun v s1 ⟨y, H1, I1, r1, q1⟩ => thn (ho.run pins s1 σ H1 _ I1 q1) fun u s2 ⟨x, H2, I2, r2, a, C, ex, T, hno, ea, q⟩ => ?_) hs⟩
  subst ex
  cases r2
  exact oel_new T I2 ea hno r1 fun dx s' n ne J => ⟨σ, _, J, q dx n ne⟩
/-- C(e), C's own __init__ keeping sp -/
theorem pmk_oel {CX : CXT} {x : Str} {C fI : Addr} {k : Nat} {fd : FuncData} {ps : List Str} {sp : Sp} {ds : List Value} {dvs : List V} (T : OelC X.K C) (iC : findIn X.K (.ref C) "__init__" = some (some (.ref fI))) (tI : typeIn X.K (.ref fI) = some (.type "function"))
    (F1 : FnOk X.prog X.w X.K X.mg X.base CX k fI fd ps sp) (hr : Room (k + 1) X.A) (hb : Binds X.K fd ps ds) (hd : Vals dvs ds) (hx : Passes CX X (fun _ _ _ => False)) (hg : Gl X x) (hm : X.mg x = some (.ref C)) (ha : PA X (e :: es) ta)
    (hdb : (x == ("__debug__" : Str)) = false := by decide) (he : starEach (e :: es) X.env = (false, eval e X.env) :: starEach es X.env := by rfl) (hpl : (backTo pos (starEach es X.env)).any (·.1) = false := by rfl) :
    PMk X (.Call (.Name x p) (e :: es) [] pos) (tMkO C sp dvs ta) := by
  intro pins s σ H Q I h
  refine wpAny_Call_Name_kw (ld_glob I hg hm (callWith_K (h₀ := X.base) I.ok.mod.kin T.kC (thn (ha.run pos pins s σ H _ I h) fun us s1 ⟨vs, H1, I1, r1, hz, q1⟩ => ⟨I1.kIn, ?_⟩) he hpl) hdb)
  obtain ⟨nm, N, qn, bs, bm, hdct, sn, sub, ab, col, dd, k0, k1, k2, k3, k5, hC, hbm⟩ := excInit_of I1.kIn T.q
  show wpAny _ _ (call (.ref C) us) _ _ _
  obtain ⟨hp, g, dr, tk, os⟩ := s1
  have hsz : hp.objs.size ≤ hp.objs.size + 1 := Nat.le_add_right _ _
  have hq := q1 (hp.objs.size + 1) (I1.hok.fresh hsz)
  have kk : ∀ b o, hp.get? b = some o → ((hp.push (kdv_tup us)).push (PySem.HandSPX.excO C hp.objs.size)).get? b = some o := fun b o e => Heap.get?_push_of_some _ (Heap.get?_push_of_some _ e)
  have hget : ((hp.push (kdv_tup us)).push (PySem.HandSPX.excO C hp.objs.size)).get? (hp.objs.size + 1) = some (PySem.HandSPX.excO C hp.objs.size) := by heap_get
  have I2 : Inv X pins σ (upd H1 (hp.objs.size + 1) (exo (hp.objs.size + 1) C none)) ⟨(hp.push (kdv_tup us)).push (PySem.HandSPX.excO C hp.objs.size), g, dr, tk, os⟩ := I1.laid (t' := tk) kk hsz (exo_ok hget)
  have r2 : Vals (V.ref (hp.objs.size + 1) :: (vs ++ dvs)) (Value.ref (hp.objs.size + 1) :: (us ++ ds)) := .cons rfl (Vals.append r1 hd)
  have hl : (Value.ref (hp.objs.size + 1) :: us ++ ds).length = ps.length := (r2.length.symm.trans (F1.len _ _ _ _ hq))
  have hus : us.length ≤ sizeLine := by
    have := Paired.length r1
    rw [sizeLine_eq]
    omega
  refine wpAny_call (PySem.HandSPX.call_own F.excBase_LookupError hbm hC (looks_findIn I1.kIn iC) (fun self => bind_fn I1.kIn self tI) hus
    (codeAny_mono (F1.run _ X.stack _ _ ⟨Value.ref (hp.objs.size + 1) :: us, []⟩ (Value.ref (hp.objs.size + 1) :: (us ++ ds)) _ _ (fun _ _ _ => False) (hr.make C us []) (I2.env0.make C us []) (hb _ (Value.ref (hp.objs.size + 1) :: us) I2.kIn hl) r2 hq) fun r s' hq' => ?_))
  match r with
  | .error er => exact hx pins σ _ _ er s' I2 hq'
  | .ok .next => exact False.elim hq'
  | .ok .brk => exact False.elim hq'
  | .ok .cont => exact False.elim hq'
  | .ok (.ret u) =>
    obtain ⟨v, H2, os2, bare2, un2, hok2, rv, ev, d, fs, ea, ed, hd1, q2⟩ := hq'
    subst ev
    obtain ⟨h2, g2, d2, t2, os'⟩ := s'
    exact ⟨rv, mk_end (raises_own T.exC T.tyC) I1 hsz kk un2 hok2 os2 bare2 ea ed hd1 q2⟩
end
/-- the promise of an __init__ that stores its argument -/
def spInit (K : Frag) (f : Str) : Sp := fun vs H Q _ => ∃ (a C : Addr) (y : V), vs = [.ref a, y] ∧ OelC K C ∧ findIn K (.ref C) f = some none ∧ H a = some (exo a C none) ∧ ∀ dx, H dx = none → dx ≠ a → Q .non (upd (upd H dx (exd dx [(f, y)])) a (exo a C (some dx)))
/-- such a class that can be raised by its name -/
structure CalJ (P : Program) (w : World) (K : Frag) (mg : Str → Option Value) (base : Heap) (x f : Str) (C : Addr) (k : Nat) (ps : List Str) : Prop where
  ex : ∃ (fI : Addr) (fd : FuncData), mg x = some (.ref C) ∧ OelC K C ∧ findIn K (.ref C) f = some none ∧ findIn K (.ref C) "__init__" = some (some (.ref fI)) ∧ typeIn K (.ref fI) = some (.type "function") ∧ FnOk P w K mg base (L2.CX P w) k fI fd ps (spInit K f) ∧ Binds K fd ps []
def tRaiseJ (K : Frag) (E : XK) (C : Addr) (f : Str) (te : TE) : TS := fun _ σ H => tMkO C (spInit K f) [] (tCons te tNil) σ H fun cls d H' => E cls d H'
theorem ps_raiseJ {X : Cx} {E : XK} {x f : Str} {C : Addr} {k : Nat} {ps : List Str} {e : Expr} {te : TE} {p pos pos' : Pos} (J : CalJ X.prog X.w X.K X.mg X.base x f C k ps) (hr : Room (k + 1) X.A) (tk : Takes X (fun cls d _ H => E cls d H)) (he : PE X e te) (hc : X.calm = true := by rfl) (hg : Gl X x := by rfl) (hdb : (x == ("__debug__" : Str)) = false := by decide)
    (hst : starEach [e] X.env = (false, eval e X.env) :: starEach [] X.env := by rfl) (hpl : (backTo pos (starEach [] X.env)).any (·.1) = false := by rfl) :
    PS X (.Raise (some (.Call (.Name x p) [e] [] pos)) none pos') (tRaiseJ X.K E C f te) := by
  obtain ⟨fI, fd, hm, T, hno, iC, tI, F1, hb⟩ := J.ex
  exact ps_raise (W := fun cls d _ H => E cls d H) (pos := pos') hc tk (pmk_oel (p := p) (pos := pos) T iC tI F1 hr hb .nil passL hg hm (pa_cons he pa_nil hst) hdb hst hpl)
section
variable {P : Program} {w : World} {K : Frag} {mg : Str → Option Value} {base : Heap} {x qual : Str} {params : Arguments} {body : List Stmt} {scope : Scope} {fI C : Addr}
theorem calJ_mk {N ps : List Str} {y f : Str} (hm : mg y = some (.ref C)) (T : OelC K C) (hno : findIn K (.ref C) f = some none) (iC : findIn K (.ref C) "__init__" = some (some (.ref fI))) (tI : typeIn K (.ref fI) = some (.type "function")) (F : ∃ fd, FunD K x qual params body scope [] [] fI fd) (S : FnScope N ps scope) (h2 : ps.length = 2)
    (h : ∀ (kV doc pm : Value) (an : Option Addr) (cdv ct : Value) (us : List Value), us.length = ps.length → bindArgs (fnOf x qual params body scope .none kV doc pm an cdv ct) ⟨us, []⟩ = pure (ps.zip us))
    (hbody : ∀ (cdv : Value) (A : Around) (outer : List Env) (s : Shared) (H : Hp) (E : XK), PSs (cxOf (L2.CX P w) P w K mg base N qual scope fI cdv A outer s H E).nox body (tOsl K f (tVar 0) (tVar 1))) : CalJ P w K mg base y f C 1 ps := by
  obtain ⟨fd, F⟩ := F
  have len : ∀ vs H Q E, spInit K f vs H Q E → vs.length = ps.length := fun vs H Q E ⟨a, C, y, e, _⟩ => by rw [e, h2]; rfl
  refine ⟨fI, fd, hm, T, hno, iC, tI, F.ok S len fun cdv A outer s H vs Q E hr hsp => ⟨_, (hbody cdv A outer s H E).nox, ?_⟩, F.bindsN h⟩
  obtain ⟨a, C, y, rfl, T, hno, ha, q⟩ := hsp
  refine ⟨y, rfl, .ref a, rfl, a, C, rfl, T, hno, ha, fun dx h1 h2 => q dx h1 h2⟩
end
/-- an exception that is kept, with its dict -/
def rIsXD (K : Frag) : List V → Hp → VK → Prop := fun xs H Q => ∃ (a D : Addr) (d : Option Addr) (c : V) (cv : Value) (b : Bool), xs = [.ref a, c] ∧ H a = some (ExT (.ref D) d a) ∧ (∀ dd, d = some dd → ∃ fs, H dd = some (.xd fs)) ∧ ExcC K D ∧ (∀ u, RelV c u → u = cv) ∧ kitOne K (.ref D) cv = some b ∧ Q (.bl b) H
theorem ext_none {X : Cx} {pins : List (Addr × Obj)} {σ : St} {H : Hp} {s : Shared} {a D : Addr} (I : Inv X pins σ H s) (hT : H a = some (ExT (.ref D) none a)) : ∃ oe, PySem.W.InstAt s.heap a oe D none := by
  obtain ⟨⟨oe, vs, hget, hz, hv⟩, _⟩ := I.hok a _ hT
  exact ⟨oe, hget, hz.1, by unfold notCls; rw [hv] <;> rfl, by rw [hz.2]; trivial⟩
theorem ext_some {X : Cx} {pins : List (Addr × Obj)} {σ : St} {H : Hp} {s : Shared} {a D dd : Addr} {fs : List (Str × V)} (I : Inv X pins σ H s) (hT : H a = some (ExT (.ref D) (some dd) a)) (hd : H dd = some (.xd fs)) : ∃ (oe od : Obj) (mA : Str → Option Value), PySem.W.InstAt s.heap a oe D (some od) ∧ (∀ n, PySem.W.lookIn n od = some (mA n)) ∧ ∀ g, RelO (fs.lookup g) (mA g) := by
  obtain ⟨⟨oe, vs, hget, hz, hv⟩, _⟩ := I.hok a _ hT
  have hx : ObjOk X.prog X.w H s.heap dd (.xd fs) := I.hok dd _ hd
  obtain ⟨mA, hns, hr⟩ := hx
  obtain ⟨od, ho, hl⟩ := lookIn_ns hns
  exact ⟨oe, od, mA, ⟨hget, hz.1, by unfold notCls; rw [hv] <;> rfl, by rw [hz.2]; exact ho⟩, hl, hr⟩
theorem call_isXD {X : Cx} : CallR X (.builtin "isinstance") (rIsXD X.K) := by
  intro pins s σ H xs us Q I r h
  obtain ⟨a, D, d, c, cv, b, rfl, hT, hd, C, hcv, e, q⟩ := h
  cases r with
  | cons rx rr =>
    cases rr with
    | cons rt rr =>
      cases rr
      cases rx
      have ec := hcv _ rt
      subst ec
      have hcl : (clsIn X.K D).isSome = true := by
        obtain ⟨cd, hc, _⟩ := any_some C.hd
        rw [hc]
        rfl
      cases d with
      | none =>
        obtain ⟨oe, J⟩ := ext_none I hT
        exact kia_one (kitx_exc hcl C.hg C.hk C.hs C.ha C.hn C.ht C.hm) I.kIn J e (fun z => nomatch z) fun tk => ⟨.bl b, H, I.kept (t' := tk) fun _ _ z => z, rfl, q⟩
      | some dd =>
        obtain ⟨fs, hfs⟩ := hd dd rfl
        obtain ⟨oe, od, mA, J, _⟩ := ext_some I hT hfs
        exact kia_one (kitx_exc hcl C.hg C.hk C.hs C.ha C.hn C.ht C.hm) I.kIn J e (fun z => nomatch z) fun tk => ⟨.bl b, H, I.kept (t' := tk) fun _ _ z => z, rfl, q⟩
theorem isxdK {X : Cx} {K : Frag} (h : X.K = K := by rfl) : CallR X (.builtin "isinstance") (rIsXD K) := by subst h; exact call_isXD
/-- e.n of a kept exception -/
def tXfK (K : Frag) (n : Str) (te : TE) : TE := fun σ H Q => te σ H fun x H1 => ∃ (a C dd : Addr) (fs : List (Str × V)) (v : V), x = .ref a ∧ H1 a = some (ExT (.ref C) (some dd) a) ∧ XfC K C ∧ findIn K (.ref C) n = some none ∧ H1 dd = some (.xd fs) ∧ fs.lookup n = some v ∧ Q v H1
theorem pe_xfK {X : Cx} {K : Frag} {e : Expr} {te : TE} {pos : Pos} {n : Str} (he : PE X e te) (hb : attributeBase e n X.env (eval e X.env) = eval e X.env := by rfl) (hK : X.K = K := by rfl) : PE X (.Attribute e n pos) (tXfK K n te) := by
  subst hK
  refine ⟨fun pins s σ H Q I h => attr_of hb (thn (he.run pins s σ H _ I h) fun u s1 hh => ?_)⟩
  obtain ⟨x, H1, I1, rx, a, C, dd, fs, v, rfl, hT, T, hno, hd, l, q⟩ := hh
  cases rx
  obtain ⟨oe, od, mA, J, hl, hr⟩ := ext_some I1 hT hd
  obtain ⟨u, hu, ru⟩ := RelO.some_of (v := v) (o := mA n) (by rw [← l]; exact hr n)
  exact HandSPX.exc_get I1.kIn J T.ga T.gg T.exC (findObj_own T.hdC hno rfl (by rw [hl, hu])) (handed_of ru) ⟨v, H1, I1.tok _, ru, q⟩
/-- two except clauses that keep the exception under one name -/
def wKeep2 (K : Frag) (c1 c2 : Value) (i : Nat) (ts1 ts2 : TS) (Wout : WX) (D : Ends) : WX := fun cls d σ H =>
  ∃ b, exmOne K cls c1 = some b ∧ (b = true → ∀ a, H a = none → ts1 { nx := fun σ' H' => D.nx (σ'.set i none) H', rt := D.rt, bk := fun σ' H' => D.bk (σ'.set i none) H', ct := fun σ' H' => D.ct (σ'.set i none) H' } (σ.set i (some (.ref a))) (upd H a (ExT cls d a))) ∧ (b = false → wKeep K c2 i ts2 Wout D cls d σ H)
section
variable {X : Cx} {x1 x2 n : Str} {c1 c2 : Value} {i : Nat} {body su1 su2 : List Stmt} {b1 b2 : Stmt} {np1 np2 pos po1 po2 : Pos} {tb : WX → TS} {ts1 ts2 : TS} {Wout : WX}
theorem ps_try_keep2 (hs : X.stack = X.env :: X.outer) (hf : X.env.frame = some X.env.locals) (hN : X.N.Nodup) (hi : X.N[i]? = some n) (hln : X.env.kindOf n = some .local) (hc1 : Names X x1 c1) (hc2 : Names X x2 c2) (tk : Takes X Wout)
    (hb : ∀ (W : WX) (pn : List (Addr × Obj)) (xe : Value → Shared → Prop), Takes (X.tr pn xe) W → PassesOwn (model X.prog X.w) X.A X.env xe → PSs (X.tr pn xe) body (tb W))
    (hsu1 : ∀ (a : Addr) (pn : List (Addr × Obj)), PSs (X.suite a pn) (b1 :: su1) ts1) (hsu2 : ∀ (a : Addr) (pn : List (Addr × Obj)), PSs (X.suite a pn) (b2 :: su2) ts2) :
    PS X (.Try body [.ExceptHandler (some (.Name x1 np1)) (some n) (b1 :: su1) po1, .ExceptHandler (some (.Name x2 np2)) (some n) (b2 :: su2) po2] [] [] pos) (fun D σ H => tb (wKeep2 X.K c1 c2 i ts1 ts2 Wout D) D σ H) := by
  refine ⟨fun pins s σ H D I h => ?_⟩
  have ok := I.ok
  have hfr : X.A.frames = some (X.env :: X.outer) := by rw [ok.frames, hs]
  have hloc : Loc X.env.scope n := .inl hln
  refine wpAny_Try_except (wpAny_mono ((hb (wKeep2 X.K c1 c2 i ts1 ts2 Wout D) (X.pn ++ pins) (fun e s₁ => wpAny (model X.prog X.w) X.A (noteFrame e X.env) (fun _ s₂ => wpAny (model X.prog X.w) X.A (setFlight e none) (fun _ s₃ =>
    wpAny (model X.prog X.w) X.A (handleBy e X.env [.ExceptHandler (some (.Name x1 np1)) (some n) (b1 :: su1) po1, .ExceptHandler (some (.Name x2 np2)) (some n) (b2 :: su2) po2]) (SP X pins D) X.xe s₃) X.xe s₂) X.xe s₁) (fun u s' xx => ?_) PassesOwn.looking).run [] s σ H D (I.toTry _) h) (fun f s1 hsp => ?_) (fun e s1 he => he))
  · obtain ⟨a, B, sI, pins', σ', H', cls, d, rfl, J', nb, up, sky, na, os, ag, W1⟩ := xx
    have J : Inv X pins σ' H' sI := J'.ofTry ok
    have sky' : Sky B (X.env :: X.outer) a (Zc cls d) X.env.locals s'.heap := by rw [← hs]; exact sky
    show wpAny (model X.prog X.w) X.A (noteFrame (.ref a) X.env) _ _ _
    refine Sky.land Zc.steady hfr hf sky' fun h3 fl3 up3 => ?_
    have J3 : Inv X pins σ' H' { s' with heap := h3 } := J.landed nb fl3.1 (up.trans up3) os ag
    obtain ⟨oe3, vs3, he3, hz3, hd3⟩ := fl3.there
    have notFr : ∀ {h : Heap} {o : Obj} {vs : Array Value}, h.FunFrames B (X.env :: X.outer) → h.get? a = some o → o.data = .fields vs → a ∉ frs (X.env :: X.outer) := fun {h o vs} ff e dd hm => by
      obtain ⟨_, o', e', hnf⟩ := ff.mem hm
      rw [e] at e'; cases e'
      exact hnf _ dd
    have nfr := notFr fl3.2.2.1 he3 hd3
    have nL : a ≠ X.env.locals := fun z => nfr (List.mem_filterMap.mpr ⟨X.env, List.mem_cons_self, by rw [hf, z]⟩)
    have nF : a ∉ X.fs := fun hm => by
      obtain ⟨e, he, q⟩ := List.mem_filterMap.mp hm
      exact nfr (List.mem_filterMap.mpr ⟨e, List.mem_cons_of_mem _ he, q⟩)
    have S3 := J3.suite he3 hd3 na nL nF
    have LT : Looks (model X.prog X.w) h3 (typeOf (.ref a)) cls := fun A Q E s k q => wpAny_typeOf_ref (k _ _ he3) (by rw [hz3.1]; exact q)
    have hIa : sI.heap.get? a = none := by
      cases q : sI.heap.get? a with
      | none => rfl
      | some o =>
        have z := nb a o q (by rw [hs]; exact nfr)
        rw [fl3.2.1] at z
        cases z
    have step : ∀ (x : Str) (c : Value) (np po : Pos) (b₀ : Stmt) (su : List Stmt) (ts : TS) (rest : List ExceptHandler) (b : Bool), Names X x c → (∀ (a : Addr) (pn : List (Addr × Obj)), PSs (X.suite a pn) (b₀ :: su) ts) → exmOne X.K cls c = some b →
        (b = true → ∀ a, H' a = none → ts { nx := fun σ' H' => D.nx (σ'.set i none) H', rt := D.rt, bk := fun σ' H' => D.bk (σ'.set i none) H', ct := fun σ' H' => D.ct (σ'.set i none) H' } (σ'.set i (some (.ref a))) (upd H' a (ExT cls d a))) →
        (b = false → wpAny (model X.prog X.w) X.A (handleBy (.ref a) X.env rest) (SP X pins D) X.xe { s' with heap := h3 }) →
        wpAny (model X.prog X.w) X.A (handleBy (.ref a) X.env (.ExceptHandler (some (.Name x np)) (some n) (b₀ :: su) po :: rest)) (SP X pins D) X.xe { s' with heap := h3 } := by
      intro x c np po b₀ su ts rest b hc hsu hb1 hyes hno
      refine wpAny_handleBy_cons (codeAny_handlers_test ?_) (by intro q; cases q)
      have LM := exm_one (M := model X.prog X.w) (J3.kIn) LT hb1
      have test : ∀ {Q : Value → Shared → Prop} {E : Value → Shared → Prop}, Q c { s' with heap := h3 } → wpAny (model X.prog X.w) (X.A.mark (some (.ref a))) (eval (.Name x np) X.env) Q E { s' with heap := h3 } := fun {Q E} q => by
        obtain ⟨hg, hdbg, hm | ⟨hm, hv, hnn⟩⟩ := hc
        · exact ld_glob (X := X.suite a ((a, oe3) :: (X.pn ++ pins))) S3 hg hm q hdbg
        · exact ld_blt (X := X.suite a ((a, oe3) :: (X.pn ++ pins))) S3 hg hm hv q hnn hdbg
      refine test (LM.here ?_)
      cases b with
      | false => exact hno rfl
      | true =>
        refine codeAny_handlers_suite_as (HandSPX.lands_againZ fl3 fun h4 fl4 up4 => ?_)
        obtain ⟨oe4, vs4, he4, hz4, hd4⟩ := fl4.there
        obtain ⟨G, g1, g2⟩ := restrict h4 fun b => decide (b ≠ a)
        have upA := (up.trans up3).trans up4
        have stG : B.StaysIn G := fun b o e => by
          have hne : b ≠ a := fun z => by rw [z, fl4.2.1] at e; cases e
          rw [g1 b (decide_eq_true hne)]
          exact fl4.1 b o e
        have upG : sI.heap.UpToSlots G := fun b o e hnf => by
          have hne : b ≠ a := fun z => by rw [z, hIa] at e; cases e
          obtain ⟨sl, q⟩ := upA b o e hnf
          exact ⟨sl, by rw [g1 b (decide_eq_true hne)]; exact q⟩
        have JG : Inv X pins σ' H' { s' with heap := G } := J.landed (s' := { s' with heap := G }) nb stG upG os ag
        have kG : ∀ b u, G.get? b = some u → h4.get? b = some u := fun b u e => by
          by_cases hne : b = a
          · rw [hne, g2 a (by simp)] at e
            cases e
          · rw [g1 b (decide_eq_true hne)] at e
            exact e
        have JT : Inv X pins σ' (upd H' a (ExT cls d a)) { s' with heap := h4 } := Inv.laidN (s := { s' with heap := G }) (t' := s'.toks) JG kG (g2 a (by simp)) na (exT_ok he4 hz4 hd4)
        have S4 : Inv (X.suite a (X.pn ++ pins)) [] σ' (upd H' a (ExT cls d a)) { s' with heap := h4 } :=
          ⟨JT.ok.suite _ _, JT.os, JT.bare, JT.base, JT.loc, JT.cell, JT.free, JT.freeC, fun p hp => JT.pin p (by rw [List.append_nil] at hp; exact hp), JT.hok, JT.len⟩
        refine store_ok (X := X.suite a (X.pn ++ pins)) (v := .ref a) S4 hN hi hloc rfl (fun s5 S5 => ?_) (.inr hln)
        refine wpAny_mono ((hsu a (X.pn ++ pins)).run [] s5 _ _ _ S5 (hyes rfl a na)) (fun f s6 hsp => ?_) (fun _ _ z => False.elim z)
        have un : ∀ {σ6 : St} {H6 : Hp}, Inv (X.suite a (X.pn ++ pins)) [] σ6 H6 s6 → Inv X pins σ6 H6 s6 := fun {σ6 H6} S6 =>
          ⟨ok, S6.os, S6.bare, S6.base, S6.loc, S6.cell, S6.free, S6.freeC, fun p hp => S6.pin p (List.mem_append_left _ hp), S6.hok, S6.len⟩
        have end_ : ∀ {σ6 : St} {H6 : Hp} {Q : Shared → Prop}, Inv (X.suite a (X.pn ++ pins)) [] σ6 H6 s6 → (∀ s7, Inv X pins (σ6.set i none) H6 s7 → Q s7) →
            wpAny (model X.prog X.w) X.A (do bindName X.env n .none; unbindBehindTheSuite X.env n po) (fun _ s7 => Q s7) X.xe s6 := fun {σ6 H6 Q} S6 hq => gone_ok (un S6) hN hi hln hq
        cases f with
        | next =>
          obtain ⟨σ6, H6, S6, q6⟩ := hsp
          exact end_ S6 fun s7 J7 => ⟨_, _, J7, q6⟩
        | brk =>
          obtain ⟨σ6, H6, S6, q6⟩ := hsp
          exact end_ S6 fun s7 J7 => ⟨_, _, J7, q6⟩
        | cont =>
          obtain ⟨σ6, H6, S6, q6⟩ := hsp
          exact end_ S6 fun s7 J7 => ⟨_, _, J7, q6⟩
        | ret u =>
          obtain ⟨v6, σ6, H6, S6, r6, q6⟩ := hsp
          exact end_ S6 fun s7 J7 => ⟨_, _, _, J7, r6, q6⟩
    obtain ⟨ba, ea1, ea2, ea3⟩ := W1
    refine step x1 c1 np1 po1 b1 su1 ts1 _ ba hc1 hsu1 ea1 ea2 fun eb => ?_
    obtain ⟨bb, eb1, eb2, eb3⟩ := ea3 eb
    refine step x2 c2 np2 po2 b2 su2 ts2 [] bb hc2 hsu2 eb1 eb2 fun ec => ?_
    refine wpAny_handleBy_nil ?_
    obtain ⟨k1, k2, k3, oe, vs, T, oT, ts', he, hz, hd, h1, hr⟩ := id fl3
    unfold PySem.passOn
    refine wpAny_bind (wpAny_field he hd h1 ?_)
    rw [if_neg (show ¬ ((Value.ref T == Value.none) = true) from by simp)]
    have fin : wpAny (model X.prog X.w) X.A (setFlight (.ref a) X.env.frame) (fun _ s4 => wpAny (model X.prog X.w) X.A (throw (.ref a) : Sem Flow) (SP X pins D) X.xe s4) X.xe { s' with heap := h3 } := by
      rw [hf]
      refine HandSPX.setFlight_upZ fl3 fun h4 hh4 up4 => wpAny_throw (tk _ _ ?_)
      exact ⟨a, B, sI, pins, σ', H', cls, d, rfl, J, nb, (up.trans up3).trans up4, .inr (.inr (by rw [hs]; exact hh4)), na, os, ag, eb3 ec⟩
    first
      | exact wpAny_bind (wpAny_pure (wpAny_bind fin))
      | exact wpAny_bind fin
  · cases f with
    | next =>
      obtain ⟨σ', H', J', q⟩ := hsp
      exact wpAny_execs_nil ⟨σ', H', J'.ofTry ok, q⟩
    | brk =>
      obtain ⟨σ', H', J', q⟩ := hsp
      exact ⟨σ', H', J'.ofTry ok, q⟩
    | cont =>
      obtain ⟨σ', H', J', q⟩ := hsp
      exact ⟨σ', H', J'.ofTry ok, q⟩
    | ret u =>
      obtain ⟨v, σ', H', J', r, q⟩ := hsp
      exact ⟨v, σ', H', J'.ofTry ok, r, q⟩
end
end L2
/-! Part 4: methods that may raise; raising with a field; two except clauses; own things lent together. -/
namespace Pr
open PySem PySem.Spec L2
/-- an own exception class whose __init__ stores into f -/
structure JamK (K : Fg) (mg : Str → Option Value) (x f : Str) : Prop where
  g : mg x = some (.ref (He.ga K x))
  o : OelC K (He.ga K x)
  p : PySem.W.findIn K (.ref (He.ga K x)) f = some none
  i : PySem.W.findIn K (.ref (He.ga K x)) "__init__" = some (some (.ref (He.ma K (He.ga K x) "__init__")))
  t : PySem.W.typeIn K (.ref (He.ma K (He.ga K x) "__init__")) = some (.type "function")
  c : ExcC K (He.ga K x)
  m : PySem.W.exmOne K (.ref (He.ga K x)) (.ref (He.ga K "SortError")) = some true
  l : PySem.W.kitOne K (.ref (He.ga K x)) (.type "LookupError") = some true
  s : PySem.W.exmOne K (.ref (He.ga K x)) (.ref (He.ga K x)) = some true
theorem jam_ok {K : Fg} {mg : Str → Option Value} {x f : Str} (g : mg x = some (.ref (He.ga K x))) (h : jamB K x f = true) : JamK K mg x f := by
  unfold jamB at h
  simp only [Bool.and_eq_true] at h
  obtain ⟨⟨⟨⟨⟨⟨⟨⟨⟨⟨⟨⟨⟨⟨⟨⟨⟨⟨h1, h2⟩, h3⟩, h4⟩, h5⟩, h6⟩, h7⟩, h8⟩, h9⟩, h10⟩, h11⟩, h12⟩, h13⟩, h14⟩, h15⟩, h16⟩, h17⟩, h18⟩, h19⟩ := h
  refine ⟨g, ⟨h1, ?_, He.eqO_ok h3, of_decide_eq_true h4, of_decide_eq_true h5, h6⟩, He.eqO_ok h7, He.eqO_ok h8, of_decide_eq_true h9, ⟨He.eqO_ok h10, He.eqO_ok h11, of_decide_eq_true h4, h12, He.eqO_ok h13, He.eqO_ok h14, of_decide_eq_true h15, of_decide_eq_true h16⟩, of_decide_eq_true h17, of_decide_eq_true h18, of_decide_eq_true h19⟩
  obtain ⟨cd, hcd, hz⟩ := PySem.W.any_some h2
  simp only [Bool.and_eq_true, Bool.not_eq_true'] at hz
  exact ⟨cd, hcd, hz.1.1, hz.1.2, hz.2⟩
theorem JamK.xf {K : Fg} {mg : Str → Option Value} {x f : Str} (J : JamK K mg x f) : XfC K (He.ga K x) := ⟨J.c.hg, J.c.hk, J.c.hs, J.c.hd⟩
theorem notX_ok {K : Fg} {x : Str} {is : List Nat} (h : notX K x is = true) {i : Nat} {y : Str} (hi : i ∈ is) (hy : kindsL[i]? = some y) (hne : y ≠ x) : PySem.W.exmOne K (.ref (He.ga K y)) (.ref (He.ga K x)) = some false := by
  have e := List.all_eq_true.mp h i hi
  rw [List.getD_eq_getElem?_getD, hy] at e
  rcases Bool.or_eq_true_iff.mp e with e | e
  · exact absurd (of_decide_eq_true e) hne
  · exact of_decide_eq_true e
section
variable {K : Fg} {E E' : XK} {G : Sl} {O : Om} {N : En} {te ta td ty : TE} {t : TA} {C p b : Addr} {f m : Str} {pre : List (Str × D)} {ks : List Int} {P : D → Om → Prop} {k : Cn}
theorem sv_raiseJ {i : Int} (h : EvR K E0 te G (.val (.int i))) (T : OelC K C) (hno : PySem.W.findIn K (.ref C) f = some none) (z : ∀ d, O d = none → N.ey (.ref C) d (oput O d (.raw (.xd [(f, .int i)])))) : Sv K E (tRaiseJ K E C f te) N G O := fun De σ H0 H w s n =>
  h σ H0 H w.le s _ fun v H1 H1' s1 r1 => by
    obtain rfl := r1.int_eq
    have w1 := w.step s1
    refine ⟨by show 1 ≤ 1000; decide, fun a ha => ⟨a, C, .int i, rfl, T, hno, upd_same, fun dx hdx hne => ⟨rfl, dx, [(f, .int i)], upd_same, by rw [upd_ne hne, upd_same], ?_, ?_⟩⟩⟩
    · rw [upd_ne hne] at hdx
      exact hdx
    · have hdx' : H1' dx = none := by
        rw [upd_ne hne] at hdx
        exact hdx
      have e : upd (del (upd (upd (upd H1' a (exo a C none)) dx (exd dx [(f, .int i)])) a (exo a C (some dx))) a) dx (.xd [(f, .int i)]) = upd H1' dx (.xd [(f, .int i)]) := by
        funext q
        by_cases q1 : q = dx
        · subst q1; rw [upd_same, upd_same]
        · rw [upd_ne q1, upd_ne q1]
          by_cases q2 : q = a
          · subst q2; rw [del_same, ha]
          · rw [del_ne q2, upd_ne q2, upd_ne q1, upd_ne q2]
      rw [e]
      exact n.ey _ dx _ H1 _ (z dx (w1.free hdx')) s1.a (w1.put (b := .raw (.xd [(f, .int i)])) (w1.le.free hdx') rfl)
/-! lent -/
theorem flat_clean {d : D} (h : flatO d = true) : cleanD C d = true := by
  cases d <;> first | rfl | cases h
theorem ex_lend {i : Nat} {c : Value} (l : Lent O C p b pre f ks) (hi : G[i]? = some (some (.ref p))) (h : EvR K E te (G.set i (some (lentD C pre f ks))) (.exc c)) (z : k.ex c O) : EvX K E te G O k := fun σ H0 H w s Q q qx qy => by
  obtain ⟨H1, dx, gs, kvs, s1, s2, e1, e2, e3, p0, b0, r⟩ := w.lend l
  exact h σ H1 H s2 (s.lend s1 hi r) Q fun H' s' => qx c O H0 H' z (Same.refl _) (w.same s')
/-- both an own list and the instance -/
theorem lend_both {H0 H : Hp} {a : Addr} {ds : List D} {σ : L2.St} {i j : Nat} (w : Wd K H0 H O) (l : Lent O C p b pre f ks) (ha : O a = some (.lst ds)) (s : SlD K H0 σ G) (hi : G[i]? = some (some (.ref p))) (hj : G[j]? = some (some (.ref a))) (hij : i ≠ j) :
    ∃ H2, Same H2 H ∧ SlD K H2 σ ((G.set j (some (.lst ds))).set i (some (lentD C pre f ks))) ∧ ∀ H3 H', Stp H2 H H3 H' → ∃ H4, Same H0 H4 ∧ Wd K H4 H' O := by
  obtain ⟨vs, a0, rv, s1, s2, r1⟩ := w.lendL ha
  obtain ⟨kvs, hb, hk, hkl⟩ := l.dct
  have hpa : p ≠ a := one_ne l.obj ha (fun e => by cases e)
  have hba : b ≠ a := one_ne hb ha (fun e => by cases e)
  obtain ⟨H1w, sw1, w1, r1w⟩ := w.freeze ha
  obtain ⟨a', vs', e', ha1, _⟩ := id r1w.lst_out
  cases e'
  have l1 : Lent (odrop O a) C p b pre f ks := ⟨by unfold odrop; rw [if_neg hpa]; exact l.obj, kvs, by unfold odrop; rw [if_neg hba]; exact hb, hk, hkl⟩
  obtain ⟨H2, dx, gs, kvs2, t1, t2, e1, e2, e3, p0, b0, r⟩ := w1.lend l1
  refine ⟨H2, t2, ?_, fun H3 H' st => ?_⟩
  · refine (s.lend (sw1) hj r1w).lend t1 ?_ r
    rw [List.getElem?_set_ne hij.symm]
    exact hi
  · obtain ⟨sm, w2⟩ := w1.thaw (dx := dx) (gs := gs) (kvs := kvs2) t1 e3 p0 b0 st
    -- the list is own again
    refine ⟨hole1 (hole H3 p b) a, fun q o hq => ?_, ⟨fun q o hq => ?_, fun q c hc => ?_⟩⟩
    · unfold hole1
      rw [if_neg (fun e => by rw [e, a0] at hq; cases hq)]
      exact sm _ _ (sw1 _ _ hq)
    · unfold hole1 at hq
      split at hq
      · cases hq
      · exact w2.le _ _ hq
    · obtain ⟨h0, o, ho, ro⟩ := w.own q c hc
      have hsub : Same H0 (hole1 (hole H3 p b) a) := fun q o hq => by
        unfold hole1
        rw [if_neg (fun e => by rw [e, a0] at hq; cases hq)]
        exact sm _ _ (sw1 _ _ hq)
      refine ⟨?_, o, st.b _ _ ho, ro.up hsub⟩
      unfold hole1
      split
      · rfl
      · rename_i hq
        have hc1 : odrop O a q = some c := by unfold odrop; rw [if_neg hq]; exact hc
        exact (w2.own q c hc1).1
theorem em_lend2 {i j : Nat} {a : Addr} {ds : List D} {d : D} (l : Lent O C p b pre f ks) (hi : G[i]? = some (some (.ref p))) (ha : O a = some (.lst ds)) (hj : G[j]? = some (some (.ref a))) (hij : i ≠ j) (h : EvR K E0 te ((G.set j (some (.lst ds))).set i (some (lentD C pre f ks))) (.val d)) (hd : flatO d = true) (z : P d O) : EvM K te G O P := fun σ H0 H w s Q q => by
  obtain ⟨H2, t2, sl, back⟩ := lend_both w l ha s hi hj hij
  refine h σ H2 H t2 sl Q fun v H3 H' st rv => ?_
  obtain ⟨H4, s4, w4⟩ := back H3 H' st
  exact q v d H4 H' O z s4 w4 (den_flat rv hd)
theorem ex_lend2 {i j : Nat} {a : Addr} {ds : List D} {c : Value} (l : Lent O C p b pre f ks) (hi : G[i]? = some (some (.ref p))) (ha : O a = some (.lst ds)) (hj : G[j]? = some (some (.ref a))) (hij : i ≠ j) (h : EvR K E te ((G.set j (some (.lst ds))).set i (some (lentD C pre f ks))) (.exc c)) (z : k.ex c O) : EvX K E te G O k := fun σ H0 H w s Q q qx qy => by
  obtain ⟨H2, t2, sl, back⟩ := lend_both w l ha s hi hj hij
  exact h σ H2 H t2 sl Q fun H' s' => qx c O H0 H' z (Same.refl _) (w.same s')
/-- a thing handed in: data, or an own list -/
def PArg (O : Om) (d x : D) : Prop := d = x ∨ ∃ a es, d = .ref a ∧ O a = some (.lst es) ∧ x = .lst es ∧ es.all flatO = true
theorem set_self {i : Nat} {o : Option D} (h : G[i]? = some o) : G.set i o = G := List.ext_getElem? fun j => by
  by_cases e : i = j
  · subst e
    rw [List.getElem?_set_self (List.getElem?_eq_some_iff.mp h).1, h]
  · rw [List.getElem?_set_ne e]
theorem em_lendP {i j : Nat} {x d e : D} (l : Lent O C p b pre f ks) (hi : G[i]? = some (some (.ref p))) (pa : PArg O d x) (hj : G[j]? = some (some d)) (hij : i ≠ j) (h : EvR K E0 te ((G.set j (some x)).set i (some (lentD C pre f ks))) (.val e)) (hd : flatO e = true) (z : P e O) : EvM K te G O P := by
  rcases pa with rfl | ⟨a, es, rfl, ha, rfl, hf⟩
  · rw [set_self hj] at h
    exact em_lend l hi h (flat_clean hd) z
  · exact em_lend2 l hi ha hj hij h hd z
theorem ex_lendP {i j : Nat} {x d : D} {c : Value} (l : Lent O C p b pre f ks) (hi : G[i]? = some (some (.ref p))) (pa : PArg O d x) (hj : G[j]? = some (some d)) (hij : i ≠ j) (h : EvR K E te ((G.set j (some x)).set i (some (lentD C pre f ks))) (.exc c)) (z : k.ex c O) : EvX K E te G O k := by
  rcases pa with rfl | ⟨a, es, rfl, ha, rfl, hf⟩
  · rw [set_self hj] at h
    exact ex_lend l hi h z
  · exact ex_lend2 l hi ha hj hij h z
theorem sv_forP {j : Nat} {d : D} {es : List D} {g : TG} {tu : TS} (pa : PArg O d (.lst es)) (hj : G[j]? = some (some d)) (Iv : Nat → Sl → Prop) (h0 : Iv 0 G) (hst : ∀ i x G2, es[i]? = some x → Iv i G2 → ∃ G3 ws, TgD K g x G2 G3 ws ∧ Sv K E tu { N with nx := fun G4 O4 => O4 = O ∧ Iv (i + 1) G4, ct := fun G4 O4 => O4 = O ∧ Iv (i + 1) G4, bk := N.nx } G3 O) (hend : ∀ G2, Iv es.length G2 → N.nx G2 O) : Sv K E (tFor (iList K (tVar j)) g tu) N G O := by
  rcases pa with rfl | ⟨a, es', rfl, ha, e, hf⟩
  · refine sv_for (src_list (ev_var hj)) (fun i G2 O2 => O2 = O ∧ Iv i G2) ⟨rfl, h0⟩ ?_ ?_
    · rintro i x G2 O2 hx ⟨rfl, iv⟩
      exact hst i x G2 hx iv
    · rintro G2 O2 ⟨rfl, iv⟩
      exact hend G2 iv
  · cases e
    refine sv_forO (ev_var hj) ha (fun i G2 O2 => O2 = O ∧ Iv i G2) ⟨rfl, h0⟩ ?_ ?_ ?_ hf
    · rintro i G2 O2 ⟨rfl, _⟩
      exact ha
    · rintro i x G2 O2 hx ⟨rfl, iv⟩
      exact hst i x G2 hx iv
    · rintro G2 O2 ⟨rfl, iv⟩
      exact hend G2 iv
/-- list(plan), a new list of ints -/
theorem em_listP {j : Nat} {d : D} {es : List D} {r : List V → Hp → VK → Prop} (hr : ∀ E, RC K E r [.lst es] (.new es)) (pa : PArg O d (.lst es)) (hj : G[j]? = some (some d)) (z : ∀ q, O q = none → P (.ref q) (oput O q (.lst es))) : EvM K (tCB r (tCons (tVar j) tNil)) G O P := by
  rcases pa with rfl | ⟨a, es', rfl, ha, e, hf⟩
  · exact em_new (ev_cb (ea_cons (ev_var hj) ea_nil) (hr _)) z
  · cases e
    exact em_lendN j hj ha (ev_cb (ea_cons (ev_var (List.getElem?_set_self (List.getElem?_eq_some_iff.mp hj).1)) ea_nil) (hr _)) hf z
theorem src_listM {PL : List D → Om → Prop} (h : EvM K te G O fun d O1 => ∃ ds, d = .lst ds ∧ PL ds O1) : SrcM K (iList K te) G O PL := fun σ H0 H w s R q => h σ H0 H w s _ fun v d H1 H1' O1 ⟨ds, e, z⟩ s1 w1 r1 => by
  subst e
  obtain ⟨a, vs, rfl, ha, t⟩ := r1.lst_out
  exact ⟨a, rfl, ⟨vs, .inl (.inl (w1.le _ _ ha))⟩, q _ ds O1 H1 H1' z s1 w1 (walkD_list (.inl (.inl ha)) t)⟩
/-- d.pop(i), d an own dict -/
theorem em_dpopK (h : EvM K td G O fun d O1 => ∃ p kvs0, d = .ref p ∧ O1 p = some (.raw (.dK kvs0)) ∧ EvM K ty G O1 fun y O2 => ∃ (kvs : List (Key × V)) (i : Int) (x : Bool), y = .int i ∧ O2 p = some (.raw (.dK kvs)) ∧ valV kvs (.inl i) = some (.bl x) ∧ P (.bl x) (oput O2 p (.raw (.dK (dropK kvs (.inl i)))))) : EvM K (tDPop1 td ty) G O P := fun σ H0 H w s Q q =>
  h σ H0 H w s _ fun x d H1 H1' O1 ⟨p, kvs0, e, hp, z1⟩ s1 w1 r1 => by
    subst e
    obtain rfl := r1.ref_eq
    refine ⟨p, rfl, .inl ⟨kvs0, .inl (own_raw w1 hp).2⟩, z1 σ H1 H1' w1 (s.up s1) _ fun y dy H2 H2' O2 ⟨kvs, i, x, ey, hp2, hv, z2⟩ s2 w2 r2 => ?_⟩
    subst ey
    obtain rfl := r2.int_eq
    obtain ⟨h0, hh⟩ := own_raw w2 hp2
    exact ⟨kvs, .inl i, .bl x, hh, rfl, hv, q _ _ H2 _ _ z2 (s1.trans s2) (w2.put (b := .raw (.dK (dropK kvs (.inl i)))) h0 rfl) (.bl x)⟩
/-- a pure method that may raise -/
theorem ev_methR {PM : List D → Res → Prop} {ns : List Str} {ds es : List D} {r : Res} (h : EvR K E ta G (.val (.ins C ns ds))) (hm : m ∉ ns) (ha : EvA K t G es) (pm : PM (.ins C ns ds :: es) r) : EvR K E (tMeth C m (SpR K PM) [] E ta t) G r := fun σ H0 H e s Q q =>
  h σ H0 H e s _ fun v H1 H1' s1 r1 => by
    obtain ⟨a, dx, fs, rfl, hA, hn, rd⟩ := id r1.ins_out
    refine ⟨a, dx, fs, rfl, s1.c _ _ hA, lookup_none_of rfl (by rw [hn]; exact hm), ha σ H1 H1' s1.c (s.up s1.a) _ fun vs H2 H2' s2 r2 => ?_⟩
    exact ⟨H2, _, r, s2.c, by rw [List.append_nil]; exact .cons (r1.up s2.a) r2, pm, Res.sat_step (s1.trans s2) q⟩
/-! try with two clauses -/
def tTry2 (K : Fg) (c1 c2 : Value) (f : Str) (ie ic iv j : Nat) (sp : Sp) (t : TA) : TS := fun D σ H => tAsg (tCallS sp (WE (wKeep2 K c1 c2 ie (tSeq (tAsg (tVar ie) (gName ic)) (tAsg (tXfK K f (tVar ie)) (gName iv))) (tAsg (tVar ie) (gName ic)) (fun _ _ _ _ => False) D)) t) (gName j) D σ H
theorem sv_try2 {c1 c2 : Value} {ie ic iv j : Nat} {PS : List D → Om → Cn → Prop} (h : EvMA K t G O fun ds O1 => PS ds O1 { rt := fun d O' => N.nx (G.set j (some d)) O', ex := fun cls O' => PySem.W.exmOne K cls c1 = some false ∧ PySem.W.exmOne K cls c2 = some true ∧ ∀ a, O' a = none → N.nx (((G.set ie (some (.ref a))).set ic (some (.ref a))).set ie none) (oput O' a (.raw (ExT cls none a))), ey := fun cls dd O' => PySem.W.exmOne K cls c1 = some true ∧ ∃ C i, cls = .ref C ∧ XfC K C ∧ PySem.W.findIn K (.ref C) f = some none ∧ O' dd = some (.raw (.xd [(f, .int i)])) ∧ ∀ a, O' a = none → N.nx ((((G.set ie (some (.ref a))).set ic (some (.ref a))).set iv (some (.int i))).set ie none) (oput O' a (.raw (ExT cls (some dd) a))) })
    (hl : ie < G.length) (hic : ic ≠ ie) : Sv K E (tTry2 K c1 c2 f ie ic iv j (SpX K PS) t) N G O := fun D σ H0 H w s n =>
  h σ H0 H w s _ fun vs ds H1 H1' O1 p1 s1 w1 r1 => ⟨H1, O1, ds, _, w1, r1, p1, fun d O' v H2 H2' z s2 w2 r2 => n.nx _ O' _ H2 H2' z (s1.trans s2) w2 ((s.up (s1.trans s2)).put r2), fun cls O' H2 H2' ⟨h1, h2, z⟩ s2 w2 => by
    refine ⟨false, h1, (fun z => by cases z), fun _ => ⟨true, h2, fun _ a ha => ?_, fun z => by cases z⟩⟩
    refine ⟨.ref a, List.getElem?_set_self (by rw [s.len]; exact hl), ?_⟩
    have s3 := ((s.up (s1.trans s2)).put (j := ie) (Den.ref a)).put (j := ic) (Den.ref a)
    exact n.nx _ _ _ H2 _ (z a (w2.free ha)) (s1.trans s2) (w2.put (b := .raw (ExT cls none a)) (w2.le.free ha) rfl) s3.drop, fun cls dd O' H2 H2' ⟨h1, C, i, e, T, hno, hdd, z⟩ s2 w2 => by
    subst e
    refine ⟨true, h1, fun _ a ha => ?_, fun z => by cases z⟩
    have hdn : dd ≠ a := fun e => by
      subst e
      have := (own_raw w2 hdd).2
      rw [ha] at this
      cases this
    refine ⟨.ref a, List.getElem?_set_self (by rw [s.len]; exact hl), .ref a, ?_, a, C, dd, [(f, .int i)], .int i, rfl, upd_same, T, hno, by rw [upd_ne hdn]; exact (own_raw w2 hdd).2, ?_, ?_⟩
    · rw [List.getElem?_set_ne hic]
      exact List.getElem?_set_self (by rw [s.len]; exact hl)
    · show ([(f, V.int i)]).lookup f = some (.int i)
      rw [lookup_put, if_pos rfl]
    · have s3 := (((s.up (s1.trans s2)).put (j := ie) (Den.ref a)).put (j := ic) (Den.ref a)).put (j := iv) (Den.int (K := K) i)
      exact n.nx _ _ _ H2 _ (z a (w2.free ha)) (s1.trans s2) (w2.put (b := .raw (ExT (.ref C) (some dd) a)) (w2.le.free ha) rfl) s3.drop⟩
/-- isinstance of a kept exception, with its dict or without -/
theorem em_isXD {a C' : Addr} {dd : Option Addr} {v : V} {cv : Value} {x : Bool} {i : Nat} (hx : G[i]? = some (some (.ref a))) (hO : O a = some (.raw (ExT (.ref C') dd a))) (hd : ∀ q, dd = some q → ∃ fs, O q = some (.raw (.xd fs))) (T : ExcC K C') (hv : ∀ u, RelV v u → u = cv) (hk : PySem.W.kitOne K (.ref C') cv = some x) (z : P (.bl x) O) :
    EvM K (tCB (rIsXD K) (tCons (tVar i) (tCons (tC v) tNil))) G O P := fun σ H0 H w s Q q => by
  obtain ⟨y, h1, h2⟩ := s.has i _ hx
  obtain rfl := h2.ref_eq
  exact ⟨_, h1, a, C', dd, v, cv, x, rfl, (own_raw w hO).2, (fun e he => let ⟨fs, hfs⟩ := hd e he; ⟨fs, (own_raw w hfs).2⟩), T, hv, hk, q (.bl x) (.bl x) H0 H O z (Same.refl _) w (.bl x)⟩
end
section
variable {P : Program} {w : World} {K : Fg} {mg : Str → Option Value} {base : Heap} {x qual : Str} {params : Arguments} {body : List Stmt} {scope : Scope} {f C : Addr}
/-- a method that may raise -/
theorem calM_ex {N ps : List Str} {k : Nat} {sp : Sp} (hm : Meth K C x f) (F : ∃ fd, FunD K x qual params body scope [] [] f fd) (S : FnScope N ps scope) (len : ∀ vs H Q E, sp vs H Q E → vs.length = ps.length)
    (h : ∀ (kV doc pm : Value) (an : Option Addr) (cdv ct : Value) (us : List Value), us.length = ps.length → bindArgs (PySem.W.fnOf x qual params body scope .none kV doc pm an cdv ct) ⟨us, []⟩ = pure (ps.zip us))
    (hbody : ∀ (cdv : Value) (A : Around) (outer : List Env) (s : Shared) (H : Hp) (vs : List V) (Q : VK) (E : XK), Room k (A.deeper (PyProof.Rows.envOfC qual scope s.heap.objs.size f cdv)) → sp vs H Q E →
      ∃ t, PSs (cxOf (L2.CX P w) P w K mg base N qual scope f cdv A outer s H E) body t ∧ t { nx := fun _ H' => Q .non H', rt := Q } (L2.start N vs) H) : CalM P w K mg base C x (k + 1) ps sp := by
  obtain ⟨fd, F⟩ := F
  exact ⟨f, fd, hm, F.ok S len fun cdv A outer s H vs Q E hr hsp => hbody cdv A outer s H vs Q E hr hsp, F.bindsN h⟩
end
section
variable {X : Cx} {k : Nat} {C : Addr} {m : Str} {ps : List Str} {sp : Sp} {E : XK} {apos pos : Pos} {o e : Expr} {es : List Expr} {ta : TE} {t : TA}
theorem pe_mthX {pl : Sem Bool} (M : CalM X.prog X.w X.K X.mg X.base C m k ps sp) (c : Cls X.K C) (hr : Room k X.A) (tk : Takes X (fun cls d _ H => E cls d H)) (he : PE X o ta) (ha : PA X (e :: es) t)
    (hst : starEach (e :: es) X.env = (false, eval e X.env) :: starEach es X.env := by rfl) (hpl : (backTo pos (starEach es X.env)).any (·.1) = false := by rfl)
    (ht : eval (.Call (.Attribute o m apos) (e :: es) [] pos) X.env = (do
      let ov ← eval o X.env; standAt apos.atName; let (f, first) ← holding [ov] (getMethod ov m pl)
      callWith pos f first (backTo pos (starEach (e :: es) X.env)) (backToKw pos (keywordEach [] X.env))) := by rfl) :
    PE X (.Call (.Attribute o m apos) (e :: es) [] pos) (tMeth C m sp [] E ta t) := by
  obtain ⟨f, fd, hm, F, b⟩ := M.ex
  exact pe_meth he c hm F hr b .nil (passes_call tk fun _ _ _ _ h => h) ha hst hpl ht
theorem pe_mthX0 {pl : Sem Bool} (M : CalM X.prog X.w X.K X.mg X.base C m k ps sp) (c : Cls X.K C) (hr : Room k X.A) (tk : Takes X (fun cls d _ H => E cls d H)) (he : PE X o ta)
    (ht : eval (.Call (.Attribute o m apos) [] [] pos) X.env = (do
      let ov ← eval o X.env; standAt apos.atName; let (f, first) ← holding [ov] (getMethod ov m pl)
      callWith pos f first (backTo pos (starEach [] X.env)) (backToKw pos (keywordEach [] X.env))) := by rfl) :
    PE X (.Call (.Attribute o m apos) [] [] pos) (tMeth C m sp [] E ta tNil) := by
  obtain ⟨f, fd, hm, F, b⟩ := M.ex
  exact pe_meth0 he c hm F hr b .nil (passes_call tk fun _ _ _ _ h => h) ht
end
end Pr
/-! Part 5: texts read: split, int of a text, signs; a slot that holds a def. -/
namespace L2
open PySem PySem.Spec PySem.W PySem.Calls PyProof.Rows
theorem call_intS {X : Cx} : CallR X (.type "int") (fun xs H Q => ∃ (a : Str) (n : Int), xs = [.str a] ∧ PySem.intText? a = some n ∧ a.length ≤ 640 ∧ Q (.int n) H) := by
  intro pins s σ H xs us Q I r h
  obtain ⟨a, n, rfl, hn, hl, q⟩ := h
  obtain ⟨u, rfl, t, rfl⟩ := vals1 r
  exact PySem.W.KIN.call_text hn hl ⟨.int n, H, I.tok _, ⟨_, rfl⟩, q⟩
/-- the i-th slot holds one of some defs -/
def tCallV (i : Nat) (S : Addr → Sp → Prop) (t : TA) : TE := fun σ H Q => ∃ f sp, σ[i]? = some (some (.ref f)) ∧ S f sp ∧ t σ H fun vs H1 => sp (vs ++ []) H1 Q fun _ _ _ => False
end L2
namespace Pr
open PySem PySem.Spec L2
section
variable {X : Cx} {k i : Nat} {x : Str} {p pos : Pos} {e : Expr} {es : List Expr} {t : TA}
theorem pe_calV {S : Addr → Sp → Prop} (A : ∀ f sp, S f sp → ∃ y k' ps, k' ≤ k ∧ X.mg y = some (.ref f) ∧ Cal X.prog X.w X.K X.mg X.base y k' ps sp) (hr : Room k X.A) (hN : X.N[i]? = some x) (hv : Vis X.env.scope x) (ha : PA X (e :: es) t)
    (hdb : (x == ("__debug__" : Str)) = false := by decide) (hcd : (x == ("__classdict__" : Str)) = false := by decide)
    (he : starEach (e :: es) X.env = (false, eval e X.env) :: starEach es X.env := by rfl) (hpl : (backTo pos (starEach es X.env)).any (·.1) = false := by rfl) : PE X (.Call (.Name x p) (e :: es) [] pos) (tCallV i S t) := by
  refine ⟨fun pins s σ H Q I h => ?_⟩
  obtain ⟨f, sp, hs, hS, ht⟩ := h
  obtain ⟨y, k', ps, hk, hm, C⟩ := A f sp hS
  obtain ⟨f', fd, hm', kp, F, b, _⟩ := C.ex
  rw [hm] at hm'
  cases hm'
  exact (pe_callL (i := i) (f := f) (sp := sp) (dvs := []) (E := E0) F (hr.mono hk) hN hv kp b .nil passL ha hdb hcd he hpl).run pins s σ H Q I ⟨hs, ht⟩
end
section
variable {K : Fg} {E : XK} {G : Sl} {O : Om} {te : TE} {t : TA} {P : D → Om → Prop}
theorem em_callVM {i : Nat} {S : Addr → Sp → Prop} {f : Addr} {PM : List D → Om → (D → Om → Prop) → Prop} (hi : G[i]? = some (some (.ref f))) (hS : S f (SpM K PM)) (h : EvMA K t G O fun ds O1 => PM ds O1 P) : EvM K (tCallV i S t) G O P := fun σ H0 H w s Q q => by
  obtain ⟨v, hv, rv⟩ := s.has i _ hi
  obtain rfl := rv.ref_eq
  refine ⟨f, _, hv, hS, h σ H0 H w s _ fun vs ds H1 H1' O1 k1 s1 w1 r1 => ?_⟩
  rw [List.append_nil]
  exact ⟨H1, O1, ds, P, w1, r1, k1, fun d O' v H2 H2' k2 s2 w2 r2 => q v d H2 H2' O' k2 (s1.trans s2) w2 r2⟩
theorem em_callVR {i : Nat} {S : Addr → Sp → Prop} {f : Addr} {PR : List D → Res → Prop} (hi : G[i]? = some (some (.ref f))) (hS : S f (SpR K PR)) (h : EvMA K t G O fun ds O1 => ∃ d, PR ds (.val d) ∧ P d O1) : EvM K (tCallV i S t) G O P := fun σ H0 H w s Q q => by
  obtain ⟨v, hv, rv⟩ := s.has i _ hi
  obtain rfl := rv.ref_eq
  refine ⟨f, _, hv, hS, h σ H0 H w s _ fun vs ds H1 H1' O1 ⟨d, k1, k2⟩ s1 w1 r1 => ?_⟩
  rw [List.append_nil]
  exact ⟨H1, ds, .val d, w1.le, r1, k1, fun v H2 H2' st rv => q v d H2 H2' O1 k2 (s1.trans st.a) (w1.step st) rv⟩
abbrev rSplit : V → List V → Hp → VK → Prop := fun x xs H Q => ∃ a b, x = .str a ∧ xs = [.str b] ∧ (b.length == 0) = false ∧ a.length + 2 ≤ sizeLine ∧ rNewStrs (Txt.split a b) H Q
theorem rm_split {a b : Str} (hb : (b.length == 0) = false) (ha : a.length + 2 ≤ 16777216) : RM K E rSplit (.str a) [.str b] (.new ((Txt.split a b).map D.str)) := fun H0 H e x xs r1 r2 Q q => by
  obtain ⟨v, ws, rfl, r3, r4⟩ := r2.cons_out
  obtain rfl := r4.nil_out
  obtain rfl := r3.str_eq
  exact ⟨a, b, r1.str_eq, rfl, hb, by rw [sizeLine_eq]; exact ha, fun p hp => q p _ H0 _ (Stp.own e hp) hp (e.free hp) upd_same (Dens.of_strs _)⟩
theorem RM.lst {r : V → List V → Hp → VK → Prop} {o : D} {as ds : List D} (h : RM K E r o as (.new ds)) : RM K E r o as (.val (.lst ds)) := fun H0 H e x xs r1 r2 Q q => h H0 H e x xs r1 r2 Q (Res.sat_new q)
theorem rc_intS {a : Str} {n : Int} (h : PySem.intText? a = some n) (hl : a.length ≤ 640) : RC K E (fun xs H Q => ∃ (a : Str) (n : Int), xs = [.str a] ∧ PySem.intText? a = some n ∧ a.length ≤ 640 ∧ Q (.int n) H) [.str a] (.val (.int n)) := fun H0 H e xs r Q q => by
  obtain ⟨v, ws, rfl, r1, r2⟩ := r.cons_out
  obtain rfl := r2.nil_out
  obtain rfl := r1.str_eq
  exact ⟨a, n, rfl, h, hl, sat_val e q (.int _)⟩
theorem rc_lenS {y : Str} (h : y.length ≤ 16777216) : RC K E (fun xs H Q => ∃ x n, xs = [x] ∧ LenV K x H n ∧ Q (.int n) H) [.str y] (.val (.int y.length)) := fun H0 H e xs r Q q => by
  obtain ⟨v, ws, rfl, r1, r2⟩ := r.cons_out
  obtain rfl := r2.nil_out
  obtain rfl := r1.str_eq
  exact ⟨_, y.length, rfl, ⟨by rw [sizeLine_eq]; exact h, rfl⟩, sat_val e q (.int _)⟩
theorem rd_ixS {z : Str} {i : Int} {c : Nat} (hz : z.length ≤ 16777216) (h : atI z.cps.toList i = some c) : RD K E rIxS (.str z) (.int i) (.val (.str ⟨#[c]⟩)) := fun H0 H e x y r1 r2 Q q =>
  ⟨z, i, c, r1.str_eq, r2.int_eq, by rw [sizeLine_eq]; exact hz, h, sat_val e q (.str _)⟩
theorem rd_inStr {a b : Str} : RD K E (fun x y H Q => ∃ i j, x = .str i ∧ y = .str j ∧ Q (.bl (!(Builtin.Str.occurrences j i 0 j.length 1).isEmpty)) H) (.str a) (.str b) (.val (.bl (!(Builtin.Str.occurrences b a 0 b.length 1).isEmpty))) := fun H0 H e x y r1 r2 Q q =>
  ⟨a, b, r1.str_eq, r2.str_eq, sat_val e q (.bl _)⟩
def signs (z : Str) : List D := z.cps.toList.map fun c => .str ⟨#[c]⟩
theorem src_str {z : Str} (h : EvR K E0 te G (.val (.str z))) : SrcD K (iStr te) G (signs z) := fun σ H0 H e s R q => h σ H0 H e s _ fun v H1 H1' s1 r1 => by
  refine ⟨z, r1.str_eq, q _ H1 H1' s1 ⟨fun i H v H' => H' = H ∧ ∃ c, z.cps[i]? = some c ∧ v = .str ⟨#[c]⟩, ?_, ?_⟩⟩
  · rw [show (signs z).length = z.cps.size by unfold signs; rw [List.length_map, Array.length_toList]]
    exact walk_str.mono (fun _ _ => trivial) fun _ _ _ _ _ _ y => y
  · rintro i Hc H x H' hi hc h ⟨rfl, c, hcc, rfl⟩
    refine ⟨Hc, .str ⟨#[c]⟩, ?_, Stp.refl h, .str _⟩
    unfold signs
    rw [List.getElem?_map, Array.getElem?_toList, hcc]
    rfl
theorem ev_fmtI {i : Int} (h : EvR K E te G (.val (.int i))) (hi : i.natAbs.log2 < 1920) : EvR K E (tFmt te) G (.val (.str (toString i))) := fun σ H0 H e s Q q =>
  h σ H0 H e s _ fun v H1 H1' s1 r1 => .inr ⟨i, r1.int_eq, hi, q _ H1 H1' s1 (.str _)⟩
end
end Pr
/-! Part 6: xs[lo:hi] = ys. -/
namespace L2
open PySem PySem.Spec PySem.W PySem.Calls PyProof.Rows
/-- the items behind xs[lo:hi] = ys -/
def spl {α : Type} (xs ys : List α) (lo hi : Option Int) : List α := xs.take (HT.sIx xs.length 0 lo) ++ ys ++ xs.drop (max (HT.sIx xs.length 0 lo) (HT.sIx xs.length xs.length hi))
section
variable {s : Shared} {prog : Program} {w : World} {A : Around} {E : Value → Shared → Prop}
set_option maxRecDepth 200000 in
theorem put_cut {l b sl : Addr} {its new : List Value} {n m : Nat} {vl vu : Value} {lo hi : Option Int} {Q : Unit → Shared → Prop}
    (e : s.heap.get? l = some { cls := .type "list", data := .seq its.toArray n }) (e2 : s.heap.get? b = some { cls := .type "list", data := .seq new.toArray m }) (hne : l ≠ b)
    (hs : s.heap.IsSliceOf sl vl vu .none) (pl : IsPart vl lo) (pu : IsPart vu hi) (hz : its.length + new.length ≤ sizeLine)
    (h : Q () { s with heap := s.heap.update l (Obj.mapSeq fun xs => xs.extract 0 (HT.sIx its.length 0 lo) ++ new.toArray ++ xs.extract (max (HT.sIx its.length 0 lo) (HT.sIx its.length its.length hi)) xs.size) }) :
    wpAny (model prog w) A (setItem (Value.ref l) (Value.ref sl) (Value.ref b)) Q E s := by
  have hl : s.heap.IsList l its.toArray := PySem.IsL.isList e
  have hb : s.heap.IsList b new.toArray := PySem.IsL.isList e2
  obtain ⟨os, ho, hc, hd⟩ := id hs
  have ht : s.TypeIs (.ref sl) "slice" := ⟨os, ho, hc⟩
  have hno : Builtin.List.listSameRef (.ref l) (.ref b) = false := beq_eq_false_iff_ne.mpr hne
  obtain ⟨b1, b2, b3⟩ := slice_bounds lo hi its.length
  have hbd : sliceBounds lo hi none its.length = (((HT.sIx its.length 0 lo : Nat) : Int), ((HT.sIx its.length its.length hi : Nat) : Int), (1 : Int)) := Prod.ext b1 (Prod.ext b2 b3)
  generalize HT.sIx its.length 0 lo = a at hbd h
  generalize HT.sIx its.length its.length hi = c at hbd h
  have hb2 : sliceBounds lo hi none its.toArray.size = ((a : Int), (c : Int), (1 : Int)) := hbd
  have hmx : (max (a : Int) (c : Int)).toNat = max a c := by omega
  have hz2 : ((fun xs : Array Value => xs.extract 0 a ++ new.toArray ++ xs.extract (max a c) xs.size) its.toArray).size ≤ sizeLine + 1 := by
    simp only [Array.size_append, Array.size_extract, List.size_toArray]
    omega
  unfold setItem; try with_reducible refine wpAny_holding ?_
  (first | refine wpAny_bind (wpAny_pure ?_) | skip); refine wpAny_bind (wpAny_sequenceKey hl.typeIs (by decide) ?_)
  refine wpAny_bind (wpAny_callSpecial?_slot (name := Str.ofString "__setitem__") hl.typeIs slot_list_setitem (wpAny_call_entry slot_list_setitem hl.typeIs entry_list_setitem ?_ (args_list_setitem _ _ _)))
  show wpAny _ _ (Builtin.List.listSubscript? (.ref sl) >>= _) _ _ s; refine wpAny_bind ?_
  unfold Builtin.List.listSubscript?; refine wpAny_bind (wpAny_specialOf ht slice_no_index ?_)
  simp only [Option.isNone_none, if_true]; refine wpAny_pure ?_
  show wpAny _ _ (typeOf (.ref sl) >>= _) _ _ s; refine wpAny_bind (wpAny_typeOf ht ?_)
  first | rw [if_neg (by decide)] | refine PySem.W.KFB.if_not (by decide) ?_
  rw [listSliceParts_eq]; refine wpAny_bind (wpAny_bind (wpAny_field ho hd (x := .none) rfl (wpAny_bind (wpAny_listPart .none ?_))))
  rw [if_neg (show ¬ ((rawPart none == rawInt 0) = true) from Bool.false_ne_true)]
  refine wpAny_bind (wpAny_field ho hd (x := vl) rfl (wpAny_bind (wpAny_listPart pl ?_)))
  refine wpAny_bind (wpAny_field ho hd (x := vu) rfl (wpAny_bind (wpAny_listPart pu (wpAny_pure ?_))))
  first
    | simp only [hno, Bool.false_eq_true, if_false]
    | refine PySem.W.KFB.if_not hno ?_
    | (dsimp only; rw [if_neg (by rw [hno]; exact Bool.false_ne_true)])
  refine wpAny_bind (m := Builtin.List.listAllItems (.ref b) _) ?_
  unfold Builtin.List.listAllItems; refine wpAny_bind (wpAny_typeOf hb.typeIs ?_)
  first | refine PySem.W.KFB.if_so (by decide) ?_ | rw [if_pos (by decide)]
  unfold Builtin.List.listItems; refine wpAny_bind (wpAny_seqItems e2 rfl (wpAny_pure ?_))
  refine wpAny_bind (wpAny_bind (wpAny_seqItems e rfl (wpAny_pure ?_))); refine wpAny_bind (wpAny_of_eq ((sliceIndices_raw lo hi none its.toArray.size (by simp)).trans (congrArg (pure : Int × Int × Int → Sem (Int × Int × Int)) hb2)) ?_)
  show wpAny _ _ (if ((1 : Int) == 1) = true then _ else _) _ _ s; rw [if_pos (by decide)]; refine wpAny_bind (wpAny_rule ?_)
  first
    | simp only [notLongL (show its.toArray.size + new.toArray.size ≤ sizeLine from hz), Bool.false_eq_true, if_false]
    | refine PySem.W.KFB.if_not (notLongL (show its.toArray.size + new.toArray.size ≤ sizeLine from hz)) ?_
  (first | refine wpAny_bind (wpAny_pure ?_) | skip); show wpAny _ _ (updateSeq l (fun xs => xs.extract 0 ((a : Int)).toNat ++ new.toArray ++ xs.extract (max (a : Int) (c : Int)).toNat xs.size) >>= _) _ _ s
  rw [hmx, Int.toNat_natCast]
  refine wpAny_bind (wpAny_updateSeq (hz := Nat.le_trans (Nat.le_add_right _ _) hz) (_hz' := hz2) e rfl ?_)
  refine wpAny_bind (wpAny_letGo ?_); first | exact wpAny_bind (wpAny_pure (wpAny_pure ⟨.none, rfl, wpAny_pure h⟩)) | exact wpAny_pure ⟨.none, rfl, wpAny_pure h⟩
end
section
variable {X : Cx} {o : Expr} {to : TE} {lo hi : Option Expr} {tl th : TO} {pos p2 : Pos}
def gSl (to : TE) (tl th : TO) : TG := fun v σ H Q => to σ H fun x H1 => tl σ H1 fun l H2 => th σ H2 fun u H3 => ∃ p b xs ys, x = .ref p ∧ v = .ref b ∧ p ≠ b ∧ H3 p = some (.lst xs) ∧ H3 b = some (.lst ys) ∧ xs.length + ys.length ≤ sizeLine ∧ Q σ (upd H3 p (.lst (spl xs ys l u)))
theorem pg_sl (ho : PE X o to) (hl : PO X lo tl) (hu : PO X hi th)
    (ha : ∀ v, assign (.Subscript o (.Slice lo hi none p2) pos) X.env v = (do let x ← holding [v] (eval o X.env); let y ← holding [v, x] (eval (.Slice lo hi none p2) X.env); standAt pos; holding [v, x, y] (setItem x y v); release [y, v, x] []) := by intro _; rfl) : PG X (.Subscript o (.Slice lo hi none p2) pos) (gSl to tl th) := by
  refine ⟨fun pins s σ H v u Q I r h => ?_⟩; rw [ha]
  refine wpAny_bind (wpAny_holding (thn (ho.run pins s σ H _ I h) fun a s1 ⟨x, H1, I1, r1, q1⟩ => ?_))
  refine wpAny_bind (wpAny_holding (wpAny_Slice (thn (hl.run pins s1 σ H1 _ I1 q1) fun vl s2 ⟨l, H2, I2, pl, q2⟩ => thn (hu.run pins s2 σ H2 _ I2 q2) fun vu s3 ⟨w, H3, I3, pu, q3⟩ => ?_)))
  rw [evalPart_none]
  refine wpAny_pure ?_
  have J4 : Inv X pins σ H3 { s3 with heap := s3.heap.push { cls := .type "slice", data := .fields #[vl, vu, .none] } } := I3.kept (t' := s3.toks) fun j ob q => Heap.get?_push_of_some _ q
  obtain ⟨p, b, xs, ys, rfl, rfl, hne, hp, hb, hz, q⟩ := q3
  cases r1
  cases r
  obtain ⟨z, its, n, r, hn, e⟩ := J4.lstM hp
  obtain ⟨z2, jts, m, r2, hm, e2⟩ := J4.lstM hb
  refine wpAny_bind (wpAny_standAt (wpAny_bind (wpAny_holding (put_cut e e2 hne (Heap.IsSliceOf.new ..) pl pu (by omega) ?_))))
  refine wpAny_release ⟨σ, _, J4.lset (its' := spl its jts l w) (t' := s3.toks) hp e ?_ ?_ ?_, q⟩
  · exact splice_eq its jts _ _
  · unfold spl
    rw [hn]
    exact Vals.append (Vals.append (r.take _) r2) (r.drop _)
  · unfold spl
    rw [List.length_append, List.length_append, List.length_take, List.length_drop]
    omega
end
end L2
namespace Pr
open PySem PySem.Spec L2
section
variable {K : Fg} {E : XK} {N : En} {G : Sl} {O : Om} {te to : TE} {tl th : TO}
theorem Dens.spl {H : Hp} {vs ws : List V} {ds es : List D} (r : Dens K H vs ds) (t : Dens K H ws es) (lo hi : Option Int) : Dens K H (L2.spl vs ws lo hi) (L2.spl ds es lo hi) := by
  unfold L2.spl
  rw [r.length]
  exact ((r.take _).append t).append (r.drop _)
theorem sv_setSl {lo hi : Option Int} {p : Addr} (ho : EvR K E0 to G (.val (.ref p))) (h1 : EvO K tl G lo) (h2 : EvO K th G hi) (h : EvM K te G O fun e O1 => ∃ (b : Addr) (ds es : List D), e = .ref b ∧ p ≠ b ∧ O1 p = some (.lst ds) ∧ O1 b = some (.lst es) ∧ ds.length + es.length ≤ 100000 ∧ N.nx G (oput O1 p (.lst (L2.spl ds es lo hi)))) :
    Sv K E (tAsg te (gSl to tl th)) N G O := fun D σ H0 H w s n => h σ H0 H w s _ fun v e H1 H1' O1 ⟨b, ds, es, eb, hne, hp, hb, hz, k1⟩ s1 w1 r1 => by
  subst eb
  obtain rfl := r1.ref_eq
  refine ho σ H1 H1' w1.le (s.up s1) _ fun x H2 H2' t2 r2 => ?_
  obtain rfl := r2.ref_eq
  have w2 := w1.step t2
  refine h1 σ H2 H2' t2.c (s.up (s1.trans t2.a)) _ fun H3 H3' t3 => ?_
  have w3 := w2.step t3
  refine h2 σ H3 H3' t3.c (s.up ((s1.trans t2.a).trans t3.a)) _ fun H4 H4' t4 => ?_
  have w4 := w3.step t4
  obtain ⟨p0, o, hpo, vs, rfl, rv⟩ := w4.own p _ hp
  obtain ⟨b0, o2, hbo, ws, rfl, rw2⟩ := w4.own b _ hb
  refine ⟨p, b, vs, ws, rfl, rfl, hne, hpo, hbo, by rw [rv.length, rw2.length]; exact Nat.le_trans hz (by decide), ?_⟩
  exact n.nx G _ σ H4 _ k1 (((s1.trans t2.a).trans t3.a).trans t4.a) (w4.put (b := .lst (L2.spl ds es lo hi)) p0 ⟨_, rfl, rv.spl rw2 lo hi⟩) (s.up (((s1.trans t2.a).trans t3.a).trans t4.a))
end
end Pr
/-! Part 7: own lists of own lists (trees): told anew, frozen, turned; defs whose results are told anew. -/
namespace Pr
open PySem PySem.Spec L2
/-! ### data without lists -/
mutual
def nlD : D → Bool
  | .tup ds => nlDs ds
  | .non => true
  | .bl _ => true
  | .int _ => true
  | .str _ => true
  | .lst _ => false
  | .ins _ _ _ => false
  | .scr _ => false
  | .dic _ => false
  | .ref _ => false
  | .ty _ => false
def nlDs : List D → Bool
  | [] => true
  | d :: ds => nlD d && nlDs ds
end
theorem nl_nr {d : D} (h : nlD d = true) : nrD d = true := by
  cases d with
  | non => rfl
  | bl b => rfl
  | int b => rfl
  | str b => rfl
  | tup ds => rfl
  | _ => unfold nlD at h; cases h
theorem nl_isL {d : D} (h : nlD d = true) : isL d = false := by
  cases d with
  | non => rfl
  | bl b => rfl
  | int b => rfl
  | str b => rfl
  | tup ds => rfl
  | _ => unfold nlD at h; cases h
theorem nlDs_mem : ∀ {ds : List D}, nlDs ds = true → ∀ d ∈ ds, nlD d = true
  | [], _, d, hd => by cases hd
  | e :: ds, h, d, hd => by
    unfold nlDs at h
    obtain ⟨h1, h2⟩ := (Bool.and_eq_true _ _).mp h
    rcases List.mem_cons.mp hd with rfl | hd
    · exact h1
    · exact nlDs_mem h2 d hd
theorem nlDs_of : ∀ {ds : List D}, (∀ d ∈ ds, nlD d = true) → nlDs ds = true
  | [], _ => by unfold nlDs; rfl
  | e :: ds, h => by
    unfold nlDs
    rw [h e List.mem_cons_self, nlDs_of fun d hd => h d (List.mem_cons_of_mem _ hd)]
    rfl
theorem nl_iL (xs : List Int) : nlDs (iL xs) = true := nlDs_of fun d hd => by
  obtain ⟨x, _, rfl⟩ := List.mem_map.mp hd
  unfold nlD
  rfl
theorem nl_sL (xs : List Str) : nlDs (sL xs) = true := nlDs_of fun d hd => by
  obtain ⟨x, _, rfl⟩ := List.mem_map.mp hd
  unfold nlD
  rfl
/-! ### what an own tree, its lists in S, tells -/
inductive Cont (O : Om) (S : Addr → Prop) : Nat → D → D → Prop
  | atom {n : Nat} {d : D} : nlD d = true → Cont O S n d d
  | lst {n : Nat} {p : Addr} {xs ds : List D} : S p → O p = some (.lst xs) → xs.length = ds.length → xs.length ≤ 50000 → (∀ (i : Nat) (x d : D), xs[i]? = some x → ds[i]? = some d → Cont O S n x d) → Cont O S (n + 1) (.ref p) (.lst ds)
theorem Cont.mono {O O' : Om} {S S' : Addr → Prop} (hO : ∀ p xs, S p → O p = some (.lst xs) → O' p = some (.lst xs)) (hS : ∀ p, S p → S' p) {n : Nat} {x d : D} (h : Cont O S n x d) : ∀ {n' : Nat}, n ≤ n' → Cont O' S' n' x d := by
  induction h with
  | atom a => exact fun _ => .atom a
  | lst sp hp hl h5 _ ih =>
    intro n' hn
    obtain ⟨k, rfl⟩ : ∃ k, n' = k + 1 := ⟨n' - 1, by omega⟩
    exact .lst (hS _ sp) (hO _ _ sp hp) hl h5 fun i x d a b => ih i x d a b (by omega)
/-- a tree told anew -/
structure Frs (O O' : Om) (S : Addr → Prop) (n : Nat) (x d : D) : Prop where
  le : OLe O O'
  fr : ∀ q, S q → O q = none
  bag : ∀ q, S q → ∃ xs, O' q = some (.lst xs)
  con : Cont O' S n x d
structure FrsL (O O' : Om) (S : Addr → Prop) (n : Nat) (xs ds : List D) : Prop where
  le : OLe O O'
  fr : ∀ q, S q → O q = none
  bag : ∀ q, S q → ∃ xs, O' q = some (.lst xs)
  len : xs.length = ds.length
  con : ∀ (i : Nat) (x d : D), xs[i]? = some x → ds[i]? = some d → Cont O' S n x d
theorem ole_none {O O1 : Om} (h : OLe O O1) {q : Addr} (e : O1 q = none) : O q = none := by
  cases z : O q with
  | none => rfl
  | some b => rw [h q b z] at e; cases e
section
variable {O O1 O2 : Om} {S S' : Addr → Prop} {n : Nat} {x d : D} {xs ys ds es : List D} {p : Addr}
theorem Frs.mono {n' : Nat} (a : Frs O O1 S n x d) (h : n ≤ n') : Frs O O1 S n' x d := ⟨a.le, a.fr, a.bag, a.con.mono (fun _ _ _ e => e) (fun _ e => e) h⟩
theorem Frs.atom (h : nlD d = true) : Frs O O (fun _ => False) n d d := ⟨OLe.refl _, fun _ e => e.elim, fun _ e => e.elim, .atom h⟩
theorem FrsL.nil : FrsL O O (fun _ => False) n [] [] := ⟨OLe.refl _, fun _ e => e.elim, fun _ e => e.elim, rfl, fun i x d e => by simp at e⟩
theorem FrsL.atoms (h : nlDs ds = true) : FrsL O O (fun _ => False) n ds ds := ⟨OLe.refl _, fun _ e => e.elim, fun _ e => e.elim, rfl, fun i x d e e2 => by
  rw [e] at e2
  cases e2
  exact .atom (nlDs_mem h x (List.mem_of_getElem? e))⟩
theorem FrsL.up (a : FrsL O O1 S n xs ds) (l : OLe O1 O2) : FrsL O O2 S n xs ds := ⟨a.le.trans l, a.fr, fun q hq => let ⟨zs, hz⟩ := a.bag q hq; ⟨zs, l _ _ hz⟩, a.len, fun i x d h1 h2 => (a.con i x d h1 h2).mono (fun p zs _ e => l _ _ e) (fun _ e => e) (Nat.le_refl _)⟩
theorem FrsL.dn (a : FrsL O1 O2 S n xs ds) (l : OLe O O1) : FrsL O O2 S n xs ds := ⟨l.trans a.le, fun q hq => ole_none l (a.fr q hq), a.bag, a.len, a.con⟩
theorem FrsL.cat (a : FrsL O O2 S n xs ds) (b : FrsL O O2 S' n ys es) : FrsL O O2 (fun q => S q ∨ S' q) n (xs ++ ys) (ds ++ es) := by
  refine ⟨a.le, fun q hq => hq.elim (a.fr q) (b.fr q), fun q hq => hq.elim (a.bag q) (b.bag q), by rw [List.length_append, List.length_append, a.len, b.len], fun i x d h1 h2 => ?_⟩
  by_cases hi : i < xs.length
  · rw [List.getElem?_append_left hi] at h1
    rw [List.getElem?_append_left (by rw [← a.len]; exact hi)] at h2
    exact (a.con i x d h1 h2).mono (fun p zs _ e => e) (fun _ e => .inl e) (Nat.le_refl _)
  · rw [List.getElem?_append_right (by omega)] at h1
    rw [List.getElem?_append_right (by rw [← a.len]; omega), ← a.len] at h2
    exact (b.con _ x d h1 h2).mono (fun p zs _ e => e) (fun _ e => .inr e) (Nat.le_refl _)
theorem FrsL.append (a : FrsL O O1 S n xs ds) (b : FrsL O1 O2 S' n ys es) : FrsL O O2 (fun q => S q ∨ S' q) n (xs ++ ys) (ds ++ es) := (a.up b.le).cat (b.dn a.le)
theorem Frs.one (a : Frs O O1 S n x d) : FrsL O O1 S n [x] [d] := ⟨a.le, a.fr, a.bag, rfl, fun i y e h1 h2 => by
  cases i with
  | zero =>
    obtain rfl := Option.some.inj h1
    obtain rfl := Option.some.inj h2
    exact a.con
  | succ i => simp at h1⟩
theorem FrsL.cons (a : Frs O O1 S n x d) (b : FrsL O1 O2 S' n xs ds) : FrsL O O2 (fun q => S q ∨ S' q) n (x :: xs) (d :: ds) := a.one.append b
theorem FrsL.lst (a : FrsL O O1 S n xs ds) (hp : O1 p = none) (hl : xs.length ≤ 50000) : Frs O (oput O1 p (.lst xs)) (fun q => S q ∨ q = p) (n + 1) (.ref p) (.lst ds) := by
  have l2 : OLe O1 (oput O1 p (.lst xs)) := OLe.new hp
  refine ⟨a.le.trans l2, fun q hq => ?_, fun q hq => ?_, .lst (.inr rfl) oput_same a.len hl fun i x d h1 h2 => (a.con i x d h1 h2).mono (fun p zs _ e => l2 _ _ e) (fun _ e => .inl e) (Nat.le_refl _)⟩
  · rcases hq with hq | rfl
    · exact a.fr q hq
    · exact ole_none a.le hp
  · rcases hq with hq | rfl
    · obtain ⟨zs, hz⟩ := a.bag q hq
      exact ⟨zs, l2 _ _ hz⟩
    · exact ⟨xs, oput_same⟩
theorem Frs.leaf (h : nlDs ds = true) (hp : O p = none) (hl : ds.length ≤ 50000) : Frs O (oput O p (.lst ds)) (fun q => False ∨ q = p) (n + 1) (.ref p) (.lst ds) := (FrsL.atoms h).lst hp hl
theorem Frs.out (a : Frs O O1 S (n + 1) (.ref p) (.lst ds)) : ∃ xs, O1 p = some (.lst xs) ∧ FrsL O O1 S n xs ds := by
  cases a.con with
  | lst sp hp hl h5 h => exact ⟨_, hp, a.le, a.fr, a.bag, hl, h⟩
theorem Frs.ref {x : D} (a : Frs O O1 S (n + 1) x (.lst ds)) : ∃ p, x = .ref p := by
  cases a.con with
  | atom h => unfold nlD at h; cases h
  | lst sp hp hl h5 h => exact ⟨_, rfl⟩
end
/-! ### a tree that is changed no more -/
theorem Dens.conv {K : Fg} {H H' : Hp} : ∀ {vs : List V} {xs ds : List D}, Dens K H vs xs → xs.length = ds.length → (∀ (i : Nat) (x d : D), xs[i]? = some x → ds[i]? = some d → ∀ v, Den K H v x → Den K H' v d) → Dens K H' vs ds
  | _, _, [], .nil, _, _ => .nil
  | _, _, _ :: _, .nil, h, _ => by cases h
  | _, _, [], .cons _ _, h, _ => by cases h
  | _, _, _ :: _, .cons h t, hl, f => .cons (f 0 _ _ rfl rfl _ h) (Dens.conv t (by simpa using hl) fun i x d a b => f (i + 1) x d (by simpa using a) (by simpa using b))
open Classical in
noncomputable def dropS (O : Om) (S : Addr → Prop) : Om := fun q => if S q then none else O q
open Classical in
theorem Wd.freezeS {K : Fg} {H0 H : Hp} {O : Om} {S : Addr → Prop} (w : Wd K H0 H O) (hS : ∀ q, S q → ∃ xs, O q = some (.lst xs)) : ∃ H1, Same H0 H1 ∧ Wd K H1 H (dropS O S) ∧ ∀ (n : Nat) (x d : D), Cont O S n x d → ∀ v, Den K H0 v x → Den K H1 v d := by
  have s1 : Same H0 (fun q => if S q then H q else H0 q) := fun q o e => by
    by_cases h : S q
    · obtain ⟨xs, hx⟩ := hS q h
      obtain ⟨z, _⟩ := w.own q _ hx
      rw [z] at e
      cases e
    · show (if S q then H q else H0 q) = some o
      rw [if_neg h]
      exact e
  refine ⟨fun q => if S q then H q else H0 q, s1, ⟨fun q o e => ?_, fun q b e => ?_⟩, fun n x d c => ?_⟩
  · have e : (if S q then H q else H0 q) = some o := e
    by_cases h : S q
    · rw [if_pos h] at e; exact e
    · rw [if_neg h] at e; exact w.le _ _ e
  · unfold dropS at e
    by_cases h : S q
    · rw [if_pos h] at e; cases e
    · rw [if_neg h] at e
      obtain ⟨z, o, ho, r⟩ := w.own q b e
      exact ⟨by show (if S q then H q else H0 q) = none; rw [if_neg h]; exact z, o, ho, r.up s1⟩
  · induction c with
    | atom h => exact fun v r => r.up s1
    | lst sp hp hl h5 _ ih =>
      intro v r
      obtain rfl := r.ref_eq
      obtain ⟨z, o, ho, vs, rfl, rv⟩ := w.own _ _ hp
      exact .lst (by show (if S _ then H _ else H0 _) = _; rw [if_pos sp]; exact ho) (rv.conv hl fun i x d a b v r => ih i x d a b v r)
theorem drop_le {O O' : Om} {S : Addr → Prop} (l : OLe O O') (h : ∀ q, S q → O q = none) : OLe O (dropS O' S) := fun q b e => by
  unfold dropS
  rw [if_neg (fun s => by rw [h q s] at e; cases e)]
  exact l q b e
/-! ### defs whose results are told anew -/
def FrK (Pc : List D → Nat → D → Prop) : List D → Om → (D → Om → Prop) → Prop := fun ds O k => ∃ (n : Nat) (d : D), Pc ds n d ∧ ∀ (x : D) (O' : Om) (S : Addr → Prop), Frs O O' S n x d → k x O'
section
variable {K : Fg} {E E' : XK} {G : Sl} {O : Om} {ta tb te to : TE} {t : TA} {P : D → Om → Prop} {Pc : List D → Nat → D → Prop} {ds es : List D} {n : Nat} {d : D}
theorem fr_end {H1 H1' : Hp} {Q : VK} (e : Same H1 H1') (q : ∀ v H2 H', Stp H1 H1' H2 H' → Den K H2 v d → Q v H') : ∀ (d' : D) (O' : Om) (v : V) (H0' H' : Hp), (∃ S, Frs (rawOm H1 H1') O' S n d' d) → Same H1 H0' → Wd K H0' H' O' → Den K H0' v d' → Q v H' := by
  rintro d' O' v H2 H' ⟨S, f⟩ s2 w2 r2
  obtain ⟨H3, s3, w3, c3⟩ := w2.freezeS f.bag
  exact q v H3 H' (stp_raw e (s2.trans s3) w3 (drop_le f.le f.fr)) (c3 _ _ _ f.con v r2)
/-- a call, read as data -/
theorem ev_callF (h : EvA K t G es) (p : Pc es n d) : EvR K E (tCall (SpM K (FrK Pc)) [] E' t) G (.val d) := fun σ H0 H e s Q q =>
  h σ H0 H e s _ fun vs H1 H1' s1 r1 => ⟨H1, rawOm H1 H1', es, fun x O' => ∃ S, Frs (rawOm H1 H1') O' S n x d, Wd.raw s1.c, by rw [List.append_nil]; exact r1, ⟨n, d, p, fun x O' S f => ⟨S, f⟩⟩, fr_end s1.c fun v H2 H' st r => q v H2 H' (s1.trans st) r⟩
theorem ev_methF {C : Addr} {m : Str} {ns : List Str} (h : EvR K E ta G (.val (.ins C ns ds))) (hm : m ∉ ns) (ha : EvA K t G es) (p : Pc (.ins C ns ds :: es) n d) : EvR K E (tMeth C m (SpM K (FrK Pc)) [] E' ta t) G (.val d) := fun σ H0 H e s Q q =>
  h σ H0 H e s _ fun v H1 H1' s1 r1 => by
    obtain ⟨a, dx, fs, rfl, hA, hn, rd⟩ := id r1.ins_out
    refine ⟨a, dx, fs, rfl, s1.c _ _ hA, lookup_none_of rfl (by rw [hn]; exact hm), ha σ H1 H1' s1.c (s.up s1.a) _ fun vs H2 H2' s2 r2 => ?_⟩
    exact ⟨H2, rawOm H2 H2', _, fun x O' => ∃ S, Frs (rawOm H2 H2') O' S n x d, Wd.raw s2.c, by rw [List.append_nil]; exact .cons (r1.up s2.a) r2, ⟨n, d, p, fun x O' S f => ⟨S, f⟩⟩, fr_end s2.c fun v H3 H' st r => q v H3 H' ((s1.trans s2).trans st) r⟩
/-- a method of an instance that is data, its result told anew -/
theorem em_methF {C : Addr} {m : Str} {ns : List Str} (h : EvR K E0 ta G (.val (.ins C ns ds))) (hm : m ∉ ns) (ha : EvA K t G es) (p : Pc (.ins C ns ds :: es) n d) (k : ∀ x O' S, Frs O O' S n x d → P x O') : EvM K (tMeth C m (SpM K (FrK Pc)) [] E' ta t) G O P := fun σ H0 H w s Q q =>
  h σ H0 H w.le s _ fun v H1 H1' s1 r1 => by
    obtain ⟨a, dx, fs, rfl, hA, hn, rd⟩ := id r1.ins_out
    refine ⟨a, dx, fs, rfl, s1.c _ _ hA, lookup_none_of rfl (by rw [hn]; exact hm), ha σ H1 H1' s1.c (s.up s1.a) _ fun vs H2 H2' s2 r2 => ?_⟩
    exact ⟨H2, O, _, P, (w.step s1).step s2, by rw [List.append_nil]; exact .cons (r1.up s2.a) r2, ⟨n, d, p, k⟩, fun d' O' v H3 H' k3 s3 w3 r3 => q v d' H3 H' O' k3 ((s1.trans s2).a.trans s3) w3 r3⟩
theorem em_callF (h : EvA K t G es) (p : Pc es n d) (k : ∀ x O' S, Frs O O' S n x d → P x O') : EvM K (tCall (SpM K (FrK Pc)) [] E' t) G O P := em_call (ma_val h ⟨n, d, p, k⟩)
theorem em_newF {ds : List D} (h : EvR K E0 te G (.new ds)) (hn : nlDs ds = true) (hl : ds.length ≤ 50000) (k : ∀ x O' S, Frs O O' S (n + 1) x (.lst ds) → P x O') : EvM K te G O P := em_new h fun p hp => k _ _ _ (Frs.leaf hn hp hl)
theorem em_atomF (h : EvR K E0 te G (.val d)) (hn : nlD d = true) (k : ∀ x O' S, Frs O O' S n x d → P x O') : EvM K te G O P := em_val h (k _ _ _ (Frs.atom hn))
/-- items one behind the other -/
theorem ma_nilF {PA : List D → Om → Prop} (k : ∀ xs O' S, FrsL O O' S n xs [] → PA xs O') : EvMA K tNil G O PA := ma_nil (k _ _ _ FrsL.nil)
theorem ma_consF {tr : TA} {PA : List D → Om → Prop} (h : ∀ {PD : D → Om → Prop}, (∀ x O' S, Frs O O' S n x d → PD x O') → EvM K ta G O PD) (hr : ∀ {O1 : Om} {PB : List D → Om → Prop}, (∀ xs O' S, FrsL O1 O' S n xs ds → PB xs O') → EvMA K tr G O1 PB) (k : ∀ xs O' S, FrsL O O' S n xs (d :: ds) → PA xs O') : EvMA K (tCons ta tr) G O PA :=
  ma_cons (h fun x O1 S f => hr fun xs O2 S' g => k _ _ _ (FrsL.cons f g))
theorem em_lstF (h : ∀ {PA : List D → Om → Prop}, (∀ xs O' S, FrsL O O' S n xs ds → PA xs O') → EvMA K t G O PA) (hl : ds.length ≤ 50000) (k : ∀ x O' S, Frs O O' S (n + 1) x (.lst ds) → P x O') : EvM K (tLst t) G O P :=
  em_lst (h fun xs O' S f => ⟨by rw [f.len]; omega, fun p hp => k _ _ _ (f.lst hp (by rw [f.len]; exact hl))⟩)
/-- a comprehension whose items are told anew -/
theorem em_lcF {wi : TI} {g : TG} {ws : List Nat} {ds : List D} {Gd : D → Sl} {h : D → D} (hs : SrcD K wi G ds) (hg : ∀ d ∈ ds, TgD K g d (wipeD G ws) (Gd d) ws) (he : ∀ d ∈ ds, ∀ {O1 : Om} {PD : D → Om → Prop}, (∀ x O' S, Frs O1 O' S n x (h d) → PD x O') → EvM K te (Gd d) O1 PD) (hl : ds.length ≤ 50000)
    (k : ∀ x O' S, Frs O O' S (n + 1) x (.lst (ds.map h)) → P x O') : EvM K (tLc wi g tYes te ws) G O P := by
  refine em_lc (src_m hs ⟨by omega, Gd, fun p i acc O2 => ∃ O3 S, O3 p = none ∧ FrsL O O3 S n acc ((ds.take i).map h) ∧ O2 = oput O3 p (.lst acc), hg, fun p hp => ⟨O, _, hp, by rw [List.take_zero]; exact FrsL.nil, rfl⟩, ?_, ?_⟩)
  · rintro p i d acc O2 hp hd ⟨O3, S, h3, f, rfl⟩ _
    have hm : d ∈ ds := List.mem_of_getElem? hd
    refine he d hm fun x O4 S4 f4 => ?_
    have h4 : O4 p = some (.lst acc) := f4.le _ _ oput_same
    have l3 : OLe O3 (odrop O4 p) := fun q b e => by
      have hq : q ≠ p := fun z => by rw [z, h3] at e; cases e
      unfold odrop
      rw [if_neg hq]
      exact f4.le _ _ (by rw [oput_ne hq]; exact e)
    have hS : ∀ q, S4 q → q ≠ p := fun q hq z => by
      have := f4.fr q hq
      rw [z, oput_same] at this
      cases this
    have f5 : Frs O3 (odrop O4 p) S4 n x (h d) := by
      refine ⟨l3, fun q hq => ?_, fun q hq => ?_, f4.con.mono (fun q zs sq e => ?_) (fun _ e => e) (Nat.le_refl _)⟩
      · have := f4.fr q hq
        rw [oput_ne (hS q hq)] at this
        exact this
      · unfold odrop
        rw [if_neg (hS q hq)]
        exact f4.bag q hq
      · unfold odrop
        rw [if_neg (hS q sq)]
        exact e
    refine ⟨h4, odrop O4 p, _, by unfold odrop; rw [if_pos rfl], by rw [List.take_add_one, hd, List.map_append]; exact f.append f5.one, ?_⟩
    funext q
    unfold oput odrop
    by_cases z : q = p
    · rw [if_pos z, if_pos z]
    · rw [if_neg z, if_neg z, if_neg z]
  · rintro p acc O2 hp _ _ ⟨O3, S, h3, f, rfl⟩
    rw [List.take_length] at f
    exact k _ _ _ (f.lst h3 (by rw [f.len, List.length_map]; exact hl))
/-! ### own lists read -/
theorem em_isO {t : TA} (h : EvMA K t G O fun ds O1 => ∃ p xs, ds = [.ref p, .ty "list"] ∧ O1 p = some (.lst xs) ∧ P (.bl true) O1) : EvM K (tCB (rIsi K) t) G O P := fun σ H0 H w s Q q =>
  h σ H0 H w s _ fun vs ds H1 H1' O1 ⟨p, xs, e, hp, k⟩ s1 w1 r1 => by
    subst e
    obtain ⟨v, ws, rfl, ra, rb⟩ := r1.cons_out
    obtain ⟨u, ws, rfl, rc, rd⟩ := rb.cons_out
    obtain rfl := rd.nil_out
    obtain rfl := ra.ref_eq
    obtain ⟨h0, o, ho, us, rfl, _⟩ := w1.own p _ hp
    have hu : u = .ty "list" := by cases rc; rfl
    subst hu
    exact ⟨.ref p, .ty "list", .type "list", .type "list", true, rfl, .ty _, .base (.lst ho), kit_ty (by decide), q _ (.bl true) H1 H1' O1 k s1 w1 (.bl true)⟩
theorem em_listO (h : EvM K to G O fun d O1 => ∃ p ds, d = .ref p ∧ O1 p = some (.lst ds) ∧ ∀ q, O1 q = none → P (.ref q) (oput O1 q (.lst ds))) : EvM K (tCB (fun xs H Q => ∃ p ys, xs = [.ref p] ∧ (SqL K H p ys ∨ SqT K H p ys) ∧ ∀ l, H l = none → Q (.ref l) (upd H l (.lst ys))) (tCons to tNil)) G O P := fun σ H0 H w s Q q =>
  h σ H0 H w s _ fun v d H1 H1' O1 ⟨p, ds, e, hp, k⟩ s1 w1 r1 => by
    subst e
    obtain rfl := r1.ref_eq
    obtain ⟨h0, o, ho, vs, rfl, rv⟩ := w1.own p _ hp
    exact ⟨p, vs, rfl, .inl (.inl (.inl ho)), fun l hl => q (.ref l) (.ref l) H1 _ _ (k l (w1.free hl)) s1 (w1.put (b := .lst ds) (w1.le.free hl) ⟨vs, rfl, rv⟩) (.ref l)⟩
theorem em_slO {tl th : TO} {lo hi : Option Int} (h : EvM K to G O fun d O1 => ∃ p ds, d = .ref p ∧ O1 p = some (.lst ds) ∧ EvO K tl G lo ∧ EvO K th G hi ∧ ∀ q, O1 q = none → P (.ref q) (oput O1 q (.lst (cut ds lo hi)))) : EvM K (tSl (rSlL K) to tl th) G O P := fun σ H0 H w s Q q =>
  h σ H0 H w s _ fun v d H1 H1' O1 ⟨p, ds, e, hp, h1, h2, k⟩ s1 w1 r1 => h1 σ H1 H1' w1.le (s.up s1) _ fun H2 H2' s2 => h2 σ H2 H2' s2.c (s.up (s1.trans s2.a)) _ fun H3 H3' s3 => by
    subst e
    obtain rfl := r1.ref_eq
    have w3 := (w1.step s2).step s3
    obtain ⟨h0, o, ho, vs, rfl, rv⟩ := w3.own p _ hp
    exact ⟨p, vs, rfl, .inl (.inl ho), fun l hl => q (.ref l) (.ref l) H3 _ _ (k l (w3.free hl)) (s1.trans (s2.trans s3).a) (w3.put (b := .lst (cut ds lo hi)) (w3.le.free hl) ⟨_, rfl, cut_dens rv lo hi⟩) (.ref l)⟩
theorem em_catO (h : EvM K ta G O fun d O1 => ∃ p, d = .ref p ∧ EvM K tb G O1 fun e O2 => ∃ q xs ys, e = .ref q ∧ O2 p = some (.lst xs) ∧ O2 q = some (.lst ys) ∧ xs.length + ys.length ≤ 100000 ∧ ∀ r, O2 r = none → P (.ref r) (oput O2 r (.lst (xs ++ ys)))) : EvM K (tOp rCat ta tb) G O P := fun σ H0 H w s Q q =>
  h σ H0 H w s _ fun v d H1 H1' O1 ⟨p, e1, k1⟩ s1 w1 r1 => k1 σ H1 H1' w1 (s.up s1) _ fun u e H2 H2' O2 ⟨z, xs, ys, e2, hp, hz, hl, k2⟩ s2 w2 r2 => by
    subst e1 e2
    obtain rfl := r1.ref_eq
    obtain rfl := r2.ref_eq
    obtain ⟨_, o, ho, vs, rfl, rv⟩ := w2.own p _ hp
    obtain ⟨_, o2, ho2, us, rfl, ru⟩ := w2.own z _ hz
    exact ⟨p, z, vs, us, rfl, rfl, ho, ho2, by rw [rv.length, ru.length]; exact Nat.le_trans hl (by decide), fun l hl => q (.ref l) (.ref l) H2 _ _ (k2 l (w2.free hl)) (s1.trans s2) (w2.put (b := .lst (xs ++ ys)) (w2.le.free hl) ⟨_, rfl, rv.append ru⟩) (.ref l)⟩
/-- a list told anew behind another one -/
theorem em_catV {O1 : Om} {S : Addr → Prop} {i m : Nat} {x : D} {ds es : List D} (hg : G[i]? = some (some x)) (f : Frs O O1 S (n + 1) x (.lst ds)) (hb : ∀ {PD : D → Om → Prop}, (∀ y O' S', Frs O1 O' S' (n + 1) y (.lst es) → PD y O') → EvM K tb G O1 PD) (hl : ds.length + es.length ≤ m) (hm : m ≤ 50000) (k : ∀ z O' S', Frs O O' S' (n + 1) z (.lst (ds ++ es)) → P z O') : EvM K (tOp rCat (tVar i) tb) G O1 P := by
  obtain ⟨p, rfl⟩ := f.ref
  refine em_catO (em_val (ev_var hg) ⟨p, rfl, hb fun y O2 S' g => ?_⟩)
  obtain ⟨q, rfl⟩ := g.ref
  obtain ⟨xs, hx, fx⟩ := f.out
  obtain ⟨ys, hy, fy⟩ := g.out
  have l := fx.append fy
  have := fx.len
  have := fy.len
  exact ⟨q, xs, ys, rfl, g.le _ _ hx, hy, by omega, fun r hr => k _ _ _ (l.lst hr (by rw [List.length_append]; omega))⟩
end
/-! ### a tree turned -/
inductive Tre (O : Om) (S : Addr → Prop) : Nat → D → Prop
  | atom {n : Nat} {d : D} : nlD d = true → Tre O S n d
  | lst {n : Nat} {p : Addr} {xs : List D} : S p → O p = some (.lst xs) → xs.length ≤ 50000 → (∀ x ∈ xs, Tre O S n x) → Tre O S (n + 1) (.ref p)
theorem Cont.tre {O : Om} {S : Addr → Prop} {n : Nat} {x d : D} (h : Cont O S n x d) : Tre O S n x := by
  induction h with
  | atom a => exact .atom a
  | lst sp hp hl h5 _ ih =>
    refine .lst sp hp h5 fun x hx => ?_
    obtain ⟨i, hi⟩ := List.getElem?_of_mem hx
    have hlt := (List.getElem?_eq_some_iff.mp hi).1
    exact ih i x _ hi (List.getElem?_eq_getElem (by rw [← hl]; exact hlt))
/-- the lists in S may have been turned, else nothing is changed -/
structure Rot (S : Addr → Prop) (O O' : Om) : Prop where
  out : ∀ q b, ¬ S q → O q = some b → O' q = some b
  ins : ∀ q xs, S q → O q = some (.lst xs) → ∃ ys, O' q = some (.lst ys) ∧ ys.Perm xs
theorem Rot.refl {S : Addr → Prop} {O : Om} : Rot S O O := ⟨fun _ _ _ h => h, fun _ xs _ h => ⟨xs, h, .refl _⟩⟩
theorem Rot.trans {S : Addr → Prop} {O O1 O2 : Om} (a : Rot S O O1) (b : Rot S O1 O2) : Rot S O O2 := ⟨fun q x h e => b.out q x h (a.out q x h e), fun q xs h e => by
  obtain ⟨ys, e1, p1⟩ := a.ins q xs h e
  obtain ⟨zs, e2, p2⟩ := b.ins q ys h e1
  exact ⟨zs, e2, p2.trans p1⟩⟩
theorem Tre.rot {S : Addr → Prop} {O O' : Om} (r : Rot S O O') {n : Nat} {x : D} (h : Tre O S n x) : Tre O' S n x := by
  induction h with
  | atom a => exact .atom a
  | lst sp hp h5 _ ih =>
    obtain ⟨ys, e, pm⟩ := r.ins _ _ sp hp
    exact .lst sp e (by rw [pm.length_eq]; exact h5) fun x hx => ih x (pm.mem_iff.mp hx)
theorem Rot.put {S : Addr → Prop} {O : Om} {p : Addr} {xs ys : List D} (hp : O p = some (.lst xs)) (sp : S p) (pm : ys.Perm xs) : Rot S O (oput O p (.lst ys)) := ⟨fun q b h e => by
  rw [oput_ne (fun z => h (by rw [z]; exact sp))]
  exact e, fun q zs h e => by
  by_cases z : q = p
  · subst z
    rw [hp] at e
    cases e
    exact ⟨ys, oput_same, pm⟩
  · exact ⟨zs, by rw [oput_ne z]; exact e, .refl _⟩⟩
theorem Rot.le {S : Addr → Prop} {O O1 O2 : Om} (a : Rot S O O1) (l : OLe O1 O2) : Rot S O O2 := ⟨fun q b h e => l _ _ (a.out q b h e), fun q xs h e => by
  obtain ⟨ys, e1, p1⟩ := a.ins q xs h e
  exact ⟨ys, l _ _ e1, p1⟩⟩
/-- a tree told anew is turned: nothing that was there is changed -/
theorem ev_turn {K : Fg} {E E' : XK} {G : Sl} {ta : TE} {n : Nat} {d : D} {PS : List D → Om → (D → Om → Prop) → Prop} (h : ∀ {O : Om} {PD : D → Om → Prop}, (∀ x O' S, Frs O O' S n x d → PD x O') → EvM K ta G O PD) (hs : ∀ x O S k, Tre O S n x → (∀ O', Rot S O O' → k .non O') → PS [x] O k) : EvR K E (tCall (SpM K PS) [] E' (tCons ta tNil)) G (.val .non) := fun σ H0 H e s Q q => by
  have m : EvM K (tCall (SpM K PS) [] E' (tCons ta tNil)) G (rawOm H0 H) fun d' O' => d' = .non ∧ OLe (rawOm H0 H) O' := by
    refine em_call (ma_cons (h fun x O1 S f => ma_nil (hs x O1 S _ f.con.tre fun O2 r => ⟨rfl, fun q b hq => ?_⟩)))
    exact r.out q b (fun z => by rw [f.fr q z] at hq; cases hq) (f.le _ _ hq)
  refine m σ H0 H (Wd.raw e) s Q ?_
  rintro v d' H1 H1' O' ⟨rfl, l⟩ s1 w1 r1
  exact q v H1 H1' (stp_raw e s1 w1 l) r1
end Pr
/-! Part 8: dicts whose keys are tuples of ints and truths. -/
namespace L2
open PySem PySem.Spec PyProof.Rows
/-- a value as a number -/
def numV : V → Option Int
  | .int i => some i
  | .bl b => some (if b then 1 else 0)
  | _ => none
abbrev lfs (ks : List Int) : List Leaf := ks.map Leaf.num
/-- the tuple at b reads as the numbers ks -/
def KeyT (H : Hp) (b : Addr) (ks : List Int) : Prop := ∃ vs : List V, H b = some (.tup vs) ∧ vs.map numV = ks.map some
def entN (x : List Int × Addr × Value) : DictEntry := ⟨reduceHash (Builtin.Tuple.tupleHashOf (x.1.map hashInt)), .ref x.2.1, x.2.2⟩
abbrev knX (P : Program) (w : World) : HeapKind P w (List Leaf) := tupleKind (leafKind P w)
abbrev up3 (x : List Int × Addr × Value) : List Leaf × Addr × Value := (lfs x.1, x.2)
theorem entN_eq {P : Program} {w : World} (x : List Int × Addr × Value) : entryOfKey (knX P w) (up3 x) = entN x := by
  obtain ⟨ks, b, v⟩ := x
  show (⟨reduceHash (Builtin.Tuple.tupleHashOf ((ks.map Leaf.num).map (leafKind P w).hash)), .ref b, v⟩ : DictEntry) = ⟨reduceHash (Builtin.Tuple.tupleHashOf (ks.map hashInt)), .ref b, v⟩
  rw [List.map_map]
  rfl
theorem ents_eq {P : Program} {w : World} (xs : List (List Int × Addr × Value)) : (xs.map up3).map (entryOfKey (knX P w)) = xs.map entN := by
  rw [List.map_map]
  exact List.map_congr_left fun x _ => entN_eq x
theorem lfs_inj : ∀ {a b : List Int}, lfs a = lfs b → a = b
  | [], [], _ => rfl
  | [], _ :: _, e => by cases e
  | _ :: _, [], e => by cases e
  | x :: xs, y :: ys, e => by
    have e : Leaf.num x :: lfs xs = Leaf.num y :: lfs ys := e
    injection e with e1 e2
    injection e1 with e1
    rw [e1, lfs_inj e2]
abbrev RX3 : List (List Int × Addr × V) → List (List Int × Addr × Value) → Prop := Paired fun p q => p.1 = q.1 ∧ p.2.1 = q.2.1 ∧ RelV p.2.2 q.2.2
/-- a dict, its keys' tuples and its values told -/
def DXo (xs' : List (List Int × Addr × V)) (d : Addr) : HO := .ext fun h => xs'.length ≤ sizeLine ∧ (d == sysModules) = false ∧ (xs'.map (·.1)).Nodup ∧ ∃ xs, RX3 xs' xs ∧ ∃ o es ep, h.get? d = some o ∧ o.ExactDict ∧ o.data = .dict es ep ∧ es.toList = xs.map entN
def getX (xs' : List (List Int × Addr × V)) (k : List Int) : Option V := (xs'.find? fun x => decide (x.1 = k)).map (·.2.2)
def putX (xs' : List (List Int × Addr × V)) (k : List Int) (b : Addr) (v : V) : List (List Int × Addr × V) := if (getX xs' k).isSome then xs'.map (fun x => if x.1 = k then (x.1, x.2.1, v) else x) else xs' ++ [(k, b, v)]
def dropX (xs' : List (List Int × Addr × V)) (k : List Int) : List (List Int × Addr × V) := xs'.filter fun x => decide (x.1 ≠ k)
/-- the dict, locked or not -/
def IsDX (H : Hp) (d : Addr) (xs' : List (List Int × Addr × V)) : Prop := H d = some (DXo xs' d) ∨ ∃ o, H d = some (.frz o (DXo xs' d))
/-- all keys stand in H -/
def KeysX (H : Hp) (xs' : List (List Int × Addr × V)) : Prop := ∀ x ∈ xs', KeyT H x.2.1 x.1
theorem dx_new {P : Program} {w : World} {H : Hp} {h : Heap} {d : Addr} {xs' : List (List Int × Addr × V)} {xs : List (List Int × Addr × Value)} (hz : xs'.length ≤ sizeLine) (hd : (d == sysModules) = false) (nd : (xs'.map (·.1)).Nodup) (r : RX3 xs' xs)
    {o : Obj} {es : Array DictEntry} {ep : Nat} (ho : h.get? d = some o) (hx : o.ExactDict) (hdt : o.data = .dict es ep) (he : es.toList = xs.map entN) : ObjOk P w H h d (DXo xs' d) :=
  ⟨⟨hz, hd, nd, xs, r, o, es, ep, ho, hx, hdt, he⟩, ⟨o, ho⟩, fun h1 h2 ⟨a, b, c, xs, r, o, es, ep, ho, q⟩ k => ⟨a, b, c, xs, r, o, es, ep, k o ho, q⟩⟩
theorem rx_keys {xs' : List (List Int × Addr × V)} {xs : List (List Int × Addr × Value)} (r : RX3 xs' xs) : xs'.map (·.1) = xs.map (·.1) := by
  induction r with
  | nil => rfl
  | cons h t ih => rw [List.map_cons, List.map_cons, ih, h.1]
theorem atKey_pos {K : Type} [DecidableEq K] {x : K × Addr × Value} {r : List (K × Addr × Value)} {k : K} (e : x.1 = k) : atKey (x :: r) k = some x.2 := by
  unfold atKey
  rw [List.find?_cons, decide_eq_true e]
  rfl
theorem atKey_neg {K : Type} [DecidableEq K] {x : K × Addr × Value} {r : List (K × Addr × Value)} {k : K} (e : ¬ x.1 = k) : atKey (x :: r) k = atKey r k := by
  unfold atKey
  rw [List.find?_cons, decide_eq_false e]
theorem rx_get {xs' : List (List Int × Addr × V)} {xs : List (List Int × Addr × Value)} (r : RX3 xs' xs) (k : List Int) : RelO (getX xs' k) ((atKey (xs.map up3) (lfs k)).map (·.2)) := by
  induction r with
  | nil => exact True.intro
  | @cons p q ps qs h t ih =>
    obtain ⟨h1, h2, h3⟩ := h
    by_cases e : p.1 = k
    · have e' : (up3 q).1 = lfs k := by show lfs q.1 = _; rw [← h1, e]
      have b : atKey (up3 q :: qs.map up3) (lfs k) = some q.2 := atKey_pos e'
      have c : getX (p :: ps) k = some p.2.2 := by simp [getX, List.find?_cons, e]
      rw [List.map_cons, b, c]
      exact h3
    · have e' : ¬ (up3 q).1 = lfs k := fun z => e (h1.trans (lfs_inj z))
      have b : atKey (up3 q :: qs.map up3) (lfs k) = atKey (qs.map up3) (lfs k) := atKey_neg e'
      have c : getX (p :: ps) k = getX ps k := by simp [getX, List.find?_cons, e]
      rw [List.map_cons, b, c]
      exact ih
theorem rx_put {xs' : List (List Int × Addr × V)} {xs : List (List Int × Addr × Value)} (r : RX3 xs' xs) (k : List Int) (b : Addr) {v : V} {u : Value} (rv : RelV v u) : ∃ ys, RX3 (putX xs' k b v) ys ∧ storedH (xs.map up3) (lfs k) b u = ys.map up3 := by
  have g := (rx_get r k).isSome_eq
  rw [Option.isSome_map] at g
  unfold putX storedH
  rw [← g]
  cases hs : (getX xs' k).isSome with
  | true =>
    rw [if_pos rfl, if_pos rfl]
    clear g hs
    induction r with
    | nil => exact ⟨[], .nil, rfl⟩
    | @cons p q ps qs h t ih =>
      obtain ⟨ys, h1, h2⟩ := ih
      obtain ⟨e1, e2, e3⟩ := h
      by_cases e : p.1 = k
      · refine ⟨(q.1, q.2.1, u) :: ys, ?_, ?_⟩
        · rw [List.map_cons, if_pos e]
          exact .cons ⟨e1, e2, rv⟩ h1
        · rw [List.map_cons, List.map_cons, List.map_cons, h2]
          unfold putAt
          rw [if_pos (show (up3 q).1 = lfs k by show lfs q.1 = _; rw [← e1, e])]
      · refine ⟨q :: ys, ?_, ?_⟩
        · rw [List.map_cons, if_neg e]
          exact .cons ⟨e1, e2, e3⟩ h1
        · rw [List.map_cons, List.map_cons, List.map_cons, h2]
          unfold putAt
          rw [if_neg (fun z => e (e1.trans (lfs_inj z)))]
  | false =>
    rw [if_neg (by decide), if_neg (by decide)]
    exact ⟨xs ++ [(k, b, u)], Paired.snoc r ⟨rfl, rfl, rv⟩, by rw [List.map_append]; rfl⟩
theorem rx_drop {xs' : List (List Int × Addr × V)} {xs : List (List Int × Addr × Value)} (r : RX3 xs' xs) (k : List Int) : ∃ ys, RX3 (dropX xs' k) ys ∧ DT.dropH (xs.map up3) (lfs k) = ys.map up3 := by
  induction r with
  | nil => exact ⟨[], .nil, rfl⟩
  | @cons p q ps qs h t ih =>
    obtain ⟨ys, h1, h2⟩ := ih
    obtain ⟨e1, e2, e3⟩ := h
    unfold dropX DT.dropH at *
    by_cases e : p.1 = k
    · refine ⟨ys, ?_, ?_⟩
      · rw [List.filter_cons, if_neg (by simp [e])]
        exact h1
      · rw [List.map_cons, List.filter_cons, if_neg (by simp [← e1, e])]
        exact h2
    · refine ⟨q :: ys, ?_, ?_⟩
      · rw [List.filter_cons, if_pos (by simp [e])]
        exact .cons ⟨e1, e2, e3⟩ h1
      · rw [List.map_cons, List.filter_cons, if_pos (show decide ((up3 q).1 ≠ lfs k) = true from decide_eq_true fun z => e (e1.trans (lfs_inj z))), List.map_cons, h2]
theorem putX_keys {xs' : List (List Int × Addr × V)} {k : List Int} {b : Addr} {v : V} (nd : (xs'.map (·.1)).Nodup) : ((putX xs' k b v).map (·.1)).Nodup := by
  unfold putX
  split
  · rw [List.map_map]
    have e : ((fun x : List Int × Addr × V => x.1) ∘ fun x => if x.1 = k then (x.1, x.2.1, v) else x) = fun x => x.1 := by
      funext x
      show (if x.1 = k then (x.1, x.2.1, v) else x).1 = x.1
      split <;> rfl
    rw [e]
    exact nd
  · rename_i h
    rw [List.map_append, List.nodup_append]
    refine ⟨nd, by simp, fun a ha c hc e => h ?_⟩
    rw [List.map_cons, List.map_nil, List.mem_singleton] at hc
    obtain ⟨x, hx, rfl⟩ := List.mem_map.mp ha
    unfold getX
    rw [Option.isSome_map, List.find?_isSome]
    exact ⟨x, hx, decide_eq_true (e.trans hc)⟩
theorem putX_len {xs' : List (List Int × Addr × V)} {k : List Int} {b : Addr} {v : V} : (putX xs' k b v).length ≤ xs'.length + 1 := by
  unfold putX
  split
  · rw [List.length_map]; omega
  · rw [List.length_append]; simp
theorem keysX_put {H : Hp} {xs' : List (List Int × Addr × V)} {k : List Int} {b : Addr} {v : V} (hk : KeysX H xs') (hb : KeyT H b k) : KeysX H (putX xs' k b v) := fun x hx => by
  unfold putX at hx
  split at hx
  · obtain ⟨y, hy, rfl⟩ := List.mem_map.mp hx
    split
    · exact hk y hy
    · exact hk y hy
  · rcases List.mem_append.mp hx with hx | hx
    · exact hk x hx
    · rw [List.mem_singleton.mp hx]
      exact hb
theorem keysX_drop {H : Hp} {xs' : List (List Int × Addr × V)} {k : List Int} (hk : KeysX H xs') : KeysX H (dropX xs' k) := fun x hx => hk x (List.mem_filter.mp hx).1
section
variable {P : Program} {w : World} {H : Hp} {h : Heap} {d b : Addr}
theorem items_num {P : Program} {w : World} : ∀ {ks : List Int} {vs : List V} {us : List Value}, Vals vs us → vs.map numV = ks.map some → PySem.ItemsAre (leafKind P w) (lfs ks) us
  | [], [], _, .nil, _ => .nil
  | [], _ :: _, _, _, e => by cases e
  | _ :: _, [], _, _, e => by cases e
  | k :: ks, v :: vs, _, .cons r t, e => by
    rw [List.map_cons, List.map_cons] at e
    injection e with e1 e2
    refine .cons ?_ (items_num t e2)
    cases v with
    | int i =>
      obtain ⟨tk, rfl⟩ := r
      injection e1 with e1
      exact decide_eq_true e1
    | bl c =>
      obtain rfl := r
      injection e1 with e1
      exact decide_eq_true e1
    | _ => cases e1
theorem keyX_of {ks : List Int} (ok : HOk P w H h) (e : KeyT H b ks) : (knX P w).is h (lfs ks) b := by
  obtain ⟨vs, e, hn⟩ := e
  obtain ⟨_, its, r, o, h1, h2, n, h3⟩ := (show ObjOk P w H h b (.tup vs) from ok b _ e)
  exact ⟨o, its.toArray, n, h1, h2, h3, by simpa using items_num r hn⟩
theorem dx_raw {xs' : List (List Int × Addr × V)} (ok : HOk P w H h) (e : IsDX H d xs') : xs'.length ≤ sizeLine ∧ (d == sysModules) = false ∧ (xs'.map (·.1)).Nodup ∧ ∃ xs, RX3 xs' xs ∧ ∃ o es ep, h.get? d = some o ∧ o.ExactDict ∧ o.data = .dict es ep ∧ es.toList = xs.map entN := by
  rcases e with e | ⟨o, e⟩
  · exact (show ObjOk P w H h d (DXo xs' d) from ok d _ e).1
  · obtain ⟨_, x⟩ := (show ObjOk P w H h d (.frz o (DXo xs' d)) from ok d _ e)
    exact x.1
theorem dx_ofD {xs' : List (List Int × Addr × V)} (ok : HOk P w H h) (e : IsDX H d xs') (hk : KeysX H xs') : xs'.length ≤ sizeLine ∧ (d == sysModules) = false ∧ (xs'.map (·.1)).Nodup ∧ ∃ xs, RX3 xs' xs ∧ h.DictOfH (knX P w) d (xs.map up3) := by
  obtain ⟨hz, hd, nd, xs, r, o, es, ep, ho, hx, hdt, he⟩ := dx_raw ok e
  refine ⟨hz, hd, nd, xs, r, o, es, ep, ho, hx, hdt, by rw [ents_eq]; exact he, fun y hy => ?_, ?_⟩
  · obtain ⟨x, hxm, rfl⟩ := List.mem_map.mp hy
    have all : ∀ {l : List (List Int × Addr × V)} {m : List (List Int × Addr × Value)}, RX3 l m → (∀ z ∈ l, KeyT H z.2.1 z.1) → ∀ x ∈ m, KeyT H x.2.1 x.1 := by
      intro l m q
      induction q with
      | nil => intro _ x hx; exact nomatch hx
      | @cons p q ps qs hq t ih =>
        intro hz x hx
        rcases List.mem_cons.mp hx with e | hx
        · subst e
          rw [← hq.1, ← hq.2.1]
          exact hz p List.mem_cons_self
        · exact ih (fun z hzz => hz z (List.mem_cons_of_mem _ hzz)) x hx
    exact keyX_of ok (all r hk x hxm)
  · rw [List.map_map, show ((fun x : List Leaf × Addr × Value => x.1) ∘ up3) = lfs ∘ (fun x : List Int × Addr × Value => x.1) from rfl, ← List.map_map, ← rx_keys r]
    exact List.Pairwise.map _ (fun a b hab e => hab (lfs_inj e)) nd
theorem dx_of {xs' : List (List Int × Addr × V)} (ok : HOk P w H h) (e : H d = some (DXo xs' d)) (hk : KeysX H xs') : xs'.length ≤ sizeLine ∧ (d == sysModules) = false ∧ (xs'.map (·.1)).Nodup ∧ ∃ xs, RX3 xs' xs ∧ h.DictOfH (knX P w) d (xs.map up3) := dx_ofD ok (.inl e) hk
end
/-- what the dict at d tells at the key y -/
def GetX (H : Hp) (d : Addr) (y : V) (o : Option V) : Prop := ∃ xs' ks b, IsDX H d xs' ∧ KeysX H xs' ∧ y = .ref b ∧ KeyT H b ks ∧ o = getX xs' ks
section
variable {X : Cx} {pins : List (Addr × Obj)} {σ : St} {H : Hp} {s : Shared} {d : Addr} {y v : V} {u r : Value} {o : Option V} {A : Around} {E : Value → Shared → Prop}
theorem x_getItem {Q : Value → Shared → Prop} (hu : A.units + 1 < cLine) (I : Inv X pins σ H s) (g : GetX H d y (some v)) (ry : RelV y u) (h : ∀ w' s', Inv X pins σ H s' → RelV v w' → Q w' s') : wpAny (model X.prog X.w) A (getItem (.ref d) u) Q E s := by
  obtain ⟨xs', ks, b, e, hk, rfl, eb, l⟩ := g
  cases (show u = Value.ref b from ry)
  obtain ⟨z, hd, nd, xs, rel, dd⟩ := dx_ofD I.hok e hk
  obtain ⟨w', hw, rw'⟩ := RelO.some_of (v := v) (o := (atKey (xs.map up3) (lfs ks)).map (·.2)) (by rw [l]; exact rx_get rel ks)
  obtain ⟨p, hp, hp2⟩ := Option.map_eq_some_iff.mp hw
  refine wpAny_getItem_heap (tupleKind_room_in1 hu) (keyX_of I.hok eb) dd hp ?_
  rw [hp2]
  exact h w' _ (I.tok _) rw'
theorem x_in {Q : Value → Shared → Prop} (hu : A.units + 1 < cLine) (I : Inv X pins σ H s) (g : GetX H d y o) (ry : RelV y u) (h : ∀ s', Inv X pins σ H s' → Q (.bool o.isSome) s') : wpAny (model X.prog X.w) A (compareOp .In u (.ref d)) Q E s := by
  obtain ⟨xs', ks, b, e, hk, rfl, eb, l⟩ := g
  cases (show u = Value.ref b from ry)
  obtain ⟨z, hd, nd, xs, rel, dd⟩ := dx_ofD I.hok e hk
  refine wpAny_in_heap (tupleKind_room_in1 hu) (keyX_of I.hok eb) hd dd ?_
  have q := (rx_get rel ks).isSome_eq
  rw [Option.isSome_map] at q
  rw [← q, ← l]
  exact h _ (I.tok _)
theorem x_notIn {Q : Value → Shared → Prop} (hu : A.units + 1 < cLine) (I : Inv X pins σ H s) (g : GetX H d y o) (ry : RelV y u) (h : ∀ s', Inv X pins σ H s' → Q (.bool (!o.isSome)) s') : wpAny (model X.prog X.w) A (compareOp .NotIn u (.ref d)) Q E s := by
  obtain ⟨xs', ks, b, e, hk, rfl, eb, l⟩ := g
  cases (show u = Value.ref b from ry)
  obtain ⟨z, hd, nd, xs, rel, dd⟩ := dx_ofD I.hok e hk
  refine wpAny_notIn_heap (tupleKind_room_in1 hu) (keyX_of I.hok eb) hd dd ?_
  have q := (rx_get rel ks).isSome_eq
  rw [Option.isSome_map] at q
  rw [← q, ← l]
  exact h _ (I.tok _)
theorem x_setItem {xs' : List (List Int × Addr × V)} {ks : List Int} {b : Addr} {Q : Unit → Shared → Prop} (hu : A.units + 1 < cLine) (I : Inv X pins σ H s) (e : H d = some (DXo xs' d)) (hk : KeysX H xs') (eb : KeyT H b ks) (hl : xs'.length < sizeLine) (rv : RelV v r) (h : ∀ s', Inv X pins σ (upd H d (DXo (putX xs' ks b v) d)) s' → Q () s') :
    wpAny (model X.prog X.w) A (setItem (.ref d) (.ref b) r) Q E s := by
  obtain ⟨z, hd, nd, xs, rel, dd⟩ := dx_of I.hok e hk
  have hz : (xs.map up3).length ≤ sizeLine := by rw [List.length_map, ← Paired.length rel]; exact z
  refine wpAny_setItem_heap (hsz := hz) (tupleKind_room_in1 hu) (keyX_of I.hok eb) dd fun h' dd' hs => h _ ?_
  obtain ⟨ys, ry, ey⟩ := rx_put rel ks b rv
  rw [ey] at dd'
  obtain ⟨q, es, ep, hq, h2, h3, h4, _, h5⟩ := dd'
  rw [ents_eq] at h4
  exact d_write I (by rw [e]; exact True.intro) hs ⟨q, hq⟩ (dx_new (Nat.le_trans putX_len hl) hd (putX_keys nd) ry hq h2 h3 h4)
theorem meetsPop2 {prog : Program} {w : World} {K : Type} [DecidableEq K] {knd : HeapKind prog w K} {d b : Addr} {k : K} :
    MeetsIn prog w (Builtin.«dict.pop» ⟨[.ref d, .ref b], []⟩) (fun A R s => ∃ xs p, knd.room A.in1 ∧ knd.is s.heap k b ∧ s.heap.DictOfH knd d xs ∧ xs.length ≤ sizeLine ∧ atKey xs k = some p ∧
      ∀ h' tk, h'.DictOfH knd d (DT.dropH xs k) → Heap.SameBut d s.heap h' → R (.ok (.ret p.2)) { s with heap := h', toks := tk }) :=
  .of_wp fun A R s ⟨xs, p, hu, hkey, hm, hsz, hp, hsome⟩ => by
    obtain ⟨o, es, ep, ho, hc, hdat, he, his, hn⟩ := id hm
    have hes : es.size = xs.length := size_of_entries he
    have hpart : (keyPart (Value.ref b)).isSome = false := rfl
    unfold Builtin.«dict.pop»
    refine wpAny_bind ?_
    unfold Builtin.Dict.keyAndDefault
    refine wpAny_bind (wpAny_notOrdered_dict hm.typeIs ?_)
    show wpAny _ _ (pure (d, Value.ref b, (none : Option Value))) _ _ s
    refine wpAny_pure ?_
    simp only [hpart, Bool.false_eq_true, if_false]
    refine wpAny_bind (wpAny_dictEntries ho hdat (wpAny_bind (wpAny_pure ?_)))
    cases hem : es.isEmpty with
    | true =>
      have h0 : xs = [] := by
        have z : es.size = 0 := by simpa using hem
        exact List.length_eq_zero_iff.mp (by omega)
      rw [h0] at hp
      cases hp
    | false =>
      simp only [Bool.false_eq_true, if_false]
      refine wpAny_bind (DT.takeH hu hkey hm hsz (fun hno => ?_) fun p' e hp' hev h' hm' hs' => ?_)
      · rw [hp] at hno
        cases hno
      · rw [hp] at hp'
        cases hp'
        simp only [Option.isNone_some, Bool.false_eq_true, if_false]
        exact wpAny_bind (wpAny_letGo (wpAny_pure ⟨e.val, rfl, by rw [hev]; exact hsome h' _ hm' hs'⟩))
theorem x_pop {xs' : List (List Int × Addr × V)} {ks : List Int} {b : Addr} {Q : Value → Shared → Prop} (hu : A.units + 1 < cLine) (I : Inv X pins σ H s) (e : H d = some (DXo xs' d)) (hk : KeysX H xs') (eb : KeyT H b ks) (g : getX xs' ks = some v)
    (h : ∀ w' s', Inv X pins σ (upd H d (DXo (dropX xs' ks) d)) s' → RelV v w' → Q w' s') : wpAny (model X.prog X.w) A (call (.builtin "dict.pop") [.ref d, .ref b]) Q E s := by
  obtain ⟨z, hd, nd, xs, rel, dd⟩ := dx_of I.hok e hk
  obtain ⟨w', hw, rw'⟩ := RelO.some_of (v := v) (o := (atKey (xs.map up3) (lfs ks)).map (·.2)) (by rw [← g]; exact rx_get rel ks)
  obtain ⟨p, hp, hp2⟩ := Option.map_eq_some_iff.mp hw
  have hz : (xs.map up3).length ≤ sizeLine := by rw [List.length_map, ← Paired.length rel]; exact z
  refine call_meetsIn PySem.F.slot_dict_pop dd.typeIs PySem.F.entry_dict_pop (PySem.F.args_dict_pop_2 _ _) (meetsPop2 (knd := knX X.prog X.w) (k := lfs ks)) ⟨_, p, tupleKind_room_in1 hu, keyX_of I.hok eb, dd, hz, hp, fun h' tk dd' hs => ?_⟩
  obtain ⟨ys, ry, ey⟩ := rx_drop rel ks
  rw [ey] at dd'
  obtain ⟨q, es, ep, hq, h2, h3, h4, _, h5⟩ := dd'
  rw [ents_eq] at h4
  refine h _ _ (d_write I (by rw [e]; exact True.intro) hs ⟨q, hq⟩ (dx_new (Nat.le_trans (List.length_filter_le _ _) z) hd (List.Nodup.sublist (List.Sublist.map _ (List.filter_sublist ..)) nd) ry hq h2 h3 h4)) ?_
  rw [hp2]
  exact rw'
end
/-! ### readings and rules -/
def tXGet (td ty : TE) : TE := fun σ H Q => td σ H fun x H1 => ty σ H1 fun y H2 => ∃ a v, x = .ref a ∧ GetX H2 a y (some v) ∧ Q v H2
def tXIn (ty td : TE) : TE := fun σ H Q => ty σ H fun y H1 => td σ H1 fun x H2 => ∃ a o, x = .ref a ∧ GetX H2 a y o ∧ Q (.bl o.isSome) H2
def tXNotIn (ty td : TE) : TE := fun σ H Q => ty σ H fun y H1 => td σ H1 fun x H2 => ∃ a o, x = .ref a ∧ GetX H2 a y o ∧ Q (.bl (!o.isSome)) H2
def sXPut (td ty tv : TE) : TS := fun D σ H => tv σ H fun v H1 => td σ H1 fun x H2 => ty σ H2 fun y H3 => ∃ a xs' ks b, x = .ref a ∧ H3 a = some (DXo xs' a) ∧ KeysX H3 xs' ∧ y = .ref b ∧ KeyT H3 b ks ∧ xs'.length < sizeLine ∧ D.nx σ (upd H3 a (DXo (putX xs' ks b v) a))
def tXNew : TE := fun _ H Q => ∀ p, H p = none → Q (.ref p) (upd H p (DXo [] p))
def tXOne (tk tv : TE) : TE := fun σ H Q => ∀ p, H p = none → tk σ (upd H p (DXo [] p)) fun x H1 => tv σ H1 fun y H2 => ∃ b ks, x = .ref b ∧ KeyT H2 b ks ∧ H2 p = some (DXo [] p) ∧ Q (.ref p) (upd H2 p (DXo [(ks, b, y)] p))
def tXPop (td ty : TE) : TE := fun σ H Q => td σ H fun x H1 => ∃ a xs0, x = .ref a ∧ H1 a = some (DXo xs0 a) ∧ ty σ H1 fun y H2 => ∃ xs' ks b v, H2 a = some (DXo xs' a) ∧ KeysX H2 xs' ∧ y = .ref b ∧ KeyT H2 b ks ∧ getX xs' ks = some v ∧ Q v (upd H2 a (DXo (dropX xs' ks) a))
theorem dxo_typeIs {X : Cx} {pins : List (Addr × Obj)} {σ : St} {H : Hp} {s : Shared} {a : Addr} {xs' : List (List Int × Addr × V)} (I : Inv X pins σ H s) (e : IsDX H a xs') : s.TypeIs (.ref a) "dict" ∧ (∀ b, Value.ref a = .ref b → ∃ ob, s.heap.get? b = some ob ∧ ob.dict = none) ∧ (a == sysModules) = false := by
  obtain ⟨_, hd, _, xs, r, o, es, ep, ho, hx, hdt, he⟩ := dx_raw I.hok e
  refine ⟨⟨o, ho, hx.1⟩, fun b q => ?_, hd⟩
  cases q
  exact ⟨o, ho, hx.2.1⟩
theorem dxo_empty {P : Program} {w : World} {H : Hp} (h : Heap) (hb : sysModules < h.objs.size) : ObjOk P w H (h.push { cls := .type "dict", data := .dict #[] }) h.objs.size (DXo [] h.objs.size) :=
  dx_new (Nat.zero_le _) (beq_eq_false_iff_ne.mpr (Ne.symm (Nat.ne_of_lt hb))) List.nodup_nil .nil (Heap.get?_push_size _ rfl) ⟨rfl, rfl, rfl⟩ rfl rfl
section
variable {X : Cx} {o i e value : Expr} {pos pos' tpos apos cpos : Pos} {td ty tv : TE}
theorem pe_xget (hu : X.A.units + 1 < cLine) (ho : PE X o td) (hi : PE X i ty) (hs : NoSl i) : PE X (.Subscript o i pos) (tXGet td ty) := by
  refine ⟨fun pins s σ H Q I h => ?_⟩
  refine subD_of PySem.F.slot_dict_getitem.lookup hs (thn (ho.run pins s σ H _ I h) fun u s1 ⟨x, H1, I1, rx, q1⟩ => thn (hi.run pins s1 σ H1 _ I1 q1) fun iv s2 ⟨y, H2, I2, ry, a, v, ex, g, q2⟩ => ?_)
  subst ex
  obtain rfl : u = Value.ref a := rx
  obtain ⟨xs', ks, b, e, _⟩ := id g
  exact ⟨(dxo_typeIs I2 e).1, x_getItem hu I2 g ry fun w' s3 I3 rw' => ⟨v, H2, I3, rw', q2⟩⟩
theorem pc_xin (hu : X.A.units + 1 < cLine) (hi : PE X i ty) (ho : PE X o td) : PC X .In i o (tXIn ty td) := by
  refine ⟨fun pins s σ H Q I h => ?_⟩
  refine thn (hi.run pins s σ H _ I h) fun iv s1 ⟨y, H1, I1, ry, q1⟩ => thn (ho.run pins s1 σ H1 _ I1 q1) fun u s2 ⟨x, H2, I2, rx, a, ov, ex, g, q2⟩ => ?_
  subst ex
  obtain rfl : u = Value.ref a := rx
  exact x_in hu I2 g ry fun s3 I3 => ⟨.bl ov.isSome, H2, I3, rfl, q2⟩
theorem pc_xnotin (hu : X.A.units + 1 < cLine) (hi : PE X i ty) (ho : PE X o td) : PC X .NotIn i o (tXNotIn ty td) := by
  refine ⟨fun pins s σ H Q I h => ?_⟩
  refine thn (hi.run pins s σ H _ I h) fun iv s1 ⟨y, H1, I1, ry, q1⟩ => thn (ho.run pins s1 σ H1 _ I1 q1) fun u s2 ⟨x, H2, I2, rx, a, ov, ex, g, q2⟩ => ?_
  subst ex
  obtain rfl : u = Value.ref a := rx
  exact x_notIn hu I2 g ry fun s3 I3 => ⟨.bl (!ov.isSome), H2, I3, rfl, q2⟩
theorem ps_xput (hu : X.A.units + 1 < cLine) (ho : PE X o td) (hi : PE X i ty) (hv : PE X value tv) (hs : swapsWith value (some (.Subscript o i pos')) pos.line X.env = pure false) : PS X (.Assign [.Subscript o i pos'] value pos) (sXPut td ty tv) := by
  refine ⟨fun pins s σ H D I h => ?_⟩
  refine wpAny_Assign_Subscript (thn (hv.run pins s σ H _ I h) fun r s1 ⟨v, H1, I1, rv, q1⟩ => thn (ho.run pins s1 σ H1 _ I1 q1) fun u s2 ⟨x, H2, I2, rx, q2⟩ => thn (hi.run pins s2 σ H2 _ I2 q2) fun iv s3 ⟨y, H3, I3, ry, a, xs', ks, b, ex, g, hk, ey, eb, hl, q3⟩ => ?_) hs
  subst ex ey
  obtain rfl : u = Value.ref a := rx
  cases (show iv = Value.ref b from ry)
  exact x_setItem hu I3 g hk eb hl rv fun s4 I4 => ⟨σ, _, I4, q3⟩
theorem pe_xnew : PE X (.Dict [] [] pos) tXNew := ⟨fun pins s σ H Q I h =>
  wpAny_Dict_empty ⟨.ref s.heap.objs.size, _, I.laid (a := s.heap.objs.size) (o := DXo [] s.heap.objs.size) (t' := s.toks) (fun _ _ q => Heap.get?_push_of_some _ q) (Nat.le_refl _) (dxo_empty s.heap I.big), rfl, h _ (I.hok.fresh (Nat.le_refl _))⟩⟩
theorem pe_xone {k v : Expr} {tk tw : TE} (hu : X.A.units + 1 < cLine) (hk : PE X k tk) (hv : PE X v tw) : PE X (.Dict [some k] [v] pos) (tXOne tk tw) := by
  refine ⟨fun pins s σ H Q I q => ?_⟩
  have hn := I.hok.fresh (Nat.le_refl s.heap.objs.size)
  have I1 := I.laid (a := s.heap.objs.size) (o := DXo [] s.heap.objs.size) (h' := s.heap.push { cls := .type "dict", data := .dict #[] }) (t' := s.toks) (fun _ _ q => Heap.get?_push_of_some _ q) (Nat.le_refl _) (dxo_empty s.heap I.big)
  have sh := zip_pairTrees [some k] [v] X.env pos rfl rfl
  have hlen := pairTrees_length [some k] [v] X.env pos rfl rfl
  have h0 : pairTrees [some k] [v] X.env pos ≠ [] := fun z => by rw [z] at hlen; cases hlen
  rw [arm_eval_Dict, sh, dictDisplay_pairs _ h0 (by rw [hlen]; show 1 < 17; decide)]
  refine wpAny_bind (wpAny_standAt (wpAny_bind (wpAny_subDictH (knd := knX X.prog X.w) (Q := fun d s' => wpAny (model X.prog X.w) X.A (pure (Value.ref d)) (EP X pins σ Q) X.xe s') (show X.A.units < cLine by omega) (by rw [hlen]; show 1 ≤ 15; decide) ?_)))
  refine pairTrees_cons_walk (thn (hk.run pins _ σ _ _ I1 (q _ hn)) fun u s1 ⟨x, H1, I2, rx, q1⟩ => thn (hv.run pins s1 σ H1 _ I2 q1) fun w2 s2 ⟨y, H2, I3, ry, b, ks, ex, eb, ed, q2⟩ => pairTrees_nil_walk ?_)
  subst ex
  cases (show u = Value.ref b from rx)
  obtain ⟨z, hd, nd, xs, rel, dd⟩ := dx_of I3.hok ed (fun x hx => nomatch hx)
  cases rel
  refine ⟨[(lfs ks, b, w2)], ⟨rfl, rfl, keyX_of I3.hok eb, trivial⟩, dd, fun h' tk' dd' hs => wpAny_pure ?_⟩
  obtain ⟨qo, es, ep, hq, h2, h3, h4, _, h5⟩ := dd'
  have h4 : es.toList = ([(ks, b, w2)] : List (List Int × Addr × Value)).map entN := by
    rw [h4]
    exact congrArg (fun x => [x]) (entN_eq (ks, b, w2))
  exact ⟨.ref s.heap.objs.size, _, d_write I3 (by rw [ed]; exact True.intro) hs ⟨qo, hq⟩ (dx_new (xs' := [(ks, b, y)]) (by show 1 ≤ sizeLine; decide) hd (by simp) (.cons ⟨rfl, rfl, ry⟩ .nil) hq h2 h3 h4), rfl, q2⟩
theorem pe_xpop (hu : X.A.units + 1 < cLine) (ho : PE X o td) (he : PE X e ty) (m : M1 X o "pop" apos e cpos) : PE X (.Call (.Attribute o "pop" apos) [e] [] cpos) (tXPop td ty) := by
  refine ⟨fun pins s σ H Q I h => ?_⟩
  refine wpAny_Call_method m.base m.few m.line PySem.F.plainAttrs_dict PySem.F.slot_dict_pop PySem.F.type_dict_pop (thn (ho.run pins s σ H _ I h) fun u s1 ⟨x, H1, I1, rx, a, xs0, ex, e0, q1⟩ => ?_)
  subst ex
  obtain rfl : u = Value.ref a := rx
  obtain ⟨t1, t2, _⟩ := dxo_typeIs I1 (.inl e0)
  refine ⟨t1, t2, ?_⟩
  rw [m.trees]
  refine Calls.callWith_builtin rfl (Calls.evalArgs_plain (Calls.spliced_cons (thn (he.run pins s1 σ H1 _ I1 q1) fun iv s2 ⟨y, H2, I2, ry, xs', ks, b, v, ea, hk, ey, eb, g, q2⟩ => Calls.spliced_nil ?_)))
  subst ey
  cases (show iv = Value.ref b from ry)
  exact x_pop hu I2 ea hk eb g fun w' s3 I3 rw' => ⟨v, _, I3, rw', q2⟩
end
end L2
/-! Part 9: min(d.keys(), key=lambda x: (d[x][0], x)), d a dict keyed by tuples of an int and a truth. -/
namespace L2
open PySem PySem.Spec PyProof.Rows PySem.W
/-- the first part of the tuple v is the int c -/
def CostX (H : Hp) (v : V) (c : Int) : Prop := ∃ e ys, v = .ref e ∧ H e = some (.tup ys) ∧ atI ys 0 = some (.int c)
/-- the tuple at b is (r, t) -/
def KeyRT (H : Hp) (b : Addr) (ks : List Int) : Prop := ∃ (r : Int) (t : Bool), H b = some (.tup [.int r, .bl t]) ∧ ks = [r, if t then 1 else 0]
theorem KeyRT.key {H : Hp} {b : Addr} {ks : List Int} (h : KeyRT H b ks) : KeyT H b ks := by
  obtain ⟨r, t, e, rfl⟩ := h
  exact ⟨_, e, rfl⟩
theorem CostX.one {H : Hp} {v : V} {c c' : Int} (h : CostX H v c) (h' : CostX H v c') : c = c' := by
  obtain ⟨e, ys, rfl, a, b⟩ := h
  obtain ⟨e', ys', q, a', b'⟩ := h'
  cases q
  rw [a] at a'
  cases a'
  rw [b] at b'
  cases b'
  rfl
theorem tbNew_keep {H H2 : Hp} {P c' a : Addr} {q : Str} {ps : Array Value} {o : HO} (hP : H P = some (.tbl ps)) (tn : TbNew H P q ps c' H2) (h : H a = some o) (n : ∀ z, o ≠ .tbl z) : H2 a = some o := by
  rcases tn with ⟨rfl, _⟩ | ⟨nC, ps', rfl, _, _⟩
  · exact h
  · rw [upd_ne (ne_of_none h nC), upd_ne (fun z => n ps (Option.some.inj (h.symm.trans (by rw [z]; exact hP))))]
    exact h
theorem best_least {bt : Nat → Nat → Bool} {c : Nat → Int} {n : Nat} (h1 : ∀ a b, a < n → b < n → bt a b = true → c a ≤ c b) (h2 : ∀ a b, a < n → b < n → bt a b = false → c b ≤ c a) : ∀ k, k < n → argBest bt k ≤ k ∧ ∀ j, j ≤ k → c (argBest bt k) ≤ c j
  | 0, _ => ⟨Nat.le_refl _, fun j hj => by
    have : j = 0 := by omega
    subst this
    exact Int.le_refl _⟩
  | k + 1, hk => by
    obtain ⟨i1, i2⟩ := best_least h1 h2 k (by omega)
    cases e : bt (k + 1) (argBest bt k) with
    | true =>
      have q := h1 _ _ hk (by omega) e
      have e2 : argBest bt (k + 1) = k + 1 := by simp only [argBest, e, if_true]
      rw [e2]
      refine ⟨Nat.le_refl _, fun j hj => ?_⟩
      rcases Nat.lt_or_ge k j with z | z
      · have : j = k + 1 := by omega
        rw [this]
        exact Int.le_refl _
      · exact Int.le_trans q (i2 j z)
    | false =>
      have q := h2 _ _ hk (by omega) e
      have e2 : argBest bt (k + 1) = argBest bt k := by simp only [argBest, e, Bool.false_eq_true, if_false]
      rw [e2]
      refine ⟨by omega, fun j hj => ?_⟩
      rcases Nat.lt_or_ge k j with z | z
      · have : j = k + 1 := by omega
        rw [this]
        exact q
      · exact i2 j z
/-- a key as it is compared -/
def encC (c r : Int) (t : Bool) : PyData := .tuple [.int c, .tuple [.int r, .bool t]]
theorem encC_alike (c r c' r' : Int) (t t' : Bool) : alike (encC c r t) (encC c' r' t') = true := by simp [encC, alike, alikeAll]
theorem encC_lt {c r c' r' : Int} {t t' : Bool} : (dataLt (encC c r t) (encC c' r' t') = true → c ≤ c') ∧ (dataLt (encC c r t) (encC c' r' t') = false → c' ≤ c) := by
  have e : dataLt (encC c r t) (encC c' r' t') = if PyData.eqv (.int c) (.int c') = true then (if PyData.eqv (.tuple [.int r, .bool t]) (.tuple [.int r', .bool t']) = true then false else dataLt (.tuple [.int r, .bool t]) (.tuple [.int r', .bool t'])) else dataLt (.int c) (.int c') :=
    dataLt_pair (by simp [alike]) (by simp [alike, alikeAll])
  rw [e]
  by_cases h : c = c'
  · exact ⟨fun _ => by omega, fun _ => by omega⟩
  · rw [if_neg (by simp [PyData.eqv, h]), dataLt_int]
    exact ⟨fun z => by have := of_decide_eq_true z; omega, fun z => by have := of_decide_eq_false z; omega⟩
section
variable {X : Cx} {pins : List (Addr × Obj)} {σ : St} {H : Hp} {s : Shared}
/-- one call of the key: (y[x][0], x) -/
theorem min_turn {scope : Scope} {x y : Str} {i : Nat} {f c' : Addr} {pm ctv : Value} {params : Arguments} {p1 p2 p3 p4 p5 p6 p7 : Pos} {k4 : Nat} {k7 : Nat} {A2 : Around} {h : Heap} {tk : Nat} {d b e : Addr} {xs' : List (List Int × Addr × V)} {ks : List Int} {ys : List V} {n : Int} {Q : Value → Shared → Prop} {E : Value → Shared → Prop}
    (I : Inv X pins σ H s) (L : KeyS X.env.scope scope x y) (hroom : A2.depth < recursionLimit) (hu : A2.units + 5 < cLine)
    (hf : s.heap.get? f = some (kla_obj "<lambda>" (X.env.qual ++ "<lambda>") params (.Tuple [.Subscript (.Subscript (.Name y p1) (.Name x p2) p3) (.Constant (.int 0) k4 p4) p5, .Name x p6] k7 p7) scope (cloFrom X.env.cells scope.names []) pm c' ctv)) (hc : H c' = some (LamX.CodeO c' (X.env.qual ++ "<lambda>")))
    (hbind : ∀ v, bindArgs (kla_fn "<lambda>" (X.env.qual ++ "<lambda>") params (.Tuple [.Subscript (.Subscript (.Name y p1) (.Name x p2) p3) (.Constant (.int 0) k4 p4) p5, .Name x p6] k7 p7) scope (cloFrom X.env.cells scope.names []) pm (.ref c') ctv) ⟨[v], []⟩ = pure [(x, v)])
    (hN : X.N[i]? = some y) (hσ : σ[i]? = some (some (.ref d))) (hd : H d = some (DXo xs' d)) (hk : KeysX H xs') (hb : KeyT H b ks) (hg : getX xs' ks = some (.ref e)) (he : H e = some (.tup ys)) (ha : atI ys 0 = some (.int n))
    (kp : ∀ b o, s.heap.get? b = some o → h.get? b = some o)
    (hQ : ∀ h' tk' T t, (∀ b o, h.get? b = some o → h'.get? b = some o) → h.objs.size ≤ T → h'.get? T = some { cls := .type "tuple", data := .seq #[.int n t, .ref b] } → Q (.ref T) { s with heap := h', toks := tk' })
    (hdx : (x == ("__debug__" : Str)) = false) (hdy : (y == ("__debug__" : Str)) = false) (hcy : (y == ("__classdict__" : Str)) = false) :
    wpAny (model X.prog X.w) A2 (call (.ref f) [.ref b]) Q E { s with heap := h, toks := tk } := by
  obtain ⟨cc, hcl, hce⟩ := clo_cell L I.ok
  have hvis : Vis X.env.scope y := (L.free _ (PySem.mem_of_lookup L.fre) rfl).elim (fun k => .inr (.inl k)) fun k => .inr (.inr k)
  obtain ⟨m, hn, hl⟩ := I.loc
  obtain ⟨u, ru, lk⟩ := hl i y _ hN hσ hvis
  obtain rfl : u = Value.ref d := ru
  have hcell : s.heap.IsCell cc (some (.ref d)) := by
    rcases lk with ⟨k', _⟩ | ⟨_, c3, e', z⟩
    · have k' : X.env.scope.names.lookup y = some .local := k'
      rcases L.free _ (PySem.mem_of_lookup L.fre) rfl with k2 | k2 <;> rw [show X.env.scope.names.lookup y = _ from k2] at k' <;> cases k'
    · rw [hce] at e'
      cases e'
      exact z
  obtain ⟨⟨oc, vs, t5, hoc, hdc, hvc⟩, _, _⟩ := I.hok c' _ hc
  obtain ⟨j, h1, h2, h3, h4, h5⟩ := atI_get ha
  have hnl := line63
  refine wpAny_call (kla_callFunE hroom (kp _ _ hf) rfl L.co L.gen rfl ⟨c', oc, vs, t5, rfl, kp _ _ hoc, hdc, hvc⟩ ?_)
  rw [hbind]
  refine wpAny_pure (wpAny_newFunctionEnv L.cell (fun z hz => ?_) (fun h₁ hns hsb => ⟨(I.nolimit.keeps kp).fresh _ hsb, ?_⟩) L.kind)
  · rw [List.mem_singleton.mp hz]
    exact L.loc
  have kp1 : ∀ b o, h.get? b = some o → h₁.get? b = some o := fun b o e => hsb.extBut b o (Nat.ne_of_lt (Heap.lt_size e)) (Heap.get?_push_of_some _ e)
  have sz1 : h.objs.size ≤ h₁.objs.size := Nat.le_of_lt hns.lt
  have kp2 : ∀ b o, s.heap.get? b = some o → h₁.get? b = some o := fun b o e => kp1 b o (kp b o e)
  have I1 : ∀ t : Nat, Inv X pins σ H { s with heap := h₁, toks := t } := fun t => I.kept kp2
  obtain ⟨hz, hds, nd, xs, rel, dd⟩ := dx_of (I1 0).hok hd hk
  obtain ⟨w', hw, rw'⟩ := RelO.some_of (v := V.ref e) (o := (atKey (xs.map up3) (lfs ks)).map (·.2)) (by rw [← hg]; exact rx_get rel ks)
  obtain ⟨p, hp, hp2⟩ := Option.map_eq_some_iff.mp hw
  obtain rfl : w' = Value.ref e := rw'
  obtain ⟨its, r, pl, hlen⟩ := (I1 0).tuple (X := X) (.inl (.inl he))
  obtain ⟨wv, ew, rwv⟩ := r.get h2
  obtain ⟨tw, rfl⟩ := rwv
  have hlr := r.length
  refine kla_codeExpr ?_
  refine wpAny_Tuple_spliced ?_
  refine args_cons ?_
  refine Subscript_ ?_
  refine subD_of PySem.F.slot_dict_getitem.lookup (fun _ _ => rfl) ?_
  refine wpAny_Name (wpAny_loadName_free L.kind L.fre hcl (v := .ref d) (let ⟨o, ho, hd⟩ := hcell; ⟨o, kp2 _ _ ho, hd⟩) ?_ hcy) hdy
  refine wpAny_Name (wpAny_loadName_local L.kind L.loc hns (v := .ref b) (by simp [List.lookup]) ?_) hdx
  refine ⟨dd.typeIs, wpAny_getItem_heap (tupleKind_room_in1 (by show A2.units + 3 + 1 < cLine; omega)) (keyX_of (I1 0).hok hb) dd hp ?_⟩
  rw [hp2]
  refine wpAny_Constant_int ?_
  refine subscriptTail_builtinR (x := .int n tw) pl.typeIs slot_tuple_getitem.lookup (getItem_tuple (j := j) pl (by omega) (by omega) (by rw [List.size_toArray, ← hlr]; exact h1) (by simpa using ew) ⟨rfl, ?_⟩)
  show wpAny _ _ (spliced (backTo _ (starEach [.Name x p6] _))) _ _ _
  refine args_cons ?_
  refine wpAny_Name (wpAny_loadName_local L.kind L.loc hns (v := .ref b) (by simp [List.lookup]) ?_) hdx
  refine args_nil ⟨by show 2 ≤ sizeLine; decide, ?_⟩
  exact hQ _ _ _ tw (fun b o e => Heap.get?_push_of_some _ (kp1 b o e)) sz1 (Heap.get?_push_size _ rfl)

theorem rx_at {xs' : List (List Int × Addr × V)} {xs : List (List Int × Addr × Value)} (r : RX3 xs' xs) : ∀ {i : Nat} {y : List Leaf × Addr × Value}, (xs.map up3)[i]? = some y → ∃ x, xs'[i]? = some x ∧ x.2.1 = y.2.1 := by
  induction r with
  | nil => intro i y h; cases h
  | @cons p q ps qs h t ih =>
    intro i y e
    cases i with
    | zero =>
      rw [List.map_cons, List.getElem?_cons_zero] at e
      obtain rfl := Option.some.inj e
      exact ⟨p, rfl, h.2.1⟩
    | succ i =>
      rw [List.map_cons, List.getElem?_cons_succ] at e
      obtain ⟨x, h1, h2⟩ := ih e
      exact ⟨x, by rw [List.getElem?_cons_succ]; exact h1, h2⟩
theorem getX_mem : ∀ {xs' : List (List Int × Addr × V)} {x : List Int × Addr × V}, (xs'.map (·.1)).Nodup → x ∈ xs' → getX xs' x.1 = some x.2.2
  | [], _, _, h => nomatch h
  | p :: ps, x, nd, h => by
    rw [List.map_cons, List.nodup_cons] at nd
    rcases List.mem_cons.mp h with e | h
    · subst e
      simp [getX, List.find?_cons]
    · have ne : ¬ p.1 = x.1 := fun z => nd.1 (by rw [z]; exact List.mem_map_of_mem h)
      have := getX_mem nd.2 h
      rw [← this]
      simp [getX, List.find?_cons, ne]
theorem read_key {b : Addr} {r : Int} {t : Bool} (I : Inv X pins σ H s) (h : H b = some (.tup [.int r, .bl t])) : Reads s.heap (.ref b) (.tuple [.int r, .bool t]) [] := by
  obtain ⟨its, rv, ⟨o, ho, hc, n, hd⟩, _⟩ := I.tuple (X := X) (.inl (.inl h))
  rcases rv with _ | ⟨r1, _ | ⟨r2, _ | _⟩⟩
  obtain ⟨t1, rfl⟩ := r1
  obtain rfl := r2
  exact .tuple ho hc hd (.cons (.int r t1) (.cons (.bool t) .nil))
theorem call_minX {scope : Scope} {x y : Str} {i k : Nat} {f c' v d : Addr} {pm ctv : Value} {params : Arguments} {p1 p2 p3 p4 p5 p6 p7 : Pos} {k4 : Nat} {k7 : Nat} {xs' : List (List Int × Addr × V)} {Q : Value → Shared → Prop} {E : Value → Shared → Prop}
    (I : Inv X pins σ H s) (hcm : X.calm = true) (hvw : KdlKeysView s.heap v d) (L : KeyS X.env.scope scope x y) (hr : Room (k + 2) X.A)
    (hf : s.heap.get? f = some (kla_obj "<lambda>" (X.env.qual ++ "<lambda>") params (.Tuple [.Subscript (.Subscript (.Name y p1) (.Name x p2) p3) (.Constant (.int 0) k4 p4) p5, .Name x p6] k7 p7) scope (cloFrom X.env.cells scope.names []) pm c' ctv)) (hc : H c' = some (LamX.CodeO c' (X.env.qual ++ "<lambda>")))
    (hbind : ∀ v, bindArgs (kla_fn "<lambda>" (X.env.qual ++ "<lambda>") params (.Tuple [.Subscript (.Subscript (.Name y p1) (.Name x p2) p3) (.Constant (.int 0) k4 p4) p5, .Name x p6] k7 p7) scope (cloFrom X.env.cells scope.names []) pm (.ref c') ctv) ⟨[v], []⟩ = pure [(x, v)])
    (hN : X.N[i]? = some y) (hσ : σ[i]? = some (some (.ref d))) (hd : H d = some (DXo xs' d)) (hne : xs' ≠ []) (hall : ∀ x ∈ xs', KeyRT H x.2.1 x.1 ∧ ∃ c, CostX H x.2.2 c)
    (hQ : ∀ x ∈ xs', (∀ c y c', CostX H x.2.2 c → y ∈ xs' → CostX H y.2.2 c' → c ≤ c') → ∀ s', Inv X pins σ H s' → Q (.ref x.2.1) s')
    (hdx : (x == ("__debug__" : Str)) = false) (hdy : (y == ("__debug__" : Str)) = false) (hcy : (y == ("__classdict__" : Str)) = false) :
    wpAny (model X.prog X.w) X.A (call (.builtin "min") [.ref v] [(Str.ofString "key", .ref f)]) Q E s := by
  have hks : KeysX H xs' := fun x hx => (hall x hx).1.key
  obtain ⟨hz, hds, nd, xs, rel, dd⟩ := dx_of I.hok hd hks
  obtain ⟨es, ep, draw, hsz, hes⟩ := dd.raw
  have hlen : es.size = xs'.length := by rw [hsz, List.length_map, Paired.length rel]
  have ex : ∀ i : Nat, ∃ p : Int × Int × Bool, ∀ x, xs'[i]? = some x → CostX H x.2.2 p.1 ∧ H x.2.1 = some (.tup [.int p.2.1, .bl p.2.2]) := fun i => by
    cases e : xs'[i]? with
    | none => exact ⟨(0, 0, false), fun x h => by cases h⟩
    | some x =>
      obtain ⟨⟨r, t, h1, _⟩, c, h2⟩ := hall x (List.mem_of_getElem? e)
      exact ⟨(c, r, t), fun x' h => by cases h; exact ⟨h2, h1⟩⟩
  obtain ⟨g, hg⟩ := Classical.axiomOfChoice ex
  have hdI : d ≠ s.heap.objs.size := Nat.ne_of_lt draw.lt_size
  have hun := hr.un
  have hdp := hr.dp
  have W := Walks.keysH (prog := X.prog) (w := X.w) (A := X.A.in1) (xs := xs.map up3) (show X.A.in1.handled = none from I.ok.hd hcm) s.heap.objs.size d hdI es ep (fun i hi => let ⟨y, a, b, c, _⟩ := hes i hi; ⟨y, a, b, c⟩)
  refine call_min_walkK ?_
  refine wpAny_pyIter_keys_raw hvw draw ?_
  refine ⟨s.heap.objs.size, [s.heap.objs.size, d], [s.heap.objs.size], fun a b => b = a, es.size, _, _,
    (fun s' => ∃ h tk, s' = { s with heap := h, toks := tk } ∧ ∀ b o, s.heap.get? b = some o → h.get? b = some o),
    (fun i kv s' => ∃ (T : Addr) (t : Tok) (x : List Int × Addr × V), kv = .ref T ∧ xs'[i]? = some x ∧ T ≠ s.heap.objs.size ∧ T ≠ s.heap.objs.size + 1 ∧ s'.heap.get? T = some { cls := .type "tuple", data := .seq #[.int (g i).1 t, .ref x.2.1] }),
    (fun i j => dataLt (encC (g i).1 (g i).2.1 (g i).2.2) (encC (g j).1 (g j).2.1 (g j).2.2)), rfl, W.toS, ⟨⟨_, Heap.get?_push_size _ rfl, rfl, rfl⟩, draw.push _⟩, fun b hb => ?_, ?_, ?_, ⟨_, _, rfl, fun b o e => Heap.get?_push_of_some _ e⟩, fun rv s' hP hJ => ?_⟩
  · show b < (s.heap.push _).objs.size
    rw [Heap.size_push]
    rcases List.mem_cons.mp hb with e | hb
    · rw [e]; exact Nat.lt_succ_self _
    · rw [List.mem_singleton.mp hb]
      exact Nat.lt_succ_of_lt draw.lt_size
  · rw [hlen]
    exact List.length_pos_iff.mpr hne
  · have eS : ({ s with heap := s.heap.push { cls := .type "dict_keyiterator", data := .fields #[.ref d, .int 0 0, .int es.size 0, .int ep 0] } } : Shared).heap.objs.size = s.heap.objs.size + 1 := Heap.size_push ..
    rw [eS]
    refine ⟨fun s1 s2 ⟨h, tk, e, kp⟩ m => ?_, fun i kv s1 s2 ⟨T, t, x, e1, e2, n1, n2, e3⟩ m => ⟨T, t, x, e1, e2, n1, n2, m.heap T _ (fun hm => ?_) e3⟩, fun i rv s1 o Q2 E2 hi hP hJ hst hS hq => ?_, fun i j ki kj s1 Q2 E2 hJ hVi hVj hq => ?_⟩
    · subst e
      refine ⟨s2.heap, s2.toks, ?_, fun b o e => m.heap b o (fun hm => ?_) (kp b o e)⟩
      · obtain ⟨m1, m2, m3, m4, m5⟩ := m
        obtain ⟨h2, g2, d2, t2, o2⟩ := s2
        simp only at m2 m3 m4
        subst m2 m3 m4
        rfl
      · have q : b < s.heap.objs.size := Heap.lt_size e
        rcases List.mem_cons.mp hm with z | z
        · have z : b = s.heap.objs.size + 1 := z
          rw [z] at q
          exact Nat.not_lt_of_le (Nat.le_succ _) q
        · have z : b = s.heap.objs.size := List.mem_singleton.mp z
          rw [z] at q
          exact Nat.lt_irrefl _ q
    · rcases List.mem_cons.mp hm with z | z
      · exact n2 z
      · exact n1 (List.mem_singleton.mp z)
    · obtain ⟨h, tk, rfl, kp⟩ := hJ
      obtain ⟨yy, hy, rfl⟩ := hP
      obtain ⟨x0, hx, hxb⟩ := rx_at rel hy
      rw [← hxb]
      obtain ⟨⟨e, ys, ev, he, ha⟩, hkey⟩ := hg i x0 hx
      have hm := List.mem_of_getElem? hx
      refine min_turn I L (by show X.A.depth < _; omega) (by show X.A.units + 1 + 5 < _; omega) hf hc hbind hN hσ hd hks (hks x0 hm) (by rw [getX_mem nd hm, ev]) he ha kp (fun h' tk' T t kp' hT eT => ?_) hdx hdy hcy
      have hS' : h.get? (s.heap.objs.size + 1) = some o := hS
      obtain ⟨⟨oI, hoI, _⟩, _⟩ := id hst
      have hI' := Heap.lt_size hoI
      have hS2 := Heap.lt_size hS'
      have hI2 : s.heap.objs.size < h.objs.size := hI'
      refine hq _ _ ⟨h', tk', rfl, fun b o e => kp' b o (kp b o e)⟩ (W.frame (i + 1) h h' hst fun b _ o e => kp' b o e) (kp' _ _ hS') ⟨T, t, x0, rfl, hx, Nat.ne_of_gt (Nat.lt_of_lt_of_le hI2 hT), Nat.ne_of_gt (Nat.lt_of_lt_of_le hS2 hT), eT⟩ fun j k' ⟨T, t, x, e1, e2, n1, n2, e3⟩ => ⟨T, t, x, e1, e2, n1, n2, kp' _ _ e3⟩
    · obtain ⟨h, tk, rfl, kp⟩ := hJ
      obtain ⟨T, t, x1, rfl, e2, _, _, e3⟩ := hVi
      obtain ⟨T', t', x2, rfl, e2', _, _, e3'⟩ := hVj
      have I1 : Inv X pins σ H { s with heap := h, toks := tk } := I.kept kp
      have r1 : Reads h (.ref T) (encC (g i).1 (g i).2.1 (g i).2.2) [] := .tuple e3 rfl rfl (.cons (.int _ t) (.cons (read_key I1 (hg i x1 e2).2) .nil))
      have r2 : Reads h (.ref T') (encC (g j).1 (g j).2.1 (g j).2.2) [] := .tuple e3' rfl rfl (.cons (.int _ t') (.cons (read_key I1 (hg j x2 e2').2) .nil))
      exact rcLt_alike _ _ _ _ _ _ [] [] r1 r2 (encC_alike _ _ _ _ _ _) (fun z => by cases z) (by
        show X.A.units + 1 + min 2 2 < cLine
        omega) _ _ _ _ hq
  · obtain ⟨h, tk, rfl, kp⟩ := hJ
    obtain ⟨yy, hy, rfl⟩ := hP
    obtain ⟨x0, hx, hxb⟩ := rx_at rel hy
    rw [← hxb]
    have hpos : 0 < xs'.length := List.length_pos_iff.mpr hne
    refine hQ x0 (List.mem_of_getElem? hx) (fun c y c' h1 hy h2 => ?_) _ (I.kept kp)
    obtain ⟨j, hj⟩ := List.getElem?_of_mem hy
    have hjl := (List.getElem?_eq_some_iff.mp hj).1
    have := (best_least (c := fun i => (g i).1) (n := xs'.length) (bt := fun i j => dataLt (encC (g i).1 (g i).2.1 (g i).2.2) (encC (g j).1 (g j).2.1 (g j).2.2)) (fun a b _ _ => encC_lt.1) (fun a b _ _ => encC_lt.2) (es.size - 1) (by omega)).2 j (by omega)
    rw [(hg _ x0 hx).1.one h1, (hg j y hj).1.one h2] at this
    exact this
/-- min(e.keys(), key=lambda x: (y[x][0], x)): any key of least cost -/
def tMinX (P : Addr) (q : Str) (td : TE) (i : Nat) : TE := fun σ H Q => td σ H fun x H1 => ∃ (ps : Array Value) (d : Addr) (xs' : List (List Int × Addr × V)), x = .ref d ∧ H1 d = some (DXo xs' d) ∧ σ[i]? = some (some (.ref d)) ∧ xs' ≠ [] ∧
  (∀ x ∈ xs', KeyRT H1 x.2.1 x.1 ∧ ∃ c, CostX H1 x.2.2 c) ∧ H1 P = some (.tbl ps) ∧ TbOk H1 q ps ∧
    ∀ c' H2, TbNew H1 P q ps c' H2 → ∀ x ∈ xs', (∀ c y c', CostX H1 x.2.2 c → y ∈ xs' → CostX H1 y.2.2 c' → c ≤ c') → Q (.ref x.2.1) H2
theorem costX_back {H2 : Hp} {P c' : Addr} {q : Str} {ps : Array Value} {v : V} {c : Int} (hP : H P = some (.tbl ps)) (tn : TbNew H P q ps c' H2) (h : CostX H v c) : CostX H2 v c := by
  obtain ⟨e, ys, rfl, h1, h2⟩ := h
  exact ⟨e, ys, rfl, tbNew_keep hP tn h1 (fun z w => by cases w), h2⟩
theorem pe_minX {c P : Addr} {i k : Nat} {x y q : Str} {e : Expr} {td : TE} {params : Arguments} {scope : Scope} {p p1 p2 p3 p4 p5 p6 p7 lpos kpos pos apos cpos : Pos} {k4 k7 : Nat} (hr : Room (k + 2) X.A) (hg : Gl X "min") (hm : X.mg "min" = none) (he : PE X e td) (TB : LamX.TabB X.base X.mg c P) (hcode : X.env.code = .ref c) (hq : q = X.env.qual ++ "<lambda>")
    (L : KeyS X.env.scope scope x y) (hN : X.N[i]? = some y) (hdef : defaultsOf params X.env = ([], []))
    (hbind : ∀ (q : Str) (cl : List (Str × Addr)) (pm cv ctv v : Value), bindArgs (kla_fn "<lambda>" q params (.Tuple [.Subscript (.Subscript (.Name y p1) (.Name x p2) p3) (.Constant (.int 0) k4 p4) p5, .Name x p6] k7 p7) scope cl pm cv ctv) ⟨[v], []⟩ = pure [(x, v)]) (hc : X.calm = true := by rfl)
    (hdx : (x == ("__debug__" : Str)) = false := by decide) (hdy : (y == ("__debug__" : Str)) = false := by decide) (hcy : (y == ("__classdict__" : Str)) = false := by decide)
    (hbase : attributeBase e "keys" X.env (eval e X.env) = eval e X.env := by rfl) (hline : (apos.endLine == cpos.line) = true := by rfl) :
    PE X (.Call (.Name "min" p) [.Call (.Attribute e "keys" apos) [] [] cpos] [⟨some "key", .Lambda params (.Tuple [.Subscript (.Subscript (.Name y p1) (.Name x p2) p3) (.Constant (.int 0) k4 p4) p5, .Name x p6] k7 p7) scope lpos, kpos⟩] pos) (tMinX P q td i) := by
  subst hq
  refine ⟨fun pins s σ H Q I h => ?_⟩
  refine wpAny_Call_Name_kw (ld_blt I hg hm boot_min ?_ (by decide) (by decide))
  refine PyProof.Rows.callWith_kw ?_ rfl rfl rfl rfl
  refine PyProof.Rows.args_cons ?_ rfl
  refine wpAny_Call_method (T := "dict") (id := "dict.keys") hbase rfl hline F.plainAttrs_dict F.slot_dict_keys F.type_dict_keys (thn (he.run pins s σ H _ I h) fun u s1 ⟨x0, H1, I1, rx, ps, d, xs', ex, hd, hσ, hne, hall, hP, hT, q⟩ => ?_)
  subst ex
  obtain rfl : u = Value.ref d := rx
  obtain ⟨t1, t2, t3⟩ := dxo_typeIs I1 (.inl hd)
  refine ⟨t1, t2, ?_⟩
  obtain ⟨hz, hds, nd, xs, rel, dd⟩ := dx_of I1.hok hd (fun x hx => (hall x hx).1.key)
  obtain ⟨es, ep, draw, hsz, hes⟩ := dd.raw
  have I2 : Inv X pins σ H1 { s1 with heap := s1.heap.push { cls := .type "dict_keys", data := .fields #[.ref d] }, toks := s1.toks } := I1.kept (t' := s1.toks) fun b ob z => Heap.get?_push_of_some _ z
  show wpAny _ _ (callWith cpos (.builtin "dict.keys") [.ref d] [] []) _ X.xe s1
  refine method_meetsIn F.slot_dict_keys F.entry_dict_keys rfl (PySem.evalArgs_none ⟨rfl, t1, F.args_dict_keys_1 _, _, meets_dict_keys_raw d t3, ⟨es, ep, draw⟩, ?_⟩)
  have hn1 : H1 s1.heap.objs.size = none := I1.hok.fresh (Nat.le_refl _)
  have hvg : (s1.heap.push { cls := .type "dict_keys", data := .fields #[.ref d] }).get? s1.heap.objs.size = some { cls := .type "dict_keys", data := .fields #[.ref d] } := Heap.get?_push_size _ rfl
  have f1 : FpOk X pins H1 s1.heap.objs.size := I1.fpOk (Nat.le_refl _) hn1
  have I3 := I2.pinned (fp := [s1.heap.objs.size]) (fun b hb => by rw [List.mem_singleton.mp hb]; exact f1) (fun b hb => by
    rw [List.mem_singleton.mp hb]
    exact ⟨_, hvg, fun v z => by cases z⟩)
  refine PyProof.Rows.args_nil ?_
  show wpAny _ _ (evalAll ((do let v ← eval (.Lambda params (.Tuple [.Subscript (.Subscript (.Name y p1) (.Name x p2) p3) (.Constant (.int 0) k4 p4) p5, .Name x p6] k7 p7) scope lpos) X.env; standAt pos; pure v) :: [])) _ _ _
  refine wpAny_evalAll_cons (wpAny_bind (lam_mk I3 TB hcode hP hT hdef (L.has I1.ok) fun f c' pm ctv H2 s2 I4 tn hco hf => wpAny_bind (wpAny_standAt (wpAny_pure (wpAny_evalAll_nil ?_)))))
  show wpAny _ _ (call (.builtin "min") [.ref s1.heap.objs.size] [(Str.ofString "key", .ref f)]) _ _ s2
  have hv2 := (I4.pin _ (List.mem_append_right _ (List.mem_append_right _ (mem_pinsAt (List.mem_singleton.mpr rfl) hvg)))).1
  have I5 := I4.unpinned
  have kd : H2 d = some (DXo xs' d) := tbNew_keep hP tn hd (fun z w => by cases w)
  have cb : ∀ {v c}, CostX H1 v c → CostX H2 v c := fun h => costX_back hP tn h
  refine call_minX I5 hc ⟨_, hv2, rfl, rfl⟩ L hr hf hco (fun v => hbind _ _ _ _ _ v) hN hσ kd hne (fun x hx => ?_) (fun x hx hl s' I' => ?_) hdx hdy hcy
  · obtain ⟨⟨r, t, h1, h2⟩, c, h3⟩ := hall x hx
    exact ⟨⟨r, t, tbNew_keep hP tn h1 (fun z w => by cases w), h2⟩, c, cb h3⟩
  · exact ⟨.ref x.2.1, H2, I', rfl, q c' H2 tn x hx fun c y c' h1 h2 h3 => hl c y c' (cb h1) h2 (cb h3)⟩
end
end L2
namespace L2
open PySem PySem.Spec PyProof.Rows PySem.W
/-! ### against an empty display -/
theorem raw_samePairs {prog : Program} {w : World} {A : Around} {E : Value → Shared → Prop} {s : Shared} {nm : String} {a b : Addr} {es es' : Array DictEntry} {ep ep' : Nat} {Q : Bool → Shared → Prop} (ha : (a == sysModules) = false) (hb : (b == sysModules) = false)
    (da : s.heap.DictRaw a es ep) (db : s.heap.DictRaw b es' ep') (h0 : es'.size = 0) (h : Q (es.size == 0) s) : wpAny (model prog w) A (Builtin.Dict.samePairs nm a b) Q E s := by
  obtain ⟨oa, hoa, _, hda⟩ := da
  obtain ⟨ob, hob, _, hdb⟩ := db
  unfold Builtin.Dict.samePairs Builtin.Dict.showsAll
  rw [if_neg (show ¬ (a == sysModules) = true by rw [ha]; exact Bool.false_ne_true), if_neg (show ¬ (b == sysModules) = true by rw [hb]; exact Bool.false_ne_true)]
  refine wpAny_bind (wpAny_pure (wpAny_bind (wpAny_pure ?_)))
  refine wpAny_bind (wpAny_dictEntries hoa hda ?_)
  dsimp only
  refine wpAny_bind (wpAny_dictEntries hob hdb ?_)
  by_cases hsz : es.size = 0
  · have hsz2 : es.size = es'.size := by rw [hsz, h0]
    rw [if_neg (by rw [hsz2]; simp)]
    refine wpAny_bind (wpAny_dictEpoch hoa hda ?_)
    refine wpAny_bind ?_
    rw [Std.Legacy.Range.forIn_eq_forIn_range']
    simp only [Std.Legacy.Range.size, Nat.sub_zero, Nat.add_sub_cancel, Nat.div_one]
    rw [hsz]
    have e : (es.size == 0) = true := by rw [hsz]; rfl
    rw [e] at h
    exact wpAny_pure (wpAny_pure h)
  · rw [if_pos (by rw [h0]; simpa using hsz)]
    have hbf : (es.size == 0) = false := by simpa using hsz
    rw [hbf] at h
    exact wpAny_bind (wpAny_rule (wpAny_pure h))
theorem raw_ne {prog : Program} {w : World} {A : Around} {E : Value → Shared → Prop} {s : Shared} {a b : Addr} {es es' : Array DictEntry} {ep ep' : Nat} {Q : Value → Shared → Prop} (ha : (a == sysModules) = false) (hb : (b == sysModules) = false)
    (da : s.heap.DictRaw a es ep) (db : s.heap.DictRaw b es' ep') (hu : A.units < cLine) (h0 : es'.size = 0) (h : Q (.bool (!(es.size == 0))) s) : wpAny (model prog w) A (compareOp .NotEq (.ref a) (.ref b)) Q E s := by
  refine wpAny_richCompare_same_room (op := .NotEq) da.typeIs db.typeIs PySem.F.slot_dict_ne (wpAny_call_entry PySem.F.slot_dict_ne da.typeIs PySem.F.entry_dict_ne ?_ (PySem.F.args_dict_ne_2 _ _)) hu
  show wpAny _ _ (Builtin.Dict.dictSlotArgs "__ne__" ⟨[.ref a, .ref b], []⟩ >>= _) _ _ s
  refine wpAny_bind ?_
  unfold Builtin.Dict.dictSlotArgs
  refine wpAny_bind (wpAny_notOrdered_dict da.typeIs ?_)
  show wpAny _ _ (pure (Value.ref a, Value.ref b)) _ _ s
  refine wpAny_pure ?_
  refine wpAny_bind (wpAny_isInstance (T := "dict") db.typeIs PySem.F.sub_dict_dict ?_)
  simp only [Bool.not_true, Bool.false_eq_true, if_false]
  refine wpAny_bind (wpAny_pure (wpAny_bind (wpAny_pure ?_)))
  refine wpAny_bind (raw_samePairs ha hb da db h0 ?_)
  refine wpAny_pure ⟨_, rfl, ?_, ?_⟩
  · exact fun x => nomatch x
  · simpa using h
theorem dx_size {P : Program} {w : World} {H : Hp} {h : Heap} {d : Addr} {xs' : List (List Int × Addr × V)} (ok : HOk P w H h) (e : IsDX H d xs') : (d == sysModules) = false ∧ ∃ es ep, h.DictRaw d es ep ∧ es.size = xs'.length := by
  obtain ⟨_, hd, _, xs, rel, o, es, ep, ho, hx, hdt, he⟩ := dx_raw ok e
  refine ⟨hd, es, ep, ⟨o, ho, hx, hdt⟩, ?_⟩
  have := congrArg List.length he
  rw [List.length_map, Array.length_toList] at this
  rw [this, Paired.length rel]
/-- e != {} -/
def tXNe (td : TE) : TE := fun σ H Q => td σ H fun x H1 => ∃ a xs', x = .ref a ∧ IsDX H1 a xs' ∧ ∀ p, H1 p = none → Q (.bl (!xs'.isEmpty)) (upd H1 p (DXo [] p))
theorem pc_xne {X : Cx} {o : Expr} {pos : Pos} {td : TE} (hu : X.A.units + 1 < cLine) (ho : PE X o td) : PC X .NotEq o (.Dict [] [] pos) (tXNe td) := by
  refine ⟨fun pins s σ H Q I h => ?_⟩
  refine thn (ho.run pins s σ H _ I h) fun u s1 ⟨x, H1, I1, rx, a, xs', ex, e, q1⟩ => ?_
  subst ex
  obtain rfl : u = Value.ref a := rx
  refine thn ((pe_xnew (X := X) (pos := pos)).run pins s1 σ H1 (fun y H2 => ∃ p, y = .ref p ∧ H1 p = none ∧ H2 = upd H1 p (DXo [] p)) I1 fun p hp => ⟨p, rfl, hp, rfl⟩) fun v s2 ⟨y, H2, I2, ry, p, ey, hp, eH⟩ => ?_
  subst ey eH
  obtain rfl : v = Value.ref p := ry
  have ne : a ≠ p := fun z => by
    rcases e with e | ⟨_, e⟩ <;> rw [z, hp] at e <;> cases e
  have e2 : IsDX (upd H1 p (DXo [] p)) a xs' := by
    rcases e with e | ⟨o, e⟩
    · exact .inl (by rw [upd_ne ne]; exact e)
    · exact .inr ⟨o, by rw [upd_ne ne]; exact e⟩
  obtain ⟨ha, es, ep, r1, z1⟩ := dx_size I2.hok e2
  obtain ⟨hb, es', ep', r2, z2⟩ := dx_size (xs' := []) I2.hok (.inl upd_same)
  refine raw_ne ha hb r1 r2 (by omega) z2 ⟨.bl (!xs'.isEmpty), _, I2, ?_, q1 p hp⟩
  show Value.bool _ = Value.bool _
  rw [z1]
  cases xs' <;> rfl
/-! ### sorted(e.keys()) -/
def encK : List Int → PyData
  | [r, t] => .tuple [.int r, .bool (t == 1)]
  | _ => .tuple [.int 0, .bool false]
theorem encK_shape (ks : List Int) : ∃ r t, encK ks = .tuple [.int r, .bool t] := by
  unfold encK
  split
  · exact ⟨_, _, rfl⟩
  · exact ⟨_, _, rfl⟩
theorem encK_rt {r : Int} {t : Bool} : encK [r, if t then 1 else 0] = .tuple [.int r, .bool t] := by
  cases t <;> rfl
theorem each_map_self {α β γ : Type} {R : γ → β → Prop} {f : α → γ} {g : α → β} : ∀ {l : List α}, (∀ x ∈ l, R (f x) (g x)) → EachIs R (l.map f) (l.map g)
  | [], _ => .nil
  | x :: l, h => .cons (h x List.mem_cons_self) (each_map_self fun y hy => h y (List.mem_cons_of_mem _ hy))
theorem each_refs {β : Type} {f : β → Addr} : ∀ {out : List Value} {bs : List β}, EachIs (fun v b => v = .ref (f b)) out bs → out = bs.map fun b => .ref (f b)
  | _, _, .nil => rfl
  | _, _, .cons r t => by rw [List.map_cons, ← each_refs t, r]
theorem vals_refF {β : Type} {f : β → Addr} : ∀ {bs : List β}, Vals (bs.map fun b => V.ref (f b)) (bs.map fun b => Value.ref (f b))
  | [] => .nil
  | b :: bs => .cons rfl vals_refF
def tXSort (td : TE) : TE := fun σ H Q => td σ H fun x H1 => ∃ (d : Addr) (xs' : List (List Int × Addr × V)), x = .ref d ∧ H1 d = some (DXo xs' d) ∧ (∀ x ∈ xs', KeyRT H1 x.2.1 x.1) ∧ xs'.length ≤ 100000 ∧
  ∀ (ys : List (List Int × Addr × V)) (p : Addr), ys.Perm xs' → H1 p = none → Q (.ref p) (upd H1 p (.lst (ys.map fun x => .ref x.2.1)))
section
variable {X : Cx} {pins : List (Addr × Obj)} {σ : St} {H : Hp} {s : Shared}
theorem call_sortX {r d : Addr} {xs' : List (List Int × Addr × V)} {Q : Value → Shared → Prop} {E : Value → Shared → Prop} (I : Inv X pins σ H s) (hcm : X.calm = true) (hu : X.A.units + 20 < cLine) (hr : s.heap.objs.size = r + 1) (hvw : KdlKeysView s.heap r d) (hd : H d = some (DXo xs' d)) (hall : ∀ x ∈ xs', KeyRT H x.2.1 x.1) (hz : xs'.length ≤ 100000)
    (hQ : ∀ (ys : List (List Int × Addr × V)) (p : Addr) (s' : Shared), ys.Perm xs' → H p = none → Inv X pins σ (upd H p (.lst (ys.map fun x => .ref x.2.1))) s' → Q (.ref p) s') :
    wpAny (model X.prog X.w) X.A (call (.builtin "sorted") [.ref r]) Q E s := by
  have hks : KeysX H xs' := fun x hx => (hall x hx).key
  obtain ⟨hz', hds, nd, xs, rel, dd⟩ := dx_of I.hok hd hks
  obtain ⟨es, ep, draw, hsz, hes⟩ := dd.raw
  have hlen : es.size = xs'.length := by rw [hsz, List.length_map, Paired.length rel]
  have hzz : xs'.length ≤ sizeLine := hz'
  refine Calls.call_function_entry kind_sorted plain_sorted entry_sorted (args_sorted1 _) ?_
  unfold Builtin.«sorted»
  refine wpAny_bind (m := checkCount "sorted" 1 1 _) (wpAny_pure ?_)
  refine wpAny_bind (kdu_collect (A := X.A.in1) (KdlSrc.rawKeys (prog := X.prog) (w := X.w) (r := r) (d := d) (es := es) (ep := ep)) (show X.A.in1.handled = none from I.ok.hd hcm) ⟨hvw, draw⟩ (by rw [hlen]; exact hzz) fun h1 tk acc k1 hacc => ?_)
  have hal : acc.toList = xs'.map fun x => Value.ref x.2.1 := by
    refine List.ext_getElem? fun j => ?_
    rw [List.getElem?_map, Array.getElem?_toList]
    cases hj : xs'[j]? with
    | none =>
      have := List.getElem?_eq_none_iff.mp hj
      exact Array.getElem?_eq_none (by have := hacc.1; omega)
    | some x =>
      have hjl := (List.getElem?_eq_some_iff.mp hj).1
      have hja : j < acc.size := by have := hacc.1; omega
      obtain ⟨hi, e⟩ := hacc.2 j acc[j] (Array.getElem?_eq_getElem hja)
      obtain ⟨y, hy, e1, _⟩ := hes j hi
      obtain ⟨x2, hx2, e2⟩ := rx_at rel hy
      rw [hj] at hx2
      cases hx2
      rw [Array.getElem?_eq_getElem hja, e, e1, ← e2]
      rfl
  rw [hal]
  refine wpAny_bind (wpAny_newList ?_ (by rw [List.length_map]; exact hzz))
  have I1 : Inv X pins σ H { s with heap := h1, toks := tk } := I.kept k1
  have I2 : Inv X pins σ H { s with heap := h1.push (seqObj "list" (xs'.map fun x => Value.ref x.2.1).toArray 0), toks := tk } := I1.kept (fun b o e => Heap.get?_push_of_some _ e)
  have hoL : (h1.push (seqObj "list" (xs'.map fun x => Value.ref x.2.1).toArray 0)).get? h1.objs.size = some (seqObj "list" (xs'.map fun x => Value.ref x.2.1).toArray 0) := Heap.get?_push_size _ rfl
  have hb1 : s.heap.objs.size ≤ h1.objs.size := by
    obtain ⟨o, ho, _⟩ := id hvw
    have := Heap.lt_size (k1 _ _ ho)
    rw [hr]
    exact this
  have hn : H h1.objs.size = none := I.hok.fresh hb1
  have er : EachIs (fun v (b : List Int × Addr × V) => ∃ as, Reads (h1.push (seqObj "list" (xs'.map fun x => Value.ref x.2.1).toArray 0)) v (encK b.1) as ∧ h1.objs.size ∉ as) (xs'.map fun x => Value.ref x.2.1) xs' := by
    have := each_map_self (R := fun v (b : List Int × Addr × V) => ∃ as, Reads (h1.push (seqObj "list" (xs'.map fun x => Value.ref x.2.1).toArray 0)) v (encK b.1) as ∧ h1.objs.size ∉ as) (f := fun x : List Int × Addr × V => Value.ref x.2.1) (g := fun x => x) (l := xs') (fun x hx => by
      obtain ⟨r, t, e1, e2⟩ := hall x hx
      rw [e2, encK_rt]
      exact ⟨[], read_key I2 e1, fun z => nomatch z⟩)
    rwa [List.map_id'] at this
  have eR : EachIs (fun v (b : List Int × Addr × V) => v = .ref b.2.1) (xs'.map fun x => Value.ref x.2.1) xs' := by
    have := each_map_self (R := fun v (b : List Int × Addr × V) => v = .ref b.2.1) (f := fun x : List Int × Addr × V => Value.ref x.2.1) (g := fun x => x) (l := xs') (fun x hx => rfl)
    rwa [List.map_id'] at this
  refine wpAny_bind (wpAny_holding (list_sort_data (β := List Int × Addr × V) (R := fun v b => v = .ref b.2.1) (enc := fun b => encK b.1) (bs := xs') hoL eR er (AllAlike.of fun b b' => ?_) (Sortable.tuples fun b => ?_) hzz (fun b _ => ?_) fun out ho hE => ?_))
  · obtain ⟨r, t, e⟩ := encK_shape b.1
    obtain ⟨r', t', e'⟩ := encK_shape b'.1
    rw [e, e']
    simp [alike, alikeAll]
  · obtain ⟨r, t, e⟩ := encK_shape b.1
    exact ⟨_, _, e⟩
  · obtain ⟨r, t, e⟩ := encK_shape b.1
    rw [e]
    show X.A.units + 1 + 1 + 1 < cLine
    omega
  · have eo := each_refs hE
    obtain ⟨c, hc⟩ := sortedHeap_at (vs := xs'.map fun x => Value.ref x.2.1) (out := out.toArray) hoL
    refine wpAny_pure ⟨_, rfl, hQ (xs'.mergeSort (dataLe false fun b => encK b.1)) h1.objs.size _ (List.mergeSort_perm _ _) hn (I.laid (t' := tk) (fun b o e => ?_) hb1 ⟨?_, out, c, ?_, hc⟩)⟩
    · have q := k1 b o e
      have hlt := Heap.lt_size q
      rw [sortedHeap_old (Nat.ne_of_lt hlt) (by rw [size_push']; exact Nat.lt_succ_of_lt hlt)]
      exact Heap.get?_push_of_some _ q
    · rw [List.length_map, List.length_mergeSort]
      exact hzz
    · rw [eo]
      exact vals_refF
theorem pe_xsort {e : Expr} {td : TE} {p pos apos cpos : Pos} (hg : Gl X "sorted") (hm : X.mg "sorted" = none) (he : PE X e td) (hu : X.A.units + 20 < cLine) (hc : X.calm = true := by rfl)
    (hbase : attributeBase e "keys" X.env (eval e X.env) = eval e X.env := by rfl) (hline : (apos.endLine == cpos.line) = true := by rfl) : PE X (.Call (.Name "sorted" p) [.Call (.Attribute e "keys" apos) [] [] cpos] [] pos) (tXSort td) := by
  refine ⟨fun pins s σ H Q I h => ?_⟩
  refine Call_ (ld_blt I hg hm boot_sorted ?_)
  refine PyProof.Rows.callWith_builtin1 (PyProof.Rows.args_cons ?_ rfl) rfl rfl
  refine wpAny_Call_method (T := "dict") (id := "dict.keys") hbase rfl hline F.plainAttrs_dict F.slot_dict_keys F.type_dict_keys (thn (he.run pins s σ H _ I h) fun u s1 ⟨x, H1, I1, rx, d, xs', ex, hd, hall, hz, q⟩ => ?_)
  subst ex
  obtain rfl : u = Value.ref d := rx
  obtain ⟨t1, t2, t3⟩ := dxo_typeIs I1 (.inl hd)
  refine ⟨t1, t2, ?_⟩
  obtain ⟨_, es, ep, draw, _⟩ := dx_size I1.hok (.inl hd)
  have I2 : Inv X pins σ H1 { s1 with heap := s1.heap.push { cls := .type "dict_keys", data := .fields #[.ref d] }, toks := s1.toks } := I1.kept (t' := s1.toks) fun b ob z => Heap.get?_push_of_some _ z
  show wpAny _ _ (callWith cpos (.builtin "dict.keys") [.ref d] [] []) _ X.xe s1
  refine method_meetsIn F.slot_dict_keys F.entry_dict_keys rfl (PySem.evalArgs_none ⟨rfl, t1, F.args_dict_keys_1 _, _, meets_dict_keys_raw d t3, ⟨es, ep, draw⟩, ?_⟩)
  refine PyProof.Rows.args_nil ?_
  exact call_sortX I2 hc hu (Heap.size_push ..) ⟨_, Heap.get?_push_size _ rfl, rfl, rfl⟩ hd hall hz fun ys p s' pm hp I' => ⟨.ref p, _, I', rfl, q ys p pm hp⟩
end
end L2
namespace L2
open PySem PySem.Spec PyProof.Rows PySem.W
/-! ### for k in d, d locked -/
def Itkx (d : Addr) (o : Obj) (xs' : List (List Int × Addr × V)) : It :=
  ⟨fun i H => H d = some (.frz o (DXo xs' d)) ∧ i < xs'.length, fun i H x H' => H' = H ∧ ∃ e, xs'[i]? = some e ∧ x = .ref e.2.1, fun i H => H d = some (.frz o (DXo xs' d)) ∧ xs'.length ≤ i⟩
theorem Inv.frzX {X : Cx} {pins : List (Addr × Obj)} {σ : St} {H : Hp} {s : Shared} {d : Addr} {o : Obj} {xs' : List (List Int × Addr × V)} (I : Inv X pins σ H s) (h : H d = some (.frz o (DXo xs' d))) :
    (d == sysModules) = false ∧ s.heap.get? d = some o ∧ o.ExactDict ∧ ∃ (es : Array DictEntry) (ep : Nat), o.data = .dict es ep ∧ es.size = xs'.length ∧ ∀ (i : Nat) (x : List Int × Addr × V), xs'[i]? = some x → ∃ en : DictEntry, es[i]? = some en ∧ en.key = .ref x.2.1 := by
  obtain ⟨hd, ⟨_, hs, _, xs, pr, o', es, ep, ho, hx, hdt, he⟩, _⟩ := (show ObjOk X.prog X.w H s.heap d (.frz o (DXo xs' d)) from I.hok d _ h)
  rw [hd] at ho
  cases ho
  refine ⟨hs, hd, hx, es, ep, hdt, ?_, fun i x e => ?_⟩
  · have := congrArg List.length he
    rw [List.length_map, Array.length_toList] at this
    rw [this, Paired.length pr]
  · obtain ⟨b, hb, e1, e2, _⟩ := paired_get pr e
    have q := congrArg (fun l => l[i]?) he
    simp only [Array.getElem?_toList, List.getElem?_map, hb, Option.map_some] at q
    exact ⟨entN b, q, by rw [e2]; rfl⟩
section
variable {P : Program} {w : World} {K : PySem.W.Frag} {tg : Expr} {d : Addr} {o : Obj} {es : Array DictEntry} {ep : Nat}
theorem turn_keysX {xs' : List (List Int × Addr × V)} (it : Addr) (hod : o.data = .dict es ep) : Turn P w K tg (Itkx d o xs') [it] it (fun i h => h.IsKeyIter it d i xs'.length ep) where
  mem := by simp
  obj := fun i h st b hb => by
    have e : b = it := by simpa using hb
    subst e
    obtain ⟨oi, e, c, dd⟩ := st
    exact ⟨oi, e, fun v z => by rw [dd] at z; cases z⟩
  keep := fun i h h' st k => st.at fun oi e => k it (by simp) oi e
  item := by
    intro X hP hw hK hc i pins s σ H E I hf st hg
    subst hP hw hK
    obtain ⟨hd, hi⟩ := hg
    obtain ⟨f0, f1, f2, f3, f4, f5⟩ := hf it (by simp)
    obtain ⟨hs, hgd, hx, es', ep', hdt, hsz, ent⟩ := I.frzX hd
    obtain ⟨rfl, rfl⟩ := dict_ep hod hdt
    obtain ⟨x, hkv⟩ : ∃ p, xs'[i]? = some p := ⟨xs'[i], List.getElem?_eq_getElem hi⟩
    obtain ⟨en, hen, hkey⟩ := ent i x hkv
    refine next_key_item st hgd hdt hsz hen fun h' st' sb => ?_
    have I1 : Inv X pins σ H { s with heap := h' } := I.turned (t' := s.toks) (fun b ob hb e => (sb.2 b hb).trans e) f0 f1 f3 f4 f5
    obtain ⟨oi, e, c, dd⟩ := id st'
    exact ⟨en.key, rfl, go_of (s := { s with heap := h' }) e c dd (by decide) ⟨.ref x.2.1, H, I1, hkey, ⟨rfl, x, hkv, rfl⟩, st', fun b hb => (hf b hb).1⟩⟩
  done := by
    intro X hP hw hK hc i pins s σ H E I hf st hg
    subst hP hw hK
    obtain ⟨hd, hi⟩ := hg
    obtain ⟨f0, f1, f2, f3, f4, f5⟩ := hf it (by simp)
    obtain ⟨hs, hgd, hx, es', ep', hdt, hsz, ent⟩ := I.frzX hd
    obtain ⟨rfl, rfl⟩ := dict_ep hod hdt
    exact next_key_end (I.ok.hd hc) st hgd hdt hsz hi fun h' eb => ⟨rfl, I.turned (t' := s.toks) (fun b ob hb e => eb b ob hb e) f0 f1 f3 f4 f5⟩
  self := fun A i s Q E st h => wpAny_pyIter_keyiter st h
end
def iKeysX (td : TE) : TI := fun σ H R => td σ H fun x H1 => ∃ d o xs', x = .ref d ∧ H1 d = some (.frz o (DXo xs' d)) ∧ R (Itkx d o xs') H1
theorem pi_keysX {X : Cx} {tg e : Expr} {td : TE} (he : PE X e td) : PI X tg e (iKeysX td) := by
  refine ⟨fun pins s σ H R I h => ?_⟩
  refine thn (he.run pins s σ H _ I h) fun u s1 ⟨x, H1, I1, rx, d, o, xs', ex, hd, q⟩ => ?_
  subst ex
  obtain rfl : u = Value.ref d := rx
  obtain ⟨hs, hgd, hx, es, ep, hdt, hsz, ent⟩ := I1.frzX hd
  refine iter_keys hs hgd hx hdt (pi_one (tk := s1.toks) I1 _ (turn_keysX _ hdt) ⟨_, Heap.get?_push_size _ rfl, rfl, ?_⟩ q)
  rw [hsz] <;> rfl
end L2
namespace Pr
open PySem L2
/-! ### own dicts keyed by an int and a truth -/
abbrev KB := Int × Bool
def ksB (k : KB) : List Int := [k.1, if k.2 then 1 else 0]
abbrev kbD (k : KB) : D := .tup [.int k.1, .bl k.2]
theorem ksB_inj {a b : KB} (h : ksB a = ksB b) : a = b := by
  obtain ⟨a1, a2⟩ := a
  obtain ⟨b1, b2⟩ := b
  unfold ksB at h
  injection h with h1 h2
  injection h2 with h2
  dsimp only at h1 h2
  subst h1
  cases a2 <;> cases b2 <;> first | rfl | cases h2
def EntX (K : Fg) (H0 : Hp) (x : List Int × Addr × V) (y : KB × D) : Prop := x.1 = ksB y.1 ∧ H0 x.2.1 = some (.tup [.int y.1.1, .bl y.1.2]) ∧ Den K H0 x.2.2 y.2
abbrev EntsX (K : Fg) (H0 : Hp) : List (List Int × Addr × V) → List (KB × D) → Prop := Paired (EntX K H0)
def dxF (d : Addr) (kvs : List (KB × D)) (K : Fg) (H0 : Hp) (o : HO) : Prop := ∃ xs', o = DXo xs' d ∧ EntsX K H0 xs' kvs
theorem EntsX.up {K : Fg} {H0 H1 : Hp} (e : Same H0 H1) {xs' : List (List Int × Addr × V)} {kvs : List (KB × D)} (r : EntsX K H0 xs' kvs) : EntsX K H1 xs' kvs := by
  induction r with
  | nil => exact .nil
  | cons h t ih => exact .cons ⟨h.1, e _ _ h.2.1, h.2.2.up e⟩ ih
/-- the dict at d tells kvs -/
def dx (d : Addr) (kvs : List (KB × D)) : Ob := .ext (dxF d kvs) fun K H0 H1 o e ⟨xs', a, r⟩ => ⟨xs', a, r.up e⟩
def getB (kvs : List (KB × D)) (k : KB) : Option D := (kvs.find? fun x => decide (x.1 = k)).map (·.2)
def putB (kvs : List (KB × D)) (k : KB) (v : D) : List (KB × D) := if (getB kvs k).isSome then kvs.map (fun x => if x.1 = k then (x.1, v) else x) else kvs ++ [(k, v)]
def dropB (kvs : List (KB × D)) (k : KB) : List (KB × D) := kvs.filter fun x => decide (x.1 ≠ k)
section
variable {K : Fg} {E E' : XK} {G : Sl} {O : Om} {N : En} {td ty tv tk te : TE} {P : D → Om → Prop} {H0 H : Hp}
theorem hu20 {n c : Nat} (h : n + 64 < c) : n + 20 < c := by omega
theorem entx_get {xs' : List (List Int × Addr × V)} {kvs : List (KB × D)} (r : EntsX K H0 xs' kvs) (k : KB) : (getB kvs k = none ∧ getX xs' (ksB k) = none) ∨ ∃ d v, getB kvs k = some d ∧ getX xs' (ksB k) = some v ∧ Den K H0 v d := by
  induction r with
  | nil => exact .inl ⟨rfl, rfl⟩
  | @cons p q ps qs h t ih =>
    obtain ⟨h1, h2, h3⟩ := h
    by_cases e : q.1 = k
    · refine .inr ⟨q.2, p.2.2, ?_, ?_, h3⟩
      · simp [getB, List.find?_cons, e]
      · simp [getX, List.find?_cons, h1, e]
    · have e2 : ¬ p.1 = ksB k := fun z => e (ksB_inj (h1.symm.trans z))
      have b : getB (q :: qs) k = getB qs k := by simp [getB, List.find?_cons, e]
      have c : getX (p :: ps) (ksB k) = getX ps (ksB k) := by simp [getX, List.find?_cons, e2]
      rw [b, c]
      exact ih
theorem entx_some {xs' : List (List Int × Addr × V)} {kvs : List (KB × D)} (r : EntsX K H0 xs' kvs) (k : KB) : (getX xs' (ksB k)).isSome = (getB kvs k).isSome := by
  rcases entx_get r k with ⟨a, b⟩ | ⟨d, v, a, b, _⟩ <;> rw [a, b] <;> rfl
theorem entx_put {xs' : List (List Int × Addr × V)} {kvs : List (KB × D)} (r : EntsX K H0 xs' kvs) {k : KB} {b : Addr} {v : V} {d : D} (hb : H0 b = some (.tup [.int k.1, .bl k.2])) (hv : Den K H0 v d) : EntsX K H0 (putX xs' (ksB k) b v) (putB kvs k d) := by
  have g := entx_some r k
  unfold putX putB
  rw [g]
  cases hs : (getB kvs k).isSome with
  | true =>
    rw [if_pos rfl, if_pos rfl]
    clear g hs
    induction r with
    | nil => exact .nil
    | @cons p q ps qs h t ih =>
      obtain ⟨h1, h2, h3⟩ := h
      rw [List.map_cons, List.map_cons]
      refine .cons ?_ ih
      by_cases e : q.1 = k
      · rw [if_pos e, if_pos (by rw [h1, e])]
        exact ⟨h1, h2, hv⟩
      · rw [if_neg e, if_neg (fun z => e (ksB_inj (h1.symm.trans z)))]
        exact ⟨h1, h2, h3⟩
  | false =>
    rw [if_neg (by decide), if_neg (by decide)]
    exact Paired.snoc r ⟨rfl, hb, hv⟩
theorem entx_drop {xs' : List (List Int × Addr × V)} {kvs : List (KB × D)} (r : EntsX K H0 xs' kvs) (k : KB) : EntsX K H0 (dropX xs' (ksB k)) (dropB kvs k) := by
  unfold dropX dropB
  induction r with
  | nil => exact .nil
  | @cons p q ps qs h t ih =>
    obtain ⟨h1, h2, h3⟩ := h
    by_cases e : q.1 = k
    · rw [List.filter_cons, List.filter_cons, if_neg (by simp [h1, e]), if_neg (by simp [e])]
      exact ih
    · have e2 : ¬ p.1 = ksB k := fun z => e (ksB_inj (h1.symm.trans z))
      rw [List.filter_cons, List.filter_cons, if_pos (by simp [e2]), if_pos (by simp [e])]
      exact .cons ⟨h1, h2, h3⟩ ih
theorem entx_keys {xs' : List (List Int × Addr × V)} {kvs : List (KB × D)} (e : Same H0 H) (r : EntsX K H0 xs' kvs) : ∀ x ∈ xs', KeyRT H x.2.1 x.1 := by
  induction r with
  | nil => intro x hx; exact nomatch hx
  | @cons p q ps qs h t ih =>
    intro x hx
    rcases List.mem_cons.mp hx with z | hx
    · subst z
      exact ⟨q.1.1, q.1.2, e _ _ h.2.1, h.1⟩
    · exact ih x hx
theorem entx_mem {xs' : List (List Int × Addr × V)} {kvs : List (KB × D)} (r : EntsX K H0 xs' kvs) : ∀ x ∈ xs', ∃ y ∈ kvs, EntX K H0 x y := by
  induction r with
  | nil => intro x hx; exact nomatch hx
  | @cons p q ps qs h t ih =>
    intro x hx
    rcases List.mem_cons.mp hx with z | hx
    · subst z
      exact ⟨q, List.mem_cons_self, h⟩
    · obtain ⟨y, h1, h2⟩ := ih x hx
      exact ⟨y, List.mem_cons_of_mem _ h1, h2⟩
theorem entx_mem' {xs' : List (List Int × Addr × V)} {kvs : List (KB × D)} (r : EntsX K H0 xs' kvs) : ∀ y ∈ kvs, ∃ x ∈ xs', EntX K H0 x y := by
  induction r with
  | nil => intro x hx; exact nomatch hx
  | @cons p q ps qs h t ih =>
    intro x hx
    rcases List.mem_cons.mp hx with z | hx
    · subst z
      exact ⟨p, List.mem_cons_self, h⟩
    · obtain ⟨y, h1, h2⟩ := ih x hx
      exact ⟨y, List.mem_cons_of_mem _ h1, h2⟩
theorem entx_ks {xs' : List (List Int × Addr × V)} {kvs : List (KB × D)} (r : EntsX K H0 xs' kvs) : xs'.map (·.1) = (kvs.map (·.1)).map ksB := by
  induction r with
  | nil => rfl
  | cons h t ih =>
    rw [List.map_cons, List.map_cons, List.map_cons, ← ih, h.1]
theorem keyRT_T {xs' : List (List Int × Addr × V)} (h : ∀ x ∈ xs', KeyRT H x.2.1 x.1) : KeysX H xs' := fun x hx => (h x hx).key
/-- a key handed in -/
theorem kb_at {v : V} {k : KB} (e : Same H0 H) (r : Den K H0 v (kbD k)) : ∃ b, v = .ref b ∧ H0 b = some (.tup [.int k.1, .bl k.2]) ∧ KeyT H b (ksB k) := by
  obtain ⟨b, vs, rfl, hb, t⟩ := r.tup_out
  obtain ⟨v1, vs, rfl, r1, t⟩ := t.cons_out
  obtain ⟨v2, vs, rfl, r2, t⟩ := t.cons_out
  obtain rfl := t.nil_out
  obtain rfl := r1.int_eq
  obtain rfl := r2.bl_eq
  exact ⟨b, rfl, hb, _, e _ _ hb, rfl⟩
theorem own_dx {d : Addr} {kvs : List (KB × D)} (w : Wd K H0 H O) (h : O d = some (dx d kvs)) : H0 d = none ∧ ∃ xs', H d = some (DXo xs' d) ∧ EntsX K H0 xs' kvs := by
  obtain ⟨h0, o, ho, xs', rfl, r⟩ := w.own d _ h
  exact ⟨h0, xs', ho, r⟩
theorem em_xnew (k : ∀ p, O p = none → P (.ref p) (oput O p (dx p []))) : EvM K tXNew G O P := fun σ H0 H w s Q q p hp =>
  q (.ref p) (.ref p) H0 _ _ (k p (w.free hp)) (Same.refl _) (w.put (b := dx p []) (w.le.free hp) ⟨[], rfl, .nil⟩) (.ref p)
theorem em_xone (h : ∀ p, O p = none → EvM K tk G (oput O p (dx p [])) fun y O1 => EvM K tv G O1 fun v O2 => ∃ k, y = kbD k ∧ O2 p = some (dx p []) ∧ P (.ref p) (oput O2 p (dx p [(k, v)]))) : EvM K (tXOne tk tv) G O P := fun σ H0 H w s Q q p hp =>
  h p (w.free hp) σ H0 _ (w.put (b := dx p []) (w.le.free hp) ⟨[], rfl, .nil⟩) s _ fun x y H1 H1' O1 k1 s1 w1 r1 => k1 σ H1 H1' w1 (s.up s1) _ fun v dv H2 H2' O2 ⟨k, ey, hp2, k2⟩ s2 w2 r2 => by
    subst ey
    obtain ⟨b, rfl, hb, hkt⟩ := kb_at w2.le (r1.up s2)
    obtain ⟨h0, xs', hx, re⟩ := own_dx w2 hp2
    cases re
    refine ⟨b, ksB k, rfl, hkt, hx, q (.ref p) (.ref p) H2 _ _ k2 (s1.trans s2) (w2.put (b := dx p [(k, dv)]) h0 ⟨_, rfl, .cons ⟨rfl, hb, r2⟩ .nil⟩) (.ref p)⟩
theorem em_xget (h : EvM K td G O fun x O1 => ∃ d, x = .ref d ∧ EvM K ty G O1 fun y O2 => ∃ kvs k v, y = kbD k ∧ O2 d = some (dx d kvs) ∧ getB kvs k = some v ∧ P v O2) : EvM K (tXGet td ty) G O P := fun σ H0 H w s Q q =>
  h σ H0 H w s _ fun x d1 H1 H1' O1 ⟨d, e, k1⟩ s1 w1 r1 => by
    subst e
    obtain rfl := r1.ref_eq
    refine k1 σ H1 H1' w1 (s.up s1) _ fun y dy H2 H2' O2 ⟨kvs, k, v, ey, hd, hg, k2⟩ s2 w2 r2 => ?_
    subst ey
    obtain ⟨b, rfl, hb, hkt⟩ := kb_at w2.le r2
    obtain ⟨h0, xs', hx, re⟩ := own_dx w2 hd
    rcases entx_get re k with ⟨z, _⟩ | ⟨dv, vv, z, g, rv⟩
    · rw [hg] at z; cases z
    · rw [hg] at z
      cases z
      exact ⟨d, vv, rfl, ⟨xs', ksB k, b, .inl hx, keyRT_T (entx_keys w2.le re), rfl, hkt, g.symm⟩, q vv v H2 H2' O2 k2 (s1.trans s2) w2 rv⟩
theorem em_xin (h : EvM K ty G O fun y O1 => EvM K td G O1 fun x O2 => ∃ d kvs k, x = .ref d ∧ y = kbD k ∧ O2 d = some (dx d kvs) ∧ P (.bl (getB kvs k).isSome) O2) : EvM K (tXIn ty td) G O P := fun σ H0 H w s Q q =>
  h σ H0 H w s _ fun y dy H1 H1' O1 k1 s1 w1 r1 => k1 σ H1 H1' w1 (s.up s1) _ fun x dd H2 H2' O2 ⟨d, kvs, k, e, ey, hd, k2⟩ s2 w2 r2 => by
    subst e ey
    obtain rfl := r2.ref_eq
    obtain ⟨b, rfl, hb, hkt⟩ := kb_at w2.le (r1.up s2)
    obtain ⟨h0, xs', hx, re⟩ := own_dx w2 hd
    refine ⟨d, getX xs' (ksB k), rfl, ⟨xs', ksB k, b, .inl hx, keyRT_T (entx_keys w2.le re), rfl, hkt, rfl⟩, ?_⟩
    rw [entx_some re k]
    exact q _ _ H2 H2' O2 k2 (s1.trans s2) w2 (.bl _)
theorem em_xnotin (h : EvM K ty G O fun y O1 => EvM K td G O1 fun x O2 => ∃ d kvs k, x = .ref d ∧ y = kbD k ∧ O2 d = some (dx d kvs) ∧ P (.bl (!(getB kvs k).isSome)) O2) : EvM K (tXNotIn ty td) G O P := fun σ H0 H w s Q q =>
  h σ H0 H w s _ fun y dy H1 H1' O1 k1 s1 w1 r1 => k1 σ H1 H1' w1 (s.up s1) _ fun x dd H2 H2' O2 ⟨d, kvs, k, e, ey, hd, k2⟩ s2 w2 r2 => by
    subst e ey
    obtain rfl := r2.ref_eq
    obtain ⟨b, rfl, hb, hkt⟩ := kb_at w2.le (r1.up s2)
    obtain ⟨h0, xs', hx, re⟩ := own_dx w2 hd
    refine ⟨d, getX xs' (ksB k), rfl, ⟨xs', ksB k, b, .inl hx, keyRT_T (entx_keys w2.le re), rfl, hkt, rfl⟩, ?_⟩
    rw [entx_some re k]
    exact q _ _ H2 H2' O2 k2 (s1.trans s2) w2 (.bl _)
theorem sv_xput (h : EvM K tv G O fun v O1 => EvM K td G O1 fun x O2 => ∃ d, x = .ref d ∧ EvM K ty G O2 fun y O3 => ∃ kvs k, y = kbD k ∧ O3 d = some (dx d kvs) ∧ kvs.length < 100000 ∧ N.nx G (oput O3 d (dx d (putB kvs k v)))) : Sv K E (sXPut td ty tv) N G O := fun De σ H0 H w s n =>
  h σ H0 H w s _ fun v dv H1 H1' O1 k1 s1 w1 r1 => k1 σ H1 H1' w1 (s.up s1) _ fun x dd H2 H2' O2 ⟨d, e, k2⟩ s2 w2 r2 => by
    subst e
    obtain rfl := r2.ref_eq
    refine k2 σ H2 H2' w2 (s.up (s1.trans s2)) _ fun y dy H3 H3' O3 ⟨kvs, k, ey, hd, hl, k3⟩ s3 w3 r3 => ?_
    subst ey
    obtain ⟨b, rfl, hb, hkt⟩ := kb_at w3.le r3
    obtain ⟨h0, xs', hx, re⟩ := own_dx w3 hd
    refine ⟨d, xs', ksB k, b, rfl, hx, keyRT_T (entx_keys w3.le re), rfl, hkt, by rw [Paired.length re]; exact Nat.lt_of_lt_of_le hl (by decide), ?_⟩
    exact n.nx G _ σ H3 _ k3 ((s1.trans s2).trans s3) (w3.put (b := dx d (putB kvs k dv)) h0 ⟨_, rfl, entx_put re hb (r1.up (s2.trans s3))⟩) (s.up ((s1.trans s2).trans s3))
theorem em_xpop (h : EvM K td G O fun x O1 => ∃ d kvs0, x = .ref d ∧ O1 d = some (dx d kvs0) ∧ EvM K ty G O1 fun y O2 => ∃ kvs k v, y = kbD k ∧ O2 d = some (dx d kvs) ∧ getB kvs k = some v ∧ P v (oput O2 d (dx d (dropB kvs k)))) : EvM K (tXPop td ty) G O P := fun σ H0 H w s Q q =>
  h σ H0 H w s _ fun x d1 H1 H1' O1 ⟨d, kvs0, e, hd0, k1⟩ s1 w1 r1 => by
    subst e
    obtain rfl := r1.ref_eq
    obtain ⟨_, xs0, hx0, _⟩ := own_dx w1 hd0
    refine ⟨d, xs0, rfl, hx0, k1 σ H1 H1' w1 (s.up s1) _ fun y dy H2 H2' O2 ⟨kvs, k, v, ey, hd, hg, k2⟩ s2 w2 r2 => ?_⟩
    subst ey
    obtain ⟨b, rfl, hb, hkt⟩ := kb_at w2.le r2
    obtain ⟨h0, xs', hx, re⟩ := own_dx w2 hd
    rcases entx_get re k with ⟨z, _⟩ | ⟨dv, vv, z, g, rv⟩
    · rw [hg] at z; cases z
    · rw [hg] at z
      cases z
      exact ⟨xs', ksB k, b, vv, hx, keyRT_T (entx_keys w2.le re), rfl, hkt, g, q vv v H2 _ _ k2 (s1.trans s2) (w2.put (b := dx d (dropB kvs k)) h0 ⟨_, rfl, entx_drop re k⟩) rv⟩
theorem em_xne (h : EvM K td G O fun x O1 => ∃ d kvs, x = .ref d ∧ O1 d = some (dx d kvs) ∧ ∀ p, O1 p = none → P (.bl (!kvs.isEmpty)) (oput O1 p (dx p []))) : EvM K (tXNe td) G O P := fun σ H0 H w s Q q =>
  h σ H0 H w s _ fun x d1 H1 H1' O1 ⟨d, kvs, e, hd, k1⟩ s1 w1 r1 => by
    subst e
    obtain rfl := r1.ref_eq
    obtain ⟨_, xs', hx, re⟩ := own_dx w1 hd
    refine ⟨d, xs', rfl, .inl hx, fun p hp => ?_⟩
    have e : xs'.isEmpty = kvs.isEmpty := by cases re <;> rfl
    rw [e]
    exact q _ _ H1 _ _ (k1 p (w1.free hp)) s1 (w1.put (b := dx p []) (w1.le.free hp) ⟨[], rfl, .nil⟩) (.bl _)
theorem em_xsort (h : EvM K td G O fun x O1 => ∃ d kvs, x = .ref d ∧ O1 d = some (dx d kvs) ∧ kvs.length ≤ 100000 ∧ ∀ (ks : List KB) p, ks.Perm (kvs.map (·.1)) → O1 p = none → P (.ref p) (oput O1 p (.lst (ks.map kbD)))) : EvM K (tXSort td) G O P := fun σ H0 H w s Q q =>
  h σ H0 H w s _ fun x d1 H1 H1' O1 ⟨d, kvs, e, hd, hl, k1⟩ s1 w1 r1 => by
    subst e
    obtain rfl := r1.ref_eq
    obtain ⟨_, xs', hx, re⟩ := own_dx w1 hd
    refine ⟨d, xs', rfl, hx, entx_keys w1.le re, by rw [Paired.length re]; exact hl, fun ys p pm hp => ?_⟩
    -- the keys as they are told
    have tl : ∀ ys : List (List Int × Addr × V), (∀ x ∈ ys, x ∈ xs') → ∃ ks : List KB, ys.map (·.1) = ks.map ksB ∧ Dens K H1 (ys.map fun x => V.ref x.2.1) (ks.map kbD) := fun ys => by
      induction ys with
      | nil => exact fun _ => ⟨[], rfl, .nil⟩
      | cons y ys ih =>
        intro hh
        obtain ⟨ks, h1, h2⟩ := ih fun x hx => hh x (List.mem_cons_of_mem _ hx)
        obtain ⟨z, hz, e1, e2, _⟩ := entx_mem re y (hh y List.mem_cons_self)
        exact ⟨z.1 :: ks, by rw [List.map_cons, List.map_cons, h1, e1], .cons (.tup e2 (.cons (.int _) (.cons (.bl _) .nil))) h2⟩
    obtain ⟨ks, e1, e2⟩ := tl ys fun x hx => pm.mem_iff.mp hx
    have ex := entx_ks re
    have pk : ks.Perm (kvs.map (·.1)) := by
      have p1 : (ks.map ksB).Perm ((kvs.map (·.1)).map ksB) := by
        rw [← e1, ← ex]
        exact pm.map _
      have back : ∀ l : List KB, (l.map ksB).map (fun z : List Int => ((z.headD 0, decide (z.getD 1 0 = 1)) : KB)) = l := fun l => by
        rw [List.map_map]
        refine (List.map_congr_left fun x _ => ?_).trans (List.map_id _)
        obtain ⟨a, b⟩ := x
        cases b <;> rfl
      have p2 := p1.map (fun z : List Int => ((z.headD 0, decide (z.getD 1 0 = 1)) : KB))
      rwa [back, back] at p2
    exact q _ _ H1 _ _ (k1 ks p pk (w1.free hp)) s1 (w1.put (b := .lst (ks.map kbD)) (w1.le.free hp) ⟨_, rfl, e2⟩) (.ref p)
/-- what a value costs -/
def costD : D → Option Int
  | .tup ds => match atI ds 0 with
    | some (.int c) => some c
    | _ => none
  | _ => none
theorem costD_x {v : V} {d : D} {c : Int} (e : Same H0 H) (r : Den K H0 v d) (h : costD d = some c) : CostX H v c := by
  unfold costD at h
  split at h
  · rename_i ds
    split at h
    · rename_i c' ha
      cases h
      obtain ⟨p, ys, rfl, hp, ty⟩ := r.tup_out
      obtain ⟨u, hu, ru⟩ := atI_dens ty ha
      obtain rfl := ru.int_eq
      exact ⟨p, ys, rfl, e _ _ hp, hu⟩
    · cases h
  · cases h
theorem em_minX {T : Addr} {tq : Str} {i : Nat} (h : EvM K td G O fun x O1 => ∃ d kvs, x = .ref d ∧ O1 d = some (dx d kvs) ∧ G[i]? = some (some (.ref d)) ∧ kvs ≠ [] ∧ (∀ y ∈ kvs, ∃ c, costD y.2 = some c) ∧ O1 T = some (.tab tq) ∧ ∀ y ∈ kvs, (∀ c z c', costD y.2 = some c → z ∈ kvs → costD z.2 = some c' → c ≤ c') → P (kbD y.1) O1) : EvM K (tMinX T tq td i) G O P := fun σ H0 H w s Q q =>
  h σ H0 H w s _ fun x d1 H1 H1' O1 ⟨d, kvs, e, hd, hG, hne, hc, hT, k1⟩ s1 w1 r1 => by
    subst e
    obtain rfl := r1.ref_eq
    obtain ⟨_, xs', hx, re⟩ := own_dx w1 hd
    obtain ⟨iv, i1, i2⟩ := s.has i _ hG
    obtain rfl := i2.ref_eq
    obtain ⟨p0, o, ho, ps, rfl, tr, co⟩ := w1.own T _ hT
    refine ⟨ps, d, xs', rfl, hx, i1, fun z => by subst z; cases re; exact hne rfl, fun x hxm => ⟨entx_keys w1.le re x hxm, ?_⟩, ho, ⟨tr, fun pos cv hcv => ?_⟩, fun c' H2 tn x hxm hl => ?_⟩
    · obtain ⟨y, hy, _, _, rv⟩ := entx_mem re x hxm
      obtain ⟨c, hcy⟩ := hc y hy
      exact ⟨c, costD_x w1.le rv hcy⟩
    · obtain ⟨c, x1, x2⟩ := co pos cv hcv
      exact ⟨c, x1, w1.le _ _ x2⟩
    · obtain ⟨y, hy, e1, e2, rv⟩ := entx_mem re x hxm
      obtain ⟨H3, s3, w3⟩ := w1.tabNew hT ho tn
      refine q _ _ H3 _ _ (k1 y hy fun c z c' h1 hz h2 => ?_) (s1.trans s3) w3 (.tup (s3 _ _ e2) (.cons (.int _) (.cons (.bl _) .nil)))
      obtain ⟨x2, hx2, _, _, rv2⟩ := entx_mem' re z hz
      exact hl c x2 c' (costD_x w1.le rv h1) hx2 (costD_x w1.le rv2 h2)
end
/-- [e[k] for k in e if ..], e an own dict -/
theorem em_lcX {K : Fg} {G : Sl} {O : Om} {P : D → Om → Prop} {ti te ty : TE} {g : TG} {tt : TT} {ws : List Nat} {d : Addr} {kvs : List (KB × D)} {f : KB → Bool} {Gd : KB → Sl} (hi : EvR K E0 ti G (.val (.ref d))) (hd : O d = some (dx d kvs)) (nd : (kvs.map (·.1)).Nodup)
    (hg : ∀ y ∈ kvs, TgD K g (kbD y.1) (wipeD G ws) (Gd y.1) ws) (ht : ∀ y ∈ kvs, EvT K tt (Gd y.1) (f y.1)) (he : ∀ y ∈ kvs, EvR K E0 te (Gd y.1) (.val (.ref d))) (hy : ∀ y ∈ kvs, EvR K E0 ty (Gd y.1) (.val (kbD y.1))) (hl : kvs.length ≤ 100000)
    (k : ∀ p, O p = none → P (.ref p) (oput O p (.lst ((kvs.filter fun y => f y.1).map (·.2))))) : EvM K (tLockE (tLc (iKeysX ti) g tt (tXGet te ty) ws)) G O P := fun σ H0 H w s Q q => by
  obtain ⟨d0, xs', hx, re⟩ := own_dx w hd
  have hxl := Paired.length re
  refine ⟨d, DXo xs' d, hx, True.intro, fun od => ?_⟩
  have sm : Same H0 (upd H d (.frz od (DXo xs' d))) := fun b o e => by
    rw [upd_ne (ne_of_none e d0)]
    exact w.le _ _ e
  refine hi σ H0 _ sm s _ fun v H1 H1' s1 r1 => ?_
  obtain rfl := r1.ref_eq
  have hd1 : H1' d = some (.frz od (DXo xs' d)) := s1.b _ _ upd_same
  refine ⟨d, od, xs', rfl, hd1, fun L0 hD => ?_⟩
  have wk : Walk (Itkx d od xs') kvs.length (fun H => H d = some (.frz od (DXo xs' d))) (fun i H x H' => H' = H ∧ ∃ e, xs'[i]? = some e ∧ x = .ref e.2.1) :=
    ⟨fun i H hi hH => ⟨hH, by omega⟩, fun H hH => ⟨hH, by omega⟩, fun i H x H' hi hH y => y⟩
  have hDd : L0 ≠ d := fun z => by rw [z, hd1] at hD; cases hD
  refine lc_it wk (g := g) (tt := tt) (te := tXGet te ty) (vs := ws) (σ := σ) (H1 := H1') (D := L0)
    (fun i H2 => ∃ Hc vs, Stp H0 (upd H d (.frz od (DXo xs' d))) Hc H2 ∧ Hc L0 = none ∧ H2 L0 = some (.lst vs) ∧ Dens K Hc vs (((kvs.take i).filter fun y => f y.1).map (·.2)))
    ⟨H1, [], s1.trans (Stp.own s1.c hD), s1.c.free hD, upd_same, .nil⟩ (fun i H2 _ ⟨Hc, vs, st, _, _, _⟩ => st.b _ _ upd_same) ?_ ?_
  · rintro i x H2 H3 hi ⟨Hc, vs, st, hc, hD2, r⟩ ⟨eH, e, hxe, ex⟩
    subst eH ex
    have hyi : ∃ y, kvs[i]? = some y := ⟨_, List.getElem?_eq_getElem hi⟩
    obtain ⟨y, hyi⟩ := hyi
    have my : y ∈ kvs := List.mem_of_getElem? hyi
    have ent : EntX K H0 e y := by
      obtain ⟨b, hb, eb⟩ := paired_get re hxe
      rw [hyi] at hb
      cases hb
      exact eb
    have htk : kvs.take (i + 1) = kvs.take i ++ [y] := by rw [List.take_add_one, hyi]; rfl
    have rx : Den K Hc (.ref e.2.1) (kbD y.1) := .tup (st.a _ _ ent.2.1) (.cons (.int _) (.cons (.bl _) .nil))
    refine hg y my (.ref e.2.1) (wipe σ ws) Hc H3 st.c ((s.up st.a).wiped ws) rx _ fun σ2 sl2 hl2 hj2 => ⟨wipe_same hl2 hj2, ?_⟩
    refine ht y my σ2 Hc H3 st.c sl2 _ fun H4 H4' s4 => ?_
    have hc4 : H4 L0 = none := by
      cases qq : H4 L0 with
      | none => rfl
      | some z =>
        have := s4.f L0 hc (by rw [qq]; simp)
        rw [hD2] at this; cases this
    cases hf : f y.1 with
    | false =>
      show ∃ Hc vs, _
      refine ⟨H4, vs, st.trans s4, hc4, s4.b _ _ hD2, ?_⟩
      rw [htk, List.filter_append, List.filter_cons, if_neg (by rw [hf]; decide), List.filter_nil, List.append_nil]
      exact r.up s4.a
    | true =>
      show tXGet te ty σ2 H4' _
      refine he y my σ2 H4 H4' s4.c (sl2.up s4.a) _ fun v5 H5 H5' s5 r5 => hy y my σ2 H5 H5' s5.c (sl2.up (s4.a.trans s5.a)) _ fun v6 H6 H6' s6 r6 => ?_
      obtain rfl := r5.ref_eq
      obtain ⟨b, rfl, hb, hkt⟩ := kb_at s6.c r6
      have sa := ((st.trans s4).trans s5).trans s6
      have hd6 : H6' d = some (.frz od (DXo xs' d)) := sa.b _ _ upd_same
      have re6 := re.up sa.a
      have gy : getB kvs y.1 = some y.2 := by
        clear re re6 hxe hyi hxl htk r hl wk hd hg ht he hy k hi
        induction kvs with
        | nil => exact nomatch my
        | cons p ps ih =>
          rw [List.map_cons, List.nodup_cons] at nd
          rcases List.mem_cons.mp my with e | h
          · subst e
            simp [getB, List.find?_cons]
          · have ne : ¬ p.1 = y.1 := fun z => nd.1 (by rw [z]; exact List.mem_map_of_mem h)
            have := ih nd.2 h
            rw [← this]
            simp [getB, List.find?_cons, ne]
      rcases entx_get re6 y.1 with ⟨z, _⟩ | ⟨dv, vv, z, g5, rv⟩
      · rw [gy] at z; cases z
      · rw [gy] at z
        cases z
        have hc6 : H6 L0 = none := by
          cases qq : H6 L0 with
          | none => rfl
          | some z =>
            have := (s5.trans s6).f L0 hc4 (by rw [qq]; simp)
            rw [s4.b _ _ hD2] at this; cases this
        have hD6 : H6' L0 = some (.lst vs) := (s5.trans s6).b _ _ (s4.b _ _ hD2)
        refine ⟨d, vv, rfl, ⟨xs', ksB y.1, b, .inr ⟨od, hd6⟩, keyRT_T (entx_keys s6.c re6), rfl, hkt, g5.symm⟩, vs, hD6, ?_, H6, vs ++ [vv], ?_, hc6, upd_same, ?_⟩
        · rw [r.length, List.length_map]
          have h1 := List.length_filter_le (fun y : KB × D => f y.1) (kvs.take i)
          rw [List.length_take] at h1
          exact Nat.lt_of_le_of_lt (Nat.le_trans h1 (Nat.le_trans (Nat.min_le_right _ _) hl)) (by decide)
        · refine ⟨sa.a, fun b o hb => ?_, fun b o hb => ?_, sa.f⟩
          · have nb : b ≠ L0 := fun z => by
              subst z
              rw [s1.b _ _ hb] at hD
              cases hD
            rw [upd_ne nb]; exact sa.b _ _ hb
          · have nb : b ≠ L0 := fun z => by
              subst z
              rw [hc6] at hb
              cases hb
            rw [upd_ne nb]; exact sa.c _ _ hb
        · rw [htk, List.filter_append, List.filter_cons, if_pos hf, List.filter_nil, List.map_append]
          exact (r.up ((s4.a.trans s5.a).trans s6.a)).append (.cons rv .nil)
  · rintro H2 ⟨Hc, vs, st, hc, hD2, r⟩
    rw [List.take_length] at r
    have hd2 : H2 d = some (.frz od (DXo xs' d)) := st.b _ _ upd_same
    refine ⟨hd2, ?_⟩
    have cd : Hc d = none := by
      cases qq : Hc d with
      | none => rfl
      | some z =>
        have := st.f d d0 (by rw [qq]; simp)
        rw [upd_same] at this; cases this
    have hDn : H L0 = none := by
      cases qq : H L0 with
      | none => rfl
      | some z =>
        have := s1.b L0 z (by rw [upd_ne hDd]; exact qq)
        rw [hD] at this; cases this
    have w2 : Wd K Hc (upd H2 d (DXo xs' d)) O := ⟨fun b o e => by
      rw [upd_ne (ne_of_none e cd)]
      exact st.c _ _ e, fun p b hp => by
      obtain ⟨p0, o, ho, rr⟩ := w.own p b hp
      by_cases hpd : p = d
      · subst hpd
        rw [hx] at ho
        cases ho
        exact ⟨cd, _, upd_same, rr.up st.a⟩
      · have hH2 := st.b p o (by rw [upd_ne hpd]; exact ho)
        refine ⟨?_, o, by rw [upd_ne hpd]; exact hH2, rr.up st.a⟩
        cases qq : Hc p with
        | none => rfl
        | some z =>
          have := st.f p p0 (by rw [qq]; simp)
          rw [upd_ne hpd, ho] at this; cases this⟩
    exact q (.ref L0) (.ref L0) Hc _ _ (k L0 (w.free hDn)) st.a (w2.add hc (by rw [upd_ne hDd]; exact hD2) ⟨vs, rfl, r⟩) (.ref L0)
end Pr
namespace Pr
open PySem PySem.Spec L2
/-- a def that makes a lambda and may raise -/
theorem calT_ex {P : Program} {w : World} {K : Fg} {mg : Str → Option Value} {base : Heap} {x qual : Str} {params : Arguments} {body : List Stmt} {scope : Scope} {N ps : List Str} {k : Nat} {sp : Sp} (hm : mg x = some (.ref (He.ga K x))) (F : ∃ fd, FunD K x qual params body scope [] [] (He.ga K x) fd) (S : FnScope N ps scope) (len : ∀ vs H Q E, sp vs H Q E → vs.length = ps.length)
    (h : ∀ (kV doc pm : Value) (an : Option Addr) (cdv ct : Value) (us : List Value), us.length = ps.length → bindArgs (PySem.W.fnOf x qual params body scope .none kV doc pm an cdv ct) ⟨us, []⟩ = pure (ps.zip us))
    (hbody : ∀ (cdv : Value) (A : Around) (outer : List Env) (s : Shared) (H : Hp) (vs : List V) (Q : VK) (E : XK), cdv = .ref (He.codeOf K (x, none)) → Room k (A.deeper (PyProof.Rows.envOfC qual scope s.heap.objs.size (He.ga K x) cdv)) → sp vs H Q E →
      ∃ t, PSs (cxOf (L2.CX P w) P w K mg base N qual scope (He.ga K x) cdv A outer s H E) body t ∧ t { nx := fun _ H' => Q .non H', rt := Q } (L2.start N vs) H) : Cal P w K mg base x (k + 1) ps sp := by
  obtain ⟨fd, F⟩ := F
  obtain ⟨oc, od, dV, kV, doc, pm, an, cdv, ct, osl, e, lk, hcd, hD, hKw⟩ := id F.ex
  obtain ⟨c, ec⟩ := He.codeIn_ref hcd
  have ecd : cdv = .ref (He.codeOf K (x, none)) := by
    rw [ec, He.codeOf_eq (K := K) (p := (x, none)) (c := c) lk (by rw [e]; exact ec)]
  refine ⟨He.ga K x, fd, hm, F.kp, ?_, F.bindsN h, fun s us hl => F.bindsA h s us hl, _, lk, rfl⟩
  subst e
  exact fn_of lk hcd S len fun A outer s H vs Q E hr hsp => hbody cdv A outer s H vs Q E ecd hr hsp
/-! ### own dicts with keys of ints and texts together -/
abbrev kyD (ks : List Key) : List D := ks.map fun k => match k with | .inl i => D.int i | .inr x => D.str x
section
variable {K : Fg} {E : XK} {G : Sl} {O : Om} {N : En} {td ty tx tv : TE} {P : D → Om → Prop} {H0 H : Hp}
theorem dens_ky : ∀ {ks : List Key} {vs : List V}, Dens K H0 vs (kyD ks) → vs = ks.map kV
  | [], _, .nil => rfl
  | k :: ks, _, .cons r t => by
    rw [List.map_cons, ← dens_ky t]
    cases k with
    | inl i => rw [r.int_eq]; rfl
    | inr x => rw [r.str_eq]; rfl
theorem key_atK {v : V} {ks : List Key} (e : Same H0 H) (r : Den K H0 v (.tup (kyD ks))) : ∃ b, v = .ref b ∧ H b = some (.tup (ks.map kV)) := by
  obtain ⟨b, vs, rfl, hb, t⟩ := r.tup_out
  obtain rfl := dens_ky t
  exact ⟨b, rfl, e _ _ hb⟩
theorem em_dget2K (h : EvM K td G O fun d O1 => ∃ p kvs, d = .ref p ∧ O1 p = some (.raw (.dT kvs)) ∧ EvM K ty G O1 fun y O2 => EvM K tx G O2 fun z O3 => ∃ kvs ks i j, y = .tup (kyD ks) ∧ z = .int j ∧ O3 p = some (.raw (.dT kvs)) ∧ (valV kvs ks).getD (.int j) = .int i ∧ P (.int i) O3) : EvM K (tDGet2 td ty tx) G O P := fun σ H0 H w s Q q =>
  h σ H0 H w s _ fun x d H1 H1' O1 ⟨p, kvs0, e, hp, k1⟩ s1 w1 r1 => by
    subst e
    obtain rfl := r1.ref_eq
    refine ⟨p, rfl, .inr ⟨kvs0, .inl (own_raw w1 hp).2⟩, k1 σ H1 H1' w1 (s.up s1) _ fun y dy H2 H2' O2 k2 s2 w2 r2 => k2 σ H2 H2' w2 (s.up (s1.trans s2)) _ fun z dz H3 H3' O3 ⟨kvs, ks, i, j, ey, ez, hp3, hv, k3⟩ s3 w3 r3 => ?_⟩
    subst ey ez
    obtain ⟨b, rfl, hb⟩ := key_atK w3.le (r2.up s3)
    obtain rfl := r3.int_eq
    refine ⟨_, DGet.t (own_raw w3 hp3).2 hb, ?_⟩
    rw [hv]
    exact q (.int i) (.int i) H3 H3' O3 k3 ((s1.trans s2).trans s3) w3 (.int i)
theorem em_dgetK (h : EvM K td G O fun d O1 => ∃ p, d = .ref p ∧ EvM K ty G O1 fun y O2 => ∃ kvs ks i, y = .tup (kyD ks) ∧ O2 p = some (.raw (.dT kvs)) ∧ valV kvs ks = some (.int i) ∧ P (.int i) O2) : EvM K (tDGet td ty) G O P := fun σ H0 H w s Q q =>
  h σ H0 H w s _ fun x d H1 H1' O1 ⟨p, e, k1⟩ s1 w1 r1 => by
    subst e
    obtain rfl := r1.ref_eq
    refine k1 σ H1 H1' w1 (s.up s1) _ fun y dy H2 H2' O2 ⟨kvs, ks, i, ey, hp, hv, k2⟩ s2 w2 r2 => ?_
    subst ey
    obtain ⟨b, rfl, hb⟩ := key_atK w2.le r2
    refine ⟨p, .int i, rfl, ?_, q (.int i) (.int i) H2 H2' O2 k2 (s1.trans s2) w2 (.int i)⟩
    rw [← hv]
    exact DGet.t (own_raw w2 hp).2 hb
theorem em_dNotInK (h : EvM K ty G O fun y O1 => EvM K td G O1 fun d O2 => ∃ p kvs ks, d = .ref p ∧ y = .tup (kyD ks) ∧ O2 p = some (.raw (.dT kvs)) ∧ P (.bl (!(valV kvs ks).isSome)) O2) : EvM K (tDNotIn ty td) G O P := fun σ H0 H w s Q q =>
  h σ H0 H w s _ fun y dy H1 H1' O1 k1 s1 w1 r1 => k1 σ H1 H1' w1 (s.up s1) _ fun x d H2 H2' O2 ⟨p, kvs, ks, e, ey, hp, k2⟩ s2 w2 r2 => by
    subst e ey
    obtain rfl := r2.ref_eq
    obtain ⟨b, rfl, hb⟩ := key_atK w2.le (r1.up s2)
    exact ⟨p, _, rfl, DGet.t (own_raw w2 hp).2 hb, q _ _ H2 H2' O2 k2 (s1.trans s2) w2 (.bl _)⟩
theorem sv_dputKK (h : EvM K tv G O fun v O1 => EvM K td G O1 fun d O2 => ∃ p, d = .ref p ∧ EvM K ty G O2 fun y O3 => ∃ kvs ks i, v = .int i ∧ y = .tup (kyD ks) ∧ O3 p = some (.raw (.dT kvs)) ∧ kvs.length < 100000 ∧ N.nx G (oput O3 p (.raw (.dT (putK kvs ks (.int i)))))) : Sv K E (sDPut td ty tv) N G O := fun De σ H0 H w s n =>
  h σ H0 H w s _ fun v dv H1 H1' O1 k1 s1 w1 r1 => k1 σ H1 H1' w1 (s.up s1) _ fun x d H2 H2' O2 ⟨p, e, k2⟩ s2 w2 r2 => by
    subst e
    obtain rfl := r2.ref_eq
    refine k2 σ H2 H2' w2 (s.up (s1.trans s2)) _ fun y dy H3 H3' O3 ⟨kvs, ks, i, ev, ey, hp, hl, k3⟩ s3 w3 r3 => ?_
    subst ev ey
    obtain rfl := r1.int_eq
    obtain ⟨b, rfl, hb⟩ := key_atK w3.le r3
    obtain ⟨h0, hh⟩ := own_raw w3 hp
    refine ⟨p, _, rfl, DPut.t hh hb (Nat.lt_of_lt_of_le hl (by decide)), ?_⟩
    exact n.nx G _ σ H3 _ k3 ((s1.trans s2).trans s3) (w3.put (b := .raw (.dT (putK kvs ks (.int i)))) h0 rfl) (s.up ((s1.trans s2).trans s3))
/-- a statement that sets a name to a comprehension over a locked dict -/
theorem sv_lockLc {te : TE} {i : Nat} (h : EvM K (tLockE te) G O fun d O' => N.nx (G.set i (some d)) O') : Sv K E (tLock (tAsg te (gName i))) N G O := fun De σ H0 H w s n =>
  h σ H0 H w s (fun v H' => De.nx (σ.set i (some v)) H') fun v d H1 H1' O1 k s1 w1 r1 => n.nx _ _ _ H1 H1' k s1 w1 ((s.up s1).put r1)
/-- a comprehension whose parts only read own objects -/
theorem em_lcR {wi : TI} {g : TG} {tt : TT} {te : TE} {ws : List Nat} {ds : List D} {Gd : D → Sl} {f : D → Bool} {hh : D → D} (hs : SrcD K wi G ds) (hg : ∀ d ∈ ds, TgD K g d (wipeD G ws) (Gd d) ws) (ht : ∀ d ∈ ds, ∀ O2, OLe O O2 → EvMT K tt (Gd d) O2 fun b O3 => b = f d ∧ O3 = O2)
    (he : ∀ d ∈ ds, f d = true → ∀ O2, OLe O O2 → EvM K te (Gd d) O2 fun y O3 => y = hh d ∧ O3 = O2) (hl : ds.length ≤ 100000) (k : ∀ p, O p = none → P (.ref p) (oput O p (.lst ((ds.filter f).map hh)))) : EvM K (tLc wi g tt te ws) G O P := fun σ H0 H w s Q q =>
  hs σ H0 H w.le s _ fun J H1 H1' s1 ⟨Y, wk, hY⟩ L0 hD => by
    have w1 := w.step s1
    have hO1 := w1.free hD
    refine lc_it wk (g := g) (tt := tt) (te := te) (vs := ws) (σ := σ) (H1 := H1') (D := L0)
      (fun i H2 => ∃ Hc, Same H1 Hc ∧ Wd K Hc H2 (oput O L0 (.lst (((ds.take i).filter f).map hh))))
      ⟨H1, Same.refl _, w1.put (b := .lst []) (w1.le.free hD) ⟨[], rfl, .nil⟩⟩ (fun i H2 _ ⟨Hc, a, b⟩ => a.trans b.le) ?_ ?_
    · rintro i x H2 H3 hi ⟨Hc, sc, w2⟩ y
      obtain ⟨Hd, d, hd, st2, rx⟩ := hY i Hc H2 x H3 hi sc w2.le y
      have md : d ∈ ds := List.mem_of_getElem? hd
      have htk : ds.take (i + 1) = ds.take i ++ [d] := by rw [List.take_add_one, hd]; rfl
      refine hg d md x (wipe σ ws) Hd H3 st2.c (((s.up s1.a).up (sc.trans st2.a)).wiped ws) rx _ fun σ2 sl2 hl2 hj2 => ⟨wipe_same hl2 hj2, ?_⟩
      refine ht d md _ (OLe.new hO1) σ2 Hd H3 (w2.step st2) sl2 _ fun b H4 H4' O4 ⟨eb, eO⟩ s4 w4 => ?_
      subst eb eO
      cases hf : f d with
      | false =>
        show ∃ Hc, _
        refine ⟨H4, (sc.trans st2.a).trans s4, ?_⟩
        rw [htk, List.filter_append, List.filter_cons, if_neg (by rw [hf]; decide), List.filter_nil, List.append_nil]
        exact w4
      | true =>
        show te σ2 H4' _
        refine he d md hf _ (OLe.new hO1) σ2 H4 H4' w4 (sl2.up s4) _ fun v e H5 H5' O5 ⟨ee, eO⟩ s5 w5 r5 => ?_
        subst ee eO
        obtain ⟨hn5, o5, ho5, vs, rfl, rvs⟩ := w5.own L0 _ oput_same
        refine ⟨vs, ho5, ?_, H5, ((sc.trans st2.a).trans s4).trans s5, ?_⟩
        · rw [rvs.length, List.length_map]
          have h1 := List.length_filter_le f (ds.take i)
          rw [List.length_take] at h1
          exact Nat.lt_of_le_of_lt (Nat.le_trans h1 (Nat.le_trans (Nat.min_le_right _ _) hl)) (by decide)
        · have w6 := w5.put (b := .lst (((ds.take i).filter f).map hh ++ [hh d])) hn5 ⟨vs ++ [v], rfl, rvs.append (.cons r5 .nil)⟩
          rw [oput_oput] at w6
          rw [htk, List.filter_append, List.filter_cons, if_pos hf, List.filter_nil, List.map_append]
          exact w6
    · rintro H2 ⟨Hc, sc, w2⟩
      rw [List.take_length] at w2
      exact q (.ref L0) (.ref L0) Hc H2 _ (k L0 (w.free (s1.b.free hD))) (s1.a.trans sc) w2 (.ref L0)
end
end Pr
namespace Pr
open PySem L2
abbrev N_is_number : List Str := ["thing", "least", "most"]
theorem sc_is_number : FnScope N_is_number ["thing", "least", "most"] (defScope s_is_number) := ⟨rfl, rfl, rfl, by decide +kernel, rfl, by decide +kernel, by decide +kernel⟩
abbrev N_is_cards : List Str := ["thing", "one"]
theorem sc_is_cards : FnScope N_is_cards ["thing"] (defScope s_is_cards) := ⟨rfl, rfl, rfl, by decide +kernel, rfl, by decide +kernel, by decide +kernel⟩
abbrev N_is_machine : List Str := ["thing"]
theorem sc_is_machine : FnScope N_is_machine ["thing"] (defScope s_is_machine) := ⟨rfl, rfl, rfl, by decide +kernel, rfl, by decide +kernel, by decide +kernel⟩
abbrev N_is_offer : List Str := ["thing"]
theorem sc_is_offer : FnScope N_is_offer ["thing"] (defScope s_is_offer) := ⟨rfl, rfl, rfl, by decide +kernel, rfl, by decide +kernel, by decide +kernel⟩
abbrev N_cheapest : List Str := ["deck", "offers", "best", "done", "key", "need", "cost", "row", "machine", "price", "later", "one"]
theorem sc_cheapest : FnScope N_cheapest ["deck", "offers"] (defScope s_cheapest) := ⟨rfl, rfl, rfl, by decide +kernel, rfl, by decide +kernel, by decide +kernel⟩
abbrev N__law_town : List Str := ["script"]
theorem sc__law_town : FnScope N__law_town ["script"] (defScope s__law_town) := ⟨rfl, rfl, rfl, by decide +kernel, rfl, by decide +kernel, by decide +kernel⟩
abbrev N__law_draw : List Str := ["script", "town", "many", "at", "left", "number"]
theorem sc__law_draw : FnScope N__law_draw ["script", "town", "many"] (defScope s__law_draw) := ⟨rfl, rfl, rfl, by decide +kernel, rfl, by decide +kernel, by decide +kernel⟩
abbrev N__law_pick : List Str := ["script", "town", "some"]
theorem sc__law_pick : FnScope N__law_pick ["script", "town", "some"] (defScope s__law_pick) := ⟨rfl, rfl, rfl, by decide +kernel, rfl, by decide +kernel, by decide +kernel⟩
abbrev N__law_word : List Str := ["caught", "kinds"]
theorem sc__law_word : FnScope N__law_word ["caught"] (defScope s__law_word) := ⟨rfl, rfl, rfl, by decide +kernel, rfl, by decide +kernel, by decide +kernel⟩
abbrev N__law_refused : List Str := ["word", "words"]
theorem sc__law_refused : FnScope N__law_refused ["word"] (defScope s__law_refused) := ⟨rfl, rfl, rfl, by decide +kernel, rfl, by decide +kernel, by decide +kernel⟩
abbrev N__law_told : List Str := ["way", "some", "caught", "found", "e"]
theorem sc__law_told : FnScope N__law_told ["way", "some"] (defScope s__law_told) := ⟨rfl, rfl, rfl, by decide +kernel, rfl, by decide +kernel, by decide +kernel⟩
abbrev N__law_whole : List Str := ["thing"]
theorem sc__law_whole : FnScope N__law_whole ["thing"] (defScope s__law_whole) := ⟨rfl, rfl, rfl, by decide +kernel, rfl, by decide +kernel, by decide +kernel⟩
abbrev N__law_cards : List Str := ["script", "town", "most_cards", "many", "way", "rows", "found", "card", "at", "heaps", "place", "heap", "row"]
theorem sc__law_cards : FnScope N__law_cards ["script", "town", "most_cards"] (defScope s__law_cards) := ⟨rfl, rfl, rfl, by decide +kernel, rfl, by decide +kernel, by decide +kernel⟩
abbrev N__law_rising : List Str := ["cards", "found", "at", "card", "place"]
theorem sc__law_rising : FnScope N__law_rising ["cards"] (defScope s__law_rising) := ⟨rfl, rfl, rfl, by decide +kernel, rfl, by decide +kernel, by decide +kernel⟩
abbrev N__law_falling : List Str := ["cards"]
theorem sc__law_falling : FnScope N__law_falling ["cards"] (defScope s__law_falling) := ⟨rfl, rfl, rfl, by decide +kernel, rfl, by decide +kernel, by decide +kernel⟩
abbrev N__law_machine : List Str := ["script", "town", "most_pockets"]
theorem sc__law_machine : FnScope N__law_machine ["script", "town", "most_pockets"] (defScope s__law_machine) := ⟨rfl, rfl, rfl, by decide +kernel, rfl, by decide +kernel, by decide +kernel⟩
abbrev N__law_room : List Str := ["row", "found", "kind", "pockets"]
theorem sc__law_room : FnScope N__law_room ["row"] (defScope s__law_room) := ⟨rfl, rfl, rfl, by decide +kernel, rfl, by decide +kernel, by decide +kernel⟩
abbrev N__law_odd : List Str := ["row", "kind", "pockets"]
theorem sc__law_odd : FnScope N__law_odd ["row"] (defScope s__law_odd) := ⟨rfl, rfl, rfl, by decide +kernel, rfl, by decide +kernel, by decide +kernel⟩
abbrev N__law_one : List Str := ["kind", "some"]
theorem sc__law_one : FnScope N__law_one ["kind", "some"] (defScope s__law_one) := ⟨rfl, rfl, rfl, by decide +kernel, rfl, by decide +kernel, by decide +kernel⟩
abbrev N__law_least : List Str := ["cards", "offers", "best", "changed", "some", "key", "rising", "falling", "machine", "price", "later"]
theorem sc__law_least : FnScope N__law_least ["cards", "offers"] (defScope s__law_least) := ⟨rfl, rfl, rfl, by decide +kernel, rfl, by decide +kernel, by decide +kernel⟩
abbrev N_law : List Str := ["script", "town", "cards", "offers", "k", "deck", "told", "due", "odd", "odds", "machine", "costs", "price", "one"]
theorem sc_law : FnScope N_law ["script"] (defScope s_law) := ⟨rfl, rfl, rfl, by decide +kernel, rfl, by decide +kernel, by decide +kernel⟩
abbrev N_Deck___init__ : List Str := ["self", "cards"]
theorem sc_Deck___init__ : FnScope N_Deck___init__ ["self", "cards"] (defScope s_Deck___init__) := ⟨rfl, rfl, rfl, by decide +kernel, rfl, by decide +kernel, by decide +kernel⟩
abbrev N_Deck_places : List Str := ["self", "found", "place", "card"]
theorem sc_Deck_places : FnScope N_Deck_places ["self"] (defScope s_Deck_places) := ⟨rfl, rfl, rfl, by decide +kernel, rfl, by decide +kernel, by decide +kernel⟩
abbrev N_Deck_rising : List Str := ["self", "some", "one", "other"]
theorem sc_Deck_rising : FnScope N_Deck_rising ["self"] (defScope s_Deck_rising) := ⟨rfl, rfl, rfl, by decide +kernel, rfl, by decide +kernel, by decide +kernel⟩
abbrev N_Deck_falling : List Str := ["self"]
theorem sc_Deck_falling : FnScope N_Deck_falling ["self"] (defScope s_Deck_falling) := ⟨rfl, rfl, rfl, by decide +kernel, rfl, by decide +kernel, by decide +kernel⟩
/-! ### what the top leaves -/
structure Tx (K : Fg) (mg : Str → Option Value) (base : Heap) : Prop where
  tb : LamX.TabB base mg (He.codeOf K ("cheapest", none)) (He.tabOf K (He.codeOf K ("cheapest", none)))
  b_LookupError : mg "LookupError" = none
  b_all : mg "all" = none
  b_bool : mg "bool" = none
  b_enumerate : mg "enumerate" = none
  b_int : mg "int" = none
  b_isinstance : mg "isinstance" = none
  b_len : mg "len" = none
  b_list : mg "list" = none
  b_min : mg "min" = none
  b_range : mg "range" = none
  b_set : mg "set" = none
  b_sorted : mg "sorted" = none
  b_str : mg "str" = none
  b_sum : mg "sum" = none
  b_tuple : mg "tuple" = none
  b_zip : mg "zip" = none
  c_MOST_CARDS : ∃ t, mg "MOST_CARDS" = some (.int 40 t)
  c_MOST_POCKETS : ∃ t, mg "MOST_POCKETS" = some (.int 300 t)
  g_is_number : mg "is_number" = some (.ref (He.ga K "is_number"))
  f_is_number : ∃ fd, FunD K "is_number" "is_number" (defArgs s_is_number) (defBody s_is_number) (defScope s_is_number) [] [] (He.ga K "is_number") fd
  g_is_cards : mg "is_cards" = some (.ref (He.ga K "is_cards"))
  f_is_cards : ∃ fd, FunD K "is_cards" "is_cards" (defArgs s_is_cards) (defBody s_is_cards) (defScope s_is_cards) [] [] (He.ga K "is_cards") fd
  g_is_machine : mg "is_machine" = some (.ref (He.ga K "is_machine"))
  f_is_machine : ∃ fd, FunD K "is_machine" "is_machine" (defArgs s_is_machine) (defBody s_is_machine) (defScope s_is_machine) [] [] (He.ga K "is_machine") fd
  g_is_offer : mg "is_offer" = some (.ref (He.ga K "is_offer"))
  f_is_offer : ∃ fd, FunD K "is_offer" "is_offer" (defArgs s_is_offer) (defBody s_is_offer) (defScope s_is_offer) [] [] (He.ga K "is_offer") fd
  g_cheapest : mg "cheapest" = some (.ref (He.ga K "cheapest"))
  f_cheapest : ∃ fd, FunD K "cheapest" "cheapest" (defArgs s_cheapest) (defBody s_cheapest) (defScope s_cheapest) [] [] (He.ga K "cheapest") fd
  g__law_town : mg "_law_town" = some (.ref (He.ga K "_law_town"))
  f__law_town : ∃ fd, FunD K "_law_town" "_law_town" (defArgs s__law_town) (defBody s__law_town) (defScope s__law_town) [] [] (He.ga K "_law_town") fd
  g__law_draw : mg "_law_draw" = some (.ref (He.ga K "_law_draw"))
  f__law_draw : ∃ fd, FunD K "_law_draw" "_law_draw" (defArgs s__law_draw) (defBody s__law_draw) (defScope s__law_draw) [] [] (He.ga K "_law_draw") fd
  g__law_pick : mg "_law_pick" = some (.ref (He.ga K "_law_pick"))
  f__law_pick : ∃ fd, FunD K "_law_pick" "_law_pick" (defArgs s__law_pick) (defBody s__law_pick) (defScope s__law_pick) [] [] (He.ga K "_law_pick") fd
  g__law_word : mg "_law_word" = some (.ref (He.ga K "_law_word"))
  f__law_word : ∃ fd, FunD K "_law_word" "_law_word" (defArgs s__law_word) (defBody s__law_word) (defScope s__law_word) [] [] (He.ga K "_law_word") fd
  g__law_refused : mg "_law_refused" = some (.ref (He.ga K "_law_refused"))
  f__law_refused : ∃ fd, FunD K "_law_refused" "_law_refused" (defArgs s__law_refused) (defBody s__law_refused) (defScope s__law_refused) [] [] (He.ga K "_law_refused") fd
  g__law_told : mg "_law_told" = some (.ref (He.ga K "_law_told"))
  f__law_told : ∃ fd, FunD K "_law_told" "_law_told" (defArgs s__law_told) (defBody s__law_told) (defScope s__law_told) [] [] (He.ga K "_law_told") fd
  g__law_whole : mg "_law_whole" = some (.ref (He.ga K "_law_whole"))
  f__law_whole : ∃ fd, FunD K "_law_whole" "_law_whole" (defArgs s__law_whole) (defBody s__law_whole) (defScope s__law_whole) [] [] (He.ga K "_law_whole") fd
  g__law_cards : mg "_law_cards" = some (.ref (He.ga K "_law_cards"))
  f__law_cards : ∃ fd, FunD K "_law_cards" "_law_cards" (defArgs s__law_cards) (defBody s__law_cards) (defScope s__law_cards) [] [] (He.ga K "_law_cards") fd
  g__law_rising : mg "_law_rising" = some (.ref (He.ga K "_law_rising"))
  f__law_rising : ∃ fd, FunD K "_law_rising" "_law_rising" (defArgs s__law_rising) (defBody s__law_rising) (defScope s__law_rising) [] [] (He.ga K "_law_rising") fd
  g__law_falling : mg "_law_falling" = some (.ref (He.ga K "_law_falling"))
  f__law_falling : ∃ fd, FunD K "_law_falling" "_law_falling" (defArgs s__law_falling) (defBody s__law_falling) (defScope s__law_falling) [] [] (He.ga K "_law_falling") fd
  g__law_machine : mg "_law_machine" = some (.ref (He.ga K "_law_machine"))
  f__law_machine : ∃ fd, FunD K "_law_machine" "_law_machine" (defArgs s__law_machine) (defBody s__law_machine) (defScope s__law_machine) [] [] (He.ga K "_law_machine") fd
  g__law_room : mg "_law_room" = some (.ref (He.ga K "_law_room"))
  f__law_room : ∃ fd, FunD K "_law_room" "_law_room" (defArgs s__law_room) (defBody s__law_room) (defScope s__law_room) [] [] (He.ga K "_law_room") fd
  g__law_odd : mg "_law_odd" = some (.ref (He.ga K "_law_odd"))
  f__law_odd : ∃ fd, FunD K "_law_odd" "_law_odd" (defArgs s__law_odd) (defBody s__law_odd) (defScope s__law_odd) [] [] (He.ga K "_law_odd") fd
  g__law_one : mg "_law_one" = some (.ref (He.ga K "_law_one"))
  f__law_one : ∃ fd, FunD K "_law_one" "_law_one" (defArgs s__law_one) (defBody s__law_one) (defScope s__law_one) [] [] (He.ga K "_law_one") fd
  g__law_least : mg "_law_least" = some (.ref (He.ga K "_law_least"))
  f__law_least : ∃ fd, FunD K "_law_least" "_law_least" (defArgs s__law_least) (defBody s__law_least) (defScope s__law_least) [] [] (He.ga K "_law_least") fd
  g_law : mg "law" = some (.ref (He.ga K "law"))
  f_law : ∃ fd, FunD K "law" "law" (defArgs s_law) (defBody s_law) (defScope s_law) [] [] (He.ga K "law") fd
  g_Deck : mg "Deck" = some (.ref (He.ga K "Deck"))
  cl_Deck : Cls K (He.ga K "Deck")
  mk_Deck : Mk K (He.ga K "Deck") (He.ma K (He.ga K "Deck") "__init__")
  na_Deck_pile : NoAttr K (He.ga K "Deck") "pile"
  f_Deck___init__ : ∃ fd, FunD K "__init__" "Deck.__init__" (defArgs s_Deck___init__) (defBody s_Deck___init__) (defScope s_Deck___init__) [] [] (He.ma K (He.ga K "Deck") "__init__") fd
  m_Deck_places : Meth K (He.ga K "Deck") "places" (He.ma K (He.ga K "Deck") "places")
  f_Deck_places : ∃ fd, FunD K "places" "Deck.places" (defArgs s_Deck_places) (defBody s_Deck_places) (defScope s_Deck_places) [] [] (He.ma K (He.ga K "Deck") "places") fd
  m_Deck_rising : Meth K (He.ga K "Deck") "rising" (He.ma K (He.ga K "Deck") "rising")
  f_Deck_rising : ∃ fd, FunD K "rising" "Deck.rising" (defArgs s_Deck_rising) (defBody s_Deck_rising) (defScope s_Deck_rising) [] [] (He.ma K (He.ga K "Deck") "rising") fd
  m_Deck_falling : Meth K (He.ga K "Deck") "falling" (He.ma K (He.ga K "Deck") "falling")
  f_Deck_falling : ∃ fd, FunD K "falling" "Deck.falling" (defArgs s_Deck_falling) (defBody s_Deck_falling) (defScope s_Deck_falling) [] [] (He.ma K (He.ga K "Deck") "falling") fd
  ne_Deck : PySem.W.findIn K (.ref (He.ga K "Deck")) "__ne__" = some (some (.builtin "object.__ne__"))
  ob_Deck : PySem.W.subIn K (.ref (He.ga K "Deck")) (.type "object") = some true
  ty_Deck : TyC K (He.ga K "Deck")
  g_SortError : mg "SortError" = some (.ref (He.ga K "SortError"))
  g_BadDeck : mg "BadDeck" = some (.ref (He.ga K "BadDeck"))
  g_Unlike : mg "Unlike" = some (.ref (He.ga K "Unlike"))
  g_BadMachine : mg "BadMachine" = some (.ref (He.ga K "BadMachine"))
  g_BadPlan : mg "BadPlan" = some (.ref (He.ga K "BadPlan"))
  g_BadRow : mg "BadRow" = some (.ref (He.ga K "BadRow"))
  g_TooMany : mg "TooMany" = some (.ref (He.ga K "TooMany"))
  g_BadNumber : mg "BadNumber" = some (.ref (He.ga K "BadNumber"))
  g_BadOffers : mg "BadOffers" = some (.ref (He.ga K "BadOffers"))
  x_BadOffers : ExcK K mg "BadOffers"
  g_BadKeys : mg "BadKeys" = some (.ref (He.ga K "BadKeys"))
  g_BadCards : mg "BadCards" = some (.ref (He.ga K "BadCards"))
  g_BadColumns : mg "BadColumns" = some (.ref (He.ga K "BadColumns"))
  g_Jammed : mg "Jammed" = some (.ref (He.ga K "Jammed"))
  g_NotJammed : mg "NotJammed" = some (.ref (He.ga K "NotJammed"))
  g_Nothing : mg "Nothing" = some (.ref (He.ga K "Nothing"))
  g_BadText : mg "BadText" = some (.ref (He.ga K "BadText"))
  kinds : kindsI kxI K = true
end Pr
open Pr in
local macro_rules | `(tactic| walk_at "ev1") => `(tactic| first
  | exact ev_var rfl | exact ev_int | exact ev_str | exact ev_bl | exact ev_non | exact ev_ty | exact ea_nil | exact eo_none | exact et_yes
  | with_reducible refine' ev_op ?_ ?_ ?_ | with_reducible refine' ea_cons ?_ ?_ | with_reducible refine' ev_cb ?_ ?_ | with_reducible refine' ev_un ?_ ?_ | with_reducible refine' ev_andV ?_ (fun _ => ?_) | with_reducible refine' ev_orV ?_ (fun _ => ?_) | with_reducible refine' ev_notV ?_
  | with_reducible refine' ev_chain ?_ ?_ ?_ (fun _ => ?_) (fun _ => ?_) | with_reducible refine' et_test ?_ | with_reducible refine' et_B ?_ | with_reducible refine' et_and ?_ (fun _ => ?_) | with_reducible refine' et_or ?_ (fun _ => ?_) | with_reducible refine' et_not ?_
  | with_reducible refine' ev_tup ?_ ?_ | with_reducible refine' ev_lstV ?_ ?_ | with_reducible refine' eo_some ?_
  | exact rd_i | exact rd_b | exact rd_eqI | exact rd_eqS | exact rd_eqB | exact rd_neI | exact rd_neS | exact rd_neB | exact rd_isN | exact rd_notN | exact ru_i
  | exact rc_len | exact rc_lenT | exact rc_lenC | exact rc_int_bl | exact rc_min2 | exact rc_max2 | exact rc_abs | exact rc_all | exact rc_any | exact rc_sum
  | exact rc_isI rfl | exact rc_isB rfl | exact rc_isS rfl | exact rc_isL rfl | exact rc_isT rfl
  | exact rd_ixT rfl | exact rd_ixL rfl | refine' rd_ic ?_ | refine' rd_ixL ?_ | refine' rd_ixT ?_ | refine' rd_ixC ?_ | with_reducible refine' ev_slV ?_ ?_ ?_ | with_reducible refine' ev_revV ?_ | exact rd_isB | exact rd_notB | exact RC.lst rc_list | exact RC.lst rc_listT | exact RC.lst rc_listC | refine' RD.lst (rd_cat ?_))
local macro_rules | `(tactic| walk_at "ev") => `(tactic| repeat' (walk_at "ev1"))
namespace Pr
open PySem L2
section
variable {P : Program} {w : World} {K : Fg} {mg : Str → Option Value} {base : Heap}
def isNum : D → Int → Int → Bool
  | .int i, lo, hi => decide (lo ≤ i) && decide (i ≤ hi)
  | _, _, _ => false
inductive P_is_number : List D → Res → Prop
  | int (i lo hi : Int) : P_is_number [.int i, .int lo, .int hi] (.val (.bl (decide (lo ≤ i) && decide (i ≤ hi))))
  | any (d : D) (lo hi : Int) (h : nrD d = true) : P_is_number [d, .int lo, .int hi] (.val (.bl (isNum d lo hi)))
theorem C_is_number (T : Tx K mg base) : Cal P w K mg base "is_number" 1 ["thing", "least", "most"] (SpR K P_is_number) := by
  refine cal_nox T.g_is_number T.f_is_number sc_is_number (len_R fun _ _ p => by cases p <;> rfl) (fun _ _ _ _ _ _ us hl => match us, hl with | [_, _, _], _ => rfl) (fun cdv A outer s H vs Q E hr h => ⟨_, (pss_one (ps_ret (pe_and (pe_callB (isiK (K := K)) (by rfl) T.b_isinstance (by decide +kernel) (pa_cons (pv 0) (pa_cons (pe_bltn (v := .ty "int") (by rfl) T.b_int (by decide +kernel) rfl) pa_nil))) (pe_and (pe_not (pe_callB (isiK (K := K)) (by rfl) T.b_isinstance (by decide +kernel) (pa_cons (pv 0) (pa_cons (pe_bltn (v := .ty "bool") (by rfl) T.b_bool (by decide +kernel) rfl) pa_nil)))) (pe_one (pe_chain op_le op_le (pv 1) (pv 0) (pv 2))))))), body_pure h fun ds r O p => ?_⟩)
  try dsimp only [cx_K]
  cases p with
  | int i lo hi =>
    refine sv_ret (d := .bl (decide (lo ≤ i) && decide (i ≤ hi))) (ev_is (d := .bl (true && (!false && (decide (lo ≤ i) && decide (i ≤ hi))))) ?_ (by simp)) ⟨rfl, OLe.refl _⟩
    walk_at "ev"
  | any d lo hi h =>
    refine sv_ret (d := .bl (isNum d lo hi)) (ev_is (d := .bl (isI d && (!isB d && isNum d lo hi))) ?_ (by cases d <;> simp [isI, isB, isNum])) ⟨rfl, OLe.refl _⟩
    refine ev_andV (ev_cb (ea_cons (ev_var rfl) (ea_cons ev_ty ea_nil)) (rc_isI h)) fun hI => ev_andV (ev_notV (ev_cb (ea_cons (ev_var rfl) (ea_cons ev_ty ea_nil)) (rc_isB h))) fun hB => ?_
    cases d with
    | int i => exact ev_chain (ev_var rfl) (ev_var rfl) rd_b (fun _ => ev_var rfl) fun _ => rd_b
    | bl b => cases hB
    | _ => cases hI

/-! machines and rows as data -/
abbrev Mc := Bool × Int
abbrev kS (b : Bool) : Str := if b then "well" else "tray"
abbrev encM (m : Mc) : D := .tup [.str (kS m.1), .int m.2]
def MOk (m : Mc) : Prop := 1 ≤ m.2 ∧ m.2 ≤ 300
def RowOk (row : List Mc) : Prop := row.length ≤ 6 ∧ ∀ m ∈ row, MOk m
/-- a row of any length -/
def RowLe (row : List Mc) : Prop := row.length ≤ 1000 ∧ ∀ m ∈ row, MOk m
theorem RowOk.le {row : List Mc} (h : RowOk row) : RowLe row := ⟨by have := h.1; omega, h.2⟩
theorem kS_inj : ∀ a b : Bool, kS a = kS b → a = b := by decide +kernel
theorem kS_well : ∀ a : Bool, decide (kS a = "well") = a := by decide +kernel
theorem kS_tray : ∀ a : Bool, decide (kS a = "tray") = !a := by decide +kernel
theorem kS_ok : ∀ a : Bool, PyData.strOk (kS a) = true := by decide +kernel
theorem kS_in : ∀ a : Bool, inD (.str (kS a)) [.str "tray", .str "well"] = true := by decide +kernel
theorem encM_inj (x y : Mc) (h : encM x = encM y) : x = y := by
  injection h with h
  injection h with h1 h2
  injection h1 with h1
  injection h2 with h2 _
  injection h2 with h2
  exact Prod.ext (kS_inj _ _ h1) h2
theorem pl_M (m : Mc) : Pl 1 (encM m) := .tup fun d h => by
  rcases List.mem_cons.mp h with rfl | h
  · exact .str 0 (kS_ok _)
  · rcases List.mem_cons.mp h with rfl | h
    · exact .int 0 _
    · cases h
theorem pl_R (row : List Mc) : Pl 2 (.lst (row.map encM)) := .lst fun d h => by
  obtain ⟨m, _, rfl⟩ := List.mem_map.mp h
  exact pl_M m
theorem nb_M (m : Mc) : Nb (encM m) := .tup fun d h => by
  rcases List.mem_cons.mp h with rfl | h
  · exact .str _
  · rcases List.mem_cons.mp h with rfl | h
    · exact .int _
    · cases h
theorem nb_R (row : List Mc) : Nb (.lst (row.map encM)) := .lst fun d h => by
  obtain ⟨m, _, rfl⟩ := List.mem_map.mp h
  exact nb_M m
def roomOf (row : List Mc) : Int := row.foldl (fun a m => a * m.2) 1
def isOdd (row : List Mc) : Bool := decide ((row.filter (·.1)).length % 2 = 1)
theorem roomOf_from (row : List Mc) (a : Int) : row.foldl (fun a m => a * m.2) a = a * roomOf row := by
  unfold roomOf
  induction row generalizing a with
  | nil => simp
  | cons m row ih => rw [List.foldl_cons, List.foldl_cons, ih, ih (1 * m.2), Int.one_mul, Int.mul_assoc]
theorem roomOf_cons (m : Mc) (row : List Mc) : roomOf (m :: row) = m.2 * roomOf row := by
  show (m :: row).foldl (fun a m => a * m.2) 1 = _
  rw [List.foldl_cons, roomOf_from, Int.one_mul]
theorem roomOf_append (a b : List Mc) : roomOf (a ++ b) = roomOf a * roomOf b := by
  show (a ++ b).foldl (fun a m => a * m.2) 1 = _
  rw [List.foldl_append, roomOf_from]
  rfl
theorem roomOf_pos {row : List Mc} (h : ∀ m ∈ row, MOk m) : 1 ≤ roomOf row ∧ roomOf row ≤ 300 ^ row.length := by
  induction row with
  | nil => exact ⟨by decide, by decide⟩
  | cons m row ih =>
    have hm := h m List.mem_cons_self
    have hr := ih fun x hx => h x (List.mem_cons_of_mem _ hx)
    rw [roomOf_cons]
    unfold MOk at hm
    refine ⟨?_, ?_⟩
    · have := Int.mul_le_mul hm.1 hr.1 (by decide) (by omega)
      omega
    · rw [List.length_cons, Int.pow_succ, Int.mul_comm (300 ^ row.length) 300]
      exact Int.mul_le_mul hm.2 hr.2 (by omega) (by decide)
theorem pow300 {n : Nat} (h : n ≤ 6) : (300 : Int) ^ n ≤ 729000000000000 := by
  rcases n with _ | _ | _ | _ | _ | _ | _ | n <;> first | decide | omega
theorem RowOk.room {row : List Mc} (h : RowOk row) : 1 ≤ roomOf row ∧ roomOf row ≤ 729000000000000 := by
  have h1 := roomOf_pos h.2
  have h2 := pow300 h.1
  omega
theorem RowOk.take {row : List Mc} (h : RowOk row) (n : Nat) : RowOk (row.take n) := ⟨Nat.le_trans (List.length_take_le' n row) h.1, fun m hm => h.2 m (List.mem_of_mem_take hm)⟩
theorem RowOk.drop {row : List Mc} (h : RowOk row) (n : Nat) : RowOk (row.drop n) := ⟨by rw [List.length_drop]; have := h.1; omega, fun m hm => h.2 m (List.mem_of_mem_drop hm)⟩

theorem iL_set (xs : List Int) (i : Nat) (x : Int) : (iL xs).set i (.int x) = iL (xs.set i x) := by unfold iL; rw [List.map_set]
theorem iL_app (xs ys : List Int) : iL xs ++ iL ys = iL (xs ++ ys) := by unfold iL; rw [List.map_append]
theorem iL_snoc (xs : List Int) (x : Int) : iL xs ++ [.int x] = iL (xs ++ [x]) := by unfold iL; rw [List.map_append]; rfl
theorem iL_rev (xs : List Int) : (iL xs).reverse = iL xs.reverse := by unfold iL; rw [List.map_reverse]
theorem iL_len (xs : List Int) : (iL xs).length = xs.length := List.length_map _
theorem iL_map {α : Type} (f : α → Int) (xs : List α) : (xs.map fun x => D.int (f x)) = iL (xs.map f) := by unfold iL; rw [List.map_map]; rfl
/-! orders of the numbers from 0 on -/
/-- the numbers below n, each at most once -/
def Part (n : Nat) (cs : List Int) : Prop := (∀ x ∈ cs, 0 ≤ x ∧ x < n) ∧ cs.Nodup
/-- for each number its place -/
def pf (n : Nat) (cs : List Int) : List Int := cs.zipIdx.foldl (fun L x => L.set x.1.toNat (x.2 : Int)) (List.replicate n 0)
theorem pf_nil (n : Nat) : pf n [] = List.replicate n 0 := rfl
theorem pf_snoc (n : Nat) (cs : List Int) (c : Int) : pf n (cs ++ [c]) = (pf n cs).set c.toNat (cs.length : Int) := by
  unfold pf
  rw [List.zipIdx_append, List.foldl_append]
  simp
theorem pf_len (n : Nat) (cs : List Int) : (pf n cs).length = n := by
  unfold pf
  have h : ∀ (l : List (Int × Nat)) (L : List Int), (l.foldl (fun L x => L.set x.1.toNat (x.2 : Int)) L).length = L.length := by
    intro l
    induction l with
    | nil => intro L; rfl
    | cons a l ih => intro L; rw [List.foldl_cons, ih, List.length_set]
  rw [h, List.length_replicate]
theorem list_rev_ind {α : Type} {P : List α → Prop} (h0 : P []) (h1 : ∀ l a, P l → P (l ++ [a])) (l : List α) : P l := by
  have h : ∀ m : List α, P m.reverse := by
    intro m
    induction m with
    | nil => exact h0
    | cons a m ih => rw [List.reverse_cons]; exact h1 _ a ih
  have := h l.reverse
  rw [List.reverse_reverse] at this
  exact this
theorem pf_get {n : Nat} : ∀ {cs : List Int}, Part n cs → ∀ j : Nat, j < n → (pf n cs)[j]? = some (if (j : Int) ∈ cs then (cs.idxOf (j : Int) : Int) else 0) := by
  intro cs
  induction cs using list_rev_ind with
  | h0 =>
    intro _ j hj
    rw [pf_nil, List.getElem?_replicate, if_pos hj]
    simp
  | h1 cs c ih =>
    intro hp j hj
    have hp' : Part n cs := ⟨fun x hx => hp.1 x (List.mem_append_left _ hx), (List.nodup_append.mp hp.2).1⟩
    have hc := hp.1 c (by simp)
    have hnot : c ∉ cs := fun h => (List.nodup_append.mp hp.2).2.2 c h c (by simp) rfl
    rw [pf_snoc]
    by_cases e : c.toNat = j
    · subst e
      rw [List.getElem?_set_self (by rw [pf_len]; exact hj)]
      have e2 : ((c.toNat : Nat) : Int) = c := by omega
      rw [e2, if_pos (by simp), List.idxOf_append, if_neg hnot]
      simp
    · rw [List.getElem?_set_ne e, ih hp' j hj]
      have e2 : (j : Int) ≠ c := by omega
      congr 1
      by_cases hm : (j : Int) ∈ cs
      · rw [if_pos hm, if_pos (List.mem_append_left _ hm), List.idxOf_append, if_pos hm]
      · rw [if_neg hm, if_neg (by simp [hm, e2])]
/-- all numbers below n -/
def Full (n : Nat) (cs : List Int) : Prop := Part n cs ∧ cs.length = n
theorem rng_mem {n : Nat} {x : Int} (h0 : 0 ≤ x) (h1 : x < n) : x ∈ rng 0 n := by
  unfold rng
  exact List.mem_map.mpr ⟨x.toNat, List.mem_range.mpr (by omega), by omega⟩
theorem nodup_len_le (n : Nat) (cs : List Int) (h : Part n cs) : cs.length ≤ n := by
  have := h.2.length_le_of_subset (l₂ := rng 0 n) fun x hx => rng_mem (h.1 x hx).1 (h.1 x hx).2
  rw [rng_len] at this
  exact this
theorem Full.mem {n : Nat} {cs : List Int} (h : Full n cs) {j : Nat} (hj : j < n) : (j : Int) ∈ cs := by
  refine Classical.byContradiction fun hn => ?_
  have hp : Part n ((j : Int) :: cs) := ⟨fun x hx => by
    rcases List.mem_cons.mp hx with rfl | hx
    · exact ⟨by omega, by omega⟩
    · exact h.1.1 x hx, List.nodup_cons.mpr ⟨hn, h.1.2⟩⟩
  have := nodup_len_le n _ hp
  rw [List.length_cons, h.2] at this
  omega
theorem Full.pf_at {n : Nat} {cs : List Int} (h : Full n cs) {j : Nat} (hj : j < n) : (pf n cs)[j]? = some (cs.idxOf (j : Int) : Int) := by
  rw [pf_get h.1 j hj, if_pos (h.mem hj)]
theorem Full.pf_of {n : Nat} {cs : List Int} (h : Full n cs) {i : Nat} {c : Int} (hc : cs[i]? = some c) : (pf n cs)[c.toNat]? = some (i : Int) := by
  have hi := (List.getElem?_eq_some_iff.mp hc).1
  have hb := h.1.1 c (List.mem_of_getElem? hc)
  rw [h.pf_at (j := c.toNat) (by omega)]
  congr 2
  rw [show ((c.toNat : Nat) : Int) = c by omega]
  have e := (List.getElem?_eq_some_iff.mp hc).2
  rw [← e]
  exact h.1.2.idxOf_getElem i hi
theorem nodup_of_get {l : List Int} (h : ∀ (i j : Nat) (x : Int), l[i]? = some x → l[j]? = some x → i = j) : l.Nodup := by
  induction l with
  | nil => exact List.nodup_nil
  | cons a l ih =>
    refine List.nodup_cons.mpr ⟨fun hm => ?_, ih fun i j x h1 h2 => ?_⟩
    · obtain ⟨i, hi⟩ := List.getElem?_of_mem hm
      have := h 0 (i + 1) a rfl (by simpa using hi)
      omega
    · have := h (i + 1) (j + 1) x (by simpa using h1) (by simpa using h2)
      omega
theorem get_of_nodup {l : List Int} (h : l.Nodup) {i j : Nat} {x : Int} (h1 : l[i]? = some x) (h2 : l[j]? = some x) : i = j := by
  obtain ⟨a1, a2⟩ := List.getElem?_eq_some_iff.mp h1
  obtain ⟨b1, b2⟩ := List.getElem?_eq_some_iff.mp h2
  exact (List.getElem?_inj a1 h).mp (h1.trans h2.symm)
theorem Full.pf {n : Nat} {cs : List Int} (h : Full n cs) : Full n (pf n cs) := by
  refine ⟨⟨fun x hx => ?_, nodup_of_get fun i j x h1 h2 => ?_⟩, pf_len n cs⟩
  · obtain ⟨j, hj⟩ := List.getElem?_of_mem hx
    have hjn : j < n := by
      have := (List.getElem?_eq_some_iff.mp hj).1
      rw [pf_len] at this
      exact this
    rw [h.pf_at hjn] at hj
    cases hj
    have := List.idxOf_lt_length_of_mem (h.mem hjn)
    rw [h.2] at this
    omega
  · have hin : i < n := by have := (List.getElem?_eq_some_iff.mp h1).1; rw [pf_len] at this; exact this
    have hjn : j < n := by have := (List.getElem?_eq_some_iff.mp h2).1; rw [pf_len] at this; exact this
    rw [h.pf_at hin] at h1
    rw [h.pf_at hjn] at h2
    have e : cs.idxOf (i : Int) = cs.idxOf (j : Int) := by
      have := (Option.some.inj h1).trans (Option.some.inj h2).symm
      omega
    have e1 := List.getElem_idxOf (List.idxOf_lt_length_of_mem (h.mem hin))
    have e2 := List.getElem_idxOf (List.idxOf_lt_length_of_mem (h.mem hjn))
    have e3 : cs[cs.idxOf (i : Int)]'(List.idxOf_lt_length_of_mem (h.mem hin)) = cs[cs.idxOf (j : Int)]'(List.idxOf_lt_length_of_mem (h.mem hjn)) := by
      congr 1
    rw [e1, e2] at e3
    omega
/-- places of places -/
theorem Full.pf_pf {n : Nat} {cs : List Int} (h : Full n cs) : Pr.pf n (Pr.pf n cs) = cs := by
  refine List.ext_getElem? fun i => ?_
  by_cases hi : i < n
  · obtain ⟨c, hc⟩ : ∃ c, cs[i]? = some c := ⟨_, List.getElem?_eq_getElem (by rw [h.2]; exact hi)⟩
    have hb := h.1.1 c (List.mem_of_getElem? hc)
    have h1 := h.pf_of hc
    have h2 := h.pf.pf_of h1
    rw [show ((i : Nat) : Int).toNat = i by omega] at h2
    rw [h2, hc]
    congr 1
    omega
  · rw [List.getElem?_eq_none (by rw [pf_len]; omega), List.getElem?_eq_none (by rw [h.2]; omega)]
theorem Full.reverse {n : Nat} {cs : List Int} (h : Full n cs) : Full n cs.reverse := ⟨⟨fun x hx => h.1.1 x (List.mem_reverse.mp hx), (List.reverse_perm cs).nodup_iff.mpr h.1.2⟩, by rw [List.length_reverse, h.2]⟩
theorem Full.perm {n : Nat} {cs ds : List Int} (h : Full n cs) (p : ds.Perm cs) : Full n ds := ⟨⟨fun x hx => h.1.1 x (p.mem_iff.mp hx), p.nodup_iff.mpr h.1.2⟩, by rw [p.length_eq, h.2]⟩
theorem full_range (n : Nat) : Full n (rng 0 n) := by
  refine ⟨⟨fun x hx => ?_, ?_⟩, rng_len 0 n⟩
  · unfold rng at hx
    obtain ⟨i, hi, rfl⟩ := List.mem_map.mp hx
    have := List.mem_range.mp hi
    omega
  · refine nodup_of_get fun i j x h1 h2 => ?_
    have hi : i < n := by have := (List.getElem?_eq_some_iff.mp h1).1; rw [rng_len] at this; exact this
    have hj : j < n := by have := (List.getElem?_eq_some_iff.mp h2).1; rw [rng_len] at this; exact this
    rw [rng_get hi] at h1
    rw [rng_get hj] at h2
    have := (Option.some.inj h1).trans (Option.some.inj h2).symm
    omega
/-- one more, at any place -/
theorem Full.insert {n : Nat} {cs : List Int} (h : Full n cs) (i : Nat) : Full (n + 1) (cs.take i ++ [(n : Int)] ++ cs.drop i) := by
  have p : (cs.take i ++ [(n : Int)] ++ cs.drop i).Perm ((n : Int) :: cs) := by
    have p1 : (cs.take i ++ [(n : Int)] ++ cs.drop i).Perm ([(n : Int)] ++ cs.take i ++ cs.drop i) := List.Perm.append_right _ List.perm_append_comm
    refine p1.trans ?_
    rw [List.append_assoc, List.take_append_drop]
    exact List.Perm.refl _
  refine ⟨⟨fun x hx => ?_, p.nodup_iff.mpr (List.nodup_cons.mpr ⟨fun hm => ?_, h.1.2⟩)⟩, by rw [p.length_eq, List.length_cons, h.2]⟩
  · rcases List.mem_cons.mp (p.mem_iff.mp hx) with rfl | hx
    · exact ⟨by omega, by omega⟩
    · have := h.1.1 x hx
      exact ⟨this.1, by omega⟩
  · have := h.1.1 _ hm
    omega

theorem iL_inj {xs ys : List Int} (h : iL xs = iL ys) : xs = ys := by
  unfold iL at h
  induction xs generalizing ys with
  | nil => cases ys with
    | nil => rfl
    | cons y ys => cases h
  | cons x xs ih => cases ys with
    | nil => cases h
    | cons y ys =>
      rw [List.map_cons, List.map_cons] at h
      injection h with h1 h2
      injection h1 with h1
      rw [h1, ih h2]
theorem bL_map {α : Type} (f : α → Bool) (xs : List α) : (xs.map fun x => D.bl (f x)) = bL (xs.map f) := by unfold bL; rw [List.map_map]; rfl
theorem oput_id {O : Om} {p : Addr} {b : Ob} (h : O p = some b) : oput O p b = O := by
  funext q
  by_cases e : q = p
  · subst e; rw [oput_same, h]
  · rw [oput_ne e]
/-- the word of a plan -/
def wordOf (cs plan : List Int) : List Int := cs.map fun c => plan.getD c.toNat 0
theorem wordOf_len (cs f : List Int) : (wordOf cs f).length = cs.length := by unfold wordOf; exact List.length_map _
theorem wordOf_get {cs f : List Int} {i : Nat} {c : Int} (h : cs[i]? = some c) : (wordOf cs f)[i]? = some (f.getD c.toNat 0) := by
  unfold wordOf
  rw [List.getElem?_map, h]
  rfl
theorem getD_some {f : List Int} {j : Nat} (h : j < f.length) : f[j]? = some (f.getD j 0) := by
  rw [List.getD_eq_getElem?_getD, List.getElem?_eq_getElem h]
  rfl
theorem wordOf_rng (f : List Int) : wordOf (rng 0 f.length) f = f := by
  refine List.ext_getElem? fun i => ?_
  by_cases hi : i < f.length
  · rw [wordOf_get (rng_get hi), show ((0 : Int) + (i : Int)).toNat = i by omega, getD_some hi]
  · rw [List.getElem?_eq_none (by rw [wordOf_len, rng_len]; omega), List.getElem?_eq_none (by omega)]
theorem wordOf_eq {cs plan : List Int} : (cs.map fun c => D.int (plan.getD c.toNat 0)) = iL (wordOf cs plan) := by
  unfold iL wordOf
  rw [List.map_map]
  rfl
theorem list_snoc {α : Type} (l : List α) : l = [] ∨ ∃ i a, l = i ++ [a] := by
  rcases List.eq_nil_or_concat l with h | ⟨i, a, h⟩
  · exact .inl h
  · exact .inr ⟨i, a, by rw [h, List.concat_eq_append]⟩
theorem ixN_last (n : Nat) (h : 1 ≤ n) : ixN n (-1) = some (n - 1) := by
  unfold ixN
  rw [if_neg (by omega), if_pos (by omega)]
  congr 1
  omega
theorem atI_last {α : Type} (xs : List α) (h : 1 ≤ xs.length) : atI xs (-1) = some (xs[xs.length - 1]'(by omega)) := by
  unfold atI
  rw [ixN_last _ h]
  exact List.getElem?_eq_getElem _
theorem lst_enc_inj (x y : List Int) (h : (fun l : List Int => D.lst (iL l)) x = (fun l : List Int => D.lst (iL l)) y) : x = y := by
  injection h with h
  exact iL_inj h
theorem rep_zero (n : Nat) : (List.replicate n [D.int 0]).flatten = iL (List.replicate n 0) := by
  induction n with
  | zero => rfl
  | succ n ih =>
    rw [List.replicate_succ, List.replicate_succ, List.flatten_cons, ih]
    rfl

/-! decks as data -/
abbrev DeckOk (ns : List Int) : Prop := 1 ≤ ns.length ∧ ns.length ≤ 40 ∧ Full ns.length ns
abbrev deckD (K : Fg) (ns : List Int) : D := .ins (He.ga K "Deck") ["pile"] [.lst (iL ns)]
theorem int_enc_inj (x y : Int) (h : D.int x = D.int y) : x = y := D.int.inj h
theorem ev_lenSetI {K : Fg} {E : XK} {G : Sl} {te : TE} {ns : List Int} (h : EvR K E te G (.val (.lst (iL ns)))) (hl : ns.length ≤ 4000) (hn : ns.Nodup) : EvR K E (RZ.tLenSetI K te) G (.val (.int ns.length)) := fun σ H0 H e s Q q =>
  h σ H0 H e s _ fun v H1 H1' s1 r1 => by
    obtain ⟨a, vs, rfl, ha, t⟩ := r1.lst_out
    obtain rfl := t.ints_eq
    exact ⟨a, ns, rfl, .inl (.inl (s1.c _ _ ha)), hn, hl, q _ H1 H1' s1 (.int _)⟩
theorem deck_enc_inj {K : Fg} (x y : List Int) (h : deckD K x = deckD K y) : x = y := by
  injection h with _ _ h
  injection h with h _
  injection h with h
  exact iL_inj h

inductive P_is_cards : List D → Res → Prop
  | ok (ns : List Int) (h : DeckOk ns) : P_is_cards [.lst (iL ns)] (.val (.bl true))
theorem C_is_cards (T : Tx K mg base) : Cal P w K mg base "is_cards" 2 ["thing"] (SpR K P_is_cards) := by
  refine cal_nox T.g_is_cards T.f_is_cards sc_is_cards (len_R fun _ _ p => by cases p <;> rfl) (fun _ _ _ _ _ _ us hl => match us, hl with | [_], _ => rfl) (fun cdv A outer s H vs Q E hr h => ⟨_, (pss_cons (ps_if (PW.pt (pw_or (pt_not (pt_val (pe_callB (isiK (K := K)) (by rfl) T.b_isinstance (by decide +kernel) (pa_cons (pv 0) (pa_cons (pe_bltn (v := .ty "list") (by rfl) T.b_list (by decide +kernel) rfl) pa_nil))))) (pw_or1 (pt_not (pt_chain op_le op_le pe_int (pe_callB (lenK (K := K)) (by rfl) T.b_len (by decide +kernel) (pa_cons (pv 0) pa_nil)) (pe_cst T.c_MOST_CARDS)))))) (pss_one (ps_ret pe_bl)) pss_nil)
      (pss_cons (ps_if (pt_not (pt_val (pe_callB (allK (K := K)) (by rfl) T.b_all (by decide +kernel) (pa_cons (pe_lc (own := [("one", 1)]) (g := gName 1) (tt := tYes) rfl sc_is_cards.nd (piL (K := K) (pv 0)) (blkOk_by (own := [("one", 1)]) (N := N_is_cards) (sc := defScope s_is_cards) (by decide +kernel)) (fun _ _ _ _ _ => (pg_name (i := 1) sc_is_cards.nd rfl (by first | exact Or.inl rfl | exact Or.inr rfl))) (fun _ _ _ _ _ => pts_nil) (fun _ _ _ _ _ => (pe_cal (C_is_number T) (hr.mono (by decide)) (pa_cons (pv 1) (pa_cons pe_int (pa_cons (pe_op op_sub (pe_callB (lenK (K := K)) (by rfl) T.b_len (by decide +kernel) (pa_cons (pv 0) pa_nil)) pe_int) pa_nil)))))) pa_nil)))) (pss_one (ps_ret pe_bl)) pss_nil)
      (pss_one (ps_ret (pe_cmpR op_eq (lenSetK (K := K) (by rfl) T.b_len (by rfl) T.b_set (pv 0)) (pe_callB (lenK (K := K)) (by rfl) T.b_len (by decide +kernel) (pa_cons (pv 0) pa_nil)) (nomark _)))))), body_pure h fun ds r O p => ?_⟩)
  try dsimp only [cx_K]
  cases p with
  | ok ns h =>
    have h1 := h.1
    have h2 := h.2.1
    refine sv_seq (sv_if (b := false) (et_is (a := !true || !(decide ((1 : Int) ≤ ((iL ns).length : Nat)) && decide ((((iL ns).length : Nat) : Int) ≤ 40))) ?_ ?_) (fun h => by cases h) fun _ => sv_next ?_)
    · walk_at "ev"
    · rw [List.length_map, decide_eq_true (show (1 : Int) ≤ (ns.length : Nat) by omega), decide_eq_true (show ((ns.length : Nat) : Int) ≤ 40 by omega)]
      rfl
    refine sv_seq (sv_if (b := false) (et_is (a := !((ns.map fun x => decide (0 ≤ x) && decide (x ≤ (((iL ns).length : Nat) : Int) - 1)).all id)) ?_ ?_) (fun h => by cases h) fun _ => sv_next ?_)
    · refine et_not (et_B (ev_cb (ea_cons (EvR.lst (ev_isN (ev_lcT (enc := D.int) (xs := ns) (h := fun x => .bl (decide (0 ≤ x) && decide (x ≤ (((iL ns).length : Nat) : Int) - 1))) (src_list (ev_var rfl)) (fun m _ => tg_name) (fun m _ => ev_callV (ea_cons (ev_var rfl) (ea_cons ev_int (ea_cons (ev_op (ev_cb (ea_cons (ev_var rfl) ea_nil) rc_len) ev_int rd_i) ea_nil))) (P_is_number.int _ _ _)) int_enc_inj (by omega)) ?_)) ea_nil) rc_all))
      unfold bL
      rw [List.map_map]
      rfl
    · have q : (ns.map fun x => decide (0 ≤ x) && decide (x ≤ (((iL ns).length : Nat) : Int) - 1)).all id = true := by
        rw [List.all_map, List.all_eq_true]
        intro x hx
        have := h.2.2.1.1 x hx
        rw [List.length_map]
        show (decide (0 ≤ x) && decide (x ≤ ((ns.length : Nat) : Int) - 1)) = true
        rw [decide_eq_true this.1, decide_eq_true (show x ≤ ((ns.length : Nat) : Int) - 1 by omega)]
        rfl
      rw [q]
      rfl
    refine sv_ret (ev_is (ev_op (ev_lenSetI (ev_var rfl) (by omega) h.2.2.1.2) (ev_cb (ea_cons (ev_var rfl) ea_nil) rc_len) rd_eqI) ?_) ⟨rfl, OLe.refl _⟩
    rw [List.length_map, decide_eq_true rfl]

inductive P_Deck_init (K : Fg) : List D → Om → (D → Om → Prop) → Prop
  | mk (x : Addr) (ns : List Int) (O : Om) (k : D → Om → Prop) (hO : O x = some (.obj (He.ga K "Deck") [])) (h : DeckOk ns) (hk : k .non (oput O x (.obj (He.ga K "Deck") [("pile", .lst (iL ns))]))) : P_Deck_init K [.ref x, .lst (iL ns)] O k
theorem C_Deck___init__ (T : Tx K mg base) : CalI P w K mg base (He.ga K "Deck") 3 ["self", "cards"] (SpM K (P_Deck_init K)) := by
  refine calI_nox T.mk_Deck T.f_Deck___init__ sc_Deck___init__ (len_M fun _ _ _ p => by cases p <;> rfl) (fun _ _ _ _ _ _ us hl => match us, hl with | [_, _], _ => rfl) (fun cdv A outer s H vs Q E hr h => ⟨_, (pss_cons (ps_if (pt_not (pt_val (pe_cal (C_is_cards T) (hr.mono (by decide)) (pa_cons (pv 1) pa_nil)))) (pss_one ps_never) pss_nil)
      (pss_one (ps_fld (pv 0) (pe_callTy (listK (K := K)) (by rfl) T.b_list (by decide +kernel) (pa_cons (pv 1) pa_nil)) rfl))), body_m h fun ds O k p => ?_⟩)
  try dsimp only [cx_K]
  cases p with
  | mk x ns O k hO h hk =>
    refine sv_seq (sv_if (b := false) (et_not (et_B (ev_callV (ea_cons (ev_var rfl) ea_nil) (P_is_cards.ok ns h)))) (fun h => by cases h) fun _ => sv_next ?_)
    exact sv_fld (C := He.ga K "Deck") (em_val (ev_cb (ea_cons (ev_var rfl) ea_nil) (RC.lst rc_list)) (em_val (ev_var rfl) ⟨x, [], rfl, hO, by decide, hk⟩)) T.cl_Deck T.na_Deck_pile
/-- Deck(e) -/
theorem ev_Deck {E E' : XK} {G : Sl} {t : TA} {ns : List Int} (ha : EvA K t G [.lst (iL ns)]) (h : DeckOk ns) : EvR K E (tMake (He.ga K "Deck") (SpM K (P_Deck_init K)) [] E' t) G (.val (deckD K ns)) :=
  ev_make (fs := [("pile", .lst (iL ns))]) ha fun O x hO k hk => .mk x ns O k hO h hk
theorem ev_pile {E : XK} {G : Sl} {te : TE} {ns : List Int} (T : Tx K mg base) (h : EvR K E te G (.val (deckD K ns))) : EvR K E (tFld K te "pile") G (.val (.lst (iL ns))) := ev_fld h T.cl_Deck T.na_Deck_pile rfl
inductive P_Deck_len (K : Fg) : List D → Res → Prop
  | mk (ns : List Int) : P_Deck_len K [deckD K ns] (.val (.int ns.length))
inductive P_Deck_eq (K : Fg) : List D → Res → Prop
  | mk (ns ms : List Int) : P_Deck_eq K [deckD K ns, deckD K ms] (.val (.bl (decide (ns = ms))))
inductive P_Deck_cards (K : Fg) : List D → Res → Prop
  | mk (ns : List Int) : P_Deck_cards K [deckD K ns] (.new (iL ns))
theorem len_lt_big (n : Nat) (h : n ≤ 1000000) : (0 : Int) ≤ n ∧ (n : Int) < 2 ^ 63 := ⟨by omega, by omega⟩
/-- len(deck) -/
theorem rc_lenDeck {E : XK} {ns : List Int} (h : ns.length ≤ 1000000) : RC K E (fun xs H Q => ∃ a dx fs, xs = [.ref a] ∧ H a = some (.ins (He.ga K "Deck") dx fs) ∧ SpR K (P_Deck_len K) [.ref a] H (fun v H' => ∃ n : Int, v = .int n ∧ 0 ≤ n ∧ n < 2 ^ 63 ∧ Q (.int n) H') E0) [deckD K ns] (.val (.int ns.length)) :=
  rc_lenOwn (.mk ns) (len_lt_big _ h).1 (len_lt_big _ h).2
theorem rd_eqDeck {E : XK} {ns ms : List Int} : RD K E (rEqOwn (He.ga K "Deck") (SpR K (P_Deck_eq K))) (deckD K ns) (deckD K ms) (.val (.bl (decide (ns = ms)))) := rd_eqOwn (.mk ns ms)
theorem rd_neDeck {E : XK} {ns ms : List Int} : RD K E (rNeOwn (He.ga K "Deck") (SpR K (P_Deck_eq K))) (deckD K ns) (deckD K ms) (.val (.bl (!decide (ns = ms)))) := rd_neOwn (.mk ns ms)
theorem ev_cards {E : XK} {G : Sl} {te : TE} {ns : List Int} (h : EvR K E te G (.val (deckD K ns))) : EvR K E (tMeth (He.ga K "Deck") "cards" (SpR K (P_Deck_cards K)) [] E0 te tNil) G (.val (.lst (iL ns))) := ev_methNV h (by decide +kernel) ea_nil (.mk ns)
theorem em_Deck {G : Sl} {O : Om} {E' : XK} {t : TA} {P : D → Om → Prop} (h : EvMA K t G O fun es O1 => ∃ ns, es = [.lst (iL ns)] ∧ DeckOk ns ∧ P (deckD K ns) O1) : EvM K (tMake (He.ga K "Deck") (SpM K (P_Deck_init K)) [] E' t) G O P :=
  em_make (ma_imp h fun es O1 ⟨ns, e, hd, k⟩ => ⟨[("pile", .lst (iL ns))], fun O x hO k hk => by subst e; exact .mk x ns O k hO hd hk, k⟩)

/-- a thing and what lies in it -/
def nrA (d : D) : Prop := nrD d = true ∧ ∀ x, (∃ ds, (d = .lst ds ∨ d = .tup ds) ∧ x ∈ ds) → nrD x = true
def machB : D → Bool
  | .tup [.str x, y] => (decide (x = "tray") || decide (x = "well")) && isNum y 1 300
  | _ => false
inductive P_is_machine : List D → Res → Prop
  | mk (m : Mc) : P_is_machine [encM m] (.val (.bl (decide (1 ≤ m.2) && decide (m.2 ≤ 300))))
  | any (d : D) (h : nrA d) (hl : ∀ ds, d = .tup ds → ds.length ≤ 1000) : P_is_machine [d] (.val (.bl (machB d)))
theorem sv_outF {E : XK} {tt : TT} {tw : TS} {G : Sl} {O : Om} {c : Bool} (hm : c = false) (he : EvT K tt G true) : Sv K E (tSeq (tIfS tt (tRet (tC (.bl false))) tNext) tw) (enR (.val (.bl c)) O) G O := sv_seq (sv_if he (fun _ => sv_ret ev_bl ⟨by rw [hm], OLe.refl _⟩) (fun h => by cases h))
theorem C_is_machine (T : Tx K mg base) : Cal P w K mg base "is_machine" 2 ["thing"] (SpR K P_is_machine) := by
  refine cal_nox T.g_is_machine T.f_is_machine sc_is_machine (len_R fun _ _ p => by cases p <;> rfl) (fun _ _ _ _ _ _ us hl => match us, hl with | [_], _ => rfl) (fun cdv A outer s H vs Q E hr h => ⟨_, (pss_cons (ps_if (PW.pt (pw_or (pt_not (pt_val (pe_callB (isiK (K := K)) (by rfl) T.b_isinstance (by decide +kernel) (pa_cons (pv 0) (pa_cons (pe_bltn (v := .ty "tuple") (by rfl) T.b_tuple (by decide +kernel) rfl) pa_nil))))) (pw_or (pt_cmpR op_ne (pe_callB (lenK (K := K)) (by rfl) T.b_len (by decide +kernel) (pa_cons (pv 0) pa_nil)) pe_int (nomark _)) (pw_or1 (pt_not (pt_val (pe_callB (isiK (K := K)) (by rfl) T.b_isinstance (by decide +kernel) (pa_cons (pe_ix (ixT (K := K)) (pv 0) pe_int (fun _ _ => rfl)) (pa_cons (pe_bltn (v := .ty "str") (by rfl) T.b_str (by decide +kernel) rfl) pa_nil))))))))) (pss_one (ps_ret pe_bl)) pss_nil)
      (pss_one (ps_ret (pe_and (pe_cmpR (inS (K := K)) (pe_ix (ixT (K := K)) (pv 0) pe_int (fun _ _ => rfl)) (pe_tup (pa_cons pe_str (pa_cons pe_str pa_nil))) (by rfl)) (pe_one (pe_cal (C_is_number T) (hr.mono (by decide)) (pa_cons (pe_ix (ixT (K := K)) (pv 0) pe_int (fun _ _ => rfl)) (pa_cons pe_int (pa_cons (pe_cst T.c_MOST_POCKETS) pa_nil))))))))), body_pure h fun ds r O p => ?_⟩)
  try dsimp only [cx_K]
  cases p with
  | mk m =>
    refine sv_seq (sv_if (b := false) (et_is (a := !true || (!decide (((2 : Nat) : Int) = 2) || !true)) ?_ (by simp)) (fun h => by cases h) fun _ => ?_)
    · walk_at "ev"
    · refine sv_next ?_
      refine sv_ret (ev_is (d := .bl (inD (.str (kS m.1)) [.str "tray", .str "well"] && (decide (1 ≤ m.2) && decide (m.2 ≤ 300)))) ?_ (by rw [kS_in]; rfl)) ⟨rfl, OLe.refl _⟩
      refine ev_andV (ev_op (ev_op (ev_var rfl) ev_int (rd_ixT rfl)) (ev_tup (ea_cons ev_str (ea_cons ev_str ea_nil))) (rd_inT (neg := false) rfl rfl)) fun _ => ?_
      exact ev_callV (ea_cons (ev_op (ev_var rfl) ev_int (rd_ixT rfl)) (ea_cons ev_int (ea_cons ev_int ea_nil))) (.int _ _ _)
  | any d h hl =>
    have hT := h.1
    by_cases ht : isT d = true
    · obtain ⟨ds, rfl⟩ : ∃ ds, d = .tup ds := by
        cases d with
        | tup ds => exact ⟨ds, rfl⟩
        | _ => cases ht
      by_cases h2 : ds.length = 2
      · obtain ⟨x, y, rfl⟩ : ∃ x y, ds = [x, y] := by
          match ds, h2 with
          | [x, y], _ => exact ⟨x, y, rfl⟩
        have hx : nrD x = true := h.2 x ⟨[x, y], .inr rfl, by simp⟩
        have hy : nrD y = true := h.2 y ⟨[x, y], .inr rfl, by simp⟩
        by_cases hs : isS x = true
        · obtain ⟨z, rfl⟩ : ∃ z, x = .str z := by
            cases x with
            | str z => exact ⟨z, rfl⟩
            | _ => cases hs
          refine sv_seq (sv_if (b := false) (et_is (et_or (et_not (et_B (ev_cb (ea_cons (ev_var rfl) (ea_cons ev_ty ea_nil)) (rc_isT rfl)))) fun _ => et_or (et_test (ev_op (ev_cb (ea_cons (ev_var rfl) ea_nil) rc_lenT) ev_int rd_neI)) fun _ => et_not (et_B (ev_cb (ea_cons (ev_op (ev_var rfl) ev_int (rd_ixT (d := .str z) rfl)) (ea_cons ev_ty ea_nil)) (rc_isS rfl)))) rfl) (fun h => by cases h) fun _ => sv_next ?_)
          refine sv_ret (ev_is (d := .bl (inD (.str z) [.str "tray", .str "well"] && isNum y 1 300)) ?_ ?_) ⟨rfl, OLe.refl _⟩
          · refine ev_andV (ev_op (ev_op (ev_var rfl) ev_int (rd_ixT (d := .str z) rfl)) (ev_tup (ea_cons ev_str (ea_cons ev_str ea_nil))) (rd_inT (neg := false) rfl rfl)) fun _ => ?_
            exact ev_callV (ea_cons (ev_op (ev_var rfl) ev_int (rd_ixT (d := y) rfl)) (ea_cons ev_int (ea_cons ev_int ea_nil))) (.any _ _ _ hy)
          · have : inD (.str z) [.str "tray", .str "well"] = (decide (z = "tray") || decide (z = "well")) := by
              unfold inD inV
              have hb : ∀ a : Str, (a == z) = decide (z = a) := fun a => by
                rw [Bool.eq_iff_iff, beq_iff_eq, decide_eq_true_iff]
                exact ⟨Eq.symm, Eq.symm⟩
              simp [vOf, eqV, hb]
            rw [this]
            rfl
        · have hs : isS x = false := by simpa using hs
          refine sv_outF (G := startD N_is_machine.length [_]) ?_ (et_is (et_or (et_not (et_B (ev_cb (ea_cons (ev_var rfl) (ea_cons ev_ty ea_nil)) (rc_isT rfl)))) fun _ => et_or (et_test (ev_op (ev_cb (ea_cons (ev_var rfl) ea_nil) rc_lenT) ev_int rd_neI)) fun _ => et_not (et_B (ev_cb (ea_cons (ev_op (ev_var rfl) ev_int (rd_ixT (d := x) rfl)) (ea_cons ev_ty ea_nil)) (rc_isS hx)))) (by rw [hs]; rfl))
          cases x with
          | str z => cases hs
          | _ => rfl
      · refine sv_outF (G := startD N_is_machine.length [_]) ?_ (et_is (et_or (b := true) (et_not (et_B (ev_cb (ea_cons (ev_var rfl) (ea_cons ev_ty ea_nil)) (rc_isT rfl)))) fun _ => et_is (et_or (b := true) (et_test (ev_op (ev_cb (ea_cons (ev_var rfl) ea_nil) rc_lenT) ev_int rd_neI)) fun z => ?_) ?_) rfl)
        · match ds, h2 with
          | [], _ => rfl
          | [x], _ => cases x <;> rfl
          | x :: y :: z :: r, _ => cases x <;> rfl
          | [x, y], h2 => exact absurd rfl h2
        · exfalso
          simp at z
          omega
        · simp
    · have ht : isT d = false := by simpa using ht
      refine sv_outF (G := startD N_is_machine.length [_]) ?_ (et_is (et_or (b := true) (et_not (et_B (ev_cb (ea_cons (ev_var rfl) (ea_cons ev_ty ea_nil)) (rc_isT hT)))) fun z => by rw [ht] at z; cases z) (by rw [ht]; rfl))
      cases d with
      | tup ds => cases ht
      | _ => rfl

inductive P_look_machine (K : Fg) : List D → Res → Prop
  | mk (m : Mc) (h : MOk m) : P_look_machine K [encM m] (.val .non)
  | bad (d : D) (h : nrA d) (hl : ∀ ds, d = .tup ds → ds.length ≤ 1000) (hb : machB d = false) : P_look_machine K [d] (.exc (.ref (He.ga K "BadMachine")))
theorem nrA_pair {x y : D} (hx : nrD x = true) (hy : nrD y = true) : nrA (.tup [x, y]) := ⟨rfl, fun z ⟨es, e, hz⟩ => by
  rcases e with e | e
  · cases e
  · cases e
    rcases List.mem_cons.mp hz with rfl | hz
    · exact hx
    · rw [List.mem_singleton.mp hz]
      exact hy⟩
theorem sv_badm {E : XK} {G : Sl} {O : Om} {x y : D} {i : Nat} {tw : TS} {N : En} (hi : G[i]? = some (some (.tup [x, y]))) (hx : nrD x = true) (hy : nrD y = true) (hb : machB (.tup [x, y]) = false) (k : N.ex (.ref (He.ga K "BadMachine")) O) :
    Sv K E (tSeq (tDrop (tCall (SpR K (P_look_machine K)) [] E (tCons (tVar i) tNil))) tw) N G O := sv_seq (sv_dropX (ev_callX (ea_cons (ev_var hi) ea_nil) (P_look_machine.bad _ (nrA_pair hx hy) (fun ds e => by cases e; show 2 ≤ 1000; decide) hb)) k)

/-- so many pockets, each below p -/
def WordOk (n : Nat) (p : Int) (ws : List Int) : Prop := ws.length = n ∧ n ≤ 1000 ∧ ∀ x ∈ ws, 0 ≤ x ∧ x < p
def planB : D → Int → Int → Bool
  | .lst ds, n, p => decide ((ds.length : Int) = n) && ds.all fun d => isNum d 0 (p - 1)
  | _, _, _ => false
def lenA (d : D) : Prop := ∀ ds, (d = .lst ds ∨ d = .tup ds) → ds.length ≤ 1000
inductive P_is_plan : List D → Res → Prop
  | ok (ws : List Int) (n : Nat) (p : Int) (h : WordOk n p ws) : P_is_plan [.lst (iL ws), .int n, .int p] (.val (.bl true))
  | any (d : D) (n p : Int) (h : nrA d) (hl : lenA d) : P_is_plan [d, .int n, .int p] (.val (.bl (planB d n p)))
inductive P_look_plan (K : Fg) : List D → Res → Prop
  | mk (ws : List Int) (n : Nat) (m : Mc) (h : WordOk n m.2 ws) : P_look_plan K [.lst (iL ws), .int n, encM m] (.val .non)
  | any (d : D) (n : Int) (m : Mc) (r : Res) (h : nrA d) (hl : lenA d) (hr : r = if planB d n m.2 then .val .non else .exc (.ref (He.ga K "BadPlan"))) : P_look_plan K [d, .int n, encM m] r
/-- what falls into pocket j -/
def pileOf (xs ws : List Int) (j : Nat) : List Int := ((xs.zip ws).filter fun x => decide (x.2 = (j : Int))).map (·.1)
def turnIf (b : Bool) (xs : List Int) : List Int := if b then xs.reverse else xs
/-- things behind falling into pockets and being gathered -/
def gath (m : Mc) (xs ws : List Int) : List Int := ((List.range m.2.toNat).map fun j => turnIf m.1 (pileOf xs ws j)).flatten
def pilesOf (n : Nat) (xs ws : List Int) : List (List Int) := (List.range n).map fun j => pileOf xs ws j
theorem pileOf_snoc {xs ws : List Int} {i : Nat} {x w : Int} (hx : xs[i]? = some x) (hw : ws[i]? = some w) (j : Nat) : pileOf (xs.take (i + 1)) (ws.take (i + 1)) j = pileOf (xs.take i) (ws.take i) j ++ (if w = (j : Int) then [x] else []) := by
  unfold pileOf
  have hxl := (List.getElem?_eq_some_iff.mp hx).1
  have hwl := (List.getElem?_eq_some_iff.mp hw).1
  rw [List.take_add_one, List.take_add_one, hx, hw]
  show ((((xs.take i) ++ [x]).zip ((ws.take i) ++ [w])).filter _).map _ = _
  rw [List.zip_append (by rw [List.length_take, List.length_take]; omega), List.filter_append, List.map_append]
  congr 1
  by_cases h : w = (j : Int)
  · rw [if_pos h]
    simp [h]
  · rw [if_neg h]
    simp [h]
theorem pilesOf_step {n : Nat} {xs ws : List Int} {i : Nat} {x : Int} {j : Nat} (hj : j < n) (hx : xs[i]? = some x) (hw : ws[i]? = some (j : Int)) :
    (pilesOf n (xs.take i) (ws.take i)).set j (pileOf (xs.take i) (ws.take i) j ++ [x]) = pilesOf n (xs.take (i + 1)) (ws.take (i + 1)) := by
  refine List.ext_getElem? fun l => ?_
  unfold pilesOf
  by_cases hl : l < n
  · by_cases e : j = l
    · subst e
      rw [List.getElem?_set_self (by rw [List.length_map, List.length_range]; exact hj), List.getElem?_map, List.getElem?_range hj]
      show _ = some (pileOf _ _ j)
      rw [pileOf_snoc hx hw, if_pos rfl]
    · rw [List.getElem?_set_ne e, List.getElem?_map, List.getElem?_map, List.getElem?_range hl]
      show some (pileOf _ _ l) = some (pileOf _ _ l)
      rw [pileOf_snoc hx hw, if_neg (by omega), List.append_nil]
  · rw [List.getElem?_eq_none (by rw [List.length_set, List.length_map, List.length_range]; omega), List.getElem?_eq_none (by rw [List.length_map, List.length_range]; omega)]
theorem pileOf_len (xs ws : List Int) (j : Nat) : (pileOf xs ws j).length ≤ xs.length := by
  unfold pileOf
  rw [List.length_map]
  refine Nat.le_trans (List.length_filter_le _ _) ?_
  rw [List.length_zip]
  omega
theorem turnIf_len (b : Bool) (xs : List Int) : (turnIf b xs).length = xs.length := by
  unfold turnIf
  split
  · exact List.length_reverse
  · rfl
theorem flat_len {n c : Nat} {f : Nat → List Int} (h : ∀ j, (f j).length ≤ c) : (((List.range n).map f).flatten).length ≤ n * c := by
  induction n with
  | zero => simp
  | succ n ih =>
    rw [List.range_succ, List.map_append, List.flatten_append, List.length_append]
    have := h n
    simp only [List.map_cons, List.map_nil, List.flatten_cons, List.flatten_nil, List.append_nil]
    rw [Nat.succ_mul]
    omega
inductive P_gathered : List D → Res → Prop
  | mk (xs ws : List Int) (m : Mc) (hm : MOk m) (hl : ws.length = xs.length) (hs : xs.length ≤ 100) (hw : ∀ w ∈ ws, 0 ≤ w ∧ w < m.2) : P_gathered [.lst (iL xs), .lst (iL ws), encM m] (.new (iL (gath m xs ws)))
/-! gathering keeps the cards -/
theorem pileOf_perm {n : Nat} {xs ws : List Int} (hl : ws.length = xs.length) (hw : ∀ w ∈ ws, 0 ≤ w ∧ w < (n : Int)) : (((List.range n).map fun j => pileOf xs ws j).flatten).Perm xs := by
  induction xs generalizing ws with
  | nil =>
    have : ∀ j, pileOf [] ws j = [] := fun j => by unfold pileOf; simp
    rw [show ((List.range n).map fun j => pileOf [] ws j) = (List.range n).map (fun _ => ([] : List Int)) from List.map_congr_left fun j _ => this j]
    rw [List.flatten_eq_nil_iff.mpr fun l hl => by obtain ⟨_, _, rfl⟩ := List.mem_map.mp hl; rfl]
  | cons x xs ih =>
    cases ws with
    | nil => cases hl
    | cons w ws =>
      have ih' := ih (ws := ws) (by simpa using hl) fun v hv => hw v (List.mem_cons_of_mem _ hv)
      have hw0 := hw w List.mem_cons_self
      obtain ⟨k, rfl⟩ : ∃ k : Nat, w = k := ⟨w.toNat, by omega⟩
      have hk : k < n := by omega
      have hp : ∀ j, pileOf (x :: xs) ((k : Int) :: ws) j = (if k = j then [x] else []) ++ pileOf xs ws j := fun j => by
        unfold pileOf
        rw [List.zip_cons_cons, List.filter_cons]
        by_cases e : k = j
        · subst e
          simp
        · rw [if_neg (by simp; omega), if_neg e]
          rfl
      have gen : ∀ (l : List Nat), l.Nodup → (((l.map fun j => pileOf (x :: xs) ((k : Int) :: ws) j).flatten).Perm ((if k ∈ l then [x] else []) ++ (l.map fun j => pileOf xs ws j).flatten)) := by
        intro l
        induction l with
        | nil => intro _; exact List.Perm.refl _
        | cons j l ih2 =>
          intro nd
          obtain ⟨n1, n2⟩ := List.nodup_cons.mp nd
          rw [List.map_cons, List.flatten_cons, List.map_cons, List.flatten_cons, hp]
          have h2 := ih2 n2
          by_cases e : k = j
          · subst e
            rw [if_pos rfl, if_pos List.mem_cons_self]
            rw [if_neg n1] at h2
            rw [List.append_assoc]
            exact List.Perm.append_left _ (List.Perm.append_left _ h2)
          · rw [if_neg e]
            have e2 : (if k ∈ j :: l then [x] else []) = (if k ∈ l then [x] else []) := by
              by_cases hk2 : k ∈ l
              · rw [if_pos hk2, if_pos (List.mem_cons_of_mem _ hk2)]
              · rw [if_neg hk2, if_neg (by simp [e, hk2])]
            rw [e2]
            refine (List.Perm.append_left _ h2).trans ?_
            show (pileOf xs ws j ++ ((if k ∈ l then [x] else []) ++ _)).Perm _
            rw [← List.append_assoc, ← List.append_assoc]
            exact List.Perm.append_right _ List.perm_append_comm
      refine (gen (List.range n) List.nodup_range).trans ?_
      rw [if_pos (List.mem_range.mpr hk)]
      exact List.Perm.cons x ih'
theorem turn_perm (b : Bool) : ∀ ls : List (List Int), ((ls.map (turnIf b)).flatten).Perm ls.flatten
  | [] => List.Perm.refl _
  | l :: ls => by
    rw [List.map_cons, List.flatten_cons, List.flatten_cons]
    refine List.Perm.append ?_ (turn_perm b ls)
    unfold turnIf
    split
    · exact List.reverse_perm l
    · exact List.Perm.refl _
theorem gath_perm {m : Mc} {xs ws : List Int} (hl : ws.length = xs.length) (hw : ∀ w ∈ ws, 0 ≤ w ∧ w < m.2) : (gath m xs ws).Perm xs := by
  have h := turn_perm m.1 ((List.range m.2.toNat).map fun j => pileOf xs ws j)
  rw [List.map_map] at h
  refine (show (gath m xs ws).Perm _ from h).trans (pileOf_perm hl fun w hw' => ?_)
  have := hw w hw'
  omega
theorem gath_ok {m : Mc} {xs ws : List Int} (h : DeckOk xs) (hl : ws.length = xs.length) (hw : ∀ w ∈ ws, 0 ≤ w ∧ w < m.2) : DeckOk (gath m xs ws) := by
  have p := gath_perm hl hw
  have e := p.length_eq
  refine ⟨by rw [e]; exact h.1, by rw [e]; exact h.2.1, ?_⟩
  rw [e]
  exact h.2.2.perm p
theorem wordOf_ok {cs plan : List Int} {p : Int} (h : DeckOk cs) (hp : WordOk cs.length p plan) : WordOk cs.length p (wordOf cs plan) := by
  refine ⟨by unfold wordOf; rw [List.length_map], hp.2.1, fun x hx => ?_⟩
  unfold wordOf at hx
  obtain ⟨c, hc, rfl⟩ := List.mem_map.mp hx
  have hb := h.2.2.1.1 c hc
  have hl : c.toNat < plan.length := by rw [hp.1]; omega
  rw [List.getD_eq_getElem?_getD, List.getElem?_eq_getElem hl]
  exact hp.2.2 _ (List.getElem_mem _)

theorem pair_enc_inj (x y : Int × Int) (h : (fun p : Int × Int => D.tup [.int p.1, .int p.2]) x = (fun p : Int × Int => D.tup [.int p.1, .int p.2]) y) : x = y := by
  injection h with h
  injection h with h1 h2
  injection h1 with h1
  injection h2 with h2 _
  injection h2 with h2
  exact Prod.ext h1 h2
theorem pairs_zip (xs ws : List Int) : pairsD (iL xs) (iL ws) = (xs.zip ws).map fun p : Int × Int => D.tup [.int p.1, .int p.2] := by
  unfold pairsD
  induction xs generalizing ws with
  | nil => simp
  | cons x xs ih =>
    cases ws with
    | nil => simp
    | cons w ws =>
      show D.tup [D.int x, D.int w] :: List.zipWith (fun a b => D.tup [a, b]) (iL xs) (iL ws) = _
      rw [ih, List.zip_cons_cons, List.map_cons]

/-! rising and falling rows -/
def des (xs : List Int) : Nat := ((xs.zip xs.tail).filter fun p => decide (p.2 < p.1)).length
theorem des_cons2 (a b : Int) (xs : List Int) : des (a :: b :: xs) = (if b < a then 1 else 0) + des (b :: xs) := by
  unfold des
  rw [List.tail_cons, List.zip_cons_cons, List.filter_cons]
  by_cases h : b < a
  · rw [if_pos (by simp [h]), if_pos h, List.length_cons]
    show _ = 1 + _
    rw [List.tail_cons]
    omega
  · rw [if_neg (by simp [h]), if_neg h, List.tail_cons]
    omega
theorem des_le : ∀ xs : List Int, des xs ≤ xs.length - 1
  | [] => Nat.le_refl _
  | [_] => Nat.le_refl _
  | a :: b :: xs => by
    have := des_le (b :: xs)
    rw [des_cons2]
    simp only [List.length_cons] at this ⊢
    split <;> omega
theorem des_turn (n : Int) : ∀ xs : List Int, xs.Nodup → 1 ≤ xs.length → des xs + des (xs.map fun x => n - x) + 1 = xs.length
  | [], _, h => by simp at h
  | [_], _, _ => rfl
  | a :: b :: xs, nd, _ => by
    have ih := des_turn n (b :: xs) (List.nodup_cons.mp nd).2 (by simp)
    have hne : a ≠ b := fun e => (List.nodup_cons.mp nd).1 (by rw [e]; exact List.mem_cons_self)
    rw [List.map_cons] at ih
    rw [List.map_cons, List.map_cons, des_cons2, des_cons2, List.length_cons]
    by_cases h : b < a
    · rw [if_pos h, if_neg (by omega)]
      omega
    · rw [if_neg h, if_pos (by omega)]
      omega
theorem cut_tail {α : Type} (xs : List α) : cut xs (some 1) none = xs.tail := by
  unfold cut
  rw [HT.sIx_none, show (1 : Int) = ((1 : Nat) : Int) from rfl, HT.sIx_nat, ← List.drop_one]
  by_cases h : 1 ≤ xs.length
  · rw [Nat.min_eq_left h, List.take_of_length_le (by rw [List.length_drop]; exact Nat.le_refl _)]
  · have : xs = [] := List.eq_nil_of_length_eq_zero (by omega)
    subst this
    rfl
theorem iL_tail (xs : List Int) : (iL xs).tail = iL xs.tail := by unfold iL; rw [List.map_tail]
def risOf (cs : List Int) : Nat := 1 + des (pf cs.length cs)
theorem pf_reverse {cs : List Int} (h : Full cs.length cs) : pf cs.length cs.reverse = (pf cs.length cs).map fun x => ((cs.length : Int) - 1) - x := by
  have hr := h.reverse
  refine List.ext_getElem? fun j => ?_
  by_cases hj : j < cs.length
  · obtain ⟨i, hi⟩ := List.getElem?_of_mem (h.mem hj)
    have hil := (List.getElem?_eq_some_iff.mp hi).1
    have h1 := h.pf_of hi
    have hi2 : cs.reverse[cs.length - 1 - i]? = some (j : Int) := by
      rw [List.getElem?_reverse (by omega), show cs.length - 1 - (cs.length - 1 - i) = i by omega, hi]
    have h2 := hr.pf_of hi2
    rw [show ((j : Nat) : Int).toNat = j by omega] at h1 h2
    rw [h2, List.getElem?_map, h1]
    show some ((cs.length - 1 - i : Nat) : Int) = some ((cs.length : Int) - 1 - (i : Int))
    congr 1
    omega
  · rw [List.getElem?_eq_none (by rw [pf_len]; omega), List.getElem?_eq_none (by rw [List.length_map, pf_len]; omega)]
theorem ris_reverse {cs : List Int} (h : Full cs.length cs) (h1 : 1 ≤ cs.length) : risOf cs.reverse + risOf cs = cs.length + 1 := by
  unfold risOf
  rw [List.length_reverse, pf_reverse h]
  have := des_turn ((cs.length : Int) - 1) (pf cs.length cs) h.pf.1.2 (by rw [pf_len]; exact h1)
  rw [pf_len] at this
  omega
theorem ris_le {cs : List Int} (h1 : 1 ≤ cs.length) : 1 ≤ risOf cs ∧ risOf cs ≤ cs.length := by
  unfold risOf
  have := des_le (pf cs.length cs)
  rw [pf_len] at this
  omega
theorem pl_lists {xss : List (List Int)} : Pl 2 (.lst (xss.map fun l => .lst (iL l))) := .lst fun d h => by
  obtain ⟨l, _, rfl⟩ := List.mem_map.mp h
  exact pl_iL 0 l
theorem nb_lists {xss : List (List Int)} : Nb (.lst (xss.map fun l => .lst (iL l))) := .lst fun d h => by
  obtain ⟨l, _, rfl⟩ := List.mem_map.mp h
  exact nb_iL l

inductive P_places (K : Fg) : List D → Res → Prop
  | mk (cs : List Int) (h : DeckOk cs) : P_places K [deckD K cs] (.new (iL (pf cs.length cs)))
theorem C_Deck_places (T : Tx K mg base) : CalM P w K mg base (He.ga K "Deck") "places" 1 ["self"] (SpR K (P_places K)) := by
  refine calM_nox T.m_Deck_places T.f_Deck_places sc_Deck_places (len_R fun _ _ p => by cases p <;> rfl) (fun _ _ _ _ _ _ us hl => match us, hl with | [_], _ => rfl) (fun cdv A outer s H vs Q E hr h => ⟨_, (pss_cons (ps_setLc (i := 1) (own := [("card", 3)]) (g := gName 3) (tt := tYes) rfl sc_Deck_places.nd rfl rfl (sw_true rfl rfl rfl (by decide +kernel)) (piL (K := K) (fldK (K := K) (pv 0))) (blkOk_by (own := [("card", 3)]) (N := N_Deck_places) (sc := defScope s_Deck_places) (by decide +kernel)) (fun _ _ _ _ _ => (pg_name (i := 3) sc_Deck_places.nd rfl (by first | exact Or.inl rfl | exact Or.inr rfl))) (fun _ _ _ _ _ => pts_nil) (fun _ _ _ _ _ => pe_int))
      (pss_cons (ps_for PassesOwn.never rfl (piEnum (K := K) (by rfl) T.b_enumerate (pa_cons (fldK (K := K) (pv 0)) pa_nil)) (pgT (K := K) rfl (pgs_cons (pg_name (i := 2) sc_Deck_places.nd rfl (by first | exact Or.inl rfl | exact Or.inr rfl)) (pgs_cons (pg_name (i := 3) sc_Deck_places.nd rfl (by first | exact Or.inl rfl | exact Or.inr rfl)) pgs_nil)))
      (pss_one (ps_asg (pv 2) (pg_sub (pv 1) (pv 3) set_list))))
      (pss_one (ps_ret (pv 1))))), body_pure h fun ds r O p => ?_⟩)
  try dsimp only [cx_K]
  cases p with
  | mk cs h =>
    have h2 := h.2.1
    refine sv_seq (sv_asgN (ev_isN (ev_lcT (enc := D.int) (xs := cs) (h := fun c => .int 0) (src_list (ev_pile T (ev_var rfl))) (fun c _ => tg_name) (fun c hc => ev_int) int_enc_inj (by omega)) (iL_map (fun _ => 0) cs)) fun p hp => ?_)
    rw [show cs.map (fun _ => (0 : Int)) = List.replicate cs.length 0 from List.map_const' ..]
    have hz : (pairsD (iL (rng 0 (iL cs).length)) (iL cs)).length = cs.length := by
      unfold pairsD
      rw [List.length_zipWith, List.length_map, rng_len, iL_len]
      omega
    refine sv_seq ?_
    refine sv_for (src_enum (ea_cons (ev_pile T (ev_var rfl)) ea_nil)) (fun i G2 O2 => O2 = oput O p (.lst (iL (pf cs.length (cs.take i)))) ∧ ∃ a b, G2 = [some (deckD K cs), some (.ref p), a, b]) ⟨rfl, _, _, rfl⟩ ?_ ?_
    · rintro i d G2 O2 hd ⟨rfl, a, b, rfl⟩
      have hi : i < cs.length := by
        have := (List.getElem?_eq_some_iff.mp hd).1
        rw [hz] at this
        exact this
      obtain ⟨c, hc⟩ : ∃ c, cs[i]? = some c := ⟨_, List.getElem?_eq_getElem hi⟩
      have hb := h.2.2.1.1 c (List.mem_of_getElem? hc)
      have ed : d = .tup [.int i, .int c] := by
        unfold pairsD at hd
        rw [List.getElem?_zipWith, List.getElem?_map, List.getElem?_map, hc, rng_get (by rw [iL_len]; exact hi)] at hd
        rw [← Option.some.inj hd, Int.zero_add]
      subst ed
      refine ⟨_, _, tg_tup2, sv_setL (em_val (ev_var rfl) (em_val (ev_var rfl) ⟨p, rfl, em_val (ev_var rfl) ⟨c.toNat, _, by rw [show ((c.toNat : Nat) : Int) = c by omega], oput_same, by rw [List.length_map, pf_len]; omega, ?_, _, _, rfl⟩⟩))⟩
      rw [oput_oput, iL_set, List.take_add_one, hc, show (some c).toList = [c] from rfl, pf_snoc, List.length_take, Nat.min_eq_left (by omega)]
    · rintro G2 O2 ⟨rfl, a, b, rfl⟩
      rw [hz, List.take_length]
      exact sv_ret (ev_var rfl) ⟨p, rfl, hp, oput_same, OLe.new hp⟩
theorem ev_places {E : XK} {G : Sl} {te : TE} {ns : List Int} (h : EvR K E te G (.val (deckD K ns))) (hd : DeckOk ns) : EvR K E (tMeth (He.ga K "Deck") "places" (SpR K (P_places K)) [] E0 te tNil) G (.val (.lst (iL (pf ns.length ns)))) := ev_methNV h (by decide +kernel) ea_nil (.mk ns hd)

inductive P_rising (K : Fg) : List D → Res → Prop
  | mk (cs : List Int) (h : DeckOk cs) : P_rising K [deckD K cs] (.val (.int (risOf cs : Nat)))
theorem C_Deck_rising (T : Tx K mg base) : CalM P w K mg base (He.ga K "Deck") "rising" 2 ["self"] (SpR K (P_rising K)) := by
  refine calM_nox T.m_Deck_rising T.f_Deck_rising sc_Deck_rising (len_R fun _ _ p => by cases p <;> rfl) (fun _ _ _ _ _ _ us hl => match us, hl with | [_], _ => rfl) (fun cdv A outer s H vs Q E hr h => ⟨_, (pss_cons (ps_set (i := 1) sc_Deck_rising.nd rfl (by first | exact Or.inl rfl | exact Or.inr rfl) (pe_mth0 (C_Deck_places T) T.cl_Deck (hr.mono (by decide)) (pv 0)))
      (pss_one (ps_ret (pe_op op_add pe_int (pe_callB (lenK (K := K)) (by rfl) T.b_len (by decide +kernel) (pa_cons (pe_lc (own := [("one", 2), ("other", 3)]) (g := gTup K 2 (gCons (gName 2) (gCons (gName 3) gNil))) rfl sc_Deck_rising.nd (piZip (K := K) (by rfl) T.b_zip (pa_cons (pv 1) (pa_cons (pe_slice (slL (K := K)) (pv 1) (po_some pe_int) po_none) pa_nil))) (blkOk_by (own := [("one", 2), ("other", 3)]) (N := N_Deck_rising) (sc := defScope s_Deck_rising) (by decide +kernel)) (fun _ _ _ _ _ => (pgT (K := K) rfl (pgs_cons (pg_name (i := 2) sc_Deck_rising.nd rfl (by first | exact Or.inl rfl | exact Or.inr rfl)) (pgs_cons (pg_name (i := 3) sc_Deck_rising.nd rfl (by first | exact Or.inl rfl | exact Or.inr rfl)) pgs_nil)))) (fun _ _ _ _ _ => pts_one (pt_cmpR op_lt (pv 3) (pv 2) (nomark _))) (fun _ _ _ _ _ => pe_int)) pa_nil)))))), body_pure h fun ds r O p => ?_⟩)
  try dsimp only [cx_K]
  cases p with
  | mk cs h =>
    have h2 := h.2.1
    refine sv_seq (sv_asg (ev_places (ev_var rfl) h) ?_)
    have hsrc : pairsD (iL (pf cs.length cs)) (cut (iL (pf cs.length cs)) (some 1) none) = ((pf cs.length cs).zip (pf cs.length cs).tail).map fun p : Int × Int => D.tup [.int p.1, .int p.2] := by
      rw [cut_tail, iL_tail, pairs_zip]
    have hlen : ((pf cs.length cs).zip (pf cs.length cs).tail).length ≤ 100000 := by
      rw [List.length_zip, pf_len]
      omega
    refine sv_ret (ev_is (ev_op ev_int (ev_cb (ea_cons (EvR.lst (ev_lcF (enc := fun p : Int × Int => D.tup [.int p.1, .int p.2]) (xs := (pf cs.length cs).zip (pf cs.length cs).tail) (f := fun p => decide (p.2 < p.1)) (h := fun _ => .int 1)
      (by rw [← hsrc]; exact src_zip (ea_cons (ev_var rfl) (ea_cons (ev_slV (ev_var rfl) (eo_some ev_int) eo_none) ea_nil))) (fun p _ => tg_tup2) (fun p _ => et_test (ev_op (ev_var rfl) (ev_var rfl) rd_b)) (fun p _ _ => ev_int) pair_enc_inj hlen)) ea_nil) rc_len) rd_i) ?_) ⟨rfl, OLe.refl _⟩
    rw [List.length_map]
    unfold risOf des
    rw [Int.natCast_add]
    rfl
theorem ev_rising {E : XK} {G : Sl} {te : TE} {ns : List Int} (h : EvR K E te G (.val (deckD K ns))) (hd : DeckOk ns) : EvR K E (tMeth (He.ga K "Deck") "rising" (SpR K (P_rising K)) [] E0 te tNil) G (.val (.int (risOf ns : Nat))) := ev_methV h (by decide +kernel) ea_nil (.mk ns hd)

inductive P_falling (K : Fg) : List D → Res → Prop
  | mk (cs : List Int) (h : DeckOk cs) : P_falling K [deckD K cs] (.val (.int ((cs.length : Int) + 1 - (risOf cs : Nat))))
theorem C_Deck_falling (T : Tx K mg base) : CalM P w K mg base (He.ga K "Deck") "falling" 3 ["self"] (SpR K (P_falling K)) := by
  refine calM_nox T.m_Deck_falling T.f_Deck_falling sc_Deck_falling (len_R fun _ _ p => by cases p <;> rfl) (fun _ _ _ _ _ _ us hl => match us, hl with | [_], _ => rfl) (fun cdv A outer s H vs Q E hr h => ⟨_, (pss_one (ps_ret (pe_op op_sub (pe_op op_add (pe_callB (lenK (K := K)) (by rfl) T.b_len (by decide +kernel) (pa_cons (fldK (K := K) (pv 0)) pa_nil)) pe_int) (pe_mth0 (C_Deck_rising T) T.cl_Deck (hr.mono (by decide)) (pv 0))))), body_pure h fun ds r O p => ?_⟩)
  try dsimp only [cx_K]
  cases p with
  | mk cs h =>
    refine sv_ret (ev_is (ev_op (ev_op (ev_cb (ea_cons (ev_pile T (ev_var rfl)) ea_nil) rc_len) ev_int rd_i) (ev_rising (ev_var rfl) h) rd_i) ?_) ⟨rfl, OLe.refl _⟩
    rw [iL_len]
theorem ev_falling {E : XK} {G : Sl} {te : TE} {ns : List Int} (h : EvR K E te G (.val (deckD K ns))) (hd : DeckOk ns) : EvR K E (tMeth (He.ga K "Deck") "falling" (SpR K (P_falling K)) [] E0 te tNil) G (.val (.int ((ns.length : Int) + 1 - (risOf ns : Nat)))) := ev_methV h (by decide +kernel) ea_nil (.mk ns hd)

/-! runs and rows of runs -/
def run1 (m : Mc) (plan cs : List Int) : List Int := gath m cs (wordOf cs plan)
def labD (plan : List Int) (c : Int) : Int := plan.getD c.toNat 0
/-- who lies before whom behind a run -/
def nxt (m : Mc) (plan : List Int) (R : Int → Int → Prop) (a b : Int) : Prop := labD plan a < labD plan b ∨ (labD plan a = labD plan b ∧ if m.1 then R b a else R a b)
theorem pile_word (cs plan : List Int) (j : Nat) : pileOf cs (wordOf cs plan) j = cs.filter fun c => decide (labD plan c = (j : Int)) := by
  unfold pileOf wordOf
  induction cs with
  | nil => rfl
  | cons c cs ih =>
    rw [List.map_cons, List.zip_cons_cons, List.filter_cons, List.filter_cons]
    by_cases e : labD plan c = (j : Int)
    · rw [if_pos (by simpa [labD] using e), if_pos (by simp [e]), List.map_cons, ih]
    · rw [if_neg (by simpa [labD] using e), if_neg (by simp [e]), ih]
theorem run_pair {m : Mc} {plan cs : List Int} {R : Int → Int → Prop} (h : cs.Pairwise R) : (run1 m plan cs).Pairwise (nxt m plan R) := by
  unfold run1 gath
  rw [List.pairwise_flatten]
  have hlab : ∀ (j : Nat) (x : Int), x ∈ turnIf m.1 (pileOf cs (wordOf cs plan) j) → labD plan x = (j : Int) := fun j x hx => by
    have : x ∈ pileOf cs (wordOf cs plan) j := by
      unfold turnIf at hx
      split at hx
      · exact List.mem_reverse.mp hx
      · exact hx
    rw [pile_word] at this
    simpa using (List.mem_filter.mp this).2
  refine ⟨fun l hl => ?_, ?_⟩
  · obtain ⟨j, _, rfl⟩ := List.mem_map.mp hl
    have hp : (pileOf cs (wordOf cs plan) j).Pairwise R := by
      rw [pile_word]
      exact h.sublist List.filter_sublist
    have h2 : (turnIf m.1 (pileOf cs (wordOf cs plan) j)).Pairwise (fun a b => if m.1 then R b a else R a b) := by
      unfold turnIf
      by_cases e : m.1 = true
      · rw [if_pos e, List.pairwise_reverse]
        exact hp.imp fun {a b} z => by rw [if_pos e]; exact z
      · rw [if_neg e]
        exact hp.imp fun {a b} z => by rw [if_neg e]; exact z
    exact h2.imp_of_mem fun {a b} ha hb z => .inr ⟨by rw [hlab j a ha, hlab j b hb], z⟩
  · rw [List.pairwise_map]
    refine List.pairwise_lt_range.imp fun {i j} hij x hx y hy => .inl ?_
    rw [hlab i x hx, hlab j y hy]
    omega
theorem run_perm {m : Mc} {n : Nat} {plan cs : List Int} (h : Full n cs) (hp : WordOk n m.2 plan) : (run1 m plan cs).Perm cs := by
  refine gath_perm (wordOf_len _ _) fun w hw => ?_
  unfold wordOf at hw
  obtain ⟨c, hc, rfl⟩ := List.mem_map.mp hw
  have hb := h.1.1 c hc
  have hg := getD_some (f := plan) (j := c.toNat) (by rw [hp.1]; omega)
  exact hp.2.2 _ (List.mem_of_getElem? hg)
theorem run_full {m : Mc} {n : Nat} {plan cs : List Int} (h : Full n cs) (hp : WordOk n m.2 plan) : Full n (run1 m plan cs) := h.perm (run_perm h hp)
/-- behind a row -/
def aft : List Int → List Mc → List (List Int) → List Int
  | cs, m :: ms, p :: ps => aft (run1 m p cs) ms ps
  | cs, _, _ => cs
theorem aft_snoc (m : Mc) (p : List Int) : ∀ (cs : List Int) (ms : List Mc) (ps : List (List Int)), ms.length = ps.length → aft cs (ms ++ [m]) (ps ++ [p]) = run1 m p (aft cs ms ps)
  | _, [], [], _ => rfl
  | _, [], _ :: _, h => by simp at h
  | _, _ :: _, [], h => by simp at h
  | cs, a :: ms, q :: ps, h => aft_snoc m p (run1 a q cs) ms ps (by simpa using h)
/-- plans for a row -/
def PlansOk (n : Nat) : List Mc → List (List Int) → Prop
  | m :: ms, p :: ps => WordOk n m.2 p ∧ PlansOk n ms ps
  | [], [] => True
  | _, _ => False
theorem PlansOk.len {n : Nat} : ∀ {ms : List Mc} {ps : List (List Int)}, PlansOk n ms ps → ps.length = ms.length
  | [], [], _ => rfl
  | [], _ :: _, h => h.elim
  | _ :: _, [], h => h.elim
  | _ :: ms, _ :: ps, h => by rw [List.length_cons, List.length_cons, h.2.len]
theorem PlansOk.get {n : Nat} : ∀ {ms : List Mc} {ps : List (List Int)} {i : Nat} {m : Mc} {p : List Int}, PlansOk n ms ps → ms[i]? = some m → ps[i]? = some p → WordOk n m.2 p
  | [], _, _, _, _, _, h, _ => by cases h
  | _ :: _, [], _, _, _, h, _, _ => h.elim
  | a :: ms, q :: ps, i, m, p, h, h1, h2 => by
    cases i with
    | zero =>
      obtain rfl := Option.some.inj h1
      obtain rfl := Option.some.inj h2
      exact h.1
    | succ i => exact h.2.get (by simpa using h1) (by simpa using h2)
theorem PlansOk.snoc {n : Nat} {m : Mc} {p : List Int} : ∀ {ms : List Mc} {ps : List (List Int)}, PlansOk n ms ps → WordOk n m.2 p → PlansOk n (ms ++ [m]) (ps ++ [p])
  | [], [], _, hw => ⟨hw, trivial⟩
  | [], _ :: _, h, _ => h.elim
  | _ :: _, [], h, _ => h.elim
  | _ :: ms, _ :: ps, h, hw => ⟨h.1, h.2.snoc hw⟩
theorem aft_full {n : Nat} : ∀ {cs : List Int} {ms : List Mc} {ps : List (List Int)}, Full n cs → PlansOk n ms ps → Full n (aft cs ms ps)
  | cs, [], _, h, _ => by unfold aft; exact h
  | cs, _ :: _, [], h, _ => by unfold aft; exact h
  | cs, m :: ms, p :: ps, h, hp => by
    show Full n (aft (run1 m p cs) ms ps)
    exact aft_full (run_full h hp.1) hp.2
theorem aft_take {cs : List Int} : ∀ {ms : List Mc} {ps : List (List Int)} {i : Nat} {m : Mc} {p : List Int}, ms[i]? = some m → ps[i]? = some p → aft cs (ms.take (i + 1)) (ps.take (i + 1)) = run1 m p (aft cs (ms.take i) (ps.take i)) := by
  intro ms ps i m p h1 h2
  have l1 := (List.getElem?_eq_some_iff.mp h1).1
  have l2 := (List.getElem?_eq_some_iff.mp h2).1
  rw [List.take_add_one, List.take_add_one, h1, h2]
  exact aft_snoc m p cs _ _ (by rw [List.length_take, List.length_take]; omega)
/-! one run shared out over a row -/
def shrR : List Int → List Mc → List (List Int)
  | _, [] => []
  | ls, m :: r => shrR (ls.map fun l => if m.1 then roomOf r.reverse - 1 - l % roomOf r.reverse else l % roomOf r.reverse) r ++ [ls.map fun l => l / roomOf r.reverse]
def shr (ls : List Int) (row : List Mc) : List (List Int) := shrR ls row.reverse
theorem shr_nil (ls : List Int) : shr ls [] = [] := rfl
theorem shr_snoc (ls : List Int) (row : List Mc) (m : Mc) : shr ls (row ++ [m]) = shr (ls.map fun l => if m.1 then roomOf row - 1 - l % roomOf row else l % roomOf row) row ++ [ls.map fun l => l / roomOf row] := by
  unfold shr
  rw [List.reverse_append]
  show shrR ls (m :: row.reverse) = _
  rw [shrR, List.reverse_reverse]
theorem shr_len (ls : List Int) (row : List Mc) : (shr ls row).length = row.length := by
  induction row using list_rev_ind generalizing ls with
  | h0 => rfl
  | h1 row m ih => rw [shr_snoc, List.length_append, List.length_append, ih]; rfl
theorem isOdd_snoc (row : List Mc) (m : Mc) : isOdd (row ++ [m]) = (isOdd row != m.1) := by
  unfold isOdd
  rw [List.filter_append, List.length_append]
  generalize (row.filter (·.1)).length = x
  obtain ⟨b, p⟩ := m
  cases b
  · show decide ((x + 0) % 2 = 1) = _
    rcases Nat.mod_two_eq_zero_or_one x with h | h <;> simp [h]
  · show decide ((x + 1) % 2 = 1) = _
    rcases Nat.mod_two_eq_zero_or_one x with h | h <;> simp [h] <;> omega
theorem roomOf_snoc (row : List Mc) (m : Mc) : roomOf (row ++ [m]) = roomOf row * m.2 := by
  rw [roomOf_append, roomOf_cons]
  show _ * (m.2 * roomOf []) = _
  rw [show roomOf [] = 1 from rfl, Int.mul_one]
theorem rest_bound {q : Int} (b : Bool) (l : Int) (hq : 1 ≤ q) : 0 ≤ (if b then q - 1 - l % q else l % q) ∧ (if b then q - 1 - l % q else l % q) < q := by
  have h1 := Int.emod_nonneg l (b := q) (by omega)
  have h2 := Int.emod_lt_of_pos l (b := q) (by omega)
  split <;> omega
theorem last_bound {q p l : Int} (hq : 1 ≤ q) (h0 : 0 ≤ l) (h1 : l < q * p) : 0 ≤ l / q ∧ l / q < p := ⟨Int.ediv_nonneg h0 (by omega), Int.ediv_lt_of_lt_mul (by omega) (by rw [Int.mul_comm]; exact h1)⟩
theorem shr_ok {n : Nat} {row : List Mc} {ls : List Int} (hr : ∀ m ∈ row, MOk m) (h : WordOk n (roomOf row) ls) : PlansOk n row (shr ls row) := by
  induction row using list_rev_ind generalizing ls with
  | h0 => exact trivial
  | h1 row m ih =>
    rw [shr_snoc]
    have hr' : ∀ m ∈ row, MOk m := fun x hx => hr x (List.mem_append_left _ hx)
    have hq := (roomOf_pos hr').1
    refine PlansOk.snoc (ih hr' ⟨by rw [List.length_map]; exact h.1, h.2.1, fun x hx => ?_⟩) ⟨by rw [List.length_map]; exact h.1, h.2.1, fun x hx => ?_⟩
    · obtain ⟨l, _, rfl⟩ := List.mem_map.mp hx
      exact rest_bound m.1 l hq
    · obtain ⟨l, hl, rfl⟩ := List.mem_map.mp hx
      have hb := h.2.2 l hl
      rw [roomOf_snoc] at hb
      exact last_bound hq hb.1 hb.2
theorem labD_map {ls : List Int} (f : Int → Int) {c : Int} (h : c.toNat < ls.length) : labD (ls.map f) c = f (labD ls c) := by
  unfold labD
  rw [List.getD_eq_getElem?_getD, List.getElem?_map, List.getD_eq_getElem?_getD, List.getElem?_eq_getElem h]
  rfl
/-- as one run by labels -/
def oneR (odd : Bool) (ls : List Int) (R : Int → Int → Prop) (a b : Int) : Prop := labD ls a < labD ls b ∨ (labD ls a = labD ls b ∧ if odd then R b a else R a b)
theorem div_mod_lt {q x y : Int} (hq : 1 ≤ q) : x < y ↔ x / q < y / q ∨ (x / q = y / q ∧ x % q < y % q) := by
  have hx := Int.mul_ediv_add_emod x q
  have hy := Int.mul_ediv_add_emod y q
  have h1 := Int.emod_nonneg x (b := q) (by omega)
  have h2 := Int.emod_lt_of_pos x (b := q) (by omega)
  have h3 := Int.emod_nonneg y (b := q) (by omega)
  have h4 := Int.emod_lt_of_pos y (b := q) (by omega)
  constructor
  · intro h
    by_cases e : x / q = y / q
    · refine .inr ⟨e, ?_⟩
      rw [e] at hx
      omega
    · refine .inl ?_
      have hle : x / q ≤ y / q := Int.ediv_le_ediv (by omega) (by omega)
      omega
  · rintro (h | ⟨e, h⟩)
    · have hm : q * (x / q + 1) ≤ q * (y / q) := Int.mul_le_mul_of_nonneg_left (by omega) (by omega)
      rw [Int.mul_add, Int.mul_one] at hm
      omega
    · rw [e] at hx
      omega
theorem div_mod_eq {q x y : Int} : x = y ↔ x / q = y / q ∧ x % q = y % q := ⟨fun h => by rw [h]; exact ⟨rfl, rfl⟩, fun ⟨h1, h2⟩ => by rw [← Int.mul_ediv_add_emod x q, ← Int.mul_ediv_add_emod y q, h1, h2]⟩
theorem shr_pair {n : Nat} {row : List Mc} {ls cs : List Int} {R : Int → Int → Prop} (hr : ∀ m ∈ row, MOk m) (h : WordOk n (roomOf row) ls) (hc : Full n cs) (hp : cs.Pairwise R) : (aft cs row (shr ls row)).Pairwise (oneR (isOdd row) ls R) := by
  induction row using list_rev_ind generalizing ls with
  | h0 =>
    show cs.Pairwise _
    refine hp.imp_of_mem fun {a b} ha hb z => ?_
    have e : ∀ c ∈ cs, labD ls c = 0 := fun c hc' => by
      have hb := hc.1.1 c hc'
      have hg := getD_some (f := ls) (j := c.toNat) (by rw [h.1]; omega)
      have := h.2.2 _ (List.mem_of_getElem? hg)
      rw [show roomOf [] = 1 from rfl] at this
      show ls.getD c.toNat 0 = 0
      omega
    exact .inr ⟨by rw [e a ha, e b hb], z⟩
  | h1 row m ih =>
    have hr' : ∀ m ∈ row, MOk m := fun x hx => hr x (List.mem_append_left _ hx)
    have hq := (roomOf_pos hr').1
    have hw : WordOk n (roomOf row) (ls.map fun l => if m.1 then roomOf row - 1 - l % roomOf row else l % roomOf row) := ⟨by rw [List.length_map]; exact h.1, h.2.1, fun x hx => by
      obtain ⟨l, _, rfl⟩ := List.mem_map.mp hx
      exact rest_bound m.1 l hq⟩
    have h1 := ih hr' hw
    rw [shr_snoc, aft_snoc _ _ _ _ _ (shr_len _ _).symm]
    have hf : Full n (run1 m (ls.map fun l => l / roomOf row) (aft cs row (shr (ls.map fun l => if m.1 then roomOf row - 1 - l % roomOf row else l % roomOf row) row))) := by
      have := aft_full hc (shr_ok hr h)
      rw [shr_snoc, aft_snoc _ _ _ _ _ (shr_len _ _).symm] at this
      exact this
    refine (run_pair (m := m) (plan := ls.map fun l => l / roomOf row) h1).imp_of_mem fun {a b} ha hb z => ?_
    have la : a.toNat < ls.length := by have := hf.1.1 a ha; rw [h.1]; omega
    have lb : b.toNat < ls.length := by have := hf.1.1 b hb; rw [h.1]; omega
    unfold nxt oneR at z
    unfold oneR
    rw [labD_map _ la, labD_map _ lb, labD_map _ la, labD_map _ lb] at z
    generalize labD ls a = x at z ⊢
    generalize labD ls b = y at z ⊢
    generalize roomOf row = q at z hq ⊢
    rw [isOdd_snoc]
    rw [div_mod_lt hq, div_mod_eq (q := q) (x := x) (y := y)]
    have h1 := Int.emod_lt_of_pos x (b := q) (by omega)
    have h2 := Int.emod_lt_of_pos y (b := q) (by omega)
    rcases z with z | ⟨e, z⟩
    · exact .inl (.inl z)
    · cases hm : m.1
      · rw [hm] at z
        simp only [Bool.false_eq_true, if_false] at z
        rcases z with z | ⟨e2, z⟩
        · exact .inl (.inr ⟨e, z⟩)
        · refine .inr ⟨⟨e, e2⟩, ?_⟩
          simpa using z
      · rw [hm] at z
        simp only [if_true] at z
        rcases z with z | ⟨e2, z⟩
        · exact .inl (.inr ⟨e, by omega⟩)
        · refine .inr ⟨⟨e, by omega⟩, ?_⟩
          cases ho : isOdd row <;> rw [ho] at z <;> simpa using z

/-! labels -/
def labN (sep : Nat → Bool) : Nat → Nat
  | 0 => 0
  | c + 1 => labN sep c + (if sep (c + 1) then 1 else 0)
def posD (cs : List Int) (i : Nat) : Int := (pf cs.length cs).getD i 0
def sepB (css : List (List Int)) (odd : Bool) (c : Nat) : Bool := css.any fun cs => if odd then decide (posD cs (c - 1) < posD cs c) else decide (posD cs c < posD cs (c - 1))
def labs (sep : Nat → Bool) (n : Nat) : List Int := (List.range n).map fun c => (labN sep c : Int)
theorem labs_len (sep : Nat → Bool) (n : Nat) : (labs sep n).length = n := by unfold labs; rw [List.length_map, List.length_range]
theorem labs_get {sep : Nat → Bool} {n c : Nat} (h : c < n) : (labs sep n)[c]? = some (labN sep c : Int) := by
  unfold labs
  rw [List.getElem?_map, List.getElem?_range h]
  rfl
theorem labs_lab {sep : Nat → Bool} {n c : Nat} (h : c < n) : labD (labs sep n) (c : Int) = (labN sep c : Int) := by
  unfold labD
  rw [List.getD_eq_getElem?_getD, show ((c : Nat) : Int).toNat = c by omega, labs_get h]
  rfl
theorem labN_mono {sep : Nat → Bool} {a b : Nat} (h : a ≤ b) : labN sep a ≤ labN sep b := by
  induction b with
  | zero => rw [Nat.le_zero.mp h]; exact Nat.le_refl _
  | succ b ih =>
    by_cases e : a = b + 1
    · rw [e]; exact Nat.le_refl _
    · have := ih (by omega)
      rw [labN]
      omega
theorem labN_step {sep : Nat → Bool} {a b c : Nat} (h1 : a < c) (h2 : c ≤ b) (h : labN sep a = labN sep b) : sep c = false := by
  have m1 := labN_mono (sep := sep) (a := a) (b := c - 1) (by omega)
  have m2 := labN_mono (sep := sep) h2
  obtain ⟨d, rfl⟩ : ∃ d, c = d + 1 := ⟨c - 1, by omega⟩
  rw [labN] at m2
  rw [Nat.add_sub_cancel] at m1
  cases hs : sep (d + 1) with
  | false => rfl
  | true =>
    rw [hs] at m2
    simp at m2
    omega
theorem chain_lt {f : Nat → Int} {a b : Nat} (h : a < b) (hs : ∀ c, a < c → c ≤ b → f (c - 1) < f c) : f a < f b := by
  induction b with
  | zero => omega
  | succ b ih =>
    have h1 := hs (b + 1) (by omega) (by omega)
    rw [Nat.add_sub_cancel] at h1
    by_cases e : a = b
    · rw [e]; exact h1
    · have := ih (by omega) fun c c1 c2 => hs c c1 (by omega)
      omega
theorem posD_of {cs : List Int} (h : Full cs.length cs) {i : Nat} {c : Int} (hc : cs[i]? = some c) : posD cs c.toNat = (i : Int) := by
  unfold posD
  rw [List.getD_eq_getElem?_getD, h.pf_of hc]
  rfl
theorem posD_inj {cs : List Int} (h : Full cs.length cs) {a b : Nat} (ha : a < cs.length) (hb : b < cs.length) (e : posD cs a = posD cs b) : a = b := by
  obtain ⟨i, hi⟩ := List.getElem?_of_mem (h.mem ha)
  obtain ⟨j, hj⟩ := List.getElem?_of_mem (h.mem hb)
  have e1 := posD_of h hi
  have e2 := posD_of h hj
  rw [show ((a : Nat) : Int).toNat = a by omega] at e1
  rw [show ((b : Nat) : Int).toNat = b by omega] at e2
  have : i = j := by omega
  subst this
  have := Option.some.inj (hi.symm.trans hj)
  omega
theorem cs_pair {cs : List Int} (h : Full cs.length cs) : cs.Pairwise fun a b => posD cs a.toNat < posD cs b.toNat := by
  rw [List.pairwise_iff_getElem]
  intro i j hi hj hij
  rw [posD_of h (List.getElem?_eq_getElem hi), posD_of h (List.getElem?_eq_getElem hj)]
  omega
theorem rng_pair (n : Nat) : (rng 0 n).Pairwise (· < ·) := by
  unfold rng
  rw [List.pairwise_map]
  exact List.pairwise_lt_range.imp fun {a b} h => by omega
theorem full_eq {n : Nat} {cs : List Int} (h : Full n cs) (hp : cs.Pairwise (· ≤ ·)) : cs = rng 0 n := by
  have p : cs.Perm (rng 0 n) := by
    rw [List.perm_ext_iff_of_nodup h.1.2 (full_range n).1.2]
    intro a
    constructor
    · intro ha
      exact rng_mem (h.1.1 a ha).1 (h.1.1 a ha).2
    · intro ha
      have := (full_range n).1.1 a ha
      rw [show a = ((a.toNat : Nat) : Int) by omega]
      exact h.mem (by omega)
  exact List.Perm.eq_of_pairwise (fun a b _ _ h1 h2 => by omega) hp ((rng_pair n).imp fun {a b} h => Int.le_of_lt h) p
/-- labels put decks in order -/
theorem labs_sort {css : List (List Int)} {n : Nat} {row : List Mc} {cs : List Int} (hcs : cs ∈ css) (hn : cs.length = n) (hn2 : n ≤ 1000) (hf : Full n cs) (hr : ∀ m ∈ row, MOk m) (hl : (labN (sepB css (isOdd row)) (n - 1) : Int) < roomOf row) :
    WordOk n (roomOf row) (labs (sepB css (isOdd row)) n) ∧ aft cs row (shr (labs (sepB css (isOdd row)) n) row) = rng 0 n := by
  have hw : WordOk n (roomOf row) (labs (sepB css (isOdd row)) n) := ⟨labs_len _ _, hn2, fun x hx => by
    unfold labs at hx
    obtain ⟨c, hc, rfl⟩ := List.mem_map.mp hx
    have := labN_mono (sep := sepB css (isOdd row)) (a := c) (b := n - 1) (by have := List.mem_range.mp hc; omega)
    omega⟩
  refine ⟨hw, ?_⟩
  have hff : Full cs.length cs := by rw [hn]; exact hf
  have h1 := shr_pair hr hw hf (cs_pair hff)
  have h2 := aft_full hf (shr_ok hr hw)
  refine full_eq h2 (h1.imp_of_mem fun {a b} ha hb z => ?_)
  have ba := h2.1.1 a ha
  have bb := h2.1.1 b hb
  obtain ⟨x, rfl⟩ : ∃ x : Nat, a = x := ⟨a.toNat, by omega⟩
  obtain ⟨y, rfl⟩ : ∃ y : Nat, b = y := ⟨b.toNat, by omega⟩
  unfold oneR at z
  rw [labs_lab (by omega), labs_lab (by omega)] at z
  simp only [show ∀ k : Nat, ((k : Nat) : Int).toNat = k from fun k => by omega] at z
  refine Classical.byContradiction fun hgt => ?_
  have hyx : y < x := by omega
  have hm := labN_mono (sep := sepB css (isOdd row)) (a := y) (b := x) (by omega)
  rcases z with z | ⟨e, z⟩
  · omega
  · have hs : ∀ c, y < c → c ≤ x → sepB css (isOdd row) c = false := fun c c1 c2 => labN_step c1 c2 (by omega)
    have hs2 : ∀ c, y < c → c ≤ x → (if isOdd row then decide (posD cs (c - 1) < posD cs c) else decide (posD cs c < posD cs (c - 1))) = false := fun c c1 c2 => by
      have := hs c c1 c2
      unfold sepB at this
      rw [List.any_eq_false] at this
      exact Bool.eq_false_iff.mpr (this cs hcs)
    have hne : ∀ c, y < c → c ≤ x → posD cs (c - 1) ≠ posD cs c := fun c c1 c2 e => by
      have := posD_inj hff (by omega) (by omega) e
      omega
    cases ho : isOdd row
    · rw [ho] at z hs2
      simp only [Bool.false_eq_true, if_false, decide_eq_false_iff_not] at z hs2
      have := chain_lt (f := posD cs) hyx fun c c1 c2 => by
        have h1 := hs2 c c1 c2
        have h2 := hne c c1 c2
        omega
      omega
    · rw [ho] at z hs2
      simp only [if_true, decide_eq_false_iff_not] at z hs2
      have : - posD cs y < - posD cs x := chain_lt (f := fun i => - posD cs i) hyx fun c c1 c2 => by
        have h1 := hs2 c c1 c2
        have h2 := hne c c1 c2
        show - posD cs (c - 1) < - posD cs c
        omega
      omega
/-- as many labels as rows -/
theorem labN_des {xs : List Int} {sep : Nat → Bool} (h : ∀ c, c + 1 < xs.length → sep (c + 1) = decide (xs.getD (c + 1) 0 < xs.getD c 0)) (hx : 1 ≤ xs.length) : labN sep (xs.length - 1) = des xs := by
  have key : ∀ (ys zs : List Int), xs = ys ++ zs → ys ≠ [] → labN sep (xs.length - 1) = labN sep (ys.length - 1) + des (ys.getLastD 0 :: zs) := by
    intro ys zs
    induction zs generalizing ys with
    | nil =>
      intro e _
      rw [List.append_nil] at e
      subst e
      rfl
    | cons z zs ih =>
      intro e hy
      have hyl : 1 ≤ ys.length := List.length_pos_iff.mpr hy
      have h1 := ih (ys ++ [z]) (by rw [e, List.append_assoc]; rfl) (by simp)
      rw [h1, List.length_append, List.length_singleton, Nat.add_sub_cancel]
      obtain ⟨k, hk⟩ : ∃ k, ys.length = k + 1 := ⟨ys.length - 1, by omega⟩
      rw [hk, labN, Nat.add_sub_cancel, des_cons2, h k (by rw [e, List.length_append, List.length_cons]; omega)]
      have e1 : xs.getD (k + 1) 0 = z := by
        rw [e, List.getD_eq_getElem?_getD, List.getElem?_append_right (by omega), hk]
        simp
      have e2 : xs.getD k 0 = ys.getLastD 0 := by
        rw [e, List.getD_eq_getElem?_getD, List.getElem?_append_left (by omega), List.getLastD_eq_getLast?, List.getLast?_eq_getElem?, hk]
        rfl
      rw [e1, e2]
      have e3 : (ys ++ [z]).getLastD 0 = z := by simp
      rw [e3]
      simp only [decide_eq_true_eq]
      exact Nat.add_assoc _ _ _
  cases xs with
  | nil => simp at hx
  | cons x xs =>
    have := key [x] xs rfl (by simp)
    rw [this]
    show 0 + _ = _
    rw [Nat.zero_add]
    rfl

inductive P_room_of : List D → Res → Prop
  | mk (row : List Mc) (h : RowOk row) : P_room_of [.lst (row.map encM)] (.val (.int (roomOf row)))
theorem roomOf_take {row : List Mc} {i : Nat} {m : Mc} (h : row[i]? = some m) : roomOf (row.take (i + 1)) = roomOf (row.take i) * m.2 := by
  rw [List.take_add_one, h]
  show roomOf (row.take i ++ [m]) = _
  rw [roomOf_append, roomOf_cons]
  simp [roomOf]
inductive P_is_odd : List D → Res → Prop
  | mk (row : List Mc) (h : RowOk row) : P_is_odd [.lst (row.map encM)] (.val (.bl (isOdd row)))
inductive P_law_town : List D → Res → Prop
  | mk (ns : List Int) (h : ns.length ≤ 63) : P_law_town [.scr ns] (.new (iL (0 :: ns)))
theorem C__law_town (T : Tx K mg base) : Cal P w K mg base "_law_town" 1 ["script"] (SpR K P_law_town) := by
  refine cal_nox T.g__law_town T.f__law_town sc__law_town (len_R fun _ _ p => by cases p <;> rfl) (fun _ _ _ _ _ _ us hl => match us, hl with | [_], _ => rfl) (fun cdv A outer s H vs Q E hr h => ⟨_, (pss_one (ps_ret (pe_op op_cat (pe_lst (pa_cons pe_int pa_nil)) (pe_callTy (listK (K := K)) (by rfl) T.b_list (by decide +kernel) (pa_cons (pv 0) pa_nil))))), body_pure h fun ds r O p => ?_⟩)
  try dsimp only [cx_K]
  cases p with
  | mk ns h =>
    refine sv_retN (ds := iL (0 :: ns)) (ev_isN (ev_op (ev_lstV (ea_cons ev_int ea_nil)) (ev_cb (ea_cons (ev_var rfl) ea_nil) (RC.lst rc_listC)) (rd_cat ?_)) rfl) (fun p hp => ⟨p, rfl, hp, oput_same, OLe.new hp⟩)
    show 1 + (iL ns).length ≤ 100000
    rw [List.length_map]
    omega

inductive P_law_draw : List D → Om → (D → Om → Prop) → Prop
  | mk (ns : List Int) (t : Addr) (n : Nat) (many : Int) (O : Om) (k : D → Om → Prop) (hO : O t = some (.town ns.length n)) (hl : ns.length ≤ 63) (hn : n ≤ 1000000) (hm : 0 < many) (hm2 : many < 1073741824)
      (hk : ∀ r : Int, 0 ≤ r → r < many → k (.int r) (oput O t (.town ns.length (n + 1)))) : P_law_draw [.scr ns, .ref t, .int many] O k
theorem C__law_draw (T : Tx K mg base) : Cal P w K mg base "_law_draw" 1 ["script", "town", "many"] (SpM K P_law_draw) := by
  refine cal_nox T.g__law_draw T.f__law_draw sc__law_draw (len_M fun _ _ _ p => by cases p <;> rfl) (fun _ _ _ _ _ _ us hl => match us, hl with | [_, _, _], _ => rfl) (fun cdv A outer s H vs Q E hr h => ⟨_, (pss_cons (ps_asg (pe_op op_add (pe_ix (ixL (K := K)) (pv 1) pe_int (fun _ _ => rfl)) pe_int) (pg_sub (pv 1) pe_int set_list))
      (pss_cons (ps_if (pt_cmpR (eqDK (K := K) hr.units) (pv 0) (pe_lst pa_nil) (nomark _)) (pss_one (ps_ret (pe_op op_mod (pe_op op_fdivB (pe_op op_mul (pe_op op_mul (pe_ix (ixL (K := K)) (pv 1) pe_int (fun _ _ => rfl)) (pe_ix (ixL (K := K)) (pv 1) pe_int (fun _ _ => rfl))) pe_int) pe_int) (pv 2)))) pss_nil)
      (pss_cons (ps_set (i := 3) sc__law_draw.nd rfl (by first | exact Or.inl rfl | exact Or.inr rfl) (pe_op op_mod (pe_ix (ixL (K := K)) (pv 1) pe_int (fun _ _ => rfl)) (pe_callB (lenK (K := K)) (by rfl) T.b_len (by decide +kernel) (pa_cons (pv 0) pa_nil))))
      (pss_cons (ps_set (i := 4) sc__law_draw.nd rfl (by first | exact Or.inl rfl | exact Or.inr rfl) (pe_ix (ixL (K := K)) (pv 1) (pe_op op_add pe_int (pv 3)) (fun _ _ => rfl)))
      (pss_cons (ps_if (PW.pt (pw_and (pt_cmpR op_ge (pe_ix (ixL (K := K)) (pv 0) (pv 3) (fun _ _ => rfl)) (pe_op op_pow pe_int pe_int) (nomark _)) (pw_and1 (pt_cmpR op_gt (pv 4) pe_int (nomark _))))) (pss_cons (ps_asg (pe_op op_fdivB (pv 4) (pv 2)) (pg_sub (pv 1) (pe_op op_add pe_int (pv 3)) set_list))
      (pss_one (ps_ret (pe_op op_mod (pv 4) (pv 2))))) pss_nil)
      (pss_cons (ps_set (i := 5) sc__law_draw.nd rfl (by first | exact Or.inl rfl | exact Or.inr rfl) (pe_op op_mod (pe_op op_add (pe_ix (ixL (K := K)) (pv 0) (pv 3) (fun _ _ => rfl)) (pe_op op_mul pe_int (pe_ix (ixL (K := K)) (pv 1) pe_int (fun _ _ => rfl)))) pe_int))
      (pss_cons (ps_set (i := 5) sc__law_draw.nd rfl (by first | exact Or.inl rfl | exact Or.inr rfl) (pe_op op_mod (pe_op op_pow (pv 5) pe_int) pe_int))
      (pss_one (ps_ret (pe_op op_mod (pe_op op_fdivB (pe_op op_mod (pe_op op_add (pe_op op_mul (pe_op op_fdivB (pv 5) pe_int) pe_int) (pv 5)) pe_int) pe_int) (pv 2))))))))))), body_m h fun ds O k p => ?_⟩)
  try dsimp only [cx_K]
  cases p with
  | mk ns t n many O k hO hl hn hm hm2 hk =>
    refine sv_town hO fun c cells hc hcn hcl => ?_
    have close : ∀ (r c' : Int) (cells' : List Int) (O' : Om), O' = oput O t (.lst (iL (c' :: cells'))) → 0 ≤ c' → c' ≤ n + 1 → cells'.length = ns.length → 0 ≤ r → r < many → ∃ O2, OTo K O' O2 ∧ k (.int r) O2 := by
      intro r c' cells' O' e h1 h2 h3 h4 h5
      subst e
      refine ⟨_, OTo.close (n := n + 1) oput_same h1 (by omega) h3, ?_⟩
      rw [oput_oput]
      exact hk r h4 h5
    have lt : ∀ x : Int, 0 ≤ x % many ∧ x % many < many := fun x => ⟨Int.emod_nonneg _ (by omega), Int.emod_lt_of_pos _ hm⟩
    -- town[0] = town[0] + 1
    refine sv_seq (sv_setL (em_op ?_))
    refine em_ixO (em_val (ev_var rfl) ⟨t, rfl, em_val ev_int ⟨0, .int c, _, rfl, oput_same, at_zero, ?_⟩⟩)
    refine em_val ev_int ⟨.int (c + 1), rd_i, em_val (ev_var rfl) ⟨t, rfl, em_val ev_int ⟨0, iL (c :: cells), rfl, oput_same, by simp, ?_⟩⟩⟩
    dsimp only
    rw [oput_oput, show (iL (c :: cells)).set 0 (.int (c + 1)) = iL ((c + 1) :: cells) from rfl]
    -- if script == []
    refine sv_seq (sv_if (et_test (ev_op (ev_var rfl) (ev_lstV ea_nil) (rd_eqD (.scr 0 ns) (.lst (n := 0) fun d h => by cases h)))) (fun _ => ?_) fun hb => ?_)
    · refine sv_retM (em_conv ?_)
      refine em_op (em_op (em_op (em_op ?_)))
      refine em_ixO (em_val (ev_var rfl) ⟨t, rfl, em_val ev_int ⟨0, .int (c + 1), _, rfl, oput_same, at_zero, ?_⟩⟩)
      refine em_ixO (em_val (ev_var rfl) ⟨t, rfl, em_val ev_int ⟨0, .int (c + 1), _, rfl, oput_same, at_zero, ?_⟩⟩)
      refine ⟨_, rd_ic ?_, em_val ev_int ⟨_, rd_ic ?_, em_val ev_int ⟨_, rd_ic ?_, em_val (ev_var rfl) ⟨_, rd_ic hm, ?_⟩⟩⟩⟩
      · exact .inl ⟨by omega, by omega⟩
      · exact .inr ⟨by decide, by decide⟩
      · exact ⟨by decide, by decide⟩
      · exact close _ _ cells _ rfl (by omega) (by omega) hcl (lt _).1 (lt _).2
    · have hne : ns ≠ [] := fun e => by
        subst e
        cases hb
      have hpos : 0 < ns.length := List.length_pos_iff.mpr hne
      refine sv_next ?_
      -- at = town[0] % len(script)
      refine sv_seq (sv_asgM (em_op ?_))
      refine em_ixO (em_val (ev_var rfl) ⟨t, rfl, em_val ev_int ⟨0, .int (c + 1), _, rfl, oput_same, at_zero, ?_⟩⟩)
      refine em_val (ev_cb (ea_cons (ev_var rfl) ea_nil) rc_lenC) ⟨_, rd_ic (by show (0 : Int) < ns.length; omega), ?_⟩
      have ha0 : 0 ≤ (c + 1) % (ns.length : Int) := Int.emod_nonneg _ (by omega)
      have ha1 : (c + 1) % (ns.length : Int) < ns.length := Int.emod_lt_of_pos _ (by omega)
      generalize (c + 1) % (ns.length : Int) = a at ha0 ha1
      obtain ⟨j, rfl⟩ : ∃ j : Nat, a = j := ⟨a.toNat, by omega⟩
      have hj : j < ns.length := by omega
      -- left = town[1 + at]
      have hx : atI (iL ((c + 1) :: cells)) (1 + (j : Int)) = some (.int cells[j]) := by
        refine atI_map (atI_ok (by omega) ?_)
        rw [show (1 + (j : Int)).toNat = j + 1 by omega]
        simp
      refine sv_seq (sv_asgM (em_ixO (em_val (ev_var rfl) ⟨t, rfl, em_val (ev_op ev_int (ev_var rfl) rd_i) ⟨_, .int cells[j], _, rfl, oput_same, hx, ?_⟩⟩)))
      have hs : atI ns (j : Int) = some ns[j] := atI_ok (by omega) (by simp)
      -- if script[at] >= 10 ** 18 and left > 0
      refine sv_seq (sv_if (et_and (et_test (ev_op (ev_op (ev_var rfl) (ev_var rfl) (rd_ixC hs)) (ev_op ev_int ev_int (rd_ic ?_)) rd_b)) fun _ => et_test (ev_op (ev_var rfl) ev_int rd_b)) (fun _ => ?_) fun _ => ?_)
      · exact ⟨by decide, by decide, by decide⟩
      · refine sv_seq (sv_setL (em_val (ev_op (ev_var rfl) (ev_var rfl) (rd_ic ⟨hm, by omega⟩)) (em_val (ev_var rfl) ⟨t, rfl, em_val (ev_op ev_int (ev_var rfl) rd_i) ⟨j + 1, _, by congr 1; omega, oput_same, by simp; omega, ?_⟩⟩)))
        dsimp only
        rw [oput_oput, show (iL ((c + 1) :: cells)).set (j + 1) (.int (cells[j] / many)) = iL ((c + 1) :: cells.set j (cells[j] / many)) by simp [List.map_set]]
        refine sv_retM (em_conv (em_val (ev_op (ev_var rfl) (ev_var rfl) (rd_ic hm)) ?_))
        exact close _ _ (cells.set j (cells[j] / many)) _ rfl (by omega) (by omega) (by rw [List.length_set]; exact hcl) (lt _).1 (lt _).2
      · refine sv_next ?_
        refine sv_seq (sv_asgM (em_op (em_op ?_)))
        refine em_val (ev_op (ev_var rfl) (ev_var rfl) (rd_ixC hs)) (em_op (em_val ev_int ?_))
        refine em_ixO (em_val (ev_var rfl) ⟨t, rfl, em_val ev_int ⟨0, .int (c + 1), _, rfl, oput_same, at_zero, ?_⟩⟩)
        refine ⟨_, rd_ic ?_, ⟨_, rd_i, em_val ev_int ⟨_, rd_ic (by show (0 : Int) < 4294967291; decide), ?_⟩⟩⟩
        · exact .inl ⟨by decide, by decide⟩
        have hq0 : 0 ≤ (ns[j] + 104729 * (c + 1)) % 4294967291 := Int.emod_nonneg _ (by decide)
        have hq1 : (ns[j] + 104729 * (c + 1)) % 4294967291 < 4294967291 := Int.emod_lt_of_pos _ (by decide)
        generalize (ns[j] + 104729 * (c + 1)) % 4294967291 = q at hq0 hq1
        refine sv_seq (sv_asg (ev_op (ev_op (ev_var rfl) ev_int (rd_ic ?_)) ev_int (rd_ic (by show (0 : Int) < 4294967279; decide))) ?_)
        · exact ⟨by decide, by decide, by omega⟩
        have hz0 : 0 ≤ (q ^ (5 : Int).toNat) % 4294967279 := Int.emod_nonneg _ (by decide)
        have hz1 : (q ^ (5 : Int).toNat) % 4294967279 < 4294967279 := Int.emod_lt_of_pos _ (by decide)
        generalize (q ^ (5 : Int).toNat) % 4294967279 = z at hz0 hz1
        refine sv_retM (em_conv (em_val (ev_op (ev_op (ev_op (ev_op (ev_op (ev_op (ev_var rfl) ev_int (rd_ic ?_)) ev_int (rd_ic ?_)) (ev_var rfl) rd_i) ev_int (rd_ic ?_)) ev_int (rd_ic ?_)) (ev_var rfl) (rd_ic hm)) ?_))
        · exact ⟨by decide, by decide⟩
        · exact .inr ⟨by decide, by decide⟩
        · show (0 : Int) < 4294967231
          decide
        · exact ⟨by decide, by decide⟩
        · exact close _ _ cells _ rfl (by omega) (by omega) hcl (lt _).1 (lt _).2

inductive P_law_pick : List D → Om → (D → Om → Prop) → Prop
  | mk (ns : List Int) (t : Addr) (n : Nat) (ds : List D) (O : Om) (k : D → Om → Prop) (hO : O t = some (.town ns.length n)) (hl : ns.length ≤ 63) (hn : n ≤ 1000000) (hd : 0 < ds.length) (hd2 : ds.length < 100000)
      (hk : ∀ (i : Nat) (d : D), ds[i]? = some d → k d (oput O t (.town ns.length (n + 1)))) : P_law_pick [.scr ns, .ref t, .lst ds] O k
  | own (ns : List Int) (t p : Addr) (n : Nat) (ds : List D) (O : Om) (k : D → Om → Prop) (hO : O t = some (.town ns.length n)) (hp : O p = some (.lst ds)) (hpt : t ≠ p) (hl : ns.length ≤ 63) (hn : n ≤ 1000000) (hd : 0 < ds.length) (hd2 : ds.length < 100000)
      (hk : ∀ (i : Nat) (d : D), ds[i]? = some d → k d (oput O t (.town ns.length (n + 1)))) : P_law_pick [.scr ns, .ref t, .ref p] O k
theorem C__law_pick (T : Tx K mg base) : Cal P w K mg base "_law_pick" 2 ["script", "town", "some"] (SpM K P_law_pick) := by
  refine cal_nox T.g__law_pick T.f__law_pick sc__law_pick (len_M fun _ _ _ p => by cases p <;> rfl) (fun _ _ _ _ _ _ us hl => match us, hl with | [_, _, _], _ => rfl) (fun cdv A outer s H vs Q E hr h => ⟨_, (pss_one (ps_ret (pe_ix (ixL (K := K)) (pv 2) (pe_cal (C__law_draw T) (hr.mono (by decide)) (pa_cons (pv 0) (pa_cons (pv 1) (pa_cons (pe_callB (lenK (K := K)) (by rfl) T.b_len (by decide +kernel) (pa_cons (pv 2) pa_nil)) pa_nil)))) (fun _ _ => rfl)))), body_m h fun ds O k p => ?_⟩)
  try dsimp only [cx_K]
  cases p with
  | mk ns t n ds O k hO hl hn hd hd2 hk =>
    refine sv_retM (em_op (em_val (ev_var rfl) (em_call (ma_val (ea_cons (ev_var rfl) (ea_cons (ev_var rfl) (ea_cons (ev_cb (ea_cons (ev_var rfl) ea_nil) rc_len) ea_nil))) ?_))))
    refine .mk ns t n ds.length O _ hO hl hn (by omega) (by omega) fun r h0 h1 => ?_
    have hr : r.toNat < ds.length := by omega
    exact ⟨ds[r.toNat], rd_ixL (atI_ok h0 (List.getElem?_eq_getElem hr)), hk r.toNat _ (List.getElem?_eq_getElem hr)⟩
  | own ns t p n ds O k hO hp hpt hl hn hd hd2 hk =>
    refine sv_retM (em_ixO (em_val (ev_var rfl) ⟨p, rfl, em_call (ma_cons (em_val (ev_var rfl) (ma_cons (em_val (ev_var rfl) (ma_cons (em_lenO (em_val (ev_var rfl) ⟨p, ds, rfl, hp, ma_nil ?_⟩)))))))⟩))
    refine .mk ns t n ds.length O _ hO hl hn (by omega) (by omega) fun r h0 h1 => ?_
    have hr : r.toNat < ds.length := by omega
    exact ⟨r, ds[r.toNat], ds, rfl, by rw [oput_ne hpt.symm]; exact hp, atI_ok h0 (List.getElem?_eq_getElem hr), hk r.toNat _ (List.getElem?_eq_getElem hr)⟩

inductive P_law_whole : List D → Res → Prop
  | mk (d : D) (h : nrD d = true) : P_law_whole [d] (.val (.bl (isI d && !isB d)))
theorem C__law_whole (T : Tx K mg base) : Cal P w K mg base "_law_whole" 1 ["thing"] (SpR K P_law_whole) := by
  refine cal_nox T.g__law_whole T.f__law_whole sc__law_whole (len_R fun _ _ p => by cases p <;> rfl) (fun _ _ _ _ _ _ us hl => match us, hl with | [_], _ => rfl) (fun cdv A outer s H vs Q E hr h => ⟨_, (pss_one (ps_ret (pe_and (pe_callB (isiK (K := K)) (by rfl) T.b_isinstance (by decide +kernel) (pa_cons (pv 0) (pa_cons (pe_bltn (v := .ty "int") (by rfl) T.b_int (by decide +kernel) rfl) pa_nil))) (pe_one (pe_not (pe_callB (isiK (K := K)) (by rfl) T.b_isinstance (by decide +kernel) (pa_cons (pv 0) (pa_cons (pe_bltn (v := .ty "bool") (by rfl) T.b_bool (by decide +kernel) rfl) pa_nil)))))))), body_pure h fun ds r O p => ?_⟩)
  try dsimp only [cx_K]
  cases p with
  | mk d h =>
    refine sv_ret (ev_andV (ev_cb (ea_cons (ev_var rfl) (ea_cons ev_ty ea_nil)) (rc_isI h)) fun _ => ev_notV (ev_cb (ea_cons (ev_var rfl) (ea_cons ev_ty ea_nil)) (rc_isB h))) ⟨rfl, OLe.refl _⟩

inductive P_law_machine : List D → Om → (D → Om → Prop) → Prop
  | mk (ns : List Int) (t : Addr) (n : Nat) (most : Int) (O : Om) (k : D → Om → Prop) (hO : O t = some (.town ns.length n)) (hl : ns.length ≤ 63) (hn : n < 1000000) (hm : 0 < most) (hm2 : most < 1073741824)
      (hk : ∀ m : Mc, 1 ≤ m.2 → m.2 ≤ most → k (encM m) (oput O t (.town ns.length (n + 2)))) : P_law_machine [.scr ns, .ref t, .int most] O k
theorem C__law_machine (T : Tx K mg base) : Cal P w K mg base "_law_machine" 3 ["script", "town", "most_pockets"] (SpM K P_law_machine) := by
  refine cal_nox T.g__law_machine T.f__law_machine sc__law_machine (len_M fun _ _ _ p => by cases p <;> rfl) (fun _ _ _ _ _ _ us hl => match us, hl with | [_, _, _], _ => rfl) (fun cdv A outer s H vs Q E hr h => ⟨_, (pss_one (ps_ret (pe_tup (pa_cons (pe_cal (C__law_pick T) (hr.mono (by decide)) (pa_cons (pv 0) (pa_cons (pv 1) (pa_cons (pe_lst (pa_cons pe_str (pa_cons pe_str (pa_cons pe_str pa_nil)))) pa_nil)))) (pa_cons (pe_op op_add pe_int (pe_cal (C__law_draw T) (hr.mono (by decide)) (pa_cons (pv 0) (pa_cons (pv 1) (pa_cons (pv 2) pa_nil))))) pa_nil))))), body_m h fun ds O k p => ?_⟩)
  try dsimp only [cx_K]
  cases p with
  | mk ns t n most O k hO hl hn hm hm2 hk =>
    refine sv_retM (em_tup (ma_cons (em_call (ma_val (ea_cons (ev_var rfl) (ea_cons (ev_var rfl) (ea_cons (ev_lstV (ea_cons ev_str (ea_cons ev_str (ea_cons ev_str ea_nil)))) ea_nil))) ?_))))
    refine .mk ns t n _ O _ hO hl (by omega) (by decide) (by decide) fun i d hd => ?_
    obtain ⟨b, rfl⟩ : ∃ b, d = .str (kS b) := by
      rcases i with _ | _ | _ | i
      · exact ⟨false, (Option.some.inj hd).symm⟩
      · exact ⟨false, (Option.some.inj hd).symm⟩
      · exact ⟨true, (Option.some.inj hd).symm⟩
      · cases hd
    refine ma_cons (em_op (em_val ev_int (em_call (ma_val (ea_cons (ev_var rfl) (ea_cons (ev_var rfl) (ea_cons (ev_var rfl) ea_nil))) ?_))))
    refine .mk ns t (n + 1) most _ _ oput_same hl (by omega) hm hm2 fun r h0 h1 => ⟨_, rd_i, ma_nil ⟨(by show 2 ≤ 100000; decide), ?_⟩⟩
    rw [oput_oput]
    exact hk (b, 1 + r) (by show 1 ≤ 1 + r; omega) (by show 1 + r ≤ most; omega)

inductive P_law_room : List D → Res → Prop
  | mk (row : List Mc) (h : RowLe row) : P_law_room [.lst (row.map encM)] (.val (.int (roomOf row)))
theorem C__law_room (T : Tx K mg base) : Cal P w K mg base "_law_room" 1 ["row"] (SpR K P_law_room) := by
  refine cal_nox T.g__law_room T.f__law_room sc__law_room (len_R fun _ _ p => by cases p <;> rfl) (fun _ _ _ _ _ _ us hl => match us, hl with | [_], _ => rfl) (fun cdv A outer s H vs Q E hr h => ⟨_, (pss_cons (ps_set (i := 1) sc__law_room.nd rfl (by first | exact Or.inl rfl | exact Or.inr rfl) pe_int)
      (pss_cons (ps_for PassesOwn.never rfl (piL (K := K) (pv 0)) (pgT (K := K) rfl (pgs_cons (pg_name (i := 2) sc__law_room.nd rfl (by first | exact Or.inl rfl | exact Or.inr rfl)) (pgs_cons (pg_name (i := 3) sc__law_room.nd rfl (by first | exact Or.inl rfl | exact Or.inr rfl)) pgs_nil)))
      (pss_one (ps_set (i := 1) sc__law_room.nd rfl (by first | exact Or.inl rfl | exact Or.inr rfl) (pe_op op_mul (pv 1) (pv 3)))))
      (pss_one (ps_ret (pv 1))))), body_pure h fun ds r O p => ?_⟩)
  try dsimp only [cx_K]
  cases p with
  | mk row h =>
    refine sv_seq (sv_asg ev_int (sv_seq ?_))
    refine sv_for (src_list (ev_var rfl)) (fun i G2 O2 => O2 = O ∧ ∃ x y, G2 = [some (.lst (row.map encM)), some (.int (roomOf (row.take i))), x, y]) ⟨rfl, none, none, rfl⟩ ?_ ?_
    · rintro i d G2 O2 hd ⟨rfl, x, y, rfl⟩
      rw [List.getElem?_map] at hd
      cases hm : row[i]? with
      | none => rw [hm] at hd; cases hd
      | some m =>
        rw [hm] at hd
        cases hd
        refine ⟨_, _, tg_tup2, sv_asg (ev_op (ev_var rfl) (ev_var rfl) (rd_ic ?_)) ⟨rfl, some (.str (kS m.1)), some (.int m.2), ?_⟩⟩
        · have hm' := h.2 m (List.mem_of_getElem? hm)
          have h1 := hm'.1
          have h2 := hm'.2
          exact .inr ⟨by omega, by omega⟩
        · rw [roomOf_take hm]
          rfl
    · rintro G2 O2 ⟨rfl, x, y, rfl⟩
      rw [List.length_map, List.take_length]
      exact sv_ret (ev_var rfl) ⟨rfl, OLe.refl _⟩

inductive P_law_odd : List D → Res → Prop
  | mk (row : List Mc) (h : RowLe row) : P_law_odd [.lst (row.map encM)] (.val (.bl (isOdd row)))
theorem C__law_odd (T : Tx K mg base) : Cal P w K mg base "_law_odd" 1 ["row"] (SpR K P_law_odd) := by
  refine cal_nox T.g__law_odd T.f__law_odd sc__law_odd (len_R fun _ _ p => by cases p <;> rfl) (fun _ _ _ _ _ _ us hl => match us, hl with | [_], _ => rfl) (fun cdv A outer s H vs Q E hr h => ⟨_, (pss_one (ps_ret (pe_cmpR op_eq (pe_op op_mod (bmK (K := K) PySem.F.plainAttrs_list PySem.F.slot_list_count PySem.F.type_list_count (mtCntK (K := K)) (pe_lc (own := [("kind", 1), ("pockets", 2)]) (g := gTup K 2 (gCons (gName 1) (gCons (gName 2) gNil))) (tt := tYes) rfl sc__law_odd.nd (piL (K := K) (pv 0)) (blkOk_by (own := [("kind", 1), ("pockets", 2)]) (N := N__law_odd) (sc := defScope s__law_odd) (by decide +kernel)) (fun _ _ _ _ _ => (pgT (K := K) rfl (pgs_cons (pg_name (i := 1) sc__law_odd.nd rfl (by first | exact Or.inl rfl | exact Or.inr rfl)) (pgs_cons (pg_name (i := 2) sc__law_odd.nd rfl (by first | exact Or.inl rfl | exact Or.inr rfl)) pgs_nil)))) (fun _ _ _ _ _ => pts_nil) (fun _ _ _ _ _ => (pv 1))) (pa_cons pe_str pa_nil)) pe_int) pe_int (nomark _)))), body_pure h fun ds r O p => ?_⟩)
  try dsimp only [cx_K]
  cases p with
  | mk row h =>
    refine sv_ret (ev_is (d := .bl (decide (((cntD (.str "well") (sL (row.map fun m => kS m.1)) : Nat) : Int) % 2 = 1))) ?_ ?_) ⟨rfl, OLe.refl _⟩
    · refine ev_op (ev_op (ev_bm (EvR.lst (ev_isN (ev_lcT (enc := encM) (xs := row) (h := fun m => .str (kS m.1)) (src_list (ev_var rfl)) (fun m _ => tg_tup2) ?_ encM_inj (by have := h.1; omega)) ?_)) (ea_cons ev_str ea_nil) (rm_cnt rfl ?_)) ev_int (rd_ic ?_)) ev_int rd_eqI
      · intro m _
        walk_at "ev"
      · unfold sL
        rw [List.map_map]
        rfl
      · rw [List.all_eq_true]
        intro d hd
        obtain ⟨x, _, rfl⟩ := List.mem_map.mp hd
        rfl
      · show (0 : Int) < 2
        decide
    · rw [cntD_strs]
      have e : (row.map fun m => kS m.1).count ("well" : Str) = (row.filter (·.1)).length := by
        rw [List.count_eq_countP, List.countP_map, List.countP_eq_length_filter]
        congr 1
        refine List.filter_congr fun m _ => ?_
        show (kS m.1 == ("well" : Str)) = m.1
        have := kS_well m.1
        cases hm : m.1 <;> rw [hm] at this <;> simpa using this
      rw [e]
      unfold isOdd
      congr 1
      rw [Bool.eq_iff_iff, decide_eq_true_iff, decide_eq_true_iff]
      omega

theorem deck_rev {cs : List Int} (h : DeckOk cs) : DeckOk cs.reverse := by
  have := h.2.2.reverse
  refine ⟨by rw [List.length_reverse]; exact h.1, by rw [List.length_reverse]; exact h.2.1, ?_⟩
  rw [List.length_reverse]
  exact this
/-- labels and rows -/
theorem need_even {cs : List Int} (h : DeckOk cs) : labN (sepB [cs] false) (cs.length - 1) + 1 = risOf cs := by
  have := labN_des (xs := pf cs.length cs) (sep := sepB [cs] false) (fun c _ => by
    unfold sepB posD
    simp) (by rw [pf_len]; exact h.1)
  rw [pf_len] at this
  unfold risOf
  omega
theorem getD_map0 {xs : List Int} (f : Int → Int) {i : Nat} (h : i < xs.length) : (xs.map f).getD i 0 = f (xs.getD i 0) := by
  rw [List.getD_eq_getElem?_getD, List.getElem?_map, List.getD_eq_getElem?_getD, List.getElem?_eq_getElem h]
  rfl
theorem need_odd {cs : List Int} (h : DeckOk cs) : labN (sepB [cs] true) (cs.length - 1) + 1 = risOf cs.reverse := by
  have h1 := h.1
  have hl : ((pf cs.length cs).map fun x => ((cs.length : Int) - 1) - x).length = cs.length := by rw [List.length_map, pf_len]
  have := labN_des (xs := (pf cs.length cs).map fun x => ((cs.length : Int) - 1) - x) (sep := sepB [cs] true) (fun c hc => by
    rw [hl] at hc
    unfold sepB posD
    rw [getD_map0 _ (by rw [pf_len]; omega), getD_map0 _ (by rw [pf_len]; omega)]
    simp) (by rw [hl]; exact h1)
  rw [hl] at this
  unfold risOf
  rw [List.length_reverse, pf_reverse h.2.2]
  omega
theorem need_eq {cs : List Int} (h : DeckOk cs) (odd : Bool) : labN (sepB [cs] odd) (cs.length - 1) + 1 = risOf (if odd then cs.reverse else cs) := by
  cases odd
  · exact need_even h
  · exact need_odd h
inductive P_law_rising : List D → Res → Prop
  | mk (cs : List Int) (h : DeckOk cs) : P_law_rising [.lst (iL cs)] (.val (.int (risOf cs : Nat)))
theorem C__law_rising (T : Tx K mg base) : Cal P w K mg base "_law_rising" 1 ["cards"] (SpR K P_law_rising) := by
  refine cal_nox T.g__law_rising T.f__law_rising sc__law_rising (len_R fun _ _ p => by cases p <;> rfl) (fun _ _ _ _ _ _ us hl => match us, hl with | [_], _ => rfl) (fun cdv A outer s H vs Q E hr h => ⟨_, (pss_cons (ps_set (i := 1) sc__law_rising.nd rfl (by first | exact Or.inl rfl | exact Or.inr rfl) pe_int)
      (pss_cons (ps_set (i := 2) sc__law_rising.nd rfl (by first | exact Or.inl rfl | exact Or.inr rfl) (pe_un un_neg pe_int))
      (pss_cons (ps_for PassesOwn.never rfl (pi_range1 (by rfl) T.b_range (pa_cons (pe_callB (lenK (K := K)) (by rfl) T.b_len (by decide +kernel) (pa_cons (pv 0) pa_nil)) pa_nil)) (pg_name (i := 3) sc__law_rising.nd rfl (by first | exact Or.inl rfl | exact Or.inr rfl))
      (pss_cons (ps_set (i := 4) sc__law_rising.nd rfl (by first | exact Or.inl rfl | exact Or.inr rfl) (bmK (K := K) PySem.F.plainAttrs_list PySem.F.slot_list_index PySem.F.type_list_index (mtIndexK (K := K)) (pv 0) (pa_cons (pv 3) pa_nil)))
      (pss_cons (ps_if (pt_cmpR op_lt (pv 4) (pv 2) (nomark _)) (pss_one (ps_set (i := 1) sc__law_rising.nd rfl (by first | exact Or.inl rfl | exact Or.inr rfl) (pe_op op_add (pv 1) pe_int))) pss_nil)
      (pss_one (ps_set (i := 2) sc__law_rising.nd rfl (by first | exact Or.inl rfl | exact Or.inr rfl) (pv 4))))))
      (pss_one (ps_ret (pv 1)))))), body_pure h fun ds r O p => ?_⟩)
  try dsimp only [cx_K]
  cases p with
  | mk cs h =>
    have h1 := h.1
    have h2 := h.2.1
    refine sv_seq (sv_asg ev_int (sv_seq (sv_asg (ev_un ev_int ru_i) (sv_seq ?_))))
    refine sv_for (src_r1 (ea_cons (ev_cb (ea_cons (ev_var rfl) ea_nil) rc_len) ea_nil) (by omega) (by rw [iL_len]; omega))
      (fun i G2 O2 => O2 = O ∧ ∃ (at_ : Int) (a b : Option D), (i = 0 → at_ = -1) ∧ (1 ≤ i → at_ = posD cs (i - 1)) ∧ G2 = [some (.lst (iL cs)), some (.int (1 + labN (sepB [cs] false) (i - 1) : Nat)), some (.int at_), a, b]) ⟨rfl, -1, none, none, fun _ => rfl, fun h => by omega, rfl⟩ ?_ ?_
    · rintro i d G2 O2 hd ⟨rfl, at_, a, b, ha0, ha1, rfl⟩
      have hi : i < cs.length := by
        have := (List.getElem?_eq_some_iff.mp hd).1
        rw [List.length_map, rng_len, iL_len] at this
        omega
      have ed : d = .int i := by
        rw [List.getElem?_map, rng_get (by rw [iL_len]; omega)] at hd
        rw [(Option.some.inj hd).symm, Int.zero_add]
      subst ed
      have hpi : ((cs.idxOf (i : Int) : Nat) : Int) = posD cs i := by
        unfold posD
        rw [List.getD_eq_getElem?_getD, h.2.2.pf_at hi]
        rfl
      have hp0 : 0 ≤ posD cs i := by rw [← hpi]; omega
      refine ⟨_, _, tg_name, sv_seq (sv_asg (ev_is (ev_bm (ev_var rfl) (ea_cons (ev_var rfl) ea_nil) (rm_index (h.2.2.mem hi))) (by rw [hpi])) ?_)⟩
      refine sv_cut (fun G' O' => O' = O2 ∧ G' = [some (.lst (iL cs)), some (.int (1 + labN (sepB [cs] false) i : Nat)), some (.int at_), some (.int i), some (.int (posD cs i))]) ?_ ?_
      · refine sv_if (b := decide (posD cs i < at_)) (et_test (ev_op (ev_var rfl) (ev_var rfl) rd_b)) (fun e => ?_) fun e => ?_
        · have e := of_decide_eq_true e
          have hi1 : 1 ≤ i := Classical.byContradiction fun hn => by
            have := ha0 (by omega)
            omega
          obtain ⟨k, rfl⟩ : ∃ k, i = k + 1 := ⟨i - 1, by omega⟩
          have e2 := ha1 (by omega)
          rw [Nat.add_sub_cancel] at e2
          refine sv_asg (ev_op (ev_var rfl) ev_int rd_i) ⟨rfl, ?_⟩
          have hs : sepB [cs] false (k + 1) = true := by
            unfold sepB
            simp
            omega
          rw [labN, hs, Nat.add_sub_cancel]
          rfl
        · have e := of_decide_eq_false e
          refine sv_next ⟨rfl, ?_⟩
          by_cases hi1 : 1 ≤ i
          · obtain ⟨k, rfl⟩ : ∃ k, i = k + 1 := ⟨i - 1, by omega⟩
            have e2 := ha1 (by omega)
            rw [Nat.add_sub_cancel] at e2
            have hs : sepB [cs] false (k + 1) = false := by
              unfold sepB
              simp
              omega
            rw [labN, hs, Nat.add_sub_cancel]
            rfl
          · obtain rfl : i = 0 := by omega
            rfl
      · rintro _ _ ⟨rfl, rfl⟩
        exact sv_asg (ev_var rfl) ⟨rfl, _, _, _, fun h => by omega, fun _ => rfl, rfl⟩
    · rintro G2 O2 ⟨rfl, at_, a, b, ha0, ha1, rfl⟩
      rw [List.length_map, rng_len, iL_len, show ((cs.length : Nat) : Int).toNat = cs.length by omega]
      refine sv_ret (ev_is (ev_var rfl) ?_) ⟨rfl, OLe.refl _⟩
      rw [← need_even h, Nat.add_comm]
inductive P_law_falling : List D → Res → Prop
  | mk (cs : List Int) (h : DeckOk cs) : P_law_falling [.lst (iL cs)] (.val (.int (risOf cs.reverse : Nat)))
theorem C__law_falling (T : Tx K mg base) : Cal P w K mg base "_law_falling" 2 ["cards"] (SpR K P_law_falling) := by
  refine cal_nox T.g__law_falling T.f__law_falling sc__law_falling (len_R fun _ _ p => by cases p <;> rfl) (fun _ _ _ _ _ _ us hl => match us, hl with | [_], _ => rfl) (fun cdv A outer s H vs Q E hr h => ⟨_, (pss_one (ps_ret (pe_cal (C__law_rising T) (hr.mono (by decide)) (pa_cons (revK (K := K) (pv 0)) pa_nil)))), body_pure h fun ds r O p => ?_⟩)
  try dsimp only [cx_K]
  cases p with
  | mk cs h => exact sv_ret (ev_callV (ea_cons (ev_is (ev_revV (ev_var rfl)) (by rw [iL_rev])) ea_nil) (P_law_rising.mk _ (deck_rev h))) ⟨rfl, OLe.refl _⟩

theorem flat_set {hs : List (List Int)} {r : Nat} {h : List Int} {x : Int} (hr : hs[r]? = some h) : ((hs.set r (h ++ [x])).flatten).Perm (hs.flatten ++ [x]) := by
  induction hs generalizing r with
  | nil => cases hr
  | cons a hs ih =>
    cases r with
    | zero =>
      have e : a = h := Option.some.inj hr
      subst e
      rw [List.set_cons_zero, List.flatten_cons, List.flatten_cons, List.append_assoc, List.append_assoc]
      exact List.Perm.append_left _ List.perm_append_comm
    | succ r =>
      rw [List.set_cons_succ, List.flatten_cons, List.flatten_cons, List.append_assoc]
      exact List.Perm.append_left _ (ih (by simpa using hr))
theorem rng_snoc (n : Nat) : rng 0 (n + 1) = rng 0 n ++ [(n : Int)] := by
  unfold rng
  rw [List.range_succ, List.map_append]
  simp
inductive P_law_cards : List D → Om → (D → Om → Prop) → Prop
  | mk (ns : List Int) (t : Addr) (n : Nat) (most : Int) (O : Om) (k : D → Om → Prop) (hO : O t = some (.town ns.length n)) (hl : ns.length ≤ 63) (hn : n < 900000) (hm : 1 ≤ most) (hm2 : most ≤ 40)
      (hk : ∀ cs : List Int, DeckOk cs → (cs.length : Int) ≤ most → k (.lst (iL cs)) (oput O t (.town ns.length (n + 100)))) : P_law_cards [.scr ns, .ref t, .int most] O k
theorem C__law_cards (T : Tx K mg base) : Cal P w K mg base "_law_cards" 2 ["script", "town", "most_cards"] (SpM K P_law_cards) := by
  refine cal_nox T.g__law_cards T.f__law_cards sc__law_cards (len_M fun _ _ _ p => by cases p <;> rfl) (fun _ _ _ _ _ _ us hl => match us, hl with | [_, _, _], _ => rfl) (fun cdv A outer s H vs Q E hr h => ⟨_, (pss_cons (ps_set (i := 3) sc__law_cards.nd rfl (by first | exact Or.inl rfl | exact Or.inr rfl) (pe_op op_add pe_int (pe_cal (C__law_draw T) (hr.mono (by decide)) (pa_cons (pv 0) (pa_cons (pv 1) (pa_cons (pv 2) pa_nil))))))
      (pss_cons (ps_set (i := 4) sc__law_cards.nd rfl (by first | exact Or.inl rfl | exact Or.inr rfl) (pe_cal (C__law_draw T) (hr.mono (by decide)) (pa_cons (pv 0) (pa_cons (pv 1) (pa_cons pe_int pa_nil)))))
      (pss_cons (ps_set (i := 5) sc__law_cards.nd rfl (by first | exact Or.inl rfl | exact Or.inr rfl) (pe_op op_add pe_int (pe_cal (C__law_draw T) (hr.mono (by decide)) (pa_cons (pv 0) (pa_cons (pv 1) (pa_cons pe_int pa_nil))))))
      (pss_cons (ps_set (i := 6) sc__law_cards.nd rfl (by first | exact Or.inl rfl | exact Or.inr rfl) (pe_lst pa_nil))
      (pss_cons (ps_for PassesOwn.never rfl (pi_range1 (by rfl) T.b_range (pa_cons (pv 3) pa_nil)) (pg_name (i := 7) sc__law_cards.nd rfl (by first | exact Or.inl rfl | exact Or.inr rfl))
      (pss_cons (ps_set (i := 8) sc__law_cards.nd rfl (by first | exact Or.inl rfl | exact Or.inr rfl) (pe_cal (C__law_draw T) (hr.mono (by decide)) (pa_cons (pv 0) (pa_cons (pv 1) (pa_cons (pe_op op_add (pe_callB (lenK (K := K)) (by rfl) T.b_len (by decide +kernel) (pa_cons (pv 6) pa_nil)) pe_int) pa_nil)))))
      (pss_cons (ps_if (pt_cmpR op_eq (pv 4) pe_int (nomark _)) (pss_one (ps_set (i := 8) sc__law_cards.nd rfl (by first | exact Or.inl rfl | exact Or.inr rfl) (pe_callB (call_min2 rfl) (by rfl) T.b_min (by decide +kernel) (pa_cons (pe_callB (lenK (K := K)) (by rfl) T.b_len (by decide +kernel) (pa_cons (pv 6) pa_nil)) (pa_cons (pe_op op_add (pv 8) (pe_op op_fdivB (pe_callB (lenK (K := K)) (by rfl) T.b_len (by decide +kernel) (pa_cons (pv 6) pa_nil)) (pv 5))) pa_nil))))) pss_nil)
      (pss_one (ps_expr (bmK (K := K) PySem.F.plainAttrs_list PySem.F.slot_list_insert PySem.F.type_list_insert mt_insert (pv 6) (pa_cons (pv 8) (pa_cons (pv 7) pa_nil))))))))
      (pss_cons (ps_if (pt_cmpR op_eq (pv 4) pe_int (nomark _)) (pss_cons (ps_setLc (i := 9) (own := [("row", 12)]) (g := gName 12) (tt := tYes) rfl sc__law_cards.nd rfl rfl (sw_true rfl rfl rfl (by decide +kernel)) (pi_range1 (by rfl) T.b_range (pa_cons (pv 5) pa_nil)) (blkOk_by (own := [("row", 12)]) (N := N__law_cards) (sc := defScope s__law_cards) (by decide +kernel)) (fun _ _ _ _ _ => (pg_name (i := 12) sc__law_cards.nd rfl (by first | exact Or.inl rfl | exact Or.inr rfl))) (fun _ _ _ _ _ => pts_nil) (fun _ _ _ _ _ => (pe_lst pa_nil)))
      (pss_cons (ps_for PassesOwn.never rfl (pi_range1 (by rfl) T.b_range (pa_cons (pv 3) pa_nil)) (pg_name (i := 10) sc__law_cards.nd rfl (by first | exact Or.inl rfl | exact Or.inr rfl))
      (pss_one (ps_expr (bmK (K := K) PySem.F.plainAttrs_list PySem.F.slot_list_append PySem.F.type_list_append mt_append (pe_ix (ixL (K := K)) (pv 9) (pe_cal (C__law_draw T) (hr.mono (by decide)) (pa_cons (pv 0) (pa_cons (pv 1) (pa_cons (pv 5) pa_nil)))) (fun _ _ => rfl)) (pa_cons (pv 10) pa_nil)))))
      (pss_cons (ps_set (i := 6) sc__law_cards.nd rfl (by first | exact Or.inl rfl | exact Or.inr rfl) (pe_op op_rep (pe_lst (pa_cons pe_int pa_nil)) (pv 3)))
      (pss_cons (ps_set (i := 7) sc__law_cards.nd rfl (by first | exact Or.inl rfl | exact Or.inr rfl) pe_int)
      (pss_one (ps_for PassesOwn.never rfl (piL (K := K) (pv 9)) (pg_name (i := 11) sc__law_cards.nd rfl (by first | exact Or.inl rfl | exact Or.inr rfl))
      (pss_one (ps_for PassesOwn.never rfl (piL (K := K) (pv 11)) (pg_name (i := 10) sc__law_cards.nd rfl (by first | exact Or.inl rfl | exact Or.inr rfl))
      (pss_cons (ps_asg (pv 7) (pg_sub (pv 6) (pv 10) set_list))
      (pss_one (ps_set (i := 7) sc__law_cards.nd rfl (by first | exact Or.inl rfl | exact Or.inr rfl) (pe_op op_add (pv 7) pe_int)))))))))))) pss_nil)
      (pss_one (ps_ret (pe_ifExp (PW.pt (pw_and (pt_cmpR op_gt (pv 4) pe_int (nomark _)) (pw_and1 (pt_cmpR op_eq (pe_cal (C__law_draw T) (hr.mono (by decide)) (pa_cons (pv 0) (pa_cons (pv 1) (pa_cons pe_int pa_nil)))) pe_int (nomark _))))) (revK (K := K) (pv 6)) (pv 6)))))))))), body_m h fun ds O k p => ?_⟩)
  try dsimp only [cx_K]
  cases p with
  | mk ns t n most O k hO hl hn hm hm2 hk =>
    -- many, way, rows
    refine sv_seq (sv_asgM (em_op (em_val ev_int (em_call (ma_val (ea_cons (ev_var rfl) (ea_cons (ev_var rfl) (ea_cons (ev_var rfl) ea_nil))) ?_)))))
    refine .mk ns t n most O _ hO hl (by omega) (by omega) (by omega) fun r1 a1 b1 => ⟨_, rd_i, ?_⟩
    obtain ⟨many, hmany⟩ : ∃ m : Nat, 1 + r1 = (m : Int) := ⟨(1 + r1).toNat, by omega⟩
    rw [hmany]
    refine sv_seq (sv_asgM (em_call (ma_val (ea_cons (ev_var rfl) (ea_cons (ev_var rfl) (ea_cons ev_int ea_nil))) ?_)))
    refine .mk ns t (n + 1) 4 _ _ oput_same hl (by omega) (by omega) (by omega) fun way a2 b2 => ?_
    refine sv_seq (sv_asgM (em_op (em_val ev_int (em_call (ma_val (ea_cons (ev_var rfl) (ea_cons (ev_var rfl) (ea_cons ev_int ea_nil))) ?_)))))
    refine .mk ns t (n + 2) 5 _ _ (by rw [oput_oput]; exact oput_same) hl (by omega) (by omega) (by omega) fun r3 a3 b3 => ⟨_, rd_i, ?_⟩
    rw [oput_oput, oput_oput]
    generalize hrows : 1 + r3 = rows
    -- found = []
    refine sv_seq (sv_asgN (ev_lst ea_nil) fun p hp => ?_)
    have hpt : t ≠ p := one_none oput_same hp
    have hOp : O p = none := by rw [oput_ne hpt.symm] at hp; exact hp
    -- the end
    have fin : ∀ (G2 : Sl) (p2 : Addr) (cs : List Int) (n' : Nat), G2[0]? = some (some (.scr ns)) → G2[1]? = some (some (.ref t)) → G2[4]? = some (some (.int way)) → G2[6]? = some (some (.ref p2)) → t ≠ p2 → O p2 = none → n' ≤ n + 99 → Full many cs →
        Sv K E (tRet (tIf (tAnd (tTest (tOp (rI0 fun i j => .bl (decide (j < i))) (tVar 4) (tC (.int 0)))) (tTest (tOp rEq (tCall (SpM K P_law_draw) [] E0 (tCons (tVar 0) (tCons (tVar 1) (tCons (tC (.int 3)) tNil)))) (tC (.int 0))))) (tRevL K (tVar 6)) (tVar 6)))
          { nx := fun _ O' => k .non O', rt := k } G2 (oput (oput O t (.town ns.length n')) p2 (.lst (iL cs))) := by
      intro G2 p2 cs n' g0 g1 g4 g6 hp2 hOp2 hn' hf
      refine sv_freeze g6 oput_same ?_
      rw [odrop_put (by rw [oput_ne hp2.symm]; exact hOp2)]
      have q0 : (G2.set 6 (some (.lst (iL cs))))[0]? = some (some (.scr ns)) := by rw [List.getElem?_set_ne (by decide)]; exact g0
      have q1 : (G2.set 6 (some (.lst (iL cs))))[1]? = some (some (.ref t)) := by rw [List.getElem?_set_ne (by decide)]; exact g1
      have q4 : (G2.set 6 (some (.lst (iL cs))))[4]? = some (some (.int way)) := by rw [List.getElem?_set_ne (by decide)]; exact g4
      have q6 : (G2.set 6 (some (.lst (iL cs))))[6]? = some (some (.lst (iL cs))) := List.getElem?_set_self (List.getElem?_eq_some_iff.mp g6).1
      have hd : ∀ ds : List Int, Full many ds → DeckOk ds ∧ (ds.length : Int) ≤ most := fun ds h => by
        have e := h.2
        refine ⟨⟨by omega, by omega, by rw [e]; exact h⟩, by omega⟩
      have out : ∀ (ds : List Int) (n2 : Nat) (O2 : Om), O2 = oput O t (.town ns.length n2) → n2 ≤ n + 100 → Full many ds → ∃ O3, OTo K O2 O3 ∧ k (.lst (iL ds)) O3 := fun ds n2 O2 e h2 hf2 => by
        subst e
        refine ⟨_, OTo.town (n' := n + 100) oput_same h2, ?_⟩
        rw [oput_oput]
        exact hk ds (hd ds hf2).1 (hd ds hf2).2
      refine sv_retM (em_conv (em_ifM (mt_and (mt_val (et_test (ev_op (ev_var q4) ev_int rd_b)) ⟨fun _ => mt_test (em_op (em_call ?_)), fun _ => ⟨fun h => (by cases h), fun _ => ?_⟩⟩))))
      · refine ma_val (ea_cons (ev_var q0) (ea_cons (ev_var q1) (ea_cons ev_int ea_nil))) ?_
        refine .mk ns t n' 3 _ _ oput_same hl (by omega) (by omega) (by omega) fun r _ _ => ?_
        rw [oput_oput]
        refine em_val ev_int ⟨_, rd_eqI, _, rfl, fun _ => ?_, fun _ => ?_⟩
        · refine em_val (ev_is (ev_revV (ev_var q6)) (by rw [← List.map_reverse])) ?_
          exact out cs.reverse (n' + 1) _ rfl (by omega) hf.reverse
        · exact em_val (ev_var q6) (out cs (n' + 1) _ rfl (by omega) hf)
      · exact em_val (ev_var q6) (out cs n' _ rfl (by omega) hf)
    -- the cards are laid, one by one
    refine sv_seq ?_
    refine sv_for (src_r1 (ea_cons (ev_var rfl) ea_nil) (by omega) (by omega)) (fun i G2 O2 => i ≤ many ∧ ∃ fs, Full i fs ∧ O2 = oput (oput O t (.town ns.length (n + 3 + i))) p (.lst (iL fs)) ∧ ∃ a b c d e f, G2 = [some (.scr ns), some (.ref t), some (.int most), some (.int many), some (.int way), some (.int rows), some (.ref p), a, b, c, d, e, f])
      ⟨Nat.zero_le _, [], ⟨⟨fun x h => absurd h List.not_mem_nil, List.nodup_nil⟩, rfl⟩, rfl, _, _, _, _, _, _, rfl⟩ ?_ ?_
    · rintro i d G2 O2 hd ⟨_, fs, hf, rfl, a, b, c, d', e, f, rfl⟩
      have hi : i < many := by
        have := (List.getElem?_eq_some_iff.mp hd).1
        rw [List.length_map, rng_len] at this
        omega
      have ed : d = .int i := by
        rw [List.getElem?_map, rng_get (by omega)] at hd
        rw [(Option.some.inj hd).symm, Int.zero_add]
      subst ed
      have hfl := hf.2
      refine ⟨_, _, tg_name, sv_seq (sv_asgM (em_call ?_))⟩
      refine ma_cons (em_val (ev_var rfl) (ma_cons (em_val (ev_var rfl) (ma_cons (em_op (em_lenO ?_))))))
      refine em_val (ev_var rfl) ⟨p, _, rfl, oput_same, em_val ev_int ⟨_, rd_i, ma_nil ?_⟩⟩
      rw [List.length_map, hfl]
      refine .mk ns t (n + 3 + i) _ _ _ (by rw [oput_ne hpt]; exact oput_same) hl (by omega) (by omega) (by omega) fun r h0 h1 => ?_
      rw [oput_comm hpt.symm, oput_oput]
      obtain ⟨at_, rfl⟩ : ∃ x : Nat, r = x := ⟨r.toNat, by omega⟩
      refine sv_cut (fun G' O' => ∃ x : Nat, x ≤ i ∧ G' = [some (.scr ns), some (.ref t), some (.int most), some (.int many), some (.int way), some (.int rows), some (.ref p), some (.int i), some (.int x), c, d', e, f] ∧ O' = oput (oput O t (.town ns.length (n + 3 + i + 1))) p (.lst (iL fs))) ?_ ?_
      · refine sv_if (et_test (ev_op (ev_var rfl) ev_int rd_eqI)) (fun _ => ?_) fun _ => sv_next ⟨at_, by omega, rfl, rfl⟩
        refine sv_asgM (em_cb (ma_cons (em_lenO ?_)))
        refine em_val (ev_var rfl) ⟨p, _, rfl, oput_same, ma_cons (em_op (em_val (ev_var rfl) (em_op (em_lenO ?_))))⟩
        refine em_val (ev_var rfl) ⟨p, _, rfl, oput_same, em_val (ev_var rfl) ⟨_, rd_ic ?_, ⟨_, rd_i, ma_nil ⟨_, rc_min2, ?_⟩⟩⟩⟩
        · exact ⟨by omega, by omega⟩
        · rw [List.length_map, hfl]
          have hdv : 0 ≤ (i : Int) / rows := Int.ediv_nonneg (by omega) (by omega)
          obtain ⟨x, hx⟩ : ∃ x : Nat, (if (at_ : Int) + (i : Int) / rows < (i : Int) then (at_ : Int) + (i : Int) / rows else (i : Int)) = x ∧ x ≤ i := by
            split
            · exact ⟨((at_ : Int) + (i : Int) / rows).toNat, by omega, by omega⟩
            · exact ⟨i, rfl, Nat.le_refl _⟩
          rw [hx.1]
          exact ⟨x, hx.2, rfl, rfl⟩
      · rintro _ _ ⟨x, hx, rfl, rfl⟩
        refine sv_dropM (em_insert (em_val (ev_var rfl) ⟨p, _, rfl, oput_same, em_val (ev_var rfl) (em_val (ev_var rfl) ⟨x, iL fs, rfl, by omega, oput_same, by rw [List.length_map]; omega, ?_⟩)⟩))
        refine ⟨hi, fs.take x ++ [(i : Int)] ++ fs.drop x, hf.insert x, ?_, _, _, _, _, _, _, rfl⟩
        have e4 : (iL fs).take x ++ [D.int i] ++ (iL fs).drop x = iL (fs.take x ++ [(i : Int)] ++ fs.drop x) := by simp [List.map_take, List.map_drop]
        rw [oput_oput, show n + 3 + (i + 1) = n + 3 + i + 1 by omega, e4]
    · rintro G2 O2 ⟨_, fs, hf, rfl, a, b, c, d', e, f, rfl⟩
      have hlen : (iL (rng 0 ((many : Int)).toNat)).length = many := by rw [List.length_map, rng_len]; omega
      rw [hlen] at hf ⊢
      refine sv_seq (sv_if (et_test (ev_op (ev_var rfl) ev_int rd_eqI)) (fun _ => ?_) fun _ => sv_next (fin _ p fs _ rfl rfl rfl rfl hpt hOp (by omega) hf))
      -- few rising rows: heaps
      refine sv_weak (G' := _) (O' := oput O t (.town ns.length (n + 3 + many))) ?_ ⟨rfl, fun _ _ h => h⟩ (OLe.new (by rw [oput_ne hpt.symm]; exact hOp))
      refine sv_seq (sv_asgM (em_piles (ea_cons (ev_var rfl) ea_nil) (by omega) (by omega) fun qs hq nd hfr => ?_))
      have htq : t ∉ qs := fun hm => by
        have := hfr t hm
        rw [oput_same] at this
        cases this
      have hfr2 : ∀ (x : Nat), ∀ q ∈ qs, (oput O t (.town ns.length x)) q = none := fun x q hm => by
        have hne : q ≠ t := fun z => htq (z ▸ hm)
        have := hfr q hm
        rw [oput_ne hne] at this ⊢
        exact this
      refine sv_seq ?_
      refine sv_for (src_r1 (ea_cons (ev_var rfl) ea_nil) (by omega) (by omega)) (fun i G2 O2 => i ≤ many ∧ ∃ hs : List (List Int), hs.length = qs.length ∧ hs.flatten.Perm (rng 0 i) ∧ O2 = oputL (oput O t (.town ns.length (n + 3 + many + i))) qs hs ∧ ∃ a b c d e, G2 = [some (.scr ns), some (.ref t), some (.int most), some (.int many), some (.int way), some (.int rows), some (.ref p), a, b, some (.lst (qs.map D.ref)), c, d, e])
        ⟨Nat.zero_le _, List.replicate qs.length [], by rw [List.length_replicate], by rw [List.flatten_eq_nil_iff.mpr fun l hl => (List.mem_replicate.mp hl).2]; exact List.Perm.refl _, rfl, _, _, _, _, _, rfl⟩ ?_ ?_
      · rintro i d G2 O2 hd ⟨_, hs, hhl, hperm, rfl, a, b, c, d', e, rfl⟩
        have hi : i < many := by
          have := (List.getElem?_eq_some_iff.mp hd).1
          rw [List.length_map, rng_len] at this
          omega
        have ed : d = .int i := by
          rw [List.getElem?_map, rng_get (by omega)] at hd
          rw [(Option.some.inj hd).symm, Int.zero_add]
        subst ed
        refine ⟨_, _, tg_name, sv_dropM (em_append (em_op (em_val (ev_var rfl) (em_call ?_))))⟩
        refine ma_val (ea_cons (ev_var rfl) (ea_cons (ev_var rfl) (ea_cons (ev_var rfl) ea_nil))) ?_
        refine .mk ns t (n + 3 + many + i) rows _ _ (by rw [oputL_out htq]; exact oput_same) hl (by omega) (by omega) (by omega) fun r h0 h1 => ?_
        rw [oputL_comm htq, oput_oput]
        obtain ⟨j, rfl⟩ : ∃ x : Nat, r = x := ⟨r.toNat, by omega⟩
        have hj : j < qs.length := by omega
        obtain ⟨q, hqj⟩ : ∃ q, qs[j]? = some q := ⟨_, List.getElem?_eq_getElem hj⟩
        obtain ⟨h, hhj⟩ : ∃ h, hs[j]? = some h := ⟨_, List.getElem?_eq_getElem (by omega)⟩
        refine ⟨.ref q, rd_ixL (atI_map (atI_ok (by omega) (by rw [show (j : Int).toNat = j by omega]; exact hqj))), q, _, rfl, oputL_at nd hqj hhj, em_val (ev_var rfl) ⟨_, oputL_at nd hqj hhj, ?_, ?_⟩⟩
        · rw [List.length_map]
          have h1 : h.length ≤ hs.flatten.length := List.Sublist.length_le (List.sublist_flatten_of_mem (List.mem_of_getElem? hhj))
          rw [hperm.length_eq, rng_len] at h1
          omega
        · refine ⟨hi, hs.set j (h ++ [(i : Int)]), by rw [List.length_set, hhl], ?_, ?_, _, _, _, _, _, rfl⟩
          · rw [rng_snoc]
            exact (flat_set hhj).trans (List.Perm.append_right _ hperm)
          · rw [show iL h ++ [D.int i] = iL (h ++ [(i : Int)]) by simp, oputL_put nd hhl.symm hqj]
            rfl
      · rintro G2 O2 ⟨_, hs, hhl, hperm, rfl, a, b, c, d', e, rfl⟩
        rw [hlen] at hperm ⊢
        refine sv_freezeL (i := 9) nd hhl.symm (hfr2 _) rfl ?_
        -- found = [0] * many; card = 0
        refine sv_seq (sv_asgN (ev_op (ev_lstV (ea_cons ev_int ea_nil)) (ev_var rfl) (rd_rep (by omega) (by rw [show ([D.int 0] : List D).length = 1 from rfl]; omega) (by omega))) fun p2 hp2 => ?_)
        have hpt2 : t ≠ p2 := one_none oput_same hp2
        have hOp2 : O p2 = none := by rw [oput_ne hpt2.symm] at hp2; exact hp2
        rw [rep_zero, show (many : Int).toNat = many by omega]
        have hfull : Full many hs.flatten := (full_range many).perm hperm
        have hsub : ∀ (pre suf : List Int), hs.flatten = pre ++ suf → Part many pre := fun pre suf e => by
          have h1 := hfull.1
          rw [e] at h1
          exact ⟨fun x hx => h1.1 x (List.mem_append_left _ hx), (List.nodup_append.mp h1.2).1⟩
        refine sv_seq (sv_asg ev_int ?_)
        refine sv_for (src_list (ev_var rfl)) (fun i G2 O2 => i ≤ hs.length ∧ O2 = oput (oput O t (.town ns.length (n + 3 + many + many))) p2 (.lst (iL (pf many ((hs.take i).flatten)))) ∧ ∃ b c d e, G2 = [some (.scr ns), some (.ref t), some (.int most), some (.int many), some (.int way), some (.int rows), some (.ref p2), some (.int (((hs.take i).flatten).length : Nat)), b, some (.lst (hs.map fun h => .lst (iL h))), c, d, e])
          ⟨Nat.zero_le _, rfl, _, _, _, _, rfl⟩ ?_ ?_
        · rintro i d G2 O2 hd ⟨hi', rfl, b, c, d', e, rfl⟩
          obtain ⟨h, hhi, rfl⟩ : ∃ h, hs[i]? = some h ∧ d = .lst (iL h) := by
            rw [List.getElem?_map] at hd
            cases hh : hs[i]? with
            | none => rw [hh] at hd; cases hd
            | some h => rw [hh] at hd; exact ⟨h, rfl, (Option.some.inj hd).symm⟩
          have hlt : i < hs.length := (List.getElem?_eq_some_iff.mp hhi).1
          have htk : (hs.take (i + 1)).flatten = (hs.take i).flatten ++ h := by
            rw [List.take_add_one, hhi]
            show (hs.take i ++ [h]).flatten = _
            rw [List.flatten_append]
            simp
          refine ⟨_, _, tg_name, ?_⟩
          refine sv_for (src_list (ev_var rfl)) (fun j G2 O2 => j ≤ h.length ∧ O2 = oput (oput O t (.town ns.length (n + 3 + many + many))) p2 (.lst (iL (pf many ((hs.take i).flatten ++ h.take j)))) ∧ ∃ b c e, G2 = [some (.scr ns), some (.ref t), some (.int most), some (.int many), some (.int way), some (.int rows), some (.ref p2), some (.int (((hs.take i).flatten ++ h.take j).length : Nat)), b, some (.lst (hs.map fun h => .lst (iL h))), c, some (.lst (iL h)), e])
            ⟨Nat.zero_le _, by rw [List.take_zero, List.append_nil], b, c, e, by rw [List.take_zero, List.append_nil]; rfl⟩ ?_ ?_
          · rintro j d G2 O2 hd ⟨_, rfl, b, c, e, rfl⟩
            obtain ⟨x, hx, rfl⟩ : ∃ x, h[j]? = some x ∧ d = .int x := by
              rw [List.getElem?_map] at hd
              cases hh : h[j]? with
              | none => rw [hh] at hd; cases hd
              | some x => rw [hh] at hd; exact ⟨x, rfl, (Option.some.inj hd).symm⟩
            have hjl : j < h.length := (List.getElem?_eq_some_iff.mp hx).1
            have htj : h.take (j + 1) = h.take j ++ [x] := by rw [List.take_add_one, hx]; rfl
            have hxm : x ∈ hs.flatten := List.mem_flatten.mpr ⟨h, List.mem_of_getElem? hhi, List.mem_of_getElem? hx⟩
            have hxb := hfull.1.1 x hxm
            obtain ⟨x', rfl⟩ : ∃ y : Nat, x = y := ⟨x.toNat, by omega⟩
            refine ⟨_, _, tg_name, sv_seq (sv_setL (em_val (ev_var rfl) (em_val (ev_var rfl) ⟨p2, rfl, em_val (ev_var rfl) ⟨x', _, rfl, oput_same, by rw [List.length_map, pf_len]; omega, ?_⟩⟩)))⟩
            refine sv_asg (ev_op (ev_var rfl) ev_int rd_i) ⟨hjl, ?_, b, some (.int x'), e, ?_⟩
            · rw [oput_oput, htj, ← List.append_assoc, pf_snoc, iL_set]
              rfl
            · rw [htj, ← List.append_assoc, List.length_append (bs := [(x' : Int)])]
              rfl
          · rintro G2 O2 ⟨_, rfl, b, c, e, rfl⟩
            rw [List.length_map, List.take_length]
            refine ⟨hlt, by rw [htk], b, c, some (.lst (iL h)), e, by rw [htk]⟩
        · rintro G2 O2 ⟨_, rfl, b, c, d', e, rfl⟩
          rw [List.length_map, List.take_length]
          exact fin _ p2 _ _ rfl rfl rfl rfl hpt2 hOp2 (by omega) hfull.pf

theorem rc_tupL {E : XK} {ds : List D} : RC K E (fun xs H Q => ∃ p ys, xs = [.ref p] ∧ ((SqL K H p ys ∧ ∀ l, H l = none → Q (.ref l) (upd H l (.tup ys))) ∨ (SqT K H p ys ∧ Q (.ref p) H))) [.lst ds] (.val (.tup ds)) := fun H0 H e xs r Q q => by
  obtain ⟨v, ws, rfl, r1, r2⟩ := r.cons_out
  obtain rfl := r2.nil_out
  obtain ⟨a, vs, rfl, ha, t⟩ := r1.lst_out
  exact ⟨a, vs, rfl, .inl ⟨.inl (.inl (e _ _ ha)), fun l hl => q (.ref l) (upd H0 l (.tup vs)) _ (Stp.new e hl) (.tup upd_same (t.up (same_new (e.free hl))))⟩⟩
theorem pl_ref (i : Int) : Pl 1 (.tup [.str "refused", .int i]) := .tup fun d h => by
  rcases List.mem_cons.mp h with rfl | h
  · exact .str 0 (by decide +kernel)
  · rw [List.mem_singleton.mp h]
    exact .int 0 _
theorem nb_ref (i : Int) : Nb (.tup [.str "refused", .int i]) := .tup fun d h => by
  rcases List.mem_cons.mp h with rfl | h
  · exact .str _
  · rw [List.mem_singleton.mp h]
    exact .int _
theorem deq_ref (i : Int) : deq (.tup [.str "refused", .int i]) (.tup [.str "refused", .int i]) = true := deq_self (nb_ref i)
theorem cut_len {α : Type} (xs : List α) (lo hi : Option Int) : (cut xs lo hi).length ≤ xs.length := by
  unfold cut
  refine Nat.le_trans (List.length_take_le' _ _) ?_
  rw [List.length_drop]
  omega
theorem flat_mem {n : Nat} {d x : D} (h : x ∈ (List.replicate n [d]).flatten) : x = d := by
  obtain ⟨l, hl, hx⟩ := List.mem_flatten.mp h
  rw [(List.mem_replicate.mp hl).2] at hx
  exact List.mem_singleton.mp hx
theorem flat_one (n : Nat) (d : D) : ((List.replicate n [d]).flatten).length = n := by
  induction n with
  | zero => rfl
  | succ n ih => rw [List.replicate_succ, List.flatten_cons, List.length_append, ih, List.length_singleton, Nat.add_comm]
theorem flat_rep (n : Nat) (d : D) : (List.replicate n [d]).flatten = List.replicate n d := by
  induction n with
  | zero => rfl
  | succ n ih => rw [List.replicate_succ, List.flatten_cons, ih]; rfl
theorem cut_m1 {α : Type} (xs : List α) : cut xs none (some (-1)) = xs.dropLast := by
  rcases list_snoc xs with rfl | ⟨i, a, rfl⟩
  · rfl
  · unfold cut
    rw [HT.sIx_none, List.dropLast_concat]
    have e : HT.sIx (i ++ [a]).length (i ++ [a]).length (some (-1)) = i.length := by
      unfold HT.sIx
      simp
      omega
    rw [e, List.drop_zero, Nat.sub_zero, List.take_left]
/-- a list of one kind of refusal -/
theorem pl_refs (n : Nat) (i : Int) : Pl 2 (.lst (List.replicate n (.tup [.str "refused", .int i]))) := .lst fun d h => by
  rw [(List.mem_replicate.mp h).2]
  exact pl_ref i
theorem nb_refs (n : Nat) (i : Int) : Nb (.lst (List.replicate n (.tup [.str "refused", .int i]))) := .lst fun d h => by
  rw [(List.mem_replicate.mp h).2]
  exact nb_ref i

theorem T_exc (T : Tx K mg base) {i : Nat} {x : Str} (hx : kindsL[i]? = some x) (hj : i ∈ kxI) : ExcK K mg x := by
  simp only [kxI, List.mem_cons, List.not_mem_nil, or_false] at hj
  rcases hj with rfl
  · obtain rfl := Option.some.inj hx; exact T.x_BadOffers
theorem em_isK {G : Sl} {O : Om} {a : Addr} {x y : Str} {i j : Nat} {P : D → Om → Prop} (hk : kindsI kxI K = true) (hx : kindsL[j]? = some x) (hj : j ∈ kxI) (hg : G[i]? = some (some (.ref a))) (hO : O a = some (.raw (ExT (.ref (He.ga K x)) none a))) (c : ExcC K (He.ga K x)) (hy : y ∈ kindsL) (k : P (.bl (decide (x = y))) O) :
    EvM K (tCB (rIsX K) (tCons (tVar i) (tCons (tC (.ref (He.ga K y))) tNil))) G O P := em_isX hg hO c (fun u r => r) (kinds_ok hk hj hx hy) k
theorem em_three {G : Sl} {O : Om} {a : Addr} {x y1 y2 y3 : Str} {j : Nat} {P : D → Om → Prop} (hk : kindsI kxI K = true) (hx : kindsL[j]? = some x) (hj : j ∈ kxI) (hg : G[0]? = some (some (.ref a))) (hO : O a = some (.raw (ExT (.ref (He.ga K x)) none a))) (c : ExcC K (He.ga K x)) (h1 : y1 ∈ kindsL) (h2 : y2 ∈ kindsL) (h3 : y3 ∈ kindsL) (k : P (.lst [.bl (decide (x = y1)), .bl (decide (x = y2)), .bl (decide (x = y3))]) O) :
    EvM K (tLst (tCons (tCB (rIsX K) (tCons (tVar 0) (tCons (tC (.ref (He.ga K y1))) tNil))) (tCons (tCB (rIsX K) (tCons (tVar 0) (tCons (tC (.ref (He.ga K y2))) tNil))) (tCons (tCB (rIsX K) (tCons (tVar 0) (tCons (tC (.ref (He.ga K y3))) tNil))) tNil)))) G O P := by
  refine em_freeze (em_lst (ma_cons (em_isK hk hx hj hg hO c h1 (ma_cons (em_isK hk hx hj hg hO c h2 (ma_cons (em_isK hk hx hj hg hO c h3 (ma_nil ⟨by show 3 ≤ 100000; decide, fun p hp => ⟨p, _, rfl, oput_same, ?_⟩⟩))))))))
  rw [odrop_put hp]
  exact k
def kindD (x : Str) : List D := kindsL.map fun y => .bl (decide (x = y))
theorem kind_cnt {i : Nat} {x : Str} (hx : kindsL[i]? = some x) : cntD (.bl true) (kindD x) = 1 ∧ (kindD x)[i]? = some (.bl true) ∧ (((kindD x).take i).all fun z => !eqV (vOf z) (vOf (.bl true))) = true := by
  have h2 : (kindD x)[i]? = some (.bl true) := by
    unfold kindD
    rw [List.getElem?_map, hx]
    show some (D.bl (decide (x = x))) = _
    rw [decide_eq_true rfl]
  have h13 : cntD (.bl true) (kindD x) = 1 ∧ (((kindD x).take i).all fun z => !eqV (vOf z) (vOf (.bl true))) = true := by
    clear h2
    rcases i with _ | _ | _ | _ | _ | _ | _ | _ | _ | _ | _ | _ | _ | _ | _ | i <;> first | (obtain rfl := Option.some.inj hx; exact ⟨by decide +kernel, by decide +kernel⟩) | cases hx
  exact ⟨h13.1, h2, h13.2⟩
inductive P_law_word (K : Fg) : List D → Om → (D → Om → Prop) → Prop
  | mk (a : Addr) (i : Nat) (x : Str) (O : Om) (k : D → Om → Prop) (hx : kindsL[i]? = some x) (hj : i ∈ kxI) (hO : O a = some (.raw (ExT (.ref (He.ga K x)) none a))) (c : ExcC K (He.ga K x)) (hl : PySem.W.kitOne K (.ref (He.ga K x)) (.type "LookupError") = some true) (hk : k (.int i) O) : P_law_word K [.ref a] O k
theorem C__law_word (T : Tx K mg base) : Cal P w K mg base "_law_word" 1 ["caught"] (SpM K (P_law_word K)) := by
  refine cal_nox T.g__law_word T.f__law_word sc__law_word (len_M fun _ _ _ p => by cases p <;> rfl) (fun _ _ _ _ _ _ us hl => match us, hl with | [_], _ => rfl) (fun cdv A outer s H vs Q E hr h => ⟨_, (pss_cons (ps_if (pt_not (pt_val (pe_callB (isxK (K := K)) (by rfl) T.b_isinstance (by decide +kernel) (pa_cons (pv 0) (pa_cons (pe_bltn (v := .ty "LookupError") (by rfl) T.b_LookupError (by decide +kernel) rfl) pa_nil))))) (pss_one (ps_ret (pe_un un_neg pe_int))) pss_nil)
      (pss_cons (ps_set (i := 1) sc__law_word.nd rfl (by first | exact Or.inl rfl | exact Or.inr rfl) (pe_lst (pa_cons (pe_callB (isxK (K := K)) (by rfl) T.b_isinstance (by decide +kernel) (pa_cons (pv 0) (pa_cons (pe_glob (v := .ref (He.ga K "BadDeck")) (by rfl) T.g_BadDeck rfl) pa_nil))) (pa_cons (pe_callB (isxK (K := K)) (by rfl) T.b_isinstance (by decide +kernel) (pa_cons (pv 0) (pa_cons (pe_glob (v := .ref (He.ga K "Unlike")) (by rfl) T.g_Unlike rfl) pa_nil))) (pa_cons (pe_callB (isxK (K := K)) (by rfl) T.b_isinstance (by decide +kernel) (pa_cons (pv 0) (pa_cons (pe_glob (v := .ref (He.ga K "BadMachine")) (by rfl) T.g_BadMachine rfl) pa_nil))) pa_nil)))))
      (pss_cons (ps_set (i := 1) sc__law_word.nd rfl (by first | exact Or.inl rfl | exact Or.inr rfl) (pe_op op_cat (pv 1) (pe_lst (pa_cons (pe_callB (isxK (K := K)) (by rfl) T.b_isinstance (by decide +kernel) (pa_cons (pv 0) (pa_cons (pe_glob (v := .ref (He.ga K "BadPlan")) (by rfl) T.g_BadPlan rfl) pa_nil))) (pa_cons (pe_callB (isxK (K := K)) (by rfl) T.b_isinstance (by decide +kernel) (pa_cons (pv 0) (pa_cons (pe_glob (v := .ref (He.ga K "BadRow")) (by rfl) T.g_BadRow rfl) pa_nil))) (pa_cons (pe_callB (isxK (K := K)) (by rfl) T.b_isinstance (by decide +kernel) (pa_cons (pv 0) (pa_cons (pe_glob (v := .ref (He.ga K "TooMany")) (by rfl) T.g_TooMany rfl) pa_nil))) pa_nil))))))
      (pss_cons (ps_set (i := 1) sc__law_word.nd rfl (by first | exact Or.inl rfl | exact Or.inr rfl) (pe_op op_cat (pv 1) (pe_lst (pa_cons (pe_callB (isxK (K := K)) (by rfl) T.b_isinstance (by decide +kernel) (pa_cons (pv 0) (pa_cons (pe_glob (v := .ref (He.ga K "BadNumber")) (by rfl) T.g_BadNumber rfl) pa_nil))) (pa_cons (pe_callB (isxK (K := K)) (by rfl) T.b_isinstance (by decide +kernel) (pa_cons (pv 0) (pa_cons (pe_glob (v := .ref (He.ga K "BadOffers")) (by rfl) T.g_BadOffers rfl) pa_nil))) (pa_cons (pe_callB (isxK (K := K)) (by rfl) T.b_isinstance (by decide +kernel) (pa_cons (pv 0) (pa_cons (pe_glob (v := .ref (He.ga K "BadKeys")) (by rfl) T.g_BadKeys rfl) pa_nil))) pa_nil))))))
      (pss_cons (ps_set (i := 1) sc__law_word.nd rfl (by first | exact Or.inl rfl | exact Or.inr rfl) (pe_op op_cat (pv 1) (pe_lst (pa_cons (pe_callB (isxK (K := K)) (by rfl) T.b_isinstance (by decide +kernel) (pa_cons (pv 0) (pa_cons (pe_glob (v := .ref (He.ga K "BadCards")) (by rfl) T.g_BadCards rfl) pa_nil))) (pa_cons (pe_callB (isxK (K := K)) (by rfl) T.b_isinstance (by decide +kernel) (pa_cons (pv 0) (pa_cons (pe_glob (v := .ref (He.ga K "BadColumns")) (by rfl) T.g_BadColumns rfl) pa_nil))) (pa_cons (pe_callB (isxK (K := K)) (by rfl) T.b_isinstance (by decide +kernel) (pa_cons (pv 0) (pa_cons (pe_glob (v := .ref (He.ga K "Jammed")) (by rfl) T.g_Jammed rfl) pa_nil))) pa_nil))))))
      (pss_cons (ps_set (i := 1) sc__law_word.nd rfl (by first | exact Or.inl rfl | exact Or.inr rfl) (pe_op op_cat (pv 1) (pe_lst (pa_cons (pe_callB (isxK (K := K)) (by rfl) T.b_isinstance (by decide +kernel) (pa_cons (pv 0) (pa_cons (pe_glob (v := .ref (He.ga K "NotJammed")) (by rfl) T.g_NotJammed rfl) pa_nil))) (pa_cons (pe_callB (isxK (K := K)) (by rfl) T.b_isinstance (by decide +kernel) (pa_cons (pv 0) (pa_cons (pe_glob (v := .ref (He.ga K "Nothing")) (by rfl) T.g_Nothing rfl) pa_nil))) (pa_cons (pe_callB (isxK (K := K)) (by rfl) T.b_isinstance (by decide +kernel) (pa_cons (pv 0) (pa_cons (pe_glob (v := .ref (He.ga K "BadText")) (by rfl) T.g_BadText rfl) pa_nil))) pa_nil))))))
      (pss_one (ps_ret (pe_ifExp (pt_cmpR op_eq (bmK (K := K) PySem.F.plainAttrs_list PySem.F.slot_list_count PySem.F.type_list_count (mtCntK (K := K)) (pv 1) (pa_cons pe_bl pa_nil)) pe_int (nomark _)) (bmK (K := K) PySem.F.plainAttrs_list PySem.F.slot_list_index PySem.F.type_list_index (mtIndexK (K := K)) (pv 1) (pa_cons pe_bl pa_nil)) (pe_un un_neg pe_int)))))))))), body_m h fun ds O k p => ?_⟩)
  try dsimp only [cx_K]
  cases p with
  | mk a i x O k hx hj hO c hl hk =>
    have hB := T.kinds
    refine sv_seq (sv_ifM (mt_not (mt_B (em_isX rfl hO c (fun u r => r) hl ⟨true, rfl, (fun h => by cases h), fun _ => sv_next ?_⟩))))
    refine sv_seq (sv_asgM (em_three hB hx hj rfl hO c (by decide) (by decide) (by decide) ?_))
    refine sv_seq (sv_asgM (em_op (em_val (ev_var rfl) (em_three hB hx hj rfl hO c (by decide) (by decide) (by decide) ⟨_, RD.lst (rd_cat (by show 3 + 3 ≤ 100000; decide)), ?_⟩))))
    refine sv_seq (sv_asgM (em_op (em_val (ev_var rfl) (em_three hB hx hj rfl hO c (by decide) (by decide) (by decide) ⟨_, RD.lst (rd_cat (by show 6 + 3 ≤ 100000; decide)), ?_⟩))))
    refine sv_seq (sv_asgM (em_op (em_val (ev_var rfl) (em_three hB hx hj rfl hO c (by decide) (by decide) (by decide) ⟨_, RD.lst (rd_cat (by show 9 + 3 ≤ 100000; decide)), ?_⟩))))
    refine sv_seq (sv_asgM (em_op (em_val (ev_var rfl) (em_three hB hx hj rfl hO c (by decide) (by decide) (by decide) ⟨_, RD.lst (rd_cat (by show 12 + 3 ≤ 100000; decide)), ?_⟩))))
    obtain ⟨k1, k2, k3⟩ := kind_cnt hx
    refine sv_ret (d := .int i) (ev_if (b := true) (et_is (et_test (ev_op (ev_bm (ds := kindD x) (ev_var rfl) (ea_cons ev_bl ea_nil) (rm_cnt rfl rfl)) ev_int rd_eqI)) (by rw [k1]; rfl)) (fun _ => ev_bm (ds := kindD x) (ev_var rfl) (ea_cons ev_bl ea_nil) (rm_indexF rfl rfl k2 rfl k3)) (fun h => by cases h)) hk
def wordsL : List Str := ["deck", "unlike", "machine", "plan", "row", "many", "number", "offers", "keys", "cards", "columns", "jammed", "not jammed", "nothing", "text"]
inductive P_law_refused : List D → Res → Prop
  | mk (i : Nat) (x : Str) (hx : wordsL[i]? = some x) : P_law_refused [.str x] (.val (.tup [.str "refused", .int i]))
theorem word_at {i : Nat} {x : Str} (hx : wordsL[i]? = some x) : (wordsL.map D.str)[i]? = some (.str x) ∧ eqV (vOf (.str x)) (vOf (.str x)) = true ∧ (((wordsL.map D.str).take i).all fun z => !eqV (vOf z) (vOf (.str x))) = true := by
  rcases i with _ | _ | _ | _ | _ | _ | _ | _ | _ | _ | _ | _ | _ | _ | _ | i <;> first | (obtain rfl := Option.some.inj hx; exact ⟨rfl, by decide +kernel, by decide +kernel⟩) | cases hx
theorem C__law_refused (T : Tx K mg base) : Cal P w K mg base "_law_refused" 1 ["word"] (SpR K P_law_refused) := by
  refine cal_nox T.g__law_refused T.f__law_refused sc__law_refused (len_R fun _ _ p => by cases p <;> rfl) (fun _ _ _ _ _ _ us hl => match us, hl with | [_], _ => rfl) (fun cdv A outer s H vs Q E hr h => ⟨_, (pss_cons (ps_set (i := 1) sc__law_refused.nd rfl (by first | exact Or.inl rfl | exact Or.inr rfl) (pe_lst (pa_cons pe_str (pa_cons pe_str (pa_cons pe_str (pa_cons pe_str (pa_cons pe_str (pa_cons pe_str (pa_cons pe_str (pa_cons pe_str (pa_cons pe_str (pa_cons pe_str (pa_cons pe_str pa_nil)))))))))))))
      (pss_cons (ps_set (i := 1) sc__law_refused.nd rfl (by first | exact Or.inl rfl | exact Or.inr rfl) (pe_op op_cat (pv 1) (pe_lst (pa_cons pe_str (pa_cons pe_str (pa_cons pe_str (pa_cons pe_str pa_nil)))))))
      (pss_one (ps_ret (pe_tup (pa_cons pe_str (pa_cons (bmK (K := K) PySem.F.plainAttrs_list PySem.F.slot_list_index PySem.F.type_list_index (mtIndexK (K := K)) (pv 1) (pa_cons (pv 0) pa_nil)) pa_nil))))))), body_pure h fun ds r O p => ?_⟩)
  try dsimp only [cx_K]
  cases p with
  | mk i x hx =>
    obtain ⟨k1, k2, k3⟩ := word_at hx
    refine sv_seq (sv_asg (ev_lstV (ea_cons ev_str (ea_cons ev_str (ea_cons ev_str (ea_cons ev_str (ea_cons ev_str (ea_cons ev_str (ea_cons ev_str (ea_cons ev_str (ea_cons ev_str (ea_cons ev_str (ea_cons ev_str ea_nil)))))))))))) ?_)
    refine sv_seq (sv_asg (ev_op (ev_var rfl) (ev_lstV (ea_cons ev_str (ea_cons ev_str (ea_cons ev_str (ea_cons ev_str ea_nil))))) (RD.lst (rd_cat (by show 11 + 4 ≤ 100000; decide)))) ?_)
    exact sv_ret (ev_tup (ea_cons ev_str (ea_cons (ev_bm (ds := wordsL.map D.str) (ev_var rfl) (ea_cons (ev_var rfl) ea_nil) (rm_indexF rfl rfl k1 k2 k3)) ea_nil)) (by show 2 ≤ 100000; decide)) ⟨rfl, OLe.refl _⟩

/-! rows of machines for a price: rooms and turns; the cheapest one, found in two ways -/
abbrev Of := Mc × Int
abbrev offD (o : Of) : D := .tup [encM o.1, .int o.2]
def nxtK (k : KB) (m : Mc) : KB := (min 40 (k.1 * m.2), xor k.2 m.1)
def endK (r : List Of) : KB := r.foldl (fun k o => nxtK k o.1) (1, false)
def costR (r : List Of) : Int := r.foldl (fun a o => a + o.2) 0
structure OffsOk (offs : List Of) : Prop where
  l1 : 1 ≤ offs.length
  l4 : offs.length ≤ 4
  ok : ∀ o ∈ offs, MOk o.1 ∧ 1 ≤ o.2 ∧ o.2 ≤ 20
def RowOf (offs r : List Of) : Prop := ∀ o ∈ r, o ∈ offs
def KeyOk (k : KB) : Prop := 1 ≤ k.1 ∧ k.1 ≤ 40
theorem endK_snoc (r : List Of) (o : Of) : endK (r ++ [o]) = nxtK (endK r) o.1 := by
  unfold endK
  rw [List.foldl_append]
  rfl
theorem costR_snoc (r : List Of) (o : Of) : costR (r ++ [o]) = costR r + o.2 := by
  unfold costR
  rw [List.foldl_append]
  rfl
theorem RowOf.snoc {offs r : List Of} {o : Of} (h : RowOf offs r) (ho : o ∈ offs) : RowOf offs (r ++ [o]) := fun x hx => by
  rcases List.mem_append.mp hx with hx | hx
  · exact h x hx
  · rw [List.mem_singleton.mp hx]
    exact ho
theorem RowOf.init {offs r : List Of} {o : Of} (h : RowOf offs (r ++ [o])) : RowOf offs r ∧ o ∈ offs := ⟨fun x hx => h x (List.mem_append_left _ hx), h o (List.mem_append_right _ (List.mem_singleton.mpr rfl))⟩
theorem keyOk_start : KeyOk (1, false) := ⟨by decide, by decide⟩
theorem keyOk_nx {k : KB} {m : Mc} (h : KeyOk k) (hm : MOk m) : KeyOk (nxtK k m) := by
  obtain ⟨h1, h2⟩ := h
  obtain ⟨m1, m2⟩ := hm
  have : 1 ≤ k.1 * m.2 := by
    have := Int.mul_le_mul h1 m1 (by decide) (by omega)
    omega
  exact ⟨by show 1 ≤ min 40 (k.1 * m.2); omega, by show min 40 (k.1 * m.2) ≤ 40; omega⟩
/-- rows, from the last machine on -/
theorem row_ind {motive : List Of → Prop} (nil : motive []) (snoc : ∀ r o, motive r → motive (r ++ [o])) (r : List Of) : motive r := by
  have h : ∀ n (r : List Of), r.length = n → motive r := fun n => by
    induction n with
    | zero =>
      intro r hr
      rw [List.length_eq_zero_iff.mp hr]
      exact nil
    | succ n ih =>
      intro r hr
      rcases List.eq_nil_or_concat r with e | ⟨a, b, e⟩
      · rw [e]
        exact nil
      · rw [List.concat_eq_append] at e
        subst e
        refine snoc a b (ih a ?_)
        rw [List.length_append, List.length_singleton] at hr
        omega
  exact h _ r rfl
theorem row_room {offs : List Of} (ok : OffsOk offs) (r : List Of) : RowOf offs r → (endK r).1 ≤ roomOf (r.map (·.1)) ∧ (endK r).2 = isOdd (r.map (·.1)) ∧ KeyOk (endK r) ∧ (r.length : Int) ≤ costR r ∧ costR r ≤ 20 * (r.length : Int) := by
  refine row_ind (motive := fun r => RowOf offs r → (endK r).1 ≤ roomOf (r.map (·.1)) ∧ (endK r).2 = isOdd (r.map (·.1)) ∧ KeyOk (endK r) ∧ (r.length : Int) ≤ costR r ∧ costR r ≤ 20 * (r.length : Int)) (fun _ => ⟨by decide, by decide, keyOk_start, by decide, by decide⟩) (fun r o ih h => ?_) r
  obtain ⟨h1, h2⟩ := h.init
  obtain ⟨a, b, c, d, e⟩ := ih h1
  obtain ⟨m1, p1, p2⟩ := ok.ok o h2
  rw [endK_snoc, costR_snoc, List.map_append, List.map_singleton, roomOf_append, List.length_append, List.length_singleton]
  refine ⟨?_, ?_, keyOk_nx c m1, by push_cast; omega, by push_cast; omega⟩
  · have e1 : roomOf [o.1] = o.1.2 := by rw [roomOf_cons]; show o.1.2 * 1 = _; omega
    rw [e1]
    have := Int.mul_le_mul_of_nonneg_right a (show (0 : Int) ≤ o.1.2 by have := m1.1; omega)
    show min 40 ((endK r).1 * o.1.2) ≤ _
    omega
  · show xor (endK r).2 o.1.1 = _
    rw [b]
    unfold isOdd
    rw [List.filter_append, List.length_append]
    cases ho : o.1.1 with
    | true =>
      have : (List.filter (fun x : Mc => x.1) [o.1]).length = 1 := by simp [ho]
      rw [this]
      rw [Bool.xor_true, Bool.eq_iff_iff]
      simp only [Bool.not_eq_true', decide_eq_false_iff_not, decide_eq_true_eq]
      omega
    | false =>
      have : (List.filter (fun x : Mc => x.1) [o.1]).length = 0 := by simp [ho]
      rw [this, Bool.xor_false, Nat.add_zero]
/-! ### a finite number of keys -/
def allKB : List KB := (List.range 40).flatMap fun (i : Nat) => [(((i : Nat) : Int) + 1, false), (((i : Nat) : Int) + 1, true)]
theorem allKB_mem {k : KB} (h : KeyOk k) : k ∈ allKB := by
  obtain ⟨a, b⟩ := k
  obtain ⟨h1, h2⟩ := h
  refine List.mem_flatMap.mpr ⟨a.toNat - 1, List.mem_range.mpr (by dsimp only at h1 h2; omega), ?_⟩
  have e : (((a.toNat - 1 : Nat) : Int) + 1) = a := by dsimp only at h1 h2; omega
  rw [e]
  cases b <;> simp
theorem keys80 {l : List KB} (nd : l.Nodup) (h : ∀ k ∈ l, KeyOk k) : l.length ≤ 80 := Nat.le_trans (nd.length_le_of_subset (l₂ := allKB) fun k hk => allKB_mem (h k hk)) (by decide)
/-! ### tables -/
section
variable {β : Type}
def getA (l : List (KB × β)) (k : KB) : Option β := (l.find? fun x => decide (x.1 = k)).map (·.2)
def putA (l : List (KB × β)) (k : KB) (v : β) : List (KB × β) := if (getA l k).isSome then l.map (fun x => if x.1 = k then (x.1, v) else x) else l ++ [(k, v)]
def dropA (l : List (KB × β)) (k : KB) : List (KB × β) := l.filter fun x => decide (x.1 ≠ k)
theorem getA_cons (x : KB × β) (l : List (KB × β)) (k : KB) : getA (x :: l) k = if x.1 = k then some x.2 else getA l k := by
  unfold getA
  rw [List.find?_cons]
  by_cases h : x.1 = k
  · rw [decide_eq_true h, if_pos h]
    rfl
  · rw [decide_eq_false h, if_neg h]
theorem getA_none {l : List (KB × β)} {k : KB} : getA l k = none ↔ k ∉ l.map (·.1) := by
  induction l with
  | nil => exact ⟨fun _ => by simp, fun _ => rfl⟩
  | cons x l ih =>
    rw [getA_cons, List.map_cons, List.mem_cons]
    by_cases h : x.1 = k
    · rw [if_pos h]
      exact ⟨fun z => (by cases z), fun z => absurd (Or.inl h.symm) z⟩
    · rw [if_neg h, ih]
      exact ⟨fun z q => q.elim (fun e => h e.symm) z, fun z q => z (.inr q)⟩
theorem getA_mem {l : List (KB × β)} {k : KB} {v : β} (h : getA l k = some v) : (k, v) ∈ l := by
  induction l with
  | nil => cases h
  | cons x l ih =>
    rw [getA_cons] at h
    by_cases e : x.1 = k
    · rw [if_pos e] at h
      cases h
      rw [← e]
      exact List.mem_cons_self
    · rw [if_neg e] at h
      exact List.mem_cons_of_mem _ (ih h)
theorem getA_of_mem {l : List (KB × β)} (nd : (l.map (·.1)).Nodup) {x : KB × β} (h : x ∈ l) : getA l x.1 = some x.2 := by
  induction l with
  | nil => exact nomatch h
  | cons y l ih =>
    rw [List.map_cons, List.nodup_cons] at nd
    rw [getA_cons]
    rcases List.mem_cons.mp h with e | h
    · rw [e, if_pos rfl]
    · rw [if_neg (fun z => nd.1 (by rw [z]; exact List.mem_map_of_mem h)), ih nd.2 h]
theorem getA_append_one (l : List (KB × β)) (k : KB) (v : β) (k' : KB) : getA (l ++ [(k, v)]) k' = (getA l k').or (if k = k' then some v else none) := by
  induction l with
  | nil =>
    rw [List.nil_append, getA_cons]
    rfl
  | cons x l ih =>
    rw [List.cons_append, getA_cons, getA_cons, ih]
    by_cases h : x.1 = k'
    · rw [if_pos h, if_pos h]; rfl
    · rw [if_neg h, if_neg h]
theorem getA_put (l : List (KB × β)) (k : KB) (v : β) (k' : KB) : getA (putA l k v) k' = if k' = k then some v else getA l k' := by
  unfold putA
  cases hs : (getA l k).isSome with
  | true =>
    rw [if_pos rfl]
    have hk : k ∈ l.map (·.1) := Classical.byContradiction fun z => by rw [getA_none.mpr z] at hs; cases hs
    have key : ∀ l : List (KB × β), getA (l.map fun x => if x.1 = k then (x.1, v) else x) k' = if k' = k ∧ k ∈ l.map (·.1) then some v else getA l k' := fun l => by
      induction l with
      | nil => rw [if_neg (by simp)]; rfl
      | cons x l ih =>
        rw [List.map_cons, getA_cons, getA_cons, ih]
        by_cases h1 : x.1 = k
        · rw [if_pos h1]
          dsimp only
          by_cases h2 : x.1 = k'
          · rw [if_pos h2, if_pos ⟨h2.symm.trans h1, by simp [h1]⟩]
          · rw [if_neg h2, if_neg h2, if_neg (fun z => h2 (h1.trans z.1.symm)), if_neg (fun z => h2 (h1.trans z.1.symm))]
        · rw [if_neg h1]
          by_cases h2 : x.1 = k'
          · rw [if_pos h2, if_pos h2, if_neg (fun z => h1 (h2.trans z.1))]
          · rw [if_neg h2, if_neg h2]
            have e : (k ∈ (x :: l).map (·.1)) ↔ k ∈ l.map (·.1) := by
              rw [List.map_cons, List.mem_cons]
              exact ⟨fun z => z.elim (fun z => absurd z.symm h1) id, .inr⟩
            simp only [e]
    rw [key l]
    by_cases h : k' = k
    · rw [if_pos ⟨h, hk⟩, if_pos h]
    · rw [if_neg (fun z => h z.1), if_neg h]
  | false =>
    rw [if_neg (by decide), getA_append_one]
    have hn : getA l k = none := by
      cases e : getA l k with
      | none => rfl
      | some v => rw [e] at hs; cases hs
    by_cases h : k' = k
    · rw [if_pos h, h, hn, if_pos rfl]; rfl
    · rw [if_neg h, if_neg (fun z => h z.symm)]
      cases getA l k' <;> rfl
theorem getA_drop (l : List (KB × β)) (k : KB) (k' : KB) : getA (dropA l k) k' = if k' = k then none else getA l k' := by
  unfold dropA
  induction l with
  | nil =>
    rw [List.filter_nil]
    by_cases h : k' = k
    · rw [if_pos h]; rfl
    · rw [if_neg h]
  | cons x l ih =>
    by_cases h1 : x.1 = k
    · rw [List.filter_cons, if_neg (by simp [h1]), ih, getA_cons]
      by_cases h : k' = k
      · rw [if_pos h, if_pos h]
      · rw [if_neg h, if_neg h, if_neg (fun z => h (z.symm.trans h1))]
    · rw [List.filter_cons, if_pos (by simp [h1]), getA_cons, getA_cons, ih]
      by_cases h : k' = k
      · rw [if_pos h, if_pos h, if_neg (fun z => h1 (z.trans h))]
      · rw [if_neg h, if_neg h]
theorem putA_keys (l : List (KB × β)) (k : KB) (v : β) : (putA l k v).map (·.1) = if (getA l k).isSome then l.map (·.1) else l.map (·.1) ++ [k] := by
  unfold putA
  cases hs : (getA l k).isSome with
  | true =>
    rw [if_pos rfl, if_pos rfl, List.map_map]
    refine List.map_congr_left fun x _ => ?_
    show (if x.1 = k then (x.1, v) else x).1 = x.1
    split <;> rfl
  | false =>
    rw [if_neg (by decide), if_neg (by decide), List.map_append]
    rfl
theorem putA_nodup {l : List (KB × β)} {k : KB} {v : β} (nd : (l.map (·.1)).Nodup) : ((putA l k v).map (·.1)).Nodup := by
  rw [putA_keys]
  split
  · exact nd
  · rename_i h
    have hn : getA l k = none := by
      cases e : getA l k with
      | none => rfl
      | some v => rw [e] at h; exact absurd rfl h
    refine List.nodup_append.mpr ⟨nd, by simp, fun a ha b hb e => ?_⟩
    rw [List.mem_singleton.mp hb] at e
    rw [e] at ha
    exact getA_none.mp hn ha
theorem dropA_nodup {l : List (KB × β)} {k : KB} (nd : (l.map (·.1)).Nodup) : ((dropA l k).map (·.1)).Nodup := List.Nodup.sublist (List.Sublist.map _ (List.filter_sublist ..)) nd
theorem putA_mem {l : List (KB × β)} {k : KB} {v : β} {x : KB × β} (h : x ∈ putA l k v) : x = (k, v) ∨ x ∈ l := by
  unfold putA at h
  split at h
  · obtain ⟨y, hy, e⟩ := List.mem_map.mp h
    by_cases h1 : y.1 = k
    · rw [if_pos h1] at e
      exact .inl (by rw [← e, h1])
    · rw [if_neg h1] at e
      exact .inr (by rw [← e]; exact hy)
  · rcases List.mem_append.mp h with h | h
    · exact .inr h
    · exact .inl (List.mem_singleton.mp h)
theorem dropA_mem {l : List (KB × β)} {k : KB} {x : KB × β} (h : x ∈ dropA l k) : x ∈ l := (List.mem_filter.mp h).1
/-- what the values stand for -/
abbrev mapV (e : β → D) (l : List (KB × β)) : List (KB × D) := l.map fun x => (x.1, e x.2)
theorem getB_map (e : β → D) (l : List (KB × β)) (k : KB) : getB (mapV e l) k = (getA l k).map e := by
  induction l with
  | nil => rfl
  | cons x l ih =>
    rw [getA_cons]
    show getB ((x.1, e x.2) :: mapV e l) k = _
    unfold getB at ih ⊢
    rw [List.find?_cons]
    by_cases h : x.1 = k
    · rw [if_pos h]
      dsimp only
      rw [decide_eq_true h]
      rfl
    · rw [if_neg h]
      dsimp only
      rw [decide_eq_false h]
      exact ih
theorem putB_map (e : β → D) (l : List (KB × β)) (k : KB) (v : β) : putB (mapV e l) k (e v) = mapV e (putA l k v) := by
  unfold putB putA
  rw [getB_map, Option.isSome_map]
  split
  · unfold mapV
    rw [List.map_map, List.map_map]
    refine List.map_congr_left fun x _ => ?_
    show (if x.1 = k then (x.1, e v) else (x.1, e x.2)) = ((if x.1 = k then (x.1, v) else x).1, e (if x.1 = k then (x.1, v) else x).2)
    split <;> rfl
  · unfold mapV
    rw [List.map_append]
    rfl
theorem dropB_map (e : β → D) (l : List (KB × β)) (k : KB) : dropB (mapV e l) k = mapV e (dropA l k) := by
  unfold dropB dropA mapV
  rw [List.filter_map]
  rfl
end
/-! ### the one way: always the cheapest of what is reached, no more touched -/
def needB (cs : List Int) (b : Bool) : Int := (risOf (if b then cs.reverse else cs) : Nat)
def goalB (cs : List Int) (k : KB) : Bool := decide (needB cs k.2 ≤ k.1)
abbrev BV := Int × List Mc
def Cov (bs : List (KB × BV)) (dn : List KB) (k : KB) (c : Int) (os : List Of) : Prop := ∀ o ∈ os, nxtK k o.1 ∈ dn ∨ ∃ v, getA bs (nxtK k o.1) = some v ∧ v.1 ≤ c + o.2
def LoB (offs : List Of) (k : KB) (c : Int) : Prop := ∀ r, RowOf offs r → endK r = k → c ≤ costR r
structure DI (cs : List Int) (offs : List Of) (bs : List (KB × BV)) (dn : List KB) (cur : Option (KB × Int)) (i : Nat) : Prop where
  nb : (bs.map (·.1)).Nodup
  nd : dn.Nodup
  dj : ∀ k ∈ dn, getA bs k = none
  kd : ∀ k ∈ dn, KeyOk k
  kb : ∀ x ∈ bs, KeyOk x.1
  row : ∀ x ∈ bs, ∃ r, RowOf offs r ∧ endK r = x.1 ∧ costR r = x.2.1 ∧ r.map (·.1) = x.2.2 ∧ r.length ≤ dn.length
  cv : ∀ k ∈ dn, (∃ c, LoB offs k c ∧ Cov bs dn k c offs) ∨ ∃ c, cur = some (k, c) ∧ LoB offs k c ∧ Cov bs dn k c (offs.take i)
  st : (1, false) ∈ dn ∨ ∃ v, getA bs (1, false) = some v ∧ v.1 ≤ 0
theorem di_init (cs : List Int) (offs : List Of) : DI cs offs [((1, false), (0, []))] [] none 0 :=
  ⟨by simp, List.nodup_nil, fun k h => (nomatch h), fun k h => (nomatch h), fun x h => by rw [List.mem_singleton.mp h]; exact keyOk_start, fun x h => by
    rw [List.mem_singleton.mp h]
    exact ⟨[], fun o h => (nomatch h), rfl, rfl, rfl, Nat.zero_le _⟩, fun k h => (nomatch h), .inr ⟨(0, []), rfl, by decide⟩⟩
section
variable {cs : List Int} {offs : List Of} {bs : List (KB × BV)} {dn : List KB} {k : KB} {c : Int} {rw_ : List Mc} {i : Nat}
theorem di_lo (h : DI cs offs bs dn none 0) (hm : ∀ x ∈ bs, c ≤ x.2.1) (ok : OffsOk offs) : ∀ r, RowOf offs r → endK r ∉ dn → bs ≠ [] ∧ c ≤ costR r := by
  intro r
  refine row_ind (motive := fun r => RowOf offs r → endK r ∉ dn → bs ≠ [] ∧ c ≤ costR r) (fun _ hd => ?_) (fun r o ih hr hd => ?_) r
  · rcases h.st with z | ⟨v, hv, hz⟩
    · exact absurd z hd
    · have := getA_mem hv
      refine ⟨fun z => by rw [z] at this; exact (nomatch this), ?_⟩
      have h2 : c ≤ v.1 := hm _ this
      show c ≤ 0
      omega
  · obtain ⟨h1, h2⟩ := hr.init
    rw [endK_snoc] at hd
    rw [costR_snoc]
    have hp := (ok.ok o h2).2.1
    by_cases hk : endK r ∈ dn
    · rcases h.cv _ hk with ⟨d, lo, cv⟩ | ⟨_, z, _⟩
      · rcases cv o h2 with z | ⟨v, hv, hz⟩
        · exact absurd z hd
        · have hmm := getA_mem hv
          have h3 : c ≤ v.1 := hm _ hmm
          have := lo r h1 rfl
          exact ⟨fun z => by rw [z] at hmm; exact (nomatch hmm), by omega⟩
      · cases z
    · obtain ⟨a, b⟩ := ih h1 hk
      exact ⟨a, by omega⟩
theorem di_empty (h : DI cs offs [] dn none 0) (ok : OffsOk offs) (r : List Of) (hr : RowOf offs r) : endK r ∈ dn := Classical.byContradiction fun z => (di_lo (c := 0) h (fun x hx => (nomatch hx)) ok r hr z).1 rfl
theorem di_pop (h : DI cs offs bs dn none 0) (hk : getA bs k = some (c, rw_)) (hm : ∀ x ∈ bs, c ≤ x.2.1) (ok : OffsOk offs) : DI cs offs (dropA bs k) (dn ++ [k]) (some (k, c)) 0 ∧ k ∉ dn ∧ (∃ r, RowOf offs r ∧ endK r = k ∧ costR r = c ∧ r.map (·.1) = rw_ ∧ r.length ≤ dn.length) := by
  have hmem := getA_mem hk
  have hkd : k ∉ dn := fun z => by rw [h.dj k z] at hk; cases hk
  have lo : LoB offs k c := fun r hr e => (di_lo h hm ok r hr (by rw [e]; exact hkd)).2
  have cv' : ∀ {k' : KB} {c' : Int} {os : List Of}, Cov bs dn k' c' os → Cov (dropA bs k) (dn ++ [k]) k' c' os := fun {k' c' os} q o ho => by
    by_cases e : nxtK k' o.1 = k
    · exact .inl (List.mem_append_right _ (by rw [e]; exact List.mem_singleton.mpr rfl))
    · rcases q o ho with z | ⟨v, hv, hz⟩
      · exact .inl (List.mem_append_left _ z)
      · exact .inr ⟨v, by rw [getA_drop, if_neg e]; exact hv, hz⟩
  refine ⟨⟨dropA_nodup h.nb, ?_, fun k' hk' => ?_, fun k' hk' => ?_, fun x hx => h.kb x (dropA_mem hx), fun x hx => ?_, fun k' hk' => ?_, ?_⟩, hkd, h.row _ hmem⟩
  · refine List.nodup_append.mpr ⟨h.nd, by simp, fun a ha b hb e => hkd ?_⟩
    rw [List.mem_singleton.mp hb] at e
    rw [← e]
    exact ha
  · rw [getA_drop]
    rcases List.mem_append.mp hk' with z | z
    · rw [if_neg (fun (e : k' = k) => hkd (e ▸ z))]
      exact h.dj _ z
    · rw [if_pos (List.mem_singleton.mp z)]
  · rcases List.mem_append.mp hk' with z | z
    · exact h.kd _ z
    · rw [List.mem_singleton.mp z]
      exact h.kb _ hmem
  · obtain ⟨r, a, b, d, e, f⟩ := h.row x (dropA_mem hx)
    exact ⟨r, a, b, d, e, by rw [List.length_append]; omega⟩
  · rcases List.mem_append.mp hk' with z | z
    · rcases h.cv _ z with ⟨d, a, b⟩ | ⟨_, z, _⟩
      · exact .inl ⟨d, a, cv' b⟩
      · cases z
    · rw [List.mem_singleton.mp z]
      exact .inr ⟨c, rfl, lo, fun o ho => by rw [List.take_zero] at ho; exact (nomatch ho)⟩
  · by_cases e : (1, false) = k
    · exact .inl (List.mem_append_right _ (by rw [e]; exact List.mem_singleton.mpr rfl))
    · rcases h.st with z | ⟨v, hv, hz⟩
      · exact .inl (List.mem_append_left _ z)
      · exact .inr ⟨v, by rw [getA_drop, if_neg e]; exact hv, hz⟩
theorem di_end (h : DI cs offs bs dn (some (k, c)) offs.length) : DI cs offs bs dn none 0 :=
  ⟨h.nb, h.nd, h.dj, h.kd, h.kb, h.row, fun k' hk' => by
    rcases h.cv _ hk' with z | ⟨d, e, a, b⟩
    · exact .inl z
    · rw [List.take_length] at b
      exact .inl ⟨d, a, b⟩, h.st⟩
theorem di_skip {o : Of} (h : DI cs offs bs dn (some (k, c)) i) (ho : offs[i]? = some o) (hs : nxtK k o.1 ∈ dn ∨ ∃ v, getA bs (nxtK k o.1) = some v ∧ v.1 ≤ c + o.2) : DI cs offs bs dn (some (k, c)) (i + 1) :=
  ⟨h.nb, h.nd, h.dj, h.kd, h.kb, h.row, fun k' hk' => by
    rcases h.cv _ hk' with z | ⟨d, e, a, b⟩
    · exact .inl z
    · cases e
      refine .inr ⟨c, rfl, a, fun o' ho' => ?_⟩
      rw [List.take_add_one, ho] at ho'
      rcases List.mem_append.mp ho' with z | z
      · exact b o' z
      · have : o' = o := List.mem_singleton.mp z
        rw [this]
        exact hs, h.st⟩
theorem di_put {o : Of} (h : DI cs offs bs dn (some (k, c)) i) (ho : offs[i]? = some o) (hk : k ∈ dn) (hr : ∃ r, RowOf offs r ∧ endK r = k ∧ costR r = c ∧ r.map (·.1) = rw_ ∧ r.length < dn.length) (ok : OffsOk offs) (hn : nxtK k o.1 ∉ dn)
    (hb : getA bs (nxtK k o.1) = none ∨ ∃ v, getA bs (nxtK k o.1) = some v ∧ c + o.2 < v.1) : DI cs offs (putA bs (nxtK k o.1) (c + o.2, rw_ ++ [o.1])) dn (some (k, c)) (i + 1) := by
  have hom : o ∈ offs := List.mem_of_getElem? ho
  have le : ∀ {k' : KB} {v : BV}, getA bs k' = some v → ∃ v', getA (putA bs (nxtK k o.1) (c + o.2, rw_ ++ [o.1])) k' = some v' ∧ v'.1 ≤ v.1 := fun {k' v} hv => by
    rw [getA_put]
    by_cases e : k' = nxtK k o.1
    · rw [if_pos e]
      refine ⟨_, rfl, ?_⟩
      rw [e] at hv
      rcases hb with z | ⟨v2, z, hz⟩
      · rw [hv] at z; cases z
      · rw [hv] at z
        cases z
        exact Int.le_of_lt hz
    · rw [if_neg e]
      exact ⟨v, hv, Int.le_refl _⟩
  have cv' : ∀ {k' : KB} {c' : Int} {os : List Of}, Cov bs dn k' c' os → Cov (putA bs (nxtK k o.1) (c + o.2, rw_ ++ [o.1])) dn k' c' os := fun {k' c' os} q o' ho' => by
    rcases q o' ho' with z | ⟨v, hv, hz⟩
    · exact .inl z
    · obtain ⟨v', a, b⟩ := le hv
      exact .inr ⟨v', a, Int.le_trans b hz⟩
  refine ⟨putA_nodup h.nb, h.nd, fun k' hk' => ?_, h.kd, fun x hx => ?_, fun x hx => ?_, fun k' hk' => ?_, ?_⟩
  · rw [getA_put, if_neg (fun (e : k' = nxtK k o.1) => hn (e ▸ hk'))]
    exact h.dj _ hk'
  · rcases putA_mem hx with e | hx
    · rw [e]
      exact keyOk_nx (h.kd _ hk) (ok.ok o hom).1
    · exact h.kb _ hx
  · rcases putA_mem hx with e | hx
    · obtain ⟨r, a, b, d, f, g⟩ := hr
      rw [e]
      refine ⟨r ++ [o], a.snoc hom, by rw [endK_snoc, b], by rw [costR_snoc, d], by rw [List.map_append, f]; rfl, ?_⟩
      rw [List.length_append, List.length_singleton]
      omega
    · exact h.row x hx
  · rcases h.cv _ hk' with ⟨d, a, b⟩ | ⟨d, e, a, b⟩
    · exact .inl ⟨d, a, cv' b⟩
    · cases e
      refine .inr ⟨c, rfl, a, fun o' ho' => ?_⟩
      rw [List.take_add_one, ho] at ho'
      rcases List.mem_append.mp ho' with z | z
      · exact cv' b o' z
      · have : o' = o := List.mem_singleton.mp z
        rw [this]
        exact .inr ⟨_, by rw [getA_put, if_pos rfl], Int.le_refl _⟩
  · rcases h.st with z | ⟨v, hv, hz⟩
    · exact .inl z
    · obtain ⟨v', a, b⟩ := le hv
      exact .inr ⟨v', a, Int.le_trans b hz⟩
end
/-! ### the other way: all made better till nothing changes -/
def sumV (bs : List (KB × Int)) : Nat := (bs.map fun x => x.2.toNat).sum
def mu (bs : List (KB × Int)) : Nat := (81 - bs.length) * 2000 + sumV bs
structure BI (offs : List Of) (bs : List (KB × Int)) : Prop where
  nb : (bs.map (·.1)).Nodup
  kb : ∀ x ∈ bs, KeyOk x.1
  row : ∀ x ∈ bs, ∃ r, RowOf offs r ∧ endK r = x.1 ∧ costR r = x.2
  bd : ∀ x ∈ bs, 0 ≤ x.2 ∧ x.2 + 20 ≤ 20 * (bs.length : Int)
  st : ∃ v, getA bs (1, false) = some v ∧ v ≤ 0
def Sat (bs : List (KB × Int)) (k : KB) (o : Of) : Prop := ∃ v w, getA bs k = some v ∧ getA bs (nxtK k o.1) = some w ∧ w ≤ v + o.2
theorem bi_init (offs : List Of) : BI offs [((1, false), 0)] :=
  ⟨by simp, fun x h => by rw [List.mem_singleton.mp h]; exact keyOk_start, fun x h => by rw [List.mem_singleton.mp h]; exact ⟨[], fun o h => (nomatch h), rfl, rfl⟩, fun x h => by rw [List.mem_singleton.mp h]; exact ⟨by decide, by decide⟩, ⟨0, rfl, by decide⟩⟩
theorem BI.len {offs : List Of} {bs : List (KB × Int)} (h : BI offs bs) : bs.length ≤ 80 := by
  have := keys80 h.nb fun k hk => by
    obtain ⟨x, hx, rfl⟩ := List.mem_map.mp hk
    exact h.kb x hx
  rwa [List.length_map] at this
theorem sumV_put : ∀ {bs : List (KB × Int)} {k : KB} {v w : Int}, (bs.map (·.1)).Nodup → getA bs k = some w → 0 ≤ v → v < w → sumV (bs.map fun x => if x.1 = k then (x.1, v) else x) < sumV bs
  | [], _, _, _, _, h, _, _ => by cases h
  | x :: bs, k, v, w, nd, h, h0, hl => by
    rw [List.map_cons, List.nodup_cons] at nd
    rw [getA_cons] at h
    unfold sumV
    rw [List.map_cons, List.map_cons, List.map_cons, List.sum_cons, List.sum_cons]
    by_cases e : x.1 = k
    · rw [if_pos e] at h ⊢
      cases h
      have : (bs.map fun x => if x.1 = k then (x.1, v) else x) = bs := by
        refine (List.map_congr_left fun y hy => ?_).trans (List.map_id _)
        show (if y.1 = k then (y.1, v) else y) = y
        rw [if_neg (fun z => nd.1 (by rw [e, ← z]; exact List.mem_map_of_mem hy))]
      rw [this]
      dsimp only
      omega
    · rw [if_neg e] at h ⊢
      have := sumV_put nd.2 h h0 hl
      unfold sumV at this
      omega
theorem bi_put {offs : List Of} {bs : List (KB × Int)} {k : KB} {v : Int} {o : Of} (h : BI offs bs) (ok : OffsOk offs) (hk : getA bs k = some v) (ho : o ∈ offs) (hb : getA bs (nxtK k o.1) = none ∨ ∃ w, getA bs (nxtK k o.1) = some w ∧ v + o.2 < w) :
    BI offs (putA bs (nxtK k o.1) (v + o.2)) ∧ mu (putA bs (nxtK k o.1) (v + o.2)) < mu bs := by
  obtain ⟨m1, p1, p2⟩ := ok.ok o ho
  have hkm := getA_mem hk
  have hbd : 0 ≤ v ∧ v + 20 ≤ 20 * (bs.length : Int) := h.bd _ hkm
  have hlen := h.len
  have hkn : KeyOk (nxtK k o.1) := keyOk_nx (h.kb _ hkm) m1
  have hrow : ∃ r, RowOf offs r ∧ endK r = nxtK k o.1 ∧ costR r = v + o.2 := by
    obtain ⟨r, a, b, c⟩ := h.row _ hkm
    exact ⟨r ++ [o], a.snoc ho, by rw [endK_snoc, b], by rw [costR_snoc, c]⟩
  have hst : ∃ w, getA (putA bs (nxtK k o.1) (v + o.2)) (1, false) = some w ∧ w ≤ 0 := by
    obtain ⟨w, hw, hz⟩ := h.st
    rw [getA_put]
    by_cases e : (1, false) = nxtK k o.1
    · rw [if_pos e]
      refine ⟨_, rfl, ?_⟩
      rcases hb with z | ⟨w2, z, hz2⟩
      · rw [← e, hw] at z; cases z
      · rw [← e, hw] at z
        cases z
        omega
    · rw [if_neg e]
      exact ⟨w, hw, hz⟩
  have hlp : bs.length ≤ (putA bs (nxtK k o.1) (v + o.2)).length := by
    have := congrArg List.length (putA_keys bs (nxtK k o.1) (v + o.2))
    rw [List.length_map] at this
    rw [this]
    split
    · rw [List.length_map]; omega
    · rw [List.length_append, List.length_map]; omega
  have hBI : ∀ hnew : (v + o.2) + 20 ≤ 20 * ((putA bs (nxtK k o.1) (v + o.2)).length : Int), BI offs (putA bs (nxtK k o.1) (v + o.2)) := fun hnew =>
    ⟨putA_nodup h.nb, fun x hx => (putA_mem hx).elim (fun e => by rw [e]; exact hkn) (h.kb x), fun x hx => (putA_mem hx).elim (fun e => by rw [e]; exact hrow) (h.row x), fun x hx => (putA_mem hx).elim (fun e => by rw [e]; exact ⟨by dsimp only; omega, hnew⟩) (fun hx => by have := h.bd x hx; omega), hst⟩
  cases hs : getA bs (nxtK k o.1) with
  | none =>
    have e : putA bs (nxtK k o.1) (v + o.2) = bs ++ [(nxtK k o.1, v + o.2)] := by
      unfold putA
      rw [hs]
      rfl
    have hB := hBI (by rw [e, List.length_append, List.length_singleton]; push_cast; omega)
    refine ⟨hB, ?_⟩
    have hl2 := hB.len
    rw [e] at hl2 ⊢
    rw [List.length_append, List.length_singleton] at hl2
    unfold mu sumV
    rw [List.length_append, List.length_singleton, List.map_append, List.sum_append, List.map_singleton, List.sum_singleton]
    dsimp only
    have : (v + o.2).toNat < 2000 := by omega
    omega
  | some w =>
    have hlt : v + o.2 < w := by
      rcases hb with z | ⟨w2, z, hz⟩
      · rw [hs] at z; cases z
      · rw [hs] at z
        cases z
        exact hz
    have e : putA bs (nxtK k o.1) (v + o.2) = bs.map fun x => if x.1 = nxtK k o.1 then (x.1, v + o.2) else x := by
      unfold putA
      rw [hs]
      rfl
    have hw := (h.bd _ (getA_mem hs)).2
    have el : (putA bs (nxtK k o.1) (v + o.2)).length = bs.length := by rw [e, List.length_map]
    refine ⟨hBI (by rw [el]; dsimp only at hw; omega), ?_⟩
    have := sumV_put (v := v + o.2) h.nb hs (by omega) hlt
    rw [← e] at this
    unfold mu
    rw [el]
    omega
/-- nothing more to be made better: no row is cheaper -/
theorem bi_end {offs : List Of} {bs : List (KB × Int)} (h : BI offs bs) (hs : ∀ k ∈ bs.map (·.1), ∀ o ∈ offs, Sat bs k o) (r : List Of) : RowOf offs r → ∃ v, getA bs (endK r) = some v ∧ v ≤ costR r := by
  refine row_ind (motive := fun r => RowOf offs r → ∃ v, getA bs (endK r) = some v ∧ v ≤ costR r) (fun _ => h.st) (fun r o ih hr => ?_) r
  obtain ⟨h1, h2⟩ := hr.init
  obtain ⟨v, hv, hz⟩ := ih h1
  obtain ⟨v2, w, a, b, c⟩ := hs (endK r) (List.mem_map_of_mem (f := (·.1)) (getA_mem hv)) o h2
  rw [hv] at a
  cases a
  refine ⟨w, by rw [endK_snoc]; exact b, ?_⟩
  rw [costR_snoc]
  omega

def offerB : D → Bool
  | .tup [m, c] => machB m && isNum c 1 20
  | _ => false
/-- a thing of which may be asked whether it is an offer -/
structure OfA (d : D) : Prop where
  nr : nrA d
  ln : ∀ ds, d = .tup ds → ds.length ≤ 1000
  m : ∀ ds x, d = .tup ds → ds[0]? = some x → nrA x ∧ ∀ es, x = .tup es → es.length ≤ 1000
inductive P_is_offer : List D → Res → Prop
  | mk (o : Of) : P_is_offer [offD o] (.val (.bl ((decide (1 ≤ o.1.2) && decide (o.1.2 ≤ 300)) && (decide (1 ≤ o.2) && decide (o.2 ≤ 20)))))
  | any (d : D) (h : OfA d) : P_is_offer [d] (.val (.bl (offerB d)))
theorem C_is_offer (T : Tx K mg base) : Cal P w K mg base "is_offer" 3 ["thing"] (SpR K P_is_offer) := by
  refine cal_nox T.g_is_offer T.f_is_offer sc_is_offer (len_R fun _ _ p => by cases p <;> rfl) (fun _ _ _ _ _ _ us hl => match us, hl with | [_], _ => rfl) (fun cdv A outer s H vs Q E hr h => ⟨_, (pss_one (ps_ret (pe_and (pe_callB (isiK (K := K)) (by rfl) T.b_isinstance (by decide +kernel) (pa_cons (pv 0) (pa_cons (pe_bltn (v := .ty "tuple") (by rfl) T.b_tuple (by decide +kernel) rfl) pa_nil))) (pe_and (pe_cmpR op_eq (pe_callB (lenK (K := K)) (by rfl) T.b_len (by decide +kernel) (pa_cons (pv 0) pa_nil)) pe_int (nomark _)) (pe_and (pe_cal (C_is_machine T) (hr.mono (by decide)) (pa_cons (pe_ix (ixT (K := K)) (pv 0) pe_int (fun _ _ => rfl)) pa_nil)) (pe_one (pe_cal (C_is_number T) (hr.mono (by decide)) (pa_cons (pe_ix (ixT (K := K)) (pv 0) pe_int (fun _ _ => rfl)) (pa_cons pe_int (pa_cons pe_int pa_nil)))))))))), body_pure h fun ds r O p => ?_⟩)
  try dsimp only [cx_K]
  cases p with
  | mk o =>
    refine sv_ret (ev_is (d := .bl (true && (decide (((2 : Nat) : Int) = 2) && ((decide (1 ≤ o.1.2) && decide (o.1.2 ≤ 300)) && (decide (1 ≤ o.2) && decide (o.2 ≤ 20)))))) ?_ (by simp)) ⟨rfl, OLe.refl _⟩
    refine ev_andV (ev_cb (ea_cons (ev_var rfl) (ea_cons ev_ty ea_nil)) (rc_isT rfl)) fun _ => ev_andV (ev_op (ev_cb (ea_cons (ev_var rfl) ea_nil) rc_lenT) ev_int rd_eqI) fun _ => ?_
    refine ev_andV (ev_callV (ea_cons (ev_op (ev_var rfl) ev_int (rd_ixT (d := encM o.1) rfl)) ea_nil) (P_is_machine.mk o.1)) fun _ => ?_
    exact ev_callV (ea_cons (ev_op (ev_var rfl) ev_int (rd_ixT (d := .int o.2) rfl)) (ea_cons ev_int (ea_cons ev_int ea_nil))) (P_is_number.int _ _ _)
  | any d h =>
    by_cases ht : isT d = true
    · obtain ⟨ds, rfl⟩ : ∃ ds, d = .tup ds := by
        cases d with
        | tup ds => exact ⟨ds, rfl⟩
        | _ => cases ht
      by_cases h2 : ds.length = 2
      · obtain ⟨x, y, rfl⟩ : ∃ x y, ds = [x, y] := by
          match ds, h2 with
          | [x, y], _ => exact ⟨x, y, rfl⟩
        have hy : nrD y = true := h.nr.2 y ⟨[x, y], .inr rfl, by simp⟩
        obtain ⟨hx, hx2⟩ := h.m [x, y] x rfl rfl
        refine sv_ret (ev_is (d := .bl (true && (decide (((2 : Nat) : Int) = 2) && (machB x && isNum y 1 20)))) ?_ (by simp [offerB])) ⟨rfl, OLe.refl _⟩
        refine ev_andV (ev_cb (ea_cons (ev_var rfl) (ea_cons ev_ty ea_nil)) (rc_isT rfl)) fun _ => ev_andV (ev_op (ev_cb (ea_cons (ev_var rfl) ea_nil) rc_lenT) ev_int rd_eqI) fun _ => ?_
        refine ev_andV (ev_callV (ea_cons (ev_op (ev_var rfl) ev_int (rd_ixT (d := x) rfl)) ea_nil) (P_is_machine.any x hx hx2)) fun _ => ?_
        exact ev_callV (ea_cons (ev_op (ev_var rfl) ev_int (rd_ixT (d := y) rfl)) (ea_cons ev_int (ea_cons ev_int ea_nil))) (P_is_number.any _ _ _ hy)
      · have e : offerB (.tup ds) = false := by
          match ds, h2 with
          | [], _ => rfl
          | [x], _ => rfl
          | x :: y :: z :: r, _ => rfl
          | [x, y], h2 => exact absurd rfl h2
        have e2 : decide ((((ds.length : Nat) : Int)) = 2) = false := decide_eq_false (by omega)
        rw [e]
        refine sv_ret (ev_is (d := .bl (true && (decide (((ds.length : Nat) : Int) = 2) && false))) ?_ (by simp)) ⟨rfl, OLe.refl _⟩
        exact ev_andV (ev_cb (ea_cons (ev_var rfl) (ea_cons ev_ty ea_nil)) (rc_isT rfl)) fun _ => ev_andV (ev_op (ev_cb (ea_cons (ev_var rfl) ea_nil) rc_lenT) ev_int rd_eqI) fun z => by rw [e2] at z; cases z
    · have ht : isT d = false := by simpa using ht
      have e : offerB d = false := by
        cases d with
        | tup ds => cases ht
        | _ => rfl
      rw [e]
      refine sv_ret (ev_is (d := .bl (isT d && false)) ?_ (by simp)) ⟨rfl, OLe.refl _⟩
      exact ev_andV (ev_cb (ea_cons (ev_var rfl) (ea_cons ev_ty ea_nil)) (rc_isT h.nr.1)) fun z => by rw [ht] at z; cases z
theorem offD_inj (x y : Of) (h : offD x = offD y) : x = y := by
  injection h with h
  injection h with h1 h2
  injection h2 with h2 _
  injection h2 with h2
  exact Prod.ext (encM_inj _ _ h1) h2
theorem bL_mapF {α : Type} (f : α → Bool) (l : List α) : (l.map fun x => D.bl (f x)) = bL (l.map f) := by
  unfold bL
  rw [List.map_map]
  rfl

abbrev tbC (K : Fg) : Addr := He.tabOf K (He.codeOf K ("cheapest", none))
abbrev tbQC : Str := "cheapest.<locals>.<lambda>"
def vB (v : BV) : D := .tup [.int v.1, .lst (v.2.map encM)]
def dnD (dn : List KB) : List (KB × D) := dn.map fun k => (k, D.bl true)
theorem getB_dn (dn : List KB) (k : KB) : getB (dnD dn) k = if k ∈ dn then some (.bl true) else none := by
  unfold dnD
  induction dn with
  | nil => rfl
  | cons x l ih =>
    unfold getB at ih ⊢
    rw [List.map_cons, List.find?_cons]
    by_cases h : x = k
    · rw [if_pos (by rw [h]; exact List.mem_cons_self)]
      dsimp only
      rw [decide_eq_true h]
      rfl
    · dsimp only
      rw [decide_eq_false h]
      have e : (k ∈ x :: l) ↔ k ∈ l := ⟨fun z => (List.mem_cons.mp z).elim (fun q => absurd q.symm h) id, List.mem_cons_of_mem _⟩
      simp only [e]
      exact ih
theorem putB_dn {dn : List KB} {k : KB} (h : k ∉ dn) : putB (dnD dn) k (.bl true) = dnD (dn ++ [k]) := by
  unfold putB
  rw [getB_dn, if_neg h, if_neg (by decide)]
  unfold dnD
  rw [List.map_append]
  rfl
/-- a thing that offers may be asked of -/
structure OfsA (d : D) : Prop where
  nr : nrD d = true
  ln : ∀ ds, d = .lst ds → ds.length ≤ 1000
  el : ∀ ds, d = .lst ds → ∀ x ∈ ds, OfA x
def offersB : D → Bool
  | .lst ds => decide ((1 : Int) ≤ (ds.length : Nat)) && decide (((ds.length : Nat) : Int) ≤ 4) && ds.all offerB
  | _ => false
inductive P_cheapest (K : Fg) : List D → Om → Cn → Prop
  | ok (cs : List Int) (offs : List Of) (O : Om) (k : Cn) (h : DeckOk cs) (ho : OffsOk offs) (hO : O (tbC K) = some (.tab tbQC))
      (hn : (∀ r, RowOf offs r → goalB cs (endK r) = false) → ∀ O', OLe O O' → k.rt .non O')
      (hk : ∀ r, RowOf offs r → goalB cs (endK r) = true → (∀ r', RowOf offs r' → goalB cs (endK r') = true → costR r ≤ costR r') → r.length ≤ 80 → ∀ O', OLe O O' → k.rt (.tup [.int (costR r), .lst ((r.map (·.1)).map encM)]) O') : P_cheapest K [deckD K cs, .lst (offs.map offD)] O k
  | bad (d e : D) (O : Om) (k : Cn) (h : OfsA e) (hb : offersB e = false) (hk : k.ex (.ref (He.ga K "BadOffers")) O) : P_cheapest K [d, e] O k
theorem ole_noneB {O O' : Om} {p : Addr} (l : OLe O O') (h : O' p = none) : O p = none := by
  cases e : O p with
  | none => rfl
  | some b => rw [l _ _ e] at h; cases h
theorem mt_imp {G : Sl} {O : Om} {tt : TT} {PT PT' : Bool → Om → Prop} (h : EvMT K tt G O PT) (k : ∀ b O', PT b O' → PT' b O') : EvMT K tt G O PT' := fun σ H0 H w s Q q => h σ H0 H w s Q fun b a c O1 p => q b a c O1 (k b O1 p)
theorem ole_put {O O' : Om} {p : Addr} {b : Ob} (l : OLe O O') (h : O p = none) : OLe O (oput O' p b) := fun q c e => by
  by_cases hq : q = p
  · rw [hq, h] at e
    cases e
  · rw [oput_ne hq]
    exact l _ _ e
theorem min40 (x : Int) : (if x < 40 then x else 40) = min 40 x := by
  split <;> omega
theorem kbD_nx (k : KB) (o : Of) : D.tup [.int (if k.1 * o.1.2 < 40 then k.1 * o.1.2 else 40), .bl (!decide (k.2 = decide (kS o.1.1 = "well")))] = kbD (nxtK k o.1) := by
  rw [min40, kS_well]
  show D.tup [.int (min 40 (k.1 * o.1.2)), .bl (!decide (k.2 = o.1.1))] = D.tup [.int (min 40 (k.1 * o.1.2)), .bl (xor k.2 o.1.1)]
  have e : (!decide (k.2 = o.1.1)) = xor k.2 o.1.1 := by cases k.2 <;> cases o.1.1 <;> rfl
  rw [e]
theorem need_pick {cs : List Int} (h : DeckOk cs) (b : Bool) : (if b then ((cs.length : Int) + 1 - (risOf cs : Nat)) else ((risOf cs : Nat) : Int)) = needB cs b := by
  unfold needB
  cases b with
  | false => rfl
  | true =>
    have := ris_reverse h.2.2 h.1
    rw [if_pos rfl, if_pos rfl]
    omega
theorem C_cheapest (T : Tx K mg base) : Cal P w K mg base "cheapest" 4 ["deck", "offers"] (SpX K (P_cheapest K)) := by
  refine calT_ex T.g_cheapest T.f_cheapest sc_cheapest (len_X fun _ _ _ p => by cases p <;> rfl) (fun _ _ _ _ _ _ us hl => match us, hl with | [_, _], _ => rfl) (fun cdv A outer s H vs Q E hcd hr h => ⟨_, (pss_cons (ps_if (PW.pt (pw_or (pt_not (pt_val (pe_callB (isiK (K := K)) (by rfl) T.b_isinstance (by decide +kernel) (pa_cons (pv 1) (pa_cons (pe_bltn (v := .ty "list") (by rfl) T.b_list (by decide +kernel) rfl) pa_nil))))) (pw_or (pt_not (pt_chain op_le op_le pe_int (pe_callB (lenK (K := K)) (by rfl) T.b_len (by decide +kernel) (pa_cons (pv 1) pa_nil)) pe_int)) (pw_or1 (pt_not (pt_val (pe_callB (allK (K := K)) (by rfl) T.b_all (by decide +kernel) (pa_cons (pe_lc (own := [("one", 11)]) (g := gName 11) (tt := tYes) rfl sc_cheapest.nd (piL (K := K) (pv 1)) (blkOk_by (own := [("one", 11)]) (N := N_cheapest) (sc := defScope s_cheapest) (by decide +kernel)) (fun _ _ _ _ _ => (pg_name (i := 11) sc_cheapest.nd rfl (by first | exact Or.inl rfl | exact Or.inr rfl))) (fun _ _ _ _ _ => pts_nil) (fun _ _ _ _ _ => (pe_cal (C_is_offer T) (hr.mono (by decide)) (pa_cons (pv 11) pa_nil)))) pa_nil)))))))) (pss_one (ps_raiseX T.x_BadOffers (takes_of rfl rfl rfl rfl))) pss_nil)
      (pss_cons (ps_set (i := 2) sc_cheapest.nd rfl (by first | exact Or.inl rfl | exact Or.inr rfl) (pe_xone (hu1 hr.units) (pe_tup (pa_cons pe_int (pa_cons pe_bl pa_nil))) (pe_tup (pa_cons pe_int (pa_cons (pe_lst pa_nil) pa_nil)))))
      (pss_cons (ps_set (i := 3) sc_cheapest.nd rfl (by first | exact Or.inl rfl | exact Or.inr rfl) pe_xnew)
      (pss_cons (ps_while (passes_of rfl) (pt_cmp (pc_xne (hu1 hr.units) (pv 2))) (pss_cons (ps_set (i := 4) sc_cheapest.nd rfl (by first | exact Or.inl rfl | exact Or.inr rfl) (pe_minX (i := 2) (x := "one") (y := "best") (q := "cheapest.<locals>.<lambda>") hr (by rfl) T.b_min (pv 2) T.tb hcd (by first | rfl | decide +kernel) (keyS_by (sc := defScope s_cheapest) (by decide +kernel)) rfl rfl (fun _ _ _ _ _ _ => rfl)))
      (pss_cons (ps_asg (pe_xpop (hu1 hr.units) (pv 2) (pv 4) ⟨by rfl, by rfl, by rfl, by rfl⟩) (pgT (K := K) rfl (pgs_cons (pg_name (i := 6) sc_cheapest.nd rfl (by first | exact Or.inl rfl | exact Or.inr rfl)) (pgs_cons (pg_name (i := 7) sc_cheapest.nd rfl (by first | exact Or.inl rfl | exact Or.inr rfl)) pgs_nil))))
      (pss_cons (ps_xput (hu1 hr.units) (pv 3) (pv 4) pe_bl (by rfl))
      (pss_cons (ps_set (i := 5) sc_cheapest.nd rfl (by first | exact Or.inl rfl | exact Or.inr rfl) (pe_ifExp (pt_val (pe_ix (ixT (K := K)) (pv 4) pe_int (fun _ _ => rfl))) (pe_mth0 (C_Deck_falling T) T.cl_Deck (hr.mono (by decide)) (pv 0)) (pe_mth0 (C_Deck_rising T) T.cl_Deck (hr.mono (by decide)) (pv 0))))
      (pss_cons (ps_if (pt_cmpR op_le (pv 5) (pe_ix (ixT (K := K)) (pv 4) pe_int (fun _ _ => rfl)) (nomark _)) (pss_one (ps_ret (pe_tup (pa_cons (pv 6) (pa_cons (pv 7) pa_nil))))) pss_nil)
      (pss_one (ps_for (passes_of rfl) rfl (piL (K := K) (pv 1)) (pgT (K := K) rfl (pgs_cons (pg_name (i := 8) sc_cheapest.nd rfl (by first | exact Or.inl rfl | exact Or.inr rfl)) (pgs_cons (pg_name (i := 9) sc_cheapest.nd rfl (by first | exact Or.inl rfl | exact Or.inr rfl)) pgs_nil)))
      (pss_cons (ps_set (i := 10) sc_cheapest.nd rfl (by first | exact Or.inl rfl | exact Or.inr rfl) (pe_tup (pa_cons (pe_callB (call_min2 rfl) (by rfl) T.b_min (by decide +kernel) (pa_cons (pe_cst T.c_MOST_CARDS) (pa_cons (pe_op op_mul (pe_ix (ixT (K := K)) (pv 4) pe_int (fun _ _ => rfl)) (pe_ix (ixT (K := K)) (pv 8) pe_int (fun _ _ => rfl))) pa_nil))) (pa_cons (pe_cmpR op_ne (pe_ix (ixT (K := K)) (pv 4) pe_int (fun _ _ => rfl)) (pe_cmpR op_eq (pe_ix (ixT (K := K)) (pv 8) pe_int (fun _ _ => rfl)) pe_str (nomark _)) (nomark _)) pa_nil))))
      (pss_one (ps_if (PW.pt (pw_and (pt_cmp (pc_xnotin (hu1 hr.units) (pv 10) (pv 3))) (pw_and1 (PW.pt (pw_or (pt_cmp (pc_xnotin (hu1 hr.units) (pv 10) (pv 2))) (pw_or1 (pt_cmpR op_lt (pe_op op_add (pv 6) (pv 9)) (pe_ix (ixT (K := K)) (pe_xget (hu1 hr.units) (pv 2) (pv 10) (fun _ _ => rfl)) pe_int (fun _ _ => rfl)) (nomark _)))))))) (pss_one (ps_xput (hu1 hr.units) (pv 2) (pv 10) (pe_tup (pa_cons (pe_op op_add (pv 6) (pv 9)) (pa_cons (pe_op op_cat (pv 7) (pe_lst (pa_cons (pv 8) pa_nil))) pa_nil))) (by rfl))) pss_nil)))))))))))
      (pss_one (ps_ret pe_non)))))), body_x h fun ds O k p => ?_⟩)
  try dsimp only [cx_K]
  cases p with
  | ok cs offs O k h ho hO hn hk =>
    refine sv_seq (sv_if (b := false) (et_is (a := !true || (!(decide ((1 : Int) ≤ ((offs.map offD).length : Nat)) && decide ((((offs.map offD).length : Nat) : Int) ≤ 4)) || !((offs.map fun o => (decide (1 ≤ o.1.2) && decide (o.1.2 ≤ 300)) && (decide (1 ≤ o.2) && decide (o.2 ≤ 20))).all id))) ?_ ?_) (fun h => by cases h) fun _ => sv_next ?_)
    · refine et_or (et_not (et_B (ev_cb (ea_cons (ev_var rfl) (ea_cons ev_ty ea_nil)) (rc_isL rfl)))) fun _ => et_or ?_ fun _ => et_not (et_B (ev_cb (ea_cons (EvR.lst (ev_isN (ev_lcT (enc := offD) (xs := offs) (h := fun o => .bl ((decide (1 ≤ o.1.2) && decide (o.1.2 ≤ 300)) && (decide (1 ≤ o.2) && decide (o.2 ≤ 20)))) (src_list (ev_var rfl)) (fun m _ => tg_name) (fun o _ => ev_callV (ea_cons (ev_var rfl) ea_nil) (P_is_offer.mk o)) offD_inj (by have := ho.l4; omega)) (bL_mapF _ _))) ea_nil) rc_all))
      walk_at "ev"
    · have h1 : (offs.map fun o : Of => (decide (1 ≤ o.1.2) && decide (o.1.2 ≤ 300)) && (decide (1 ≤ o.2) && decide (o.2 ≤ 20))).all id = true := by
        rw [List.all_map, List.all_eq_true]
        intro o hom
        have := ho.ok o hom
        unfold MOk at this
        simp [this.1.1, this.1.2, this.2.1, this.2.2]
      rw [h1, List.length_map, decide_eq_true (show (1 : Int) ≤ (offs.length : Nat) by have := ho.l1; omega), decide_eq_true (show ((offs.length : Nat) : Int) ≤ 4 by have := ho.l4; omega)]
      rfl
    refine sv_seq (sv_asgM (em_xone fun b hb => em_val (ev_tup (ea_cons ev_int (ea_cons ev_bl ea_nil)) (by show 2 ≤ 100000; decide)) (em_val (ev_tup (ea_cons ev_int (ea_cons (ev_lstV ea_nil) ea_nil)) (by show 2 ≤ 100000; decide)) ⟨(1, false), rfl, oput_same, ?_⟩)))
    rw [oput_oput]
    refine sv_seq (sv_asgM (em_xnew fun d hd => ?_))
    have hd0 : O d = none := ole_noneB (OLe.new hb) hd
    have hbd : b ≠ d := one_none oput_same hd
    have hTb : tbC K ≠ b := one_none hO hb
    have hTd : tbC K ≠ d := one_none hO hd0
    refine sv_seq (sv_while (fun m G2 O2 => ∃ bs dn, m + dn.length = 81 ∧ DI cs offs bs dn none 0 ∧ (∀ k ∈ dn, goalB cs k = false) ∧ OLe O O2 ∧ O2 b = some (dx b (mapV vB bs)) ∧ O2 d = some (dx d (dnD dn)) ∧ ∃ a4 a5 a6 a7 a8 a9 a10 a11, G2 = [some (deckD K cs), some (.lst (offs.map offD)), some (.ref b), some (.ref d), a4, a5, a6, a7, a8, a9, a10, a11]) 81
      ⟨[((1, false), (0, []))], [], rfl, di_init cs offs, fun k h => (nomatch h), ole_put (OLe.new hb) hd0, by rw [oput_ne hbd, oput_same]; rfl, by rw [oput_same]; rfl, _, _, _, _, _, _, _, _, rfl⟩ ?_)
    rintro m _ O2 ⟨bs, dn, hm, di, hng, hle, hOb, hOd, a4, a5, a6, a7, a8, a9, a10, a11, rfl⟩
    refine mt_test (em_xne (em_val (ev_var rfl) ⟨b, _, rfl, hOb, fun p hp => ⟨_, rfl, fun ht => ?_, fun hf => ?_⟩⟩))
    · -- one more
      have hbs : bs ≠ [] := fun z => by rw [z] at ht; cases ht
      have hp0 : O p = none := ole_noneB hle hp
      have hle2 : OLe O (oput O2 p (dx p [])) := ole_put hle hp0
      have hpb : b ≠ p := one_none hOb hp
      have hpd : d ≠ p := one_none hOd hp
      have hOb2 : oput O2 p (dx p []) b = some (dx b (mapV vB bs)) := by rw [oput_ne hpb]; exact hOb
      have hOd2 : oput O2 p (dx p []) d = some (dx d (dnD dn)) := by rw [oput_ne hpd]; exact hOd
      refine sv_seq (sv_asgM (em_minX (em_val (ev_var rfl) ⟨b, _, rfl, hOb2, rfl, fun z => hbs (List.map_eq_nil_iff.mp z), fun y hy => ?_, hle2 _ _ hO, fun y hy hmin => ?_⟩)))
      · obtain ⟨x, hx, rfl⟩ := List.mem_map.mp hy
        exact ⟨x.2.1, rfl⟩
      obtain ⟨⟨k1, c, row⟩, hx, rfl⟩ := List.mem_map.mp hy
      have hmin2 : ∀ x ∈ bs, c ≤ x.2.1 := fun x hx2 => hmin c (x.1, vB x.2) x.2.1 rfl (List.mem_map.mpr ⟨x, hx2, rfl⟩) rfl
      have hgk : getA bs k1 = some (c, row) := getA_of_mem di.nb hx
      obtain ⟨di2, hkd, hrow⟩ := di_pop di hgk hmin2 ho
      have hk1 : KeyOk k1 := di.kb _ hx
      refine sv_seq (sv_asgTM (em_xpop (em_val (ev_var rfl) ⟨b, _, rfl, hOb2, em_val (ev_var rfl) ⟨_, k1, vB (c, row), rfl, hOb2, by rw [getB_map, hgk]; rfl, _, _, tg_tup2, ?_⟩⟩)))
      rw [dropB_map]
      refine sv_seq (sv_xput (em_val ev_bl (em_val (ev_var rfl) ⟨d, rfl, em_val (ev_var rfl) ⟨dnD dn, k1, rfl, by rw [oput_ne hbd.symm]; exact hOd2, ?_, ?_⟩⟩)))
      · unfold dnD
        rw [List.length_map]
        have := keys80 di.nd di.kd
        omega
      rw [putB_dn hkd]
      have hn80 : (dn ++ [k1]).length ≤ 80 := keys80 di2.nd di2.kd
      have hle3 : OLe O (oput (oput (oput O2 p (dx p [])) b (dx b (mapV vB (dropA bs k1)))) d (dx d (dnD (dn ++ [k1])))) := ole_put (ole_put hle2 hb) hd0
      refine sv_seq (sv_asg (ev_is (ev_if (b := k1.2) (et_B (ev_op (ev_var rfl) ev_int (rd_ixT (d := .bl k1.2) rfl))) (fun e => ev_is (ev_falling (ev_var rfl) h) (congrArg D.int ((need_pick h true).trans (by rw [e])))) (fun e => ev_is (ev_rising (ev_var rfl) h) (congrArg D.int ((need_pick h false).trans (by rw [e]))))) (rfl : D.int (needB cs k1.2) = _)) ?_)
      refine sv_seq (sv_if (b := goalB cs k1) (et_test (ev_op (ev_var rfl) (ev_op (ev_var rfl) ev_int (rd_ixT (d := .int k1.1) rfl)) rd_b)) (fun hg => ?_) fun hg => sv_next ?_)
      · obtain ⟨r, r1, r2, r3, r4, r5⟩ := hrow
        refine sv_ret (ev_tup (ea_cons (ev_var rfl) (ea_cons (ev_var rfl) ea_nil)) (by show 2 ≤ 100000; decide)) ?_
        have hr := hk r r1 (by rw [r2]; exact hg) (fun r' q1 q2 => ?_) (by have := keys80 di.nd di.kd; omega) _ hle3
        · rw [r3, r4] at hr
          exact hr
        · rw [r3]
          exact (di_lo di hmin2 ho r' q1 fun z => by rw [hng _ z] at q2; cases q2).2
      refine sv_for (src_list (ev_var rfl)) (fun i G2 O3 => ∃ bs', DI cs offs bs' (dn ++ [k1]) (some (k1, c)) i ∧ OLe O O3 ∧ O3 b = some (dx b (mapV vB bs')) ∧ O3 d = some (dx d (dnD (dn ++ [k1]))) ∧ ∃ a8 a9 a10 a11, G2 = [some (deckD K cs), some (.lst (offs.map offD)), some (.ref b), some (.ref d), some (kbD k1), some (.int (needB cs k1.2)), some (.int c), some (.lst (row.map encM)), a8, a9, a10, a11])
        ⟨_, di2, hle3, by rw [oput_ne hbd, oput_same], oput_same, _, _, _, _, rfl⟩ ?_ ?_
      · rintro i x _ O3 hd3 ⟨bs', di3, hle4, hOb3, hOd3, b8, b9, b10, b11, rfl⟩
        rw [List.getElem?_map] at hd3
        cases hoi : offs[i]? with
        | none => rw [hoi] at hd3; cases hd3
        | some o =>
          rw [hoi] at hd3
          obtain rfl := Option.some.inj hd3
          obtain ⟨m1, p1, p2⟩ := ho.ok o (List.mem_of_getElem? hoi)
          refine ⟨_, _, tg_tup2, sv_seq (sv_asg (ev_is (ev_tup (ea_cons (ev_cb (ea_cons ev_int (ea_cons (ev_op (ev_op (ev_var rfl) ev_int (rd_ixT (d := .int k1.1) rfl)) (ev_op (ev_var rfl) ev_int (rd_ixT (d := .int o.1.2) rfl)) (rd_ic ?_)) ea_nil)) rc_min2) (ea_cons (ev_op (ev_op (ev_var rfl) ev_int (rd_ixT (d := .bl k1.2) rfl)) (ev_op (ev_op (ev_var rfl) ev_int (rd_ixT (d := .str (kS o.1.1)) rfl)) ev_str rd_eqS) rd_neB) ea_nil)) (by show 2 ≤ 100000; decide)) (kbD_nx k1 o)) ?_)⟩
          · have h1 := hk1.1
            have h2 := hk1.2
            have h3 := m1.1
            have h4 := m1.2
            exact .inr ⟨by omega, by omega⟩
          have skip : ∀ {G4 : Sl} {O4 : Om}, (nxtK k1 o.1 ∈ dn ++ [k1] ∨ ∃ v, getA bs' (nxtK k1 o.1) = some v ∧ v.1 ≤ c + o.2) → O4 = O3 → (∃ a8 a9 a10 a11, G4 = [some (deckD K cs), some (.lst (offs.map offD)), some (.ref b), some (.ref d), some (kbD k1), some (.int (needB cs k1.2)), some (.int c), some (.lst (row.map encM)), a8, a9, a10, a11]) →
              (∃ bs', DI cs offs bs' (dn ++ [k1]) (some (k1, c)) (i + 1) ∧ OLe O O4 ∧ O4 b = some (dx b (mapV vB bs')) ∧ O4 d = some (dx d (dnD (dn ++ [k1]))) ∧ ∃ a8 a9 a10 a11, G4 = [some (deckD K cs), some (.lst (offs.map offD)), some (.ref b), some (.ref d), some (kbD k1), some (.int (needB cs k1.2)), some (.int c), some (.lst (row.map encM)), a8, a9, a10, a11]) := fun hs e hG => by
            subst e
            exact ⟨bs', di_skip di3 hoi hs, hle4, hOb3, hOd3, hG⟩
          refine sv_ifM (mt_imp (PT := fun b' O4 => O4 = O3 ∧ ((b' = true ∧ nxtK k1 o.1 ∉ dn ++ [k1] ∧ (getA bs' (nxtK k1 o.1) = none ∨ ∃ v, getA bs' (nxtK k1 o.1) = some v ∧ c + o.2 < v.1)) ∨ (b' = false ∧ (nxtK k1 o.1 ∈ dn ++ [k1] ∨ ∃ v, getA bs' (nxtK k1 o.1) = some v ∧ v.1 ≤ c + o.2)))) ?_ ?_)
          · refine mt_and (mt_test (em_xnotin (em_val (ev_var rfl) (em_val (ev_var rfl) ⟨d, _, nxtK k1 o.1, rfl, rfl, hOd3, _, rfl, fun hnd => ?_, fun hnd => ⟨rfl, .inr ⟨rfl, .inl ?_⟩⟩⟩))))
            · have hnd2 : nxtK k1 o.1 ∉ dn ++ [k1] := fun z => by
                rw [getB_dn, if_pos z] at hnd
                cases hnd
              refine mt_or (mt_test (em_xnotin (em_val (ev_var rfl) (em_val (ev_var rfl) ⟨b, _, nxtK k1 o.1, rfl, rfl, hOb3, _, rfl, fun hin => ?_, fun hni => ⟨rfl, .inl ⟨rfl, hnd2, .inl ?_⟩⟩⟩))))
              · rw [getB_map, Option.isSome_map] at hin
                cases hg2 : getA bs' (nxtK k1 o.1) with
                | none => rw [hg2] at hin; cases hin
                | some v =>
                  refine mt_test (em_op (em_val (ev_op (ev_var rfl) (ev_var rfl) rd_i) (em_op (em_xget (em_val (ev_var rfl) ⟨b, rfl, em_val (ev_var rfl) ⟨_, nxtK k1 o.1, vB v, rfl, hOb3, by rw [getB_map, hg2]; rfl, em_val ev_int ⟨.int v.1, rd_ixT rfl, _, rd_b, _, rfl, rfl, ?_⟩⟩⟩)))))
                  by_cases hlt : c + o.2 < v.1
                  · exact .inl ⟨decide_eq_true hlt, hnd2, .inr ⟨v, rfl, hlt⟩⟩
                  · exact .inr ⟨decide_eq_false hlt, .inr ⟨v, rfl, by omega⟩⟩
              · rw [getB_map, Option.isSome_map] at hni
                cases hg2 : getA bs' (nxtK k1 o.1) with
                | none => rfl
                | some v => rw [hg2] at hni; cases hni
            · rw [getB_dn] at hnd
              by_cases z : nxtK k1 o.1 ∈ dn ++ [k1]
              · exact z
              · rw [if_neg z] at hnd
                cases hnd
          · rintro b' O4 ⟨rfl, ⟨rfl, hnd, hc⟩ | ⟨rfl, hs⟩⟩
            · refine ⟨fun _ => ?_, fun z => (by cases z)⟩
              obtain ⟨r, r1, r2, r3, r4, r5⟩ := hrow
              have hrl : row.length ≤ 80 := by
                rw [← r4, List.length_map]
                have := keys80 di.nd di.kd
                omega
              have hbl : bs'.length ≤ 80 := by
                have := keys80 di3.nb fun k hk => by
                  obtain ⟨x, hx, rfl⟩ := List.mem_map.mp hk
                  exact di3.kb x hx
                rwa [List.length_map] at this
              refine sv_xput (em_val (ev_is (ev_tup (ea_cons (ev_op (ev_var rfl) (ev_var rfl) rd_i) (ea_cons (ev_op (ev_var rfl) (ev_lstV (ea_cons (ev_var rfl) ea_nil) (by show 1 ≤ 100000; decide)) (RD.lst (rd_cat (by rw [List.length_map]; show row.length + 1 ≤ 100000; omega)))) ea_nil)) (by show 2 ≤ 100000; decide)) (show _ = vB (c + o.2, row ++ [o.1]) by unfold vB; rw [List.map_append]; rfl)) (em_val (ev_var rfl) ⟨b, rfl, em_val (ev_var rfl) ⟨_, nxtK k1 o.1, rfl, hOb3, by rw [List.length_map]; omega, ?_⟩⟩))
              rw [putB_map]
              exact ⟨_, di_put di3 hoi (List.mem_append_right _ (List.mem_singleton.mpr rfl)) ⟨r, r1, r2, r3, r4, by rw [List.length_append, List.length_singleton]; omega⟩ ho hnd hc, ole_put hle4 hb, oput_same, by rw [oput_ne hbd.symm]; exact hOd3, _, _, _, _, rfl⟩
            · exact ⟨fun z => (by cases z), fun _ => sv_next (skip hs rfl ⟨_, _, _, _, rfl⟩)⟩
      · rintro _ O3 ⟨bs', di3, hle4, hOb3, hOd3, b8, b9, b10, b11, rfl⟩
        rw [List.length_map] at di3
        refine ⟨m - 1, by rw [List.length_append, List.length_singleton] at hn80; omega, bs', dn ++ [k1], by rw [List.length_append, List.length_singleton] at hn80 ⊢; omega, di_end di3, fun k hk => ?_, hle4, hOb3, hOd3, _, _, _, _, _, _, _, _, rfl⟩
        rcases List.mem_append.mp hk with z | z
        · exact hng _ z
        · rw [List.mem_singleton.mp z]
          exact hg
    · have hbs : bs = [] := by
        cases bs with
        | nil => rfl
        | cons x l => cases hf
      subst hbs
      refine sv_retNone (hn (fun r hr => hng _ (di_empty di ho r hr)) _ (ole_put hle (ole_noneB hle hp)))
  | bad d e O k h hb hk =>
    by_cases hL : isL e = true
    · obtain ⟨ds, rfl⟩ : ∃ ds, e = .lst ds := by
        cases e with
        | lst ds => exact ⟨ds, rfl⟩
        | _ => cases hL
      have hb : (decide ((1 : Int) ≤ (ds.length : Nat)) && decide (((ds.length : Nat) : Int) ≤ 4) && ds.all offerB) = false := hb
      refine sv_seq (sv_if (b := true) (et_is (a := !true || (!(decide ((1 : Int) ≤ (ds.length : Nat)) && decide (((ds.length : Nat) : Int) ≤ 4)) || !((ds.map offerB).all id))) ?_ ?_) (fun _ => sv_raise hk) (fun h => by cases h))
      · refine et_or (et_not (et_B (ev_cb (ea_cons (ev_var rfl) (ea_cons ev_ty ea_nil)) (rc_isL rfl)))) fun _ => et_or ?_ fun _ => et_not (et_B (ev_cb (ea_cons (EvR.lst (ev_isN (ev_lc0 (h := fun x => .bl (offerB x)) (src_list (ev_var rfl)) (fun m _ => tg_name) (fun x hx => ev_callV (ea_cons (ev_var rfl) ea_nil) (P_is_offer.any x (h.el ds rfl x hx))) (by have := h.ln ds rfl; omega)) (bL_map _ _))) ea_nil) rc_all))
        walk_at "ev"
      · rw [List.all_map]
        show (!true || (!(decide ((1 : Int) ≤ (ds.length : Nat)) && decide (((ds.length : Nat) : Int) ≤ 4)) || !(ds.all offerB))) = true
        cases h1 : (decide ((1 : Int) ≤ (ds.length : Nat)) && decide (((ds.length : Nat) : Int) ≤ 4)) with
        | false => rfl
        | true =>
          rw [h1, Bool.true_and] at hb
          rw [hb]
          rfl
    · have hL : isL e = false := by simpa using hL
      exact sv_seq (sv_if (b := true) (et_is (et_or (b := true) (et_not (et_B (ev_cb (ea_cons (ev_var rfl) (ea_cons ev_ty ea_nil)) (rc_isL h.nr)))) (fun z => by rw [hL] at z; cases z)) (by rw [hL]; rfl)) (fun _ => sv_raise hk) (fun h => by cases h))

theorem rc_min {E : XK} {ns : List Int} {m : Int} (h : m ∈ ns) (hm : ∀ y ∈ ns, m ≤ y) : RC K E (rMin K) [.lst (iL ns)] (.val (.int m)) := fun H0 H e xs r Q q => by
  obtain ⟨v, ws, rfl, r1, r2⟩ := r.cons_out
  obtain rfl := r2.nil_out
  obtain ⟨a, vs, rfl, ha, t⟩ := r1.lst_out
  obtain rfl := t.ints_eq
  refine ⟨a, ns, rfl, .inl (.inl (e _ _ ha)), List.length_pos_of_mem h, fun m' h1 h2 => ?_⟩
  have : m' = m := by
    have := hm m' h1
    have := h2 m h
    omega
  subst this
  exact sat_val e q (.int _)
theorem least_cases {cs : List Int} {offs : List Of} (ok : OffsOk offs) : (∀ r, RowOf offs r → goalB cs (endK r) = false) ∨ ∃ row, RowOf offs row ∧ goalB cs (endK row) = true ∧ ∀ r', RowOf offs r' → goalB cs (endK r') = true → costR row ≤ costR r' := by
  by_cases h : ∃ r, RowOf offs r ∧ goalB cs (endK r) = true
  · obtain ⟨r, h1, h2⟩ := h
    have main : ∀ n (r : List Of), RowOf offs r → goalB cs (endK r) = true → (costR r).toNat ≤ n → ∃ row, RowOf offs row ∧ goalB cs (endK row) = true ∧ ∀ r', RowOf offs r' → goalB cs (endK r') = true → costR row ≤ costR r' := fun n => by
      induction n with
      | zero =>
        intro r h1 h2 h3
        refine ⟨r, h1, h2, fun r' q1 _ => ?_⟩
        have := (row_room ok r' q1).2.2.2.1
        omega
      | succ n ih =>
        intro r h1 h2 h3
        by_cases hex : ∃ r', RowOf offs r' ∧ goalB cs (endK r') = true ∧ costR r' < costR r
        · obtain ⟨r', q1, q2, q3⟩ := hex
          have := (row_room ok r' q1).2.2.2.1
          exact ih r' q1 q2 (by omega)
        · refine ⟨r, h1, h2, fun r' q1 q2 => ?_⟩
          rcases Int.lt_or_le (costR r') (costR r) with z | z
          · exact absurd ⟨r', q1, q2, z⟩ hex
          · exact z
    exact .inr (main _ r h1 h2 (Nat.le_refl _))
  · refine .inl fun r hr => ?_
    cases e : goalB cs (endK r) with
    | false => rfl
    | true => exact absurd ⟨r, hr, e⟩ h
inductive P_law_least : List D → Res → Prop
  | non (cs : List Int) (offs : List Of) (h : DeckOk cs) (ho : OffsOk offs) (hr : ∀ r, RowOf offs r → goalB cs (endK r) = false) : P_law_least [.lst (iL cs), .lst (offs.map offD)] (.val .non)
  | mk (cs : List Int) (offs : List Of) (row : List Of) (h : DeckOk cs) (ho : OffsOk offs) (h1 : RowOf offs row) (h2 : goalB cs (endK row) = true) (h3 : ∀ r', RowOf offs r' → goalB cs (endK r') = true → costR row ≤ costR r') : P_law_least [.lst (iL cs), .lst (offs.map offD)] (.val (.int (costR row)))
theorem getB_int (bs : List (KB × Int)) (k : KB) : getB (mapV D.int bs) k = (getA bs k).map D.int := getB_map D.int bs k
theorem C__law_least (T : Tx K mg base) : Cal P w K mg base "_law_least" 3 ["cards", "offers"] (SpR K P_law_least) := by
  refine cal_nox T.g__law_least T.f__law_least sc__law_least (len_R fun _ _ p => by cases p <;> rfl) (fun _ _ _ _ _ _ us hl => match us, hl with | [_, _], _ => rfl) (fun cdv A outer s H vs Q E hr h => ⟨_, (pss_cons (ps_set (i := 2) sc__law_least.nd rfl (by first | exact Or.inl rfl | exact Or.inr rfl) (pe_xone (hu1 hr.units) (pe_tup (pa_cons pe_int (pa_cons pe_bl pa_nil))) pe_int))
      (pss_cons (ps_set (i := 3) sc__law_least.nd rfl (by first | exact Or.inl rfl | exact Or.inr rfl) pe_bl)
      (pss_cons (ps_while PassesOwn.never (pt_val (pv 3)) (pss_cons (ps_set (i := 3) sc__law_least.nd rfl (by first | exact Or.inl rfl | exact Or.inr rfl) pe_bl)
      (pss_one (ps_for PassesOwn.never rfl (piL (K := K) (pe_xsort (by rfl) T.b_sorted (pv 2) (hu20 hr.units))) (pg_name (i := 5) sc__law_least.nd rfl (by first | exact Or.inl rfl | exact Or.inr rfl))
      (pss_one (ps_for PassesOwn.never rfl (piL (K := K) (pv 1)) (pgT (K := K) rfl (pgs_cons (pg_name (i := 8) sc__law_least.nd rfl (by first | exact Or.inl rfl | exact Or.inr rfl)) (pgs_cons (pg_name (i := 9) sc__law_least.nd rfl (by first | exact Or.inl rfl | exact Or.inr rfl)) pgs_nil)))
      (pss_cons (ps_set (i := 10) sc__law_least.nd rfl (by first | exact Or.inl rfl | exact Or.inr rfl) (pe_tup (pa_cons (pe_callB (call_min2 rfl) (by rfl) T.b_min (by decide +kernel) (pa_cons pe_int (pa_cons (pe_op op_mul (pe_ix (ixT (K := K)) (pv 5) pe_int (fun _ _ => rfl)) (pe_ix (ixT (K := K)) (pv 8) pe_int (fun _ _ => rfl))) pa_nil))) (pa_cons (pe_cmpR op_ne (pe_ix (ixT (K := K)) (pv 5) pe_int (fun _ _ => rfl)) (pe_cmpR op_eq (pe_ix (ixT (K := K)) (pv 8) pe_int (fun _ _ => rfl)) pe_str (nomark _)) (nomark _)) pa_nil))))
      (pss_one (ps_if (PW.pt (pw_or (pt_cmp (pc_xnotin (hu1 hr.units) (pv 10) (pv 2))) (pw_or1 (pt_cmpR op_gt (pe_xget (hu1 hr.units) (pv 2) (pv 10) (fun _ _ => rfl)) (pe_op op_add (pe_xget (hu1 hr.units) (pv 2) (pv 5) (fun _ _ => rfl)) (pv 9)) (nomark _))))) (pss_cons (ps_xput (hu1 hr.units) (pv 2) (pv 10) (pe_op op_add (pe_xget (hu1 hr.units) (pv 2) (pv 5) (fun _ _ => rfl)) (pv 9)) (by rfl))
      (pss_one (ps_set (i := 3) sc__law_least.nd rfl (by first | exact Or.inl rfl | exact Or.inr rfl) pe_bl))) pss_nil)))))))))
      (pss_cons (ps_asg (pe_tup (pa_cons (pe_cal (C__law_rising T) (hr.mono (by decide)) (pa_cons (pv 0) pa_nil)) (pa_cons (pe_cal (C__law_falling T) (hr.mono (by decide)) (pa_cons (pv 0) pa_nil)) pa_nil))) (pgT (K := K) rfl (pgs_cons (pg_name (i := 6) sc__law_least.nd rfl (by first | exact Or.inl rfl | exact Or.inr rfl)) (pgs_cons (pg_name (i := 7) sc__law_least.nd rfl (by first | exact Or.inl rfl | exact Or.inr rfl)) pgs_nil))))
      (pss_cons (ps_lock (ps_setLc (i := 4) (own := [("key", 5)]) (g := gName 5) rfl sc__law_least.nd rfl rfl (sw_true rfl rfl rfl (by decide +kernel)) (pi_keysX (pv 2)) (blkOk_by (own := [("key", 5)]) (N := N__law_least) (sc := defScope s__law_least) (by decide +kernel)) (fun _ _ _ _ _ => (pg_name (i := 5) sc__law_least.nd rfl (by first | exact Or.inl rfl | exact Or.inr rfl))) (fun _ _ _ _ _ => pts_one (pt_cmpR op_le (pe_ifExp (pt_val (pe_ix (ixT (K := K)) (pv 5) pe_int (fun _ _ => rfl))) (pv 7) (pv 6)) (pe_ix (ixT (K := K)) (pv 5) pe_int (fun _ _ => rfl)) (nomark _))) (fun _ _ _ _ _ => (pe_xget (hu1 hr.units) (pv 2) (pv 5) (fun _ _ => rfl)))))
      (pss_one (ps_ret (pe_ifExp (pt_cmpR (neDK (K := K) hr.units) (pv 4) (pe_lst pa_nil) (nomark _)) (pe_callB (minK (K := K)) (by rfl) T.b_min (by decide +kernel) (pa_cons (pv 4) pa_nil)) pe_non)))))))), body_pure h fun ds r O p => ?_⟩)
  try dsimp only [cx_K]
  obtain ⟨cs, offs, h, ho, d, rfl, rfl, hres⟩ : ∃ cs offs, DeckOk cs ∧ OffsOk offs ∧ ∃ d, ds = [.lst (iL cs), .lst (offs.map offD)] ∧ r = .val d ∧ (((∀ r, RowOf offs r → goalB cs (endK r) = false) ∧ d = .non) ∨ ∃ row, RowOf offs row ∧ goalB cs (endK row) = true ∧ (∀ r', RowOf offs r' → goalB cs (endK r') = true → costR row ≤ costR r') ∧ d = .int (costR row)) := by
    cases p with
    | non cs offs h ho hr => exact ⟨cs, offs, h, ho, _, rfl, rfl, .inl ⟨hr, rfl⟩⟩
    | mk cs offs row h ho h1 h2 h3 => exact ⟨cs, offs, h, ho, _, rfl, rfl, .inr ⟨row, h1, h2, h3, rfl⟩⟩
  refine sv_seq (sv_asgM (em_xone fun b hb => em_val (ev_tup (ea_cons ev_int (ea_cons ev_bl ea_nil)) (by show 2 ≤ 100000; decide)) (em_val ev_int ⟨(1, false), rfl, oput_same, ?_⟩)))
  rw [oput_oput]
  refine sv_seq (sv_asg ev_bl ?_)
  refine sv_seq (sv_while (fun m G2 O2 => ∃ bs ch, BI offs bs ∧ m = (if ch then mu bs + 1 else 0) ∧ (ch = false → ∀ k ∈ bs.map (·.1), ∀ o ∈ offs, Sat bs k o) ∧ OLe O O2 ∧ O2 b = some (dx b (mapV D.int bs)) ∧ ∃ a4 a5 a6 a7 a8 a9 a10, G2 = [some (.lst (iL cs)), some (.lst (offs.map offD)), some (.ref b), some (.bl ch), a4, a5, a6, a7, a8, a9, a10]) (mu [((1, false), 0)] + 1)
    ⟨_, true, bi_init offs, rfl, fun z => (by cases z), OLe.new hb, oput_same, _, _, _, _, _, _, _, rfl⟩ ?_)
  rintro m _ O2 ⟨bs0, ch0, bi0, hm, hsat0, hle, hOb, a4, a5, a6, a7, a8, a9, a10, rfl⟩
  refine mt_val (et_B (ev_var rfl)) ⟨fun hc => ?_, fun hc => ?_⟩
  · -- a turn
    subst hc
    refine sv_seq (sv_asg ev_bl ?_)
    refine sv_forM (src_listM (em_freeze (em_xsort (em_val (ev_var rfl) ⟨b, _, rfl, hOb, by rw [List.length_map]; have := bi0.len; omega, fun ks p pm hp => ⟨p, _, rfl, oput_same, _, rfl, ?_⟩⟩))))
    rw [odrop_put hp]
    have pm : ks.Perm (bs0.map (·.1)) := by
      have e : (mapV D.int bs0).map (·.1) = bs0.map (·.1) := by
        unfold mapV
        rw [List.map_map]
        rfl
      rwa [e] at pm
    refine ⟨fun i G2 O3 => ∃ bs ch, BI offs bs ∧ (∀ k ∈ ks, ∃ v, getA bs k = some v) ∧ (ch = false → bs = bs0 ∧ ∀ k ∈ ks.take i, ∀ o ∈ offs, Sat bs k o) ∧ (ch = true → mu bs < mu bs0) ∧ OLe O O3 ∧ O3 b = some (dx b (mapV D.int bs)) ∧ ∃ a4 a5 a6 a7 a8 a9 a10, G2 = [some (.lst (iL cs)), some (.lst (offs.map offD)), some (.ref b), some (.bl ch), a4, a5, a6, a7, a8, a9, a10],
      ⟨bs0, false, bi0, fun k hk => ?_, fun _ => ⟨rfl, fun k hk => by rw [List.take_zero] at hk; exact (nomatch hk)⟩, fun z => (by cases z), hle, hOb, _, _, _, _, _, _, _, rfl⟩, ?_, ?_⟩
    · obtain ⟨x, hx, e⟩ := List.mem_map.mp (pm.mem_iff.mp hk)
      exact ⟨x.2, by rw [← e]; exact getA_of_mem bi0.nb hx⟩
    · rintro i x _ O3 hx ⟨bs1, ch1, bi1, hks, hf1, ht1, hle1, hOb1, b4, b5, b6, b7, b8, b9, b10, rfl⟩
      rw [List.getElem?_map] at hx
      cases hki : ks[i]? with
      | none => rw [hki] at hx; cases hx
      | some k1 =>
        rw [hki] at hx
        obtain rfl := Option.some.inj hx
        have hk1m := List.mem_of_getElem? hki
        refine ⟨_, _, tg_name, ?_⟩
        refine sv_for (src_list (ev_var rfl)) (fun j G2 O4 => ∃ bs ch, BI offs bs ∧ (∀ k ∈ ks, ∃ v, getA bs k = some v) ∧ (ch = false → bs = bs0 ∧ (∀ k ∈ ks.take i, ∀ o ∈ offs, Sat bs k o) ∧ ∀ o ∈ offs.take j, Sat bs k1 o) ∧ (ch = true → mu bs < mu bs0) ∧ OLe O O4 ∧ O4 b = some (dx b (mapV D.int bs)) ∧ ∃ a4 a6 a7 a8 a9 a10, G2 = [some (.lst (iL cs)), some (.lst (offs.map offD)), some (.ref b), some (.bl ch), a4, some (kbD k1), a6, a7, a8, a9, a10])
          ⟨bs1, ch1, bi1, hks, fun z => ⟨(hf1 z).1, (hf1 z).2, fun o ho => by rw [List.take_zero] at ho; exact (nomatch ho)⟩, ht1, hle1, hOb1, _, _, _, _, _, _, rfl⟩ ?_ ?_
        · rintro j y _ O4 hy ⟨bs, ch, bi, hks2, hf2, ht2, hle2, hOb2, c4, c6, c7, c8, c9, c10, rfl⟩
          rw [List.getElem?_map] at hy
          cases hoi : offs[j]? with
          | none => rw [hoi] at hy; cases hy
          | some o =>
            rw [hoi] at hy
            obtain rfl := Option.some.inj hy
            have hom := List.mem_of_getElem? hoi
            obtain ⟨m1, p1, p2⟩ := ho.ok o hom
            obtain ⟨v, hv⟩ := hks2 k1 hk1m
            have hk1 : KeyOk k1 := bi.kb _ (getA_mem hv)
            refine ⟨_, _, tg_tup2, sv_seq (sv_asg (ev_is (ev_tup (ea_cons (ev_cb (ea_cons ev_int (ea_cons (ev_op (ev_op (ev_var rfl) ev_int (rd_ixT (d := .int k1.1) rfl)) (ev_op (ev_var rfl) ev_int (rd_ixT (d := .int o.1.2) rfl)) (rd_ic ?_)) ea_nil)) rc_min2) (ea_cons (ev_op (ev_op (ev_var rfl) ev_int (rd_ixT (d := .bl k1.2) rfl)) (ev_op (ev_op (ev_var rfl) ev_int (rd_ixT (d := .str (kS o.1.1)) rfl)) ev_str rd_eqS) rd_neB) ea_nil)) (by show 2 ≤ 100000; decide)) (kbD_nx k1 o)) ?_)⟩
            · have h1 := hk1.1
              have h2 := hk1.2
              have h3 := m1.1
              have h4 := m1.2
              exact .inr ⟨by omega, by omega⟩
            have hbl := bi.len
            refine sv_ifM (mt_imp (PT := fun b' O5 => O5 = O4 ∧ ((b' = true ∧ (getA bs (nxtK k1 o.1) = none ∨ ∃ w, getA bs (nxtK k1 o.1) = some w ∧ v + o.2 < w)) ∨ (b' = false ∧ Sat bs k1 o))) ?_ ?_)
            · refine mt_or (mt_test (em_xnotin (em_val (ev_var rfl) (em_val (ev_var rfl) ⟨b, _, nxtK k1 o.1, rfl, rfl, hOb2, _, rfl, fun hin => ?_, fun hni => ⟨rfl, .inl ⟨rfl, .inl ?_⟩⟩⟩))))
              · rw [getB_map, Option.isSome_map] at hin
                cases hg2 : getA bs (nxtK k1 o.1) with
                | none => rw [hg2] at hin; cases hin
                | some w =>
                  refine mt_test (em_op (em_xget (em_val (ev_var rfl) ⟨b, rfl, em_val (ev_var rfl) ⟨_, nxtK k1 o.1, .int w, rfl, hOb2, by rw [getB_map, hg2]; rfl, em_op (em_xget (em_val (ev_var rfl) ⟨b, rfl, em_val (ev_var rfl) ⟨_, k1, .int v, rfl, hOb2, by rw [getB_map, hv]; rfl, em_val (ev_var rfl) ⟨_, rd_i, _, rd_b, _, rfl, rfl, ?_⟩⟩⟩))⟩⟩)))
                  by_cases hlt : v + o.2 < w
                  · exact .inl ⟨decide_eq_true hlt, .inr ⟨w, rfl, hlt⟩⟩
                  · exact .inr ⟨decide_eq_false hlt, ⟨v, w, hv, hg2, by omega⟩⟩
              · rw [getB_map, Option.isSome_map] at hni
                cases hg2 : getA bs (nxtK k1 o.1) with
                | none => rfl
                | some w => rw [hg2] at hni; cases hni
            · rintro b' O5 ⟨rfl, ⟨rfl, hc⟩ | ⟨rfl, hs⟩⟩
              · refine ⟨fun _ => ?_, fun z => (by cases z)⟩
                obtain ⟨bi2, hmu⟩ := bi_put bi ho hv hom hc
                refine sv_seq (sv_xput (em_op (em_xget (em_val (ev_var rfl) ⟨b, rfl, em_val (ev_var rfl) ⟨_, k1, .int v, rfl, hOb2, by rw [getB_map, hv]; rfl, em_val (ev_var rfl) ⟨_, rd_i, em_val (ev_var rfl) ⟨b, rfl, em_val (ev_var rfl) ⟨_, nxtK k1 o.1, rfl, hOb2, by rw [List.length_map]; omega, ?_⟩⟩⟩⟩⟩))))
                refine sv_asg ev_bl ?_
                rw [putB_map D.int]
                refine ⟨_, true, bi2, fun k hk => ?_, fun z => (by cases z), fun _ => ?_, ole_put hle2 hb, oput_same, _, _, _, _, _, _, rfl⟩
                · obtain ⟨w, hw⟩ := hks2 k hk
                  rw [getA_put]
                  by_cases e : k = nxtK k1 o.1
                  · rw [if_pos e]; exact ⟨_, rfl⟩
                  · rw [if_neg e]; exact ⟨w, hw⟩
                · cases ch with
                  | true => exact Nat.lt_trans hmu (ht2 rfl)
                  | false => rw [← (hf2 rfl).1]; exact hmu
              · refine ⟨fun z => (by cases z), fun _ => sv_next ⟨bs, ch, bi, hks2, fun z => ⟨(hf2 z).1, (hf2 z).2.1, fun o' ho' => ?_⟩, ht2, hle2, hOb2, _, _, _, _, _, _, rfl⟩⟩
                rw [List.take_add_one, hoi] at ho'
                rcases List.mem_append.mp ho' with q | q
                · exact (hf2 z).2.2 o' q
                · rw [List.mem_singleton.mp q]
                  exact hs
        · rintro _ O4 ⟨bs, ch, bi, hks2, hf2, ht2, hle2, hOb2, c4, c6, c7, c8, c9, c10, rfl⟩
          refine ⟨bs, ch, bi, hks2, fun z => ⟨(hf2 z).1, fun k hk => ?_⟩, ht2, hle2, hOb2, _, _, _, _, _, _, _, rfl⟩
          rw [List.take_add_one, hki] at hk
          rcases List.mem_append.mp hk with q | q
          · exact (hf2 z).2.1 k q
          · have := (hf2 z).2.2
            rw [List.length_map, List.take_length] at this
            rw [List.mem_singleton.mp q]
            exact this
    · rintro _ O3 ⟨bs, ch, bi, hks, hf, ht, hle1, hOb1, b4, b5, b6, b7, b8, b9, b10, rfl⟩
      refine ⟨if ch then mu bs + 1 else 0, ?_, bs, ch, bi, rfl, fun z => ?_, hle1, hOb1, _, _, _, _, _, _, _, rfl⟩
      · rw [hm, if_pos rfl]
        cases ch with
        | true => rw [if_pos rfl]; have := ht rfl; omega
        | false => rw [if_neg (by decide)]; omega
      · obtain ⟨e, hs⟩ := hf z
        subst e
        rw [List.length_map, List.take_length] at hs
        exact fun k hk => hs k (pm.mem_iff.mpr hk)
  · -- the end
    subst hc
    have hsat := hsat0 rfl
    refine sv_seq (sv_asgT (ev_tup (ea_cons (ev_callV (ea_cons (ev_var rfl) ea_nil) (P_law_rising.mk cs h)) (ea_cons (ev_callV (ea_cons (ev_var rfl) ea_nil) (P_law_falling.mk cs h)) ea_nil)) (by show 2 ≤ 100000; decide)) tg_tup2 ?_)
    refine sv_seq (sv_lockLc (em_lcX (d := b) (kvs := mapV D.int bs0) (f := goalB cs) (Gd := fun k => (wipeD ([some (.lst (iL cs)), some (.lst (offs.map offD)), some (.ref b), some (.bl false), a4, a5, some (.int (risOf cs : Nat)), some (.int (risOf cs.reverse : Nat)), a8, a9, a10]) [5]).set 5 (some (kbD k))) (ev_var rfl) hOb ?_ (fun y _ => tg_name) (fun y _ => ?_) (fun y _ => ev_var rfl) (fun y _ => ev_var rfl) (by rw [List.length_map]; have := bi0.len; omega) fun p hp => ?_))
    · unfold mapV
      rw [List.map_map]
      exact bi0.nb
    · refine et_is (et_test (ev_op (d1 := .int (needB cs y.1.2)) (ev_if (b := y.1.2) (et_B (ev_op (ev_var rfl) ev_int (rd_ixT (d := .bl y.1.2) rfl))) (fun e => ev_is (ev_var rfl) (by unfold needB; rw [e]; rfl)) (fun e => ev_is (ev_var rfl) (by unfold needB; rw [e]; rfl))) (ev_op (ev_var rfl) ev_int (rd_ixT (d := .int y.1.1) rfl)) rd_b)) rfl
    · have ev : ((mapV D.int bs0).filter fun y => goalB cs y.1).map (·.2) = iL ((bs0.filter fun y => goalB cs y.1).map (·.2)) := by
        unfold mapV iL
        rw [List.filter_map, List.map_map, List.map_map]
        rfl
      rw [ev]
      refine sv_freeze (i := 4) rfl oput_same ?_
      rw [odrop_put hp]
      have hmem : ∀ c, c ∈ (bs0.filter fun y => goalB cs y.1).map (·.2) → ∃ r, RowOf offs r ∧ goalB cs (endK r) = true ∧ costR r = c := fun c hc => by
        obtain ⟨x, hx, rfl⟩ := List.mem_map.mp hc
        obtain ⟨hx1, hx2⟩ := List.mem_filter.mp hx
        obtain ⟨r, r1, r2, r3⟩ := bi0.row x hx1
        exact ⟨r, r1, by rw [r2]; exact hx2, r3⟩
      have hlow : ∀ r, RowOf offs r → goalB cs (endK r) = true → ∃ c, c ∈ (bs0.filter fun y => goalB cs y.1).map (·.2) ∧ c ≤ costR r := fun r hr hg => by
        obtain ⟨v, hv, hz⟩ := bi_end bi0 hsat r hr
        exact ⟨v, List.mem_map.mpr ⟨(endK r, v), List.mem_filter.mpr ⟨getA_mem hv, hg⟩, rfl⟩, hz⟩
      have hne : EvT K (tTest (tOp (rNeD K) (tVar 4) (tLst tNil))) ([some (.lst (iL cs)), some (.lst (offs.map offD)), some (.ref b), some (.bl false), some (.lst (iL ((bs0.filter fun y => goalB cs y.1).map (·.2)))), a5, some (.int (risOf cs : Nat)), some (.int (risOf cs.reverse : Nat)), a8, a9, a10]) (!decide (((bs0.filter fun y => goalB cs y.1).map (·.2)) = [])) := et_is (et_test (ev_op (ev_var rfl) (ev_lstV ea_nil) (rd_neD (pl_iL 0 _) (.lst (n := 0) fun d h => by cases h)))) (by rw [show (D.lst []) = .lst (iL []) from rfl, deq_iL])
      rcases hres with ⟨hr, rfl⟩ | ⟨row, h1, h2, h3, rfl⟩
      · have hem : (bs0.filter fun y => goalB cs y.1).map (·.2) = [] := by
          rw [List.eq_nil_iff_forall_not_mem]
          intro c hc
          obtain ⟨r, r1, r2, _⟩ := hmem c hc
          rw [hr r r1] at r2
          cases r2
        rw [hem] at hne
        rw [hem]
        exact sv_ret (ev_if (b := false) (et_is hne (by rfl)) (fun z => by cases z) fun _ => ev_non) ⟨rfl, hle⟩
      · obtain ⟨c, hc, hcz⟩ := hlow row h1 h2
        obtain ⟨r, r1, r2, r3⟩ := hmem c hc
        have e1 : c = costR row := by
          have := h3 r r1 r2
          omega
        have hne2 : ¬ ((bs0.filter fun y => goalB cs y.1).map (·.2)) = [] := fun z => by rw [z] at hc; exact (nomatch hc)
        refine sv_ret (ev_if (b := true) (et_is hne (by rw [decide_eq_false hne2]; rfl)) (fun _ => ev_cb (ea_cons (ev_var rfl) ea_nil) (rc_min (by rw [← e1]; exact hc) fun y hy => ?_)) fun z => by cases z) ⟨rfl, hle⟩
        obtain ⟨r', q1, q2, q3⟩ := hmem y hy
        rw [← q3]
        exact h3 r' q1 q2

theorem cut_take {α : Type} (xs : List α) (n : Nat) (h : n ≤ xs.length) : cut xs none (some (n : Int)) = xs.take n := by
  unfold cut
  rw [HT.sIx_none, HT.sIx_nat, List.drop_zero, Nat.sub_zero, Nat.min_eq_left h]
theorem cut_drop {α : Type} (xs : List α) (n : Nat) (h : n ≤ xs.length) : cut xs (some (n : Int)) none = xs.drop n := by
  unfold cut
  rw [HT.sIx_none, HT.sIx_nat, Nat.min_eq_left h, List.take_of_length_le (by rw [List.length_drop]; exact Nat.le_refl _)]
theorem cut_takeI {α : Type} (xs : List α) (z : Int) (h : 0 ≤ z) : cut xs none (some z) = xs.take z.toNat := by
  obtain ⟨n, rfl⟩ : ∃ n : Nat, z = n := ⟨z.toNat, by omega⟩
  unfold cut
  rw [HT.sIx_none, HT.sIx_nat, List.drop_zero, Nat.sub_zero, show ((n : Nat) : Int).toNat = n by omega]
  rcases Nat.le_total n xs.length with e | e
  · rw [Nat.min_eq_left e]
  · rw [Nat.min_eq_right e, List.take_of_length_le (Nat.le_refl _), List.take_of_length_le e]
theorem src_is {wi : TI} {G : Sl} {ds ds' : List D} (h : SrcD K wi G ds) (e : ds = ds') : SrcD K wi G ds' := e ▸ h
theorem rngI_mem {lo : Int} {n : Nat} {x : Int} (h : x ∈ rng lo n) : ∃ j : Nat, j < n ∧ x = lo + j := by
  unfold rng at h
  obtain ⟨j, hj, rfl⟩ := List.mem_map.mp h
  exact ⟨j, List.mem_range.mp hj, rfl⟩
theorem rngI_in {lo : Int} {n j : Nat} (h : j < n) : lo + (j : Int) ∈ rng lo n := by
  unfold rng
  exact List.mem_map.mpr ⟨j, List.mem_range.mpr h, rfl⟩

inductive P_law_one (K : Fg) : List D → Om → Cn → Prop
  | mk (c : Int) (a b : D) (O : Om) (k : Cn) (h : P_cheapest K [a, b] O k) : P_law_one K [.int c, .tup [a, b]] O k
theorem C__law_one (T : Tx K mg base) : Cal P w K mg base "_law_one" 5 ["kind", "some"] (SpX K (P_law_one K)) := by
  refine cal_ex T.g__law_one T.f__law_one sc__law_one (len_X fun _ _ _ p => by cases p <;> rfl) (fun _ _ _ _ _ _ us hl => match us, hl with | [_, _], _ => rfl) (fun cdv A outer s H vs Q E hr h => ⟨_, (pss_one (ps_ret (pe_calX (C_cheapest T) (hr.mono (by decide)) (takes_of rfl rfl rfl rfl) (pa_cons (pe_ix (ixT (K := K)) (pv 1) pe_int (fun _ _ => rfl)) (pa_cons (pe_ix (ixT (K := K)) (pv 1) pe_int (fun _ _ => rfl)) pa_nil))))), body_x h fun ds O k p => ?_⟩)
  try dsimp only [cx_K]
  cases p with
  | mk c a b O k h => exact sv_retE (ex_call (ma_val (ea_cons (ev_op (ev_var rfl) ev_int (rd_ixT rfl)) (ea_cons (ev_op (ev_var rfl) ev_int (rd_ixT rfl)) ea_nil)) h))

/-- the ways of the law may change own objects -/
inductive P_law_told (K : Fg) : List D → Om → (D → Om → Prop) → Prop
  | mk (way : Int) (some : D) (O : Om) (k : D → Om → Prop) (h : ∀ kc : Cn, (∀ d O', k (.tup [.str "found", d]) O' → kc.rt d O') → (∀ (i : Nat) (x : Str) (O' : Om), kindsL[i]? = .some x → i ∈ kxI → (∀ O'', OLe O' O'' → k (.tup [.str "refused", .int i]) O'') → kc.ex (.ref (He.ga K x)) O') → P_law_one K [.int way, some] O kc) : P_law_told K [.int way, some] O k
theorem C__law_told (T : Tx K mg base) : Cal P w K mg base "_law_told" 6 ["way", "some"] (SpM K (P_law_told K)) := by
  refine cal_nox T.g__law_told T.f__law_told sc__law_told (len_M fun _ _ _ p => by cases p <;> rfl) (fun _ _ _ _ _ _ us hl => match us, hl with | [_, _], _ => rfl) (fun cdv A outer s H vs Q E hr h => ⟨_, (pss_cons (ps_set (i := 2) sc__law_told.nd rfl (by first | exact Or.inl rfl | exact Or.inr rfl) pe_non)
      (pss_cons (ps_set (i := 3) sc__law_told.nd rfl (by first | exact Or.inl rfl | exact Or.inr rfl) pe_non)
      (pss_cons (ps_try_keep (i := 4) (tb := fun W => tAsg (tCallS _ (WE W) _) (gName 3)) rfl rfl sc__law_told.nd rfl rfl ⟨by rfl, by decide, .inl T.g_SortError⟩ takes0 (fun W pn xe tk po => (pss_one (ps_set (i := 3) sc__law_told.nd rfl (by first | exact Or.inl rfl | exact Or.inr rfl) (pe_calS (C__law_one T) (hr.mono (by decide)) tk (pa_cons (pv 0) (pa_cons (pv 1) pa_nil)))))) (fun a pn => (pss_one (ps_set (i := 2) sc__law_told.nd rfl (by first | exact Or.inl rfl | exact Or.inr rfl) (pv 4)))))
      (pss_cons (ps_if (pt_cmpR op_isN (pv 2) pe_non (nomark _)) (pss_one (ps_ret (pe_tup (pa_cons pe_str (pa_cons (pv 3) pa_nil))))) pss_nil)
      (pss_one (ps_ret (pe_tup (pa_cons pe_str (pa_cons (pe_cal (C__law_word T) (hr.mono (by decide)) (pa_cons (pv 2) pa_nil)) pa_nil))))))))), body_m h fun ds O k p => ?_⟩)
  try dsimp only [cx_K]
  cases p with
  | mk way some O k h =>
    refine sv_seq (sv_asg ev_non (sv_seq (sv_asg ev_non (sv_seq ?_))))
    refine sv_tryE (ma_val (ea_cons (ev_var rfl) (ea_cons (ev_var rfl) ea_nil)) (h _ (fun d O' kd => ?_) fun i x O' hx hj kx => ?_)) (by show 4 < 5; decide)
    · exact sv_seq (sv_if (b := true) (et_is (et_test (ev_op (ev_var rfl) ev_non rd_isN)) rfl) (fun _ => sv_ret (ev_tup (ea_cons ev_str (ea_cons (ev_var rfl) ea_nil)) (by show 2 ≤ 100000; decide)) kd) (fun h => by cases h))
    · have X := T_exc T hx hj
      refine ⟨X.m, fun a ha => ?_⟩
      refine sv_seq (sv_if (b := false) (et_is (et_test (ev_op (ev_var (d := .ref a) rfl) ev_non rd_isN)) rfl) (fun h => by cases h) fun _ => sv_next ?_)
      exact sv_retM (em_tup (ma_cons (em_val ev_str (ma_cons (em_call (ma_val (ea_cons (ev_var rfl) ea_nil) (.mk a i x _ _ hx hj oput_same X.c X.l (ma_nil ⟨by show 2 ≤ 100000; decide, kx _ (OLe.new ha)⟩))))))))

/-! the cheapest price of each machine -/
def minO (l : List Of) (m : Mc) : Option Int := l.foldl (fun a o => if o.1 = m then some (if a.getD 100 < o.2 then a.getD 100 else o.2) else a) none
theorem minO_snoc (l : List Of) (o : Of) (m : Mc) : minO (l ++ [o]) m = if o.1 = m then some (if (minO l m).getD 100 < o.2 then (minO l m).getD 100 else o.2) else minO l m := by
  unfold minO
  rw [List.foldl_append]
  rfl
theorem minO_some {l : List Of} (hl : ∀ o ∈ l, o.2 ≤ 20) {m : Mc} {c : Int} : minO l m = some c → ∃ o ∈ l, o.1 = m ∧ o.2 = c := by
  refine row_ind (motive := fun l => (∀ o ∈ l, o.2 ≤ 20) → ∀ c, minO l m = some c → ∃ o ∈ l, o.1 = m ∧ o.2 = c) (fun _ c h => by cases h) (fun l o ih hl c h => ?_) l hl c
  have h20 := hl o (List.mem_append_right _ (List.mem_singleton.mpr rfl))
  have ih := ih fun x hx => hl x (List.mem_append_left _ hx)
  rw [minO_snoc] at h
  by_cases e : o.1 = m
  · rw [if_pos e] at h
    have h := Option.some.inj h
    by_cases hc : (minO l m).getD 100 < o.2
    · rw [if_pos hc] at h
      cases hm : minO l m with
      | none => rw [hm] at hc; exact absurd hc (by show ¬ (100 : Int) < o.2; omega)
      | some d =>
        rw [hm] at h
        obtain ⟨x, h1, h2, h3⟩ := ih d hm
        exact ⟨x, List.mem_append_left _ h1, h2, h3.trans h⟩
    · rw [if_neg hc] at h
      exact ⟨o, List.mem_append_right _ (List.mem_singleton.mpr rfl), e, h⟩
  · rw [if_neg e] at h
    obtain ⟨x, h1, h2, h3⟩ := ih c h
    exact ⟨x, List.mem_append_left _ h1, h2, h3⟩
theorem minO_le {l : List Of} {o : Of} : o ∈ l → ∃ c, minO l o.1 = some c ∧ c ≤ o.2 := by
  refine row_ind (motive := fun l => o ∈ l → ∃ c, minO l o.1 = some c ∧ c ≤ o.2) (fun h => (nomatch h)) (fun l x ih h => ?_) l
  rw [minO_snoc]
  by_cases e : x.1 = o.1
  · rw [if_pos e]
    refine ⟨_, rfl, ?_⟩
    rcases List.mem_append.mp h with h | h
    · obtain ⟨c, h1, h2⟩ := ih h
      rw [h1]
      show (if c < x.2 then c else x.2) ≤ o.2
      split <;> omega
    · rw [List.mem_singleton.mp h]
      split <;> omega
  · rw [if_neg e]
    rcases List.mem_append.mp h with h | h
    · exact ih h
    · exact absurd (by rw [List.mem_singleton.mp h]) e
abbrev mK (m : Mc) : List Key := [.inr (kS m.1), .inl m.2]
theorem mK_inj {a b : Mc} (h : mK a = mK b) : a = b := by
  injection h with h1 h2
  injection h1 with h1
  injection h2 with h2 _
  injection h2 with h2
  exact Prod.ext (kS_inj _ _ h1) h2
def endM (l : List Mc) : KB := l.foldl nxtK (1, false)
theorem endK_M (r : List Of) : endK r = endM (r.map (·.1)) := by
  unfold endK endM
  rw [List.foldl_map]
/-- the prices of the cheapest offers of a row's machines -/
def minR (offs r : List Of) : List Int := r.map fun o => (minO offs o.1).getD 0
theorem cheap_row {offs : List Of} (ok : OffsOk offs) (r : List Of) : RowOf offs r → ∃ r', RowOf offs r' ∧ r'.map (·.1) = r.map (·.1) ∧ costR r' = (minR offs r).sum ∧ (minR offs r).sum ≤ costR r := by
  refine row_ind (motive := fun r => RowOf offs r → ∃ r', RowOf offs r' ∧ r'.map (·.1) = r.map (·.1) ∧ costR r' = (minR offs r).sum ∧ (minR offs r).sum ≤ costR r) (fun _ => ⟨[], fun o h => (nomatch h), rfl, rfl, Int.le_refl 0⟩) (fun r o ih hr => ?_) r
  obtain ⟨h1, h2⟩ := hr.init
  obtain ⟨r', a, b, c, d⟩ := ih h1
  obtain ⟨c1, hc1, hc2⟩ := minO_le h2
  obtain ⟨o', q1, q2, q3⟩ := minO_some (fun x hx => (ok.ok x hx).2.2) hc1
  have e : minR offs (r ++ [o]) = minR offs r ++ [c1] := by
    unfold minR
    rw [List.map_append, List.map_singleton, hc1]
    rfl
  refine ⟨r' ++ [o'], a.snoc q1, by rw [List.map_append, List.map_append, b, List.map_singleton, List.map_singleton, q2], ?_, ?_⟩
  · rw [costR_snoc, e, List.sum_append, c, q3]
    simp
  · rw [costR_snoc, e, List.sum_append]
    simp
    omega
theorem cheap_sum {cs : List Int} {offs r : List Of} (ok : OffsOk offs) (h1 : RowOf offs r) (h2 : goalB cs (endK r) = true) (h3 : ∀ r', RowOf offs r' → goalB cs (endK r') = true → costR r ≤ costR r') : (minR offs r).sum = costR r := by
  obtain ⟨r', a, b, c, d⟩ := cheap_row ok r h1
  have := h3 r' a (by rw [endK_M, b, ← endK_M]; exact h2)
  omega
theorem goal_room {cs : List Int} {offs r : List Of} (ok : OffsOk offs) (h1 : RowOf offs r) (h2 : goalB cs (endK r) = true) : needB cs (isOdd (r.map (·.1))) ≤ roomOf (r.map (·.1)) := by
  obtain ⟨a, b, _⟩ := row_room ok r h1
  have := of_decide_eq_true h2
  rw [b] at this
  omega
/-! things that are no offers -/
theorem ofA_nt {d : D} (h : nrD d = true) (hl : ∀ ds, d = .lst ds → ∀ x ∈ ds, nrD x = true) (hn : ∀ ds, d ≠ .tup ds) : OfA d := ⟨⟨h, fun x ⟨ds, e, hx⟩ => by
  rcases e with e | e
  · exact hl ds e x hx
  · exact absurd e (hn ds)⟩, fun ds e => absurd e (hn ds), fun ds x e => absurd e (hn ds)⟩
theorem nrA_t2 {x y : D} (h1 : nrD x = true) (h2 : nrD y = true) : nrA (.tup [x, y]) ∧ ∀ es, (D.tup [x, y]) = .tup es → es.length ≤ 1000 := ⟨⟨rfl, fun z ⟨ds, e, hz⟩ => by
  rcases e with e | e
  · cases e
  · cases e
    rcases List.mem_cons.mp hz with e | hz
    · rw [e]; exact h1
    · rw [List.mem_singleton.mp hz]; exact h2⟩, fun es e => by cases e; show 2 ≤ 1000; decide⟩
theorem ofA_pair {a b c : D} (h1 : nrD a = true) (h2 : nrD b = true) (h3 : nrD c = true) : OfA (.tup [.tup [a, b], c]) := ⟨(nrA_t2 rfl h3).1, (nrA_t2 rfl h3).2, fun ds x e hx => by
  cases e
  have := (Option.some.inj hx).symm
  subst this
  exact nrA_t2 h1 h2⟩
theorem ofA_off (o : Of) : OfA (offD o) := ofA_pair rfl rfl rfl
theorem ofsA_lst {ds : List D} (hl : ds.length ≤ 1000) (h : ∀ x ∈ ds, OfA x) : OfsA (.lst ds) := ⟨rfl, fun ds e => by cases e; exact hl, fun ds e => by cases e; exact h⟩
theorem ofsA_nl {d : D} (h : nrD d = true) (hn : ∀ ds, d ≠ .lst ds) : OfsA d := ⟨h, fun ds e => absurd e (hn ds), fun ds e => absurd e (hn ds)⟩
theorem offersB_lst (ds : List D) : offersB (.lst ds) = (decide ((1 : Int) ≤ (ds.length : Nat)) && decide (((ds.length : Nat) : Int) ≤ 4) && ds.all offerB) := rfl
theorem offersB_one {x : D} (h : offerB x = false) : offersB (.lst [x]) = false := by
  show (decide ((1 : Int) ≤ (([x] : List D).length : Nat)) && decide (((([x] : List D).length : Nat) : Int) ≤ 4) && ([x] : List D).all offerB) = false
  rw [List.all_cons, h]
  simp
theorem fil_no {α : Type} : ∀ l : List α, l.filter (fun _ => false) = []
  | [] => rfl
  | _ :: l => by rw [List.filter_cons, if_neg (by decide), fil_no l]
theorem fil_yes {α : Type} : ∀ l : List α, l.filter (fun _ => true) = l
  | [] => rfl
  | x :: l => by rw [List.filter_cons, if_pos rfl, fil_yes l]
def OddOk (d : D) : Prop := OfsA d ∧ offersB d = false
theorem C_law (T : Tx K mg base) : Cal P w K mg base "law" 7 ["script"] (SpM K (PLawT (tbC K) tbQC)) := by
  refine cal_nox T.g_law T.f_law sc_law (len_M fun _ _ _ p => by cases p <;> rfl) (fun _ _ _ _ _ _ us hl => match us, hl with | [_], _ => rfl) (fun cdv A outer s H vs Q E hr h => ⟨_, (pss_cons (ps_set (i := 1) sc_law.nd rfl (by first | exact Or.inl rfl | exact Or.inr rfl) (pe_cal (C__law_town T) (hr.mono (by decide)) (pa_cons (pv 0) pa_nil)))
      (pss_cons (ps_set (i := 2) sc_law.nd rfl (by first | exact Or.inl rfl | exact Or.inr rfl) (pe_cal (C__law_cards T) (hr.mono (by decide)) (pa_cons (pv 0) (pa_cons (pv 1) (pa_cons pe_int pa_nil)))))
      (pss_cons (ps_set (i := 3) sc_law.nd rfl (by first | exact Or.inl rfl | exact Or.inr rfl) (pe_lst pa_nil))
      (pss_cons (ps_for PassesOwn.never rfl (pi_range1 (by rfl) T.b_range (pa_cons (pe_op op_add pe_int (pe_cal (C__law_draw T) (hr.mono (by decide)) (pa_cons (pv 0) (pa_cons (pv 1) (pa_cons pe_int pa_nil))))) pa_nil)) (pg_name (i := 4) sc_law.nd rfl (by first | exact Or.inl rfl | exact Or.inr rfl))
      (pss_cons (ps_set (i := 10) sc_law.nd rfl (by first | exact Or.inl rfl | exact Or.inr rfl) (pe_cal (C__law_machine T) (hr.mono (by decide)) (pa_cons (pv 0) (pa_cons (pv 1) (pa_cons (pe_cal (C__law_pick T) (hr.mono (by decide)) (pa_cons (pv 0) (pa_cons (pv 1) (pa_cons (pe_lst (pa_cons pe_int (pa_cons pe_int (pa_cons pe_int (pa_cons pe_int pa_nil))))) pa_nil)))) pa_nil)))))
      (pss_one (ps_expr (bmK (K := K) PySem.F.plainAttrs_list PySem.F.slot_list_append PySem.F.type_list_append mt_append (pv 3) (pa_cons (pe_tup (pa_cons (pv 10) (pa_cons (pe_op op_add pe_int (pe_cal (C__law_draw T) (hr.mono (by decide)) (pa_cons (pv 0) (pa_cons (pv 1) (pa_cons pe_int pa_nil))))) pa_nil))) pa_nil))))))
      (pss_cons (ps_if (PW.pt (pw_and (pt_cmpR op_lt (pe_callB (lenK (K := K)) (by rfl) T.b_len (by decide +kernel) (pa_cons (pv 3) pa_nil)) pe_int (nomark _)) (pw_and1 (pt_cmpR op_eq (pe_cal (C__law_draw T) (hr.mono (by decide)) (pa_cons (pv 0) (pa_cons (pv 1) (pa_cons pe_int pa_nil)))) pe_int (nomark _))))) (pss_one (ps_expr (bmK (K := K) PySem.F.plainAttrs_list PySem.F.slot_list_append PySem.F.type_list_append mt_append (pv 3) (pa_cons (pe_tup (pa_cons (pe_ix (ixT (K := K)) (pe_ix (ixL (K := K)) (pv 3) pe_int (fun _ _ => rfl)) pe_int (fun _ _ => rfl)) (pa_cons (pe_op op_add pe_int (pe_cal (C__law_draw T) (hr.mono (by decide)) (pa_cons (pv 0) (pa_cons (pv 1) (pa_cons pe_int pa_nil))))) pa_nil))) pa_nil)))) pss_nil)
      (pss_cons (ps_set (i := 5) sc_law.nd rfl (by first | exact Or.inl rfl | exact Or.inr rfl) (pe_mk (C_Deck___init__ T) (hr.mono (by decide)) (pa_cons (pv 2) pa_nil) T.g_Deck))
      (pss_cons (ps_set (i := 6) sc_law.nd rfl (by first | exact Or.inl rfl | exact Or.inr rfl) (pe_cal (C_cheapest T) (hr.mono (by decide)) (pa_cons (pv 5) (pa_cons (pe_callTy (listK (K := K)) (by rfl) T.b_list (by decide +kernel) (pa_cons (pv 3) pa_nil)) pa_nil))))
      (pss_cons (ps_set (i := 7) sc_law.nd rfl (by first | exact Or.inl rfl | exact Or.inr rfl) (pe_cal (C__law_least T) (hr.mono (by decide)) (pa_cons (pv 2) (pa_cons (pv 3) pa_nil))))
      (pss_cons (ps_if (pt_cmpR op_isN (pv 7) pe_non (nomark _)) (pss_one (ps_if (pt_cmpR op_notN (pv 6) pe_non (nomark _)) (pss_one (ps_ret pe_bl)) pss_nil)) (pss_cons (ps_if (PW.pt (pw_or (pt_not (pt_val (pe_callB (isiK (K := K)) (by rfl) T.b_isinstance (by decide +kernel) (pa_cons (pv 6) (pa_cons (pe_bltn (v := .ty "tuple") (by rfl) T.b_tuple (by decide +kernel) rfl) pa_nil))))) (pw_or (pt_cmpR op_ne (pe_ix (ixT (K := K)) (pv 6) pe_int (fun _ _ => rfl)) (pv 7) (nomark _)) (pw_or (pt_not (pt_val (pe_cal (C__law_whole T) (hr.mono (by decide)) (pa_cons (pe_ix (ixT (K := K)) (pv 6) pe_int (fun _ _ => rfl)) pa_nil)))) (pw_or1 (pt_not (pt_val (pe_callB (isiK (K := K)) (by rfl) T.b_isinstance (by decide +kernel) (pa_cons (pe_ix (ixT (K := K)) (pv 6) pe_int (fun _ _ => rfl)) (pa_cons (pe_bltn (v := .ty "list") (by rfl) T.b_list (by decide +kernel) rfl) pa_nil)))))))))) (pss_one (ps_ret pe_bl)) pss_nil)
      (pss_cons (ps_set (i := 11) sc_law.nd rfl (by first | exact Or.inl rfl | exact Or.inr rfl) pe_dnewT)
      (pss_cons (ps_for PassesOwn.never rfl (piL (K := K) (pv 3)) (pgT (K := K) rfl (pgs_cons (pg_name (i := 10) sc_law.nd rfl (by first | exact Or.inl rfl | exact Or.inr rfl)) (pgs_cons (pg_name (i := 12) sc_law.nd rfl (by first | exact Or.inl rfl | exact Or.inr rfl)) pgs_nil)))
      (pss_one (ps_dput (hu1 hr.units) (pv 11) (pv 10) (pe_callB (call_min2 rfl) (by rfl) T.b_min (by decide +kernel) (pa_cons (pv 12) (pa_cons (pe_dget2 (hu1 hr.units) (pv 11) (pv 10) pe_int ⟨by rfl, by rfl, by rfl, by rfl⟩) pa_nil))) (by rfl))))
      (pss_cons (ps_if (PW.pt (pw_or (pt_cmpR (neDK (K := K) hr.units) (pe_lc (own := [("one", 13)]) (g := gName 13) rfl sc_law.nd (piL (K := K) (pe_ix (ixT (K := K)) (pv 6) pe_int (fun _ _ => rfl))) (blkOk_by (own := [("one", 13)]) (N := N_law) (sc := defScope s_law) (by decide +kernel)) (fun _ _ _ _ _ => (pg_name (i := 13) sc_law.nd rfl (by first | exact Or.inl rfl | exact Or.inr rfl))) (fun _ _ _ _ _ => pts_one (pt_cmp (pc_dnotin (hu1 hr.units) (pv 13) (pv 11)))) (fun _ _ _ _ _ => (pv 13))) (pe_lst pa_nil) (nomark _)) (pw_or1 (pt_cmpR op_ne (pe_callB (sumK (K := K)) (by rfl) T.b_sum (by decide +kernel) (pa_cons (pe_lc (own := [("one", 13)]) (g := gName 13) (tt := tYes) rfl sc_law.nd (piL (K := K) (pe_ix (ixT (K := K)) (pv 6) pe_int (fun _ _ => rfl))) (blkOk_by (own := [("one", 13)]) (N := N_law) (sc := defScope s_law) (by decide +kernel)) (fun _ _ _ _ _ => (pg_name (i := 13) sc_law.nd rfl (by first | exact Or.inl rfl | exact Or.inr rfl))) (fun _ _ _ _ _ => pts_nil) (fun _ _ _ _ _ => (pe_dget (hu1 hr.units) (pv 11) (pv 13) (fun _ _ => rfl)))) pa_nil)) (pv 7) (nomark _))))) (pss_one (ps_ret pe_bl)) pss_nil)
      (pss_one (ps_if (pt_cmpR op_gt (pe_ifExp (pt_val (pe_cal (C__law_odd T) (hr.mono (by decide)) (pa_cons (pe_ix (ixT (K := K)) (pv 6) pe_int (fun _ _ => rfl)) pa_nil))) (pe_cal (C__law_falling T) (hr.mono (by decide)) (pa_cons (pv 2) pa_nil)) (pe_cal (C__law_rising T) (hr.mono (by decide)) (pa_cons (pv 2) pa_nil))) (pe_cal (C__law_room T) (hr.mono (by decide)) (pa_cons (pe_ix (ixT (K := K)) (pv 6) pe_int (fun _ _ => rfl)) pa_nil)) (nomark _)) (pss_one (ps_ret pe_bl)) pss_nil)))))))
      (pss_cons (ps_set (i := 8) sc_law.nd rfl (by first | exact Or.inl rfl | exact Or.inr rfl) (pe_cal (C__law_pick T) (hr.mono (by decide)) (pa_cons (pv 0) (pa_cons (pv 1) (pa_cons (pe_lst (pa_cons (pe_lst pa_nil) (pa_cons (pe_slice (slL (K := K)) (pe_op op_rep (pv 3) pe_int) po_none (po_some pe_int)) (pa_cons (pe_callTy (tupleK (K := K)) (by rfl) T.b_tuple (by decide +kernel) (pa_cons (pv 3) pa_nil)) (pa_cons pe_non (pa_cons (pe_op op_cat (pe_slice (slL (K := K)) (pv 3) po_none (po_some pe_int)) (pe_lst (pa_cons (pe_tup (pa_cons (pe_tup (pa_cons pe_str (pa_cons pe_int pa_nil))) (pa_cons pe_int pa_nil))) pa_nil))) pa_nil)))))) pa_nil)))))
      (pss_cons (ps_set (i := 9) sc_law.nd rfl (by first | exact Or.inl rfl | exact Or.inr rfl) (pe_lst (pa_cons (pv 8) (pa_cons (pe_lst (pa_cons (pe_tup (pa_cons (pe_tup (pa_cons pe_str (pa_cons pe_int pa_nil))) (pa_cons pe_int pa_nil))) pa_nil)) (pa_cons (pe_lst (pa_cons (pe_tup (pa_cons (pe_tup (pa_cons pe_str (pa_cons pe_int pa_nil))) (pa_cons pe_int pa_nil))) pa_nil)) (pa_cons (pe_lst (pa_cons (pe_tup (pa_cons (pe_tup (pa_cons pe_str (pa_cons pe_int pa_nil))) (pa_cons pe_bl pa_nil))) pa_nil)) (pa_cons (pe_lst (pa_cons (pe_tup (pa_cons pe_str (pa_cons pe_int (pa_cons pe_int pa_nil)))) pa_nil)) (pa_cons pe_dnewK pa_nil))))))))
      (pss_one (ps_ret (pe_cmpR (eqDK (K := K) hr.units) (pe_lc (own := [("one", 13)]) (g := gName 13) (tt := tYes) rfl sc_law.nd (piL (K := K) (pv 9)) (blkOk_by (own := [("one", 13)]) (N := N_law) (sc := defScope s_law) (by decide +kernel)) (fun _ _ _ _ _ => (pg_name (i := 13) sc_law.nd rfl (by first | exact Or.inl rfl | exact Or.inr rfl))) (fun _ _ _ _ _ => pts_nil) (fun _ _ _ _ _ => (pe_cal (C__law_told T) (hr.mono (by decide)) (pa_cons pe_int (pa_cons (pe_tup (pa_cons (pv 5) (pa_cons (pv 13) pa_nil))) pa_nil))))) (pe_op op_rep (pe_lst (pa_cons (pe_cal (C__law_refused T) (hr.mono (by decide)) (pa_cons pe_str pa_nil)) pa_nil)) pe_int) (nomark _))))))))))))))), body_m h fun ds O k p => ?_⟩)
  try dsimp only [cx_K]
  cases p with
  | mk ns O k hl hO hk =>
    -- town
    refine sv_seq (sv_asgN (ev_callN (ea_cons (ev_var rfl) ea_nil) (P_law_town.mk ns hl)) fun t ht => ?_)
    refine sv_conv (OTo.close (n := 0) oput_same (by decide) (by decide) rfl) ?_
    rw [oput_oput]
    have hTt : tbC K ≠ t := one_none hO ht
    -- cards
    refine sv_seq (sv_asgM (em_call (ma_val (ea_cons (ev_var rfl) (ea_cons (ev_var rfl) (ea_cons ev_int ea_nil))) ?_)))
    refine .mk ns t _ 40 _ _ oput_same hl (by decide) (by decide) (by decide) fun cs hcs _ => ?_
    rw [oput_oput]
    -- offers
    refine sv_seq (sv_asgM (em_lst (ma_nil ⟨by show 0 ≤ 100000; decide, fun p hp => ?_⟩)))
    have hpt : t ≠ p := one_none oput_same hp
    have hTp : tbC K ≠ p := one_none (b := .tab tbQC) (O := oput O t (.town ns.length (0 + 100))) (by rw [oput_ne hTt]; exact hO) hp
    refine sv_seq (sv_forM (src_r1M (ma_cons (em_op (em_val ev_int (em_call (ma_val (ea_cons (ev_var rfl) (ea_cons (ev_var rfl) (ea_cons ev_int ea_nil))) ?_)))))))
    refine .mk ns t _ 4 _ _ (by rw [oput_ne hpt]; exact oput_same) hl (by decide) (by decide) (by decide) fun q q0 q1 => ⟨_, rd_i, ma_nil ⟨_, rfl, by omega, by omega, ?_⟩⟩
    rw [oput_comm hpt.symm, oput_oput]
    refine ⟨fun i G2 O2 => ∃ offs a10, offs.length = i ∧ (∀ o ∈ offs, MOk o.1 ∧ 1 ≤ o.2 ∧ o.2 ≤ 20) ∧ i ≤ 4 ∧ O2 = oput (oput O t (.town ns.length (101 + 4 * i))) p (.lst (offs.map offD)) ∧ ∃ a4, G2 = [some (.scr ns), some (.ref t), some (.lst (iL cs)), some (.ref p), a4, none, none, none, none, none, a10, none, none, none],
      ⟨[], _, rfl, fun o h => (nomatch h), by decide, rfl, _, rfl⟩, ?_, ?_⟩
    · rintro i d _ O2 hd ⟨offs, a10, hi, hok, hi4, rfl, a4, rfl⟩
      have hlt : i < (1 + q).toNat := by
        have := (List.getElem?_eq_some_iff.mp hd).1
        rw [List.length_map, rng_len] at this
        exact this
      refine ⟨_, _, tg_name, sv_seq (sv_asgM (em_call (ma_cons (em_val (ev_var rfl) (ma_cons (em_val (ev_var rfl) (ma_cons (em_call (ma_val (ea_cons (ev_var rfl) (ea_cons (ev_var rfl) (ea_cons (ev_lstV (ea_cons ev_int (ea_cons ev_int (ea_cons ev_int (ea_cons ev_int ea_nil))))) ea_nil))) ?_)))))))))⟩
      refine .mk ns t _ _ _ _ (by rw [oput_ne hpt]; exact oput_same) hl (by omega) (by decide) (by decide) fun j d hd => ?_
      obtain ⟨most, rfl, hm1, hm2⟩ : ∃ n : Int, d = .int n ∧ 1 ≤ n ∧ n ≤ 40 := by
        rcases j with _ | _ | _ | _ | j
        · exact ⟨1, (Option.some.inj hd).symm, by decide, by decide⟩
        · exact ⟨2, (Option.some.inj hd).symm, by decide, by decide⟩
        · exact ⟨5, (Option.some.inj hd).symm, by decide, by decide⟩
        · exact ⟨40, (Option.some.inj hd).symm, by decide, by decide⟩
        · cases hd
      rw [oput_comm hpt.symm, oput_oput]
      refine ma_nil (.mk ns t _ most _ _ (by rw [oput_ne hpt]; exact oput_same) hl (by omega) (by omega) (by omega) fun m hm3 hm4 => ?_)
      rw [oput_comm hpt.symm, oput_oput]
      refine sv_dropM (em_append (em_val (ev_var rfl) ⟨p, _, rfl, oput_same, em_tup (ma_cons (em_val (ev_var rfl) (ma_cons (em_op (em_val ev_int (em_call (ma_val (ea_cons (ev_var rfl) (ea_cons (ev_var rfl) (ea_cons ev_int ea_nil))) ?_)))))))⟩))
      refine .mk ns t _ 20 _ _ (by rw [oput_ne hpt]; exact oput_same) hl (by omega) (by decide) (by decide) fun r r0 r1 => ⟨_, rd_i, ma_nil ⟨by show 2 ≤ 100000; decide, offs.map offD, ?_, by rw [List.length_map]; omega, ?_⟩⟩
      · rw [oput_comm hpt.symm]
        exact oput_same
      · refine ⟨offs ++ [(m, 1 + r)], _, by rw [List.length_append, hi]; rfl, fun o ho => ?_, by omega, ?_, _, rfl⟩
        · rcases List.mem_append.mp ho with ho | ho
          · exact hok o ho
          · rw [List.mem_singleton.mp ho]
            exact ⟨⟨hm3, by show m.2 ≤ 300; omega⟩, by show 1 ≤ 1 + r; omega, by show 1 + r ≤ 20; omega⟩
        · rw [oput_comm hpt.symm, oput_oput, oput_oput, List.map_append]
          congr 3
    rintro _ O2 ⟨offs0, a10, hi, hok0, hi4, rfl, a4, rfl⟩
    rw [List.length_map, rng_len] at hi hi4
    generalize hN : 101 + 4 * (iL (rng 0 (1 + q).toNat)).length = N
    have hNb : N ≤ 117 := by rw [← hN, List.length_map, rng_len]; omega
    -- one more
    refine sv_cut (fun G' O' => ∃ offs N' a10, OffsOk offs ∧ N' ≤ 119 ∧ O' = oput (oput O t (.town ns.length N')) p (.lst (offs.map offD)) ∧ ∃ a4, G' = [some (.scr ns), some (.ref t), some (.lst (iL cs)), some (.ref p), a4, none, none, none, none, none, a10, none, none, none]) ?_ ?_
    · have hpO2 : ∀ x, oput O t (.town ns.length x) p = none := fun x => by rw [oput_ne hpt.symm]; rw [oput_ne hpt.symm] at hp; exact hp
      have ok0 : OffsOk offs0 := ⟨by omega, by omega, hok0⟩
      have hlen : ((offs0.map offD).length : Int) = offs0.length := by rw [List.length_map]
      refine sv_ifM (mt_and (mt_test (em_op (em_lenO (em_val (ev_var rfl) ⟨p, _, rfl, oput_same, em_val ev_int ⟨_, rd_b, _, rfl, fun hlt => ?_, fun _ => ⟨fun z => (by cases z), fun _ => sv_next ⟨offs0, N, _, ok0, by omega, rfl, _, rfl⟩⟩⟩⟩)))))
      have hlt := of_decide_eq_true hlt
      refine mt_test (em_op (em_call (ma_val (ea_cons (ev_var rfl) (ea_cons (ev_var rfl) (ea_cons ev_int ea_nil))) ?_)))
      refine .mk ns t _ 4 _ _ (by rw [oput_ne hpt]; exact oput_same) hl (by omega) (by decide) (by decide) fun r r0 r1 => em_val ev_int ⟨_, rd_eqI, _, rfl, fun _ => ?_, fun _ => sv_next ⟨offs0, N + 1, _, ok0, by omega, by rw [oput_comm hpt.symm, oput_oput], _, rfl⟩⟩
      rw [oput_comm hpt.symm, oput_oput]
      obtain ⟨o0, rest, rfl⟩ : ∃ o0 rest, offs0 = o0 :: rest := by
        cases offs0 with
        | nil => exact absurd ok0.l1 (by decide)
        | cons a b => exact ⟨a, b, rfl⟩
      refine sv_dropM (em_append (em_val (ev_var rfl) ⟨p, _, rfl, oput_same, em_tup (ma_cons (em_op (em_ixO (em_val (ev_var rfl) ⟨p, rfl, em_val ev_int ⟨0, offD o0, _, rfl, oput_same, at_zero, em_val ev_int ⟨_, rd_ixT (d := encM o0.1) rfl, ma_cons (em_op (em_val ev_int (em_call (ma_val (ea_cons (ev_var rfl) (ea_cons (ev_var rfl) (ea_cons ev_int ea_nil))) ?_))))⟩⟩⟩))))⟩))
      refine .mk ns t _ 20 _ _ (by rw [oput_ne hpt]; exact oput_same) hl (by omega) (by decide) (by decide) fun r r0 r1 => ⟨_, rd_i, ma_nil ⟨by show 2 ≤ 100000; decide, (o0 :: rest).map offD, ?_, by rw [List.length_map]; have := ok0.l4; omega, ?_⟩⟩
      · rw [oput_comm hpt.symm]
        exact oput_same
      · refine ⟨(o0 :: rest) ++ [(o0.1, 1 + r)], N + 2, _, ⟨by rw [List.length_append]; have := ok0.l1; omega, by rw [List.length_append, List.length_singleton]; omega, fun o ho => ?_⟩, by omega, ?_, _, rfl⟩
        · rcases List.mem_append.mp ho with ho | ho
          · exact hok0 o ho
          · rw [List.mem_singleton.mp ho]
            exact ⟨(hok0 o0 List.mem_cons_self).1, by show 1 ≤ 1 + r; omega, by show 1 + r ≤ 20; omega⟩
        · rw [oput_comm hpt.symm, oput_oput, oput_oput, List.map_append]
          rfl
    rintro _ _ ⟨offs, N', a10, ok, hN', rfl, a4, rfl⟩
    have hpO : oput O t (.town ns.length N') p = none := by rw [oput_ne hpt.symm]; rw [oput_ne hpt.symm] at hp; exact hp
    refine sv_freeze (i := 3) rfl oput_same ?_
    rw [odrop_put hpO]
    generalize hOT : oput O t (.town ns.length N') = OT
    have hOTt : OT t = some (.town ns.length N') := by rw [← hOT]; exact oput_same
    have hOTT : OT (tbC K) = some (.tab tbQC) := by rw [← hOT, oput_ne hTt]; exact hO
    -- the deck, what is told
    refine sv_seq (sv_asg (ev_Deck (ea_cons (ev_var rfl) ea_nil) hcs) ?_)
    refine sv_cut (fun G' O' => ∃ dt, (((∀ r, RowOf offs r → goalB cs (endK r) = false) ∧ dt = .non) ∨ ∃ r, RowOf offs r ∧ goalB cs (endK r) = true ∧ (∀ r', RowOf offs r' → goalB cs (endK r') = true → costR r ≤ costR r') ∧ r.length ≤ 80 ∧ dt = .tup [.int (costR r), .lst ((r.map (·.1)).map encM)]) ∧ OLe OT O' ∧ G' = [some (.scr ns), some (.ref t), some (.lst (iL cs)), some (.lst (offs.map offD)), a4, some (deckD K cs), some dt, none, none, none, a10, none, none, none]) ?_ ?_
    · refine sv_asgM (em_callX (ma_val (ea_cons (ev_var rfl) (ea_cons (ev_cb (ea_cons (ev_var rfl) ea_nil) (RC.lst rc_list)) ea_nil)) (.ok cs offs _ _ hcs ok hOTT (fun hr O' hle => ⟨_, .inl ⟨hr, rfl⟩, hle, rfl⟩) fun r h1 h2 h3 h4 O' hle => ⟨_, .inr ⟨r, h1, h2, h3, h4, rfl⟩, hle, rfl⟩)))
    rintro _ O1 ⟨dt, hdt, hle1, rfl⟩
    -- due, and what is asked of it
    refine sv_cut (fun G' O' => ∃ du, ((dt = .non ∧ du = .non) ∨ ∃ r, RowOf offs r ∧ goalB cs (endK r) = true ∧ (∀ r', RowOf offs r' → goalB cs (endK r') = true → costR r ≤ costR r') ∧ r.length ≤ 80 ∧ dt = .tup [.int (costR r), .lst ((r.map (·.1)).map encM)] ∧ du = .int (costR r)) ∧ O' = O1 ∧ G' = [some (.scr ns), some (.ref t), some (.lst (iL cs)), some (.lst (offs.map offD)), a4, some (deckD K cs), some dt, some du, none, none, a10, none, none, none]) ?_ ?_
    · rcases hdt with ⟨hr, rfl⟩ | ⟨r, h1, h2, h3, h4, rfl⟩
      · exact sv_asg (ev_callV (ea_cons (ev_var rfl) (ea_cons (ev_var rfl) ea_nil)) (P_law_least.non cs offs hcs ok hr)) ⟨_, .inl ⟨rfl, rfl⟩, rfl, rfl⟩
      · exact sv_asg (ev_callV (ea_cons (ev_var rfl) (ea_cons (ev_var rfl) ea_nil)) (P_law_least.mk cs offs r hcs ok h1 h2 h3)) ⟨_, .inr ⟨r, h1, h2, h3, h4, rfl, rfl⟩, rfl, rfl⟩
    rintro _ O1 ⟨du, hdu, rfl, rfl⟩
    refine sv_cut (fun G' O' => ∃ a5 a6 a7 b10 b11 b12, OLe OT O' ∧ G' = [some (.scr ns), some (.ref t), some (.lst (iL cs)), some (.lst (offs.map offD)), a4, some (deckD K cs), a6, a7, none, none, b10, b11, b12, a5]) ?_ ?_
    · rcases hdu with ⟨rfl, rfl⟩ | ⟨r, h1, h2, h3, h4, rfl, rfl⟩
      · refine sv_if (b := true) (et_is (et_test (ev_op (ev_var rfl) ev_non rd_isN)) rfl) (fun _ => ?_) (fun h => by cases h)
        exact sv_if (b := false) (et_is (et_test (ev_op (ev_var rfl) ev_non rd_notN)) rfl) (fun h => by cases h) fun _ => sv_next ⟨_, _, _, _, _, _, hle1, rfl⟩
      · refine sv_if (b := false) (et_is (et_test (ev_op (ev_var rfl) ev_non rd_isN)) rfl) (fun h => by cases h) fun _ => ?_
        have hrl : RowLe (r.map (·.1)) := ⟨by rw [List.length_map]; omega, fun m hm => by
          obtain ⟨o, ho, rfl⟩ := List.mem_map.mp hm
          exact (ok.ok o (h1 o ho)).1⟩
        refine sv_seq (sv_if (b := false) (et_is (et_or (et_not (et_B (ev_cb (ea_cons (ev_var rfl) (ea_cons ev_ty ea_nil)) (rc_isT rfl)))) fun _ => et_or (et_test (ev_op (ev_op (ev_var rfl) ev_int (rd_ixT (d := .int (costR r)) rfl)) (ev_var rfl) rd_neI)) fun _ => et_or (et_not (et_B (ev_callV (ea_cons (ev_op (ev_var rfl) ev_int (rd_ixT (d := .int (costR r)) rfl)) ea_nil) (P_law_whole.mk _ rfl)))) fun _ => et_not (et_B (ev_cb (ea_cons (ev_op (ev_var rfl) ev_int (rd_ixT (d := .lst ((r.map (·.1)).map encM)) rfl)) (ea_cons ev_ty ea_nil)) (rc_isL rfl)))) (by rw [decide_eq_true rfl]; rfl)) (fun h => by cases h) fun _ => sv_next ?_)
        refine sv_seq (sv_asgM (em_dnewT fun pc hpc => ?_))
        refine sv_seq (sv_for (src_list (ev_var rfl)) (fun i G2 O2 => ∃ kvs, O2 = oput O1 pc (.raw (.dT kvs)) ∧ kvs.length ≤ i ∧ (∀ m, valV kvs (mK m) = (minO (offs.take i) m).map V.int) ∧ ∃ b10 b12, G2 = [some (.scr ns), some (.ref t), some (.lst (iL cs)), some (.lst (offs.map offD)), a4, some (deckD K cs), some (.tup [.int (costR r), .lst ((r.map (·.1)).map encM)]), some (.int (costR r)), none, none, b10, some (.ref pc), b12, none])
          ⟨[], rfl, Nat.le_refl _, fun m => rfl, _, _, rfl⟩ ?_ ?_)
        · rintro i d _ O2 hd ⟨kvs, rfl, hkl, hkv, b10, b12, rfl⟩
          rw [List.getElem?_map] at hd
          cases hoi : offs[i]? with
          | none => rw [hoi] at hd; cases hd
          | some o =>
            rw [hoi] at hd
            obtain rfl := Option.some.inj hd
            have hi4 : i < 4 := by
              have := (List.getElem?_eq_some_iff.mp hoi).1
              have := ok.l4
              omega
            refine ⟨_, _, tg_tup2, sv_dputKK (em_cb (ma_cons (em_val (ev_var rfl) (ma_cons (em_dget2K (em_val (ev_var rfl) ⟨pc, kvs, rfl, oput_same, em_val (ev_var rfl) (em_val ev_int ⟨kvs, mK o.1, (minO (offs.take i) o.1).getD 100, 100, rfl, rfl, oput_same, ?_, ma_nil ⟨_, rc_min2, em_val (ev_var rfl) ⟨pc, rfl, em_val (ev_var rfl) ⟨kvs, mK o.1, _, rfl, rfl, oput_same, by omega, ?_⟩⟩⟩⟩)⟩))))))⟩
            · rw [hkv]
              cases minO (offs.take i) o.1 <;> rfl
            · refine ⟨_, oput_oput, Nat.le_trans (put_len _ _ _) (by omega), fun m => ?_, _, _, rfl⟩
              rw [valV_put, List.take_add_one, hoi]
              show _ = (minO (offs.take i ++ [o]) m).map V.int
              rw [minO_snoc, hkv]
              by_cases e : o.1 = m
              · rw [if_pos (congrArg mK e.symm), if_pos e, e]
                rfl
              · rw [if_neg (fun z => e (mK_inj z).symm), if_neg e]
        rintro _ O2 ⟨kvs, rfl, hkl, hkv, b10, b12, rfl⟩
        rw [List.length_map, List.take_length] at hkv
        have hle2 : OLe OT (oput O1 pc (.raw (.dT kvs))) := ole_put hle1 (ole_noneB hle1 hpc)
        have hval : ∀ m ∈ r.map (·.1), ∃ c, minO offs m = some c := fun m hm => by
          obtain ⟨o, ho, rfl⟩ := List.mem_map.mp hm
          obtain ⟨c, hc, _⟩ := minO_le (h1 o ho)
          exact ⟨c, hc⟩
        have hlr : ((r.map (·.1)).map encM).length ≤ 100000 := by rw [List.length_map, List.length_map]; omega
        refine sv_seq (sv_ifM (mt_imp (PT := fun b' O5 => b' = false ∧ O5 = oput O1 pc (.raw (.dT kvs))) ?_ fun b' O5 ⟨e1, e2⟩ => ⟨fun z => (by rw [e1] at z; cases z), fun _ => sv_next ?_⟩))
        · refine mt_or (mt_test (em_op (em_freeze (em_lcR (f := fun _ => false) (hh := id) (Gd := fun d => _) (src_list (ev_op (ev_var rfl) ev_int (rd_ixT rfl))) (fun d _ => tg_name) (fun d hd O3 hO3 => ?_) (fun d _ z => by cases z) hlr fun p hp => ⟨p, _, rfl, oput_same, em_val (ev_lstV ea_nil) ⟨.bl false, ?_, _, rfl, fun _ => ?_, fun z => (by cases z)⟩⟩))))
          · obtain ⟨m, hm, rfl⟩ := List.mem_map.mp hd
            obtain ⟨c, hc⟩ := hval m hm
            refine mt_test (em_dNotInK (em_val (ev_var rfl) (em_val (ev_var rfl) ⟨pc, kvs, mK m, rfl, rfl, hO3 _ _ oput_same, _, rfl, ?_, rfl⟩)))
            rw [hkv, hc]
            rfl
          · have e : (((r.map (·.1)).map encM).filter fun _ => false).map id = [] := by rw [fil_no]; rfl
            rw [e]
            exact rd_neD (.lst (n := 0) fun d h => by cases h) (.lst (n := 0) fun d h => by cases h)
          · rw [odrop_put hp]
            refine mt_test (em_op (em_cb (ma_cons (em_freeze (em_lcR (f := fun _ => true) (hh := fun d => match d with | .tup [.str x, .int n] => .int ((minO offs (decide (x = "well"), n)).getD 0) | _ => .non) (Gd := fun d => _) (src_list (ev_op (ev_var rfl) ev_int (rd_ixT rfl))) (fun d _ => tg_name) (fun d hd O3 hO3 => fun σ H0 H w s Q q => q true H0 H _ ⟨rfl, rfl⟩ (Same.refl _) w) (fun d hd _ O3 hO3 => ?_) hlr fun p hp => ⟨p, _, rfl, oput_same, ma_nil ⟨.int (costR r), ?_, em_val (ev_var rfl) ⟨_, rd_neI, _, rfl, ?_, odrop_put hp⟩⟩⟩)))))
            · obtain ⟨m, hm, rfl⟩ := List.mem_map.mp hd
              obtain ⟨c, hc⟩ := hval m hm
              refine em_dgetK (em_val (ev_var rfl) ⟨pc, rfl, em_val (ev_var rfl) ⟨kvs, mK m, c, rfl, hO3 _ _ oput_same, by rw [hkv, hc]; rfl, ?_, rfl⟩⟩)
              show D.int c = .int ((minO offs (decide (kS m.1 = "well"), m.2)).getD 0)
              rw [kS_well, hc]
              rfl
            · have e : (((r.map (·.1)).map encM).filter fun _ => true).map (fun d => match d with | .tup [.str x, .int n] => D.int ((minO offs (decide (x = "well"), n)).getD 0) | _ => .non) = iL (minR offs r) := by
                rw [fil_yes, List.map_map, List.map_map]
                unfold minR iL
                rw [List.map_map]
                refine List.map_congr_left fun o _ => ?_
                show D.int ((minO offs (decide (kS o.1.1 = "well"), o.1.2)).getD 0) = _
                rw [kS_well]
                rfl
              rw [e, ← cheap_sum ok h1 h2 h3]
              exact rc_sum
            · rw [decide_eq_true rfl]
              rfl
        · subst e2
          refine sv_if (b := false) (et_is (et_test (ev_op (d1 := .int (needB cs (isOdd (r.map (·.1))))) (ev_if (b := isOdd (r.map (·.1))) (et_B (ev_callV (ea_cons (ev_op (ev_var rfl) ev_int (rd_ixT (d := .lst ((r.map (·.1)).map encM)) rfl)) ea_nil) (P_law_odd.mk _ hrl))) (fun e => ev_is (ev_callV (ea_cons (ev_var rfl) ea_nil) (P_law_falling.mk cs hcs)) (by unfold needB; rw [e]; rfl)) (fun e => ev_is (ev_callV (ea_cons (ev_var rfl) ea_nil) (P_law_rising.mk cs hcs)) (by unfold needB; rw [e]; rfl))) (ev_callV (ea_cons (ev_op (ev_var rfl) ev_int (rd_ixT (d := .lst ((r.map (·.1)).map encM)) rfl)) ea_nil) (P_law_room.mk _ hrl)) rd_b)) ?_) (fun h => by cases h) fun _ => sv_next ⟨_, _, _, _, _, _, hle2, rfl⟩
          have := goal_room ok h1 h2
          exact decide_eq_false (by omega)
    rintro _ O2 ⟨a5, a6, a7, b10, b11, b12, hle2, rfl⟩
    -- odd things
    have hofl : (offs.map offD).length ≤ 4 := by rw [List.length_map]; exact ok.l4
    have hof1 : 1 ≤ (offs.map offD).length := by rw [List.length_map]; exact ok.l1
    refine sv_seq (sv_asgM (em_call (ma_val (ea_cons (ev_var rfl) (ea_cons (ev_var rfl) (ea_cons (ev_lstV (ea_cons (ev_lstV ea_nil (by show 0 ≤ 100000; decide)) (ea_cons (ev_slV (EvR.lst (ev_op (ev_var rfl) ev_int (rd_rep (by decide) (by show (offs.map offD).length * 5 ≤ 100000; omega) (by decide)))) eo_none (eo_some ev_int)) (ea_cons (ev_cb (ea_cons (ev_var rfl) ea_nil) rc_tupL) (ea_cons ev_non (ea_cons (EvR.lst (ev_op (ev_slV (ev_var rfl) eo_none (eo_some ev_int)) (ev_lstV (ea_cons (ev_tup (ea_cons (ev_tup (ea_cons ev_str (ea_cons ev_int ea_nil)) (by show 2 ≤ 100000; decide)) (ea_cons ev_int ea_nil)) (by show 2 ≤ 100000; decide)) ea_nil) (by show 1 ≤ 100000; decide)) (rd_cat ?_))) ea_nil))))) (by show 5 ≤ 100000; decide)) ea_nil))) ?_)))
    · have := cut_len (offs.map offD) none (some 3)
      show (cut (offs.map offD) none (some 3)).length + 1 ≤ 100000
      omega
    refine .mk ns t N' _ _ _ (hle2 _ _ hOTt) hl (by omega) (by show 0 < 5; decide) (by show 5 < 100000; decide) fun i od hod => ?_
    have hodd : OddOk od := by
      have hm := List.mem_of_getElem? hod
      have ofo : ∀ x ∈ offs.map offD, OfA x := fun x hx => by
        obtain ⟨o, _, rfl⟩ := List.mem_map.mp hx
        exact ofA_off o
      rcases List.mem_cons.mp hm with rfl | hm
      · exact ⟨ofsA_lst (by show 0 ≤ 1000; decide) fun x hx => (nomatch hx), rfl⟩
      rcases List.mem_cons.mp hm with rfl | hm
      · have e5 : cut (List.replicate (5 : Int).toNat (offs.map offD)).flatten none (some 5) = (List.replicate (5 : Int).toNat (offs.map offD)).flatten.take 5 := cut_takeI _ 5 (by decide)
        have ef : (List.replicate (5 : Int).toNat (offs.map offD)).flatten.length = 5 * (offs.map offD).length := by
          rw [List.length_flatten]
          show (List.map List.length [offs.map offD, offs.map offD, offs.map offD, offs.map offD, offs.map offD]).sum = _
          simp
          omega
        have el : (cut (List.replicate (5 : Int).toNat (offs.map offD)).flatten none (some 5)).length = 5 := by
          rw [e5, List.length_take, ef]
          omega
        refine ⟨ofsA_lst (by rw [el]; decide) fun x hx => ?_, ?_⟩
        · rw [e5] at hx
          obtain ⟨l, hl1, hl2⟩ := List.mem_flatten.mp (List.mem_of_mem_take hx)
          rw [List.eq_of_mem_replicate hl1] at hl2
          exact ofo x hl2
        · rw [offersB_lst, el]
          rfl
      rcases List.mem_cons.mp hm with rfl | hm
      · exact ⟨ofsA_nl rfl fun ds e => (by cases e), rfl⟩
      rcases List.mem_cons.mp hm with rfl | hm
      · exact ⟨ofsA_nl rfl fun ds e => (by cases e), rfl⟩
      rw [List.mem_singleton.mp hm]
      have hcl := cut_len (offs.map offD) none (some 3)
      refine ⟨ofsA_lst (by rw [List.length_append]; show _ + 1 ≤ 1000; omega) fun x hx => ?_, ?_⟩
      · rcases List.mem_append.mp hx with hx | hx
        · rw [cut_takeI _ 3 (by decide)] at hx
          exact ofo x (List.mem_of_mem_take hx)
        · rw [List.mem_singleton.mp hx]
          exact ofA_pair rfl rfl rfl
      · rw [offersB_lst, List.all_append, List.all_cons]
        have : offerB (.tup [.tup [.str "tray", .int 2], .int 0]) = false := rfl
        rw [this]
        simp
    clear hod
    generalize hO3 : oput O2 t (.town ns.length (N' + 1)) = O3
    have hO3T : O3 (tbC K) = some (.tab tbQC) := by rw [← hO3, oput_ne hTt]; exact hle2 _ _ hOTT
    refine sv_seq (sv_asg (ev_lstV (ea_cons (ev_var rfl) (ea_cons (ev_lstV (ea_cons (ev_tup (ea_cons (ev_tup (ea_cons ev_str (ea_cons ev_int ea_nil)) (by show 2 ≤ 100000; decide)) (ea_cons ev_int ea_nil)) (by show 2 ≤ 100000; decide)) ea_nil) (by show 1 ≤ 100000; decide)) (ea_cons (ev_lstV (ea_cons (ev_tup (ea_cons (ev_tup (ea_cons ev_str (ea_cons ev_int ea_nil)) (by show 2 ≤ 100000; decide)) (ea_cons ev_int ea_nil)) (by show 2 ≤ 100000; decide)) ea_nil) (by show 1 ≤ 100000; decide)) (ea_cons (ev_lstV (ea_cons (ev_tup (ea_cons (ev_tup (ea_cons ev_str (ea_cons ev_int ea_nil)) (by show 2 ≤ 100000; decide)) (ea_cons ev_bl ea_nil)) (by show 2 ≤ 100000; decide)) ea_nil) (by show 1 ≤ 100000; decide)) (ea_cons (ev_lstV (ea_cons (ev_tup (ea_cons ev_str (ea_cons ev_int (ea_cons ev_int ea_nil))) (by show 3 ≤ 100000; decide)) ea_nil) (by show 1 ≤ 100000; decide)) (ea_cons ev_dic ea_nil)))))) (by show 6 ≤ 100000; decide)) ?_)
    generalize hbd : [od, D.lst [.tup [.tup [.str "tray", .int 2], .int 21]], D.lst [.tup [.tup [.str "tray", .int 0], .int 1]], D.lst [.tup [.tup [.str "tray", .int 2], .bl true]], D.lst [.tup [.str "tray", .int 2, .int 1]], D.dic []] = bd
    have hbl : bd.length = 6 := by rw [← hbd]; rfl
    have hbad : ∀ d ∈ bd, OddOk d := by
      rw [← hbd]
      have one : ∀ {x : D}, OfA x → offerB x = false → OddOk (.lst [x]) := fun {x} h1 h2 => ⟨ofsA_lst (by show 1 ≤ 1000; decide) fun y hy => by rw [List.mem_singleton.mp hy]; exact h1, offersB_one h2⟩
      intro d hd
      rcases List.mem_cons.mp hd with rfl | hd
      · exact hodd
      rcases List.mem_cons.mp hd with rfl | hd
      · exact one (ofA_pair rfl rfl rfl) rfl
      rcases List.mem_cons.mp hd with rfl | hd
      · exact one (ofA_pair rfl rfl rfl) rfl
      rcases List.mem_cons.mp hd with rfl | hd
      · exact one (ofA_pair rfl rfl rfl) rfl
      rcases List.mem_cons.mp hd with rfl | hd
      · refine one ⟨⟨rfl, fun x ⟨ds, e, hx⟩ => ?_⟩, fun ds e => by cases e; show 3 ≤ 1000; decide, fun ds x e hx => ?_⟩ rfl
        · rcases e with e | e
          · cases e
          · cases e
            rcases List.mem_cons.mp hx with rfl | hx
            · rfl
            rcases List.mem_cons.mp hx with rfl | hx
            · rfl
            rw [List.mem_singleton.mp hx]
            rfl
        · cases e
          have := (Option.some.inj hx).symm
          subst this
          exact ⟨⟨rfl, fun x ⟨ds, e, _⟩ => by rcases e with e | e <;> cases e⟩, fun es e => by cases e⟩
      rw [List.mem_singleton.mp hd]
      exact ⟨ofsA_nl rfl fun ds e => (by cases e), rfl⟩
    -- the answers
    have hpr : Pl 1 (.tup [.str "refused", .int ((7 : Nat) : Int)]) := pl_ref _
    refine sv_retM (em_op (em_freeze (em_lc (src_m (src_list (ev_var rfl)) ⟨by rw [hbl]; decide, fun d => _, fun p i acc O4 => acc = List.replicate i (.tup [.str "refused", .int ((7 : Nat) : Int)]) ∧ O4 (tbC K) = some (.tab tbQC), fun d _ => tg_name, fun p hp => ⟨rfl, ?_⟩, ?_, ?_⟩))))
    · rw [oput_ne (one_none hO3T hp)]
      exact hO3T
    · rintro p i d acc O4 hp hd ⟨rfl, hO4⟩ hp4
      obtain ⟨b1, b2⟩ := hbad d (List.mem_of_getElem? hd)
      refine em_call (ma_val (ea_cons ev_int (ea_cons (ev_tup (ea_cons (ev_var rfl) (ea_cons (ev_var rfl) ea_nil)) (by show 2 ≤ 100000; decide)) ea_nil)) (.mk 0 _ _ _ fun kc hrt hex => .mk 0 _ _ _ _ (.bad _ d _ _ b1 b2 (hex 7 "BadOffers" O4 rfl (by decide) fun O5 hle => ⟨hle _ _ hp4, ?_, ?_⟩))))
      · rw [List.replicate_succ']
      · rw [oput_ne (one_none hO3T hp)]
        exact hle _ _ hO4
    · rintro p acc O4 hp hla hp4 ⟨rfl, hO4⟩
      refine ⟨p, _, rfl, hp4, em_val (ev_op (ev_lstV (ea_cons (ev_callV (ea_cons ev_str ea_nil) (P_law_refused.mk 7 "offers" rfl)) ea_nil) (by show 1 ≤ 100000; decide)) ev_int (RD.lst (rd_rep (by decide) (by show 1 * 6 ≤ 100000; decide) (by decide)))) ?_⟩
      rw [hbl]
      have e6 : (List.replicate (6 : Int).toNat [D.tup [.str "refused", .int ((7 : Nat) : Int)]]).flatten = List.replicate 6 (.tup [.str "refused", .int ((7 : Nat) : Int)]) := rfl
      rw [e6]
      have hp6 : Pl 2 (.lst (List.replicate 6 (.tup [.str "refused", .int ((7 : Nat) : Int)]))) := .lst fun d hd => by rw [List.eq_of_mem_replicate hd]; exact hpr
      have hn6 : Nb (.lst (List.replicate 6 (.tup [.str "refused", .int ((7 : Nat) : Int)]))) := .lst fun d hd => by rw [List.eq_of_mem_replicate hd]; exact nb_ref _
      refine ⟨_, rd_eqD hp6 hp6, ?_⟩
      rw [deq_self hn6]
      exact hk _

end
end Pr
namespace Pr
open PySem PySem.Spec PyProof.Rows L2
theorem tx_mk {K : Fg} {h base : Heap} {mg : Str → Option Value} (X : K.In h) (G : h.Ns mainGlobals mg) (c : SaysX ckl fa fn K) (tb : LamX.TabB base mg (He.codeOf K ("cheapest", none)) (He.tabOf K (He.codeOf K ("cheapest", none)))) : Tx K mg base where
  tb := tb
  b_LookupError := He.free_ok X G (c.1.fact 0 (f := .free "LookupError") rfl)
  b_all := He.free_ok X G (c.1.fact 1 (f := .free "all") rfl)
  b_bool := He.free_ok X G (c.1.fact 2 (f := .free "bool") rfl)
  b_enumerate := He.free_ok X G (c.1.fact 3 (f := .free "enumerate") rfl)
  b_int := He.free_ok X G (c.1.fact 4 (f := .free "int") rfl)
  b_isinstance := He.free_ok X G (c.1.fact 5 (f := .free "isinstance") rfl)
  b_len := He.free_ok X G (c.1.fact 6 (f := .free "len") rfl)
  b_list := He.free_ok X G (c.1.fact 7 (f := .free "list") rfl)
  b_min := He.free_ok X G (c.1.fact 8 (f := .free "min") rfl)
  b_range := He.free_ok X G (c.1.fact 9 (f := .free "range") rfl)
  b_set := He.free_ok X G (c.1.fact 10 (f := .free "set") rfl)
  b_sorted := He.free_ok X G (c.1.fact 11 (f := .free "sorted") rfl)
  b_str := He.free_ok X G (c.1.fact 12 (f := .free "str") rfl)
  b_sum := He.free_ok X G (c.1.fact 13 (f := .free "sum") rfl)
  b_tuple := He.free_ok X G (c.1.fact 14 (f := .free "tuple") rfl)
  b_zip := He.free_ok X G (c.1.fact 15 (f := .free "zip") rfl)
  c_MOST_CARDS := He.int_ok X G (c.1.fact 16 (f := .int "MOST_CARDS" 40) rfl)
  c_MOST_POCKETS := He.int_ok X G (c.1.fact 17 (f := .int "MOST_POCKETS" 300) rfl)
  g_is_number := He.glo_ok X G (c.1.fact 18 (f := .glo "is_number") rfl)
  f_is_number := c.1.def_ 0 (d := d_is_number) rfl
  g_is_cards := He.glo_ok X G (c.1.fact 19 (f := .glo "is_cards") rfl)
  f_is_cards := c.1.def_ 1 (d := d_is_cards) rfl
  g_is_machine := He.glo_ok X G (c.1.fact 20 (f := .glo "is_machine") rfl)
  f_is_machine := c.1.def_ 2 (d := d_is_machine) rfl
  g_is_offer := He.glo_ok X G (c.1.fact 21 (f := .glo "is_offer") rfl)
  f_is_offer := c.1.def_ 3 (d := d_is_offer) rfl
  g_cheapest := He.glo_ok X G (c.1.fact 22 (f := .glo "cheapest") rfl)
  f_cheapest := c.1.def_ 4 (d := d_cheapest) rfl
  g__law_town := He.glo_ok X G (c.1.fact 23 (f := .glo "_law_town") rfl)
  f__law_town := c.1.def_ 5 (d := d__law_town) rfl
  g__law_draw := He.glo_ok X G (c.1.fact 24 (f := .glo "_law_draw") rfl)
  f__law_draw := c.1.def_ 6 (d := d__law_draw) rfl
  g__law_pick := He.glo_ok X G (c.1.fact 25 (f := .glo "_law_pick") rfl)
  f__law_pick := c.1.def_ 7 (d := d__law_pick) rfl
  g__law_word := He.glo_ok X G (c.1.fact 26 (f := .glo "_law_word") rfl)
  f__law_word := c.1.def_ 8 (d := d__law_word) rfl
  g__law_refused := He.glo_ok X G (c.1.fact 27 (f := .glo "_law_refused") rfl)
  f__law_refused := c.1.def_ 9 (d := d__law_refused) rfl
  g__law_told := He.glo_ok X G (c.1.fact 28 (f := .glo "_law_told") rfl)
  f__law_told := c.1.def_ 10 (d := d__law_told) rfl
  g__law_whole := He.glo_ok X G (c.1.fact 29 (f := .glo "_law_whole") rfl)
  f__law_whole := c.1.def_ 11 (d := d__law_whole) rfl
  g__law_cards := He.glo_ok X G (c.1.fact 30 (f := .glo "_law_cards") rfl)
  f__law_cards := c.1.def_ 12 (d := d__law_cards) rfl
  g__law_rising := He.glo_ok X G (c.1.fact 31 (f := .glo "_law_rising") rfl)
  f__law_rising := c.1.def_ 13 (d := d__law_rising) rfl
  g__law_falling := He.glo_ok X G (c.1.fact 32 (f := .glo "_law_falling") rfl)
  f__law_falling := c.1.def_ 14 (d := d__law_falling) rfl
  g__law_machine := He.glo_ok X G (c.1.fact 33 (f := .glo "_law_machine") rfl)
  f__law_machine := c.1.def_ 15 (d := d__law_machine) rfl
  g__law_room := He.glo_ok X G (c.1.fact 34 (f := .glo "_law_room") rfl)
  f__law_room := c.1.def_ 16 (d := d__law_room) rfl
  g__law_odd := He.glo_ok X G (c.1.fact 35 (f := .glo "_law_odd") rfl)
  f__law_odd := c.1.def_ 17 (d := d__law_odd) rfl
  g__law_one := He.glo_ok X G (c.1.fact 36 (f := .glo "_law_one") rfl)
  f__law_one := c.1.def_ 18 (d := d__law_one) rfl
  g__law_least := He.glo_ok X G (c.1.fact 37 (f := .glo "_law_least") rfl)
  f__law_least := c.1.def_ 19 (d := d__law_least) rfl
  g_law := He.glo_ok X G (c.1.fact 38 (f := .glo "law") rfl)
  f_law := c.1.def_ 20 (d := d_law) rfl
  g_Deck := He.glo_ok X G (c.1.fact 39 (f := .glo "Deck") rfl)
  cl_Deck := He.cls_ok (c.1.fact 40 (f := .cls "Deck") rfl)
  mk_Deck := He.mkr_ok (c.1.fact 41 (f := .mkr "Deck") rfl)
  na_Deck_pile := He.noat_ok (c.1.fact 42 (f := .noat "Deck" "pile") rfl)
  f_Deck___init__ := c.1.def_ 21 (d := d_Deck___init__) rfl
  m_Deck_places := He.meth_ok (c.1.fact 43 (f := .meth "Deck" "places") rfl)
  f_Deck_places := c.1.def_ 22 (d := d_Deck_places) rfl
  m_Deck_rising := He.meth_ok (c.1.fact 44 (f := .meth "Deck" "rising") rfl)
  f_Deck_rising := c.1.def_ 23 (d := d_Deck_rising) rfl
  m_Deck_falling := He.meth_ok (c.1.fact 45 (f := .meth "Deck" "falling") rfl)
  f_Deck_falling := c.1.def_ 24 (d := d_Deck_falling) rfl
  ne_Deck := He.eqO_ok (ck_at c.2 0 rfl)
  ob_Deck := of_decide_eq_true (ck_at c.2 1 rfl)
  ty_Deck := tyC_ok (ck_at c.2 2 rfl)
  g_SortError := He.glo_ok X G (c.1.fact 46 (f := .glo "SortError") rfl)
  g_BadDeck := He.glo_ok X G (c.1.fact 47 (f := .glo "BadDeck") rfl)
  g_Unlike := He.glo_ok X G (c.1.fact 48 (f := .glo "Unlike") rfl)
  g_BadMachine := He.glo_ok X G (c.1.fact 49 (f := .glo "BadMachine") rfl)
  g_BadPlan := He.glo_ok X G (c.1.fact 50 (f := .glo "BadPlan") rfl)
  g_BadRow := He.glo_ok X G (c.1.fact 51 (f := .glo "BadRow") rfl)
  g_TooMany := He.glo_ok X G (c.1.fact 52 (f := .glo "TooMany") rfl)
  g_BadNumber := He.glo_ok X G (c.1.fact 53 (f := .glo "BadNumber") rfl)
  g_BadOffers := He.glo_ok X G (c.1.fact 54 (f := .glo "BadOffers") rfl)
  x_BadOffers := excB_ok (He.glo_ok X G (c.1.fact 54 (f := .glo "BadOffers") rfl)) (ck_at c.2 3 rfl)
  g_BadKeys := He.glo_ok X G (c.1.fact 55 (f := .glo "BadKeys") rfl)
  g_BadCards := He.glo_ok X G (c.1.fact 56 (f := .glo "BadCards") rfl)
  g_BadColumns := He.glo_ok X G (c.1.fact 57 (f := .glo "BadColumns") rfl)
  g_Jammed := He.glo_ok X G (c.1.fact 58 (f := .glo "Jammed") rfl)
  g_NotJammed := He.glo_ok X G (c.1.fact 59 (f := .glo "NotJammed") rfl)
  g_Nothing := He.glo_ok X G (c.1.fact 60 (f := .glo "Nothing") rfl)
  g_BadText := He.glo_ok X G (c.1.fact 61 (f := .glo "BadText") rfl)
  kinds := ck_at c.2 4 rfl
theorem glo_law {K : Fg} (c : SaysX ckl fa fn K) : (.glo "law" : He.Fa).ok K = true := c.1.fact 38 (f := .glo "law") rfl
end Pr

open PySem PySem.W PySem.Calls PyProof.Rows
set_option maxHeartbeats 0 in
theorem PySem.Challenge.cw_pocketrow_k42_whole_cheapest_holds : PySem.Challenge.rw_pocketrow_k42_whole_cheapest.Holds := by
  w_on; o_law
  refine HandSHeadRun.head_any (r := OpenLaw.row PySem.Challenge.rw_pocketrow_k42_whole_cheapest) (q := view (OpenLaw.row PySem.Challenge.rw_pocketrow_k42_whole_cheapest).prog [45]) (H := Pr.hk) (ob := Pr.ob) (M := 20000) (loose := Pr.nm) (d := HandSHeadRun.topDef (OpenLaw.row PySem.Challenge.rw_pocketrow_k42_whole_cheapest).prog 45) (kwd := []) Pr.ob_eq
    (by kernel_rfl) (fun s => by kernel_rfl) Pr.run_top (by kernel_rfl) (by kernel_rfl) (by kernel_rfl) (by rfl) (by first | assumption | decide +kernel) (by decide +kernel) ⟨rfl, rfl, rfl, rfl, rfl, by decide +kernel⟩ ?hw ?hc
  case hw => w_witness2
  case hc =>
    refine LamX.walk_ofTsE (l := PySem.Challenge.rw_pocketrow_k42_whole_cheapest) (n := 63) (k := 7) (x := "script") (CX := fun _ => L2.CX0) rfl (by decide) (by kernel_rfl) ⟨rfl, by decide, by decide⟩ ?F (fun _ _ _ _ _ z => z)
    intro w mg fa h Y G hmg0
    obtain ⟨K, KX, c, ct⟩ := Y
    have hmg : mg ("law" : PySem.Str) = some (.ref fa) := by
      have e : (HandSHeadRun.topDef (OpenLaw.row PySem.Challenge.rw_pocketrow_k42_whole_cheapest).prog 45).name = ("law" : PySem.Str) := by kernel_rfl
      rw [← e]
      exact hmg0
    have hlaw : mg ("law" : PySem.Str) = some (.ref (He.ga K "law")) := He.glo_ok KX G (Pr.glo_law c)
    have efa : fa = He.ga K "law" := by
      rw [hmg] at hlaw
      cases hlaw
      rfl
    subst efa
    obtain ⟨t1, t2, t3⟩ := ct ("cheapest", none) List.mem_cons_self
    obtain ⟨fd, sp, hb, hsp, hF⟩ := Pr.law_endT (P := (PySem.Challenge.rw_pocketrow_k42_whole_cheapest).prog) (w := w) (q := "cheapest.<locals>.<lambda>") hmg (fun base tb => Pr.C_law (base := base) (Pr.tx_mk KX G c tb)) (c.1.def_ 20 (d := Pr.d_law) rfl) (fun _ _ _ _ _ _ us hl => match us, hl with | [_], _ => rfl)
    refine ⟨K, KX, fd, [He.cT K ("cheapest", none)], sp, fun p hp => ?_, fun p hp => ?_, fun p hp => ?_, hb, fun H a ns hl _ hT hS => ?_, fun base _ _ hB => ?_⟩
    · rw [List.mem_singleton.mp hp]; exact t3
    · rw [List.mem_singleton.mp hp]; exact t2
    · rw [List.mem_singleton.mp hp]; exact PySem.W.codeHd_of_K KX t1
    · exact hsp H a ns hl (hT _ (List.mem_singleton.mpr rfl)) hS
    · exact hF base (hB _ (List.mem_singleton.mpr rfl))
