import PyProof.Rows.All
import Wide.All
import OpenK.AllK
import Wide.FinOn
import HandS.IsInst
import HandS.ExcInit
import HandS.HeadHook2
import HandS.HeadEnd
import HandS.Head0
import HandS.Head1
import HandS.Head2
import HandS.RaiseMore
import KE.KExcIs
import HandS.ExcField
import HandS.Words
import PySem.Challenge.RW_unpressed_k65_chances_of_a_length
import HandS.Head3
import HandS.ForMost
import HandS.Wide
import HandS.WideBits
import HandS.SortInts
import HandS.Deep
import HandS.Conv
import HandS.NoneIn
import HandS.TupAny
import HandS.Defaults
import HandS.MakeKwOnly
import HandS.RevTup
import HandS.Rev
import HandS.MapObj
import PyProof.MaxThree
import HandS.Iter
import HandS.MakeKw
import KE.KMathG
import Flt.RightSqrt
import HandS.Gcd
import HandS.Style
import KE.GoesMore
import HandS.More
import HandS.StrMore
import HandS.Text
import HandS.Replace
import HandS.Strs
import KE.KRevSl
import PyProof.SliceStr2
import HandS.TupLe
import HandS.Exc
import HandS.ExcOwn
import KE.SortKeyHeap
import HandS.SortKw
import HandS.SlotsOwn
import HandS.SetFor
import PyProof.Rows.CountFlat
import PyProof.StrLawsIn
set_option Elab.async false
section
set_option linter.all false
set_option maxRecDepth 100000
set_option maxHeartbeats 4000000
set_option autoImplicit false
/-! PH: what a head looks at (the definitions alone: a head is built first, while memory is free). -/
namespace PL
open PySem PySem.Spec PyProof.Rows L2
def oexB (K : PySem.W.Frag) (C : Addr) : Bool := match K.lookup C with
  | some ⟨.type "type", _, .cls cd, sl⟩ => (match cd.mro, sl.toList with
    | .ref D :: bm, [_, _, _, _, some (.builtin n), _] => D == C && (n == "ValueError.__new__" && (!cd.hasDel && (cd.hasDict && PySem.HandSPX.refsVE bm)))
    | _, _ => false)
  | _ => false
def ercB (K : PySem.W.Frag) (C f : Addr) (fs : List Str) : Bool := oexB K C && (He.eqO (PySem.W.findIn K (.ref C) "__setattr__") (some (some (.builtin "object.__setattr__"))) && (decide (PySem.W.subIn K (.ref C) (.type "BaseException") = some true) &&
  (decide (PySem.W.typeIn K (.ref C) = some (.type "type")) && (PySem.W.keepIn K (.ref C) && (xfB K C && (He.eqO (PySem.W.findIn K (.ref C) "__class__") (some (some (.builtin "object.__class__"))) &&
  (He.eqO (PySem.W.specialIn K (.builtin "object.__class__") "__get__") (some (some (.builtin "getset_descriptor.__get__"))) && (decide (PySem.W.takesIn K (.builtin "object.__class__") = some true) && (decide (PySem.W.mroIn K C (.type "object") = some true) &&
  (He.eqO (PySem.W.findIn K (.ref C) "__init__") (some (some (.ref f))) && (decide (PySem.W.typeIn K (.ref f) = some (.type "function")) && fs.all fun x => He.eqO (PySem.W.findIn K (.ref C) x) (some none))))))))))))
abbrev ETab := List (Str × List Str)
open He in
def hookX (n : Nat) (fa : List Fa) (fn : List DefD) (xb : PySem.W.Frag → Bool) : PySem.W.Hook where
  α := AlD × Bool
  obs := fun s => (obsDG n fa fn s.heap.get?, xb (frG s.heap.get? (asD s.heap.get? n)))
  val := fun _ => (valD fn, true)
  says := fun _ h => ∃ K : PySem.W.Frag, K.In h ∧ SaysD fa fn K ∧ xb K = true
  of := fun _ _ e => ⟨_, frG_in, (Prod.mk.inj e).1, (Prod.mk.inj e).2⟩
  keeps := fun _ _ _ ⟨K, hK, c⟩ k => ⟨K, PySem.W.Frag.In.keeps hK k, c⟩
open He in
def obsX (n : Nat) (fa : List Fa) (fn : List DefD) (xb : PySem.W.Frag → Bool) (g : Addr → Option Obj) : AlD × Bool := (obsDG n fa fn g, xb (frG g (asD g n)))
open He in
theorem obsX_eq {n : Nat} {fa : List Fa} {fn : List DefD} {xb : PySem.W.Frag → Bool} {g : Addr → Option Obj} {s : Shared} (h : ∀ a, g a = s.heap.get? a) : obsX n fa fn xb g = (hookX n fa fn xb).obs s := by
  have e : g = s.heap.get? := funext h
  rw [e] <;> rfl

def errB (tab : ETab) (K : PySem.W.Frag) : Bool := tab.all fun p => (He.Fa.glo p.1).ok K && ercB K (He.ga K p.1) (He.ma K (He.ga K p.1) "__init__") p.2
def subB (tab : ETab) (K : PySem.W.Frag) : Bool := tab.all fun p => tab.all fun q => decide (PySem.W.kitOne K (.ref (He.ga K p.1)) (.ref (He.ga K q.1)) = some (decide (p.1 = q.1)))
def supB (tab : ETab) (K : PySem.W.Frag) (u : Value) : Bool := tab.all fun p => decide (PySem.W.kitOne K (.ref (He.ga K p.1)) u = some true)
abbrev OTab := List (Str × List Str)
def objB (tab : OTab) (K : PySem.W.Frag) : Bool := tab.all fun p => (He.Fa.glo p.1).ok K && ((He.Fa.cls p.1).ok K && ((He.Fa.mkr p.1).ok K && p.2.all fun f => (He.Fa.noat p.1 f).ok K))
def exOne (tab : ETab) (K : PySem.W.Frag) (T : Str) : Bool := tab.all fun p => decide (PySem.W.exmOne K (.ref (He.ga K p.1)) (.ref (He.ga K T)) = some (decide (p.1 = T)))
def exA (tab : ETab) (K : PySem.W.Frag) (u : Value) : Bool := tab.all fun p => decide (PySem.W.exmOne K (.ref (He.ga K p.1)) u = some true)
def tyNames : List String := ["NoneType", "bool", "int", "str", "tuple", "list", "dict"]
def insB (tab : OTab) (K : PySem.W.Frag) : Bool :=
  He.eqO (PySem.W.specialIn K (.builtin "object.__class__") "__get__") (some (some (.builtin "getset_descriptor.__get__"))) && (decide (PySem.W.takesIn K (.builtin "object.__class__") = some true) &&
  (tab.all fun p => He.eqO (PySem.W.findIn K (.ref (He.ga K p.1)) "__class__") (some (some (.builtin "object.__class__"))) && decide (PySem.W.mroIn K (He.ga K p.1) (.type "object") = some true)))
def insTB (tab : OTab) (K : PySem.W.Frag) (T : Str) : Bool :=
  (tab.all fun p => decide (PySem.W.kitOne K (.ref (He.ga K p.1)) (.ref (He.ga K T)) = some (decide (p.1 = T)))) && (tyNames.all fun n => decide (PySem.W.kitOne K (.type n) (.ref (He.ga K T)) = some false))
end PL
end

section
set_option linter.all false
set_option maxRecDepth 100000
set_option maxHeartbeats 0
/-! The head of law_k65_chances_of_a_length; printed by gen.py. -/
namespace K65
open PySem PySem.Spec PyProof.Rows L2 PL
def objTab : OTab := [("Bettor", ["alphabet", "rules", "standings"])]
def top (i : Nat) : Stmt := PySem.Challenge.pw_unpressed_k65_chances_of_a_length.main.body.getD i (.Pass ⟨0, 0, 0, 0⟩)
abbrev d_Bettor__init__ : Stmt := inClass (top 14) 0
abbrev d_frozen : Stmt := top 8
abbrev d_is_whole : Stmt := top 9
abbrev d_check_alphabet : Stmt := top 10
abbrev d_ratio : Stmt := top 12
abbrev d_check_moves : Stmt := top 15
abbrev d_check_bets : Stmt := top 16
abbrev d_is_good_bet : Stmt := top 17
abbrev d_common_total : Stmt := top 18
abbrev d_one_letter_more : Stmt := top 19
abbrev d_length_chance : Stmt := top 20
abbrev d_law_whole : Stmt := top 22
abbrev d_law_cell : Stmt := top 23
abbrev d_law_digits : Stmt := top 24
abbrev d_law_alphabet : Stmt := top 25
abbrev d_law_ratio : Stmt := top 26
abbrev d_law_fraction : Stmt := top 27
abbrev d_law_same : Stmt := top 28
abbrev d_law_bet : Stmt := top 29
abbrev d_law_wide_rules : Stmt := top 30
abbrev d_law_product : Stmt := top 31
abbrev d_law_as_lists : Stmt := top 32
abbrev d_law_common : Stmt := top 33
abbrev d_law_all_texts : Stmt := top 34
abbrev d_law_listed : Stmt := top 35
abbrev d_law_weights : Stmt := top 36
abbrev d_law_all_bet : Stmt := top 37
abbrev d_law : Stmt := top 38
def fn : List He.DefD := [⟨("Bettor", some "__init__"), "__init__", "Bettor.__init__", defArgs d_Bettor__init__, defBody d_Bettor__init__, defScope d_Bettor__init__, [], []⟩, ⟨("frozen", none), "frozen", "frozen", defArgs d_frozen, defBody d_frozen, defScope d_frozen, [], []⟩, ⟨("is_whole", none), "is_whole", "is_whole", defArgs d_is_whole, defBody d_is_whole, defScope d_is_whole, [], []⟩, ⟨("check_alphabet", none), "check_alphabet", "check_alphabet", defArgs d_check_alphabet, defBody d_check_alphabet, defScope d_check_alphabet, [], []⟩, ⟨("ratio", none), "ratio", "ratio", defArgs d_ratio, defBody d_ratio, defScope d_ratio, [], []⟩, ⟨("check_moves", none), "check_moves", "check_moves", defArgs d_check_moves, defBody d_check_moves, defScope d_check_moves, [], []⟩, ⟨("check_bets", none), "check_bets", "check_bets", defArgs d_check_bets, defBody d_check_bets, defScope d_check_bets, [], []⟩, ⟨("is_good_bet", none), "is_good_bet", "is_good_bet", defArgs d_is_good_bet, defBody d_is_good_bet, defScope d_is_good_bet, [], []⟩, ⟨("common_total", none), "common_total", "common_total", defArgs d_common_total, defBody d_common_total, defScope d_common_total, [], []⟩, ⟨("one_letter_more", none), "one_letter_more", "one_letter_more", defArgs d_one_letter_more, defBody d_one_letter_more, defScope d_one_letter_more, [], []⟩, ⟨("length_chance", none), "length_chance", "length_chance", defArgs d_length_chance, defBody d_length_chance, defScope d_length_chance, [], [("start", .int 0)]⟩, ⟨("_law_whole", none), "_law_whole", "_law_whole", defArgs d_law_whole, defBody d_law_whole, defScope d_law_whole, [], []⟩, ⟨("_law_cell", none), "_law_cell", "_law_cell", defArgs d_law_cell, defBody d_law_cell, defScope d_law_cell, [], []⟩, ⟨("_law_digits", none), "_law_digits", "_law_digits", defArgs d_law_digits, defBody d_law_digits, defScope d_law_digits, [], []⟩, ⟨("_law_alphabet", none), "_law_alphabet", "_law_alphabet", defArgs d_law_alphabet, defBody d_law_alphabet, defScope d_law_alphabet, [], []⟩, ⟨("_law_ratio", none), "_law_ratio", "_law_ratio", defArgs d_law_ratio, defBody d_law_ratio, defScope d_law_ratio, [], []⟩, ⟨("_law_fraction", none), "_law_fraction", "_law_fraction", defArgs d_law_fraction, defBody d_law_fraction, defScope d_law_fraction, [], []⟩, ⟨("_law_same", none), "_law_same", "_law_same", defArgs d_law_same, defBody d_law_same, defScope d_law_same, [], []⟩, ⟨("_law_bet", none), "_law_bet", "_law_bet", defArgs d_law_bet, defBody d_law_bet, defScope d_law_bet, [], []⟩, ⟨("_law_wide_rules", none), "_law_wide_rules", "_law_wide_rules", defArgs d_law_wide_rules, defBody d_law_wide_rules, defScope d_law_wide_rules, [], []⟩, ⟨("_law_product", none), "_law_product", "_law_product", defArgs d_law_product, defBody d_law_product, defScope d_law_product, [], []⟩, ⟨("_law_as_lists", none), "_law_as_lists", "_law_as_lists", defArgs d_law_as_lists, defBody d_law_as_lists, defScope d_law_as_lists, [], []⟩, ⟨("_law_common", none), "_law_common", "_law_common", defArgs d_law_common, defBody d_law_common, defScope d_law_common, [], []⟩, ⟨("_law_all_texts", none), "_law_all_texts", "_law_all_texts", defArgs d_law_all_texts, defBody d_law_all_texts, defScope d_law_all_texts, [], []⟩, ⟨("_law_listed", none), "_law_listed", "_law_listed", defArgs d_law_listed, defBody d_law_listed, defScope d_law_listed, [], []⟩, ⟨("_law_weights", none), "_law_weights", "_law_weights", defArgs d_law_weights, defBody d_law_weights, defScope d_law_weights, [], []⟩, ⟨("_law_all_bet", none), "_law_all_bet", "_law_all_bet", defArgs d_law_all_bet, defBody d_law_all_bet, defScope d_law_all_bet, [], []⟩, ⟨("law", none), "law", "law", defArgs d_law, defBody d_law, defScope d_law, [], []⟩]
def fa : List He.Fa := [.glo "Bettor", .glo "frozen", .glo "is_whole", .glo "check_alphabet", .glo "ratio", .glo "check_moves", .glo "check_bets", .glo "is_good_bet", .glo "common_total", .glo "one_letter_more", .glo "length_chance", .glo "_law_whole", .glo "_law_cell", .glo "_law_digits", .glo "_law_alphabet", .glo "_law_ratio", .glo "_law_fraction", .glo "_law_same", .glo "_law_bet", .glo "_law_wide_rules", .glo "_law_product", .glo "_law_as_lists", .glo "_law_common", .glo "_law_all_texts", .glo "_law_listed", .glo "_law_weights", .glo "_law_all_bet", .glo "law", .free "bool", .free "enumerate", .free "int", .free "isinstance", .free "len", .free "list", .free "max", .free "min", .free "range", .free "sorted", .free "sum", .free "tuple", .str "LETTERS" "0123456789abcdefghijklmnopqrstuvwxyz"]
abbrev R : PySem.W.OpenRow := PySem.W.OpenLaw.row PySem.Challenge.rw_unpressed_k65_chances_of_a_length
def xb (K : PySem.W.Frag) : Bool := objB objTab K && (He.eqO (PySem.W.nsIn K mainGlobals "gcd") (some (some (.builtin "math.gcd"))) && (He.eqO (PySem.W.nsIn K mainGlobals "lcm") (some (some (.builtin "math.lcm")))))
abbrev hk : PySem.W.Hook := hookX 5 fa fn xb
def ob (s : PySem.W.SharedT) : He.AlD × Bool := obsX 5 fa fn xb (HandSHeadRun.getT s)
theorem ob_eq (s : PySem.W.SharedT) : ob s = hk.obs s.abs := obsX_eq (HandSHeadRun.getT_eq s)
def loose : List PySem.Str := (["PressError", "BadAlphabet", "BadStanding", "BadBet", "LETTERS", "frozen", "is_whole", "check_alphabet", "ratio", "Bettor", "check_moves", "check_bets"] : List PySem.Str) ++ (["is_good_bet", "common_total", "one_letter_more", "length_chance", "_law_whole", "_law_cell", "_law_digits", "_law_alphabet", "_law_ratio", "_law_fraction", "_law_same", "_law_bet"] : List PySem.Str) ++ (["_law_wide_rules", "_law_product", "_law_as_lists", "_law_common", "_law_all_texts", "_law_listed", "_law_weights", "_law_all_bet"] : List PySem.Str)
theorem run (w : World) : HandSHeadRun.RunEqI R (PySem.W.view R.prog [0, 38]) hk ob 60000 loose w := by
  unfold HandSHeadRun.RunEqI
  kernel_rfl
end K65
end

section
set_option linter.all false
set_option maxRecDepth 100000
set_option maxHeartbeats 4000000
set_option autoImplicit false
/-! PL1: a layer of pure data over the hand layer. A value is plain data (D); lists and dicts that a def builds by mutation are owned cells of its slots; everything else is frozen. -/
namespace PL
open PySem PySem.Spec PyProof.Rows L2

inductive D where
  | non
  | bl (b : Bool)
  | int (i : Int)
  | str (x : Str)
  | tup (ds : List D)
  | lst (ds : List D)
  | scr (ds : List D)
  | dk (kvs : List (Key × D))
  | dt (kvs : List (List Key × D))
  | obj (C : Str) (fs : List (Str × D))
  | err (C : Str) (fs : List (Str × D))

abbrev MG := Str → Option Value

/-- what is tracked at a tells: an exception object of the class at C, its dict at dx -/
def Exq (u : HO) (a C dx : Addr) : Prop := ∃ φ : Heap → Prop, u = .ext φ ∧ ∀ h, φ h → ∃ (oe : Obj) (vs : Array Value), h.get? a = some oe ∧ oe.cls = .ref C ∧ oe.dict = some dx ∧ oe.data = .fields vs
theorem exq_exo {a C dx : Addr} : Exq (exo a C (some dx)) a C dx := ⟨_, rfl, fun _ ⟨_, e⟩ => ⟨_, _, e, rfl, rfl, rfl⟩⟩
theorem Exq.frz {u : HO} {a C dx : Addr} {o : Obj} {w : HO} (q : Exq u a C dx) : u ≠ .frz o w := fun z => by
  obtain ⟨φ, e, _⟩ := q
  rw [e] at z; cases z
theorem Exq.at {P : Program} {w : World} {H : Hp} {h : Heap} {u : HO} {a C dx : Addr} (q : Exq u a C dx) (hok : HOk P w H h) (e : H a = some u) : ∃ (oe : Obj) (vs : Array Value), h.get? a = some oe ∧ oe.cls = .ref C ∧ oe.dict = some dx ∧ oe.data = .fields vs := by
  obtain ⟨φ, rfl, k⟩ := q
  have x : ObjOk P w H h a (.ext φ) := hok a _ e
  exact k _ x.1

mutual
inductive Rep (K : PySem.W.Frag) (mg : MG) (G : Hp) : V → D → Prop
  | non : Rep K mg G .non .non
  | bl (b : Bool) : Rep K mg G (.bl b) (.bl b)
  | int (i : Int) : Rep K mg G (.int i) (.int i)
  | str (x : Str) : Rep K mg G (.str x) (.str x)
  | tup {a : Addr} {vs : List V} {ds : List D} : G a = some (.tup vs) → Reps K mg G vs ds → Rep K mg G (.ref a) (.tup ds)
  | lst {a : Addr} {vs : List V} {ds : List D} : G a = some (.lst vs) → Reps K mg G vs ds → Rep K mg G (.ref a) (.lst ds)
  | scr {a : Addr} {vs : List V} {ds : List D} : SqL K G a vs → Reps K mg G vs ds → Rep K mg G (.ref a) (.scr ds)
  | dk {a : Addr} {vs : List (Key × V)} {ds : List (Key × D)} : Rd G a (.dK vs) → RepKV K mg G vs ds → Rep K mg G (.ref a) (.dk ds)
  | dt {a : Addr} {vs : List (List Key × V)} {ds : List (List Key × D)} : G a = some (.dT vs) → RepTV K mg G vs ds → Rep K mg G (.ref a) (.dt ds)
  | obj {a C dx : Addr} {cls : Str} {fs : List (Str × V)} {ds : List (Str × D)} : G a = some (.ins C dx fs) → mg cls = some (.ref C) → RepF K mg G fs ds → Rep K mg G (.ref a) (.obj cls ds)
  | slf {a C dx : Addr} {cls : Str} {fs : List (Str × V)} {ds : List (Str × D)} : G a = some (.ins C dx fs) → mg cls = some (.ref C) → RepF K mg G fs ds → Rep K mg G (.ref a) (.obj cls (("@", .int (a : Nat)) :: ds))
  | err {a C dx : Addr} {cls : Str} {fs : List (Str × V)} {ds : List (Str × D)} {u : HO} : G a = some u → Exq u a C dx → G dx = some (exd dx fs) → mg cls = some (.ref C) → RepF K mg G fs ds → Rep K mg G (.ref a) (.err cls ds)
inductive Reps (K : PySem.W.Frag) (mg : MG) (G : Hp) : List V → List D → Prop
  | nil : Reps K mg G [] []
  | cons {v : V} {vs : List V} {d : D} {ds : List D} : Rep K mg G v d → Reps K mg G vs ds → Reps K mg G (v :: vs) (d :: ds)
inductive RepKV (K : PySem.W.Frag) (mg : MG) (G : Hp) : List (Key × V) → List (Key × D) → Prop
  | nil : RepKV K mg G [] []
  | cons {k : Key} {v : V} {vs : List (Key × V)} {d : D} {ds : List (Key × D)} : Rep K mg G v d → RepKV K mg G vs ds → RepKV K mg G ((k, v) :: vs) ((k, d) :: ds)
inductive RepTV (K : PySem.W.Frag) (mg : MG) (G : Hp) : List (List Key × V) → List (List Key × D) → Prop
  | nil : RepTV K mg G [] []
  | cons {k : List Key} {v : V} {vs : List (List Key × V)} {d : D} {ds : List (List Key × D)} : Rep K mg G v d → RepTV K mg G vs ds → RepTV K mg G ((k, v) :: vs) ((k, d) :: ds)
inductive RepF (K : PySem.W.Frag) (mg : MG) (G : Hp) : List (Str × V) → List (Str × D) → Prop
  | nil : RepF K mg G [] []
  | cons {k : Str} {v : V} {vs : List (Str × V)} {d : D} {ds : List (Str × D)} : Rep K mg G v d → RepF K mg G vs ds → RepF K mg G ((k, v) :: vs) ((k, d) :: ds)
end

theorem Same.sqT {K : PySem.W.Frag} {H H' : Hp} {a : Addr} {xs : List V} (e : Same H H') (h : SqT K H a xs) : SqT K H' a xs := by
  rcases h with (h | ⟨o, h⟩) | h
  · exact .inl (.inl (e _ _ h))
  · exact .inl (.inr ⟨o, e _ _ h⟩)
  · exact .inr h

theorem rd_same {G H : Hp} {a : Addr} {u : HO} (e : Same G H) (h : Rd G a u) : Rd H a u := by
  rcases h with h | ⟨o, h⟩
  · exact .inl (e _ _ h)
  · exact .inr ⟨o, e _ _ h⟩
section
variable {K : PySem.W.Frag} {mg : MG} {G G' : Hp}
mutual
theorem Rep.mono (e : Same G G') : ∀ {v : V} {d : D}, Rep K mg G v d → Rep K mg G' v d
  | _, _, .non => .non
  | _, _, .bl b => .bl b
  | _, _, .int i => .int i
  | _, _, .str x => .str x
  | _, _, .tup h r => .tup (e _ _ h) (Reps.mono e r)
  | _, _, .lst h r => .lst (e _ _ h) (Reps.mono e r)
  | _, _, .scr h r => .scr (e.seq h) (Reps.mono e r)
  | _, _, .dk h r => .dk (rd_same e h) (RepKV.mono e r)
  | _, _, .dt h r => .dt (e _ _ h) (RepTV.mono e r)
  | _, _, .obj h m r => .obj (e _ _ h) m (RepF.mono e r)
  | _, _, .slf h m r => .slf (e _ _ h) m (RepF.mono e r)
  | _, _, .err h q h2 m r => .err (e _ _ h) q (e _ _ h2) m (RepF.mono e r)
theorem Reps.mono (e : Same G G') : ∀ {v : List V} {d : List D}, Reps K mg G v d → Reps K mg G' v d
  | _, _, .nil => .nil
  | _, _, .cons h t => .cons (Rep.mono e h) (Reps.mono e t)
theorem RepKV.mono (e : Same G G') : ∀ {v : List (Key × V)} {d : List (Key × D)}, RepKV K mg G v d → RepKV K mg G' v d
  | _, _, .nil => .nil
  | _, _, .cons h t => .cons (Rep.mono e h) (RepKV.mono e t)
theorem RepTV.mono (e : Same G G') : ∀ {v : List (List Key × V)} {d : List (List Key × D)}, RepTV K mg G v d → RepTV K mg G' v d
  | _, _, .nil => .nil
  | _, _, .cons h t => .cons (Rep.mono e h) (RepTV.mono e t)
theorem RepF.mono (e : Same G G') : ∀ {v : List (Str × V)} {d : List (Str × D)}, RepF K mg G v d → RepF K mg G' v d
  | _, _, .nil => .nil
  | _, _, .cons h t => .cons (Rep.mono e h) (RepF.mono e t)
end
theorem Reps.length : ∀ {vs : List V} {ds : List D}, Reps K mg G vs ds → vs.length = ds.length
  | _, _, .nil => rfl
  | _, _, .cons _ t => congrArg (· + 1) (Reps.length t)
theorem Reps.get : ∀ {vs : List V} {ds : List D} {i : Nat} {v : V}, Reps K mg G vs ds → vs[i]? = some v → ∃ d, ds[i]? = some d ∧ Rep K mg G v d
  | _, _, _, _, .nil, e => by simp at e
  | _, _, 0, _, .cons r _, e => by simp at e; subst e; exact ⟨_, rfl, r⟩
  | _, _, i + 1, v, .cons _ t, e => by
    obtain ⟨d, h1, h2⟩ := Reps.get (i := i) (v := v) t (by simpa using e)
    exact ⟨d, by simpa using h1, h2⟩
theorem Reps.getD : ∀ {vs : List V} {ds : List D} {i : Nat} {d : D}, Reps K mg G vs ds → ds[i]? = some d → ∃ v, vs[i]? = some v ∧ Rep K mg G v d
  | _, _, _, _, .nil, e => by simp at e
  | _, _, 0, _, .cons r _, e => by simp at e; subst e; exact ⟨_, rfl, r⟩
  | _, _, i + 1, d, .cons _ t, e => by
    obtain ⟨v, h1, h2⟩ := Reps.getD (i := i) (d := d) t (by simpa using e)
    exact ⟨v, by simpa using h1, h2⟩
theorem Reps.append : ∀ {vs ws : List V} {ds es : List D}, Reps K mg G vs ds → Reps K mg G ws es → Reps K mg G (vs ++ ws) (ds ++ es)
  | _, _, _, _, .nil, h => h
  | _, _, _, _, .cons r t, h => .cons r (Reps.append t h)
theorem Reps.take : ∀ {vs : List V} {ds : List D} (n : Nat), Reps K mg G vs ds → Reps K mg G (vs.take n) (ds.take n)
  | _, _, 0, _ => by simp only [List.take_zero]; exact .nil
  | _, _, _ + 1, .nil => .nil
  | _, _, n + 1, .cons r t => .cons r (Reps.take n t)
theorem Reps.drop : ∀ {vs : List V} {ds : List D} (n : Nat), Reps K mg G vs ds → Reps K mg G (vs.drop n) (ds.drop n)
  | _, _, 0, r => r
  | _, _, _ + 1, .nil => .nil
  | _, _, n + 1, .cons _ t => Reps.drop n t
theorem Reps.set {v : V} {d : D} (r : Rep K mg G v d) : ∀ {vs : List V} {ds : List D} (i : Nat), Reps K mg G vs ds → Reps K mg G (vs.set i v) (ds.set i d)
  | _, _, _, .nil => .nil
  | _, _, 0, .cons _ t => .cons r t
  | _, _, i + 1, .cons q t => .cons q (Reps.set r i t)
theorem Reps.reverse {vs : List V} {ds : List D} (h : Reps K mg G vs ds) : Reps K mg G vs.reverse ds.reverse := by
  induction vs generalizing ds with
  | nil => cases h; exact .nil
  | cons v vs ih =>
    cases h with
    | cons r t =>
      simp only [List.reverse_cons]
      exact (ih t).append (.cons r .nil)
theorem Reps.ints : ∀ {vs : List V} {ns : List Int}, Reps K mg G vs (ns.map D.int) → vs = ns.map V.int
  | _, [], .nil => rfl
  | _, n :: ns, .cons r t => by
    cases r
    rw [Reps.ints t]; rfl
theorem Reps.strs : ∀ {vs : List V} {ns : List Str}, Reps K mg G vs (ns.map D.str) → vs = ns.map V.str
  | _, [], .nil => rfl
  | _, n :: ns, .cons r t => by
    cases r
    rw [Reps.strs t]; rfl
theorem Reps.bls : ∀ {vs : List V} {ns : List Bool}, Reps K mg G vs (ns.map D.bl) → vs = ns.map V.bl
  | _, [], .nil => rfl
  | _, n :: ns, .cons r t => by
    cases r
    rw [Reps.bls t]; rfl
theorem Reps.ofInts : ∀ (ns : List Int), Reps K mg G (ns.map V.int) (ns.map D.int)
  | [] => .nil
  | n :: ns => .cons (.int n) (Reps.ofInts ns)
theorem Reps.ofStrs : ∀ (ns : List Str), Reps K mg G (ns.map V.str) (ns.map D.str)
  | [] => .nil
  | n :: ns => .cons (.str n) (Reps.ofStrs ns)
end

/-! ### growth of the frozen part and of the whole heap -/
structure Ext (G H G' H' : Hp) : Prop where
  g : Same G G'
  h : Same H H'
  s : Same G' H'
  f : ∀ a, G a = none → G' a ≠ none → H a = none
theorem Ext.refl {G H : Hp} (s : Same G H) : Ext G H G H := ⟨Same.refl _, Same.refl _, s, fun _ e n => absurd e n⟩
theorem Ext.trans {G H G1 H1 G2 H2 : Hp} (a : Ext G H G1 H1) (b : Ext G1 H1 G2 H2) : Ext G H G2 H2 :=
  ⟨a.g.trans b.g, a.h.trans b.h, b.s, fun x e n => by
    by_cases q : G1 x = none
    · exact a.h.free (b.f x q n)
    · exact a.f x e q⟩
theorem Same.upd {H : Hp} {p : Addr} {o : HO} (n : H p = none) : Same H (L2.upd H p o) := fun b u e => by rw [upd_ne (ne_of_none e n)]; exact e
/-- a new frozen object -/
theorem Ext.new {G H : Hp} {p : Addr} {o : HO} (s : Same G H) (n : H p = none) : Ext G H (upd G p o) (upd H p o) := by
  have nG : G p = none := s.free n
  refine ⟨Same.upd nG, Same.upd n, fun b u e => ?_, fun a e q => ?_⟩
  · by_cases h : b = p
    · subst h; rw [upd_same] at e ⊢; exact e
    · rw [upd_ne h] at e ⊢; exact s _ _ e
  · by_cases h : a = p
    · subst h; exact n
    · rw [upd_ne h] at q; exact absurd e q
/-- a new object that is not frozen -/
theorem Ext.newH {G H : Hp} {p : Addr} {o : HO} (s : Same G H) (n : H p = none) : Ext G H G (upd H p o) :=
  ⟨Same.refl _, Same.upd n, s.trans (Same.upd n), fun _ e q => absurd e q⟩

/-! ### slots -/
inductive C where
  | un
  | fz (d : D)
  | ow (d : D)

inductive Top (K : PySem.W.Frag) (mg : MG) (H G : Hp) (l : Addr) : D → Prop
  | lst {vs : List V} {ds : List D} : H l = some (.lst vs) → Reps K mg G vs ds → Top K mg H G l (.lst ds)
  | dk {vs : List (Key × V)} {ds : List (Key × D)} : H l = some (.dK vs) → RepKV K mg G vs ds → Top K mg H G l (.dk ds)
  | dt {vs : List (List Key × V)} {ds : List (List Key × D)} : H l = some (.dT vs) → RepTV K mg G vs ds → Top K mg H G l (.dt ds)
  | slf {C dx : Addr} {cls : Str} {vs : List (Str × V)} {ds : List (Str × D)} : H l = some (.ins C dx vs) → mg cls = some (.ref C) → RepF K mg G vs ds → Top K mg H G l (.obj cls (("@", .int (l : Nat)) :: ds))

section
variable {K : PySem.W.Frag} {mg : MG} {G H G' H' : Hp} {l : Addr} {d : D}
theorem Top.mono (h : Top K mg H G l d) (a : Same H H') (b : Same G G') : Top K mg H' G' l d := by
  cases h with
  | lst e r => exact .lst (a _ _ e) (r.mono b)
  | dk e r => exact .dk (a _ _ e) (r.mono b)
  | dt e r => exact .dt (a _ _ e) (r.mono b)
  | slf e m r => exact .slf (a _ _ e) m (r.mono b)
theorem Top.some (h : Top K mg H G l d) : ∃ o, H l = Option.some o := by
  cases h with
  | lst e r => exact ⟨_, e⟩
  | dk e r => exact ⟨_, e⟩
  | dt e r => exact ⟨_, e⟩
  | slf e m r => exact ⟨_, e⟩
/-- an owned cell is frozen -/
theorem Top.freeze (h : Top K mg H G l d) (s : Same G H) (n : G l = none) : ∃ o, H l = Option.some o ∧ Rep K mg (upd G l o) (.ref l) d ∧ Same G (upd G l o) ∧ Same (upd G l o) H := by
  have sG : ∀ o, Same G (upd G l o) := fun o => Same.upd n
  have sH : ∀ o, H l = Option.some o → Same (upd G l o) H := fun o e b u q => by
    by_cases hb : b = l
    · subst hb; rw [upd_same] at q; cases q; exact e
    · rw [upd_ne hb] at q; exact s _ _ q
  cases h with
  | lst e r => exact ⟨_, e, .lst upd_same (r.mono (sG _)), sG _, sH _ e⟩
  | dk e r => exact ⟨_, e, .dk (.inl upd_same) (r.mono (sG _)), sG _, sH _ e⟩
  | dt e r => exact ⟨_, e, .dt upd_same (r.mono (sG _)), sG _, sH _ e⟩
  | slf e m r => exact ⟨_, e, .slf upd_same m (r.mono (sG _)), sG _, sH _ e⟩
end

/-- a value that is read at its top: frozen, or an owned cell -/
def Shal (K : PySem.W.Frag) (mg : MG) (H G : Hp) (v : V) (d : D) : Prop := Rep K mg G v d ∨ ∃ l, v = .ref l ∧ Top K mg H G l d
theorem Shal.mono {K : PySem.W.Frag} {mg : MG} {G H G' H' : Hp} {v : V} {d : D} (h : Shal K mg H G v d) (a : Same H H') (b : Same G G') : Shal K mg H' G' v d := by
  rcases h with h | ⟨l, e, t⟩
  · exact .inl (h.mono b)
  · exact .inr ⟨l, e, t.mono a b⟩
section
variable {K : PySem.W.Frag} {mg : MG} {G H : Hp} {v : V}
theorem Shal.int {i : Int} (h : Shal K mg H G v (.int i)) : v = .int i := by
  rcases h with h | ⟨l, e, t⟩
  · cases h; rfl
  · cases t
theorem Shal.bl {i : Bool} (h : Shal K mg H G v (.bl i)) : v = .bl i := by
  rcases h with h | ⟨l, e, t⟩
  · cases h; rfl
  · cases t
theorem Shal.str {i : Str} (h : Shal K mg H G v (.str i)) : v = .str i := by
  rcases h with h | ⟨l, e, t⟩
  · cases h; rfl
  · cases t
theorem Shal.non (h : Shal K mg H G v .non) : v = .non := by
  rcases h with h | ⟨l, e, t⟩
  · cases h; rfl
  · cases t
theorem Shal.lst {ds : List D} (h : Shal K mg H G v (.lst ds)) (s : Same G H) : ∃ l vs, v = .ref l ∧ H l = some (.lst vs) ∧ Reps K mg G vs ds := by
  rcases h with h | ⟨l, e, t⟩
  · cases h with
    | lst e r => exact ⟨_, _, rfl, s _ _ e, r⟩
  · cases t with
    | lst e' r => exact ⟨_, _, e, e', r⟩
theorem Shal.dk {ds : List (Key × D)} (h : Shal K mg H G v (.dk ds)) (s : Same G H) : ∃ l vs, v = .ref l ∧ Rd H l (.dK vs) ∧ RepKV K mg G vs ds := by
  rcases h with h | ⟨l, e, t⟩
  · cases h with
    | dk e r => exact ⟨_, _, rfl, rd_same s e, r⟩
  · cases t with
    | dk e' r => exact ⟨_, _, e, .inl e', r⟩
theorem Shal.dt {ds : List (List Key × D)} (h : Shal K mg H G v (.dt ds)) (s : Same G H) : ∃ l vs, v = .ref l ∧ H l = some (.dT vs) ∧ RepTV K mg G vs ds := by
  rcases h with h | ⟨l, e, t⟩
  · cases h with
    | dt e r => exact ⟨_, _, rfl, s _ _ e, r⟩
  · cases t with
    | dt e' r => exact ⟨_, _, e, e', r⟩
theorem Shal.scr {ds : List D} (h : Shal K mg H G v (.scr ds)) (s : Same G H) : ∃ l vs, v = .ref l ∧ SqL K H l vs ∧ Reps K mg G vs ds := by
  rcases h with h | ⟨l, e, t⟩
  · cases h with
    | scr e r => exact ⟨_, _, rfl, s.seq e, r⟩
  · cases t
theorem Shal.tup {ds : List D} (h : Shal K mg H G v (.tup ds)) (s : Same G H) : ∃ l vs, v = .ref l ∧ H l = some (.tup vs) ∧ Reps K mg G vs ds := by
  rcases h with h | ⟨l, e, t⟩
  · cases h with
    | tup e r => exact ⟨_, _, rfl, s _ _ e, r⟩
  · cases t
theorem Shal.err {cls : Str} {ds : List (Str × D)} (h : Shal K mg H G v (.err cls ds)) : Rep K mg G v (.err cls ds) := by
  rcases h with h | ⟨l, e, t⟩
  · exact h
  · cases t
theorem Shal.obj {cls : Str} {ds : List (Str × D)} (h : Shal K mg H G v (.obj cls ds)) (s : Same G H) : ∃ a C dx vs ds', v = .ref a ∧ H a = some (.ins C dx vs) ∧ mg cls = some (.ref C) ∧ RepF K mg G vs ds' ∧ (ds = ds' ∨ ds = (("@", D.int (a : Nat)) :: ds' : List (Str × D))) := by
  rcases h with h | ⟨l, e, t⟩
  · cases h with
    | obj e m r => exact ⟨_, _, _, _, _, rfl, s _ _ e, m, r, .inl rfl⟩
    | slf e m r => exact ⟨_, _, _, _, _, rfl, s _ _ e, m, r, .inr rfl⟩
  · cases t with
    | slf a m r => exact ⟨_, _, _, _, _, e, a, m, r, .inr rfl⟩
end

def SlotOk (K : PySem.W.Frag) (mg : MG) (H G : Hp) (c : C) (o : Option (Option V)) : Prop := match c with
  | .un => True
  | .fz d => ∃ v, o = some (some v) ∧ Rep K mg G v d
  | .ow d => ∃ l, o = some (some (.ref l)) ∧ Top K mg H G l d ∧ G l = none

structure Ok (K : PySem.W.Frag) (mg : MG) (G H : Hp) (env : List C) (σ : L2.St) : Prop where
  same : Same G H
  slot : ∀ (i : Nat) (c : C), env[i]? = some c → SlotOk K mg H G c σ[i]?
  apart : ∀ (i j : Nat) (d e : D) (l : Addr), env[i]? = some (.ow d) → env[j]? = some (.ow e) → σ[i]? = some (some (.ref l)) → σ[j]? = some (some (.ref l)) → i = j
  len : env.length = σ.length
section
variable {K : PySem.W.Frag} {mg : MG} {G H G' H' : Hp} {env : List C} {σ : L2.St}
theorem SlotOk.ext {c : C} {o : Option (Option V)} (h : SlotOk K mg H G c o) (e : Ext G H G' H') : SlotOk K mg H' G' c o := by
  cases c with
  | un => trivial
  | fz d => obtain ⟨v, a, r⟩ := h; exact ⟨v, a, r.mono e.g⟩
  | ow d =>
    obtain ⟨l, a, t, n⟩ := h
    refine ⟨l, a, t.mono e.h e.g, ?_⟩
    cases q : G' l with
    | none => rfl
    | some o =>
      obtain ⟨u, hu⟩ := t.some
      have := e.f l n (by rw [q]; intro z; cases z)
      rw [hu] at this; cases this
theorem Ok.ext (h : Ok K mg G H env σ) (e : Ext G H G' H') : Ok K mg G' H' env σ :=
  ⟨e.s, fun i c q => (h.slot i c q).ext e, h.apart, h.len⟩
end

structure Rel (K : PySem.W.Frag) (mg : MG) (G0 H0 G H : Hp) (env : List C) (σ : L2.St) : Prop where
  ok : Ok K mg G H env σ
  ext : Ext G0 H0 G H
  own : ∀ (i : Nat) (d : D) (l : Addr), env[i]? = some (.ow d) → σ[i]? = some (some (.ref l)) → H0 l = none
theorem Rel.step {K : PySem.W.Frag} {mg : MG} {G0 H0 G H G' H' : Hp} {env : List C} {σ : L2.St} (h : Rel K mg G0 H0 G H env σ) (e : Ext G H G' H') : Rel K mg G0 H0 G' H' env σ :=
  ⟨h.ok.ext e, h.ext.trans e, h.own⟩

/-- slot i gets frozen data -/
theorem Rel.setFz {K : PySem.W.Frag} {mg : MG} {G0 H0 G H : Hp} {env : List C} {σ : L2.St} {i : Nat} {v : V} {d : D} (h : Rel K mg G0 H0 G H env σ) (r : Rep K mg G v d) :
    Rel K mg G0 H0 G H (env.set i (.fz d)) (σ.set i (some v)) := by
  have low : ∀ {j : Nat} {e : D}, (env.set i (.fz d))[j]? = some (.ow e) → j ≠ i ∧ env[j]? = some (.ow e) := fun {j e} q => by
    rw [List.getElem?_set] at q
    split at q
    · split at q <;> cases q
    · rename_i hij; exact ⟨Ne.symm hij, q⟩
  refine ⟨⟨h.ok.same, fun j c q => ?_, fun j k d' e' l q1 q2 s1 s2 => ?_, by simp [h.ok.len]⟩, h.ext, fun j d' l q s1 => ?_⟩
  · rw [List.getElem?_set] at q
    split at q
    · rename_i hij
      subst hij
      split at q
      · rename_i hl
        cases q
        refine ⟨v, ?_, r⟩
        rw [List.getElem?_set_self (by rw [← h.ok.len]; exact hl)]
      · cases q
    · rename_i hij
      rw [List.getElem?_set_ne hij]
      exact h.ok.slot j c q
  · obtain ⟨n1, e1⟩ := low q1
    obtain ⟨n2, e2⟩ := low q2
    rw [List.getElem?_set_ne (Ne.symm n1)] at s1
    rw [List.getElem?_set_ne (Ne.symm n2)] at s2
    exact h.ok.apart j k d' e' l e1 e2 s1 s2
  · obtain ⟨n1, e1⟩ := low q
    rw [List.getElem?_set_ne (Ne.symm n1)] at s1
    exact h.own j d' l e1 s1
/-- slot i gets a new owned cell -/
theorem Rel.setOw {K : PySem.W.Frag} {mg : MG} {G0 H0 G H : Hp} {env : List C} {σ : L2.St} {i : Nat} {l : Addr} {d : D} (h : Rel K mg G0 H0 G H env σ) (t : Top K mg H G l d) (n : G l = none) (n0 : H0 l = none)
    (new : ∀ (j : Nat) (e : D), env[j]? = some (.ow e) → σ[j]? ≠ some (some (.ref l))) :
    Rel K mg G0 H0 G H (env.set i (.ow d)) (σ.set i (some (.ref l))) := by
  have low : ∀ {j : Nat} {e : D}, (env.set i (.ow d))[j]? = some (.ow e) → j ≠ i → env[j]? = some (.ow e) := fun {j e} q hn => by
    rw [List.getElem?_set_ne (Ne.symm hn)] at q
    exact q
  refine ⟨⟨h.ok.same, fun j c q => ?_, fun j k d' e' m q1 q2 s1 s2 => ?_, by simp [h.ok.len]⟩, h.ext, fun j d' m q s1 => ?_⟩
  · rw [List.getElem?_set] at q
    split at q
    · rename_i hij
      subst hij
      split at q
      · rename_i hl
        cases q
        refine ⟨l, ?_, t, n⟩
        rw [List.getElem?_set_self (by rw [← h.ok.len]; exact hl)]
      · cases q
    · rename_i hij
      rw [List.getElem?_set_ne hij]
      exact h.ok.slot j c q
  · by_cases a1 : j = i
    · by_cases a2 : k = i
      · rw [a1, a2]
      · subst a1
        have e2 := low q2 a2
        rw [List.getElem?_set_ne (Ne.symm a2)] at s2
        rw [List.getElem?_set] at s1
        split at s1
        · split at s1
          · cases s1; exact absurd s2 (new k e' e2)
          · cases s1
        · rename_i z; exact absurd rfl z
    · have e1 := low q1 a1
      rw [List.getElem?_set_ne (Ne.symm a1)] at s1
      by_cases a2 : k = i
      · subst a2
        rw [List.getElem?_set] at s2
        split at s2
        · split at s2
          · cases s2; exact absurd s1 (new j d' e1)
          · cases s2
        · rename_i z; exact absurd rfl z
      · have e2 := low q2 a2
        rw [List.getElem?_set_ne (Ne.symm a2)] at s2
        exact h.ok.apart j k d' e' m e1 e2 s1 s2
  · by_cases a1 : j = i
    · subst a1
      rw [List.getElem?_set] at s1
      split at s1
      · split at s1
        · cases s1; exact n0
        · cases s1
      · rename_i z; exact absurd rfl z
    · have e1 := low q a1
      rw [List.getElem?_set_ne (Ne.symm a1)] at s1
      exact h.own j d' m e1 s1
/-- the cell of slot i is changed -/
theorem Rel.write {K : PySem.W.Frag} {mg : MG} {G0 H0 G H : Hp} {env : List C} {σ : L2.St} {i : Nat} {l : Addr} {d e : D} {o : HO} (h : Rel K mg G0 H0 G H env σ) (hi : env[i]? = some (.ow d)) (hl : σ[i]? = some (some (.ref l))) (n : G l = none)
    (t : Top K mg (upd H l o) G l e) : Rel K mg G0 H0 G (upd H l o) (env.set i (.ow e)) σ := by
  have n0 := h.own i d l hi hl
  have sm : Same G (upd H l o) := fun b u q => by
    have : b ≠ l := fun z => by subst z; rw [n] at q; cases q
    rw [upd_ne this]; exact h.ok.same _ _ q
  have low : ∀ {j : Nat} {f : D}, (env.set i (.ow e))[j]? = some (.ow f) → ∃ f', env[j]? = some (.ow f') := fun {j f} q => by
    rw [List.getElem?_set] at q
    split at q
    · rename_i hij; subst hij; exact ⟨d, hi⟩
    · exact ⟨f, q⟩
  refine ⟨⟨sm, fun j c q => ?_, fun j k d' e' m q1 q2 s1 s2 => ?_, by simp [h.ok.len]⟩, ⟨h.ext.g, fun b u q => ?_, sm, h.ext.f⟩, fun j d' m q s1 => ?_⟩
  · rw [List.getElem?_set] at q
    split at q
    · rename_i hij
      subst hij
      split at q
      · cases q; exact ⟨l, hl, t, n⟩
      · cases q
    · rename_i hij
      have s := h.ok.slot j c q
      cases c with
      | un => trivial
      | fz d' => exact s
      | ow d' =>
        obtain ⟨m, e1, t1, n1⟩ := s
        have ne : m ≠ l := fun z => by subst z; exact hij (h.ok.apart i j d d' m hi q hl e1)
        refine ⟨m, e1, ?_, n1⟩
        cases t1 with
        | lst a r => exact .lst (by rw [upd_ne ne]; exact a) r
        | dk a r => exact .dk (by rw [upd_ne ne]; exact a) r
        | dt a r => exact .dt (by rw [upd_ne ne]; exact a) r
        | slf a cm r => exact .slf (by rw [upd_ne ne]; exact a) cm r
  · obtain ⟨f1, z1⟩ := low q1
    obtain ⟨f2, z2⟩ := low q2
    exact h.ok.apart j k f1 f2 m z1 z2 s1 s2
  · have : b ≠ l := fun z => by subst z; rw [n0] at q; cases q
    rw [upd_ne this]; exact h.ext.h _ _ q
  · obtain ⟨f1, z1⟩ := low q
    exact h.own j f1 m z1 s1
/-- slot i's cell is frozen -/
def frz (i : Nat) (env : List C) : List C := match env[i]? with
  | some (.ow d) => env.set i (.fz d)
  | _ => env
theorem Rel.freezeT {K : PySem.W.Frag} {mg : MG} {G0 H0 G H : Hp} {env : List C} {σ : L2.St} (i : Nat) (h : Rel K mg G0 H0 G H env σ) : ∃ G', Rel K mg G0 H0 G' H (frz i env) σ ∧ Same G G' ∧ ∀ a vs, G' a = some (.tup vs) → G a = some (.tup vs) := by
  unfold frz
  split
  · rename_i d hd
    obtain ⟨l, hl, t, n⟩ := h.ok.slot i _ hd
    obtain ⟨o, ho, r, s1, s2⟩ := t.freeze h.ok.same n
    have n0 := h.own i d l hd hl
    have nt : ∀ a vs, upd G l o a = some (.tup vs) → G a = some (.tup vs) := fun a vs q => by
      by_cases hal : a = l
      · subst hal
        rw [upd_same] at q
        cases q
        cases t with
        | lst e _ => rw [ho] at e; cases e
        | dk e _ => rw [ho] at e; cases e
        | dt e _ => rw [ho] at e; cases e
        | slf e _ _ => rw [ho] at e; cases e
      · rwa [upd_ne hal] at q
    have fre : ∀ a, G a = none → a ≠ l → upd G l o a = none := fun a e ne => by rw [upd_ne ne]; exact e
    have low : ∀ {j : Nat} {e : D}, (env.set i (.fz d))[j]? = some (.ow e) → j ≠ i ∧ env[j]? = some (.ow e) := fun {j e} q => by
      rw [List.getElem?_set] at q
      split at q
      · split at q <;> cases q
      · rename_i hij; exact ⟨Ne.symm hij, q⟩
    refine ⟨upd G l o, ⟨⟨s2, fun j c q => ?_, fun j k d' e' m q1 q2 z1 z2 => h.ok.apart j k d' e' m (low q1).2 (low q2).2 z1 z2, by simp [h.ok.len]⟩, ⟨h.ext.g.trans s1, h.ext.h, s2, fun a e ne => ?_⟩, fun j d' m q z => h.own j d' m (low q).2 z⟩, s1, nt⟩
    · rw [List.getElem?_set] at q
      split at q
      · rename_i hij
        subst hij
        split at q
        · cases q; exact ⟨_, hl, r⟩
        · cases q
      · rename_i hij
        have s := h.ok.slot j c q
        cases c with
        | un => trivial
        | fz d' => obtain ⟨v, a, b⟩ := s; exact ⟨v, a, b.mono s1⟩
        | ow d' =>
          obtain ⟨m, e1, t1, n1⟩ := s
          have ne : m ≠ l := fun z => by subst z; exact hij (h.ok.apart i j d d' m hd q hl e1)
          exact ⟨m, e1, t1.mono (Same.refl _) s1, fre m n1 ne⟩
    · by_cases hal : a = l
      · subst hal; exact n0
      · rw [upd_ne hal] at ne; exact h.ext.f a e ne
  · exact ⟨G, h, Same.refl _, fun _ _ q => q⟩
theorem Rel.freeze {K : PySem.W.Frag} {mg : MG} {G0 H0 G H : Hp} {env : List C} {σ : L2.St} (i : Nat) (h : Rel K mg G0 H0 G H env σ) : ∃ G', Rel K mg G0 H0 G' H (frz i env) σ ∧ Same G G' := by
  obtain ⟨G', a, b, _⟩ := h.freezeT i
  exact ⟨G', a, b⟩
/-- slot i is forgotten -/
theorem Rel.forget {K : PySem.W.Frag} {mg : MG} {G0 H0 G H : Hp} {env : List C} {σ : L2.St} (i : Nat) (h : Rel K mg G0 H0 G H env σ) : Rel K mg G0 H0 G H (env.set i .un) σ := by
  have low : ∀ {j : Nat} {e : D}, (env.set i .un)[j]? = some (.ow e) → env[j]? = some (.ow e) := fun {j e} q => by
    rw [List.getElem?_set] at q
    split at q
    · split at q <;> cases q
    · exact q
  refine ⟨⟨h.ok.same, fun j c q => ?_, fun j k d' e' m q1 q2 z1 z2 => h.ok.apart j k d' e' m (low q1) (low q2) z1 z2, by simp [h.ok.len]⟩, h.ext, fun j d' m q z => h.own j d' m (low q) z⟩
  rw [List.getElem?_set] at q
  split at q
  · split at q
    · cases q; trivial
    · cases q
  · exact h.ok.slot j c q
end PL
end

section
set_option linter.all false
set_option maxRecDepth 100000
set_option maxHeartbeats 4000000
set_option autoImplicit false
/-! PL2: judgements over plain data, and expressions. -/
namespace PL
open PySem PySem.Spec PyProof.Rows L2

abbrev PTE := List C → (D → Prop) → Prop
abbrev PTT := List C → (Bool → Prop) → Prop
abbrev PTA := List C → (List D → Prop) → Prop

/-- an expression, its value frozen -/
structure PuE (X : Cx) (e : Expr) (p : PTE) : Prop where
  ex : ∃ t : TE, PE X e t ∧ ∀ (G H : Hp) (env : List C) (σ : L2.St) (P : D → Prop) (Q : VK), Ok X.K X.mg G H env σ → p env P →
    (∀ d v G' H', Ext G H G' H' → Rep X.K X.mg G' v d → P d → Q v H') → t σ H Q
/-- .. its value read at its top -/
structure PuO (X : Cx) (e : Expr) (p : PTE) : Prop where
  ex : ∃ t : TE, PE X e t ∧ ∀ (G H : Hp) (env : List C) (σ : L2.St) (P : D → Prop) (Q : VK), Ok X.K X.mg G H env σ → p env P →
    (∀ d v G' H', Ext G H G' H' → Shal X.K X.mg H' G' v d → P d → Q v H') → t σ H Q
/-- .. its value a new cell -/
structure PuF (X : Cx) (e : Expr) (p : PTE) : Prop where
  ex : ∃ t : TE, PE X e t ∧ ∀ (G H : Hp) (env : List C) (σ : L2.St) (P : D → Prop) (Q : VK), Ok X.K X.mg G H env σ → p env P →
    (∀ d l G' H', Ext G H G' H' → Top X.K X.mg H' G' l d → G' l = none → H l = none → P d → Q (.ref l) H') → t σ H Q
structure PuT (X : Cx) (e : Expr) (p : PTT) : Prop where
  ex : ∃ t : TT, PT X e t ∧ ∀ (G H : Hp) (env : List C) (σ : L2.St) (P : Bool → Prop) (Q : Bool → Hp → Prop), Ok X.K X.mg G H env σ → p env P →
    (∀ b G' H', Ext G H G' H' → P b → Q b H') → t σ H Q
structure PuW (X : Cx) (e : Expr) (p : PTT) : Prop where
  ex : ∃ t : TT, PW X e t ∧ ∀ (G H : Hp) (env : List C) (σ : L2.St) (P : Bool → Prop) (Q : Bool → Hp → Prop), Ok X.K X.mg G H env σ → p env P →
    (∀ b G' H', Ext G H G' H' → P b → Q b H') → t σ H Q
structure PuA (X : Cx) (es : List Expr) (p : PTA) : Prop where
  ex : ∃ t : TA, PA X es t ∧ ∀ (G H : Hp) (env : List C) (σ : L2.St) (P : List D → Prop) (Q : List V → Hp → Prop), Ok X.K X.mg G H env σ → p env P →
    (∀ ds vs G' H', Ext G H G' H' → Reps X.K X.mg G' vs ds → P ds → Q vs H') → t σ H Q
inductive Shals (K : PySem.W.Frag) (mg : MG) (H G : Hp) : List V → List D → Prop
  | nil : Shals K mg H G [] []
  | cons {v : V} {vs : List V} {d : D} {ds : List D} : Shal K mg H G v d → Shals K mg H G vs ds → Shals K mg H G (v :: vs) (d :: ds)
structure PuAO (X : Cx) (es : List Expr) (p : PTA) : Prop where
  ex : ∃ t : TA, PA X es t ∧ ∀ (G H : Hp) (env : List C) (σ : L2.St) (P : List D → Prop) (Q : List V → Hp → Prop), Ok X.K X.mg G H env σ → p env P →
    (∀ ds vs G' H', Ext G H G' H' → Shals X.K X.mg H' G' vs ds → P ds → Q vs H') → t σ H Q

section
variable {X : Cx} {e a b : Expr} {es : List Expr} {p pa pb : PTE} {pt pu : PTT} {ps : PTA} {pos : Pos}

theorem PuE.o (h : PuE X e p) : PuO X e p := by
  obtain ⟨t, h1, h2⟩ := h.ex
  exact ⟨t, h1, fun G H env σ P Q ok hp k => h2 G H env σ P Q ok hp fun d v G' H' x r q => k d v G' H' x (.inl r) q⟩
theorem PuF.toE (h : PuF X e p) : PuE X e p := by
  obtain ⟨t, h1, h2⟩ := h.ex
  refine ⟨t, h1, fun G H env σ P Q ok hp k => h2 G H env σ P Q ok hp fun d l G' H' x r n nH q => ?_⟩
  obtain ⟨o, ho, r', s1, s2⟩ := r.freeze x.s n
  refine k d _ (upd G' l o) H' ⟨x.g.trans s1, x.h, s2, fun a e1 ne => ?_⟩ r' q
  by_cases hal : a = l
  · subst hal; exact nH
  · rw [upd_ne hal] at ne; exact x.f a e1 ne
theorem PuF.o (h : PuF X e p) : PuO X e p := h.toE.o

/-! ### names, constants -/
def pC (d : D) : PTE := fun _ P => P d
def pN (i : Nat) : PTE := fun env P => match env[i]? with
  | some (.fz d) => P d
  | _ => False
def pNo (i : Nat) : PTE := fun env P => match env[i]? with
  | some (.fz d) => P d
  | some (.ow d) => P d
  | _ => False
theorem pu_of {t : TE} (h : PE X e t) {d : D} {v : V} (r : ∀ G, Rep X.K X.mg G v d) (ht : ∀ σ H Q, Q v H → t σ H Q) : PuE X e (pC d) :=
  ⟨t, h, fun G H env σ P Q ok hp k => ht _ _ _ (k d v G H (.refl ok.same) (r G) hp)⟩
theorem pu_int {i : Int} {j : Nat} : PuE X (.Constant (.int i) j pos) (pC (.int i)) := pu_of pe_int (fun _ => .int i) fun _ _ _ h => h
theorem pu_bl {i : Bool} {j : Nat} : PuE X (.Constant (.bool i) j pos) (pC (.bl i)) := pu_of pe_bl (fun _ => .bl i) fun _ _ _ h => h
theorem pu_non {j : Nat} : PuE X (.Constant .none j pos) (pC .non) := pu_of pe_non (fun _ => .non) fun _ _ _ h => h
theorem pu_str {i : Str} {j : Nat} : PuE X (.Constant (.str i) j pos) (pC (.str i)) := pu_of pe_str (fun _ => .str i) fun _ _ _ h => h
theorem pu_name (i : Nat) {x : Str} (hN : X.N[i]? = some x := by rfl) (hv : Vis X.env.scope x := by first | exact Or.inl rfl | exact Or.inr (Or.inl rfl) | exact Or.inr (Or.inr rfl)) (hd : (x == ("__debug__" : Str)) = false := by decide)
    (hcd : (x == ("__classdict__" : Str)) = false := by decide) : PuE X (.Name x pos) (pN i) := by
  refine ⟨tVar i, pe_var hN hv hd hcd, fun G H env σ P Q ok hp k => ?_⟩
  unfold pN at hp
  split at hp
  · rename_i d hd
    obtain ⟨v, e, r⟩ := ok.slot i _ hd
    exact ⟨v, e, k d v G H (.refl ok.same) r hp⟩
  · exact hp.elim
theorem pu_nameO (i : Nat) {x : Str} (hN : X.N[i]? = some x := by rfl) (hv : Vis X.env.scope x := by first | exact Or.inl rfl | exact Or.inr (Or.inl rfl) | exact Or.inr (Or.inr rfl)) (hd : (x == ("__debug__" : Str)) = false := by decide)
    (hcd : (x == ("__classdict__" : Str)) = false := by decide) : PuO X (.Name x pos) (pNo i) := by
  refine ⟨tVar i, pe_var hN hv hd hcd, fun G H env σ P Q ok hp k => ?_⟩
  unfold pNo at hp
  split at hp
  · rename_i d hd
    obtain ⟨v, e, r⟩ := ok.slot i _ hd
    exact ⟨v, e, k d v G H (.refl ok.same) (.inl r) hp⟩
  · rename_i d hd
    obtain ⟨l, e, r, n⟩ := ok.slot i _ hd
    exact ⟨.ref l, e, k d _ G H (.refl ok.same) (.inr ⟨l, rfl, r⟩) hp⟩
  · exact hp.elim
/-- a module's constant -/
theorem pu_glob {x : Str} {v : V} {d : D} {u : Value} (hm : X.mg x = some u) (r : RelV v u) (rd : ∀ G, Rep X.K X.mg G v d) (hg : Gl X x := by rfl) (hd : (x == ("__debug__" : Str)) = false := by decide) : PuE X (.Name x pos) (pC d) :=
  pu_of (pe_glob hg hm r hd) rd fun _ _ _ h => h

/-! ### two-place operations -/
abbrev BinP := D → D → (D → Prop) → Prop
/-- f over data is carried by r over values -/
def BinOk (X : Cx) (r : R2) (f : BinP) : Prop := ∀ (G H : Hp) (v w : V) (x y : D) (P : D → Prop) (Q : VK), Same G H → Shal X.K X.mg H G v x → Shal X.K X.mg H G w y → f x y P →
  (∀ d u G' H', Ext G H G' H' → Rep X.K X.mg G' u d → P d → Q u H') → r v w H Q
def pBin (f : BinP) (pa pb : PTE) : PTE := fun env P => pa env fun x => pb env fun y => f x y P
theorem bin_t {ta tb : TE} {r : R2} {f : BinP} (hf : BinOk X r f) {G H : Hp} {env : List C} {σ : L2.St} {P : D → Prop} {Q : VK} (ok : Ok X.K X.mg G H env σ)
    (ha : ∀ (G H : Hp) (env : List C) (σ : L2.St) (P : D → Prop) (Q : VK), Ok X.K X.mg G H env σ → pa env P → (∀ d v G' H', Ext G H G' H' → Shal X.K X.mg H' G' v d → P d → Q v H') → ta σ H Q)
    (hb : ∀ (G H : Hp) (env : List C) (σ : L2.St) (P : D → Prop) (Q : VK), Ok X.K X.mg G H env σ → pb env P → (∀ d v G' H', Ext G H G' H' → Shal X.K X.mg H' G' v d → P d → Q v H') → tb σ H Q)
    (hp : pBin f pa pb env P) (k : ∀ d v G' H', Ext G H G' H' → Rep X.K X.mg G' v d → P d → Q v H') : tOp r ta tb σ H Q := by
  refine ha G H env σ _ _ ok hp fun x v G1 H1 e1 r1 q1 => ?_
  refine hb G1 H1 env σ _ _ (ok.ext e1) q1 fun y w G2 H2 e2 r2 q2 => ?_
  exact hf G2 H2 v w x y P Q e2.s (r1.mono e2.h e2.g) r2 q2 fun d u G3 H3 e3 r3 q3 => k d u G3 H3 ((e1.trans e2).trans e3) r3 q3
theorem pu_bin {op : Operator} {r : R2} {f : BinP} (ho : OpR X (binaryOp op) r) (hf : BinOk X r f) (ha : PuO X a pa) (hb : PuO X b pb) : PuE X (.BinOp a op b pos) (pBin f pa pb) := by
  obtain ⟨ta, a1, a2⟩ := ha.ex
  obtain ⟨tb, b1, b2⟩ := hb.ex
  exact ⟨tOp r ta tb, pe_op ho a1 b1, fun G H env σ P Q ok hp k => bin_t hf ok a2 b2 hp k⟩
theorem pu_cmp {op : CmpOp} {r : R2} {f : BinP} (ho : OpR X (compareOp op) r) (hf : BinOk X r f) (ha : PuO X a pa) (hb : PuO X b pb) (hm : behindInMarks op b = false) : PuE X (.Compare a [op] [b] pos) (pBin f pa pb) := by
  obtain ⟨ta, a1, a2⟩ := ha.ex
  obtain ⟨tb, b1, b2⟩ := hb.ex
  exact ⟨tOp r ta tb, pe_cmpR ho a1 b1 hm, fun G H env σ P Q ok hp k => bin_t hf ok a2 b2 hp k⟩
/-- a value that must be a bool -/
def asB (P : Bool → Prop) : D → Prop := fun d => match d with
  | .bl b => P b
  | _ => False
def pB (p : PTE) : PTT := fun env P => p env (asB P)
theorem asB_rep {G : Hp} {v : V} {d : D} {P : Bool → Prop} (r : Rep X.K X.mg G v d) (h : asB P d) : ∃ b, v = .bl b ∧ P b := by
  unfold asB at h
  split at h
  · cases r; exact ⟨_, rfl, h⟩
  · exact h.elim
theorem put_cmp {op : CmpOp} {r : R2} {f : BinP} (ho : OpR X (compareOp op) r) (hf : BinOk X r f) (ha : PuO X a pa) (hb : PuO X b pb) (hm : behindInMarks op b = false) : PuT X (.Compare a [op] [b] pos) (pB (pBin f pa pb)) := by
  obtain ⟨ta, a1, a2⟩ := ha.ex
  obtain ⟨tb, b1, b2⟩ := hb.ex
  refine ⟨tTest (tOp r ta tb), pt_cmpR ho a1 b1 hm, fun G H env σ P Q ok hp k => bin_t hf ok a2 b2 hp fun d v G' H' x r q => ?_⟩
  obtain ⟨b, e, z⟩ := asB_rep r q
  exact ⟨b, e, k b G' H' x z⟩
/-- an expression whose value is a bool, as a test -/
theorem put_val (h : PuE X e p) (he : ∀ whole, isTrue e X.env whole = (do let v ← whole; standAt e.pos; holding [v] (truthy v)) := by intro _; rfl) : PuT X e (pB p) := by
  obtain ⟨t, h1, h2⟩ := h.ex
  refine ⟨_, pt_val h1 he, fun G H env σ P Q ok hp k => h2 G H env σ _ _ ok hp fun d v G' H' x r q => ?_⟩
  obtain ⟨b, e, z⟩ := asB_rep r q
  exact ⟨b, e, k b G' H' x z⟩

/-! ### and, or, not -/
def pAnd (p q : PTT) : PTT := fun env P => p env fun b => if b = true then q env P else P false
def pOr (p q : PTT) : PTT := fun env P => p env fun b => if b = true then P true else q env P
def pNot (p : PTT) : PTT := fun env P => p env fun b => P (!b)
theorem puw_and1 (h : PuT X a pt) : PuW X (.BoolOp .And [a] pos) pt := by
  obtain ⟨t, h1, h2⟩ := h.ex
  exact ⟨t, pw_and1 h1, h2⟩
theorem puw_or1 (h : PuT X a pt) : PuW X (.BoolOp .Or [a] pos) pt := by
  obtain ⟨t, h1, h2⟩ := h.ex
  exact ⟨t, pw_or1 h1, h2⟩
theorem puw_and {rest : List Expr} (h : PuT X a pt) (g : PuW X (.BoolOp .And (b :: rest) pos) pu) : PuW X (.BoolOp .And (a :: b :: rest) pos) (pAnd pt pu) := by
  obtain ⟨t, h1, h2⟩ := h.ex
  obtain ⟨u, g1, g2⟩ := g.ex
  refine ⟨_, pw_and h1 g1, fun G H env σ P Q ok hp k => h2 G H env σ _ _ ok hp fun c G' H' x q => ?_⟩
  cases c with
  | true => exact g2 G' H' env σ P Q (ok.ext x) q fun b G2 H2 y z => k b G2 H2 (x.trans y) z
  | false => exact k false G' H' x q
theorem puw_or {rest : List Expr} (h : PuT X a pt) (g : PuW X (.BoolOp .Or (b :: rest) pos) pu) : PuW X (.BoolOp .Or (a :: b :: rest) pos) (pOr pt pu) := by
  obtain ⟨t, h1, h2⟩ := h.ex
  obtain ⟨u, g1, g2⟩ := g.ex
  refine ⟨_, pw_or h1 g1, fun G H env σ P Q ok hp k => h2 G H env σ _ _ ok hp fun c G' H' x q => ?_⟩
  cases c with
  | false => exact g2 G' H' env σ P Q (ok.ext x) q fun b G2 H2 y z => k b G2 H2 (x.trans y) z
  | true => exact k true G' H' x q
theorem PuW.t (h : PuW X e pt) : PuT X e pt := by
  obtain ⟨t, h1, h2⟩ := h.ex
  exact ⟨t, h1.pt, h2⟩
theorem put_not (h : PuT X a pt) : PuT X (.UnaryOp .Not a pos) (pNot pt) := by
  obtain ⟨t, h1, h2⟩ := h.ex
  exact ⟨_, pt_not h1, fun G H env σ P Q ok hp k => h2 G H env σ _ _ ok hp fun c G' H' x q => k (!c) G' H' x q⟩
/-- .. as values -/
def pAndV (p q : PTE) : PTE := fun env P => p env (asB fun b => if b = true then q env P else P (.bl false))
def pOrV (p q : PTE) : PTE := fun env P => p env (asB fun b => if b = true then P (.bl true) else q env P)
def pNotV (p : PTE) : PTE := fun env P => p env (asB fun b => P (.bl (!b)))
theorem pu_one {op : BoolOp} (h : PuE X a p) : PuE X (.BoolOp op [a] pos) p := by
  obtain ⟨t, h1, h2⟩ := h.ex
  exact ⟨t, pe_one h1, h2⟩
theorem pu_and {rest : List Expr} (h : PuE X a pa) (g : PuE X (.BoolOp .And (b :: rest) pos) pb) : PuE X (.BoolOp .And (a :: b :: rest) pos) (pAndV pa pb) := by
  obtain ⟨t, h1, h2⟩ := h.ex
  obtain ⟨u, g1, g2⟩ := g.ex
  refine ⟨_, pe_and h1 g1, fun G H env σ P Q ok hp k => h2 G H env σ _ _ ok hp fun d v G' H' x r q => ?_⟩
  obtain ⟨c, e, z⟩ := asB_rep r q
  refine ⟨c, e, ?_⟩
  cases c with
  | true => exact g2 G' H' env σ P Q (ok.ext x) z fun d v G2 H2 y r2 z2 => k d v G2 H2 (x.trans y) r2 z2
  | false => exact k _ _ G' H' x (.bl false) z
theorem pu_or {rest : List Expr} (h : PuE X a pa) (g : PuE X (.BoolOp .Or (b :: rest) pos) pb) : PuE X (.BoolOp .Or (a :: b :: rest) pos) (pOrV pa pb) := by
  obtain ⟨t, h1, h2⟩ := h.ex
  obtain ⟨u, g1, g2⟩ := g.ex
  refine ⟨_, pe_or h1 g1, fun G H env σ P Q ok hp k => h2 G H env σ _ _ ok hp fun d v G' H' x r q => ?_⟩
  obtain ⟨c, e, z⟩ := asB_rep r q
  refine ⟨c, e, ?_⟩
  cases c with
  | false => exact g2 G' H' env σ P Q (ok.ext x) z fun d v G2 H2 y r2 z2 => k d v G2 H2 (x.trans y) r2 z2
  | true => exact k _ _ G' H' x (.bl true) z
theorem pu_not (h : PuE X a pa) : PuE X (.UnaryOp .Not a pos) (pNotV pa) := by
  obtain ⟨t, h1, h2⟩ := h.ex
  refine ⟨_, pe_not h1, fun G H env σ P Q ok hp k => h2 G H env σ _ _ ok hp fun d v G' H' x r q => ?_⟩
  obtain ⟨c, e, z⟩ := asB_rep r q
  exact ⟨c, e, k _ _ G' H' x (.bl _) z⟩
def pIf (p : PTT) (pa pb : PTE) : PTE := fun env P => p env fun b => if b = true then pa env P else pb env P
theorem pu_ifExp {c : Expr} (h : PuT X c pt) (ha : PuE X a pa) (hb : PuE X b pb) : PuE X (.IfExp c a b pos) (pIf pt pa pb) := by
  obtain ⟨t, h1, h2⟩ := h.ex
  obtain ⟨ta, a1, a2⟩ := ha.ex
  obtain ⟨tb, b1, b2⟩ := hb.ex
  refine ⟨_, pe_ifExp h1 a1 b1, fun G H env σ P Q ok hp k => h2 G H env σ _ _ ok hp fun c G' H' x q => ?_⟩
  cases c with
  | true => exact a2 G' H' env σ P Q (ok.ext x) q fun d v G2 H2 y r z => k d v G2 H2 (x.trans y) r z
  | false => exact b2 G' H' env σ P Q (ok.ext x) q fun d v G2 H2 y r z => k d v G2 H2 (x.trans y) r z

/-! ### the operations on data -/
def addP : BinP := fun x y P => match x, y with
  | .int i, .int j => P (.int (i + j))
  | .str i, .str j => i.length + j.length ≤ sizeLine ∧ P (.str (i ++ j))
  | .tup xs, .tup ys => xs ≠ [] ∧ xs.length + ys.length ≤ sizeLine ∧ P (.tup (xs ++ ys))
  | .lst xs, .lst ys => xs.length + ys.length ≤ sizeLine ∧ P (.lst (xs ++ ys))
  | _, _ => False
def rAddAll (K : PySem.W.Frag) : R2 := fun x y H Q => (∃ i j, x = .int i ∧ y = .int j ∧ Q (.int (i + j)) H) ∨ (∃ i j, x = .str i ∧ y = .str j ∧ i.length + j.length ≤ sizeLine ∧ Q (.str (i ++ j)) H) ∨ rCatT K x y H Q ∨ rCat x y H Q
theorem op_addAll : OpR X (binaryOp .Add) (rAddAll X.K) := OpR.or op_add (OpR.or op_add_str (OpR.or op_catT op_cat))
theorem addP_ok : BinOk X (rAddAll X.K) addP := by
  intro G H v w x y P Q s r1 r2 h k
  unfold addP at h
  split at h
  · cases r1.int; cases r2.int
    exact .inl ⟨_, _, rfl, rfl, k _ _ G H (.refl s) (.int _) h⟩
  · cases r1.str; cases r2.str
    exact .inr (.inl ⟨_, _, rfl, rfl, h.1, k _ _ G H (.refl s) (.str _) h.2⟩)
  · rename_i xs ys
    obtain ⟨l, vs, rfl, t1, q1⟩ := r1.tup s
    obtain ⟨m, ws, rfl, t2, q2⟩ := r2.tup s
    refine .inr (.inr (.inl ⟨_, _, vs, ws, rfl, rfl, SqT.of t1, SqT.of t2, fun z => ?_, ?_, fun z => ?_, fun z p hp => ?_⟩))
    · subst z; cases q1; exact h.1 rfl
    · rw [q1.length, q2.length]; exact h.2.1
    · subst z
      cases q2
      have hh := h.2.2
      rw [List.append_nil] at hh
      refine k _ _ G H (.refl s) ?_ hh
      rcases r1 with r1 | ⟨_, _, t⟩
      · exact r1
      · cases t
    · refine k _ _ _ _ (Ext.new s hp) (.tup upd_same ?_) h.2.2
      exact (q1.append q2).mono (Same.upd (s.free hp))
  · rename_i xs ys
    obtain ⟨l, vs, rfl, t1, q1⟩ := r1.lst s
    obtain ⟨m, ws, rfl, t2, q2⟩ := r2.lst s
    refine .inr (.inr (.inr ⟨_, _, vs, ws, rfl, rfl, t1, t2, ?_, fun p hp => ?_⟩))
    · rw [q1.length, q2.length]; exact h.1
    · refine k _ _ _ _ (Ext.new s hp) (.lst upd_same ?_) h.2
      exact (q1.append q2).mono (Same.upd (s.free hp))
  · exact h.elim
theorem pu_add (ha : PuO X a pa) (hb : PuO X b pb) : PuE X (.BinOp a .Add b pos) (pBin addP pa pb) := pu_bin op_addAll addP_ok ha hb

/-- ints in, under C, a value of data out -/
theorem binI {r : R2} {f : BinP} {Cd : Int → Int → Prop} {g : Int → Int → D} {gv : Int → Int → V} (hg : ∀ i j G, Rep X.K X.mg G (gv i j) (g i j)) (hr : r = rI Cd gv)
    (hf : ∀ x y P, f x y P → ∃ i j, x = .int i ∧ y = .int j ∧ Cd i j ∧ P (g i j)) : BinOk X r f := by
  subst hr
  intro G H v w x y P Q s r1 r2 h k
  obtain ⟨i, j, rfl, rfl, c, q⟩ := hf x y P h
  cases r1.int; cases r2.int
  exact ⟨i, j, rfl, rfl, c, k _ _ G H (.refl s) (hg i j G) q⟩
theorem binI0 {r : R2} {f : BinP} {g : Int → Int → D} {gv : Int → Int → V} (hg : ∀ i j G, Rep X.K X.mg G (gv i j) (g i j)) (hr : r = rI0 gv)
    (hf : ∀ x y P, f x y P → ∃ i j, x = .int i ∧ y = .int j ∧ P (g i j)) : BinOk X r f := by
  subst hr
  intro G H v w x y P Q s r1 r2 h k
  obtain ⟨i, j, rfl, rfl, q⟩ := hf x y P h
  cases r1.int; cases r2.int
  exact ⟨i, j, rfl, rfl, k _ _ G H (.refl s) (hg i j G) q⟩
def subP : BinP := fun x y P => match x, y with
  | .int i, .int j => P (.int (i - j))
  | _, _ => False
theorem pu_sub (ha : PuO X a pa) (hb : PuO X b pb) : PuE X (.BinOp a .Sub b pos) (pBin subP pa pb) :=
  pu_bin op_sub (binI0 (g := fun i j => .int (i - j)) (fun _ _ _ => .int _) rfl fun x y P h => by
    unfold subP at h; split at h
    · exact ⟨_, _, rfl, rfl, h⟩
    · exact h.elim) ha hb
/-- a text, so often -/
def repS (x : Str) (n : Nat) : Str := ⟨(List.replicate n x.cps).foldl (· ++ ·) #[]⟩
theorem repS_acc (x : Str) : ∀ (n : Nat) (a : Array Nat), ((List.replicate n x.cps).foldl (· ++ ·) a).toList = a.toList ++ (List.replicate n x.cps.toList).flatten
  | 0, a => by simp
  | n + 1, a => by
    rw [List.replicate_succ, List.foldl_cons, repS_acc x n, List.replicate_succ, List.flatten_cons, Array.toList_append, List.append_assoc]
theorem repS_tl (x : Str) (n : Nat) : (repS x n).cps.toList = (List.replicate n x.cps.toList).flatten := by
  show ((List.replicate n x.cps).foldl (· ++ ·) #[]).toList = _
  rw [repS_acc]; rfl
theorem repS_len (x : Str) (n : Nat) : (repS x n).length = x.length * n := by
  show (repS x n).cps.size = x.cps.size * n
  rw [← Array.length_toList, repS_tl]
  induction n with
  | zero => rfl
  | succ n ih => rw [List.replicate_succ, List.flatten_cons, List.length_append, ih, Nat.mul_succ, Array.length_toList]; omega
theorem repS_1 (x : Str) : repS x 1 = x := TL.ext_tl (by show (repS x 1).cps.toList = x.cps.toList; rw [repS_tl]; simp)
theorem repS_nil (x : Str) (n : Nat) (h : x.length = 0) : repS x n = x := by
  refine TL.ext_tl ?_
  have h1 : (repS x n).cps.toList.length = 0 := by
    have := repS_len x n
    rw [h, Nat.zero_mul] at this
    rw [Array.length_toList]; exact this
  have h2 : x.cps.toList.length = 0 := by rw [Array.length_toList]; exact h
  show (repS x n).cps.toList = x.cps.toList
  rw [List.length_eq_zero_iff.mp h1, List.length_eq_zero_iff.mp h2]
def rMulS : R2 := fun x y H Q => ∃ z k, x = .str z ∧ y = .int k ∧ -(2 ^ 63) ≤ k ∧ k < 2 ^ 63 ∧ z.length * k.toNat ≤ sizeLine ∧ Q (.str (repS z k.toNat)) H
theorem op_mulS : OpR X (binaryOp .Mult) rMulS := by
  intro pins s σ H x y v u Q I rx ry h
  obtain ⟨z, k, rfl, rfl, h1, h2, hz, q⟩ := h
  obtain ⟨t, rfl⟩ := rx
  obtain ⟨t', rfl⟩ := ry
  have hs : sizeLine = 16777216 := PySem.sizeLine_eq
  refine PySem.P.mul_str (by rw [decide_eq_false (by omega), decide_eq_false (by omega)]; rfl) (fun a b c => ?_) (fun a b => ?_) ?_
  · have hk : 0 < k := by omega
    have e : ((z.length * k.toNat : Nat) : Int) = z.length * k := by rw [Int.natCast_mul, Int.toNat_of_nonneg (by omega)]
    have d := Int.mul_ediv_add_emod (2 ^ 63 - 1) k
    have m := Int.emod_lt_of_pos (2 ^ 63 - 1) hk
    have f : ((2 ^ 63 - 1) / k + 1) * k ≤ z.length * k := Int.mul_le_mul_of_nonneg_right (by omega) (by omega)
    rw [Int.add_mul, Int.mul_comm ((2 ^ 63 - 1) / k) k] at f
    omega
  · exact decide_eq_false (by omega)
  · by_cases a : k < 1
    · rw [if_pos a]
      have e : k.toNat = 0 := by omega
      rw [e] at q
      exact ⟨by decide, .str _, H, I.tok _, ⟨_, rfl⟩, q⟩
    · rw [if_neg a]
      by_cases b : (k == 1 || z.length == 0) = true
      · rw [if_pos b]
        have e : repS z k.toNat = z := by
          rw [Bool.or_eq_true] at b
          rcases b with b | b
          · rw [show k = 1 by simpa using b]; exact repS_1 z
          · exact repS_nil z _ (by simpa using b)
        rw [e] at q
        exact ⟨.str _, H, I, ⟨_, rfl⟩, q⟩
      · rw [if_neg b]
        refine ⟨?_, .str _, H, I.tok _, ⟨_, rfl⟩, q⟩
        show (repS z k.toNat).length ≤ _
        rw [repS_len]
        exact hz
def mulP : BinP := fun x y P => match x, y with
  | .int i, .int j => CMulX i j ∧ P (.int (i * j))
  | .lst xs, .int k => -(2 ^ 63) ≤ k ∧ k < 2 ^ 63 ∧ xs.length * k.toNat ≤ sizeLine ∧ P (.lst (List.replicate k.toNat xs).flatten)
  | .str z, .int k => -(2 ^ 63) ≤ k ∧ k < 2 ^ 63 ∧ z.length * k.toNat ≤ sizeLine ∧ P (.str (repS z k.toNat))
  | _, _ => False
theorem Reps.rep {K : PySem.W.Frag} {mg : MG} {G : Hp} {vs : List V} {ds : List D} (h : Reps K mg G vs ds) : ∀ k : Nat, Reps K mg G (List.replicate k vs).flatten (List.replicate k ds).flatten
  | 0 => .nil
  | k + 1 => by
    simp only [List.replicate_succ, List.flatten_cons]
    exact h.append (Reps.rep h k)
def rMulAll : R2 := fun x y H Q => rI CMulX (fun i j => .int (i * j)) x y H Q ∨ rRep x y H Q ∨ rMulS x y H Q
theorem op_mulAll : OpR X (binaryOp .Mult) rMulAll := OpR.or op_mulX (OpR.or op_rep op_mulS)
theorem mulP_ok : BinOk X rMulAll mulP := by
  intro G H v w x y P Q s r1 r2 h k
  unfold mulP at h
  split at h
  · cases r1.int; cases r2.int
    exact .inl ⟨_, _, rfl, rfl, h.1, k _ _ G H (.refl s) (.int _) h.2⟩
  · cases r2.int
    obtain ⟨l, vs, rfl, t1, q1⟩ := r1.lst s
    refine .inr (.inl ⟨_, _, vs, rfl, rfl, t1, h.1, h.2.1, by rw [q1.length]; exact h.2.2.1, fun p hp => ?_⟩)
    exact k _ _ _ _ (Ext.new s hp) (.lst upd_same ((q1.rep _).mono (Same.upd (s.free hp)))) h.2.2.2
  · cases r1.str; cases r2.int
    exact .inr (.inr ⟨_, _, rfl, rfl, h.1, h.2.1, h.2.2.1, k _ _ G H (.refl s) (.str _) h.2.2.2⟩)
  · exact h.elim
theorem pu_mul (ha : PuO X a pa) (hb : PuO X b pb) : PuE X (.BinOp a .Mult b pos) (pBin mulP pa pb) := pu_bin op_mulAll mulP_ok ha hb
def fdivP : BinP := fun x y P => match x, y with
  | .int i, .int j => CDivW i j ∧ P (.int (i / j))
  | _, _ => False
theorem pu_fdiv (ha : PuO X a pa) (hb : PuO X b pb) : PuE X (.BinOp a .FloorDiv b pos) (pBin fdivP pa pb) :=
  pu_bin op_fdivW (binI (g := fun i j => .int (i / j)) (fun _ _ _ => .int _) rfl fun x y P h => by
    unfold fdivP at h; split at h
    · exact ⟨_, _, rfl, rfl, h.1, h.2⟩
    · exact h.elim) ha hb
def modP : BinP := fun x y P => match x, y with
  | .int i, .int j => 0 < j ∧ P (.int (i % j))
  | _, _ => False
theorem pu_mod (ha : PuO X a pa) (hb : PuO X b pb) : PuE X (.BinOp a .Mod b pos) (pBin modP pa pb) :=
  pu_bin op_mod (binI (g := fun i j => .int (i % j)) (fun _ _ _ => .int _) rfl fun x y P h => by
    unfold modP at h; split at h
    · exact ⟨_, _, rfl, rfl, h.1, h.2⟩
    · exact h.elim) ha hb
def powP : BinP := fun x y P => match x, y with
  | .int i, .int j => CPow i j ∧ P (.int (i ^ j.toNat))
  | _, _ => False
theorem pu_pow (ha : PuO X a pa) (hb : PuO X b pb) : PuE X (.BinOp a .Pow b pos) (pBin powP pa pb) :=
  pu_bin op_pow (binI (g := fun i j => .int (i ^ j.toNat)) (fun _ _ _ => .int _) rfl fun x y P h => by
    unfold powP at h; split at h
    · exact ⟨_, _, rfl, rfl, h.1, h.2⟩
    · exact h.elim) ha hb
def negP (p : PTE) : PTE := fun env P => p env fun x => match x with
  | .int i => P (.int (-i))
  | _ => False
theorem pu_neg (ha : PuO X a pa) : PuE X (.UnaryOp .USub a pos) (negP pa) := by
  obtain ⟨t, h1, h2⟩ := ha.ex
  refine ⟨_, pe_un un_neg h1, fun G H env σ P Q ok hp k => h2 G H env σ _ _ ok hp fun d v G' H' x r q => ?_⟩
  split at q
  · cases r.int
    exact ⟨_, rfl, k _ _ G' H' x (.int _) q⟩
  · exact q.elim

/-! ### comparisons -/
def ltP : BinP := fun x y P => match x, y with
  | .int i, .int j => P (.bl (decide (i < j)))
  | .str i, .str j => P (.bl (decide (i.cps.toList < j.cps.toList)))
  | _, _ => False
def leP : BinP := fun x y P => match x, y with
  | .int i, .int j => P (.bl (decide (i ≤ j)))
  | .str i, .str j => P (.bl (!decide (j.cps.toList < i.cps.toList)))
  | _, _ => False
def gtP : BinP := fun x y P => match x, y with
  | .int i, .int j => P (.bl (decide (j < i)))
  | .str i, .str j => P (.bl (decide (j.cps.toList < i.cps.toList)))
  | _, _ => False
def geP : BinP := fun x y P => match x, y with
  | .int i, .int j => P (.bl (decide (j ≤ i)))
  | .str i, .str j => P (.bl (!decide (i.cps.toList < j.cps.toList)))
  | _, _ => False
def rCmp2 (f : Int → Int → Bool) (g : Str → Str → Bool) : R2 := fun x y H Q => rI0 (fun i j => .bl (f i j)) x y H Q ∨ ∃ i j, x = .str i ∧ y = .str j ∧ Q (.bl (g i j)) H
theorem cmp2_ok {f : Int → Int → Bool} {g : Str → Str → Bool} {h : BinP} (hh : ∀ x y P, h x y P → (∃ i j, x = .int i ∧ y = .int j ∧ P (.bl (f i j))) ∨ ∃ i j, x = .str i ∧ y = .str j ∧ P (.bl (g i j))) : BinOk X (rCmp2 f g) h := by
  intro G H v w x y P Q s r1 r2 z k
  rcases hh x y P z with ⟨i, j, rfl, rfl, q⟩ | ⟨i, j, rfl, rfl, q⟩
  · cases r1.int; cases r2.int
    exact .inl ⟨_, _, rfl, rfl, k _ _ G H (.refl s) (.bl _) q⟩
  · cases r1.str; cases r2.str
    exact .inr ⟨_, _, rfl, rfl, k _ _ G H (.refl s) (.bl _) q⟩
theorem op_ltAll : OpR X (compareOp .Lt) (rCmp2 (fun i j => decide (i < j)) fun i j => decide (i.cps.toList < j.cps.toList)) := OpR.or op_lt op_lt_str
theorem op_leAll : OpR X (compareOp .LtE) (rCmp2 (fun i j => decide (i ≤ j)) fun i j => !decide (j.cps.toList < i.cps.toList)) := OpR.or op_le op_le_str
theorem op_gtAll : OpR X (compareOp .Gt) (rCmp2 (fun i j => decide (j < i)) fun i j => decide (j.cps.toList < i.cps.toList)) := OpR.or op_gt op_gt_str
theorem op_geAll : OpR X (compareOp .GtE) (rCmp2 (fun i j => decide (j ≤ i)) fun i j => !decide (i.cps.toList < j.cps.toList)) := OpR.or op_ge op_ge_str
theorem ltP_ok : BinOk X (rCmp2 (fun i j => decide (i < j)) fun i j => decide (i.cps.toList < j.cps.toList)) ltP := cmp2_ok fun x y P h => by
  unfold ltP at h; split at h
  · exact .inl ⟨_, _, rfl, rfl, h⟩
  · exact .inr ⟨_, _, rfl, rfl, h⟩
  · exact h.elim
theorem leP_ok : BinOk X (rCmp2 (fun i j => decide (i ≤ j)) fun i j => !decide (j.cps.toList < i.cps.toList)) leP := cmp2_ok fun x y P h => by
  unfold leP at h; split at h
  · exact .inl ⟨_, _, rfl, rfl, h⟩
  · exact .inr ⟨_, _, rfl, rfl, h⟩
  · exact h.elim
theorem gtP_ok : BinOk X (rCmp2 (fun i j => decide (j < i)) fun i j => decide (j.cps.toList < i.cps.toList)) gtP := cmp2_ok fun x y P h => by
  unfold gtP at h; split at h
  · exact .inl ⟨_, _, rfl, rfl, h⟩
  · exact .inr ⟨_, _, rfl, rfl, h⟩
  · exact h.elim
theorem geP_ok : BinOk X (rCmp2 (fun i j => decide (j ≤ i)) fun i j => !decide (i.cps.toList < j.cps.toList)) geP := cmp2_ok fun x y P h => by
  unfold geP at h; split at h
  · exact .inl ⟨_, _, rfl, rfl, h⟩
  · exact .inr ⟨_, _, rfl, rfl, h⟩
  · exact h.elim

/-! ### == of data -/
mutual
def toPy : D → PyData
  | .non => .none
  | .bl b => .bool b
  | .int i => .int i
  | .str x => .str x
  | .tup ds => .tuple (toPys ds)
  | .lst ds => .list (toPys ds)
  | .scr ds => .list (toPys ds)
  | .dk _ => .none
  | .dt _ => .none
  | .obj _ _ => .none
  | .err _ _ => .none
def toPys : List D → List PyData
  | [] => []
  | d :: ds => toPy d :: toPys ds
end
mutual
/-- no dict, no object within -/
def flat : D → Bool
  | .non => true
  | .bl _ => true
  | .int _ => true
  | .str _ => true
  | .tup ds => flats ds
  | .lst ds => flats ds
  | .scr ds => flats ds
  | .dk _ => false
  | .dt _ => false
  | .obj _ _ => false
  | .err _ _ => false
def flats : List D → Bool
  | [] => true
  | d :: ds => flat d && flats ds
end
end
section
variable {K : PySem.W.Frag} {mg : MG} {G H : Hp}
mutual
theorem Rep.dp (s : Same G H) : ∀ {v : V} {d : D}, Rep K mg G v d → flat d = true → Dp K H v (toPy d)
  | _, _, .non, _ => .non
  | _, _, .bl b, _ => .bl b
  | _, _, .int i, _ => .int i
  | _, _, .str x, _ => .str x
  | _, _, .tup h r, f => .tup (SqT.of (s _ _ h)) (Reps.dp s r f)
  | _, _, .lst h r, f => .lst (SqL.of (s _ _ h)) (Reps.dp s r f)
  | _, _, .scr h r, f => .lst (s.seq h) (Reps.dp s r f)
  | _, _, .dk h r, f => nomatch (show false = true from f)
  | _, _, .dt h r, f => nomatch (show false = true from f)
  | _, _, .obj h m r, f => nomatch (show false = true from f)
  | _, _, .slf h m r, f => nomatch (show false = true from f)
  | _, _, .err h _ _ m r, f => nomatch (show false = true from f)
theorem Reps.dp (s : Same G H) : ∀ {v : List V} {d : List D}, Reps K mg G v d → flats d = true → DpAll K H v (toPys d)
  | _, _, .nil, _ => .nil
  | _, _, .cons h t, f =>
    have f' := Bool.and_eq_true_iff.mp (show (flat _ && flats _) = true from f)
    .cons (Rep.dp s h f'.1) (Reps.dp s t f'.2)
end
theorem Shal.dp {v : V} {d : D} (h : Shal K mg H G v d) (s : Same G H) (f : flat d = true) : Dp K H v (toPy d) := by
  rcases h with h | ⟨l, rfl, t⟩
  · exact h.dp s f
  · cases t with
    | lst e r => exact .lst (SqL.of e) (r.dp s f)
    | dk e r => exact nomatch (show false = true from f)
    | dt e r => exact nomatch (show false = true from f)
    | slf e m r => exact nomatch (show false = true from f)
end
section
variable {X : Cx} {e a b : Expr} {pa pb : PTE} {pos : Pos}
def cmpOk (d : D) : Bool := flat d && SeqAt.shaped (toPy d)
def rEqAll (K : PySem.W.Frag) : R2 := fun x y H Q => rEq x y H Q ∨ rEqD K x y H Q
def rNeAll (K : PySem.W.Frag) : R2 := fun x y H Q => rNe x y H Q ∨ rNeD K x y H Q
theorem op_eqAll (hu : X.A.units + 64 < cLine) : OpR X (compareOp .Eq) (rEqAll X.K) := OpR.or op_eq (op_eqD hu)
theorem op_neAll (hu : X.A.units + 64 < cLine) : OpR X (compareOp .NotEq) (rNeAll X.K) := OpR.or op_ne (op_neD hu)
def eqP : BinP := fun x y P => match x, y with
  | .int i, .int j => P (.bl (decide (i = j)))
  | .str i, .str j => P (.bl (decide (i = j)))
  | .bl i, .bl j => P (.bl (decide (i = j)))
  | x, y => cmpOk x = true ∧ cmpOk y = true ∧ P (.bl (PyData.eqv (toPy x) (toPy y)))
def neP : BinP := fun x y P => match x, y with
  | .int i, .int j => P (.bl (!decide (i = j)))
  | .str i, .str j => P (.bl (!decide (i = j)))
  | .bl i, .bl j => P (.bl (!decide (i = j)))
  | x, y => cmpOk x = true ∧ cmpOk y = true ∧ P (.bl (!PyData.eqv (toPy x) (toPy y)))
theorem cmpOk_iff {d : D} (h : cmpOk d = true) : flat d = true ∧ SeqAt.shaped (toPy d) = true := Bool.and_eq_true_iff.mp h
theorem vint_dec (i j : Int) : decide (V.int i = V.int j) = decide (i = j) := by
  by_cases h : i = j
  · subst h; simp
  · rw [decide_eq_false h, decide_eq_false fun e => h (V.int.inj e)]
theorem vstr_dec (i j : Str) : decide (V.str i = V.str j) = decide (i = j) := by
  by_cases h : i = j
  · subst h; simp
  · rw [decide_eq_false h, decide_eq_false fun e => h (V.str.inj e)]
theorem vbl_dec (i j : Bool) : decide (V.bl i = V.bl j) = decide (i = j) := by
  by_cases h : i = j
  · subst h; simp
  · rw [decide_eq_false h, decide_eq_false fun e => h (V.bl.inj e)]
theorem eqP_ok : BinOk X (rEqAll X.K) eqP := by
  intro G H v w x y P Q s r1 r2 h k
  unfold eqP at h
  split at h
  · cases r1.int; cases r2.int
    exact .inl ⟨rfl, by rw [vint_dec]; exact k _ _ G H (.refl s) (.bl _) h⟩
  · cases r1.str; cases r2.str
    exact .inl ⟨rfl, by rw [vstr_dec]; exact k _ _ G H (.refl s) (.bl _) h⟩
  · cases r1.bl; cases r2.bl
    exact .inl ⟨rfl, by rw [vbl_dec]; exact k _ _ G H (.refl s) (.bl _) h⟩
  · obtain ⟨h1, h2, h⟩ := h
    obtain ⟨f1, s1⟩ := cmpOk_iff h1
    obtain ⟨f2, s2⟩ := cmpOk_iff h2
    exact .inr ⟨_, _, r1.dp s f1, r2.dp s f2, s1, s2, k _ _ G H (.refl s) (.bl _) h⟩
theorem neP_ok : BinOk X (rNeAll X.K) neP := by
  intro G H v w x y P Q s r1 r2 h k
  unfold neP at h
  split at h
  · cases r1.int; cases r2.int
    exact .inl ⟨rfl, by rw [vint_dec]; exact k _ _ G H (.refl s) (.bl _) h⟩
  · cases r1.str; cases r2.str
    exact .inl ⟨rfl, by rw [vstr_dec]; exact k _ _ G H (.refl s) (.bl _) h⟩
  · cases r1.bl; cases r2.bl
    exact .inl ⟨rfl, by rw [vbl_dec]; exact k _ _ G H (.refl s) (.bl _) h⟩
  · obtain ⟨h1, h2, h⟩ := h
    obtain ⟨f1, s1⟩ := cmpOk_iff h1
    obtain ⟨f2, s2⟩ := cmpOk_iff h2
    exact .inr ⟨_, _, r1.dp s f1, r2.dp s f2, s1, s2, k _ _ G H (.refl s) (.bl _) h⟩
end
end PL
end

section
set_option linter.all false
set_option maxRecDepth 100000
set_option maxHeartbeats 4000000
set_option autoImplicit false
/-! PL3: statements, loops, comprehensions, calls, a def's promise. -/
namespace PL
open PySem PySem.Spec PyProof.Rows L2

structure PEnds where
  nx : List C → Prop
  rt : D → Prop
  bk : List C → Prop := fun _ => False
  ct : List C → Prop := fun _ => False
  ro : D → Prop := fun _ => False
  er : List C → D → Prop := fun _ _ => False
abbrev PTS := PEnds → List C → Prop

structure EndsOk (X : Cx) (G0 H0 : Hp) (PD : PEnds) (E : Ends) : Prop where
  nx : ∀ G H env σ, Rel X.K X.mg G0 H0 G H env σ → PD.nx env → E.nx σ H
  bk : ∀ G H env σ, Rel X.K X.mg G0 H0 G H env σ → PD.bk env → E.bk σ H
  ct : ∀ G H env σ, Rel X.K X.mg G0 H0 G H env σ → PD.ct env → E.ct σ H
  rt : ∀ G H d v, Ext G0 H0 G H → Rep X.K X.mg G v d → PD.rt d → E.rt v H
  ro : ∀ G H d l, Ext G0 H0 G H → Top X.K X.mg H G l d → G l = none → H0 l = none → PD.ro d → E.rt (.ref l) H
  er : ∃ W : WX, Takes X W ∧ ∀ (G H : Hp) (env : List C) (σ : L2.St) (cls : Str) (fs : List (Str × D)) (Ca d : Addr) (vs : List (Str × V)), Rel X.K X.mg G0 H0 G H env σ → X.mg cls = some (.ref Ca) → H d = some (.xd vs) → H0 d = none → G d = none → RepF X.K X.mg G vs fs → PD.er env (.err cls fs) → W (.ref Ca) (some d) σ H
theorem tk0 {X : Cx} : Takes X (fun _ _ _ _ => False) := fun _ _ x => by
  obtain ⟨_, _, _, _, _, _, _, _, _, _, _, _, _, _, _, _, z⟩ := x
  exact z.elim

structure PuS (X : Cx) (st : Stmt) (p : PTS) : Prop where
  ex : ∃ t : TS, PS X st t ∧ ∀ (G0 H0 G H : Hp) (env : List C) (σ : L2.St) (PD : PEnds) (E : Ends), Rel X.K X.mg G0 H0 G H env σ → EndsOk X G0 H0 PD E → p PD env → t E σ H
structure PuSs (X : Cx) (st : List Stmt) (p : PTS) : Prop where
  ex : ∃ t : TS, PSs X st t ∧ ∀ (G0 H0 G H : Hp) (env : List C) (σ : L2.St) (PD : PEnds) (E : Ends), Rel X.K X.mg G0 H0 G H env σ → EndsOk X G0 H0 PD E → p PD env → t E σ H

section
variable {X : Cx} {st : Stmt} {rest : List Stmt} {e a b : Expr} {p q : PTS} {pe pa pb : PTE} {pt : PTT} {pos : Pos}
def pNext : PTS := fun PD env => PD.nx env
def pSeq (p q : PTS) : PTS := fun PD env => p { PD with nx := q PD } env
theorem puss_nil : PuSs X [] pNext := ⟨_, pss_nil, fun _ _ _ _ _ _ _ _ r e h => e.nx _ _ _ _ r h⟩
theorem puss_cons (h : PuS X st p) (g : PuSs X rest q) : PuSs X (st :: rest) (pSeq p q) := by
  obtain ⟨t, h1, h2⟩ := h.ex
  obtain ⟨u, g1, g2⟩ := g.ex
  refine ⟨_, pss_cons h1 g1, fun G0 H0 G H env σ PD E r ok hp => ?_⟩
  exact h2 G0 H0 G H env σ { PD with nx := q PD } { E with nx := u E } r ⟨fun G1 H1 env1 σ1 r1 z => g2 G0 H0 G1 H1 env1 σ1 PD E r1 ok z, ok.bk, ok.ct, ok.rt, ok.ro, ok.er⟩ hp
theorem puss_one (h : PuS X st p) : PuSs X [st] p := by
  obtain ⟨t, h1, h2⟩ := h.ex
  exact ⟨_, pss_one h1, h2⟩
/-- ahead of a statement a cell is frozen, a slot is forgotten -/
def pFrz (i : Nat) (p : PTS) : PTS := fun PD env => p PD (frz i env)
def pUn (i : Nat) (p : PTS) : PTS := fun PD env => p PD (env.set i .un)
theorem pus_frz (i : Nat) (h : PuS X st p) : PuS X st (pFrz i p) := by
  obtain ⟨t, h1, h2⟩ := h.ex
  refine ⟨t, h1, fun G0 H0 G H env σ PD E r ok hp => ?_⟩
  obtain ⟨G', r', _⟩ := r.freeze i
  exact h2 G0 H0 G' H _ σ PD E r' ok hp
theorem puss_frz (i : Nat) (h : PuSs X rest p) : PuSs X rest (pFrz i p) := by
  obtain ⟨t, h1, h2⟩ := h.ex
  refine ⟨t, h1, fun G0 H0 G H env σ PD E r ok hp => ?_⟩
  obtain ⟨G', r', _⟩ := r.freeze i
  exact h2 G0 H0 G' H _ σ PD E r' ok hp
theorem pus_un (i : Nat) (h : PuS X st p) : PuS X st (pUn i p) := by
  obtain ⟨t, h1, h2⟩ := h.ex
  exact ⟨t, h1, fun G0 H0 G H env σ PD E r ok hp => h2 G0 H0 G H _ σ PD E (r.forget i) ok hp⟩
theorem puss_un (i : Nat) (h : PuSs X rest p) : PuSs X rest (pUn i p) := by
  obtain ⟨t, h1, h2⟩ := h.ex
  exact ⟨t, h1, fun G0 H0 G H env σ PD E r ok hp => h2 G0 H0 G H _ σ PD E (r.forget i) ok hp⟩

theorem pus_pass : PuS X (.Pass pos) pNext := ⟨_, ps_pass, fun _ _ _ _ _ _ _ _ r e h => e.nx _ _ _ _ r h⟩
theorem pus_doc {x : Str} {j : Nat} {pos' : Pos} : PuS X (.Expr (.Constant (.str x) j pos) pos') pNext := ⟨_, ps_doc, fun _ _ _ _ _ _ _ _ r e h => e.nx _ _ _ _ r h⟩
def pBrk : PTS := fun PD env => PD.bk env
def pCnt : PTS := fun PD env => PD.ct env
theorem pus_break : PuS X (.Break pos) pBrk := ⟨_, ps_break, fun _ _ _ _ _ _ _ _ r e h => e.bk _ _ _ _ r h⟩
theorem pus_continue : PuS X (.Continue pos) pCnt := ⟨_, ps_continue, fun _ _ _ _ _ _ _ _ r e h => e.ct _ _ _ _ r h⟩
def pRet (pe : PTE) : PTS := fun PD env => pe env PD.rt
theorem pus_ret (h : PuE X e pe) : PuS X (.Return (some e) pos) (pRet pe) := by
  obtain ⟨t, h1, h2⟩ := h.ex
  exact ⟨_, ps_ret h1, fun G0 H0 G H env σ PD E r ok hp => h2 G H env σ _ _ r.ok hp fun d v G' H' x rp z => ok.rt G' H' d v (r.ext.trans x) rp z⟩
def pRetN : PTS := fun PD env => PD.rt .non
theorem pus_retN : PuS X (.Return none pos) pRetN := ⟨_, ps_retN, fun _ _ _ _ _ _ _ _ r e h => e.rt _ _ _ _ r.ext .non h⟩
def pDrop (pe : PTE) : PTS := fun PD env => pe env fun _ => PD.nx env
theorem pus_expr (h : PuE X e pe) (hs : swapsWith e none pos.line X.env = pure false := by rfl) : PuS X (.Expr e pos) (pDrop pe) := by
  obtain ⟨t, h1, h2⟩ := h.ex
  exact ⟨_, ps_expr h1 hs, fun G0 H0 G H env σ PD E r ok hp => h2 G H env σ _ _ r.ok hp fun d v G' H' x rp z => ok.nx G' H' env σ (r.step x) z⟩
def pIfS (pt : PTT) (p q : PTS) : PTS := fun PD env => pt env fun b => if b = true then p PD env else q PD env
theorem pus_if {c : Expr} {sa sb : List Stmt} (hc : PuT X c pt) (ha : PuSs X sa p) (hb : PuSs X sb q) : PuS X (.If c sa sb pos) (pIfS pt p q) := by
  obtain ⟨t, h1, h2⟩ := hc.ex
  obtain ⟨ta, a1, a2⟩ := ha.ex
  obtain ⟨tb, b1, b2⟩ := hb.ex
  refine ⟨_, ps_if h1 a1 b1, fun G0 H0 G H env σ PD E r ok hp => h2 G H env σ _ _ r.ok hp fun c G' H' x z => ?_⟩
  cases c with
  | true => exact a2 G0 H0 G' H' env σ PD E (r.step x) ok z
  | false => exact b2 G0 H0 G' H' env σ PD E (r.step x) ok z
/-- code that is not reached -/
def pNever : PTS := fun _ _ => False
theorem pus_never : PuS X st pNever := ⟨_, ps_never, fun _ _ _ _ _ _ _ _ _ _ h => h.elim⟩

/-! ### stores -/
def pSet (i : Nat) (pe : PTE) : PTS := fun PD env => pe env fun d => PD.nx (env.set i (.fz d))
def pSetO (i : Nat) (pe : PTE) : PTS := fun PD env => pe env fun d => PD.nx (env.set i (.ow d))
theorem pus_set (i : Nat) {x : Str} {pos' : Pos} (hN : X.N.Nodup) (he : PuE X e pe) (hi : X.N[i]? = some x := by rfl) (hx : Loc X.env.scope x := by first | exact Or.inl rfl | exact Or.inr rfl)
    (hs : swapsWith e (some (.Name x pos')) pos.line X.env = pure false := by rfl) (hf : X.fn x = true ∨ X.env.scope.names.lookup x = some .local := by first | exact .inl rfl | exact .inr rfl) :
    PuS X (.Assign [.Name x pos'] e pos) (pSet i pe) := by
  obtain ⟨t, h1, h2⟩ := he.ex
  refine ⟨_, ps_set hN hi hx h1 hs hf, fun G0 H0 G H env σ PD E r ok hp => h2 G H env σ _ _ r.ok hp fun d v G' H' x rp z => ?_⟩
  exact ok.nx G' H' _ _ ((r.step x).setFz rp) z
theorem setOw_of {K : PySem.W.Frag} {mg : MG} {G0 H0 G H G' H' : Hp} {env : List C} {σ : L2.St} (i : Nat) {l : Addr} {d : D} (r : Rel K mg G0 H0 G H env σ) (x : Ext G H G' H') (t : Top K mg H' G' l d) (n : G' l = none) (nH : H l = none) :
    Rel K mg G0 H0 G' H' (env.set i (.ow d)) (σ.set i (some (.ref l))) := by
  refine (r.step x).setOw t n (r.ext.h.free nH) fun j e q s => ?_
  obtain ⟨m, e1, t1, n1⟩ := r.ok.slot j _ q
  rw [e1] at s
  cases s
  obtain ⟨o, ho⟩ := t1.some
  rw [nH] at ho; cases ho
theorem pus_setO (i : Nat) {x : Str} {pos' : Pos} (hN : X.N.Nodup) (he : PuF X e pe) (hi : X.N[i]? = some x := by rfl) (hx : Loc X.env.scope x := by first | exact Or.inl rfl | exact Or.inr rfl)
    (hs : swapsWith e (some (.Name x pos')) pos.line X.env = pure false := by rfl) (hf : X.fn x = true ∨ X.env.scope.names.lookup x = some .local := by first | exact .inl rfl | exact .inr rfl) :
    PuS X (.Assign [.Name x pos'] e pos) (pSetO i pe) := by
  obtain ⟨t, h1, h2⟩ := he.ex
  refine ⟨_, ps_set hN hi hx h1 hs hf, fun G0 H0 G H env σ PD E r ok hp => h2 G H env σ _ _ r.ok hp fun d l G' H' x rp n nH z => ?_⟩
  exact ok.nx G' H' _ _ (setOw_of i r x rp n nH) z

/-! ### targets -/
abbrev PTG := D → List C → (List C → Prop) → Prop
def Off (is : List Nat) (σ σ' : L2.St) : Prop := σ'.length = σ.length ∧ ∀ j : Nat, j ∉ is → (σ'[j]? : Option (Option V)) = σ[j]?
theorem Off.refl (is : List Nat) (σ : L2.St) : Off is σ σ := ⟨rfl, fun _ _ => rfl⟩
theorem Off.trans {is js : List Nat} {σ σ1 σ2 : L2.St} (a : Off is σ σ1) (b : Off js σ1 σ2) : Off (is ++ js) σ σ2 :=
  ⟨b.1.trans a.1, fun j h => by rw [List.mem_append, not_or] at h; exact (b.2 j h.2).trans (a.2 j h.1)⟩
theorem Off.set (i : Nat) (σ : L2.St) (v : Option V) : Off [i] σ (σ.set i v) := ⟨by simp, fun j h => by
  have : i ≠ j := fun e => h (by simp [e])
  rw [List.getElem?_set_ne this]⟩
structure PuG (X : Cx) (tg : Expr) (g : PTG) (is : List Nat) : Prop where
  ex : ∃ t : TG, PG X tg t ∧ ∀ (G0 H0 G H : Hp) (env : List C) (σ : L2.St) (d : D) (v : V) (P : List C → Prop) (Q : L2.St → Hp → Prop), Rel X.K X.mg G0 H0 G H env σ → Rep X.K X.mg G v d → g d env P →
    (∀ env' σ', Rel X.K X.mg G0 H0 G H env' σ' → Off is σ σ' → P env' → Q σ' H) → t v σ H Q
def pgN (i : Nat) : PTG := fun d env P => P (env.set i (.fz d))
theorem pug_name (i : Nat) {x : Str} (hN : X.N.Nodup) (hi : X.N[i]? = some x := by rfl) (hx : Loc X.env.scope x := by first | exact Or.inl rfl | exact Or.inr rfl)
    (hf : X.fn x = true ∨ X.env.scope.names.lookup x = some .local := by first | exact .inl rfl | exact .inr rfl) : PuG X (.Name x pos) (pgN i) [i] :=
  ⟨_, pg_name hN hi hx hf, fun G0 H0 G H env σ d v P Q r rp hp k => k _ _ (r.setFz rp) (Off.set i σ _) hp⟩
/-- targets in a row -/
abbrev PTGs := List D → List C → (List C → Prop) → Prop
structure PuGs (X : Cx) (ts : List Expr) (g : PTGs) (is : List Nat) : Prop where
  ex : ∃ t : TGs, PGs X ts t ∧ ∀ (G0 H0 G H : Hp) (env : List C) (σ : L2.St) (ds : List D) (vs : List V) (P : List C → Prop) (Q : L2.St → Hp → Prop), Rel X.K X.mg G0 H0 G H env σ → Reps X.K X.mg G vs ds → g ds env P →
    (∀ env' σ', Rel X.K X.mg G0 H0 G H env' σ' → Off is σ σ' → P env' → Q σ' H) → t vs σ H Q
def pgsNil : PTGs := fun ds env P => match ds with
  | [] => P env
  | _ => False
def pgsCons (g : PTG) (h : PTGs) : PTGs := fun ds env P => match ds with
  | d :: r => g d env fun env' => h r env' P
  | [] => False
theorem pugs_nil : PuGs X [] pgsNil [] := by
  refine ⟨_, pgs_nil, fun G0 H0 G H env σ ds vs P Q r rp hp k => ?_⟩
  unfold pgsNil at hp
  split at hp
  · cases rp; exact ⟨rfl, k _ _ r (Off.refl _ _) hp⟩
  · exact hp.elim
theorem pugs_cons {ts : List Expr} {g : PTG} {h : PTGs} {is js : List Nat} (h1 : PuG X e g is) (h2 : PuGs X ts h js) (hs : (assignEach (e :: ts) X.env).map (·.2) = assign e X.env :: (assignEach ts X.env).map (·.2) := by rfl) : PuGs X (e :: ts) (pgsCons g h) (is ++ js) := by
  obtain ⟨t, a1, a2⟩ := h1.ex
  obtain ⟨u, b1, b2⟩ := h2.ex
  refine ⟨_, pgs_cons a1 b1 hs, fun G0 H0 G H env σ ds vs P Q r rp hp k => ?_⟩
  unfold pgsCons at hp
  split at hp
  · cases rp with
    | cons r1 r2 => exact ⟨_, _, rfl, a2 G0 H0 G H env σ _ _ _ _ r r1 hp fun env' σ' r' o' q => b2 G0 H0 G H env' σ' _ _ P Q r' r2 q fun env2 σ2 r3 o3 q3 => k env2 σ2 r3 (o'.trans o3) q3⟩
  · exact hp.elim
theorem PG.or {tg : Expr} {g1 g2 : TG} (h1 : PG X tg g1) (h2 : PG X tg g2) : PG X tg (fun v σ H Q => g1 v σ H Q ∨ g2 v σ H Q) :=
  ⟨fun pins s σ H v u Q I r hw => hw.elim (h1.run pins s σ H v u Q I r) (h2.run pins s σ H v u Q I r)⟩
def pgTup (n : Nat) (h : PTGs) : PTG := fun d env P => match d with
  | .tup ds => ds.length = n ∧ h ds env P
  | .lst ds => ds.length = n ∧ h ds env P
  | _ => False
theorem pug_tup {ts : List Expr} {k n : Nat} {h : PTGs} {is : List Nat} (hc : X.calm = true) (hh : PuGs X ts h is) (hn : (assignEach ts X.env).length = n := by rfl) (hst : (assignEach ts X.env).findIdx? (·.1) = none := by rfl) : PuG X (.Tuple ts k pos) (pgTup n h) is := by
  obtain ⟨t, a1, a2⟩ := hh.ex
  refine ⟨_, PG.or (pg_tup hc a1 hn hst) (pg_unl hc a1 hn hst), fun G0 H0 G H env σ d v P Q r rp hp kk => ?_⟩
  unfold pgTup at hp
  split at hp
  · cases rp with
    | tup s rs => exact .inl ⟨_, _, rfl, SqT.of (r.ok.same _ _ s), by rw [rs.length]; exact hp.1, a2 G0 H0 G H env σ _ _ P Q r rs hp.2 kk⟩
  · cases rp with
    | lst s rs => exact .inr ⟨_, _, rfl, SqL.of (r.ok.same _ _ s), by rw [rs.length]; exact hp.1, a2 G0 H0 G H env σ _ _ P Q r rs hp.2 kk⟩
  · exact hp.elim
def pAsg (pe : PTE) (g : PTG) : PTS := fun PD env => pe env fun d => g d env PD.nx
theorem pus_asg {tg : Expr} {g : PTG} {is : List Nat} (he : PuE X e pe) (hg : PuG X tg g is) (hs : swapsWithSole [tg] e pos.line X.env = pure false := by rfl) (hw : swappedStores [tg] e X.env = pure none := by rfl)
    (h1 : (assignEach [tg] X.env).map (·.2) = [assign tg X.env] := by rfl) : PuS X (.Assign [tg] e pos) (pAsg pe g) := by
  obtain ⟨t, a1, a2⟩ := he.ex
  obtain ⟨u, b1, b2⟩ := hg.ex
  refine ⟨_, ps_asg a1 b1 hs hw h1, fun G0 H0 G H env σ PD E r ok hp => a2 G H env σ _ _ r.ok hp fun d v G' H' x rp z => ?_⟩
  exact b2 G0 H0 G' H' env σ d v PD.nx E.nx (r.step x) rp z fun env' σ' r' _ q => ok.nx G' H' env' σ' r' q

/-! ### what is walked -/
structure Sq where
  n : Nat
  ob : Nat → D → Prop
/-- J walks S, over the frozen part G -/
structure Walks (K : PySem.W.Frag) (mg : MG) (G : Hp) (S : Sq) (J : It) : Prop where
  go : ∀ i G1 H1, Same G G1 → Same G1 H1 → i < S.n → J.go i H1
  yld : ∀ i G1 H1 x H', Same G G1 → Same G1 H1 → i < S.n → J.yld i H1 x H' → ∃ G' d, Ext G1 H1 G' H' ∧ Rep K mg G' x d ∧ S.ob i d
  stop : ∀ G1 H1, Same G G1 → Same G1 H1 → J.stop S.n H1
abbrev PTI := List C → (Sq → Prop) → Prop
structure PuI (X : Cx) (tg iter : Expr) (p : PTI) : Prop where
  ex : ∃ w : TI, PI X tg iter w ∧ ∀ (G H : Hp) (env : List C) (σ : L2.St) (P : Sq → Prop) (R : It → Hp → Prop), Ok X.K X.mg G H env σ → p env P →
    (∀ S J G' H', Ext G H G' H' → Walks X.K X.mg G' S J → P S → R J H') → w σ H R
theorem PI.or {tg iter : Expr} {w1 w2 : TI} (h1 : PI X tg iter w1) (h2 : PI X tg iter w2) : PI X tg iter (fun σ H R => w1 σ H R ∨ w2 σ H R) :=
  ⟨fun pins s σ H R I h => h.elim (h1.run pins s σ H R I) (h2.run pins s σ H R I)⟩
/-- the items of a list or tuple; the signs of a text -/
def sqL (ds : List D) : Sq := ⟨ds.length, fun i d => ds[i]? = some d⟩
def sqR (lo : Int) (n : Nat) : Sq := ⟨n, fun i d => d = .int (lo + i)⟩
def sqC (lo c : Int) (n : Nat) : Sq := ⟨n, fun i d => d = .int (lo + i * c)⟩
def signs (x : Str) : List D := x.cps.toList.map fun c => .str ⟨#[c]⟩
def itP (P : Sq → Prop) : D → Prop := fun d => match d with
  | .lst ds => P (sqL ds)
  | .tup ds => P (sqL ds)
  | .scr ds => P (sqL ds)
  | .str x => P (sqL (signs x))
  | _ => False
def piE (pe : PTE) : PTI := fun env P => pe env (itP P)
theorem walks_list {K : PySem.W.Frag} {mg : MG} {G : Hp} {a : Addr} {vs : List V} {ds : List D} (h : SqL K G a vs) (r : Reps K mg G vs ds) : Walks K mg G (sqL ds) (Itl K a) where
  go i G1 H1 s1 s2 hi := by
    have : i < vs.length := by rw [r.length]; exact hi
    exact ⟨vs, vs[i], (s1.trans s2).seq h, by simp [this]⟩
  yld i G1 H1 x H' s1 s2 hi y := by
    obtain ⟨rfl, y⟩ := y
    obtain ⟨d, e, q⟩ := r.get (y vs ((s1.trans s2).seq h))
    exact ⟨G1, d, .refl s2, q.mono s1, e⟩
  stop G1 H1 s1 s2 := ⟨vs, (s1.trans s2).seq h, by rw [r.length]; exact Nat.le_refl _⟩
theorem walks_tup {K : PySem.W.Frag} {mg : MG} {G : Hp} {a : Addr} {vs : List V} {ds : List D} (h : SqT K G a vs) (r : Reps K mg G vs ds) : Walks K mg G (sqL ds) (Itt K a) where
  go i G1 H1 s1 s2 hi := by
    have : i < vs.length := by rw [r.length]; exact hi
    exact ⟨vs, vs[i], Same.sqT (s1.trans s2) h, by simp [this]⟩
  yld i G1 H1 x H' s1 s2 hi y := by
    obtain ⟨rfl, y⟩ := y
    obtain ⟨d, e, q⟩ := r.get (y vs (Same.sqT (s1.trans s2) h))
    exact ⟨G1, d, .refl s2, q.mono s1, e⟩
  stop G1 H1 s1 s2 := ⟨vs, Same.sqT (s1.trans s2) h, by rw [r.length]; exact Nat.le_refl _⟩
theorem walks_range {K : PySem.W.Frag} {mg : MG} {G : Hp} (lo : Int) (n : Nat) : Walks K mg G (sqR lo n) (Itr lo n) where
  go i G1 H1 s1 s2 hi := hi
  yld i G1 H1 x H' s1 s2 hi y := by
    obtain ⟨rfl, rfl⟩ := y
    exact ⟨G1, _, .refl s2, .int _, rfl⟩
  stop G1 H1 s1 s2 := Nat.le_refl _
theorem walks_rangeC {K : PySem.W.Frag} {mg : MG} {G : Hp} (lo c : Int) (n : Nat) : Walks K mg G (sqC lo c n) (Itc lo c n) where
  go i G1 H1 s1 s2 hi := hi
  yld i G1 H1 x H' s1 s2 hi y := by
    obtain ⟨rfl, rfl⟩ := y
    exact ⟨G1, _, .refl s2, .int _, rfl⟩
  stop G1 H1 s1 s2 := Nat.le_refl _
theorem walks_str {K : PySem.W.Frag} {mg : MG} {G : Hp} (x : Str) : Walks K mg G (sqL (signs x)) (Its x) where
  go i G1 H1 s1 s2 hi := by
    have : i < (signs x).length := hi
    show i < x.cps.size
    simpa [signs] using this
  yld i G1 H1 v H' s1 s2 hi y := by
    obtain ⟨rfl, c, e, rfl⟩ := y
    refine ⟨G1, _, .refl s2, .str _, ?_⟩
    show (signs x)[i]? = _
    unfold signs
    rw [List.getElem?_map, Array.getElem?_toList, e]; rfl
  stop G1 H1 s1 s2 := by
    show x.cps.size ≤ (signs x).length
    simp [signs]
def iAny (K : PySem.W.Frag) (tl : TE) : TI := fun σ H R => tl σ H fun x H1 => (∃ a, x = .ref a ∧ (∃ xs, SqL K H1 a xs) ∧ R (Itl K a) H1) ∨ (∃ a, x = .ref a ∧ (∃ xs, SqT K H1 a xs) ∧ R (Itt K a) H1) ∨ ∃ y, x = .str y ∧ R (Its y) H1
theorem pi_any {tg l : Expr} {tl : TE} (hl : PE X l tl) : PI X tg l (iAny X.K tl) := by
  refine ⟨fun pins s σ H R I h => ?_⟩
  refine thn (hl.run pins s σ H _ I h) fun v s1 ⟨x, H1, I1, r1, q1⟩ => ?_
  rcases q1 with ⟨a, e, ⟨xs, hq⟩, q⟩ | ⟨a, e, ⟨xs, hq⟩, q⟩ | ⟨y, ex, q⟩
  · subst e
    cases r1
    obtain ⟨its, rv, p, hz⟩ := I1.list hq
    refine wpAny_pyIter_list p.isList ?_
    refine ⟨s1.heap.objs.size, [s1.heap.objs.size], _, _, H1, rfl, I1.kept (t' := s1.toks) fun b o e => Heap.get?_push_of_some _ e, turn_list a _, ⟨_, Heap.get?_push_size _ rfl, rfl, rfl⟩, fun b hb => ?_, q⟩
    have e : b = s1.heap.objs.size := by simpa using hb
    subst e
    exact I1.fpOk (Nat.le_refl _) (I1.hok.fresh (Nat.le_refl _))
  · subst e
    cases r1
    obtain ⟨its, rv, p, hz⟩ := I1.tuple hq
    refine wpAny_pyIter_tuple (show s1.heap.IsTuple a its.toArray from p) ?_
    refine ⟨s1.heap.objs.size, [s1.heap.objs.size], _, _, H1, rfl, I1.kept (t' := s1.toks) fun b o e => Heap.get?_push_of_some _ e, turn_tuple a _, ⟨_, Heap.get?_push_size _ rfl, rfl, rfl⟩, fun b hb => ?_, q⟩
    have e : b = s1.heap.objs.size := by simpa using hb
    subst e
    exact I1.fpOk (Nat.le_refl _) (I1.hok.fresh (Nat.le_refl _))
  · subst ex
    obtain ⟨t, rfl⟩ := r1
    cases ha : y.cps.all (· < 128)
    · exact wpAny_pyIter_wide ha (pi_one (tk := s1.toks) I1 _ (turn_str _ y t "str_iterator" (.inr rfl)) ⟨_, Heap.get?_push_size _ rfl, rfl, rfl⟩ q)
    · exact wpAny_pyIter_ascii ha (pi_one (tk := s1.toks) I1 _ (turn_str _ y t "str_ascii_iterator" (.inl rfl)) ⟨_, Heap.get?_push_size _ rfl, rfl, rfl⟩ q)
theorem pui_e {tg : Expr} (h : PuE X e pe) : PuI X tg e (piE pe) := by
  obtain ⟨t, h1, h2⟩ := h.ex
  refine ⟨_, pi_any h1, fun G H env σ P R ok hp k => h2 G H env σ _ _ ok hp fun d v G' H' x r q => ?_⟩
  unfold itP at q
  split at q
  · cases r with
    | lst e rs => exact .inl ⟨_, rfl, ⟨_, SqL.of (x.s _ _ e)⟩, k _ _ G' H' x (walks_list (SqL.of e) rs) q⟩
  · cases r with
    | tup e rs => exact .inr (.inl ⟨_, rfl, ⟨_, SqT.of (x.s _ _ e)⟩, k _ _ G' H' x (walks_tup (SqT.of e) rs) q⟩)
  · cases r with
    | scr e rs => exact .inl ⟨_, rfl, ⟨_, x.s.seq e⟩, k _ _ G' H' x (walks_list e rs) q⟩
  · cases r
    exact .inr (.inr ⟨_, rfl, k _ _ G' H' x (walks_str _) q⟩)
  · exact q.elim
/-- range: up to 2 ^ 62 -/
def inR (i : Int) : Prop := -(2 ^ 62) ≤ i ∧ i < 2 ^ 62
def rg1 (P : Sq → Prop) : D → Prop := fun d => match d with
  | .int j => inR j ∧ P (sqR 0 j.toNat)
  | _ => False
def piR1 (pa : PTE) : PTI := fun env P => pa env (rg1 P)
def rg2 (P : Sq → Prop) : D → D → Prop := fun d f => match d, f with
  | .int i, .int j => (inR i ∧ inR j) ∧ P (sqR i (j - i).toNat)
  | _, _ => False
def piR2 (pa pb : PTE) : PTI := fun env P => pa env fun d => pb env fun f => rg2 P d f
theorem pui_r1 {tg : Expr} {p' : Pos} (hm : X.mg "range" = none) (h : PuE X a pa) (hg : Gl X "range" := by rfl) (hs1 : starEach [a] X.env = [(false, eval a X.env)] := by rfl) : PuI X tg (.Call (.Name "range" p') [a] [] pos) (piR1 pa) := by
  obtain ⟨t, h1, h2⟩ := h.ex
  refine ⟨_, pi_range1 hg hm (pa_cons h1 pa_nil hs1) hs1, fun G H env σ P R ok hp k => h2 G H env σ _ _ ok hp fun d v G' H' x r q => ?_⟩
  unfold rg1 at q
  split at q
  · cases r
    exact ⟨_, rfl, q.1.1, q.1.2, k _ _ G' H' x (walks_range 0 _) q.2⟩
  · exact q.elim
theorem pui_r2 {tg : Expr} {p' : Pos} (hm : X.mg "range" = none) (h : PuE X a pa) (h' : PuE X b pb) (hg : Gl X "range" := by rfl) (hs : starEach [a, b] X.env = [(false, eval a X.env), (false, eval b X.env)] := by rfl)
    (hs2 : starEach [b] X.env = [(false, eval b X.env)] := by rfl) : PuI X tg (.Call (.Name "range" p') [a, b] [] pos) (piR2 pa pb) := by
  obtain ⟨t, h1, h2⟩ := h.ex
  obtain ⟨u, g1, g2⟩ := h'.ex
  refine ⟨_, pi_range2 hg hm (pa_cons h1 (pa_cons g1 pa_nil hs2) (by rw [hs, hs2])) hs hs2, fun G H env σ P R ok hp k => h2 G H env σ _ _ ok hp fun d v G' H' x r q => ?_⟩
  refine g2 G' H' env σ _ _ (ok.ext x) q fun f w G2 H2 y r2 q2 => ?_
  unfold rg2 at q2
  split at q2
  · cases r; cases r2
    obtain ⟨⟨⟨a1, a2⟩, a3, a4⟩, q2⟩ := q2
    exact ⟨_, _, rfl, ⟨a1, a2, a3, a4⟩, k _ _ G2 H2 (x.trans y) (walks_range _ _) q2⟩
  · exact q2.elim

/-! ### for -/
/-- W: what holds ahead of turn k -/
def forP (S : Sq) (g : PTG) (body : PTS) : PTS := fun PD env => ∃ W : Nat → List C → Prop, W 0 env ∧
  (∀ k d env, k < S.n → S.ob k d → W k env → g d env fun env' => body { nx := W (k + 1), ct := W (k + 1), bk := PD.nx, rt := PD.rt, er := PD.er } env') ∧ ∀ env, W S.n env → PD.nx env
def pFor (pi : PTI) (g : PTG) (body : PTS) : PTS := fun PD env => pi env fun S => forP S g body PD env
theorem for_at {S : Sq} {J : It} {g : PTG} {pb : PTS} {tgt : TG} {tb : TS} {is : List Nat} {G0 H0 G1 H1 : Hp} {env : List C} {σ : L2.St} {PD : PEnds} {E : Ends}
    (g2 : ∀ (G0 H0 G H : Hp) (env : List C) (σ : L2.St) (d : D) (v : V) (P : List C → Prop) (Q : L2.St → Hp → Prop), Rel X.K X.mg G0 H0 G H env σ → Rep X.K X.mg G v d → g d env P →
      (∀ env' σ', Rel X.K X.mg G0 H0 G H env' σ' → Off is σ σ' → P env' → Q σ' H) → tgt v σ H Q)
    (b2 : ∀ (G0 H0 G H : Hp) (env : List C) (σ : L2.St) (PD : PEnds) (E : Ends), Rel X.K X.mg G0 H0 G H env σ → EndsOk X G0 H0 PD E → pb PD env → tb E σ H)
    (r : Rel X.K X.mg G0 H0 G1 H1 env σ) (ok : EndsOk X G0 H0 PD E) (wk : Walks X.K X.mg G1 S J) (hp : forP S g pb PD env) :
    ∃ W : Nat → Nat → L2.St → Hp → Prop, (∃ m, W 0 m σ H1) ∧ ∀ i m σ H, W i m σ H → (J.stop i H ∧ E.nx σ H) ∨ (J.go i H ∧ ∃ N : L2.St → Hp → Prop, (∀ σ' H', N σ' H' → ∃ m', m' < m ∧ W (i + 1) m' σ' H') ∧
      ∀ x H', J.yld i H x H' → tgt x σ H' fun σ2 H2 => tb { E with nx := N, ct := N, bk := E.nx } σ2 H2) := by
  obtain ⟨W, w0, step, fin⟩ := hp
  refine ⟨fun i m σ H => m = S.n - i ∧ i ≤ S.n ∧ ∃ G env, Rel X.K X.mg G0 H0 G H env σ ∧ Same G1 G ∧ W i env, ⟨S.n, by simp, Nat.zero_le _, G1, env, r, Same.refl _, w0⟩, ?_⟩
  rintro i m σ2 H2 ⟨rfl, hi, G2, env2, r2, s2, w2⟩
  by_cases hlt : i < S.n
  · refine .inr ⟨wk.go i G2 H2 s2 r2.ok.same hlt, fun σ' H' => ∃ G' env', Rel X.K X.mg G0 H0 G' H' env' σ' ∧ Same G1 G' ∧ W (i + 1) env', fun σ' H' ⟨G', env', r', s', w'⟩ => ⟨S.n - (i + 1), by omega, rfl, hlt, G', env', r', s', w'⟩, fun xv H3 y => ?_⟩
    obtain ⟨G3, d, x3, rp, ob⟩ := wk.yld i G2 H2 xv H3 s2 r2.ok.same hlt y
    refine g2 G0 H0 G3 H3 env2 σ2 d xv _ _ (r2.step x3) rp (step i d env2 hlt ob w2) fun env4 σ4 r4 _ q4 => ?_
    -- the frozen part stays: the entry is moved up to G3
    have base : Rel X.K X.mg G3 H0 G3 H3 env4 σ4 := ⟨r4.ok, ⟨Same.refl _, r4.ext.h, r4.ext.s, fun _ e n => absurd e n⟩, r4.own⟩
    refine b2 G3 H0 G3 H3 env4 σ4 _ _ base ⟨?_, ?_, ?_, ?_, fun _ _ _ _ _ _ _ _ (z : False) => z.elim, ?_⟩ q4
    · intro G5 H5 env5 σ5 r5 w5
      exact ⟨G5, env5, ⟨r5.ok, ⟨r4.ext.g.trans r5.ext.g, r5.ext.h, r5.ext.s, fun a e n => by
        by_cases z : G3 a = none
        · exact r5.ext.f a z n
        · exact r4.ext.f a e z⟩, r5.own⟩, (s2.trans x3.g).trans r5.ext.g, w5⟩
    · intro G5 H5 env5 σ5 r5 w5
      exact ok.nx G5 H5 env5 σ5 ⟨r5.ok, ⟨r4.ext.g.trans r5.ext.g, r5.ext.h, r5.ext.s, fun a e n => by
        by_cases z : G3 a = none
        · exact r5.ext.f a z n
        · exact r4.ext.f a e z⟩, r5.own⟩ w5
    · intro G5 H5 env5 σ5 r5 w5
      exact ⟨G5, env5, ⟨r5.ok, ⟨r4.ext.g.trans r5.ext.g, r5.ext.h, r5.ext.s, fun a e n => by
        by_cases z : G3 a = none
        · exact r5.ext.f a z n
        · exact r4.ext.f a e z⟩, r5.own⟩, (s2.trans x3.g).trans r5.ext.g, w5⟩
    · intro G5 H5 d5 v5 x5 rp5 q5
      exact ok.rt G5 H5 d5 v5 ⟨r4.ext.g.trans x5.g, x5.h, x5.s, fun a e n => by
        by_cases z : G3 a = none
        · exact x5.f a z n
        · exact r4.ext.f a e z⟩ rp5 q5
    · obtain ⟨W, tk, f⟩ := ok.er
      refine ⟨W, tk, fun G5 H5 env5 σ5 cls fs Ca d5 vs r5 hm hd h0 g5 rf q5 => f G5 H5 env5 σ5 cls fs Ca d5 vs ⟨r5.ok, ⟨r4.ext.g.trans r5.ext.g, r5.ext.h, r5.ext.s, fun a e n => ?_⟩, r5.own⟩ hm hd h0 g5 rf q5⟩
      by_cases z : G3 a = none
      · exact r5.ext.f a z n
      · exact r4.ext.f a e z
  · have e : i = S.n := by omega
    subst e
    exact .inl ⟨wk.stop G2 H2 s2 r2.ok.same, ok.nx G2 H2 env2 σ2 r2 (fin env2 w2)⟩
theorem pus_for {tg iter : Expr} {body : List Stmt} {pi : PTI} {g : PTG} {is : List Nat} {pb : PTS} (hp : PassesOwn (model X.prog X.w) X.A X.env X.xe) (hc : X.calm = true) (hi : PuI X tg iter pi) (hg : PuG X tg g is) (hb : PuSs X body pb)
    (hs : ∀ x, foldedSetIterable iter X.env x = pure x := by intro _; rfl) : PuS X (.For tg iter body [] pos) (pFor pi g pb) := by
  obtain ⟨w, i1, i2⟩ := hi.ex
  obtain ⟨tgt, g1, g2⟩ := hg.ex
  obtain ⟨tb, b1, b2⟩ := hb.ex
  exact ⟨_, ps_for hp hc i1 g1 b1 hs, fun G0 H0 G H env σ PD E r ok hp => i2 G H env σ _ _ r.ok hp fun S J G1 H1 x wk z => for_at g2 b2 (r.step x) ok wk z⟩

/-! ### while -/
def pWhile (pt : PTT) (body : PTS) : PTS := fun PD env => ∃ W : Nat → List C → Prop, (∃ m, W m env) ∧ ∀ m env, W m env →
  pt env fun b => if b = true then body { nx := fun e => ∃ m', m' < m ∧ W m' e, ct := fun e => ∃ m', m' < m ∧ W m' e, bk := PD.nx, rt := PD.rt, er := PD.er } env else PD.nx env
theorem pus_while {c : Expr} {body : List Stmt} {pb : PTS} (hp : PassesOwn (model X.prog X.w) X.A X.env X.xe) (hc : PuT X c pt) (hb : PuSs X body pb) : PuS X (.While c body [] pos) (pWhile pt pb) := by
  obtain ⟨t, c1, c2⟩ := hc.ex
  obtain ⟨tb, b1, b2⟩ := hb.ex
  refine ⟨_, ps_while hp c1 b1, fun G0 H0 G H env σ PD E r ok ⟨W, ⟨m0, w0⟩, step⟩ => ?_⟩
  refine ⟨fun m σ H => ∃ G env, Rel X.K X.mg G0 H0 G H env σ ∧ W m env, ⟨m0, G, env, r, w0⟩, ?_⟩
  rintro m σ2 H2 ⟨G2, env2, r2, w2⟩
  refine c2 G2 H2 env2 σ2 _ _ r2.ok (step m env2 w2) fun b G3 H3 x q => ?_
  cases b with
  | false => exact ok.nx G3 H3 env2 σ2 (r2.step x) q
  | true =>
    refine ⟨fun σ' H' => ∃ G' env', Rel X.K X.mg G0 H0 G' H' env' σ' ∧ ∃ m', m' < m ∧ W m' env', fun σ' H' ⟨G', env', r', m', hm, w'⟩ => ⟨m', hm, G', env', r', w'⟩, ?_⟩
    rw [if_pos rfl] at q
    refine b2 G0 H0 G3 H3 env2 σ2 { nx := fun e => ∃ m', m' < m ∧ W m' e, ct := fun e => ∃ m', m' < m ∧ W m' e, bk := PD.nx, rt := PD.rt, er := PD.er } _ (r2.step x) ⟨fun G' H' env' σ' r' w' => ⟨G', env', r', w'⟩, fun G' H' env' σ' r' w' => ok.nx G' H' env' σ' r' w', fun G' H' env' σ' r' w' => ⟨G', env', r', w'⟩, ok.rt, fun _ _ _ _ _ _ _ _ z => z.elim, ok.er⟩ q
end
end PL
end

section
set_option linter.all false
set_option maxRecDepth 100000
set_option maxHeartbeats 4000000
set_option autoImplicit false
/-! PL4: argument lists, displays, subscripts, slices, comprehensions, calls, a def's promise. -/
namespace PL
open PySem PySem.Spec PyProof.Rows L2

section
variable {X : Cx} {e a b : Expr} {es : List Expr} {pe pa pb : PTE} {ps : PTA} {pos : Pos}
def paNil : PTA := fun _ P => P []
def paCons (p : PTE) (q : PTA) : PTA := fun env P => p env fun d => q env fun ds => P (d :: ds)
theorem pua_nil : PuA X [] paNil := ⟨_, pa_nil, fun G H env σ P Q ok hp k => k [] [] G H (.refl ok.same) .nil hp⟩
theorem pua_cons (h : PuE X e pe) (g : PuA X es ps) (hs : starEach (e :: es) X.env = (false, eval e X.env) :: starEach es X.env := by rfl) : PuA X (e :: es) (paCons pe ps) := by
  obtain ⟨t, h1, h2⟩ := h.ex
  obtain ⟨u, g1, g2⟩ := g.ex
  refine ⟨_, pa_cons h1 g1 hs, fun G H env σ P Q ok hp k => h2 G H env σ _ _ ok hp fun d v G' H' x r q => ?_⟩
  exact g2 G' H' env σ _ _ (ok.ext x) q fun ds vs G2 H2 y rs q2 => k (d :: ds) (v :: vs) G2 H2 (x.trans y) (.cons (r.mono y.g) rs) q2
theorem Shals.mono {K : PySem.W.Frag} {mg : MG} {G G' H H' : Hp} (a : Same H H') (b : Same G G') : ∀ {vs : List V} {ds : List D}, Shals K mg H G vs ds → Shals K mg H' G' vs ds
  | _, _, .nil => .nil
  | _, _, .cons r t => .cons (r.mono a b) (Shals.mono a b t)
theorem puao_nil : PuAO X [] paNil := ⟨_, pa_nil, fun G H env σ P Q ok hp k => k [] [] G H (.refl ok.same) .nil hp⟩
theorem puao_cons (h : PuO X e pe) (g : PuAO X es ps) (hs : starEach (e :: es) X.env = (false, eval e X.env) :: starEach es X.env := by rfl) : PuAO X (e :: es) (paCons pe ps) := by
  obtain ⟨t, h1, h2⟩ := h.ex
  obtain ⟨u, g1, g2⟩ := g.ex
  refine ⟨_, pa_cons h1 g1 hs, fun G H env σ P Q ok hp k => h2 G H env σ _ _ ok hp fun d v G' H' x r q => ?_⟩
  exact g2 G' H' env σ _ _ (ok.ext x) q fun ds vs G2 H2 y rs q2 => k (d :: ds) (v :: vs) G2 H2 (x.trans y) (.cons (r.mono y.h y.g) rs) q2

/-! ### displays -/
def pLst (ps : PTA) : PTE := fun env P => ps env fun ds => ds.length ≤ sizeLine ∧ P (.lst ds)
def pTup (ps : PTA) : PTE := fun env P => ps env fun ds => ds.length ≤ sizeLine ∧ P (.tup ds)
theorem puf_lst (h : PuA X es ps) : PuF X (.List es pos) (pLst ps) := by
  obtain ⟨t, h1, h2⟩ := h.ex
  refine ⟨_, pe_lst h1, fun G H env σ P Q ok hp k => h2 G H env σ _ _ ok hp fun ds vs G' H' x r q => ⟨by rw [r.length]; exact q.1, fun p hn => ?_⟩⟩
  exact k _ p G' _ (x.trans (Ext.newH x.s hn)) (.lst upd_same r) (x.s.free hn) (x.h.free hn) q.2
theorem pu_tup {j : Nat} (h : PuA X es ps) : PuE X (.Tuple es j pos) (pTup ps) := by
  obtain ⟨t, h1, h2⟩ := h.ex
  refine ⟨_, pe_tup h1, fun G H env σ P Q ok hp k => h2 G H env σ _ _ ok hp fun ds vs G' H' x r q => ⟨by rw [r.length]; exact q.1, fun p hn => ?_⟩⟩
  exact k _ _ _ _ (x.trans (Ext.new x.s hn)) (.tup upd_same (r.mono (Same.upd (x.s.free hn)))) q.2

/-! ### dicts over data -/
def lookD {κ : Type} [DecidableEq κ] (kvs : List (κ × D)) (k : κ) : Option D := (kvs.find? fun kv => decide (kv.1 = k)).map (·.2)
def putD {κ : Type} [DecidableEq κ] (kvs : List (κ × D)) (k : κ) (v : D) : List (κ × D) :=
  if (kvs.any fun kv => decide (kv.1 = k)) then kvs.map fun kv => if kv.1 = k then (kv.1, v) else kv else kvs ++ [(k, v)]
/-- two tables with the same keys, their values related -/
inductive Rel2 {κ : Type} (R : V → D → Prop) : List (κ × V) → List (κ × D) → Prop
  | nil : Rel2 R [] []
  | cons {k : κ} {v : V} {d : D} {vs : List (κ × V)} {ds : List (κ × D)} : R v d → Rel2 R vs ds → Rel2 R ((k, v) :: vs) ((k, d) :: ds)
end
section
variable {κ : Type} [DecidableEq κ] {R : V → D → Prop}
theorem Rel2.length : ∀ {vs : List (κ × V)} {ds : List (κ × D)}, Rel2 R vs ds → vs.length = ds.length
  | _, _, .nil => rfl
  | _, _, .cons _ t => congrArg (· + 1) t.length
theorem Rel2.look {k : κ} : ∀ {vs : List (κ × V)} {ds : List (κ × D)}, Rel2 R vs ds → (valV vs k = none ∧ lookD ds k = none) ∨ ∃ v d, valV vs k = some v ∧ lookD ds k = some d ∧ R v d
  | _, _, .nil => .inl ⟨rfl, rfl⟩
  | _, _, .cons (k := j) (v := v) (d := d) (vs := vs) (ds := ds) r t => by
    by_cases h : j = k
    · exact .inr ⟨v, d, by simp [valV, List.find?_cons, h], by simp [lookD, List.find?_cons, h], r⟩
    · rcases Rel2.look (k := k) t with ⟨a, b⟩ | ⟨v', d', a, b, c⟩
      · exact .inl ⟨by rw [valV_neg (p := (j, v)) h]; exact a, by simpa [lookD, List.find?_cons, h] using b⟩
      · exact .inr ⟨v', d', by rw [valV_neg (p := (j, v)) h]; exact a, by simpa [lookD, List.find?_cons, h] using b, c⟩
theorem Rel2.any {k : κ} : ∀ {vs : List (κ × V)} {ds : List (κ × D)}, Rel2 R vs ds → (vs.any fun kv => decide (kv.1 = k)) = ds.any fun kv => decide (kv.1 = k)
  | _, _, .nil => rfl
  | _, _, .cons _ t => by simp only [List.any_cons, t.any]
theorem Rel2.map {k : κ} {v : V} {d : D} (r : R v d) : ∀ {vs : List (κ × V)} {ds : List (κ × D)}, Rel2 R vs ds → Rel2 R (vs.map fun kv => if kv.1 = k then (kv.1, v) else kv) (ds.map fun kv => if kv.1 = k then (kv.1, d) else kv)
  | _, _, .nil => .nil
  | _, _, .cons (k := j) q t => by
    simp only [List.map_cons]
    by_cases h : j = k
    · simp only [h, if_true]; exact .cons r (t.map r)
    · simp only [h, if_false]; exact .cons q (t.map r)
theorem Rel2.snoc {k : κ} {v : V} {d : D} (r : R v d) : ∀ {vs : List (κ × V)} {ds : List (κ × D)}, Rel2 R vs ds → Rel2 R (vs ++ [(k, v)]) (ds ++ [(k, d)])
  | _, _, .nil => .cons r .nil
  | _, _, .cons q t => .cons q (t.snoc r)
theorem Rel2.put {k : κ} {v : V} {d : D} (r : R v d) {vs : List (κ × V)} {ds : List (κ × D)} (h : Rel2 R vs ds) : Rel2 R (putK vs k v) (putD ds k d) := by
  unfold putK putD
  rw [h.any]
  split
  · exact h.map r
  · exact h.snoc r
end
section
variable {K : PySem.W.Frag} {mg : MG} {G H : Hp}
theorem RepKV.rel : ∀ {vs : List (Key × V)} {ds : List (Key × D)}, RepKV K mg G vs ds → Rel2 (Rep K mg G) vs ds
  | _, _, .nil => .nil
  | _, _, .cons r t => .cons r (RepKV.rel t)
theorem RepKV.of : ∀ {vs : List (Key × V)} {ds : List (Key × D)}, Rel2 (Rep K mg G) vs ds → RepKV K mg G vs ds
  | _, _, .nil => .nil
  | _, _, .cons r t => .cons r (RepKV.of t)
theorem RepTV.rel : ∀ {vs : List (List Key × V)} {ds : List (List Key × D)}, RepTV K mg G vs ds → Rel2 (Rep K mg G) vs ds
  | _, _, .nil => .nil
  | _, _, .cons r t => .cons r (RepTV.rel t)
theorem RepTV.of : ∀ {vs : List (List Key × V)} {ds : List (List Key × D)}, Rel2 (Rep K mg G) vs ds → RepTV K mg G vs ds
  | _, _, .nil => .nil
  | _, _, .cons r t => .cons r (RepTV.of t)
end
def keyOf : D → Option Key
  | .int i => some (.inl i)
  | .str x => some (.inr x)
  | _ => none
def keysOf : List D → Option (List Key)
  | [] => some []
  | d :: ds => (keyOf d).bind fun k => (keysOf ds).map fun ks => k :: ks
def tkeyOf : D → Option (List Key)
  | .tup ds => keysOf ds
  | _ => none
section
variable {K : PySem.W.Frag} {mg : MG} {G H : Hp}
theorem Rep.key {v : V} {d : D} {k : Key} (r : Rep K mg G v d) (h : keyOf d = some k) : v = kV k := by
  cases r with
  | int i => cases h; rfl
  | str x => cases h; rfl
  | non => cases h
  | bl _ => cases h
  | tup _ _ => cases h
  | lst _ _ => cases h
  | scr _ _ => cases h
  | dk _ _ => cases h
  | dt _ _ => cases h
  | obj _ _ _ => cases h
  | slf _ _ _ => cases h
  | err _ _ _ _ _ => cases h
theorem Reps.keys : ∀ {vs : List V} {ds : List D} {ks : List Key}, Reps K mg G vs ds → keysOf ds = some ks → vs = ks.map kV
  | _, _, ks, .nil, h => by cases h; rfl
  | _, _, ks, .cons (d := d) (ds := ds) r t, h => by
    unfold keysOf at h
    cases e : keyOf d with
    | none => rw [e] at h; cases h
    | some k =>
      rw [e] at h
      cases e2 : keysOf ds with
      | none => simp [e2] at h
      | some ks' =>
        simp [e2] at h
        subst h
        rw [r.key e, Reps.keys t e2]; rfl
/-- what the table d holds at the key y -/
def getP (d y : D) : Option (Option D) := match d with
  | .dk kvs => (keyOf y).map fun k => lookD kvs k
  | .dt kvs => (tkeyOf y).map fun k => lookD kvs k
  | _ => none
theorem Shal.dget {v w : V} {d y : D} {o : Option D} (s : Same G H) (r : Shal K mg H G v d) (ry : Rep K mg G w y) (h : getP d y = some o) :
    ∃ a, v = .ref a ∧ ((o = none ∧ DGet H a w none) ∨ ∃ z u, o = some z ∧ DGet H a w (some u) ∧ Rep K mg G u z) := by
  unfold getP at h
  split at h
  · rename_i kvs
    cases e : keyOf y with
    | none => rw [e] at h; cases h
    | some k =>
      rw [e] at h; cases h
      obtain ⟨l, vs, rfl, hl, rs⟩ := r.dk s
      have ek := ry.key e
      subst ek
      have g : DGet H l (kV k) (valV vs k) := .inl ⟨vs, k, hl, rfl, rfl⟩
      refine ⟨l, rfl, ?_⟩
      rcases rs.rel.look (k := k) with ⟨a, b⟩ | ⟨u, z, a, b, c⟩
      · rw [a] at g; exact .inl ⟨b, g⟩
      · rw [a] at g; exact .inr ⟨z, u, b, g, c⟩
  · rename_i kvs
    cases e : tkeyOf y with
    | none => rw [e] at h; cases h
    | some k =>
      rw [e] at h; cases h
      obtain ⟨l, vs, rfl, hl, rs⟩ := r.dt s
      cases ry with
      | tup hb rb =>
        have ek := rb.keys e
        subst ek
        have g := DGet.t (k := k) hl (s _ _ hb)
        refine ⟨l, rfl, ?_⟩
        rcases rs.rel.look (k := k) with ⟨a, b⟩ | ⟨u, z, a, b, c⟩
        · rw [a] at g; exact .inl ⟨b, g⟩
        · rw [a] at g; exact .inr ⟨z, u, b, g, c⟩
      | non => cases e
      | bl _ => cases e
      | int _ => cases e
      | str _ => cases e
      | lst _ _ => cases e
      | scr _ _ => cases e
      | dk _ _ => cases e
      | dt _ _ => cases e
      | obj _ _ _ => cases e
      | slf _ _ _ => cases e
      | err _ _ _ _ _ => cases e
  · cases h
end

section
variable {X : Cx} {e a b : Expr} {es : List Expr} {pe pa pb : PTE} {ps : PTA} {pos : Pos}
/-! ### subscripts -/
theorem ix_dict (hu : X.A.units + 1 < cLine) : IxR X (fun x y H Q => ∃ a v, x = .ref a ∧ DGet H a y (some v) ∧ Q v H) := by
  intro value slice pins s σ H x y v u Q I rx ry h hs
  obtain ⟨a, z, rfl, g, q⟩ := h
  obtain rfl : v = Value.ref a := rx
  exact tail_any (dict_typeIs I g) PySem.F.slot_dict_getitem.lookup (d_getItem hu I g ry fun w' s3 I3 rw' => ⟨z, H, I3, rw', q⟩) hs
def rIxAll (K : PySem.W.Frag) : R2 := fun x y H Q => rIx K x y H Q ∨ ∃ a v, x = .ref a ∧ DGet H a y (some v) ∧ Q v H
theorem ix_all (hu : X.A.units + 1 < cLine) : IxR X (rIxAll X.K) := IxR.or ix_seq (ix_dict hu)
def ixP : D → D → (D → Prop) → Prop := fun x y P => match x, y with
  | .lst ds, .int i => ∃ d, atI ds i = some d ∧ P d
  | .tup ds, .int i => ∃ d, atI ds i = some d ∧ P d
  | .scr ds, .int i => ∃ d, atI ds i = some d ∧ P d
  | .str z, .int i => z.length ≤ sizeLine ∧ ∃ c, atI z.cps.toList i = some c ∧ P (.str ⟨#[c]⟩)
  | d, y => ∃ z, getP d y = some (some z) ∧ P z
theorem atI_rep {K : PySem.W.Frag} {mg : MG} {G : Hp} {vs : List V} {ds : List D} {i : Int} {d : D} (r : Reps K mg G vs ds) (h : atI ds i = some d) : ∃ v, atI vs i = some v ∧ Rep K mg G v d := by
  unfold atI at h ⊢
  rw [r.length]
  cases e : ixN ds.length i with
  | none => rw [e] at h; cases h
  | some j => rw [e] at h; exact r.getD h
theorem ixP_ok {G H : Hp} {v w : V} {x y : D} {P : D → Prop} {Q : VK} (s : Same G H) (r1 : Shal X.K X.mg H G v x) (r2 : Rep X.K X.mg G w y) (h : ixP x y P)
    (k : ∀ d u G' H', Ext G H G' H' → Rep X.K X.mg G' u d → P d → Q u H') : rIxAll X.K v w H Q := by
  unfold ixP at h
  split at h
  · obtain ⟨d, e, h⟩ := h
    cases r2
    obtain ⟨l, vs, rfl, hl, rs⟩ := r1.lst s
    obtain ⟨u, eu, ru⟩ := atI_rep rs e
    exact .inl (.inl ⟨l, vs, _, u, rfl, rfl, SqL.of hl, eu, k _ _ G H (.refl s) ru h⟩)
  · obtain ⟨d, e, h⟩ := h
    cases r2
    obtain ⟨l, vs, rfl, hl, rs⟩ := r1.tup s
    obtain ⟨u, eu, ru⟩ := atI_rep rs e
    exact .inl (.inr (.inl ⟨l, vs, _, u, rfl, rfl, SqT.of hl, eu, k _ _ G H (.refl s) ru h⟩))
  · obtain ⟨d, e, h⟩ := h
    cases r2
    obtain ⟨l, vs, rfl, hl, rs⟩ := r1.scr s
    obtain ⟨u, eu, ru⟩ := atI_rep rs e
    exact .inl (.inl ⟨l, vs, _, u, rfl, rfl, hl, eu, k _ _ G H (.refl s) ru h⟩)
  · obtain ⟨hz, c, e, h⟩ := h
    cases r2
    cases r1.str
    exact .inl (.inr (.inr ⟨_, _, c, rfl, rfl, hz, e, k _ _ G H (.refl s) (.str _) h⟩))
  · obtain ⟨z, e, h⟩ := h
    obtain ⟨l, rfl, q⟩ := r1.dget s r2 e
    rcases q with ⟨q, _⟩ | ⟨z', u, q, g, ru⟩
    · cases q
    · cases q
      exact .inr ⟨l, u, rfl, g, k _ _ G H (.refl s) ru h⟩
def pIx (pa pb : PTE) : PTE := fun env P => pa env fun x => pb env fun y => ixP x y P
theorem pu_ix (hu : X.A.units + 1 < cLine) (ha : PuO X a pa) (hb : PuE X b pb) (hs : PlainIx b := by exact fun _ _ => rfl) : PuE X (.Subscript a b pos) (pIx pa pb) := by
  obtain ⟨t, a1, a2⟩ := ha.ex
  obtain ⟨u, b1, b2⟩ := hb.ex
  refine ⟨_, pe_ix (ix_all hu) a1 b1 hs, fun G H env σ P Q ok hp k => ?_⟩
  refine a2 G H env σ _ _ ok hp fun x v G1 H1 e1 r1 q1 => ?_
  refine b2 G1 H1 env σ _ _ (ok.ext e1) q1 fun y w G2 H2 e2 r2 q2 => ?_
  exact ixP_ok e2.s (r1.mono e2.h e2.g) r2 q2 fun d u G3 H3 e3 r3 q3 => k d u G3 H3 ((e1.trans e2).trans e3) r3 q3

/-! ### slices -/
abbrev PTO := List C → (Option Int → Prop) → Prop
structure PuPO (X : Cx) (e : Option Expr) (p : PTO) : Prop where
  ex : ∃ t : TO, PO X e t ∧ ∀ (G H : Hp) (env : List C) (σ : L2.St) (P : Option Int → Prop) (Q : Option Int → Hp → Prop), Ok X.K X.mg G H env σ → p env P → (∀ i G' H', Ext G H G' H' → P i → Q i H') → t σ H Q
def poNone : PTO := fun _ P => P none
def poSome (p : PTE) : PTO := fun env P => p env fun d => match d with
  | .int i => P (some i)
  | _ => False
theorem pupo_none : PuPO X none poNone := ⟨_, po_none, fun G H env σ P Q ok hp k => k none G H (.refl ok.same) hp⟩
theorem pupo_some (h : PuE X e pe) : PuPO X (some e) (poSome pe) := by
  obtain ⟨t, h1, h2⟩ := h.ex
  refine ⟨_, po_some h1, fun G H env σ P Q ok hp k => h2 G H env σ _ _ ok hp fun d v G' H' x r q => ?_⟩
  split at q
  · cases r; exact ⟨_, rfl, k _ G' H' x q⟩
  · exact q.elim
def cutD (xs : List D) (lo hi : Option Int) : List D := (xs.drop (HT.sIx xs.length 0 lo)).take (HT.sIx xs.length xs.length hi - HT.sIx xs.length 0 lo)
theorem Reps.cut {K : PySem.W.Frag} {mg : MG} {G : Hp} {vs : List V} {ds : List D} (r : Reps K mg G vs ds) (lo hi : Option Int) : Reps K mg G (cutV vs lo hi) (cutD ds lo hi) := by
  unfold cutV cutD
  rw [r.length]
  exact (r.drop _).take _
theorem cutD_whole {xs : List D} {lo hi : Option Int} (h : HT.sIx xs.length 0 lo = 0 ∧ HT.sIx xs.length xs.length hi = xs.length) : cutD xs lo hi = xs := by
  unfold cutD
  rw [h.1, h.2]; simp
def rSlAll (K : PySem.W.Frag) : V → Option Int → Option Int → Hp → VK → Prop := fun x lo hi H Q => rSlL K x lo hi H Q ∨ rSlS x lo hi H Q ∨ rSlA K x lo hi H Q
theorem sl_all : SlR X (rSlAll X.K) := SlR.or sl_list (SlR.or sl_str sl_tupA)
def slP (x : D) (lo hi : Option Int) (P : D → Prop) : Prop := match x with
  | .lst ds => P (.lst (cutD ds lo hi))
  | .scr ds => P (.lst (cutD ds lo hi))
  | .tup ds => P (.tup (cutD ds lo hi))
  | .str z => z.length ≤ sizeLine ∧ P (.str (cutS z lo hi))
  | _ => False
def pSl (pa : PTE) (pl ph : PTO) : PTE := fun env P => pa env fun x => pl env fun lo => ph env fun hi => slP x lo hi P
theorem pu_sl {lo hi : Option Expr} {pl ph : PTO} {p2 : Pos} (ha : PuO X a pa) (hl : PuPO X lo pl) (hh : PuPO X hi ph) : PuE X (.Subscript a (.Slice lo hi none p2) pos) (pSl pa pl ph) := by
  obtain ⟨t, a1, a2⟩ := ha.ex
  obtain ⟨u, b1, b2⟩ := hl.ex
  obtain ⟨w, c1, c2⟩ := hh.ex
  refine ⟨_, pe_slice sl_all a1 b1 c1, fun G H env σ P Q ok hp k => ?_⟩
  refine a2 G H env σ _ _ ok hp fun x v G1 H1 e1 r1 q1 => ?_
  refine b2 G1 H1 env σ _ _ (ok.ext e1) q1 fun l G2 H2 e2 q2 => ?_
  refine c2 G2 H2 env σ _ _ ((ok.ext e1).ext e2) q2 fun r G3 H3 e3 q3 => ?_
  have r3 := (r1.mono e2.h e2.g).mono e3.h e3.g
  have k' : ∀ d u G' H', Ext G3 H3 G' H' → Rep X.K X.mg G' u d → P d → Q u H' := fun d u G' H' x => k d u G' H' (((e1.trans e2).trans e3).trans x)
  unfold slP at q3
  split at q3
  · obtain ⟨m, vs, rfl, hl, rs⟩ := r3.lst e3.s
    exact .inl ⟨m, vs, rfl, SqL.of hl, fun p hn => k' _ _ _ _ (Ext.new e3.s hn) (.lst upd_same ((rs.cut l r).mono (Same.upd (e3.s.free hn)))) q3⟩
  · obtain ⟨m, vs, rfl, hl, rs⟩ := r3.scr e3.s
    exact .inl ⟨m, vs, rfl, hl, fun p hn => k' _ _ _ _ (Ext.new e3.s hn) (.lst upd_same ((rs.cut l r).mono (Same.upd (e3.s.free hn)))) q3⟩
  · rename_i ds
    have hv : Rep X.K X.mg G3 v (.tup ds) := by
      rcases r3 with r3 | ⟨_, _, t⟩
      · exact r3
      · cases t
    obtain ⟨m, vs, rfl, hl, rs⟩ := r3.tup e3.s
    refine .inr (.inr ⟨m, vs, rfl, SqT.of hl, fun z => ?_, fun z p hn => k' _ _ _ _ (Ext.new e3.s hn) (.tup upd_same ((rs.cut l r).mono (Same.upd (e3.s.free hn)))) q3⟩)
    rw [rs.length] at z
    rw [cutD_whole z] at q3
    exact k' _ _ _ _ (.refl e3.s) hv q3
  · cases r3.str
    exact .inr (.inl ⟨_, rfl, q3.1, k' _ _ _ _ (.refl e3.s) (.str _) q3.2⟩)
  · exact q3.elim
/-- a list's slice, a new cell -/
def slPL (x : D) (lo hi : Option Int) (P : D → Prop) : Prop := match x with
  | .lst ds => P (.lst (cutD ds lo hi))
  | .scr ds => P (.lst (cutD ds lo hi))
  | _ => False
def pSlL (pa : PTE) (pl ph : PTO) : PTE := fun env P => pa env fun x => pl env fun lo => ph env fun hi => slPL x lo hi P
theorem puf_sl {lo hi : Option Expr} {pl ph : PTO} {p2 : Pos} (ha : PuO X a pa) (hl : PuPO X lo pl) (hh : PuPO X hi ph) : PuF X (.Subscript a (.Slice lo hi none p2) pos) (pSlL pa pl ph) := by
  obtain ⟨t, a1, a2⟩ := ha.ex
  obtain ⟨u, b1, b2⟩ := hl.ex
  obtain ⟨w, c1, c2⟩ := hh.ex
  refine ⟨_, pe_slice sl_list a1 b1 c1, fun G H env σ P Q ok hp k => ?_⟩
  refine a2 G H env σ _ _ ok hp fun x v G1 H1 e1 r1 q1 => ?_
  refine b2 G1 H1 env σ _ _ (ok.ext e1) q1 fun l G2 H2 e2 q2 => ?_
  refine c2 G2 H2 env σ _ _ ((ok.ext e1).ext e2) q2 fun r G3 H3 e3 q3 => ?_
  have r3 := (r1.mono e2.h e2.g).mono e3.h e3.g
  have x3 := (e1.trans e2).trans e3
  unfold slPL at q3
  split at q3
  · obtain ⟨m, vs, rfl, hl, rs⟩ := r3.lst e3.s
    exact ⟨m, vs, rfl, SqL.of hl, fun p hn => k _ p G3 _ (x3.trans (Ext.newH e3.s hn)) (.lst upd_same (rs.cut l r)) (e3.s.free hn) (x3.h.free hn) q3⟩
  · obtain ⟨m, vs, rfl, hl, rs⟩ := r3.scr e3.s
    exact ⟨m, vs, rfl, hl, fun p hn => k _ p G3 _ (x3.trans (Ext.newH e3.s hn)) (.lst upd_same (rs.cut l r)) (e3.s.free hn) (x3.h.free hn) q3⟩
  · exact q3.elim

/-! ### a cell changed: x.append(e), x[i] = e -/
def pApp (i : Nat) (pe : PTE) : PTS := fun PD env => match env[i]? with
  | some (.ow (.lst ds)) => pe env fun d => ds.length < sizeLine ∧ PD.nx (env.set i (.ow (.lst (ds ++ [d]))))
  | _ => False
theorem pus_app (i : Nat) {x : Str} {apos npos p1 : Pos} (he : PuE X e pe)
    (hs : ∀ t, PE X e t → PS X (.Expr (.Call (.Attribute (.Name x npos) "append" apos) [e] [] p1) pos) (tDrop (tBM X.K "list" rAppend (tVar i) (tCons t tNil))) := by exact fun t h => ps_expr (pe_bm PySem.F.plainAttrs_list PySem.F.slot_list_append PySem.F.type_list_append mt_append (pv _) (pa_cons h pa_nil))) :
    PuS X (.Expr (.Call (.Attribute (.Name x npos) "append" apos) [e] [] p1) pos) (pApp i pe) := by
  obtain ⟨t, h1, h2⟩ := he.ex
  refine ⟨_, hs t h1, fun G0 H0 G H env σ PD E r ok hp => ?_⟩
  unfold pApp at hp
  split at hp
  · rename_i ds hi
    obtain ⟨l, hl, tp, n⟩ := r.ok.slot i _ hi
    cases tp with
    | lst hH rs =>
      refine ⟨.ref l, hl, .inl ⟨rfl, _, SqL.of hH⟩, h2 G H env σ _ _ r.ok hp fun d v G' H' x rp z => ?_⟩
      have r' := r.step x
      obtain ⟨l', hl', tp', n'⟩ := r'.ok.slot i _ hi
      rw [hl] at hl'
      cases hl'
      cases tp' with
      | lst hH' rs' =>
        refine ⟨l, _, v, rfl, rfl, hH', by rw [rs'.length]; exact z.1, ?_⟩
        exact ok.nx G' _ _ σ (r'.write hi hl n' (.lst upd_same (rs'.append (.cons rp .nil)))) z.2
  · exact hp.elim
def rSetAll : V → V → V → Hp → (Hp → Prop) → Prop := fun o i v H Q => rSetL o i v H Q ∨ ∃ a H', o = .ref a ∧ DPut H a i v H' ∧ Q H'
theorem set_all (hu : X.A.units + 1 < cLine) : PSet X rSetAll := by
  intro pins s σ H o i v ov iv u Q I ro ri rv h
  rcases h with h | ⟨a, H', rfl, g, q⟩
  · exact set_list pins s σ H o i v ov iv u Q I ro ri rv h
  · obtain rfl : ov = Value.ref a := ro
    exact d_setItem hu I g ri rv fun s4 I4 => ⟨H', I4, q⟩
def setP (d y v : D) (P : D → Prop) : Prop := match d with
  | .lst ds => ∃ k j, y = .int k ∧ ixN ds.length k = some j ∧ P (.lst (ds.set j v))
  | .dk kvs => ∃ k, keyOf y = some k ∧ kvs.length < sizeLine ∧ P (.dk (putD kvs k v))
  | .dt kvs => ∃ k, tkeyOf y = some k ∧ kvs.length < sizeLine ∧ P (.dt (putD kvs k v))
  | _ => False
def pSetI (i : Nat) (pk pe : PTE) : PTS := fun PD env => match env[i]? with
  | some (.ow d) => pe env fun v => pk env fun y => setP d y v fun d' => PD.nx (env.set i (.ow d'))
  | _ => False
theorem pus_setI (i : Nat) {x : Str} {npos tpos : Pos} (hu : X.A.units + 1 < cLine) (hk : PuE X a pa) (he : PuE X e pe)
    (hs : ∀ t u, PE X e t → PE X a u → PS X (.Assign [.Subscript (.Name x npos) a tpos] e pos) (tAsg t (gSub (tVar i) u rSetAll))) :
    PuS X (.Assign [.Subscript (.Name x npos) a tpos] e pos) (pSetI i pa pe) := by
  obtain ⟨t, h1, h2⟩ := he.ex
  obtain ⟨u, g1, g2⟩ := hk.ex
  refine ⟨_, hs t u h1 g1, fun G0 H0 G H env σ PD E r ok hp => ?_⟩
  unfold pSetI at hp
  split at hp
  · rename_i d hi
    refine h2 G H env σ _ _ r.ok hp fun v vv G1 H1 x1 rv z1 => ?_
    obtain ⟨l, hl, tp, n⟩ := (r.step x1).ok.slot i _ hi
    refine ⟨.ref l, hl, g2 G1 H1 env σ _ _ (r.step x1).ok z1 fun y yv G2 H2 x2 ry z2 => ?_⟩
    have r' := (r.step x1).step x2
    have rv' := rv.mono x2.g
    obtain ⟨l', hl', tp', n'⟩ := r'.ok.slot i _ hi
    rw [hl] at hl'
    cases hl'
    unfold setP at z2
    split at z2
    · obtain ⟨k, j, rfl, e1, z2⟩ := z2
      cases ry
      cases tp' with
      | lst hH rs => exact .inl ⟨l, _, k, j, rfl, rfl, hH, by rw [rs.length]; exact e1, ok.nx G2 _ _ σ (r'.write hi hl n' (.lst upd_same (rs.set rv' j))) z2⟩
    · obtain ⟨k, e1, e2, z2⟩ := z2
      cases tp' with
      | dk hH rs =>
        have ek := ry.key e1
        subst ek
        exact .inr ⟨l, _, rfl, .inl ⟨_, k, hH, rfl, by rw [rs.rel.length]; exact e2, rfl⟩, ok.nx G2 _ _ σ (r'.write hi hl n' (.dk upd_same (RepKV.of (rs.rel.put rv')))) z2⟩
    · obtain ⟨k, e1, e2, z2⟩ := z2
      cases tp' with
      | dt hH rs =>
        cases ry with
        | tup hb rb =>
          have ek := rb.keys e1
          subst ek
          exact .inr ⟨l, _, rfl, .inr ⟨_, k, _, hH, rfl, x2.s _ _ hb, by rw [rs.rel.length]; exact e2, rfl⟩, ok.nx G2 _ _ σ (r'.write hi hl n' (.dt upd_same (RepTV.of (rs.rel.put rv')))) z2⟩
        | non => cases e1
        | bl _ => cases e1
        | int _ => cases e1
        | str _ => cases e1
        | lst _ _ => cases e1
        | scr _ _ => cases e1
        | dk _ _ => cases e1
        | dt _ _ => cases e1
        | obj _ _ _ => cases e1
        | slf _ _ _ => cases e1
        | err _ _ _ _ _ => cases e1
    · exact z2.elim
  · exact hp.elim

/-! ### borrowed cells: an expression whose value is no object may read cells as values -/
mutual
/-- no object but tuples -/
def scalar : D → Bool
  | .non => true
  | .bl _ => true
  | .int _ => true
  | .str _ => true
  | .tup ds => scalars ds
  | _ => false
def scalars : List D → Bool
  | [] => true
  | d :: ds => scalar d && scalars ds
end
mutual
theorem Rep.scal {K : PySem.W.Frag} {mg : MG} {G G' : Hp} (s : ∀ a vs, G a = some (.tup vs) → G' a = some (.tup vs)) : ∀ {v : V} {d : D}, Rep K mg G v d → scalar d = true → Rep K mg G' v d
  | _, _, .non, _ => .non
  | _, _, .bl b, _ => .bl b
  | _, _, .int i, _ => .int i
  | _, _, .str x, _ => .str x
  | _, _, .tup e r, h => .tup (s _ _ e) (Reps.scal s r h)
  | _, _, .lst _ _, h => nomatch h
  | _, _, .scr _ _, h => nomatch h
  | _, _, .dk _ _, h => nomatch h
  | _, _, .dt _ _, h => nomatch h
  | _, _, .obj _ _ _, h => nomatch h
  | _, _, .slf _ _ _, h => nomatch h
  | _, _, .err _ _ _ _ _, h => nomatch h
theorem Reps.scal {K : PySem.W.Frag} {mg : MG} {G G' : Hp} (s : ∀ a vs, G a = some (.tup vs) → G' a = some (.tup vs)) : ∀ {vs : List V} {ds : List D}, Reps K mg G vs ds → scalars ds = true → Reps K mg G' vs ds
  | _, _, .nil, _ => .nil
  | _, _, .cons (d := d) (ds := ds) r rs, h =>
    have h : (scalar d && scalars ds) = true := h
    .cons (Rep.scal s r (Bool.and_eq_true .. ▸ h).1) (Reps.scal s rs (Bool.and_eq_true .. ▸ h).2)
end
theorem Ok.freeze {K : PySem.W.Frag} {mg : MG} {G H : Hp} {env : List C} {σ : L2.St} (i : Nat) (h : Ok K mg G H env σ) : ∃ G', Ok K mg G' H (frz i env) σ ∧ Same G G' ∧ ∀ a vs, G' a = some (.tup vs) → G a = some (.tup vs) := by
  have r : Rel K mg G G G H env σ := ⟨h, ⟨Same.refl _, h.same, h.same, fun _ e n => absurd e n⟩, fun j d l q s => by
    obtain ⟨m, e1, _, n⟩ := h.slot j _ q
    rw [e1] at s; cases s; exact n⟩
  obtain ⟨G', r', s, nt⟩ := r.freezeT i
  exact ⟨G', r'.ok, s, nt⟩
def frzs : List Nat → List C → List C
  | [], env => env
  | i :: is, env => frzs is (frz i env)
theorem Ok.freezes {K : PySem.W.Frag} {mg : MG} {H : Hp} {σ : L2.St} : ∀ (is : List Nat) {G : Hp} {env : List C}, Ok K mg G H env σ → ∃ G', Ok K mg G' H (frzs is env) σ ∧ Same G G' ∧ ∀ a vs, G' a = some (.tup vs) → G a = some (.tup vs)
  | [], G, _, h => ⟨G, h, Same.refl _, fun _ _ q => q⟩
  | i :: is, G, env, h => by
    obtain ⟨G1, h1, s1, n1⟩ := h.freeze i
    obtain ⟨G2, h2, s2, n2⟩ := Ok.freezes is h1
    exact ⟨G2, h2, s1.trans s2, fun a vs q => n1 a vs (n2 a vs q)⟩
def pBor (is : List Nat) (p : PTE) : PTE := fun env P => p (frzs is env) fun d => scalar d = true ∧ P d
open Classical in
theorem pu_bor (is : List Nat) (h : PuE X e pe) : PuE X e (pBor is pe) := by
  obtain ⟨t, h1, h2⟩ := h.ex
  refine ⟨t, h1, fun G H env σ P Q ok hp k => ?_⟩
  obtain ⟨G1, ok1, s1, nt⟩ := ok.freezes is
  refine h2 G1 H _ σ _ _ ok1 hp fun d v G' H' x r q => ?_
  -- of what is new, the tuples stay
  let G2 : Hp := fun a => if G a = none then (if ∃ vs, G' a = some (.tup vs) then G' a else none) else G a
  have sG : Same G G2 := fun a u e => by
    show (if G a = none then _ else G a) = some u
    rw [if_neg (by rw [e]; intro z; cases z)]; exact e
  have s2 : Same G2 G' := fun a u e => by
    have e : (if G a = none then (if ∃ vs, G' a = some (.tup vs) then G' a else none) else G a) = some u := e
    split at e
    · split at e
      · exact e
      · cases e
    · exact x.g _ _ (s1 _ _ e)
  have tp : ∀ a vs, G' a = some (.tup vs) → G2 a = some (.tup vs) := fun a vs e => by
    show (if G a = none then (if ∃ vs, G' a = some (.tup vs) then G' a else none) else G a) = _
    by_cases z : G a = none
    · rw [if_pos z, if_pos ⟨vs, e⟩]; exact e
    · rw [if_neg z]
      cases w : G a with
      | none => exact absurd w z
      | some u =>
        have := x.g _ _ (s1 _ _ w)
        rw [e] at this
        exact this.symm
  refine k d v G2 H' ⟨sG, x.h, fun a u e => x.s _ _ (s2 _ _ e), fun a e n => ?_⟩ (r.scal tp q.1) q.2
  have n : (if G a = none then (if ∃ vs, G' a = some (.tup vs) then G' a else none) else G a) ≠ none := n
  rw [if_pos e] at n
  split at n
  · rename_i hx
    obtain ⟨vs, hv⟩ := hx
    by_cases z : G1 a = none
    · exact x.f a z (by rw [hv]; intro w; cases w)
    · cases w : G1 a with
      | none => exact absurd w z
      | some u =>
        have := x.g _ _ w
        rw [hv] at this
        cases this
        have := nt a vs w
        rw [e] at this; cases this
  · exact absurd rfl n
def pBorT (is : List Nat) (p : PTT) : PTT := fun env P => p (frzs is env) P
theorem put_bor {pt : PTT} (is : List Nat) (h : PuT X e pt) : PuT X e (pBorT is pt) := by
  obtain ⟨t, h1, h2⟩ := h.ex
  refine ⟨t, h1, fun G H env σ P Q ok hp k => ?_⟩
  obtain ⟨G1, ok1, s1, _⟩ := ok.freezes is
  exact h2 G1 H _ σ _ _ ok1 hp fun b G' H' x q => k b G H' ⟨Same.refl _, x.h, ok.same.trans x.h, fun _ e n => absurd e n⟩ q

/-! ### a def's promise, its call -/
abbrev PSp := List D → (D → Prop) → Prop
def spP (K : PySem.W.Frag) (mg : MG) (f : PSp) : Sp := fun vs H Q _ => ∃ (G : Hp) (ds : List D) (P : D → Prop), Same G H ∧ Reps K mg G vs ds ∧ f ds P ∧
  ∀ d v G' H', Ext G H G' H' → Rep K mg G' v d → P d → Q v H'
def pCall (f : PSp) (ps : PTA) : PTE := fun env P => ps env fun ds => f ds P
theorem pu_call {k : Nat} {f : Addr} {fd : FuncData} {ns : List Str} {sp : PSp} {x : Str} {p' : Pos} (F : FnOk X.prog X.w X.K X.mg X.base CX0 k f fd ns (spP X.K X.mg sp)) (hr : Room k X.A) (hm : X.mg x = some (.ref f)) (hk : PySem.W.keepIn X.K (.ref f) = true)
    (hb : Binds X.K fd ns []) (h : PuA X (e :: es) ps) (hg : Gl X x := by rfl) (hdb : (x == ("__debug__" : Str)) = false := by decide) (he : starEach (e :: es) X.env = (false, eval e X.env) :: starEach es X.env := by rfl) (hpl : (backTo pos (starEach es X.env)).any (·.1) = false := by rfl) :
    PuE X (.Call (.Name x p') (e :: es) [] pos) (pCall sp ps) := by
  obtain ⟨t, h1, h2⟩ := h.ex
  refine ⟨_, pe_call F hr hg hm hk hb (dvs := []) .nil pass0 h1 hdb he hpl, fun G H env σ P Q ok hp kk => h2 G H env σ _ _ ok hp fun ds vs G' H' x r q => ?_⟩
  rw [List.append_nil]
  exact ⟨G', ds, P, x.s, r, q, fun d v G2 H2 y r2 q2 => kk d v G2 H2 (x.trans y) r2 q2⟩
theorem pu_call0 {k : Nat} {f : Addr} {fd : FuncData} {ns : List Str} {sp : PSp} {x : Str} {p' : Pos} (F : FnOk X.prog X.w X.K X.mg X.base CX0 k f fd ns (spP X.K X.mg sp)) (hr : Room k X.A) (hm : X.mg x = some (.ref f)) (hk : PySem.W.keepIn X.K (.ref f) = true)
    (hb : Binds X.K fd ns []) (hg : Gl X x := by rfl) (hdb : (x == ("__debug__" : Str)) = false := by decide) :
    PuE X (.Call (.Name x p') [] [] pos) (pCall sp paNil) := by
  refine ⟨_, pe_call0 F hr hg hm hk hb (dvs := []) .nil pass0 hdb, fun G H env σ P Q ok hp kk => ?_⟩
  exact ⟨G, [], P, ok.same, .nil, hp, fun d v G2 H2 y r2 q2 => kk d v G2 H2 y r2 q2⟩
/-- keywords: their values from the left -/
structure PuK (X : Cx) (kws : List Keyword) (p : PTA) : Prop where
  ex : ∃ t : TA, PK X kws t ∧ ∀ (G H : Hp) (env : List C) (σ : L2.St) (P : List D → Prop) (Q : List V → Hp → Prop), Ok X.K X.mg G H env σ → p env P →
    (∀ ds vs G' H', Ext G H G' H' → Reps X.K X.mg G' vs ds → P ds → Q vs H') → t σ H Q
theorem puk_nil : PuK X [] paNil := ⟨_, pk_nil, fun G H env σ P Q ok hp k => k [] [] G H (.refl ok.same) .nil hp⟩
theorem puk_cons {kws : List Keyword} {nm : Option Str} {kpos : Pos} (h : PuE X e pe) (g : PuK X kws ps) : PuK X (⟨nm, e, kpos⟩ :: kws) (paCons pe ps) := by
  obtain ⟨t, h1, h2⟩ := h.ex
  obtain ⟨u, g1, g2⟩ := g.ex
  refine ⟨_, pk_cons h1 g1, fun G H env σ P Q ok hp k => h2 G H env σ _ _ ok hp fun d v G' H' x r q => ?_⟩
  exact g2 G' H' env σ _ _ (ok.ext x) q fun ds vs G2 H2 y rs q2 => k (d :: ds) (v :: vs) G2 H2 (x.trans y) (.cons (r.mono y.g) rs) q2
theorem pe_callN0 {CX : CXT} {k : Nat} {f : Addr} {fd : FuncData} {ps ks : List Str} {sp : Sp} {E : XK} {x : Str} {p pos : Pos} {kws : List Keyword} {tk : TA} {g : List Value → List Value → List Value} {gV : List V → List V → List V}
    (F : FnOk X.prog X.w X.K X.mg X.base CX k f fd ps sp) (hr : Room k X.A) (hg : Gl X x) (hm : X.mg x = some (.ref f)) (hk : PySem.W.keepIn X.K (.ref f) = true) (hb : KBn X.K fd ps 0 ks g gV) (hx : Passes CX X E) (hkw : PK X kws tk)
    (hall : (backToKw pos (keywordEach kws X.env)).all (·.1.isSome) = true := by rfl) (hks : (backToKw pos (keywordEach kws X.env)).filterMap (·.1) = ks := by rfl) (hdb : (x == ("__debug__" : Str)) = false := by decide)
    (hpl : ((backTo pos (starEach [] X.env)).any (·.1) || (backToKw pos (keywordEach kws X.env)).any (·.1.isNone)) = false := by rfl) :
    PE X (.Call (.Name x p) [] kws pos) (tCallN 0 ks.length sp gV E tNil tk) := by
  refine ⟨fun pins s σ H Q I h => ?_⟩
  refine wpAny_Call_Name_kw (ld_glob I hg hm ?_ hdb)
  refine PySem.W.callWith_KW0 (h₀ := X.base) I.ok.mod.kin hk hall ?_ hpl
  refine thn (hkw.run pos pins s σ H _ I h) fun ws s2 ⟨zs, H2, I2, rz, l1, l2, q2⟩ => ⟨I2.kIn, ?_⟩
  rw [hks]
  exact run_fnN (us := []) (vs := []) F hr hb hx I2 .nil rz rfl l2 q2
/-- the parameters in order, each from the positional values or the keywords -/
structure PKB (K : PySem.W.Frag) (fd : FuncData) (ps : List Str) (n : Nat) (ks : List Str) (gD : List D → List D → List D) : Prop where
  ex : ∃ g gV, KBn K fd ps n ks g gV ∧ ∀ (mg : MG) (G : Hp) (vs zs : List V) (ds es : List D), Reps K mg G vs ds → Reps K mg G zs es → vs.length = n → zs.length = ks.length → Reps K mg G (gV vs zs) (gD ds es)
def pCallK (f : PSp) (n m : Nat) (gD : List D → List D → List D) (ps qs : PTA) : PTE := fun env P => ps env fun ds => qs env fun es => ds.length = n ∧ es.length = m ∧ f (gD ds es) P
theorem pu_callK {k n m : Nat} {f : Addr} {fd : FuncData} {ns ks : List Str} {sp : PSp} {x : Str} {p' : Pos} {kws : List Keyword} {qs : PTA} {gD : List D → List D → List D} (F : FnOk X.prog X.w X.K X.mg X.base CX0 k f fd ns (spP X.K X.mg sp)) (hr : Room k X.A) (hm : X.mg x = some (.ref f)) (hk : PySem.W.keepIn X.K (.ref f) = true)
    (hb : PKB X.K fd ns n ks gD) (hml : ks.length = m) (h : PuA X (e :: es) ps) (hkw : PuK X kws qs) (hg : Gl X x := by rfl) (hall : (backToKw pos (keywordEach kws X.env)).all (·.1.isSome) = true := by rfl) (hks : (backToKw pos (keywordEach kws X.env)).filterMap (·.1) = ks := by rfl)
    (hdb : (x == ("__debug__" : Str)) = false := by decide) (he : starEach (e :: es) X.env = (false, eval e X.env) :: starEach es X.env := by rfl)
    (hpl : ((backTo pos (starEach (e :: es) X.env)).any (·.1) || (backToKw pos (keywordEach kws X.env)).any (·.1.isNone)) = false := by rfl) :
    PuE X (.Call (.Name x p') (e :: es) kws pos) (pCallK sp n m gD ps qs) := by
  subst hml
  obtain ⟨t, h1, h2⟩ := h.ex
  obtain ⟨u, g1, g2⟩ := hkw.ex
  obtain ⟨g, gV, kb, kr⟩ := hb.ex
  refine ⟨_, pe_callN F hr hg hm hk kb pass0 h1 g1 hall hks hdb he hpl, fun G H env σ P Q ok hp kk => h2 G H env σ _ _ ok hp fun ds vs G' H' x r q => ?_⟩
  refine g2 G' H' env σ _ _ (ok.ext x) q fun es zs G2 H2 y rz q2 => ?_
  have r2 := r.mono y.g
  refine ⟨r2.length.trans q2.1, rz.length.trans q2.2.1, G2, _, P, y.s, kr _ _ _ _ _ _ r2 rz (r2.length.trans q2.1) (rz.length.trans q2.2.1), q2.2.2, fun d v G3 H3 z r3 q3 => kk d v G3 H3 ((x.trans y).trans z) r3 q3⟩
theorem pu_callK0 {k m : Nat} {f : Addr} {fd : FuncData} {ns ks : List Str} {sp : PSp} {x : Str} {p' : Pos} {kws : List Keyword} {qs : PTA} {gD : List D → List D → List D} (F : FnOk X.prog X.w X.K X.mg X.base CX0 k f fd ns (spP X.K X.mg sp)) (hr : Room k X.A) (hm : X.mg x = some (.ref f)) (hk : PySem.W.keepIn X.K (.ref f) = true)
    (hb : PKB X.K fd ns 0 ks gD) (hml : ks.length = m) (hkw : PuK X kws qs) (hg : Gl X x := by rfl) (hall : (backToKw pos (keywordEach kws X.env)).all (·.1.isSome) = true := by rfl) (hks : (backToKw pos (keywordEach kws X.env)).filterMap (·.1) = ks := by rfl)
    (hdb : (x == ("__debug__" : Str)) = false := by decide) (hpl : ((backTo pos (starEach [] X.env)).any (·.1) || (backToKw pos (keywordEach kws X.env)).any (·.1.isNone)) = false := by rfl) :
    PuE X (.Call (.Name x p') [] kws pos) (pCallK sp 0 m gD paNil qs) := by
  subst hml
  obtain ⟨u, g1, g2⟩ := hkw.ex
  obtain ⟨g, gV, kb, kr⟩ := hb.ex
  refine ⟨_, pe_callN0 F hr hg hm hk kb pass0 g1 hall hks hdb hpl, fun G H env σ P Q ok hp kk => g2 G H env σ _ _ ok hp fun es zs G2 H2 y rz q2 => ?_⟩
  refine ⟨rfl, rz.length.trans q2.2.1, G2, _, P, y.s, kr _ _ _ _ _ _ .nil rz rfl (rz.length.trans q2.2.1), q2.2.2, fun d v G3 H3 z r3 q3 => kk d v G3 H3 (y.trans z) r3 q3⟩
end

/-- the entry's slots -/
def startC (N : List Str) (ds : List D) : List C := ds.map .fz ++ List.replicate (N.length - ds.length) .un
theorem start_ok {K : PySem.W.Frag} {mg : MG} {G H : Hp} {N : List Str} {vs : List V} {ds : List D} (s : Same G H) (r : Reps K mg G vs ds) : Ok K mg G H (startC N ds) (L2.start N vs) := by
  have hl := r.length
  refine ⟨s, fun i c q => ?_, fun i j d e l q => ?_, by simp [startC, L2.start, hl]⟩
  · by_cases hi : i < ds.length
    · unfold startC at q
      rw [List.getElem?_append_left (by simpa using hi), List.getElem?_map] at q
      cases e : ds[i]? with
      | none => rw [e] at q; cases q
      | some d =>
        rw [e] at q; cases q
        obtain ⟨v, ev, rv⟩ := r.getD e
        refine ⟨v, ?_, rv⟩
        unfold L2.start
        rw [List.getElem?_append_left (by simpa [hl] using hi), List.getElem?_map, ev]; rfl
    · unfold startC at q
      rw [List.getElem?_append_right (by simpa using hi), List.getElem?_replicate] at q
      split at q
      · cases q; trivial
      · cases q
  · have : ∀ (k : Nat) (f : D), (startC N ds)[k]? ≠ some (.ow f) := fun k f z => by
      unfold startC at z
      by_cases hk : k < ds.length
      · rw [List.getElem?_append_left (by simpa using hk), List.getElem?_map] at z
        cases e : ds[k]? with
        | none => rw [e] at z; cases z
        | some d => rw [e] at z; cases z
      · rw [List.getElem?_append_right (by simpa using hk), List.getElem?_replicate] at z
        split at z <;> cases z
    exact absurd q (this i d)
/-- THE RULE for a def over data -/
theorem pfn {P : Program} {w : World} {K : PySem.W.Frag} {mg : MG} {base : Heap} {x qual : Str} {st : Stmt} {f : Addr} {fd : FuncData} {N ns : List Str} {k : Nat} {sp : PSp} (F : Fun K x qual st f fd) (S : FnScope N ns (defScope st)) (hlen : ∀ ds P, sp ds P → ds.length = ns.length)
    (hbody : ∀ (cdv : Value) (A : Around) (outer : List Env) (s : Shared) (H : Hp) (E : XK), Room k (A.deeper (envOfC qual (defScope st) s.heap.objs.size f cdv)) →
      ∃ p : PTS, PuSs (cxOf CX0 P w K mg base N qual (defScope st) f cdv A outer s H E).nox (defBody st) p ∧ ∀ ds Q, sp ds Q → p { nx := fun _ => Q .non, rt := Q } (startC N ds)) : FnOk P w K mg base CX0 (k + 1) f fd ns (spP K mg sp) := by
  refine F.ok S (fun vs H Q E h => ?_) (fun cdv A outer s H vs Q E hr h => ?_)
  · obtain ⟨G, ds, P', _, r, q, _⟩ := h
    rw [r.length]; exact hlen ds P' q
  · obtain ⟨G, ds, P', sm, r, q, kk⟩ := h
    obtain ⟨p, pb, hp⟩ := hbody cdv A outer s H E hr
    obtain ⟨t, t1, t2⟩ := pb.ex
    refine ⟨t, t1, t2 G H G H _ _ { nx := fun _ => P' .non, rt := P' } _ ⟨start_ok sm r, .refl sm, fun i d l q => ?_⟩ ⟨?_, ?_, ?_, ?_, fun _ _ _ _ _ _ _ _ z => z.elim, ⟨_, tk0, fun _ _ _ _ _ _ _ _ _ _ _ _ _ _ _ z => z.elim⟩⟩ (hp ds P' q)⟩
    · intro s1
      obtain ⟨m, e1, _, n⟩ := (start_ok (N := N) sm r).slot i _ q
      exfalso
      unfold startC at q
      by_cases hk : i < ds.length
      · rw [List.getElem?_append_left (by simpa using hk), List.getElem?_map] at q
        cases e : ds[i]? with
        | none => rw [e] at q; cases q
        | some d => rw [e] at q; cases q
      · rw [List.getElem?_append_right (by simpa using hk), List.getElem?_replicate] at q
        split at q <;> cases q
    · intro G' H' env σ r' z
      exact kk .non .non G' H' r'.ext .non z
    · intro G' H' env σ r' z; exact z
    · intro G' H' env σ r' z; exact z
    · intro G' H' d v x rp z
      exact kk d v G' H' x rp z
end PL
end

section
set_option linter.all false
set_option maxRecDepth 100000
set_option maxHeartbeats 4000000
set_option autoImplicit false
/-! PL5: list comprehensions over data. -/
namespace PL
open PySem PySem.Spec PyProof.Rows L2

/-- the tests of a clause -/
structure PuTs (X : Cx) (ifs : List Expr) (p : PTT) : Prop where
  ex : ∃ t : TT, PTs X ifs t ∧ ∀ (G H : Hp) (env : List C) (σ : L2.St) (P : Bool → Prop) (Q : Bool → Hp → Prop), Ok X.K X.mg G H env σ → p env P →
    (∀ b G' H', Ext G H G' H' → P b → Q b H') → t σ H Q
def pYes : PTT := fun _ P => P true
section
variable {X : Cx} {e : Expr} {pt : PTT}
theorem puts_nil : PuTs X [] pYes := ⟨_, pts_nil, fun G H env σ P Q ok hp k => k true G H (.refl ok.same) hp⟩
theorem puts_one (h : PuT X e pt) : PuTs X [e] pt := by
  obtain ⟨t, h1, h2⟩ := h.ex
  exact ⟨t, pts_one h1, h2⟩
end

def wipeC (env : List C) : List Nat → List C
  | [] => env
  | v :: vs => (wipeC env vs).set v .un
theorem Ok.un {K : PySem.W.Frag} {mg : MG} {G H : Hp} {env : List C} {σ : L2.St} (h : Ok K mg G H env σ) (i : Nat) : Ok K mg G H (env.set i .un) (σ.set i none) := by
  have low : ∀ {j : Nat} {e : D}, (env.set i .un)[j]? = some (.ow e) → j ≠ i ∧ env[j]? = some (.ow e) := fun {j e} q => by
    rw [List.getElem?_set] at q
    split at q
    · split at q <;> cases q
    · rename_i hij; exact ⟨Ne.symm hij, q⟩
  refine ⟨h.same, fun j c q => ?_, fun j k d e l q1 q2 z1 z2 => ?_, by simp [h.len]⟩
  · rw [List.getElem?_set] at q
    split at q
    · split at q
      · cases q; trivial
      · cases q
    · rename_i hij
      rw [List.getElem?_set_ne hij]
      exact h.slot j c q
  · obtain ⟨n1, e1⟩ := low q1
    obtain ⟨n2, e2⟩ := low q2
    rw [List.getElem?_set_ne (Ne.symm n1)] at z1
    rw [List.getElem?_set_ne (Ne.symm n2)] at z2
    exact h.apart j k d e l e1 e2 z1 z2
theorem Ok.wipe {K : PySem.W.Frag} {mg : MG} {G H : Hp} {env : List C} {σ : L2.St} (h : Ok K mg G H env σ) : ∀ vs : List Nat, Ok K mg G H (wipeC env vs) (wipe σ vs)
  | [] => h
  | v :: vs => (h.wipe vs).un v
theorem wipe_off {is : List Nat} {σ σ' : L2.St} (o : Off is σ σ') {vs : List Nat} (h : ∀ i ∈ is, i ∈ vs) : wipe σ' vs = wipe σ vs := by
  have key : ∀ (τ : L2.St) (j : Nat), (wipe τ vs)[j]? = if j ∈ vs ∧ j < τ.length then some none else τ[j]? := by
    intro τ j
    clear h
    induction vs with
    | nil => simp [wipe]
    | cons v vs ih =>
      unfold wipe
      rw [List.getElem?_set]
      by_cases hv : v = j
      · subst hv
        rw [wipe_length]
        by_cases hl : v < τ.length
        · simp [hl]
        · simp [hl]
      · rw [if_neg hv, ih]
        have : (j ∈ v :: vs) ↔ j ∈ vs := by simp [Ne.symm hv]
        simp only [this]
  apply List.ext_getElem?
  intro j
  rw [key, key, o.1]
  by_cases hj : j ∈ vs
  · by_cases hl : j < σ.length
    · simp [hj, hl]
    · rw [if_neg (fun z => hl z.2), if_neg (fun z => hl z.2), List.getElem?_eq_none (by rw [o.1]; omega), List.getElem?_eq_none (by omega)]
  · rw [if_neg (fun z => hj z.1), if_neg (fun z => hj z.1)]
    exact o.2 j fun z => hj (h j z)

/-- what a list comprehension makes: W by the turn and the items made so far -/
def pLc (pi : PTI) (vs : List Nat) (g : PTG) (pt : PTT) (pe : PTE) : PTE := fun env P => pi env fun S => ∃ W : Nat → List D → Prop, W 0 [] ∧
  (∀ k d acc, k < S.n → S.ob k d → W k acc → g d (wipeC env vs) fun env2 => pt env2 fun b => if b = true then pe env2 fun y => acc.length < sizeLine ∧ W (k + 1) (acc ++ [y]) else W (k + 1) acc) ∧
  ∀ acc, W S.n acc → P (.lst acc)
section
variable {X : Cx} {elt tg iter : Expr} {ifs : List Expr} {scope : Scope} {own : List (Str × Nat)} {pos : Pos} {pi : PTI} {g : PTG} {is : List Nat} {pt : PTT} {pe : PTE}
abbrev BlkG (X : Cx) (scope : Scope) (tg : Expr) (g : PTG) (is : List Nat) : Prop := ∀ (s : Shared) (H : Hp) (C : Addr) (cl : List (Str × Addr)) (fp : List Addr), PuG (X.blk s H scope (compEnvC scope cl C X.env) fp) tg g is
abbrev BlkT (X : Cx) (scope : Scope) (ifs : List Expr) (pt : PTT) : Prop := ∀ (s : Shared) (H : Hp) (C : Addr) (cl : List (Str × Addr)) (fp : List Addr), PuTs (X.blk s H scope (compEnvC scope cl C X.env) fp) ifs pt
abbrev BlkE (X : Cx) (scope : Scope) (elt : Expr) (pe : PTE) : Prop := ∀ (s : Shared) (H : Hp) (C : Addr) (cl : List (Str × Addr)) (fp : List Addr), PuE (X.blk s H scope (compEnvC scope cl C X.env) fp) elt pe
/-- the readings that serve every block -/
def allG (X : Cx) (scope : Scope) (tg : Expr) : TG := fun v σ H Q => ∀ (s : Shared) (H0 : Hp) (C : Addr) (cl : List (Str × Addr)) (fp : List Addr), ∃ t : TG, PG (X.blk s H0 scope (compEnvC scope cl C X.env) fp) tg t ∧ t v σ H Q
def allT (X : Cx) (scope : Scope) (ifs : List Expr) : TT := fun σ H Q => ∀ (s : Shared) (H0 : Hp) (C : Addr) (cl : List (Str × Addr)) (fp : List Addr), ∃ t : TT, PTs (X.blk s H0 scope (compEnvC scope cl C X.env) fp) ifs t ∧ t σ H Q
def allE (X : Cx) (scope : Scope) (elt : Expr) : TE := fun σ H Q => ∀ (s : Shared) (H0 : Hp) (C : Addr) (cl : List (Str × Addr)) (fp : List Addr), ∃ t : TE, PE (X.blk s H0 scope (compEnvC scope cl C X.env) fp) elt t ∧ t σ H Q
theorem allG_ok (s : Shared) (H : Hp) (C : Addr) (cl : List (Str × Addr)) (fp : List Addr) : PG (X.blk s H scope (compEnvC scope cl C X.env) fp) tg (allG X scope tg) :=
  ⟨fun pins s1 σ H1 v u Q I r h => let ⟨_, h1, h2⟩ := h s H C cl fp; h1.run pins s1 σ H1 v u Q I r h2⟩
theorem allT_ok (s : Shared) (H : Hp) (C : Addr) (cl : List (Str × Addr)) (fp : List Addr) : PTs (X.blk s H scope (compEnvC scope cl C X.env) fp) ifs (allT X scope ifs) :=
  ⟨fun pins s1 σ H1 Q I h => let ⟨_, h1, h2⟩ := h s H C cl fp; h1.run pins s1 σ H1 Q I h2⟩
theorem allE_ok (s : Shared) (H : Hp) (C : Addr) (cl : List (Str × Addr)) (fp : List Addr) : PE (X.blk s H scope (compEnvC scope cl C X.env) fp) elt (allE X scope elt) :=
  ⟨fun pins s1 σ H1 Q I h => let ⟨_, h1, h2⟩ := h s H C cl fp; h1.run pins s1 σ H1 Q I h2⟩
theorem lc_reads (hi : PuI X tg iter pi) (hg : BlkG X scope tg g is) (ht : BlkT X scope ifs pt) (he : BlkE X scope elt pe) (vs : List Nat) (hv : ∀ i ∈ is, i ∈ vs) :
    ∃ w : TI, PI X tg iter w ∧ ∀ (G H : Hp) (env : List C) (σ : L2.St) (P : D → Prop) (Q : VK), Ok X.K X.mg G H env σ → pLc pi vs g pt pe env P →
    (∀ d l G' H', Ext G H G' H' → Top X.K X.mg H' G' l d → G' l = none → H l = none → P d → Q (.ref l) H') → tLc w (allG X scope tg) (allT X scope ifs) (allE X scope elt) vs σ H Q := by
  obtain ⟨w, w1, w2⟩ := hi.ex
  refine ⟨w, w1, fun G H env σ P Q ok hp k => ?_⟩
  refine w2 G H env σ _ _ ok hp fun S J G1 H1 x1 wk ⟨W, w0, step, fin⟩ dd hD => ?_
  have nG1 : G1 dd = none := x1.s.free hD
  have ok1 := ok.ext x1
  have nown : ∀ (i : Nat) (d : D), env[i]? = some (.ow d) → ∀ l, σ[i]? = some (some (.ref l)) → l ≠ dd := fun i d q l hl z => by
    obtain ⟨m, e1, t1, _⟩ := ok1.slot i _ q
    rw [hl] at e1
    cases e1
    obtain ⟨o, ho⟩ := t1.some
    rw [z, hD] at ho; cases ho
  -- the state behind a turn
  have turn : ∀ (G2 H2 : Hp) (o : HO), Ok X.K X.mg G2 H2 env σ → Same G1 G2 → G2 dd = none → Same H1 H2 → (∀ a, G1 a = none → G2 a ≠ none → H1 a = none) → Ok X.K X.mg G2 (upd H2 dd o) env σ := fun G2 H2 o ok2 s2 n2 _ _ => by
    refine ⟨fun b u e => ?_, fun i c q => ?_, ok2.apart, ok2.len⟩
    · have : b ≠ dd := fun z => by subst z; rw [n2] at e; cases e
      rw [upd_ne this]; exact ok2.same _ _ e
    · have s := ok2.slot i c q
      cases c with
      | un => trivial
      | fz d => exact s
      | ow d =>
        obtain ⟨l, e1, t1, n1⟩ := s
        have ne := nown i d q l e1
        refine ⟨l, e1, ?_, n1⟩
        cases t1 with
        | lst a r => exact .lst (by rw [upd_ne ne]; exact a) r
        | dk a r => exact .dk (by rw [upd_ne ne]; exact a) r
        | dt a r => exact .dt (by rw [upd_ne ne]; exact a) r
        | slf a cm r => exact .slf (by rw [upd_ne ne]; exact a) cm r
  refine ⟨fun i m H' => m = S.n - i ∧ i ≤ S.n ∧ ∃ G' acc ys, Ok X.K X.mg G' H' env σ ∧ Same G1 G' ∧ Same H1 H' ∧ (∀ a, G1 a = none → G' a ≠ none → H1 a = none) ∧ G' dd = none ∧ H' dd = some (.lst ys) ∧ Reps X.K X.mg G' ys acc ∧ W i acc,
    ⟨S.n, by simp, Nat.zero_le _, G1, [], [], turn G1 H1 _ ok1 (Same.refl _) nG1 (Same.refl _) (fun _ e n => absurd e n), Same.refl _, Same.upd hD, fun _ e n => absurd e n, nG1, upd_same, .nil, w0⟩, ?_⟩
  rintro i m H2 ⟨rfl, hi, G2, acc, ys, ok2, s2, sH2, f2, n2, hd2, ra, w2'⟩
  by_cases hlt : i < S.n
  · refine .inr ⟨wk.go i G2 H2 s2 ok2.same hlt, fun H' => ∃ G' acc ys, Ok X.K X.mg G' H' env σ ∧ Same G1 G' ∧ Same H1 H' ∧ (∀ a, G1 a = none → G' a ≠ none → H1 a = none) ∧ G' dd = none ∧ H' dd = some (.lst ys) ∧ Reps X.K X.mg G' ys acc ∧ W (i + 1) acc, fun H' q => ⟨S.n - (i + 1), by omega, rfl, hlt, q⟩, fun xv H3 y => ?_⟩
    obtain ⟨G3, d, x3, rp, ob⟩ := wk.yld i G2 H2 xv H3 s2 ok2.same hlt y
    have ok3 := ok2.ext x3
    have okw := ok3.wipe vs
    have st := step i d acc hlt ob w2'
    have nd : ∀ {G' H' : Hp}, Ext G2 H2 G' H' → G' dd = none := fun {G' H'} x => by
      cases q : G' dd with
      | none => rfl
      | some o => 
        have := x.f dd n2 (by rw [q]; intro z; cases z)
        rw [hd2] at this; cases this
    intro sB HB CB clB fpB
    obtain ⟨tg', tg1, tg2⟩ := (hg sB HB CB clB fpB).ex
    refine ⟨tg', tg1, ?_⟩
    have rel : Rel X.K X.mg G3 G3 G3 H3 (wipeC env vs) (wipe σ vs) := ⟨okw, ⟨Same.refl _, okw.same, okw.same, fun _ e n => absurd e n⟩, fun j d' l q s => by
      obtain ⟨m, e1, _, n⟩ := okw.slot j _ q
      rw [e1] at s; cases s; exact n⟩
    refine tg2 G3 G3 G3 H3 _ _ d xv _ _ rel rp st fun env4 σ4 r4 o4 q4 => ⟨wipe_off o4 hv |>.trans ?_, ?_⟩
    · -- wiping twice
      have : ∀ vs' : List Nat, (∀ i ∈ vs', i ∈ vs) → wipe (wipe σ vs) vs = wipe σ vs := fun _ _ => by
        apply List.ext_getElem?
        intro j
        have key : ∀ (us : List Nat) (τ : L2.St) (j : Nat), (wipe τ us)[j]? = if j ∈ us ∧ j < τ.length then some none else τ[j]? := by
          intro us τ j
          induction us with
          | nil => simp [wipe]
          | cons v us ih =>
            unfold wipe
            rw [List.getElem?_set]
            by_cases hv : v = j
            · subst hv
              rw [wipe_length]
              by_cases hl : v < τ.length
              · simp [hl]
              · simp [hl]
            · rw [if_neg hv, ih]
              have : (j ∈ v :: us) ↔ j ∈ us := by simp [Ne.symm hv]
              simp only [this]
        rw [key, key, wipe_length]
        split <;> simp_all
      exact this vs fun _ h => h
    · intro sT HT CT clT fpT
      obtain ⟨tt', tt1, tt2⟩ := (ht sT HT CT clT fpT).ex
      refine ⟨tt', tt1, tt2 G3 H3 env4 σ4 _ _ r4.ok q4 fun b G5 H5 x5 q5 => ?_⟩
      have chain5 : Ext G2 H2 G5 H5 := x3.trans x5
      cases b with
      | false =>
        simp only [Bool.false_eq_true, if_false] at q5 ⊢
        refine ⟨G5, acc, ys, ok2.ext chain5, s2.trans chain5.g, sH2.trans chain5.h, fun a e n => ?_, nd chain5, chain5.h _ _ hd2, ra.mono chain5.g, q5⟩
        by_cases z : G2 a = none
        · exact sH2.free (chain5.f a z n)
        · exact f2 a e z
      | true =>
        simp only [if_true] at q5 ⊢
        intro sE HE CE clE fpE
        obtain ⟨te', te1, te2⟩ := (he sE HE CE clE fpE).ex
        refine ⟨te', te1, te2 G5 H5 env4 σ4 _ _ (r4.ok.ext x5) q5 fun yd yv G6 H6 x6 ry q6 => ?_⟩
        have chain6 : Ext G2 H2 G6 H6 := chain5.trans x6
        have ok6 := ok2.ext chain6
        have n6 := nd chain6
        have f6 : ∀ a, G1 a = none → G6 a ≠ none → H1 a = none := fun a e n => by
          by_cases z : G2 a = none
          · exact sH2.free (chain6.f a z n)
          · exact f2 a e z
        refine ⟨ys, chain6.h _ _ hd2, by rw [ra.length]; exact q6.1, G6, acc ++ [yd], ys ++ [yv], turn G6 H6 _ ok6 (s2.trans chain6.g) n6 (sH2.trans chain6.h) f6, s2.trans chain6.g, fun b u e => ?_, f6, n6, upd_same, (ra.mono chain6.g).append (.cons ry .nil), q6.2⟩
        have : b ≠ dd := fun z => by subst z; rw [hD] at e; cases e
        rw [upd_ne this]; exact chain6.h _ _ (sH2 _ _ e)
  · have e : i = S.n := by omega
    subst e
    refine .inl ⟨wk.stop G2 H2 s2 ok2.same, k (.lst acc) dd G2 H2 ⟨x1.g.trans s2, x1.h.trans sH2, ok2.same, fun a e n => ?_⟩ (.lst hd2 ra) n2 (x1.h.free hD) (fin acc w2')⟩
    by_cases z : G1 a = none
    · exact x1.h.free (f2 a z n)
    · exact x1.f a e z
theorem puf_lc {vs : List Nat} (hc : X.calm = true) (hN : X.N.Nodup) (hi : PuI X tg iter pi) (ok : BlkOk X.N X.env.scope scope own) (hg : BlkG X scope tg g is) (ht : BlkT X scope ifs pt) (he : BlkE X scope elt pe)
    (hvs : own.map (·.2) = vs := by rfl) (hv : ∀ i ∈ is, i ∈ vs := by decide) (hs : ∀ x, foldedSetIterable iter X.env x = pure x := by intro _; rfl) : PuF X (.ListComp elt [⟨tg, iter, ifs, 0⟩] scope pos) (pLc pi vs g pt pe) := by
  subst hvs
  obtain ⟨w, w1, w2⟩ := lc_reads hi hg ht he (own.map (·.2)) hv
  exact ⟨_, pe_lc hc hN w1 ok allG_ok allT_ok allE_ok hs, w2⟩
/-- y = [..] -/
theorem pus_setLc (i : Nat) {vs : List Nat} {y : Str} {py spos : Pos} (hc : X.calm = true) (hN : X.N.Nodup) (hi : PuI X tg iter pi) (ok : BlkOk X.N X.env.scope scope own) (hg : BlkG X scope tg g is) (ht : BlkT X scope ifs pt) (he : BlkE X scope elt pe)
    (hy : X.N[i]? = some y := by rfl) (hyl : X.env.scope.names.lookup y = some .local := by rfl)
    (hsw : swapsWith (.ListComp elt [⟨tg, iter, ifs, 0⟩] scope pos) (some (.Name y py)) spos.line X.env = pure true := by exact sw_true rfl rfl rfl (by decide +kernel))
    (hvs : own.map (·.2) = vs := by rfl) (hv : ∀ i ∈ is, i ∈ vs := by decide) (hs : ∀ x, foldedSetIterable iter X.env x = pure x := by intro _; rfl) :
    PuS X (.Assign [.Name y py] (.ListComp elt [⟨tg, iter, ifs, 0⟩] scope pos) spos) (pSetO i (pLc pi vs g pt pe)) := by
  subst hvs
  obtain ⟨w, w1, w2⟩ := lc_reads hi hg ht he (own.map (·.2)) hv
  refine ⟨_, ps_setLc hc hN hy hyl hsw w1 ok allG_ok allT_ok allE_ok hs, fun G0 H0 G H env σ PD E r okE hp => ?_⟩
  refine w2 G H env σ _ _ r.ok hp fun d l G' H' x rp n nH z => ?_
  exact okE.nx G' H' _ _ (setOw_of i r x rp n nH) z
end
end PL
end

section
set_option linter.all false
set_option maxRecDepth 100000
set_option maxHeartbeats 4000000
set_option autoImplicit false
/-! PL6: built-ins over data. -/
namespace PL
open PySem PySem.Spec PyProof.Rows L2

/-- a call by values, carried by a function of data -/
def CallOk (X : Cx) (r : List V → Hp → VK → Prop) (f : PSp) : Prop := ∀ (G H : Hp) (vs : List V) (ds : List D) (P : D → Prop) (Q : VK), Same G H → Shals X.K X.mg H G vs ds → f ds P →
  (∀ d u G' H', Ext G H G' H' → Rep X.K X.mg G' u d → P d → Q u H') → r vs H Q
/-- .. that makes a new cell -/
def CallFOk (X : Cx) (r : List V → Hp → VK → Prop) (f : PSp) : Prop := ∀ (G H : Hp) (vs : List V) (ds : List D) (P : D → Prop) (Q : VK), Same G H → Shals X.K X.mg H G vs ds → f ds P →
  (∀ d l G' H', Ext G H G' H' → Top X.K X.mg H' G' l d → G' l = none → H l = none → P d → Q (.ref l) H') → r vs H Q
section
variable {X : Cx} {e a b : Expr} {es : List Expr} {pe pa pb : PTE} {ps : PTA} {pos p' : Pos} {x : Str} {id : String} {r : List V → Hp → VK → Prop} {f : PSp}
theorem pu_bi (hc : CallR X (.builtin id) r) (hf : CallOk X r f) (hm : X.mg x = none) (h : PuAO X (e :: es) ps) (hg : Gl X x := by rfl) (hv : bootBuiltins x = some (.builtin id) := by decide +kernel) (hn : x ≠ "__name__" := by decide) (hdb : (x == ("__debug__" : Str)) = false := by decide)
    (he : starEach (e :: es) X.env = (false, eval e X.env) :: starEach es X.env := by rfl) (hpl : (backTo pos (starEach es X.env)).any (·.1) = false := by rfl) : PuE X (.Call (.Name x p') (e :: es) [] pos) (pCall f ps) := by
  obtain ⟨t, h1, h2⟩ := h.ex
  refine ⟨_, pe_callB hc hg hm hv h1 hn hdb he hpl, fun G H env σ P Q ok hp k => h2 G H env σ _ _ ok hp fun ds vs G' H' y rs q => ?_⟩
  exact hf G' H' vs ds P Q y.s rs q fun d u G2 H2 z r2 q2 => k d u G2 H2 (y.trans z) r2 q2
theorem pu_ty {T : String} (hc : CallR X (.type T) r) (hf : CallOk X r f) (hm : X.mg x = none) (h : PuAO X (e :: es) ps) (hg : Gl X x := by rfl) (hv : bootBuiltins x = some (.type T) := by decide +kernel) (hn : x ≠ "__name__" := by decide) (hdb : (x == ("__debug__" : Str)) = false := by decide)
    (he : starEach (e :: es) X.env = (false, eval e X.env) :: starEach es X.env := by rfl) (hpl : (backTo pos (starEach es X.env)).any (·.1) = false := by rfl) : PuE X (.Call (.Name x p') (e :: es) [] pos) (pCall f ps) := by
  obtain ⟨t, h1, h2⟩ := h.ex
  refine ⟨_, pe_callTy hc hg hm hv h1 hn hdb he hpl, fun G H env σ P Q ok hp k => h2 G H env σ _ _ ok hp fun ds vs G' H' y rs q => ?_⟩
  exact hf G' H' vs ds P Q y.s rs q fun d u G2 H2 z r2 q2 => k d u G2 H2 (y.trans z) r2 q2
theorem puf_bi (hc : CallR X (.builtin id) r) (hf : CallFOk X r f) (hm : X.mg x = none) (h : PuAO X (e :: es) ps) (hg : Gl X x := by rfl) (hv : bootBuiltins x = some (.builtin id) := by decide +kernel) (hn : x ≠ "__name__" := by decide) (hdb : (x == ("__debug__" : Str)) = false := by decide)
    (he : starEach (e :: es) X.env = (false, eval e X.env) :: starEach es X.env := by rfl) (hpl : (backTo pos (starEach es X.env)).any (·.1) = false := by rfl) : PuF X (.Call (.Name x p') (e :: es) [] pos) (pCall f ps) := by
  obtain ⟨t, h1, h2⟩ := h.ex
  refine ⟨_, pe_callB hc hg hm hv h1 hn hdb he hpl, fun G H env σ P Q ok hp k => h2 G H env σ _ _ ok hp fun ds vs G' H' y rs q => ?_⟩
  exact hf G' H' vs ds P Q y.s rs q fun d l G2 H2 z r2 n1 n2 q2 => k d l G2 H2 (y.trans z) r2 n1 (y.h.free n2) q2
theorem puf_ty {T : String} (hc : CallR X (.type T) r) (hf : CallFOk X r f) (hm : X.mg x = none) (h : PuAO X (e :: es) ps) (hg : Gl X x := by rfl) (hv : bootBuiltins x = some (.type T) := by decide +kernel) (hn : x ≠ "__name__" := by decide) (hdb : (x == ("__debug__" : Str)) = false := by decide)
    (he : starEach (e :: es) X.env = (false, eval e X.env) :: starEach es X.env := by rfl) (hpl : (backTo pos (starEach es X.env)).any (·.1) = false := by rfl) : PuF X (.Call (.Name x p') (e :: es) [] pos) (pCall f ps) := by
  obtain ⟨t, h1, h2⟩ := h.ex
  refine ⟨_, pe_callTy hc hg hm hv h1 hn hdb he hpl, fun G H env σ P Q ok hp k => h2 G H env σ _ _ ok hp fun ds vs G' H' y rs q => ?_⟩
  exact hf G' H' vs ds P Q y.s rs q fun d l G2 H2 z r2 n1 n2 q2 => k d l G2 H2 (y.trans z) r2 n1 (y.h.free n2) q2

/-! ### len -/
def lenP : PSp := fun ds P => match ds with
  | [.lst xs] => P (.int xs.length)
  | [.tup xs] => P (.int xs.length)
  | [.scr xs] => P (.int xs.length)
  | [.str z] => z.length ≤ sizeLine ∧ P (.int z.length)
  | [.dk kvs] => P (.int kvs.length)
  | _ => False
theorem one_shal {K : PySem.W.Frag} {mg : MG} {G H : Hp} {vs : List V} {d : D} (h : Shals K mg H G vs [d]) : ∃ v, vs = [v] ∧ Shal K mg H G v d := by
  cases h with
  | cons r t => cases t; exact ⟨_, rfl, r⟩
theorem two_shal {K : PySem.W.Frag} {mg : MG} {G H : Hp} {vs : List V} {d f : D} (h : Shals K mg H G vs [d, f]) : ∃ v w, vs = [v, w] ∧ Shal K mg H G v d ∧ Shal K mg H G w f := by
  cases h with
  | cons r t =>
    obtain ⟨w, rfl, r2⟩ := one_shal t
    exact ⟨_, _, rfl, r, r2⟩
theorem three_shal {K : PySem.W.Frag} {mg : MG} {G H : Hp} {vs : List V} {d f g : D} (h : Shals K mg H G vs [d, f, g]) : ∃ v w u, vs = [v, w, u] ∧ Shal K mg H G v d ∧ Shal K mg H G w f ∧ Shal K mg H G u g := by
  cases h with
  | cons r t =>
    obtain ⟨w, u, rfl, r2, r3⟩ := two_shal t
    exact ⟨_, _, _, rfl, r, r2, r3⟩
def rLenAll (K : PySem.W.Frag) : List V → Hp → VK → Prop := fun xs H Q => (∃ x n, xs = [x] ∧ LenV K x H n ∧ Q (.int n) H) ∨ ∃ a kvs, xs = [V.ref a] ∧ Rd H a (.dK kvs) ∧ Q (.int kvs.length) H
theorem call_lenRd : CallR X (.builtin "len") (fun xs H Q => ∃ a kvs, xs = [V.ref a] ∧ Rd H a (.dK kvs) ∧ Q (.int kvs.length) H) := by
  intro pins s σ H xs us Q I r ⟨a, kvs, e, ha, q⟩
  subst e
  obtain ⟨u, rfl, ru⟩ := vals1 r
  cases ru
  refine d_len I ha fun t s' J => ⟨.int kvs.length, H, J, ⟨t, rfl⟩, q⟩
theorem cr_len : CallR X (.builtin "len") (rLenAll X.K) := CallR.or call_len call_lenRd
theorem lenP_ok : CallOk X (rLenAll X.K) lenP := by
  intro G H vs ds P Q s rs h k
  unfold lenP at h
  split at h
  · obtain ⟨v, rfl, r⟩ := one_shal rs
    obtain ⟨l, ws, rfl, hl, rr⟩ := r.lst s
    exact .inl ⟨_, _, rfl, .inl ⟨ws, SqL.of hl, rfl⟩, k _ _ G H (.refl s) (by rw [rr.length]; exact .int _) h⟩
  · obtain ⟨v, rfl, r⟩ := one_shal rs
    obtain ⟨l, ws, rfl, hl, rr⟩ := r.tup s
    exact .inl ⟨_, _, rfl, .inr ⟨ws, SqT.of hl, rfl⟩, k _ _ G H (.refl s) (by rw [rr.length]; exact .int _) h⟩
  · obtain ⟨v, rfl, r⟩ := one_shal rs
    obtain ⟨l, ws, rfl, hl, rr⟩ := r.scr s
    exact .inl ⟨_, _, rfl, .inl ⟨ws, hl, rfl⟩, k _ _ G H (.refl s) (by rw [rr.length]; exact .int _) h⟩
  · obtain ⟨v, rfl, r⟩ := one_shal rs
    cases r.str
    exact .inl ⟨_, _, rfl, ⟨h.1, rfl⟩, k _ _ G H (.refl s) (.int _) h.2⟩
  · obtain ⟨v, rfl, r⟩ := one_shal rs
    obtain ⟨l, ws, rfl, hl, rr⟩ := r.dk s
    exact .inr ⟨l, ws, rfl, hl, k _ _ G H (.refl s) (by rw [rr.rel.length]; exact .int _) h⟩
  · exact h.elim
theorem pu_len (hm : X.mg "len" = none) (h : PuO X a pa) (hs : starEach [a] X.env = (false, eval a X.env) :: starEach [] X.env := by rfl) (hg : Gl X "len" := by rfl) : PuE X (.Call (.Name "len" p') [a] [] pos) (pCall lenP (paCons pa paNil)) :=
  pu_bi cr_len lenP_ok hm (puao_cons h puao_nil hs) hg (by decide +kernel) (by decide) (by decide) hs rfl

/-! ### int, min, max, sum -/
def intP : PSp := fun ds P => match ds with
  | [.int i] => P (.int i)
  | [.bl k] => P (.int (if k then 1 else 0))
  | _ => False
theorem intP_ok : CallOk X (fun xs H Q => (∃ i, xs = [.int i] ∧ Q (.int i) H) ∨ ∃ k, xs = [.bl k] ∧ Q (.int (if k then 1 else 0)) H) intP := by
  intro G H vs ds P Q s rs h k
  unfold intP at h
  split at h
  · obtain ⟨v, rfl, r⟩ := one_shal rs
    cases r.int
    exact .inl ⟨_, rfl, k _ _ G H (.refl s) (.int _) h⟩
  · obtain ⟨v, rfl, r⟩ := one_shal rs
    cases r.bl
    exact .inr ⟨_, rfl, k _ _ G H (.refl s) (.int _) h⟩
  · exact h.elim
theorem pu_int1 (hm : X.mg "int" = none) (h : PuO X a pa) (hs : starEach [a] X.env = (false, eval a X.env) :: starEach [] X.env := by rfl) (hg : Gl X "int" := by rfl) : PuE X (.Call (.Name "int" p') [a] [] pos) (pCall intP (paCons pa paNil)) :=
  pu_ty call_int1 intP_ok hm (puao_cons h puao_nil hs) hg (by decide +kernel) (by decide) (by decide) hs rfl

theorem call_max3 (hc : X.calm = true) : CallR X (.builtin "max") (fun xs H Q => ∃ i j k, xs = [.int i, .int j, .int k] ∧ Q (.int (max (max i j) k)) H) := by
  intro pins s σ H xs us Q I r h
  obtain ⟨i, j, k, rfl, q⟩ := h
  cases r with
  | cons r1 r => cases r with
    | cons r2 r => cases r with
      | cons r3 r =>
        cases r
        obtain ⟨t1, rfl⟩ := r1
        obtain ⟨t2, rfl⟩ := r2
        obtain ⟨t3, rfl⟩ := r3
        refine max_three_ints (I.ok.hd hc) fun h' tk kk => ⟨_, H, I.kept kk, ?_, q⟩
        by_cases h1 : j > i
        · rw [if_pos h1]
          by_cases h2 : k > j
          · rw [if_pos h2]; exact ⟨_, by rw [show max (max i j) k = k by omega]⟩
          · rw [if_neg h2]; exact ⟨_, by rw [show max (max i j) k = j by omega]⟩
        · rw [if_neg h1]
          by_cases h2 : k > i
          · rw [if_pos h2]; exact ⟨_, by rw [show max (max i j) k = k by omega]⟩
          · rw [if_neg h2]; exact ⟨_, by rw [show max (max i j) k = i by omega]⟩
theorem call_min3 (hc : X.calm = true) : CallR X (.builtin "min") (fun xs H Q => ∃ i j k, xs = [.int i, .int j, .int k] ∧ Q (.int (min (min i j) k)) H) := by
  intro pins s σ H xs us Q I r h
  obtain ⟨i, j, k, rfl, q⟩ := h
  cases r with
  | cons r1 r => cases r with
    | cons r2 r => cases r with
      | cons r3 r =>
        cases r
        obtain ⟨t1, rfl⟩ := r1
        obtain ⟨t2, rfl⟩ := r2
        obtain ⟨t3, rfl⟩ := r3
        refine min_three_ints (I.ok.hd hc) fun h' tk kk => ⟨_, H, I.kept kk, ?_, q⟩
        by_cases h1 : j < i
        · rw [if_pos h1]
          by_cases h2 : k < j
          · rw [if_pos h2]; exact ⟨_, by rw [show min (min i j) k = k by omega]⟩
          · rw [if_neg h2]; exact ⟨_, by rw [show min (min i j) k = j by omega]⟩
        · rw [if_neg h1]
          by_cases h2 : k < i
          · rw [if_pos h2]; exact ⟨_, by rw [show min (min i j) k = k by omega]⟩
          · rw [if_neg h2]; exact ⟨_, by rw [show min (min i j) k = i by omega]⟩
def intsOf : List D → Option (List Int)
  | [] => some []
  | .int i :: ds => (intsOf ds).map (i :: ·)
  | _ :: _ => none
theorem intsOf_eq : ∀ {ds : List D} {ns : List Int}, intsOf ds = some ns → ds = ns.map D.int
  | [], ns, h => by cases h; rfl
  | .int i :: ds, ns, h => by
    unfold intsOf at h
    cases e : intsOf ds with
    | none => rw [e] at h; cases h
    | some ms => rw [e] at h; cases h; rw [intsOf_eq e]; rfl
  | .non :: ds, ns, h => by cases h
  | .bl _ :: ds, ns, h => by cases h
  | .str _ :: ds, ns, h => by cases h
  | .tup _ :: ds, ns, h => by cases h
  | .lst _ :: ds, ns, h => by cases h
  | .scr _ :: ds, ns, h => by cases h
  | .dk _ :: ds, ns, h => by cases h
  | .dt _ :: ds, ns, h => by cases h
  | .obj _ _ :: ds, ns, h => by cases h
  | .err _ _ :: ds, ns, h => by cases h
theorem intsOf_map (ns : List Int) : intsOf (ns.map D.int) = some ns := by
  induction ns with
  | nil => rfl
  | cons n ns ih => simp [intsOf, ih]
theorem reps_ints {K : PySem.W.Frag} {mg : MG} {G : Hp} {vs : List V} {ds : List D} {ns : List Int} (r : Reps K mg G vs ds) (h : intsOf ds = some ns) : vs = ns.map V.int := by
  rw [intsOf_eq h] at r; exact r.ints
/-- the items of a list, tuple or the script -/
def lstOf : D → Option (List D)
  | .lst ds => some ds
  | .scr ds => some ds
  | _ => none
theorem Shal.sql {K : PySem.W.Frag} {mg : MG} {G H : Hp} {v : V} {d : D} {ds : List D} (h : Shal K mg H G v d) (s : Same G H) (e : lstOf d = some ds) : ∃ l vs, v = .ref l ∧ SqL K H l vs ∧ Reps K mg G vs ds := by
  cases d with
  | lst ds' =>
    cases e
    obtain ⟨l, vs, a, b, c⟩ := h.lst s
    exact ⟨l, vs, a, SqL.of b, c⟩
  | scr ds' => cases e; exact h.scr s
  | non => cases e
  | bl _ => cases e
  | int _ => cases e
  | str _ => cases e
  | tup _ => cases e
  | dk _ => cases e
  | dt _ => cases e
  | obj _ _ => cases e
  | err _ _ => cases e
def maxP : PSp := fun ds P => match ds with
  | [.int i, .int j] => P (.int (max i j))
  | [.int i, .int j, .int k] => P (.int (max (max i j) k))
  | [d] => ∃ xs ns, lstOf d = some xs ∧ intsOf xs = some ns ∧ 0 < ns.length ∧ ∀ m, m ∈ ns → (∀ y, y ∈ ns → y ≤ m) → P (.int m)
  | _ => False
def minP : PSp := fun ds P => match ds with
  | [.int i, .int j] => P (.int (min i j))
  | [.int i, .int j, .int k] => P (.int (min (min i j) k))
  | [d] => ∃ xs ns, lstOf d = some xs ∧ intsOf xs = some ns ∧ 0 < ns.length ∧ ∀ m, m ∈ ns → (∀ y, y ∈ ns → m ≤ y) → P (.int m)
  | _ => False
def rMaxAll (K : PySem.W.Frag) : List V → Hp → VK → Prop := fun xs H Q => (∃ i j, xs = [.int i, .int j] ∧ Q (.int (if j > i then j else i)) H) ∨ (∃ i j k, xs = [.int i, .int j, .int k] ∧ Q (.int (max (max i j) k)) H) ∨ rMax K xs H Q
def rMinAll (K : PySem.W.Frag) : List V → Hp → VK → Prop := fun xs H Q => (∃ i j, xs = [.int i, .int j] ∧ Q (.int (if j < i then j else i)) H) ∨ (∃ i j k, xs = [.int i, .int j, .int k] ∧ Q (.int (min (min i j) k)) H) ∨ rMin K xs H Q
theorem maxP_ok : CallOk X (rMaxAll X.K) maxP := by
  intro G H vs ds P Q s rs h k
  unfold maxP at h
  split at h
  · rename_i i j
    obtain ⟨v, w, rfl, r1, r2⟩ := two_shal rs
    cases r1.int; cases r2.int
    refine .inl ⟨_, _, rfl, ?_⟩
    rw [show (if j > i then j else i) = max i j by omega]
    exact k _ _ G H (.refl s) (.int _) h
  · obtain ⟨v, w, u, rfl, r1, r2, r3⟩ := three_shal rs
    cases r1.int; cases r2.int; cases r3.int
    exact .inr (.inl ⟨_, _, _, rfl, k _ _ G H (.refl s) (.int _) h⟩)
  · obtain ⟨xs, ns, e1, e2, e3, h⟩ := h
    obtain ⟨v, rfl, r⟩ := one_shal rs
    obtain ⟨l, ws, rfl, hl, rr⟩ := r.sql s e1
    have ew := reps_ints rr e2
    subst ew
    exact .inr (.inr ⟨l, ns, rfl, hl, e3, fun m hm hle => k _ _ G H (.refl s) (.int _) (h m hm hle)⟩)
  · exact h.elim
theorem minP_ok : CallOk X (rMinAll X.K) minP := by
  intro G H vs ds P Q s rs h k
  unfold minP at h
  split at h
  · rename_i i j
    obtain ⟨v, w, rfl, r1, r2⟩ := two_shal rs
    cases r1.int; cases r2.int
    refine .inl ⟨_, _, rfl, ?_⟩
    rw [show (if j < i then j else i) = min i j by omega]
    exact k _ _ G H (.refl s) (.int _) h
  · obtain ⟨v, w, u, rfl, r1, r2, r3⟩ := three_shal rs
    cases r1.int; cases r2.int; cases r3.int
    exact .inr (.inl ⟨_, _, _, rfl, k _ _ G H (.refl s) (.int _) h⟩)
  · obtain ⟨xs, ns, e1, e2, e3, h⟩ := h
    obtain ⟨v, rfl, r⟩ := one_shal rs
    obtain ⟨l, ws, rfl, hl, rr⟩ := r.sql s e1
    have ew := reps_ints rr e2
    subst ew
    exact .inr (.inr ⟨l, ns, rfl, hl, e3, fun m hm hle => k _ _ G H (.refl s) (.int _) (h m hm hle)⟩)
  · exact h.elim
theorem cr_maxAll (hc : X.calm = true) : CallR X (.builtin "max") (rMaxAll X.K) := CallR.or (call_max2 hc) (CallR.or (call_max3 hc) (cr_max hc))
theorem cr_minAll (hc : X.calm = true) : CallR X (.builtin "min") (rMinAll X.K) := CallR.or (call_min2 hc) (CallR.or (call_min3 hc) (cr_min hc))
theorem pu_max (hc : X.calm = true) (hm : X.mg "max" = none) (h : PuAO X (e :: es) ps) (hg : Gl X "max" := by rfl) (he : starEach (e :: es) X.env = (false, eval e X.env) :: starEach es X.env := by rfl) (hpl : (backTo pos (starEach es X.env)).any (·.1) = false := by rfl) :
    PuE X (.Call (.Name "max" p') (e :: es) [] pos) (pCall maxP ps) := pu_bi (cr_maxAll hc) maxP_ok hm h hg (by decide +kernel) (by decide) (by decide) he hpl
theorem pu_min (hc : X.calm = true) (hm : X.mg "min" = none) (h : PuAO X (e :: es) ps) (hg : Gl X "min" := by rfl) (he : starEach (e :: es) X.env = (false, eval e X.env) :: starEach es X.env := by rfl) (hpl : (backTo pos (starEach es X.env)).any (·.1) = false := by rfl) :
    PuE X (.Call (.Name "min" p') (e :: es) [] pos) (pCall minP ps) := pu_bi (cr_minAll hc) minP_ok hm h hg (by decide +kernel) (by decide) (by decide) he hpl
def sumP : PSp := fun ds P => match ds with
  | [d] => ∃ xs ns, lstOf d = some xs ∧ intsOf xs = some ns ∧ P (.int ns.sum)
  | _ => False
theorem sumP_ok : CallOk X (rSum X.K) sumP := by
  intro G H vs ds P Q s rs h k
  unfold sumP at h
  split at h
  · obtain ⟨xs, ns, e1, e2, h⟩ := h
    obtain ⟨v, rfl, r⟩ := one_shal rs
    obtain ⟨l, ws, rfl, hl, rr⟩ := r.sql s e1
    have ew := reps_ints rr e2
    subst ew
    exact ⟨l, ns, rfl, hl, k _ _ G H (.refl s) (.int _) h⟩
  · exact h.elim
theorem pu_sum (hc : X.calm = true) (hm : X.mg "sum" = none) (h : PuO X a pa) (hs : starEach [a] X.env = (false, eval a X.env) :: starEach [] X.env := by rfl) (hg : Gl X "sum" := by rfl) : PuE X (.Call (.Name "sum" p') [a] [] pos) (pCall sumP (paCons pa paNil)) :=
  pu_bi (cr_sum hc) sumP_ok hm (puao_cons h puao_nil hs) hg (by decide +kernel) (by decide) (by decide) hs rfl

/-! ### list, tuple, sorted -/
def itemsOf : D → Option (List D)
  | .lst ds => some ds
  | .scr ds => some ds
  | .tup ds => some ds
  | _ => none
def listP : PSp := fun ds P => match ds with
  | [d] => ∃ xs, itemsOf d = some xs ∧ P (.lst xs)
  | _ => False
theorem Shal.items {K : PySem.W.Frag} {mg : MG} {G H : Hp} {v : V} {d : D} {ds : List D} (h : Shal K mg H G v d) (s : Same G H) (e : itemsOf d = some ds) : ∃ l vs, v = .ref l ∧ (SqL K H l vs ∨ SqT K H l vs) ∧ Reps K mg G vs ds := by
  cases d with
  | lst ds' =>
    cases e
    obtain ⟨l, vs, a, b, c⟩ := h.lst s
    exact ⟨l, vs, a, .inl (SqL.of b), c⟩
  | scr ds' =>
    cases e
    obtain ⟨l, vs, a, b, c⟩ := h.scr s
    exact ⟨l, vs, a, .inl b, c⟩
  | tup ds' =>
    cases e
    obtain ⟨l, vs, a, b, c⟩ := h.tup s
    exact ⟨l, vs, a, .inr (SqT.of b), c⟩
  | non => cases e
  | bl _ => cases e
  | int _ => cases e
  | str _ => cases e
  | dk _ => cases e
  | dt _ => cases e
  | obj _ _ => cases e
  | err _ _ => cases e
theorem listP_ok : CallFOk X (fun xs H Q => ∃ p ys, xs = [.ref p] ∧ (SqL X.K H p ys ∨ SqT X.K H p ys) ∧ ∀ l, H l = none → Q (.ref l) (upd H l (.lst ys))) listP := by
  intro G H vs ds P Q s rs h k
  unfold listP at h
  split at h
  · obtain ⟨xs, e1, h⟩ := h
    obtain ⟨v, rfl, r⟩ := one_shal rs
    obtain ⟨l, ws, rfl, hl, rr⟩ := r.items s e1
    exact ⟨l, ws, rfl, hl, fun p hn => k _ p G _ (Ext.newH s hn) (.lst upd_same rr) (s.free hn) hn h⟩
  · exact h.elim
theorem puf_list (hm : X.mg "list" = none) (h : PuO X a pa) (hs : starEach [a] X.env = (false, eval a X.env) :: starEach [] X.env := by rfl) (hg : Gl X "list" := by rfl) : PuF X (.Call (.Name "list" p') [a] [] pos) (pCall listP (paCons pa paNil)) :=
  puf_ty call_list_of listP_ok hm (puao_cons h puao_nil hs) hg (by decide +kernel) (by decide) (by decide) hs rfl
def tupleP : PSp := fun ds P => match ds with
  | [d] => ∃ xs, itemsOf d = some xs ∧ P (.tup xs)
  | _ => False
theorem tupleP_ok : CallOk X (fun xs H Q => ∃ p ys, xs = [.ref p] ∧ ((SqL X.K H p ys ∧ ∀ l, H l = none → Q (.ref l) (upd H l (.tup ys))) ∨ (SqT X.K H p ys ∧ Q (.ref p) H))) tupleP := by
  intro G H vs ds P Q s rs h k
  unfold tupleP at h
  split at h
  · rename_i d
    obtain ⟨xs, e1, h⟩ := h
    obtain ⟨v, rfl, r⟩ := one_shal rs
    cases d with
    | tup ds' =>
      cases e1
      obtain ⟨l, ws, rfl, hl, rr⟩ := r.tup s
      refine ⟨l, ws, rfl, .inr ⟨SqT.of hl, k _ _ G H (.refl s) ?_ h⟩⟩
      rcases r with r | ⟨_, _, t⟩
      · exact r
      · cases t
    | lst ds' =>
      cases e1
      obtain ⟨l, ws, rfl, hl, rr⟩ := r.lst s
      exact ⟨l, ws, rfl, .inl ⟨SqL.of hl, fun p hn => k _ _ _ _ (Ext.new s hn) (.tup upd_same (rr.mono (Same.upd (s.free hn)))) h⟩⟩
    | scr ds' =>
      cases e1
      obtain ⟨l, ws, rfl, hl, rr⟩ := r.scr s
      exact ⟨l, ws, rfl, .inl ⟨hl, fun p hn => k _ _ _ _ (Ext.new s hn) (.tup upd_same (rr.mono (Same.upd (s.free hn)))) h⟩⟩
    | non => cases e1
    | bl _ => cases e1
    | int _ => cases e1
    | str _ => cases e1
    | dk _ => cases e1
    | dt _ => cases e1
    | obj _ _ => cases e1
    | err _ _ => cases e1
  · exact h.elim
theorem pu_tuple (hm : X.mg "tuple" = none) (h : PuO X a pa) (hs : starEach [a] X.env = (false, eval a X.env) :: starEach [] X.env := by rfl) (hg : Gl X "tuple" := by rfl) : PuE X (.Call (.Name "tuple" p') [a] [] pos) (pCall tupleP (paCons pa paNil)) :=
  pu_ty call_tuple_of tupleP_ok hm (puao_cons h puao_nil hs) hg (by decide +kernel) (by decide) (by decide) hs rfl
/-- list(range(..)) -/
def lr1 (P : D → Prop) : D → Prop := fun d => match d with
  | .int n => RgOk 0 n ∧ P (.lst ((List.range n.toNat).map fun (i : Nat) => D.int (i : Int)))
  | _ => False
def pLr1 (pa : PTE) : PTE := fun env P => pa env (lr1 P)
theorem rg_reps {K : PySem.W.Frag} {mg : MG} {G : Hp} (a b : Int) : Reps K mg G (rgV a b) ((List.range (b - a).toNat).map fun (i : Nat) => D.int (a + (i : Int))) := by
  unfold rgV
  generalize (b - a).toNat = n
  have : ∀ l : List Nat, Reps K mg G (l.map fun (i : Nat) => V.int (a + (i : Int))) (l.map fun (i : Nat) => D.int (a + (i : Int))) := by
    intro l
    induction l with
    | nil => exact .nil
    | cons x l ih => exact .cons (.int _) ih
  exact this _
theorem puf_lr1 {p2 pos2 : Pos} (hc : X.calm = true) (hm : X.mg "list" = none) (hm2 : X.mg "range" = none) (h : PuE X a pa) (hg : Gl X "list" := by rfl) (hg2 : Gl X "range" := by rfl) (na : starEach [a] X.env = (false, eval a X.env) :: starEach [] X.env := by rfl)
    (na2 : starEach [.Call (.Name "range" p2) [a] [] pos2] X.env = (false, eval (.Call (.Name "range" p2) [a] [] pos2) X.env) :: starEach [] X.env := by rfl) :
    PuF X (.Call (.Name "list" p') [.Call (.Name "range" p2) [a] [] pos2] [] pos) (pLr1 pa) := by
  obtain ⟨t, h1, h2⟩ := h.ex
  refine ⟨_, pe_listRg hc hg hm (prg_1 hg2 hm2 h1 na) na2, fun G H env σ P Q ok hp k => h2 G H env σ _ _ ok hp fun d v G' H' x r q => ?_⟩
  unfold lr1 at q
  split at q
  · rename_i n
    cases r
    refine ⟨n, rfl, q.1, fun p hn => k _ p G' _ (x.trans (Ext.newH x.s hn)) (.lst upd_same ?_) (x.s.free hn) (x.h.free hn) q.2⟩
    have := rg_reps (K := X.K) (mg := X.mg) (G := G') 0 n
    simpa using this
  · exact q.elim
def lr2 (P : D → Prop) : D → D → Prop := fun d f => match d, f with
  | .int m, .int n => RgOk m n ∧ P (.lst ((List.range (n - m).toNat).map fun (i : Nat) => D.int (m + (i : Int))))
  | _, _ => False
def pLr2 (pa pb : PTE) : PTE := fun env P => pa env fun d => pb env fun f => lr2 P d f
theorem puf_lr2 {p2 pos2 : Pos} (hc : X.calm = true) (hm : X.mg "list" = none) (hm2 : X.mg "range" = none) (h : PuE X a pa) (h' : PuE X b pb) (hg : Gl X "list" := by rfl) (hg2 : Gl X "range" := by rfl) (na : starEach [a, b] X.env = (false, eval a X.env) :: starEach [b] X.env := by rfl)
    (nb : starEach [b] X.env = (false, eval b X.env) :: starEach [] X.env := by rfl) (hp : (backTo pos2 (starEach [b] X.env)).any (·.1) = false := by rfl)
    (na2 : starEach [.Call (.Name "range" p2) [a, b] [] pos2] X.env = (false, eval (.Call (.Name "range" p2) [a, b] [] pos2) X.env) :: starEach [] X.env := by rfl) :
    PuF X (.Call (.Name "list" p') [.Call (.Name "range" p2) [a, b] [] pos2] [] pos) (pLr2 pa pb) := by
  obtain ⟨t, h1, h2⟩ := h.ex
  obtain ⟨u, g1, g2⟩ := h'.ex
  refine ⟨_, pe_listRg hc hg hm (prg_2 hg2 hm2 h1 g1 na nb hp) na2, fun G H env σ P Q ok hp k => h2 G H env σ _ _ ok hp fun d v G' H' x r q => ?_⟩
  refine g2 G' H' env σ _ _ (ok.ext x) q fun f w G2 H2 y r2 q2 => ?_
  unfold lr2 at q2
  split at q2
  · rename_i m n
    cases r; cases r2
    exact ⟨m, n, rfl, rfl, q2.1, fun p hn => k _ p G2 _ ((x.trans y).trans (Ext.newH y.s hn)) (.lst upd_same (rg_reps m n)) (y.s.free hn) ((x.trans y).h.free hn) q2.2⟩
  · exact q2.elim
def strsOf : List D → Option (List Str)
  | [] => some []
  | .str i :: ds => (strsOf ds).map (i :: ·)
  | _ :: _ => none
theorem strsOf_eq : ∀ {ds : List D} {ns : List Str}, strsOf ds = some ns → ds = ns.map D.str
  | [], ns, h => by cases h; rfl
  | .str i :: ds, ns, h => by
    unfold strsOf at h
    cases e : strsOf ds with
    | none => rw [e] at h; cases h
    | some ms => rw [e] at h; cases h; rw [strsOf_eq e]; rfl
  | .non :: ds, ns, h => by cases h
  | .bl _ :: ds, ns, h => by cases h
  | .int _ :: ds, ns, h => by cases h
  | .tup _ :: ds, ns, h => by cases h
  | .lst _ :: ds, ns, h => by cases h
  | .scr _ :: ds, ns, h => by cases h
  | .dk _ :: ds, ns, h => by cases h
  | .dt _ :: ds, ns, h => by cases h
  | .obj _ _ :: ds, ns, h => by cases h
  | .err _ _ :: ds, ns, h => by cases h
theorem strsOf_map (ns : List Str) : strsOf (ns.map D.str) = some ns := by
  induction ns with
  | nil => rfl
  | cons n ns ih => simp [strsOf, ih]
theorem reps_strs {K : PySem.W.Frag} {mg : MG} {G : Hp} {vs : List V} {ds : List D} {ns : List Str} (r : Reps K mg G vs ds) (h : strsOf ds = some ns) : vs = ns.map V.str := by
  rw [strsOf_eq h] at r; exact r.strs
def sortIP : PSp := fun ds P => match ds with
  | [d] => ∃ xs, lstOf d = some xs ∧ ((∃ ns, intsOf xs = some ns ∧ ∀ ms : List Int, ms.Perm ns → ms.Pairwise (· ≤ ·) → P (.lst (ms.map D.int))) ∨
      ∃ zs, strsOf xs = some zs ∧ zs.length < 64 ∧ ∀ ys : List Str, ys.Perm zs → sortedS ys = true → P (.lst (ys.map D.str)))
  | _ => False
theorem sortIP_ok : CallFOk X (fun xs H Q => rSortedI X.K xs H Q ∨ rSortedS X.K xs H Q) sortIP := by
  intro G H vs ds P Q s rs h k
  unfold sortIP at h
  split at h
  · obtain ⟨xs, e1, h⟩ := h
    obtain ⟨v, rfl, r⟩ := one_shal rs
    obtain ⟨l, ws, rfl, hl, rr⟩ := r.sql s e1
    rcases h with ⟨ns, e2, h⟩ | ⟨zs, e2, h64, h⟩
    · have ew := reps_ints rr e2
      subst ew
      exact .inl ⟨l, ns, rfl, hl, fun ms p h1 h2 hn => k _ p G _ (Ext.newH s hn) (.lst upd_same (Reps.ofInts ms)) (s.free hn) hn (h ms h1 h2)⟩
    · have ew := reps_strs rr e2
      subst ew
      exact .inr ⟨l, zs, rfl, hl, h64, fun ys p h1 h2 hn => k _ p G _ (Ext.newH s hn) (.lst upd_same (Reps.ofStrs ys)) (s.free hn) hn (h ys h1 h2)⟩
  · exact h.elim
theorem puf_sortI (hm : X.mg "sorted" = none) (h : PuO X a pa) (hs : starEach [a] X.env = (false, eval a X.env) :: starEach [] X.env := by rfl) (hg : Gl X "sorted" := by rfl) : PuF X (.Call (.Name "sorted" p') [a] [] pos) (pCall sortIP (paCons pa paNil)) :=
  puf_bi (CallR.or cr_sortedI cr_sortedS) sortIP_ok hm (puao_cons h puao_nil hs) hg (by decide +kernel) (by decide) (by decide) hs rfl

/-! ### in -/
def hasP (x : D) (ys : List D) : Bool := (toPys ys).any fun z => PyData.eqv z (toPy x)
def inP (neg : Bool) : BinP := fun x y P => match y with
  | .lst ys => cmpOk x = true ∧ cmpOk (.lst ys) = true ∧ P (.bl (hasP x ys != neg))
  | .str b => ∃ a, x = .str a ∧ P (.bl ((!(Builtin.Str.occurrences b a 0 b.length 1).isEmpty) != neg))
  | d => ∃ o, getP d x = some o ∧ P (.bl (o.isSome != neg))
def rInAll (K : PySem.W.Frag) (neg : Bool) : R2 := fun x y H Q => (∃ d ds, Dp K H x d ∧ Dp K H y (.list ds) ∧ SeqAt.shaped d = true ∧ SeqAt.shaped (.list ds) = true ∧ Q (.bl ((ds.any fun z => PyData.eqv z d) != neg)) H) ∨
  (∃ i j, x = .str i ∧ y = .str j ∧ Q (.bl ((!(Builtin.Str.occurrences j i 0 j.length 1).isEmpty) != neg)) H) ∨ ∃ a o, y = .ref a ∧ DGet H a x o ∧ Q (.bl (o.isSome != neg)) H
theorem op_inAll (hu : X.A.units + 65 < cLine) : OpR X (compareOp .In) (rInAll X.K false) := by
  intro pins s σ H x y v u Q I rx ry h
  rcases h with ⟨d, ds, h1, h2, h3, h4, q⟩ | ⟨i, j, h1, h2, q⟩ | ⟨a, o, rfl, g, q⟩
  · exact op_inD hu pins s σ H x y v u Q I rx ry ⟨d, ds, h1, h2, h3, h4, by simpa using q⟩
  · exact op_in_str pins s σ H x y v u Q I rx ry ⟨i, j, h1, h2, by simpa using q⟩
  · obtain rfl : u = Value.ref a := ry
    exact d_in (by omega) I g rx fun s3 I3 => ⟨.bl o.isSome, H, I3, rfl, by simpa using q⟩
theorem op_notInAll (hu : X.A.units + 65 < cLine) : OpR X (compareOp .NotIn) (rInAll X.K true) := by
  intro pins s σ H x y v u Q I rx ry h
  rcases h with ⟨d, ds, h1, h2, h3, h4, q⟩ | ⟨i, j, h1, h2, q⟩ | ⟨a, o, rfl, g, q⟩
  · exact op_notInD hu pins s σ H x y v u Q I rx ry ⟨d, ds, h1, h2, h3, h4, by simpa using q⟩
  · exact L2.op_notIn_str pins s σ H x y v u Q I rx ry ⟨i, j, h1, h2, by simpa using q⟩
  · obtain rfl : u = Value.ref a := ry
    exact d_notIn (by omega) I g rx fun s3 I3 => ⟨.bl (!o.isSome), H, I3, rfl, by simpa using q⟩
/-- the left side of «in» a table must be frozen -/
def BinEO (X : Cx) (r : R2) (f : BinP) : Prop := ∀ (G H : Hp) (v w : V) (x y : D) (P : D → Prop) (Q : VK), Same G H → Rep X.K X.mg G v x → Shal X.K X.mg H G w y → f x y P →
  (∀ d u G' H', Ext G H G' H' → Rep X.K X.mg G' u d → P d → Q u H') → r v w H Q
theorem inP_ok (neg : Bool) : BinEO X (rInAll X.K neg) (inP neg) := by
  intro G H v w x y P Q s r1 r2 h k
  unfold inP at h
  split at h
  · rename_i ys
    obtain ⟨f1, s1⟩ := cmpOk_iff h.1
    obtain ⟨f2, s2⟩ := cmpOk_iff h.2.1
    exact .inl ⟨_, _, r1.dp s f1, r2.dp s f2, s1, s2, k _ _ G H (.refl s) (.bl _) h.2.2⟩
  · obtain ⟨a, rfl, h⟩ := h
    cases r1
    cases r2.str
    exact .inr (.inl ⟨_, _, rfl, rfl, k _ _ G H (.refl s) (.bl _) h⟩)
  · obtain ⟨o, e, h⟩ := h
    obtain ⟨l, rfl, q⟩ := r2.dget s r1 e
    rcases q with ⟨rfl, g⟩ | ⟨z, u, rfl, g, _⟩
    · exact .inr (.inr ⟨l, none, rfl, g, k _ _ G H (.refl s) (.bl _) h⟩)
    · exact .inr (.inr ⟨l, some u, rfl, g, k _ _ G H (.refl s) (.bl _) h⟩)
theorem binEO_t {ta tb : TE} {r : R2} {f : BinP} (hf : BinEO X r f) {G H : Hp} {env : List C} {σ : L2.St} {P : D → Prop} {Q : VK} (ok : Ok X.K X.mg G H env σ)
    (ha : ∀ (G H : Hp) (env : List C) (σ : L2.St) (P : D → Prop) (Q : VK), Ok X.K X.mg G H env σ → pa env P → (∀ d v G' H', Ext G H G' H' → Rep X.K X.mg G' v d → P d → Q v H') → ta σ H Q)
    (hb : ∀ (G H : Hp) (env : List C) (σ : L2.St) (P : D → Prop) (Q : VK), Ok X.K X.mg G H env σ → pb env P → (∀ d v G' H', Ext G H G' H' → Shal X.K X.mg H' G' v d → P d → Q v H') → tb σ H Q)
    (hp : pBin f pa pb env P) (k : ∀ d v G' H', Ext G H G' H' → Rep X.K X.mg G' v d → P d → Q v H') : tOp r ta tb σ H Q := by
  refine ha G H env σ _ _ ok hp fun x v G1 H1 e1 r1 q1 => ?_
  refine hb G1 H1 env σ _ _ (ok.ext e1) q1 fun y w G2 H2 e2 r2 q2 => ?_
  exact hf G2 H2 v w x y P Q e2.s (r1.mono e2.g) r2 q2 fun d u G3 H3 e3 r3 q3 => k d u G3 H3 ((e1.trans e2).trans e3) r3 q3
theorem put_in (hu : X.A.units + 65 < cLine) (ha : PuE X a pa) (hb : PuO X b pb) (hm : behindInMarks .In b = false := by rfl) : PuT X (.Compare a [.In] [b] pos) (pB (pBin (inP false) pa pb)) := by
  obtain ⟨ta, a1, a2⟩ := ha.ex
  obtain ⟨tb, b1, b2⟩ := hb.ex
  refine ⟨_, pt_cmpR (op_inAll hu) a1 b1 hm, fun G H env σ P Q ok hp k => binEO_t (inP_ok false) ok a2 b2 hp fun d v G' H' x r q => ?_⟩
  obtain ⟨b, e, z⟩ := asB_rep r q
  exact ⟨b, e, k b G' H' x z⟩
theorem put_notIn (hu : X.A.units + 65 < cLine) (ha : PuE X a pa) (hb : PuO X b pb) (hm : behindInMarks .NotIn b = false := by rfl) : PuT X (.Compare a [.NotIn] [b] pos) (pB (pBin (inP true) pa pb)) := by
  obtain ⟨ta, a1, a2⟩ := ha.ex
  obtain ⟨tb, b1, b2⟩ := hb.ex
  refine ⟨_, pt_cmpR (op_notInAll hu) a1 b1 hm, fun G H env σ P Q ok hp k => binEO_t (inP_ok true) ok a2 b2 hp fun d v G' H' x r q => ?_⟩
  obtain ⟨b, e, z⟩ := asB_rep r q
  exact ⟨b, e, k b G' H' x z⟩
theorem pu_in (hu : X.A.units + 65 < cLine) (ha : PuE X a pa) (hb : PuO X b pb) (hm : behindInMarks .In b = false := by rfl) : PuE X (.Compare a [.In] [b] pos) (pBin (inP false) pa pb) := by
  obtain ⟨ta, a1, a2⟩ := ha.ex
  obtain ⟨tb, b1, b2⟩ := hb.ex
  exact ⟨_, pe_cmpR (op_inAll hu) a1 b1 hm, fun G H env σ P Q ok hp k => binEO_t (inP_ok false) ok a2 b2 hp k⟩
theorem pu_notIn (hu : X.A.units + 65 < cLine) (ha : PuE X a pa) (hb : PuO X b pb) (hm : behindInMarks .NotIn b = false := by rfl) : PuE X (.Compare a [.NotIn] [b] pos) (pBin (inP true) pa pb) := by
  obtain ⟨ta, a1, a2⟩ := ha.ex
  obtain ⟨tb, b1, b2⟩ := hb.ex
  exact ⟨_, pe_cmpR (op_notInAll hu) a1 b1 hm, fun G H env σ P Q ok hp k => binEO_t (inP_ok true) ok a2 b2 hp k⟩

/-! ### the comparisons, as tests and as values -/
theorem put_eq (hu : X.A.units + 64 < cLine) (ha : PuO X a pa) (hb : PuO X b pb) : PuT X (.Compare a [.Eq] [b] pos) (pB (pBin eqP pa pb)) := put_cmp (op_eqAll hu) eqP_ok ha hb (nomark _)
theorem put_ne (hu : X.A.units + 64 < cLine) (ha : PuO X a pa) (hb : PuO X b pb) : PuT X (.Compare a [.NotEq] [b] pos) (pB (pBin neP pa pb)) := put_cmp (op_neAll hu) neP_ok ha hb (nomark _)
theorem put_lt (ha : PuO X a pa) (hb : PuO X b pb) : PuT X (.Compare a [.Lt] [b] pos) (pB (pBin ltP pa pb)) := put_cmp op_ltAll ltP_ok ha hb (nomark _)
theorem put_le (ha : PuO X a pa) (hb : PuO X b pb) : PuT X (.Compare a [.LtE] [b] pos) (pB (pBin leP pa pb)) := put_cmp op_leAll leP_ok ha hb (nomark _)
theorem put_gt (ha : PuO X a pa) (hb : PuO X b pb) : PuT X (.Compare a [.Gt] [b] pos) (pB (pBin gtP pa pb)) := put_cmp op_gtAll gtP_ok ha hb (nomark _)
theorem put_ge (ha : PuO X a pa) (hb : PuO X b pb) : PuT X (.Compare a [.GtE] [b] pos) (pB (pBin geP pa pb)) := put_cmp op_geAll geP_ok ha hb (nomark _)
theorem pu_eq (hu : X.A.units + 64 < cLine) (ha : PuO X a pa) (hb : PuO X b pb) : PuE X (.Compare a [.Eq] [b] pos) (pBin eqP pa pb) := pu_cmp (op_eqAll hu) eqP_ok ha hb (nomark _)
theorem pu_ne (hu : X.A.units + 64 < cLine) (ha : PuO X a pa) (hb : PuO X b pb) : PuE X (.Compare a [.NotEq] [b] pos) (pBin neP pa pb) := pu_cmp (op_neAll hu) neP_ok ha hb (nomark _)
theorem pu_lt (ha : PuO X a pa) (hb : PuO X b pb) : PuE X (.Compare a [.Lt] [b] pos) (pBin ltP pa pb) := pu_cmp op_ltAll ltP_ok ha hb (nomark _)
theorem pu_le (ha : PuO X a pa) (hb : PuO X b pb) : PuE X (.Compare a [.LtE] [b] pos) (pBin leP pa pb) := pu_cmp op_leAll leP_ok ha hb (nomark _)
theorem pu_gt (ha : PuO X a pa) (hb : PuO X b pb) : PuE X (.Compare a [.Gt] [b] pos) (pBin gtP pa pb) := pu_cmp op_gtAll gtP_ok ha hb (nomark _)
theorem pu_ge (ha : PuO X a pa) (hb : PuO X b pb) : PuE X (.Compare a [.GtE] [b] pos) (pBin geP pa pb) := pu_cmp op_geAll geP_ok ha hb (nomark _)
/-- is None -/
def isNon : D → Bool
  | .non => true
  | _ => false
def isNP (neg : Bool) (p : PTE) : PTE := fun env P => p env fun d => P (.bl (isNon d != neg))
theorem Rep.isN {K : PySem.W.Frag} {mg : MG} {G : Hp} {v : V} {d : D} (r : Rep K mg G v d) : decide (v = .non) = isNon d := by
  cases r <;> rfl
theorem pu_isN {j : Nat} {pos' : Pos} (ha : PuE X a pa) : PuE X (.Compare a [.Is] [.Constant .none j pos'] pos) (isNP false pa) := by
  obtain ⟨t, h1, h2⟩ := ha.ex
  refine ⟨_, pe_cmp (pc_isN h1) rfl, fun G H env σ P Q ok hp k => h2 G H env σ _ _ ok hp fun d v G' H' x r q => ?_⟩
  have : V.bl (decide (v = .non)) = V.bl (isNon d != false) := by rw [r.isN, Bool.bne_false]
  rw [this]
  exact k _ _ G' H' x (.bl _) q
theorem pu_notN {j : Nat} {pos' : Pos} (ha : PuE X a pa) : PuE X (.Compare a [.IsNot] [.Constant .none j pos'] pos) (isNP true pa) := by
  obtain ⟨t, h1, h2⟩ := ha.ex
  refine ⟨_, pe_cmp (pc_notN h1) rfl, fun G H env σ P Q ok hp k => h2 G H env σ _ _ ok hp fun d v G' H' x r q => ?_⟩
  have : V.bl (!decide (v = .non)) = V.bl (isNon d != true) := by rw [r.isN, Bool.bne_true]
  rw [this]
  exact k _ _ G' H' x (.bl _) q
theorem put_isN {j : Nat} {pos' : Pos} (ha : PuE X a pa) : PuT X (.Compare a [.Is] [.Constant .none j pos'] pos) (pB (isNP false pa)) := by
  obtain ⟨t, h1, h2⟩ := ha.ex
  refine ⟨_, pt_cmp (pc_isN h1) rfl, fun G H env σ P Q ok hp k => h2 G H env σ _ _ ok hp fun d v G' H' x r q => ?_⟩
  have : decide (v = .non) = (isNon d != false) := by rw [r.isN, Bool.bne_false]
  exact ⟨_, rfl, by rw [this]; exact k _ G' H' x q⟩
theorem put_notN {j : Nat} {pos' : Pos} (ha : PuE X a pa) : PuT X (.Compare a [.IsNot] [.Constant .none j pos'] pos) (pB (isNP true pa)) := by
  obtain ⟨t, h1, h2⟩ := ha.ex
  refine ⟨_, pt_cmp (pc_notN h1) rfl, fun G H env σ P Q ok hp k => h2 G H env σ _ _ ok hp fun d v G' H' x r q => ?_⟩
  have : (!decide (v = .non)) = (isNon d != true) := by rw [r.isN, Bool.bne_true]
  exact ⟨_, rfl, by rw [this]; exact k _ G' H' x q⟩

/-! ### isinstance of a built-in type -/
def tyName : D → Option String
  | .non => some "NoneType"
  | .bl _ => some "bool"
  | .int _ => some "int"
  | .str _ => some "str"
  | .tup _ => some "tuple"
  | .lst _ => some "list"
  | .scr _ => none
  | .dk _ => some "dict"
  | .dt _ => some "dict"
  | .obj _ _ => none
  | .err _ _ => none
theorem Rep.tyx {K : PySem.W.Frag} {mg : MG} {G H : Hp} {v : V} {d : D} {n : String} (r : Shal K mg H G v d) (s : Same G H) (h : tyName d = some n) : TyX K H v (.type n) := by
  cases d with
  | non => cases h; cases r.non; exact .base .non
  | bl b => cases h; cases r.bl; exact .base (.bl b)
  | int i => cases h; cases r.int; exact .base (.int i)
  | str x => cases h; cases r.str; exact .base (.str x)
  | tup ds => cases h; obtain ⟨l, vs, rfl, e, _⟩ := r.tup s; exact .base (.tup e)
  | lst ds => cases h; obtain ⟨l, vs, rfl, e, _⟩ := r.lst s; exact .base (.lst e)
  | scr ds => cases h
  | dk ds =>
    cases h
    obtain ⟨l, vs, rfl, e, _⟩ := r.dk s
    rcases e with e | ⟨o, e⟩
    · exact .base (.dK e)
    · exact .fDict e
  | dt ds => cases h; obtain ⟨l, vs, rfl, e, _⟩ := r.dt s; exact .base (.dT e)
  | obj _ _ => cases h
  | err _ _ => cases h
def isiP (T : String) (p : PTE) : PTE := fun env P => p env fun d => ∃ n b, tyName d = some n ∧ kitB n T = some b ∧ P (.bl b)
theorem pu_isi {T : Str} {n : String} {p2 : Pos} (hm : X.mg "isinstance" = none) (hmT : X.mg T = none) (ha : PuO X a pa) (hv : bootBuiltins T = some (.type n) := by decide +kernel) (hg : Gl X "isinstance" := by rfl) (hgT : Gl X T := by rfl)
    (hs : starEach [a, .Name T p2] X.env = (false, eval a X.env) :: starEach [.Name T p2] X.env := by rfl) (hs2 : starEach [.Name T p2] X.env = (false, eval (.Name T p2) X.env) :: starEach [] X.env := by rfl) (hpl : (backTo pos (starEach [.Name T p2] X.env)).any (·.1) = false := by rfl)
    (hn : T ≠ "__name__" := by decide) (hd : (T == ("__debug__" : Str)) = false := by decide) : PuE X (.Call (.Name "isinstance" p') [a, .Name T p2] [] pos) (isiP n pa) := by
  obtain ⟨t, h1, h2⟩ := ha.ex
  refine ⟨_, pe_callB call_isi hg hm (by decide +kernel) (pa_cons h1 (pa_cons (pe_bltn (v := .ty n) hgT hmT hv rfl hn hd) pa_nil hs2) hs) (by decide) (by decide) hs hpl, fun G H env σ P Q ok hp k => h2 G H env σ _ _ ok hp fun d v G' H' x r q => ?_⟩
  obtain ⟨m, b, e1, e2, q⟩ := q
  exact ⟨v, .ty n, .type m, .type n, b, rfl, .ty n, Rep.tyx r x.s e1, kit_ty e2, k _ _ G' H' x (.bl b) q⟩

/-! ### text methods -/
/-- a receiver that must be a text, before the argument is read -/
def asS (P : Str → Prop) : D → Prop := fun d => match d with
  | .str z => P z
  | _ => False
theorem asS_rep {G : Hp} {v : V} {d : D} {P : Str → Prop} (r : Rep X.K X.mg G v d) (h : asS P d) : ∃ z, v = .str z ∧ P z := by
  unfold asS at h
  split at h
  · cases r; exact ⟨_, rfl, h⟩
  · exact h.elim
def joinP (z : Str) (y : D) (P : D → Prop) : Prop := ∃ xs ys, itemsOf y = some xs ∧ strsOf xs = some ys ∧ (ys.map (·.length)).sum + ys.length * z.length ≤ 16777216 ∧ P (.str (Txt.join z ys))
def pJoin (pa pb : PTE) : PTE := fun env P => pa env (asS fun z => pb env fun y => joinP z y P)
theorem pu_join {apos : Pos} (ho : PuE X a pa) (he : PuO X b pb) (hs : starEach [b] X.env = [(false, eval b X.env)] := by rfl) (hbase : attributeBase a "join" X.env (eval a X.env) = eval a X.env := by rfl) (hline : (apos.endLine == pos.line) = true := by rfl) :
    PuE X (.Call (.Attribute a "join" apos) [b] [] pos) (pJoin pa pb) := by
  obtain ⟨t, h1, h2⟩ := ho.ex
  obtain ⟨u, g1, g2⟩ := he.ex
  refine ⟨_, pe_join h1 g1 hs hbase hline, fun G H env σ P Q ok hp k => h2 G H env σ _ _ ok hp fun x v G1 H1 e1 r1 q1 => ?_⟩
  obtain ⟨z, rfl, q1⟩ := asS_rep r1 q1
  refine ⟨⟨z, rfl⟩, g2 G1 H1 env σ _ _ (ok.ext e1) q1 fun y w G2 H2 e2 r2 q2 => ?_⟩
  obtain ⟨xs, ys, i1, i2, hz, q2⟩ := q2
  obtain ⟨l, ws, rfl, hl, rr⟩ := r2.items e2.s i1
  have ew := reps_strs rr i2
  subst ew
  exact ⟨z, l, ys, rfl, rfl, hl, hz, k _ _ G2 H2 (e1.trans e2) (.str _) q2⟩
def pBits (pa : PTE) : PTE := fun env P => pa env fun x => match x with
  | .int i => P (.int (Builtin.Int.intBits i : Nat))
  | _ => False
theorem pu_bits {apos : Pos} (ho : PuE X a pa) (hbase : attributeBase a "bit_length" X.env (eval a X.env) = eval a X.env := by rfl) (hline : (apos.endLine == pos.line) = true := by rfl) : PuE X (.Call (.Attribute a "bit_length" apos) [] [] pos) (pBits pa) := by
  obtain ⟨t, h1, h2⟩ := ho.ex
  refine ⟨_, pe_bits h1 hbase hline, fun G H env σ P Q ok hp k => h2 G H env σ _ _ ok hp fun d v G' H' x r q => ?_⟩
  split at q
  · cases r; exact ⟨_, rfl, k _ _ G' H' x (.int _) q⟩
  · exact q.elim
end

/-! ### sep.join(reversed(list)) -/
section
open MpR RT
variable {prog : Program} {w : World} {A : Around} {E : Value → Shared → Prop} {s : Shared}
theorem join_rev {x : Str} {t : Tok} {ys : List Str} {it l : Addr} {items : Array Value} {Q : Value → Shared → Prop} (hh : A.handled = none) (hit : s.heap.IsRevIter it l ((items.size : Int) - 1)) (hl : s.heap.IsList l items) (hne : l ≠ it) (hn : items.size ≤ sizeLine)
    (hP : ∀ acc : Array Value, ItemsOf (fun i v => items[items.size - 1 - i]? = some v) acc items.size → StrsAre acc.toList ys) (hok : (ys.map (·.length)).sum + ys.length * x.length ≤ 16777216)
    (hq : ∀ (h' : Heap) (k : Nat) (t' : Tok), (∀ b o, b ≠ it → s.heap.get? b = some o → h'.get? b = some o) → Q (.str (Txt.join x ys) t') { s with heap := h', toks := k }) :
    wpAny (model prog w) A (call (.builtin "str.join") [.str x t, .ref it]) Q E s := by
  refine wpAny_call (codeAny_call_builtin F.slot_str_join.plain F.entry_str_join (F.slot_str_join.check _ _ _ _ _ _ _ _ (typeIs_str _ _ _) (F.args_str_join_2 _ _) ?_))
  rw [join_tree_other]
  refine wpAny_bind (wpAny_typeOf hit.typeIs ?_)
  show wpAny _ A.in1 ((pyIter (.ref it)).tryCatch _ >>= fun it => collect it >>= fun items => joinTail x items) _ _ s
  refine wpAny_bind (wpAny_tryCatch (wpAny_pyIter_revIter hit ?_))
  refine wpAny_bind (collect_rev (A := A.in1) hh hit hl hne hn fun h' tk acc hk hacc => ?_)
  obtain ⟨l', hl', ht⟩ := strsAre_values (hP acc hacc)
  subst ht
  rw [hl']
  have hok' := joinOk_of hok
  unfold JoinOk at hok'
  rw [Bool.not_eq_true'] at hok'
  have g : Gives (joinTail x (strValues l')) (joinMade x l') := by
    have g0 := gives_joinTail x l' hok'
    cases l' with
    | nil => exact g0
    | cons p r => cases r with
      | nil => exact g0
      | cons q r' => exact g0
  exact g prog w A (wants Q E) _ (post_join l' ⟨joinFit_length hok', fun t' k => hq h' k t' hk⟩)
end
section
variable {X : Cx} {a b : Expr} {pa pb : PTE} {pos : Pos}
def tJoinRev (K : PySem.W.Frag) (to te : TE) : TE := fun σ H Q => to σ H fun x H1 => (∃ a, x = .str a) ∧ te σ H1 fun y H2 => ∃ (a : Str) (p : Addr) (ys : List Str), x = .str a ∧ y = .ref p ∧ SqL K H2 p (ys.map V.str) ∧
  (ys.map (·.length)).sum + ys.length * a.length ≤ 16777216 ∧ Q (.str (Txt.join a ys.reverse)) H2
theorem pe_joinRev {to te : TE} {apos p2 pos2 : Pos} (hc : X.calm = true) (ho : PE X a to) (he : PE X b te) (hm : X.mg "reversed" = none) (hg : Gl X "reversed" := by rfl) (hs : starEach [b] X.env = (false, eval b X.env) :: starEach [] X.env := by rfl)
    (hs1 : starEach [.Call (.Name "reversed" p2) [b] [] pos2] X.env = [(false, eval (.Call (.Name "reversed" p2) [b] [] pos2) X.env)] := by rfl)
    (hbase : attributeBase a "join" X.env (eval a X.env) = eval a X.env := by rfl) (hline : (apos.endLine == pos.line) = true := by rfl) :
    PE X (.Call (.Attribute a "join" apos) [.Call (.Name "reversed" p2) [b] [] pos2] [] pos) (tJoinRev X.K to te) := by
  refine ⟨fun pins s σ H Q I h => ?_⟩
  refine PySem.Call_method1 hbase hs1 hline (thn (ho.run pins s σ H _ I h) fun v s1 ⟨x, H1, I1, r1, q1⟩ => ?_)
  obtain ⟨⟨z, rfl⟩, q1⟩ := q1
  obtain ⟨t, rfl⟩ := _root_.id r1
  refine ⟨"str", _, F.plainAttrs_str, F.slot_str_join, F.type_str_join, typeIs_str _ _ _, (fun _ e => nomatch e), Calls.callWith_builtin rfl (Calls.evalArgs_plain (Calls.spliced_cons ?_))⟩
  refine Call_ (ld_blt I1 hg hm PyProof.Rows.boot_reversed (PyProof.Rows.callWith_type1 (args_cons (thn (he.run pins s1 σ H1 _ I1 q1) fun u s2 ⟨y, H2, I2, r2, q2⟩ => args_nil ?_) hs) hs rfl))
  obtain ⟨z', p, ys, ez, ey, hq, hz, q⟩ := q2
  cases ez
  subst ey
  obtain rfl : u = Value.ref p := r2
  obtain ⟨its, rv, pl, hsz⟩ := I2.list hq
  have hlen : its.length = ys.length := by have := rv.length; simpa using this.symm
  refine call_reversed_list pl.isList ?_
  have k0 : ∀ b o, s2.heap.get? b = some o → (s2.heap.push (revObj p ((its.toArray.size : Int) - 1))).get? b = some o := fun b o e => Heap.get?_push_of_some _ e
  have I3 : Inv X pins σ H2 { s2 with heap := s2.heap.push (revObj p ((its.toArray.size : Int) - 1)) } := I2.kept (t' := s2.toks) k0
  obtain ⟨f0, f1, f2, f3, f4, f5⟩ := I2.fpOk (H' := H2) (b := s2.heap.objs.size) (Nat.le_refl _) (I2.hok.fresh (Nat.le_refl _))
  have hl := pl.isList
  obtain ⟨ol, hol, _⟩ := id hl
  have hne : p ≠ s2.heap.objs.size := Nat.ne_of_lt (Heap.lt_size hol)
  refine Calls.spliced_nil (join_rev (s := { s2 with heap := s2.heap.push (revObj p ((its.toArray.size : Int) - 1)) }) (ys := ys.reverse) (I2.ok.hd hc) ⟨_, Heap.get?_push_size _ rfl, rfl, rfl⟩ (hl.push _) hne (by rw [List.size_toArray, ← rv.length]; exact hsz) (fun acc hacc => ?_) ?_ fun h' k t' hk => ?_)
  · have q := RT.vals_rev rv hacc
    rw [← List.map_reverse] at q
    exact strs_of_vals q
  · rw [List.map_reverse, List.sum_reverse, List.length_reverse]; exact hz
  · exact ⟨.str _, H2, I3.turned (t' := k) (fun b o hb e => hk b o hb e) f0 f1 f3 f4 f5, ⟨t', rfl⟩, q⟩
def joinRP (z : Str) (y : D) (P : D → Prop) : Prop := ∃ xs ys, lstOf y = some xs ∧ strsOf xs = some ys ∧ (ys.map (·.length)).sum + ys.length * z.length ≤ 16777216 ∧ P (.str (Txt.join z ys.reverse))
def pJoinR (pa pb : PTE) : PTE := fun env P => pa env (asS fun z => pb env fun y => joinRP z y P)
theorem pu_joinRev {apos p2 pos2 : Pos} (hc : X.calm = true) (ho : PuE X a pa) (he : PuO X b pb) (hm : X.mg "reversed" = none) (hg : Gl X "reversed" := by rfl) (hs : starEach [b] X.env = (false, eval b X.env) :: starEach [] X.env := by rfl)
    (hs1 : starEach [.Call (.Name "reversed" p2) [b] [] pos2] X.env = [(false, eval (.Call (.Name "reversed" p2) [b] [] pos2) X.env)] := by rfl)
    (hbase : attributeBase a "join" X.env (eval a X.env) = eval a X.env := by rfl) (hline : (apos.endLine == pos.line) = true := by rfl) :
    PuE X (.Call (.Attribute a "join" apos) [.Call (.Name "reversed" p2) [b] [] pos2] [] pos) (pJoinR pa pb) := by
  obtain ⟨t, h1, h2⟩ := ho.ex
  obtain ⟨u, g1, g2⟩ := he.ex
  refine ⟨_, pe_joinRev hc h1 g1 hm hg hs hs1 hbase hline, fun G H env σ P Q ok hp k => h2 G H env σ _ _ ok hp fun x v G1 H1 e1 r1 q1 => ?_⟩
  obtain ⟨z, rfl, q1⟩ := asS_rep r1 q1
  refine ⟨⟨z, rfl⟩, g2 G1 H1 env σ _ _ (ok.ext e1) q1 fun y w G2 H2 e2 r2 q2 => ?_⟩
  obtain ⟨xs, ys, i1, i2, hz, q2⟩ := q2
  obtain ⟨l, ws, rfl, hl, rr⟩ := r2.sql e2.s i1
  have ew := reps_strs rr i2
  subst ew
  exact ⟨z, l, ys, rfl, rfl, hl, hz, k _ _ G2 H2 (e1.trans e2) (.str _) q2⟩
end
end PL
end

section
set_option linter.all false
set_option maxRecDepth 100000
set_option maxHeartbeats 4000000
set_option autoImplicit false
/-! PL7: defs by their place in the text, callees, keywords, chains. -/
namespace PL
open PySem PySem.Spec PyProof.Rows L2

/-- a def of the text, without defaults -/
abbrev FnP (K : PySem.W.Frag) (x : Str) (st : Stmt) (f : Addr) (fd : FuncData) : Prop := FunD K x x (defArgs st) (defBody st) (defScope st) [] [] f fd
/-- THE RULE for a def over data -/
theorem pfnD {P : Program} {w : World} {K : PySem.W.Frag} {mg : MG} {base : Heap} {x : Str} {st : Stmt} {f : Addr} {fd : FuncData} {N ns : List Str} {k : Nat} {sp : PSp} {p : PTS} (F : FnP K x st f fd) (S : FnScope N ns (defScope st)) (hlen : ∀ ds P, sp ds P → ds.length = ns.length)
    (hbody : ∀ (cdv : Value) (A : Around) (outer : List Env) (s : Shared) (H : Hp) (E : XK), Room k (A.deeper (envOfC x (defScope st) s.heap.objs.size f cdv)) →
      PuSs (cxOf CX0 P w K mg base N x (defScope st) f cdv A outer s H E).nox (defBody st) p) (hp : ∀ ds Q, sp ds Q → p { nx := fun _ => Q .non, rt := Q } (startC N ds)) : FnOk P w K mg base CX0 (k + 1) f fd ns (spP K mg sp) := by
  refine FunD.ok F S (fun vs H Q E h => ?_) (fun cdv A outer s H vs Q E hr h => ?_)
  · obtain ⟨G, ds, P', _, r, q, _⟩ := h
    rw [r.length]; exact hlen ds P' q
  · obtain ⟨G, ds, P', sm, r, q, kk⟩ := h
    obtain ⟨t, t1, t2⟩ := (hbody cdv A outer s H E hr).ex
    refine ⟨t, t1.nox, t2 G H G H _ _ { nx := fun _ => P' .non, rt := P' } _ ⟨start_ok sm r, .refl sm, fun i d l q => ?_⟩ ⟨?_, ?_, ?_, ?_, fun _ _ _ _ _ _ _ _ z => z.elim, ⟨_, tk0, fun _ _ _ _ _ _ _ _ _ _ _ _ _ _ _ z => z.elim⟩⟩ (hp ds P' q)⟩
    · intro s1
      exfalso
      unfold startC at q
      by_cases hk : i < ds.length
      · rw [List.getElem?_append_left (by simpa using hk), List.getElem?_map] at q
        cases e : ds[i]? with
        | none => rw [e] at q; cases q
        | some d => rw [e] at q; cases q
      · rw [List.getElem?_append_right (by simpa using hk), List.getElem?_replicate] at q
        split at q <;> cases q
    · intro G' H' env σ r' z
      exact kk .non .non G' H' r'.ext .non z
    · intro G' H' env σ r' z; exact z
    · intro G' H' env σ r' z; exact z
    · intro G' H' d v x rp z
      exact kk d v G' H' x rp z

/-- a def that may be called -/
structure Cal (P : Program) (w : World) (K : PySem.W.Frag) (mg : MG) (base : Heap) (x : Str) (ns : List Str) (k : Nat) (f : Addr) (fd : FuncData) (sp : PSp) : Prop where
  ok : FnOk P w K mg base CX0 k f fd ns (spP K mg sp)
  mg : mg x = some (.ref f)
  kp : PySem.W.keepIn K (.ref f) = true
  b : Binds K fd ns []
theorem Room.u65 {k : Nat} {A : Around} (r : Room k A) : A.units + 65 < cLine := by have := r.un; omega
section
variable {X : Cx} {e a b c : Expr} {es : List Expr} {pa pb pc : PTE} {ps : PTA} {pos p' : Pos}
theorem pu_c {x : Str} {ns : List Str} {k k' : Nat} {f : Addr} {fd : FuncData} {sp : PSp} (C : Cal X.prog X.w X.K X.mg X.base x ns k f fd sp) (hr : Room k' X.A) (h : PuA X (e :: es) ps) (hk : k ≤ k' := by decide) (hg : Gl X x := by rfl)
    (hdb : (x == ("__debug__" : Str)) = false := by decide) (he : starEach (e :: es) X.env = (false, eval e X.env) :: starEach es X.env := by rfl) (hpl : (backTo pos (starEach es X.env)).any (·.1) = false := by rfl) :
    PuE X (.Call (.Name x p') (e :: es) [] pos) (pCall sp ps) := pu_call C.ok (hr.mono hk) C.mg C.kp C.b h hg hdb he hpl
theorem pu_c0 {x : Str} {ns : List Str} {k k' : Nat} {f : Addr} {fd : FuncData} {sp : PSp} (C : Cal X.prog X.w X.K X.mg X.base x ns k f fd sp) (hr : Room k' X.A) (hk : k ≤ k' := by decide) (hg : Gl X x := by rfl)
    (hdb : (x == ("__debug__" : Str)) = false := by decide) : PuE X (.Call (.Name x p') [] [] pos) (pCall sp paNil) := pu_call0 C.ok (hr.mono hk) C.mg C.kp C.b hg hdb
theorem pu_cK {x : Str} {ns ks : List Str} {n m k k' : Nat} {f : Addr} {fd : FuncData} {sp : PSp} {kws : List Keyword} {qs : PTA} {gD : List D → List D → List D} (C : Cal X.prog X.w X.K X.mg X.base x ns k f fd sp) (hb : PKB X.K fd ns n ks gD) (hr : Room k' X.A) (h : PuA X (e :: es) ps) (hkw : PuK X kws qs) (hml : ks.length = m := by rfl) (hk : k ≤ k' := by decide) (hg : Gl X x := by rfl)
    (hall : (backToKw pos (keywordEach kws X.env)).all (·.1.isSome) = true := by rfl) (hks : (backToKw pos (keywordEach kws X.env)).filterMap (·.1) = ks := by rfl)
    (hdb : (x == ("__debug__" : Str)) = false := by decide) (he : starEach (e :: es) X.env = (false, eval e X.env) :: starEach es X.env := by rfl)
    (hpl : ((backTo pos (starEach (e :: es) X.env)).any (·.1) || (backToKw pos (keywordEach kws X.env)).any (·.1.isNone)) = false := by rfl) :
    PuE X (.Call (.Name x p') (e :: es) kws pos) (pCallK sp n m gD ps qs) := pu_callK C.ok (hr.mono hk) C.mg C.kp hb hml h hkw hg hall hks hdb he hpl
theorem pu_cK0 {x : Str} {ns ks : List Str} {m k k' : Nat} {f : Addr} {fd : FuncData} {sp : PSp} {kws : List Keyword} {qs : PTA} {gD : List D → List D → List D} (C : Cal X.prog X.w X.K X.mg X.base x ns k f fd sp) (hb : PKB X.K fd ns 0 ks gD) (hr : Room k' X.A) (hkw : PuK X kws qs) (hml : ks.length = m := by rfl) (hk : k ≤ k' := by decide) (hg : Gl X x := by rfl)
    (hall : (backToKw pos (keywordEach kws X.env)).all (·.1.isSome) = true := by rfl) (hks : (backToKw pos (keywordEach kws X.env)).filterMap (·.1) = ks := by rfl)
    (hdb : (x == ("__debug__" : Str)) = false := by decide) (hpl : ((backTo pos (starEach [] X.env)).any (·.1) || (backToKw pos (keywordEach kws X.env)).any (·.1.isNone)) = false := by rfl) :
    PuE X (.Call (.Name x p') [] kws pos) (pCallK sp 0 m gD paNil qs) := pu_callK0 C.ok (hr.mono hk) C.mg C.kp hb hml hkw hg hall hks hdb hpl

/-! ### a < b < c -/
def pChainT (f g : BinP) (pa pb pc : PTE) : PTT := fun env P => pa env fun x => pb env fun y => f x y (asB fun k => if k = true then pc env fun z => g y z (asB P) else P false)
theorem put_chain {op op' : CmpOp} {r r' : R2} {f g : BinP} (ho : OpR X (compareOp op) r) (hf : BinOk X r f) (ho' : OpR X (compareOp op') r') (hg : BinOk X r' g) (ha : PuO X a pa) (hb : PuO X b pb) (hc : PuO X c pc)
    (hm : lastMarks [op, op'] [b, c] = false := by with_unfolding_all rfl) : PuT X (.Compare a [op, op'] [b, c] pos) (pChainT f g pa pb pc) := by
  obtain ⟨ta, a1, a2⟩ := ha.ex
  obtain ⟨tb, b1, b2⟩ := hb.ex
  obtain ⟨tc, c1, c2⟩ := hc.ex
  refine ⟨_, pt_chain ho ho' a1 b1 c1 hm, fun G H env σ P Q ok hp k => ?_⟩
  refine a2 G H env σ _ _ ok hp fun x v G1 H1 e1 r1 q1 => ?_
  refine b2 G1 H1 env σ _ _ (ok.ext e1) q1 fun y w G2 H2 e2 r2 q2 => ?_
  refine hf G2 H2 v w x y _ _ e2.s (r1.mono e2.h e2.g) r2 q2 fun d u G3 H3 e3 r3 q3 => ?_
  obtain ⟨kk, rfl, z⟩ := asB_rep r3 q3
  refine ⟨kk, rfl, ?_⟩
  cases kk with
  | false => exact ⟨false, rfl, k false G3 H3 ((e1.trans e2).trans e3) z⟩
  | true =>
    refine c2 G3 H3 env σ _ _ (((ok.ext e1).ext e2).ext e3) z fun z' u G4 H4 e4 r4 q4 => ?_
    refine hg G4 H4 w u y z' _ _ e4.s ((r2.mono e3.h e3.g).mono e4.h e4.g) r4 q4 fun d u2 G5 H5 e5 r5 q5 => ?_
    obtain ⟨b5, rfl, z5⟩ := asB_rep r5 q5
    exact ⟨b5, rfl, k b5 G5 H5 ((((e1.trans e2).trans e3).trans e4).trans e5) z5⟩

/-! ### new lists by + and * -/
def catP : BinP := fun x y P => match x, y with
  | .lst xs, .lst ys => xs.length + ys.length ≤ sizeLine ∧ P (.lst (xs ++ ys))
  | _, _ => False
theorem puf_cat (ha : PuO X a pa) (hb : PuO X b pb) : PuF X (.BinOp a .Add b pos) (pBin catP pa pb) := by
  obtain ⟨ta, a1, a2⟩ := ha.ex
  obtain ⟨tb, b1, b2⟩ := hb.ex
  refine ⟨_, pe_op op_cat a1 b1, fun G H env σ P Q ok hp k => ?_⟩
  refine a2 G H env σ _ _ ok hp fun x v G1 H1 e1 r1 q1 => ?_
  refine b2 G1 H1 env σ _ _ (ok.ext e1) q1 fun y w G2 H2 e2 r2 q2 => ?_
  have r1' := r1.mono e2.h e2.g
  unfold catP at q2
  split at q2
  · obtain ⟨l, vs, rfl, t1, s1⟩ := r1'.lst e2.s
    obtain ⟨m, ws, rfl, t2, s2⟩ := r2.lst e2.s
    exact ⟨_, _, vs, ws, rfl, rfl, t1, t2, by rw [s1.length, s2.length]; exact q2.1, fun p hn => k _ p G2 _ ((e1.trans e2).trans (Ext.newH e2.s hn)) (.lst upd_same (s1.append s2)) (e2.s.free hn) ((e1.trans e2).h.free hn) q2.2⟩
  · exact q2.elim
def repP : BinP := fun x y P => match x, y with
  | .lst xs, .int k => -(2 ^ 63) ≤ k ∧ k < 2 ^ 63 ∧ xs.length * k.toNat ≤ sizeLine ∧ P (.lst (List.replicate k.toNat xs).flatten)
  | _, _ => False
theorem puf_rep (ha : PuO X a pa) (hb : PuO X b pb) : PuF X (.BinOp a .Mult b pos) (pBin repP pa pb) := by
  obtain ⟨ta, a1, a2⟩ := ha.ex
  obtain ⟨tb, b1, b2⟩ := hb.ex
  refine ⟨_, pe_op op_rep a1 b1, fun G H env σ P Q ok hp k => ?_⟩
  refine a2 G H env σ _ _ ok hp fun x v G1 H1 e1 r1 q1 => ?_
  refine b2 G1 H1 env σ _ _ (ok.ext e1) q1 fun y w G2 H2 e2 r2 q2 => ?_
  have r1' := r1.mono e2.h e2.g
  unfold repP at q2
  split at q2
  · obtain ⟨l, vs, rfl, t1, s1⟩ := r1'.lst e2.s
    cases r2.int
    exact ⟨_, _, vs, rfl, rfl, t1, q2.1, q2.2.1, by rw [s1.length]; exact q2.2.2.1, fun p hn => k _ p G2 _ ((e1.trans e2).trans (Ext.newH e2.s hn)) (.lst upd_same (s1.rep _)) (e2.s.free hn) ((e1.trans e2).h.free hn) q2.2.2.2⟩
  · exact q2.elim
/-- {} -/
def pDk : PTE := fun _ P => P (.dk [])
def pDt : PTE := fun _ P => P (.dt [])
theorem puf_dk : PuF X (.Dict [] [] pos) pDk := ⟨_, pe_dnewK, fun G H env σ P Q ok hp k p hn => k _ p G _ (Ext.newH ok.same hn) (.dk upd_same .nil) (ok.same.free hn) hn hp⟩
theorem puf_dt : PuF X (.Dict [] [] pos) pDt := ⟨_, pe_dnewT, fun G H env σ P Q ok hp k p hn => k _ p G _ (Ext.newH ok.same hn) (.dt upd_same .nil) (ok.same.free hn) hn hp⟩
end

/-! ### keywords by places -/
def pickL {α : Type} (pick : List Nat) (us ws : List α) : List α := pick.filterMap fun i => (us ++ ws)[i]?
theorem Vals.pick {vs : List V} {us : List Value} (r : Vals vs us) : ∀ pick : List Nat, Vals (pick.filterMap fun i => vs[i]?) (pick.filterMap fun i => us[i]?)
  | [] => .nil
  | i :: is => by
    rw [List.filterMap_cons, List.filterMap_cons]
    cases e : vs[i]? with
    | none =>
      rw [r.none_of e]
      exact Vals.pick r is
    | some v =>
      obtain ⟨u, e2, q⟩ := r.get e
      rw [e2]
      exact .cons q (Vals.pick r is)
theorem Reps.pick {K : PySem.W.Frag} {mg : MG} {G : Hp} {vs : List V} {ds : List D} (r : Reps K mg G vs ds) : ∀ pick : List Nat, Reps K mg G (pick.filterMap fun i => vs[i]?) (pick.filterMap fun i => ds[i]?)
  | [] => .nil
  | i :: is => by
    rw [List.filterMap_cons, List.filterMap_cons]
    cases e : vs[i]? with
    | none =>
      have : ds[i]? = none := by
        rw [List.getElem?_eq_none_iff] at e ⊢
        rw [← r.length]; exact e
      rw [this]
      exact Reps.pick r is
    | some v =>
      obtain ⟨d, e2, q⟩ := r.get e
      rw [e2]
      exact .cons q (Reps.pick r is)
theorem FunD.pkb {K : PySem.W.Frag} {x qual : Str} {params : Arguments} {body : List Stmt} {scope : Scope} {f : Addr} {fd : FuncData} {ns : List Str} (F : FunD K x qual params body scope [] [] f fd) (n : Nat) (ks : List Str) (pick : List Nat)
    (h : ∀ (kV doc pm : Value) (an : Option Addr) (cdv ct : Value) (us ws : List Value), us.length = n → ws.length = ks.length → bindArgs (PySem.W.fnOf x qual params body scope .none kV doc pm an cdv ct) ⟨us, ks.zip ws⟩ = pure (ns.zip (pickL pick us ws))) :
    PKB K fd ns n ks (pickL pick) := by
  obtain ⟨oc, od, dV, kV, doc, pm, an, cdv, ct, osl, rfl, lk, hcd, hD, hK⟩ := F.ex
  rcases hD with ⟨_, rfl⟩ | ⟨e, _⟩
  · refine ⟨pickL pick, pickL pick, ⟨fun s us ws _ l1 l2 => .of_eq (h kV doc pm an cdv ct us ws l1 l2), fun r1 r2 => Vals.pick (r1.append r2) pick⟩, fun mg G vs zs ds es r1 r2 _ _ => Reps.pick (r1.append r2) pick⟩
  · exact absurd rfl e
end PL
end

section
set_option linter.all false
set_option maxRecDepth 100000
set_option maxHeartbeats 4000000
set_option autoImplicit false
/-! PL8: the law's entry, a module's texts. -/
namespace PL
open PySem PySem.Spec PyProof.Rows L2
theorem law_entry {K : PySem.W.Frag} {mg : MG} {sp : PSp} {H : Hp} {a : Addr} {ns : List Int} {E : XK} (hS : SqL K H a (ns.map V.int)) (h : sp [.scr (ns.map D.int)] fun d => d = .bl true) : spP K mg sp [.ref a] H (fun v _ => v = .bl true) E :=
  ⟨H, _, _, Same.refl _, .cons (.scr hS (Reps.ofInts ns)) .nil, h, fun d v G' H' _ r e => by subst e; cases r; rfl⟩
section
variable {X : Cx} {pos : Pos}
theorem pu_gstr {x z : Str} (h : ∃ t, X.mg x = some (.str z t)) (hg : Gl X x := by rfl) (hd : (x == ("__debug__" : Str)) = false := by decide) : PuE X (.Name x pos) (pC (.str z)) := by
  obtain ⟨t, h⟩ := h
  exact pu_glob (v := .str z) h ⟨t, rfl⟩ (fun _ => .str z) hg hd
end
end PL
end

section
set_option linter.all false
set_option maxRecDepth 100000
set_option maxHeartbeats 4000000
set_option autoImplicit false
/-! PL9: reading a body over data. -/
namespace PL
open PySem PySem.Spec PyProof.Rows L2

theorem for_r {lo : Int} {n : Nat} {g : PTG} {body : PTS} {PD : PEnds} {env : List C} (W : Nat → List C → Prop) (h0 : W 0 env)
    (hs : ∀ (k : Nat) (env : List C), k < n → W k env → g (.int (lo + k)) env fun e => body { nx := W (k + 1), ct := W (k + 1), bk := PD.nx, rt := PD.rt, er := PD.er } e) (hd : ∀ env, W n env → PD.nx env) : forP (sqR lo n) g body PD env :=
  ⟨W, h0, fun k d env hk ob w => by cases ob; exact hs k env hk w, hd⟩
theorem for_l {ds : List D} {g : PTG} {body : PTS} {PD : PEnds} {env : List C} (W : Nat → List C → Prop) (h0 : W 0 env)
    (hs : ∀ (k : Nat) (d : D) (env : List C), ds[k]? = some d → W k env → g d env fun e => body { nx := W (k + 1), ct := W (k + 1), bk := PD.nx, rt := PD.rt, er := PD.er } e) (hd : ∀ env, W ds.length env → PD.nx env) : forP (sqL ds) g body PD env :=
  ⟨W, h0, fun k d env _ ob w => hs k d env ob w, hd⟩
/-- over a list of data that stand for things of a type -/
theorem for_m {α : Type} {f : α → D} {xs : List α} {g : PTG} {body : PTS} {PD : PEnds} {env : List C} (W : Nat → List C → Prop) (h0 : W 0 env)
    (hs : ∀ (k : Nat) (x : α) (env : List C), xs[k]? = some x → W k env → g (f x) env fun e => body { nx := W (k + 1), ct := W (k + 1), bk := PD.nx, rt := PD.rt, er := PD.er } e) (hd : ∀ env, W xs.length env → PD.nx env) : forP (sqL (xs.map f)) g body PD env :=
  for_l W h0 (fun k d env hk w => by
    rw [List.getElem?_map] at hk
    cases e : xs[k]? with
    | none => rw [e] at hk; cases hk
    | some x => rw [e] at hk; cases hk; exact hs k x env e w) (fun env w => hd env (by simpa using w))
/-- a comprehension's body, folded (pLc over S) -/
def LcP (S : Sq) (vs : List Nat) (g : PTG) (pt : PTT) (pe : PTE) (env : List C) (P : D → Prop) : Prop := ∃ W : Nat → List D → Prop, W 0 [] ∧
  (∀ k d acc, k < S.n → S.ob k d → W k acc → g d (wipeC env vs) fun env2 => pt env2 fun b => if b = true then pe env2 fun y => acc.length < sizeLine ∧ W (k + 1) (acc ++ [y]) else W (k + 1) acc) ∧
  ∀ acc, W S.n acc → P (.lst acc)
theorem pLc_eq (pi : PTI) (vs : List Nat) (g : PTG) (pt : PTT) (pe : PTE) (env : List C) (P : D → Prop) : pLc pi vs g pt pe env P = pi env fun S => LcP S vs g pt pe env P := rfl
/-- one more item -/
structure Snoc (f : Nat → D) (k : Nat) (y : D) : Prop where
  e : y = f k
/-- over a range: item k is f k -/
theorem lc_r {lo : Int} {n : Nat} {vs : List Nat} {g : PTG} {pt : PTT} {pe : PTE} {env : List C} {P : D → Prop} (f : Nat → D) (hn : n ≤ sizeLine)
    (hs : ∀ (k : Nat) (R : D → Prop), k < n → R (f k) → g (.int (lo + k)) (wipeC env vs) fun env2 => pt env2 fun b => if b = true then pe env2 R else False)
    (hg : ∀ d e (A B : List C → Prop), (∀ x, A x → B x) → g d e A → g d e B) (hpt : ∀ e (A B : Bool → Prop), (∀ b, A b → B b) → pt e A → pt e B)
    (hd : P (.lst ((List.range n).map f))) : LcP (sqR lo n) vs g pt pe env P := by
  refine ⟨fun k acc => acc = (List.range k).map f, rfl, ?_, ?_⟩
  · rintro k d acc hk ob rfl
    cases ob
    have hk : k < n := hk
    refine hg _ _ _ _ (fun x hx => ?_) (hs k (fun y => ((List.range k).map f).length < sizeLine ∧ ((List.range k).map f ++ [y]) = (List.range (k + 1)).map f) hk ⟨by simp; omega, ?_⟩)
    · refine hpt _ _ _ (fun b hb => ?_) hx
      split at hb
      · rename_i h; subst h; rw [if_pos rfl]; exact hb
      · exact hb.elim
    · rw [List.range_succ, List.map_append]; rfl
  · rintro acc rfl; exact hd
theorem lc_l {ds : List D} {vs : List Nat} {g : PTG} {pt : PTT} {pe : PTE} {env : List C} {P : D → Prop} (f : D → D) (hn : ds.length ≤ sizeLine)
    (hs : ∀ (k : Nat) (d : D) (R : D → Prop), ds[k]? = some d → R (f d) → g d (wipeC env vs) fun env2 => pt env2 fun b => if b = true then pe env2 R else False)
    (hg : ∀ d e (A B : List C → Prop), (∀ x, A x → B x) → g d e A → g d e B) (hpt : ∀ e (A B : Bool → Prop), (∀ b, A b → B b) → pt e A → pt e B)
    (hd : P (.lst (ds.map f))) : LcP (sqL ds) vs g pt pe env P := by
  refine ⟨fun k acc => acc = (ds.take k).map f, by simp, ?_, ?_⟩
  · rintro k d acc hk ob rfl
    have hk : k < ds.length := hk
    have ob : ds[k]? = some d := ob
    refine hg _ _ _ _ (fun x hx => ?_) (hs k d (fun y => ((ds.take k).map f).length < sizeLine ∧ ((ds.take k).map f ++ [y]) = (ds.take (k + 1)).map f) ob ⟨by simp; omega, ?_⟩)
    · refine hpt _ _ _ (fun b hb => ?_) hx
      split at hb
      · rename_i h; subst h; rw [if_pos rfl]; exact hb
      · exact hb.elim
    · rw [List.take_add_one, ob, List.map_append]; rfl
  · rintro acc rfl
    show P (.lst ((ds.take ds.length).map f))
    rw [List.take_length]; exact hd
theorem pgN_mono (i : Nat) : ∀ d e (A B : List C → Prop), (∀ x, A x → B x) → pgN i d e A → pgN i d e B := fun _ _ _ _ h => h _
theorem pYes_mono : ∀ e (A B : Bool → Prop), (∀ b, A b → B b) → pYes e A → pYes e B := fun _ _ _ h => h _

/-! ### == of lists of ints, of texts -/
theorem flats_ints (ns : List Int) : flats (ns.map D.int) = true := by
  induction ns with
  | nil => rfl
  | cons n ns ih => exact ih
theorem toPys_ints (ns : List Int) : toPys (ns.map D.int) = ns.map PyData.int := by
  induction ns with
  | nil => rfl
  | cons n ns ih => show PyData.int n :: toPys (ns.map D.int) = _; rw [ih]; rfl
theorem lay_ints (ns : List Int) : PyData.canLayAll0 (ns.map PyData.int) = true := by
  induction ns with
  | nil => rfl
  | cons n ns ih => show (PyData.canLay0 (.int n) && PyData.canLayAll0 (ns.map PyData.int)) = true; rw [ih]; rfl
theorem depth_ints (ns : List Int) : PyData.depthAll (ns.map PyData.int) ≤ 1 := by
  induction ns with
  | nil => simp [PyData.depthAll]
  | cons n ns ih =>
    simp only [List.map_cons, PyData.depthAll, PyData.depth]
    omega
theorem cmpOk_ints (ns : List Int) : cmpOk (.lst (ns.map D.int)) = true := by
  have h1 : flat (.lst (ns.map D.int)) = true := flats_ints ns
  have h2 : SeqAt.shaped (toPy (.lst (ns.map D.int))) = true := by
    show (PyData.canLay0 (.list (toPys (ns.map D.int))) && decide (PyData.depth (.list (toPys (ns.map D.int))) ≤ 64)) = true
    rw [toPys_ints, Bool.and_eq_true]
    have := depth_ints ns
    exact ⟨lay_ints ns, decide_eq_true (by simp only [PyData.depth]; omega)⟩
  unfold cmpOk
  rw [h1, h2]; rfl
theorem eqv_ints (ns ms : List Int) : PyData.eqvAll (ns.map PyData.int) (ms.map PyData.int) = decide (ns = ms) := by
  induction ns generalizing ms with
  | nil => cases ms <;> simp [PyData.eqvAll]
  | cons n ns ih =>
    cases ms with
    | nil => simp [PyData.eqvAll]
    | cons m ms =>
      simp only [List.map_cons, PyData.eqvAll, PyData.eqv, ih]
      by_cases h : n = m
      · subst h; simp
      · simp [h]
theorem cmpOk_int (n : Int) : cmpOk (.int n) = true := rfl
/-- n in a list of ints -/
theorem hasP_ints (n : Int) (ns : List Int) : hasP (.int n) (ns.map D.int) = decide (n ∈ ns) := by
  unfold hasP
  rw [toPys_ints, List.any_map]
  show (ns.any fun z => PyData.eqv (.int z) (.int n)) = _
  simp only [PyData.eqv]
  induction ns with
  | nil => rfl
  | cons m ns ih =>
    rw [List.any_cons, ih]
    by_cases h : m = n
    · subst h; simp
    · have : ¬ n = m := fun e => h e.symm
      have hb : (m == n) = false := by simpa using h
      rw [hb]
      simp [this]
end PL
end

section
set_option linter.all false
set_option maxRecDepth 100000
set_option maxHeartbeats 4000000
set_option autoImplicit false
/-! PL10: plain facts the bodies lean on. -/
namespace PL
open PySem PySem.Spec PyProof.Rows L2

theorem rowE (r : List Int) (x : Int) : r.map D.int ++ [D.int x] = (r ++ [x]).map D.int := by rw [List.map_append]; rfl
theorem rowS (r : List Str) (x : Str) : r.map D.str ++ [D.str x] = (r ++ [x]).map D.str := by rw [List.map_append]; rfl
/-- each figure below its size -/
inductive Digs : List Int → List Int → Prop
  | nil : Digs [] []
  | cons {r s : Int} {rs ss : List Int} (h0 : 0 ≤ r) (h1 : r < s) (t : Digs rs ss) : Digs (r :: rs) (s :: ss)
theorem Digs.length {rs ss : List Int} (h : Digs rs ss) : rs.length = ss.length := by
  induction h with
  | nil => rfl
  | cons _ _ _ ih => simp [ih]
theorem Digs.of : ∀ {rs ss : List Int}, rs.length = ss.length → (∀ (i : Nat) (r s : Int), rs[i]? = some r → ss[i]? = some s → 0 ≤ r ∧ r < s) → Digs rs ss
  | [], [], _, _ => .nil
  | [], _ :: _, h, _ => by simp at h
  | _ :: _, [], h, _ => by simp at h
  | r :: rs, s :: ss, h, k => .cons (k 0 r s rfl rfl).1 (k 0 r s rfl rfl).2 (Digs.of (by simpa using h) fun i x y hx hy => k (i + 1) x y hx hy)
theorem Digs.at {rs ss : List Int} (h : Digs rs ss) : ∀ {i : Nat} {r s : Int}, rs[i]? = some r → ss[i]? = some s → 0 ≤ r ∧ r < s := by
  induction h with
  | nil => intro i r s hr; cases hr
  | cons h0 h1 _ ih =>
    intro i r s hr hs
    cases i with
    | zero => cases hr; cases hs; exact ⟨h0, h1⟩
    | succ i => exact ih hr hs
/-- the items so far -/
def DigsK (k : Nat) (rs ss : List Int) : Prop := rs.length = k ∧ ∀ (i : Nat) (r s : Int), rs[i]? = some r → ss[i]? = some s → 0 ≤ r ∧ r < s
theorem DigsK.nil (ss : List Int) : DigsK 0 [] ss := ⟨rfl, fun i r s h => by cases h⟩
theorem DigsK.snoc {k : Nat} {rs ss : List Int} {r s : Int} (h : DigsK k rs ss) (hs : ss[k]? = some s) (h0 : 0 ≤ r) (h1 : r < s) : DigsK (k + 1) (rs ++ [r]) ss := by
  refine ⟨by simp [h.1], fun i r' s' hr hs' => ?_⟩
  by_cases hi : i < rs.length
  · rw [List.getElem?_append_left hi] at hr
    exact h.2 i r' s' hr hs'
  · have hlt : i < (rs ++ [r]).length := (List.getElem?_eq_some_iff.mp hr).1
    rw [List.length_append, List.length_singleton] at hlt
    have e : i = k := by have := h.1; omega
    subst e
    rw [hs] at hs'; cases hs'
    rw [show i = rs.length from h.1.symm, List.getElem?_concat_length] at hr
    cases hr
    exact ⟨h0, h1⟩
theorem DigsK.done {rs ss : List Int} (h : DigsK ss.length rs ss) : Digs rs ss := Digs.of h.1 h.2
theorem atI_map {α β : Type} (f : α → β) {xs : List α} {j : Nat} {x : α} (h : xs[j]? = some x) : atI (xs.map f) (j : Int) = some (f x) := atI_nat (by rw [List.getElem?_map, h]; rfl)
theorem atI_mapI {α β : Type} (f : α → β) {xs : List α} {i : Int} (h0 : 0 ≤ i) (h1 : i < xs.length) : ∃ x, x ∈ xs ∧ xs[i.toNat]? = some x ∧ atI (xs.map f) i = some (f x) := by
  obtain ⟨j, rfl⟩ := Int.eq_ofNat_of_zero_le h0
  have hj : j < xs.length := by omega
  refine ⟨xs[j], List.getElem_mem hj, ?_, atI_map f (List.getElem?_eq_getElem hj)⟩
  simp [hj]
/-- 2 ^ k, cast -/
theorem cdivw {i j : Int} (a : Nat) (h0 : 0 < j) (h : j < 2 ^ a) (ha : a ≤ 8999) : CDivW i j := by
  refine ⟨h0, ?_⟩
  have e : j.natAbs ≠ 0 := by omega
  have hp : ((2 : Int) ^ a) = ((2 ^ a : Nat) : Int) := by simp
  have hl : j.natAbs < 2 ^ a := by omega
  have := (Nat.log2_lt e).mpr hl
  omega
theorem natAbs_lt_pow {j : Int} {a : Nat} (h0 : 0 ≤ j) (h : j < 2 ^ a) : j.natAbs < 2 ^ a := by
  have hp : ((2 : Int) ^ a) = ((2 ^ a : Nat) : Int) := by simp
  omega
theorem cmul_pow {i j : Int} (a b : Nat) (h0 : 0 ≤ i) (h : i < 2 ^ a) (h1 : 0 ≤ j) (h2 : j < 2 ^ b) (ha : a + b ≤ 134217728) : CMulX i j := mulx_ok (natAbs_lt_pow h0 h) (natAbs_lt_pow h1 h2) ha
theorem cpow18 : CPow 10 18 := by unfold CPow; decide
/-- of n options, the bits -/
def lw (m : Int) : Nat := Builtin.Int.intBits (m - 1)
theorem lw_le {m : Int} {w : Nat} (h : 1 ≤ m) : lw m ≤ w ↔ m ≤ 2 ^ w := by
  unfold lw
  have hp : ((2 : Int) ^ w) = ((2 ^ w : Nat) : Int) := by simp
  constructor
  · intro e
    have h2 : (m - 1).natAbs < 2 ^ w := by
      unfold Builtin.Int.intBits at e
      split at e
      · rename_i z
        have : m - 1 = 0 := by simpa using z
        rw [this]; simp [Nat.two_pow_pos]
      · rename_i z
        have z : m - 1 ≠ 0 := by simpa using z
        exact (Nat.log2_lt (by omega)).mp (by omega)
    omega
  · intro e
    exact intBits_le (by omega)

/-! ### a number as a text of w bits -/
def bitC (n : Int) : Nat := if n % 2 = 1 then 49 else 48
def numL (n : Int) : Nat → List Nat
  | 0 => []
  | w + 1 => numL (n / 2) w ++ [bitC n]
def numS (n : Int) (w : Nat) : Str := ⟨(numL n w).toArray⟩
theorem numL_len (w : Nat) : ∀ n : Int, (numL n w).length = w := by
  induction w with
  | zero => intro n; rfl
  | succ w ih => intro n; simp [numL, ih]
theorem numS_len (n : Int) (w : Nat) : (numS n w).length = w := by
  show (numL n w).toArray.size = w
  simp [numL_len]
theorem numS_tl (n : Int) (w : Nat) : (numS n w).cps.toList = numL n w := by simp [numS]
def valL (xs : List Nat) : Int := xs.foldl (fun v c => v * 2 + if c = 49 then 1 else 0) 0
theorem valL_snoc (xs : List Nat) (c : Nat) : valL (xs ++ [c]) = valL xs * 2 + if c = 49 then 1 else 0 := by simp [valL, List.foldl_append]
theorem numL_bits (w : Nat) : ∀ (n : Int) (c : Nat), c ∈ numL n w → c = 48 ∨ c = 49 := by
  induction w with
  | zero => intro n c h; cases h
  | succ w ih =>
    intro n c h
    simp only [numL, List.mem_append, List.mem_singleton] at h
    rcases h with h | h
    · exact ih _ _ h
    · subst h; unfold bitC; split <;> simp
theorem valL_num (w : Nat) : ∀ n : Int, 0 ≤ n → n < 2 ^ w → valL (numL n w) = n := by
  induction w with
  | zero => intro n h0 h; simp at h; have : n = 0 := by omega
            subst this; rfl
  | succ w ih =>
    intro n h0 h
    have h' : n / 2 < 2 ^ w := by rw [Int.pow_succ] at h; omega
    simp only [numL, valL_snoc, ih (n / 2) (by omega) h', bitC]
    split
    · rw [if_pos rfl]; omega
    · rw [if_neg (by decide)]; omega
theorem lex_app {a b c d : List Nat} (h : a < b) (e : a.length = b.length) : a ++ c < b ++ d := by
  induction a generalizing b with
  | nil => cases b with
    | nil => exact absurd h (by simp)
    | cons y b => simp at e
  | cons x a ih => cases b with
    | nil => simp at e
    | cons y b =>
      rw [List.cons_lt_cons_iff] at h
      rw [List.cons_append, List.cons_append, List.cons_lt_cons_iff]
      rcases h with h | ⟨h1, h2⟩
      · exact .inl h
      · exact .inr ⟨h1, ih h2 (by simpa using e)⟩
theorem lex_same {a c d : List Nat} (h : c < d) : a ++ c < a ++ d := by
  induction a with
  | nil => exact h
  | cons x a ih => rw [List.cons_append, List.cons_append, List.cons_lt_cons_iff]; exact .inr ⟨rfl, ih⟩
theorem numL_lt (w : Nat) : ∀ n m : Int, 0 ≤ n → n < m → m < 2 ^ w → numL n w < numL m w := by
  induction w with
  | zero => intro n m h0 h1 h2; simp at h2; omega
  | succ w ih =>
    intro n m h0 h1 h2
    simp only [numL]
    by_cases e : n / 2 = m / 2
    · rw [e]
      apply lex_same
      have a : n % 2 = 0 := by omega
      have b : m % 2 = 1 := by omega
      rw [List.cons_lt_cons_iff]
      left
      simp [bitC, a, b]
    · refine lex_app (ih _ _ (by omega) (by omega) ?_) (by rw [numL_len, numL_len])
      rw [Int.pow_succ] at h2; omega
/-- texts of one sign each -/
theorem join_signs (cs : List Nat) : Txt.join (Str.ofString "") (cs.map fun c => (⟨#[c]⟩ : Str)) = ⟨cs.toArray⟩ := by
  rw [TL.join_eq]
  apply TL.ext_tl
  rw [TL.tl_join]
  show TL.joinL [] _ = cs
  induction cs with
  | nil => rfl
  | cons c cs ih =>
    cases cs with
    | nil => rfl
    | cons d cs => 
      show [c] ++ ([] ++ TL.joinL [] _) = _
      rw [show ((d :: cs).map fun c => (⟨#[c]⟩ : Str)).map TL.tl = TL.tl (⟨#[d]⟩ : Str) :: (cs.map fun c => (⟨#[c]⟩ : Str)).map TL.tl from rfl] at ih
      rw [ih]; rfl
/-- the figures, lowest first -/
def lowL (n : Int) : Nat → List Nat
  | 0 => []
  | k + 1 => lowL n k ++ [bitC (n / 2 ^ k)]
theorem lowL_len (n : Int) (k : Nat) : (lowL n k).length = k := by
  induction k with
  | zero => rfl
  | succ k ih => simp [lowL, ih]
theorem lowL_cons (n : Int) (k : Nat) : lowL n (k + 1) = bitC n :: lowL (n / 2) k := by
  induction k with
  | zero => simp [lowL]
  | succ k ih =>
    rw [lowL, ih, lowL]
    have e : n / 2 / 2 ^ k = n / 2 ^ (k + 1) := by
      rw [Int.ediv_ediv_of_nonneg (by omega), Int.pow_succ, Int.mul_comm]
    rw [e]; rfl
theorem lowL_rev (w : Nat) : ∀ n : Int, (lowL n w).reverse = numL n w := by
  induction w with
  | zero => intro n; rfl
  | succ w ih => intro n; rw [lowL_cons, List.reverse_cons, ih]; rfl
/-- over a list of things: item x gives f' x -/
theorem lc_m {α : Type} {f : α → D} {xs : List α} {vs : List Nat} {g : PTG} {pt : PTT} {pe : PTE} {env : List C} {P : D → Prop} (W : Nat → List D → Prop) (h0 : W 0 [])
    (hs : ∀ (k : Nat) (x : α) (acc : List D), xs[k]? = some x → W k acc → g (f x) (wipeC env vs) fun env2 => pt env2 fun b => if b = true then pe env2 fun y => acc.length < sizeLine ∧ W (k + 1) (acc ++ [y]) else W (k + 1) acc)
    (hd : ∀ acc, W xs.length acc → P (.lst acc)) : LcP (sqL (xs.map f)) vs g pt pe env P := by
  refine ⟨W, h0, fun k d acc _ ob w => ?_, fun acc w => hd acc (by have : W (xs.map f).length acc := w; rwa [List.length_map] at this)⟩
  have ob : (xs.map f)[k]? = some d := ob
  rw [List.getElem?_map] at ob
  cases e : xs[k]? with
  | none => rw [e] at ob; cases ob
  | some x => rw [e] at ob; cases ob; exact hs k x acc e w
theorem lc_n {lo : Int} {n : Nat} {vs : List Nat} {g : PTG} {pt : PTT} {pe : PTE} {env : List C} {P : D → Prop} (W : Nat → List D → Prop) (h0 : W 0 [])
    (hs : ∀ (k : Nat) (acc : List D), k < n → W k acc → g (.int (lo + k)) (wipeC env vs) fun env2 => pt env2 fun b => if b = true then pe env2 fun y => acc.length < sizeLine ∧ W (k + 1) (acc ++ [y]) else W (k + 1) acc)
    (hd : ∀ acc, W n acc → P (.lst acc)) : LcP (sqR lo n) vs g pt pe env P :=
  ⟨W, h0, fun k d acc hk ob w => by cases ob; exact hs k acc hk w, hd⟩
theorem pow2_le {a b : Nat} (h : a ≤ b) : (2 : Int) ^ a ≤ 2 ^ b := by
  have e1 : ((2 : Int) ^ a) = ((2 ^ a : Nat) : Int) := by simp
  have e2 : ((2 : Int) ^ b) = ((2 ^ b : Nat) : Int) := by simp
  have := Nat.pow_le_pow_right (n := 2) (by decide) h
  omega
theorem ipow_le {c d : Int} {a b : Nat} (h0 : 1 ≤ c) (hc : c ≤ d) (h : a ≤ b) : c ^ a ≤ d ^ b := by
  obtain ⟨c, rfl⟩ := Int.eq_ofNat_of_zero_le (show 0 ≤ c by omega)
  obtain ⟨d, rfl⟩ := Int.eq_ofNat_of_zero_le (show 0 ≤ d by omega)
  have e1 : ((c : Int) ^ a) = ((c ^ a : Nat) : Int) := by simp
  have e2 : ((d : Int) ^ b) = ((d ^ b : Nat) : Int) := by simp
  have h1 := Nat.pow_le_pow_left (show c ≤ d by omega) a
  have h2 := Nat.pow_le_pow_right (n := d) (show 0 < d by omega) h
  omega
theorem ipow_pos {c : Int} {a : Nat} (h0 : 1 ≤ c) : 1 ≤ c ^ a := by
  have := ipow_le (c := c) (d := c) (a := 0) (b := a) h0 (Int.le_refl _) (Nat.zero_le _)
  rwa [Int.pow_zero] at this
theorem take_snoc {α : Type} {xs : List α} {k : Nat} {x : α} (h : xs[k]? = some x) : xs.take (k + 1) = xs.take k ++ [x] := by rw [List.take_add_one, h]; rfl
theorem valL_bd (xs : List Nat) : ∀ (k : Nat) (v : Int), 0 ≤ v → v < 2 ^ k → 0 ≤ xs.foldl (fun v c => v * 2 + if c = 49 then 1 else 0) v ∧ xs.foldl (fun (v : Int) c => v * 2 + if c = 49 then 1 else 0) v < 2 ^ (k + xs.length) := by
  induction xs with
  | nil => intro k v h0 h1; exact ⟨h0, h1⟩
  | cons c xs ih =>
    intro k v h0 h1
    have e : (2 : Int) ^ (k + 1) = 2 ^ k * 2 := Int.pow_succ _ _
    have := ih (k + 1) (v * 2 + if c = 49 then 1 else 0) (by split <;> omega) (by split <;> omega)
    rw [List.length_cons, show k + (xs.length + 1) = k + 1 + xs.length by omega]
    exact this
theorem valL_lt (xs : List Nat) : 0 ≤ valL xs ∧ valL xs < 2 ^ xs.length := by
  have := valL_bd xs 0 0 (by decide) (by decide)
  rwa [Nat.zero_add] at this
theorem sum_ones {α : Type} (f : α → Str) (h : ∀ a, (f a).length = 1) (xs : List α) : ((xs.map f).map (·.length)).sum = xs.length := by
  induction xs with
  | nil => rfl
  | cons x xs ih => simp only [List.map_cons, List.sum_cons, ih, h, List.length_cons]; omega
theorem halves (n : Int) (k : Nat) : n / 2 ^ k / 2 = n / 2 ^ (k + 1) := by
  have : (0 : Int) ≤ 2 ^ k := by have := pow2_le (Nat.zero_le k); rw [Int.pow_zero] at this; omega
  rw [Int.ediv_ediv_of_nonneg this, Int.pow_succ]
theorem pairwise_lt {ms : List Int} (h : ms.Pairwise (· ≤ ·)) (hn : ms.Nodup) : ms.Pairwise (· < ·) := by
  induction ms with
  | nil => exact .nil
  | cons m ms ih =>
    rw [List.pairwise_cons] at h
    rw [List.nodup_cons] at hn
    rw [List.pairwise_cons]
    refine ⟨fun x hx => ?_, ih h.2 hn.2⟩
    have h1 := h.1 x hx
    have h2 : x ≠ m := fun e => hn.1 (e ▸ hx)
    omega
theorem range_lt (n : Nat) : ((List.range n).map fun (i : Nat) => (i : Int)).Pairwise (· < ·) := by
  rw [List.pairwise_map]
  exact List.pairwise_lt_range.imp (fun h => by omega)
theorem sizes_ok {l : List Int} (h : ∀ s ∈ l, 0 < s ∧ s ≤ 1000000000000) : ∀ s ∈ l, 0 < s ∧ s < 2 ^ 1000 := fun s hs => by
  have := pow2_le (a := 50) (b := 1000) (by decide)
  have := h s hs
  omega
theorem str_0 : Str.ofString "0" = ⟨#[48]⟩ := by decide +kernel
theorem str_1 : Str.ofString "1" = ⟨#[49]⟩ := by decide +kernel
theorem str_e : Str.ofString "" = ⟨#[]⟩ := by decide +kernel
theorem sgn1 {c d : Nat} : ((⟨#[c]⟩ : Str) = ⟨#[d]⟩) = (c = d) := by simp
end PL
end

section
set_option linter.all false
set_option maxRecDepth 100000
set_option maxHeartbeats 4000000
set_option autoImplicit false
/-! PL11: the readings at known data, one equation each (printed by a small program of ours). -/
namespace PL
open PySem PySem.Spec PyProof.Rows L2
theorem isiE {d : D} {n T : String} {b : Bool} {P : D → Prop} (h1 : tyName d = some n) (h2 : kitB n T = some b) : (∃ n b, tyName d = some n ∧ kitB n T = some b ∧ P (.bl b)) = P (.bl b) := by
  refine propext ⟨fun ⟨m, c, e1, e2, p⟩ => ?_, fun p => ⟨_, _, h1, h2, p⟩⟩
  rw [h1] at e1; cases e1
  rw [h2] at e2; cases e2
  exact p
theorem ixE {ds : List D} {i : Int} {x : D} {P : D → Prop} (h : atI ds i = some x) : (∃ d, atI ds i = some d ∧ P d) = P x := by rw [h]; exact propext ⟨fun ⟨d, e, p⟩ => by cases e; exact p, fun p => ⟨x, rfl, p⟩⟩
theorem ixE_0 {x0 : D} {l : List D} {P : D → Prop} : (∃ d, atI (x0 :: l) 0 = some d ∧ P d) = P x0 := ixE (atI_nat (j := 0) rfl)
theorem ixE_1 {x0 x1 : D} {l : List D} {P : D → Prop} : (∃ d, atI (x0 :: x1 :: l) 1 = some d ∧ P d) = P x1 := ixE (atI_nat (j := 1) rfl)
theorem ixE_2 {x0 x1 x2 : D} {l : List D} {P : D → Prop} : (∃ d, atI (x0 :: x1 :: x2 :: l) 2 = some d ∧ P d) = P x2 := ixE (atI_nat (j := 2) rfl)
theorem ixE_3 {x0 x1 x2 x3 : D} {l : List D} {P : D → Prop} : (∃ d, atI (x0 :: x1 :: x2 :: x3 :: l) 3 = some d ∧ P d) = P x3 := ixE (atI_nat (j := 3) rfl)
theorem ixE_4 {x0 x1 x2 x3 x4 : D} {l : List D} {P : D → Prop} : (∃ d, atI (x0 :: x1 :: x2 :: x3 :: x4 :: l) 4 = some d ∧ P d) = P x4 := ixE (atI_nat (j := 4) rfl)
theorem ixE_5 {x0 x1 x2 x3 x4 x5 : D} {l : List D} {P : D → Prop} : (∃ d, atI (x0 :: x1 :: x2 :: x3 :: x4 :: x5 :: l) 5 = some d ∧ P d) = P x5 := ixE (atI_nat (j := 5) rfl)
theorem ixE_6 {x0 x1 x2 x3 x4 x5 x6 : D} {l : List D} {P : D → Prop} : (∃ d, atI (x0 :: x1 :: x2 :: x3 :: x4 :: x5 :: x6 :: l) 6 = some d ∧ P d) = P x6 := ixE (atI_nat (j := 6) rfl)
theorem ixE_7 {x0 x1 x2 x3 x4 x5 x6 x7 : D} {l : List D} {P : D → Prop} : (∃ d, atI (x0 :: x1 :: x2 :: x3 :: x4 :: x5 :: x6 :: x7 :: l) 7 = some d ∧ P d) = P x7 := ixE (atI_nat (j := 7) rfl)
theorem ixE_8 {x0 x1 x2 x3 x4 x5 x6 x7 x8 : D} {l : List D} {P : D → Prop} : (∃ d, atI (x0 :: x1 :: x2 :: x3 :: x4 :: x5 :: x6 :: x7 :: x8 :: l) 8 = some d ∧ P d) = P x8 := ixE (atI_nat (j := 8) rfl)
def isiD (T : String) (d : D) (P : D → Prop) : Prop := ∃ n b, tyName d = some n ∧ kitB n T = some b ∧ P (.bl b)
theorem inP_l {neg : Bool} {x : D} {ys : List D} {P : D → Prop} : inP neg x (.lst ys) P = (cmpOk x = true ∧ cmpOk (.lst ys) = true ∧ P (.bl (hasP x ys != neg))) := rfl
theorem isiP_eq {T : String} {p : PTE} {env : List C} {P : D → Prop} : isiP T p env P = p env fun d => isiD T d P := rfl
theorem addP_i {P : D → Prop} {i j : Int} : addP (.int i) (.int j) P = (P (.int (i + j))) := rfl
theorem addP_s {P : D → Prop} {i j : Str} : addP (.str i) (.str j) P = (i.length + j.length ≤ sizeLine ∧ P (.str (i ++ j))) := rfl
theorem addP_t {P : D → Prop} {i j : List D} : addP (.tup i) (.tup j) P = (i ≠ [] ∧ i.length + j.length ≤ sizeLine ∧ P (.tup (i ++ j))) := rfl
theorem addP_l {P : D → Prop} {i j : List D} : addP (.lst i) (.lst j) P = (i.length + j.length ≤ sizeLine ∧ P (.lst (i ++ j))) := rfl
theorem catP_l {P : D → Prop} {i j : List D} : catP (.lst i) (.lst j) P = (i.length + j.length ≤ sizeLine ∧ P (.lst (i ++ j))) := rfl
theorem subP_i {P : D → Prop} {i j : Int} : subP (.int i) (.int j) P = (P (.int (i - j))) := rfl
theorem mulP_i {P : D → Prop} {i j : Int} : mulP (.int i) (.int j) P = (CMulX i j ∧ P (.int (i * j))) := rfl
theorem mulP_l {P : D → Prop} {i : List D} {j : Int} : mulP (.lst i) (.int j) P = (-(2 ^ 63) ≤ j ∧ j < 2 ^ 63 ∧ i.length * j.toNat ≤ sizeLine ∧ P (.lst (List.replicate j.toNat i).flatten)) := rfl
theorem mulP_s {P : D → Prop} {i : Str} {j : Int} : mulP (.str i) (.int j) P = (-(2 ^ 63) ≤ j ∧ j < 2 ^ 63 ∧ i.length * j.toNat ≤ sizeLine ∧ P (.str (repS i j.toNat))) := rfl
theorem repP_l {P : D → Prop} {i : List D} {j : Int} : repP (.lst i) (.int j) P = (-(2 ^ 63) ≤ j ∧ j < 2 ^ 63 ∧ i.length * j.toNat ≤ sizeLine ∧ P (.lst (List.replicate j.toNat i).flatten)) := rfl
theorem fdivP_i {P : D → Prop} {i j : Int} : fdivP (.int i) (.int j) P = (CDivW i j ∧ P (.int (i / j))) := rfl
theorem modP_i {P : D → Prop} {i j : Int} : modP (.int i) (.int j) P = (0 < j ∧ P (.int (i % j))) := rfl
theorem powP_i {P : D → Prop} {i j : Int} : powP (.int i) (.int j) P = (CPow i j ∧ P (.int (i ^ j.toNat))) := rfl
theorem ltP_i {P : D → Prop} {i j : Int} : ltP (.int i) (.int j) P = (P (.bl (decide (i < j)))) := rfl
theorem ltP_s {P : D → Prop} {i j : Str} : ltP (.str i) (.str j) P = (P (.bl (decide (i.cps.toList < j.cps.toList)))) := rfl
theorem gtP_i {P : D → Prop} {i j : Int} : gtP (.int i) (.int j) P = (P (.bl (decide (j < i)))) := rfl
theorem gtP_s {P : D → Prop} {i j : Str} : gtP (.str i) (.str j) P = (P (.bl (decide (j.cps.toList < i.cps.toList)))) := rfl
theorem leP_i {P : D → Prop} {i j : Int} : leP (.int i) (.int j) P = (P (.bl (decide (i ≤ j)))) := rfl
theorem leP_s {P : D → Prop} {i j : Str} : leP (.str i) (.str j) P = (P (.bl (!decide (j.cps.toList < i.cps.toList)))) := rfl
theorem geP_i {P : D → Prop} {i j : Int} : geP (.int i) (.int j) P = (P (.bl (decide (j ≤ i)))) := rfl
theorem geP_s {P : D → Prop} {i j : Str} : geP (.str i) (.str j) P = (P (.bl (!decide (i.cps.toList < j.cps.toList)))) := rfl
theorem eqP_int {P : D → Prop} {i j : Int} : eqP (.int i) (.int j) P = (P (.bl (decide (i = j)))) := rfl
theorem eqP_str {P : D → Prop} {i j : Str} : eqP (.str i) (.str j) P = (P (.bl (decide (i = j)))) := rfl
theorem eqP_bl {P : D → Prop} {i j : Bool} : eqP (.bl i) (.bl j) P = (P (.bl (decide (i = j)))) := rfl
theorem eqP_lst_lst {P : D → Prop} {i j : List D} : eqP (.lst i) (.lst j) P = (cmpOk (.lst i) = true ∧ cmpOk (.lst j) = true ∧ P (.bl (PyData.eqv (toPy (.lst i)) (toPy (.lst j))))) := rfl
theorem eqP_tup_tup {P : D → Prop} {i j : List D} : eqP (.tup i) (.tup j) P = (cmpOk (.tup i) = true ∧ cmpOk (.tup j) = true ∧ P (.bl (PyData.eqv (toPy (.tup i)) (toPy (.tup j))))) := rfl
theorem eqP_lst_tup {P : D → Prop} {i j : List D} : eqP (.lst i) (.tup j) P = (cmpOk (.lst i) = true ∧ cmpOk (.tup j) = true ∧ P (.bl (PyData.eqv (toPy (.lst i)) (toPy (.tup j))))) := rfl
theorem eqP_tup_lst {P : D → Prop} {i j : List D} : eqP (.tup i) (.lst j) P = (cmpOk (.tup i) = true ∧ cmpOk (.lst j) = true ∧ P (.bl (PyData.eqv (toPy (.tup i)) (toPy (.lst j))))) := rfl
theorem neP_int {P : D → Prop} {i j : Int} : neP (.int i) (.int j) P = (P (.bl (!decide (i = j)))) := rfl
theorem neP_str {P : D → Prop} {i j : Str} : neP (.str i) (.str j) P = (P (.bl (!decide (i = j)))) := rfl
theorem neP_bl {P : D → Prop} {i j : Bool} : neP (.bl i) (.bl j) P = (P (.bl (!decide (i = j)))) := rfl
theorem neP_lst_lst {P : D → Prop} {i j : List D} : neP (.lst i) (.lst j) P = (cmpOk (.lst i) = true ∧ cmpOk (.lst j) = true ∧ P (.bl (!PyData.eqv (toPy (.lst i)) (toPy (.lst j))))) := rfl
theorem neP_tup_tup {P : D → Prop} {i j : List D} : neP (.tup i) (.tup j) P = (cmpOk (.tup i) = true ∧ cmpOk (.tup j) = true ∧ P (.bl (!PyData.eqv (toPy (.tup i)) (toPy (.tup j))))) := rfl
theorem neP_lst_tup {P : D → Prop} {i j : List D} : neP (.lst i) (.tup j) P = (cmpOk (.lst i) = true ∧ cmpOk (.tup j) = true ∧ P (.bl (!PyData.eqv (toPy (.lst i)) (toPy (.tup j))))) := rfl
theorem neP_tup_lst {P : D → Prop} {i j : List D} : neP (.tup i) (.lst j) P = (cmpOk (.tup i) = true ∧ cmpOk (.lst j) = true ∧ P (.bl (!PyData.eqv (toPy (.tup i)) (toPy (.lst j))))) := rfl
theorem asB_b {P : Bool → Prop} {b : Bool} : asB P (.bl b) = (P b) := rfl
theorem asS_s {P : Str → Prop} {b : Str} : asS P (.str b) = (P b) := rfl
theorem lenP_lst {P : D → Prop} {xs : List D} : lenP [.lst xs] P = (P (.int (xs.length : Nat))) := rfl
theorem itP_lst {P : Sq → Prop} {xs : List D} : itP P (.lst xs) = (P (sqL xs)) := rfl
theorem ixP_lst {P : D → Prop} {xs : List D} {i : Int} : ixP (.lst xs) (.int i) P = (∃ d, atI xs i = some d ∧ P d) := rfl
theorem listP_lst_ {P : D → Prop} {xs : List D} : listP [.lst xs] P = (∃ ys, itemsOf (.lst xs) = some ys ∧ P (.lst ys)) := rfl
theorem tupleP_lst_ {P : D → Prop} {xs : List D} : tupleP [.lst xs] P = (∃ ys, itemsOf (.lst xs) = some ys ∧ P (.tup ys)) := rfl
theorem sumP_lst_ {P : D → Prop} {xs : List D} : sumP [.lst xs] P = (∃ ys ns, lstOf (.lst xs) = some ys ∧ intsOf ys = some ns ∧ P (.int ns.sum)) := rfl
theorem maxP_lst_ {P : D → Prop} {xs : List D} : maxP [.lst xs] P = (∃ ys ns, lstOf (.lst xs) = some ys ∧ intsOf ys = some ns ∧ 0 < ns.length ∧ ∀ m, m ∈ ns → (∀ y, y ∈ ns → y ≤ m) → P (.int m)) := rfl
theorem minP_lst_ {P : D → Prop} {xs : List D} : minP [.lst xs] P = (∃ ys ns, lstOf (.lst xs) = some ys ∧ intsOf ys = some ns ∧ 0 < ns.length ∧ ∀ m, m ∈ ns → (∀ y, y ∈ ns → m ≤ y) → P (.int m)) := rfl
theorem lenP_tup {P : D → Prop} {xs : List D} : lenP [.tup xs] P = (P (.int (xs.length : Nat))) := rfl
theorem itP_tup {P : Sq → Prop} {xs : List D} : itP P (.tup xs) = (P (sqL xs)) := rfl
theorem ixP_tup {P : D → Prop} {xs : List D} {i : Int} : ixP (.tup xs) (.int i) P = (∃ d, atI xs i = some d ∧ P d) := rfl
theorem listP_tup_ {P : D → Prop} {xs : List D} : listP [.tup xs] P = (∃ ys, itemsOf (.tup xs) = some ys ∧ P (.lst ys)) := rfl
theorem tupleP_tup_ {P : D → Prop} {xs : List D} : tupleP [.tup xs] P = (∃ ys, itemsOf (.tup xs) = some ys ∧ P (.tup ys)) := rfl
theorem sumP_tup_ {P : D → Prop} {xs : List D} : sumP [.tup xs] P = (∃ ys ns, lstOf (.tup xs) = some ys ∧ intsOf ys = some ns ∧ P (.int ns.sum)) := rfl
theorem maxP_tup_ {P : D → Prop} {xs : List D} : maxP [.tup xs] P = (∃ ys ns, lstOf (.tup xs) = some ys ∧ intsOf ys = some ns ∧ 0 < ns.length ∧ ∀ m, m ∈ ns → (∀ y, y ∈ ns → y ≤ m) → P (.int m)) := rfl
theorem minP_tup_ {P : D → Prop} {xs : List D} : minP [.tup xs] P = (∃ ys ns, lstOf (.tup xs) = some ys ∧ intsOf ys = some ns ∧ 0 < ns.length ∧ ∀ m, m ∈ ns → (∀ y, y ∈ ns → m ≤ y) → P (.int m)) := rfl
theorem lenP_scr {P : D → Prop} {xs : List D} : lenP [.scr xs] P = (P (.int (xs.length : Nat))) := rfl
theorem itP_scr {P : Sq → Prop} {xs : List D} : itP P (.scr xs) = (P (sqL xs)) := rfl
theorem ixP_scr {P : D → Prop} {xs : List D} {i : Int} : ixP (.scr xs) (.int i) P = (∃ d, atI xs i = some d ∧ P d) := rfl
theorem listP_scr_ {P : D → Prop} {xs : List D} : listP [.scr xs] P = (∃ ys, itemsOf (.scr xs) = some ys ∧ P (.lst ys)) := rfl
theorem tupleP_scr_ {P : D → Prop} {xs : List D} : tupleP [.scr xs] P = (∃ ys, itemsOf (.scr xs) = some ys ∧ P (.tup ys)) := rfl
theorem sumP_scr_ {P : D → Prop} {xs : List D} : sumP [.scr xs] P = (∃ ys ns, lstOf (.scr xs) = some ys ∧ intsOf ys = some ns ∧ P (.int ns.sum)) := rfl
theorem maxP_scr_ {P : D → Prop} {xs : List D} : maxP [.scr xs] P = (∃ ys ns, lstOf (.scr xs) = some ys ∧ intsOf ys = some ns ∧ 0 < ns.length ∧ ∀ m, m ∈ ns → (∀ y, y ∈ ns → y ≤ m) → P (.int m)) := rfl
theorem minP_scr_ {P : D → Prop} {xs : List D} : minP [.scr xs] P = (∃ ys ns, lstOf (.scr xs) = some ys ∧ intsOf ys = some ns ∧ 0 < ns.length ∧ ∀ m, m ∈ ns → (∀ y, y ∈ ns → m ≤ y) → P (.int m)) := rfl
theorem lenP_str {P : D → Prop} {z : Str} : lenP [.str z] P = (z.length ≤ sizeLine ∧ P (.int (z.length : Nat))) := rfl
theorem lenP_dk {P : D → Prop} {z : List (Key × D)} : lenP [.dk z] P = (P (.int (z.length : Nat))) := rfl
theorem itP_str {P : Sq → Prop} {xs : Str} : itP P (.str xs) = (P (sqL (signs xs))) := rfl
theorem ixP_str {P : D → Prop} {z : Str} {i : Int} : ixP (.str z) (.int i) P = (z.length ≤ sizeLine ∧ ∃ c, atI z.cps.toList i = some c ∧ P (.str ⟨#[c]⟩)) := rfl
theorem intP_i {P : D → Prop} {i : Int} : intP [.int i] P = (P (.int i)) := rfl
theorem intP_b {P : D → Prop} {k : Bool} : intP [.bl k] P = (P (.int (if k then 1 else 0))) := rfl
theorem rg1_i {P : Sq → Prop} {i : Int} : rg1 P (.int i) = (PL.inR i ∧ P (sqR 0 i.toNat)) := rfl
theorem rg2_i {P : Sq → Prop} {i j : Int} : rg2 P (.int i) (.int j) = ((PL.inR i ∧ PL.inR j) ∧ P (sqR i (j - i).toNat)) := rfl
theorem lr1_i {P : D → Prop} {n : Int} : lr1 P (.int n) = (RgOk 0 n ∧ P (.lst ((List.range n.toNat).map fun (i : Nat) => D.int (i : Int)))) := rfl
theorem lr2_i {P : D → Prop} {m n : Int} : lr2 P (.int m) (.int n) = (RgOk m n ∧ P (.lst ((List.range (n - m).toNat).map fun (i : Nat) => D.int (m + (i : Int))))) := rfl
theorem maxP_2 {P : D → Prop} {i j : Int} : maxP [.int i, .int j] P = (P (.int (max i j))) := rfl
theorem maxP_3 {P : D → Prop} {i j k : Int} : maxP [.int i, .int j, .int k] P = (P (.int (max (max i j) k))) := rfl
theorem minP_2 {P : D → Prop} {i j : Int} : minP [.int i, .int j] P = (P (.int (min i j))) := rfl
theorem minP_3 {P : D → Prop} {i j k : Int} : minP [.int i, .int j, .int k] P = (P (.int (min (min i j) k))) := rfl
theorem slP_lst {P : D → Prop} {ds : List D} {lo hi : Option Int} : slP (.lst ds) lo hi P = (P (.lst (cutD ds lo hi))) := rfl
theorem slP_tup {P : D → Prop} {ds : List D} {lo hi : Option Int} : slP (.tup ds) lo hi P = (P (.tup (cutD ds lo hi))) := rfl
theorem slP_str {P : D → Prop} {ds : Str} {lo hi : Option Int} : slP (.str ds) lo hi P = (ds.length ≤ sizeLine ∧ P (.str (cutS ds lo hi))) := rfl
theorem slPL_lst {P : D → Prop} {ds : List D} {lo hi : Option Int} : slPL (.lst ds) lo hi P = (P (.lst (cutD ds lo hi))) := rfl
theorem pgTup_l {n : Nat} {h : PTGs} {ds : List D} {env : List C} {P : List C → Prop} : pgTup n h (.lst ds) env P = (ds.length = n ∧ h ds env P) := rfl
theorem pgsCons_c {g : PTG} {h : PTGs} {d : D} {r : List D} {env : List C} {P : List C → Prop} : pgsCons g h (d :: r) env P = (g d env fun env' => h r env' P) := rfl
theorem pgsNil_n {env : List C} {P : List C → Prop} : pgsNil [] env P = P env := rfl
theorem pgTup_t {n : Nat} {h : PTGs} {ds : List D} {env : List C} {P : List C → Prop} : pgTup n h (.tup ds) env P = (ds.length = n ∧ h ds env P) := rfl
theorem isi_non_int {P : D → Prop} : isiD "int" (.non : D) P = P (.bl false) := isiE rfl (by decide)
theorem isi_non_bool {P : D → Prop} : isiD "bool" (.non : D) P = P (.bl false) := isiE rfl (by decide)
theorem isi_non_str {P : D → Prop} : isiD "str" (.non : D) P = P (.bl false) := isiE rfl (by decide)
theorem isi_non_list {P : D → Prop} : isiD "list" (.non : D) P = P (.bl false) := isiE rfl (by decide)
theorem isi_non_tuple {P : D → Prop} : isiD "tuple" (.non : D) P = P (.bl false) := isiE rfl (by decide)
theorem isi_bl_int {P : D → Prop} {z : Bool} : isiD "int" (.bl z) P = P (.bl true) := isiE rfl (by decide)
theorem isi_bl_bool {P : D → Prop} {z : Bool} : isiD "bool" (.bl z) P = P (.bl true) := isiE rfl (by decide)
theorem isi_bl_str {P : D → Prop} {z : Bool} : isiD "str" (.bl z) P = P (.bl false) := isiE rfl (by decide)
theorem isi_bl_list {P : D → Prop} {z : Bool} : isiD "list" (.bl z) P = P (.bl false) := isiE rfl (by decide)
theorem isi_bl_tuple {P : D → Prop} {z : Bool} : isiD "tuple" (.bl z) P = P (.bl false) := isiE rfl (by decide)
theorem isi_int_int {P : D → Prop} {z : Int} : isiD "int" (.int z) P = P (.bl true) := isiE rfl (by decide)
theorem isi_int_bool {P : D → Prop} {z : Int} : isiD "bool" (.int z) P = P (.bl false) := isiE rfl (by decide)
theorem isi_int_str {P : D → Prop} {z : Int} : isiD "str" (.int z) P = P (.bl false) := isiE rfl (by decide)
theorem isi_int_list {P : D → Prop} {z : Int} : isiD "list" (.int z) P = P (.bl false) := isiE rfl (by decide)
theorem isi_int_tuple {P : D → Prop} {z : Int} : isiD "tuple" (.int z) P = P (.bl false) := isiE rfl (by decide)
theorem isi_str_int {P : D → Prop} {z : Str} : isiD "int" (.str z) P = P (.bl false) := isiE rfl (by decide)
theorem isi_str_bool {P : D → Prop} {z : Str} : isiD "bool" (.str z) P = P (.bl false) := isiE rfl (by decide)
theorem isi_str_str {P : D → Prop} {z : Str} : isiD "str" (.str z) P = P (.bl true) := isiE rfl (by decide)
theorem isi_str_list {P : D → Prop} {z : Str} : isiD "list" (.str z) P = P (.bl false) := isiE rfl (by decide)
theorem isi_str_tuple {P : D → Prop} {z : Str} : isiD "tuple" (.str z) P = P (.bl false) := isiE rfl (by decide)
theorem isi_tup_int {P : D → Prop} {z : List D} : isiD "int" (.tup z) P = P (.bl false) := isiE rfl (by decide)
theorem isi_tup_bool {P : D → Prop} {z : List D} : isiD "bool" (.tup z) P = P (.bl false) := isiE rfl (by decide)
theorem isi_tup_str {P : D → Prop} {z : List D} : isiD "str" (.tup z) P = P (.bl false) := isiE rfl (by decide)
theorem isi_tup_list {P : D → Prop} {z : List D} : isiD "list" (.tup z) P = P (.bl false) := isiE rfl (by decide)
theorem isi_tup_tuple {P : D → Prop} {z : List D} : isiD "tuple" (.tup z) P = P (.bl true) := isiE rfl (by decide)
theorem isi_lst_int {P : D → Prop} {z : List D} : isiD "int" (.lst z) P = P (.bl false) := isiE rfl (by decide)
theorem isi_lst_bool {P : D → Prop} {z : List D} : isiD "bool" (.lst z) P = P (.bl false) := isiE rfl (by decide)
theorem isi_lst_str {P : D → Prop} {z : List D} : isiD "str" (.lst z) P = P (.bl false) := isiE rfl (by decide)
theorem isi_lst_list {P : D → Prop} {z : List D} : isiD "list" (.lst z) P = P (.bl true) := isiE rfl (by decide)
theorem isi_lst_tuple {P : D → Prop} {z : List D} : isiD "tuple" (.lst z) P = P (.bl false) := isiE rfl (by decide)
theorem joinRP_l {z : Str} {xs : List Str} {P : D → Prop} : joinRP z (.lst (xs.map D.str)) P = ((xs.map (·.length)).sum + xs.length * z.length ≤ 16777216 ∧ P (.str (Txt.join z xs.reverse))) := by
  refine propext ⟨fun ⟨a, b, h1, h2, h⟩ => ?_, fun h => ⟨_, _, rfl, strsOf_map xs, h⟩⟩
  cases h1
  rw [strsOf_map] at h2; cases h2
  exact h
end PL
end

section
set_option linter.all false
set_option maxRecDepth 100000
set_option maxHeartbeats 4000000
set_option autoImplicit false
/-! PL12: repr of a number. -/
namespace PL
open PySem PySem.Spec PyProof.Rows L2
section
variable {X : Cx} {e a b : Expr} {pa pb : PTE} {pos p' : Pos}
def reprP : PSp := fun ds P => match ds with
  | [.int i] => i.natAbs.log2 < 1920 ∧ P (.str (toString i))
  | [.str x] => (PySem.reprText x).length ≤ sizeLine ∧ P (.str (PySem.reprText x))
  | _ => False
theorem cr_reprS : CallR X (.builtin "repr") (fun xs H Q => ∃ x : Str, xs = [.str x] ∧ (PySem.reprText x).length ≤ sizeLine ∧ Q (.str (PySem.reprText x)) H) := by
  intro pins s σ H xs us Q I r h
  obtain ⟨x, rfl, hz, q⟩ := h
  obtain ⟨u, rfl, t, rfl⟩ := vals1 r
  exact PySem.P.repr_of_str ⟨.str _, H, I.tok _, ⟨_, rfl⟩, q⟩ hz
theorem reprP_ok : CallOk X (fun xs H Q => (∃ i, xs = [.int i] ∧ i.natAbs.log2 < 1920 ∧ Q (.str (toString i)) H) ∨ ∃ x : Str, xs = [.str x] ∧ (PySem.reprText x).length ≤ sizeLine ∧ Q (.str (PySem.reprText x)) H) reprP := by
  intro G H vs ds P Q s rs h k
  unfold reprP at h
  split at h
  · obtain ⟨v, rfl, r⟩ := one_shal rs
    cases r.int
    exact .inl ⟨_, rfl, h.1, k _ _ G H (.refl s) (.str _) h.2⟩
  · obtain ⟨v, rfl, r⟩ := one_shal rs
    cases r.str
    exact .inr ⟨_, rfl, h.1, k _ _ G H (.refl s) (.str _) h.2⟩
  · exact h.elim
theorem reprP_s {P : D → Prop} {x : Str} : reprP [.str x] P = ((PySem.reprText x).length ≤ sizeLine ∧ P (.str (PySem.reprText x))) := rfl
theorem pu_repr (hm : X.mg "repr" = none) (h : PuO X a pa) (hs : starEach [a] X.env = (false, eval a X.env) :: starEach [] X.env := by rfl) (hg : Gl X "repr" := by rfl) : PuE X (.Call (.Name "repr" p') [a] [] pos) (pCall reprP (paCons pa paNil)) :=
  pu_bi (CallR.or SkE.call_repr_int cr_reprS) reprP_ok hm (puao_cons h puao_nil hs) hg (by decide +kernel) (by decide) (by decide) hs rfl
theorem reprP_i {P : D → Prop} {i : Int} : reprP [.int i] P = (i.natAbs.log2 < 1920 ∧ P (.str (toString i))) := rfl
theorem reprb {i : Int} (a : Nat) (h0 : 0 ≤ i) (h : i < 2 ^ a) (ha : a ≤ 1919) : i.natAbs.log2 < 1920 := by
  by_cases e : i.natAbs = 0
  · rw [e]; decide
  · have := (Nat.log2_lt e).mpr (natAbs_lt_pow h0 h)
    omega
/-- a statement behind which the ways meet again: J holds there -/
def pJn (p : PTS) : PTS := fun PD env => ∃ J : List C → Prop, p { PD with nx := J } env ∧ ∀ e, J e → PD.nx e
theorem pus_jn {st : Stmt} {p : PTS} (h : PuS X st p) : PuS X st (pJn p) := by
  obtain ⟨t, h1, h2⟩ := h.ex
  refine ⟨t, h1, fun G0 H0 G H env σ PD E r ok ⟨J, hp, hj⟩ => ?_⟩
  exact h2 G0 H0 G H env σ { PD with nx := J } E r ⟨fun G1 H1 env1 σ1 r1 z => ok.nx G1 H1 env1 σ1 r1 (hj env1 z), ok.bk, ok.ct, ok.rt, ok.ro, ok.er⟩ hp
theorem jn {p : PTS} {PD : PEnds} {env : List C} (J : List C → Prop) (h1 : p { PD with nx := J } env) (h2 : ∀ e, J e → PD.nx e) : pJn p PD env := ⟨J, h1, h2⟩
theorem setP_i {ds : List D} {i : Int} {v : D} {P : D → Prop} : setP (.lst ds) (.int i) v P = ∃ j, ixN ds.length i = some j ∧ P (.lst (ds.set j v)) :=
  propext ⟨fun ⟨k, j, e, h1, h2⟩ => by cases e; exact ⟨j, h1, h2⟩, fun ⟨j, h1, h2⟩ => ⟨_, j, rfl, h1, h2⟩⟩
theorem ixN_nat {n j : Nat} (h : j < n) : ixN n (j : Int) = some j := by
  unfold ixN
  rw [if_pos (by omega), if_pos (by omega)]; simp
theorem ixN_int {n : Nat} {i : Int} (h0 : 0 ≤ i) (h : i < n) : ixN n i = some i.toNat := by
  unfold ixN
  rw [if_pos h0, if_pos h]
theorem cutD_map {α : Type} (f : α → D) (xs : List α) (a b : Nat) (h : b ≤ xs.length) : cutD (xs.map f) (some (a : Int)) (some (b : Int)) = ((xs.drop a).take (b - a)).map f := by
  unfold cutD
  rw [HT.sIx_nat, HT.sIx_nat, List.length_map, Nat.min_eq_left h, List.map_take, List.map_drop]
  by_cases ha : a ≤ xs.length
  · rw [Nat.min_eq_left ha]
  · rw [Nat.min_eq_right (by omega), List.drop_of_length_le (by simp), List.drop_of_length_le (by simp; omega)]; simp
theorem cutD_from {α : Type} (f : α → D) (xs : List α) (a : Nat) : cutD (xs.map f) (some (a : Int)) none = (xs.drop a).map f := by
  unfold cutD
  rw [HT.sIx_nat, HT.sIx_none, List.length_map, List.map_drop]
  by_cases ha : a ≤ xs.length
  · rw [Nat.min_eq_left ha, List.take_of_length_le (by simp)]
  · rw [Nat.min_eq_right (by omega), List.drop_of_length_le (by simp), List.drop_of_length_le (by simp; omega)]; simp
theorem cutD_to {α : Type} (f : α → D) (xs : List α) (b : Nat) (h : b ≤ xs.length) : cutD (xs.map f) none (some (b : Int)) = (xs.take b).map f := by
  unfold cutD
  rw [HT.sIx_nat, HT.sIx_none, List.length_map, Nat.min_eq_left h, List.drop_zero, Nat.sub_zero, List.map_take]
theorem take4 {α : Type} {xs : List α} {a : Nat} {p q r s : α} (h0 : xs[a]? = some p) (h1 : xs[a + 1]? = some q) (h2 : xs[a + 2]? = some r) (h3 : xs[a + 3]? = some s) : (xs.drop a).take 4 = [p, q, r, s] := by
  apply List.ext_getElem?
  intro i
  rw [List.getElem?_take]
  match i with
  | 0 => rw [if_pos (by decide), List.getElem?_drop]; exact h0
  | 1 => rw [if_pos (by decide), List.getElem?_drop]; exact h1
  | 2 => rw [if_pos (by decide), List.getElem?_drop]; exact h2
  | 3 => rw [if_pos (by decide), List.getElem?_drop]; exact h3
  | i + 4 => rw [if_neg (by omega)]; rfl
theorem Digs.get {rs ss : List Int} (h : Digs rs ss) {i : Nat} {s : Int} (hs : ss[i]? = some s) : ∃ x, rs[i]? = some x ∧ 0 ≤ x ∧ x < s := by
  have hi : i < rs.length := by rw [h.length]; exact (List.getElem?_eq_some_iff.mp hs).1
  exact ⟨_, List.getElem?_eq_getElem hi, h.at (List.getElem?_eq_getElem hi) hs⟩
theorem atI_int {α β : Type} (f : α → β) {xs : List α} {i : Int} {x : α} (j : Nat) (e : i = (j : Int)) (h : xs[j]? = some x) : atI (xs.map f) i = some (f x) := by
  subst e; exact atI_map f h
end
end PL
end

section
set_option linter.all false
set_option maxRecDepth 100000
set_option maxHeartbeats 4000000
set_option autoImplicit false
/-! PL13: divmod, dict.get, list.reverse, loops over a dict (locked), calls that give a new cell. -/
namespace PL
open PySem PySem.Spec PyProof.Rows L2
section
variable {X : Cx} {e a b c : Expr} {es : List Expr} {pe pa pb pc : PTE} {ps : PTA} {pos p' : Pos}
/-! ### divmod -/
def divmodP : PSp := fun ds P => match ds with
  | [.int i, .int j] => CDiv i j ∧ P (.tup [.int (i / j), .int (i % j)])
  | _ => False
theorem divmodP_ok : CallOk X (fun xs H Q => ∃ i j, xs = [.int i, .int j] ∧ CDiv i j ∧ ∀ p, H p = none → Q (.ref p) (upd H p (.tup [.int (i / j), .int (i % j)]))) divmodP := by
  intro G H vs ds P Q s rs h k
  unfold divmodP at h
  split at h
  · obtain ⟨v, w, rfl, r, r2⟩ := two_shal rs
    cases r.int
    cases r2.int
    exact ⟨_, _, rfl, h.1, fun p hn => k _ _ _ _ (Ext.new s hn) (.tup upd_same (.cons (.int _) (.cons (.int _) .nil))) h.2⟩
  · exact h.elim
theorem pu_divmod (hm : X.mg "divmod" = none) (h : PuAO X [a, b] ps) (hs : starEach [a, b] X.env = (false, eval a X.env) :: starEach [b] X.env := by rfl) (hpl : (backTo pos (starEach [b] X.env)).any (·.1) = false := by rfl) (hg : Gl X "divmod" := by rfl) :
    PuE X (.Call (.Name "divmod" p') [a, b] [] pos) (pCall divmodP ps) := pu_bi call_divmod divmodP_ok hm h hg (by decide +kernel) (by decide) (by decide) hs hpl
theorem divmodP_i {P : D → Prop} {i j : Int} : divmodP [.int i, .int j] P = (CDiv i j ∧ P (.tup [.int (i / j), .int (i % j)])) := rfl

/-! ### d.get(k, x) -/
def isDk : D → Bool
  | .dk _ => true
  | .dt _ => true
  | _ => false
theorem Shal.isD {K : PySem.W.Frag} {mg : MG} {G H : Hp} {v : V} {d : D} (r : Shal K mg H G v d) (s : Same G H) (h : isDk d = true) : ∃ l, v = .ref l ∧ IsD H l := by
  cases d with
  | dk ds => obtain ⟨l, vs, rfl, e, _⟩ := r.dk s; exact ⟨l, rfl, .inl ⟨vs, e⟩⟩
  | dt ds => obtain ⟨l, vs, rfl, e, _⟩ := r.dt s; exact ⟨l, rfl, .inr ⟨vs, .inl e⟩⟩
  | _ => cases h
def getDP (x y z : D) (P : D → Prop) : Prop := ∃ o, getP x y = some o ∧ P (o.getD z)
def pGet (pa pb pc : PTE) : PTE := fun env P => pa env fun x => isDk x = true ∧ pb env fun y => pc env fun z => getDP x y z P
theorem pu_get {apos : Pos} (hu : X.A.units + 1 < cLine) (ho : PuO X a pa) (he : PuE X b pb) (hf : PuE X c pc) (m : M2 X a "get" apos b c pos := by exact ⟨rfl, rfl, rfl, rfl⟩) :
    PuE X (.Call (.Attribute a "get" apos) [b, c] [] pos) (pGet pa pb pc) := by
  obtain ⟨ta, a1, a2⟩ := ho.ex
  obtain ⟨tb, b1, b2⟩ := he.ex
  obtain ⟨tc, c1, c2⟩ := hf.ex
  refine ⟨_, pe_dget2 hu a1 b1 c1 m, fun G H env σ P Q ok hp k => ?_⟩
  refine a2 G H env σ _ _ ok hp fun x v G1 H1 e1 r1 q1 => ?_
  obtain ⟨l, rfl, d1⟩ := r1.isD e1.s q1.1
  refine ⟨l, rfl, d1, b2 G1 H1 env σ _ _ (ok.ext e1) q1.2 fun y w G2 H2 e2 r2 q2 => ?_⟩
  refine c2 G2 H2 env σ _ _ ((ok.ext e1).ext e2) q2 fun z u G3 H3 e3 r3 q3 => ?_
  obtain ⟨o, e4, q4⟩ := q3
  obtain ⟨l', el, g⟩ := Shal.dget e3.s ((r1.mono e2.h e2.g).mono e3.h e3.g) (r2.mono e3.g) e4
  cases el
  have x3 := (e1.trans e2).trans e3
  rcases g with ⟨rfl, g⟩ | ⟨z', u', rfl, g, r4⟩
  · exact ⟨none, g, k _ _ G3 H3 x3 r3 q4⟩
  · exact ⟨some u', g, k _ _ G3 H3 x3 r4 q4⟩

/-! ### x.reverse() -/
def pRevS (i : Nat) : PTS := fun PD env => match env[i]? with
  | some (.ow (.lst ds)) => PD.nx (env.set i (.ow (.lst ds.reverse)))
  | _ => False
theorem pus_rev (i : Nat) {x : Str} {apos npos p1 : Pos}
    (hs : PS X (.Expr (.Call (.Attribute (.Name x npos) "reverse" apos) [] [] p1) pos) (tDrop (tBM0 X.K "list" rReverse (tVar i))) := by exact ps_expr (pe_bm0 PySem.F.plainAttrs_list PySem.F.slot_list_reverse PySem.F.type_list_reverse mt_reverse (pv _))) :
    PuS X (.Expr (.Call (.Attribute (.Name x npos) "reverse" apos) [] [] p1) pos) (pRevS i) := by
  refine ⟨_, hs, fun G0 H0 G H env σ PD E r ok hp => ?_⟩
  unfold pRevS at hp
  split at hp
  · rename_i ds hi
    obtain ⟨l, hl, tp, n⟩ := r.ok.slot i _ hi
    cases tp with
    | lst hH rs =>
      refine ⟨.ref l, hl, .inl ⟨rfl, _, SqL.of hH⟩, l, _, rfl, rfl, hH, ?_⟩
      exact ok.nx G _ _ σ (r.write hi hl n (.lst upd_same rs.reverse)) hp
  · exact hp.elim
end

/-! ### a dict that is walked is locked -/
section
variable {K : PySem.W.Frag} {mg : MG} {G H G' H' : Hp} {l : Addr} {od : Obj} {us : List (Key × V)}
theorem unl {a : Addr} {o : HO} (e : G l = some (.frz od (.dK us))) (h : G a = some o) (d : o ≠ .frz od (.dK us)) : upd G l (.dK us) a = some o := by
  by_cases z : a = l
  · subst z; rw [e] at h; cases h; exact absurd rfl d
  · rw [upd_ne z]; exact h
mutual
theorem Rep.unl (e : G l = some (.frz od (.dK us))) : ∀ {v : V} {d : D}, Rep K mg G v d → Rep K mg (upd G l (.dK us)) v d
  | _, _, .non => .non
  | _, _, .bl b => .bl b
  | _, _, .int i => .int i
  | _, _, .str x => .str x
  | _, _, .tup h r => .tup (PL.unl e h (fun z => nomatch z)) (Reps.unl e r)
  | _, _, .lst h r => .lst (PL.unl e h (fun z => nomatch z)) (Reps.unl e r)
  | _, _, .scr h r => .scr (by
      rcases h with (h | ⟨o, h⟩) | h
      · exact .inl (.inl (PL.unl e h (fun z => nomatch z)))
      · exact .inl (.inr ⟨o, PL.unl e h (fun z => nomatch z)⟩)
      · exact .inr h) (Reps.unl e r)
  | _, _, .dk (a := a) h r => .dk (by
      rcases h with h | ⟨o, h⟩
      · exact .inl (PL.unl e h (fun z => nomatch z))
      · by_cases z : a = l
        · subst z; rw [e] at h; cases h; exact .inl upd_same
        · exact .inr ⟨o, by rw [upd_ne z]; exact h⟩) (RepKV.unl e r)
  | _, _, .dt h r => .dt (PL.unl e h (fun z => nomatch z)) (RepTV.unl e r)
  | _, _, .obj h m r => .obj (PL.unl e h (fun z => nomatch z)) m (RepF.unl e r)
  | _, _, .slf h m r => .slf (PL.unl e h (fun z => nomatch z)) m (RepF.unl e r)
  | _, _, .err h q h2 m r => .err (PL.unl e h q.frz) q (PL.unl e h2 (fun z => by
      have z' : HO.ext _ = HO.frz _ _ := z
      cases z')) m (RepF.unl e r)
theorem Reps.unl (e : G l = some (.frz od (.dK us))) : ∀ {v : List V} {d : List D}, Reps K mg G v d → Reps K mg (upd G l (.dK us)) v d
  | _, _, .nil => .nil
  | _, _, .cons h t => .cons (Rep.unl e h) (Reps.unl e t)
theorem RepKV.unl (e : G l = some (.frz od (.dK us))) : ∀ {v : List (Key × V)} {d : List (Key × D)}, RepKV K mg G v d → RepKV K mg (upd G l (.dK us)) v d
  | _, _, .nil => .nil
  | _, _, .cons h t => .cons (Rep.unl e h) (RepKV.unl e t)
theorem RepTV.unl (e : G l = some (.frz od (.dK us))) : ∀ {v : List (List Key × V)} {d : List (List Key × D)}, RepTV K mg G v d → RepTV K mg (upd G l (.dK us)) v d
  | _, _, .nil => .nil
  | _, _, .cons h t => .cons (Rep.unl e h) (RepTV.unl e t)
theorem RepF.unl (e : G l = some (.frz od (.dK us))) : ∀ {v : List (Str × V)} {d : List (Str × D)}, RepF K mg G v d → RepF K mg (upd G l (.dK us)) v d
  | _, _, .nil => .nil
  | _, _, .cons h t => .cons (Rep.unl e h) (RepF.unl e t)
end
theorem Rel.lock {G0 H0 : Hp} {env : List C} {σ : L2.St} {i : Nat} {kvs : List (Key × D)} (r : Rel K mg G0 H0 G H env σ) (hi : env[i]? = some (.ow (.dk kvs))) (hl : σ[i]? = some (some (.ref l))) (hH : H l = some (.dK us)) (rs : RepKV K mg G us kvs) (n : G l = none) (od : Obj) :
    Rel K mg (upd G l (.frz od (.dK us))) H0 (upd G l (.frz od (.dK us))) (upd H l (.frz od (.dK us))) (env.set i (.fz (.dk kvs))) σ := by
  have n0 := r.own i _ l hi hl
  have sG : Same G (upd G l (.frz od (.dK us))) := Same.upd n
  have sH : Same (upd G l (.frz od (.dK us))) (upd H l (.frz od (.dK us))) := fun b u e => by
    by_cases z : b = l
    · subst z; rw [upd_same] at e ⊢; exact e
    · rw [upd_ne z] at e ⊢; exact r.ok.same _ _ e
  have low : ∀ {j : Nat} {e : D}, (env.set i (.fz (.dk kvs)))[j]? = some (.ow e) → j ≠ i ∧ env[j]? = some (.ow e) := fun {j e} q => by
    rw [List.getElem?_set] at q
    split at q
    · split at q <;> cases q
    · rename_i hij; exact ⟨Ne.symm hij, q⟩
  refine ⟨⟨sH, fun j c q => ?_, fun j k d' e' m q1 q2 z1 z2 => r.ok.apart j k d' e' m (low q1).2 (low q2).2 z1 z2, by simp [r.ok.len]⟩, ⟨Same.refl _, fun b u e => ?_, sH, fun _ e ne => absurd e ne⟩, fun j d' m q z => r.own j d' m (low q).2 z⟩
  · rw [List.getElem?_set] at q
    split at q
    · rename_i hij
      subst hij
      split at q
      · cases q; exact ⟨_, hl, .dk (.inr ⟨od, upd_same⟩) (rs.mono sG)⟩
      · cases q
    · rename_i hij
      have s := r.ok.slot j c q
      cases c with
      | un => trivial
      | fz d' => obtain ⟨v, a, b⟩ := s; exact ⟨v, a, b.mono sG⟩
      | ow d' =>
        obtain ⟨m, e1, t1, n1⟩ := s
        have ne : m ≠ l := fun z => by subst z; exact hij (r.ok.apart i j _ d' m hi q hl e1)
        refine ⟨m, e1, ?_, by rw [upd_ne ne]; exact n1⟩
        cases t1 with
        | lst a r => exact .lst (by rw [upd_ne ne]; exact a) (r.mono sG)
        | dk a r => exact .dk (by rw [upd_ne ne]; exact a) (r.mono sG)
        | dt a r => exact .dt (by rw [upd_ne ne]; exact a) (r.mono sG)
        | slf a cm r => exact .slf (by rw [upd_ne ne]; exact a) cm (r.mono sG)
  · have : b ≠ l := fun z => by subst z; rw [n0] at e; cases e
    rw [upd_ne this]; exact r.ext.h _ _ e
theorem Ext.unlock {G0 H0 G1 H1 : Hp} (x : Ext G0 H0 G H) (n : G l = none) (n0 : H0 l = none) (y : Ext (upd G l (.frz od (.dK us))) H0 G1 H1) :
    G1 l = some (.frz od (.dK us)) ∧ H1 l = some (.frz od (.dK us)) ∧ Ext G0 H0 (upd G1 l (.dK us)) (upd H1 l (.dK us)) := by
  have g1 : G1 l = some (.frz od (.dK us)) := y.g _ _ upd_same
  have h1 := y.s _ _ g1
  have nG0 : G0 l = none := x.g.free n
  refine ⟨g1, h1, fun b u e => ?_, fun b u e => ?_, fun b u e => ?_, fun b e ne => ?_⟩
  · have z : b ≠ l := fun z => by subst z; rw [nG0] at e; cases e
    rw [upd_ne z]
    exact y.g _ _ (by rw [upd_ne z]; exact x.g _ _ e)
  · have z : b ≠ l := fun z => by subst z; rw [n0] at e; cases e
    rw [upd_ne z]
    exact y.h _ _ e
  · by_cases z : b = l
    · subst z; rw [upd_same] at e ⊢; exact e
    · rw [upd_ne z] at e ⊢; exact y.s _ _ e
  · by_cases z : b = l
    · subst z; exact n0
    · rw [upd_ne z] at ne
      by_cases q : G b = none
      · exact y.f b (by rw [upd_ne z]; exact q) ne
      · exact x.f b e q
theorem Rel.unlock {G0 H0 G1 H1 : Hp} {env' : List C} {σ' : L2.St} (x : Ext G0 H0 G H) (n : G l = none) (n0 : H0 l = none) (r' : Rel K mg (upd G l (.frz od (.dK us))) H0 G1 H1 env' σ') :
    H1 l = some (.frz od (.dK us)) ∧ Rel K mg G0 H0 (upd G1 l (.dK us)) (upd H1 l (.dK us)) env' σ' := by
  obtain ⟨g1, h1, y⟩ := x.unlock n n0 r'.ext
  refine ⟨h1, ⟨⟨y.s, fun j c q => ?_, r'.ok.apart, r'.ok.len⟩, y, r'.own⟩⟩
  have s := r'.ok.slot j c q
  cases c with
  | un => trivial
  | fz d' => obtain ⟨v, a, b⟩ := s; exact ⟨v, a, b.unl g1⟩
  | ow d' =>
    obtain ⟨m, e1, t1, n1⟩ := s
    have ne : m ≠ l := fun z => by subst z; rw [g1] at n1; cases n1
    refine ⟨m, e1, ?_, by rw [upd_ne ne]; exact n1⟩
    cases t1 with
    | lst a r => exact .lst (by rw [upd_ne ne]; exact a) (r.unl g1)
    | dk a r => exact .dk (by rw [upd_ne ne]; exact a) (r.unl g1)
    | dt a r => exact .dt (by rw [upd_ne ne]; exact a) (r.unl g1)
    | slf a cm r => exact .slf (by rw [upd_ne ne]; exact a) cm (r.unl g1)
end
def keyD : Key → D
  | .inl i => .int i
  | .inr x => .str x
def keysD (kvs : List (Key × D)) : List D := kvs.map fun p => keyD p.1
def valsD (kvs : List (Key × D)) : List D := kvs.map (·.2)
theorem rep_key {K : PySem.W.Frag} {mg : MG} {G : Hp} (k : Key) : Rep K mg G (kV k) (keyD k) := by
  cases k with
  | inl i => exact .int i
  | inr x => exact .str x
theorem RepKV.get {K : PySem.W.Frag} {mg : MG} {G : Hp} : ∀ {vs : List (Key × V)} {ds : List (Key × D)} {i : Nat} {p : Key × V}, RepKV K mg G vs ds → vs[i]? = some p → ∃ d, ds[i]? = some (p.1, d) ∧ Rep K mg G p.2 d
  | _, _, _, _, .nil, e => by simp at e
  | _, _, 0, _, .cons r _, e => by simp at e; subst e; exact ⟨_, rfl, r⟩
  | _, _, i + 1, p, .cons _ t, e => by
    obtain ⟨d, h1, h2⟩ := RepKV.get (i := i) (p := p) t (by simpa using e)
    exact ⟨d, by simpa using h1, h2⟩
theorem RepKV.len {K : PySem.W.Frag} {mg : MG} {G : Hp} : ∀ {vs : List (Key × V)} {ds : List (Key × D)}, RepKV K mg G vs ds → vs.length = ds.length
  | _, _, .nil => rfl
  | _, _, .cons _ t => congrArg (· + 1) (RepKV.len t)
section
variable {K : PySem.W.Frag} {mg : MG} {G : Hp} {l : Addr} {od : Obj} {us : List (Key × V)} {kvs : List (Key × D)}
theorem walks_keys (h : G l = some (.frz od (.dK us))) (r : RepKV K mg G us kvs) : Walks K mg G (sqL (keysD kvs)) (Itk l od us) where
  go i G1 H1 s1 s2 hi := ⟨s2 _ _ (s1 _ _ h), by rw [r.len]; simpa [sqL, keysD] using hi⟩
  yld i G1 H1 x H' s1 s2 hi y := by
    obtain ⟨rfl, k, v, e, rfl⟩ := y
    obtain ⟨d, e2, q⟩ := r.get e
    refine ⟨G1, keyD k, .refl s2, rep_key k, ?_⟩
    show (keysD kvs)[i]? = _
    unfold keysD
    rw [List.getElem?_map, e2]; rfl
  stop G1 H1 s1 s2 := ⟨s2 _ _ (s1 _ _ h), by rw [r.len]; simp [sqL, keysD]⟩
theorem walks_vals (h : G l = some (.frz od (.dK us))) (r : RepKV K mg G us kvs) : Walks K mg G (sqL (valsD kvs)) (Itd l od us) where
  go i G1 H1 s1 s2 hi := ⟨s2 _ _ (s1 _ _ h), by rw [r.len]; simpa [sqL, valsD] using hi⟩
  yld i G1 H1 x H' s1 s2 hi y := by
    obtain ⟨rfl, k, e⟩ := y
    obtain ⟨d, e2, q⟩ := r.get e
    refine ⟨G1, d, .refl s2, q.mono s1, ?_⟩
    show (valsD kvs)[i]? = _
    unfold valsD
    rw [List.getElem?_map, e2]; rfl
  stop G1 H1 s1 s2 := ⟨s2 _ _ (s1 _ _ h), by rw [r.len]; simp [sqL, valsD]⟩
end
def pForD (i : Nat) (m : List (Key × D) → List D) (g : PTG) (body : PTS) : PTS := fun PD env => match env[i]? with
  | some (.ow (.dk kvs)) => forP (sqL (m kvs)) g body { PD with er := fun _ _ => False } (env.set i (.fz (.dk kvs)))
  | _ => False
section
variable {X : Cx} {tg iter : Expr} {body : List Stmt} {g : PTG} {is : List Nat} {pb : PTS} {pos : Pos}
theorem pus_forD (i : Nat) {m : List (Key × D) → List D} {w : TI} {J : Addr → Obj → List (Key × V) → It} (hp : PassesOwn (model X.prog X.w) X.A X.env X.xe) (hc : X.calm = true) (i1 : PI X tg iter w)
    (hw : ∀ (σ : L2.St) (H : Hp) (l : Addr) (od : Obj) (us : List (Key × V)) (R : It → Hp → Prop), σ[i]? = some (some (.ref l)) → H l = some (.frz od (.dK us)) → R (J l od us) H → w σ H R)
    (hk : ∀ (G : Hp) (l : Addr) (od : Obj) (us : List (Key × V)) (kvs : List (Key × D)), G l = some (.frz od (.dK us)) → RepKV X.K X.mg G us kvs → Walks X.K X.mg G (sqL (m kvs)) (J l od us))
    (hg : PuG X tg g is) (hb : PuSs X body pb) (hs : ∀ x, foldedSetIterable iter X.env x = pure x := by intro _; rfl) : PuS X (.For tg iter body [] pos) (pForD i m g pb) := by
  obtain ⟨tgt, g1, g2⟩ := hg.ex
  obtain ⟨tb, b1, b2⟩ := hb.ex
  refine ⟨_, ps_lock (ps_for hp hc i1 g1 b1 hs), fun G0 H0 G H env σ PD E r ok h => ?_⟩
  unfold pForD at h
  split at h
  · rename_i kvs hi
    obtain ⟨l, hl, t, n⟩ := r.ok.slot i _ hi
    have n0 := r.own i _ l hi hl
    cases t with
    | dk hH rs =>
      refine ⟨l, _, hH, trivial, fun od => hw σ _ l od _ _ hl upd_same ?_⟩
      refine for_at g2 b2 (r.lock hi hl hH rs n od) ?_ (hk _ l od _ kvs upd_same (rs.mono (Same.upd n))) h
      refine ⟨?_, ?_, ?_, ?_, ?_, ⟨_, tk0, fun _ _ _ _ _ _ _ _ _ _ _ _ _ _ _ z => z.elim⟩⟩
      · intro G' H' env' σ' r' z
        obtain ⟨h1, r2⟩ := Rel.unlock r.ext n n0 r'
        exact ⟨h1, ok.nx _ _ _ _ r2 z⟩
      · intro G' H' env' σ' r' z
        obtain ⟨h1, r2⟩ := Rel.unlock r.ext n n0 r'
        exact ⟨h1, ok.bk _ _ _ _ r2 z⟩
      · intro G' H' env' σ' r' z
        obtain ⟨h1, r2⟩ := Rel.unlock r.ext n n0 r'
        exact ⟨h1, ok.ct _ _ _ _ r2 z⟩
      · intro G' H' d v x rp z
        obtain ⟨g1, h1, y⟩ := r.ext.unlock n n0 x
        exact ⟨h1, ok.rt _ _ d v y (rp.unl g1) z⟩
      · intro G' H' d m x t nm nm0 z
        obtain ⟨g1, h1, y⟩ := r.ext.unlock n n0 x
        have ne : m ≠ l := fun z => by subst z; rw [g1] at nm; cases nm
        refine ⟨h1, ok.ro _ _ d m y ?_ (by rw [upd_ne ne]; exact nm) nm0 z⟩
        cases t with
        | lst a r => exact .lst (by rw [upd_ne ne]; exact a) (r.unl g1)
        | dk a r => exact .dk (by rw [upd_ne ne]; exact a) (r.unl g1)
        | dt a r => exact .dt (by rw [upd_ne ne]; exact a) (r.unl g1)
        | slf a cm r => exact .slf (by rw [upd_ne ne]; exact a) cm (r.unl g1)
  · exact h.elim
theorem pus_forK (i : Nat) {x : Str} {p2 : Pos} (hp : PassesOwn (model X.prog X.w) X.A X.env X.xe) (hc : X.calm = true) (hv : PE X (.Name x p2) (tVar i)) (hg : PuG X tg g is) (hb : PuSs X body pb) (hs : ∀ z, foldedSetIterable (.Name x p2) X.env z = pure z := by intro _; rfl) :
    PuS X (.For tg (.Name x p2) body [] pos) (pForD i keysD g pb) :=
  pus_forD i hp hc (pi_keys hv) (fun σ H l od us R h1 h2 h3 => ⟨.ref l, h1, l, od, rfl, .inl ⟨us, h2, h3⟩⟩) (fun G l od us kvs h r => walks_keys h r) hg hb hs
theorem pus_forV (i : Nat) {x : Str} {p2 apos cpos : Pos} (hp : PassesOwn (model X.prog X.w) X.A X.env X.xe) (hc : X.calm = true) (hv : PE X (.Name x p2) (tVar i)) (hg : PuG X tg g is) (hb : PuSs X body pb)
    (hbase : attributeBase (.Name x p2) "values" X.env (eval (.Name x p2) X.env) = eval (.Name x p2) X.env := by rfl) (hline : (apos.endLine == cpos.line) = true := by rfl)
    (hs : ∀ z, foldedSetIterable (.Call (.Attribute (.Name x p2) "values" apos) [] [] cpos) X.env z = pure z := by intro _; rfl) :
    PuS X (.For tg (.Call (.Attribute (.Name x p2) "values" apos) [] [] cpos) body [] pos) (pForD i valsD g pb) :=
  pus_forD i hp hc (pi_values hv hbase hline) (fun σ H l od us R h1 h2 h3 => ⟨.ref l, h1, l, od, us, rfl, h2, h3⟩) (fun G l od us kvs h r => walks_vals h r) hg hb hs

/-! ### a def that gives a new cell -/
def spO (K : PySem.W.Frag) (mg : MG) (f : PSp) : Sp := fun vs H Q _ => ∃ (G : Hp) (ds : List D) (P : D → Prop), Same G H ∧ Reps K mg G vs ds ∧ f ds P ∧
  ∀ d l G' H', Ext G H G' H' → Top K mg H' G' l d → G' l = none → H l = none → P d → Q (.ref l) H'
def pRetO (pe : PTE) : PTS := fun PD env => pe env PD.ro
theorem pus_retO {e : Expr} {pe : PTE} (h : PuF X e pe) : PuS X (.Return (some e) pos) (pRetO pe) := by
  obtain ⟨t, h1, h2⟩ := h.ex
  exact ⟨_, ps_ret h1, fun G0 H0 G H env σ PD E r ok hp => h2 G H env σ _ _ r.ok hp fun d l G' H' x rp n nH z => ok.ro G' H' d l (r.ext.trans x) rp n (r.ext.h.free nH) z⟩
def pRetON (i : Nat) : PTS := fun PD env => match env[i]? with
  | some (.ow d) => PD.ro d
  | _ => False
theorem pus_retON (i : Nat) {x : Str} {p2 : Pos} (hv : PE X (.Name x p2) (tVar i)) : PuS X (.Return (some (.Name x p2)) pos) (pRetON i) := by
  refine ⟨_, ps_ret hv, fun G0 H0 G H env σ PD E r ok hp => ?_⟩
  unfold pRetON at hp
  split at hp
  · rename_i d hi
    obtain ⟨l, hl, t, n⟩ := r.ok.slot i _ hi
    exact ⟨.ref l, hl, ok.ro G H d l r.ext t n (r.own i d l hi hl) hp⟩
  · exact hp.elim
theorem pfnO {P : Program} {w : World} {K : PySem.W.Frag} {mg : MG} {base : Heap} {x : Str} {st : Stmt} {f : Addr} {fd : FuncData} {N ns : List Str} {k : Nat} {sp : PSp} {p : PTS} (F : FnP K x st f fd) (S : FnScope N ns (defScope st)) (hlen : ∀ ds P, sp ds P → ds.length = ns.length)
    (hbody : ∀ (cdv : Value) (A : Around) (outer : List Env) (s : Shared) (H : Hp) (E : XK), Room k (A.deeper (envOfC x (defScope st) s.heap.objs.size f cdv)) →
      PuSs (cxOf CX0 P w K mg base N x (defScope st) f cdv A outer s H E).nox (defBody st) p) (hp : ∀ ds Q, sp ds Q → p { nx := fun _ => False, rt := fun _ => False, ro := Q } (startC N ds)) : FnOk P w K mg base CX0 (k + 1) f fd ns (spO K mg sp) := by
  refine FunD.ok F S (fun vs H Q E h => ?_) (fun cdv A outer s H vs Q E hr h => ?_)
  · obtain ⟨G, ds, P', _, r, q, _⟩ := h
    rw [r.length]; exact hlen ds P' q
  · obtain ⟨G, ds, P', sm, r, q, kk⟩ := h
    obtain ⟨t, t1, t2⟩ := (hbody cdv A outer s H E hr).ex
    refine ⟨t, t1.nox, t2 G H G H _ _ { nx := fun _ => False, rt := fun _ => False, ro := P' } _ ⟨start_ok sm r, .refl sm, fun i d l q => ?_⟩ ⟨fun _ _ _ _ _ z => z.elim, ?_, ?_, fun _ _ _ _ _ _ z => z.elim, ?_, ⟨_, tk0, fun _ _ _ _ _ _ _ _ _ _ _ _ _ _ _ z => z.elim⟩⟩ (hp ds P' q)⟩
    · intro s1
      exfalso
      unfold startC at q
      by_cases hk : i < ds.length
      · rw [List.getElem?_append_left (by simpa using hk), List.getElem?_map] at q
        cases e : ds[i]? with
        | none => rw [e] at q; cases q
        | some d => rw [e] at q; cases q
      · rw [List.getElem?_append_right (by simpa using hk), List.getElem?_replicate] at q
        split at q <;> cases q
    · intro G' H' env σ r' z; exact z
    · intro G' H' env σ r' z; exact z
    · intro G' H' d l x t n n0 z
      exact kk d l G' H' x t n n0 z
structure CalO (P : Program) (w : World) (K : PySem.W.Frag) (mg : MG) (base : Heap) (x : Str) (ns : List Str) (k : Nat) (f : Addr) (fd : FuncData) (sp : PSp) : Prop where
  ok : FnOk P w K mg base CX0 k f fd ns (spO K mg sp)
  mg : mg x = some (.ref f)
  kp : PySem.W.keepIn K (.ref f) = true
  b : Binds K fd ns []
theorem puf_c {x : Str} {ns : List Str} {k k' : Nat} {f : Addr} {fd : FuncData} {sp : PSp} {e : Expr} {es : List Expr} {ps : PTA} {p' : Pos} (C : CalO X.prog X.w X.K X.mg X.base x ns k f fd sp) (hr : Room k' X.A) (h : PuA X (e :: es) ps) (hk : k ≤ k' := by decide) (hg : Gl X x := by rfl)
    (hdb : (x == ("__debug__" : Str)) = false := by decide) (he : starEach (e :: es) X.env = (false, eval e X.env) :: starEach es X.env := by rfl) (hpl : (backTo pos (starEach es X.env)).any (·.1) = false := by rfl) :
    PuF X (.Call (.Name x p') (e :: es) [] pos) (pCall sp ps) := by
  obtain ⟨t, h1, h2⟩ := h.ex
  refine ⟨_, pe_call C.ok (hr.mono hk) hg C.mg C.kp C.b (dvs := []) .nil pass0 h1 hdb he hpl, fun G H env σ P Q ok hp kk => h2 G H env σ _ _ ok hp fun ds vs G' H' x r q => ?_⟩
  rw [List.append_nil]
  exact ⟨G', ds, P, x.s, r, q, fun d l G2 H2 y t n nH q2 => kk d l G2 H2 (x.trans y) t n (x.h.free nH) q2⟩
end
theorem forD_k {i : Nat} {m : List (Key × D) → List D} {g : PTG} {body : PTS} {PD : PEnds} {env : List C} {kvs : List (Key × D)} (hi : env[i]? = some (.ow (.dk kvs))) (h : forP (sqL (m kvs)) g body { PD with er := fun _ _ => False } (env.set i (.fz (.dk kvs)))) : pForD i m g body PD env := by
  unfold pForD
  rw [hi]; exact h
end PL
end

section
set_option linter.all false
set_option maxRecDepth 100000
set_option maxHeartbeats 4000000
set_option autoImplicit false
/-! PL14: errors of the program's own classes as data: made (by places, by names), a field read, isinstance. -/
namespace PL
section
open PySem PySem.W PySem.Calls PyProof.Rows PySem.Spec PySem.HandSPX
variable {prog : Program} {w : World} {A : Around} {E : Value → Shared → Prop} {R : Result → Shared → Prop} {h : Heap} {g : Array GenState} {d : Drawn} {t : Nat} {os : OsState}
variable {nm q : Str} {C N : Addr} {bs bm : List Value} {hdct : Bool} {sn : List Str} {sub : List Value} {ab : Bool} {col : Option Bool} {dd : Option Addr} {k0 k1 k2 k3 k5 : Option Value}
/-- ValueError.__new__ takes any keywords -/
theorem new_seen {M : Model} (hT : ∀ Y : String, bm.contains (.type Y) = veTail.contains (.type Y)) {us : List Value} {kw : List (Str × Value)} {Q : Unit → Shared → Prop}
    (hC : h.get? C = some (excClassObj nm q C N bs bm hdct sn sub ab col dd k0 k1 k2 k3 k5 "ValueError.__new__")) (hq : Q () ⟨h, g, d, t, os⟩) : wpAny M A (checkBuiltinCall "ValueError.__new__" ⟨.ref C :: us, kw⟩) Q E ⟨h, g, d, t, os⟩ := by
  have FV := F.excBase_ValueError
  have inB : (Value.ref C :: bm).contains (.type "ValueError") = true := by rw [List.contains_cons, hT, FV.hasB, Bool.or_true]
  have star := FV.noStar
  simp only [checkBuiltinCall, FV.newKind, FV.newSplit, FV.newRow]
  repeat
    first
      | refine wpAny_loadPart_at hC ?_
      | (refine wpAny_isSubtype_exc hC ?_
         rw [inB])
      | refine wpAny_staticBase_exc hC ?_
      | refine wpAny_madeBy_exc hC ?_
      | simp only [bne_self_eq_false, Bool.false_eq_true, if_false]
      | wp_step
  exact hq
theorem new_made (hT : ∀ Y : String, bm.contains (.type Y) = veTail.contains (.type Y)) {us : List Value} {kw : List (Str × Value)}
    (hC : h.get? C = some (excClassObj nm q C N bs bm hdct sn sub ab col dd k0 k1 k2 k3 k5 "ValueError.__new__")) (hz : us.length ≤ sizeLine)
    (hq : R (.ok (.ret (.ref (h.objs.size + 1)))) ⟨(h.push (W.kdv_tup us)).push (excO C h.objs.size), g, d, t, os⟩) : codeAny (model prog w) A (.builtin "ValueError.__new__" ⟨.ref C :: us, kw⟩) R ⟨h, g, d, t, os⟩ := by
  have FV := F.excBase_ValueError
  have ends := FV.ends
  have inB : (Value.ref C :: bm).contains (.type "ValueError") = true := by rw [List.contains_cons, hT, FV.hasB, Bool.or_true]
  have noA : (Value.ref C :: bm).contains (.type "AttributeError") = false := by
    rw [List.contains_cons, hT, FV.noAttr]; rfl
  have noN : (Value.ref C :: bm).contains (.type "NameError") = false := by
    rw [List.contains_cons, hT, FV.noName]; rfl
  refine codeAny_builtinAt FV.entry ?_
  unfold Builtin.«BaseException.__new__»
  refine PySem.wpAt_bind ?_
  show PySem.wpAt _ _ _ (stack >>= _) _ _ _
  refine PySem.wpAt_bind (PySem.wpAt_stack fun p below => PySem.wpAt_of_wpAny ?_)
  wp_walk
  refine PySem.wpAt_of_wpAny ?_
  rw [FV.owner]
  repeat
    first
      | with_reducible refine wpAny_madeHere_exc FV.canon hC ?_
      | with_reducible refine wpAny_loadPart_at hC ?_
      | (with_reducible refine wpAny_isSubtype_exc hC ?_
         first
           | rw [inB]
           | rw [noA]
           | rw [noN])
      | wp_step
  show R _ _
  rw [Heap.size_push]
  exact hq
theorem cls_call (hT : ∀ Y : String, bm.contains (.type Y) = veTail.contains (.type Y)) {us : List Value} {kw : List (Str × Value)} {f : Addr} {Q : Fin → Shared → Prop}
    (hC : h.get? C = some (excClassObj nm q C N bs bm hdct sn sub ab col dd k0 k1 k2 k3 k5 "ValueError.__new__")) (hz : us.length ≤ sizeLine)
    (hi : W.Looks (model prog w) h (typeLookup (.ref C) "__init__") (some (.ref f))) (hb : ∀ self, W.Looks (model prog w) h (bindSpecial (.ref f) self) (.ref f, [self]))
    (hq : codeAny (model prog w) A (.call (.ref f) ⟨.ref (h.objs.size + 1) :: us, kw⟩) (fun r s' => match r with
        | .ok (.ret v) => v = .none ∧ Q (.done (.ret (.ref (h.objs.size + 1)))) s'
        | .ok _ => False
        | .error e => E e s') ⟨(h.push (W.kdv_tup us)).push (excO C h.objs.size), g, d, t, os⟩) : wpAny (model prog w) A (Builtin.«type.__call__» ⟨.ref C :: us, kw⟩) Q E ⟨h, g, d, t, os⟩ := by
  repeat
    first
      | with_reducible refine wpAny_loadPart_at hC ?_
      | with_reducible refine wpAny_madeBy_exc hC ?_
      | wp_step
  refine codeAny_call_builtin_code (Code.quiet_builtin _ F.excBase_ValueError.quiet) (new_seen hT hC ?_)
  refine new_made hT hC hz ?_
  show wpAny _ _ _ _ _ _
  have kp : ∀ b o, h.get? b = some o → ((h.push (W.kdv_tup us)).push (excO C h.objs.size)).get? b = some o := fun b o e => Heap.get?_push_of_some _ (Heap.get?_push_of_some _ e)
  have hC2 := kp _ _ hC
  have hN : ((h.push (W.kdv_tup us)).push (excO C h.objs.size)).get? (h.objs.size + 1) = some (excO C h.objs.size) := by heap_get
  have inC : (Value.ref C :: bm).contains (.ref C) = true := by simp
  have i1 := hi.keeps kp
  have b1 := (hb (.ref (h.objs.size + 1))).keeps kp
  unfold isInstance
  repeat
    first
      | with_reducible refine wpAny_loadPart_at hN ?_
      | (with_reducible refine wpAny_isSubtype_exc hC2 ?_
         rw [inC])
      | wp_step
  show wpAny _ _ (typeLookup (.ref C) _) _ _ _
  refine i1.at ?_
  refine wpAny_holding (wpAny_bind (b1.at ?_))
  refine wpAny_bind (wpAny_call (codeAny_mono hq fun r s' z => ?_))
  rcases r with e | (v | _ | _ | _) <;> first | exact z | exact z.elim | skip
  obtain ⟨rfl, z⟩ := z
  first
    | exact wpAny_pure (wpAny_pure z)
    | (wp_walk; exact z)
/-- a class of errors is called, by places and by names -/
theorem cls_made (hT : ∀ Y : String, bm.contains (.type Y) = veTail.contains (.type Y)) {us : List Value} {kw : List (Str × Value)} {f : Addr}
    (hC : h.get? C = some (excClassObj nm q C N bs bm hdct sn sub ab col dd k0 k1 k2 k3 k5 "ValueError.__new__")) (hz : us.length ≤ sizeLine)
    (hi : W.Looks (model prog w) h (typeLookup (.ref C) "__init__") (some (.ref f))) (hb : ∀ self, W.Looks (model prog w) h (bindSpecial (.ref f) self) (.ref f, [self]))
    (hq : codeAny (model prog w) (A.under (.builtin "type.__call__" ⟨.ref C :: us, kw⟩)) (.call (.ref f) ⟨.ref (h.objs.size + 1) :: us, kw⟩) (W.InitBack (h.objs.size + 1) R)
      ⟨(h.push (W.kdv_tup us)).push (excO C h.objs.size), g, d, t, os⟩) : codeAny (model prog w) A (.call (.ref C) ⟨us, kw⟩) R ⟨h, g, d, t, os⟩ := by
  have f1 := tc_lookup
  have f2 := tc_bind (.ref C)
  have hTy : (⟨h, g, d, t, os⟩ : Shared).TypeIs (.ref C) "type" := ⟨_, hC, rfl⟩
  refine codeAny_of_tree ?_
  show wpAny _ _ (callAny (.ref C) _) _ _ _
  repeat
    any_goals
      first
        | assumption
        | with_reducible refine wpAny_loadPart_at hC ?_
        | wp_step
  refine ⟨rfl, ?_⟩
  refine codeAny_call_builtin_at (Code.quiet_builtin _ (by decide +kernel)) entry_typeCall (wpAny_check_type_call_sub hC (cls_call hT hC hz hi hb ?_))
  refine codeAny_mono hq fun r s' z => ?_
  rcases r with e | (v | _ | _ | _) <;> exact z
end
end PL
end

section
set_option linter.all false
set_option maxRecDepth 100000
set_option maxHeartbeats 4000000
set_option autoImplicit false
/-! PL15: errors as data: what is looked at of their classes, __init__, the call of a class, a field, isinstance; a head with one more look. -/
namespace PL
open PySem PySem.Spec PyProof.Rows L2

/-! ### what is looked at of a class of errors -/
theorem oexB_ok {K : PySem.W.Frag} {C : Addr} (q : oexB K C = true) : ∃ nm q N bs bm sn sub ab col dd k0 k1 k2 k3 k5, K.lookup C = some (excClassObj nm q C N bs bm true sn sub ab col dd k0 k1 k2 k3 k5 "ValueError.__new__") ∧ PySem.HandSPX.refsVE bm = true := by
  unfold oexB at q
  split at q
  · rename_i dd cd sl ho
    split at q
    · rename_i D bm k0 k1 k2 k3 n k5 hm hs
      simp only [Bool.and_eq_true, beq_iff_eq, Bool.not_eq_true'] at q
      obtain ⟨rfl, rfl, hdel, hdict, hbm⟩ := q
      obtain ⟨nm, bs, mro, ns, qn, hd, sn, sub, ab, col, del⟩ := cd
      dsimp only at hm hdel hdict
      subst hm hdel hdict
      obtain rfl : sl = #[k0, k1, k2, k3, some (.builtin "ValueError.__new__"), k5] := by
        obtain ⟨l⟩ := sl
        simp only at hs
        rw [hs]
      exact ⟨nm, qn, ns, bs, bm, sn, sub, ab, col, dd, k0, k1, k2, k3, k5, ho, hbm⟩
    · cases q
  · cases q
/-- a class of errors whose __init__ stores the fields fs -/
structure ErC (K : PySem.W.Frag) (C f : Addr) (fs : List Str) : Prop where
  oex : OexC K C
  xf : XfC K C
  cl : PySem.W.findIn K (.ref C) "__class__" = some (some (.builtin "object.__class__"))
  hn : PySem.W.specialIn K (.builtin "object.__class__") "__get__" = some (some (.builtin "getset_descriptor.__get__"))
  ht : PySem.W.takesIn K (.builtin "object.__class__") = some true
  hm : PySem.W.mroIn K C (.type "object") = some true
  ini : PySem.W.findIn K (.ref C) "__init__" = some (some (.ref f))
  tI : PySem.W.typeIn K (.ref f) = some (.type "function")
  no : ∀ x ∈ fs, PySem.W.findIn K (.ref C) x = some none
theorem ercB_ok {K : PySem.W.Frag} {C f : Addr} {fs : List Str} (h : ercB K C f fs = true) : ErC K C f fs := by
  unfold ercB at h
  simp only [Bool.and_eq_true] at h
  obtain ⟨h1, h2, h3, h4, h5, h6, h7, h8, h9, h10, h11, h12, h13⟩ := h
  exact ⟨⟨oexB_ok h1, He.eqO_ok h2, of_decide_eq_true h3, of_decide_eq_true h4, h5⟩, xfB_ok h6, He.eqO_ok h7, He.eqO_ok h8, of_decide_eq_true h9, of_decide_eq_true h10, He.eqO_ok h11, of_decide_eq_true h12, fun x hx => He.eqO_ok (List.all_eq_true.mp h13 x hx)⟩

/-! ### __init__ -/
def flds (fs : List Str) (ys : List V) : List (Str × V) := (fs.zip ys).reverse
def spI (C : Addr) (fs : List Str) : Sp := fun vs H Q _ => ∃ (a : Addr) (ys : List V), vs = .ref a :: ys ∧ ys.length = fs.length ∧ H a = some (exo a C none) ∧
  ∀ d, H d = none → d ≠ a → Q .non (upd (upd H d (exd d (flds fs ys))) a (exo a C (some d)))
theorem spI_len {C : Addr} {fs : List Str} {vs : List V} {H : Hp} {Q : VK} {E : XK} (h : spI C fs vs H Q E) : vs.length = fs.length + 1 := by
  obtain ⟨a, ys, rfl, l, _⟩ := h
  rw [List.length_cons, l]
theorem ini1 {K : PySem.W.Frag} {C : Addr} {x : Str} {vs : List V} {H : Hp} {Q : VK} {E : XK} (T : OexC K C) (no : PySem.W.findIn K (.ref C) x = some none) (h : spI C [x] vs H Q E) :
    tOst K x (tVar 0) (tVar 1) { nx := fun _ H' => Q .non H', rt := Q } (start ["self", x] vs) H := by
  obtain ⟨a, ys, rfl, l, ha, q⟩ := h
  match ys, l with
  | [y], _ => exact ⟨y, rfl, .ref a, rfl, a, C, rfl, T, no, .inl ⟨ha, fun d n ne => q d n ne⟩⟩
theorem upd_swap {H : Hp} {d a : Addr} {o1 o2 o3 : HO} (ne : d ≠ a) : upd (upd (upd H d o1) a o2) d o3 = upd (upd H d o3) a o2 := by
  funext b
  by_cases h1 : b = d
  · subst h1; rw [upd_same, upd_ne ne, upd_same]
  · rw [upd_ne h1]
    by_cases h2 : b = a
    · subst h2; rw [upd_same, upd_same]
    · rw [upd_ne h2, upd_ne h2, upd_ne h1, upd_ne h1]
theorem ini2 {K : PySem.W.Frag} {C : Addr} {x z : Str} {vs : List V} {H : Hp} {Q : VK} {E : XK} (T : OexC K C) (no : ∀ y ∈ [x, z], PySem.W.findIn K (.ref C) y = some none) (h : spI C [x, z] vs H Q E) :
    tOst K x (tVar 0) (tVar 1) { nx := fun σ H => tOst K z (tVar 0) (tVar 2) { nx := fun _ H' => Q .non H', rt := Q } σ H, rt := Q } (start ["self", x, z] vs) H := by
  obtain ⟨a, ys, rfl, l, ha, q⟩ := h
  match ys, l with
  | [y, w], _ =>
    refine ⟨y, rfl, .ref a, rfl, a, C, rfl, T, no x (by simp), .inl ⟨ha, fun d n ne => ?_⟩⟩
    refine ⟨w, rfl, .ref a, rfl, a, C, rfl, T, no z (by simp), .inr ⟨d, [(x, y)], upd_same, by rw [upd_ne ne, upd_same], by simp, ?_⟩⟩
    show Q .non _
    rw [upd_swap ne]
    exact q d n ne

/-! ### the call of a class of errors -/
/-- n values, m keywords; pk: the places of __init__'s further parameters among them -/
def tMkE (C : Addr) (n m : Nat) (sp : Sp) (g : List V → List V → List V) (t tk : TA) : TE := fun σ H Q => t σ H fun vs H1 => tk σ H1 fun zs H2 => vs.length = n ∧ zs.length = m ∧ vs.length ≤ 1000 ∧
  ∀ a, H2 a = none → sp (.ref a :: g vs zs) (upd H2 a (exo a C none)) (fun v H3 => v = .non ∧ Q (.ref a) H3) fun _ _ _ => False
/-- how __init__'s parameters are bound -/
def IniB (K : PySem.W.Frag) (fd : FuncData) (ps : List Str) (n : Nat) (ks : List Str) (pk : List Nat) : Prop :=
  ∀ (s : Shared) (u : Value) (us ws : List Value), K.In s.heap → us.length = n → ws.length = ks.length → BindsTo s fd ⟨u :: us, ks.zip ws⟩ (ps.zip (u :: pickL pk us ws))
section
variable {X : Cx} {CX : CXT} {k n : Nat} {f C : Addr} {fd : FuncData} {ps ks fs : List Str} {sp : Sp} {x : Str} {p pos : Pos} {e : Expr} {es : List Expr} {kws : List Keyword} {t tk : TA} {pk : List Nat}
theorem run_mkE {pins : List (Addr × Obj)} {σ : L2.St} {H : Hp} {s : Shared} {Q : VK} {us ws : List Value} {vs zs : List V} (T : ErC X.K C f fs) (F : FnOk X.prog X.w X.K X.mg X.base CX k f fd ps sp) (hr : Room (k + 1) X.A) (hb : IniB X.K fd ps n ks pk) (hx : Passes CX X fun _ _ _ => False)
    (I : Inv X pins σ H s) (r : Vals vs us) (rz : Vals zs ws) (l1 : vs.length = n) (l2 : zs.length = ks.length) (l3 : vs.length ≤ 1000)
    (h : ∀ a, H a = none → sp (.ref a :: pickL pk vs zs) (upd H a (exo a C none)) (fun v H3 => v = .non ∧ Q (.ref a) H3) fun _ _ _ => False) :
    wpAny (model X.prog X.w) X.A (call (.ref C) us (ks.zip ws)) (EP X pins σ Q) X.xe s := by
  obtain ⟨nm, q, N, bs, bm, sn, sub, ab, col, dd, k0, k1, k2, k3, k5, hC, hbm⟩ := T.oex.cls
  obtain ⟨hp, g, dr, tok, os⟩ := s
  have up : hp.objs.size ≤ hp.objs.size + 1 := Nat.le_succ _
  have hq := h (hp.objs.size + 1) (I.hok.fresh up)
  have kk : ∀ b o, hp.get? b = some o → ((hp.push (PySem.W.kdv_tup us)).push (PySem.HandSPX.excO C hp.objs.size)).get? b = some o := fun b o z => Heap.get?_push_of_some _ (Heap.get?_push_of_some _ z)
  have hN : ((hp.push (PySem.W.kdv_tup us)).push (PySem.HandSPX.excO C hp.objs.size)).get? (hp.objs.size + 1) = some (PySem.HandSPX.excO C hp.objs.size) := by heap_get
  have I2 := I.laid (t' := tok) (a := hp.objs.size + 1) (o := exo (hp.objs.size + 1) C none) (h' := (hp.push (PySem.W.kdv_tup us)).push (PySem.HandSPX.excO C hp.objs.size)) kk up (exo_ok hN)
  have r2 : Vals (V.ref (hp.objs.size + 1) :: pickL pk vs zs) (Value.ref (hp.objs.size + 1) :: pickL pk us ws) := .cons rfl (Vals.pick (r.append rz) pk)
  have hu : us.length ≤ sizeLine := by
    rw [← Paired.length r, sizeLine_eq]; omega
  refine wpAny_call (cls_made (fun Y => PySem.HandSPX.refsVE_contains Y bm hbm) (I.kIn _ _ hC) hu (PySem.W.looks_findIn I.kIn T.ini) (fun self => PySem.W.bind_fn I.kIn self T.tI) ?_)
  refine codeAny_mono (F.run _ X.stack _ _ ⟨Value.ref (hp.objs.size + 1) :: us, ks.zip ws⟩ (Value.ref (hp.objs.size + 1) :: pickL pk us ws) _ _ (fun _ _ _ => False) (hr.make C us (ks.zip ws)) (I2.env0.make C us (ks.zip ws))
    (hb _ _ us ws I2.kIn (r.length.symm.trans l1) (rz.length.symm.trans l2)) r2 hq) fun res s' hq' => ?_
  cases res with
  | error er => exact hx pins σ _ _ er s' I2 hq'
  | ok fl =>
    cases fl with
    | ret u =>
      obtain ⟨v, H', I3, rv, ev, q3⟩ := I2.after hq'
      subst ev
      exact ⟨rv, ⟨V.ref (hp.objs.size + 1), H', I3, rfl, q3⟩⟩
    | next => exact False.elim hq'
    | brk => exact False.elim hq'
    | cont => exact False.elim hq'
theorem pe_mkE (T : ErC X.K C f fs) (F : FnOk X.prog X.w X.K X.mg X.base CX k f fd ps sp) (hr : Room (k + 1) X.A) (hg : Gl X x) (hm : X.mg x = some (.ref C)) (hb : IniB X.K fd ps n [] pk) (hx : Passes CX X fun _ _ _ => False) (ha : PA X (e :: es) t)
    (hdb : (x == ("__debug__" : Str)) = false := by decide) (he : starEach (e :: es) X.env = (false, eval e X.env) :: starEach es X.env := by rfl) (hpl : (backTo pos (starEach es X.env)).any (·.1) = false := by rfl) :
    PE X (.Call (.Name x p) (e :: es) [] pos) (tMkE C n 0 sp (pickL pk) t tNil) := by
  refine ⟨fun pins s σ H Q I h => ?_⟩
  refine wpAny_Call_Name_kw (ld_glob I hg hm ?_ hdb)
  refine PySem.W.callWith_K (h₀ := X.base) I.ok.mod.kin T.oex.kC (thn (ha.run pos pins s σ H _ I h) fun us s1 ⟨vs, H1, I1, r, l1, l2, l3, q⟩ => ⟨I1.kIn, ?_⟩) he hpl
  exact run_mkE (ks := []) (ws := []) (zs := []) T F hr hb hx I1 r .nil l1 rfl l3 q
theorem pe_mkEK (T : ErC X.K C f fs) (F : FnOk X.prog X.w X.K X.mg X.base CX k f fd ps sp) (hr : Room (k + 1) X.A) (hg : Gl X x) (hm : X.mg x = some (.ref C)) (hb : IniB X.K fd ps 0 ks pk) (hx : Passes CX X fun _ _ _ => False) (hkw : PK X kws tk)
    (hall : (backToKw pos (keywordEach kws X.env)).all (·.1.isSome) = true := by rfl) (hks : (backToKw pos (keywordEach kws X.env)).filterMap (·.1) = ks := by rfl) (hdb : (x == ("__debug__" : Str)) = false := by decide)
    (hpl : ((backTo pos (starEach [] X.env)).any (·.1) || (backToKw pos (keywordEach kws X.env)).any (·.1.isNone)) = false := by rfl) :
    PE X (.Call (.Name x p) [] kws pos) (tMkE C 0 ks.length sp (pickL pk) tNil tk) := by
  refine ⟨fun pins s σ H Q I h => ?_⟩
  refine wpAny_Call_Name_kw (ld_glob I hg hm ?_ hdb)
  refine PySem.W.callWith_KW0 (h₀ := X.base) I.ok.mod.kin T.oex.kC hall ?_ hpl
  refine thn (hkw.run pos pins s σ H _ I h) fun ws s2 ⟨zs, H2, I2, rz, l1, l2, l3, q2⟩ => ⟨I2.kIn, ?_⟩
  rw [hks]
  exact run_mkE (us := []) (vs := []) T F hr hb hx I2 .nil rz rfl l2 (by simp) q2
end
theorem ini_b {K : PySem.W.Frag} {x qual : Str} {params : Arguments} {body : List Stmt} {scope : Scope} {f : Addr} {fd : FuncData} {ns : List Str} (F : FunD K x qual params body scope [] [] f fd) (n : Nat) (ks : List Str) (pk : List Nat)
    (h : ∀ (kV doc pm : Value) (an : Option Addr) (cdv ct : Value) (u : Value) (us ws : List Value), us.length = n → ws.length = ks.length → bindArgs (PySem.W.fnOf x qual params body scope .none kV doc pm an cdv ct) ⟨u :: us, ks.zip ws⟩ = pure (ns.zip (u :: pickL pk us ws))) :
    IniB K fd ns n ks pk := by
  obtain ⟨oc, od, dV, kV, doc, pm, an, cdv, ct, osl, rfl, lk, hcd, hD, hK⟩ := F.ex
  rcases hD with ⟨_, rfl⟩ | ⟨e, _⟩
  · exact fun s u us ws _ l1 l2 => .of_eq (h kV doc pm an cdv ct u us ws l1 l2)
  · exact absurd rfl e

/-! ### over data -/
def fldsD (fs : List Str) (ds : List D) : List (Str × D) := (fs.zip ds).reverse
theorem RepF.append {K : PySem.W.Frag} {mg : MG} {G : Hp} : ∀ {vs ws : List (Str × V)} {ds es : List (Str × D)}, RepF K mg G vs ds → RepF K mg G ws es → RepF K mg G (vs ++ ws) (ds ++ es)
  | _, _, _, _, .nil, h => h
  | _, _, _, _, .cons r t, h => .cons r (RepF.append t h)
theorem repF_flds {K : PySem.W.Frag} {mg : MG} {G : Hp} : ∀ {fs : List Str} {ys : List V} {ds : List D}, Reps K mg G ys ds → RepF K mg G (flds fs ys) (fldsD fs ds)
  | [], _, _, _ => .nil
  | _ :: _, _, _, .nil => .nil
  | f :: fs, y :: ys, d :: ds, .cons r t => by
    unfold flds fldsD
    rw [List.zip_cons_cons, List.zip_cons_cons, List.reverse_cons, List.reverse_cons]
    exact (repF_flds t).append (.cons r .nil)
theorem lookD_put {f g : Str} {y : D} {fs : List (Str × D)} : ((f, y) :: fs).lookup g = if g = f then some y else fs.lookup g := by
  by_cases h : g = f
  · subst h
    rw [List.lookup_cons_self, if_pos rfl]
  · have e : (g == f) = false := by simpa using h
    rw [if_neg h, List.lookup_cons, e]
theorem RepF.look {K : PySem.W.Frag} {mg : MG} {G : Hp} {x : Str} : ∀ {vs : List (Str × V)} {ds : List (Str × D)} {d : D}, RepF K mg G vs ds → ds.lookup x = some d → ∃ v, vs.lookup x = some v ∧ Rep K mg G v d
  | _, _, _, .nil, e => by cases e
  | _, _, _, .cons (k := k) r t, e => by
    rw [lookup_put]
    rw [lookD_put] at e
    by_cases h : x = k
    · rw [if_pos h] at e ⊢
      cases e
      exact ⟨_, rfl, r⟩
    · rw [if_neg h] at e ⊢
      exact RepF.look t e
theorem ext_err {G H : Hp} {a d C : Addr} {fs : List (Str × V)} (s : Same G H) (na : H a = none) (nd : H d = none) (ne : d ≠ a) :
    Ext G H (upd (upd G d (exd d fs)) a (exo a C (some d))) (upd (upd (upd H a (exo a C none)) d (exd d fs)) a (exo a C (some d))) := by
  have x1 := Ext.new (o := exd d fs) s nd
  have x2 := Ext.new (o := exo a C (some d)) x1.s (p := a) (by rw [upd_ne (Ne.symm ne)]; exact na)
  have e : upd (upd (upd H a (exo a C none)) d (exd d fs)) a (exo a C (some d)) = upd (upd H d (exd d fs)) a (exo a C (some d)) := by
    funext b
    by_cases h1 : b = a
    · subst h1; rw [upd_same, upd_same]
    · rw [upd_ne h1, upd_ne h1]
      by_cases h2 : b = d
      · subst h2; rw [upd_same, upd_same]
      · rw [upd_ne h2, upd_ne h2, upd_ne h1]
  rw [e]
  exact x1.trans x2
/-- the classes of errors that are known, with their fields -/
structure ErT (K : PySem.W.Frag) (mg : MG) (tab : ETab) : Prop where
  ex : ∀ c fs, tab.lookup c = some fs → ∃ C f, mg c = some (.ref C) ∧ ErC K C f fs
def pMkE (cls : Str) (fs : List Str) (pk : List Nat) (n m : Nat) (ps qs : PTA) : PTE := fun env P => ps env fun ds => qs env fun es => ds.length = n ∧ es.length = m ∧ ds.length ≤ 1000 ∧ (pickL pk ds es).length = fs.length ∧ P (.err cls (fldsD fs (pickL pk ds es)))
section
variable {X : Cx} {k n : Nat} {f Cc : Addr} {fd : FuncData} {ks fs : List Str} {cls : Str} {p pos : Pos} {e : Expr} {es : List Expr} {kws : List Keyword} {pe : PTE} {ps qs : PTA} {pk : List Nat}
theorem mkE_reads {t tk : TA} {m : Nat} (hm : X.mg cls = some (.ref Cc))
    (h2 : ∀ (G H : Hp) (env : List C) (σ : L2.St) (P : List D → Prop) (Q : List V → Hp → Prop), Ok X.K X.mg G H env σ → ps env P → (∀ ds vs G' H', Ext G H G' H' → Reps X.K X.mg G' vs ds → P ds → Q vs H') → t σ H Q)
    (g2 : ∀ (G H : Hp) (env : List C) (σ : L2.St) (P : List D → Prop) (Q : List V → Hp → Prop), Ok X.K X.mg G H env σ → qs env P → (∀ ds vs G' H', Ext G H G' H' → Reps X.K X.mg G' vs ds → P ds → Q vs H') → tk σ H Q)
    (G H : Hp) (env : List C) (σ : L2.St) (P : D → Prop) (Q : VK) (ok : Ok X.K X.mg G H env σ) (hp : pMkE cls fs pk n m ps qs env P) (kk : ∀ d v G' H', Ext G H G' H' → Rep X.K X.mg G' v d → P d → Q v H') :
    tMkE Cc n m (spI Cc fs) (pickL pk) t tk σ H Q := by
  refine h2 G H env σ _ _ ok hp fun ds vs G1 H1 x1 r1 q1 => ?_
  refine g2 G1 H1 env σ _ _ (ok.ext x1) q1 fun es zs G2 H2 x2 r2 ⟨l1, l2, l3, l4, q⟩ => ?_
  have r1' := r1.mono x2.g
  have rp : Reps X.K X.mg G2 (pickL pk vs zs) (pickL pk ds es) := Reps.pick (r1'.append r2) pk
  refine ⟨r1'.length.trans l1, r2.length.trans l2, by rw [r1'.length]; exact l3, fun a na => ⟨a, _, rfl, by rw [rp.length]; exact l4, upd_same, fun d nd ne => ⟨rfl, ?_⟩⟩⟩
  rw [upd_ne ne] at nd
  have x3 := ext_err (C := Cc) (fs := flds fs (pickL pk vs zs)) x2.s na nd ne
  refine kk _ _ _ _ ((x1.trans x2).trans x3) (.err upd_same exq_exo (by rw [upd_ne ne, upd_same]) hm ?_) q
  exact (repF_flds rp).mono x3.g
theorem pu_mkE (T : ErC X.K Cc f fs) (hm : X.mg cls = some (.ref Cc)) (F : FnOk X.prog X.w X.K X.mg X.base CX0 1 f fd ("self" :: fs) (spI Cc fs)) (hb : IniB X.K fd ("self" :: fs) n [] pk) (hr : Room (k + 2) X.A) (h : PuA X (e :: es) ps) (hg : Gl X cls := by rfl)
    (hdb : (cls == ("__debug__" : Str)) = false := by decide) (he : starEach (e :: es) X.env = (false, eval e X.env) :: starEach es X.env := by rfl) (hpl : (backTo pos (starEach es X.env)).any (·.1) = false := by rfl) :
    PuE X (.Call (.Name cls p) (e :: es) [] pos) (pMkE cls fs pk n 0 ps paNil) := by
  obtain ⟨t, h1, h2⟩ := h.ex
  exact ⟨_, pe_mkE T F (hr.mono (by omega)) hg hm hb pass0 h1 hdb he hpl, mkE_reads hm h2 fun G H env σ P Q ok hp k => k [] [] G H (.refl ok.same) .nil hp⟩
theorem pu_mkEK {m : Nat} (T : ErC X.K Cc f fs) (hm : X.mg cls = some (.ref Cc)) (F : FnOk X.prog X.w X.K X.mg X.base CX0 1 f fd ("self" :: fs) (spI Cc fs)) (hb : IniB X.K fd ("self" :: fs) 0 ks pk) (hr : Room (k + 2) X.A) (hkw : PuK X kws qs) (hml : ks.length = m := by rfl) (hg : Gl X cls := by rfl)
    (hall : (backToKw pos (keywordEach kws X.env)).all (·.1.isSome) = true := by rfl) (hks : (backToKw pos (keywordEach kws X.env)).filterMap (·.1) = ks := by rfl) (hdb : (cls == ("__debug__" : Str)) = false := by decide)
    (hpl : ((backTo pos (starEach [] X.env)).any (·.1) || (backToKw pos (keywordEach kws X.env)).any (·.1.isNone)) = false := by rfl) :
    PuE X (.Call (.Name cls p) [] kws pos) (pMkE cls fs pk 0 m paNil qs) := by
  subst hml
  obtain ⟨u, g1, g2⟩ := hkw.ex
  exact ⟨_, pe_mkEK T F (hr.mono (by omega)) hg hm hb pass0 g1 hall hks hdb hpl, mkE_reads hm (fun G H env σ P Q ok hp k => k [] [] G H (.refl ok.same) .nil hp) g2⟩

/-! ### a field -/
def tErF (K : PySem.W.Frag) (x : Str) (te : TE) : TE := fun σ H Q => te σ H fun y H1 => ∃ (a C f dx : Addr) (ns : List Str) (fs : List (Str × V)) (v : V), y = .ref a ∧ ErC K C f ns ∧ x ∈ ns ∧ (∃ w, H1 a = some w ∧ Exq w a C dx) ∧ H1 dx = some (exd dx fs) ∧ fs.lookup x = some v ∧ Q v H1
theorem pe_erF {x : Str} {te : TE} (he : PE X e te) (hb : attributeBase e x X.env (eval e X.env) = eval e X.env := by rfl) : PE X (.Attribute e x pos) (tErF X.K x te) := by
  refine ⟨fun pins s σ H Q I h => ?_⟩
  refine attr_of hb (thn (he.run pins s σ H _ I h) fun u s1 hh => ?_)
  obtain ⟨y, H1, I1, ry, a, C, f, dx, ns, fs, v, ey, T, hn, ea, ed, l, q⟩ := hh
  subst ey
  obtain rfl : u = Value.ref a := ry
  obtain ⟨w0, ea, xq⟩ := ea
  obtain ⟨oe, ves, ho, hcl, hdx, hdt⟩ := xq.at I1.hok ea
  obtain ⟨mA, hns, rel⟩ := exd_at I1.hok ed
  obtain ⟨od, hod, hl⟩ := lookIn_ns hns
  obtain ⟨w, hw, rw'⟩ := RelO.some_of (v := v) (o := mA x) (by rw [← l]; exact rel x)
  have J : PySem.W.InstAt s1.heap a _ C (some od) := ⟨ho, hcl, by unfold PySem.W.notCls; rw [hdt] <;> rfl, by rw [hdx]; exact hod⟩
  exact HandSPX.exc_get I1.kIn J T.xf.ga T.xf.gg T.xf.exC (PySem.W.findObj_own T.xf.hdC (T.no x hn) rfl (by rw [hl, hw])) (handed_of rw') ⟨v, H1, I1.tok _, rw', q⟩
def pErF (tab : ETab) (x : Str) (p : PTE) : PTE := fun env P => p env fun d => ∃ c ns fs v, d = .err c fs ∧ tab.lookup c = some ns ∧ x ∈ ns ∧ fs.lookup x = some v ∧ P v
theorem pu_erF {tab : ETab} {x : Str} (T : ErT X.K X.mg tab) (he : PuE X e pe) (hb : attributeBase e x X.env (eval e X.env) = eval e X.env := by rfl) : PuE X (.Attribute e x pos) (pErF tab x pe) := by
  obtain ⟨t, h1, h2⟩ := he.ex
  refine ⟨_, pe_erF h1 hb, fun G H env σ P Q ok hp k => h2 G H env σ _ _ ok hp fun d v G' H' y r q => ?_⟩
  obtain ⟨c, ns, fs, w, rfl, hc, hx, hl, q⟩ := q
  cases r with
  | err ea eq ed em rf =>
    obtain ⟨C', f', em', T'⟩ := T.ex c ns hc
    rw [em] at em'
    cases em'
    obtain ⟨v', l', r'⟩ := rf.look hl
    exact ⟨_, _, f', _, ns, _, v', rfl, T', hx, ⟨_, y.s _ _ ea, eq⟩, y.s _ _ ed, l', k w v' G' H' y r' q⟩

/-! ### isinstance -/
def rIsEr (K : PySem.W.Frag) : List V → Hp → VK → Prop := fun xs H Q => ∃ (a C f dx : Addr) (ns : List Str) (c : V) (u : Value) (b : Bool), xs = [.ref a, c] ∧ ClsV c u ∧ ErC K C f ns ∧ (∃ w, H a = some w ∧ Exq w a C dx) ∧ (∃ fs, H dx = some (exd dx fs)) ∧ PySem.W.kitOne K (.ref C) u = some b ∧ Q (.bl b) H
theorem call_isEr : CallR X (.builtin "isinstance") (rIsEr X.K) := by
  intro pins s σ H xs us Q I r h
  obtain ⟨a, C, f, dx, ns, c, u, b, rfl, kc, T, ea, ⟨fs, ed⟩, e, q⟩ := h
  obtain ⟨u1, u2, rfl, r1, r2⟩ := vals2 r
  have e2 := kc.eq r2
  subst e2
  cases (show u1 = Value.ref a from r1)
  obtain ⟨w0, ea, xq⟩ := ea
  obtain ⟨oe, ves, ho, hcl2, hdx, hdt⟩ := xq.at I.hok ea
  obtain ⟨mA, hns, rel⟩ := exd_at I.hok ed
  obtain ⟨od, hod, hl⟩ := lookIn_ns hns
  have J : PySem.W.InstAt s.heap a _ C (some od) := ⟨ho, hcl2, by unfold PySem.W.notCls; rw [hdt] <;> rfl, by rw [hdx]; exact hod⟩
  obtain ⟨nm, q', N, bs, bm, sn, sub, ab, col, dd, k0, k1, k2, k3, k5, hC, hbm⟩ := T.oex.cls
  have hcl : (PySem.W.clsIn X.K C).isSome = true := by
    unfold PySem.W.clsIn
    rw [hC]; rfl
  exact PySem.W.kia_one (PySem.W.kitx_exc hcl T.xf.ga T.xf.gg T.xf.exC T.cl T.hn T.ht T.hm) I.kIn J e (fun z => nomatch z) fun tk => ⟨.bl b, H, I.kept (t' := tk) fun _ _ z => z, rfl, q⟩
/-- which of the known classes belong to a class (or not) -/
abbrev STab := Str → Option Bool
structure ErS (K : PySem.W.Frag) (mg : MG) (sub : STab) (u : Value) : Prop where
  ex : ∀ c b, sub c = some b → ∃ C f ns, mg c = some (.ref C) ∧ ErC K C f ns ∧ PySem.W.kitOne K (.ref C) u = some b
def pIsE (sub : STab) (p : PTE) : PTE := fun env P => p env fun d => ∃ c fs b, d = .err c fs ∧ sub c = some b ∧ P (.bl b)
theorem isE_reads {sub : STab} {c : V} {u : Value} {G H : Hp} {v : V} {d : D} {P : D → Prop} {Q : VK} (S : ErS X.K X.mg sub u) (kc : ClsV c u) (s : Same G H) (r : Rep X.K X.mg G v d) (h : ∃ c fs b, d = .err c fs ∧ sub c = some b ∧ P (.bl b))
    (k : ∀ b, P (.bl b) → Q (.bl b) H) : rIsEr X.K [v, c] H Q := by
  obtain ⟨cn, fs, b, rfl, hs, q⟩ := h
  cases r with
  | err ea eq ed em rf =>
    obtain ⟨C', f', ns, em', T', e⟩ := S.ex cn b hs
    rw [em] at em'
    cases em'
    exact ⟨_, _, f', _, ns, c, u, b, rfl, kc, T', ⟨_, s _ _ ea, eq⟩, ⟨_, s _ _ ed⟩, e, k b q⟩
theorem pu_isE {sub : STab} {T : Str} {CT : Addr} {p2 p' : Pos} (S : ErS X.K X.mg sub (.ref CT)) (hT : X.mg T = some (.ref CT)) (hm : X.mg "isinstance" = none) (he : PuE X e pe) (hg : Gl X "isinstance" := by rfl) (hgT : Gl X T := by rfl)
    (hs : starEach [e, .Name T p2] X.env = (false, eval e X.env) :: starEach [.Name T p2] X.env := by rfl) (hs2 : starEach [.Name T p2] X.env = (false, eval (.Name T p2) X.env) :: starEach [] X.env := by rfl) (hpl : (backTo pos (starEach [.Name T p2] X.env)).any (·.1) = false := by rfl)
    (hd : (T == ("__debug__" : Str)) = false := by decide) : PuE X (.Call (.Name "isinstance" p') [e, .Name T p2] [] pos) (pIsE sub pe) := by
  obtain ⟨t, h1, h2⟩ := he.ex
  refine ⟨_, pe_callB call_isEr hg hm (by decide +kernel) (pa_cons h1 (pa_cons (pe_glob (v := .ref CT) hgT hT rfl hd) pa_nil hs2) hs) (by decide) (by decide) hs hpl, fun G H env σ P Q ok hp k => h2 G H env σ _ _ ok hp fun d v G' H' x r q => ?_⟩
  exact isE_reads S (.own CT) x.s r q fun b z => k _ _ G' H' x (.bl b) z
theorem pu_isEB {sub : STab} {T : Str} {n : String} {p2 p' : Pos} (S : ErS X.K X.mg sub (.type n)) (hm : X.mg "isinstance" = none) (hmT : X.mg T = none) (he : PuE X e pe) (hv : bootBuiltins T = some (.type n) := by decide +kernel) (hg : Gl X "isinstance" := by rfl) (hgT : Gl X T := by rfl)
    (hs : starEach [e, .Name T p2] X.env = (false, eval e X.env) :: starEach [.Name T p2] X.env := by rfl) (hs2 : starEach [.Name T p2] X.env = (false, eval (.Name T p2) X.env) :: starEach [] X.env := by rfl) (hpl : (backTo pos (starEach [.Name T p2] X.env)).any (·.1) = false := by rfl)
    (hn : T ≠ "__name__" := by decide) (hd : (T == ("__debug__" : Str)) = false := by decide) : PuE X (.Call (.Name "isinstance" p') [e, .Name T p2] [] pos) (pIsE sub pe) := by
  obtain ⟨t, h1, h2⟩ := he.ex
  refine ⟨_, pe_callB call_isEr hg hm (by decide +kernel) (pa_cons h1 (pa_cons (pe_bltn (v := .ty n) hgT hmT hv rfl hn hd) pa_nil hs2) hs) (by decide) (by decide) hs hpl, fun G H env σ P Q ok hp k => h2 G H env σ _ _ ok hp fun d v G' H' x r q => ?_⟩
  exact isE_reads S (.ty n) x.s r q fun b z => k _ _ G' H' x (.bl b) z
end

/-! ### a head with one more look -/
/-! ### what a program's head gives of its errors -/
def subOf (tab : ETab) (T : Str) : STab := fun c => if (tab.lookup c).isSome = true then some (decide (c = T)) else none
def subAll (tab : ETab) : STab := fun c => if (tab.lookup c).isSome = true then some true else none
theorem mem_of_look {tab : ETab} {c : Str} {fs : List Str} (h : tab.lookup c = some fs) : (c, fs) ∈ tab := by
  induction tab with
  | nil => cases h
  | cons p r ih =>
    obtain ⟨k, v⟩ := p
    by_cases e : c = k
    · subst e
      rw [List.lookup_cons_self] at h
      cases h
      exact List.mem_cons_self
    · have hb : (c == k) = false := by simpa using e
      rw [List.lookup_cons, hb] at h
      exact List.mem_cons_of_mem _ (ih h)
section
variable {tab : ETab} {K : PySem.W.Frag} {h : Heap} {mg : MG}
theorem err_one (X : K.In h) (G : h.Ns mainGlobals mg) (b : errB tab K = true) {c : Str} {fs : List Str} (hc : tab.lookup c = some fs) : mg c = some (.ref (He.ga K c)) ∧ ErC K (He.ga K c) (He.ma K (He.ga K c) "__init__") fs := by
  have z := List.all_eq_true.mp b _ (mem_of_look hc)
  rw [Bool.and_eq_true] at z
  exact ⟨He.glo_ok X G z.1, ercB_ok z.2⟩
theorem erT_of (X : K.In h) (G : h.Ns mainGlobals mg) (b : errB tab K = true) : ErT K mg tab := ⟨fun c fs hc => ⟨_, _, err_one X G b hc⟩⟩
theorem erS_of (X : K.In h) (G : h.Ns mainGlobals mg) (b : errB tab K = true) (b2 : subB tab K = true) (T : Str) {ns : List Str} (hT : tab.lookup T = some ns) : ErS K mg (subOf tab T) (.ref (He.ga K T)) := ⟨fun c v e => by
  unfold subOf at e
  split at e
  · rename_i hs
    cases e
    obtain ⟨fs, hf⟩ := Option.isSome_iff_exists.mp hs
    obtain ⟨h1, h2⟩ := err_one X G b hf
    have z := List.all_eq_true.mp (List.all_eq_true.mp b2 _ (mem_of_look hf)) _ (mem_of_look hT)
    exact ⟨_, _, fs, h1, h2, of_decide_eq_true z⟩
  · cases e⟩
theorem erA_of {u : Value} (X : K.In h) (G : h.Ns mainGlobals mg) (b : errB tab K = true) (b2 : supB tab K u = true) : ErS K mg (subAll tab) u := ⟨fun c v e => by
  unfold subAll at e
  split at e
  · rename_i hs
    cases e
    obtain ⟨fs, hf⟩ := Option.isSome_iff_exists.mp hs
    obtain ⟨h1, h2⟩ := err_one X G b hf
    exact ⟨_, _, fs, h1, h2, of_decide_eq_true (List.all_eq_true.mp b2 _ (mem_of_look hf))⟩
  · cases e⟩
end
/-- a class of errors that may be called -/
structure ECl (P : Program) (w : World) (K : PySem.W.Frag) (mg : MG) (base : Heap) (cls : Str) (C f : Addr) (fd : FuncData) (fs : List Str) : Prop where
  gm : mg cls = some (.ref C)
  er : ErC K C f fs
  ok : FnOk P w K mg base CX0 1 f fd ("self" :: fs) (spI C fs)
section
variable {X : Cx} {k n : Nat} {f Cc : Addr} {fd : FuncData} {ks fs : List Str} {cls : Str} {p pos : Pos} {e : Expr} {es : List Expr} {kws : List Keyword} {ps qs : PTA} {pk : List Nat}
theorem pu_er (E : ECl X.prog X.w X.K X.mg X.base cls Cc f fd fs) (hb : IniB X.K fd ("self" :: fs) n [] pk) (hr : Room k X.A) (h : PuA X (e :: es) ps) (hk : 2 ≤ k := by decide) (hg : Gl X cls := by rfl)
    (hdb : (cls == ("__debug__" : Str)) = false := by decide) (he : starEach (e :: es) X.env = (false, eval e X.env) :: starEach es X.env := by rfl) (hpl : (backTo pos (starEach es X.env)).any (·.1) = false := by rfl) :
    PuE X (.Call (.Name cls p) (e :: es) [] pos) (pMkE cls fs pk n 0 ps paNil) := pu_mkE (k := 0) E.er E.gm E.ok hb (hr.mono hk) h hg hdb he hpl
theorem pu_erK {m : Nat} (E : ECl X.prog X.w X.K X.mg X.base cls Cc f fd fs) (hb : IniB X.K fd ("self" :: fs) 0 ks pk) (hr : Room k X.A) (hkw : PuK X kws qs) (hml : ks.length = m := by rfl) (hk : 2 ≤ k := by decide) (hg : Gl X cls := by rfl)
    (hall : (backToKw pos (keywordEach kws X.env)).all (·.1.isSome) = true := by rfl) (hks : (backToKw pos (keywordEach kws X.env)).filterMap (·.1) = ks := by rfl) (hdb : (cls == ("__debug__" : Str)) = false := by decide)
    (hpl : ((backTo pos (starEach [] X.env)).any (·.1) || (backToKw pos (keywordEach kws X.env)).any (·.1.isNone)) = false := by rfl) :
    PuE X (.Call (.Name cls p) [] kws pos) (pMkE cls fs pk 0 m paNil qs) := pu_mkEK (k := 0) E.er E.gm E.ok hb (hr.mono hk) hkw hml hg hall hks hdb hpl
end
/-- __init__ of one field, of two -/
theorem init1 {P : Program} {w : World} {K : PySem.W.Frag} {mg : MG} {base : Heap} {qual : Str} {params : Arguments} {body : List Stmt} {scope : Scope} {C f : Addr} {fd : FuncData} {x : Str} (F : FunD K "__init__" qual params body scope [] [] f fd) (S : FnScope (["self", x] : List Str) (["self", x] : List Str) scope) (T : ErC K C f [x])
    (hb : ∀ X : Cx, X.K = K → X.N = (["self", x] : List Str) → X.env.scope = scope → PSs X body (tOst K x (tVar 0) (tVar 1))) : FnOk P w K mg base CX0 1 f fd ["self", x] (spI C [x]) :=
  FunD.ok F S (fun vs H Q E h => spI_len h) fun cdv A outer s H vs Q E hr h => ⟨_, hb _ rfl rfl rfl, ini1 T.oex (T.no x (by simp)) h⟩
theorem init2 {P : Program} {w : World} {K : PySem.W.Frag} {mg : MG} {base : Heap} {qual : Str} {params : Arguments} {body : List Stmt} {scope : Scope} {C f : Addr} {fd : FuncData} {x z : Str} (F : FunD K "__init__" qual params body scope [] [] f fd) (S : FnScope (["self", x, z] : List Str) (["self", x, z] : List Str) scope) (T : ErC K C f [x, z])
    (hb : ∀ X : Cx, X.K = K → X.N = (["self", x, z] : List Str) → X.env.scope = scope → PSs X body (tSeq (tOst K x (tVar 0) (tVar 1)) (tOst K z (tVar 0) (tVar 2)))) : FnOk P w K mg base CX0 1 f fd ["self", x, z] (spI C [x, z]) :=
  FunD.ok F S (fun vs H Q E h => spI_len h) fun cdv A outer s H vs Q E hr h => ⟨_, hb _ rfl rfl rfl, ini2 T.oex T.no h⟩
/-- a def of which nothing is asked -/
theorem never_ok {P : Program} {w : World} {K : PySem.W.Frag} {mg : MG} {base : Heap} {k : Nat} {f : Addr} {fd : FuncData} {ps : List Str} : FnOk P w K mg base CX0 k f fd ps (spP K mg fun _ _ => False) :=
  ⟨fun vs H Q E h => by
    obtain ⟨_, _, _, _, _, z, _⟩ := h
    exact z.elim, fun A outer s H args us vs Q E hr e0 hb r h => by
    obtain ⟨_, _, _, _, _, z, _⟩ := h
    exact z.elim⟩
end PL
end

section
set_option linter.all false
set_option maxRecDepth 100000
set_option maxHeartbeats 4000000
set_option autoImplicit false
/-! PL16: isqrt; repr of lists, for a law's own def (nothing is being shown when a law is called). -/
namespace PL
open PySem PySem.Spec PyProof.Rows L2
section
variable {X : Cx} {e a : Expr} {pa : PTE} {pos p' : Pos}
/-! ### isqrt -/
theorem cr_isqrt : CallR X (.builtin "math.isqrt") (fun xs H Q => ∃ i : Int, xs = [.int i] ∧ 0 ≤ i ∧ i < 2 ^ 2000 ∧ Q (.int ((Float64.isqrt i.toNat : Nat) : Int)) H) := by
  intro pins s σ H xs us Q I r ⟨i, ex, h0, h1, q⟩
  subst ex
  obtain ⟨u, rfl, t, rfl⟩ := vals1 r
  have hl : i.toNat.log2 < 2000 := by
    by_cases z : i.toNat = 0
    · rw [z]; decide
    · rw [Nat.log2_lt z]
      have e : ((2 ^ 2000 : Nat) : Int) = 2 ^ 2000 := by simp
      omega
  exact call_function_meets PySem.W.MGF.kind_isqrt PySem.W.MGF.plain_isqrt PySem.W.MGF.entry_isqrt (PySem.W.MGF.args_isqrt _) (PySem.W.mg_run_isqrt i t (by omega) (by omega) (by omega)).meets ⟨.int _, H, I.tok _, ⟨_, rfl⟩, q⟩
def isqrtP : PSp := fun ds P => match ds with
  | [.int i] => 0 ≤ i ∧ i < 2 ^ 2000 ∧ ∀ r : Int, 0 ≤ r → r * r ≤ i → i < (r + 1) * (r + 1) → P (.int r)
  | _ => False
theorem isqrtP_i {P : D → Prop} {i : Int} : isqrtP [.int i] P = (0 ≤ i ∧ i < 2 ^ 2000 ∧ ∀ r : Int, 0 ≤ r → r * r ≤ i → i < (r + 1) * (r + 1) → P (.int r)) := rfl
theorem isqrtP_ok : CallOk X (fun xs H Q => ∃ i : Int, xs = [.int i] ∧ 0 ≤ i ∧ i < 2 ^ 2000 ∧ Q (.int ((Float64.isqrt i.toNat : Nat) : Int)) H) isqrtP := by
  intro G H vs ds P Q s rs h k
  unfold isqrtP at h
  split at h
  · rename_i i
    obtain ⟨v, rfl, r⟩ := one_shal rs
    cases r.int
    obtain ⟨h0, h1, h⟩ := h
    have key : P (.int ((Float64.isqrt i.toNat : Nat) : Int)) := by
      obtain ⟨s1, s2⟩ := Float64.isqrt_spec i.toNat
      generalize Float64.isqrt i.toNat = n at *
      refine h n (by omega) ?_ ?_
      · have e : ((n * n : Nat) : Int) = (n : Int) * n := Int.natCast_mul n n
        omega
      · have e : (((n + 1) * (n + 1) : Nat) : Int) = ((n : Int) + 1) * ((n : Int) + 1) := by rw [Int.natCast_mul]; rfl
        omega
    exact ⟨_, rfl, h0, h1, k _ _ G H (.refl s) (.int _) key⟩
  · exact h.elim
theorem pu_isqrt {x : Str} (hm : X.mg x = some (.builtin "math.isqrt")) (h : PuO X a pa) (hg : Gl X x := by rfl) (hdb : (x == ("__debug__" : Str)) = false := by decide) (hs : starEach [a] X.env = (false, eval a X.env) :: starEach [] X.env := by rfl) :
    PuE X (.Call (.Name x p') [a] [] pos) (pCall isqrtP (paCons pa paNil)) := by
  obtain ⟨t, h1, h2⟩ := (puao_cons h puao_nil hs).ex
  refine ⟨_, pe_callBfun cr_isqrt hg hm h1 hdb hs rfl, fun G H env σ P Q ok hp k => h2 G H env σ _ _ ok hp fun ds vs G' H' y rs q => ?_⟩
  exact isqrtP_ok G' H' vs ds P Q y.s rs q fun d u G2 H2 z r2 q2 => k d u G2 H2 (y.trans z) r2 q2

/-! ### repr of flat data -/
def rRep (K : PySem.W.Frag) : List V → Hp → VK → Prop := fun xs H Q => ∃ (a : Addr) (d : PyData), xs = [.ref a] ∧ Dp K H (.ref a) d ∧ d.showable = true ∧ d.hasDict = false ∧ d.depth ≤ 64 ∧ d.shown.length ≤ sizeLine ∧ Q (.str d.shown) H
theorem cr_rep (hg : X.A.guards = some []) (hu : X.A.units + 65 < cLine) : CallR X (.builtin "repr") (rRep X.K) := by
  intro pins s σ H xs us Q I r ⟨a, d, ex, hd, hs, hn, hdp, hz, q⟩
  subst ex
  obtain ⟨u, rfl, ru⟩ := vals1 r
  obtain ⟨as, rd⟩ := Dp.reads I d (.ref a) u hd ru
  obtain rfl : u = Value.ref a := ru
  exact repr_of_reads' rd hs (PyData.noDict_hsm hn) hg (by omega) (fun _ _ e => e) (fun h' w tk hk => ⟨.str _, H, I.kept hk, ⟨_, rfl⟩, q⟩) hz
def reprLP : PSp := fun ds P => match ds with
  | [.lst xs] => flats xs = true ∧ (toPy (.lst xs)).showable = true ∧ (toPy (.lst xs)).hasDict = false ∧ (toPy (.lst xs)).depth ≤ 64 ∧ (toPy (.lst xs)).shown.length ≤ sizeLine ∧ P (.str (toPy (.lst xs)).shown)
  | _ => False
theorem reprLP_l {P : D → Prop} {xs : List D} : reprLP [.lst xs] P = (flats xs = true ∧ (toPy (.lst xs)).showable = true ∧ (toPy (.lst xs)).hasDict = false ∧ (toPy (.lst xs)).depth ≤ 64 ∧ (toPy (.lst xs)).shown.length ≤ sizeLine ∧ P (.str (toPy (.lst xs)).shown)) := rfl
theorem reprLP_ok : CallOk X (rRep X.K) reprLP := by
  intro G H vs ds P Q s rs h k
  unfold reprLP at h
  split at h
  · rename_i xs
    obtain ⟨v, rfl, r⟩ := one_shal rs
    obtain ⟨h1, h2, h3, h4, h5, h6⟩ := h
    have hd := r.dp s (d := .lst xs) h1
    obtain ⟨l, ws, rfl, _, _⟩ := r.lst s
    exact ⟨l, _, rfl, hd, h2, h3, h4, h5, k _ _ G H (.refl s) (.str _) h6⟩
  · exact h.elim
theorem pu_reprL (hg : X.A.guards = some []) {k : Nat} (hr : Room k X.A) (hm : X.mg "repr" = none) (h : PuO X a pa) (hs : starEach [a] X.env = (false, eval a X.env) :: starEach [] X.env := by rfl) (hgl : Gl X "repr" := by rfl) : PuE X (.Call (.Name "repr" p') [a] [] pos) (pCall reprLP (paCons pa paNil)) :=
  pu_bi (cr_rep hg (Room.u65 hr)) reprLP_ok hm (puao_cons h puao_nil hs) hgl (by decide +kernel) (by decide) (by decide) hs rfl
end

/-! ### a def that is called where nothing is being shown -/
structure FnG (P : Program) (w : World) (K : PySem.W.Frag) (mg : MG) (base : Heap) (k : Nat) (f : Addr) (fd : FuncData) (ps : List Str) (sp : Sp) : Prop where
  go : ∀ (A : Around) (outer : List Env) (s : Shared) (H : Hp) (args : Args) (us : List Value) (vs : List V) (Q : VK) (E : XK), Room k A → A.guards = some [] → Env0 P w K mg base A outer s H → BindsTo s fd args (ps.zip us) → Vals vs us → sp vs H Q E →
    codeAny (model P w) A (.call (.ref f) args) (CR CX0 outer P w H s Q E) s
theorem pfnG {P : Program} {w : World} {K : PySem.W.Frag} {mg : MG} {base : Heap} {x : Str} {st : Stmt} {f : Addr} {fd : FuncData} {N ns : List Str} {k : Nat} {sp : PSp} {p : PTS} (F : FnP K x st f fd) (S : FnScope N ns (defScope st)) (hlen : ∀ ds P, sp ds P → ds.length = ns.length)
    (hbody : ∀ (cdv : Value) (A : Around) (outer : List Env) (s : Shared) (H : Hp) (E : XK), Room k (A.deeper (envOfC x (defScope st) s.heap.objs.size f cdv)) → A.guards = some [] →
      PuSs (cxOf CX0 P w K mg base N x (defScope st) f cdv A outer s H E).nox (defBody st) p) (hp : ∀ ds Q, sp ds Q → p { nx := fun _ => Q .non, rt := Q } (startC N ds)) : FnG P w K mg base (k + 1) f fd ns (spP K mg sp) := by
  constructor
  intro A outer s H args us vs Q E hr hgd e0 hb r hsp
  obtain ⟨oc, od, dV, kV, doc, pm, an, cdv, ct, osl, rfl, lk, hcd, _, _⟩ := F.ex
  obtain ⟨G, ds, P', sm, rr, q, kk⟩ := hsp
  have hl : vs.length = ns.length := by rw [rr.length]; exact hlen ds P' q
  have into : ∀ b o, base.get? b = some o → s.heap.get? b = some o := fun b o e => (e0.bs b o e).1
  have KX : K.In s.heap := e0.mod.kin.keeps into
  have params : ∀ y ∈ ns.zip us, (defScope st).names.lookup y.1 = some .local ∨ ((defScope st).names.lookup y.1 = some .cell ∧ ((cellsFrom (s.heap.objs.size + 1) (defScope st).names []).lookup y.1).isSome = true) := by
    rintro ⟨n, v⟩ hy
    rcases S.par n (List.of_mem_zip hy).1 with h | h
    · exact .inl h
    · exact .inr ⟨h, PySem.W.cellsFrom_some _ _ _ (.inl h)⟩
  refine codeAny_call_function hr.depth (KX _ _ lk) rfl S.co S.gen rfl (PySem.W.codeRec_of KX hcd) (hb _ _ _ _ ?_)
  refine wpAny_newFunctionEnv_cells S.kind params fun env he s1 x1 => ?_
  subst he
  refine ⟨(e0.mod.nolimit.keeps into).keeps x1.toInCall.keep, codeAny_func ?_⟩
  obtain ⟨t, t1, t2⟩ := (hbody cdv A outer s H E (hr.deeper _) hgd).ex
  have I := inv_start (CX := CX0) (E := E) S hr.hd e0 hl r x1
  have hq := t2 G H G H _ _ { nx := fun _ => P' .non, rt := P' } { nx := fun _ H' => Q .non H', rt := Q } ⟨start_ok (N := N) sm rr, .refl sm, fun i d l z => by
    intro s1
    exfalso
    unfold startC at z
    by_cases hk : i < ds.length
    · rw [List.getElem?_append_left (by simpa using hk), List.getElem?_map] at z
      cases e : ds[i]? with
      | none => rw [e] at z; cases z
      | some d => rw [e] at z; cases z
    · rw [List.getElem?_append_right (by simpa using hk), List.getElem?_replicate] at z
      split at z <;> cases z⟩
    ⟨fun G' H' env σ r' z => kk .non .non G' H' r'.ext .non z, fun G' H' env σ r' z => z, fun G' H' env σ r' z => z, fun G' H' d v y rp z => kk d v G' H' y rp z, fun _ _ _ _ _ _ _ _ z => z.elim, ⟨_, tk0, fun _ _ _ _ _ _ _ _ _ _ _ _ _ _ _ z => z.elim⟩⟩ (hp ds P' q)
  refine wpAny_mono (t1.nox.run [] s1 (start N vs) H _ I hq) (fun fl s' hs => ?_) fun e s' hs => hs
  cases fl with
  | ret u =>
    obtain ⟨v, σ', H', J, rv, z⟩ := hs
    exact ⟨v, H', J.os, J.bare, J.base, J.hok, rv, z⟩
  | next =>
    obtain ⟨σ', H', J, z⟩ := hs
    exact ⟨V.non, H', J.os, J.bare, J.base, J.hok, rfl, z⟩
  | brk =>
    obtain ⟨_, _, _, z⟩ := hs
    exact z.elim
  | cont =>
    obtain ⟨_, _, _, z⟩ := hs
    exact z.elim
/-- the same of a promise that holds anywhere -/
theorem FnG.of {P : Program} {w : World} {K : PySem.W.Frag} {mg : MG} {base : Heap} {k : Nat} {f : Addr} {fd : FuncData} {ps : List Str} {sp : Sp} (F : FnOk P w K mg base CX0 k f fd ps sp) : FnG P w K mg base k f fd ps sp :=
  ⟨fun A outer s H args us vs Q E hr _ e0 hb r h => F.run A outer s H args us vs Q E hr e0 hb r h⟩
/-- what is tracked of the heap ahead of a law: its script alone, if it is no object of the module -/
def hpOf (K : PySem.W.Frag) (a : Addr) (o : Obj) (ns : List Int) : Hp := fun b => if b = a ∧ K.lookup a = none then some (.frz o (.lst (ns.map V.int))) else none
section
variable {K : PySem.W.Frag} {a : Addr} {o : Obj} {ns : List Int}
theorem hpOf_some {b : Addr} {u : HO} (e : hpOf K a o ns b = some u) : b = a ∧ K.lookup a = none ∧ u = .frz o (.lst (ns.map V.int)) := by
  unfold hpOf at e
  split at e
  · rename_i h
    cases e
    exact ⟨h.1, h.2, rfl⟩
  · cases e
theorem hpOf_only : Only (hpOf K a o ns) := fun b => by
  cases e : hpOf K a o ns b with
  | none => exact .inl rfl
  | some u =>
    obtain ⟨_, _, rfl⟩ := hpOf_some e
    exact .inr ⟨_, _, rfl⟩
end
theorem law_g {P : Program} {w : World} {K : PySem.W.Frag} {mg mb : MG} {k : Nat} {fa a : Addr} {fd : FuncData} {x : Str} {sp : Sp} {s1 : Shared} {vs : List Value} {ns : List Int} (KX : K.In s1.heap) (hns : s1.heap.Ns mainGlobals mg) (hb : s1.heap.Ns builtinsNs mb)
    (hbb : ∀ y : Str, y ≠ "__name__" → mb y = bootBuiltins y) (hlim : s1.heap.NoLimit) (hg : s1.gens = #[]) (ha : s1.heap.get? a = some { cls := .type "list", data := .seq vs.toArray }) (hi : IntsAre vs ns) (hl : ns.length ≤ sizeLine) (hr : Room k callerA)
    (F : ∀ base : Heap, K.In base → base.Ns mainGlobals mg → FnG P w K mg base k fa fd [x] sp) (hbind : ∀ (s : Shared) (u : Value), BindsTo s fd ⟨[u], []⟩ [(x, u)])
    (hsp : ∀ H : Hp, Only H → SqL K H a (ns.map V.int) → sp [.ref a] H (fun v _ => v = .bl true) fun _ _ _ => False) :
    codeAny (model P w) callerA (.call (.ref fa) ⟨[.ref a], []⟩) (fun r s' => r = .ok (.ret (.bool true)) ∧ OldK s1.heap s'.heap ∧ s'.os = s1.os ∧ AllBare s'.gens) s1 := by
  have rv := vals_ints hi
  have lv := hi.length
  -- the objects that are not tracked
  have keepN : ∀ {b : Addr} {u : Obj}, s1.heap.get? b = some u → hpOf K a { cls := .type "list", data := .seq vs.toArray } ns b = none → (hidT s1.heap (hpOf K a { cls := .type "list", data := .seq vs.toArray } ns)).get? b = some u := fun e n => hidT_get e n
  have dictN : ∀ {b : Addr} {u : Obj} {es : Array DictEntry} {ep : Nat}, s1.heap.get? b = some u → u.data = .dict es ep → hpOf K a { cls := .type "list", data := .seq vs.toArray } ns b = none := fun {b u es ep} e d => by
    cases q : hpOf K a { cls := .type "list", data := .seq vs.toArray } ns b with
    | none => rfl
    | some z =>
      obtain ⟨rfl, _, _⟩ := hpOf_some q
      rw [ha] at e
      cases e
      have d' : Data.seq vs.toArray _ = Data.dict es ep := d
      cases d'
  have nsN : ∀ {b : Addr} {m : MG}, s1.heap.Ns b m → (hidT s1.heap (hpOf K a { cls := .type "list", data := .seq vs.toArray } ns)).Ns b m := fun ⟨u, es, ep, e, d, r⟩ => ⟨u, es, ep, keepN e (dictN e d), d, r⟩
  have kN : K.In (hidT s1.heap (hpOf K a { cls := .type "list", data := .seq vs.toArray } ns)) := fun b u e => keepN (KX b u e) (by
    cases q : hpOf K a { cls := .type "list", data := .seq vs.toArray } ns b with
    | none => rfl
    | some z =>
      obtain ⟨rfl, n, _⟩ := hpOf_some q
      rw [n] at e
      cases e)
  have hok : HOk P w (hpOf K a { cls := .type "list", data := .seq vs.toArray } ns) s1.heap := fun b u e => by
    obtain ⟨rfl, _, rfl⟩ := hpOf_some e
    exact ⟨ha, by rw [List.length_map]; exact hl, vs, _, rv, ha⟩
  have hS : SqL K (hpOf K a { cls := .type "list", data := .seq vs.toArray } ns) a (ns.map V.int) := by
    cases hk : K.lookup a with
    | none => exact .inl (.inr ⟨_, if_pos ⟨rfl, hk⟩⟩)
    | some u =>
      have e := KX a u hk
      rw [ha] at e
      cases e
      exact .inr ⟨_, vs.toArray, _, hk, rfl, rfl, rfl, by rw [List.size_toArray, lv]; exact hl, by simpa using rv⟩
  have e0 : Env0 P w K mg (hidT s1.heap (hpOf K a { cls := .type "list", data := .seq vs.toArray } ns)) callerA [] s1 (hpOf K a { cls := .type "list", data := .seq vs.toArray } ns) :=
    ⟨rfl, ⟨kN, nsN hns, ⟨mb, nsN hb, hbb⟩, hlim.elim fun mc h => ⟨mc, nsN h.1, h.2⟩⟩, fun b u e => of_hidT e, Nat.le_of_eq (hidT_size _ _), trivial, fun b hb => absurd (show b ∈ ([] : List Addr) from hb) (by simp), hok, .of_eq hg⟩
  refine codeAny_mono ((F _ kN (nsN hns)).go callerA [] s1 _ ⟨[.ref a], []⟩ [.ref a] [.ref a] _ _ hr rfl e0 (hbind s1 (.ref a)) (.cons rfl .nil) (hsp _ hpOf_only hS)) fun r s' z => ?_
  cases r with
  | error e => exact False.elim z
  | ok fl =>
    cases fl with
    | next => exact False.elim z
    | brk => exact False.elim z
    | cont => exact False.elim z
    | ret u =>
      obtain ⟨v, H', os, bare, un, hok2, rv2, ev⟩ := z
      have ev : v = .bl true := ev
      subst ev
      obtain rfl : u = Value.bool true := rv2
      refine ⟨rfl, OldK.of_keep fun b y e => ?_, os, bare⟩
      cases q : hpOf K a { cls := .type "list", data := .seq vs.toArray } ns b with
      | none => exact un.keep b y e q (fun z => absurd (show b ∈ ([] : List Addr) from z) (by simp)) (by simp)
      | some t =>
        obtain ⟨_, _, rfl⟩ := hpOf_some q
        obtain ⟨e1, _⟩ := hok b _ q
        obtain ⟨e2, _⟩ := hok2 b _ (un.frzs b _ _ q)
        rw [e] at e1
        cases e1
        exact e2
/-- a law's end, its def called where nothing is being shown -/
theorem walk_g {l : PySem.W.OpenLaw} {n k : Nat} {q : Program} {loose : List Str} {XP : MG → Heap → Prop} {YP : World → Heap → Prop} {d : DefRec} {x : Str} (hn : l.most = some n) (hn2 : n ≤ sizeLine) (hdf : d.params.defaults = []) (hr : Room k callerA)
    (F : ∀ (w : World) (mg : MG) (fa : Addr) (h : Heap), YP w h → h.Ns mainGlobals mg → mg d.name = some (.ref fa) → ∃ (K : PySem.W.Frag) (fd : FuncData) (sp : Sp), K.In h ∧ (∀ (s : Shared) (u : Value), BindsTo s fd ⟨[u], []⟩ [(x, u)]) ∧
      (∀ (H : Hp) (a : Addr) (ns : List Int), ns.length ≤ n → Only H → SqL K H a (ns.map V.int) → sp [.ref a] H (fun v _ => v = .bl true) fun _ _ _ => False) ∧ ∀ base : Heap, K.In base → base.Ns mainGlobals mg → FnG l.prog w K mg base k fa fd [x] sp) :
    PySem.W.WalkO q loose XP YP l.row.toRowW d [] (fun f vs => PySem.call f vs) := by
  refine Att.attach_call hn hdf ?_
  intro w s0 s1 mg mb fa o pm cd doc a vs ns G Y ho hd hcd hmg hobj hints hlen hgens
  obtain ⟨K, fd, sp, KX, bnd, hsp, hF⟩ := F w mg fa _ Y G.T.g hmg
  exact law_g KX G.T.g G.T.b G.T.builtins G.T.nolimit hgens hobj hints (Nat.le_trans hlen hn2) hr hF bnd fun H hO hS => hsp H a ns hlen hO hS
end PL
end

section
set_option linter.all false
set_option maxRecDepth 100000
set_option maxHeartbeats 4000000
set_option autoImplicit false
/-! PL17: dict displays, x.extend(new list). -/
namespace PL
open PySem PySem.Spec PyProof.Rows L2
section
variable {X : Cx} {e a b c k v : Expr} {es : List Expr} {ks : List (Option Expr)} {vs : List Expr} {pe pa pb pk pv : PTE} {ps : PTA} {pos p' : Pos}
/-! ### dict displays -/
def pPairs : List (PTE × PTE) → List C → (List (D × D) → Prop) → Prop
  | [], _, P => P []
  | (pk, pv) :: r, env, P => pk env fun x => pv env fun y => pPairs r env fun ps => P ((x, y) :: ps)
def keysP : List (D × D) → Option (List (Key × D))
  | [] => some []
  | (x, y) :: r => (keyOf x).bind fun k => (keysP r).map fun ks => (k, y) :: ks
def mergeD (kvs more : List (Key × D)) : List (Key × D) := more.foldl (fun acc kv => putD acc kv.1 kv.2) kvs
def pDisp (pps : List (PTE × PTE)) : PTE := fun env P => pPairs pps env fun ps => match keysP ps with
  | some kvs => kvs.length ≤ 15 ∧ P (.dk (mergeD [] kvs))
  | none => False
inductive RepPs (K : PySem.W.Frag) (mg : MG) (G : Hp) : List (V × V) → List (D × D) → Prop
  | nil : RepPs K mg G [] []
  | cons {x y : V} {d f : D} {xs : List (V × V)} {ds : List (D × D)} : Rep K mg G x d → Rep K mg G y f → RepPs K mg G xs ds → RepPs K mg G ((x, y) :: xs) ((d, f) :: ds)
theorem RepPs.mono {K : PySem.W.Frag} {mg : MG} {G G' : Hp} (s : Same G G') : ∀ {xs : List (V × V)} {ds : List (D × D)}, RepPs K mg G xs ds → RepPs K mg G' xs ds
  | _, _, .nil => .nil
  | _, _, .cons a b t => .cons (a.mono s) (b.mono s) (RepPs.mono s t)
theorem RepPs.keys {K : PySem.W.Frag} {mg : MG} {G : Hp} : ∀ {xs : List (V × V)} {ds : List (D × D)} {kvs : List (Key × D)}, RepPs K mg G xs ds → keysP ds = some kvs →
    ∃ us : List (Key × V), xs = us.map (fun kv => (kV kv.1, kv.2)) ∧ us.length = kvs.length ∧ Rel2 (Rep K mg G) us kvs
  | _, _, _, .nil, h => by cases h; exact ⟨[], rfl, rfl, .nil⟩
  | _, _, kvs, .cons (d := d) (f := f) (ds := ds) a b t, h => by
    unfold keysP at h
    cases e : keyOf d with
    | none => rw [e] at h; cases h
    | some k =>
      rw [e] at h
      cases e2 : keysP ds with
      | none => rw [e2] at h; cases h
      | some ms =>
        rw [e2] at h
        cases h
        obtain ⟨us, rfl, l, r⟩ := RepPs.keys t e2
        have ek := a.key e
        subst ek
        exact ⟨(k, _) :: us, rfl, by simp [l], .cons b r⟩
theorem Rel2.merge {R : V → D → Prop} : ∀ {more : List (Key × V)} {ms : List (Key × D)} {kvs : List (Key × V)} {ds : List (Key × D)}, Rel2 R more ms → Rel2 R kvs ds → Rel2 R (mergeK kvs more) (mergeD ds ms)
  | _, _, _, _, .nil, h => h
  | _, _, _, _, .cons (k := k) r t, h => by
    have q := Rel2.merge t (Rel2.put (k := k) r h)
    exact q
/-- the pairs of a display -/
structure PuPs (X : Cx) (pos : Pos) (ks : List (Option Expr)) (vs : List Expr) (pps : List (PTE × PTE)) : Prop where
  ex : ∃ trs : List (TE × TE), PPs X pos ks vs trs ∧ ∀ (G H : Hp) (env : List C) (σ : L2.St) (P : List (D × D) → Prop) (Q : List (V × V) → Hp → Prop), Ok X.K X.mg G H env σ → pPairs pps env P →
    (∀ ds xs G' H', Ext G H G' H' → RepPs X.K X.mg G' xs ds → P ds → Q xs H') → tPairs trs σ H Q
theorem pups_nil : PuPs X pos [] [] [] := ⟨[], pps_nil, fun G H env σ P Q ok hp k => k _ _ G H (.refl ok.same) .nil hp⟩
theorem pups_cons {pps : List (PTE × PTE)} (hk : PuE X k pk) (hv : PuE X v pv) (hr : PuPs X pos ks vs pps) : PuPs X pos (some k :: ks) (v :: vs) ((pk, pv) :: pps) := by
  obtain ⟨t, a1, a2⟩ := hk.ex
  obtain ⟨u, b1, b2⟩ := hv.ex
  obtain ⟨w, c1, c2⟩ := hr.ex
  refine ⟨(t, u) :: w, pps_cons a1 b1 c1, fun G H env σ P Q ok hp kk => ?_⟩
  refine a2 G H env σ _ _ ok hp fun x xv G1 H1 e1 r1 q1 => ?_
  refine b2 G1 H1 env σ _ _ (ok.ext e1) q1 fun y yv G2 H2 e2 r2 q2 => ?_
  refine c2 G2 H2 env σ _ _ ((ok.ext e1).ext e2) q2 fun ds xs G3 H3 e3 r3 q3 => ?_
  exact kk _ _ G3 H3 ((e1.trans e2).trans e3) (.cons (r1.mono (e2.g.trans e3.g)) (r2.mono e3.g) r3) q3
theorem puf_disp {pps : List (PTE × PTE)} (h : PuPs X pos ks vs pps) (hall : ks.all (·.isSome) = true := by rfl) (hl : ks.length = vs.length := by rfl) (h0 : ks ≠ [] := by exact fun q => by cases q) (h15 : ks.length ≤ 15 := by decide) :
    PuF X (.Dict ks vs pos) (pDisp pps) := by
  obtain ⟨t, a1, a2⟩ := h.ex
  refine ⟨_, pe_disp a1 hall hl h0 h15, fun G H env σ P Q ok hp k p hn => ?_⟩
  refine a2 G _ env σ _ _ (ok.ext (Ext.newH ok.same hn)) hp fun ds xs G' H' x r q => ?_
  refine ⟨x.h _ _ upd_same, ?_⟩
  split at q
  · rename_i kvs ek
    obtain ⟨us, rfl, l, rr⟩ := r.keys ek
    have nG : G' p = none := by
      by_cases z : G' p = none
      · exact z
      · have := x.f p (ok.same.free hn) z
        rw [upd_same] at this
        cases this
    have y := (Ext.newH (o := .dK []) ok.same hn).trans x
    refine ⟨us, rfl, by rw [l]; exact q.1, k _ p G' _ ⟨y.g, fun b u e => ?_, fun b u e => ?_, y.f⟩ (.dk upd_same (RepKV.of (Rel2.merge rr .nil))) nG hn q.2⟩
    · rw [upd_ne (ne_of_none e hn)]; exact y.h _ _ e
    · rw [upd_ne (ne_of_none e nG)]; exact y.s _ _ e
  · exact q.elim

/-! ### x.extend(a new list) -/
def pExt (i : Nat) (pe : PTE) : PTS := fun PD env => match env[i]? with
  | some (.ow (.lst ds)) => pe env fun d => match d with
    | .lst es => ds.length + es.length ≤ sizeLine ∧ PD.nx (env.set i (.ow (.lst (ds ++ es))))
    | _ => False
  | _ => False
theorem pus_extend (i : Nat) {x : Str} {apos npos p1 : Pos} (he : PuF X e pe)
    (hs : ∀ t, PE X e t → PS X (.Expr (.Call (.Attribute (.Name x npos) "extend" apos) [e] [] p1) pos) (tDrop (tBM X.K "list" rExtend (tVar i) (tCons t tNil))) := by exact fun t h => ps_expr (pe_bm PySem.F.plainAttrs_list PySem.F.slot_list_extend PySem.F.type_list_extend mt_extend (L2.pv _) (pa_cons h pa_nil))) :
    PuS X (.Expr (.Call (.Attribute (.Name x npos) "extend" apos) [e] [] p1) pos) (pExt i pe) := by
  obtain ⟨t, h1, h2⟩ := he.ex
  refine ⟨_, hs t h1, fun G0 H0 G H env σ PD E r ok hp => ?_⟩
  unfold pExt at hp
  split at hp
  · rename_i ds hi
    obtain ⟨l, hl, tp, n⟩ := r.ok.slot i _ hi
    cases tp with
    | lst hH rs =>
      refine ⟨.ref l, hl, .inl ⟨rfl, _, SqL.of hH⟩, h2 G H env σ _ _ r.ok hp fun d b G' H' x tb nb _ z => ?_⟩
      split at z
      · cases tb with
        | lst hB rb =>
          have r' := r.step x
          obtain ⟨l', hl', tp', n'⟩ := r'.ok.slot i _ hi
          rw [hl] at hl'
          cases hl'
          cases tp' with
          | lst hH' rs' =>
            refine ⟨l, b, _, _, rfl, rfl, hH', hB, by rw [rs'.length, rb.length]; exact z.1, ?_⟩
            exact ok.nx G' _ _ σ (r'.write hi hl n' (.lst upd_same (rs'.append rb))) z.2
      · exact z.elim
  · exact hp.elim
end
end PL
end

section
set_option linter.all false
set_option maxRecDepth 100000
set_option maxHeartbeats 4000000
set_option autoImplicit false
/-! PL18: instances of own classes: fields read, fields set in __init__, the class called. -/
namespace PL
open PySem PySem.Spec PyProof.Rows L2
/-- what is known of the own classes and their fields -/
structure ObT (K : PySem.W.Frag) (mg : MG) (tab : OTab) : Prop where
  ex : ∀ c ns C, tab.lookup c = some ns → mg c = some (.ref C) → Cls K C ∧ ∀ f ∈ ns, NoAttr K C f
def fldOk (tab : OTab) (c f : Str) : Bool := (match tab.lookup c with
  | some ns => ns.contains f
  | none => false) && !(f == ("@" : Str))
theorem fldOk_ok {K : PySem.W.Frag} {mg : MG} {tab : OTab} {c f : Str} {C : Addr} (T : ObT K mg tab) (h : fldOk tab c f = true) (hm : mg c = some (.ref C)) : Cls K C ∧ NoAttr K C f ∧ ¬ f = ("@" : Str) := by
  unfold fldOk at h
  rw [Bool.and_eq_true] at h
  obtain ⟨h1, h2⟩ := h
  split at h1
  · rename_i ns hns
    obtain ⟨a, b⟩ := T.ex c ns C hns hm
    refine ⟨a, b f (List.contains_iff_mem.mp h1), fun e => ?_⟩
    subst e
    simp at h2
  · cases h1
/-- a field of an object -/
def fldP (tab : OTab) (f : Str) (P : D → Prop) : D → Prop
  | .obj cls fs => fldOk tab cls f = true ∧ ∃ v, fs.lookup f = some v ∧ P v
  | _ => False
def pFld (tab : OTab) (f : Str) (pe : PTE) : PTE := fun env P => pe env (fldP tab f P)
theorem fldP_eq {tab : OTab} {f cls : Str} {fs : List (Str × D)} {v : D} {P : D → Prop} (h1 : fldOk tab cls f = true) (h2 : fs.lookup f = some v) : fldP tab f P (.obj cls fs) = P v := by
  refine propext ⟨fun ⟨_, w, e, q⟩ => ?_, fun q => ⟨h1, v, h2, q⟩⟩
  rw [h2] at e; cases e; exact q
section
variable {X : Cx} {e a b c : Expr} {es : List Expr} {pe pa pb : PTE} {ps : PTA} {pos p' : Pos} {tab : OTab}
theorem pu_fld {f : Str} (T : ObT X.K X.mg tab) (he : PuO X e pe) (hb : attributeBase e f X.env (eval e X.env) = eval e X.env := by rfl) : PuE X (.Attribute e f pos) (pFld tab f pe) := by
  obtain ⟨t, h1, h2⟩ := he.ex
  refine ⟨_, pe_fld h1 hb, fun G H env σ P Q ok hp k => h2 G H env σ _ _ ok hp fun d v G' H' y r q => ?_⟩
  cases d with
  | obj cls fs =>
    obtain ⟨h3, w, hl, q⟩ := q
    obtain ⟨a, C, dx, vs, ds', rfl, ha, hm, rf, hd⟩ := r.obj y.s
    obtain ⟨t1, t2, t3⟩ := fldOk_ok T h3 hm
    have hl' : ds'.lookup f = some w := by
      rcases hd with rfl | rfl
      · exact hl
      · rw [lookD_put, if_neg t3] at hl; exact hl
    obtain ⟨v', l', r'⟩ := rf.look hl'
    exact ⟨a, C, dx, vs, v', rfl, ha, t1, t2, l', k w v' G' H' y r' q⟩
  | _ => exact q.elim

/-! ### self.f = e -/
def putFD (f : Str) (d : D) : List (Str × D) → List (Str × D)
  | [] => [(f, d)]
  | (g, x) :: r => if g = f then (g, d) :: r else (g, x) :: putFD f d r
theorem RepF.put {K : PySem.W.Frag} {mg : MG} {G : Hp} {f : Str} {v : V} {d : D} (r : Rep K mg G v d) : ∀ {vs : List (Str × V)} {ds : List (Str × D)}, RepF K mg G vs ds → RepF K mg G (putF f v vs) (putFD f d ds)
  | _, _, .nil => .cons r .nil
  | _, _, .cons (k := g) a t => by
    unfold putF putFD
    by_cases h : g = f
    · rw [if_pos h, if_pos h]; exact .cons r t
    · rw [if_neg h, if_neg h]; exact .cons a (RepF.put r t)
theorem RepF.len {K : PySem.W.Frag} {mg : MG} {G : Hp} : ∀ {vs : List (Str × V)} {ds : List (Str × D)}, RepF K mg G vs ds → vs.length = ds.length
  | _, _, .nil => rfl
  | _, _, .cons _ t => congrArg (· + 1) (RepF.len t)
def slfD (l : Nat) (cls : Str) (fs : List (Str × D)) : D := .obj cls (("@", .int (l : Nat)) :: fs)
def setF (tab : OTab) (i : Nat) (f : Str) (d : D) (PD : PEnds) (env : List C) : D → Prop
  | .obj cls (p :: fs) => fldOk tab cls f = true ∧ fs.length < 1000 ∧ PD.nx (env.set i (.ow (.obj cls (p :: putFD f d fs))))
  | _ => False
def pFldS (tab : OTab) (i : Nat) (f : Str) (pe : PTE) : PTS := fun PD env => pe env fun d => match env[i]? with
  | some (.ow o) => setF tab i f d PD env o
  | _ => False
theorem pus_fldS (i : Nat) {x f : Str} {p2 p3 : Pos} (T : ObT X.K X.mg tab) (hv : PE X (.Name x p2) (tVar i)) (he : PuE X e pe) (hs : swapsWith e (some (.Attribute (.Name x p2) f p3)) pos.line X.env = pure false := by rfl) :
    PuS X (.Assign [.Attribute (.Name x p2) f p3] e pos) (pFldS tab i f pe) := by
  obtain ⟨t, h1, h2⟩ := he.ex
  refine ⟨_, ps_fld hv h1 hs, fun G0 H0 G H env σ PD E r ok hp => ?_⟩
  refine h2 G H env σ _ _ r.ok hp fun d v G1 H1 x1 rv z => ?_
  split at z
  · rename_i o hi
    have r' := r.step x1
    obtain ⟨l, hl, tp, n⟩ := r'.ok.slot i _ hi
    refine ⟨.ref l, hl, ?_⟩
    cases tp with
    | slf ea hm rf =>
      obtain ⟨z1, z2, z3⟩ := z
      obtain ⟨t1, t2, t3⟩ := fldOk_ok T z1 hm
      refine ⟨l, _, _, _, rfl, ea, t1, t2, by rw [rf.len]; exact z2, ?_⟩
      exact ok.nx G1 _ _ σ (r'.write hi hl n (.slf upd_same hm (rf.put rv))) z3
    | lst _ _ => exact z.elim
    | dk _ _ => exact z.elim
    | dt _ _ => exact z.elim
  · exact z.elim

/-! ### __init__ -/
def spN (K : PySem.W.Frag) (mg : MG) (cls : Str) (Cc : Addr) (f : PSp) : Sp := fun vs H Q _ => ∃ (x dx : Addr) (us : List V) (G H1 : Hp) (ds : List D) (P : D → Prop), vs = .ref x :: us ∧ H1 x = none ∧ H1 dx = none ∧ dx ≠ x ∧
  H = upd (upd H1 dx (.own x)) x (.ins Cc dx []) ∧ Same G H1 ∧ Reps K mg G us ds ∧ f ds P ∧
  ∀ (fs : List (Str × D)) (ws : List (Str × V)) (d2 : Addr) (G' H' : Hp), Ext G H1 G' H' → G' x = none → H' x = some (.ins Cc d2 ws) → RepF K mg G' ws fs → P (.obj cls fs) → Q .non H'
def startN (N : List Str) (x : Nat) (cls : Str) (ds : List D) : List C := (startC N (.non :: ds)).set 0 (.ow (slfD x cls []))
theorem startC_fz {N : List Str} {ds : List D} {i : Nat} {d : D} (q : (startC N ds)[i]? = some (.ow d)) : False := by
  unfold startC at q
  by_cases hk : i < ds.length
  · rw [List.getElem?_append_left (by simpa using hk), List.getElem?_map] at q
    cases e : ds[i]? with
    | none => rw [e] at q; cases q
    | some d => rw [e] at q; cases q
  · rw [List.getElem?_append_right (by simpa using hk), List.getElem?_replicate] at q
    split at q <;> cases q
theorem pfnN {P : Program} {w : World} {K : PySem.W.Frag} {mg : MG} {base : Heap} {qual cls : Str} {st : Stmt} {f Cc : Addr} {fd : FuncData} {N ns : List Str} {k : Nat} {sp : PSp} {p : PTS} (F : FunD K "__init__" qual (defArgs st) (defBody st) (defScope st) [] [] f fd)
    (S : FnScope N ("self" :: ns) (defScope st)) (hm : mg cls = some (.ref Cc)) (hlen : ∀ ds P, sp ds P → ds.length = ns.length)
    (hbody : ∀ (cdv : Value) (A : Around) (outer : List Env) (s : Shared) (H : Hp) (E : XK), Room k (A.deeper (envOfC qual (defScope st) s.heap.objs.size f cdv)) →
      PuSs (cxOf CX0 P w K mg base N qual (defScope st) f cdv A outer s H E).nox (defBody st) p)
    (hp : ∀ x ds Q, sp ds Q → p { nx := fun e => ∃ fs, e[0]? = some (.ow (slfD x cls fs)) ∧ Q (.obj cls fs), rt := fun _ => False } (startN N x cls ds)) : FnOk P w K mg base CX0 (k + 1) f fd ("self" :: ns) (spN K mg cls Cc sp) := by
  refine FunD.ok F S (fun vs H Q E h => ?_) (fun cdv A outer s H vs Q E hr h => ?_)
  · obtain ⟨x, dx, us, G, H1, ds, P', rfl, _, _, _, _, _, r, q, _⟩ := h
    rw [List.length_cons, List.length_cons, r.length, hlen ds P' q]
  · obtain ⟨x, dx, us, G, H1, ds, P', rfl, nx, nd, ne, rfl, sm, r, q, kk⟩ := h
    obtain ⟨t, t1, t2⟩ := (hbody cdv A outer s (upd (upd H1 dx (.own x)) x (.ins Cc dx [])) E hr).ex
    have s1 : Same H1 (upd H1 dx (.own x)) := Same.upd nd
    have nx1 : (upd H1 dx (.own x)) x = none := by rw [upd_ne (Ne.symm ne)]; exact nx
    have s2 : Same H1 (upd (upd H1 dx (.own x)) x (.ins Cc dx [])) := s1.trans (Same.upd nx1)
    have smH := sm.trans s2
    have nG : G x = none := sm.free nx
    have st0 := start_ok (N := N) smH (Reps.cons Rep.non r)
    have r0 : Rel K mg G H1 G (upd (upd H1 dx (.own x)) x (.ins Cc dx [])) (startC N (.non :: ds)) (L2.start N (.non :: us)) :=
      ⟨st0, ⟨Same.refl _, s2, smH, fun a e z => absurd e z⟩, fun i d l q => (startC_fz q).elim⟩
    have r1 := r0.setOw (i := 0) (l := x) (d := slfD x cls []) (.slf upd_same hm .nil) nG nx fun j e q => (startC_fz q).elim
    refine ⟨t, t1.nox, t2 G H1 G _ _ _ { nx := fun e => ∃ fs, e[0]? = some (.ow (slfD x cls fs)) ∧ P' (.obj cls fs), rt := fun _ => False } _ r1 ⟨?_, fun _ _ _ _ _ z => z.elim, fun _ _ _ _ _ z => z.elim, fun _ _ _ _ _ _ z => z.elim, fun _ _ _ _ _ _ _ _ z => z.elim, ⟨_, tk0, fun _ _ _ _ _ _ _ _ _ _ _ _ _ _ _ z => z.elim⟩⟩ (hp x ds P' q)⟩
    intro G' H' env σ r' z
    obtain ⟨fs, z1, z2⟩ := z
    obtain ⟨l, hl, tp, n⟩ := r'.ok.slot 0 _ z1
    unfold slfD at tp
    generalize hD : D.obj cls (("@", .int (x : Nat)) :: fs) = dd at tp
    cases tp with
    | slf ea em rf =>
      injection hD with h1 h2
      injection h2 with h3 h4
      injection h3 with _ h5
      injection h5 with h6
      have h6 : x = l := Int.ofNat.inj h6
      subst h1 h4 h6
      have em' : mg cls = some (.ref _) := em
      rw [hm] at em'
      cases em'
      exact kk fs _ _ G' H' r'.ext n ea rf z2
    | lst _ _ => cases hD
    | dk _ _ => cases hD
    | dt _ _ => cases hD

/-- a class that may be called -/
structure OCl (P : Program) (w : World) (K : PySem.W.Frag) (mg : MG) (base : Heap) (cls : Str) (ns : List Str) (k : Nat) (Cc f : Addr) (fd : FuncData) (sp : PSp) : Prop where
  gm : mg cls = some (.ref Cc)
  mkr : Mk K Cc f
  ok : FnOk P w K mg base CX0 k f fd ("self" :: ns) (spN K mg cls Cc sp)
  b : Binds K fd ("self" :: ns) []
theorem Ext.born {G H G1 H1 G2 H2 : Hp} {x : Addr} {o : HO} (e1 : Ext G H G1 H1) (e2 : Ext G1 H1 G2 H2) (nx : H1 x = none) (nG : G2 x = none) (hx : H2 x = some o) : Ext G H (upd G2 x o) H2 := by
  refine e1.trans ⟨e2.g.trans (Same.upd nG), e2.h, fun b u q => ?_, fun a e n => ?_⟩
  · by_cases hb : b = x
    · subst hb; rw [upd_same] at q; cases q; exact hx
    · rw [upd_ne hb] at q; exact e2.s _ _ q
  · by_cases ha : a = x
    · subst ha; exact nx
    · rw [upd_ne ha] at n; exact e2.f a e n
theorem pu_mk {cls : Str} {ns : List Str} {k k' : Nat} {Cc f : Addr} {fd : FuncData} {sp : PSp} (E : OCl X.prog X.w X.K X.mg X.base cls ns k Cc f fd sp) (hr : Room k' X.A) (h : PuA X (e :: es) ps) (hk : k + 1 ≤ k' := by decide) (hg : Gl X cls := by rfl)
    (hdb : (cls == ("__debug__" : Str)) = false := by decide) (he : starEach (e :: es) X.env = (false, eval e X.env) :: starEach es X.env := by rfl) (hpl : (backTo pos (starEach es X.env)).any (·.1) = false := by rfl) :
    PuE X (.Call (.Name cls p') (e :: es) [] pos) (pCall sp ps) := by
  obtain ⟨t, h1, h2⟩ := h.ex
  refine ⟨_, pe_make E.mkr E.ok (hr.mono hk) hg E.gm E.b (dvs := []) .nil pass0 h1 hdb he hpl, fun G H env σ P Q ok hp kk => h2 G H env σ _ _ ok hp fun ds vs G' H' y r q => ?_⟩
  intro x dx nx nd ne
  rw [List.append_nil]
  refine ⟨x, dx, vs, G', H', ds, P, rfl, nx, nd, ne, rfl, y.s, r, q, fun fs ws d2 G2 H2 z nG hx rf q2 => ⟨rfl, ?_⟩⟩
  exact kk (.obj cls fs) (.ref x) _ H2 (y.born z nx nG hx) (.obj upd_same E.gm (rf.mono (Same.upd nG))) q2
end
/-! ### what a program's head gives of its classes -/
section
variable {tab : OTab} {K : PySem.W.Frag} {h : Heap} {mg : MG}
theorem obj_one (X : K.In h) (G : h.Ns mainGlobals mg) (b : objB tab K = true) {c : Str} {ns : List Str} (hc : tab.lookup c = some ns) : mg c = some (.ref (He.ga K c)) ∧ Cls K (He.ga K c) ∧ Mk K (He.ga K c) (He.ma K (He.ga K c) "__init__") ∧ ∀ f ∈ ns, NoAttr K (He.ga K c) f := by
  have z := List.all_eq_true.mp b _ (mem_of_look hc)
  rw [Bool.and_eq_true, Bool.and_eq_true, Bool.and_eq_true] at z
  exact ⟨He.glo_ok X G z.1, He.cls_ok z.2.1, He.mkr_ok z.2.2.1, fun f hf => He.noat_ok (List.all_eq_true.mp z.2.2.2 f hf)⟩
theorem obT_of (X : K.In h) (G : h.Ns mainGlobals mg) (b : objB tab K = true) : ObT K mg tab := ⟨fun c ns C hc hm => by
  obtain ⟨h1, h2, _, h4⟩ := obj_one X G b hc
  rw [h1] at hm
  cases hm
  exact ⟨h2, h4⟩⟩
end
end PL
end

section
set_option linter.all false
set_option maxRecDepth 100000
set_option maxHeartbeats 4000000
set_option autoImplicit false
/-! PL19: enumerate, isinstance of several types, is True. -/
namespace PySem
open Sem (wp)
open AutoSeq1 (wpAny_loadPart')
set_option maxHeartbeats 1000000 in
theorem meets_enumerate_newT (l : Addr) (items : Array Value) :
    Meets (Builtin.«enumerate.__new__» ⟨[.type "enumerate", .ref l], []⟩) (fun _ R s => s.heap.IsTuple l items ∧
      R (.ok (.ret (.ref (s.heap.push { cls := .type "tuple_iterator", data := .fields #[.ref l, .int 0 0] }).objs.size)))
        { s with heap := (s.heap.push { cls := .type "tuple_iterator", data := .fields #[.ref l, .int 0 0] }).push { cls := .type "enumerate", data := .fields #[.none, .bool false, .ref s.heap.objs.size, rawInt 0, .none, .none] } }) :=
  .of_wp fun prog w A R s h => by
    obtain ⟨hp, g, d, tk, os⟩ := s; obtain ⟨h1, h⟩ := h
    have hsub := sub_enumerate
    have q1 : ∀ {A' : Around} {E : Value → Shared → Prop} {Q : Value → Shared → Prop}, Q (.ref hp.objs.size) ⟨hp.push { cls := .type "tuple_iterator", data := .fields #[.ref l, .int 0 0] }, g, d, tk, os⟩ → wpAny (model prog w) A' (pyIter (.ref l)) Q E ⟨hp, g, d, tk, os⟩ :=
      fun q => (begins_tuple l items).iter prog w _ _ ⟨hp, g, d, tk, os⟩ _ h1 q
    wp_walk using q1
    refine wpAny_stack_any fun st => wpAny_pure ?_
    split
    · rename_i c _ _ _ _ _
      cases (c == Value.type "enumerate")
      · wp_walk using q1
        exact ⟨_, rfl, h⟩
      · wp_walk using q1
        exact ⟨_, rfl, h⟩
    · wp_walk using q1
      exact ⟨_, rfl, h⟩
theorem call_enumerate_tuple {prog : Program} {w : World} {A : Around} {E : Value → Shared → Prop} {s : Shared} {l : Addr} {items : Array Value} {Q : Value → Shared → Prop} (hL : s.heap.IsTuple l items)
    (h : ∀ h', IsEnum h' (s.heap.objs.size + 1) s.heap.objs.size 0 .none → h'.IsTupleIter s.heap.objs.size l 0 → h'.objs.size = s.heap.objs.size + 2 →
      (∀ b o, s.heap.get? b = some o → h'.get? b = some o) → Q (.ref (s.heap.objs.size + 1)) { s with heap := h' }) :
    wpAny (model prog w) A (call (.type "enumerate") [.ref l]) Q E s := by
  refine callType_new F.called_enumerate (by decide) (F.typeCall_enumerate_1 _) (F.newCall_enumerate_1 _) (fun obj => F.args_object_init_2 obj _) F.entry_enumerate_new
    (meets_enumerate_newT l items) ⟨hL, ?_⟩
  have hz : (s.heap.push { cls := .type "tuple_iterator", data := .fields #[.ref l, .int 0 0] }).objs.size = s.heap.objs.size + 1 := Heap.size_push ..
  show _ ∧ _
  rw [hz]
  have he : IsEnum ((s.heap.push { cls := .type "tuple_iterator", data := .fields #[.ref l, .int 0 0] }).push
      { cls := .type "enumerate", data := .fields #[.none, .bool false, .ref s.heap.objs.size, rawInt 0, .none, .none] }) (s.heap.objs.size + 1) s.heap.objs.size 0 .none := by
    have := Heap.get?_push_size (s.heap.push { cls := .type "tuple_iterator", data := .fields #[.ref l, .int 0 0] })
      (o := { cls := .type "enumerate", data := .fields #[.none, .bool false, .ref s.heap.objs.size, rawInt 0, .none, .none] }) rfl
    rw [hz] at this; exact this
  refine ⟨⟨_, he, rfl⟩, h _ he ⟨_, Heap.get?_push_of_some _ (Heap.get?_push_size _ rfl), rfl, rfl⟩ (by rw [Heap.size_push, hz]) fun b o x => Heap.get?_push_of_some _ (Heap.get?_push_of_some _ x)⟩
end PySem
namespace PL
open PySem PySem.Spec PyProof.Rows L2
/-! ### enumerate(tuple), enumerate(text) -/
def IteT (K : PySem.W.Frag) (a : Addr) : It :=
  ⟨fun i H => ∃ (xs : List V) (x : V), SqT K H a xs ∧ xs[i]? = some x, fun i H v H' => ∃ T x, v = .ref T ∧ H T = none ∧ H' = upd H T (.tup [.int (i : Nat), x]) ∧ ∀ xs, SqT K H a xs → xs[i]? = some x, fun i H => ∃ xs : List V, SqT K H a xs ∧ xs.length = i⟩
def IteS (x : Str) : It :=
  ⟨fun i H => i < x.cps.size, fun i H v H' => ∃ T c, v = .ref T ∧ H T = none ∧ H' = upd H T (.tup [.int (i : Nat), .str ⟨#[c]⟩]) ∧ x.cps[i]? = some c, fun i H => x.cps.size = i⟩
/-- the common part of a turn: the new pair, the record let go -/
theorem enum_pair {X : Cx} {pins : List (Addr × Obj)} {σ : L2.St} {H : Hp} {s : Shared} {E : Value → Shared → Prop} {elts : List Expr} {kk : Nat} {tpos : Pos} {e it : Addr} {i : Nat} {u : Value} {v : V} {tk : Nat} {h' : Heap} {R : Heap → Prop}
    (I : Inv X pins σ H s) (hf : ∀ b ∈ [e, it], FpOk X pins H b) (hel : e < s.heap.objs.size) (hil : it < s.heap.objs.size) (hne : e ≠ it) (ru : RelV v u) (ho : IsEnumOut h' e it ((i : Int) + 1) u s.heap.objs.size)
    (hT : h'.get? s.heap.objs.size = some { cls := .type "tuple", data := .seq #[.int i tk, u] }) (hk : ∀ b o, b ≠ e → b ≠ it → s.heap.get? b = some o → h'.get? b = some o) (hR : ∀ h'', Heap.SameBut e h' h'' → R h'') :
    wpAny (model X.prog X.w) X.A (letOwnedTupleGo (.Tuple elts kk tpos) (.ref e) (.ref s.heap.objs.size)) (fun _ s2 => Inv X pins σ (upd H s.heap.objs.size (.tup [.int (i : Nat), v])) s2 ∧ H s.heap.objs.size = none ∧ IsEnum s2.heap e it ((i : Int) + 1) u ∧ R s2.heap ∧ ∀ b ∈ [e, it], (upd H s.heap.objs.size (.tup [.int (i : Nat), v])) b = none) E { s with heap := h', toks := tk + 1 } := by
  refine wpAny_letOwnedTupleGo_enum (s := { s with heap := h', toks := tk + 1 }) ho fun h'' he' sb => ?_
  have hT2 : h''.get? s.heap.objs.size = some { cls := .type "tuple", data := .seq #[.int i tk, u] } := (sb.2 _ (Nat.ne_of_gt hel)).trans hT
  have new : ObjOk X.prog X.w (upd H s.heap.objs.size (.tup [.int (i : Nat), v])) h'' s.heap.objs.size (.tup [.int (i : Nat), v]) :=
    ⟨by show 2 ≤ sizeLine; decide, [.int i tk, u], .cons ⟨_, rfl⟩ (.cons ru .nil), ⟨_, hT2, rfl, _, rfl⟩⟩
  have I1 : Inv X pins σ (upd H s.heap.objs.size (.tup [.int (i : Nat), v])) { s with heap := h'', toks := tk + 1 } :=
    I.turnedNew (ch := [e, it]) (fun b ob hb q => (sb.2 b (fun z => hb (by simp [z]))).trans (hk b ob (fun z => hb (by simp [z])) (fun z => hb (by simp [z])) q)) hf (Nat.le_refl _) new
  refine ⟨I1, I.hok.fresh (Nat.le_refl _), he', hR h'' sb, fun b hb => ?_⟩
  have hb' : b < s.heap.objs.size := by
    have e' : b = e ∨ b = it := by simpa using hb
    rcases e' with z | z
    · rw [z]; exact hel
    · rw [z]; exact hil
  rw [upd_ne (Nat.ne_of_lt hb')]
  exact (hf b hb).1
theorem turn_enumT {P : Program} {w : World} {K : PySem.W.Frag} {elts : List Expr} {kk : Nat} {tpos : Pos} (a e it : Addr) :
    Turn P w K (.Tuple elts kk tpos) (IteT K a) [e, it] e (fun i h => (∃ old, IsEnum h e it ((i : Nat) : Int) old) ∧ h.IsTupleIter it a i ∧ e ≠ it ∧ a ≠ it ∧ a ≠ e) where
  mem := by simp
  obj := fun i h st b hb => by
    obtain ⟨⟨old, he⟩, ⟨o, ho, hc, hd⟩, _⟩ := st
    have e' : b = e ∨ b = it := by simpa using hb
    rcases e' with z | z
    · rw [z]; exact ⟨_, he, fun v q => nomatch q⟩
    · rw [z]; exact ⟨o, ho, fun v q => by rw [hd] at q; cases q⟩
  keep := fun i h h' st k => let ⟨⟨old, he⟩, hi, hne⟩ := st; ⟨⟨old, k e (by simp) _ he⟩, hi.at fun o q => k it (by simp) o q, hne⟩
  item := by
    intro X hP hw hK hc i pins s σ H E I hf st hg
    subst hP hw hK
    obtain ⟨⟨old, he⟩, hit, hne, hn2, hn3⟩ := st
    obtain ⟨xs, x, hq, hx⟩ := hg
    obtain ⟨its, rv, p, hz⟩ := I.tuple hq
    obtain ⟨u, hu, ru⟩ := rv.get hx
    have hel : e < s.heap.objs.size := Heap.lt_size he
    have hil : it < s.heap.objs.size := by obtain ⟨_, q, _⟩ := hit; exact Heap.lt_size q
    have hlt : i < its.toArray.size := by
      rw [List.size_toArray]; exact (List.getElem?_eq_some_iff.mp hu).1
    refine wpAny_pyNext_enum_itemD (Draws.tuple (A := X.A.in1) (I.ok.hd hc) it a hn2 its.toArray) he ⟨hit, p⟩ hlt hne (by simp [hne, Ne.symm hn3]) fun y h' tk hy ho hst hT hsz hk => ?_
    have ey : y = u := by
      rw [List.getElem?_toArray, hu] at hy
      exact (Option.some.inj hy).symm
    subst ey
    refine ⟨_, rfl, thn (enum_pair (R := fun h => h.IsTupleIter it a (i + 1)) I hf hel hil hne ru ho hT hk fun h'' sb => hst.1.at fun o q => (sb.2 it (Ne.symm hne)).trans q) fun _ s2 ⟨I1, hn, he', r, hb⟩ => ?_⟩
    have e1 : (i : Int) + 1 = ((i + 1 : Nat) : Int) := by omega
    rw [e1] at he'
    exact ⟨.ref s.heap.objs.size, _, I1, rfl, ⟨_, x, rfl, hn, rfl, fun ys hy => by rw [I.tuple_inj hy hq]; exact hx⟩, ⟨⟨_, he'⟩, r, hne, hn2, hn3⟩, hb⟩
  done := by
    intro X hP hw hK hc i pins s σ H E I hf st hg
    subst hP hw hK
    obtain ⟨⟨old, he⟩, hit, hne, hn2, hn3⟩ := st
    obtain ⟨xs, hq, hx⟩ := hg
    obtain ⟨its, rv, p, hz⟩ := I.tuple hq
    obtain ⟨f0, f1, f2, f3, f4, f5⟩ := hf it (by simp)
    have hl := rv.length
    have hi : its.toArray.size = i := by rw [List.size_toArray]; omega
    refine wpAny_pyNext_enum_endD (Draws.tuple (A := X.A.in1) (I.ok.hd hc) it a hn2 its.toArray) he (by rw [hi]; exact ⟨hit, p⟩) fun h' eb => ⟨rfl, I.turned (t' := s.toks) (fun b o hb q => eb b o hb q) f0 f1 f3 f4 f5⟩
  self := fun A i s Q E st h => let ⟨⟨_, he⟩, _⟩ := st; wpAny_pyIter_enum he h
theorem turn_enumS {P : Program} {w : World} {K : PySem.W.Frag} {elts : List Expr} {kk : Nat} {tpos : Pos} (x : Str) (t : Tok) (e it : Addr) :
    Turn P w K (.Tuple elts kk tpos) (IteS x) [e, it] e (fun i h => (∃ old, IsEnum h e it ((i : Nat) : Int) old) ∧ h.IsStrIter it (strIterType x) x t i ∧ e ≠ it) where
  mem := by simp
  obj := fun i h st b hb => by
    obtain ⟨⟨old, he⟩, ⟨o, ho, hc, hd⟩, _⟩ := st
    have e' : b = e ∨ b = it := by simpa using hb
    rcases e' with z | z
    · rw [z]; exact ⟨_, he, fun v q => nomatch q⟩
    · rw [z]; exact ⟨o, ho, fun v q => by rw [hd] at q; cases q⟩
  keep := fun i h h' st k => let ⟨⟨old, he⟩, hi, hne⟩ := st; ⟨⟨old, k e (by simp) _ he⟩, (let ⟨o, ho, r⟩ := hi; ⟨o, k it (by simp) o ho, r⟩), hne⟩
  item := by
    intro X hP hw hK hc i pins s σ H E I hf st hg
    subst hP hw hK
    obtain ⟨⟨old, he⟩, hit, hne⟩ := st
    have hg : i < x.cps.size := hg
    have hel : e < s.heap.objs.size := Heap.lt_size he
    have hil : it < s.heap.objs.size := by obtain ⟨_, q, _⟩ := hit; exact Heap.lt_size q
    refine wpAny_pyNext_enum_itemD (Draws.text (A := X.A.in1) (I.ok.hd hc) it x t) he hit hg hne (by simp [hne]) fun y h' tk hy ho hst hT hsz hk => ?_
    obtain ⟨c, u, hc', rfl⟩ := hy
    refine ⟨_, rfl, thn (enum_pair (v := .str ⟨#[c]⟩) (R := fun h => h.IsStrIter it (strIterType x) x t (i + 1)) I hf hel hil hne ⟨u, rfl⟩ ho hT hk fun h'' sb => let ⟨o, q, r⟩ := hst; ⟨o, (sb.2 it (Ne.symm hne)).trans q, r⟩) fun _ s2 ⟨I1, hn, he', r, hb⟩ => ?_⟩
    have e1 : (i : Int) + 1 = ((i + 1 : Nat) : Int) := by omega
    rw [e1] at he'
    exact ⟨.ref s.heap.objs.size, _, I1, rfl, ⟨_, c, rfl, hn, rfl, hc'⟩, ⟨⟨_, he'⟩, r, hne⟩, hb⟩
  done := by
    intro X hP hw hK hc i pins s σ H E I hf st hg
    subst hP hw hK
    obtain ⟨⟨old, he⟩, hit, hne⟩ := st
    obtain ⟨f0, f1, f2, f3, f4, f5⟩ := hf it (by simp)
    have hi : x.cps.size = i := hg
    refine wpAny_pyNext_enum_endD (Draws.text (A := X.A.in1) (I.ok.hd hc) it x t) he (by rw [hi]; exact hit) fun h' eb => ⟨rfl, I.turned (t' := s.toks) (fun b o hb q => eb b o hb q) f0 f1 f3 f4 f5⟩
  self := fun A i s Q E st h => let ⟨⟨_, he⟩, _⟩ := st; wpAny_pyIter_enum he h
def iEnAny (K : PySem.W.Frag) (ta : TA) : TI := fun σ H R => ta σ H fun vs H1 => (∃ a xs, vs = [.ref a] ∧ SqL K H1 a xs ∧ R (Ite K a) H1) ∨ (∃ a xs, vs = [.ref a] ∧ SqT K H1 a xs ∧ R (IteT K a) H1) ∨ ∃ x, vs = [.str x] ∧ R (IteS x) H1
theorem pi_enumAny {X : Cx} {e : Expr} {ta : TA} {p pos tpos : Pos} {elts : List Expr} {kk : Nat} (hg : Gl X "enumerate") (hm : X.mg "enumerate" = none) (ha : PA X [e] ta) (hs : starEach [e] X.env = [(false, eval e X.env)] := by rfl) :
    PI X (.Tuple elts kk tpos) (.Call (.Name "enumerate" p) [e] [] pos) (iEnAny X.K ta) := by
  refine ⟨fun pins s σ H R I h => ?_⟩
  refine Call_ (ld_blt I hg hm boot_enumerate (PyProof.Rows.callWith_type1 (thn (ha.run pos pins s σ H _ I h) fun us s1 ⟨vs, H1, I1, r1, q1⟩ => ?_) hs rfl))
  have fp : ∀ b ∈ [s1.heap.objs.size + 1, s1.heap.objs.size], s1.heap.objs.size ≤ b := fun b hb => by
    have e' : b = s1.heap.objs.size + 1 ∨ b = s1.heap.objs.size := by simpa using hb
    omega
  rcases q1 with ⟨a, xs, ex, hq, q⟩ | ⟨a, xs, ex, hq, q⟩ | ⟨x, ex, q⟩
  · subst ex
    cases r1 with
    | cons r rr =>
      cases rr
      cases r
      obtain ⟨its, rv, p', hz⟩ := I1.list hq
      refine call_enumerate_list p'.isList fun h' he hit hsz hk => wpAny_pyIter_enum he ?_
      have I2 : Inv X pins σ H1 { s1 with heap := h' } := I1.kept (t' := s1.toks) hk
      exact ⟨s1.heap.objs.size + 1, [s1.heap.objs.size + 1, s1.heap.objs.size], _, _, H1, rfl, I2, turn_enum a (s1.heap.objs.size + 1) s1.heap.objs.size, ⟨⟨.none, he⟩, hit, Nat.succ_ne_self _⟩, fun b hb => I1.fpOk (fp b hb) (I1.hok.fresh (fp b hb)), q⟩
  · subst ex
    cases r1 with
    | cons r rr =>
      cases rr
      cases r
      obtain ⟨its, rv, p', hz⟩ := I1.tuple hq
      have hlt : a < s1.heap.objs.size := by obtain ⟨_, q, _⟩ := p'; exact Heap.lt_size q
      refine call_enumerate_tuple (items := its.toArray) p' fun h' he hit hsz hk => wpAny_pyIter_enum he ?_
      have I2 : Inv X pins σ H1 { s1 with heap := h' } := I1.kept (t' := s1.toks) hk
      exact ⟨s1.heap.objs.size + 1, [s1.heap.objs.size + 1, s1.heap.objs.size], _, _, H1, rfl, I2, turn_enumT a (s1.heap.objs.size + 1) s1.heap.objs.size, ⟨⟨.none, he⟩, hit, Nat.succ_ne_self _, Nat.ne_of_lt hlt, Nat.ne_of_lt (Nat.lt_succ_of_lt hlt)⟩, fun b hb => I1.fpOk (fp b hb) (I1.hok.fresh (fp b hb)), q⟩
  · subst ex
    cases r1 with
    | cons r rr =>
      cases rr
      obtain ⟨t, rfl⟩ := r
      refine call_enumerate_str fun h' he hit hsz hk => wpAny_pyIter_enum he ?_
      have I2 : Inv X pins σ H1 { s1 with heap := h' } := I1.kept (t' := s1.toks) hk
      exact ⟨s1.heap.objs.size + 1, [s1.heap.objs.size + 1, s1.heap.objs.size], _, _, H1, rfl, I2, turn_enumS x t (s1.heap.objs.size + 1) s1.heap.objs.size, ⟨⟨.none, he⟩, hit, Nat.succ_ne_self _⟩, fun b hb => I1.fpOk (fp b hb) (I1.hok.fresh (fp b hb)), q⟩
/-! ### over data -/
def enF : Nat → List D → List D
  | _, [] => []
  | i, d :: ds => .tup [.int (i : Nat), d] :: enF (i + 1) ds
def enD (ds : List D) : List D := enF 0 ds
theorem enF_len : ∀ (ds : List D) (i : Nat), (enF i ds).length = ds.length
  | [], _ => rfl
  | d :: ds, i => congrArg (· + 1) (enF_len ds (i + 1))
theorem enD_len (ds : List D) : (enD ds).length = ds.length := enF_len ds 0
theorem enF_get : ∀ (ds : List D) (i k : Nat), (enF i ds)[k]? = ds[k]?.map fun d => .tup [.int ((i + k : Nat) : Int), d]
  | [], i, k => by simp [enF]
  | d :: ds, i, 0 => by simp [enF]
  | d :: ds, i, k + 1 => by
    show (enF (i + 1) ds)[k]? = _
    rw [enF_get ds (i + 1) k, show i + 1 + k = i + (k + 1) by omega]; rfl
theorem enD_get (ds : List D) (k : Nat) : (enD ds)[k]? = ds[k]?.map fun d => .tup [.int (k : Nat), d] := by
  unfold enD
  rw [enF_get, Nat.zero_add]
def itEn (P : Sq → Prop) : D → Prop := fun d => match d with
  | .lst ds => P (sqL (enD ds))
  | .tup ds => P (sqL (enD ds))
  | .str x => P (sqL (enD (signs x)))
  | _ => False
def piEn (pe : PTE) : PTI := fun env P => pe env (itEn P)
theorem enum_yld {K : PySem.W.Frag} {mg : MG} {G G1 H1 : Hp} {i : Nat} {x : V} {d : D} {T : Addr} {ds : List D} (s1 : Same G G1) (s2 : Same G1 H1) (hn : H1 T = none) (rd : Rep K mg G x d) (hd : ds[i]? = some d) :
    ∃ G' d', Ext G1 H1 G' (upd H1 T (.tup [.int (i : Nat), x])) ∧ Rep K mg G' (.ref T) d' ∧ (sqL (enD ds)).ob i d' := by
  refine ⟨_, .tup [.int (i : Nat), d], Ext.new s2 hn, .tup upd_same ?_, ?_⟩
  · exact .cons (.int _) (.cons ((rd.mono s1).mono (Same.upd (s2.free hn))) .nil)
  · show (enD ds)[i]? = _
    rw [enD_get, hd]; rfl
theorem walks_enL {K : PySem.W.Frag} {mg : MG} {G : Hp} {a : Addr} {vs : List V} {ds : List D} (h : SqL K G a vs) (r : Reps K mg G vs ds) : Walks K mg G (sqL (enD ds)) (Ite K a) where
  go i G1 H1 s1 s2 hi := by
    have hi : i < (enD ds).length := hi
    have : i < vs.length := by rw [r.length, ← enD_len]; exact hi
    exact ⟨vs, vs[i], (s1.trans s2).seq h, by simp [this]⟩
  yld i G1 H1 x H' s1 s2 hi y := by
    obtain ⟨T, x', rfl, hn, rfl, y⟩ := y
    obtain ⟨d, e, q⟩ := r.get (y vs ((s1.trans s2).seq h))
    exact enum_yld s1 s2 hn q e
  stop G1 H1 s1 s2 := ⟨vs, (s1.trans s2).seq h, by
    show vs.length ≤ (enD ds).length
    rw [enD_len, r.length]; exact Nat.le_refl _⟩
theorem walks_enT {K : PySem.W.Frag} {mg : MG} {G : Hp} {a : Addr} {vs : List V} {ds : List D} (h : SqT K G a vs) (r : Reps K mg G vs ds) : Walks K mg G (sqL (enD ds)) (IteT K a) where
  go i G1 H1 s1 s2 hi := by
    have hi : i < (enD ds).length := hi
    have : i < vs.length := by rw [r.length, ← enD_len]; exact hi
    exact ⟨vs, vs[i], Same.sqT (s1.trans s2) h, by simp [this]⟩
  yld i G1 H1 x H' s1 s2 hi y := by
    obtain ⟨T, x', rfl, hn, rfl, y⟩ := y
    obtain ⟨d, e, q⟩ := r.get (y vs (Same.sqT (s1.trans s2) h))
    exact enum_yld s1 s2 hn q e
  stop G1 H1 s1 s2 := ⟨vs, Same.sqT (s1.trans s2) h, by
    show vs.length = (enD ds).length
    rw [enD_len, r.length]⟩
theorem walks_enS {K : PySem.W.Frag} {mg : MG} {G : Hp} (x : Str) : Walks K mg G (sqL (enD (signs x))) (IteS x) where
  go i G1 H1 s1 s2 hi := by
    have hi : i < (enD (signs x)).length := hi
    rw [enD_len] at hi
    show i < x.cps.size
    simpa [signs] using hi
  yld i G1 H1 v H' s1 s2 hi y := by
    obtain ⟨T, c, rfl, hn, rfl, e⟩ := y
    refine enum_yld s1 s2 hn (.str _) ?_
    unfold signs
    rw [List.getElem?_map, Array.getElem?_toList, e]; rfl
  stop G1 H1 s1 s2 := by
    show x.cps.size = (enD (signs x)).length
    rw [enD_len]; simp [signs]
section
variable {X : Cx} {a e : Expr} {pa pe : PTE} {pos p' : Pos}
theorem pui_en {elts : List Expr} {kk : Nat} {tpos : Pos} (hm : X.mg "enumerate" = none) (h : PuE X a pa) (hg : Gl X "enumerate" := by rfl) (hs1 : starEach [a] X.env = [(false, eval a X.env)] := by rfl) : PuI X (.Tuple elts kk tpos) (.Call (.Name "enumerate" p') [a] [] pos) (piEn pa) := by
  obtain ⟨t, h1, h2⟩ := h.ex
  refine ⟨_, pi_enumAny hg hm (pa_cons h1 pa_nil hs1) hs1, fun G H env σ P R ok hp k => h2 G H env σ _ _ ok hp fun d v G' H' x r q => ?_⟩
  unfold itEn at q
  split at q
  · cases r with
    | lst e rs => exact .inl ⟨_, _, rfl, SqL.of (x.s _ _ e), k _ _ G' H' x (walks_enL (SqL.of e) rs) q⟩
  · cases r with
    | tup e rs => exact .inr (.inl ⟨_, _, rfl, SqT.of (x.s _ _ e), k _ _ G' H' x (walks_enT (SqT.of e) rs) q⟩)
  · cases r
    exact .inr (.inr ⟨_, rfl, k _ _ G' H' x (walks_enS _) q⟩)
  · exact q.elim
/-! ### isinstance(x, (T, U)) -/
def isi2P (T U : String) (p : PTE) : PTE := fun env P => p env fun d => ∃ n b c, tyName d = some n ∧ kitB n T = some b ∧ kitB n U = some c ∧ P (.bl (b || c))
theorem kit_any2 {K : PySem.W.Frag} {n T U : String} {b c : Bool} (h1 : kitB n T = some b) (h2 : kitB n U = some c) : PySem.W.kitAny K (.type n) [.type T, .type U] = some (b || c) := by
  have k1 := kit_ty (K := K) h1
  have k2 := kit_ty (K := K) h2
  unfold PySem.W.kitAny
  rw [k1]
  cases b with
  | true => rfl
  | false =>
    show PySem.W.kitAny K (.type n) [.type U] = some c
    unfold PySem.W.kitAny
    rw [k2]
    cases c with
    | true => rfl
    | false => rfl
theorem pu_isi2 {T U : Str} {n m : String} {p2 p3 p4 : Pos} {k4 : Nat} (hm : X.mg "isinstance" = none) (hmT : X.mg T = none) (hmU : X.mg U = none) (ha : PuE X a pa) (hv : bootBuiltins T = some (.type n) := by decide +kernel) (hvU : bootBuiltins U = some (.type m) := by decide +kernel) (hg : Gl X "isinstance" := by rfl) (hgT : Gl X T := by rfl) (hgU : Gl X U := by rfl)
    (hs : starEach [a, .Tuple [.Name T p2, .Name U p3] k4 p4] X.env = (false, eval a X.env) :: starEach [.Tuple [.Name T p2, .Name U p3] k4 p4] X.env := by rfl) (hs2 : starEach [.Tuple [.Name T p2, .Name U p3] k4 p4] X.env = (false, eval (.Tuple [.Name T p2, .Name U p3] k4 p4) X.env) :: starEach [] X.env := by rfl)
    (hpl : (backTo pos (starEach [.Tuple [.Name T p2, .Name U p3] k4 p4] X.env)).any (·.1) = false := by rfl)
    (hn : T ≠ "__name__" := by decide) (hd : (T == ("__debug__" : Str)) = false := by decide) (hnU : U ≠ "__name__" := by decide) (hdU : (U == ("__debug__" : Str)) = false := by decide) :
    PuE X (.Call (.Name "isinstance" p') [a, .Tuple [.Name T p2, .Name U p3] k4 p4] [] pos) (isi2P n m pa) := by
  obtain ⟨t, h1, h2⟩ := ha.ex
  refine ⟨_, pe_callB call_isiT hg hm (by decide +kernel) (pa_cons h1 (pa_cons (pe_tup (pa_cons (pe_bltn (v := .ty n) hgT hmT hv rfl hn hd) (pa_cons (pe_bltn (v := .ty m) hgU hmU hvU rfl hnU hdU) pa_nil))) pa_nil hs2) hs) (by decide) (by decide) hs hpl, fun G H env σ P Q ok hp k => h2 G H env σ _ _ ok hp fun d v G' H' x r q => ?_⟩
  obtain ⟨nn, b, c, e0, e1, e2, q⟩ := q
  refine ⟨by show 2 ≤ sizeLine; decide, fun tp ht => ⟨v, tp, [.ty n, .ty m], .type nn, [.type n, .type m], b || c, rfl, upd_same, .cons (.ty n) (.cons (.ty m) .nil), ?_, kit_any2 e1 e2, k _ _ G' _ (x.trans (Ext.newH x.s ht)) (.bl _) q⟩⟩
  exact Rep.tyx (G := G') (mg := X.mg) (.inl r) (x.s.trans (Same.upd ht)) e0
/-! ### is True, is not True -/
def isBP (neg : Bool) : BinP := fun x y P => ∃ a b : Bool, x = .bl a ∧ y = .bl b ∧ P (.bl (decide (a = b) != neg))
theorem isBP_ok : BinOk X rIsB (isBP false) := by
  rintro G H v w x y P Q s r1 r2 ⟨a, b, rfl, rfl, q⟩ k
  cases r1.bl; cases r2.bl
  exact ⟨a, b, rfl, rfl, k _ _ _ _ (.refl s) (.bl _) (by simpa using q)⟩
theorem notBP_ok : BinOk X rNotB (isBP true) := by
  rintro G H v w x y P Q s r1 r2 ⟨a, b, rfl, rfl, q⟩ k
  cases r1.bl; cases r2.bl
  exact ⟨a, b, rfl, rfl, k _ _ _ _ (.refl s) (.bl _) (by simpa using q)⟩
end
end PL
end

section
set_option linter.all false
set_option maxRecDepth 100000
set_option maxHeartbeats 4000000
set_option autoImplicit false
/-! PL20: list(d), the keys of a dict. -/
namespace PL
open PySem PySem.Spec PyProof.Rows L2
section
variable {X : Cx} {e a b : Expr} {pe pa pb : PTE} {pos p' : Pos}
def listDP : PSp := fun ds P => match ds with
  | [.dk kvs] => P (.lst (keysD kvs))
  | _ => False
theorem reps_keys {K : PySem.W.Frag} {mg : MG} {G : Hp} : ∀ {us : List (Key × V)} {kvs : List (Key × D)}, RepKV K mg G us kvs → Reps K mg G (us.map fun kv => kV kv.1) (keysD kvs)
  | _, _, .nil => .nil
  | _, _, .cons _ t => .cons (rep_key _) (reps_keys t)
theorem listDP_ok : CallFOk X (fun xs H Q => ∃ (a : Addr) (kvs : List (Key × V)), xs = [.ref a] ∧ Rd H a (.dK kvs) ∧ ∀ p, H p = none → Q (.ref p) (upd H p (.lst (kvs.map fun kv => kV kv.1)))) listDP := by
  intro G H vs ds P Q s rs h k
  unfold listDP at h
  split at h
  · obtain ⟨v, rfl, r⟩ := one_shal rs
    obtain ⟨l, us, rfl, hl, rr⟩ := r.dk s
    exact ⟨l, us, rfl, hl, fun p hn => k _ p G _ (Ext.newH s hn) (.lst upd_same (reps_keys rr)) (s.free hn) hn h⟩
  · exact h.elim
theorem puf_listD (hc : X.calm = true) (hm : X.mg "list" = none) (h : PuO X a pa) (hs : starEach [a] X.env = (false, eval a X.env) :: starEach [] X.env := by rfl) (hg : Gl X "list" := by rfl) : PuF X (.Call (.Name "list" p') [a] [] pos) (pCall listDP (paCons pa paNil)) :=
  puf_ty (call_listD hc) listDP_ok hm (puao_cons h puao_nil hs) hg (by decide +kernel) (by decide) (by decide) hs rfl
theorem listDP_d {kvs : List (Key × D)} {P : D → Prop} : listDP [.dk kvs] P = P (.lst (keysD kvs)) := rfl
end
end PL
end

section
set_option linter.all false
set_option maxRecDepth 100000
set_option maxHeartbeats 4000000
set_option autoImplicit false
/-! PL21: what stands backwards; methods of texts: find, startswith, index. -/
namespace PL
open PySem PySem.Spec PyProof.Rows L2
/-! ### e[::-1] -/
def revS (z : Str) : Str := ⟨z.cps.toList.reverse.toArray⟩
theorem revS_made {z : Str} {t u : Tok} : sliceMade z t none none (some (-1, u)) = .str (revS z) := by
  unfold sliceMade slicePicked
  rw [if_neg (by simp)]
  have e : Builtin.Str.strSliceIndices none none (((some ((-1 : Int), u)).map (·.1)).getD 1) z.length = (List.range z.length).reverse := by
    show sliceRange ((z.length : Int) - 1) (-1) (-1) = _
    rw [PySem.W.krv_sliceRange, PySem.W.krv_range]
  show Made.str ⟨((Builtin.Str.strSliceIndices none none (((some ((-1 : Int), u)).map (·.1)).getD 1) z.length).filterMap (z.cps[·]?)).toArray⟩ = _
  rw [e, List.filterMap_reverse]
  unfold revS
  rw [show z.length = z.cps.size from rfl, PySem.W.krv_all]
section
variable {X : Cx} {e a b c : Expr} {es : List Expr} {te : TE} {pe pa pb : PTE} {pos p' : Pos}
def tRevA (K : PySem.W.Frag) (te : TE) : TE := fun σ H Q => te σ H fun x H1 => (∃ a xs, x = .ref a ∧ SqL K H1 a xs ∧ ∀ p, H1 p = none → Q (.ref p) (upd H1 p (.lst xs.reverse))) ∨ ∃ z, x = .str z ∧ z.length ≤ sizeLine ∧ Q (.str (revS z)) H1
theorem pe_revA {k : Nat} {p1 p2 p3 : Pos} (he : PE X e te) : PE X (.Subscript e (.Slice none none (some (.UnaryOp .USub (.Constant (.int 1) k p1) p2)) p3) pos) (tRevA X.K te) := by
  constructor
  intro pins s σ H Q I h
  refine Subscript_ (thn (he.run pins s σ H _ I h) ?_)
  rintro v s1 ⟨x, H1, I1, r1, q1⟩
  have step1 : PO X (some (.UnaryOp .USub (.Constant (.int 1) k p1) p2)) (tPart (tUn (rU fun i => .int (-i)) (tC (.int 1)))) := po_some (pe_un un_neg pe_int)
  refine wpAny_Slice (thn (po_none.run pins s1 σ H1 (fun o H2 => o = none ∧ H2 = H1) I1 ⟨rfl, rfl⟩) ?_)
  rintro lo s2 ⟨l, H2, I2, pl, rfl, rfl⟩
  refine thn (po_none.run pins s2 σ H2 (fun o H3 => o = none ∧ H3 = H2) I2 ⟨rfl, rfl⟩) ?_
  rintro hi s3 ⟨u, H3, I3, pu, rfl, rfl⟩
  refine thn (step1.run pins s3 σ H3 (fun o H4 => o = some (-1) ∧ H4 = H3) I3 ⟨1, rfl, -1, rfl, rfl, rfl⟩) ?_
  rintro st s4 ⟨o, H4, I4, ps, rfl, rfl⟩
  have I5 : Inv X pins σ H4 { s4 with heap := s4.heap.push { cls := .type "slice", data := .fields #[lo, hi, st] } } := I4.kept (t' := s4.toks) fun _ _ q => Heap.get?_push_of_some _ q
  rcases q1 with ⟨a, xs, rfl, hx, q⟩ | ⟨z, rfl, hz, q⟩
  · cases r1
    obtain ⟨its, r, ht, hl⟩ := I5.list hx
    have hn := r.length
    refine tail_any (ops := [.ref a, .ref s4.heap.objs.size]) (T := "list") (id := "list.__getitem__") ht.isList.typeIs PySem.slot_list_getitem.lookup ?_ (by with_unfolding_all rfl)
    refine wpAny_getItem_list_slice ht.isList (Heap.IsSliceOf.new _ lo hi st) pl pu ps (by decide) ?_ (by rw [List.size_toArray]; omega)
    rw [PySem.W.krv_pick]
    refine ⟨.ref _, _, I5.laid (t' := s4.toks) (o := .lst xs.reverse) (fun _ _ w => Heap.get?_push_of_some _ w) (Nat.le_refl _) ?_, rfl, q _ (I5.hok.fresh (Nat.le_refl _))⟩
    exact ⟨by rw [List.length_reverse]; exact hl, _, 0, r.reverse, Heap.get?_push_size _ rfl⟩
  · obtain ⟨t, rfl⟩ := r1
    cases pl
    cases pu
    cases ps with
    | int i w =>
      refine tail_any (ops := [.str z t, .ref s4.heap.objs.size]) (T := "str") (id := "str.__getitem__") (typeIs_str _ _ _) PySem.F.slot_str_getitem.lookup ?_ (by with_unfolding_all rfl)
      refine wpAny_getItem_str_slice (l := none) (u := none) (st := some (-1, w)) ⟨_, Heap.get?_push_size _ rfl, rfl, rfl⟩ rfl ?_
      rw [revS_made]
      refine ⟨by show z.cps.toList.reverse.toArray.size ≤ _; rw [List.size_toArray, List.length_reverse, Array.length_toList]; exact hz, ?_⟩
      exact ⟨.str (revS z), _, I5.kept (t' := s4.toks + 1) fun _ _ q => q, ⟨_, rfl⟩, q⟩
def revP (P : D → Prop) : D → Prop := fun d => match d with
  | .lst ds => P (.lst ds.reverse)
  | .str z => z.length ≤ sizeLine ∧ P (.str (revS z))
  | _ => False
def pRev (pe : PTE) : PTE := fun env P => pe env (revP P)
theorem revP_l {P : D → Prop} {ds : List D} : revP P (.lst ds) = P (.lst ds.reverse) := rfl
theorem revP_s {P : D → Prop} {z : Str} : revP P (.str z) = (z.length ≤ sizeLine ∧ P (.str (revS z))) := rfl
theorem pu_rev {k : Nat} {p1 p2 p3 : Pos} (he : PuO X e pe) : PuE X (.Subscript e (.Slice none none (some (.UnaryOp .USub (.Constant (.int 1) k p1) p2)) p3) pos) (pRev pe) := by
  obtain ⟨t, h1, h2⟩ := he.ex
  refine ⟨_, pe_revA h1, fun G H env σ P Q ok hp kk => h2 G H env σ _ _ ok hp fun d v G' H' x r q => ?_⟩
  unfold revP at q
  split at q
  · obtain ⟨l, vs, rfl, hl, rs⟩ := r.lst x.s
    exact .inl ⟨l, vs, rfl, SqL.of hl, fun p hn => kk _ _ _ _ (x.trans (Ext.new x.s hn)) (.lst upd_same (rs.reverse.mono (Same.upd (x.s.free hn)))) q⟩
  · cases r.str
    exact .inr ⟨_, rfl, q.1, kk _ _ G' H' x (.str _) q.2⟩
  · exact q.elim

/-! ### methods of texts -/
/-- a method over data: the receiver a text -/
def MtS (X : Cx) (r : V → List V → Hp → VK → Prop) (f : Str → List D → (D → Prop) → Prop) : Prop :=
  ∀ (G H : Hp) (z : Str) (vs : List V) (ds : List D) (P : D → Prop) (Q : VK), Same G H → Reps X.K X.mg G vs ds → f z ds P → (∀ d v G' H', Ext G H G' H' → Rep X.K X.mg G' v d → P d → Q v H') → r (.str z) vs H Q
def mtSP (f : Str → List D → (D → Prop) → Prop) (ps : PTA) (env : List C) (P : D → Prop) : D → Prop := fun d => match d with
  | .str z => ps env fun ds => f z ds P
  | _ => False
def pMtS (f : Str → List D → (D → Prop) → Prop) (pe : PTE) (ps : PTA) : PTE := fun env P => pe env (mtSP f ps env P)
theorem mtSP_s {f : Str → List D → (D → Prop) → Prop} {ps : PTA} {env : List C} {P : D → Prop} {z : Str} : mtSP f ps env P (.str z) = ps env fun ds => f z ds P := rfl
variable {name : Str} {apos cpos : Pos} {id : String} {r : V → List V → Hp → VK → Prop} {f : Str → List D → (D → Prop) → Prop} {o : Expr} {po : PTE} {ps : PTA}
theorem pu_mts (slot : Slot "str" name id) (hty : typeOf (.builtin id) = pure (.type "method_descriptor")) (hm : MtR X id r) (hf : MtS X r f) (ho : PuO X o po) (ha : PuA X (e :: es) ps)
    (hbase : attributeBase o name X.env (eval o X.env) = eval o X.env := by rfl)
    (hfew : ((backTo cpos (starEach (e :: es) X.env)).all (fun x => !x.1) && (backToKw cpos (keywordEach [] X.env)).all (fun x => x.1.isSome)
      && decide ((e :: es).length + ([] : List Keyword).length + (if ([] : List Keyword).isEmpty then 0 else 1) < 30)) = true := by rfl)
    (hline : (apos.endLine == cpos.line) = true := by rfl) (hs : starEach (e :: es) X.env = (false, eval e X.env) :: starEach es X.env := by rfl) (hplain : (backTo cpos (starEach es X.env)).any (·.1) = false := by rfl) :
    PuE X (.Call (.Attribute o name apos) (e :: es) [] cpos) (pMtS f po ps) := by
  obtain ⟨t, h1, h2⟩ := ho.ex
  obtain ⟨u, g1, g2⟩ := ha.ex
  refine ⟨_, pe_bm PySem.F.plainAttrs_str slot hty hm h1 g1 hbase hfew hline hs hplain, fun G H env σ P Q ok hp kk => h2 G H env σ _ _ ok hp fun d v G1 H1 x1 r1 q1 => ?_⟩
  unfold mtSP at q1
  split at q1
  · cases r1.str
    refine ⟨rfl, g2 G1 H1 env σ _ _ (ok.ext x1) q1 fun ds vs G2 H2 x2 r2 q2 => ?_⟩
    exact hf G2 H2 _ vs ds P Q x2.s r2 q2 fun d w G3 H3 x3 r3 q3 => kk d w G3 H3 ((x1.trans x2).trans x3) r3 q3
  · exact q1.elim
def findF : Str → List D → (D → Prop) → Prop := fun z ds P => match ds with
  | [.str w] => P (.int (Txt.find z w))
  | [.str w, .int i] => P (.int (Txt.find3 z w i))
  | _ => False
theorem findF_1 {z w : Str} {P : D → Prop} : findF z [.str w] P = P (.int (Txt.find z w)) := rfl
theorem findF_2 {z w : Str} {i : Int} {P : D → Prop} : findF z [.str w, .int i] P = P (.int (Txt.find3 z w i)) := rfl
theorem reps1 {K : PySem.W.Frag} {mg : MG} {G : Hp} {vs : List V} {d : D} (h : Reps K mg G vs [d]) : ∃ v, vs = [v] ∧ Rep K mg G v d := by
  cases h with
  | cons r t => cases t; exact ⟨_, rfl, r⟩
theorem reps2 {K : PySem.W.Frag} {mg : MG} {G : Hp} {vs : List V} {d e : D} (h : Reps K mg G vs [d, e]) : ∃ v w, vs = [v, w] ∧ Rep K mg G v d ∧ Rep K mg G w e := by
  cases h with
  | cons r t => obtain ⟨w, rfl, q⟩ := reps1 t; exact ⟨_, _, rfl, r, q⟩
theorem findF_ok : MtS X (fun x xs H Q => (∃ a b, x = .str a ∧ xs = [.str b] ∧ Q (.int (Txt.find a b)) H) ∨ ∃ (a b : Str) (i : Int), x = .str a ∧ xs = [.str b, .int i] ∧ Q (.int (Txt.find3 a b i)) H) findF := by
  intro G H z vs ds P Q s rs h k
  unfold findF at h
  split at h
  · obtain ⟨v, rfl, r⟩ := reps1 rs
    cases r
    exact .inl ⟨_, _, rfl, rfl, k _ _ G H (.refl s) (.int _) h⟩
  · obtain ⟨v, w, rfl, r1, r2⟩ := reps2 rs
    cases r1; cases r2
    exact .inr ⟨_, _, _, rfl, rfl, k _ _ G H (.refl s) (.int _) h⟩
  · exact h.elim
theorem pu_find (ho : PuO X o po) (ha : PuA X (e :: es) ps) (hbase : attributeBase o "find" X.env (eval o X.env) = eval o X.env := by rfl)
    (hfew : ((backTo cpos (starEach (e :: es) X.env)).all (fun x => !x.1) && (backToKw cpos (keywordEach [] X.env)).all (fun x => x.1.isSome)
      && decide ((e :: es).length + ([] : List Keyword).length + (if ([] : List Keyword).isEmpty then 0 else 1) < 30)) = true := by rfl)
    (hline : (apos.endLine == cpos.line) = true := by rfl) (hs : starEach (e :: es) X.env = (false, eval e X.env) :: starEach es X.env := by rfl) (hplain : (backTo cpos (starEach es X.env)).any (·.1) = false := by rfl) :
    PuE X (.Call (.Attribute o "find" apos) (e :: es) [] cpos) (pMtS findF po ps) :=
  pu_mts PySem.F.slot_str_find PySem.F.type_str_find (mt_find.or mt_find3) findF_ok ho ha hbase hfew hline hs hplain
def startsF : Str → List D → (D → Prop) → Prop := fun z ds P => match ds with
  | [.str w] => P (.bl (Txt.startswith z w))
  | _ => False
theorem startsF_1 {z w : Str} {P : D → Prop} : startsF z [.str w] P = P (.bl (Txt.startswith z w)) := rfl
theorem startsF_ok : MtS X (fun x xs H Q => ∃ a b, x = .str a ∧ xs = [.str b] ∧ Q (.bl (Txt.startswith a b)) H) startsF := by
  intro G H z vs ds P Q s rs h k
  unfold startsF at h
  split at h
  · obtain ⟨v, rfl, r⟩ := reps1 rs
    cases r
    exact ⟨_, _, rfl, rfl, k _ _ G H (.refl s) (.bl _) h⟩
  · exact h.elim
theorem pu_starts (ho : PuO X o po) (ha : PuA X (e :: es) ps) (hbase : attributeBase o "startswith" X.env (eval o X.env) = eval o X.env := by rfl)
    (hfew : ((backTo cpos (starEach (e :: es) X.env)).all (fun x => !x.1) && (backToKw cpos (keywordEach [] X.env)).all (fun x => x.1.isSome)
      && decide ((e :: es).length + ([] : List Keyword).length + (if ([] : List Keyword).isEmpty then 0 else 1) < 30)) = true := by rfl)
    (hline : (apos.endLine == cpos.line) = true := by rfl) (hs : starEach (e :: es) X.env = (false, eval e X.env) :: starEach es X.env := by rfl) (hplain : (backTo cpos (starEach es X.env)).any (·.1) = false := by rfl) :
    PuE X (.Call (.Attribute o "startswith" apos) (e :: es) [] cpos) (pMtS startsF po ps) :=
  pu_mts PySem.F.slot_str_startswith PySem.F.type_str_startswith mt_startswith startsF_ok ho ha hbase hfew hline hs hplain
/-- the first place of a text in a text -/
def sidxF : Str → List D → (D → Prop) → Prop := fun z ds P => match ds with
  | [.str w] => ∃ i rest, Builtin.Str.occurrences z w 0 z.length 1 = i :: rest ∧ P (.int (i : Nat))
  | _ => False
theorem sidxF_1 {z w : Str} {P : D → Prop} : sidxF z [.str w] P = ∃ i rest, Builtin.Str.occurrences z w 0 z.length 1 = i :: rest ∧ P (.int (i : Nat)) := rfl
theorem sidxF_ok : MtS X (fun x xs H Q => ∃ a b i rest, x = .str a ∧ xs = [.str b] ∧ Builtin.Str.occurrences a b 0 a.length 1 = i :: rest ∧ Q (.int (i : Nat)) H) sidxF := by
  intro G H z vs ds P Q s rs h k
  unfold sidxF at h
  split at h
  · obtain ⟨v, rfl, r⟩ := reps1 rs
    cases r
    obtain ⟨i, rest, e, h⟩ := h
    exact ⟨_, _, i, rest, rfl, rfl, e, k _ _ G H (.refl s) (.int _) h⟩
  · exact h.elim
theorem pu_sindex (ho : PuO X o po) (ha : PuA X (e :: es) ps) (hbase : attributeBase o "index" X.env (eval o X.env) = eval o X.env := by rfl)
    (hfew : ((backTo cpos (starEach (e :: es) X.env)).all (fun x => !x.1) && (backToKw cpos (keywordEach [] X.env)).all (fun x => x.1.isSome)
      && decide ((e :: es).length + ([] : List Keyword).length + (if ([] : List Keyword).isEmpty then 0 else 1) < 30)) = true := by rfl)
    (hline : (apos.endLine == cpos.line) = true := by rfl) (hs : starEach (e :: es) X.env = (false, eval e X.env) :: starEach es X.env := by rfl) (hplain : (backTo cpos (starEach es X.env)).any (·.1) = false := by rfl) :
    PuE X (.Call (.Attribute o "index" apos) (e :: es) [] cpos) (pMtS sidxF po ps) :=
  pu_mts PySem.F.slot_str_index PySem.F.type_str_index mt_sindex sidxF_ok ho ha hbase hfew hline hs hplain
def scntF : Str → List D → (D → Prop) → Prop := fun z ds P => match ds with
  | [.str w] => P (.int (Txt.count z w))
  | _ => False
theorem scntF_1 {z w : Str} {P : D → Prop} : scntF z [.str w] P = P (.int (Txt.count z w)) := rfl
theorem scntF_ok : MtS X (fun x xs H Q => ∃ a b, x = .str a ∧ xs = [.str b] ∧ Q (.int (Txt.count a b)) H) scntF := by
  intro G H z vs ds P Q s rs h k
  unfold scntF at h
  split at h
  · obtain ⟨v, rfl, r⟩ := reps1 rs
    cases r
    exact ⟨_, _, rfl, rfl, k _ _ G H (.refl s) (.int _) h⟩
  · exact h.elim
theorem pu_scount (ho : PuO X o po) (ha : PuA X (e :: es) ps) (hbase : attributeBase o "count" X.env (eval o X.env) = eval o X.env := by rfl)
    (hfew : ((backTo cpos (starEach (e :: es) X.env)).all (fun x => !x.1) && (backToKw cpos (keywordEach [] X.env)).all (fun x => x.1.isSome)
      && decide ((e :: es).length + ([] : List Keyword).length + (if ([] : List Keyword).isEmpty then 0 else 1) < 30)) = true := by rfl)
    (hline : (apos.endLine == cpos.line) = true := by rfl) (hs : starEach (e :: es) X.env = (false, eval e X.env) :: starEach es X.env := by rfl) (hplain : (backTo cpos (starEach es X.env)).any (·.1) = false := by rfl) :
    PuE X (.Call (.Attribute o "count" apos) (e :: es) [] cpos) (pMtS scntF po ps) :=
  pu_mts PySem.F.slot_str_count PySem.F.type_str_count mt_count scntF_ok ho ha hbase hfew hline hs hplain
end
end PL
end

section
set_option linter.all false
set_option maxRecDepth 100000
set_option maxHeartbeats 4000000
set_option autoImplicit false
/-! PL22: < of tuples of ints and texts. -/
namespace PL
open PySem PySem.Spec PyProof.Rows L2
/-- equal, less -/
def scV : V → V → Option (Bool × Bool)
  | .int a, .int b => some (decide (a = b), decide (a < b))
  | .str a, .str b => some (decide (a = b), decide (a.cps.toList < b.cps.toList))
  | _, _ => none
def ltV : List V → List V → Option Bool
  | [], [] => some false
  | [], _ :: _ => some true
  | _ :: _, [] => some false
  | x :: xs, y :: ys => match scV x y with
    | some (true, _) => ltV xs ys
    | some (false, r) => some r
    | none => none
/-- only pairs up to the first unequal one are looked at: all must be of one kind -/
def allV : List V → List V → Bool
  | x :: xs, y :: ys => (scV x y).isSome && allV xs ys
  | _, _ => true
def eF (xs ys : List V) (j : Nat) : Bool := match xs[j]?, ys[j]? with
  | some x, some y => ((scV x y).map (·.1)).getD false
  | _, _ => false
def rF (xs ys : List V) (j : Nat) : Bool := match xs[j]?, ys[j]? with
  | some x, some y => ((scV x y).map (·.2)).getD false
  | _, _ => false
theorem lexAt_eq : ∀ (xs ys : List V) (pre pre' : List V) (r : Bool), pre.length = pre'.length → allV xs ys = true → ltV xs ys = some r →
    Ob.lexAt (eF (pre ++ xs) (pre' ++ ys)) (rF (pre ++ xs) (pre' ++ ys)) (decide ((pre ++ xs).length < (pre' ++ ys).length)) pre.length (min xs.length ys.length) = r
  | [], [], pre, pre', r, hp, _, h => by
    cases h
    rw [List.length_nil, Nat.min_self, Ob.lexAt_zero, List.append_nil, List.append_nil, hp]
    simp
  | [], y :: ys, pre, pre', r, hp, _, h => by
    cases h
    rw [List.length_nil, Nat.zero_min, Ob.lexAt_zero]
    simp [hp]
  | x :: xs, [], pre, pre', r, hp, _, h => by
    cases h
    rw [List.length_nil, Nat.min_zero, Ob.lexAt_zero]
    simp [hp]
  | x :: xs, y :: ys, pre, pre', r, hp, ha, h => by
    unfold allV at ha
    rw [Bool.and_eq_true] at ha
    obtain ⟨⟨e, l⟩, hs⟩ := Option.isSome_iff_exists.mp ha.1
    have g1 : (pre ++ x :: xs)[pre.length]? = some x := by simp
    have g2 : (pre' ++ y :: ys)[pre.length]? = some y := by rw [hp]; simp
    have ee : eF (pre ++ x :: xs) (pre' ++ y :: ys) pre.length = e := by unfold eF; rw [g1, g2]; simp [hs]
    have er : rF (pre ++ x :: xs) (pre' ++ y :: ys) pre.length = l := by unfold rF; rw [g1, g2]; simp [hs]
    rw [List.length_cons, List.length_cons, show min (xs.length + 1) (ys.length + 1) = min xs.length ys.length + 1 by omega, Ob.lexAt_succ, ee, er]
    unfold ltV at h
    rw [hs] at h
    cases e with
    | false => cases h; rw [if_neg (by decide)]
    | true =>
      rw [if_pos rfl]
      have ih := lexAt_eq xs ys (pre ++ [x]) (pre' ++ [y]) r (by simp [hp]) ha.2 h
      simpa using ih
theorem Vals.at_ {xs : List V} {us : List Value} (r : Vals xs us) {j : Nat} (h : j < us.toArray.size) : ∃ x, xs[j]? = some x ∧ RelV x us.toArray[j] := by
  have hl : j < us.length := by simpa using h
  have hx : j < xs.length := by rw [r.length]; exact hl
  obtain ⟨u, e, q⟩ := r.get (i := j) (x := xs[j]) (List.getElem?_eq_getElem hx)
  refine ⟨xs[j], List.getElem?_eq_getElem hx, ?_⟩
  rw [List.getElem?_eq_getElem hl] at e
  cases e
  simpa using q
def rLtS (K : PySem.W.Frag) : R2 := fun x y H Q => ∃ a b xs ys r, x = .ref a ∧ y = .ref b ∧ SqT K H a xs ∧ SqT K H b ys ∧ allV xs ys = true ∧ ltV xs ys = some r ∧ Q (.bl r) H
theorem op_ltS {X : Cx} (hu : X.A.units < cLine) : OpR X (compareOp .Lt) (rLtS X.K) := by
  intro pins s σ H x y v u Q I rx ry h
  obtain ⟨a, b, xs, ys, r, rfl, rfl, ha, hb, hall, hl, q⟩ := h
  cases rx
  cases ry
  obtain ⟨us, r1, p1, _⟩ := I.tuple ha
  obtain ⟨ws, r2, p2, _⟩ := I.tuple hb
  have all_at : ∀ {xs ys : List V} {j : Nat} {x y : V}, allV xs ys = true → xs[j]? = some x → ys[j]? = some y → ∃ p, scV x y = some p := by
    intro xs
    induction xs with
    | nil => intro ys j x y _ h; simp at h
    | cons z xs ih =>
      intro ys j x y ha hx hy
      cases ys with
      | nil => simp at hy
      | cons w ys =>
        unfold allV at ha
        rw [Bool.and_eq_true] at ha
        cases j with
        | zero => cases hx; cases hy; exact Option.isSome_iff_exists.mp ha.1
        | succ j => exact ih ha.2 (by simpa using hx) (by simpa using hy)
  have R := Ob.RcOp.tuples_lt (A := X.A) (s := s) (e := eF xs ys) (r := rF xs ys) p1 p2 hu (fun j h1 h2 => by
    obtain ⟨x, ex, qx⟩ := Vals.at_ r1 h1
    obtain ⟨y, ey, qy⟩ := Vals.at_ r2 h2
    obtain ⟨p, hp⟩ := all_at hall ex ey
    have e1 : eF xs ys j = p.1 := by unfold eF; rw [ex, ey]; simp [hp]
    rw [e1]
    cases x <;> cases y <;> first | (exfalso; unfold scV at hp; cases hp; done) | skip
    · rename_i i k
      obtain ⟨t, et⟩ := qx
      obtain ⟨t', et'⟩ := qy
      rw [et, et']
      unfold scV at hp
      cases hp
      have z : decide (i = k) = (i == k) := by by_cases q : i = k <;> simp [q]
      show SeqAt.EqAt _ _ _ _ (decide (i = k))
      rw [z]
      exact SeqAt.EqAt.int_int _ _ _ _
    · rename_i i k
      obtain ⟨t, et⟩ := qx
      obtain ⟨t', et'⟩ := qy
      rw [et, et']
      unfold scV at hp
      cases hp
      have z : decide (i = k) = (i == k) := by by_cases q : i = k <;> simp [q]
      show SeqAt.EqAt _ _ _ _ (decide (i = k))
      rw [z]
      exact SeqAt.EqAt.str_str _ _ _ _) (fun j h1 h2 _ => by
    obtain ⟨x, ex, qx⟩ := Vals.at_ r1 h1
    obtain ⟨y, ey, qy⟩ := Vals.at_ r2 h2
    obtain ⟨p, hp⟩ := all_at hall ex ey
    have e1 : rF xs ys j = p.2 := by unfold rF; rw [ex, ey]; simp [hp]
    rw [e1]
    cases x <;> cases y <;> first | (exfalso; unfold scV at hp; cases hp; done) | skip
    · obtain ⟨t, et⟩ := qx
      obtain ⟨t', et'⟩ := qy
      rw [et, et']
      unfold scV at hp
      cases hp
      exact Ob.RcOp.lt_int _ _ _ _
    · obtain ⟨t, et⟩ := qx
      obtain ⟨t', et'⟩ := qy
      rw [et, et']
      unfold scV at hp
      cases hp
      exact fun _ _ _ _ h => PyProof.Rows.lt_str h)
  have e := lexAt_eq xs ys [] [] r rfl hall hl
  simp only [List.nil_append, List.length_nil] at e
  have n1 : us.toArray.size = xs.length := by rw [List.size_toArray, r1.length]
  have n2 : ws.toArray.size = ys.length := by rw [List.size_toArray, r2.length]
  rw [n1, n2, e] at R
  exact R X.prog X.w _ _ ⟨.bl r, H, I, rfl, q⟩
/-! over data -/
def scD : D → D → Option (Bool × Bool)
  | .int a, .int b => some (decide (a = b), decide (a < b))
  | .str a, .str b => some (decide (a = b), decide (a.cps.toList < b.cps.toList))
  | _, _ => none
def ltD : List D → List D → Option Bool
  | [], [] => some false
  | [], _ :: _ => some true
  | _ :: _, [] => some false
  | x :: xs, y :: ys => match scD x y with
    | some (true, _) => ltD xs ys
    | some (false, r) => some r
    | none => none
def allD : List D → List D → Bool
  | x :: xs, y :: ys => (scD x y).isSome && allD xs ys
  | _, _ => true
theorem scD_V {K : PySem.W.Frag} {mg : MG} {G : Hp} {v w : V} {x y : D} (r1 : Rep K mg G v x) (r2 : Rep K mg G w y) (h : (scD x y).isSome = true) : scV v w = scD x y := by
  cases x <;> cases y <;> first | (exfalso; unfold scD at h; cases h; done) | skip
  · cases r1; cases r2; rfl
  · cases r1; cases r2; rfl
theorem ltD_V {K : PySem.W.Frag} {mg : MG} {G : Hp} : ∀ {vs ws : List V} {xs ys : List D}, Reps K mg G vs xs → Reps K mg G ws ys → allD xs ys = true → allV vs ws = true ∧ ltV vs ws = ltD xs ys
  | _, _, _, _, .nil, .nil, _ => ⟨rfl, rfl⟩
  | _, _, _, _, .nil, .cons _ _, _ => ⟨rfl, rfl⟩
  | _, _, _, _, .cons _ _, .nil, _ => ⟨rfl, rfl⟩
  | _, _, _, _, .cons r1 t1, .cons r2 t2, h => by
    unfold allD at h
    rw [Bool.and_eq_true] at h
    have e := scD_V r1 r2 h.1
    obtain ⟨i1, i2⟩ := ltD_V t1 t2 h.2
    unfold allV ltV ltD
    rw [e, i1, h.1]
    refine ⟨rfl, ?_⟩
    split <;> first | exact i2 | rfl
def ltTP : BinP := fun x y P => match x, y with
  | .tup xs, .tup ys => allD xs ys = true ∧ ∃ r, ltD xs ys = some r ∧ P (.bl r)
  | _, _ => False
theorem ltTP_t {xs ys : List D} {P : D → Prop} : ltTP (.tup xs) (.tup ys) P = (allD xs ys = true ∧ ∃ r, ltD xs ys = some r ∧ P (.bl r)) := rfl
section
variable {X : Cx} {a b : Expr} {pa pb : PTE} {pos : Pos}
theorem ltTP_ok : BinOk X (rLtS X.K) ltTP := by
  intro G H v w x y P Q s r1 r2 h k
  unfold ltTP at h
  split at h
  · obtain ⟨ha, r, hr, q⟩ := h
    obtain ⟨l, vs, rfl, e1, t1⟩ := r1.tup s
    obtain ⟨m, ws, rfl, e2, t2⟩ := r2.tup s
    obtain ⟨i1, i2⟩ := ltD_V t1 t2 ha
    exact ⟨l, m, vs, ws, r, rfl, rfl, SqT.of e1, SqT.of e2, i1, i2.trans hr, k _ _ G H (.refl s) (.bl r) q⟩
  · exact h.elim
theorem pu_ltT (hu : X.A.units + 64 < cLine) (ha : PuO X a pa) (hb : PuO X b pb) : PuE X (.Compare a [.Lt] [b] pos) (pBin ltTP pa pb) := pu_cmp (op_ltS (by omega)) ltTP_ok ha hb (nomark _)
theorem put_ltT (hu : X.A.units + 64 < cLine) (ha : PuO X a pa) (hb : PuO X b pb) : PuT X (.Compare a [.Lt] [b] pos) (pB (pBin ltTP pa pb)) := put_cmp (op_ltS (by omega)) ltTP_ok ha hb (nomark _)
end
end PL
end

section
set_option linter.all false
set_option maxRecDepth 100000
set_option maxHeartbeats 4000000
set_option autoImplicit false
/-! PL23: errors raised, passed on, caught. -/
namespace PL
open PySem PySem.Spec PyProof.Rows L2

/-! ### at the hand layer: a caught exception is tracked -/
/-- a caught exception of the class at C, its dict at dx -/
def exT (a C dx : Addr) : HO := .ext fun h => ∃ (oe : Obj) (ws : Array Value), h.get? a = some oe ∧ Zc (.ref C) (some dx) oe ∧ oe.data = .fields ws
theorem exq_exT {a C dx : Addr} : Exq (exT a C dx) a C dx := ⟨_, rfl, fun _ ⟨oe, ws, e, z, d⟩ => ⟨oe, ws, e, z.1, z.2, d⟩⟩
/-- the heap in which a caught exception stands -/
def caught (H : Hp) (a C dx : Addr) (vs : List (Str × V)) : Hp := upd (upd H dx (exd dx vs)) a (exT a C dx)
section
variable {X : Cx} {pins : List (Addr × Obj)} {σ : L2.St} {H : Hp} {s : Shared} {a C dx : Addr} {vs : List (Str × V)} {oe : Obj} {ws : Array Value}
theorem caught_other {b : Addr} (ha : H a = none) (hd : H dx = some (.xd vs)) (n1 : b ≠ a) (n2 : b ≠ dx) : caught H a C dx vs b = H b := by
  unfold caught
  rw [upd_ne n1, upd_ne n2]
theorem caught_hok {P : Program} {w : World} {h : Heap} (ok : HOk P w H h) (he : h.get? a = some oe) (hz : Zc (.ref C) (some dx) oe) (hf : oe.data = .fields ws) (ha : H a = none) (hd : H dx = some (.xd vs)) : HOk P w (caught H a C dx vs) h := by
  have ned : dx ≠ a := fun z => by subst z; rw [ha] at hd; cases hd
  have keepO : ∀ c x, H c = some (.own x) → caught H a C dx vs c = some (.own x) := fun c x q => by
    have n1 : c ≠ a := fun z => by subst z; rw [ha] at q; cases q
    have n2 : c ≠ dx := fun z => by subst z; rw [hd] at q; cases q
    rw [caught_other ha hd n1 n2]; exact q
  have keepT : ∀ c xs, H c = some (.tup xs) → caught H a C dx vs c = some (.tup xs) := fun c x q => by
    have n1 : c ≠ a := fun z => by subst z; rw [ha] at q; cases q
    have n2 : c ≠ dx := fun z => by subst z; rw [hd] at q; cases q
    rw [caught_other ha hd n1 n2]; exact q
  intro b u q
  by_cases n1 : b = a
  · subst n1
    have z : caught H b C dx vs b = some (exT b C dx) := upd_same
    rw [z] at q; cases q
    exact ⟨⟨oe, ws, he, hz, hf⟩, ⟨oe, he⟩, fun h1 h2 ⟨o, w2, e, r⟩ k => ⟨o, w2, k o e, r⟩⟩
  · by_cases n2 : b = dx
    · subst n2
      have z : caught H a C b vs b = some (exd b vs) := by
        unfold caught
        rw [upd_ne n1, upd_same]
      rw [z] at q; cases q
      have old : ObjOk P w H h b (.xd vs) := ok b _ hd
      obtain ⟨mA, hn, hr⟩ := old
      exact exd_ok hn hr
    · rw [caught_other ha hd n1 n2] at q
      exact (ok b u q).stay (fun c x _ z => z) (fun c z => keepO c b z) fun c xs z => keepT c xs z
/-- an exception that has landed stands in the suite's state as data -/
theorem susp (I : Inv X pins σ H s) (he : s.heap.get? a = some oe) (hz : Zc (.ref C) (some dx) oe) (hf : oe.data = .fields ws) (ha : H a = none) (hd : H dx = some (.xd vs)) (nL : a ≠ X.env.locals) (n0 : X.s_0.heap.get? a = none) (np : ∀ p ∈ X.pn ++ pins, p.1 ≠ a) :
    Inv (X.suite a (X.pn ++ pins)) [] σ (caught H a C dx vs) s := by
  have ned : dx ≠ a := fun z => by subst z; rw [ha] at hd; cases hd
  have hid : ∀ b, b ≠ a → H b = none → caught H a C dx vs b = none := fun b n q => by
    have n2 : b ≠ dx := fun z => by subst z; rw [hd] at q; cases q
    rw [caught_other ha hd n n2]; exact q
  have hto : ∀ b u, H b = some u → (∀ ys, u ≠ .xd ys) → caught H a C dx vs b = some u := fun b u q nx => by
    have n1 : b ≠ a := fun z => by subst z; rw [ha] at q; cases q
    have n2 : b ≠ dx := fun z => by subst z; rw [hd] at q; cases q; exact nx _ rfl
    rw [caught_other ha hd n1 n2]; exact q
  refine ⟨I.ok.suite _ _, I.os, I.bare, ⟨I.base.keep, I.base.slot, fun b o e n x => ?_, I.base.there, fun b xs e => ?_, fun b o u e => ?_, fun b ps e => ?_⟩, I.loc, I.cell, hid _ (Ne.symm nL) I.free, fun x c e => ?_, fun p hp => ?_, caught_hok I.hok he hz hf ha hd, I.len⟩
  · exact hid b (fun z => by subst z; rw [n0] at e; cases e) (I.base.free b o e n x)
  · exact hto b _ (I.base.tups b xs e) fun ys z => nomatch z
  · exact hto b _ (I.base.frzs b o u e) fun ys z => nomatch z
  · obtain ⟨m, q⟩ := I.base.tbls b ps e
    exact ⟨m, hto b _ q fun ys z => nomatch z⟩
  · refine hid c (fun z => ?_) (I.freeC x c e)
    subst z
    obtain ⟨v, o, ho, hc⟩ := I.cell x c e
    rw [he] at ho; cases ho
    rw [hf] at hc; cases hc
  · have hp' : p ∈ X.pn ++ pins := by rw [List.append_nil] at hp; exact hp
    obtain ⟨e, n, nl, nf, d⟩ := I.pin p hp'
    exact ⟨e, hid _ (np p hp') n, nl, nf, d⟩
theorem unsusp {pn2 : List (Addr × Obj)} (I : Inv (X.suite a (X.pn ++ pins)) pn2 σ H s) (ok : X.Ok) : Inv X pins σ H s :=
  ⟨ok, I.os, I.bare, I.base, I.loc, I.cell, I.free, I.freeC, fun p hp => I.pin p (List.mem_append_left _ hp), I.hok, I.len⟩
end

/-! ### except clauses -/
abbrev SuT := Addr → List (Addr × Obj) → TS
inductive Hds (X : Cx) : List ExceptHandler → List (Value × Option Nat × SuT) → Prop
  | nil : Hds X [] []
  | only {x : Str} {c : Value} {ts : SuT} {b : Stmt} {su : List Stmt} {np hp : Pos} {r : List ExceptHandler} {l : List (Value × Option Nat × SuT)} (hc : Names X x c) (hsu : ∀ a pn, PSs (X.suite a pn) (b :: su) (ts a pn)) (t : Hds X r l) :
      Hds X (.ExceptHandler (some (.Name x np)) none (b :: su) hp :: r) ((c, none, ts) :: l)
  | as {x n : Str} {c : Value} {i : Nat} {ts : SuT} {b : Stmt} {su : List Stmt} {np hp : Pos} {r : List ExceptHandler} {l : List (Value × Option Nat × SuT)} (hc : Names X x c) (hN : X.N.Nodup) (hi : X.N[i]? = some n) (hl : X.env.kindOf n = some .local)
      (hsu : ∀ a pn, PSs (X.suite a pn) (b :: su) (ts a pn)) (t : Hds X r l) : Hds X (.ExceptHandler (some (.Name x np)) (some n) (b :: su) hp :: r) ((c, some i, ts) :: l)
/-- the ends of a suite whose name goes -/
def endsGo : Option Nat → Ends → Ends
  | none, D => D
  | some i, D => { nx := fun σ H => D.nx (σ.set i none) H, rt := D.rt, bk := fun σ H => D.bk (σ.set i none) H, ct := fun σ H => D.ct (σ.set i none) H }
def putEx : Option Nat → Addr → L2.St → L2.St
  | none, _, σ => σ
  | some i, a, σ => σ.set i (some (.ref a))
/-- what the clauses want of an exception, one behind another -/
def wHds (K : PySem.W.Frag) (Wo : WX) (D : Ends) : List (Value × Option Nat × SuT) → WX
  | [] => Wo
  | (c, i, ts) :: r => fun cls d σ H => ∃ b : Bool, PySem.W.exmOne K cls c = some b ∧
      (b = true → ∀ (a : Addr) (pn : List (Addr × Obj)) (Ca dx : Addr) (vs : List (Str × V)), H a = none → cls = .ref Ca → d = some dx → H dx = some (.xd vs) → ts a pn (endsGo i D) (putEx i a σ) (caught H a Ca dx vs)) ∧
      (b = false → wHds K Wo D r cls d σ H)
def wTry (K : PySem.W.Frag) (Wo : WX) (D : Ends) (l : List (Value × Option Nat × SuT)) : WX := fun cls d σ H => (∃ (Ca dx : Addr) (vs : List (Str × V)), cls = .ref Ca ∧ d = some dx ∧ H dx = some (.xd vs)) ∧ wHds K Wo D l cls d σ H
section
variable {X : Cx} {body : List Stmt} {h₀ : ExceptHandler} {hds : List ExceptHandler} {l : List (Value × Option Nat × SuT)} {pos : Pos}
theorem ps_tryE {tb : List (Addr × Obj) → (Value → Shared → Prop) → TS} (hs : X.stack = X.env :: X.outer) (hf : X.env.frame = some X.env.locals) (hex : X.ex = [])
    (hb : ∀ (pn : List (Addr × Obj)) (xe : Value → Shared → Prop), PassesOwn (model X.prog X.w) X.A X.env xe → PSs (X.tr pn xe) body (tb pn xe)) (hh : Hds X (h₀ :: hds) l) :
    PS X (.Try body (h₀ :: hds) [] [] pos) (fun D σ H => ∃ Wo : WX, Takes X Wo ∧ ∀ (pn : List (Addr × Obj)) (xe : Value → Shared → Prop), PassesOwn (model X.prog X.w) X.A X.env xe → Takes (X.tr pn xe) (wTry X.K Wo D l) → tb pn xe D σ H) := by
  refine ⟨fun pins s σ H D I ⟨Wo, tk, h⟩ => ?_⟩
  have okX := I.ok
  have frm : X.A.frames = some (X.env :: X.outer) := okX.frames.trans (congrArg some hs)
  let catch_ : Value → Shared → Prop := fun u sx => wpAny (model X.prog X.w) X.A (noteFrame u X.env) (fun _ sy => wpAny (model X.prog X.w) X.A (setFlight u none) (fun _ sz => wpAny (model X.prog X.w) X.A (handleBy u X.env (h₀ :: hds)) (SP X pins D) X.xe sz) X.xe sy) X.xe sx
  have hpo : PassesOwn (model X.prog X.w) X.A X.env catch_ := PassesOwn.looking
  have got : Takes (X.tr (X.pn ++ pins) catch_) (wTry X.K Wo D l) := by
    intro u s2 air
    obtain ⟨a, B, sI, pI, σ2, H2, cls, d, rfl, JI, nb, up, sky, na, os, ag, ⟨Ca, dx, vs, rfl, rfl, hxd⟩, wh⟩ := air
    have J : Inv X pins σ2 H2 sI := JI.ofTry okX
    have sky2 : Sky B (X.env :: X.outer) a (Zc (.ref Ca) (some dx)) X.env.locals s2.heap := by rw [← hs]; exact sky
    show wpAny (model X.prog X.w) X.A (noteFrame (.ref a) X.env) _ _ _
    refine Sky.land Zc.steady frm hf sky2 fun h3 fly up3 => ?_
    have J3 : Inv X pins σ2 H2 { s2 with heap := h3 } := J.landed nb fly.1 (up.trans up3) os ag
    obtain ⟨o3, w3, e3, z3, d3⟩ := fly.there
    have out : a ∉ frs (X.env :: X.outer) := fun hm => by
      obtain ⟨_, o4, e4, nf⟩ := fly.2.2.1.mem hm
      rw [e3] at e4; cases e4
      exact nf _ d3
    have nL : a ≠ X.env.locals := fun z => out (List.mem_filterMap.mpr ⟨X.env, List.mem_cons_self, by rw [hf, z]⟩)
    have nI : sI.heap.get? a = none := by
      cases q : sI.heap.get? a with
      | none => rfl
      | some o =>
        have y := nb a o q (by rw [hs]; exact out)
        rw [fly.2.1] at y; cases y
    have n0 : X.s_0.heap.get? a = none := by
      cases q : X.s_0.heap.get? a with
      | none => rfl
      | some o =>
        obtain ⟨o4, y⟩ := J.base.there a o q (by rw [hex]; exact List.not_mem_nil)
        rw [nI] at y; cases y
    have np : ∀ p ∈ X.pn ++ pins, p.1 ≠ a := fun p hp z => by
      have y := (J.pin p hp).1
      rw [z, nI] at y; cases y
    have S3 := susp J3 e3 z3 d3 na hxd nL n0 np
    have go : ∀ {hq : List ExceptHandler} {lq : List (Value × Option Nat × SuT)}, Hds X hq lq → wHds X.K Wo D lq (.ref Ca) (some dx) σ2 H2 → wpAny (model X.prog X.w) X.A (handleBy (.ref a) X.env hq) (SP X pins D) X.xe { s2 with heap := h3 } := by
      intro hq lq hk
      have tst : ∀ {x : Str} {c : Value} {np : Pos} {Q E : Value → Shared → Prop}, Names X x c → Q c { s2 with heap := h3 } → wpAny (model X.prog X.w) (X.A.mark (some (.ref a))) (eval (.Name x np) X.env) Q E { s2 with heap := h3 } := fun {x c np Q E} hc q => by
        obtain ⟨g1, g2, m1 | ⟨m1, m2, m3⟩⟩ := hc
        · exact ld_glob (X := X.suite a (X.pn ++ pins)) S3 g1 m1 q g2
        · exact ld_blt (X := X.suite a (X.pn ++ pins)) S3 g1 m1 m2 q m3 g2
      have look : PySem.W.Looks (model X.prog X.w) h3 (typeOf (.ref a)) (.ref Ca) := fun A Q E s k q => wpAny_typeOf_ref (k _ _ e3) (by rw [z3.1]; exact q)
      induction hk with
      | nil =>
        intro w
        refine wpAny_handleBy_nil ?_
        obtain ⟨f1, f2, f3, oe, ve, T, oT, te, he, hz, hd, h1, hr⟩ := id fly
        unfold PySem.passOn
        refine wpAny_bind (wpAny_field he hd h1 ?_)
        rw [if_neg (show ¬ ((Value.ref T == Value.none) = true) from by simp)]
        have away : wpAny (model X.prog X.w) X.A (setFlight (.ref a) X.env.frame) (fun _ sq => wpAny (model X.prog X.w) X.A (throw (.ref a) : Sem Flow) (SP X pins D) X.xe sq) X.xe { s2 with heap := h3 } := by
          rw [hf]
          refine HandSPX.setFlight_upZ fly fun h4 hh4 up4 => wpAny_throw (tk _ _ ⟨a, B, sI, pins, σ2, H2, .ref Ca, some dx, rfl, J, nb, (up.trans up3).trans up4, .inr (.inr (by rw [hs]; exact hh4)), na, os, ag, w⟩)
        first
          | exact wpAny_bind (wpAny_pure (wpAny_bind away))
          | exact wpAny_bind away
      | only hc hsu r ih =>
        intro w
        obtain ⟨b, hb1, yes, no⟩ := w
        refine wpAny_handleBy_cons (codeAny_handlers_test (tst hc ((PySem.W.exm_one (M := model X.prog X.w) J3.kIn look hb1).here ?_))) (fun q => nomatch q)
        cases b with
        | false => exact ih (no rfl)
        | true =>
          refine codeAny_handlers_suite (HandSPX.lands_againZ fly fun h4 fly4 up4 => ?_)
          have J4 : Inv X pins σ2 H2 { s2 with heap := h4 } := J.landed nb fly4.1 ((up.trans up3).trans up4) os ag
          obtain ⟨o4, w4, e4, z4, d4⟩ := fly4.there
          have S4 := susp J4 e4 z4 d4 na hxd nL n0 np
          refine wpAny_mono ((hsu a (X.pn ++ pins)).run [] _ _ _ _ S4 (yes rfl a _ Ca dx vs na rfl rfl hxd)) (fun f s6 e => ?_) (fun _ _ z => False.elim z)
          cases f with
          | next => obtain ⟨σ6, H6, S6, q6⟩ := e; exact ⟨_, _, unsusp S6 okX, q6⟩
          | brk => obtain ⟨σ6, H6, S6, q6⟩ := e; exact ⟨_, _, unsusp S6 okX, q6⟩
          | cont => obtain ⟨σ6, H6, S6, q6⟩ := e; exact ⟨_, _, unsusp S6 okX, q6⟩
          | ret u => obtain ⟨v6, σ6, H6, S6, r6, q6⟩ := e; exact ⟨_, _, _, unsusp S6 okX, r6, q6⟩
      | @as x n c i ts b0 su np' hp' r lr hc hN hi hl hsu rr ih =>
        intro w
        obtain ⟨b, hb1, yes, no⟩ := w
        refine wpAny_handleBy_cons (codeAny_handlers_test (tst hc ((PySem.W.exm_one (M := model X.prog X.w) J3.kIn look hb1).here ?_))) (fun q => nomatch q)
        cases b with
        | false => exact ih (no rfl)
        | true =>
          refine codeAny_handlers_suite_as (HandSPX.lands_againZ fly fun h4 fly4 up4 => ?_)
          have J4 : Inv X pins σ2 H2 { s2 with heap := h4 } := J.landed nb fly4.1 ((up.trans up3).trans up4) os ag
          obtain ⟨o4, w4, e4, z4, d4⟩ := fly4.there
          have S4 := susp J4 e4 z4 d4 na hxd nL n0 np
          refine store_ok (X := X.suite a (X.pn ++ pins)) (v := .ref a) S4 hN hi (.inl hl) rfl (fun s5 S5 => ?_) (.inr hl)
          refine wpAny_mono ((hsu a (X.pn ++ pins)).run [] s5 _ _ _ S5 (yes rfl a _ Ca dx vs na rfl rfl hxd)) (fun f s6 e => ?_) (fun _ _ z => False.elim z)
          have away : ∀ {σ6 : L2.St} {H6 : Hp} {Q : Shared → Prop}, Inv (X.suite a (X.pn ++ pins)) [] σ6 H6 s6 → (∀ s7, Inv X pins (σ6.set i none) H6 s7 → Q s7) →
              wpAny (model X.prog X.w) X.A (do bindName X.env n .none; unbindBehindTheSuite X.env n hp') (fun _ s7 => Q s7) X.xe s6 := fun {σ6 H6 Q} S6 hq => gone_ok (unsusp S6 okX) hN hi hl hq
          cases f with
          | next => obtain ⟨σ6, H6, S6, q6⟩ := e; exact away S6 fun s7 J7 => ⟨_, _, J7, q6⟩
          | brk => obtain ⟨σ6, H6, S6, q6⟩ := e; exact away S6 fun s7 J7 => ⟨_, _, J7, q6⟩
          | cont => obtain ⟨σ6, H6, S6, q6⟩ := e; exact away S6 fun s7 J7 => ⟨_, _, J7, q6⟩
          | ret u => obtain ⟨v6, σ6, H6, S6, r6, q6⟩ := e; exact away S6 fun s7 J7 => ⟨_, _, _, J7, r6, q6⟩
    exact go hh wh
  refine wpAny_Try_except (wpAny_mono ((hb (X.pn ++ pins) catch_ hpo).run [] s σ H D (I.toTry _) (h _ _ hpo got)) (fun f s1 e => ?_) (fun u s1 e => e))
  cases f with
  | next => obtain ⟨σ2, H2, J2, q⟩ := e; exact wpAny_execs_nil ⟨σ2, H2, J2.ofTry okX, q⟩
  | brk => obtain ⟨σ2, H2, J2, q⟩ := e; exact ⟨σ2, H2, J2.ofTry okX, q⟩
  | cont => obtain ⟨σ2, H2, J2, q⟩ := e; exact ⟨σ2, H2, J2.ofTry okX, q⟩
  | ret u => obtain ⟨v, σ2, H2, J2, r, q⟩ := e; exact ⟨v, σ2, H2, J2.ofTry okX, r, q⟩
end

/-! ### over data -/
/-- what is known of a class that a clause names -/
structure ExS (K : PySem.W.Frag) (mg : MG) (sub : STab) (u : Value) : Prop where
  ex : ∀ c b, sub c = some b → ∃ C, mg c = some (.ref C) ∧ PySem.W.exmOne K (.ref C) u = some b
abbrev HdD := STab × Option Nat × PTS
def goD : Option Nat → PEnds → PEnds
  | none, PD => { PD with er := fun _ _ => False }
  | some i, PD => { nx := fun e => PD.nx (e.set i .un), rt := PD.rt, bk := fun e => PD.bk (e.set i .un), ct := fun e => PD.ct (e.set i .un), ro := PD.ro }
def putD_ : Option Nat → D → List C → List C
  | none, _, env => env
  | some i, d, env => env.set i (.fz d)
/-- the clauses, one behind another -/
def pHds : List HdD → PEnds → List C → D → Prop
  | [], PD, env, d => PD.er env d
  | (sub, i, p) :: r, PD, env, d => ∃ (cls : Str) (fs : List (Str × D)) (b : Bool), d = .err cls fs ∧ sub cls = some b ∧ (b = true → p (goD i PD) (putD_ i d env)) ∧ (b = false → pHds r PD env d)
def pTry (p : PTS) (l : List HdD) : PTS := fun PD env => p { PD with er := fun e d => pHds l PD e d } env
inductive PHd (X : Cx) : List ExceptHandler → List HdD → Prop
  | nil : PHd X [] []
  | only {x : Str} {c : Value} {sub : STab} {p : PTS} {b : Stmt} {su : List Stmt} {np hp : Pos} {r : List ExceptHandler} {l : List HdD} (hc : Names X x c) (S : ExS X.K X.mg sub c) (hsu : ∀ a pn, PuSs (X.suite a pn) (b :: su) p) (t : PHd X r l) :
      PHd X (.ExceptHandler (some (.Name x np)) none (b :: su) hp :: r) ((sub, none, p) :: l)
  | as {x n : Str} {c : Value} {sub : STab} {i : Nat} {p : PTS} {b : Stmt} {su : List Stmt} {np hp : Pos} {r : List ExceptHandler} {l : List HdD} (hc : Names X x c) (S : ExS X.K X.mg sub c) (hN : X.N.Nodup) (hi : X.N[i]? = some n) (hl : X.env.kindOf n = some .local)
      (hsu : ∀ a pn, PuSs (X.suite a pn) (b :: su) p) (t : PHd X r l) : PHd X (.ExceptHandler (some (.Name x np)) (some n) (b :: su) hp :: r) ((sub, some i, p) :: l)
/-- slot i is wiped -/
theorem Rel.gone {K : PySem.W.Frag} {mg : MG} {G0 H0 G H : Hp} {env : List C} {σ : L2.St} (i : Nat) (h : Rel K mg G0 H0 G H env σ) : Rel K mg G0 H0 G H (env.set i .un) (σ.set i none) := by
  have f := h.forget i
  have ne : ∀ {j : Nat} {d : D}, (env.set i .un)[j]? = some (.ow d) → j ≠ i := fun {j d} q z => by
    subst z
    rw [List.getElem?_set] at q
    split at q
    · split at q <;> cases q
    · rename_i z; exact z rfl
  refine ⟨⟨h.ok.same, fun j c q => ?_, fun j k d e l q1 q2 s1 s2 => ?_, by simp [h.ok.len]⟩, h.ext, fun j d l q s1 => ?_⟩
  · by_cases z : j = i
    · subst z
      rw [List.getElem?_set] at q
      split at q
      · split at q
        · cases q; trivial
        · cases q
      · rename_i z; exact absurd rfl z
    · rw [List.getElem?_set_ne (Ne.symm z)]
      exact f.ok.slot j c q
  · rw [List.getElem?_set_ne (Ne.symm (ne q1))] at s1
    rw [List.getElem?_set_ne (Ne.symm (ne q2))] at s2
    exact f.ok.apart j k d e l q1 q2 s1 s2
  · rw [List.getElem?_set_ne (Ne.symm (ne q))] at s1
    exact f.own j d l q s1
/-- the dict of an exception is frozen -/
theorem Rel.xd {K : PySem.W.Frag} {mg : MG} {G0 H0 G H : Hp} {env : List C} {σ : L2.St} {dx : Addr} {vs : List (Str × V)} (r : Rel K mg G0 H0 G H env σ) (hd : H dx = some (.xd vs)) (h0 : H0 dx = none) (g : G dx = none) :
    Rel K mg G0 H0 (upd G dx (exd dx vs)) (upd H dx (exd dx vs)) env σ := by
  have sG : Same G (upd G dx (exd dx vs)) := Same.upd g
  have off : ∀ {l : Addr} {d : D}, Top K mg H G l d → l ≠ dx := fun {l d} t z => by
    subst z
    cases t with
    | lst a _ => rw [hd] at a; cases a
    | dk a _ => rw [hd] at a; cases a
    | dt a _ => rw [hd] at a; cases a
    | slf a _ _ => rw [hd] at a; cases a
  have sH : Same (upd G dx (exd dx vs)) (upd H dx (exd dx vs)) := fun b u q => by
    by_cases z : b = dx
    · subst z; rw [upd_same] at q ⊢; exact q
    · rw [upd_ne z] at q ⊢; exact r.ok.same _ _ q
  refine ⟨⟨sH, fun j c q => ?_, r.ok.apart, r.ok.len⟩, ⟨r.ext.g.trans sG, fun b u q => ?_, sH, fun a e n => ?_⟩, r.own⟩
  · have s := r.ok.slot j c q
    cases c with
    | un => trivial
    | fz d => obtain ⟨v, e, q⟩ := s; exact ⟨v, e, q.mono sG⟩
    | ow d =>
      obtain ⟨l, e, t, n⟩ := s
      have ne := off t
      refine ⟨l, e, ?_, by rw [upd_ne ne]; exact n⟩
      cases t with
      | lst a w => exact .lst (by rw [upd_ne ne]; exact a) (w.mono sG)
      | dk a w => exact .dk (by rw [upd_ne ne]; exact a) (w.mono sG)
      | dt a w => exact .dt (by rw [upd_ne ne]; exact a) (w.mono sG)
      | slf a m w => exact .slf (by rw [upd_ne ne]; exact a) m (w.mono sG)
  · have z : b ≠ dx := fun z => by subst z; rw [h0] at q; cases q
    rw [upd_ne z]
    exact r.ext.h _ _ q
  · by_cases z : a = dx
    · subst z; exact h0
    · rw [upd_ne z] at n; exact r.ext.f a e n
/-- a caught error is data -/
theorem Rel.caught {K : PySem.W.Frag} {mg : MG} {G0 H0 G H : Hp} {env : List C} {σ : L2.St} {a Ca dx : Addr} {cls : Str} {vs : List (Str × V)} {fs : List (Str × D)} (i : Option Nat) (r : Rel K mg G0 H0 G H env σ) (hm : mg cls = some (.ref Ca)) (hd : H dx = some (.xd vs)) (h0 : H0 dx = none) (g : G dx = none) (rf : RepF K mg G vs fs) (ha : H a = none) :
    Rel K mg G0 H0 (caught G a Ca dx vs) (caught H a Ca dx vs) (putD_ i (.err cls fs) env) (putEx i a σ) := by
  have ned : dx ≠ a := fun z => by subst z; rw [ha] at hd; cases hd
  have r1 := r.xd hd h0 g
  have na : upd H dx (exd dx vs) a = none := by rw [upd_ne (Ne.symm ned)]; exact ha
  have x := Ext.new (o := exT a Ca dx) r1.ok.same na
  have r2 := r1.step x
  have rep : Rep K mg (PL.caught G a Ca dx vs) (.ref a) (.err cls fs) := by
    refine .err upd_same exq_exT (dx := dx) (fs := vs) ?_ hm ?_
    · unfold PL.caught
      rw [upd_ne ned, upd_same]
    · exact rf.mono ((Same.upd g).trans x.g)
  cases i with
  | none => exact r2
  | some i => exact r2.setFz rep
section
variable {X : Cx}
theorem PHd.hds {h : List ExceptHandler} {l : List HdD} (p : PHd X h l) : ∃ lt, Hds X h lt ∧ ∀ (G0 H0 : Hp) (PD : PEnds) (E : Ends) (Wo : WX), EndsOk X G0 H0 PD E →
    (∀ (G H : Hp) (env : List C) (σ : L2.St) (cls : Str) (fs : List (Str × D)) (Ca d : Addr) (vs : List (Str × V)), Rel X.K X.mg G0 H0 G H env σ → X.mg cls = some (.ref Ca) → H d = some (.xd vs) → H0 d = none → G d = none → RepF X.K X.mg G vs fs → PD.er env (.err cls fs) → Wo (.ref Ca) (some d) σ H) →
    ∀ (G H : Hp) (env : List C) (σ : L2.St) (cls : Str) (fs : List (Str × D)) (Ca d : Addr) (vs : List (Str × V)), Rel X.K X.mg G0 H0 G H env σ → X.mg cls = some (.ref Ca) → H d = some (.xd vs) → H0 d = none → G d = none → RepF X.K X.mg G vs fs →
      pHds l PD env (.err cls fs) → wHds X.K Wo E lt (.ref Ca) (some d) σ H := by
  induction p with
  | nil => exact ⟨[], .nil, fun G0 H0 PD E Wo ok hw G H env σ cls fs Ca d vs r hm hd h0 g rf w => hw G H env σ cls fs Ca d vs r hm hd h0 g rf w⟩
  | only hc S hsu t ih =>
    obtain ⟨lt, h1, h2⟩ := ih
    refine ⟨_ :: lt, .only hc (fun a pn => (Classical.choose_spec (hsu a pn).ex).1) h1, fun G0 H0 PD E Wo ok hw G H env σ cls fs Ca d vs r hm hd h0 g rf w => ?_⟩
    obtain ⟨c2, f2, b, e, hs, yes, no⟩ := w
    cases e
    obtain ⟨C2, m2, x2⟩ := S.ex _ _ hs
    rw [hm] at m2; cases m2
    refine ⟨b, x2, fun e a pn Ca' dx' vs' ha e1 e2 e3 => ?_, fun e => h2 G0 H0 PD E Wo ok hw G H env σ cls fs Ca d vs r hm hd h0 g rf (no e)⟩
    cases e1; cases e2
    rw [hd] at e3; cases e3
    refine (Classical.choose_spec (hsu a pn).ex).2 G0 H0 _ _ _ _ (goD none PD) (endsGo none E) (r.caught none hm hd h0 g rf ha) ⟨ok.nx, ok.bk, ok.ct, ok.rt, ok.ro, ⟨_, tk0, fun _ _ _ _ _ _ _ _ _ _ _ _ _ _ _ z => z.elim⟩⟩ (yes e)
  | as hc S hN hi hl hsu t ih =>
    obtain ⟨lt, h1, h2⟩ := ih
    refine ⟨_ :: lt, .as hc hN hi hl (fun a pn => (Classical.choose_spec (hsu a pn).ex).1) h1, fun G0 H0 PD E Wo ok hw G H env σ cls fs Ca d vs r hm hd h0 g rf w => ?_⟩
    obtain ⟨c2, f2, b, e, hs, yes, no⟩ := w
    cases e
    obtain ⟨C2, m2, x2⟩ := S.ex _ _ hs
    rw [hm] at m2; cases m2
    refine ⟨b, x2, fun e a pn Ca' dx' vs' ha e1 e2 e3 => ?_, fun e => h2 G0 H0 PD E Wo ok hw G H env σ cls fs Ca d vs r hm hd h0 g rf (no e)⟩
    cases e1; cases e2
    rw [hd] at e3; cases e3
    refine (Classical.choose_spec (hsu a pn).ex).2 G0 H0 _ _ _ _ (goD (some _) PD) (endsGo (some _) E) (r.caught (some _) hm hd h0 g rf ha) ⟨fun G' H' env' σ' r' z => ok.nx _ _ _ _ (r'.gone _) z, fun G' H' env' σ' r' z => ok.bk _ _ _ _ (r'.gone _) z, fun G' H' env' σ' r' z => ok.ct _ _ _ _ (r'.gone _) z, ok.rt, ok.ro, ⟨_, tk0, fun _ _ _ _ _ _ _ _ _ _ _ _ _ _ _ z => z.elim⟩⟩ (yes e)
theorem pus_try {body : List Stmt} {h₀ : ExceptHandler} {hds : List ExceptHandler} {pos : Pos} {p : PTS} {l : List HdD} (hs : X.stack = X.env :: X.outer) (hf : X.env.frame = some X.env.locals) (hex : X.ex = [])
    (hb : ∀ (pn : List (Addr × Obj)) (xe : Value → Shared → Prop), PassesOwn (model X.prog X.w) X.A X.env xe → PuSs (X.tr pn xe) body p) (hh : PHd X (h₀ :: hds) l) : PuS X (.Try body (h₀ :: hds) [] [] pos) (pTry p l) := by
  obtain ⟨lt, h1, h2⟩ := hh.hds
  refine ⟨_, ps_tryE (tb := fun pn xe D σ H => ∃ h : PassesOwn (model X.prog X.w) X.A X.env xe, Classical.choose (hb pn xe h).ex D σ H) hs hf hex (fun pn xe h => ⟨fun pins s σ H D I ⟨h', z⟩ => (Classical.choose_spec (hb pn xe h').ex).1.run pins s σ H D I z⟩) h1, fun G0 H0 G H env σ PD E r ok hp => ?_⟩
  obtain ⟨Wo, tk, hw⟩ := ok.er
  refine ⟨Wo, tk, fun pn xe h tk2 => ⟨h, ?_⟩⟩
  refine (Classical.choose_spec (hb pn xe h).ex).2 G0 H0 G H env σ { PD with er := fun e d => pHds l PD e d } E r ⟨ok.nx, ok.bk, ok.ct, ok.rt, ok.ro, ⟨_, tk2, fun G1 H1 env1 σ1 cls fs Ca d vs r1 hm hd h0 g rf z => ⟨⟨Ca, d, vs, rfl, rfl, hd⟩, h2 G0 H0 PD E Wo ok hw G1 H1 env1 σ1 cls fs Ca d vs r1 hm hd h0 g rf z⟩⟩⟩ hp
end
end PL
end

section
set_option linter.all false
set_option maxRecDepth 100000
set_option maxHeartbeats 4000000
set_option autoImplicit false
/-! PL24: expressions that may raise, raise, defs that may raise. -/
namespace PL
open PySem PySem.Spec PyProof.Rows L2

abbrev PTX := List C → (D → Prop) → (D → Prop) → Prop
abbrev PTAX := List C → (List D → Prop) → (D → Prop) → Prop
/-- what is wanted of an error that leaves an expression -/
def XOk (X : Cx) (W : WX) (G H : Hp) (σ : L2.St) (R : D → Prop) : Prop := ∀ (G' H' : Hp) (cls : Str) (fs : List (Str × D)) (Ca dx : Addr) (vs : List (Str × V)), Ext G H G' H' → X.mg cls = some (.ref Ca) → H' dx = some (.xd vs) → H dx = none → G' dx = none → RepF X.K X.mg G' vs fs → R (.err cls fs) → W (.ref Ca) (some dx) σ H'
theorem XOk.step {X : Cx} {W : WX} {G H G1 H1 : Hp} {σ : L2.St} {R : D → Prop} (h : XOk X W G H σ R) (x : Ext G H G1 H1) : XOk X W G1 H1 σ R :=
  fun G' H' cls fs Ca dx vs y hm hd hn hg rf z => h G' H' cls fs Ca dx vs (x.trans y) hm hd (x.h.free hn) hg rf z
structure PuX (X : Cx) (e : Expr) (p : PTX) : Prop where
  ex : ∃ t : TE, PE X e t ∧ ∀ (G H : Hp) (env : List C) (σ : L2.St) (P R : D → Prop) (Q : VK) (W : WX), Takes X W → Ok X.K X.mg G H env σ → p env P R →
    (∀ d v G' H', Ext G H G' H' → Rep X.K X.mg G' v d → P d → Q v H') → XOk X W G H σ R → t σ H Q
structure PuAX (X : Cx) (es : List Expr) (p : PTAX) : Prop where
  ex : ∃ t : TA, PA X es t ∧ ∀ (G H : Hp) (env : List C) (σ : L2.St) (P : List D → Prop) (R : D → Prop) (Q : List V → Hp → Prop) (W : WX), Takes X W → Ok X.K X.mg G H env σ → p env P R →
    (∀ ds vs G' H', Ext G H G' H' → Reps X.K X.mg G' vs ds → P ds → Q vs H') → XOk X W G H σ R → t σ H Q
def xPure (p : PTE) : PTX := fun env P _ => p env P
def xaPure (p : PTA) : PTAX := fun env P _ => p env P
def xaNil : PTAX := fun _ P _ => P []
def xaCons (p : PTX) (q : PTAX) : PTAX := fun env P R => p env (fun d => q env (fun ds => P (d :: ds)) R) R
theorem PE.any {ι : Type} {X : Cx} {e : Expr} {A : ι → Prop} {t : ι → TE} (h : ∀ i, A i → PE X e (t i)) : PE X e (fun σ H Q => ∃ i, A i ∧ t i σ H Q) :=
  ⟨fun pins s σ H Q I ⟨i, a, z⟩ => (h i a).run pins s σ H Q I z⟩
section
variable {X : Cx} {e a b : Expr} {es : List Expr} {pe : PTE} {ps : PTA} {p q : PTX} {pa : PTAX} {pos p' : Pos}
theorem pux_of (h : PuE X e pe) : PuX X e (xPure pe) := by
  obtain ⟨t, h1, h2⟩ := h.ex
  exact ⟨t, h1, fun G H env σ P R Q W tk ok hp k kx => h2 G H env σ P Q ok hp k⟩
theorem puax_of (h : PuA X es ps) : PuAX X es (xaPure ps) := by
  obtain ⟨t, h1, h2⟩ := h.ex
  exact ⟨t, h1, fun G H env σ P R Q W tk ok hp k kx => h2 G H env σ P Q ok hp k⟩
theorem puax_nil : PuAX X [] xaNil := ⟨_, pa_nil, fun G H env σ P R Q W tk ok hp k kx => k [] [] G H (.refl ok.same) .nil hp⟩
theorem puax_cons (h : PuX X e p) (g : PuAX X es pa) (hs : starEach (e :: es) X.env = (false, eval e X.env) :: starEach es X.env := by rfl) : PuAX X (e :: es) (xaCons p pa) := by
  obtain ⟨t, h1, h2⟩ := h.ex
  obtain ⟨u, g1, g2⟩ := g.ex
  refine ⟨_, pa_cons h1 g1 hs, fun G H env σ P R Q W tk ok hp k kx => h2 G H env σ _ R _ W tk ok hp (fun d v G' H' x r z => ?_) kx⟩
  exact g2 G' H' env σ _ R _ W tk (ok.ext x) z (fun ds vs G2 H2 y rs q2 => k (d :: ds) (v :: vs) G2 H2 (x.trans y) (.cons (r.mono y.g) rs) q2) (kx.step x)

/-! ### a def that may raise -/
abbrev PSpX := List D → (D → Prop) → (D → Prop) → Prop
def spX (K : PySem.W.Frag) (mg : MG) (f : PSpX) : Sp := fun vs H Q E => ∃ (G : Hp) (ds : List D) (P R : D → Prop), Same G H ∧ Reps K mg G vs ds ∧ f ds P R ∧
  (∀ d v G' H', Ext G H G' H' → Rep K mg G' v d → P d → Q v H') ∧
  ∀ (G' H' : Hp) (cls : Str) (fs : List (Str × D)) (Ca dx : Addr) (us : List (Str × V)), Ext G H G' H' → mg cls = some (.ref Ca) → H' dx = some (.xd us) → H dx = none → G' dx = none → RepF K mg G' us fs → R (.err cls fs) → E (.ref Ca) (some dx) H'
structure CalX (P : Program) (w : World) (K : PySem.W.Frag) (mg : MG) (base : Heap) (x : Str) (ns : List Str) (k : Nat) (f : Addr) (fd : FuncData) (sp : PSpX) : Prop where
  ok : FnOk P w K mg base (L2.CX P w) k f fd ns (spX K mg sp)
  mg : mg x = some (.ref f)
  kp : PySem.W.keepIn K (.ref f) = true
  b : Binds K fd ns []
/-- the same def where nothing is raised -/
theorem CalX.nr {P : Program} {w : World} {K : PySem.W.Frag} {mg : MG} {base : Heap} {x : Str} {ns : List Str} {k : Nat} {f : Addr} {fd : FuncData} {sx : PSpX} {sp : PSp} (C : CalX P w K mg base x ns k f fd sx) (h : ∀ ds Q, sp ds Q → sx ds Q fun _ => False) : Cal P w K mg base x ns k f fd sp := by
  have up : ∀ vs H Q E, spP K mg sp vs H Q E → spX K mg sx vs H Q fun _ _ _ => False := fun vs H Q E ⟨G, ds, P', s, r, q, kk⟩ => ⟨G, ds, P', fun _ => False, s, r, h ds P' q, kk, fun _ _ _ _ _ _ _ _ _ _ _ _ _ z => z⟩
  refine ⟨⟨fun vs H Q E z => C.ok.len vs H Q _ (up vs H Q E z), fun A outer s H args us vs Q E hr e0 hb r z => codeAny_mono (C.ok.run A outer s H args us vs Q _ hr e0 hb r (up vs H Q E z)) fun res s' q => ?_⟩, C.mg, C.kp, C.b⟩
  cases res with
  | error er =>
    obtain ⟨_, _, _, _, _, _, _, _, _, _, _, _, z⟩ := (show L2.CX P w outer H s (fun _ _ _ => False) er s' from q)
    exact z.elim
  | ok f => cases f <;> exact q
/-- a def that raises nothing, called with what may raise -/
def nrX (sp : PSp) : PSpX := fun ds P _ => sp ds P
theorem Cal.x {P : Program} {w : World} {K : PySem.W.Frag} {mg : MG} {base : Heap} {x : Str} {ns : List Str} {k : Nat} {f : Addr} {fd : FuncData} {sp : PSp} (C : Cal P w K mg base x ns k f fd sp) : CalX P w K mg base x ns k f fd (nrX sp) := by
  have down : ∀ vs H Q E, spX K mg (nrX sp) vs H Q E → spP K mg sp vs H Q E := fun vs H Q E ⟨G, ds, P', R', s, r, h, kk, _⟩ => ⟨G, ds, P', s, r, h, kk⟩
  refine ⟨⟨fun vs H Q E z => C.ok.len vs H Q E (down vs H Q E z), fun A outer s H args us vs Q E hr e0 hb r z => codeAny_mono (C.ok.run A outer s H args us vs Q E hr e0 hb r (down vs H Q E z)) fun res s' q => ?_⟩, C.mg, C.kp, C.b⟩
  cases res with
  | error er => exact False.elim q
  | ok f => cases f <;> exact q
def xCall (f : PSpX) (pa : PTAX) : PTX := fun env P R => pa env (fun ds => f ds P R) R
theorem pux_c {x : Str} {ns : List Str} {k k' : Nat} {f : Addr} {fd : FuncData} {sp : PSpX} (C : CalX X.prog X.w X.K X.mg X.base x ns k f fd sp) (hr : Room k' X.A) (h : PuAX X (e :: es) pa) (hk : k ≤ k' := by decide) (hg : Gl X x := by rfl)
    (hdb : (x == ("__debug__" : Str)) = false := by decide) (he : starEach (e :: es) X.env = (false, eval e X.env) :: starEach es X.env := by rfl) (hpl : (backTo pos (starEach es X.env)).any (·.1) = false := by rfl) :
    PuX X (.Call (.Name x p') (e :: es) [] pos) (xCall sp pa) := by
  obtain ⟨t, h1, h2⟩ := h.ex
  refine ⟨_, PE.any (A := fun W => Takes X W) fun W tk => pe_callS (E := WE W) C.ok (hr.mono hk) hg C.mg C.kp C.b (passAt tk) h1 hdb he hpl, fun G H env σ P R Q W tk ok hp kk kx => ⟨W, tk, ?_⟩⟩
  refine h2 G H env σ _ R _ W tk ok hp (fun ds vs G' H' x r q => ⟨G', ds, P, R, x.s, r, q, fun d v G2 H2 y r2 q2 => kk d v G2 H2 (x.trans y) r2 q2, ?_⟩) kx
  exact kx.step x
/-- keywords -/
def tCallKS (n m : Nat) (sp : Sp) (gV : List V → List V → List V) (E : L2.St → XK) (t tk : TA) : TE := fun σ H Q => t σ H fun vs H1 => tk σ H1 fun zs H2 => vs.length = n ∧ zs.length = m ∧ sp (gV vs zs) H2 Q (E σ)
theorem run_kw {CX : CXT} {k n : Nat} {f : Addr} {fd : FuncData} {ns ks : List Str} {sp : Sp} {E : XK} {g : List Value → List Value → List Value} {gV : List V → List V → List V} {pins : List (Addr × Obj)} {σ : L2.St} {H : Hp} {s : Shared} {Q : VK} {us ws : List Value} {vs zs : List V}
    (F : FnOk X.prog X.w X.K X.mg X.base CX k f fd ns sp) (hr : Room k X.A) (hb : KBn X.K fd ns n ks g gV) (hx : PassesAt CX X σ E) (I : Inv X pins σ H s) (r : Vals vs us) (rz : Vals zs ws) (l1 : vs.length = n) (l2 : zs.length = ks.length) (h : sp (gV vs zs) H Q E) :
    wpAny (model X.prog X.w) X.A (call (.ref f) us (ks.zip ws)) (EP X pins σ Q) X.xe s := by
  have to_ := hb.to s us ws I.kIn (r.length.symm.trans l1) (rz.length.symm.trans l2)
  have run_ := F.run X.A X.stack s H ⟨us, ks.zip ws⟩ (g us ws) (gV vs zs) Q E hr I.env0 to_ (hb.rel r rz) h
  refine wpAny_call (codeAny_mono run_ fun res s' q => ?_)
  match res, q with
  | .error u, q => exact hx pins H s u s' I q
  | .ok (.ret u), q => exact I.after q
  | .ok .next, q => exact False.elim q
  | .ok .brk, q => exact False.elim q
  | .ok .cont, q => exact False.elim q
theorem pe_callKS {CX : CXT} {k n : Nat} {f : Addr} {fd : FuncData} {ns ks : List Str} {sp : Sp} {E : L2.St → XK} {x : Str} {kws : List Keyword} {t tk : TA} {g : List Value → List Value → List Value} {gV : List V → List V → List V}
    (F : FnOk X.prog X.w X.K X.mg X.base CX k f fd ns sp) (hr : Room k X.A) (hg : Gl X x) (hm : X.mg x = some (.ref f)) (hk : PySem.W.keepIn X.K (.ref f) = true) (hb : KBn X.K fd ns n ks g gV) (hx : ∀ σ, PassesAt CX X σ (E σ)) (ha : PA X (e :: es) t) (hkw : PK X kws tk)
    (hall : (backToKw pos (keywordEach kws X.env)).all (·.1.isSome) = true) (hks : (backToKw pos (keywordEach kws X.env)).filterMap (·.1) = ks) (hdb : (x == ("__debug__" : Str)) = false) (he : starEach (e :: es) X.env = (false, eval e X.env) :: starEach es X.env)
    (hpl : ((backTo pos (starEach (e :: es) X.env)).any (·.1) || (backToKw pos (keywordEach kws X.env)).any (·.1.isNone)) = false) :
    PE X (.Call (.Name x p') (e :: es) kws pos) (tCallKS n ks.length sp gV E t tk) := by
  refine ⟨fun pins s σ H Q I h => ?_⟩
  refine wpAny_Call_Name_kw (ld_glob I hg hm ?_ hdb)
  refine PySem.W.callWith_KW (h₀ := X.base) I.ok.mod.kin hk hall (thn (ha.run pos pins s σ H _ I h) fun us s1 ⟨vs, H1, I1, r, q⟩ => thn (hkw.run pos pins s1 σ H1 _ I1 q) fun ws s2 ⟨zs, H2, I2, rz, l1, l2, q2⟩ => ⟨I2.kIn, ?_⟩) hpl he
  rw [hks]
  exact run_kw F hr hb (hx σ) I2 r rz l1 l2 q2
theorem pe_callKS0 {CX : CXT} {k : Nat} {f : Addr} {fd : FuncData} {ns ks : List Str} {sp : Sp} {E : L2.St → XK} {x : Str} {kws : List Keyword} {tk : TA} {g : List Value → List Value → List Value} {gV : List V → List V → List V}
    (F : FnOk X.prog X.w X.K X.mg X.base CX k f fd ns sp) (hr : Room k X.A) (hg : Gl X x) (hm : X.mg x = some (.ref f)) (hk : PySem.W.keepIn X.K (.ref f) = true) (hb : KBn X.K fd ns 0 ks g gV) (hx : ∀ σ, PassesAt CX X σ (E σ)) (hkw : PK X kws tk)
    (hall : (backToKw pos (keywordEach kws X.env)).all (·.1.isSome) = true) (hks : (backToKw pos (keywordEach kws X.env)).filterMap (·.1) = ks) (hdb : (x == ("__debug__" : Str)) = false)
    (hpl : ((backTo pos (starEach [] X.env)).any (·.1) || (backToKw pos (keywordEach kws X.env)).any (·.1.isNone)) = false) :
    PE X (.Call (.Name x p') [] kws pos) (tCallKS 0 ks.length sp gV E tNil tk) := by
  refine ⟨fun pins s σ H Q I h => ?_⟩
  refine wpAny_Call_Name_kw (ld_glob I hg hm ?_ hdb)
  refine PySem.W.callWith_KW0 (h₀ := X.base) I.ok.mod.kin hk hall ?_ hpl
  refine thn (hkw.run pos pins s σ H _ I h) fun ws s2 ⟨zs, H2, I2, rz, l1, l2, q2⟩ => ⟨I2.kIn, ?_⟩
  rw [hks]
  exact run_kw (us := []) (vs := []) F hr hb (hx σ) I2 .nil rz rfl l2 q2
def xCallK (f : PSpX) (n m : Nat) (gD : List D → List D → List D) (pa : PTAX) (qs : PTA) : PTX := fun env P R => pa env (fun ds => qs env fun es => ds.length = n ∧ es.length = m ∧ f (gD ds es) P R) R
theorem pux_cK {x : Str} {ns ks : List Str} {n m k k' : Nat} {f : Addr} {fd : FuncData} {sp : PSpX} {kws : List Keyword} {qs : PTA} {gD : List D → List D → List D} (C : CalX X.prog X.w X.K X.mg X.base x ns k f fd sp) (hb : PKB X.K fd ns n ks gD) (hr : Room k' X.A) (h : PuAX X (e :: es) pa) (hkw : PuK X kws qs) (hml : ks.length = m := by rfl) (hk : k ≤ k' := by decide) (hg : Gl X x := by rfl)
    (hall : (backToKw pos (keywordEach kws X.env)).all (·.1.isSome) = true := by rfl) (hks : (backToKw pos (keywordEach kws X.env)).filterMap (·.1) = ks := by rfl)
    (hdb : (x == ("__debug__" : Str)) = false := by decide) (he : starEach (e :: es) X.env = (false, eval e X.env) :: starEach es X.env := by rfl)
    (hpl : ((backTo pos (starEach (e :: es) X.env)).any (·.1) || (backToKw pos (keywordEach kws X.env)).any (·.1.isNone)) = false := by rfl) :
    PuX X (.Call (.Name x p') (e :: es) kws pos) (xCallK sp n m gD pa qs) := by
  subst hml
  obtain ⟨t, h1, h2⟩ := h.ex
  obtain ⟨u, g1, g2⟩ := hkw.ex
  obtain ⟨g, gV, kb, kr⟩ := hb.ex
  refine ⟨_, PE.any (A := fun W => Takes X W) fun W tk => pe_callKS (E := WE W) C.ok (hr.mono hk) hg C.mg C.kp kb (passAt tk) h1 g1 hall hks hdb he hpl, fun G H env σ P R Q W tk ok hp kk kx => ⟨W, tk, ?_⟩⟩
  refine h2 G H env σ _ R _ W tk ok hp (fun ds vs G' H' x r q => g2 G' H' env σ _ _ (ok.ext x) q fun es zs G2 H2 y rz q2 => ?_) kx
  have r2 := r.mono y.g
  exact ⟨r2.length.trans q2.1, rz.length.trans q2.2.1, G2, _, P, R, y.s, kr _ _ _ _ _ _ r2 rz (r2.length.trans q2.1) (rz.length.trans q2.2.1), q2.2.2, fun d v G3 H3 z r3 q3 => kk d v G3 H3 ((x.trans y).trans z) r3 q3, kx.step (x.trans y)⟩
theorem pux_cK0 {x : Str} {ns ks : List Str} {m k k' : Nat} {f : Addr} {fd : FuncData} {sp : PSpX} {kws : List Keyword} {qs : PTA} {gD : List D → List D → List D} (C : CalX X.prog X.w X.K X.mg X.base x ns k f fd sp) (hb : PKB X.K fd ns 0 ks gD) (hr : Room k' X.A) (hkw : PuK X kws qs) (hml : ks.length = m := by rfl) (hk : k ≤ k' := by decide) (hg : Gl X x := by rfl)
    (hall : (backToKw pos (keywordEach kws X.env)).all (·.1.isSome) = true := by rfl) (hks : (backToKw pos (keywordEach kws X.env)).filterMap (·.1) = ks := by rfl)
    (hdb : (x == ("__debug__" : Str)) = false := by decide) (hpl : ((backTo pos (starEach [] X.env)).any (·.1) || (backToKw pos (keywordEach kws X.env)).any (·.1.isNone)) = false := by rfl) :
    PuX X (.Call (.Name x p') [] kws pos) (xCallK sp 0 m gD xaNil qs) := by
  subst hml
  obtain ⟨u, g1, g2⟩ := hkw.ex
  obtain ⟨g, gV, kb, kr⟩ := hb.ex
  refine ⟨_, PE.any (A := fun W => Takes X W) fun W tk => pe_callKS0 (E := WE W) C.ok (hr.mono hk) hg C.mg C.kp kb (passAt tk) g1 hall hks hdb hpl, fun G H env σ P R Q W tk ok hp kk kx => ⟨W, tk, ?_⟩⟩
  refine g2 G H env σ _ _ ok hp fun es zs G2 H2 y rz q2 => ?_
  exact ⟨rfl, rz.length.trans q2.2.1, G2, _, P, R, y.s, kr _ _ _ _ _ _ .nil rz rfl (rz.length.trans q2.2.1), q2.2.2, fun d v G3 H3 z r3 q3 => kk d v G3 H3 (y.trans z) r3 q3, kx.step y⟩

/-! ### displays, fields, operators over what may raise -/
def xLst (pa : PTAX) : PTX := fun env P R => pa env (fun ds => ds.length ≤ sizeLine ∧ P (.lst ds)) R
def xTup (pa : PTAX) : PTX := fun env P R => pa env (fun ds => ds.length ≤ sizeLine ∧ P (.tup ds)) R
theorem pux_lst (h : PuAX X es pa) : PuX X (.List es pos) (xLst pa) := by
  obtain ⟨t, h1, h2⟩ := h.ex
  refine ⟨_, pe_lst h1, fun G H env σ P R Q W tk ok hp k kx => h2 G H env σ _ R _ W tk ok hp (fun ds vs G' H' x r q => ⟨by rw [r.length]; exact q.1, fun p hn => ?_⟩) kx⟩
  exact k _ _ _ _ (x.trans (Ext.new x.s hn)) (.lst upd_same (r.mono (Same.upd (x.s.free hn)))) q.2
theorem pux_tup {j : Nat} (h : PuAX X es pa) : PuX X (.Tuple es j pos) (xTup pa) := by
  obtain ⟨t, h1, h2⟩ := h.ex
  refine ⟨_, pe_tup h1, fun G H env σ P R Q W tk ok hp k kx => h2 G H env σ _ R _ W tk ok hp (fun ds vs G' H' x r q => ⟨by rw [r.length]; exact q.1, fun p hn => ?_⟩) kx⟩
  exact k _ _ _ _ (x.trans (Ext.new x.s hn)) (.tup upd_same (r.mono (Same.upd (x.s.free hn)))) q.2
def xBin (f : BinP) (p q : PTX) : PTX := fun env P R => p env (fun x => q env (fun y => f x y P) R) R
theorem pux_bin {op : Operator} {r : R2} {f : BinP} (ho : OpR X (binaryOp op) r) (hf : BinOk X r f) (ha : PuX X a p) (hb : PuX X b q) : PuX X (.BinOp a op b pos) (xBin f p q) := by
  obtain ⟨ta, a1, a2⟩ := ha.ex
  obtain ⟨tb, b1, b2⟩ := hb.ex
  refine ⟨_, pe_op ho a1 b1, fun G H env σ P R Q W tk ok hp k kx => ?_⟩
  refine a2 G H env σ _ R _ W tk ok hp (fun x v G1 H1 e1 r1 q1 => ?_) kx
  refine b2 G1 H1 env σ _ R _ W tk (ok.ext e1) q1 (fun y w G2 H2 e2 r2 q2 => ?_) (kx.step e1)
  exact hf G2 H2 v w x y _ _ e2.s (.inl (r1.mono e2.g)) (.inl r2) q2 fun d u G3 H3 e3 r3 q3 => k d u G3 H3 ((e1.trans e2).trans e3) r3 q3
def xFld (tab : OTab) (f : Str) (p : PTX) : PTX := fun env P R => p env (fldP tab f P) R
theorem pux_fld {tab : OTab} {f : Str} (T : ObT X.K X.mg tab) (he : PuX X e p) (hb : attributeBase e f X.env (eval e X.env) = eval e X.env := by rfl) : PuX X (.Attribute e f pos) (xFld tab f p) := by
  obtain ⟨t, h1, h2⟩ := he.ex
  refine ⟨_, pe_fld h1 hb, fun G H env σ P R Q W tk ok hp k kx => h2 G H env σ _ R _ W tk ok hp (fun d v G' H' y r q => ?_) kx⟩
  cases d with
  | obj cls fs =>
    obtain ⟨h3, w, hl, q⟩ := q
    obtain ⟨a, C, dx, vs, ds', rfl, ha, hm, rf, hd⟩ := (Shal.obj (.inl r) y.s)
    obtain ⟨t1, t2, t3⟩ := fldOk_ok T h3 hm
    have hl' : ds'.lookup f = some w := by
      rcases hd with rfl | rfl
      · exact hl
      · rw [lookD_put, if_neg t3] at hl; exact hl
    obtain ⟨v', l', r'⟩ := rf.look hl'
    exact ⟨a, C, dx, vs, v', rfl, ha, t1, t2, l', k w v' G' H' y r' q⟩
  | _ => exact q.elim

/-! ### statements -/
variable {st : Stmt}
theorem er_ok {G0 H0 G H : Hp} {env : List C} {σ : L2.St} {PD : PEnds} {W : WX} (r : Rel X.K X.mg G0 H0 G H env σ)
    (h : ∀ (G H : Hp) (env : List C) (σ : L2.St) (cls : Str) (fs : List (Str × D)) (Ca d : Addr) (vs : List (Str × V)), Rel X.K X.mg G0 H0 G H env σ → X.mg cls = some (.ref Ca) → H d = some (.xd vs) → H0 d = none → G d = none → RepF X.K X.mg G vs fs → PD.er env (.err cls fs) → W (.ref Ca) (some d) σ H) : XOk X W G H σ (PD.er env) :=
  fun G' H' cls fs Ca dx vs x hm hd hn hg rf z => h G' H' env σ cls fs Ca dx vs (r.step x) hm hd (r.ext.h.free hn) hg rf z
def pDropX (p : PTX) : PTS := fun PD env => p env (fun _ => PD.nx env) (PD.er env)
theorem pus_exprX (h : PuX X e p) (hs : swapsWith e none pos.line X.env = pure false := by rfl) : PuS X (.Expr e pos) (pDropX p) := by
  obtain ⟨t, h1, h2⟩ := h.ex
  refine ⟨_, ps_expr h1 hs, fun G0 H0 G H env σ PD E r ok hp => ?_⟩
  obtain ⟨W, tk, er⟩ := ok.er
  exact h2 G H env σ _ _ _ W tk r.ok hp (fun d v G' H' x rp z => ok.nx G' H' env σ (r.step x) z) (er_ok r er)
def pRetX (p : PTX) : PTS := fun PD env => p env PD.rt (PD.er env)
theorem pus_retX (h : PuX X e p) : PuS X (.Return (some e) pos) (pRetX p) := by
  obtain ⟨t, h1, h2⟩ := h.ex
  refine ⟨_, ps_ret h1, fun G0 H0 G H env σ PD E r ok hp => ?_⟩
  obtain ⟨W, tk, er⟩ := ok.er
  exact h2 G H env σ _ _ _ W tk r.ok hp (fun d v G' H' x rp z => ok.rt G' H' d v (r.ext.trans x) rp z) (er_ok r er)
def pSetX (i : Nat) (p : PTX) : PTS := fun PD env => p env (fun d => PD.nx (env.set i (.fz d))) (PD.er env)
theorem pus_setX (i : Nat) {x : Str} {pos' : Pos} (hN : X.N.Nodup) (he : PuX X e p) (hi : X.N[i]? = some x := by rfl) (hx : Loc X.env.scope x := by first | exact Or.inl rfl | exact Or.inr rfl)
    (hs : swapsWith e (some (.Name x pos')) pos.line X.env = pure false := by rfl) (hf : X.fn x = true ∨ X.env.scope.names.lookup x = some .local := by first | exact .inl rfl | exact .inr rfl) :
    PuS X (.Assign [.Name x pos'] e pos) (pSetX i p) := by
  obtain ⟨t, h1, h2⟩ := he.ex
  refine ⟨_, ps_set hN hi hx h1 hs hf, fun G0 H0 G H env σ PD E r ok hp => ?_⟩
  obtain ⟨W, tk, er⟩ := ok.er
  exact h2 G H env σ _ _ _ W tk r.ok hp (fun d v G' H' x rp z => ok.nx G' H' _ _ ((r.step x).setFz rp) z) (er_ok r er)
/-- a cell is frozen ahead -/
def xFrz (is : List Nat) (p : PTX) : PTX := fun env P R => p (frzs is env) P R
/-- raise C(..) -/
def pRaise (cls : Str) (fs : List Str) (ps : PTA) : PTS := fun PD env => ps env fun ds => ds.length = fs.length ∧ ds.length ≤ 1000 ∧ PD.er env (.err cls (fldsD fs ds))
theorem pus_raise {cls : Str} {Cc f : Addr} {fd : FuncData} {fs : List Str} {k' : Nat} (E : ECl X.prog X.w X.K X.mg X.base cls Cc f fd fs) (hb : Binds X.K fd ("self" :: fs) []) (hc : X.calm = true) (hr : Room k' X.A) (h : PuA X (e :: es) ps) (hk : 2 ≤ k' := by decide) (hg : Gl X cls := by rfl)
    (hdb : (cls == ("__debug__" : Str)) = false := by decide) (he : starEach (e :: es) X.env = (false, eval e X.env) :: starEach es X.env := by rfl) (hpl : (backTo p' (starEach es X.env)).any (·.1) = false := by rfl) {p2 : Pos} :
    PuS X (.Raise (some (.Call (.Name cls p2) (e :: es) [] p')) none pos) (pRaise cls fs ps) := by
  obtain ⟨t, h1, h2⟩ := h.ex
  have mk := pmk_oex (p := p2) (pos := p') E.er.oex E.er.ini E.er.tI E.ok (hr.mono hk) hb (dvs := []) .nil pass0 hg E.gm h1 hdb he hpl
  refine ⟨fun D σ H => ∃ W, Takes X W ∧ _, ⟨fun pins s σ H D I ⟨W, tk, z⟩ => (ps_raise hc tk mk).run pins s σ H D I z⟩, fun G0 H0 G H env σ PD Ed r ok hp => ?_⟩
  obtain ⟨W, tk, er⟩ := ok.er
  refine ⟨W, tk, h2 G H env σ _ _ r.ok hp fun ds vs G1 H1 x rp ⟨z1, z2, z3⟩ => ?_⟩
  refine ⟨by rw [rp.length]; exact z2, fun a na => ⟨a, vs ++ [], rfl, by rw [List.append_nil, rp.length]; exact z1, upd_same, fun d nd ne => ?_⟩⟩
  rw [upd_ne ne] at nd
  refine ⟨rfl, d, flds fs (vs ++ []), upd_same, by rw [upd_ne ne, upd_same], nd, ?_⟩
  have eH : upd (del (upd (upd (upd H1 a (exo a Cc none)) d (exd d (flds fs (vs ++ [])))) a (exo a Cc (some d))) a) d (.xd (flds fs (vs ++ []))) = upd H1 d (.xd (flds fs (vs ++ []))) := by
    funext b
    by_cases hb : b = d
    · subst hb; rw [upd_same, upd_same]
    · rw [upd_ne hb, upd_ne hb]
      by_cases hb2 : b = a
      · subst hb2; rw [del_same]; exact na.symm
      · rw [del_ne hb2, upd_ne hb2, upd_ne hb, upd_ne hb2]
  rw [eH, List.append_nil]
  have r1 := (r.step x).step (Ext.newH (o := .xd (flds fs vs)) x.s nd)
  exact er G1 _ env σ cls (fldsD fs ds) Cc d (flds fs vs) r1 E.gm upd_same (r.ext.h.free (x.h.free nd)) (x.s.free nd) (repF_flds rp) z3
end
/-- THE RULE for a def over data that may raise -/
theorem pfnX {P : Program} {w : World} {K : PySem.W.Frag} {mg : MG} {base : Heap} {x : Str} {st : Stmt} {f : Addr} {fd : FuncData} {N ns : List Str} {k : Nat} {sp : PSpX} {p : PTS} (F : FnP K x st f fd) (S : FnScope N ns (defScope st)) (hlen : ∀ ds P R, sp ds P R → ds.length = ns.length)
    (hbody : ∀ (cdv : Value) (A : Around) (outer : List Env) (s : Shared) (H : Hp) (E : XK), Room k (A.deeper (envOfC x (defScope st) s.heap.objs.size f cdv)) →
      PassesOwn (model P w) (cxOf (L2.CX P w) P w K mg base N x (defScope st) f cdv A outer s H E).A (cxOf (L2.CX P w) P w K mg base N x (defScope st) f cdv A outer s H E).env (cxOf (L2.CX P w) P w K mg base N x (defScope st) f cdv A outer s H E).xe →
      PuSs (cxOf (L2.CX P w) P w K mg base N x (defScope st) f cdv A outer s H E) (defBody st) p) (hp : ∀ ds Q R, sp ds Q R → p { nx := fun _ => Q .non, rt := Q, er := fun _ => R } (startC N ds)) : FnOk P w K mg base (L2.CX P w) (k + 1) f fd ns (spX K mg sp) := by
  refine FunD.ok F S (fun vs H Q E h => ?_) (fun cdv A outer s H vs Q E hr h => ?_)
  · obtain ⟨G, ds, P', R', _, r, q, _⟩ := h
    rw [r.length]; exact hlen ds P' R' q
  · obtain ⟨G, ds, P', R', sm, r, q, kk, kx⟩ := h
    obtain ⟨t, t1, t2⟩ := (hbody cdv A outer s H E hr (passes_of rfl)).ex
    refine ⟨t, t1, t2 G H G H _ _ { nx := fun _ => P' .non, rt := P', er := fun _ => R' } _ ⟨start_ok sm r, .refl sm, fun i d l q => (startC_fz q).elim⟩ ⟨?_, fun _ _ _ _ _ z => z, fun _ _ _ _ _ z => z, fun G' H' d v x rp z => kk d v G' H' x rp z, fun _ _ _ _ _ _ _ _ z => z.elim, ⟨_, takes_of rfl rfl rfl rfl, ?_⟩⟩ (hp ds P' R' q)⟩
    · intro G' H' env σ r' z
      exact kk .non .non G' H' r'.ext .non z
    · intro G' H' env σ cls fs Ca d vs r' hm hd h0 g rf z
      exact kx G' H' cls fs Ca d vs r'.ext hm hd h0 g rf z
theorem pRaise1 {cls f : Str} {pe : PTE} {PD : PEnds} {env : List C} : pRaise cls [f] (paCons pe paNil) PD env = pe env fun d => PD.er env (.err cls [(f, d)]) := by
  have e : ∀ d, (([d] : List D).length = ([f] : List Str).length ∧ ([d] : List D).length ≤ 1000 ∧ PD.er env (.err cls (fldsD [f] [d]))) = PD.er env (.err cls [(f, d)]) := fun d => propext ⟨fun h => h.2.2, fun h => ⟨rfl, by show 1 ≤ 1000; omega, h⟩⟩
  show (pe env fun d => _) = _
  congr 1
  funext d
  exact e d
theorem pRaise2 {cls f g : Str} {pe qe : PTE} {PD : PEnds} {env : List C} : pRaise cls [f, g] (paCons pe (paCons qe paNil)) PD env = pe env fun d => qe env fun x => PD.er env (.err cls [(g, x), (f, d)]) := by
  have e : ∀ d x, (([d, x] : List D).length = ([f, g] : List Str).length ∧ ([d, x] : List D).length ≤ 1000 ∧ PD.er env (.err cls (fldsD [f, g] [d, x]))) = PD.er env (.err cls [(g, x), (f, d)]) := fun d x => propext ⟨fun h => h.2.2, fun h => ⟨rfl, by show 2 ≤ 1000; omega, h⟩⟩
  show (pe env fun d => qe env fun x => _) = _
  congr 1
  funext d
  congr 1
  funext x
  exact e d x
end PL
end

section
set_option linter.all false
set_option maxRecDepth 100000
set_option maxHeartbeats 4000000
set_option autoImplicit false
/-! PL25: defs called while an exception is handled (without loops, without raise). -/
namespace PL
open PySem PySem.Spec PyProof.Rows L2

structure RoomT (k : Nat) (A : Around) : Prop where
  dep : A.depth + 3 * k + 5 < recursionLimit
  uni : A.units + 16 * k + 200 < cLine
theorem RoomT.mono {j k : Nat} {A : Around} (r : RoomT k A) (h : j ≤ k) : RoomT j A := ⟨by have a := r.dep; omega, by have a := r.uni; omega⟩
theorem rmT {k : Nat} {A : Around} {h : Option Value} (r : Room k A) : RoomT k (A.mark h) := ⟨r.dp, r.un⟩
theorem huT {k : Nat} {A : Around} (r : RoomT k A) : A.units + 1 < cLine := by have a := r.uni; omega
theorem unT {k : Nat} {A : Around} (r : RoomT k A) : A.units + 64 < cLine := by have a := r.uni; omega
theorem u65T {k : Nat} {A : Around} (r : RoomT k A) : A.units + 65 < cLine := by have a := r.uni; omega
theorem RoomT.deeper {k : Nat} {A : Around} (r : RoomT (k + 1) A) (env : Env) : RoomT k (A.deeper env) :=
  ⟨by have a := r.dep; show A.depth + 1 + 3 * k + 5 < _; omega, by have a := r.uni; show A.units + 3 + 16 * k + 200 < _; omega⟩
structure FnT (P : Program) (w : World) (K : PySem.W.Frag) (mg : MG) (base : Heap) (k : Nat) (f : Addr) (fd : FuncData) (ns : List Str) (sp : Sp) : Prop where
  len : ∀ vs H Q E, sp vs H Q E → vs.length = ns.length
  go : ∀ (A : Around) (outer : List Env) (s : Shared) (H : Hp) (args : Args) (us : List Value) (vs : List V) (Q : VK) (E : XK), RoomT k A → Env0 P w K mg base A outer s H → BindsTo s fd args (ns.zip us) → Vals vs us → sp vs H Q E →
    codeAny (model P w) A (.call (.ref f) args) (CR CX0 outer P w H s Q E) s
/-- the body's context -/
def cxT (P : Program) (w : World) (K : PySem.W.Frag) (mg : MG) (base : Heap) (N : List Str) (qual : Str) (scope : Scope) (f : Addr) (cd : Value) (A : Around) (outer : List Env) (s : Shared) (H : Hp) : Cx :=
  { cxOf CX0 P w K mg base N qual scope f cd A outer s H (fun _ _ _ => False) with calm := false, xe := fun _ _ => False }
section
variable {P : Program} {w : World} {K : PySem.W.Frag} {mg : MG} {base : Heap} {N ns : List Str} {qual : Str} {scope : Scope} {f : Addr} {cd : Value} {A : Around} {outer : List Env} {s s1 : Shared} {H : Hp} {us : List Value} {vs : List V}
theorem begin_T (S : FnScope N ns scope) (e0 : Env0 P w K mg base A outer s H) (hl : vs.length = ns.length) (r : Vals vs us)
    (x : InCallC s s.heap.objs.size (bindL (envOfC qual scope s.heap.objs.size f cd).kindOf (ns.zip us) fun _ => none) (cellsFrom (s.heap.objs.size + 1) scope.names []) (bindC (envOfC qual scope s.heap.objs.size f cd).kindOf (ns.zip us) fun _ => none) s1) :
    Inv (cxT P w K mg base N qual scope f cd A outer s H) [] (L2.start N vs) H s1 := by
  have eq0 : Env0 P w K mg base { A with handled := none } outer s H := ⟨e0.frames, e0.mod, e0.bs, e0.bsz, e0.funs, e0.frf, e0.hok, e0.bare⟩
  have I := inv_start (CX := CX0) (E := fun _ _ _ => False) S rfl eq0 hl r x
  have o := I.ok
  exact ⟨⟨o.mod, o.kind, o.glob, o.blt, o.above, o.inj, o.has, o.cab, fun z => Bool.noConfusion (show false = true from z), Around.frames_deeper e0.frames, o.stk, o.exf, o.bs, o.bsz, o.noex, o.exfs, o.funs, o.frf⟩, I.os, I.bare, I.base, I.loc, I.cell, I.free, I.freeC, I.pin, I.hok, I.len⟩
end
theorem fnT_of {P : Program} {w : World} {K : PySem.W.Frag} {mg : MG} {base : Heap} {k : Nat} {f : Addr} {fd : FuncData} {x : Str} {st : Stmt} {N ns : List Str} {sp : Sp} (F : FnP K x st f fd) (S : FnScope N ns (defScope st)) (hlen : ∀ vs H Q E, sp vs H Q E → vs.length = ns.length)
    (hbody : ∀ (cdv : Value) (A : Around) (outer : List Env) (s : Shared) (H : Hp) (vs : List V) (Q : VK) (E : XK), RoomT k (A.deeper (envOfC x (defScope st) s.heap.objs.size f cdv)) → sp vs H Q E →
      ∃ t, PSs (cxT P w K mg base N x (defScope st) f cdv A outer s H) (defBody st) t ∧ t { nx := fun _ H' => Q .non H', rt := Q } (L2.start N vs) H) : FnT P w K mg base (k + 1) f fd ns sp := by
  obtain ⟨oc, od, dV, kV, doc, pm, an, cdv, ct, osl, rfl, lk, hcd, _, _⟩ := F.ex
  refine ⟨hlen, fun A outer s H args us vs Q E hr e0 hb r z => ?_⟩
  have inK : K.In s.heap := e0.mod.kin.keeps fun b o e => (e0.bs b o e).1
  have free_ : s.heap.NoLimit := e0.mod.nolimit.keeps fun b o e => (e0.bs b o e).1
  have kinds : ∀ y ∈ ns.zip us, (defScope st).names.lookup y.1 = some .local ∨ ((defScope st).names.lookup y.1 = some .cell ∧ ((cellsFrom (s.heap.objs.size + 1) (defScope st).names []).lookup y.1).isSome = true) := fun y hy =>
    (S.par y.1 (List.of_mem_zip hy).1).imp id fun q => ⟨q, PySem.W.cellsFrom_some _ _ _ (.inl q)⟩
  have deep : A.depth < recursionLimit := by have a := hr.dep; omega
  refine codeAny_call_function deep (inK _ _ lk) rfl S.co S.gen rfl (PySem.W.codeRec_of inK hcd) (hb _ _ _ _ (wpAny_newFunctionEnv_cells S.kind kinds fun env he s1 y => ?_))
  subst he
  obtain ⟨t, ht, q0⟩ := hbody cdv A outer s H vs Q E (hr.deeper _) z
  refine ⟨free_.keeps y.toInCall.keep, codeAny_func (wpAny_mono (ht.run [] s1 (L2.start N vs) H _ (begin_T S e0 (hlen _ _ _ _ z) r y) q0) (fun fl s2 h => ?_) fun u s2 h => False.elim h)⟩
  match fl, h with
  | .ret u, ⟨v, σ2, H2, J, rv, q⟩ => exact ⟨v, H2, J.os, J.bare, J.base, J.hok, rv, q⟩
  | .next, ⟨σ2, H2, J, q⟩ => exact ⟨.non, H2, J.os, J.bare, J.base, J.hok, rfl, q⟩
  | .brk, ⟨_, _, _, q⟩ => exact False.elim q
  | .cont, ⟨_, _, _, q⟩ => exact False.elim q
theorem pfnT {P : Program} {w : World} {K : PySem.W.Frag} {mg : MG} {base : Heap} {x : Str} {st : Stmt} {f : Addr} {fd : FuncData} {N ns : List Str} {k : Nat} {sp : PSp} {p : PTS} (F : FnP K x st f fd) (S : FnScope N ns (defScope st)) (hlen : ∀ ds P, sp ds P → ds.length = ns.length)
    (hbody : ∀ (cdv : Value) (A : Around) (outer : List Env) (s : Shared) (H : Hp), RoomT k (A.deeper (envOfC x (defScope st) s.heap.objs.size f cdv)) → PuSs (cxT P w K mg base N x (defScope st) f cdv A outer s H) (defBody st) p)
    (hp : ∀ ds Q, sp ds Q → p { nx := fun _ => Q .non, rt := Q } (startC N ds)) : FnT P w K mg base (k + 1) f fd ns (spP K mg sp) := by
  refine fnT_of F S (fun vs H Q E h => ?_) (fun cdv A outer s H vs Q E hr h => ?_)
  · obtain ⟨G, ds, P', _, r, q, _⟩ := h
    rw [r.length]; exact hlen ds P' q
  · obtain ⟨G, ds, P', sm, r, q, kk⟩ := h
    obtain ⟨t, t1, t2⟩ := (hbody cdv A outer s H hr).ex
    exact ⟨t, t1, t2 G H G H _ _ { nx := fun _ => P' .non, rt := P' } _ ⟨start_ok sm r, .refl sm, fun i d l q => (startC_fz q).elim⟩ ⟨fun G' H' env σ r' z => kk .non .non G' H' r'.ext .non z, fun _ _ _ _ _ z => z, fun _ _ _ _ _ z => z, fun G' H' d v x rp z => kk d v G' H' x rp z, fun _ _ _ _ _ _ _ _ z => z.elim, ⟨_, tk0, fun _ _ _ _ _ _ _ _ _ _ _ _ _ _ _ z => z.elim⟩⟩ (hp ds P' q)⟩
structure CalT (P : Program) (w : World) (K : PySem.W.Frag) (mg : MG) (base : Heap) (x : Str) (ns : List Str) (k : Nat) (f : Addr) (fd : FuncData) (sp : PSp) : Prop where
  ok : FnT P w K mg base k f fd ns (spP K mg sp)
  mg : mg x = some (.ref f)
  kp : PySem.W.keepIn K (.ref f) = true
  b : Binds K fd ns []
section
variable {X : Cx} {e : Expr} {es : List Expr} {ps : PTA} {pos p' : Pos}
theorem pe_callT {k : Nat} {f : Addr} {fd : FuncData} {ns : List Str} {sp : Sp} {x : Str} {t : TA} (F : FnT X.prog X.w X.K X.mg X.base k f fd ns sp) (hr : RoomT k X.A) (hg : Gl X x) (hm : X.mg x = some (.ref f)) (hk : PySem.W.keepIn X.K (.ref f) = true) (hb : Binds X.K fd ns [])
    (ha : PA X (e :: es) t) (hdb : (x == ("__debug__" : Str)) = false) (he : starEach (e :: es) X.env = (false, eval e X.env) :: starEach es X.env) (hpl : (backTo pos (starEach es X.env)).any (·.1) = false) :
    PE X (.Call (.Name x p') (e :: es) [] pos) (tCall sp [] (fun _ _ _ => False) t) := by
  refine ⟨fun pins s σ H Q I h => wpAny_Call_Name_kw (ld_glob I hg hm ?_ hdb)⟩
  refine PySem.W.callWith_K (h₀ := X.base) I.ok.mod.kin hk (thn (ha.run pos pins s σ H _ I h) fun us s1 ⟨vs, H1, I1, r, q⟩ => ⟨I1.kIn, ?_⟩) he hpl
  have q : sp vs H1 Q (fun _ _ _ => False) := by
    have q' : sp (vs ++ []) H1 Q (fun _ _ _ => False) := q
    rw [List.append_nil] at q'
    exact q'
  have ln : us.length = ns.length := r.length.symm.trans (F.len _ _ _ _ q)
  have b := hb s1 us I1.kIn (by rw [List.append_nil]; exact ln)
  rw [List.append_nil] at b
  refine wpAny_call (codeAny_mono (F.go X.A X.stack s1 H1 ⟨us, []⟩ us vs Q _ hr I1.env0 b r q) fun res s2 z => ?_)
  match res, z with
  | .error u, z => exact False.elim z
  | .ok (.ret u), z => exact I1.after z
  | .ok .next, z => exact False.elim z
  | .ok .brk, z => exact False.elim z
  | .ok .cont, z => exact False.elim z
theorem pu_ct {x : Str} {ns : List Str} {k k' : Nat} {f : Addr} {fd : FuncData} {sp : PSp} (C : CalT X.prog X.w X.K X.mg X.base x ns k f fd sp) (hr : RoomT k' X.A) (h : PuA X (e :: es) ps) (hk : k ≤ k' := by decide) (hg : Gl X x := by rfl)
    (hdb : (x == ("__debug__" : Str)) = false := by decide) (he : starEach (e :: es) X.env = (false, eval e X.env) :: starEach es X.env := by rfl) (hpl : (backTo pos (starEach es X.env)).any (·.1) = false := by rfl) :
    PuE X (.Call (.Name x p') (e :: es) [] pos) (pCall sp ps) := by
  obtain ⟨t, h1, h2⟩ := h.ex
  refine ⟨_, pe_callT C.ok (hr.mono hk) hg C.mg C.kp C.b h1 hdb he hpl, fun G H env σ P Q ok hp kk => h2 G H env σ _ _ ok hp fun ds vs G' H' x r q => ?_⟩
  rw [List.append_nil]
  exact ⟨G', ds, P, x.s, r, q, fun d v G2 H2 y r2 q2 => kk d v G2 H2 (x.trans y) r2 q2⟩
end

/-! ### what a head gives of the classes that clauses name -/
section
variable {tab : ETab} {K : PySem.W.Frag} {h : Heap} {mg : MG}
theorem exS_of (X : K.In h) (G : h.Ns mainGlobals mg) (b : errB tab K = true) (T : Str) (b2 : exOne tab K T = true) : ExS K mg (subOf tab T) (.ref (He.ga K T)) := ⟨fun c v e => by
  unfold subOf at e
  split at e
  · rename_i hs
    cases e
    obtain ⟨fs, hf⟩ := Option.isSome_iff_exists.mp hs
    exact ⟨_, (err_one X G b hf).1, of_decide_eq_true (List.all_eq_true.mp b2 _ (mem_of_look hf))⟩
  · cases e⟩
theorem exA_of {u : Value} (X : K.In h) (G : h.Ns mainGlobals mg) (b : errB tab K = true) (b2 : exA tab K u = true) : ExS K mg (subAll tab) u := ⟨fun c v e => by
  unfold subAll at e
  split at e
  · rename_i hs
    cases e
    obtain ⟨fs, hf⟩ := Option.isSome_iff_exists.mp hs
    exact ⟨_, (err_one X G b hf).1, of_decide_eq_true (List.all_eq_true.mp b2 _ (mem_of_look hf))⟩
  · cases e⟩
end

/-! ### isinstance(e, (A, B, ..)) -/
def anyS : List STab → STab
  | [], _ => some false
  | s :: r, c => match s c with
    | some true => some true
    | some false => anyS r c
    | none => none
structure PuCl (X : Cx) (es : List Expr) (Ts : List STab) : Prop where
  ex : ∃ (t : TA) (cs : List V) (us : List Value), PA X es t ∧ Paired ClsV cs us ∧ cs.length = es.length ∧ (∀ c b C, anyS Ts c = some b → X.mg c = some (.ref C) → PySem.W.kitAny X.K (.ref C) us = some b) ∧ ∀ (σ : L2.St) (H : Hp) (Q : List V → Hp → Prop), Q cs H → t σ H Q
section
variable {X : Cx} {e : Expr} {es : List Expr} {pe : PTE} {Ts : List STab} {pos : Pos}
theorem pucl_nil : PuCl X [] [] := ⟨_, [], [], pa_nil, .nil, rfl, fun c b C e _ => by cases e; exact kitAny_nil, fun σ H Q q => q⟩
theorem pucl_cons {sub : STab} {T : Str} {CT : Addr} {p : Pos} (S : ErS X.K X.mg sub (.ref CT)) (hT : X.mg T = some (.ref CT)) (h : PuCl X es Ts) (hg : Gl X T := by rfl) (hd : (T == ("__debug__" : Str)) = false := by decide)
    (hs : starEach (.Name T p :: es) X.env = (false, eval (.Name T p) X.env) :: starEach es X.env := by rfl) : PuCl X (.Name T p :: es) (sub :: Ts) := by
  obtain ⟨t, cs, us, h1, h2, h3, h4, h5⟩ := h.ex
  refine ⟨_, _ :: cs, _ :: us, pa_cons (pe_glob (v := .ref CT) hg hT rfl hd) h1 hs, .cons (.own CT) h2, by rw [List.length_cons, List.length_cons, h3], fun c b C e m => ?_, fun σ H Q q => h5 σ H _ q⟩
  unfold anyS at e
  split at e
  · rename_i e1
    cases e
    obtain ⟨C', _, _, m', _, k⟩ := S.ex c _ e1
    rw [m] at m'; cases m'
    exact kitAny_cons k (fun z => nomatch z) fun _ => rfl
  · rename_i e1
    obtain ⟨C', _, _, m', _, k⟩ := S.ex c _ e1
    rw [m] at m'; cases m'
    exact kitAny_cons k (fun _ => h4 c b C e m) fun z => nomatch z
  · cases e
def rIsErT (K : PySem.W.Frag) : List V → Hp → VK → Prop := fun xs H Q => ∃ (a C f dx tp : Addr) (ns : List Str) (cs : List V) (us : List Value) (b : Bool), xs = [.ref a, .ref tp] ∧ H tp = some (.tup cs) ∧ Paired ClsV cs us ∧ ErC K C f ns ∧ (∃ w, H a = some w ∧ Exq w a C dx) ∧ (∃ fs, H dx = some (exd dx fs)) ∧ PySem.W.kitAny K (.ref C) us = some b ∧ Q (.bl b) H
theorem call_isErT : CallR X (.builtin "isinstance") (rIsErT X.K) := by
  intro pins s σ H xs vs Q I r h
  obtain ⟨a, C, f, dx, tp, ns, cs, us, b, rfl, hT, kc, T, ea, ⟨fs, ed⟩, e, q⟩ := h
  obtain ⟨u1, u2, rfl, r1, r2⟩ := vals2 r
  cases (show u1 = Value.ref a from r1)
  cases (show u2 = Value.ref tp from r2)
  obtain ⟨w0, ea, xq⟩ := ea
  obtain ⟨oe, ves, ho, hcl2, hdx, hdt⟩ := xq.at I.hok ea
  obtain ⟨mA, hns, rel⟩ := exd_at I.hok ed
  obtain ⟨od, hod, hl⟩ := lookIn_ns hns
  have J : PySem.W.InstAt s.heap a _ C (some od) := ⟨ho, hcl2, by unfold PySem.W.notCls; rw [hdt] <;> rfl, by rw [hdx]; exact hod⟩
  obtain ⟨nm, q', N, bs, bm, sn, sb, ab, col, dd, k0, k1, k2, k3, k5, hC, hbm⟩ := T.oex.cls
  have hcl : (PySem.W.clsIn X.K C).isSome = true := by
    unfold PySem.W.clsIn
    rw [hC]; rfl
  obtain ⟨_, its, rv, o, g1, g2, n, g3⟩ := (show ObjOk X.prog X.w H s.heap tp (.tup cs) from I.hok tp _ hT)
  have e3 := ClsV.all kc rv
  subst e3
  obtain ⟨oc, odd, dt, sl⟩ := o
  simp only at g2 g3
  subst g2 g3
  exact PySem.W.kia_tup (PySem.W.kitx_exc hcl T.xf.ga T.xf.gg T.xf.exC T.cl T.hn T.ht T.hm) I.kIn J g1 e (fun z => nomatch z) fun tk => ⟨.bl b, H, I.kept (t' := tk) fun _ _ z => z, rfl, q⟩
def pIsEs (Ts : List STab) (p : PTE) : PTE := fun env P => p env fun d => ∃ c fs b, d = .err c fs ∧ anyS Ts c = some b ∧ P (.bl b)
theorem pu_isEs {tab : ETab} {p' p4 : Pos} {k4 : Nat} (TE : ErT X.K X.mg tab) (hall : ∀ c b, anyS Ts c = some b → (tab.lookup c).isSome = true) (hm : X.mg "isinstance" = none) (he : PuE X e pe) (h : PuCl X es Ts) (hg : Gl X "isinstance" := by rfl)
    (hl : es.length ≤ sizeLine := by decide) (hs : starEach [e, .Tuple es k4 p4] X.env = (false, eval e X.env) :: starEach [.Tuple es k4 p4] X.env := by rfl) (hs2 : starEach [.Tuple es k4 p4] X.env = (false, eval (.Tuple es k4 p4) X.env) :: starEach [] X.env := by rfl)
    (hpl : (backTo pos (starEach [.Tuple es k4 p4] X.env)).any (·.1) = false := by rfl) : PuE X (.Call (.Name "isinstance" p') [e, .Tuple es k4 p4] [] pos) (pIsEs Ts pe) := by
  obtain ⟨t, h1, h2⟩ := he.ex
  obtain ⟨ta, cs, us, g1, g2, g3, g4, g5⟩ := h.ex
  refine ⟨_, pe_callB call_isErT hg hm (by decide +kernel) (pa_cons h1 (pa_cons (pe_tup g1) pa_nil hs2) hs) (by decide) (by decide) hs hpl, fun G H env σ P Q ok hp k => h2 G H env σ _ _ ok hp fun d v G' H' x r q => ?_⟩
  obtain ⟨c, fs, b, rfl, hb, q⟩ := q
  cases r with
  | err ea eq ed em rf =>
    obtain ⟨ns, hns⟩ := Option.isSome_iff_exists.mp (hall c b hb)
    obtain ⟨C', f', em', T'⟩ := TE.ex c ns hns
    rw [em] at em'
    cases em'
    refine g5 σ H' _ ⟨by rw [g3]; exact hl, fun tp ht => ?_⟩
    have sU : Same H' (upd H' tp (.tup cs)) := Same.upd ht
    exact ⟨_, _, f', _, tp, ns, cs, us, b, rfl, upd_same, g2, T', ⟨_, sU _ _ (x.s _ _ ea), eq⟩, ⟨_, sU _ _ (x.s _ _ ed)⟩, g4 c b _ hb em, k (.bl b) (.bl b) G' _ (x.trans (Ext.newH x.s ht)) (.bl b) q⟩
end
/-- one class of the table among the asked ones -/
theorem any_tab {tab : ETab} {Ts : List STab} {T : Str} : ∀ c b, anyS (subOf tab T :: Ts) c = some b → (tab.lookup c).isSome = true := fun c b h => by
  unfold anyS subOf at h
  by_cases z : (tab.lookup c).isSome = true
  · exact z
  · rw [if_neg z] at h
    cases h
end PL
end

section
set_option linter.all false
set_option maxRecDepth 100000
set_option maxHeartbeats 4000000
set_option autoImplicit false
/-! PL26: more of lists. -/
namespace PL
open PySem PySem.Spec PyProof.Rows L2
section
variable {X : Cx} {a b c e o : Expr} {es : List Expr} {pe po : PTE} {ps : PTA} {pos apos cpos : Pos}
/-! ### l.index(x) -/
/-- j is the first place of an equal item -/
def firstAt (xs : List D) (y : D) (j : Nat) : Prop := (∃ z, xs[j]? = some z ∧ PyData.eqv (toPy z) (toPy y) = true) ∧ ∀ m z, m < j → xs[m]? = some z → PyData.eqv (toPy z) (toPy y) = false
def lidxP (ps : PTA) (env : List C) (P : D → Prop) : D → Prop := fun d => match d with
  | .lst xs => ps env fun ds => ∃ y j, ds = [y] ∧ cmpOk (.lst xs) = true ∧ cmpOk y = true ∧ firstAt xs y j ∧ P (.int (j : Nat))
  | _ => False
def pLidx (pe : PTE) (ps : PTA) : PTE := fun env P => pe env (lidxP ps env P)
theorem toPys_get : ∀ {xs : List D} {j : Nat}, (toPys xs)[j]? = (xs[j]?).map toPy
  | [], _ => by simp [toPys]
  | x :: xs, 0 => by simp [toPys]
  | x :: xs, j + 1 => by
    show (toPy x :: toPys xs)[j + 1]? = _
    simp only [List.getElem?_cons_succ]
    exact toPys_get
theorem pu_lidx (hu : X.A.units + 65 < cLine) (ho : PuO X o po) (ha : PuA X [e] ps)
    (hbase : attributeBase o "index" X.env (eval o X.env) = eval o X.env := by rfl)
    (hfew : ((backTo cpos (starEach [e] X.env)).all (fun x => !x.1) && (backToKw cpos (keywordEach [] X.env)).all (fun x => x.1.isSome)
      && decide (([e] : List Expr).length + ([] : List Keyword).length + (if ([] : List Keyword).isEmpty then 0 else 1) < 30)) = true := by rfl)
    (hline : (apos.endLine == cpos.line) = true := by rfl) (hs : starEach [e] X.env = (false, eval e X.env) :: starEach [] X.env := by rfl) (hplain : (backTo cpos (starEach [] X.env)).any (·.1) = false := by rfl) :
    PuE X (.Call (.Attribute o "index" apos) [e] [] cpos) (pLidx po ps) := by
  obtain ⟨t, h1, h2⟩ := ho.ex
  obtain ⟨u, g1, g2⟩ := ha.ex
  refine ⟨_, pe_bm PySem.F.plainAttrs_list PySem.F.slot_list_index PySem.F.type_list_index (mt_indexD hu) h1 g1 hbase hfew hline hs hplain, fun G H env σ P Q ok hp kk => h2 G H env σ _ _ ok hp fun d v G1 H1 x1 r1 q1 => ?_⟩
  unfold lidxP at q1
  split at q1
  · rename_i xs
    obtain ⟨l, vs, rfl, hl, rs⟩ := r1.lst x1.s
    refine ⟨.inl ⟨rfl, vs, SqL.of hl⟩, g2 G1 H1 env σ _ _ (ok.ext x1) q1 fun ds ws G2 H2 x2 r2 q2 => ?_⟩
    obtain ⟨y, j, rfl, c1, c2, ⟨⟨z, hz, ez⟩, no⟩, q⟩ := q2
    obtain ⟨w, rfl, rw_⟩ := reps1 r2
    obtain ⟨f1, s1⟩ := cmpOk_iff c1
    obtain ⟨f2, s2⟩ := cmpOk_iff c2
    have r1' : Shal X.K X.mg H2 G2 (.ref l) (.lst xs) := .inr ⟨l, rfl, .lst (x2.h _ _ hl) (rs.mono x2.g)⟩
    refine ⟨l, w, toPy y, toPys xs, j, toPy z, rfl, rfl, r1'.dp x2.s f1, rw_.dp x2.s f2, s1, s2, by rw [toPys_get, hz]; rfl, ez, fun m z' hm e => ?_, kk _ _ G2 H2 (x1.trans x2) (.int _) q⟩
    rw [toPys_get] at e
    cases q3 : xs[m]? with
    | none => rw [q3] at e; cases e
    | some z2 => rw [q3] at e; cases e; exact no m z2 hm q3
  · exact q1.elim
end
end PL
end

section
set_option linter.all false
set_option maxRecDepth 100000
set_option maxHeartbeats 4000000
set_option autoImplicit false
/-! PL27: str of an int; comparison chains as values; all of a list; ranges with a step; x = xs.pop(); upper; gcd. -/
namespace PL
open PySem PySem.Spec PyProof.Rows L2
section
variable {X : Cx} {e a b c : Expr} {es : List Expr} {pe pa pb pc : PTE} {ps : PTA} {pos p' : Pos}
/-! ### str(n) -/
def strIP : PSp := fun ds P => match ds with
  | [.int i] => i.natAbs.log2 < 1920 ∧ P (.str (toString i))
  | _ => False
theorem strIP_ok : CallOk X (fun xs H Q => ∃ i, xs = [.int i] ∧ i.natAbs.log2 < 1920 ∧ Q (.str (toString i)) H) strIP := by
  intro G H vs ds P Q s rs h k
  unfold strIP at h
  split at h
  · obtain ⟨v, rfl, r⟩ := one_shal rs
    cases r.int
    exact ⟨_, rfl, h.1, k _ _ G H (.refl s) (.str _) h.2⟩
  · exact h.elim
theorem strIP_i {P : D → Prop} {i : Int} : strIP [.int i] P = (i.natAbs.log2 < 1920 ∧ P (.str (toString i))) := rfl
theorem pu_strI (hm : X.mg "str" = none) (h : PuO X a pa) (hs : starEach [a] X.env = (false, eval a X.env) :: starEach [] X.env := by rfl) (hg : Gl X "str" := by rfl) : PuE X (.Call (.Name "str" p') [a] [] pos) (pCall strIP (paCons pa paNil)) :=
  pu_ty call_str_int strIP_ok hm (puao_cons h puao_nil hs) hg (by decide +kernel) (by decide) (by decide) hs rfl
/-! ### a < b < c as a value -/
def pChain (f g : BinP) (pa pb pc : PTE) : PTE := fun env P => pa env fun x => pb env fun y => f x y (asB fun k => if k = true then pc env fun z => g y z P else P (.bl false))
theorem pu_chain {op op' : CmpOp} {r r' : R2} {f g : BinP} (ho : OpR X (compareOp op) r) (hf : BinOk X r f) (ho' : OpR X (compareOp op') r') (hg : BinOk X r' g) (ha : PuO X a pa) (hb : PuO X b pb) (hc : PuO X c pc)
    (hm : lastMarks [op, op'] [b, c] = false := by with_unfolding_all rfl) : PuE X (.Compare a [op, op'] [b, c] pos) (pChain f g pa pb pc) := by
  obtain ⟨ta, a1, a2⟩ := ha.ex
  obtain ⟨tb, b1, b2⟩ := hb.ex
  obtain ⟨tc, c1, c2⟩ := hc.ex
  refine ⟨_, pe_chain ho ho' a1 b1 c1 hm, fun G H env σ P Q ok hp k => ?_⟩
  refine a2 G H env σ _ _ ok hp fun x v G1 H1 e1 r1 q1 => ?_
  refine b2 G1 H1 env σ _ _ (ok.ext e1) q1 fun y w G2 H2 e2 r2 q2 => ?_
  refine hf G2 H2 v w x y _ _ e2.s (r1.mono e2.h e2.g) r2 q2 fun d u G3 H3 e3 r3 q3 => ?_
  obtain ⟨kk, rfl, z⟩ := asB_rep r3 q3
  refine ⟨kk, rfl, ?_⟩
  cases kk with
  | false => exact k _ _ G3 H3 ((e1.trans e2).trans e3) (.bl false) z
  | true =>
    refine c2 G3 H3 env σ _ _ (((ok.ext e1).ext e2).ext e3) z fun z' u G4 H4 e4 r4 q4 => ?_
    exact hg G4 H4 w u y z' _ _ e4.s ((r2.mono e3.h e3.g).mono e4.h e4.g) r4 q4 fun d u2 G5 H5 e5 r5 q5 => k _ _ G5 H5 ((((e1.trans e2).trans e3).trans e4).trans e5) r5 q5
/-! ### all, any of a list of truth values -/
def blsOf : List D → Option (List Bool)
  | [] => some []
  | .bl b :: ds => (blsOf ds).map (b :: ·)
  | _ => none
theorem blsOf_map (bs : List Bool) : blsOf (bs.map D.bl) = some bs := by
  induction bs with
  | nil => rfl
  | cons b bs ih => show (blsOf (bs.map D.bl)).map (b :: ·) = _; rw [ih]; rfl
theorem blsOf_eq : ∀ {ds : List D} {bs : List Bool}, blsOf ds = some bs → ds = bs.map D.bl
  | [], bs, h => by cases h; rfl
  | .bl b :: ds, bs, h => by
    unfold blsOf at h
    cases e : blsOf ds with
    | none => rw [e] at h; cases h
    | some cs => rw [e] at h; cases h; rw [blsOf_eq e]; rfl
  | .non :: _, _, h => by cases h
  | .int _ :: _, _, h => by cases h
  | .str _ :: _, _, h => by cases h
  | .tup _ :: _, _, h => by cases h
  | .lst _ :: _, _, h => by cases h
  | .scr _ :: _, _, h => by cases h
  | .dk _ :: _, _, h => by cases h
  | .dt _ :: _, _, h => by cases h
  | .obj _ _ :: _, _, h => by cases h
  | .err _ _ :: _, _, h => by cases h
def allP : PSp := fun ds P => match ds with
  | [d] => ∃ xs bs, lstOf d = some xs ∧ blsOf xs = some bs ∧ P (.bl (bs.all id))
  | _ => False
def anyP : PSp := fun ds P => match ds with
  | [d] => ∃ xs bs, lstOf d = some xs ∧ blsOf xs = some bs ∧ P (.bl (bs.any id))
  | _ => False
theorem allP_ok : CallOk X (rAll X.K) allP := by
  intro G H vs ds P Q s rs h k
  unfold allP at h
  split at h
  · obtain ⟨xs, bs, e1, e2, q⟩ := h
    obtain ⟨v, rfl, r⟩ := one_shal rs
    obtain ⟨l, ws, rfl, hl, rr⟩ := r.sql s e1
    have ew : ws = bs.map V.bl := by rw [blsOf_eq e2] at rr; exact rr.bls
    subst ew
    exact ⟨l, bs, rfl, hl, k _ _ G H (.refl s) (.bl _) q⟩
  · exact h.elim
theorem anyP_ok : CallOk X (rAny X.K) anyP := by
  intro G H vs ds P Q s rs h k
  unfold anyP at h
  split at h
  · obtain ⟨xs, bs, e1, e2, q⟩ := h
    obtain ⟨v, rfl, r⟩ := one_shal rs
    obtain ⟨l, ws, rfl, hl, rr⟩ := r.sql s e1
    have ew : ws = bs.map V.bl := by rw [blsOf_eq e2] at rr; exact rr.bls
    subst ew
    exact ⟨l, bs, rfl, hl, k _ _ G H (.refl s) (.bl _) q⟩
  · exact h.elim
theorem allP_lst {P : D → Prop} {xs : List D} : allP [.lst xs] P = ∃ ys bs, lstOf (.lst xs) = some ys ∧ blsOf ys = some bs ∧ P (.bl (bs.all id)) := rfl
theorem anyP_lst {P : D → Prop} {xs : List D} : anyP [.lst xs] P = ∃ ys bs, lstOf (.lst xs) = some ys ∧ blsOf ys = some bs ∧ P (.bl (bs.any id)) := rfl
theorem pu_all (hc : X.calm = true) (hm : X.mg "all" = none) (h : PuO X a pa) (hs : starEach [a] X.env = (false, eval a X.env) :: starEach [] X.env := by rfl) (hg : Gl X "all" := by rfl) : PuE X (.Call (.Name "all" p') [a] [] pos) (pCall allP (paCons pa paNil)) :=
  pu_bi (cr_all hc) allP_ok hm (puao_cons h puao_nil hs) hg (by decide +kernel) (by decide) (by decide) hs rfl
theorem pu_any (hc : X.calm = true) (hm : X.mg "any" = none) (h : PuO X a pa) (hs : starEach [a] X.env = (false, eval a X.env) :: starEach [] X.env := by rfl) (hg : Gl X "any" := by rfl) : PuE X (.Call (.Name "any" p') [a] [] pos) (pCall anyP (paCons pa paNil)) :=
  pu_bi (cr_any hc) anyP_ok hm (puao_cons h puao_nil hs) hg (by decide +kernel) (by decide) (by decide) hs rfl
/-! ### range(a, b, c) -/
def rg3 (P : Sq → Prop) : D → D → D → Prop := fun d f g => match d, f, g with
  | .int i, .int j, .int c => ∃ n, RgC i j c n ∧ P (sqC i c n)
  | _, _, _ => False
theorem rg3_i {P : Sq → Prop} {i j c : Int} : rg3 P (.int i) (.int j) (.int c) = ∃ n, RgC i j c n ∧ P (sqC i c n) := rfl
def piR3 (pa pb pc : PTE) : PTI := fun env P => pa env fun d => pb env fun f => pc env fun g => rg3 P d f g
theorem pui_r3 {tg : Expr} (hm : X.mg "range" = none) (h : PuE X a pa) (h' : PuE X b pb) (h'' : PuE X c pc) (hg : Gl X "range" := by rfl) (hs : starEach [a, b, c] X.env = (false, eval a X.env) :: starEach [b, c] X.env := by rfl)
    (hs2 : starEach [b, c] X.env = (false, eval b X.env) :: starEach [c] X.env := by rfl) (hs3 : starEach [c] X.env = (false, eval c X.env) :: starEach [] X.env := by rfl) (hpl : (backTo pos (starEach [b, c] X.env)).any (·.1) = false := by rfl) :
    PuI X tg (.Call (.Name "range" p') [a, b, c] [] pos) (piR3 pa pb pc) := by
  obtain ⟨t, h1, h2⟩ := h.ex
  obtain ⟨u, g1, g2⟩ := h'.ex
  obtain ⟨v, k1, k2⟩ := h''.ex
  refine ⟨_, pi_range3 hg hm (pa_cons h1 (pa_cons g1 (pa_cons k1 pa_nil hs3) hs2) hs) hs hpl, fun G H env σ P R ok hp k => h2 G H env σ _ _ ok hp fun d v G1 H1 x1 r1 q1 => ?_⟩
  refine g2 G1 H1 env σ _ _ (ok.ext x1) q1 fun f w G2 H2 x2 r2 q2 => ?_
  refine k2 G2 H2 env σ _ _ ((ok.ext x1).ext x2) q2 fun g u G3 H3 x3 r3 q3 => ?_
  unfold rg3 at q3
  split at q3
  · cases r1; cases r2; cases r3
    obtain ⟨n, z, q3⟩ := q3
    exact ⟨_, _, _, n, rfl, z, k _ _ G3 H3 ((x1.trans x2).trans x3) (walks_rangeC _ _ _) q3⟩
  · exact q3.elim
theorem for_c {lo c : Int} {n : Nat} {g : PTG} {body : PTS} {PD : PEnds} {env : List C} (W : Nat → List C → Prop) (h0 : W 0 env)
    (hs : ∀ (k : Nat) (env : List C), k < n → W k env → g (.int (lo + (k : Nat) * c)) env fun e => body { nx := W (k + 1), ct := W (k + 1), bk := PD.nx, rt := PD.rt, er := PD.er } e) (hd : ∀ env, W n env → PD.nx env) : forP (sqC lo c n) g body PD env :=
  ⟨W, h0, fun k d env hk ob w => by cases ob; exact hs k env hk w, hd⟩
/-! ### upper -/
def upP (P : D → Prop) : D → Prop := fun d => match d with
  | .str z => z.length ≤ 5592405 ∧ P (.str (Txt.upper z))
  | _ => False
def pUp (pe : PTE) : PTE := fun env P => pe env (upP P)
theorem upP_s {P : D → Prop} {z : Str} : upP P (.str z) = (z.length ≤ 5592405 ∧ P (.str (Txt.upper z))) := rfl
theorem pu_upper {apos : Pos} (ho : PuE X a pa) (hbase : attributeBase a "upper" X.env (eval a X.env) = eval a X.env := by rfl) (hline : (apos.endLine == pos.line) = true := by rfl) : PuE X (.Call (.Attribute a "upper" apos) [] [] pos) (pUp pa) := by
  obtain ⟨t, h1, h2⟩ := ho.ex
  refine ⟨_, pe_upper h1 hbase hline, fun G H env σ P Q ok hp k => h2 G H env σ _ _ ok hp fun d v G' H' x r q => ?_⟩
  unfold upP at q
  split at q
  · cases r; exact ⟨⟨_, rfl⟩, _, rfl, rfl, q.1, k _ _ G' H' x (.str _) q.2⟩
  · exact q.elim
/-! ### gcd -/
def gcdP : PSp := fun ds P => match ds with
  | [.int i, .int j] => P (.int ((Nat.gcd i.natAbs j.natAbs : Nat) : Int))
  | _ => False
theorem gcdP_i {P : D → Prop} {i j : Int} : gcdP [.int i, .int j] P = P (.int ((Nat.gcd i.natAbs j.natAbs : Nat) : Int)) := rfl
theorem gcdP_ok : CallOk X rGcd gcdP := by
  intro G H vs ds P Q s rs h k
  unfold gcdP at h
  split at h
  · cases rs with
    | cons r1 rs =>
      cases rs with
      | cons r2 rs =>
        cases rs
        cases r1.int; cases r2.int
        exact ⟨_, _, rfl, k _ _ G H (.refl s) (.int _) h⟩
  · exact h.elim
theorem pu_gcd {x : Str} (hm : X.mg x = some (.builtin "math.gcd")) (h : PuO X a pa) (h' : PuO X b pb) (hg : Gl X x := by rfl) (hdb : (x == ("__debug__" : Str)) = false := by decide) (hs : starEach [a, b] X.env = (false, eval a X.env) :: starEach [b] X.env := by rfl)
    (hs2 : starEach [b] X.env = (false, eval b X.env) :: starEach [] X.env := by rfl) (hpl : (backTo pos (starEach [b] X.env)).any (·.1) = false := by rfl) :
    PuE X (.Call (.Name x p') [a, b] [] pos) (pCall gcdP (paCons pa (paCons pb paNil))) := by
  obtain ⟨t, h1, h2⟩ := (puao_cons h (puao_cons h' puao_nil hs2) hs).ex
  refine ⟨_, pe_callBfun cr_gcd hg hm h1 hdb hs hpl, fun G H env σ P Q ok hp k => h2 G H env σ _ _ ok hp fun ds vs G' H' y rs q => ?_⟩
  exact gcdP_ok G' H' vs ds P Q y.s rs q fun d u G2 H2 z r2 q2 => k d u G2 H2 (y.trans z) r2 q2
/-! ### y = xs.pop() -/
def pPop (i j : Nat) : PTS := fun PD env => match env[i]? with
  | some (.ow (.lst ds)) => ∃ d, ds[ds.length - 1]? = some d ∧ PD.nx ((env.set i (.ow (.lst ds.dropLast))).set j (.fz d))
  | _ => False
theorem Reps.dropLast {K : PySem.W.Frag} {mg : MG} {G : Hp} {vs : List V} {ds : List D} (h : Reps K mg G vs ds) : Reps K mg G vs.dropLast ds.dropLast := by
  rw [List.dropLast_eq_take, List.dropLast_eq_take, h.length]
  exact h.take _
theorem pus_pop (i j : Nat) {x y : Str} {apos npos p1 spos p2 : Pos} (hN : X.N.Nodup) (hi : X.N[j]? = some y := by rfl) (hx : Loc X.env.scope y := by first | exact Or.inl rfl | exact Or.inr rfl)
    (hv : PE X (.Name x npos) (tVar i))
    (hs : swapsWith (.Call (.Attribute (.Name x npos) "pop" apos) [] [] p1) (some (.Name y p2)) spos.line X.env = pure false := by rfl) (hf : X.fn y = true ∨ X.env.scope.names.lookup y = some .local := by first | exact .inl rfl | exact .inr rfl)
    (hbase : attributeBase (.Name x npos) "pop" X.env (eval (.Name x npos) X.env) = eval (.Name x npos) X.env := by rfl) (hline : (apos.endLine == p1.line) = true := by rfl) :
    PuS X (.Assign [.Name y p2] (.Call (.Attribute (.Name x npos) "pop" apos) [] [] p1) spos) (pPop i j) := by
  refine ⟨_, ps_set hN hi hx (pe_bm0 PySem.F.plainAttrs_list PySem.F.slot_list_pop PySem.F.type_list_pop mt_pop hv hbase hline) hs hf, fun G0 H0 G H env σ PD E r ok hp => ?_⟩
  unfold pPop at hp
  split at hp
  · rename_i ds hi
    obtain ⟨d, hd, z⟩ := hp
    obtain ⟨l, hl, tp, n⟩ := r.ok.slot i _ hi
    cases tp with
    | lst hH rs =>
      obtain ⟨v, hv, rv⟩ := rs.getD hd
      refine ⟨.ref l, hl, .inl ⟨rfl, _, SqL.of hH⟩, l, _, v, rfl, rfl, hH, by rw [rs.length]; exact hv, ?_⟩
      have r' := r.write hi hl n (.lst upd_same rs.dropLast)
      exact ok.nx G _ _ _ (r'.setFz rv) z
  · exact hp.elim
end
end PL
end

section
set_option linter.all false
set_option maxRecDepth 100000
set_option maxHeartbeats 4000000
set_option autoImplicit false
/-! PL28: sorted(texts, key=f), f a def that returns (len(text), text). -/
namespace PL
open PySem PySem.Spec PyProof.Rows L2 PySem.W
/-- the key of a text -/
def keyT (x : Str) : PyData := .tuple [.int (x.length : Nat), .str x]
def keyBody (n : Str) (k : Nat) (p1 p2 p3 p4 p5 p6 : Pos) : List Stmt := [.Return (some (.Tuple [.Call (.Name "len" p1) [.Name n p2] [] p3, .Name n p4] k p5)) p6]
section
variable {P : Program} {w : World} {K : PySem.W.Frag} {mg : MG} {base : Heap}
theorem key_run {qual : Str} {params : Arguments} {scope : Scope} {x n : Str} {f : Addr} {fd : FuncData} {k : Nat} {p1 p2 p3 p4 p5 p6 : Pos} {A : Around} {s : Shared} {z : Str} {t : Tok}
    (F : FunD K x qual params (keyBody n k p1 p2 p3 p4 p5 p6) scope [] [] f fd) (S : FnScope [n] [n] scope) (hn : scope.names = [(n, .local), ("len", .globalImplicit)])
    (hb : ∀ (s : Shared) (v : Value), BindsTo s fd ⟨[v], []⟩ [(n, v)]) (hnl : (n == ("__debug__" : Str)) = false) (hln : (("len" : Str) == n) = false)
    (M : Mod K mg base) (hmg : mg "len" = none) (keep : ∀ b o, base.get? b = some o → s.heap.get? b = some o) (hd : A.depth < recursionLimit) (hz : z.length ≤ sizeLine) :
    wpAny (model P w) A (call (.ref f) [.str z t]) (KeyPure (keyT z) s) (fun _ _ => False) s := by
  obtain ⟨oc, od, dV, kV, doc, pm, an, cdv, ct, osl, rfl, lk, hcd, _, _⟩ := F.ex
  have KX : K.In s.heap := M.kin.keeps keep
  have lim : s.heap.NoLimit := M.nolimit.keeps keep
  refine wpAny_call ?_
  refine codeAny_call_function hd (KX _ _ lk) rfl S.co S.gen rfl (PySem.W.codeRec_of KX hcd) (hb _ _ _ _ _ _ ?_)
  refine wpAny_newFunctionEnv_cells S.kind (fun y hy => ?_) fun env he s1 x => ?_
  · have : y = (n, Value.str z t) := by simpa using hy
    subst this
    left
    rw [hn]
    simp
  have fk : env.scope.kind = .function := by rw [he]; exact S.kind
  have fg : env.globals = mainGlobals := by rw [he]; rfl
  have fb : env.builtins = builtinsNs := by rw [he]; rfl
  have kn : env.kindOf n = some .local := by
    rw [he]
    show scope.names.lookup n = _
    rw [hn]; simp
  have kl : env.kindOf "len" = some .globalImplicit := by
    rw [he]
    show scope.names.lookup ("len" : Str) = _
    rw [hn, List.lookup_cons, hln]; rfl
  have hm : bindL env.kindOf [(n, Value.str z t)] (fun _ => none) n = some (.str z t) := by
    show (if env.kindOf n = some .local then fun y => if y = n then some (Value.str z t) else none else fun _ => none) n = _
    rw [if_pos kn, if_pos rfl]
  obtain ⟨mb, b1, b2⟩ := M.blt
  have hv : mb "len" = some (.builtin "len") := (b2 "len" (by decide)).trans (by decide +kernel)
  have ic := x.toInCall
  generalize bindL env.kindOf [(n, Value.str z t)] (fun _ => none) = m at hm ic
  clear he x
  generalize hL : env.locals = L at ic
  refine ⟨lim.keeps ic.keep, codeAny_func ?_⟩
  have ld : ∀ {B : Around} {E : Value → Shared → Prop} {s2 : Shared} {p : Pos} {Q : Value → Shared → Prop}, InCall s L m s2 → Q (.str z t) s2 → wpAny (model P w) B (eval (.Name n p) env) Q E s2 := fun {B E s2 p Q} ic2 q => by
    refine wpAny_Name (wpAny_loadName_local fk kn (by rw [hL]; exact ic2.ns) hm q) hnl
  refine wpAny_execs_cons ?_
  refine wpAny_Return_some ?_
  refine wpAny_Tuple_spliced ?_
  refine Calls.spliced_cons ?_
  refine wpAny_Call_Name_kw (Calls.Name_function_global fk kl (Calls.loadGlobal_builtin (mg := mg) (mb := mb) (by rw [fg]; exact (M.glob.keeps keep).keeps ic.keep) hmg (by rw [fb]; exact (b1.keeps keep).keeps ic.keep) hv ?_))
  refine PyProof.Rows.callWith_builtin1 (Calls.spliced_cons (ld ic (Calls.spliced_nil (len_str (by have := PySem.sizeLine_eq; omega) ?_)))) rfl rfl
  refine Calls.spliced_cons (ld (ic.tok _) (Calls.spliced_nil ⟨by show 2 ≤ sizeLine; decide, ?_⟩))
  obtain ⟨h', tk, e⟩ := ic.same
  refine ⟨s1.heap.push { cls := .type "tuple", data := .seq #[.int (z.length : Nat) (s1.toks + 1), .str z t] }, s1.toks + 1 + 1, ?_, fun b o q => Heap.get?_push_of_some _ (ic.keep b o q), ?_⟩
  · subst e; rfl
  · exact .tuple (as := []) (Heap.get?_push_size _ rfl) rfl rfl (.cons (as := []) (bs := []) (.int _ _) (.cons (as := []) (bs := []) (.str _ _) .nil))
/-! ### the order -/
def leT (a b : Str) : Prop := a.length < b.length ∨ (a.length = b.length ∧ ¬ b.cps.toList < a.cps.toList)
theorem dataLe_keyT (a b : Str) : dataLe false keyT a b = true ↔ leT a b := by
  show (!dataLt (keyT b) (keyT a)) = true ↔ _
  unfold leT keyT
  rw [dataLt_pair (by simp [alike]) (by simp [alike]), dataLt_int, dataLt_str]
  simp only [PyData.eqv, beq_iff_eq]
  by_cases h1 : b.length = a.length
  · rw [if_pos (by omega)]
    by_cases h2 : b = a
    · rw [if_pos h2]
      subst h2
      simp only [Bool.not_false, true_iff]
      exact .inr ⟨trivial, List.lt_irrefl _⟩
    · rw [if_neg h2]
      simp only [Bool.not_eq_true', decide_eq_false_iff_not]
      exact ⟨fun h => .inr ⟨h1.symm, h⟩, fun h => by
        rcases h with h | h
        · omega
        · exact h.2⟩
  · rw [if_neg (by omega)]
    simp only [Bool.not_eq_true', decide_eq_false_iff_not]
    omega
theorem leT_total (a b : Str) : leT a b ∨ leT b a := by
  unfold leT
  by_cases h : a.length = b.length
  · by_cases h2 : b.cps.toList < a.cps.toList
    · exact .inr (.inr ⟨h.symm, List.lt_asymm h2⟩)
    · exact .inl (.inr ⟨h, h2⟩)
  · omega
section
variable {X : Cx}
theorem keyT_sorts (ys : List Str) : (ys.mergeSort (dataLe false keyT)).Perm ys ∧ (ys.mergeSort (dataLe false keyT)).Pairwise leT := by
  refine ⟨List.mergeSort_perm ys _, ?_⟩
  have t : TotalLe (dataLe false keyT) := sortLe_total _ _ _
  exact (sort_pairwise t ys).imp fun {a b} q => (dataLe_keyT a b).mp q
def rSortK (K : PySem.W.Frag) (f : Addr) : List V → List V → Hp → VK → Prop := fun vs zs H Q => ∃ (a : Addr) (ys : List Str), vs = [V.ref a] ∧ zs = [V.ref f] ∧ SqL K H a (ys.map V.str) ∧ (∀ y ∈ ys, y.length ≤ sizeLine) ∧
  ∀ (zs : List Str) (p : Addr), zs.Perm ys → zs.Pairwise leT → H p = none → Q (.ref p) (upd H p (.lst (zs.map V.str)))
theorem eachStrs {h : Heap} : ∀ {ys : List Str} {us : List Value}, Vals (ys.map V.str) us → EachIs (fun v y => ∃ t, v = Value.str y t) us ys
  | [], _, .nil => .nil
  | y :: ys, _, .cons r rs => .cons r (eachStrs (h := h) rs)
theorem valsStrs : ∀ {ys : List Str} {us : List Value}, EachIs (fun v y => ∃ t, v = Value.str y t) us ys → Vals (ys.map V.str) us
  | _, _, .nil => .nil
  | _, _, .cons r rs => .cons r (valsStrs rs)
theorem cr_sortK {qual : Str} {params : Arguments} {scope : Scope} {x n : Str} {f : Addr} {fd : FuncData} {k k' : Nat} {p1 p2 p3 p4 p5 p6 : Pos}
    (F : FunD X.K x qual params (keyBody n k p1 p2 p3 p4 p5 p6) scope [] [] f fd) (S : FnScope [n] [n] scope) (hn : scope.names = [(n, .local), ("len", .globalImplicit)])
    (hb : ∀ (s : Shared) (v : Value), BindsTo s fd ⟨[v], []⟩ [(n, v)]) (hnl : (n == ("__debug__" : Str)) = false) (hln : (("len" : Str) == n) = false) (hmg : X.mg "len" = none) (hr : Room k' X.A) :
    CallRK X (.builtin "sorted") [Str.ofString "key"] (rSortK X.K f) := by
  intro pins s σ H vs zs us ws Q I r rz h
  obtain ⟨a, ys, rfl, rfl, hs, hz, q⟩ := h
  obtain rfl := Vals.ref1 r
  obtain rfl := Vals.ref1 rz
  obtain ⟨its, rv, hl, hz2⟩ := I.list hs
  have hsz := PySem.sizeLine_eq
  have hlen : ys.length ≤ sizeLine := by rw [← List.length_map (f := V.str)]; exact hz2
  refine sorted_key_data (R := fun v y => ∃ t, v = Value.str y t) (b := false) keyT hl.isList (eachStrs (h := s.heap) rv) (AllAlike.of fun _ _ => by simp [alike, alikeAll, keyT]) (Sortable.tuples fun _ => ⟨_, _, rfl⟩) hlen (fun y _ => ?_) (ksk_s1 _ _) (fun _ => ksk_l1 _ _) (fun _ => ksk_t1 _ _) (fun v y hv hy h tk kp => ?_) fun out c h' tk kp hf hD ho eo => ?_
  · have hd : (keyT y).depth = 1 := by simp [keyT, PyData.depth, PyData.depthAll]
    have := hr.un
    omega
  · obtain ⟨t, rfl⟩ := hv
    exact key_run (s := { s with heap := h, toks := tk }) F S hn hb hnl hln I.mod hmg (fun b o e => kp b o (I.bk b o e)) (by have := hr.dp; show X.A.depth < _; omega) (hz y hy)
  · obtain ⟨w1, w2⟩ := keyT_sorts ys
    refine ⟨.ref _, upd H (s.heap.objs.size + 1) (.lst ((ys.mergeSort (dataLe false keyT)).map V.str)), I.laid (t' := tk) (fun b o e => kp b o e) (Nat.le_succ _) ⟨?_, out, c, valsStrs eo, hD⟩, rfl, q _ _ w1 w2 (I.hok.fresh (Nat.le_succ _))⟩
    rw [List.length_map, w1.length_eq]; exact hlen
def sortKP : PSp := fun ds P => match ds with
  | [d] => ∃ xs ys, lstOf d = some xs ∧ strsOf xs = some ys ∧ (∀ y ∈ ys, y.length ≤ sizeLine) ∧ ∀ zs : List Str, zs.Perm ys → zs.Pairwise leT → P (.lst (zs.map D.str))
  | _ => False
structure KeyF (K : PySem.W.Frag) (mg : MG) (x : Str) (f : Addr) : Prop where
  mgx : mg x = some (.ref f)
  ex : ∃ (qual : Str) (params : Arguments) (scope : Scope) (n : Str) (fd : FuncData) (k : Nat) (p1 p2 p3 p4 p5 p6 : Pos), FunD K x qual params (keyBody n k p1 p2 p3 p4 p5 p6) scope [] [] f fd ∧ FnScope [n] [n] scope ∧ scope.names = [(n, .local), ("len", .globalImplicit)] ∧
    (∀ (s : Shared) (v : Value), BindsTo s fd ⟨[v], []⟩ [(n, v)]) ∧ (n == ("__debug__" : Str)) = false ∧ (("len" : Str) == n) = false
theorem keyF_of {K : PySem.W.Frag} {mg : MG} {x n : Str} {st : Stmt} {f : Addr} {fd : FuncData} {k : Nat} {p1 p2 p3 p4 p5 p6 : Pos} (F : FnP K x st f fd) (g : mg x = some (.ref f)) (S : FnScope [n] [n] (defScope st))
    (hb : defBody st = keyBody n k p1 p2 p3 p4 p5 p6) (hn : (defScope st).names = [(n, .local), ("len", .globalImplicit)]) (b : ∀ (s : Shared) (us : List Value), us.length = ([n] : List Str).length → BindsTo s fd ⟨us, []⟩ (([n] : List Str).zip us))
    (hnl : (n == ("__debug__" : Str)) = false) (hln : (("len" : Str) == n) = false) : KeyF K mg x f := by
  refine ⟨g, x, defArgs st, defScope st, n, fd, k, p1, p2, p3, p4, p5, p6, ?_, S, hn, fun s v => b s [v] rfl, hnl, hln⟩
  rw [← hb]
  exact F
theorem sortKP_ok {K : PySem.W.Frag} {mg : MG} {f : Addr} {G H : Hp} {v : V} {d : D} {P : D → Prop} {Q : VK} (s : Same G H) (r : Shal K mg H G v d) (h : sortKP [d] P)
    (k : ∀ d l G' H', Ext G H G' H' → Top K mg H' G' l d → G' l = none → H l = none → P d → Q (.ref l) H') : rSortK K f [v] [.ref f] H Q := by
  obtain ⟨xs, ys, e1, e2, hz, q⟩ := h
  obtain ⟨l, ws, rfl, hl, rr⟩ := r.sql s e1
  have ew := reps_strs rr e2
  subst ew
  exact ⟨l, ys, rfl, rfl, hl, hz, fun zs p h1 h2 hn => k _ p G _ (Ext.newH s hn) (.lst upd_same (Reps.ofStrs zs)) (s.free hn) hn (q zs h1 h2)⟩
theorem puf_sortK {X : Cx} {a : Expr} {pa : PTE} {x : Str} {f : Addr} {k' : Nat} {pos p' p2 p3 : Pos} (KF : KeyF X.K X.mg x f) (hml : X.mg "len" = none) (hm : X.mg "sorted" = none) (hr : Room k' X.A) (h : PuO X a pa)
    (hs : starEach [a] X.env = (false, eval a X.env) :: starEach [] X.env := by rfl) (hg : Gl X "sorted" := by rfl) (hgx : Gl X x := by rfl) (hd : (x == ("__debug__" : Str)) = false := by decide)
    (he : backTo pos (starEach [a] X.env) = (false, eval a X.env) :: backTo pos (starEach [] X.env) := by rfl) (hpl : (backTo pos (starEach [a] X.env)).any (·.1) = false := by rfl)
    (hall : (backToKw pos (keywordEach [⟨some "key", .Name x p2, p3⟩] X.env)).all (·.1.isSome) = true := by rfl) (hnone : (backToKw pos (keywordEach [⟨some "key", .Name x p2, p3⟩] X.env)).any (·.1.isNone) = false := by rfl)
    (hks : (backToKw pos (keywordEach [⟨some "key", .Name x p2, p3⟩] X.env)).filterMap (·.1) = [Str.ofString "key"] := by rfl) :
    PuF X (.Call (.Name "sorted" p') [a] [⟨some "key", .Name x p2, p3⟩] pos) (pCall sortKP (paCons pa paNil)) := by
  obtain ⟨qual, params, scope, n, fd, k, q1, q2, q3, q4, q5, q6, F, S, hn, hb, hnl, hln⟩ := KF.ex
  obtain ⟨t, h1, h2⟩ := h.ex
  refine ⟨_, pe_callBK (cr_sortK F S hn hb hnl hln hml hr) hg hm (by decide +kernel) (pa_cons h1 pa_nil hs) (pk_cons (pe_glob (v := .ref f) hgx KF.mgx rfl hd) pk_nil) (by decide) (by decide) he hpl hall hnone hks, fun G H env σ P Q ok hp kk => h2 G H env σ _ _ ok hp fun d v G' H' y r q => ?_⟩
  exact sortKP_ok y.s r q fun d l G2 H2 z r2 g2 h2 q2 => kk d l G2 H2 (y.trans z) r2 g2 (y.h.free h2) q2
end
end
end PL
end

section
set_option linter.all false
set_option maxRecDepth 100000
set_option maxHeartbeats 4000000
set_option autoImplicit false
/-! PL29: isinstance of an own class; comprehensions over what may raise. -/
namespace PL
open PySem PySem.Spec PyProof.Rows L2
structure InsT (K : PySem.W.Frag) (mg : MG) (tab : OTab) (T : Str) (CT : Addr) : Prop where
  mgT : mg T = some (.ref CT)
  ob : ∀ c C, (tab.lookup c).isSome = true → mg c = some (.ref C) → PySem.W.kitOne K (.ref C) (.ref CT) = some (decide (c = T))
  bt : ∀ n ∈ tyNames, PySem.W.kitOne K (.type n) (.ref CT) = some false
  ty : ∀ c C, (tab.lookup c).isSome = true → mg c = some (.ref C) → ∀ (H : Hp) (a dx : Addr) (fs : List (Str × V)), H a = some (.ins C dx fs) → TyX K H (.ref a) (.ref C)
theorem mem_of_lookO {tab : OTab} {c : Str} (h : (tab.lookup c).isSome = true) : ∃ ns, (c, ns) ∈ tab ∧ tab.lookup c = some ns := by
  obtain ⟨ns, e⟩ := Option.isSome_iff_exists.mp h
  exact ⟨ns, mem_of_look e, e⟩
theorem insT_of {tab : OTab} {K : PySem.W.Frag} {h : Heap} {mg : MG} {T : Str} (X : K.In h) (G : h.Ns mainGlobals mg) (b : objB tab K = true) (b1 : insB tab K = true) (b2 : insTB tab K T = true) (hT : (tab.lookup T).isSome = true) : InsT K mg tab T (He.ga K T) := by
  unfold insB at b1
  unfold insTB at b2
  rw [Bool.and_eq_true, Bool.and_eq_true] at b1
  rw [Bool.and_eq_true] at b2
  obtain ⟨s1, s2, s3⟩ := b1
  obtain ⟨t1, t2⟩ := b2
  have mgc : ∀ c, (tab.lookup c).isSome = true → mg c = some (.ref (He.ga K c)) := fun c hc => by
    obtain ⟨ns, _, e⟩ := mem_of_lookO hc
    exact (obj_one X G b e).1
  refine ⟨mgc T hT, fun c C hc hm => ?_, fun n hn => of_decide_eq_true (List.all_eq_true.mp t2 n hn), fun c C hc hm H a dx fs e => ?_⟩
  · obtain ⟨ns, hmem, _⟩ := mem_of_lookO hc
    have := (mgc c hc).symm.trans hm
    cases this
    exact of_decide_eq_true (List.all_eq_true.mp t1 _ hmem)
  · obtain ⟨ns, hmem, el⟩ := mem_of_lookO hc
    have := (mgc c hc).symm.trans hm
    cases this
    have z := List.all_eq_true.mp s3 _ hmem
    rw [Bool.and_eq_true] at z
    exact .base (.ins e (obj_one X G b el).2.1 (He.eqO_ok z.1) (He.eqO_ok s1) (of_decide_eq_true s2) (of_decide_eq_true z.2))
def isoB (tab : OTab) (T : Str) : D → Option Bool
  | .obj c _ => if (tab.lookup c).isSome = true then some (decide (c = T)) else none
  | d => (tyName d).map fun _ => false
def isoP (tab : OTab) (T : Str) (p : PTE) : PTE := fun env P => p env fun d => ∃ b, isoB tab T d = some b ∧ P (.bl b)
theorem tyName_mem {d : D} {n : String} (h : tyName d = some n) : n ∈ tyNames := by
  cases d <;> (first | cases h | skip) <;> decide
section
variable {X : Cx} {a : Expr} {pa : PTE} {pos p' : Pos} {tab : OTab}
theorem pu_iso {T : Str} {CT : Addr} {p2 : Pos} (S : InsT X.K X.mg tab T CT) (hm : X.mg "isinstance" = none) (ha : PuO X a pa) (hg : Gl X "isinstance" := by rfl) (hgT : Gl X T := by rfl)
    (hs : starEach [a, .Name T p2] X.env = (false, eval a X.env) :: starEach [.Name T p2] X.env := by rfl) (hs2 : starEach [.Name T p2] X.env = (false, eval (.Name T p2) X.env) :: starEach [] X.env := by rfl) (hpl : (backTo pos (starEach [.Name T p2] X.env)).any (·.1) = false := by rfl)
    (hd : (T == ("__debug__" : Str)) = false := by decide) : PuE X (.Call (.Name "isinstance" p') [a, .Name T p2] [] pos) (isoP tab T pa) := by
  obtain ⟨t, h1, h2⟩ := ha.ex
  refine ⟨_, pe_callB call_isi hg hm (by decide +kernel) (pa_cons h1 (pa_cons (pe_glob (v := .ref CT) hgT S.mgT rfl hd) pa_nil hs2) hs) (by decide) (by decide) hs hpl, fun G H env σ P Q ok hp k => h2 G H env σ _ _ ok hp fun d v G' H' x r q => ?_⟩
  obtain ⟨b, e, q⟩ := q
  have base : ∀ n, tyName d = some n → b = false → rIsi X.K [v, .ref CT] H' Q := fun n hn hb => by
    subst hb
    exact ⟨v, .ref CT, .type n, .ref CT, false, rfl, .own CT, Rep.tyx r x.s hn, S.bt n (tyName_mem hn), k _ _ G' H' x (.bl false) q⟩
  have other : (tyName d).map (fun _ => false) = some b → rIsi X.K [v, .ref CT] H' Q := fun e => by
    cases hn : tyName d with
    | none => rw [hn] at e; cases e
    | some n => rw [hn] at e; cases e; exact base n hn rfl
  cases d with
  | obj c fs =>
    by_cases hc : (tab.lookup c).isSome = true
    · have e : (if (tab.lookup c).isSome = true then some (decide (c = T)) else none) = some b := e
      rw [if_pos hc] at e
      cases e
      obtain ⟨l, C, dx, vs, ds', rfl, hl, hm', _⟩ := Shal.obj r x.s
      exact ⟨.ref l, .ref CT, .ref C, .ref CT, _, rfl, .own CT, S.ty c C hc hm' H' l dx vs hl, S.ob c C hc hm', k _ _ G' H' x (.bl _) q⟩
    · have e : (if (tab.lookup c).isSome = true then some (decide (c = T)) else none) = some b := e
      rw [if_neg hc] at e
      cases e
  | non => exact other e
  | bl _ => exact other e
  | int _ => exact other e
  | str _ => exact other e
  | tup _ => exact other e
  | lst _ => exact other e
  | scr _ => exact other e
  | dk _ => exact other e
  | dt _ => exact other e
  | err _ _ => exact other e
end
/-! ### what may raise: built-in functions, join, comprehensions over it -/
abbrev PTIX := List C → (Sq → Prop) → (D → Prop) → Prop
structure PuIX (X : Cx) (tg iter : Expr) (p : PTIX) : Prop where
  ex : ∃ w : TI, PI X tg iter w ∧ ∀ (G H : Hp) (env : List C) (σ : L2.St) (P : Sq → Prop) (R : D → Prop) (Q : It → Hp → Prop) (Wx : WX), Takes X Wx → Ok X.K X.mg G H env σ → p env P R →
    (∀ S J G' H', Ext G H G' H' → Walks X.K X.mg G' S J → P S → Q J H') → XOk X Wx G H σ R → w σ H Q
def xiE (p : PTX) : PTIX := fun env P R => p env (itP P) R
def xLc (px : PTIX) (vs : List Nat) (g : PTG) (pt : PTT) (pe : PTE) : PTX := fun env P R => px env (fun S => ∃ W : Nat → List D → Prop, W 0 [] ∧
  (∀ k d acc, k < S.n → S.ob k d → W k acc → g d (wipeC env vs) fun env2 => pt env2 fun b => if b = true then pe env2 fun y => acc.length < sizeLine ∧ W (k + 1) (acc ++ [y]) else W (k + 1) acc) ∧
  ∀ acc, W S.n acc → P (.lst acc)) R
theorem xLc_eq (px : PTIX) (vs : List Nat) (g : PTG) (pt : PTT) (pe : PTE) (env : List C) (P R : D → Prop) : xLc px vs g pt pe env P R = px env (fun S => LcP S vs g pt pe env P) R := rfl
section
variable {X : Cx} {e a b : Expr} {es : List Expr} {pe pa : PTE} {p : PTX} {pxa : PTAX} {px : PTIX} {pos p' : Pos} {x : Str} {id : String} {r : List V → Hp → VK → Prop} {f : PSp}
theorem reps_shals {K : PySem.W.Frag} {mg : MG} {G H : Hp} : ∀ {vs : List V} {ds : List D}, Reps K mg G vs ds → Shals K mg H G vs ds
  | _, _, .nil => .nil
  | _, _, .cons r rs => .cons (.inl r) (reps_shals rs)
def xBi (f : PSp) (p : PTAX) : PTX := fun env P R => p env (fun ds => f ds P) R
theorem pux_bi (hc : CallR X (.builtin id) r) (hf : CallOk X r f) (hm : X.mg x = none) (h : PuAX X (e :: es) pxa) (hg : Gl X x := by rfl) (hv : bootBuiltins x = some (.builtin id) := by decide +kernel) (hn : x ≠ "__name__" := by decide) (hdb : (x == ("__debug__" : Str)) = false := by decide)
    (he : starEach (e :: es) X.env = (false, eval e X.env) :: starEach es X.env := by rfl) (hpl : (backTo pos (starEach es X.env)).any (·.1) = false := by rfl) : PuX X (.Call (.Name x p') (e :: es) [] pos) (xBi f pxa) := by
  obtain ⟨t, h1, h2⟩ := h.ex
  refine ⟨_, pe_callB hc hg hm hv h1 hn hdb he hpl, fun G H env σ P R Q W tk ok hp k kx => h2 G H env σ _ R _ W tk ok hp (fun ds vs G' H' y rs q => ?_) kx⟩
  exact hf G' H' vs ds P Q y.s (reps_shals rs) q fun d u G2 H2 z r2 q2 => k d u G2 H2 (y.trans z) r2 q2
theorem pux_ty {T : String} (hc : CallR X (.type T) r) (hf : CallOk X r f) (hm : X.mg x = none) (h : PuAX X (e :: es) pxa) (hg : Gl X x := by rfl) (hv : bootBuiltins x = some (.type T) := by decide +kernel) (hn : x ≠ "__name__" := by decide) (hdb : (x == ("__debug__" : Str)) = false := by decide)
    (he : starEach (e :: es) X.env = (false, eval e X.env) :: starEach es X.env := by rfl) (hpl : (backTo pos (starEach es X.env)).any (·.1) = false := by rfl) : PuX X (.Call (.Name x p') (e :: es) [] pos) (xBi f pxa) := by
  obtain ⟨t, h1, h2⟩ := h.ex
  refine ⟨_, pe_callTy hc hg hm hv h1 hn hdb he hpl, fun G H env σ P R Q W tk ok hp k kx => h2 G H env σ _ R _ W tk ok hp (fun ds vs G' H' y rs q => ?_) kx⟩
  exact hf G' H' vs ds P Q y.s (reps_shals rs) q fun d u G2 H2 z r2 q2 => k d u G2 H2 (y.trans z) r2 q2
theorem pux_tuple (hm : X.mg "tuple" = none) (h : PuX X a p) (hs : starEach [a] X.env = (false, eval a X.env) :: starEach [] X.env := by rfl) (hg : Gl X "tuple" := by rfl) : PuX X (.Call (.Name "tuple" p') [a] [] pos) (xBi tupleP (xaCons p xaNil)) :=
  pux_ty call_tuple_of tupleP_ok hm (puax_cons h puax_nil hs) hg (by decide +kernel) (by decide) (by decide) hs rfl
theorem pux_len (hm : X.mg "len" = none) (h : PuX X a p) (hs : starEach [a] X.env = (false, eval a X.env) :: starEach [] X.env := by rfl) (hg : Gl X "len" := by rfl) : PuX X (.Call (.Name "len" p') [a] [] pos) (xBi lenP (xaCons p xaNil)) :=
  pux_bi cr_len lenP_ok hm (puax_cons h puax_nil hs) hg (by decide +kernel) (by decide) (by decide) hs rfl
def xJoin (pa : PTE) (q : PTX) : PTX := fun env P R => pa env (asS fun z => q env (fun y => joinP z y P) R)
theorem pux_join {q : PTX} {apos : Pos} (ho : PuE X a pa) (he : PuX X b q) (hs : starEach [b] X.env = [(false, eval b X.env)] := by rfl) (hbase : attributeBase a "join" X.env (eval a X.env) = eval a X.env := by rfl) (hline : (apos.endLine == pos.line) = true := by rfl) :
    PuX X (.Call (.Attribute a "join" apos) [b] [] pos) (xJoin pa q) := by
  obtain ⟨t, h1, h2⟩ := ho.ex
  obtain ⟨u, g1, g2⟩ := he.ex
  refine ⟨_, pe_join h1 g1 hs hbase hline, fun G H env σ P R Q W tk ok hp k kx => h2 G H env σ _ _ ok hp fun x v G1 H1 e1 r1 q1 => ?_⟩
  obtain ⟨z, rfl, q1⟩ := asS_rep r1 q1
  refine ⟨⟨z, rfl⟩, g2 G1 H1 env σ _ R _ W tk (ok.ext e1) q1 (fun y w G2 H2 e2 r2 q2 => ?_) (kx.step e1)⟩
  obtain ⟨xs, ys, i1, i2, hz, q2⟩ := q2
  obtain ⟨l, ws, rfl, hl, rr⟩ := Shal.items (.inl r2) e2.s i1
  have ew := reps_strs rr i2
  subst ew
  exact ⟨z, l, ys, rfl, rfl, hl, hz, k _ _ G2 H2 (e1.trans e2) (.str _) q2⟩
theorem pix_e {tg : Expr} (h : PuX X e p) : PuIX X tg e (xiE p) := by
  obtain ⟨t, h1, h2⟩ := h.ex
  refine ⟨_, pi_any h1, fun G H env σ P R Q W tk ok hp k kx => h2 G H env σ _ R _ W tk ok hp (fun d v G' H' x r q => ?_) kx⟩
  unfold itP at q
  split at q
  · cases r with
    | lst e rs => exact .inl ⟨_, rfl, ⟨_, SqL.of (x.s _ _ e)⟩, k _ _ G' H' x (walks_list (SqL.of e) rs) q⟩
  · cases r with
    | tup e rs => exact .inr (.inl ⟨_, rfl, ⟨_, SqT.of (x.s _ _ e)⟩, k _ _ G' H' x (walks_tup (SqT.of e) rs) q⟩)
  · cases r with
    | scr e rs => exact .inl ⟨_, rfl, ⟨_, x.s.seq e⟩, k _ _ G' H' x (walks_list e rs) q⟩
  · cases r
    exact .inr (.inr ⟨_, rfl, k _ _ G' H' x (walks_str _) q⟩)
  · exact q.elim
variable {elt tg iter : Expr} {ifs : List Expr} {scope : Scope} {own : List (Str × Nat)} {g : PTG} {is : List Nat} {pt : PTT}
theorem lc_readsX (hi : PuIX X tg iter px) (hg : BlkG X scope tg g is) (ht : BlkT X scope ifs pt) (he : BlkE X scope elt pe) (vs : List Nat) (hv : ∀ i ∈ is, i ∈ vs) :
    ∃ w : TI, PI X tg iter w ∧ ∀ (G H : Hp) (env : List C) (σ : L2.St) (P R : D → Prop) (Q : VK) (Wx : WX), Takes X Wx → Ok X.K X.mg G H env σ → xLc px vs g pt pe env P R →
    (∀ d l G' H', Ext G H G' H' → Top X.K X.mg H' G' l d → G' l = none → H l = none → P d → Q (.ref l) H') → XOk X Wx G H σ R → tLc w (allG X scope tg) (allT X scope ifs) (allE X scope elt) vs σ H Q := by
  obtain ⟨w, w1, w2⟩ := hi.ex
  refine ⟨w, w1, fun G H env σ P R Q Wx tk ok hp k kx => ?_⟩
  refine w2 G H env σ _ R _ Wx tk ok hp (fun S J G1 H1 x1 wk ⟨W, w0, step, fin⟩ dd hD => ?_) kx
  have nG1 : G1 dd = none := x1.s.free hD
  have ok1 := ok.ext x1
  have nown : ∀ (i : Nat) (d : D), env[i]? = some (.ow d) → ∀ l, σ[i]? = some (some (.ref l)) → l ≠ dd := fun i d q l hl z => by
    obtain ⟨m, e1, t1, _⟩ := ok1.slot i _ q
    rw [hl] at e1
    cases e1
    obtain ⟨o, ho⟩ := t1.some
    rw [z, hD] at ho; cases ho
  -- the state behind a turn
  have turn : ∀ (G2 H2 : Hp) (o : HO), Ok X.K X.mg G2 H2 env σ → Same G1 G2 → G2 dd = none → Same H1 H2 → (∀ a, G1 a = none → G2 a ≠ none → H1 a = none) → Ok X.K X.mg G2 (upd H2 dd o) env σ := fun G2 H2 o ok2 s2 n2 _ _ => by
    refine ⟨fun b u e => ?_, fun i c q => ?_, ok2.apart, ok2.len⟩
    · have : b ≠ dd := fun z => by subst z; rw [n2] at e; cases e
      rw [upd_ne this]; exact ok2.same _ _ e
    · have s := ok2.slot i c q
      cases c with
      | un => trivial
      | fz d => exact s
      | ow d =>
        obtain ⟨l, e1, t1, n1⟩ := s
        have ne := nown i d q l e1
        refine ⟨l, e1, ?_, n1⟩
        cases t1 with
        | lst a r => exact .lst (by rw [upd_ne ne]; exact a) r
        | dk a r => exact .dk (by rw [upd_ne ne]; exact a) r
        | dt a r => exact .dt (by rw [upd_ne ne]; exact a) r
        | slf a cm r => exact .slf (by rw [upd_ne ne]; exact a) cm r
  refine ⟨fun i m H' => m = S.n - i ∧ i ≤ S.n ∧ ∃ G' acc ys, Ok X.K X.mg G' H' env σ ∧ Same G1 G' ∧ Same H1 H' ∧ (∀ a, G1 a = none → G' a ≠ none → H1 a = none) ∧ G' dd = none ∧ H' dd = some (.lst ys) ∧ Reps X.K X.mg G' ys acc ∧ W i acc,
    ⟨S.n, by simp, Nat.zero_le _, G1, [], [], turn G1 H1 _ ok1 (Same.refl _) nG1 (Same.refl _) (fun _ e n => absurd e n), Same.refl _, Same.upd hD, fun _ e n => absurd e n, nG1, upd_same, .nil, w0⟩, ?_⟩
  rintro i m H2 ⟨rfl, hi, G2, acc, ys, ok2, s2, sH2, f2, n2, hd2, ra, w2'⟩
  by_cases hlt : i < S.n
  · refine .inr ⟨wk.go i G2 H2 s2 ok2.same hlt, fun H' => ∃ G' acc ys, Ok X.K X.mg G' H' env σ ∧ Same G1 G' ∧ Same H1 H' ∧ (∀ a, G1 a = none → G' a ≠ none → H1 a = none) ∧ G' dd = none ∧ H' dd = some (.lst ys) ∧ Reps X.K X.mg G' ys acc ∧ W (i + 1) acc, fun H' q => ⟨S.n - (i + 1), by omega, rfl, hlt, q⟩, fun xv H3 y => ?_⟩
    obtain ⟨G3, d, x3, rp, ob⟩ := wk.yld i G2 H2 xv H3 s2 ok2.same hlt y
    have ok3 := ok2.ext x3
    have okw := ok3.wipe vs
    have st := step i d acc hlt ob w2'
    have nd : ∀ {G' H' : Hp}, Ext G2 H2 G' H' → G' dd = none := fun {G' H'} x => by
      cases q : G' dd with
      | none => rfl
      | some o => 
        have := x.f dd n2 (by rw [q]; intro z; cases z)
        rw [hd2] at this; cases this
    intro sB HB CB clB fpB
    obtain ⟨tg', tg1, tg2⟩ := (hg sB HB CB clB fpB).ex
    refine ⟨tg', tg1, ?_⟩
    have rel : Rel X.K X.mg G3 G3 G3 H3 (wipeC env vs) (wipe σ vs) := ⟨okw, ⟨Same.refl _, okw.same, okw.same, fun _ e n => absurd e n⟩, fun j d' l q s => by
      obtain ⟨m, e1, _, n⟩ := okw.slot j _ q
      rw [e1] at s; cases s; exact n⟩
    refine tg2 G3 G3 G3 H3 _ _ d xv _ _ rel rp st fun env4 σ4 r4 o4 q4 => ⟨wipe_off o4 hv |>.trans ?_, ?_⟩
    · -- wiping twice
      have : ∀ vs' : List Nat, (∀ i ∈ vs', i ∈ vs) → wipe (wipe σ vs) vs = wipe σ vs := fun _ _ => by
        apply List.ext_getElem?
        intro j
        have key : ∀ (us : List Nat) (τ : L2.St) (j : Nat), (wipe τ us)[j]? = if j ∈ us ∧ j < τ.length then some none else τ[j]? := by
          intro us τ j
          induction us with
          | nil => simp [wipe]
          | cons v us ih =>
            unfold wipe
            rw [List.getElem?_set]
            by_cases hv : v = j
            · subst hv
              rw [wipe_length]
              by_cases hl : v < τ.length
              · simp [hl]
              · simp [hl]
            · rw [if_neg hv, ih]
              have : (j ∈ v :: us) ↔ j ∈ us := by simp [Ne.symm hv]
              simp only [this]
        rw [key, key, wipe_length]
        split <;> simp_all
      exact this vs fun _ h => h
    · intro sT HT CT clT fpT
      obtain ⟨tt', tt1, tt2⟩ := (ht sT HT CT clT fpT).ex
      refine ⟨tt', tt1, tt2 G3 H3 env4 σ4 _ _ r4.ok q4 fun b G5 H5 x5 q5 => ?_⟩
      have chain5 : Ext G2 H2 G5 H5 := x3.trans x5
      cases b with
      | false =>
        simp only [Bool.false_eq_true, if_false] at q5 ⊢
        refine ⟨G5, acc, ys, ok2.ext chain5, s2.trans chain5.g, sH2.trans chain5.h, fun a e n => ?_, nd chain5, chain5.h _ _ hd2, ra.mono chain5.g, q5⟩
        by_cases z : G2 a = none
        · exact sH2.free (chain5.f a z n)
        · exact f2 a e z
      | true =>
        simp only [if_true] at q5 ⊢
        intro sE HE CE clE fpE
        obtain ⟨te', te1, te2⟩ := (he sE HE CE clE fpE).ex
        refine ⟨te', te1, te2 G5 H5 env4 σ4 _ _ (r4.ok.ext x5) q5 fun yd yv G6 H6 x6 ry q6 => ?_⟩
        have chain6 : Ext G2 H2 G6 H6 := chain5.trans x6
        have ok6 := ok2.ext chain6
        have n6 := nd chain6
        have f6 : ∀ a, G1 a = none → G6 a ≠ none → H1 a = none := fun a e n => by
          by_cases z : G2 a = none
          · exact sH2.free (chain6.f a z n)
          · exact f2 a e z
        refine ⟨ys, chain6.h _ _ hd2, by rw [ra.length]; exact q6.1, G6, acc ++ [yd], ys ++ [yv], turn G6 H6 _ ok6 (s2.trans chain6.g) n6 (sH2.trans chain6.h) f6, s2.trans chain6.g, fun b u e => ?_, f6, n6, upd_same, (ra.mono chain6.g).append (.cons ry .nil), q6.2⟩
        have : b ≠ dd := fun z => by subst z; rw [hD] at e; cases e
        rw [upd_ne this]; exact chain6.h _ _ (sH2 _ _ e)
  · have e : i = S.n := by omega
    subst e
    refine .inl ⟨wk.stop G2 H2 s2 ok2.same, k (.lst acc) dd G2 H2 ⟨x1.g.trans s2, x1.h.trans sH2, ok2.same, fun a e n => ?_⟩ (.lst hd2 ra) n2 (x1.h.free hD) (fin acc w2')⟩
    by_cases z : G1 a = none
    · exact x1.h.free (f2 a z n)
    · exact x1.f a e z
theorem pux_lc {vs : List Nat} (hc : X.calm = true) (hN : X.N.Nodup) (hi : PuIX X tg iter px) (ok : BlkOk X.N X.env.scope scope own) (hg : BlkG X scope tg g is) (ht : BlkT X scope ifs pt) (he : BlkE X scope elt pe)
    (hvs : own.map (·.2) = vs := by rfl) (hv : ∀ i ∈ is, i ∈ vs := by decide) (hs : ∀ x, foldedSetIterable iter X.env x = pure x := by intro _; rfl) : PuX X (.ListComp elt [⟨tg, iter, ifs, 0⟩] scope pos) (xLc px vs g pt pe) := by
  subst hvs
  obtain ⟨w, w1, w2⟩ := lc_readsX hi hg ht he (own.map (·.2)) hv
  refine ⟨_, pe_lc hc hN w1 ok allG_ok allT_ok allE_ok hs, fun G H env σ P R Q W tk okk hp k kx => w2 G H env σ P R Q W tk okk hp (fun d l G' H' x r n nH q => ?_) kx⟩
  obtain ⟨o, ho, r', s1, s2⟩ := r.freeze x.s n
  refine k d _ (upd G' l o) H' ⟨x.g.trans s1, x.h, s2, fun a e1 ne => ?_⟩ r' q
  by_cases hal : a = l
  · subst hal; exact nH
  · rw [upd_ne hal] at ne; exact x.f a e1 ne
end
end PL
end

section
set_option linter.all false
set_option maxRecDepth 100000
set_option maxHeartbeats 4000000
set_option autoImplicit false
/-! PL30: repr of a tuple, in a law's own def. -/
namespace PL
open PySem PySem.Spec PyProof.Rows L2
section
variable {X : Cx} {a : Expr} {pa : PTE} {pos p' : Pos}
def reprTP : PSp := fun ds P => match ds with
  | [.tup xs] => flats xs = true ∧ (toPy (.tup xs)).showable = true ∧ (toPy (.tup xs)).hasDict = false ∧ (toPy (.tup xs)).depth ≤ 64 ∧ (toPy (.tup xs)).shown.length ≤ sizeLine ∧ P (.str (toPy (.tup xs)).shown)
  | _ => False
theorem reprTP_t {P : D → Prop} {xs : List D} : reprTP [.tup xs] P = (flats xs = true ∧ (toPy (.tup xs)).showable = true ∧ (toPy (.tup xs)).hasDict = false ∧ (toPy (.tup xs)).depth ≤ 64 ∧ (toPy (.tup xs)).shown.length ≤ sizeLine ∧ P (.str (toPy (.tup xs)).shown)) := rfl
theorem reprTP_ok : CallOk X (rRep X.K) reprTP := by
  intro G H vs ds P Q s rs h k
  unfold reprTP at h
  split at h
  · rename_i xs
    obtain ⟨v, rfl, r⟩ := one_shal rs
    obtain ⟨h1, h2, h3, h4, h5, h6⟩ := h
    have hd := r.dp s (d := .tup xs) h1
    obtain ⟨l, ws, rfl, _, _⟩ := r.tup s
    exact ⟨l, _, rfl, hd, h2, h3, h4, h5, k _ _ G H (.refl s) (.str _) h6⟩
  · exact h.elim
theorem pu_reprT (hg : X.A.guards = some []) {k : Nat} (hr : Room k X.A) (hm : X.mg "repr" = none) (h : PuO X a pa) (hs : starEach [a] X.env = (false, eval a X.env) :: starEach [] X.env := by rfl) (hgl : Gl X "repr" := by rfl) : PuE X (.Call (.Name "repr" p') [a] [] pos) (pCall reprTP (paCons pa paNil)) :=
  pu_bi (cr_rep hg (Room.u65 hr)) reprTP_ok hm (puao_cons h puao_nil hs) hgl (by decide +kernel) (by decide) (by decide) hs rfl
end
end PL
end

section
set_option linter.all false
set_option maxRecDepth 100000
set_option maxHeartbeats 4000000
set_option autoImplicit false
/-! PL31: methods of own classes, on objects that nobody changes; == by an own __eq__. -/
namespace PL
open PySem PySem.Spec PyProof.Rows L2
/-- THE RULE for a method over data -/
theorem pfnM {P : Program} {w : World} {K : PySem.W.Frag} {mg : MG} {base : Heap} {x qual : Str} {st : Stmt} {f : Addr} {fd : FuncData} {N ns : List Str} {k : Nat} {sp : PSp} {p : PTS} (F : FunD K x qual (defArgs st) (defBody st) (defScope st) [] [] f fd) (S : FnScope N ns (defScope st)) (hlen : ∀ ds P, sp ds P → ds.length = ns.length)
    (hbody : ∀ (cdv : Value) (A : Around) (outer : List Env) (s : Shared) (H : Hp) (E : XK), Room k (A.deeper (envOfC qual (defScope st) s.heap.objs.size f cdv)) →
      PuSs (cxOf CX0 P w K mg base N qual (defScope st) f cdv A outer s H E).nox (defBody st) p) (hp : ∀ ds Q, sp ds Q → p { nx := fun _ => Q .non, rt := Q } (startC N ds)) : FnOk P w K mg base CX0 (k + 1) f fd ns (spP K mg sp) := by
  refine FunD.ok F S (fun vs H Q E h => ?_) (fun cdv A outer s H vs Q E hr h => ?_)
  · obtain ⟨G, ds, P', _, r, q, _⟩ := h
    rw [r.length]; exact hlen ds P' q
  · obtain ⟨G, ds, P', sm, r, q, kk⟩ := h
    obtain ⟨t, t1, t2⟩ := (hbody cdv A outer s H E hr).ex
    refine ⟨t, t1.nox, t2 G H G H _ _ { nx := fun _ => P' .non, rt := P' } _ ⟨start_ok sm r, .refl sm, fun i d l q => ?_⟩ ⟨?_, ?_, ?_, ?_, fun _ _ _ _ _ _ _ _ z => z.elim, ⟨_, tk0, fun _ _ _ _ _ _ _ _ _ _ _ _ _ _ _ z => z.elim⟩⟩ (hp ds P' q)⟩
    · intro s1
      exfalso
      unfold startC at q
      by_cases hk : i < ds.length
      · rw [List.getElem?_append_left (by simpa using hk), List.getElem?_map] at q
        cases e : ds[i]? with
        | none => rw [e] at q; cases q
        | some d => rw [e] at q; cases q
      · rw [List.getElem?_append_right (by simpa using hk), List.getElem?_replicate] at q
        split at q <;> cases q
    · intro G' H' env σ r' z
      exact kk .non .non G' H' r'.ext .non z
    · intro G' H' env σ r' z; exact z
    · intro G' H' env σ r' z; exact z
    · intro G' H' d v x rp z
      exact kk d v G' H' x rp z
/-- a method that may be called -/
structure MCl (P : Program) (w : World) (K : PySem.W.Frag) (mg : MG) (base : Heap) (cls m : Str) (ns : List Str) (k : Nat) (Cc f : Addr) (fd : FuncData) (sp : PSp) : Prop where
  gm : mg cls = some (.ref Cc)
  cl : Cls K Cc
  me : Meth K Cc m f
  ok : FnOk P w K mg base CX0 k f fd ns (spP K mg sp)
  b : Binds K fd ns []
theorem RepF.none {K : PySem.W.Frag} {mg : MG} {G : Hp} {m : Str} : ∀ {vs : List (Str × V)} {ds : List (Str × D)}, RepF K mg G vs ds → ds.lookup m = none → vs.lookup m = none
  | _, _, .nil, _ => rfl
  | _, _, .cons (k := k) (v := v) (vs := vs) _ t, h => by
    rw [List.lookup_cons] at h ⊢
    cases e : (m == k) with
    | true => rw [e] at h; cases h
    | false =>
      rw [e] at h
      exact RepF.none t h
def pMeth (cls m : Str) (sp : PSp) (po : PTE) (pa : PTA) : PTE := fun env P => po env fun d => ∃ fs, d = .obj cls fs ∧ fs.lookup m = none ∧ pa env fun ds => sp (d :: ds) P
section
variable {X : Cx} {o e : Expr} {es : List Expr} {po : PTE} {pa : PTA} {pos apos : Pos}
theorem pMeth_at {cls m : Str} {sp : PSp} {pa : PTA} {ta : TA} {k : Nat} {Cc f : Addr} {fd : FuncData} {ns : List Str} {env : List C} {P : D → Prop} {Q : VK} {G H G1 H1 : Hp} {σ : L2.St} {d : D} {v : V}
    (M : MCl X.prog X.w X.K X.mg X.base cls m ns k Cc f fd sp) (ok : Ok X.K X.mg G H env σ) (x : Ext G H G1 H1) (r : Rep X.K X.mg G1 v d)
    (ha : ∀ (G H : Hp) (env : List C) (σ : L2.St) (P : List D → Prop) (Q : List V → Hp → Prop), Ok X.K X.mg G H env σ → pa env P → (∀ ds vs G' H', Ext G H G' H' → Reps X.K X.mg G' vs ds → P ds → Q vs H') → ta σ H Q)
    (q : ∃ fs, d = .obj cls fs ∧ fs.lookup m = none ∧ pa env fun ds => sp (d :: ds) P)
    (kk : ∀ d v G' H', Ext G H G' H' → Rep X.K X.mg G' v d → P d → Q v H') :
    ∃ a dx fs, v = .ref a ∧ H1 a = some (.ins Cc dx fs) ∧ fs.lookup m = none ∧ ta σ H1 fun vs H2 => spP X.K X.mg sp (v :: (vs ++ [])) H2 Q E0 := by
  obtain ⟨fs, rfl, hl, q⟩ := q
  obtain ⟨a, C, dx, vs, ds', rfl, hH, hm, rf, hd⟩ := Shal.obj (.inl r : Shal X.K X.mg H1 G1 v (.obj cls fs)) x.s
  have := M.gm.symm.trans hm
  cases this
  have hl2 : ds'.lookup m = none := by
    rcases hd with rfl | rfl
    · exact hl
    · rw [List.lookup_cons] at hl
      split at hl
      · cases hl
      · exact hl
  refine ⟨a, dx, vs, rfl, hH, rf.none hl2, ha G1 H1 env σ _ _ (ok.ext x) q fun ds ws G2 H2 y rs q2 => ?_⟩
  rw [List.append_nil]
  exact ⟨G2, _, P, y.s, .cons (r.mono y.g) rs, q2, fun d v G3 H3 z r3 q3 => kk d v G3 H3 ((x.trans y).trans z) r3 q3⟩
theorem pu_meth {pl : Sem Bool} {cls m : Str} {sp : PSp} {k k' : Nat} {Cc f : Addr} {fd : FuncData} {ns : List Str} (M : MCl X.prog X.w X.K X.mg X.base cls m ns k Cc f fd sp) (hr : Room k' X.A) (ho : PuE X o po) (ha : PuA X (e :: es) pa) (hk : k ≤ k' := by decide)
    (hst : starEach (e :: es) X.env = (false, eval e X.env) :: starEach es X.env := by rfl) (hpl : (backTo pos (starEach es X.env)).any (·.1) = false := by rfl)
    (ht : eval (.Call (.Attribute o m apos) (e :: es) [] pos) X.env = (do
      let ov ← eval o X.env
      standAt apos.atName
      let (f, first) ← holding [ov] (getMethod ov m pl)
      callWith pos f first (backTo pos (starEach (e :: es) X.env)) (backToKw pos (keywordEach [] X.env))) := by rfl) :
    PuE X (.Call (.Attribute o m apos) (e :: es) [] pos) (pMeth cls m sp po pa) := by
  obtain ⟨t, h1, h2⟩ := ho.ex
  obtain ⟨u, g1, g2⟩ := ha.ex
  refine ⟨_, pe_meth h1 M.cl M.me M.ok (hr.mono hk) M.b (dvs := []) .nil pass0 g1 hst hpl ht, fun G H env σ P Q ok hp kk => h2 G H env σ _ _ ok hp fun d v G' H' x r q => pMeth_at M ok x r g2 q kk⟩
theorem pu_meth0 {pl : Sem Bool} {cls m : Str} {sp : PSp} {k k' : Nat} {Cc f : Addr} {fd : FuncData} {ns : List Str} (M : MCl X.prog X.w X.K X.mg X.base cls m ns k Cc f fd sp) (hr : Room k' X.A) (ho : PuE X o po) (hk : k ≤ k' := by decide)
    (ht : eval (.Call (.Attribute o m apos) [] [] pos) X.env = (do
      let ov ← eval o X.env
      standAt apos.atName
      let (f, first) ← holding [ov] (getMethod ov m pl)
      callWith pos f first (backTo pos (starEach [] X.env)) (backToKw pos (keywordEach [] X.env))) := by rfl) :
    PuE X (.Call (.Attribute o m apos) [] [] pos) (pMeth cls m sp po paNil) := by
  obtain ⟨t, h1, h2⟩ := ho.ex
  refine ⟨_, pe_meth0 h1 M.cl M.me M.ok (hr.mono hk) M.b (dvs := []) .nil pass0 ht, fun G H env σ P Q ok hp kk => h2 G H env σ _ _ ok hp fun d v G' H' x r q => pMeth_at M ok x r (fun G H env σ P Q ok hp k => k [] [] G H (.refl ok.same) .nil hp) q kk⟩
end
/-! ### x == y by the own __eq__ of x's class -/
def rOE (K : PySem.W.Frag) (C : Addr) (sp : Sp) (E : XK) : R2 := fun x y H Q => ∃ a dx fs t, x = .ref a ∧ H a = some (.ins C dx fs) ∧ TyX K H y t ∧ PySem.W.notFirst K C t = true ∧ sp [x, y] H Q E
theorem op_oe {X : Cx} {C f : Addr} {fd : FuncData} {ns : List Str} {k : Nat} {sp : Sp} (F : FnOk X.prog X.w X.K X.mg X.base CX0 k f fd ns sp) (hr : Room k X.A) (hb : Binds X.K fd ns []) (hm : Meth X.K C "__eq__" f) :
    OpR X (compareOp .Eq) (rOE X.K C sp E0) := by
  intro pins s σ H x y v u Q I rx ry h
  obtain ⟨a, dx, fs, t, rfl, ha, ty, hn, q⟩ := h
  cases (show v = Value.ref a from rx)
  obtain ⟨mA, J, _⟩ := ins_get I.hok ha
  obtain ⟨od, J, _⟩ := J.look
  obtain ⟨m, hF⟩ := I.fr
  obtain ⟨Pk, kx, hp, _⟩ := kit_of I ry ty
  show wpAny _ _ (richCompare .Eq (.ref a) u) _ _ _
  refine PySem.W.cmp_K (op := .Eq) (tb := t) hr.units0 hF I.ok.mod.kin J (kx.ty _ _ I.kIn hp) hn hm.at_ hm.fn ?_
  refine wpAny_mono (run_fn (us := [.ref a, u]) (vs := [.ref a, y]) (dvs := []) F hr hb .nil pass0 I (.cons rfl (.cons ry .nil)) q) (fun w s' z => ?_) fun _ _ x => x
  obtain ⟨z', H', I', rz, qz⟩ := z
  exact SlX.cmpback rz ⟨z', H', I', rz, qz⟩
theorem notFirst_ty {K : PySem.W.Frag} {C : Addr} : ∀ n ∈ tyNames, PySem.W.notFirst K C (.type n) = true := by
  intro n hn
  simp only [tyNames, List.mem_cons, List.not_mem_nil, or_false] at hn
  rcases hn with rfl | rfl | rfl | rfl | rfl | rfl | rfl <;> kernel_rfl
def pOEq (cls : Str) (sp : PSp) (pa pb : PTE) : PTE := fun env P => pa env fun x => pb env fun y => (∃ fs, x = .obj cls fs) ∧ ((∃ fs, y = .obj cls fs) ∨ ∃ n, tyName y = some n) ∧ sp [x, y] P
theorem pu_oeq {X : Cx} {a b : Expr} {pa pb : PTE} {pos : Pos} {tab : OTab} {cls : Str} {sp : PSp} {k k' : Nat} {Cc f CT : Addr} {fd : FuncData} {ns : List Str} (M : MCl X.prog X.w X.K X.mg X.base cls "__eq__" ns k Cc f fd sp) (S : InsT X.K X.mg tab cls CT) (hr : Room k' X.A) (ha : PuE X a pa) (hb : PuE X b pb)
    (hk : k ≤ k' := by decide) (hc : (tab.lookup cls).isSome = true := by decide +kernel) : PuE X (.Compare a [.Eq] [b] pos) (pOEq cls sp pa pb) := by
  obtain ⟨ta, a1, a2⟩ := ha.ex
  obtain ⟨tb, b1, b2⟩ := hb.ex
  refine ⟨tOp (rOE X.K Cc (spP X.K X.mg sp) E0) ta tb, pe_cmpR (op_oe M.ok (hr.mono hk) M.b M.me) a1 b1 (nomark _), fun G H env σ P Q ok hp kk => ?_⟩
  refine a2 G H env σ _ _ ok hp fun x v G1 H1 e1 r1 q1 => ?_
  refine b2 G1 H1 env σ _ _ (ok.ext e1) q1 fun y w G2 H2 e2 r2 ⟨⟨fs, ex⟩, hy, q2⟩ => ?_
  subst ex
  have r1' := r1.mono e2.g
  have e12 := e1.trans e2
  obtain ⟨l, C, dx, vs, ds', rfl, hH, hm, rf, hd⟩ := Shal.obj (.inl r1' : Shal X.K X.mg H2 G2 v (.obj cls fs)) e12.s
  have := M.gm.symm.trans hm
  cases this
  refine ⟨l, dx, vs, ?_⟩
  have fin : spP X.K X.mg sp [.ref l, w] H2 Q E0 := ⟨G2, _, P, e12.s, .cons r1' (.cons r2 .nil), q2, fun d v G3 H3 z r3 q3 => kk d v G3 H3 (e12.trans z) r3 q3⟩
  rcases hy with ⟨gs, rfl⟩ | ⟨n, hn⟩
  · obtain ⟨l2, C2, dx2, vs2, ds2, rfl, hH2, hm2, _⟩ := Shal.obj (.inl r2 : Shal X.K X.mg H2 G2 w (.obj cls gs)) e12.s
    have := M.gm.symm.trans hm2
    cases this
    exact ⟨.ref Cc, rfl, hH, S.ty cls Cc hc M.gm H2 l2 dx2 vs2 hH2, by simp [PySem.W.notFirst], fin⟩
  · exact ⟨.type n, rfl, hH, Rep.tyx (.inl r2) e12.s hn, notFirst_ty n (tyName_mem hn), fin⟩
/-! ### a call of a def that shows things, from where nothing is being shown -/
structure CalG (P : Program) (w : World) (K : PySem.W.Frag) (mg : MG) (base : Heap) (x : Str) (ns : List Str) (k : Nat) (f : Addr) (fd : FuncData) (sp : PSp) : Prop where
  ok : FnG P w K mg base k f fd ns (spP K mg sp)
  ln : ∀ ds P, sp ds P → ds.length = ns.length
  mg : mg x = some (.ref f)
  kp : PySem.W.keepIn K (.ref f) = true
  b : Binds K fd ns []
theorem pe_callG {X : Cx} {k : Nat} {f : Addr} {fd : FuncData} {ps : List Str} {sp : Sp} {x : Str} {p pos : Pos} {e : Expr} {es : List Expr} {t : TA} (F : FnG X.prog X.w X.K X.mg X.base k f fd ps sp) (ln : ∀ vs H Q E, sp vs H Q E → vs.length = ps.length) (hgd : X.A.guards = some []) (hr : Room k X.A) (hg : Gl X x) (hm : X.mg x = some (.ref f)) (hk : PySem.W.keepIn X.K (.ref f) = true) (hb : Binds X.K fd ps [])
    (ha : PA X (e :: es) t) (hdb : (x == ("__debug__" : Str)) = false := by decide) (he : starEach (e :: es) X.env = (false, eval e X.env) :: starEach es X.env := by rfl) (hpl : (backTo pos (starEach es X.env)).any (·.1) = false := by rfl) :
    PE X (.Call (.Name x p) (e :: es) [] pos) (tCall sp [] E0 t) := by
  refine ⟨fun pins s σ H Q I h => ?_⟩
  refine wpAny_Call_Name_kw (ld_glob I hg hm ?_ hdb)
  refine PySem.W.callWith_K (h₀ := X.base) I.ok.mod.kin hk (thn (ha.run pos pins s σ H _ I h) fun us s1 ⟨vs, H1, I1, r, q⟩ => ⟨I1.kIn, ?_⟩) he hpl
  have q : sp (vs ++ []) H1 Q E0 := q
  rw [List.append_nil] at q
  have hl : (us ++ []).length = ps.length := by
    have := ln _ _ _ _ q
    rw [List.append_nil, ← r.length]; exact this
  refine wpAny_call (codeAny_mono (F.go X.A X.stack s1 H1 ⟨us, []⟩ us vs Q E0 hr hgd I1.env0 (by
    have := hb s1 us I1.kIn hl
    rwa [List.append_nil] at this) r q) fun r s' hq => ?_)
  cases r with
  | error e => exact pass0 pins σ H1 s1 e s' I1 hq
  | ok fl =>
    cases fl with
    | ret u => exact I1.after hq
    | next => exact False.elim hq
    | brk => exact False.elim hq
    | cont => exact False.elim hq
theorem pu_cG {X : Cx} {x : Str} {ns : List Str} {k k' : Nat} {f : Addr} {fd : FuncData} {sp : PSp} {p' pos : Pos} {e : Expr} {es : List Expr} {ps : PTA} (hgd : X.A.guards = some []) (C : CalG X.prog X.w X.K X.mg X.base x ns k f fd sp) (hr : Room k' X.A) (h : PuA X (e :: es) ps) (hk : k ≤ k' := by decide) (hg : Gl X x := by rfl)
    (hdb : (x == ("__debug__" : Str)) = false := by decide) (he : starEach (e :: es) X.env = (false, eval e X.env) :: starEach es X.env := by rfl) (hpl : (backTo pos (starEach es X.env)).any (·.1) = false := by rfl) :
    PuE X (.Call (.Name x p') (e :: es) [] pos) (pCall sp ps) := by
  obtain ⟨t, h1, h2⟩ := h.ex
  refine ⟨_, pe_callG C.ok (fun vs H Q E z => by obtain ⟨G, ds, P', _, r, q, _⟩ := z; rw [r.length]; exact C.ln ds P' q) hgd (hr.mono hk) hg C.mg C.kp C.b h1 hdb he hpl, fun G H env σ P Q ok hp kk => h2 G H env σ _ _ ok hp fun ds vs G' H' x r q => ?_⟩
  rw [List.append_nil]
  exact ⟨G', ds, P, x.s, r, q, fun d v G2 H2 y r2 q2 => kk d v G2 H2 (x.trans y) r2 q2⟩
end PL
end

section
set_option linter.all false
set_option maxRecDepth 100000
set_option maxHeartbeats 4000000
set_option autoImplicit false
/-! PL32: l.count(x) of a list of bools. -/
namespace PL
open PySem PySem.Spec PyProof.Rows L2
section
variable {X : Cx}
def rCntB (K : PySem.W.Frag) : V → List V → Hp → VK → Prop := fun x xs H Q => ∃ (p : Addr) (bs : List Bool) (k : Bool), x = .ref p ∧ xs = [.bl k] ∧ SqL K H p (bs.map V.bl) ∧ Q (.int (bs.count k : Nat)) H
theorem countP_bools (k : Bool) : ∀ bs : List Bool, (bs.map Value.bool).countP (isBoolOf k) = bs.count k
  | [] => rfl
  | b :: bs => by
    rw [List.map_cons, List.countP_cons, List.count_cons, countP_bools k bs] <;> rfl
theorem mt_lcountB : MtR X "list.count" (rCntB X.K) := by
  intro pins s σ H x xs v us Q I rx rxs h
  obtain ⟨p, bs, k, rfl, rfl, hs, q⟩ := h
  cases rx
  obtain ⟨u, rfl, ru⟩ := rxs.one
  cases (show u = Value.bool k from ru)
  obtain ⟨its, rv, ⟨⟨cls, dd, data, sl⟩, n, ho, hc, hdn, hd⟩, hlen⟩ := I.list hs
  simp only at hc hd
  subst hc hd
  have hi := Vals.bls rv
  subst hi
  refine call_meets PySem.F.slot_list_count ⟨_, ho, rfl⟩ PySem.F.entry_list_count (PySem.F.args_list_count_2 _ _)
    (SeqAt.list_countAt p (bs.map Value.bool).toArray n dd sl (.bool k) (isBoolOf k)) ⟨ho, fun y hy => ?_, ?_⟩
  · obtain ⟨b, _, rfl⟩ := List.mem_map.mp (by simpa using hy : y ∈ bs.map Value.bool)
    exact SeqAt.EqAt.bool_bool b k
  · refine ⟨.int (bs.count k : Nat), H, I.tok _, ⟨s.toks, ?_⟩, q⟩
    show Value.int (((bs.map Value.bool).toArray.toList.countP (isBoolOf k) : Nat) : Int) s.toks = Value.int ((bs.count k : Nat) : Int) s.toks
    rw [show (bs.map Value.bool).toArray.toList = bs.map Value.bool from rfl, countP_bools]
theorem reps_bls {K : PySem.W.Frag} {mg : MG} {G : Hp} : ∀ {bs : List Bool} {vs : List V}, Reps K mg G vs (bs.map D.bl) → vs = bs.map V.bl
  | [], _, .nil => rfl
  | b :: bs, _, .cons r rs => by
    cases r
    rw [reps_bls rs]; rfl
def pLcntB (pe : PTE) (ps : PTA) : PTE := fun env P => pe env fun d => ∃ bs : List Bool, d = .lst (bs.map D.bl) ∧ ps env fun ds => ∃ k, ds = [.bl k] ∧ P (.int (bs.count k : Nat))
variable {e o : Expr} {po : PTE} {ps : PTA} {apos cpos : Pos}
theorem pu_lcntB (ho : PuO X o po) (ha : PuA X [e] ps)
    (hbase : attributeBase o "count" X.env (eval o X.env) = eval o X.env := by rfl)
    (hfew : ((backTo cpos (starEach [e] X.env)).all (fun x => !x.1) && (backToKw cpos (keywordEach [] X.env)).all (fun x => x.1.isSome)
      && decide (([e] : List Expr).length + ([] : List Keyword).length + (if ([] : List Keyword).isEmpty then 0 else 1) < 30)) = true := by rfl)
    (hline : (apos.endLine == cpos.line) = true := by rfl) (hs : starEach [e] X.env = (false, eval e X.env) :: starEach [] X.env := by rfl) (hplain : (backTo cpos (starEach [] X.env)).any (·.1) = false := by rfl) :
    PuE X (.Call (.Attribute o "count" apos) [e] [] cpos) (pLcntB po ps) := by
  obtain ⟨t, h1, h2⟩ := ho.ex
  obtain ⟨u, g1, g2⟩ := ha.ex
  refine ⟨_, pe_bm PySem.F.plainAttrs_list PySem.F.slot_list_count PySem.F.type_list_count mt_lcountB h1 g1 hbase hfew hline hs hplain, fun G H env σ P Q ok hp kk => h2 G H env σ _ _ ok hp fun d v G1 H1 x1 r1 q1 => ?_⟩
  obtain ⟨bs, rfl, q1⟩ := q1
  obtain ⟨l, vs, rfl, hl, rs⟩ := r1.lst x1.s
  have hv := reps_bls rs
  subst hv
  refine ⟨.inl ⟨rfl, _, SqL.of hl⟩, g2 G1 H1 env σ _ _ (ok.ext x1) q1 fun ds ws G2 H2 x2 r2 q2 => ?_⟩
  obtain ⟨k, rfl, q⟩ := q2
  obtain ⟨w, rfl, rw_⟩ := reps1 r2
  cases rw_
  exact ⟨l, bs, k, rfl, rfl, SqL.of (x2.h _ _ hl), kk _ _ G2 H2 (x1.trans x2) (.int _) q⟩
end
end PL
end

section
set_option linter.all false
set_option maxRecDepth 100000
set_option maxHeartbeats 4000000
set_option autoImplicit false
set_option exponentiation.threshold 20000
/-! PL33: keyword-only parameters with a whole number as default; math.lcm. -/
namespace PL
open PySem PySem.Spec PyProof.Rows L2

/-- the same def, its keyword-only defaults forgotten -/
theorem FunD.strip {K : PySem.W.Frag} {x qual : Str} {params : Arguments} {body : List Stmt} {scope : Scope} {kws : List (Str × V)} {f : Addr} {fd : FuncData} (F : FunD K x qual params body scope [] kws f fd) : FunD K x qual params body scope [] [] f fd := by
  obtain ⟨oc, od, dV, kV, doc, pm, an, cdv, ct, osl, e, lk, hcd, hD, hK⟩ := F.ex
  exact ⟨⟨oc, od, dV, kV, doc, pm, an, cdv, ct, osl, e, lk, hcd, hD, .inl rfl⟩, F.kp⟩
/-- what a call without keywords binds: the values, then these defaults -/
def DfB (K : PySem.W.Frag) (mg : MG) (fd : FuncData) (ns : List Str) (dd : List D) : Prop := ∃ (dvs : List V) (ds : List Value), Vals dvs ds ∧ Binds K fd ns ds ∧ ∀ G, Reps K mg G dvs dd
theorem dfb_of {K : PySem.W.Frag} {mg : MG} {x qual : Str} {params : Arguments} {body : List Stmt} {scope : Scope} {f : Addr} {fd : FuncData} {ns : List Str} {k0 : Str} {i : Int} (F : FunD K x qual params body scope [] [(k0, .int i)] f fd) (n : Nat) (hn : n + 1 = ns.length)
    (h : ∀ (D : Addr) (doc pm : Value) (an : Option Addr) (cdv ct : Value) (us ks : List Value), us.length = n → ks.length = 1 →
      KwChain D (([k0] : List Str).zip ks) (bindArgs (PySem.W.fnOf x qual params body scope .none (.ref D) doc pm an cdv ct) ⟨us, []⟩) (ns.zip (us ++ ks))) : DfB K mg fd ns [.int i] := by
  obtain ⟨ds, r, b⟩ := FunD.binds0 F n (by simp) hn h
  exact ⟨_, ds, r, b, fun G => .cons (.int i) .nil⟩
def pickLD (pick : List Nat) (dd us ws : List D) : List D := pickL pick us ws ++ dd
theorem FunD.pkbA {K : PySem.W.Frag} {x qual : Str} {params : Arguments} {body : List Stmt} {scope : Scope} {kws : List (Str × V)} {f : Addr} {fd : FuncData} {ns : List Str} (F : FunD K x qual params body scope [] kws f fd) (n : Nat) (ks : List Str) (pick : List Nat)
    (h : ∀ (kV doc pm : Value) (an : Option Addr) (cdv ct : Value) (us ws : List Value), us.length = n → ws.length = ks.length → bindArgs (PySem.W.fnOf x qual params body scope .none kV doc pm an cdv ct) ⟨us, ks.zip ws⟩ = pure (ns.zip (pickL pick us ws))) :
    PKB K fd ns n ks (pickL pick) := FunD.pkb (FunD.strip F) n ks pick h
theorem FunD.pkbD {K : PySem.W.Frag} {x qual : Str} {params : Arguments} {body : List Stmt} {scope : Scope} {f : Addr} {fd : FuncData} {ns : List Str} {k0 : Str} {i : Int} (F : FunD K x qual params body scope [] [(k0, .int i)] f fd) (n : Nat) (ks : List Str) (pick : List Nat)
    (h : ∀ (D : Addr) (doc pm : Value) (an : Option Addr) (cdv ct : Value) (us mv ws : List Value), us.length = n → mv.length = 1 → ws.length = ks.length →
      KwChain D (([k0] : List Str).zip mv) (bindArgs (PySem.W.fnOf x qual params body scope .none (.ref D) doc pm an cdv ct) ⟨us, ks.zip ws⟩) (ns.zip (pickL pick us ws ++ mv))) :
    PKB K fd ns n ks (pickLD pick [.int i]) := by
  obtain ⟨mv, kb⟩ := FunD.kbinds0 F n ks [(k0, .int i)] (fun {α} us mv ws => pickL pick us ws ++ mv) (by simp) (fun q hq => hq) (fun r1 r2 r3 => (Vals.pick (r1.append r3) pick).append r2) h
  exact ⟨_, _, kb, fun mg G vs zs ds es r1 r2 _ _ => (Reps.pick (r1.append r2) pick).append (.cons (.int i) .nil)⟩

/-- a def that may be called, its keyword-only parameters may lack -/
structure CalD (P : Program) (w : World) (K : PySem.W.Frag) (mg : MG) (base : Heap) (x : Str) (ns : List Str) (k : Nat) (f : Addr) (fd : FuncData) (dd : List D) (sp : PSp) : Prop where
  ok : FnOk P w K mg base CX0 k f fd ns (spP K mg sp)
  gm : mg x = some (.ref f)
  kp : PySem.W.keepIn K (.ref f) = true
  b : DfB K mg fd ns dd
def dflS (dd : List D) (sp : PSp) : PSp := fun ds P => sp (ds ++ dd) P
section
variable {X : Cx} {e a b c : Expr} {es : List Expr} {pa pb pc : PTE} {ps : PTA} {pos p' : Pos}
theorem pu_cD {x : Str} {ns : List Str} {k k' : Nat} {f : Addr} {fd : FuncData} {dd : List D} {sp : PSp} (C : CalD X.prog X.w X.K X.mg X.base x ns k f fd dd sp) (hr : Room k' X.A) (h : PuA X (e :: es) ps) (hk : k ≤ k' := by decide) (hg : Gl X x := by rfl)
    (hdb : (x == ("__debug__" : Str)) = false := by decide) (he : starEach (e :: es) X.env = (false, eval e X.env) :: starEach es X.env := by rfl) (hpl : (backTo pos (starEach es X.env)).any (·.1) = false := by rfl) :
    PuE X (.Call (.Name x p') (e :: es) [] pos) (pCall (dflS dd sp) ps) := by
  obtain ⟨t, h1, h2⟩ := h.ex
  obtain ⟨dvs, ds, rv, hb, rd⟩ := C.b
  refine ⟨_, pe_call C.ok (hr.mono hk) hg C.gm C.kp hb rv pass0 h1 hdb he hpl, fun G H env σ P Q ok hp kk => h2 G H env σ _ _ ok hp fun ds' vs G' H' x r q => ?_⟩
  exact ⟨G', ds' ++ dd, P, x.s, r.append (rd G'), q, fun d v G2 H2 y r2 q2 => kk d v G2 H2 (x.trans y) r2 q2⟩
theorem pu_cKD {x : Str} {ns ks : List Str} {n m k k' : Nat} {f : Addr} {fd : FuncData} {dd : List D} {sp : PSp} {kws : List Keyword} {qs : PTA} {gD : List D → List D → List D} (C : CalD X.prog X.w X.K X.mg X.base x ns k f fd dd sp) (hb : PKB X.K fd ns n ks gD) (hr : Room k' X.A) (h : PuA X (e :: es) ps) (hkw : PuK X kws qs) (hml : ks.length = m := by rfl) (hk : k ≤ k' := by decide) (hg : Gl X x := by rfl)
    (hall : (backToKw pos (keywordEach kws X.env)).all (·.1.isSome) = true := by rfl) (hks : (backToKw pos (keywordEach kws X.env)).filterMap (·.1) = ks := by rfl)
    (hdb : (x == ("__debug__" : Str)) = false := by decide) (he : starEach (e :: es) X.env = (false, eval e X.env) :: starEach es X.env := by rfl)
    (hpl : ((backTo pos (starEach (e :: es) X.env)).any (·.1) || (backToKw pos (keywordEach kws X.env)).any (·.1.isNone)) = false := by rfl) :
    PuE X (.Call (.Name x p') (e :: es) kws pos) (pCallK sp n m gD ps qs) := pu_callK C.ok (hr.mono hk) C.gm C.kp hb hml h hkw hg hall hks hdb he hpl
theorem pu_cKD0 {x : Str} {ns ks : List Str} {m k k' : Nat} {f : Addr} {fd : FuncData} {dd : List D} {sp : PSp} {kws : List Keyword} {qs : PTA} {gD : List D → List D → List D} (C : CalD X.prog X.w X.K X.mg X.base x ns k f fd dd sp) (hb : PKB X.K fd ns 0 ks gD) (hr : Room k' X.A) (hkw : PuK X kws qs) (hml : ks.length = m := by rfl) (hk : k ≤ k' := by decide) (hg : Gl X x := by rfl)
    (hall : (backToKw pos (keywordEach kws X.env)).all (·.1.isSome) = true := by rfl) (hks : (backToKw pos (keywordEach kws X.env)).filterMap (·.1) = ks := by rfl)
    (hdb : (x == ("__debug__" : Str)) = false := by decide) (hpl : ((backTo pos (starEach [] X.env)).any (·.1) || (backToKw pos (keywordEach kws X.env)).any (·.1.isNone)) = false := by rfl) :
    PuE X (.Call (.Name x p') [] kws pos) (pCallK sp 0 m gD paNil qs) := pu_callK0 C.ok (hr.mono hk) C.gm C.kp hb hml hkw hg hall hks hdb hpl
/-! ### the same of a def that may raise -/
structure CalXD (P : Program) (w : World) (K : PySem.W.Frag) (mg : MG) (base : Heap) (x : Str) (ns : List Str) (k : Nat) (f : Addr) (fd : FuncData) (dd : List D) (sp : PSpX) : Prop where
  ok : FnOk P w K mg base (L2.CX P w) k f fd ns (spX K mg sp)
  gm : mg x = some (.ref f)
  kp : PySem.W.keepIn K (.ref f) = true
  b : DfB K mg fd ns dd
theorem CalXD.nr {P : Program} {w : World} {K : PySem.W.Frag} {mg : MG} {base : Heap} {x : Str} {ns : List Str} {k : Nat} {f : Addr} {fd : FuncData} {dd : List D} {sx : PSpX} {sp : PSp} (C : CalXD P w K mg base x ns k f fd dd sx) (h : ∀ ds Q, sp ds Q → sx ds Q fun _ => False) : CalD P w K mg base x ns k f fd dd sp := by
  have up : ∀ vs H Q E, spP K mg sp vs H Q E → spX K mg sx vs H Q fun _ _ _ => False := fun vs H Q E ⟨G, ds, P', s, r, q, kk⟩ => ⟨G, ds, P', fun _ => False, s, r, h ds P' q, kk, fun _ _ _ _ _ _ _ _ _ _ _ _ _ z => z⟩
  refine ⟨⟨fun vs H Q E z => C.ok.len vs H Q _ (up vs H Q E z), fun A outer s H args us vs Q E hr e0 hb r z => codeAny_mono (C.ok.run A outer s H args us vs Q _ hr e0 hb r (up vs H Q E z)) fun res s' q => ?_⟩, C.gm, C.kp, C.b⟩
  cases res with
  | error er =>
    obtain ⟨_, _, _, _, _, _, _, _, _, _, _, _, z⟩ := (show L2.CX P w outer H s (fun _ _ _ => False) er s' from q)
    exact z.elim
  | ok f => cases f <;> exact q
/-! ### lcm -/
def rLcm : List V → Hp → VK → Prop := fun vs H Q => ∃ a b : Int, vs = [.int a, .int b] ∧ a.natAbs < 2 ^ 8000 ∧ b.natAbs < 2 ^ 8000 ∧ Q (.int ((Nat.lcm a.natAbs b.natAbs : Nat) : Int)) H
theorem lcm_bits {a b : Nat} (ha : a < 2 ^ 8000) (hb : b < 2 ^ 8000) : (Nat.lcm a b) < 2 ^ 16000 := by
  rcases Nat.eq_zero_or_pos a with h | h
  · subst h; rw [Nat.lcm_zero_left]; exact Nat.pow_pos (by decide)
  · rcases Nat.eq_zero_or_pos b with h2 | h2
    · subst h2; rw [Nat.lcm_zero_right]; exact Nat.pow_pos (by decide)
    · have h3 : Nat.lcm a b ≤ a * b := Nat.le_of_dvd (Nat.mul_pos h h2) (Nat.lcm_dvd (Nat.dvd_mul_right a b) (Nat.dvd_mul_left b a))
      have h4 : a * b < 2 ^ 8000 * 2 ^ 8000 := Nat.mul_lt_mul'' ha hb
      rw [← Nat.pow_add] at h4
      exact Nat.lt_of_le_of_lt h3 h4
theorem log_lt {n k : Nat} (h : n < 2 ^ k) (hk : 0 < k) : n.log2 < k := by
  rcases Nat.eq_zero_or_pos n with z | z
  · subst z; simpa using hk
  · exact (Nat.log2_lt (by omega)).mpr h
theorem cr_lcm : CallR X (.builtin "math.lcm") rLcm := by
  intro pins s σ H vs us Q I r h
  obtain ⟨a, b, rfl, ha, hb, q⟩ := h
  obtain ⟨t, u, rfl⟩ := Vals.int2 r
  have e1 : Nat.lcm 1 a.natAbs = a.natAbs := Nat.lcm_one_left _
  have h1 : max 1 a.natAbs < 2 ^ 8000 := by
    have : (1 : Nat) < 2 ^ 8000 := Nat.one_lt_two_pow (by decide)
    rw [Nat.max_lt]; exact ⟨this, ha⟩
  have h2 : max a.natAbs b.natAbs < 2 ^ 8000 := by rw [Nat.max_lt]; exact ⟨ha, hb⟩
  have l1 := log_lt h1 (by decide)
  have l2 := log_lt h2 (by decide)
  have hs : (((Nat.lcm 1 a.natAbs).lcm b.natAbs : Nat) : Int).natAbs.log2 < bitsLine := by
    rw [e1, Int.natAbs_natCast]
    exact Nat.lt_trans (log_lt (lcm_bits ha hb) (by decide)) (by decide)
  refine call_function_meets PySem.W.MGF.kind_lcm PySem.W.MGF.plain_lcm PySem.W.MGF.entry_lcm (PySem.W.MGF.args_lcm _ _) (PySem.W.mg_run_lcm a t b u (by omega) (by omega) hs).meets ?_
  rw [e1]
  exact ⟨.int _, H, I.tok _, ⟨_, rfl⟩, q⟩
def lcmP : PSp := fun ds P => match ds with
  | [.int i, .int j] => i.natAbs < 2 ^ 8000 ∧ j.natAbs < 2 ^ 8000 ∧ P (.int ((Nat.lcm i.natAbs j.natAbs : Nat) : Int))
  | _ => False
theorem lcmP_i {P : D → Prop} {i j : Int} : lcmP [.int i, .int j] P = (i.natAbs < 2 ^ 8000 ∧ j.natAbs < 2 ^ 8000 ∧ P (.int ((Nat.lcm i.natAbs j.natAbs : Nat) : Int))) := rfl
theorem lcmP_ok : CallOk X rLcm lcmP := by
  intro G H vs ds P Q s rs h k
  unfold lcmP at h
  split at h
  · cases rs with
    | cons r1 rs =>
      cases rs with
      | cons r2 rs =>
        cases rs
        cases r1.int; cases r2.int
        exact ⟨_, _, rfl, h.1, h.2.1, k _ _ G H (.refl s) (.int _) h.2.2⟩
  · exact h.elim
theorem pu_lcm {x : Str} (hm : X.mg x = some (.builtin "math.lcm")) (h : PuO X a pa) (h' : PuO X b pb) (hg : Gl X x := by rfl) (hdb : (x == ("__debug__" : Str)) = false := by decide) (hs : starEach [a, b] X.env = (false, eval a X.env) :: starEach [b] X.env := by rfl)
    (hs2 : starEach [b] X.env = (false, eval b X.env) :: starEach [] X.env := by rfl) (hpl : (backTo pos (starEach [b] X.env)).any (·.1) = false := by rfl) :
    PuE X (.Call (.Name x p') [a, b] [] pos) (pCall lcmP (paCons pa (paCons pb paNil))) := by
  obtain ⟨t, h1, h2⟩ := (puao_cons h (puao_cons h' puao_nil hs2) hs).ex
  refine ⟨_, pe_callBfun cr_lcm hg hm h1 hdb hs hpl, fun G H env σ P Q ok hp k => h2 G H env σ _ _ ok hp fun ds vs G' H' y rs q => ?_⟩
  exact lcmP_ok G' H' vs ds P Q y.s rs q fun d u G2 H2 z r2 q2 => k d u G2 H2 (y.trans z) r2 q2
end
end PL
end

section
set_option linter.all false
set_option maxRecDepth 100000
set_option autoImplicit false
/-! The bodies of law_k65_chances_of_a_length's defs over plain data; printed by gen.py. -/
namespace K65
open PySem PySem.Spec PyProof.Rows L2 PL
-- slots: 0 self!, 1 alphabet, 2 rules, 3 kept
def b_Bettor__init__ (sp_check_alphabet : PSp) (sp_frozen : PSp) (sp_check_moves : PSp) (sp_check_bets : PSp) : PTS :=
  (pSeq (pDrop (pCall sp_check_alphabet (paCons (pN 1) paNil)))
    (pSeq (pSet 3 (pCall sp_frozen (paCons (pN 2) paNil)))
    (pSeq (pDrop (pCall sp_check_moves (paCons (pN 1) (paCons (pN 3) paNil))))
    (pSeq (pDrop (pCall sp_check_bets (paCons (pN 3) paNil)))
    (pSeq (pFldS objTab 0 "alphabet" (pN 1))
    (pSeq (pFldS objTab 0 "rules" (pN 3))
    (pFldS objTab 0 "standings" (pCall lenP (paCons (pN 3) paNil)))))))))
-- slots: 0 value, 1 item
def b_frozen (sp_frozen : PSp) : PTS :=
  (pSeq (pIfS (pB (isi2P "list" "tuple" (pN 0)))
    (pRet (pCall tupleP (paCons (pLc (piE (pN 0)) [1] (pgN 1) pYes (pCall sp_frozen (paCons (pN 1) paNil))) paNil)))
    pNext)
    (pRet (pN 0)))
-- slots: 0 value
def b_is_whole : PTS :=
  (pRet (pAndV (isiP "int" (pN 0)) (pNotV (isiP "bool" (pN 0)))))
-- slots: 0 alphabet, 1 index, 2 letter
def b_check_alphabet : PTS :=
  (pSeq (pIfS (pNot (pChainT leP leP (pC (.int 1)) (pCall lenP (paCons (pN 0) paNil)) (pC (.int 6))))
    pNever
    pNext)
    (pFor (piEn (pN 0)) (pgTup 2 (pgsCons (pgN 1) (pgsCons (pgN 2) pgsNil)))
    (pIfS (pOr (pB (pBin (inP true) (pN 2) (pC (.str "0123456789abcdefghijklmnopqrstuvwxyz")))) (pAnd (pB (pBin gtP (pN 1) (pC (.int 0)))) (pB (pBin geP (pIx (pN 0) (pBin subP (pN 1) (pC (.int 1)))) (pN 2)))))
    pNever
    pNext)))
-- slots: 0 top, 1 bottom, 2 common
def b_ratio : PTS :=
  (pSeq (pSet 2 (pCall gcdP (paCons (pN 0) (paCons (pN 1) paNil))))
    (pRet (pTup (paCons (pBin fdivP (pN 0) (pN 2)) (paCons (pBin fdivP (pN 1) (pN 2)) paNil)))))
-- slots: 0 alphabet, 1 rules, 2 standing, 3 rule
def b_check_moves : PTS :=
  (pSeq (pIfS (pB (pBin eqP (pCall lenP (paCons (pN 1) paNil)) (pC (.int 0))))
    pNever
    pNext)
    (pFor (piEn (pN 1)) (pgTup 2 (pgsCons (pgN 2) (pgsCons (pgN 3) pgsNil)))
    (pIfS (pB (pBin neP (pCall lenP (paCons (pIx (pN 3) (pC (.int 1))) paNil)) (pCall lenP (paCons (pN 0) paNil))))
    pNever
    pNext)))
-- slots: 0 rules, 1 standing, 2 rule
def b_check_bets (sp_is_good_bet : PSp) : PTS :=
  (pFor (piEn (pN 0)) (pgTup 2 (pgsCons (pgN 1) (pgsCons (pgN 2) pgsNil)))
    (pIfS (pNot (pB (pCall sp_is_good_bet (paCons (pN 2) (paCons (pCall lenP (paCons (pN 0) paNil)) paNil)))))
    pNever
    pNext))
-- slots: 0 rule, 1 standings, 2 total, 3 moves, 4 together, 5 following, 6 stake
def b_is_good_bet (sp_is_whole : PSp) : PTS :=
  (pSeq (pAsg (pN 0) (pgTup 2 (pgsCons (pgN 2) (pgsCons (pgN 3) pgsNil))))
    (pSeq (pJn (pIfS (pOr (pNot (pB (pCall sp_is_whole (paCons (pN 2) paNil)))) (pB (pBin ltP (pN 2) (pC (.int 1)))))
    (pRet (pC (.bl false)))
    pNext))
    (pSeq (pSet 4 (pC (.int 0)))
    (pSeq (pFor (piE (pN 3)) (pgTup 2 (pgsCons (pgN 5) (pgsCons (pgN 6) pgsNil)))
    (pSeq (pIfS (pOr (pNot (pB (pCall sp_is_whole (paCons (pN 5) paNil)))) (pOr (pB (pBin ltP (pN 5) (pC (.int 0)))) (pB (pBin geP (pN 5) (pN 1)))))
    (pRet (pC (.bl false)))
    pNext)
    (pSeq (pIfS (pOr (pNot (pB (pCall sp_is_whole (paCons (pN 6) paNil)))) (pB (pBin ltP (pN 6) (pC (.int 0)))))
    (pRet (pC (.bl false)))
    pNext)
    (pSet 4 (pBin addP (pN 4) (pN 6))))))
    (pRet (pBin leP (pN 4) (pN 2)))))))
-- slots: 0 bettor, 1 common, 2 rule
def b_common_total : PTS :=
  (pSeq (pSet 1 (pC (.int 1)))
    (pSeq (pFor (piE (pFld objTab "rules" (pN 0))) (pgN 2)
    (pSet 1 (pCall lcmP (paCons (pN 1) (paCons (pIx (pN 2) (pC (.int 0))) paNil)))))
    (pRet (pN 1))))
-- slots: 0 bettor, 1 common, 2 tops, 3 grown!, 4 total, 5 moves, 6 top, 7 following, 8 stake
def b_one_letter_more : PTS :=
  (pSeq (pSetO 3 (pLst paNil))
    (pSeq (pFor (piE (pFld objTab "rules" (pN 0))) (pgTup 2 (pgsCons (pgN 4) (pgsCons (pgN 5) pgsNil)))
    (pSeq (pSet 6 (pC (.int 0)))
    (pSeq (pFor (piE (pN 5)) (pgTup 2 (pgsCons (pgN 7) (pgsCons (pgN 8) pgsNil)))
    (pSet 6 (pBin addP (pN 6) (pBin mulP (pN 8) (pIx (pN 2) (pN 7))))))
    (pApp 3 (pBin mulP (pN 6) (pBin fdivP (pN 1) (pN 4)))))))
    (pFrz 3 (pRet (pN 3)))))
-- slots: 0 bettor, 1 length, 2 start, 3 common, 4 tops, 5 bottom, 6 _
def b_length_chance (sp_common_total : PSp) (sp_one_letter_more : PSp) (sp_ratio : PSp) : PTS :=
  (pSeq (pSet 3 (pCall sp_common_total (paCons (pN 0) paNil)))
    (pSeq (pSetO 4 (pLc (piE (pFld objTab "rules" (pN 0))) [6] (pgN 6) pYes (pC (.int 1))))
    (pFrz 4 (pSeq (pSet 5 (pC (.int 1)))
    (pSeq (pFor (piR1 (pN 1)) (pgN 6)
    (pSeq (pSet 4 (pCall sp_one_letter_more (paCons (pN 0) (paCons (pN 3) (paCons (pN 4) paNil)))))
    (pSet 5 (pBin mulP (pN 5) (pN 3)))))
    (pRet (pCall sp_ratio (paCons (pIx (pN 4) (pN 2)) (paCons (pN 5) paNil)))))))))
-- slots: 0 value
def b_law_whole : PTS :=
  (pRet (pAndV (isiP "int" (pN 0)) (pNotV (isiP "bool" (pN 0)))))
-- slots: 0 script, 1 k, 2 seed, 3 cell
def b_law_cell : PTS :=
  (pSeq (pIfS (pB (pBin ltP (pN 1) (pCall lenP (paCons (pN 0) paNil))))
    (pRet (pIx (pN 0) (pN 1)))
    pNext)
    (pSeq (pSet 2 (pC (.int 17)))
    (pSeq (pFor (piE (pN 0)) (pgN 3)
    (pSet 2 (pBin modP (pCall intP (paCons (pBin addP (pBin mulP (pN 2) (pC (.int 31))) (pBin modP (pCall intP (paCons (pN 3) paNil)) (pC (.int 1000003)))) paNil)) (pC (.int 1000003)))))
    (pRet (pBin modP (pCall intP (paCons (pBin mulP (pBin mulP (pBin addP (pN 2) (pC (.int 7))) (pBin addP (pN 1) (pC (.int 3)))) (pC (.int 69621))) paNil)) (pC (.int 2147483647)))))))
-- slots: 0 cell, 1 sizes, 2 row!, 3 rest, 4 size, 5 seed, 6 k, 7 twice
def b_law_digits : PTS :=
  (pSeq (pSetO 2 (pLst paNil))
    (pSeq (pSet 3 (pCall intP (paCons (pN 0) paNil)))
    (pSeq (pIfS (pB (pBin geP (pN 3) (pBin powP (pC (.int 10)) (pC (.int 18)))))
    (pSeq (pSet 3 (pBin subP (pN 3) (pBin powP (pC (.int 10)) (pC (.int 18)))))
    (pSeq (pFor (piE (pN 1)) (pgN 4)
    (pSeq (pApp 2 (pBin modP (pCall intP (paCons (pN 3) paNil)) (pN 4)))
    (pSet 3 (pBin fdivP (pCall intP (paCons (pN 3) paNil)) (pN 4)))))
    (pFrz 2 (pRet (pN 2)))))
    pNext)
    (pSeq (pSet 5 (pBin modP (pCall intP (paCons (pN 3) paNil)) (pC (.int 2147483629))))
    (pSeq (pFor (piR1 (pCall lenP (paCons (pN 1) paNil))) (pgN 6)
    (pSeq (pSet 5 (pBin modP (pCall intP (paCons (pBin addP (pBin addP (pBin mulP (pN 5) (pC (.int 48271))) (pBin mulP (pC (.int 974711)) (pN 6))) (pC (.int 12345))) paNil)) (pC (.int 2147483647))))
    (pSeq (pSet 7 (pBin modP (pCall intP (paCons (pBin mulP (pN 5) (pBin addP (pBin fdivP (pN 5) (pC (.int 65537))) (pC (.int 3)))) paNil)) (pC (.int 2147483629))))
    (pApp 2 (pBin modP (pBin fdivP (pN 7) (pC (.int 19))) (pIx (pN 1) (pN 6)))))))
    (pFrz 2 (pRet (pN 2))))))))
-- slots: 0 row, 1 upto, 2 many, 3 letters, 4 taken!, 5 k, 6 at, 7 turn
def b_law_alphabet : PTS :=
  (pSeq (pSet 2 (pCall minP (paCons (pN 1) (paCons (pIx (pLst (paCons (pC (.int 2)) (paCons (pC (.int 2)) (paCons (pC (.int 2)) (paCons (pC (.int 2)) (paCons (pC (.int 3)) (paCons (pC (.int 3)) (paCons (pC (.int 3)) (paCons (pC (.int 1)) (paCons (pC (.int 4)) (paCons (pC (.int 5)) (paCons (pC (.int 6)) (paCons (pC (.int 2)) paNil))))))))))))) (pIx (pN 0) (pC (.int 0)))) paNil))))
    (pSeq (pSet 3 (pC (.str "0123456789abcdefghijklmnopqrstuvwxyz")))
    (pSeq (pSetO 4 (pLst paNil))
    (pSeq (pFor (piR1 (pN 2)) (pgN 5)
    (pSeq (pSet 6 (pBin modP (pCall intP (paCons (pIx (pN 0) (pBin addP (pC (.int 1)) (pN 5))) paNil)) (pC (.int 36))))
    (pSeq (pFor (piR1 (pC (.int 36))) (pgN 7)
    (pIfS (pB (pBin (inP false) (pIx (pN 3) (pN 6)) (pNo 4)))
    (pSet 6 (pBin modP (pCall intP (paCons (pBin addP (pN 6) (pC (.int 1))) paNil)) (pC (.int 36))))
    pNext))
    (pApp 4 (pIx (pN 3) (pN 6))))))
    (pRet (pJoin (pC (.str "")) (pCall sortIP (paCons (pNo 4) paNil))))))))
-- slots: 0 top, 1 bottom, 2 one, 3 two, 4 turn, 5 rest
def b_law_ratio : PTS :=
  (pSeq (pSet 2 (pN 0))
    (pSeq (pSet 3 (pN 1))
    (pSeq (pFor (piR1 (pC (.int 20000))) (pgN 4)
    (pSeq (pIfS (pB (pBin eqP (pN 3) (pC (.int 0))))
    pBrk
    pNext)
    (pSeq (pSet 5 (pBin modP (pCall intP (paCons (pN 2) paNil)) (pN 3)))
    (pSeq (pSet 2 (pN 3))
    (pSet 3 (pN 5))))))
    (pRet (pTup (paCons (pBin fdivP (pN 0) (pN 2)) (paCons (pBin fdivP (pN 1) (pN 2)) paNil)))))))
-- slots: 0 value
def b_law_fraction (sp_law_whole : PSp) : PTS :=
  (pRet (pAndV (isiP "tuple" (pN 0)) (pAndV (pBin eqP (pCall lenP (paCons (pN 0) paNil)) (pC (.int 2))) (pAndV (pCall sp_law_whole (paCons (pIx (pN 0) (pC (.int 0))) paNil)) (pCall sp_law_whole (paCons (pIx (pN 0) (pC (.int 1))) paNil))))))
-- slots: 0 value, 1 due
def b_law_same (sp_law_fraction : PSp) : PTS :=
  (pRet (pAndV (pCall sp_law_fraction (paCons (pN 0) paNil)) (pBin eqP (pN 0) (pN 1))))
-- slots: 0 size, 1 row, 2 many, 3 bare, 4 kind, 5 stakes!, 6 k, 7 digit, 8 stake, 9 together, 10 total
def b_law_bet : PTS :=
  (pSeq (pSet 4 (pIx (pN 1) (pC (.int 0))))
    (pSeq (pSetO 5 (pLst paNil))
    (pSeq (pFor (piR1 (pN 0)) (pgN 6)
    (pSeq (pSet 7 (pIx (pN 1) (pBin addP (pC (.int 8)) (pN 6))))
    (pSeq (pSet 8 (pBin addP (pC (.int 1)) (pBin modP (pCall intP (paCons (pN 7) paNil)) (pC (.int 9)))))
    (pSeq (pJn (pIfS (pOr (pB (pBin eqP (pN 4) (pC (.int 5)))) (pB (pBin eqP (pN 4) (pC (.int 6)))))
    (pSet 8 (pIx (pLst (paCons (pC (.int 1)) (paCons (pC (.int 2)) (paCons (pC (.int 4)) (paCons (pC (.int 8)) (paCons (pC (.int 16)) (paCons (pC (.int 32)) (paCons (pC (.int 64)) (paCons (pC (.int 128)) (paCons (pC (.int 1024)) (paCons (pC (.int 4096)) (paCons (pC (.int 65536)) (paCons (pC (.int 131072)) paNil))))))))))))) (pBin modP (pCall intP (paCons (pN 7) paNil)) (pC (.int 12)))))
    pNext))
    (pSeq (pJn (pIfS (pOr (pB (pBin eqP (pN 4) (pC (.int 7)))) (pB (pBin eqP (pN 4) (pC (.int 8)))))
    (pSet 8 (pBin addP (pC (.int 1)) (pBin modP (pCall intP (paCons (pN 7) paNil)) (pBin fdivP (pBin powP (pC (.int 10)) (pC (.int 6))) (pN 0)))))
    pNext))
    (pSeq (pJn (pIfS (pAnd (pB (pBin eqP (pN 4) (pC (.int 9)))) (pB (pBin eqP (pN 6) (pBin modP (pCall intP (paCons (pIx (pN 1) (pC (.int 1))) paNil)) (pN 0)))))
    (pSet 8 (pBin addP (pC (.int 1)) (pBin modP (pCall intP (paCons (pN 7) paNil)) (pC (.int 900000)))))
    pNext))
    (pSeq (pJn (pIfS (pOr (pB (pBin eqP (pN 4) (pC (.int 11)))) (pB (pBin eqP (pN 4) (pC (.int 12)))))
    (pSet 8 (pBin addP (pC (.int 1)) (pBin modP (pCall intP (paCons (pIx (pN 1) (pC (.int 1))) paNil)) (pC (.int 7)))))
    pNext))
    (pSeq (pJn (pIfS (pB (pBin eqP (pN 4) (pC (.int 14))))
    (pSet 8 (pC (.int 1)))
    pNext))
    (pSeq (pJn (pIfS (pAnd (pB (pN 3)) (pOr (pB (pBin eqP (pBin modP (pCall intP (paCons (pN 7) paNil)) (pC (.int 24))) (pC (.int 0)))) (pOr (pB (pBin eqP (pN 4) (pC (.int 15)))) (pAnd (pB (pBin eqP (pN 4) (pC (.int 10)))) (pB (pBin neP (pN 6) (pBin modP (pCall intP (paCons (pIx (pN 1) (pC (.int 1))) paNil)) (pN 0))))))))
    (pSet 8 (pC (.int 0)))
    pNext))
    (pApp 5 (pN 8)))))))))))
    (pSeq (pSet 9 (pCall sumP (paCons (pNo 5) paNil)))
    (pSeq (pSet 10 (pN 9))
    (pSeq (pJn (pIfS (pB (pBin ltP (pN 4) (pC (.int 3))))
    (pSet 10 (pBin addP (pN 9) (pBin modP (pCall intP (paCons (pIx (pN 1) (pC (.int 1))) paNil)) (pC (.int 4)))))
    pNext))
    (pSeq (pJn (pIfS (pB (pBin eqP (pN 4) (pC (.int 7))))
    (pSet 10 (pCall minP (paCons (pBin powP (pC (.int 10)) (pC (.int 6))) (paCons (pBin addP (pN 9) (pCall intP (paCons (pIx (pN 1) (pC (.int 1))) paNil))) paNil))))
    pNext))
    (pSeq (pJn (pIfS (pB (pBin eqP (pN 4) (pC (.int 13))))
    (pSet 10 (pBin powP (pC (.int 10)) (pC (.int 6))))
    pNext))
    (pRet (pTup (paCons (pCall maxP (paCons (pC (.int 1)) (paCons (pN 10) paNil))) (paCons (pCall tupleP (paCons (pLc (piR1 (pN 0)) [6] (pgN 6) pYes (pTup (paCons (pBin modP (pCall intP (paCons (pIx (pN 1) (pBin addP (pC (.int 2)) (pN 6))) paNil)) (pN 2)) (paCons (pIx (pNo 5) (pN 6)) paNil)))) paNil)) paNil))))))))))))
-- slots: 0 size, 1 cell, 2 many, 3 bare, 4 one, 5 row, 6 rules!, 7 s, 8 base, 9 bet, 10 part, 11 k
def b_law_wide_rules (sp_law_digits : PSp) (sp_law_bet : PSp) : PTS :=
  (pSeq (pSet 4 (pBin addP (pBin addP (pLst (paCons (pC (.int 16)) (paCons (pC (.int 1000001)) paNil))) (pBin mulP (pLst (paCons (pC (.int 3600)) paNil)) (pC (.int 6)))) (pBin mulP (pLst (paCons (pC (.int 1000001)) paNil)) (pC (.int 6)))))
    (pSeq (pSet 5 (pCall sp_law_digits (paCons (pN 1) (paCons (pBin addP (pBin addP (pBin addP (pN 4) (pN 4)) (pN 4)) (pN 4)) paNil))))
    (pSeq (pSetO 6 (pLst paNil))
    (pSeq (pFor (piR1 (pN 2)) (pgN 7)
    (pSeq (pSet 8 (pBin mulP (pC (.int 14)) (pBin modP (pCall intP (paCons (pN 7) paNil)) (pC (.int 4)))))
    (pSeq (pSet 9 (pCall sp_law_bet (paCons (pN 0) (paCons (pSl (pN 5) (poSome (pN 8)) (poSome (pBin addP (pN 8) (pC (.int 14))))) (paCons (pN 2) (paCons (pN 3) paNil))))))
    (pSeq (pIfS (pAnd (pB (pBin geP (pN 7) (pC (.int 4)))) (pB (pBin leP (pN 2) (pC (.int 8)))))
    (pSet 9 (pCall sp_law_bet (paCons (pN 0) (paCons (pCall sp_law_digits (paCons (pBin addP (pBin modP (pCall intP (paCons (pN 1) paNil)) (pBin powP (pC (.int 10)) (pC (.int 15)))) (pBin mulP (pC (.int 7919)) (pN 7))) (paCons (pN 4) paNil))) (paCons (pN 2) (paCons (pN 3) paNil))))))
    (pIfS (pB (pBin geP (pN 7) (pC (.int 4))))
    (pSeq (pSet 10 (pCall sp_law_digits (paCons (pBin addP (pBin modP (pCall intP (paCons (pN 1) paNil)) (pBin powP (pC (.int 10)) (pC (.int 15)))) (pBin mulP (pC (.int 7919)) (pN 7))) (paCons (pBin addP (pLst (paCons (pC (.int 6)) paNil)) (pBin mulP (pLst (paCons (pC (.int 3600)) paNil)) (pC (.int 6)))) paNil))))
    (pSet 9 (pTup (paCons (pIx (pN 9) (pC (.int 0))) (paCons (pCall tupleP (paCons (pLc (piR1 (pN 0)) [11] (pgN 11) pYes (pTup (paCons (pBin modP (pCall intP (paCons (pIx (pN 10) (pBin addP (pC (.int 1)) (pN 11))) paNil)) (pN 2)) (paCons (pIx (pIx (pIx (pN 9) (pC (.int 1))) (pBin modP (pCall intP (paCons (pBin addP (pN 11) (pIx (pN 10) (pC (.int 0)))) paNil)) (pN 0))) (pC (.int 1))) paNil)))) paNil)) paNil)))))
    pNext))
    (pApp 6 (pN 9))))))
    (pRet (pCall tupleP (paCons (pNo 6) paNil)))))))
-- slots: 0 alphabet, 1 rules, 2 text, 3 s, 4 top, 5 bottom, 6 at, 7 letter, 8 move
def b_law_product : PTS :=
  (pSeq (pSet 4 (pC (.int 1)))
    (pSeq (pSet 5 (pC (.int 1)))
    (pSeq (pSet 6 (pN 3))
    (pSeq (pFor (piE (pN 2)) (pgN 7)
    (pSeq (pSet 8 (pIx (pIx (pIx (pN 1) (pN 6)) (pC (.int 1))) (pMtS sidxF (pN 0) (paCons (pN 7) paNil))))
    (pSeq (pSet 4 (pBin mulP (pN 4) (pIx (pN 8) (pC (.int 1)))))
    (pSeq (pSet 5 (pBin mulP (pN 5) (pIx (pIx (pN 1) (pN 6)) (pC (.int 0)))))
    (pSet 6 (pIx (pN 8) (pC (.int 0))))))))
    (pRet (pLst (paCons (pN 4) (paCons (pN 5) (paCons (pN 6) paNil)))))))))
-- slots: 0 rules, 1 handed!, 2 rule, 3 move
def b_law_as_lists : PTS :=
  (pSeq (pSetO 1 (pLst paNil))
    (pSeq (pFor (piE (pN 0)) (pgN 2)
    (pApp 1 (pLst (paCons (pIx (pN 2) (pC (.int 0))) (paCons (pLc (piE (pIx (pN 2) (pC (.int 1)))) [3] (pgN 3) pYes (pCall listP (paCons (pN 3) paNil))) paNil)))))
    (pFrz 1 (pRet (pN 1)))))
-- slots: 0 rules, 1 common, 2 known!, 3 rule
def b_law_common : PTS :=
  (pSeq (pSet 1 (pC (.int 1)))
    (pSeq (pSetO 2 pDk)
    (pSeq (pFor (piE (pN 0)) (pgN 3)
    (pIfS (pB (pBin (inP true) (pIx (pN 3) (pC (.int 0))) (pNo 2)))
    (pSeq (pSetI 2 (pIx (pN 3) (pC (.int 0))) (pC (.bl true)))
    (pSet 1 (pBin mulP (pN 1) (pIx (pN 3) (pC (.int 0))))))
    pNext))
    (pRet (pN 1)))))
-- slots: 0 alphabet, 1 steps, 2 texts, 3 turn, 4 grown!, 5 text, 6 letter
def b_law_all_texts : PTS :=
  (pSeq (pSet 2 (pLst (paCons (pC (.str "")) paNil)))
    (pSeq (pFor (piR1 (pN 1)) (pgN 3)
    (pSeq (pSetO 4 (pLst paNil))
    (pSeq (pFor (piE (pN 2)) (pgN 5)
    (pFor (piE (pN 0)) (pgN 6)
    (pApp 4 (pBin addP (pN 5) (pN 6)))))
    (pSet 2 (pCall listP (paCons (pNo 4) paNil))))))
    (pRet (pN 2))))
-- slots: 0 alphabet, 1 rules, 2 s, 3 steps, 4 common, 5 bottom, 6 turn, 7 top, 8 text, 9 made
def b_law_listed (sp_law_common : PSp) (sp_law_all_texts : PSp) (sp_law_product : PSp) : PTS :=
  (pSeq (pSet 4 (pCall sp_law_common (paCons (pN 1) paNil)))
    (pSeq (pSet 5 (pC (.int 1)))
    (pSeq (pFor (piR1 (pN 3)) (pgN 6)
    (pSet 5 (pBin mulP (pN 5) (pN 4))))
    (pSeq (pSet 7 (pC (.int 0)))
    (pSeq (pFor (piE (pCall sp_law_all_texts (paCons (pN 0) (paCons (pN 3) paNil)))) (pgN 8)
    (pSeq (pSet 9 (pCall sp_law_product (paCons (pN 0) (paCons (pN 1) (paCons (pN 8) (paCons (pN 2) paNil))))))
    (pSet 7 (pBin addP (pN 7) (pBin mulP (pIx (pN 9) (pC (.int 0))) (pBin fdivP (pN 5) (pIx (pN 9) (pC (.int 1)))))))))
    (pRet (pLst (paCons (pN 7) (paCons (pN 5) paNil)))))))))
-- slots: 0 rules, 1 s, 2 steps, 3 common, 4 bottom, 5 weights!, 6 turn, 7 grown!, 8 at, 9 part, 10 move, 11 rule
def b_law_weights (sp_law_common : PSp) : PTS :=
  (pSeq (pSet 3 (pCall sp_law_common (paCons (pN 0) paNil)))
    (pSeq (pSet 4 (pC (.int 1)))
    (pSeq (pSetO 5 (pLc (piE (pN 0)) [11] (pgN 11) pYes (pC (.int 0))))
    (pSeq (pSetI 5 (pN 1) (pC (.int 1)))
    (pSeq (pFor (piR1 (pN 2)) (pgN 6)
    (pSeq (pSetO 7 (pLc (piE (pN 0)) [11] (pgN 11) pYes (pC (.int 0))))
    (pSeq (pFor (piR1 (pCall lenP (paCons (pN 0) paNil))) (pgN 8)
    (pIfS (pB (pBin gtP (pIx (pNo 5) (pN 8)) (pC (.int 0))))
    (pSeq (pSet 9 (pBin mulP (pIx (pNo 5) (pN 8)) (pBin fdivP (pN 3) (pIx (pIx (pN 0) (pN 8)) (pC (.int 0))))))
    (pFor (piE (pIx (pIx (pN 0) (pN 8)) (pC (.int 1)))) (pgN 10)
    (pSetI 7 (pIx (pN 10) (pC (.int 0))) (pBin addP (pIx (pNo 7) (pIx (pN 10) (pC (.int 0)))) (pBin mulP (pN 9) (pIx (pN 10) (pC (.int 1))))))))
    pNext))
    (pSeq (pSetO 5 (pCall listP (paCons (pNo 7) paNil)))
    (pSet 4 (pBin mulP (pN 4) (pN 3)))))))
    (pRet (pLst (paCons (pCall sumP (paCons (pNo 5) paNil)) (paCons (pN 4) paNil)))))))))
-- slots: 0 rules, 1 s, 2 steps, 3 here, 4 turn, 5 known!, 6 after!, 7 at, 8 move
def b_law_all_bet : PTS :=
  (pSeq (pSet 3 (pLst (paCons (pN 1) paNil)))
    (pSeq (pFor (piR1 (pN 2)) (pgN 4)
    (pSeq (pSetO 5 pDk)
    (pSeq (pSetO 6 (pLst paNil))
    (pSeq (pFor (piE (pN 3)) (pgN 7)
    (pSeq (pIfS (pB (pBin neP (pCall sumP (paCons (pLc (piE (pIx (pIx (pN 0) (pN 7)) (pC (.int 1)))) [8] (pgN 8) pYes (pIx (pN 8) (pC (.int 1)))) paNil)) (pIx (pIx (pN 0) (pN 7)) (pC (.int 0)))))
    (pRet (pC (.bl false)))
    pNext)
    (pFor (piE (pIx (pIx (pN 0) (pN 7)) (pC (.int 1)))) (pgN 8)
    (pIfS (pAnd (pB (pBin gtP (pIx (pN 8) (pC (.int 1))) (pC (.int 0)))) (pB (pBin (inP true) (pIx (pN 8) (pC (.int 0))) (pNo 5))))
    (pSeq (pSetI 5 (pIx (pN 8) (pC (.int 0))) (pC (.bl true)))
    (pApp 6 (pIx (pN 8) (pC (.int 0)))))
    pNext))))
    (pSet 3 (pCall listP (paCons (pNo 6) paNil)))))))
    (pRet (pC (.bl true)))))
-- slots: 0 script, 1 pick, 2 alphabet, 3 size, 4 many, 5 rules, 6 others, 7 s, 8 steps, 9 lesser, 10 short, 11 player, 12 second, 13 first, 14 due, 15 less
def b_law (sp_law_digits : PSp) (sp_law_cell : PSp) (sp_law_alphabet : PSp) (sp_law_wide_rules : PSp) (sp_Bettor__init__ : PSp) (sp_law_as_lists : PSp) (sp_length_chance : PSp) (sp_law_weights : PSp) (sp_law_same : PSp) (sp_law_ratio : PSp) (sp_law_listed : PSp) (sp_law_fraction : PSp) (sp_law_all_bet : PSp) : PTS :=
  (pSeq (pSet 1 (pCall sp_law_digits (paCons (pCall sp_law_cell (paCons (pN 0) (paCons (pC (.int 0)) paNil))) (paCons (pLst (paCons (pC (.int 8)) (paCons (pC (.int 4)) (paCons (pC (.int 56)) (paCons (pC (.int 60)) (paCons (pC (.int 21)) (paCons (pC (.int 21)) (paCons (pC (.int 8)) (paCons (pC (.int 21)) paNil))))))))) paNil))))
    (pSeq (pSet 2 (pCall sp_law_alphabet (paCons (pCall sp_law_digits (paCons (pCall sp_law_cell (paCons (pN 0) (paCons (pC (.int 1)) paNil))) (paCons (pBin addP (pLst (paCons (pC (.int 12)) paNil)) (pBin mulP (pLst (paCons (pC (.int 36)) paNil)) (pC (.int 6)))) paNil))) (paCons (pC (.int 6)) paNil))))
    (pSeq (pSet 3 (pCall lenP (paCons (pN 2) paNil)))
    (pSeq (pSet 4 (pBin addP (pC (.int 1)) (pIx (pN 1) (pC (.int 1)))))
    (pSeq (pJn (pIfS (pB (pBin eqP (pIx (pN 1) (pC (.int 0))) (pC (.int 0))))
    (pSet 4 (pCall minP (paCons (pC (.int 60)) (paCons (pBin addP (pC (.int 5)) (pBin fdivP (pBin mulP (pIx (pN 1) (pC (.int 2))) (pC (.int 5))) (pC (.int 4)))) paNil))))
    pNext))
    (pSeq (pJn (pIfS (pB (pBin eqP (pIx (pN 1) (pC (.int 0))) (pC (.int 1))))
    (pSet 4 (pBin addP (pC (.int 5)) (pBin modP (pCall intP (paCons (pIx (pN 1) (pC (.int 2))) paNil)) (pC (.int 4)))))
    pNext))
    (pSeq (pSet 5 (pCall sp_law_wide_rules (paCons (pN 3) (paCons (pCall sp_law_cell (paCons (pN 0) (paCons (pC (.int 2)) paNil))) (paCons (pN 4) (paCons (pBin ltP (pIx (pN 1) (pC (.int 6))) (pC (.int 2))) paNil))))))
    (pSeq (pSet 6 (pCall sp_law_wide_rules (paCons (pN 3) (paCons (pCall sp_law_cell (paCons (pN 0) (paCons (pC (.int 3)) paNil))) (paCons (pBin addP (pC (.int 1)) (pBin modP (pCall intP (paCons (pIx (pN 1) (pC (.int 3))) paNil)) (pC (.int 4)))) (paCons (pBin eqP (pIx (pN 1) (pC (.int 6))) (pC (.int 3))) paNil))))))
    (pSeq (pSet 7 (pBin modP (pCall intP (paCons (pIx (pN 1) (pC (.int 3))) paNil)) (pN 4)))
    (pSeq (pJn (pSet 8 (pCall minP (paCons (pIx (pN 1) (pC (.int 4))) (paCons (pBin fdivP (pC (.int 2400)) (pBin mulP (pN 4) (pN 3))) (paCons (pIx (pLst (paCons (pC (.int 20)) (paCons (pC (.int 10)) paNil))) (pCall intP (paCons (pChain ltP leP (pC (.int 4)) (pN 4) (pC (.int 8))) paNil))) paNil))))))
    (pSeq (pSet 9 (pBin modP (pCall intP (paCons (pIx (pN 1) (pC (.int 7))) paNil)) (pBin addP (pN 8) (pC (.int 1)))))
    (pSeq (pJn (pSet 10 (pCall minP (paCons (pIx (pN 1) (pC (.int 5))) (paCons (pIx (pLst (paCons (pC (.int 20)) (paCons (pC (.int 8)) (paCons (pC (.int 5)) (paCons (pC (.int 4)) (paCons (pC (.int 3)) (paCons (pC (.int 3)) paNil))))))) (pBin subP (pN 3) (pC (.int 1)))) (paCons (pIx (pLst (paCons (pC (.int 20)) (paCons (pC (.int 10)) paNil))) (pCall intP (paCons (pChain ltP leP (pC (.int 4)) (pN 4) (pC (.int 8))) paNil))) paNil))))))
    (pSeq (pSet 11 (pCall sp_Bettor__init__ (paCons (pN 2) (paCons (pCall sp_law_as_lists (paCons (pN 5) paNil)) paNil))))
    (pSeq (pSet 12 (pCall sp_Bettor__init__ (paCons (pN 2) (paCons (pN 6) paNil))))
    (pSeq (pSet 13 (pCallK sp_length_chance 2 1 (pickL [0, 1, 2]) (paCons (pN 11) (paCons (pN 8) paNil)) (paCons (pN 7) paNil)))
    (pSeq (pSet 14 (pCall sp_law_weights (paCons (pN 5) (paCons (pN 7) (paCons (pN 8) paNil)))))
    (pSeq (pIfS (pNot (pB (pCall sp_law_same (paCons (pN 13) (paCons (pCall sp_law_ratio (paCons (pIx (pN 14) (pC (.int 0))) (paCons (pIx (pN 14) (pC (.int 1))) paNil))) paNil)))))
    (pRet (pC (.bl false)))
    pNext)
    (pSeq (pSet 14 (pCall sp_law_listed (paCons (pN 2) (paCons (pN 5) (paCons (pN 7) (paCons (pN 10) paNil))))))
    (pSeq (pIfS (pNot (pB (pCall sp_law_same (paCons (pCallK sp_length_chance 2 1 (pickL [0, 1, 2]) (paCons (pN 11) (paCons (pN 10) paNil)) (paCons (pN 7) paNil)) (paCons (pCall sp_law_ratio (paCons (pIx (pN 14) (pC (.int 0))) (paCons (pIx (pN 14) (pC (.int 1))) paNil))) paNil)))))
    (pRet (pC (.bl false)))
    pNext)
    (pSeq (pSet 14 (pCall sp_law_weights (paCons (pN 5) (paCons (pC (.int 0)) (paCons (pN 8) paNil)))))
    (pSeq (pIfS (pNot (pB (pCall sp_law_same (paCons (pCallK sp_length_chance 0 2 (pickLD [0, 1] [D.int 0]) paNil (paCons (pN 11) (paCons (pN 8) paNil))) (paCons (pCall sp_law_ratio (paCons (pIx (pN 14) (pC (.int 0))) (paCons (pIx (pN 14) (pC (.int 1))) paNil))) paNil)))))
    (pRet (pC (.bl false)))
    pNext)
    (pSeq (pSet 14 (pCall sp_law_listed (paCons (pN 2) (paCons (pN 6) (paCons (pC (.int 0)) (paCons (pN 10) paNil))))))
    (pSeq (pIfS (pNot (pB (pCall sp_law_same (paCons (pCall (dflS [D.int 0] sp_length_chance) (paCons (pN 12) (paCons (pN 10) paNil))) (paCons (pCall sp_law_ratio (paCons (pIx (pN 14) (pC (.int 0))) (paCons (pIx (pN 14) (pC (.int 1))) paNil))) paNil)))))
    (pRet (pC (.bl false)))
    pNext)
    (pSeq (pSet 15 (pCallK sp_length_chance 0 3 (pickL [2, 0, 1]) paNil (paCons (pN 9) (paCons (pN 7) (paCons (pN 11) paNil)))))
    (pSeq (pJn (pIfS (pOr (pNot (pB (pCall sp_law_fraction (paCons (pN 15) paNil)))) (pOr (pB (pBin gtP (pIx (pN 15) (pC (.int 0))) (pIx (pN 15) (pC (.int 1))))) (pB (pBin gtP (pBin mulP (pIx (pN 13) (pC (.int 0))) (pIx (pN 15) (pC (.int 1)))) (pBin mulP (pIx (pN 15) (pC (.int 0))) (pIx (pN 13) (pC (.int 1))))))))
    (pRet (pC (.bl false)))
    pNext))
    (pSeq (pIfS (pOr (pB (pBin neP (pBin eqP (pN 15) (pTup (paCons (pC (.int 1)) (paCons (pC (.int 1)) paNil)))) (pCall sp_law_all_bet (paCons (pN 5) (paCons (pN 7) (paCons (pN 9) paNil)))))) (pB (pBin neP (pBin eqP (pN 13) (pTup (paCons (pC (.int 1)) (paCons (pC (.int 1)) paNil)))) (pCall sp_law_all_bet (paCons (pN 5) (paCons (pN 7) (paCons (pN 8) paNil)))))))
    (pRet (pC (.bl false)))
    pNext)
    (pSeq (pIfS (pOr (pNot (pB (pCall sp_law_same (paCons (pCallK sp_length_chance 2 1 (pickL [0, 1, 2]) (paCons (pN 11) (paCons (pC (.int 0)) paNil)) (paCons (pN 7) paNil)) (paCons (pTup (paCons (pC (.int 1)) (paCons (pC (.int 1)) paNil))) paNil))))) (pNot (pB (pCall sp_law_same (paCons (pCall (dflS [D.int 0] sp_length_chance) (paCons (pN 12) (paCons (pC (.int 0)) paNil))) (paCons (pTup (paCons (pC (.int 1)) (paCons (pC (.int 1)) paNil))) paNil))))))
    (pRet (pC (.bl false)))
    pNext)
    (pRet (pCall sp_law_same (paCons (pCallK sp_length_chance 2 1 (pickL [0, 1, 2]) (paCons (pN 11) (paCons (pN 8) paNil)) (paCons (pN 7) paNil)) (paCons (pN 13) paNil)))))))))))))))))))))))))))))))
end K65
end

section
set_option linter.all false
set_option maxRecDepth 100000
set_option maxHeartbeats 4000000
set_option autoImplicit false
/-! TX: stretches of a text (plain law). -/
namespace PL
open PySem PySem.Spec PyProof.Rows L2
abbrev Pr := Int × Int
def prT (p : Pr) : D := .tup [.int p.1, .int p.2]
def prL (p : Pr) : D := .lst [.int p.1, .int p.2]
def wd (z : Str) (p : Pr) : Str := cutS z (some p.1) (some p.2)
/-- pieces in order, none empty, within n -/
def Ch (n : Int) : Int → List Pr → Prop
  | _, [] => True
  | r, p :: ps => r ≤ p.1 ∧ p.1 < p.2 ∧ p.2 ≤ n ∧ Ch n p.2 ps
def lastE (r : Int) (ps : List Pr) : Int := (ps.getLast?.map (·.2)).getD r
/-- the reading, from reached and seen on -/
def rd (z : Str) : List Pr → Int → List Str → Bool
  | [], _, _ => true
  | p :: ps, r, seen => if p.1 < r ∨ p.2 ≤ p.1 ∨ (z.length : Int) < p.2 then false else if wd z p ∈ seen then false else rd z ps p.2 (seen ++ [wd z p])
theorem rd_cons (z : Str) (p : Pr) (ps : List Pr) (r : Int) (seen : List Str) : rd z (p :: ps) r seen = if p.1 < r ∨ p.2 ≤ p.1 ∨ (z.length : Int) < p.2 then false else if wd z p ∈ seen then false else rd z ps p.2 (seen ++ [wd z p]) := rfl
theorem rd_nil (z : Str) (r : Int) (seen : List Str) : rd z [] r seen = true := rfl
theorem rd_iff (z : Str) : ∀ (ps : List Pr) (r : Int) (seen : List Str), rd z ps r seen = true ↔ Ch z.length r ps ∧ (ps.map (wd z)).Nodup ∧ ∀ w, w ∈ ps.map (wd z) → w ∉ seen
  | [], r, seen => by simp [rd, Ch]
  | p :: ps, r, seen => by
    unfold rd Ch
    rw [List.map_cons, List.nodup_cons]
    by_cases h : p.1 < r ∨ p.2 ≤ p.1 ∨ (z.length : Int) < p.2
    · rw [if_pos h]
      constructor
      · intro e; cases e
      · rintro ⟨⟨a, b, c, _⟩, _⟩; omega
    · rw [if_neg h]
      by_cases hs : wd z p ∈ seen
      · rw [if_pos hs]
        constructor
        · intro e; cases e
        · rintro ⟨_, _, k⟩; exact absurd hs (k _ (List.mem_cons_self ..))
      · rw [if_neg hs, rd_iff z ps p.2 (seen ++ [wd z p])]
        constructor
        · rintro ⟨a, b, c⟩
          refine ⟨⟨by omega, by omega, by omega, a⟩, ⟨fun hm => c _ hm (by simp), b⟩, fun w hw => ?_⟩
          rcases List.mem_cons.mp hw with rfl | hw
          · exact hs
          · exact fun q => c w hw (by simp [q])
        · rintro ⟨⟨a1, a2, a3, a4⟩, ⟨b1, b2⟩, c⟩
          refine ⟨a4, b2, fun w hw q => ?_⟩
          rcases List.mem_append.mp q with q | q
          · exact c w (List.mem_cons_of_mem _ hw) q
          · rw [List.mem_singleton] at q
            subst q; exact b1 hw
theorem rd_true {z : Str} {ps : List Pr} : rd z ps 0 [] = true ↔ Ch z.length 0 ps ∧ (ps.map (wd z)).Nodup := by
  rw [rd_iff]; simp
theorem Ch.weak {n r r' : Int} (h : r' ≤ r) : ∀ {ps : List Pr}, Ch n r ps → Ch n r' ps
  | [], _ => trivial
  | _ :: _, ⟨a, b, c, d⟩ => ⟨by omega, b, c, d⟩
theorem lastE_nil (r : Int) : lastE r [] = r := rfl
theorem lastE_snoc (r : Int) (ps : List Pr) (p : Pr) : lastE r (ps ++ [p]) = p.2 := by simp [lastE]
theorem lastE_cons (r : Int) (p : Pr) (ps : List Pr) : lastE r (p :: ps) = lastE p.2 ps := by
  cases ps with
  | nil => rfl
  | cons q qs => simp [lastE, List.getLast?_cons]
theorem Ch.app {n : Int} : ∀ {r : Int} {ps qs : List Pr}, Ch n r (ps ++ qs) ↔ Ch n r ps ∧ Ch n (lastE r ps) qs
  | r, [], qs => by simp [Ch, lastE]
  | r, p :: ps, qs => by
    rw [List.cons_append, lastE_cons]
    show (r ≤ p.1 ∧ p.1 < p.2 ∧ p.2 ≤ n ∧ Ch n p.2 (ps ++ qs)) ↔ (r ≤ p.1 ∧ p.1 < p.2 ∧ p.2 ≤ n ∧ Ch n p.2 ps) ∧ Ch n (lastE p.2 ps) qs
    rw [Ch.app]
    constructor
    · rintro ⟨a, b, c, d, e⟩; exact ⟨⟨a, b, c, d⟩, e⟩
    · rintro ⟨⟨a, b, c, d⟩, e⟩; exact ⟨a, b, c, d, e⟩
theorem Ch.one {n r : Int} {p : Pr} : Ch n r [p] ↔ r ≤ p.1 ∧ p.1 < p.2 ∧ p.2 ≤ n := by simp [Ch]
theorem Ch.last {n : Int} : ∀ {r : Int} {ps : List Pr}, Ch n r ps → r ≤ lastE r ps ∧ (r ≤ n → lastE r ps ≤ n)
  | r, [], _ => ⟨Int.le_refl _, fun h => h⟩
  | r, p :: ps, ⟨a, b, c, d⟩ => by
    have := Ch.last d
    rw [lastE_cons]
    exact ⟨by omega, fun _ => this.2 c⟩
theorem Ch.mem {n : Int} : ∀ {r : Int} {ps : List Pr}, Ch n r ps → ∀ p ∈ ps, r ≤ p.1 ∧ p.1 < p.2 ∧ p.2 ≤ n ∧ p.2 ≤ lastE r ps
  | r, [], _, p, h => by cases h
  | r, q :: ps, ⟨a, b, c, d⟩, p, h => by
    have hl := Ch.last d
    rw [lastE_cons]
    rcases List.mem_cons.mp h with rfl | h
    · exact ⟨a, b, c, hl.1⟩
    · have := Ch.mem d p h
      exact ⟨by omega, this.2.1, this.2.2.1, this.2.2.2⟩

/-! ### a table of words seen -/
def seenD (ws : List Str) : List (Key × D) := ws.map fun w => (Sum.inr w, D.bl true)
theorem lookD_seen (ws : List Str) (w : Str) : lookD (seenD ws) (Sum.inr w : Key) = if w ∈ ws then some (D.bl true) else none := by
  unfold lookD seenD
  induction ws with
  | nil => rfl
  | cons x ws ih =>
    rw [List.map_cons, List.find?_cons]
    by_cases h : x = w
    · subst h; simp
    · have hd : decide ((Sum.inr x : Key) = Sum.inr w) = false := decide_eq_false fun e => h (Sum.inr.inj e)
      rw [hd]
      show Option.map _ (List.find? _ _) = _
      rw [ih]
      have : ¬ w = x := fun e => h e.symm
      simp [this]
theorem putD_seen (ws : List Str) (w : Str) (h : w ∉ ws) : putD (seenD ws) (Sum.inr w : Key) (D.bl true) = seenD (ws ++ [w]) := by
  unfold putD
  rw [if_neg, seenD, seenD, List.map_append]; rfl
  intro e
  rw [List.any_eq_true] at e
  obtain ⟨kv, hm, e⟩ := e
  unfold seenD at hm
  rw [List.mem_map] at hm
  obtain ⟨x, hx, rfl⟩ := hm
  have e : (Sum.inr x : Key) = Sum.inr w := of_decide_eq_true e
  cases e
  exact h hx
theorem inP_seen {neg : Bool} {w : Str} {ws : List Str} {P : D → Prop} : inP neg (.str w) (.dk (seenD ws)) P = P (.bl (decide (w ∈ ws) != neg)) := by
  refine propext ⟨fun ⟨o, e, h⟩ => ?_, fun h => ⟨_, rfl, ?_⟩⟩
  · have e : some (lookD (seenD ws) (Sum.inr w : Key)) = some o := e
    cases e
    rw [lookD_seen] at h
    split at h
    · rename_i hm; rw [decide_eq_true hm]; exact h
    · rename_i hm; rw [decide_eq_false hm]; exact h
  · show P (.bl ((lookD (seenD ws) (Sum.inr w : Key)).isSome != neg))
    rw [lookD_seen]
    split
    · rename_i hm; rw [decide_eq_true hm] at h; exact h
    · rename_i hm; rw [decide_eq_false hm] at h; exact h
theorem inP_seenF {w : Str} {ws : List Str} {P : D → Prop} : inP false (.str w) (.dk (seenD ws)) P = P (.bl (decide (w ∈ ws))) := by rw [inP_seen, Bool.bne_false]
theorem inP_seenT {w : Str} {ws : List Str} {P : D → Prop} : inP true (.str w) (.dk (seenD ws)) P = P (.bl (!decide (w ∈ ws))) := by rw [inP_seen, Bool.bne_true]
theorem setP_seen {w : Str} {ws : List Str} {P : D → Prop} (h : w ∉ ws) (hl : ws.length < sizeLine) (q : P (.dk (seenD (ws ++ [w])))) : setP (.dk (seenD ws)) (.str w) (.bl true) P :=
  ⟨_, rfl, by unfold seenD; rw [List.length_map]; exact hl, by rw [putD_seen ws w h]; exact q⟩
theorem getD_seen (ws : List Str) : D.dk (seenD ws) = .dk (seenD ws) := rfl

/-! ### == of rows of pairs -/
theorem flats_prL (ps : List Pr) : flats (ps.map prL) = true := by
  induction ps with
  | nil => rfl
  | cons p ps ih => exact ih
theorem toPys_prL (ps : List Pr) : toPys (ps.map prL) = ps.map fun p => PyData.list [.int p.1, .int p.2] := by
  induction ps with
  | nil => rfl
  | cons p ps ih => show PyData.list [.int p.1, .int p.2] :: toPys (ps.map prL) = _; rw [ih]; rfl
theorem lay_prL (ps : List Pr) : PyData.canLayAll0 (ps.map fun p => PyData.list [.int p.1, .int p.2]) = true := by
  induction ps with
  | nil => rfl
  | cons p ps ih => show (PyData.canLay0 (.list [.int p.1, .int p.2]) && PyData.canLayAll0 (ps.map fun p => PyData.list [.int p.1, .int p.2])) = true; rw [ih]; rfl
theorem depth_prL (ps : List Pr) : PyData.depthAll (ps.map fun p => PyData.list [.int p.1, .int p.2]) ≤ 3 := by
  induction ps with
  | nil => simp [PyData.depthAll]
  | cons p ps ih =>
    simp only [List.map_cons, PyData.depthAll, PyData.depth]
    omega
theorem cmpOk_prL (ps : List Pr) : cmpOk (.lst (ps.map prL)) = true := by
  have h1 : flat (.lst (ps.map prL)) = true := flats_prL ps
  have h2 : SeqAt.shaped (toPy (.lst (ps.map prL))) = true := by
    show (PyData.canLay0 (.list (toPys (ps.map prL))) && decide (PyData.depth (.list (toPys (ps.map prL))) ≤ 64)) = true
    rw [toPys_prL, Bool.and_eq_true]
    have := depth_prL ps
    exact ⟨lay_prL ps, decide_eq_true (by simp only [PyData.depth]; omega)⟩
  unfold cmpOk
  rw [h1, h2]; rfl
theorem eqv_prL (ps : List Pr) : PyData.eqv (toPy (.lst (ps.map prL))) (toPy (.lst (ps.map prL))) = true := by
  show PyData.eqvAll (toPys (ps.map prL)) (toPys (ps.map prL)) = true
  rw [toPys_prL]
  induction ps with
  | nil => rfl
  | cons p ps ih => simp only [List.map_cons, PyData.eqvAll, PyData.eqv, ih]; simp

/-! ### the text with a word put in -/
theorem cutS_tl (z : Str) {a b : Int} (h0 : 0 ≤ a) (hab : a ≤ b) (hb : b ≤ z.length) : (cutS z (some a) (some b)).cps.toList = (z.cps.toList.drop a.toNat).take (b.toNat - a.toNat) := by
  obtain ⟨a, rfl⟩ := Int.eq_ofNat_of_zero_le h0
  obtain ⟨b, rfl⟩ := Int.eq_ofNat_of_zero_le (show 0 ≤ b by omega)
  unfold cutS
  rw [HT.sIx_nat, HT.sIx_nat, Nat.min_eq_left (show a ≤ z.length by omega), Nat.min_eq_left (show b ≤ z.length by omega)]
  rfl
theorem cutS_len (z : Str) {a b : Int} (h0 : 0 ≤ a) (hab : a ≤ b) (hb : b ≤ z.length) : ((cutS z (some a) (some b)).length : Int) = b - a := by
  show ((cutS z (some a) (some b)).cps.size : Int) = _
  have hz : z.length = z.cps.toList.length := by simp [Str.length]
  rw [← Array.length_toList, cutS_tl z h0 hab hb, List.length_take, List.length_drop]
  omega
theorem str_len_app (x y : Str) : (x ++ y).length = x.length + y.length := by
  show (x ++ y).cps.size = x.cps.size + y.cps.size
  rw [Str.cps_append, Array.size_append]
section
variable {L W : List Nat} {at_ : Nat}
theorem cut_before (h : at_ ≤ L.length) {a b : Nat} (hab : a ≤ b) (hb : b ≤ at_) : ((L.take at_ ++ W ++ L.drop at_).drop a).take (b - a) = (L.drop a).take (b - a) := by
  apply List.ext_getElem?
  intro i
  rw [List.getElem?_take, List.getElem?_take]
  split
  · rename_i hi
    rw [List.getElem?_drop, List.getElem?_drop, List.append_assoc, List.getElem?_append_left (by rw [List.length_take]; omega), List.getElem?_take, if_pos (by omega)]
  · rfl
theorem cut_after (h : at_ ≤ L.length) {a b : Nat} (ha : at_ ≤ a) (hab : a ≤ b) : ((L.take at_ ++ W ++ L.drop at_).drop (a + W.length)).take ((b + W.length) - (a + W.length)) = (L.drop a).take (b - a) := by
  apply List.ext_getElem?
  intro i
  rw [List.getElem?_take, List.getElem?_take, show b + W.length - (a + W.length) = b - a by omega]
  split
  · rw [List.getElem?_drop, List.getElem?_drop, List.getElem?_append_right (by rw [List.length_append, List.length_take]; omega), List.getElem?_drop, List.length_append, List.length_take]
    congr 1
    omega
  · rfl
theorem cut_in (h : at_ ≤ L.length) : ((L.take at_ ++ W ++ L.drop at_).drop at_).take ((at_ + W.length) - at_) = W := by
  have e : (L.take at_).length = at_ := by rw [List.length_take]; omega
  rw [List.append_assoc, List.drop_append_of_le_length (by omega), List.drop_of_length_le (by omega), List.nil_append, Nat.add_sub_cancel_left, List.take_append_of_le_length (Nat.le_refl _), List.take_length]
end
/-! ### lengths -/
theorem joinL_nil (ps : List (List Nat)) : TL.joinL [] ps = ps.flatten := by
  induction ps with
  | nil => rfl
  | cons p ps ih =>
    cases ps with
    | nil => simp [TL.joinL]
    | cons q qs =>
      show p ++ ([] ++ TL.joinL [] (q :: qs)) = _
      rw [ih]; simp
theorem join_len (ys : List Str) : (Txt.join (Str.ofString "") ys).length = (ys.map (·.length)).sum := by
  have e : (Txt.join (Str.ofString "") ys).cps.toList = (ys.map TL.tl).flatten := by
    rw [TL.join_eq]
    show TL.tl (Str.join (Str.ofString "") ys) = _
    rw [TL.tl_join, str_e]
    exact joinL_nil _
  show (Txt.join (Str.ofString "") ys).cps.size = _
  rw [← Array.length_toList, e, List.length_flatten, List.map_map]
  congr 1
theorem cutS_le (z : Str) (lo hi : Option Int) : (cutS z lo hi).length ≤ z.length := by
  show (cutS z lo hi).cps.size ≤ z.cps.size
  unfold cutS
  rw [List.size_toArray, List.length_take, List.length_drop, Array.length_toList]
  omega
theorem cutS_to (z : Str) (b : Nat) : (cutS z none (some (b : Int))).length = min b z.length := by
  show (cutS z none (some (b : Int))).cps.size = _
  unfold cutS
  rw [List.size_toArray, List.length_take, List.length_drop, Array.length_toList, HT.sIx_none, HT.sIx_nat]
  show min (min b z.length - 0) (z.length - 0) = min b z.length
  omega
theorem flats_strs (ns : List Str) : flats (ns.map D.str) = true := by
  induction ns with
  | nil => rfl
  | cons n ns ih => exact ih
theorem toPys_strs (ns : List Str) : toPys (ns.map D.str) = ns.map PyData.str := by
  induction ns with
  | nil => rfl
  | cons n ns ih => show PyData.str n :: toPys (ns.map D.str) = _; rw [ih]; rfl
theorem sum_same {α : Type} (f : α → Nat) (c : Nat) (xs : List α) (h : ∀ x ∈ xs, f x = c) : (xs.map f).sum = xs.length * c := by
  induction xs with
  | nil => simp
  | cons x xs ih =>
    rw [List.map_cons, List.sum_cons, ih fun y hy => h y (List.mem_cons_of_mem _ hy), h x (List.mem_cons_self ..), List.length_cons, Nat.succ_mul]
    omega
theorem sum_le' {α : Type} (f : α → Nat) (c : Nat) (xs : List α) (h : ∀ x ∈ xs, f x ≤ c) : (xs.map f).sum ≤ xs.length * c := by
  induction xs with
  | nil => simp
  | cons x xs ih =>
    have a := ih fun y hy => h y (List.mem_cons_of_mem _ hy)
    have b := h x (List.mem_cons_self ..)
    rw [List.map_cons, List.sum_cons, List.length_cons, Nat.succ_mul]
    omega
end PL
end

section
set_option linter.all false
set_option maxRecDepth 100000
set_option maxHeartbeats 4000000
set_option autoImplicit false
/-! CT: texts as lists of code points, the cut of a text (plain law). -/
namespace PL
open PySem PySem.Spec PyProof.Rows L2
abbrev Wd := List Nat
def T (w : Wd) : Str := ⟨w.toArray⟩
def TD (w : Wd) : D := .str (T w)
theorem T_inj {a b : Wd} (h : T a = T b) : a = b := by
  have : a.toArray = b.toArray := congrArg Str.cps h
  simpa using this
theorem T_app (a b : Wd) : T a ++ T b = T (a ++ b) := by
  show (⟨a.toArray ++ b.toArray⟩ : Str) = ⟨(a ++ b).toArray⟩
  simp
theorem T_len (a : Wd) : (T a).length = a.length := rfl
theorem signs_T (a : Wd) : signs (T a) = a.map fun c => TD [c] := rfl
theorem T_nil : T [] = "" := rfl
/-- all texts with k letters -/
def allN (al : Wd) : Nat → List Wd
  | 0 => [[]]
  | k + 1 => (allN al k).flatMap fun t => al.map fun c => t ++ [c]
theorem allN_len (al : Wd) : ∀ k, (allN al k).length = al.length ^ k
  | 0 => rfl
  | k + 1 => by
    show ((allN al k).flatMap fun t => al.map fun c => t ++ [c]).length = _
    rw [List.length_flatMap]
    have : (List.map (fun t => (al.map fun c => t ++ [c]).length) (allN al k)) = List.replicate (allN al k).length al.length := by
      rw [List.eq_replicate_iff]
      refine ⟨by simp, fun b hb => ?_⟩
      obtain ⟨t, _, rfl⟩ := List.mem_map.mp hb
      simp
    rw [this, List.sum_replicate_nat, allN_len al k, Nat.pow_succ]
theorem allN_mem {al : Wd} : ∀ {k : Nat} {t : Wd}, t ∈ allN al k → t.length = k
  | 0, t, h => by
    have : t = [] := by simpa [allN] using h
    subst this; rfl
  | k + 1, t, h => by
    obtain ⟨u, hu, ht⟩ := List.mem_flatMap.mp h
    obtain ⟨c, _, rfl⟩ := List.mem_map.mp ht
    rw [List.length_append, allN_mem hu]; rfl
/-! the numbers of the pieces -/
def nmF : Nat → List Wd → List (Key × D)
  | _, [] => []
  | i, p :: ps => (Sum.inr (T p), D.int (i : Nat)) :: nmF (i + 1) ps
def nmD (ps : List Wd) : List (Key × D) := nmF 0 ps
theorem nmF_len : ∀ (ps : List Wd) (i : Nat), (nmF i ps).length = ps.length
  | [], _ => rfl
  | p :: ps, i => congrArg (· + 1) (nmF_len ps (i + 1))
theorem lookF (w : Wd) : ∀ (ps : List Wd) (i : Nat), lookD (nmF i ps) (Sum.inr (T w) : Key) = if w ∈ ps then some (D.int ((i + ps.idxOf w : Nat) : Int)) else none
  | [], i => rfl
  | p :: ps, i => by
    unfold lookD nmF
    rw [List.find?_cons]
    by_cases h : p = w
    · subst h
      rw [show decide ((Sum.inr (T p) : Key) = Sum.inr (T p)) = true from decide_eq_true rfl]
      simp [List.idxOf_cons_self]
    · rw [show decide ((Sum.inr (T p) : Key) = Sum.inr (T w)) = false from decide_eq_false fun e => h (T_inj (Sum.inr.inj e))]
      show lookD (nmF (i + 1) ps) _ = _
      rw [lookF w ps (i + 1)]
      by_cases hm : w ∈ ps
      · have e : (p :: ps).idxOf w = ps.idxOf w + 1 := by
          rw [List.idxOf_cons]
          have : (p == w) = false := beq_eq_false_iff_ne.mpr h
          rw [this]; rfl
        rw [if_pos hm, if_pos (List.mem_cons_of_mem _ hm), e, show i + 1 + ps.idxOf w = i + (ps.idxOf w + 1) by omega]
      · have : ¬ w ∈ p :: ps := fun q => by
          rcases List.mem_cons.mp q with q | q
          · exact h q.symm
          · exact hm q
        rw [if_neg hm, if_neg this]
theorem look_nm (ps : List Wd) (w : Wd) : lookD (nmD ps) (Sum.inr (T w) : Key) = if w ∈ ps then some (D.int (ps.idxOf w : Nat)) else none := by
  unfold nmD
  rw [lookF, Nat.zero_add]
theorem nmF_snoc (w : Wd) : ∀ (ps : List Wd) (i : Nat), nmF i (ps ++ [w]) = nmF i ps ++ [(Sum.inr (T w), D.int ((i + ps.length : Nat) : Int))]
  | [], i => rfl
  | p :: ps, i => by
    show (_ :: nmF (i + 1) (ps ++ [w])) = _ :: (nmF (i + 1) ps ++ _)
    rw [nmF_snoc w ps (i + 1), List.length_cons, show i + 1 + ps.length = i + (ps.length + 1) by omega]
theorem put_nm {ps : List Wd} {w : Wd} (h : w ∉ ps) : putD (nmD ps) (Sum.inr (T w) : Key) (D.int (ps.length : Nat)) = nmD (ps ++ [w]) := by
  have a : ((nmD ps).any fun kv => decide (kv.1 = (Sum.inr (T w) : Key))) = false := by
    have e := look_nm ps w
    rw [if_neg h] at e
    unfold lookD at e
    rw [Option.map_eq_none_iff, List.find?_eq_none] at e
    rw [List.any_eq_false]
    exact e
  unfold putD
  rw [a]
  show nmD ps ++ [_] = _
  unfold nmD
  rw [nmF_snoc, Nat.zero_add]
theorem inP_nm {neg : Bool} {ps : List Wd} {w : Wd} {P : D → Prop} (h : P (.bl (decide (w ∈ ps) != neg))) : inP neg (.str (T w)) (.dk (nmD ps)) P := by
  refine ⟨_, rfl, ?_⟩
  have e : (lookD (nmD ps) (Sum.inr (T w) : Key)).isSome = decide (w ∈ ps) := by
    rw [look_nm]
    by_cases c : w ∈ ps
    · rw [if_pos c, decide_eq_true c]; rfl
    · rw [if_neg c, decide_eq_false c]; rfl
  show P (.bl ((lookD (nmD ps) (Sum.inr (T w) : Key)).isSome != neg))
  rw [e]
  exact h
theorem ixP_nm {ps : List Wd} {w : Wd} {P : D → Prop} (hm : w ∈ ps) (h : P (.int (ps.idxOf w : Nat))) : ixP (.dk (nmD ps)) (.str (T w)) P := by
  refine ⟨_, ?_, h⟩
  show some (lookD (nmD ps) (Sum.inr (T w) : Key)) = _
  rw [look_nm, if_pos hm]
theorem setP_nm {ps : List Wd} {w : Wd} {P : D → Prop} (hm : w ∉ ps) (hl : ps.length < sizeLine) (h : P (.dk (nmD (ps ++ [w])))) : setP (.dk (nmD ps)) (.str (T w)) (.int (ps.length : Nat)) P := by
  refine ⟨_, rfl, ?_, ?_⟩
  · show (nmF 0 ps).length < _
    rw [nmF_len]; exact hl
  · rw [put_nm hm]; exact h
/-! the cut -/
structure CS where
  ps : List Wd
  rows : List (Nat × Nat)
  w : Wd
def CS.ini : CS := ⟨[[]], [], []⟩
def CS.step (s : CS) (c : Nat) : CS := if s.w ++ [c] ∈ s.ps then { s with w := s.w ++ [c] } else ⟨s.ps ++ [s.w ++ [c]], s.rows ++ [(s.ps.idxOf s.w, c)], []⟩
def cutC (t : Wd) : CS := t.foldl CS.step .ini
/-- a row of a cut -/
def rowD (r : Nat × Nat) : D := .tup [.int (r.1 : Nat), TD [r.2]]
structure CS.Ok (s : CS) (k : Nat) : Prop where
  nil : [] ∈ s.ps
  w : s.w ∈ s.ps
  len : s.rows.length + 1 = s.ps.length
  le : s.ps.length ≤ k + 1
  wl : s.w.length ≤ k
theorem CS.Ok.ini : CS.Ok .ini 0 := ⟨List.mem_singleton.mpr rfl, List.mem_singleton.mpr rfl, rfl, Nat.le_refl _, Nat.le_refl _⟩
theorem CS.Ok.step {s : CS} {k : Nat} (h : s.Ok k) (c : Nat) : (s.step c).Ok (k + 1) := by
  have := h.len; have := h.le; have := h.wl
  unfold CS.step
  by_cases e : s.w ++ [c] ∈ s.ps
  · rw [if_pos e]
    exact ⟨h.nil, e, h.len, by show s.ps.length ≤ _; omega, by show (s.w ++ [c]).length ≤ _; rw [List.length_append]; exact Nat.succ_le_succ h.wl⟩
  · rw [if_neg e]
    refine ⟨List.mem_append_left _ h.nil, List.mem_append_left _ h.nil, ?_, ?_, Nat.zero_le _⟩
    · show (s.rows ++ [_]).length + 1 = (s.ps ++ [_]).length
      rw [List.length_append, List.length_append]; simp; omega
    · show (s.ps ++ [_]).length ≤ _
      rw [List.length_append]; simp; omega
theorem cutC_snoc (t : Wd) (c : Nat) : cutC (t ++ [c]) = (cutC t).step c := by
  unfold cutC
  rw [List.foldl_append]; rfl
theorem takeC {α : Type} {t : List α} {k : Nat} {c : α} (h : t[k]? = some c) : t.take (k + 1) = t.take k ++ [c] := by
  rw [List.take_add_one, h]; rfl
theorem cutC_ok (t : Wd) : (cutC t).Ok t.length := by
  have : ∀ k, k ≤ t.length → (cutC (t.take k)).Ok k := by
    intro k
    induction k with
    | zero => intro _; exact CS.Ok.ini
    | succ k ih =>
      intro hk
      obtain ⟨c, hc⟩ : ∃ c, t[k]? = some c := ⟨_, List.getElem?_eq_getElem (by omega)⟩
      rw [takeC hc, cutC_snoc]
      exact (ih (by omega)).step c
  have h := this t.length (Nat.le_refl _)
  rwa [List.take_length] at h
end PL
end

section
set_option linter.all false
set_option maxRecDepth 100000
set_option maxHeartbeats 4000000
set_option autoImplicit false
/-! CT2: cuts (plain law): rows, pieces, text, starts; a sign in a text. -/
namespace PL
open PySem PySem.Spec PyProof.Rows L2
theorem snoc_ind {α : Type} {motive : List α → Prop} (nil : motive []) (snoc : ∀ l a, motive l → motive (l ++ [a])) (l : List α) : motive l := by
  have : ∀ r : List α, motive r.reverse := by
    intro r
    induction r with
    | nil => exact nil
    | cons a r ih => rw [List.reverse_cons]; exact snoc _ _ ih
  have h := this l.reverse
  rwa [List.reverse_reverse] at h
theorem in_T (a : Wd) (c : Nat) : (!(Builtin.Str.occurrences (T a) (T [c]) 0 (T a).length 1).isEmpty) = decide (c ∈ a) := PySem.StrLaws.found_one (T a) c
abbrev CRow := Nat × Nat
/-- the texts of the pieces -/
def txs (rows : List CRow) : List Wd := rows.foldl (fun ps r => ps ++ [ps.getD r.1 [] ++ [r.2]]) [[]]
theorem txs_snoc (rows : List CRow) (r : CRow) : txs (rows ++ [r]) = txs rows ++ [(txs rows).getD r.1 [] ++ [r.2]] := by
  unfold txs
  rw [List.foldl_append]; rfl
theorem txs_len (rows : List CRow) : (txs rows).length = rows.length + 1 := by
  induction rows using snoc_ind with
  | nil => rfl
  | snoc rs r ih => rw [txs_snoc, List.length_append, ih, List.length_append]; rfl
/-- good rows -/
structure GR (abc : Wd) (rows : List CRow) : Prop where
  row : ∀ (i : Nat) (r : CRow), rows[i]? = some r → r.1 ≤ i ∧ r.2 ∈ abc
  nd : rows.Nodup
theorem GR.take {abc : Wd} {rows : List CRow} (h : GR abc rows) (k : Nat) : GR abc (rows.take k) := by
  refine ⟨fun i r hr => ?_, h.nd.sublist (List.take_sublist _ _)⟩
  rw [List.getElem?_take] at hr
  split at hr
  · exact h.row i r hr
  · cases hr
/-- where the pieces begin, and where the tail -/
def sK (ps : List Wd) (k : Nat) : Nat := ((ps.take (k + 1)).map List.length).sum
def sts (ps : List Wd) : List Nat := (List.range ps.length).map (sK ps)
theorem sK_succ {ps : List Wd} {k : Nat} {p : Wd} (h : ps[k + 1]? = some p) : sK ps (k + 1) = sK ps k + p.length := by
  unfold sK
  rw [takeC h, List.map_append, List.sum_append]; simp
/-! a cut's invariants -/
structure CS.Gd (abc : Wd) (s : CS) : Prop where
  ps : s.ps = txs s.rows
  gr : ∀ (i : Nat) (r : CRow), s.rows[i]? = some r → r.1 ≤ i ∧ r.2 ∈ abc
  nd : s.ps.Nodup
  w : s.w ∈ s.ps
theorem txs_zero (rows : List CRow) : (txs rows)[0]? = some [] := by
  induction rows using snoc_ind with
  | nil => rfl
  | snoc rs r ih =>
    have := txs_len rs
    rw [txs_snoc, List.getElem?_append_left (by omega), ih]
/-- piece k + 1 is the row's parent and its letter -/
theorem txs_at {rows : List CRow} : ∀ {k : Nat} {r : CRow}, (∀ (i : Nat) (r : CRow), rows[i]? = some r → r.1 ≤ i) → rows[k]? = some r → ∃ p, (txs rows)[r.1]? = some p ∧ (txs rows)[k + 1]? = some (p ++ [r.2]) := by
  induction rows using snoc_ind with
  | nil => intro k r _ h; cases h
  | snoc rs q ih =>
    intro k r hg h
    have hl := txs_len rs
    have hg' : ∀ (i : Nat) (r : CRow), rs[i]? = some r → r.1 ≤ i := fun i r hr => hg i r (by rw [List.getElem?_append_left (List.getElem?_eq_some_iff.mp hr).1]; exact hr)
    rw [txs_snoc]
    by_cases hk : k < rs.length
    · rw [List.getElem?_append_left hk] at h
      obtain ⟨p, a, b⟩ := ih hg' h
      have ha := (List.getElem?_eq_some_iff.mp a).1
      exact ⟨p, by rw [List.getElem?_append_left ha]; exact a, by rw [List.getElem?_append_left (by omega)]; exact b⟩
    · have hk2 : k = rs.length := by
        have := (List.getElem?_eq_some_iff.mp h).1
        rw [List.length_append] at this
        simp at this; omega
      subst hk2
      rw [List.getElem?_append_right (Nat.le_refl _), Nat.sub_self] at h
      cases h
      have hr := hg rs.length q (by rw [List.getElem?_append_right (Nat.le_refl _), Nat.sub_self]; rfl)
      obtain ⟨p, hp⟩ : ∃ p, (txs rs)[q.1]? = some p := ⟨_, List.getElem?_eq_getElem (by omega)⟩
      refine ⟨p, by rw [List.getElem?_append_left (by omega)]; exact hp, ?_⟩
      rw [List.getElem?_append_right (by omega), show rs.length + 1 - (txs rs).length = 0 by omega, List.getD_eq_getElem?_getD, hp]; rfl
theorem nd_get {α : Type} {l : List α} (h : l.Nodup) {i j : Nat} {x : α} (hi : l[i]? = some x) (hj : l[j]? = some x) : i = j := by
  obtain ⟨a1, a2⟩ := List.getElem?_eq_some_iff.mp hi
  obtain ⟨b1, b2⟩ := List.getElem?_eq_some_iff.mp hj
  have hp := List.pairwise_iff_getElem.mp h
  by_cases c1 : i < j
  · exact absurd (a2.trans b2.symm) (hp i j a1 b1 c1)
  · by_cases c2 : j < i
    · exact absurd (b2.trans a2.symm) (hp j i b1 a1 c2)
    · omega
theorem nd_idx {α : Type} [BEq α] [LawfulBEq α] {l : List α} (h : l.Nodup) {i : Nat} {x : α} (hi : l[i]? = some x) : l.idxOf x = i := by
  have hm := List.mem_of_getElem? hi
  have hl := List.idxOf_lt_length_of_mem hm
  have e : l[l.idxOf x]? = some x := by rw [List.getElem?_eq_getElem hl, List.getElem_idxOf]
  exact nd_get h e hi
theorem idx_get {α : Type} [BEq α] [LawfulBEq α] {l : List α} {x : α} (hm : x ∈ l) : l[l.idxOf x]? = some x := by
  rw [List.getElem?_eq_getElem (List.idxOf_lt_length_of_mem hm), List.getElem_idxOf]
section
variable {abc : Wd} {s : CS} {c : Nat}
theorem CS.Gd.rows_nd (h : s.Gd abc) : s.rows.Nodup := by
  refine List.pairwise_iff_getElem.mpr fun i j hi hj hij e => ?_
  obtain ⟨r, hr⟩ : ∃ r, s.rows[i]? = some r := ⟨_, List.getElem?_eq_getElem hi⟩
  have hr2 : s.rows[j]? = some r := by
    rw [List.getElem?_eq_getElem hj, ← e, ← List.getElem?_eq_getElem hi, hr]
  have hg := fun i r q => (h.gr i r q).1
  obtain ⟨p, a1, a2⟩ := txs_at hg hr
  obtain ⟨q, b1, b2⟩ := txs_at hg hr2
  rw [a1] at b1
  cases b1
  have nd := h.nd
  rw [h.ps] at nd
  have := nd_get nd a2 b2
  omega
/-- the row of a word that is a piece, and its number -/
theorem CS.Gd.old (h : s.Gd abc) (hm : s.w ++ [c] ∈ s.ps) : (s.ps.idxOf s.w, c) ∈ s.rows ∧ s.rows.idxOf (s.ps.idxOf s.w, c) + 1 = s.ps.idxOf (s.w ++ [c]) := by
  have hg := fun i r q => (h.gr i r q).1
  have hl : s.ps.length = s.rows.length + 1 := by rw [h.ps]; exact txs_len _
  have e := idx_get hm
  have hlt := (List.getElem?_eq_some_iff.mp e).1
  have h0 : s.ps[0]? = some [] := by rw [h.ps]; exact txs_zero _
  generalize hj : s.ps.idxOf (s.w ++ [c]) = j at *
  cases j with
  | zero => rw [h0] at e; have := Option.some.inj e; simp at this
  | succ k =>
    obtain ⟨r, hr⟩ : ∃ r, s.rows[k]? = some r := ⟨_, List.getElem?_eq_getElem (by omega)⟩
    obtain ⟨p, a1, a2⟩ := txs_at hg hr
    rw [← h.ps] at a1 a2
    rw [a2] at e
    have e := Option.some.inj e
    have ew : p = s.w := by
      have := congrArg List.dropLast e
      simpa using this
    have ec : r.2 = c := by
      have := congrArg List.getLast? e
      simpa using this
    subst ew
    have ei := nd_idx h.nd a1
    have er : (s.ps.idxOf s.w, c) = r := by rw [ei, ← ec]
    rw [er]
    exact ⟨List.mem_of_getElem? hr, by rw [nd_idx h.rows_nd hr]⟩
theorem CS.Gd.new (h : s.Gd abc) (hm : s.w ++ [c] ∉ s.ps) : (s.ps.idxOf s.w, c) ∉ s.rows := by
  intro hr
  have hg := fun i r q => (h.gr i r q).1
  obtain ⟨p, a1, a2⟩ := txs_at hg (idx_get hr)
  rw [← h.ps] at a1 a2
  have : p = s.w := by
    have := idx_get h.w
    rw [this] at a1
    exact (Option.some.inj a1).symm
  subst this
  exact hm (List.mem_of_getElem? a2)
theorem CS.Gd.step (h : s.Gd abc) (hc : c ∈ abc) : (s.step c).Gd abc := by
  unfold CS.step
  have hl : s.ps.length = s.rows.length + 1 := by rw [h.ps]; exact txs_len _
  have h0 : s.ps[0]? = some [] := by rw [h.ps]; exact txs_zero _
  by_cases e : s.w ++ [c] ∈ s.ps
  · rw [if_pos e]
    exact ⟨h.ps, h.gr, h.nd, e⟩
  · rw [if_neg e]
    have hi := List.idxOf_lt_length_of_mem h.w
    refine ⟨?_, fun i r hr => ?_, ?_, List.mem_append_left _ (List.mem_of_getElem? h0)⟩
    · show s.ps ++ [_] = txs (s.rows ++ [_])
      rw [txs_snoc, ← h.ps, List.getD_eq_getElem?_getD, idx_get h.w]; rfl
    · have hr : (s.rows ++ [(s.ps.idxOf s.w, c)])[i]? = some r := hr
      by_cases hk : i < s.rows.length
      · rw [List.getElem?_append_left hk] at hr
        exact h.gr i r hr
      · have hk2 : i = s.rows.length := by
          have := (List.getElem?_eq_some_iff.mp hr).1
          rw [List.length_append] at this
          simp at this; omega
        subst hk2
        rw [List.getElem?_append_right (Nat.le_refl _), Nat.sub_self] at hr
        cases hr
        exact ⟨by show s.ps.idxOf s.w ≤ _; omega, hc⟩
    · show (s.ps ++ [_]).Nodup
      rw [List.nodup_append]
      exact ⟨h.nd, by simp, fun a ha b hb q => by simp at hb; subst hb; subst q; exact e ha⟩
end
theorem CS.Gd.ini (abc : Wd) : CS.ini.Gd abc := ⟨rfl, fun i r h => (by cases h), by decide, List.mem_singleton.mpr rfl⟩
theorem cutC_gd {abc : Wd} (t : Wd) (h : ∀ c ∈ t, c ∈ abc) : (cutC t).Gd abc := by
  induction t using snoc_ind with
  | nil => exact CS.Gd.ini abc
  | snoc t c ih =>
    rw [cutC_snoc]
    exact (ih fun x hx => h x (List.mem_append_left _ hx)).step (h c (by simp))
theorem CS.Gd.good {abc : Wd} {s : CS} (h : s.Gd abc) : GR abc s.rows := ⟨h.gr, h.rows_nd⟩
/-- the pieces and the tail are the text -/
theorem cutC_text (t : Wd) : (cutC t).ps.flatten ++ (cutC t).w = t := by
  induction t using snoc_ind with
  | nil => rfl
  | snoc t c ih =>
    rw [cutC_snoc]
    unfold CS.step
    by_cases e : (cutC t).w ++ [c] ∈ (cutC t).ps
    · rw [if_pos e]
      show _ ++ (_ ++ [c]) = _
      rw [← List.append_assoc, ih]
    · rw [if_neg e]
      show ((cutC t).ps ++ [(cutC t).w ++ [c]]).flatten ++ [] = _
      rw [List.flatten_append, List.append_nil]
      show (cutC t).ps.flatten ++ ([(cutC t).w ++ [c]]).flatten = _
      simp only [List.flatten_cons, List.flatten_nil, List.append_nil]
      rw [← List.append_assoc, ih]
theorem txs_le (rows : List CRow) : ∀ p ∈ txs rows, p.length ≤ rows.length := by
  induction rows using snoc_ind with
  | nil => intro p h; rw [show txs [] = [[]] from rfl, List.mem_singleton] at h; subst h; exact Nat.le_refl _
  | snoc rs r ih =>
    intro p h
    rw [txs_snoc] at h
    rw [List.length_append]
    rcases List.mem_append.mp h with h | h
    · have := ih p h; omega
    · rw [List.mem_singleton] at h
      subst h
      rw [List.length_append]
      rw [List.getD_eq_getElem?_getD]
      have : ((txs rs)[r.1]?.getD []).length ≤ rs.length := by
        cases e : (txs rs)[r.1]? with
        | none => exact Nat.zero_le _
        | some q => exact ih q (List.mem_of_getElem? e)
      simp; omega
theorem sum_le {ls : List Nat} {m : Nat} (h : ∀ x ∈ ls, x ≤ m) : ls.sum ≤ ls.length * m := by
  induction ls with
  | nil => exact Nat.zero_le _
  | cons x ls ih =>
    have a := h x (List.mem_cons_self ..)
    have b := ih fun y hy => h y (List.mem_cons_of_mem _ hy)
    rw [List.sum_cons, List.length_cons, Nat.add_mul, Nat.one_mul]; omega
theorem flat_len (ps : List Wd) : ps.flatten.length = (ps.map List.length).sum := List.length_flatten
theorem joinL_e : ∀ xs : List (List Nat), TL.joinL [] xs = xs.flatten
  | [] => rfl
  | [p] => by simp [TL.joinL]
  | p :: q :: r => by
    show p ++ ([] ++ TL.joinL [] (q :: r)) = _
    rw [joinL_e (q :: r)]; simp
theorem join_T (ps : List Wd) : Txt.join (Str.ofString "") (ps.map T) = T ps.flatten := by
  have e : (Txt.join (Str.ofString "") (ps.map T)).cps.toList = ps.flatten := by
    rw [TL.join_eq]
    show TL.tl (Str.join (Str.ofString "") (ps.map T)) = _
    rw [TL.tl_join, str_e]
    show TL.joinL [] _ = _
    rw [joinL_e, List.map_map]
    congr 1
    rw [show (TL.tl ∘ T) = id from funext fun w => by show w.toArray.toList = w; simp, List.map_id]
  have e2 : (Txt.join (Str.ofString "") (ps.map T)).cps = ps.flatten.toArray := by rw [← e]
  show _ = (⟨ps.flatten.toArray⟩ : Str)
  rw [← e2]
/-! rows as keys -/
def keyR (r : CRow) : List Key := [Sum.inl (r.1 : Int), Sum.inr (T [r.2])]
theorem keyR_inj {a b : CRow} (h : keyR a = keyR b) : a = b := by
  unfold keyR at h
  injection h with h1 h2
  injection h2 with h2 _
  have e1 : (a.1 : Int) = b.1 := Sum.inl.inj h1
  have e2 := T_inj (Sum.inr.inj h2)
  have e3 : a.2 = b.2 := by simpa using e2
  exact Prod.ext (by omega) e3
theorem look_rows (v : CRow → D) (q : CRow) : ∀ rows : List CRow, lookD (rows.map fun r => (keyR r, v r)) (keyR q) = if q ∈ rows then some (v q) else none
  | [] => rfl
  | r :: rows => by
    unfold lookD
    rw [List.map_cons, List.find?_cons]
    by_cases h : r = q
    · subst h
      rw [show decide (keyR r = keyR r) = true from decide_eq_true rfl]; simp
    · rw [show decide (keyR r = keyR q) = false from decide_eq_false fun e => h (keyR_inj e)]
      show lookD (rows.map fun r => (keyR r, v r)) (keyR q) = _
      rw [look_rows v q rows]
      have h2 : ¬ q = r := fun e => h e.symm
      simp [h2]
theorem put_rows {v : CRow → D} {q : CRow} {rows : List CRow} {d : D} (h : q ∉ rows) : putD (rows.map fun r => (keyR r, v r)) (keyR q) d = (rows.map fun r => (keyR r, v r)) ++ [(keyR q, d)] := by
  have a : ((rows.map fun r => (keyR r, v r)).any fun kv => decide (kv.1 = keyR q)) = false := by
    have e := look_rows v q rows
    rw [if_neg h] at e
    unfold lookD at e
    rw [Option.map_eq_none_iff, List.find?_eq_none] at e
    rw [List.any_eq_false]
    exact e
  unfold putD
  rw [a]; rfl
theorem inP_rows {neg : Bool} {v : CRow → D} {rows : List CRow} {r : CRow} {P : D → Prop} (h : P (.bl (decide (r ∈ rows) != neg))) : inP neg (rowD r) (.dt (rows.map fun r => (keyR r, v r))) P := by
  refine ⟨_, rfl, ?_⟩
  have e : (lookD (rows.map fun r => (keyR r, v r)) (keyR r)).isSome = decide (r ∈ rows) := by
    rw [look_rows]
    by_cases c : r ∈ rows
    · rw [if_pos c, decide_eq_true c]; rfl
    · rw [if_neg c, decide_eq_false c]; rfl
  show P (.bl ((lookD (rows.map fun r => (keyR r, v r)) (keyR r)).isSome != neg))
  rw [e]; exact h
theorem ixP_rows {v : CRow → D} {rows : List CRow} {r : CRow} {P : D → Prop} (hm : r ∈ rows) (h : P (v r)) : ixP (.dt (rows.map fun r => (keyR r, v r))) (rowD r) P := by
  refine ⟨_, ?_, h⟩
  show some (lookD (rows.map fun r => (keyR r, v r)) (keyR r)) = _
  rw [look_rows, if_pos hm]
theorem setP_rows {v : CRow → D} {rows : List CRow} {r : CRow} {d : D} {P : D → Prop} (hm : r ∉ rows) (hl : rows.length < sizeLine) (h : P (.dt ((rows.map fun r => (keyR r, v r)) ++ [(keyR r, d)]))) : setP (.dt (rows.map fun r => (keyR r, v r))) (rowD r) d P := by
  refine ⟨keyR r, rfl, by rw [List.length_map]; exact hl, ?_⟩
  rw [put_rows hm]; exact h
end PL
end

section
set_option linter.all false
set_option maxRecDepth 100000
set_option maxHeartbeats 4000000
set_option autoImplicit false
/-! SP: inside words, filling, and the bound of the pieces within a text (plain law). -/
namespace PL
open PySem PySem.Spec PyProof.Rows L2
theorem nodup_sub' {α : Type} : ∀ {l m : List α}, l.Nodup → (∀ x ∈ l, x ∈ m) → l.length ≤ m.length
  | [], _, _, _ => Nat.zero_le _
  | a :: l, m, h, hs => by
    obtain ⟨h1, h2⟩ := List.nodup_cons.mp h
    obtain ⟨s, t, rfl⟩ := List.append_of_mem (hs a (List.mem_cons_self ..))
    have ih := nodup_sub' (m := s ++ t) h2 fun x hx => by
      have := hs x (List.mem_cons_of_mem _ hx)
      rcases List.mem_append.mp this with q | q
      · exact List.mem_append_left _ q
      · rcases List.mem_cons.mp q with q | q
        · subst q; exact absurd hx h1
        · exact List.mem_append_right _ q
    rw [List.length_append] at ih
    rw [List.length_append, List.length_cons, List.length_cons]; omega
theorem len_mul_le {ls : List Nat} {m : Nat} (h : ∀ x ∈ ls, m ≤ x) : ls.length * m ≤ ls.sum := by
  induction ls with
  | nil => simp
  | cons x ls ih =>
    have a := h x (List.mem_cons_self ..)
    have b := ih fun y hy => h y (List.mem_cons_of_mem _ hy)
    rw [List.sum_cons, List.length_cons, Nat.add_mul, Nat.one_mul]; omega
theorem sub_sum {A B : List Wd} (h : A.Sublist B) : (A.map List.length).sum ≤ (B.map List.length).sum := by
  induction h with
  | slnil => exact Nat.le_refl _
  | cons a _ ih => rw [List.map_cons, List.sum_cons]; omega
  | cons_cons a _ ih => rw [List.map_cons, List.map_cons, List.sum_cons, List.sum_cons]; omega
/-! pieces have no holes -/
theorem CS.Gd.dropLast {abc : Wd} {s : CS} (h : s.Gd abc) {p : Wd} (hp : p ∈ s.ps) (hn : p ≠ []) : p.dropLast ∈ s.ps := by
  have hg := fun i r q => (h.gr i r q).1
  have hl : s.ps.length = s.rows.length + 1 := by rw [h.ps]; exact txs_len _
  have h0 : s.ps[0]? = some [] := by rw [h.ps]; exact txs_zero _
  obtain ⟨j, hj, e⟩ := List.mem_iff_getElem.mp hp
  cases j with
  | zero =>
    have := List.getElem?_eq_some_iff.mpr ⟨hj, e⟩
    rw [h0] at this
    exact absurd (Option.some.inj this).symm hn
  | succ k =>
    obtain ⟨r, hr⟩ : ∃ r, s.rows[k]? = some r := ⟨_, List.getElem?_eq_getElem (by omega)⟩
    obtain ⟨q, a1, a2⟩ := txs_at hg hr
    rw [← h.ps] at a1 a2
    have e2 := List.getElem?_eq_some_iff.mpr ⟨hj, e⟩
    rw [a2] at e2
    have e3 := Option.some.inj e2
    rw [← e3, List.dropLast_concat]
    exact List.mem_of_getElem? a1
theorem CS.Gd.take {abc : Wd} {s : CS} (h : s.Gd abc) : ∀ (n : Nat) {p : Wd} (k : Nat), p.length = n → p ∈ s.ps → p.take k ∈ s.ps
  | 0, p, k, hl, hp => by rw [List.length_eq_zero_iff.mp hl] at hp ⊢; simpa using hp
  | n + 1, p, k, hl, hp => by
    by_cases hk : n + 1 ≤ k
    · rw [List.take_of_length_le (by omega)]; exact hp
    · have hn : p ≠ [] := fun e => by rw [e] at hl; simp at hl
      have := CS.Gd.take h n (p := p.dropLast) k (by rw [List.length_dropLast]; omega) (h.dropLast hp hn)
      rw [List.dropLast_eq_take, List.take_take, Nat.min_eq_left (by omega)] at this
      exact this
/-- an inside word -/
def Ins (ps : List Wd) (w : Wd) : Prop := w ≠ [] ∧ ∃ p ∈ ps, w <:+: p
theorem CS.Gd.suffix {abc : Wd} {s : CS} (h : s.Gd abc) {w : Wd} (hi : Ins s.ps w) : ∃ p ∈ s.ps, w <:+ p := by
  obtain ⟨_, p, hp, x, y, e⟩ := hi
  refine ⟨p.take (x ++ w).length, h.take _ _ rfl hp, x, ?_⟩
  rw [← e, List.take_left]
/-! counts by length -/
def nlen (K : List Wd) (l : Nat) : Nat := (K.filter fun w => decide (w.length = l)).length
def cnts (K : List Wd) (M : Nat) : List Nat := (List.range M).map fun l => nlen K (l + 1)
theorem nlen_le {K K2 : List Wd} (nd : K.Nodup) (h : ∀ w ∈ K, w ∈ K2) (l : Nat) : nlen K l ≤ nlen K2 l := by
  refine nodup_sub' (nd.sublist List.filter_sublist) fun w hw => ?_
  obtain ⟨a, b⟩ := List.mem_filter.mp hw
  exact List.mem_filter.mpr ⟨h w a, b⟩
theorem nlen_eq {K K2 : List Wd} (nd : K.Nodup) (nd2 : K2.Nodup) (h : ∀ w, w ∈ K ↔ w ∈ K2) (l : Nat) : nlen K l = nlen K2 l :=
  Nat.le_antisymm (nlen_le nd (fun w => (h w).mp) l) (nlen_le nd2 (fun w => (h w).mpr) l)
theorem nlen_snoc (K : List Wd) (w : Wd) (l : Nat) : nlen (K ++ [w]) l = nlen K l + if w.length = l then 1 else 0 := by
  unfold nlen
  rw [List.filter_append, List.length_append]
  congr 1
  by_cases h : w.length = l
  · rw [if_pos h]; simp [h]
  · rw [if_neg h]; simp [h]
/-! filling -/
def fillF : Nat → Nat → List Nat → Nat
  | _, _, [] => 0
  | i, left, c :: cs => min c (left / (i + 1)) + fillF (i + 1) (left - min c (left / (i + 1)) * (i + 1)) cs
theorem fill_opt : ∀ (cs : List Nat) (i left : Nat) (N : List Nat), (∀ x ∈ N, i + 1 ≤ x) → (∀ l, i + 1 ≤ l → N.count l ≤ cs.getD (l - (i + 1)) 0) → N.sum ≤ left → N.length ≤ fillF i left cs
  | [], i, left, N, h1, h2, _ => by
    cases N with
    | nil => exact Nat.zero_le _
    | cons x N =>
      have hx := h1 x (List.mem_cons_self ..)
      have := h2 x hx
      rw [List.count_cons_self] at this
      simp at this
  | c :: cs, i, left, N, h1, h2, h3 => by
    -- the words of the least length, and the others
    have hs : (N.filter (fun x => decide (x = i + 1))).length + (N.filter (fun x => !decide (x = i + 1))).length = N.length := by
      clear h1 h2 h3
      induction N with
      | nil => rfl
      | cons x N ih =>
        by_cases e : x = i + 1
        · simp only [List.filter_cons, decide_eq_true e, if_true, Bool.not_true, Bool.false_eq_true, if_false, List.length_cons]; omega
        · simp only [List.filter_cons, decide_eq_false e, Bool.false_eq_true, if_false, Bool.not_false, if_true, List.length_cons]; omega
    have hsum : (N.filter (fun x => decide (x = i + 1))).length * (i + 1) + (N.filter (fun x => !decide (x = i + 1))).sum = N.sum := by
      clear h1 h2 h3 hs
      induction N with
      | nil => simp
      | cons x N ih =>
        by_cases e : x = i + 1
        · simp only [List.filter_cons, decide_eq_true e, if_true, Bool.not_true, Bool.false_eq_true, if_false, List.length_cons, List.sum_cons, Nat.add_mul, Nat.one_mul]; omega
        · simp only [List.filter_cons, decide_eq_false e, Bool.false_eq_true, if_false, Bool.not_false, if_true, List.sum_cons]; omega
    have hc : (N.filter (fun x => decide (x = i + 1))).length ≤ c := by
      have := h2 (i + 1) (Nat.le_refl _)
      rw [Nat.sub_self] at this
      have e : N.count (i + 1) = (N.filter (fun x => decide (x = i + 1))).length := by
        rw [List.count, List.countP_eq_length_filter]
        congr 1
      rw [e] at this
      simpa using this
    generalize hn0 : (N.filter (fun x => decide (x = i + 1))).length = n0 at *
    generalize hN1 : N.filter (fun x => !decide (x = i + 1)) = N1 at *
    have g1 : ∀ x ∈ N1, i + 1 + 1 ≤ x := fun x hx => by
      rw [← hN1] at hx
      obtain ⟨a, b⟩ := List.mem_filter.mp hx
      have := h1 x a
      have : ¬ x = i + 1 := by simpa using b
      omega
    have g2 : ∀ l, i + 1 + 1 ≤ l → N1.count l ≤ cs.getD (l - (i + 1 + 1)) 0 := fun l hl => by
      have h := h2 l (by omega)
      rw [show l - (i + 1) = (l - (i + 1 + 1)) + 1 by omega] at h
      have h' : N.count l ≤ cs.getD (l - (i + 1 + 1)) 0 := by simpa using h
      refine Nat.le_trans ?_ h'
      rw [← hN1]
      exact (List.filter_sublist).count_le l
    have hq : n0 ≤ left / (i + 1) := by
      rw [Nat.le_div_iff_mul_le (by omega)]; omega
    show N.length ≤ min c (left / (i + 1)) + fillF (i + 1) (left - min c (left / (i + 1)) * (i + 1)) cs
    generalize ht : min c (left / (i + 1)) = t
    have htn : n0 ≤ t := by omega
    have htl : t * (i + 1) ≤ left := by
      have : t ≤ left / (i + 1) := by omega
      exact (Nat.le_div_iff_mul_le (by omega)).mp this
    by_cases hd : N1.length ≤ t - n0
    · omega
    · have hdrop : (t - n0) * (i + 1 + 1) ≤ (N1.take (t - n0)).sum := by
        have : (N1.take (t - n0)).length * (i + 1 + 1) ≤ (N1.take (t - n0)).sum := len_mul_le fun x hx => g1 x (List.mem_of_mem_take hx)
        rwa [List.length_take, Nat.min_eq_left (by omega)] at this
      have hsp : (N1.take (t - n0)).sum + (N1.drop (t - n0)).sum = N1.sum := by
        rw [← List.sum_append, List.take_append_drop]
      have ih := fill_opt cs (i + 1) (left - t * (i + 1)) (N1.drop (t - n0)) (fun x hx => g1 x (List.mem_of_mem_drop hx)) (fun l hl => Nat.le_trans ((List.drop_sublist _ _).count_le l) (g2 l hl)) (by
        have e1 : t * (i + 1) = n0 * (i + 1) + (t - n0) * (i + 1) := by rw [← Nat.add_mul]; congr 1; omega
        have e2 : (t - n0) * (i + 1 + 1) = (t - n0) * (i + 1) + (t - n0) := by rw [Nat.mul_add _ (i + 1) 1, Nat.mul_one]
        omega)
      rw [List.length_drop] at ih
      omega
/-! the words that lie in no part -/
theorem split_at_len : ∀ (B : List Wd) (m : Nat), B.flatten.length ≤ m ∨ ∃ B0 q B3, B = B0 ++ q :: B3 ∧ B0.flatten.length ≤ m ∧ m < B0.flatten.length + q.length
  | [], m => .inl (Nat.zero_le _)
  | w :: B, m => by
    by_cases h : w.length ≤ m
    · rcases split_at_len B (m - w.length) with e | ⟨B0, q, B3, rfl, e1, e2⟩
      · refine .inl ?_
        rw [List.flatten_cons, List.length_append]; omega
      · refine .inr ⟨w :: B0, q, B3, rfl, ?_, ?_⟩ <;> rw [List.flatten_cons, List.length_append] <;> omega
    · exact .inr ⟨[], w, B, rfl, Nat.zero_le _, by simpa using (by omega : m < w.length)⟩
theorem cat_short {a r x z : Wd} (e : a ++ r = x ++ z) (h : x.length ≤ a.length) : ∃ c, a = x ++ c ∧ z = c ++ r := by
  rcases List.append_eq_append_iff.mp e with ⟨c, h1, h2⟩ | ⟨c, h1, h2⟩
  · have : c = [] := by
      have := congrArg List.length h1
      rw [List.length_append] at this
      exact List.length_eq_zero_iff.mp (by omega)
    subst this
    exact ⟨[], by simpa using h1.symm, by simpa using h2.symm⟩
  · exact ⟨c, h1, h2⟩
theorem mem_infix {B : List Wd} {q : Wd} (h : q ∈ B) : q <:+: B.flatten := by
  obtain ⟨s, t, rfl⟩ := List.append_of_mem h
  exact ⟨s.flatten, t.flatten, by simp⟩
/-- of words behind one another, all but one less than the parts lie in a part -/
theorem cross : ∀ (A B : List Wd) (x y : Wd), A ≠ [] → A.flatten = x ++ B.flatten ++ y → ∃ B1 : List Wd, B1.Sublist B ∧ (∀ q ∈ B1, ∃ a ∈ A, q <:+: a) ∧ B.length + 1 ≤ B1.length + A.length
  | [], _, _, _, h, _ => absurd rfl h
  | [a], B, x, y, _, e => by
    refine ⟨B, List.Sublist.refl _, fun q hq => ⟨a, List.mem_singleton.mpr rfl, ?_⟩, Nat.le_refl _⟩
    have e : a = x ++ B.flatten ++ y := by simpa using e
    exact (mem_infix hq).trans ⟨x, y, e.symm⟩
  | a :: b :: A, B, x, y, _, e => by
    have e : a ++ (b :: A).flatten = x ++ B.flatten ++ y := by rw [← e]; rfl
    by_cases hx : x.length ≤ a.length
    · rcases split_at_len B (a.length - x.length) with hB | ⟨B0, q, B3, rfl, h1, h2⟩
      · obtain ⟨c, hc, _⟩ := cat_short (x := x ++ B.flatten) e (by rw [List.length_append]; omega)
        refine ⟨B, List.Sublist.refl _, fun q hq => ⟨a, List.mem_cons_self .., (mem_infix hq).trans ⟨x, c, hc.symm⟩⟩, ?_⟩
        rw [List.length_cons, List.length_cons]; omega
      · have e : a ++ (b :: A).flatten = x ++ (B0.flatten ++ (q ++ B3.flatten)) ++ y := by rw [e, List.flatten_append, List.flatten_cons (l := q)]
        obtain ⟨c, hc, _⟩ := cat_short (x := x ++ B0.flatten) (z := q ++ B3.flatten ++ y) (by rw [e]; simp) (by rw [List.length_append]; omega)
        obtain ⟨d, hd, hr⟩ := cat_short (a := x ++ B0.flatten ++ q) (r := B3.flatten ++ y) (x := a) (z := (b :: A).flatten) (by rw [e]; simp) (by rw [List.length_append, List.length_append]; omega)
        obtain ⟨C1, c1, c2, c3⟩ := cross (b :: A) B3 d y (by simp) (by rw [hr]; simp)
        refine ⟨B0 ++ C1, List.Sublist.append (List.Sublist.refl _) (List.Sublist.cons _ c1), fun w hw => ?_, ?_⟩
        · rcases List.mem_append.mp hw with hw | hw
          · exact ⟨a, List.mem_cons_self .., (mem_infix hw).trans ⟨x, c, hc.symm⟩⟩
          · obtain ⟨a', ha, hi⟩ := c2 w hw
            exact ⟨a', List.mem_cons_of_mem _ ha, hi⟩
        · rw [List.length_append, List.length_append, List.length_cons]
          rw [List.length_cons] at c3 ⊢
          rw [List.length_cons]
          omega
    · obtain ⟨d, hd, hr⟩ := cat_short (a := x) (r := B.flatten ++ y) (x := a) (z := (b :: A).flatten) (by rw [e]; simp) (by omega)
      obtain ⟨C1, c1, c2, c3⟩ := cross (b :: A) B d y (by simp) (by rw [hr]; simp)
      refine ⟨C1, c1, fun w hw => ?_, by rw [List.length_cons]; omega⟩
      obtain ⟨a', ha, hi⟩ := c2 w hw
      exact ⟨a', List.mem_cons_of_mem _ ha, hi⟩
/-! the bound -/
/-- how many borders a cut has -/
def NB (s : CS) : Nat := if s.rows = [] then 0 else s.rows.length - 1 + if s.w = [] then 0 else 1
theorem bound_sp {abc : Wd} {s : CS} (gd : s.Gd abc) {K : List Wd} {M L : Nat} (hL : (s.ps.flatten ++ s.w).length ≤ L) (nd : K.Nodup) (hK : ∀ w, w ∈ K ↔ Ins s.ps w) (hM : ∀ p ∈ s.ps, p.length ≤ M)
    {B : List Wd} (ndB : B.Nodup) (hB : ∀ q ∈ B, q ≠ []) {x y : Wd} (e : s.ps.flatten ++ s.w = x ++ B.flatten ++ y) : B.length ≤ NB s + fillF 0 L (cnts K M) := by
  have h0 : s.ps[0]? = some [] := by rw [gd.ps]; exact txs_zero _
  have hl : s.ps.length = s.rows.length + 1 := by rw [gd.ps]; exact txs_len _
  obtain ⟨ps', hps⟩ : ∃ ps', s.ps = [] :: ps' := by
    cases hq : s.ps with
    | nil => rw [hq] at h0; cases h0
    | cons p r => rw [hq] at h0; cases h0; exact ⟨r, rfl⟩
  -- the parts: the pieces, and the tail if there is one
  have key : ∀ A : List Wd, (∀ a ∈ A, ∃ p ∈ s.ps, a <:+: p) → A ≠ [] → A.flatten = s.ps.flatten ++ s.w → A.length = NB s + 1 → B.length ≤ NB s + fillF 0 L (cnts K M) := by
    intro A hA hne hf hn
    obtain ⟨B1, b1, b2, b3⟩ := cross A B x y hne (by rw [hf]; exact e)
    have hin : ∀ w ∈ B1, w ∈ K := fun w hw => by
      obtain ⟨a, ha, hi⟩ := b2 w hw
      obtain ⟨p, hp, hi2⟩ := hA a ha
      exact (hK w).mpr ⟨hB w (b1.subset hw), p, hp, hi.trans hi2⟩
    have nd1 : B1.Nodup := ndB.sublist b1
    have hsum : (B1.map List.length).sum ≤ L := by
      have h1 : (B1.map List.length).sum ≤ (B.map List.length).sum := sub_sum b1
      rw [← flat_len B] at h1
      rw [e, List.length_append, List.length_append] at hL
      omega
    have hf := fill_opt (cnts K M) 0 L (B1.map List.length) (fun n hn => by
      obtain ⟨w, hw, rfl⟩ := List.mem_map.mp hn
      have := hB w (b1.subset hw)
      have : 0 < w.length := List.length_pos_iff.mpr this
      omega) (fun l hl => by
      have hc : (B1.map List.length).count l = nlen B1 l := by
        unfold nlen
        rw [List.count, List.countP_map, List.countP_eq_length_filter]
        congr 1
      rw [hc]
      by_cases hlM : l - (0 + 1) < M
      · have : (cnts K M).getD (l - (0 + 1)) 0 = nlen K l := by
          unfold cnts
          rw [List.getD_eq_getElem?_getD, List.getElem?_map, List.getElem?_range hlM]
          show nlen K (l - (0 + 1) + 1) = _
          rw [show l - (0 + 1) + 1 = l by omega]
        rw [this]
        exact nlen_le nd1 hin l
      · have : nlen B1 l = 0 := by
          unfold nlen
          rw [List.length_eq_zero_iff, List.filter_eq_nil_iff]
          intro w hw
          obtain ⟨_, p, hp, hi⟩ := (hK w).mp (hin w hw)
          have h1 := hM p hp
          have h2 := hi.length_le
          simp; omega
        rw [this]; exact Nat.zero_le _) hsum
    rw [List.length_map] at hf
    omega
  by_cases hr : s.rows = []
  · have hp1 : ps' = [] := by
      rw [hps, hr] at hl
      exact List.length_eq_zero_iff.mp (by simpa using hl)
    have hw : s.w = [] := by
      have := gd.w
      rw [hps, hp1] at this
      simpa using this
    refine key [s.w] (fun a ha => ⟨s.w, gd.w, by rw [List.mem_singleton.mp ha]; exact List.infix_refl _⟩) (by simp) (by rw [hps, hp1, hw]; rfl) ?_
    unfold NB
    rw [if_pos hr]; rfl
  · have hlp : ps'.length = s.rows.length := by rw [hps] at hl; simpa using hl
    have hpos : 0 < s.rows.length := List.length_pos_iff.mpr hr
    by_cases hw : s.w = []
    · refine key ps' (fun a ha => ⟨a, by rw [hps]; exact List.mem_cons_of_mem _ ha, List.infix_refl _⟩) (fun q => by rw [q] at hlp; simp at hlp; omega) (by rw [hps, hw]; simp) ?_
      unfold NB
      rw [if_neg hr, if_pos hw]; omega
    · refine key (ps' ++ [s.w]) (fun a ha => ?_) (by simp) (by rw [hps]; simp) ?_
      · rcases List.mem_append.mp ha with ha | ha
        · exact ⟨a, by rw [hps]; exact List.mem_cons_of_mem _ ha, List.infix_refl _⟩
        · rw [List.mem_singleton.mp ha]; exact ⟨s.w, gd.w, List.infix_refl _⟩
      · unfold NB
        rw [if_neg hr, if_neg hw, List.length_append, hlp]; simp; omega
/-! a beginning's cut -/
theorem step_rows (s : CS) (c : Nat) : ∃ r, (s.step c).rows = s.rows ++ r := by
  unfold CS.step
  by_cases e : s.w ++ [c] ∈ s.ps
  · rw [if_pos e]; exact ⟨[], by simp⟩
  · rw [if_neg e]; exact ⟨_, rfl⟩
theorem cutC_pre (t u : Wd) : ∃ r, (cutC (t ++ u)).rows = (cutC t).rows ++ r := by
  induction u using snoc_ind with
  | nil => exact ⟨[], by simp⟩
  | snoc u c ih =>
    obtain ⟨r, hr⟩ := ih
    rw [← List.append_assoc, cutC_snoc]
    obtain ⟨q, hq⟩ := step_rows (cutC (t ++ u)) c
    exact ⟨r ++ q, by rw [hq, hr, List.append_assoc]⟩
/-! borders -/
theorem sK_last {ps : List Wd} {k : Nat} (h : k + 1 = ps.length) : sK ps k = ps.flatten.length := by
  unfold sK
  rw [h, List.take_length, flat_len]
theorem sK_zero {ps : List Wd} (h : ps[0]? = some []) : sK ps 0 = 0 := by
  unfold sK
  rw [takeC h]; rfl
theorem CS.Gd.nonempty {abc : Wd} {s : CS} (h : s.Gd abc) {k : Nat} {p : Wd} (hk : s.ps[k + 1]? = some p) : 1 ≤ p.length := by
  by_cases e : p = []
  · subst e
    have h0 : s.ps[0]? = some [] := by rw [h.ps]; exact txs_zero _
    have := nd_get h.nd h0 hk
    omega
  · exact List.length_pos_iff.mpr e
theorem CS.Gd.sK_lt {abc : Wd} {s : CS} (h : s.Gd abc) {k : Nat} (hk : k + 1 < s.ps.length) : sK s.ps k < sK s.ps (k + 1) := by
  obtain ⟨p, hp⟩ : ∃ p, s.ps[k + 1]? = some p := ⟨_, List.getElem?_eq_getElem hk⟩
  have := h.nonempty hp
  rw [sK_succ hp]; omega
theorem CS.Gd.sK_pos {abc : Wd} {s : CS} (h : s.Gd abc) : ∀ {k : Nat}, 1 ≤ k → k < s.ps.length → 1 ≤ sK s.ps k
  | 0, h1, _ => by omega
  | k + 1, _, h2 => by have := h.sK_lt h2; omega
theorem CS.Gd.sK_lt_last {abc : Wd} {s : CS} (h : s.Gd abc) : ∀ (d : Nat) {k : Nat}, k + d + 2 = s.ps.length → sK s.ps k < s.ps.flatten.length
  | 0, k, e => by
    have a := h.sK_lt (k := k) (by omega)
    rw [sK_last (ps := s.ps) (k := k + 1) (by omega)] at a
    exact a
  | d + 1, k, e => by
    have a := h.sK_lt (k := k) (by omega)
    have b := CS.Gd.sK_lt_last h d (k := k + 1) (by omega)
    omega
/-- the starts strictly inside a text are as many as the borders -/
theorem CS.Gd.borders {abc : Wd} {s : CS} (h : s.Gd abc) {L : Nat} (hL : (s.ps.flatten ++ s.w).length = L) : ((sts s.ps).filter fun n => decide (0 < n ∧ n < L)).length = NB s := by
  have hl : s.ps.length = s.rows.length + 1 := by rw [h.ps]; exact txs_len _
  have h0 : s.ps[0]? = some [] := by rw [h.ps]; exact txs_zero _
  have z0 := sK_zero h0
  rw [List.length_append] at hL
  unfold sts
  rw [List.filter_map, List.length_map, hl, List.range_succ_eq_map, List.filter_cons]
  have e0 : ((fun n => decide (0 < n ∧ n < L)) ∘ sK s.ps) 0 = false := by
    show decide (0 < sK s.ps 0 ∧ _) = false
    rw [z0]; exact decide_eq_false (by omega)
  rw [e0]
  rw [if_neg (by decide)]
  rw [List.filter_map, List.length_map]
  unfold NB
  cases hm : s.rows.length with
  | zero =>
    rw [if_pos (List.length_eq_zero_iff.mp hm)]; rfl
  | succ j =>
    rw [if_neg (fun e => by rw [e] at hm; cases hm)]
    rw [List.range_succ, List.filter_append, List.length_append]
    have a1 : (List.range j).filter (((fun n => decide (0 < n ∧ n < L)) ∘ sK s.ps) ∘ Nat.succ) = List.range j := by
      rw [List.filter_eq_self]
      intro k hk
      have hk := List.mem_range.mp hk
      have p1 := h.sK_pos (k := k + 1) (by omega) (by omega)
      have p2 := h.sK_lt_last (j - k - 1) (k := k + 1) (by omega)
      exact decide_eq_true (show 0 < sK s.ps (k + 1) ∧ sK s.ps (k + 1) < L by omega)
    rw [a1, List.length_range]
    have p1 := h.sK_pos (k := j + 1) (by omega) (by omega)
    have p2 := sK_last (ps := s.ps) (k := j + 1) (by omega)
    by_cases hw : s.w = []
    · rw [if_pos hw]
      have : [j].filter (((fun n => decide (0 < n ∧ n < L)) ∘ sK s.ps) ∘ Nat.succ) = [] := by
        rw [List.filter_cons, if_neg]
        · rfl
        · have : ¬ (0 < sK s.ps (j + 1) ∧ sK s.ps (j + 1) < L) := by
            intro q; have hw0 : s.w.length = 0 := (by rw [hw]; rfl); omega
          simpa using this
      rw [this]; simp
    · rw [if_neg hw]
      have hwl := List.length_pos_iff.mpr hw
      have : [j].filter (((fun n => decide (0 < n ∧ n < L)) ∘ sK s.ps) ∘ Nat.succ) = [j] := by
        rw [List.filter_cons, if_pos]
        · rfl
        · exact decide_eq_true (show 0 < sK s.ps (j + 1) ∧ sK s.ps (j + 1) < L by omega)
      rw [this]; simp
end PL
end

section
set_option autoImplicit false
set_option linter.all false
/-! BE: betting machines (plain law): sums of chances with a common bottom, by starts and by ends, in lowest terms; Euclid's steps. -/
namespace BE
abbrev Rule := Nat × List (Nat × Nat)
def tt (R : List Rule) (s : Nat) : Nat := (R[s]?.getD (1, [])).1
def mv (R : List Rule) (s : Nat) : List (Nat × Nat) := (R[s]?.getD (1, [])).2
structure Good (size : Nat) (R : List Rule) : Prop where
  pos : 0 < R.length
  t1 : ∀ r ∈ R, 1 ≤ r.1
  len : ∀ r ∈ R, r.2.length = size
  nxt : ∀ r ∈ R, ∀ p ∈ r.2, p.1 < R.length
  sum : ∀ r ∈ R, (r.2.map (·.2)).sum ≤ r.1
theorem tt_at {R : List Rule} {s : Nat} {r : Rule} (h : R[s]? = some r) : tt R s = r.1 := by unfold tt; rw [h]; rfl
theorem mv_at {R : List Rule} {s : Nat} {r : Rule} (h : R[s]? = some r) : mv R s = r.2 := by unfold mv; rw [h]; rfl
theorem Good.tp {size : Nat} {R : List Rule} (g : Good size R) (s : Nat) : 1 ≤ tt R s := by
  unfold tt
  cases e : R[s]? with
  | none => exact Nat.le_refl 1
  | some r => exact g.t1 r (List.mem_of_getElem? e)
theorem Good.sm {size : Nat} {R : List Rule} (g : Good size R) (s : Nat) : ((mv R s).map (·.2)).sum ≤ tt R s := by
  unfold tt mv
  cases e : R[s]? with
  | none => exact Nat.zero_le _
  | some r => exact g.sum r (List.mem_of_getElem? e)
theorem Good.nx {size : Nat} {R : List Rule} (g : Good size R) (s : Nat) {p : Nat × Nat} (h : p ∈ mv R s) : p.1 < R.length := by
  unfold mv at h
  cases e : R[s]? with
  | none => rw [e] at h; cases h
  | some r => rw [e] at h; exact g.nxt r (List.mem_of_getElem? e) p h
/-- the tops of the sums of chances of all texts with L letters, over the bottom C ^ L -/
def A (R : List Rule) (C : Nat) : Nat → Nat → Nat
  | 0, _ => 1
  | L + 1, s => ((mv R s).map fun p => p.2 * A R C L p.1).sum * (C / tt R s)
theorem sum_mul {α : Type} (f : α → Nat) (c : Nat) : ∀ xs : List α, (xs.map f).sum * c = (xs.map fun x => f x * c).sum
  | [] => by simp
  | x :: xs => by simp only [List.map_cons, List.sum_cons, Nat.add_mul, sum_mul f c xs]
theorem sum_congr {α : Type} {f g : α → Nat} : ∀ {xs : List α}, (∀ x ∈ xs, f x = g x) → (xs.map f).sum = (xs.map g).sum
  | [], _ => rfl
  | x :: xs, h => by
    simp only [List.map_cons, List.sum_cons]
    rw [h x (List.mem_cons_self ..), sum_congr fun y hy => h y (List.mem_cons_of_mem _ hy)]
theorem sum_le {α : Type} {f g : α → Nat} : ∀ {xs : List α}, (∀ x ∈ xs, f x ≤ g x) → (xs.map f).sum ≤ (xs.map g).sum
  | [], _ => Nat.le_refl _
  | x :: xs, h => by
    simp only [List.map_cons, List.sum_cons]
    have := h x (List.mem_cons_self ..)
    have := sum_le fun y hy => h y (List.mem_cons_of_mem x hy)
    omega
/-- the bottom makes no difference -/
theorem cross {R : List Rule} {C D : Nat} (hc : ∀ s, s < R.length → tt R s ∣ C) (hd : ∀ s, s < R.length → tt R s ∣ D) (hn : ∀ s p, p ∈ mv R s → p.1 < R.length) : ∀ L s, s < R.length → A R C L s * D ^ L = A R D L s * C ^ L
  | 0, s, _ => by simp [A]
  | L + 1, s, hs => by
    have ih := cross hc hd hn L
    obtain ⟨c, ec⟩ := hc s hs
    obtain ⟨d, ed⟩ := hd s hs
    unfold A
    have e1 : ((mv R s).map fun p => p.2 * A R C L p.1).sum * D ^ L = ((mv R s).map fun p => p.2 * A R D L p.1).sum * C ^ L := by
      rw [sum_mul, sum_mul]
      apply sum_congr
      intro p hp
      rw [Nat.mul_assoc, ih p.1 (hn s p hp), Nat.mul_assoc]
    have e2 : (C / tt R s) * D = (D / tt R s) * C := by
      by_cases z : tt R s = 0
      · rw [z]; simp
      · have h1 : C / tt R s = c := by rw [ec]; exact Nat.mul_div_cancel_left _ (Nat.pos_of_ne_zero z)
        have h2 : D / tt R s = d := by rw [ed]; exact Nat.mul_div_cancel_left _ (Nat.pos_of_ne_zero z)
        rw [h1, h2]
        conv => lhs; rw [ed]
        conv => rhs; rw [ec]
        rw [Nat.mul_left_comm, Nat.mul_left_comm d, Nat.mul_comm c d]
    calc ((mv R s).map fun p => p.2 * A R C L p.1).sum * (C / tt R s) * D ^ (L + 1)
        = (((mv R s).map fun p => p.2 * A R C L p.1).sum * D ^ L) * ((C / tt R s) * D) := by rw [Nat.pow_succ]; ac_rfl
      _ = (((mv R s).map fun p => p.2 * A R D L p.1).sum * C ^ L) * ((D / tt R s) * C) := by rw [e1, e2]
      _ = ((mv R s).map fun p => p.2 * A R D L p.1).sum * (D / tt R s) * C ^ (L + 1) := by rw [Nat.pow_succ]; ac_rfl
theorem div_tot {C t : Nat} (h : t ∣ C) (x : Nat) (hx : x ≤ t) : x * (C / t) ≤ C := by
  calc x * (C / t) ≤ t * (C / t) := Nat.mul_le_mul_right _ hx
    _ ≤ C := Nat.mul_div_le C t
/-- the longer, the less -/
theorem A_step {size : Nat} {R : List Rule} {C : Nat} (g : Good size R) (hc : ∀ s, s < R.length → tt R s ∣ C) : ∀ L s, s < R.length → A R C (L + 1) s ≤ C * A R C L s
  | 0, s, hs => by
    show ((mv R s).map fun p => p.2 * 1).sum * (C / tt R s) ≤ C * 1
    have e : ((mv R s).map fun p => p.2 * 1) = (mv R s).map (·.2) := by apply List.map_congr_left; intro p _; exact Nat.mul_one _
    rw [e, Nat.mul_one]
    exact div_tot (hc s hs) _ (g.sm s)
  | L + 1, s, hs => by
    have ih := A_step g hc L
    show ((mv R s).map fun p => p.2 * A R C (L + 1) p.1).sum * (C / tt R s) ≤ C * (((mv R s).map fun p => p.2 * A R C L p.1).sum * (C / tt R s))
    rw [← Nat.mul_assoc]
    apply Nat.mul_le_mul_right
    rw [Nat.mul_comm C, sum_mul]
    apply sum_le
    intro p hp
    rw [Nat.mul_assoc]
    apply Nat.mul_le_mul_left
    rw [Nat.mul_comm]
    exact ih p.1 (g.nx s hp)
theorem A_le {size : Nat} {R : List Rule} {C : Nat} (g : Good size R) (hc : ∀ s, s < R.length → tt R s ∣ C) : ∀ L s, s < R.length → A R C L s ≤ C ^ L
  | 0, s, hs => Nat.le_refl _
  | L + 1, s, hs => by
    have h1 := A_step g hc L s hs
    have h2 := A_le g hc L s hs
    rw [Nat.pow_succ, Nat.mul_comm]
    exact Nat.le_trans h1 (Nat.mul_le_mul_left _ h2)
theorem A_mono {size : Nat} {R : List Rule} {C : Nat} (g : Good size R) (hc : ∀ s, s < R.length → tt R s ∣ C) (l : Nat) : ∀ k s, s < R.length → A R C (l + k) s * C ^ l ≤ A R C l s * C ^ (l + k)
  | 0, s, hs => Nat.le_refl _
  | k + 1, s, hs => by
    have h1 := A_step g hc (l + k) s hs
    have h2 := A_mono g hc l k s hs
    calc A R C (l + k + 1) s * C ^ l ≤ C * A R C (l + k) s * C ^ l := Nat.mul_le_mul_right _ h1
      _ = C * (A R C (l + k) s * C ^ l) := Nat.mul_assoc ..
      _ ≤ C * (A R C l s * C ^ (l + k)) := Nat.mul_le_mul_left _ h2
      _ = A R C l s * C ^ (l + k + 1) := by rw [Nat.pow_succ]; ac_rfl
/-! ### all that is had is bet -/
def Full (R : List Rule) : Nat → Nat → Prop
  | 0, _ => True
  | L + 1, s => ((mv R s).map (·.2)).sum = tt R s ∧ ∀ p ∈ mv R s, 0 < p.2 → Full R L p.1
theorem sum_eq_iff {M : Nat} (hM : 0 < M) : ∀ (xs : List (Nat × Nat)) (a : Nat → Nat) (t : Nat), (∀ p ∈ xs, a p.1 ≤ M) → (xs.map (·.2)).sum ≤ t → ((xs.map fun p => p.2 * a p.1).sum = t * M ↔ (xs.map (·.2)).sum = t ∧ ∀ p ∈ xs, 0 < p.2 → a p.1 = M) := by
  intro xs a t ha ht
  have key : ∀ xs : List (Nat × Nat), (∀ p ∈ xs, a p.1 ≤ M) → (xs.map fun p => p.2 * a p.1).sum ≤ (xs.map (·.2)).sum * M ∧ ((xs.map fun p => p.2 * a p.1).sum = (xs.map (·.2)).sum * M ↔ ∀ p ∈ xs, 0 < p.2 → a p.1 = M) := by
    intro xs
    induction xs with
    | nil => intro _; exact ⟨by simp, by simp⟩
    | cons p xs ih =>
      intro h
      obtain ⟨i1, i2⟩ := ih fun q hq => h q (List.mem_cons_of_mem _ hq)
      have hp := h p (List.mem_cons_self ..)
      have le1 : p.2 * a p.1 ≤ p.2 * M := Nat.mul_le_mul_left _ hp
      simp only [List.map_cons, List.sum_cons, Nat.add_mul]
      refine ⟨by omega, ⟨fun e => ?_, fun e => ?_⟩⟩
      · have e1 : p.2 * a p.1 = p.2 * M := by omega
        have e2 := i2.mp (by omega)
        intro q hq q0
        rcases List.mem_cons.mp hq with rfl | hq
        · exact Nat.eq_of_mul_eq_mul_left q0 e1
        · exact e2 q hq q0
      · have e2 := i2.mpr fun q hq => e q (List.mem_cons_of_mem _ hq)
        have e1 : p.2 * a p.1 = p.2 * M := by
          by_cases z : p.2 = 0
          · rw [z]; simp
          · rw [e p (List.mem_cons_self ..) (Nat.pos_of_ne_zero z)]
        omega
  obtain ⟨k1, k2⟩ := key xs ha
  have k3 : (xs.map (·.2)).sum * M ≤ t * M := Nat.mul_le_mul_right _ ht
  constructor
  · intro e
    have e1 : (xs.map (·.2)).sum * M = t * M := by omega
    exact ⟨Nat.eq_of_mul_eq_mul_right hM e1, k2.mp (by omega)⟩
  · rintro ⟨e1, e2⟩
    rw [k2.mpr e2, e1]
theorem full_iff {size : Nat} {R : List Rule} {C : Nat} (g : Good size R) (h0 : 0 < C) (hc : ∀ s, s < R.length → tt R s ∣ C) : ∀ L s, s < R.length → (A R C L s = C ^ L ↔ Full R L s)
  | 0, s, _ => by simp [A, Full]
  | L + 1, s, hs => by
    have ih := full_iff g h0 hc L
    have hp : 0 < C ^ L := Nat.pow_pos h0
    have h1 := sum_eq_iff hp (mv R s) (A R C L) (tt R s) (fun p hp => A_le g hc L p.1 (g.nx s hp)) (g.sm s)
    have h2 : A R C (L + 1) s = C ^ (L + 1) ↔ ((mv R s).map fun p => p.2 * A R C L p.1).sum = tt R s * C ^ L := by
      obtain ⟨c, ec⟩ := hc s hs
      have t0 : 0 < tt R s := g.tp s
      have e1 : C / tt R s = c := by rw [ec]; exact Nat.mul_div_cancel_left _ t0
      have c0 : 0 < c := Nat.pos_of_ne_zero fun z => by rw [z] at ec; omega
      have e3 : C ^ (L + 1) = tt R s * C ^ L * c := by rw [Nat.pow_succ]; conv => { lhs; rhs; rw [ec] }; ac_rfl
      show ((mv R s).map fun p => p.2 * A R C L p.1).sum * (C / tt R s) = _ ↔ _
      rw [e1, e3]
      exact ⟨fun e => Nat.eq_of_mul_eq_mul_right c0 e, fun e => by rw [e]⟩
    rw [h2, h1]
    unfold Full
    exact ⟨fun ⟨x, y⟩ => ⟨x, fun p hp q => (ih p.1 (g.nx s hp)).mp (y p hp q)⟩, fun ⟨x, y⟩ => ⟨x, fun p hp q => (ih p.1 (g.nx s hp)).mpr (y p hp q)⟩⟩
/-! ### weights -/
def dot (h : Nat → Nat) : Nat → List Nat → Nat
  | _, [] => 0
  | i, x :: xs => x * h i + dot h (i + 1) xs
theorem dot_set (h : Nat → Nat) : ∀ (xs : List Nat) (i j y d : Nat), xs[j]? = some y → dot h i (xs.set j (y + d)) = dot h i xs + d * h (i + j)
  | [], i, j, y, d, e => by simp at e
  | x :: xs, i, 0, y, d, e => by
    simp at e; subst e
    simp only [List.set_cons_zero, dot, Nat.add_mul, Nat.add_zero]; omega
  | x :: xs, i, j + 1, y, d, e => by
    have := dot_set h xs (i + 1) j y d (by simpa using e)
    simp only [List.set_cons_succ, dot, this, show i + (j + 1) = i + 1 + j by omega]; omega
theorem dot_zero (h : Nat → Nat) : ∀ n i, dot h i (List.replicate n 0) = 0
  | 0, _ => rfl
  | n + 1, i => by simp only [List.replicate_succ, dot, dot_zero h n, Nat.zero_mul]
theorem dot_one : ∀ (xs : List Nat) (i : Nat), dot (fun _ => 1) i xs = xs.sum
  | [], _ => rfl
  | x :: xs, i => by simp only [dot, dot_one xs, List.sum_cons, Nat.mul_one]
theorem dot_snoc (h : Nat → Nat) : ∀ (xs : List Nat) (i x : Nat), dot h i (xs ++ [x]) = dot h i xs + x * h (i + xs.length)
  | [], i, x => by simp [dot]
  | y :: ys, i, x => by
    simp only [List.cons_append, dot, dot_snoc h ys, List.length_cons, show i + (ys.length + 1) = i + 1 + ys.length by omega]; omega
theorem dot_mono {h k : Nat → Nat} : ∀ (xs : List Nat) (i : Nat), (∀ j, h j ≤ k j) → dot h i xs ≤ dot k i xs
  | [], _, _ => Nat.le_refl _
  | x :: xs, i, e => by
    simp only [dot]
    have := Nat.mul_le_mul_left x (e i)
    have := dot_mono xs (i + 1) e
    omega
theorem dot_unit (h : Nat → Nat) (n s : Nat) (hs : s < n) : dot h 0 ((List.replicate n 0).set s 1) = h s := by
  have e : (List.replicate n 0)[s]? = some 0 := by simp [hs]
  have := dot_set h _ 0 s 0 1 e
  rw [dot_zero] at this
  simpa using this
theorem get_le_sum : ∀ {xs : List Nat} {j x : Nat}, xs[j]? = some x → x ≤ xs.sum
  | [], _, _, e => by simp at e
  | y :: ys, 0, x, e => by simp at e; subst e; simp
  | y :: ys, j + 1, x, e => by
    have := get_le_sum (xs := ys) (j := j) (x := x) (by simpa using e)
    simp only [List.sum_cons]; omega
/-! ### lowest terms -/
def red (a b : Nat) : Nat × Nat := (a / Nat.gcd a b, b / Nat.gcd a b)
theorem red_eq {a b c d : Nat} (hb : 0 < b) (hd : 0 < d) (h : a * d = c * b) : red a b = red c d := by
  have g0 : 0 < Nat.gcd a b := Nat.gcd_pos_of_pos_right a hb
  have k0 : 0 < Nat.gcd c d := Nat.gcd_pos_of_pos_right c hd
  -- the bottoms divide one another
  have e1 : Nat.gcd a b * d = Nat.gcd c d * b := by
    rw [← Nat.gcd_mul_right, ← Nat.gcd_mul_right, h, Nat.mul_comm b d]
  unfold red
  obtain ⟨a1, ea⟩ := Nat.gcd_dvd_left a b
  obtain ⟨b1, eb⟩ := Nat.gcd_dvd_right a b
  obtain ⟨c1, ec⟩ := Nat.gcd_dvd_left c d
  obtain ⟨d1, ed⟩ := Nat.gcd_dvd_right c d
  generalize Nat.gcd a b = g at *
  generalize Nat.gcd c d = k at *
  have hbd : b1 = d1 := by
    have : g * k * d1 = g * k * b1 := by
      calc g * k * d1 = g * (k * d1) := Nat.mul_assoc ..
        _ = g * d := by rw [← ed]
        _ = k * b := e1
        _ = k * (g * b1) := by rw [← eb]
        _ = g * k * b1 := by ac_rfl
    exact (Nat.eq_of_mul_eq_mul_left (Nat.mul_pos g0 k0) this).symm
  have hac : a1 = c1 := by
    have d10 : 0 < d1 := Nat.pos_of_ne_zero fun z => by rw [z] at ed; omega
    have : g * k * d1 * a1 = g * k * d1 * c1 := by
      calc g * k * d1 * a1 = (g * a1) * (k * d1) := by ac_rfl
        _ = a * d := by rw [← ea, ← ed]
        _ = c * b := h
        _ = (k * c1) * (g * b1) := by rw [← ec, ← eb]
        _ = g * k * d1 * c1 := by rw [hbd]; ac_rfl
    exact Nat.eq_of_mul_eq_mul_left (Nat.mul_pos (Nat.mul_pos g0 k0) d10) this
  have q1 : a / g = a1 := by rw [ea]; exact Nat.mul_div_cancel_left _ g0
  have q2 : b / g = b1 := by rw [eb]; exact Nat.mul_div_cancel_left _ g0
  have q3 : c / k = c1 := by rw [ec]; exact Nat.mul_div_cancel_left _ k0
  have q4 : d / k = d1 := by rw [ed]; exact Nat.mul_div_cancel_left _ k0
  rw [q1, q2, q3, q4, hbd, hac]
theorem red_pos {a b : Nat} (hb : 0 < b) : 0 < (red a b).2 := by
  unfold red
  exact Nat.div_pos (Nat.le_of_dvd hb (Nat.gcd_dvd_right a b)) (Nat.gcd_pos_of_pos_right a hb)
theorem red_back {a b : Nat} : a = Nat.gcd a b * (red a b).1 ∧ b = Nat.gcd a b * (red a b).2 := by
  unfold red
  exact ⟨(Nat.mul_div_cancel' (Nat.gcd_dvd_left a b)).symm, (Nat.mul_div_cancel' (Nat.gcd_dvd_right a b)).symm⟩
theorem red_one {a b : Nat} (hb : 0 < b) : red a b = (1, 1) ↔ a = b := by
  have g0 : 0 < Nat.gcd a b := Nat.gcd_pos_of_pos_right a hb
  obtain ⟨h1, h2⟩ := @red_back a b
  constructor
  · intro e
    rw [e] at h1 h2
    omega
  · intro e
    subst e
    unfold red
    rw [Nat.gcd_self, Nat.div_self hb]
theorem red_le {a b c d : Nat} (hb : 0 < b) (hd : 0 < d) (h : a * d ≤ c * b) : (red a b).1 * (red c d).2 ≤ (red c d).1 * (red a b).2 := by
  have g0 : 0 < Nat.gcd a b := Nat.gcd_pos_of_pos_right a hb
  have k0 : 0 < Nat.gcd c d := Nat.gcd_pos_of_pos_right c hd
  obtain ⟨h1, h2⟩ := @red_back a b
  obtain ⟨h3, h4⟩ := @red_back c d
  generalize red a b = x at *
  generalize red c d = y at *
  generalize Nat.gcd a b = g at *
  generalize Nat.gcd c d = k at *
  have : g * k * (x.1 * y.2) ≤ g * k * (y.1 * x.2) := by
    calc g * k * (x.1 * y.2) = (g * x.1) * (k * y.2) := by ac_rfl
      _ = a * d := by rw [← h1, ← h4]
      _ ≤ c * b := h
      _ = (k * y.1) * (g * x.2) := by rw [← h3, ← h2]
      _ = g * k * (y.1 * x.2) := by ac_rfl
  exact Nat.le_of_mul_le_mul_left this (Nat.mul_pos g0 k0)
theorem red_cop {a b : Nat} (hb : 0 < b) : Nat.gcd (red a b).1 (red a b).2 = 1 := by
  have g0 : 0 < Nat.gcd a b := Nat.gcd_pos_of_pos_right a hb
  unfold red
  rw [Nat.gcd_div (Nat.gcd_dvd_left a b) (Nat.gcd_dvd_right a b), Nat.div_self g0]
/-! ### Euclid's steps: one, two ahead of turn i -/
def Eu (a b i x y : Nat) : Prop := Nat.gcd x y = Nat.gcd a b ∧ (i = 0 ∧ x = a ∧ y = b ∨ 0 < i ∧ y < x ∧ x * y * 2 ^ (i - 1) ≤ a * b)
theorem eu_step {a b i x y : Nat} (h : Eu a b i x y) (hy : 0 < y) : Eu a b (i + 1) y (x % y) := by
  obtain ⟨g, h⟩ := h
  refine ⟨by rw [Nat.gcd_comm, ← g, ← Nat.gcd_rec, Nat.gcd_comm], .inr ⟨by omega, Nat.mod_lt _ hy, ?_⟩⟩
  rw [Nat.add_sub_cancel]
  have m := Nat.mod_le x y
  rcases h with ⟨rfl, rfl, rfl⟩ | ⟨i0, hl, hp⟩
  · rw [Nat.pow_zero, Nat.mul_one, Nat.mul_comm]
    exact Nat.mul_le_mul_right _ m
  · have half : 2 * (x % y) ≤ x := by
      have := Nat.div_add_mod x y
      have q : 1 ≤ x / y := (Nat.one_le_div_iff hy).mpr (by omega)
      have : y * 1 ≤ y * (x / y) := Nat.mul_le_mul_left _ q
      have := Nat.mod_lt x hy
      omega
    obtain ⟨j, rfl⟩ : ∃ j, i = j + 1 := ⟨i - 1, by omega⟩
    rw [Nat.add_sub_cancel] at hp
    calc y * (x % y) * 2 ^ (j + 1) = (2 * (x % y)) * (y * 2 ^ j) := by rw [Nat.pow_succ]; ac_rfl
      _ ≤ x * (y * 2 ^ j) := Nat.mul_le_mul_right _ half
      _ = x * y * 2 ^ j := by ac_rfl
      _ ≤ a * b := hp
theorem eu_end {a b i x y : Nat} (h : Eu a b i x y) (i0 : 0 < i) (hl : a * b < 2 ^ (i - 1)) : y = 0 := by
  obtain ⟨g, h⟩ := h
  rcases h with ⟨rfl, _⟩ | ⟨_, hl2, hp⟩
  · omega
  · rcases Nat.eq_zero_or_pos y with z | z
    · exact z
    · have : 0 < x * y := Nat.mul_pos (by omega) z
      have : 1 * 2 ^ (i - 1) ≤ x * y * 2 ^ (i - 1) := Nat.mul_le_mul_right _ this
      omega
theorem eu_gcd {a b i x : Nat} (h : Eu a b i x 0) : x = Nat.gcd a b := by
  have := h.1
  rwa [Nat.gcd_zero_right] at this
end BE
namespace BE
/-! ### few totals -/
structure Few (R : List Rule) : Prop where
  ex : ∃ ts : List Nat, ts.length ≤ 8 ∧ (∀ t ∈ ts, 1 ≤ t ∧ t ≤ 2 ^ 23) ∧ ∀ r ∈ R, r.1 ∈ ts
theorem prod_pos : ∀ {ts : List Nat}, (∀ t ∈ ts, 1 ≤ t) → 0 < ts.prod
  | [], _ => by simp
  | t :: ts, h => by
    rw [List.prod_cons]
    exact Nat.mul_pos (h t (List.mem_cons_self ..)) (prod_pos fun x hx => h x (List.mem_cons_of_mem _ hx))
theorem prod_le : ∀ {ts : List Nat}, (∀ t ∈ ts, t ≤ 2 ^ 23) → ts.prod ≤ 2 ^ (23 * ts.length)
  | [], _ => by simp
  | t :: ts, h => by
    rw [List.prod_cons, List.length_cons, Nat.mul_add, Nat.pow_add, Nat.mul_comm]
    exact Nat.mul_le_mul (prod_le fun x hx => h x (List.mem_cons_of_mem _ hx)) (h t (List.mem_cons_self ..))
theorem dvd_prod : ∀ {ts : List Nat} {t : Nat}, t ∈ ts → t ∣ ts.prod
  | x :: ts, t, h => by
    rw [List.prod_cons]
    rcases List.mem_cons.mp h with rfl | h
    · exact Nat.dvd_mul_right _ _
    · exact Nat.dvd_trans (dvd_prod h) (Nat.dvd_mul_left _ _)
theorem prod_8 {ts : List Nat} (hl : ts.length ≤ 8) (h : ∀ t ∈ ts, t ≤ 2 ^ 23) : ts.prod ≤ 2 ^ 184 :=
  Nat.le_trans (prod_le h) (Nat.pow_le_pow_right (by decide) (by omega))
/-- a common bottom -/
structure Com (R : List Rule) (C : Nat) : Prop where
  pos : 0 < C
  le : C ≤ 2 ^ 184
  dv : ∀ s, s < R.length → tt R s ∣ C
theorem nodup_sub {α : Type} : ∀ {l m : List α}, l.Nodup → (∀ x ∈ l, x ∈ m) → l.length ≤ m.length
  | [], _, _, _ => Nat.zero_le _
  | a :: l, m, h, hs => by
    obtain ⟨h1, h2⟩ := List.nodup_cons.mp h
    obtain ⟨s, t, rfl⟩ := List.append_of_mem (hs a (List.mem_cons_self ..))
    have ih := nodup_sub (m := s ++ t) h2 fun x hx => by
      have := hs x (List.mem_cons_of_mem _ hx)
      rcases List.mem_append.mp this with q | q
      · exact List.mem_append_left _ q
      · rcases List.mem_cons.mp q with q | q
        · subst q; exact absurd hx h1
        · exact List.mem_append_right _ q
    rw [List.length_append] at ih
    rw [List.length_append, List.length_cons, List.length_cons]; omega
theorem com_of {R : List Rule} {ks : List Nat} (f : Few R) (hn : ks.Nodup) (h1 : ∀ k ∈ ks, ∃ r ∈ R, r.1 = k) (h2 : ∀ r ∈ R, r.1 ∈ ks) : Com R ks.prod := by
  obtain ⟨ts, t1, t2, t3⟩ := f.ex
  have sub : ∀ k ∈ ks, k ∈ ts := fun k hk => by obtain ⟨r, hr, rfl⟩ := h1 k hk; exact t3 r hr
  have hl := nodup_sub hn sub
  refine ⟨prod_pos fun k hk => (t2 k (sub k hk)).1, prod_8 (by omega) fun k hk => (t2 k (sub k hk)).2, fun s hs => ?_⟩
  rw [tt_at (List.getElem?_eq_getElem hs)]
  exact dvd_prod (h2 _ (List.getElem_mem hs))
def lcmL (R : List Rule) : Nat := R.foldl (fun c r => Nat.lcm c r.1) 1
theorem lcm_fold : ∀ (R : List Rule) (c : Nat), c ∣ R.foldl (fun c r => Nat.lcm c r.1) c ∧ ∀ r ∈ R, r.1 ∣ R.foldl (fun c r => Nat.lcm c r.1) c
  | [], c => ⟨Nat.dvd_refl _, fun r h => by cases h⟩
  | x :: R, c => by
    obtain ⟨h1, h2⟩ := lcm_fold R (Nat.lcm c x.1)
    refine ⟨Nat.dvd_trans (Nat.dvd_lcm_left _ _) h1, fun r hr => ?_⟩
    rcases List.mem_cons.mp hr with rfl | hr
    · exact Nat.dvd_trans (Nat.dvd_lcm_right _ _) h1
    · exact h2 r hr
theorem lcm_min : ∀ (R : List Rule) (c p : Nat), c ∣ p → (∀ r ∈ R, r.1 ∣ p) → R.foldl (fun c r => Nat.lcm c r.1) c ∣ p
  | [], c, p, h, _ => h
  | x :: R, c, p, h, h2 => lcm_min R _ p (Nat.lcm_dvd h (h2 x (List.mem_cons_self ..))) fun r hr => h2 r (List.mem_cons_of_mem _ hr)
theorem lcm_take {R : List Rule} (f : Few R) (k : Nat) : 0 < lcmL (R.take k) ∧ lcmL (R.take k) ≤ 2 ^ 184 := by
  obtain ⟨ts, t1, t2, t3⟩ := f.ex
  have d : lcmL (R.take k) ∣ ts.prod := lcm_min _ _ _ (Nat.one_dvd _) fun r hr => dvd_prod (t3 r (List.mem_of_mem_take hr))
  have p : 0 < ts.prod := prod_pos fun t ht => (t2 t ht).1
  exact ⟨Nat.pos_of_dvd_of_pos d p, Nat.le_trans (Nat.le_of_dvd p d) (prod_8 t1 fun t ht => (t2 t ht).2)⟩
theorem lcm_com {R : List Rule} (f : Few R) : Com R (lcmL R) := by
  have h := lcm_take f R.length
  rw [List.take_length] at h
  refine ⟨h.1, h.2, fun s hs => ?_⟩
  rw [tt_at (List.getElem?_eq_getElem hs)]
  exact (lcm_fold R 1).2 _ (List.getElem_mem hs)
theorem Com.pw {R : List Rule} {C : Nat} (c : Com R C) {L : Nat} (h : L ≤ 20) : C ^ L ≤ 2 ^ 3680 ∧ 0 < C ^ L := by
  refine ⟨?_, Nat.pow_pos c.pos⟩
  calc C ^ L ≤ (2 ^ 184) ^ L := Nat.pow_le_pow_left c.le L
    _ = 2 ^ (184 * L) := by rw [← Nat.pow_mul]
    _ ≤ 2 ^ 3680 := Nat.pow_le_pow_right (by decide) (by omega)
/-- the answer, whatever the bottom -/
theorem same_red {size : Nat} {R : List Rule} {C D : Nat} (g : Good size R) (c : Com R C) (d : Com R D) (L s : Nat) (hs : s < R.length) : red (A R C L s) (C ^ L) = red (A R D L s) (D ^ L) :=
  red_eq (Nat.pow_pos c.pos) (Nat.pow_pos d.pos) (cross c.dv d.dv (fun s p hp => g.nx s hp) L s hs)
end BE
end

section
set_option linter.all false
set_option maxRecDepth 100000
set_option maxHeartbeats 1000000
set_option exponentiation.threshold 30000
set_option autoImplicit false
namespace K65
open PySem PySem.Spec PyProof.Rows L2 PL
local macro_rules
  | `(tactic| simp! only [$xs,*]) => `(tactic| (try simp only [PL.dflS, PL.pickLD, PL.lcmP_i, PL.isoP, PL.pMeth, PL.pOEq, PL.pLcntB, PL.reprTP_t, PL.strIP_i, PL.pChain, PL.allP_lst, PL.anyP_lst, PL.rg3_i, PL.piR3, PL.upP_s, PL.pUp, PL.gcdP_i, PL.xBi, PL.xJoin, PL.xiE, PL.xLc_eq, PL.pRaise1, PL.pRaise2, PL.xPure, PL.xaPure, PL.xaNil, PL.xaCons, PL.xCall, PL.xCallK, PL.nrX, PL.xLst, PL.xTup, PL.xBin, PL.pDropX, PL.pRetX, PL.pSetX, PL.pTry, PL.pIsEs, PL.pLidx, PL.ltTP_t, PL.pRev, PL.revP_l, PL.revP_s, PL.pMtS, PL.mtSP_s, PL.findF_1, PL.findF_2, PL.startsF_1, PL.sidxF_1, PL.scntF_1, PL.pSeq, PL.pNext, PL.pSet, PL.pSetO, PL.pRet, PL.pRetN, PL.pIfS, PL.pFor, PL.pWhile, PL.pBrk, PL.pCnt, PL.pDrop, PL.pApp, PL.pAsg, PL.pgN, PL.pFrz, PL.frz, PL.pC, PL.pN, PL.pNo, PL.pBin, PL.negP, PL.pB, PL.pAnd, PL.pOr, PL.pNot, PL.pAndV, PL.pOrV, PL.pNotV, PL.pIf, PL.paNil, PL.paCons, PL.pLst, PL.pTup, PL.pIx, PL.pSl, PL.poNone, PL.poSome, PL.pCall, PL.pCallK, PL.piR1, PL.piR2, PL.piE, PL.pBits, PL.isiP_eq, PL.pLr1, PL.pJoinR, PL.pJoin, PL.pLc_eq, PL.pYes, PL.wipeC, PL.pBor, PL.pBorT, PL.frzs, PL.pSetI, PL.pChainT, PL.isNP, PL.addP_i, PL.addP_s, PL.addP_t, PL.addP_l, PL.catP_l, PL.subP_i, PL.mulP_i, PL.mulP_l, PL.repP_l, PL.mulP_s, PL.fdivP_i, PL.modP_i, PL.powP_i, PL.ltP_i, PL.ltP_s, PL.gtP_i, PL.gtP_s, PL.leP_i, PL.leP_s, PL.geP_i, PL.geP_s, PL.eqP_int, PL.eqP_str, PL.eqP_bl, PL.eqP_lst_lst, PL.eqP_tup_tup, PL.eqP_lst_tup, PL.eqP_tup_lst, PL.neP_int, PL.neP_str, PL.neP_bl, PL.neP_lst_lst, PL.neP_tup_tup, PL.neP_lst_tup, PL.neP_tup_lst, PL.asB_b, PL.asS_s, PL.lenP_lst, PL.itP_lst, PL.ixP_lst, PL.listP_lst_, PL.tupleP_lst_, PL.sumP_lst_, PL.maxP_lst_, PL.minP_lst_, PL.lenP_tup, PL.itP_tup, PL.ixP_tup, PL.listP_tup_, PL.tupleP_tup_, PL.sumP_tup_, PL.maxP_tup_, PL.minP_tup_, PL.lenP_scr, PL.itP_scr, PL.ixP_scr, PL.listP_scr_, PL.tupleP_scr_, PL.sumP_scr_, PL.maxP_scr_, PL.minP_scr_, PL.lenP_str, PL.lenP_dk, PL.itP_str, PL.ixP_str, PL.intP_i, PL.intP_b, PL.rg1_i, PL.rg2_i, PL.lr1_i, PL.lr2_i, PL.maxP_2, PL.maxP_3, PL.minP_2, PL.minP_3, PL.slP_lst, PL.slP_tup, PL.slP_str, PL.slPL_lst, PL.pgTup_t, PL.pgTup_l, PL.pgsCons_c, PL.pgsNil_n, PL.joinRP_l, PL.reprP_i, PL.reprP_s, PL.setP_i, PL.ixE_0, PL.ixE_1, PL.ixE_2, PL.ixE_3, PL.ixE_4, PL.ixE_5, PL.ixE_6, PL.ixE_7, PL.ixE_8, PL.isqrtP_i, PL.reprLP_l, PL.pMkE, PL.pErF, PL.pIsE, PL.pRevS, PL.pRetO, PL.pRetON, PL.pNever, PL.pExt, PL.listDP_d, PL.pFld, PL.pFldS, PL.setF, PL.slfD, PL.piEn, PL.itEn, PL.isi2P, PL.isBP, PL.pDk, PL.pDt, PL.divmodP_i, PL.pGet, PL.isi_non_int, PL.isi_non_bool, PL.isi_non_str, PL.isi_non_list, PL.isi_non_tuple, PL.isi_bl_int, PL.isi_bl_bool, PL.isi_bl_str, PL.isi_bl_list, PL.isi_bl_tuple, PL.isi_int_int, PL.isi_int_bool, PL.isi_int_str, PL.isi_int_list, PL.isi_int_tuple, PL.isi_str_int, PL.isi_str_bool, PL.isi_str_str, PL.isi_str_list, PL.isi_str_tuple, PL.isi_tup_int, PL.isi_tup_bool, PL.isi_tup_str, PL.isi_tup_list, PL.isi_tup_tuple, PL.isi_lst_int, PL.isi_lst_bool, PL.isi_lst_str, PL.isi_lst_list, PL.isi_lst_tuple, PL.pickL, List.filterMap_cons, List.filterMap_nil, true_and, decide_true, decide_false, eq_self, Int.zero_add, decide_eq_true_eq, PL.rowE, PL.rowS, PL.startC, List.length_map, List.map_cons, List.map_nil, List.length_cons, List.length_nil, List.append_nil, List.nil_append, List.cons_append, List.replicate_succ, List.replicate_zero, List.set_cons_zero, List.set_cons_succ, List.getElem?_cons_zero, List.getElem?_cons_succ, Nat.reduceAdd, Nat.reduceSub, if_true, Bool.not_true, Bool.not_false, Bool.false_eq_true, if_false, $xs,*]))
def sp_law : PSp := fun ds P => ∃ ns : List Int, ds = [.scr (ns.map D.int)] ∧ ns.length ≤ 63 ∧ P (.bl true)
theorem law_in (ns : List Int) (h : ns.length ≤ 63) : sp_law [.scr (ns.map D.int)] (fun d => d = .bl true) := ⟨ns, rfl, h, rfl⟩
theorem len_law : ∀ ds P, sp_law ds P → ds.length = 1 := by rintro _ _ ⟨ns, rfl, _⟩; rfl
def sp_law_whole : PSp := fun ds P => ∃ n : Int, ds = [.int n] ∧ P (.bl true)
theorem len_law_whole : ∀ ds P, sp_law_whole ds P → ds.length = 1 := by rintro _ _ ⟨n, rfl, _⟩; rfl
theorem w_law_whole : ∀ ds Q, sp_law_whole ds Q → b_law_whole { nx := fun _ => Q .non, rt := Q } (startC ["value"] ds) := by
  rintro _ Q ⟨n, rfl, h⟩
  unfold b_law_whole
  simp! only [true_and]
  exact h
theorem sp_law_whole_eq {n : Int} {P : D → Prop} : sp_law_whole [.int n] P = P (.bl true) := propext ⟨fun ⟨m, e, h⟩ => h, fun h => ⟨n, rfl, h⟩⟩
def sp_law_cell : PSp := fun ds P => ∃ (ns : List Int) (k : Int), ds = [.scr (ns.map D.int), .int k] ∧ ns.length ≤ 63 ∧ 0 ≤ k ∧ k ≤ 1000000 ∧ ∀ z : Int, P (.int z)
theorem len_law_cell : ∀ ds P, sp_law_cell ds P → ds.length = 2 := by rintro _ _ ⟨ns, n, rfl, _⟩; rfl
theorem w_law_cell : ∀ ds Q, sp_law_cell ds Q → b_law_cell { nx := fun _ => Q .non, rt := Q } (startC ["script", "k", "seed", "cell"] ds) := by
  rintro _ Q ⟨ns, k, rfl, hn, h0, hk, h⟩
  unfold b_law_cell
  simp! only [true_and]
  split
  · rename_i hl
    obtain ⟨x, _, _, e⟩ := atI_mapI D.int h0 hl
    exact ⟨_, e, h _⟩
  · refine for_m (W := fun i env => ∃ (s : Int) (x : C), 0 ≤ s ∧ s < 1000003 ∧ env = [C.fz (.scr (ns.map D.int)), C.fz (.int k), C.fz (.int s), x]) ⟨17, _, by decide, by decide, rfl⟩ ?_ ?_
    · rintro i n env - ⟨s, x, s0, s1, rfl⟩
      simp! only [true_and]
      refine ⟨mulx_ok (a := 20) (b := 5) (by omega) (by decide) (by decide), by decide, by decide, _, _, ?_, ?_, rfl⟩
      · exact Int.emod_nonneg _ (by decide)
      · exact Int.emod_lt_of_pos _ (by decide)
    · rintro env ⟨s, x, s0, s1, rfl⟩
      simp! only [true_and]
      have h1 : 0 ≤ (s + 7) * (k + 3) := Int.mul_nonneg (by omega) (by omega)
      have h2 : (s + 7) * (k + 3) ≤ 1000009 * 1000003 := Int.mul_le_mul (by omega) (by omega) (by omega) (by omega)
      exact ⟨mulx_ok (a := 20) (b := 20) (by omega) (by omega) (by decide), mulx_ok (a := 41) (b := 20) (by omega) (by decide) (by decide), by decide, h _⟩
def sp_law_digits : PSp := fun ds P => ∃ (c : Int) (sizes : List Int), ds = [.int c, .lst (sizes.map D.int)] ∧ sizes.length ≤ 10000 ∧ (∀ s ∈ sizes, 0 < s ∧ s < 2 ^ 1000) ∧
  ∀ row : List Int, Digs row sizes → P (.lst (row.map D.int))
theorem len_law_digits : ∀ ds P, sp_law_digits ds P → ds.length = 2 := by rintro _ _ ⟨ns, n, rfl, _⟩; rfl
theorem w_law_digits : ∀ ds Q, sp_law_digits ds Q → b_law_digits { nx := fun _ => Q .non, rt := Q } (startC ["cell", "sizes", "row", "rest", "size", "seed", "k", "twice"] ds) := by
  rintro _ Q ⟨c, sizes, rfl, hl, hs, h⟩
  unfold b_law_digits
  simp! only [true_and]
  refine ⟨by decide, cpow18, ?_⟩
  have hsz : sizeLine = 16777216 := PySem.sizeLine_eq
  split
  · refine ⟨cpow18, ?_⟩
    refine for_m (W := fun i env => ∃ (row : List Int) (r : Int) (x y z w : C), DigsK i row sizes ∧ env = [C.fz (.int c), C.fz (.lst (sizes.map D.int)), C.ow (.lst (row.map D.int)), C.fz (.int r), x, y, z, w]) ⟨[], _, _, _, _, _, DigsK.nil _, rfl⟩ ?_ ?_
    · rintro k s env hk ⟨row, r, x, y, z, w, hd, rfl⟩
      have hm := hs s (List.mem_of_getElem? hk)
      have hkl : k < sizes.length := (List.getElem?_eq_some_iff.mp hk).1
      simp! only [true_and]
      have := hd.1
      refine ⟨hm.1, by omega, cdivw 1000 hm.1 hm.2 (by decide), row ++ [r % s], _, _, _, _, _, hd.snoc hk (Int.emod_nonneg _ (by omega)) (Int.emod_lt_of_pos _ hm.1), rfl⟩
    · rintro env ⟨row, r, x, y, z, w, hd, rfl⟩
      simp! only [true_and]
      exact h _ hd.done
  · refine ⟨by decide, ⟨by omega, by omega⟩, ?_⟩
    refine for_r (W := fun i env => ∃ (row : List Int) (s : Int) (x y z : C), DigsK i row sizes ∧ 0 ≤ s ∧ s < 2147483647 ∧ env = [C.fz (.int c), C.fz (.lst (sizes.map D.int)), C.ow (.lst (row.map D.int)), C.fz (.int c), x, C.fz (.int s), y, z]) ⟨[], _, _, _, _, DigsK.nil _, Int.emod_nonneg _ (by decide), Int.lt_trans (Int.emod_lt_of_pos _ (by decide)) (by decide), rfl⟩ ?_ ?_
    · rintro k env hk ⟨row, s, x, y, z, hd, s0, s1, rfl⟩
      have hk : k < sizes.length := hk
      obtain ⟨t, ht⟩ : ∃ t, sizes[k]? = some t := ⟨_, List.getElem?_eq_getElem hk⟩
      have hm := hs t (List.mem_of_getElem? ht)
      simp! only [true_and]
      have := hd.1
      have d0 := Int.emod_nonneg (s * 48271 + 974711 * (k : Int) + 12345) (show (2147483647 : Int) ≠ 0 by decide)
      have d1 := Int.emod_lt_of_pos (s * 48271 + 974711 * (k : Int) + 12345) (show (0 : Int) < 2147483647 by decide)
      refine ⟨mulx_ok (a := 31) (b := 16) (by omega) (by decide) (by decide), mulx_ok (a := 20) (b := 14) (by decide) (by omega) (by decide), by decide, cdivw 20 (by decide) (by decide) (by decide), ?_, by decide, cdivw 20 (by decide) (by decide) (by decide), ?_⟩
      · exact mulx_ok (a := 31) (b := 31) (by omega) (by omega) (by decide)
      · refine ⟨D.int t, atI_map D.int ht, ?_⟩
        simp! only [true_and]
        exact ⟨hm.1, by omega, row ++ [_], _, _, _, _, hd.snoc ht (Int.emod_nonneg _ (by omega)) (Int.emod_lt_of_pos _ hm.1), d0, d1, rfl⟩
    · rintro env ⟨row, s, x, y, z, hd, s0, s1, rfl⟩
      simp! only [true_and]
      exact h _ hd.done
/-! ### alphabets, rows, cuts -/
def LET : Wd := [48, 49, 50, 51, 52, 53, 54, 55, 56, 57, 97, 98, 99, 100, 101, 102, 103, 104, 105, 106, 107, 108, 109, 110, 111, 112, 113, 114, 115, 116, 117, 118, 119, 120, 121, 122]
theorem LET_eq : ("0123456789abcdefghijklmnopqrstuvwxyz" : Str) = T LET := by decide +kernel
structure AB (abc : Wd) : Prop where
  l1 : 1 ≤ abc.length
  l6 : abc.length ≤ 6
  mem : ∀ c ∈ abc, c ∈ LET
  srt : ∀ (i : Nat) (a b : Nat), abc[i]? = some a → abc[i + 1]? = some b → a < b
def sp_is_whole : PSp := fun ds P => ∃ n : Int, ds = [.int n] ∧ P (.bl true)
theorem len_is_whole : ∀ ds P, sp_is_whole ds P → ds.length = 1 := by rintro _ _ ⟨n, rfl, _⟩; rfl
theorem w_is_whole : ∀ ds Q, sp_is_whole ds Q → b_is_whole { nx := fun _ => Q .non, rt := Q } (startC ["value"] ds) := by
  rintro _ Q ⟨n, rfl, h⟩
  unfold b_is_whole
  simp! only [true_and]
  exact h
theorem sp_is_whole_eq {n : Int} {P : D → Prop} : sp_is_whole [.int n] P = P (.bl true) := propext ⟨fun ⟨m, e, h⟩ => h, fun h => ⟨n, rfl, h⟩⟩
theorem inP_T {neg : Bool} {a : Wd} {c : Nat} {P : D → Prop} : inP neg (.str (T [c])) (.str (T a)) P = P (.bl (decide (c ∈ a) != neg)) := by
  refine propext ⟨fun ⟨z, e, h⟩ => ?_, fun h => ⟨_, rfl, ?_⟩⟩
  · cases e; rwa [in_T] at h
  · rw [in_T]; exact h
theorem atI_T {a : Wd} {k : Nat} {c : Nat} (h : a[k]? = some c) : atI (T a).cps.toList (k : Int) = some c := atI_nat (by show (a.toArray.toList)[k]? = _; simpa using h)
def sp_check_alphabet : PSp := fun ds P => ∃ abc : Wd, ds = [TD abc] ∧ AB abc ∧ P .non
theorem len_check_alphabet : ∀ ds P, sp_check_alphabet ds P → ds.length = 1 := by rintro _ _ ⟨n, rfl, _⟩; rfl
theorem enD_map {α : Type} (f : α → D) (xs : List α) : enD (xs.map f) = (xs.zipIdx).map fun p => D.tup [.int (p.2 : Nat), f p.1] := by
  apply List.ext_getElem?
  intro k
  rw [enD_get, List.getElem?_map, List.getElem?_map, List.getElem?_zipIdx]
  cases xs[k]? <;> simp
/-- a loop over enumerate -/
theorem for_en {α : Type} {f : α → D} {xs : List α} {g : PTG} {body : PTS} {PD : PEnds} {env : List C} (W : Nat → List C → Prop) (h0 : W 0 env)
    (hs : ∀ (k : Nat) (x : α) (env : List C), xs[k]? = some x → W k env → g (.tup [.int (k : Nat), f x]) env fun e => body { nx := W (k + 1), ct := W (k + 1), bk := PD.nx, rt := PD.rt, er := PD.er } e) (hd : ∀ env, W xs.length env → PD.nx env) : forP (sqL (enD (xs.map f))) g body PD env :=
  for_l W h0 (fun k d env hk w => by
    rw [enD_get, List.getElem?_map] at hk
    cases e : xs[k]? with
    | none => rw [e] at hk; cases hk
    | some x => rw [e] at hk; cases hk; exact hs k x env e w) (fun env w => hd env (by rw [enD_len, List.length_map] at w; exact w))
theorem T1_lt (a b : Nat) : decide ((T [a]).cps.toList < (T [b]).cps.toList) = decide (a < b) := by
  have e : ((T [a]).cps.toList < (T [b]).cps.toList) ↔ a < b := by
    show ([a] : List Nat) < [b] ↔ _
    rw [List.cons_lt_cons_iff]
    simp
  by_cases h : a < b
  · rw [decide_eq_true h, decide_eq_true (e.mpr h)]
  · rw [decide_eq_false h, decide_eq_false fun q => h (e.mp q)]
theorem w_check_alphabet : ∀ ds Q, sp_check_alphabet ds Q → b_check_alphabet { nx := fun _ => Q .non, rt := Q } (startC ["alphabet", "index", "letter"] ds) := by
  rintro _ Q ⟨abc, rfl, ab, q⟩
  have hz : sizeLine = 16777216 := PySem.sizeLine_eq
  have l1 := ab.l1; have l6 := ab.l6
  simp only [PL.startC, List.map_cons, List.map_nil, List.length_cons, List.length_nil, Nat.reduceAdd, Nat.reduceSub, List.replicate_succ, List.replicate_zero, List.cons_append, List.nil_append, List.append_nil]
  unfold b_check_alphabet
  simp only [show TD abc = D.str (T abc) from rfl]
  simp! only [true_and]
  rw [T_len, signs_T]
  refine ⟨by omega, ?_⟩
  rw [if_pos (by omega), decide_eq_true (by omega)]
  simp only [Bool.not_true, Bool.false_eq_true, if_false]
  refine for_en (W := fun i env => ∃ x y : C, env = [C.fz (TD abc), x, y]) ⟨.un, .un, rfl⟩ ?_ ?_
  · rintro k c env hk ⟨x, y, rfl⟩
    simp only [TD, LET_eq]
    simp! only [inP_T]
    have hc := ab.mem c (List.mem_of_getElem? hk)
    rw [decide_eq_true hc]
    simp! only [true_and]
    simp only [bne_self_eq_false, Bool.false_eq_true, if_false]
    split
    · rename_i hk0
      obtain ⟨j, rfl⟩ : ∃ j, k = j + 1 := ⟨k - 1, by omega⟩
      obtain ⟨d, hd⟩ : ∃ d, abc[j]? = some d := ⟨_, List.getElem?_eq_getElem (by have := (List.getElem?_eq_some_iff.mp hk).1; omega)⟩
      rw [show (((j + 1 : Nat) : Int) - 1) = (j : Int) by omega]
      refine ⟨by rw [T_len]; omega, d, atI_T hd, ?_⟩
      have hlt := ab.srt j d c hd hk
      rw [show decide (([d] : List Nat) < (T [c]).cps.toList) = decide (d < c) from T1_lt d c, decide_eq_true hlt]
      simp! only [true_and]
      exact ⟨_, _, rfl⟩
    · exact ⟨_, _, rfl⟩
  · rintro env ⟨x, y, rfl⟩
    exact q
theorem lay_strs (ns : List Str) (h : ∀ s ∈ ns, PyData.canLay0 (.str s) = true) : PyData.canLayAll0 (ns.map PyData.str) = true := by
  induction ns with
  | nil => rfl
  | cons n ns ih =>
    show (PyData.canLay0 (.str n) && PyData.canLayAll0 (ns.map PyData.str)) = true
    rw [ih fun s hs => h s (List.mem_cons_of_mem _ hs), h n (List.mem_cons_self ..)]; rfl
theorem depth_strs (ns : List Str) : PyData.depthAll (ns.map PyData.str) ≤ 1 := by
  induction ns with
  | nil => simp [PyData.depthAll]
  | cons n ns ih =>
    simp only [List.map_cons, PyData.depthAll, PyData.depth]
    omega
theorem cmpOk_str {x : Str} (h : PyData.canLay0 (.str x) = true) : cmpOk (.str x) = true := by
  have h1 : flat (.str x) = true := rfl
  have h2 : SeqAt.shaped (toPy (.str x)) = true := by
    show (PyData.canLay0 (.str x) && decide (PyData.depth (.str x) ≤ 64)) = true
    rw [h, Bool.true_and]
    exact decide_eq_true (by simp only [PyData.depth]; omega)
  unfold cmpOk
  rw [h1, h2]; rfl
theorem cmpOk_strs (ns : List Str) (h : ∀ s ∈ ns, PyData.canLay0 (.str s) = true) : cmpOk (.lst (ns.map D.str)) = true := by
  have h1 : flat (.lst (ns.map D.str)) = true := flats_strs ns
  have h2 : SeqAt.shaped (toPy (.lst (ns.map D.str))) = true := by
    show (PyData.canLay0 (.list (toPys (ns.map D.str))) && decide (PyData.depth (.list (toPys (ns.map D.str))) ≤ 64)) = true
    rw [toPys_strs, Bool.and_eq_true]
    have := depth_strs ns
    exact ⟨lay_strs ns h, decide_eq_true (by simp only [PyData.depth]; omega)⟩
  unfold cmpOk
  rw [h1, h2]; rfl
/-! ### an alphabet of a script -/
theorem nodup_sub {α : Type} : ∀ {l m : List α}, l.Nodup → (∀ x ∈ l, x ∈ m) → l.length ≤ m.length
  | [], _, _, _ => Nat.zero_le _
  | a :: l, m, h, hs => by
    obtain ⟨h1, h2⟩ := List.nodup_cons.mp h
    obtain ⟨s, t, rfl⟩ := List.append_of_mem (hs a (List.mem_cons_self ..))
    have ih := nodup_sub (m := s ++ t) h2 fun x hx => by
      have := hs x (List.mem_cons_of_mem _ hx)
      rcases List.mem_append.mp this with q | q
      · exact List.mem_append_left _ q
      · rcases List.mem_cons.mp q with q | q
        · subst q; exact absurd hx h1
        · exact List.mem_append_right _ q
    rw [List.length_append] at ih
    rw [List.length_append, List.length_cons, List.length_cons]; omega
theorem LET_nd : LET.Nodup := by decide
theorem LET_len : LET.length = 36 := rfl
theorem sorted_wd : ∀ (ys : List Str) (ls : List Nat), (∀ y ∈ ys, ∃ c ∈ ls, y = T [c]) → ∃ abc : Wd, ys = abc.map (fun c => T [c])
  | [], _, _ => ⟨[], rfl⟩
  | y :: ys, ls, h => by
    obtain ⟨c, _, rfl⟩ := h y (List.mem_cons_self ..)
    obtain ⟨abc, e⟩ := sorted_wd ys ls fun z hz => h z (List.mem_cons_of_mem _ hz)
    exact ⟨c :: abc, by rw [e]; rfl⟩
theorem flat1 : ∀ abc : Wd, (abc.map fun c => [c]).flatten = abc
  | [] => rfl
  | a :: l => by rw [List.map_cons, List.flatten_cons, flat1 l]; rfl
theorem sortedS_at : ∀ (abc : Wd) (i a b : Nat), sortedS (abc.map fun c => T [c]) = true → abc[i]? = some a → abc[i + 1]? = some b → a ≤ b
  | [], i, a, b, _, ha, _ => by simp at ha
  | [x], i, a, b, _, _, hb => by simp at hb
  | x :: y :: r, 0, a, b, h, ha, hb => by
    have ha : x = a := by simpa using ha
    have hb : y = b := by simpa using hb
    subst ha hb
    have h : (!ltCps [y] [x] && risingS (T [y]) (r.map fun c => T [c])) = true := h
    rw [Bool.and_eq_true] at h
    have h1 := h.1
    simp [ltCps] at h1
    exact h1
  | x :: y :: r, i + 1, a, b, h, ha, hb => by
    have h : (!ltCps [y] [x] && risingS (T [y]) (r.map fun c => T [c])) = true := h
    rw [Bool.and_eq_true] at h
    exact sortedS_at (y :: r) i a b h.2 (by simpa using ha) (by simpa using hb)
theorem canLay_let : ∀ c ∈ LET, PyData.canLay0 (.str (T [c])) = true := by decide +kernel
theorem hasP_T {c : Nat} : ∀ {ls : List Nat}, hasP (.str (T [c])) (ls.map fun c => D.str (T [c])) = decide (c ∈ ls)
  | [] => rfl
  | d :: ls => by
    have ih := hasP_T (c := c) (ls := ls)
    have e : hasP (.str (T [c])) ((d :: ls).map fun c => D.str (T [c])) = (decide ((T [d] : Str) = T [c]) || hasP (.str (T [c])) (ls.map fun c => D.str (T [c]))) := rfl
    rw [e, ih]
    by_cases h : d = c
    · subst h; simp
    · have h2 : ¬ T [d] = T [c] := fun q => h (by have := T_inj q; simpa using this)
      have h3 : ¬ c = d := fun q => h q.symm
      simp [h2, h3]
def szAb : List Int := [12, 36, 36, 36, 36, 36, 36]
def sp_law_alphabet : PSp := fun ds P => ∃ row : List Int, ds = [.lst (row.map D.int), .int 6] ∧ Digs row szAb ∧ ∀ abc : Wd, AB abc → P (TD abc)
theorem len_law_alphabet : ∀ ds P, sp_law_alphabet ds P → ds.length = 2 := by rintro _ _ ⟨z, rfl, _⟩; rfl
theorem w_law_alphabet : ∀ ds Q, sp_law_alphabet ds Q → b_law_alphabet { nx := fun _ => Q .non, rt := Q } (startC ["row", "upto", "many", "letters", "taken", "k", "at", "turn"] ds) := by
  rintro _ Q ⟨row, rfl, hr, q⟩
  have hs : sizeLine = 16777216 := PySem.sizeLine_eq
  simp only [PL.startC, List.map_cons, List.map_nil, List.length_cons, List.length_nil, Nat.reduceAdd, Nat.reduceSub, List.replicate_succ, List.replicate_zero, List.cons_append, List.nil_append, List.append_nil]
  unfold b_law_alphabet
  obtain ⟨r0, e0, z0, z1⟩ := hr.get (i := 0) rfl
  simp! only [true_and]
  refine ⟨by decide, _, atI_int D.int 0 rfl e0, ?_⟩
  obtain ⟨n, hn⟩ := Int.eq_ofNat_of_zero_le z0
  have hm : ∃ m : Int, 1 ≤ m ∧ m ≤ 6 ∧ atI [D.int 2, D.int 2, D.int 2, D.int 2, D.int 3, D.int 3, D.int 3, D.int 1, D.int 4, D.int 5, D.int 6, D.int 2] r0 = some (D.int m) := by
    subst hn
    have hd : ∀ n, n < 12 → 1 ≤ (([2, 2, 2, 2, 3, 3, 3, 1, 4, 5, 6, 2] : List Int)[n]?).getD 0 ∧ (([2, 2, 2, 2, 3, 3, 3, 1, 4, 5, 6, 2] : List Int)[n]?).getD 0 ≤ 6 := by decide
    have hn12 : n < 12 := by omega
    have h := hd n hn12
    have e : ([2, 2, 2, 2, 3, 3, 3, 1, 4, 5, 6, 2] : List Int)[n]? = some (([2, 2, 2, 2, 3, 3, 3, 1, 4, 5, 6, 2] : List Int)[n]'hn12) := List.getElem?_eq_getElem hn12
    rw [e] at h
    exact ⟨_, h.1, h.2, atI_map D.int e⟩
  obtain ⟨m, m0, m1, em⟩ := hm
  refine ⟨_, em, ?_⟩
  simp! only [true_and]
  rw [show min (6 : Int) m = m by omega]
  refine ⟨by decide, ⟨by omega, by omega⟩, ?_⟩
  simp only [LET_eq]
  refine for_r (W := fun i env => ∃ (ls : List Nat) (x y z : C), ls.length = i ∧ ls.Nodup ∧ (∀ c ∈ ls, c ∈ LET) ∧ env = [C.fz (.lst (row.map D.int)), C.fz (.int 6), C.fz (.int m), C.fz (.str (T LET)), C.ow (.lst (ls.map fun c => D.str (T [c]))), x, y, z]) ⟨[], _, _, _, rfl, by simp, by simp, rfl⟩ ?_ ?_
  · rintro k env hk ⟨ls, x, y, z, c1, c2, c3, rfl⟩
    have hk : k < 6 := by omega
    have hk2 : ∀ j : Nat, j < 6 → szAb[1 + j]? = some 36 := by decide
    obtain ⟨t, et, t0, t1⟩ := hr.get (hk2 k hk)
    have ltr : ∀ j : Nat, j < 36 → ∃ c, LET[j]? = some c := fun j hj => ⟨_, List.getElem?_eq_getElem (by rw [LET_len]; exact hj)⟩
    simp! only [true_and]
    refine ⟨_, atI_int D.int _ (by omega) et, ?_⟩
    simp! only [true_and]
    refine ⟨by decide, ⟨by decide, by decide⟩, ?_⟩
    obtain ⟨t, rfl⟩ := Int.eq_ofNat_of_zero_le t0
    -- at turn i the place is free, or the i places behind the first are taken
    refine for_r (W := fun i env => ∃ (a : Nat) (x z : C), a < 36 ∧ ((∀ c, LET[a]? = some c → c ∉ ls) ∨ (a = (t + i) % 36 ∧ ∀ j c, j < i → LET[(t + j) % 36]? = some c → c ∈ ls)) ∧ env = [C.fz (.lst (row.map D.int)), C.fz (.int 6), C.fz (.int m), C.fz (.str (T LET)), C.ow (.lst (ls.map fun c => D.str (T [c]))), x, C.fz (.int (a : Nat)), z]) ⟨t % 36, _, _, Nat.mod_lt _ (by decide), .inr ⟨rfl, fun j c h => by omega⟩, rfl⟩ ?_ ?_
    · rintro i env hi ⟨a, x, z, a1, inv, rfl⟩
      obtain ⟨c, ec⟩ := ltr a a1
      simp! only [true_and]
      refine ⟨by decide, c, atI_T ec, ?_⟩
      simp! only [inP_l]
      refine ⟨cmpOk_str (canLay_let c (List.mem_of_getElem? ec)), ?_, ?_⟩
      · have := cmpOk_strs (ls.map fun c => T [c]) (fun s h => by
          obtain ⟨d, hd, rfl⟩ := List.mem_map.mp h
          exact canLay_let d (c3 d hd))
        rw [List.map_map] at this; exact this
      rw [show D.str ⟨#[c]⟩ = D.str (T [c]) from rfl, hasP_T]
      by_cases hc : c ∈ ls
      · rw [decide_eq_true hc, if_pos (by decide)]
        refine ⟨by decide, (a + 1) % 36, _, _, Nat.mod_lt _ (by decide), ?_, rfl⟩
        rcases inv with inv | ⟨ia, ib⟩
        · exact absurd hc (inv c ec)
        · refine .inr ⟨by rw [ia]; omega, fun j d hj hd => ?_⟩
          by_cases e : j = i
          · subst e
            rw [← ia, ec] at hd
            cases hd; exact hc
          · exact ib j d (by omega) hd
      · rw [decide_eq_false hc, if_neg (by decide)]
        exact ⟨a, _, _, a1, .inl fun d hd => by rw [ec] at hd; cases hd; exact hc, rfl⟩
    · rintro env ⟨a, x, z, a1, inv, rfl⟩
      obtain ⟨c, ec⟩ := ltr a a1
      have hc : c ∉ ls := by
        rcases inv with inv | ⟨ia, ib⟩
        · exact inv c ec
        · intro _
          have hsub : ∀ d ∈ LET, d ∈ ls := fun d hd => by
            obtain ⟨j, hj, e⟩ := List.mem_iff_getElem.mp hd
            rw [LET_len] at hj
            refine ib ((j + 36 - t) % 36) d (Nat.mod_lt _ (by decide)) ?_
            have : (t + (j + 36 - t) % 36) % 36 = j := by omega
            rw [this]
            exact List.getElem?_eq_some_iff.mpr ⟨by rw [LET_len]; exact hj, e⟩
          have := nodup_sub LET_nd hsub
          rw [LET_len] at this
          omega
      simp! only [true_and]
      refine ⟨by decide, c, atI_T ec, ?_⟩
      simp! only [true_and]
      refine ⟨by omega, ls ++ [c], x, C.fz (.int (a : Nat)), z, by simp [c1], ?_, fun d hd => ?_, ?_⟩
      · rw [List.nodup_append]
        exact ⟨c2, by simp, fun a ha b hb e => by simp at hb; subst hb; subst e; exact hc ha⟩
      · rcases List.mem_append.mp hd with hd | hd
        · exact c3 d hd
        · rw [List.mem_singleton] at hd; subst hd; exact List.mem_of_getElem? ec
      · rw [List.map_append]; rfl
  · rintro env ⟨ls, x, y, z, c1, c2, c3, rfl⟩
    simp! only [true_and]
    have e1 : (ls.map fun c => D.str (T [c])) = (ls.map fun c => T [c]).map D.str := by rw [List.map_map]; rfl
    refine ⟨_, rfl, .inr ⟨ls.map fun c => T [c], by rw [e1, strsOf_map], by rw [List.length_map]; omega, fun ys p1 p2 => ?_⟩⟩
    obtain ⟨abc, rfl⟩ := sorted_wd ys ls fun y hy => by
      obtain ⟨c, hc, rfl⟩ := List.mem_map.mp (p1.mem_iff.mp hy)
      exact ⟨c, hc, rfl⟩
    have hl : abc.length = ls.length := by
      have := p1.length_eq
      rwa [List.length_map, List.length_map] at this
    have hmem : ∀ c ∈ abc, c ∈ ls := fun c hc => by
      obtain ⟨d, hd, e⟩ := List.mem_map.mp (p1.mem_iff.mp (List.mem_map.mpr ⟨c, hc, rfl⟩))
      have := T_inj e
      simp at this; subst this; exact hd
    have hnd : abc.Nodup := by
      have h1 : (ls.map fun c => T [c]).Nodup := c2.map _ fun a b hne e => hne (by have := T_inj e; simpa using this)
      have h2 : (abc.map fun c => T [c]).Nodup := (List.Perm.nodup_iff p1).mpr h1
      exact List.Pairwise.of_map _ (fun a b h e => h (by rw [e])) h2
    have ab : AB abc := ⟨by omega, by omega, fun c hc => c3 c (hmem c hc), fun i a b ha hb => by
      have hle := sortedS_at abc i a b p2 ha hb
      by_cases e : a = b
      · subst e
        have := nd_get hnd ha hb
        omega
      · omega⟩
    have e2 : (abc.map fun c => T [c]).map D.str = abc.map fun c => D.str (T [c]) := by rw [List.map_map]; rfl
    have e3 : (abc.map fun c => T [c]) = (abc.map fun c => [c]).map T := by rw [List.map_map]; rfl
    refine ⟨_, abc.map fun c => T [c], rfl, strsOf_map _, ?_, ?_⟩
    · have hsum := sum_same (fun y : Str => y.length) 1 (abc.map fun c => T [c]) fun w hw => by
        obtain ⟨c, _, rfl⟩ := List.mem_map.mp hw
        rfl
      rw [hsum, List.length_map, str_e]; show _ + _ * 0 ≤ _; omega
    · rw [e3, join_T]
      rw [flat1]
      exact q abc ab
/-! ### frozen: lists made tuples at every level -/
mutual
def frzD : D → D
  | .lst ds => .tup (frzL ds)
  | .tup ds => .tup (frzL ds)
  | d => d
def frzL : List D → List D
  | [] => []
  | d :: ds => frzD d :: frzL ds
end
theorem frzL_map : ∀ ds : List D, frzL ds = ds.map frzD
  | [] => rfl
  | d :: ds => by unfold frzL; rw [frzL_map ds]; rfl
def okF : Nat → D → Prop
  | 0, _ => False
  | r + 1, .lst ds => ds.length ≤ 100000 ∧ ∀ d ∈ ds, okF r d
  | r + 1, .tup ds => ds.length ≤ 100000 ∧ ∀ d ∈ ds, okF r d
  | _ + 1, .int _ => True
  | _ + 1, .str _ => True
  | _ + 1, .bl _ => True
  | _ + 1, .non => True
  | _ + 1, _ => False
def spF (r : Nat) : PSp := fun ds P => ∃ d : D, ds = [d] ∧ okF r d ∧ P (frzD d)
theorem len_spF (r : Nat) : ∀ ds P, spF r ds P → ds.length = 1 := by rintro _ _ ⟨d, rfl, _⟩; rfl
theorem w_spF (r : Nat) (sp : PSp) (hsp : ∀ ds P, spF r ds P → sp ds P) : ∀ ds Q, spF (r + 1) ds Q → b_frozen sp { nx := fun _ => Q .non, rt := Q } (startC ["value", "item"] ds) := by
  rintro _ Q ⟨d, rfl, ok, q⟩
  have hz : sizeLine = 16777216 := PySem.sizeLine_eq
  have key : ∀ (ds : List D) (e : C), ds.length ≤ 100000 → (∀ d ∈ ds, okF r d) → Q (.tup (frzL ds)) → LcP (sqL ds) [1] (pgN 1) pYes (pCall sp (paCons (pN 1) paNil)) [e, C.un] fun d => tupleP [d] Q := by
    intro ds e hl hd q
    refine lc_l (f := frzD) (by show ds.length ≤ _; omega) (fun k d R hk hR => ?_) (pgN_mono 1) (fun e A B h x => h _ x) ?_
    · simp! only [true_and]
      exact hsp _ _ ⟨d, rfl, hd d (List.mem_of_getElem? hk), hR⟩
    · rw [frzL_map] at q
      exact ⟨_, rfl, q⟩
  cases d with
  | int i =>
    simp only [PL.startC, List.map_cons, List.map_nil, List.length_cons, List.length_nil, Nat.reduceAdd, Nat.reduceSub, List.replicate_succ, List.replicate_zero, List.cons_append, List.nil_append, List.append_nil]
    unfold b_frozen
    simp! only [true_and]
    refine ⟨"int", false, false, rfl, by decide +kernel, by decide +kernel, ?_⟩
    simp! only [true_and]
    exact q
  | str i =>
    simp only [PL.startC, List.map_cons, List.map_nil, List.length_cons, List.length_nil, Nat.reduceAdd, Nat.reduceSub, List.replicate_succ, List.replicate_zero, List.cons_append, List.nil_append, List.append_nil]
    unfold b_frozen
    simp! only [true_and]
    refine ⟨"str", false, false, rfl, by decide +kernel, by decide +kernel, ?_⟩
    simp! only [true_and]
    exact q
  | bl i =>
    simp only [PL.startC, List.map_cons, List.map_nil, List.length_cons, List.length_nil, Nat.reduceAdd, Nat.reduceSub, List.replicate_succ, List.replicate_zero, List.cons_append, List.nil_append, List.append_nil]
    unfold b_frozen
    simp! only [true_and]
    refine ⟨"bool", false, false, rfl, by decide +kernel, by decide +kernel, ?_⟩
    simp! only [true_and]
    exact q
  | non =>
    simp only [PL.startC, List.map_cons, List.map_nil, List.length_cons, List.length_nil, Nat.reduceAdd, Nat.reduceSub, List.replicate_succ, List.replicate_zero, List.cons_append, List.nil_append, List.append_nil]
    unfold b_frozen
    simp! only [true_and]
    refine ⟨"NoneType", false, false, rfl, by decide +kernel, by decide +kernel, ?_⟩
    simp! only [true_and]
    exact q
  | lst ds =>
    simp only [PL.startC, List.map_cons, List.map_nil, List.length_cons, List.length_nil, Nat.reduceAdd, Nat.reduceSub, List.replicate_succ, List.replicate_zero, List.cons_append, List.nil_append, List.append_nil]
    unfold b_frozen
    simp! only [true_and]
    refine ⟨"list", true, false, rfl, by decide +kernel, by decide +kernel, ?_⟩
    simp! only [true_and]
    exact key ds _ ok.1 ok.2 q
  | tup ds =>
    simp only [PL.startC, List.map_cons, List.map_nil, List.length_cons, List.length_nil, Nat.reduceAdd, Nat.reduceSub, List.replicate_succ, List.replicate_zero, List.cons_append, List.nil_append, List.append_nil]
    unfold b_frozen
    simp! only [true_and]
    refine ⟨"tuple", false, true, rfl, by decide +kernel, by decide +kernel, ?_⟩
    simp! only [true_and]
    exact key ds _ ok.1 ok.2 q
  | scr _ => exact ok.elim
  | dk _ => exact ok.elim
  | dt _ => exact ok.elim
  | obj _ _ => exact ok.elim
  | err _ _ => exact ok.elim
def sp_frozen_0 : PSp := fun _ _ => False
def sp_frozen_1 : PSp := spF 1
def sp_frozen_2 : PSp := spF 2
def sp_frozen_3 : PSp := spF 3
def sp_frozen_4 : PSp := spF 4
def sp_frozen_5 : PSp := spF 5
abbrev sp_frozen : PSp := sp_frozen_5
theorem len_frozen_1 : ∀ ds P, sp_frozen_1 ds P → ds.length = 1 := len_spF 1
theorem len_frozen_2 : ∀ ds P, sp_frozen_2 ds P → ds.length = 1 := len_spF 2
theorem len_frozen_3 : ∀ ds P, sp_frozen_3 ds P → ds.length = 1 := len_spF 3
theorem len_frozen_4 : ∀ ds P, sp_frozen_4 ds P → ds.length = 1 := len_spF 4
theorem len_frozen_5 : ∀ ds P, sp_frozen_5 ds P → ds.length = 1 := len_spF 5
theorem w_frozen_1 : ∀ ds Q, sp_frozen_1 ds Q → b_frozen sp_frozen_0 { nx := fun _ => Q .non, rt := Q } (startC ["value", "item"] ds) := w_spF 0 _ fun ds P ⟨d, _, h, _⟩ => h
theorem w_frozen_2 : ∀ ds Q, sp_frozen_2 ds Q → b_frozen sp_frozen_1 { nx := fun _ => Q .non, rt := Q } (startC ["value", "item"] ds) := w_spF 1 _ fun _ _ h => h
theorem w_frozen_3 : ∀ ds Q, sp_frozen_3 ds Q → b_frozen sp_frozen_2 { nx := fun _ => Q .non, rt := Q } (startC ["value", "item"] ds) := w_spF 2 _ fun _ _ h => h
theorem w_frozen_4 : ∀ ds Q, sp_frozen_4 ds Q → b_frozen sp_frozen_3 { nx := fun _ => Q .non, rt := Q } (startC ["value", "item"] ds) := w_spF 3 _ fun _ _ h => h
theorem w_frozen_5 : ∀ ds Q, sp_frozen_5 ds Q → b_frozen sp_frozen_4 { nx := fun _ => Q .non, rt := Q } (startC ["value", "item"] ds) := w_spF 4 _ fun _ _ h => h
/-! ### a dict whose keys are the whole numbers that were met -/
def setK (ks : List Nat) : D := .dk (ks.map fun k : Nat => ((Sum.inl (k : Int) : Key), D.bl true))
theorem look_set (ks : List Nat) (k : Nat) : (lookD (ks.map fun k : Nat => ((Sum.inl (k : Int) : Key), D.bl true)) (Sum.inl (k : Int))).isSome = decide (k ∈ ks) := by
  unfold lookD
  rw [Option.isSome_map]
  induction ks with
  | nil => simp
  | cons a ks ih =>
    rw [List.map_cons, List.find?_cons]
    by_cases e : a = k
    · subst e; simp
    · have : decide ((Sum.inl (a : Int) : Key) = Sum.inl (k : Int)) = false := decide_eq_false fun z => e (by have := Sum.inl.inj z; omega)
      simp only [this]
      rw [ih]
      by_cases q : k ∈ ks
      · rw [decide_eq_true q, decide_eq_true (List.mem_cons_of_mem _ q)]
      · rw [decide_eq_false q, decide_eq_false fun z => by rcases List.mem_cons.mp z with z | z; · exact e z.symm
                                                           · exact q z]
theorem inP_set {neg : Bool} {k : Nat} {ks : List Nat} {P : D → Prop} : inP neg (.int (k : Nat)) (setK ks) P = P (.bl (decide (k ∈ ks) != neg)) := by
  refine propext ⟨fun ⟨o, e, h⟩ => ?_, fun h => ⟨_, rfl, ?_⟩⟩
  · cases e
    rw [look_set] at h; exact h
  · rw [look_set]; exact h
theorem setP_set {k : Nat} {ks : List Nat} {P : D → Prop} (h : k ∉ ks) (hl : ks.length < 16777216) (q : P (setK (ks ++ [k]))) : setP (setK ks) (.int (k : Nat)) (.bl true) P := by
  have hz : sizeLine = 16777216 := PySem.sizeLine_eq
  refine ⟨_, rfl, by rw [List.length_map]; omega, ?_⟩
  have e : ((ks.map fun k : Nat => ((Sum.inl (k : Int) : Key), D.bl true)).any fun kv => decide (kv.1 = Sum.inl (k : Int))) = false := by
    rw [List.any_eq_false]
    intro x hx
    obtain ⟨a, ha, rfl⟩ := List.mem_map.mp hx
    simp only [decide_eq_true_eq]
    intro z
    have z := Sum.inl.inj z
    exact h (by have : a = k := by omega
                subst this; exact ha)
  unfold putD
  rw [e]
  unfold setK at q
  rw [List.map_append] at q
  exact q
/-! ### betting machines as data -/
def mvD (p : Nat × Nat) : D := .tup [.int (p.1 : Nat), .int (p.2 : Nat)]
def mvLD (p : Nat × Nat) : D := .lst [.int (p.1 : Nat), .int (p.2 : Nat)]
def ruD (r : BE.Rule) : D := .tup [.int (r.1 : Nat), .tup (r.2.map mvD)]
def ruLD (r : BE.Rule) : D := .lst [.int (r.1 : Nat), .lst (r.2.map mvLD)]
def rusD (R : List BE.Rule) : D := .tup (R.map ruD)
def betD (abc : Wd) (R : List BE.Rule) : D := .obj "Bettor" [("alphabet", TD abc), ("rules", rusD R), ("standings", .int (R.length : Nat))]
theorem frz_ruD (R : List BE.Rule) : frzD (rusD R) = rusD R := by
  show D.tup (frzL (R.map ruD)) = _
  rw [frzL_map, List.map_map]
  unfold rusD
  congr 1
  apply List.map_congr_left
  intro r _
  show D.tup [.int (r.1 : Nat), .tup (frzL (r.2.map mvD))] = _
  rw [frzL_map, List.map_map]; rfl
theorem frz_ruLD (R : List BE.Rule) : frzD (.lst (R.map ruLD)) = rusD R := by
  show D.tup (frzL (R.map ruLD)) = _
  rw [frzL_map, List.map_map]
  unfold rusD
  congr 1
  apply List.map_congr_left
  intro r _
  show D.tup [.int (r.1 : Nat), .tup (frzL (r.2.map mvLD))] = _
  rw [frzL_map, List.map_map]; rfl
theorem okF_mv {r : Nat} (hr : 2 ≤ r) (p : Nat × Nat) : okF r (mvD p) ∧ okF r (mvLD p) := by
  obtain ⟨r, rfl⟩ : ∃ q, r = q + 2 := ⟨r - 2, by omega⟩
  refine ⟨⟨by show 2 ≤ 100000; decide, fun d hd => ?_⟩, ⟨by show 2 ≤ 100000; decide, fun d hd => ?_⟩⟩ <;>
  · simp only [List.mem_cons, List.not_mem_nil, or_false] at hd
    rcases hd with rfl | rfl <;> trivial
theorem okF_ru {r : Nat} (hr : 4 ≤ r) (x : BE.Rule) (hl : x.2.length ≤ 1000) : okF r (ruD x) ∧ okF r (ruLD x) := by
  obtain ⟨r, rfl⟩ : ∃ q, r = q + 2 := ⟨r - 2, by omega⟩
  refine ⟨⟨by show 2 ≤ 100000; decide, fun d hd => ?_⟩, ⟨by show 2 ≤ 100000; decide, fun d hd => ?_⟩⟩ <;>
  · simp only [List.mem_cons, List.not_mem_nil, or_false] at hd
    rcases hd with rfl | rfl
    · trivial
    · refine ⟨by rw [List.length_map]; omega, fun d hd => ?_⟩
      obtain ⟨p, _, rfl⟩ := List.mem_map.mp hd
      have h := okF_mv (r := r) (by omega) p
      first | exact h.1 | exact h.2
theorem okF_rus (R : List BE.Rule) (hR : R.length ≤ 1000) (hl : ∀ x ∈ R, x.2.length ≤ 1000) : okF 5 (rusD R) ∧ okF 5 (.lst (R.map ruLD)) := by
  refine ⟨⟨by rw [List.length_map]; omega, fun d hd => ?_⟩, ⟨by rw [List.length_map]; omega, fun d hd => ?_⟩⟩ <;>
  · obtain ⟨p, hp, rfl⟩ := List.mem_map.mp hd
    have h := okF_ru (r := 4) (by decide) p (hl p hp)
    first | exact h.1 | exact h.2
def sp_check_moves : PSp := fun ds P => ∃ (abc : Wd) (R : List BE.Rule), ds = [TD abc, rusD R] ∧ abc.length ≤ 100 ∧ R.length ≤ 1000 ∧ BE.Good abc.length R ∧ P .non
theorem len_check_moves : ∀ ds P, sp_check_moves ds P → ds.length = 2 := by rintro _ _ ⟨_, _, rfl, _⟩; rfl
theorem w_check_moves : ∀ ds Q, sp_check_moves ds Q → b_check_moves { nx := fun _ => Q .non, rt := Q } (startC ["alphabet", "rules", "standing", "rule"] ds) := by
  rintro _ Q ⟨abc, R, rfl, ha, hR, g, q⟩
  have hp := g.pos
  have hz : sizeLine = 16777216 := PySem.sizeLine_eq
  simp only [PL.startC, List.map_cons, List.map_nil, List.length_cons, List.length_nil, Nat.reduceAdd, Nat.reduceSub, List.replicate_succ, List.replicate_zero, List.cons_append, List.nil_append, List.append_nil]
  unfold b_check_moves rusD TD
  simp! only [true_and]
  rw [if_neg (by omega)]
  refine for_en (W := fun i env => ∃ x y : C, env = [C.fz (.str (T abc)), C.fz (.tup (R.map ruD)), x, y]) ⟨.un, .un, rfl⟩ ?_ ?_
  · rintro k r env hk ⟨x, y, rfl⟩
    have hl := g.len r (List.mem_of_getElem? hk)
    unfold ruD
    simp! only [true_and]
    rw [T_len, hl]
    simp only [decide_true, Bool.not_true, bne_self_eq_false, ne_eq, not_true_eq_false, decide_false, Bool.false_eq_true, if_false]
    exact ⟨by omega, _, _, rfl⟩
  · rintro env ⟨x, y, rfl⟩
    exact q
def sp_is_good_bet : PSp := fun ds P => ∃ (r : BE.Rule) (m : Nat), ds = [ruD r, .int (m : Nat)] ∧ 1 ≤ r.1 ∧ (∀ p ∈ r.2, p.1 < m) ∧ (r.2.map (·.2)).sum ≤ r.1 ∧ P (.bl true)
theorem len_is_good_bet : ∀ ds P, sp_is_good_bet ds P → ds.length = 2 := by rintro _ _ ⟨_, _, rfl, _⟩; rfl
theorem sum_snoc {xs : List (Nat × Nat)} {k : Nat} {p : Nat × Nat} (h : xs[k]? = some p) : ((xs.take (k + 1)).map (·.2)).sum = ((xs.take k).map (·.2)).sum + p.2 := by
  rw [take_snoc h, List.map_append, List.sum_append]; simp
theorem w_is_good_bet : ∀ ds Q, sp_is_good_bet ds Q → b_is_good_bet sp_is_whole { nx := fun _ => Q .non, rt := Q } (startC ["rule", "standings", "total", "moves", "together", "following", "stake"] ds) := by
  rintro _ Q ⟨r, m, rfl, h1, hn, hs, q⟩
  simp only [PL.startC, List.map_cons, List.map_nil, List.length_cons, List.length_nil, Nat.reduceAdd, Nat.reduceSub, List.replicate_succ, List.replicate_zero, List.cons_append, List.nil_append, List.append_nil]
  unfold b_is_good_bet ruD
  simp! only [true_and]
  refine jn (fun e => e = [C.fz (.tup [.int (r.1 : Nat), .tup (r.2.map mvD)]), C.fz (.int (m : Nat)), C.fz (.int (r.1 : Nat)), C.fz (.tup (r.2.map mvD)), .un, .un, .un]) ?_ ?_
  · simp! only [sp_is_whole_eq]
    rw [if_neg (by omega)]
    trivial
  rintro _ rfl
  simp! only [true_and]
  refine for_m (W := fun i env => ∃ x y : C, env = [C.fz (.tup [.int (r.1 : Nat), .tup (r.2.map mvD)]), C.fz (.int (m : Nat)), C.fz (.int (r.1 : Nat)), C.fz (.tup (r.2.map mvD)), C.fz (.int ((((r.2.take i).map (·.2)).sum : Nat) : Int)), x, y]) ⟨.un, .un, rfl⟩ ?_ ?_
  · rintro k p env hk ⟨x, y, rfl⟩
    have hp := hn p (List.mem_of_getElem? hk)
    unfold mvD
    simp! only [sp_is_whole_eq]
    rw [if_neg (by omega), if_neg (by omega)]
    rw [sum_snoc hk]
    exact ⟨_, _, rfl⟩
  · rintro env ⟨x, y, rfl⟩
    rw [List.take_length]
    simp! only [true_and]
    rw [decide_eq_true (by omega)]
    exact q
def sp_check_bets : PSp := fun ds P => ∃ (size : Nat) (R : List BE.Rule), ds = [rusD R] ∧ R.length ≤ 1000 ∧ BE.Good size R ∧ P .non
theorem len_check_bets : ∀ ds P, sp_check_bets ds P → ds.length = 1 := by rintro _ _ ⟨_, _, rfl, _⟩; rfl
theorem w_check_bets : ∀ ds Q, sp_check_bets ds Q → b_check_bets sp_is_good_bet { nx := fun _ => Q .non, rt := Q } (startC ["rules", "standing", "rule"] ds) := by
  rintro _ Q ⟨size, R, rfl, hR, g, q⟩
  simp only [PL.startC, List.map_cons, List.map_nil, List.length_cons, List.length_nil, Nat.reduceAdd, Nat.reduceSub, List.replicate_succ, List.replicate_zero, List.cons_append, List.nil_append, List.append_nil]
  unfold b_check_bets rusD
  simp! only [true_and]
  refine for_en (W := fun i env => ∃ x y : C, env = [C.fz (.tup (R.map ruD)), x, y]) ⟨.un, .un, rfl⟩ ?_ ?_
  · rintro k r env hk ⟨x, y, rfl⟩
    have hm := List.mem_of_getElem? hk
    simp! only [true_and]
    refine ⟨r, R.length, ?_, g.t1 r hm, g.nxt r hm, g.sum r hm, ?_⟩
    · simp
    · simp! only [true_and]
      exact ⟨_, _, rfl⟩
  · rintro env ⟨x, y, rfl⟩
    exact q
def sp_Bettor__init__ : PSp := fun ds P => ∃ (abc : Wd) (R : List BE.Rule) (d : D), ds = [TD abc, d] ∧ AB abc ∧ (d = rusD R ∨ d = .lst (R.map ruLD)) ∧ R.length ≤ 1000 ∧ BE.Good abc.length R ∧ P (betD abc R)
theorem len_Bettor__init__ : ∀ ds P, sp_Bettor__init__ ds P → ds.length = 2 := by rintro _ _ ⟨_, _, _, rfl, _⟩; rfl
theorem putFD_ne {f g : Str} {d x : D} {r : List (Str × D)} (h : decide (g = f) = false) : putFD f d ((g, x) :: r) = (g, x) :: putFD f d r := by
  show (if g = f then _ else _) = _
  rw [if_neg (of_decide_eq_false h)]
theorem w_Bettor__init__ : ∀ x ds Q, sp_Bettor__init__ ds Q → b_Bettor__init__ sp_check_alphabet sp_frozen sp_check_moves sp_check_bets { nx := fun e => ∃ fs, e[0]? = some (.ow (slfD x "Bettor" fs)) ∧ Q (.obj "Bettor" fs), rt := fun _ => False } (startN ["self", "alphabet", "rules", "kept"] x "Bettor" ds) := by
  rintro l _ Q ⟨abc, R, d, rfl, ab, hd, hR, g, q⟩
  have hl : ∀ x ∈ R, x.2.length ≤ 1000 := fun x hx => by have := g.len x hx; have := ab.l6; omega
  unfold b_Bettor__init__ startN
  simp only [PL.startC, List.map_cons, List.map_nil, List.length_cons, List.length_nil, Nat.reduceAdd, Nat.reduceSub, List.replicate_succ, List.replicate_zero, List.cons_append, List.nil_append, List.append_nil]
  simp! only [true_and]
  refine ⟨abc, rfl, ab, ?_⟩
  obtain ⟨o1, o2⟩ := okF_rus R hR hl
  refine ⟨d, rfl, ?_, ?_⟩
  · rcases hd with rfl | rfl
    · exact o1
    · exact o2
  have e : frzD d = rusD R := by
    rcases hd with rfl | rfl
    · exact frz_ruD R
    · exact frz_ruLD R
  rw [e]
  refine ⟨abc, R, rfl, by have := ab.l6; omega, hR, g, ?_⟩
  refine ⟨abc.length, R, rfl, hR, g, ?_⟩
  have p1 : ∀ (d x : D) (r : List (Str × D)), putFD "rules" d ((("alphabet" : Str), x) :: r) = (("alphabet" : Str), x) :: putFD "rules" d r := fun d x r => putFD_ne (by decide +kernel)
  have p2 : ∀ (d x : D) (r : List (Str × D)), putFD "standings" d ((("alphabet" : Str), x) :: r) = (("alphabet" : Str), x) :: putFD "standings" d r := fun d x r => putFD_ne (by decide +kernel)
  have p3 : ∀ (d x : D) (r : List (Str × D)), putFD "standings" d ((("rules" : Str), x) :: r) = (("rules" : Str), x) :: putFD "standings" d r := fun d x r => putFD_ne (by decide +kernel)
  have p0 : ∀ (f : Str) (d : D), putFD f d [] = [(f, d)] := fun f d => rfl
  have q : Q (betD abc R) := q
  unfold betD rusD at q
  unfold rusD
  simp only [p0, p1, p2, p3]
  refine ⟨by decide +kernel, by decide, by decide +kernel, by show 1 < 1000; decide, ?_⟩
  simp! only [true_and]
  refine ⟨by decide +kernel, by show 2 < 1000; decide, _, rfl, ?_⟩
  exact q
end K65
end

section
set_option linter.all false
set_option maxRecDepth 100000
set_option maxHeartbeats 1000000
set_option autoImplicit false
namespace K65
open PySem PySem.Spec PyProof.Rows L2 PL
local macro_rules
  | `(tactic| simp! only [$xs,*]) => `(tactic| (try simp only [PL.dflS, PL.pickLD, PL.lcmP_i, PL.isoP, PL.pMeth, PL.pOEq, PL.pLcntB, PL.reprTP_t, PL.strIP_i, PL.pChain, PL.allP_lst, PL.anyP_lst, PL.rg3_i, PL.piR3, PL.upP_s, PL.pUp, PL.gcdP_i, PL.xBi, PL.xJoin, PL.xiE, PL.xLc_eq, PL.pRaise1, PL.pRaise2, PL.xPure, PL.xaPure, PL.xaNil, PL.xaCons, PL.xCall, PL.xCallK, PL.nrX, PL.xLst, PL.xTup, PL.xBin, PL.pDropX, PL.pRetX, PL.pSetX, PL.pTry, PL.pIsEs, PL.pLidx, PL.ltTP_t, PL.pRev, PL.revP_l, PL.revP_s, PL.pMtS, PL.mtSP_s, PL.findF_1, PL.findF_2, PL.startsF_1, PL.sidxF_1, PL.scntF_1, PL.pSeq, PL.pNext, PL.pSet, PL.pSetO, PL.pRet, PL.pRetN, PL.pIfS, PL.pFor, PL.pWhile, PL.pBrk, PL.pCnt, PL.pDrop, PL.pApp, PL.pAsg, PL.pgN, PL.pFrz, PL.frz, PL.pC, PL.pN, PL.pNo, PL.pBin, PL.negP, PL.pB, PL.pAnd, PL.pOr, PL.pNot, PL.pAndV, PL.pOrV, PL.pNotV, PL.pIf, PL.paNil, PL.paCons, PL.pLst, PL.pTup, PL.pIx, PL.pSl, PL.poNone, PL.poSome, PL.pCall, PL.pCallK, PL.piR1, PL.piR2, PL.piE, PL.pBits, PL.isiP_eq, PL.pLr1, PL.pJoinR, PL.pJoin, PL.pLc_eq, PL.pYes, PL.wipeC, PL.pBor, PL.pBorT, PL.frzs, PL.pSetI, PL.pChainT, PL.isNP, PL.addP_i, PL.addP_s, PL.addP_t, PL.addP_l, PL.catP_l, PL.subP_i, PL.mulP_i, PL.mulP_l, PL.repP_l, PL.mulP_s, PL.fdivP_i, PL.modP_i, PL.powP_i, PL.ltP_i, PL.ltP_s, PL.gtP_i, PL.gtP_s, PL.leP_i, PL.leP_s, PL.geP_i, PL.geP_s, PL.eqP_int, PL.eqP_str, PL.eqP_bl, PL.eqP_lst_lst, PL.eqP_tup_tup, PL.eqP_lst_tup, PL.eqP_tup_lst, PL.neP_int, PL.neP_str, PL.neP_bl, PL.neP_lst_lst, PL.neP_tup_tup, PL.neP_lst_tup, PL.neP_tup_lst, PL.asB_b, PL.asS_s, PL.lenP_lst, PL.itP_lst, PL.ixP_lst, PL.listP_lst_, PL.tupleP_lst_, PL.sumP_lst_, PL.maxP_lst_, PL.minP_lst_, PL.lenP_tup, PL.itP_tup, PL.ixP_tup, PL.listP_tup_, PL.tupleP_tup_, PL.sumP_tup_, PL.maxP_tup_, PL.minP_tup_, PL.lenP_scr, PL.itP_scr, PL.ixP_scr, PL.listP_scr_, PL.tupleP_scr_, PL.sumP_scr_, PL.maxP_scr_, PL.minP_scr_, PL.lenP_str, PL.lenP_dk, PL.itP_str, PL.ixP_str, PL.intP_i, PL.intP_b, PL.rg1_i, PL.rg2_i, PL.lr1_i, PL.lr2_i, PL.maxP_2, PL.maxP_3, PL.minP_2, PL.minP_3, PL.slP_lst, PL.slP_tup, PL.slP_str, PL.slPL_lst, PL.pgTup_t, PL.pgTup_l, PL.pgsCons_c, PL.pgsNil_n, PL.joinRP_l, PL.reprP_i, PL.reprP_s, PL.setP_i, PL.ixE_0, PL.ixE_1, PL.ixE_2, PL.ixE_3, PL.ixE_4, PL.ixE_5, PL.ixE_6, PL.ixE_7, PL.ixE_8, PL.isqrtP_i, PL.reprLP_l, PL.pMkE, PL.pErF, PL.pIsE, PL.pRevS, PL.pRetO, PL.pRetON, PL.pNever, PL.pExt, PL.listDP_d, PL.pFld, PL.pFldS, PL.setF, PL.slfD, PL.piEn, PL.itEn, PL.isi2P, PL.isBP, PL.pDk, PL.pDt, PL.divmodP_i, PL.pGet, PL.isi_non_int, PL.isi_non_bool, PL.isi_non_str, PL.isi_non_list, PL.isi_non_tuple, PL.isi_bl_int, PL.isi_bl_bool, PL.isi_bl_str, PL.isi_bl_list, PL.isi_bl_tuple, PL.isi_int_int, PL.isi_int_bool, PL.isi_int_str, PL.isi_int_list, PL.isi_int_tuple, PL.isi_str_int, PL.isi_str_bool, PL.isi_str_str, PL.isi_str_list, PL.isi_str_tuple, PL.isi_tup_int, PL.isi_tup_bool, PL.isi_tup_str, PL.isi_tup_list, PL.isi_tup_tuple, PL.isi_lst_int, PL.isi_lst_bool, PL.isi_lst_str, PL.isi_lst_list, PL.isi_lst_tuple, PL.pickL, List.filterMap_cons, List.filterMap_nil, true_and, decide_true, decide_false, eq_self, Int.zero_add, decide_eq_true_eq, PL.rowE, PL.rowS, PL.startC, List.length_map, List.map_cons, List.map_nil, List.length_cons, List.length_nil, List.append_nil, List.nil_append, List.cons_append, List.replicate_succ, List.replicate_zero, List.set_cons_zero, List.set_cons_succ, List.getElem?_cons_zero, List.getElem?_cons_succ, Nat.reduceAdd, Nat.reduceSub, if_true, Bool.not_true, Bool.not_false, Bool.false_eq_true, if_false, $xs,*]))
/-! ### fractions -/
/-- a bound that nobody works out -/
def Sm (n : Nat) : Prop := n < 2 ^ 8900
theorem Sm.le {a b : Nat} (h : a ≤ b) (k : Sm b) : Sm a := Nat.lt_of_le_of_lt h k
theorem Sm.of {a k : Nat} (h : a ≤ 2 ^ k) (hk : k < 8900) : Sm a := Nat.lt_of_le_of_lt h (Nat.pow_lt_pow_right (by decide) hk)
def frD (p : Nat × Nat) : D := .tup [.int (p.1 : Nat), .int (p.2 : Nat)]
def sp_ratio : PSp := fun ds P => ∃ a b : Nat, ds = [.int (a : Nat), .int (b : Nat)] ∧ 0 < b ∧ Sm b ∧ Sm a ∧ P (frD (BE.red a b))
theorem len_ratio : ∀ ds P, sp_ratio ds P → ds.length = 2 := by rintro _ _ ⟨_, _, rfl, _⟩; rfl
theorem cdiv_nat {a b : Nat} (hb : 0 < b) (h : Sm b) : CDivW (a : Int) (b : Int) := cdivw 8900 (by omega) (by unfold Sm at h; exact_mod_cast h) (by decide)
theorem w_ratio : ∀ ds Q, sp_ratio ds Q → b_ratio { nx := fun _ => Q .non, rt := Q } (startC ["top", "bottom", "common"] ds) := by
  rintro _ Q ⟨a, b, rfl, hb, h1, h2, q⟩
  have g0 : 0 < Nat.gcd a b := Nat.gcd_pos_of_pos_right a hb
  have g1 : Sm (Nat.gcd a b) := Sm.le (Nat.le_of_dvd hb (Nat.gcd_dvd_right a b)) h1
  simp only [PL.startC, List.map_cons, List.map_nil, List.length_cons, List.length_nil, Nat.reduceAdd, Nat.reduceSub, List.replicate_succ, List.replicate_zero, List.cons_append, List.nil_append, List.append_nil]
  unfold b_ratio
  simp! only [true_and]
  rw [Int.natAbs_natCast, Int.natAbs_natCast]
  refine ⟨cdiv_nat g0 g1, cdiv_nat g0 g1, by rw [PySem.sizeLine_eq]; decide, ?_⟩
  exact q
def sp_law_ratio : PSp := fun ds P => ∃ a b : Nat, ds = [.int (a : Nat), .int (b : Nat)] ∧ 0 < b ∧ Sm b ∧ Sm a ∧ P (frD (BE.red a b))
theorem len_law_ratio : ∀ ds P, sp_law_ratio ds P → ds.length = 2 := by rintro _ _ ⟨_, _, rfl, _⟩; rfl
theorem w_law_ratio : ∀ ds Q, sp_law_ratio ds Q → b_law_ratio { nx := fun _ => Q .non, rt := Q } (startC ["top", "bottom", "one", "two", "turn", "rest"] ds) := by
  rintro _ Q ⟨a, b, rfl, hb, h1, h2, q⟩
  have g0 : 0 < Nat.gcd a b := Nat.gcd_pos_of_pos_right a hb
  have g1 : Sm (Nat.gcd a b) := Sm.le (Nat.le_of_dvd hb (Nat.gcd_dvd_right a b)) h1
  have fin : ∀ (i x : Nat), BE.Eu a b i x 0 → CDivW (a : Int) (x : Int) ∧ CDivW (b : Int) (x : Int) ∧ 2 ≤ sizeLine ∧ Q (D.tup [D.int ((a : Int) / (x : Int)), D.int ((b : Int) / (x : Int))]) := by
    intro i x h
    have e := BE.eu_gcd h
    subst e
    refine ⟨cdiv_nat g0 g1, cdiv_nat g0 g1, by rw [PySem.sizeLine_eq]; decide, ?_⟩
    exact q
  simp only [PL.startC, List.map_cons, List.map_nil, List.length_cons, List.length_nil, Nat.reduceAdd, Nat.reduceSub, List.replicate_succ, List.replicate_zero, List.cons_append, List.nil_append, List.append_nil]
  unfold b_law_ratio
  simp! only [true_and]
  refine ⟨⟨by decide, by decide⟩, ?_⟩
  refine for_r (W := fun i env => ∃ (x y : Nat) (t r : C), BE.Eu a b i x y ∧ Sm x ∧ Sm y ∧ env = [C.fz (.int (a : Nat)), C.fz (.int (b : Nat)), C.fz (.int (x : Nat)), C.fz (.int (y : Nat)), t, r]) ⟨a, b, .un, .un, ⟨rfl, .inl ⟨rfl, rfl, rfl⟩⟩, h2, h1, rfl⟩ ?_ ?_
  · rintro i env hi ⟨x, y, t, r, eu, hx, hy, rfl⟩
    simp! only [true_and]
    by_cases z : y = 0
    · subst z
      rw [if_pos (by omega)]
      exact fin i x eu
    · rw [if_neg (by omega)]
      refine ⟨by omega, ?_⟩
      exact ⟨y, x % y, _, _, BE.eu_step eu (by omega), hy, Sm.le (Nat.mod_le x y) hx, rfl⟩
  · rintro env ⟨x, y, t, r, eu, hx, hy, rfl⟩
    have hp : a * b < 2 ^ (20000 - 1) := by
      have h := Nat.mul_lt_mul'' h2 h1
      rw [← Nat.pow_add] at h
      exact Nat.lt_trans h (Nat.pow_lt_pow_right (by decide) (by decide))
    have e : y = 0 := BE.eu_end eu (by decide) hp
    subst e
    simp! only [true_and]
    exact fin _ x eu
def sp_law_fraction : PSp := fun ds P => ∃ p : Nat × Nat, ds = [frD p] ∧ P (.bl true)
theorem len_law_fraction : ∀ ds P, sp_law_fraction ds P → ds.length = 1 := by rintro _ _ ⟨_, rfl, _⟩; rfl
theorem w_law_fraction : ∀ ds Q, sp_law_fraction ds Q → b_law_fraction sp_law_whole { nx := fun _ => Q .non, rt := Q } (startC ["value"] ds) := by
  rintro _ Q ⟨p, rfl, h⟩
  simp only [PL.startC, List.map_cons, List.map_nil, List.length_cons, List.length_nil, Nat.reduceAdd, Nat.reduceSub, List.replicate_succ, List.replicate_zero, List.cons_append, List.nil_append, List.append_nil]
  unfold b_law_fraction frD
  simp! only [sp_law_whole_eq]
  exact h
def sp_law_same : PSp := fun ds P => ∃ p q : Nat × Nat, ds = [frD p, frD q] ∧ P (.bl (decide (p = q)))
theorem len_law_same : ∀ ds P, sp_law_same ds P → ds.length = 2 := by rintro _ _ ⟨_, _, rfl, _⟩; rfl
theorem fr_cmp (p : Nat × Nat) : cmpOk (frD p) = true := rfl
theorem fr_eqv (p q : Nat × Nat) : PyData.eqv (toPy (frD p)) (toPy (frD q)) = decide (p = q) := by
  show PyData.eqvAll [.int (p.1 : Nat), .int (p.2 : Nat)] [.int (q.1 : Nat), .int (q.2 : Nat)] = _
  simp only [PyData.eqvAll, PyData.eqv, Bool.and_true]
  obtain ⟨a, b⟩ := p
  obtain ⟨c, d⟩ := q
  by_cases h : a = c <;> by_cases k : b = d <;> simp [h, k] <;> omega
theorem w_law_same : ∀ ds Q, sp_law_same ds Q → b_law_same sp_law_fraction { nx := fun _ => Q .non, rt := Q } (startC ["value", "due"] ds) := by
  rintro _ Q ⟨p, q, rfl, h⟩
  simp only [PL.startC, List.map_cons, List.map_nil, List.length_cons, List.length_nil, Nat.reduceAdd, Nat.reduceSub, List.replicate_succ, List.replicate_zero, List.cons_append, List.nil_append, List.append_nil]
  unfold b_law_same
  simp! only [true_and]
  refine ⟨p, rfl, ?_⟩
  simp! only [true_and]
  unfold frD
  simp! only [true_and]
  refine ⟨fr_cmp p, fr_cmp q, ?_⟩
  have e := fr_eqv p q
  unfold frD at e
  rw [e]
  exact h
theorem fb_rules {P : D → Prop} {abc : Wd} {R : List BE.Rule} : fldP objTab "rules" P (betD abc R) = P (rusD R) := fldP_eq (by decide +kernel) rfl
theorem fb_alphabet {P : D → Prop} {abc : Wd} {R : List BE.Rule} : fldP objTab "alphabet" P (betD abc R) = P (TD abc) := fldP_eq (by decide +kernel) rfl
def sp_common_total : PSp := fun ds P => ∃ (abc : Wd) (R : List BE.Rule), ds = [betD abc R] ∧ BE.Few R ∧ ∀ C : Nat, BE.Com R C → P (.int (C : Nat))
theorem len_common_total : ∀ ds P, sp_common_total ds P → ds.length = 1 := by rintro _ _ ⟨_, _, rfl, _⟩; rfl
theorem w_common_total : ∀ ds Q, sp_common_total ds Q → b_common_total { nx := fun _ => Q .non, rt := Q } (startC ["bettor", "common", "rule"] ds) := by
  rintro _ Q ⟨abc, R, rfl, f, q⟩
  simp only [PL.startC, List.map_cons, List.map_nil, List.length_cons, List.length_nil, Nat.reduceAdd, Nat.reduceSub, List.replicate_succ, List.replicate_zero, List.cons_append, List.nil_append, List.append_nil]
  unfold b_common_total
  simp! only [fb_rules]
  unfold rusD
  simp! only [true_and]
  refine for_m (W := fun i env => ∃ x : C, env = [C.fz (betD abc R), C.fz (.int ((BE.lcmL (R.take i) : Nat) : Int)), x]) ⟨.un, rfl⟩ ?_ ?_
  · rintro k r env hk ⟨x, rfl⟩
    have h1 := BE.lcm_take f k
    have h2 : r.1 ≤ 2 ^ 23 := by
      obtain ⟨ts, t1, t2, t3⟩ := f.ex
      exact (t2 _ (t3 r (List.mem_of_getElem? hk))).2
    unfold ruD
    simp! only [true_and]
    refine ⟨?_, ?_, ?_⟩
    · rw [Int.natAbs_natCast]; exact Nat.lt_of_le_of_lt h1.2 (Nat.pow_lt_pow_right (by decide) (by decide))
    · rw [Int.natAbs_natCast]; exact Nat.lt_of_le_of_lt h2 (Nat.pow_lt_pow_right (by decide) (by decide))
    · rw [Int.natAbs_natCast, Int.natAbs_natCast]
      have : BE.lcmL (R.take (k + 1)) = Nat.lcm (BE.lcmL (R.take k)) r.1 := by
        unfold BE.lcmL
        rw [take_snoc hk, List.foldl_append]; rfl
      rw [this]
      exact ⟨_, rfl⟩
  · rintro env ⟨x, rfl⟩
    rw [List.take_length]
    simp! only [true_and]
    exact q _ (BE.lcm_com f)
/-- a sum of products on its way -/
theorem mvsum_snoc {xs : List (Nat × Nat)} {k : Nat} {p : Nat × Nat} (h : xs[k]? = some p) (a : Nat → Nat) : ((xs.take (k + 1)).map fun p => p.2 * a p.1).sum = ((xs.take k).map fun p => p.2 * a p.1).sum + p.2 * a p.1 := by
  rw [take_snoc h, List.map_append, List.sum_append]; simp
theorem rng_map {k : Nat} (a : Nat → Nat) : (List.range (k + 1)).map (fun s => D.int ((a s : Nat) : Int)) = (List.range k).map (fun s => D.int ((a s : Nat) : Int)) ++ [D.int ((a k : Nat) : Int)] := by
  rw [List.range_succ, List.map_append]; rfl
def topsD (R : List BE.Rule) (a : Nat → Nat) : D := .lst ((List.range R.length).map fun s => D.int ((a s : Nat) : Int))
theorem cmP {a b : Nat} (ha : a ≤ 2 ^ 9000) (hb : b ≤ 2 ^ 9000) : CMulX (a : Int) (b : Int) :=
  mulx_ok (a := 9001) (b := 9001) (by simpa using Nat.lt_of_le_of_lt ha (Nat.pow_lt_pow_right (by decide) (by decide))) (by simpa using Nat.lt_of_le_of_lt hb (Nat.pow_lt_pow_right (by decide) (by decide))) (by decide)
theorem nm (a b : Nat) : (a : Int) * (b : Int) = ((a * b : Nat) : Int) := (Int.natCast_mul a b).symm
theorem p2 {a k : Nat} (h : a ≤ 2 ^ k) (hk : k ≤ 9000) : a ≤ 2 ^ 9000 := Nat.le_trans h (Nat.pow_le_pow_right (by decide) hk)
def sp_one_letter_more : PSp := fun ds P => ∃ (abc : Wd) (R : List BE.Rule) (C L : Nat), ds = [betD abc R, .int (C : Nat), topsD R (BE.A R C L)] ∧ R.length ≤ 1000 ∧ BE.Good abc.length R ∧ BE.Few R ∧ BE.Com R C ∧ L + 1 ≤ 20 ∧ P (topsD R (BE.A R C (L + 1)))
theorem len_one_letter_more : ∀ ds P, sp_one_letter_more ds P → ds.length = 3 := by rintro _ _ ⟨_, _, _, _, rfl, _⟩; rfl
theorem w_one_letter_more : ∀ ds Q, sp_one_letter_more ds Q → b_one_letter_more { nx := fun _ => Q .non, rt := Q } (startC ["bettor", "common", "tops", "grown", "total", "moves", "top", "following", "stake"] ds) := by
  rintro _ Q ⟨abc, R, C', L, rfl, hR, g, f, c, hL, q⟩
  have hz : sizeLine = 16777216 := PySem.sizeLine_eq
  simp only [PL.startC, List.map_cons, List.map_nil, List.length_cons, List.length_nil, Nat.reduceAdd, Nat.reduceSub, List.replicate_succ, List.replicate_zero, List.cons_append, List.nil_append, List.append_nil]
  unfold b_one_letter_more topsD
  simp! only [fb_rules]
  unfold rusD
  simp! only [true_and]
  refine ⟨by decide, ?_⟩
  refine for_m (W := fun i env => ∃ x y z u v : C, env = [C.fz (betD abc R), C.fz (.int (C' : Nat)), C.fz (.lst ((List.range R.length).map fun s => D.int ((BE.A R C' L s : Nat) : Int))), C.ow (.lst ((List.range i).map fun s => D.int ((BE.A R C' (L + 1) s : Nat) : Int))), x, y, z, u, v]) ⟨.un, .un, .un, .un, .un, rfl⟩ ?_ ?_
  · rintro k r env hk ⟨x, y, z, u, v, rfl⟩
    have hm := List.mem_of_getElem? hk
    have hkl := (List.getElem?_eq_some_iff.mp hk).1
    have ht := g.t1 r hm
    have tb : r.1 ≤ 2 ^ 23 := by
      obtain ⟨ts, t1, t2, t3⟩ := f.ex
      exact (t2 _ (t3 r hm)).2
    have hA : ∀ s, s < R.length → BE.A R C' L s ≤ 2 ^ 3680 := fun s hs => Nat.le_trans (BE.A_le g c.dv L s hs) (c.pw (by omega)).1
    have hp : ∀ j, ((r.2.take j).map fun p => p.2 * BE.A R C' L p.1).sum ≤ 2 ^ 3703 := fun j => by
      have h1 : ((r.2.take j).map fun p => p.2 * BE.A R C' L p.1).sum ≤ ((r.2.take j).map fun p => p.2 * 2 ^ 3680).sum := BE.sum_le fun p hp => Nat.mul_le_mul_left _ (hA p.1 (g.nxt r hm p (List.mem_of_mem_take hp)))
      have h2 := BE.sum_mul (fun p : Nat × Nat => p.2) (2 ^ 3680) (r.2.take j)
      have h3 : ((r.2.take j).map fun p => p.2).sum ≤ 2 ^ 23 := by
        refine Nat.le_trans ?_ (Nat.le_trans (g.sum r hm) tb)
        conv => rhs; rw [← List.take_append_drop j r.2, List.map_append, List.sum_append]
        exact Nat.le_add_right _ _
      rw [← h2] at h1
      refine Nat.le_trans h1 ?_
      rw [show (3703 : Nat) = 23 + 3680 from rfl, Nat.pow_add]
      exact Nat.mul_le_mul_right _ h3
    unfold ruD
    simp! only [true_and]
    refine for_m (W := fun j env => ∃ u v : C, env = [C.fz (betD abc R), C.fz (.int (C' : Nat)), C.fz (.lst ((List.range R.length).map fun s => D.int ((BE.A R C' L s : Nat) : Int))), C.ow (.lst ((List.range k).map fun s => D.int ((BE.A R C' (L + 1) s : Nat) : Int))), C.fz (.int (r.1 : Nat)), C.fz (.tup (r.2.map mvD)), C.fz (.int ((((r.2.take j).map fun p => p.2 * BE.A R C' L p.1).sum : Nat) : Int)), u, v]) ⟨_, _, rfl⟩ ?_ ?_
    · rintro j p env hj ⟨u, v, rfl⟩
      have hpm := List.mem_of_getElem? hj
      have hn := g.nxt r hm p hpm
      have hst : p.2 ≤ 2 ^ 23 := by
        have : p.2 ≤ (r.2.map (·.2)).sum := BE.get_le_sum (j := j) (by rw [List.getElem?_map, hj]; rfl)
        have := g.sum r hm
        omega
      unfold mvD
      simp! only [true_and]
      refine ⟨D.int ((BE.A R C' L p.1 : Nat) : Int), atI_nat (by rw [List.getElem?_map, List.getElem?_range hn]; rfl), ?_⟩
      simp! only [true_and]
      refine ⟨cmP (p2 hst (by decide)) (p2 (hA p.1 hn) (by decide)), ?_⟩
      rw [nm, mvsum_snoc hj (BE.A R C' L)]
      exact ⟨_, _, rfl⟩
    · rintro env ⟨u, v, rfl⟩
      rw [List.take_length]
      simp! only [true_and]
      have hdv : C' / r.1 ≤ 2 ^ 184 := Nat.le_trans (Nat.div_le_self _ _) c.le
      have hps := hp r.2.length
      rw [List.take_length] at hps
      refine ⟨cdivw 24 (by omega) (by omega) (by decide), ?_⟩
      rw [show ((C' : Int) / (r.1 : Int)) = ((C' / r.1 : Nat) : Int) from rfl]
      refine ⟨cmP (p2 hps (by decide)) (p2 hdv (by decide)), by rw [List.length_range]; omega, ?_⟩
      have e : (r.2.map fun p => p.2 * BE.A R C' L p.1).sum * (C' / r.1) = BE.A R C' (L + 1) k := by
        show _ = ((BE.mv R k).map fun p => p.2 * BE.A R C' L p.1).sum * (C' / BE.tt R k)
        rw [BE.mv_at hk, BE.tt_at hk]
      rw [nm, e, rng_map]
      exact ⟨_, _, _, _, _, rfl⟩
  · rintro env ⟨x, y, z, u, v, rfl⟩
    simp! only [true_and]
    exact q
def sp_length_chance : PSp := fun ds P => ∃ (abc : Wd) (R : List BE.Rule) (L s : Nat), ds = [betD abc R, .int (L : Nat), .int (s : Nat)] ∧ R.length ≤ 1000 ∧ s < R.length ∧ BE.Good abc.length R ∧ BE.Few R ∧ L ≤ 20 ∧ ∀ C : Nat, BE.Com R C → P (frD (BE.red (BE.A R C L s) (C ^ L)))
theorem len_length_chance : ∀ ds P, sp_length_chance ds P → ds.length = 3 := by rintro _ _ ⟨_, _, _, _, rfl, _⟩; rfl
theorem w_length_chance : ∀ ds Q, sp_length_chance ds Q → b_length_chance sp_common_total sp_one_letter_more sp_ratio { nx := fun _ => Q .non, rt := Q } (startC ["bettor", "length", "start", "common", "tops", "bottom", "_"] ds) := by
  rintro _ Q ⟨abc, R, L, s, rfl, hR, hs, g, f, hL, q⟩
  have hz : sizeLine = 16777216 := PySem.sizeLine_eq
  simp only [PL.startC, List.map_cons, List.map_nil, List.length_cons, List.length_nil, Nat.reduceAdd, Nat.reduceSub, List.replicate_succ, List.replicate_zero, List.cons_append, List.nil_append, List.append_nil]
  unfold b_length_chance
  simp! only [true_and]
  refine ⟨abc, R, rfl, f, fun C' c => ?_⟩
  simp! only [fb_rules]
  unfold rusD
  simp! only [true_and]
  refine lc_m (W := fun k acc => acc = (List.range k).map fun s => D.int ((BE.A R C' 0 s : Nat) : Int)) rfl ?_ ?_
  · rintro k r acc hk rfl
    have hkl := (List.getElem?_eq_some_iff.mp hk).1
    simp! only [true_and]
    refine ⟨by rw [List.length_range]; omega, ?_⟩
    rw [rng_map]; rfl
  rintro acc rfl
  simp! only [true_and]
  refine ⟨⟨by omega, by omega⟩, ?_⟩
  refine for_r (W := fun i env => ∃ x : C, env = [C.fz (betD abc R), C.fz (.int (L : Nat)), C.fz (.int (s : Nat)), C.fz (.int (C' : Nat)), C.fz (topsD R (BE.A R C' i)), C.fz (.int ((C' ^ i : Nat) : Int)), x]) ⟨.un, rfl⟩ ?_ ?_
  · rintro k env hk ⟨x, rfl⟩
    have hk : k < L := hk
    simp! only [true_and]
    refine ⟨abc, R, C', k, rfl, hR, g, f, c, by omega, ?_⟩
    refine ⟨cmP (p2 (c.pw (L := k) (by omega)).1 (by decide)) (p2 c.le (by decide)), ?_⟩
    rw [nm, ← Nat.pow_succ]
    exact ⟨_, rfl⟩
  · rintro env ⟨x, rfl⟩
    unfold topsD
    simp! only [true_and]
    refine ⟨D.int ((BE.A R C' L s : Nat) : Int), atI_nat (by rw [List.getElem?_map, List.getElem?_range hs]; rfl), ?_⟩
    refine ⟨_, _, rfl, (c.pw hL).2, Sm.of (c.pw hL).1 (by decide), Sm.of (Nat.le_trans (BE.A_le g c.dv L s hs) (c.pw hL).1) (by decide), q C' c⟩
end K65
end

section
set_option linter.all false
set_option maxRecDepth 100000
set_option maxHeartbeats 1000000
set_option autoImplicit false
namespace K65
open PySem PySem.Spec PyProof.Rows L2 PL
local macro_rules
  | `(tactic| simp! only [$xs,*]) => `(tactic| (try simp only [PL.dflS, PL.pickLD, PL.lcmP_i, PL.isoP, PL.pMeth, PL.pOEq, PL.pLcntB, PL.reprTP_t, PL.strIP_i, PL.pChain, PL.allP_lst, PL.anyP_lst, PL.rg3_i, PL.piR3, PL.upP_s, PL.pUp, PL.gcdP_i, PL.xBi, PL.xJoin, PL.xiE, PL.xLc_eq, PL.pRaise1, PL.pRaise2, PL.xPure, PL.xaPure, PL.xaNil, PL.xaCons, PL.xCall, PL.xCallK, PL.nrX, PL.xLst, PL.xTup, PL.xBin, PL.pDropX, PL.pRetX, PL.pSetX, PL.pTry, PL.pIsEs, PL.pLidx, PL.ltTP_t, PL.pRev, PL.revP_l, PL.revP_s, PL.pMtS, PL.mtSP_s, PL.findF_1, PL.findF_2, PL.startsF_1, PL.sidxF_1, PL.scntF_1, PL.pSeq, PL.pNext, PL.pSet, PL.pSetO, PL.pRet, PL.pRetN, PL.pIfS, PL.pFor, PL.pWhile, PL.pBrk, PL.pCnt, PL.pDrop, PL.pApp, PL.pAsg, PL.pgN, PL.pFrz, PL.frz, PL.pC, PL.pN, PL.pNo, PL.pBin, PL.negP, PL.pB, PL.pAnd, PL.pOr, PL.pNot, PL.pAndV, PL.pOrV, PL.pNotV, PL.pIf, PL.paNil, PL.paCons, PL.pLst, PL.pTup, PL.pIx, PL.pSl, PL.poNone, PL.poSome, PL.pCall, PL.pCallK, PL.piR1, PL.piR2, PL.piE, PL.pBits, PL.isiP_eq, PL.pLr1, PL.pJoinR, PL.pJoin, PL.pLc_eq, PL.pYes, PL.wipeC, PL.pBor, PL.pBorT, PL.frzs, PL.pSetI, PL.pChainT, PL.isNP, PL.addP_i, PL.addP_s, PL.addP_t, PL.addP_l, PL.catP_l, PL.subP_i, PL.mulP_i, PL.mulP_l, PL.repP_l, PL.mulP_s, PL.fdivP_i, PL.modP_i, PL.powP_i, PL.ltP_i, PL.ltP_s, PL.gtP_i, PL.gtP_s, PL.leP_i, PL.leP_s, PL.geP_i, PL.geP_s, PL.eqP_int, PL.eqP_str, PL.eqP_bl, PL.eqP_lst_lst, PL.eqP_tup_tup, PL.eqP_lst_tup, PL.eqP_tup_lst, PL.neP_int, PL.neP_str, PL.neP_bl, PL.neP_lst_lst, PL.neP_tup_tup, PL.neP_lst_tup, PL.neP_tup_lst, PL.asB_b, PL.asS_s, PL.lenP_lst, PL.itP_lst, PL.ixP_lst, PL.listP_lst_, PL.tupleP_lst_, PL.sumP_lst_, PL.maxP_lst_, PL.minP_lst_, PL.lenP_tup, PL.itP_tup, PL.ixP_tup, PL.listP_tup_, PL.tupleP_tup_, PL.sumP_tup_, PL.maxP_tup_, PL.minP_tup_, PL.lenP_scr, PL.itP_scr, PL.ixP_scr, PL.listP_scr_, PL.tupleP_scr_, PL.sumP_scr_, PL.maxP_scr_, PL.minP_scr_, PL.lenP_str, PL.lenP_dk, PL.itP_str, PL.ixP_str, PL.intP_i, PL.intP_b, PL.rg1_i, PL.rg2_i, PL.lr1_i, PL.lr2_i, PL.maxP_2, PL.maxP_3, PL.minP_2, PL.minP_3, PL.slP_lst, PL.slP_tup, PL.slP_str, PL.slPL_lst, PL.pgTup_t, PL.pgTup_l, PL.pgsCons_c, PL.pgsNil_n, PL.joinRP_l, PL.reprP_i, PL.reprP_s, PL.setP_i, PL.ixE_0, PL.ixE_1, PL.ixE_2, PL.ixE_3, PL.ixE_4, PL.ixE_5, PL.ixE_6, PL.ixE_7, PL.ixE_8, PL.isqrtP_i, PL.reprLP_l, PL.pMkE, PL.pErF, PL.pIsE, PL.pRevS, PL.pRetO, PL.pRetON, PL.pNever, PL.pExt, PL.listDP_d, PL.pFld, PL.pFldS, PL.setF, PL.slfD, PL.piEn, PL.itEn, PL.isi2P, PL.isBP, PL.pDk, PL.pDt, PL.divmodP_i, PL.pGet, PL.isi_non_int, PL.isi_non_bool, PL.isi_non_str, PL.isi_non_list, PL.isi_non_tuple, PL.isi_bl_int, PL.isi_bl_bool, PL.isi_bl_str, PL.isi_bl_list, PL.isi_bl_tuple, PL.isi_int_int, PL.isi_int_bool, PL.isi_int_str, PL.isi_int_list, PL.isi_int_tuple, PL.isi_str_int, PL.isi_str_bool, PL.isi_str_str, PL.isi_str_list, PL.isi_str_tuple, PL.isi_tup_int, PL.isi_tup_bool, PL.isi_tup_str, PL.isi_tup_list, PL.isi_tup_tuple, PL.isi_lst_int, PL.isi_lst_bool, PL.isi_lst_str, PL.isi_lst_list, PL.isi_lst_tuple, PL.pickL, List.filterMap_cons, List.filterMap_nil, true_and, decide_true, decide_false, eq_self, Int.zero_add, decide_eq_true_eq, PL.rowE, PL.rowS, PL.startC, List.length_map, List.map_cons, List.map_nil, List.length_cons, List.length_nil, List.append_nil, List.nil_append, List.cons_append, List.replicate_succ, List.replicate_zero, List.set_cons_zero, List.set_cons_succ, List.getElem?_cons_zero, List.getElem?_cons_succ, Nat.reduceAdd, Nat.reduceSub, if_true, Bool.not_true, Bool.not_false, Bool.false_eq_true, if_false, $xs,*]))
/-! ### drawn bets -/
def szBet : List Int := [16, 1000001, 3600, 3600, 3600, 3600, 3600, 3600, 1000001, 1000001, 1000001, 1000001, 1000001, 1000001]
def stk1 (kind dg : Int) : Int := if kind = 5 ∨ kind = 6 then (([1, 2, 4, 8, 16, 32, 64, 128, 1024, 4096, 65536, 131072] : List Int)[(dg % 12).toNat]?).getD 0 else 1 + dg % 9
def stk2 (size : Nat) (kind dg : Int) : Int := if kind = 7 ∨ kind = 8 then 1 + dg % (1000000 / (size : Int)) else stk1 kind dg
def stk3 (size : Nat) (kind r1 dg k : Int) : Int := if kind = 9 ∧ k = r1 % (size : Int) then 1 + dg % 900000 else stk2 size kind dg
def stk4 (size : Nat) (kind r1 dg k : Int) : Int := if kind = 11 ∨ kind = 12 then 1 + r1 % 7 else stk3 size kind r1 dg k
def stk5 (size : Nat) (kind r1 dg k : Int) : Int := if kind = 14 then 1 else stk4 size kind r1 dg k
def stk (size : Nat) (bare : Bool) (row : List Int) (k : Nat) : Int :=
  if bare = true ∧ ((row.getD (8 + k) 0) % 24 = 0 ∨ row.getD 0 0 = 15 ∨ (row.getD 0 0 = 10 ∧ (k : Int) ≠ row.getD 1 0 % (size : Int))) then 0 else stk5 size (row.getD 0 0) (row.getD 1 0) (row.getD (8 + k) 0) (k : Int)
def stks (size : Nat) (bare : Bool) (row : List Int) : List Int := (List.range size).map (stk size bare row)
def bt1 (kind r1 g : Int) : Int := if kind < 3 then g + r1 % 4 else g
def bt2 (kind r1 g : Int) : Int := if kind = 7 then min 1000000 (g + r1) else bt1 kind r1 g
def bt3 (kind r1 g : Int) : Int := if kind = 13 then 1000000 else bt2 kind r1 g
def bt (size : Nat) (bare : Bool) (row : List Int) : Int := max 1 (bt3 (row.getD 0 0) (row.getD 1 0) (stks size bare row).sum)
structure RuOk (size m : Nat) (r : BE.Rule) : Prop where
  t1 : 1 ≤ r.1
  t2 : r.1 ≤ 2 ^ 23
  len : r.2.length = size
  nxt : ∀ p ∈ r.2, p.1 < m
  sum : (r.2.map (·.2)).sum ≤ r.1
theorem tbl_ok (dg : Int) : ∃ x : Int, atI [D.int 1, D.int 2, D.int 4, D.int 8, D.int 16, D.int 32, D.int 64, D.int 128, D.int 1024, D.int 4096, D.int 65536, D.int 131072] (dg % 12) = some (D.int x) ∧ (([1, 2, 4, 8, 16, 32, 64, 128, 1024, 4096, 65536, 131072] : List Int)[(dg % 12).toNat]?).getD 0 = x ∧ 0 ≤ x ∧ x ≤ 1000000 := by
  have h0 := Int.emod_nonneg dg (show (12 : Int) ≠ 0 by decide)
  have h1 := Int.emod_lt_of_pos dg (show (0 : Int) < 12 by decide)
  obtain ⟨n, hn⟩ := Int.eq_ofNat_of_zero_le h0
  rw [hn] at h1 ⊢
  have hd : ∀ n, n < 12 → 0 ≤ (([1, 2, 4, 8, 16, 32, 64, 128, 1024, 4096, 65536, 131072] : List Int)[n]?).getD 0 ∧ (([1, 2, 4, 8, 16, 32, 64, 128, 1024, 4096, 65536, 131072] : List Int)[n]?).getD 0 ≤ 1000000 := by decide
  have hn12 : n < 12 := by omega
  have h := hd n hn12
  have e : ([1, 2, 4, 8, 16, 32, 64, 128, 1024, 4096, 65536, 131072] : List Int)[n]? = some (([1, 2, 4, 8, 16, 32, 64, 128, 1024, 4096, 65536, 131072] : List Int)[n]'hn12) := List.getElem?_eq_getElem hn12
  refine ⟨_, atI_map D.int e, ?_, ?_⟩
  · rw [Int.toNat_natCast, e]; rfl
  · rw [e] at h; exact h
theorem stk1_ok (kind dg : Int) : 0 ≤ stk1 kind dg ∧ stk1 kind dg ≤ 1000000 := by
  unfold stk1
  split
  · obtain ⟨x, _, e, h0, h1⟩ := tbl_ok dg
    rw [e]; exact ⟨h0, h1⟩
  · omega
theorem mill {size : Nat} (h1 : 1 ≤ size) (h6 : size ≤ 6) : 166666 ≤ (1000000 : Int) / (size : Int) ∧ (1000000 : Int) / (size : Int) ≤ 1000000 ∧ (size : Int) * ((1000000 : Int) / (size : Int)) ≤ 1000000 := by
  have : size = 1 ∨ size = 2 ∨ size = 3 ∨ size = 4 ∨ size = 5 ∨ size = 6 := by omega
  rcases this with rfl | rfl | rfl | rfl | rfl | rfl <;> decide
theorem stk_ok {size : Nat} (bare : Bool) (row : List Int) (k : Nat) (h1 : 1 ≤ size) (h6 : size ≤ 6) : 0 ≤ stk size bare row k ∧ stk size bare row k ≤ 1000000 ∧ (row.getD 0 0 = 7 → stk size bare row k ≤ 1000000 / (size : Int)) ∧ (row.getD 0 0 = 13 → stk size bare row k ≤ 9) := by
  obtain ⟨m1, m2, m3⟩ := mill h1 h6
  unfold stk
  generalize row.getD 0 0 = kind
  generalize row.getD 1 0 = r1
  generalize row.getD (8 + k) 0 = dg
  generalize (k : Int) = k
  have e2 : 0 ≤ stk2 size kind dg ∧ stk2 size kind dg ≤ 1000000 ∧ (kind = 7 → stk2 size kind dg ≤ 1000000 / (size : Int)) ∧ (kind = 13 → stk2 size kind dg ≤ 9) := by
    unfold stk2
    have := stk1_ok kind dg
    have q0 := Int.emod_nonneg dg (show (1000000 / (size : Int)) ≠ 0 by omega)
    have q1 := Int.emod_lt_of_pos dg (show (0 : Int) < 1000000 / (size : Int) by omega)
    split
    · omega
    · refine ⟨this.1, this.2, fun e => by omega, fun e => ?_⟩
      unfold stk1
      rw [if_neg (by omega)]
      omega
  have e5 : 0 ≤ stk5 size kind r1 dg k ∧ stk5 size kind r1 dg k ≤ 1000000 ∧ (kind = 7 → stk5 size kind r1 dg k ≤ 1000000 / (size : Int)) ∧ (kind = 13 → stk5 size kind r1 dg k ≤ 9) := by
    unfold stk5 stk4 stk3
    generalize stk2 size kind dg = z at e2 ⊢
    split
    · omega
    · split
      · omega
      · split
        · omega
        · exact e2
  split
  · omega
  · exact e5
theorem sum_bd {b : Int} : ∀ {xs : List Int}, (∀ x ∈ xs, 0 ≤ x ∧ x ≤ b) → 0 ≤ xs.sum ∧ xs.sum ≤ xs.length * b
  | [], _ => by simp
  | x :: xs, h => by
    have h1 := h x (List.mem_cons_self ..)
    have h2 := sum_bd fun y hy => h y (List.mem_cons_of_mem x hy)
    simp only [List.sum_cons, List.length_cons]
    have e : (((xs.length + 1 : Nat) : Int)) * b = (xs.length : Int) * b + b := by rw [Int.natCast_add, Int.add_mul]; simp
    omega
theorem bt_ok {size : Nat} (bare : Bool) (row : List Int) (h1 : 1 ≤ size) (h6 : size ≤ 6) (r0 : 0 ≤ row.getD 1 0) : 1 ≤ bt size bare row ∧ bt size bare row ≤ 2 ^ 23 ∧ (stks size bare row).sum ≤ bt size bare row ∧ 0 ≤ (stks size bare row).sum := by
  have hl : (stks size bare row).length = size := by unfold stks; simp
  have hb := sum_bd (b := 1000000) (xs := stks size bare row) fun x hx => by
    obtain ⟨k, _, rfl⟩ := List.mem_map.mp hx
    have := stk_ok bare row k h1 h6
    exact ⟨this.1, this.2.1⟩
  rw [hl] at hb
  obtain ⟨m1, m2, m3⟩ := mill h1 h6
  have h7 : row.getD 0 0 = 7 → (stks size bare row).sum ≤ 1000000 := fun e => by
    have := sum_bd (b := 1000000 / (size : Int)) (xs := stks size bare row) fun x hx => by
      obtain ⟨k, _, rfl⟩ := List.mem_map.mp hx
      have := stk_ok bare row k h1 h6
      exact ⟨this.1, this.2.2.1 e⟩
    rw [hl] at this
    omega
  have h13 : row.getD 0 0 = 13 → (stks size bare row).sum ≤ 1000000 := fun e => by
    have := sum_bd (b := 9) (xs := stks size bare row) fun x hx => by
      obtain ⟨k, _, rfl⟩ := List.mem_map.mp hx
      have := stk_ok bare row k h1 h6
      exact ⟨this.1, this.2.2.2 e⟩
    rw [hl] at this
    omega
  unfold bt bt3 bt2 bt1
  generalize (stks size bare row).sum = g at *
  generalize row.getD 0 0 = kind at *
  generalize row.getD 1 0 = r1 at *
  have hg : g ≤ 6000000 := by omega
  split
  · omega
  · split
    · omega
    · split
      · omega
      · omega
theorem getD_of {l : List Int} {i : Nat} {x : Int} (h : l[i]? = some x) : l.getD i 0 = x := by rw [List.getD_eq_getElem?_getD, h]; rfl
def bE (size : Nat) (row : List Int) (many : Nat) (bare : Bool) (kind : Int) (k : Nat) (dg s : Int) : List C := [C.fz (.int (size : Nat)), C.fz (.lst (row.map D.int)), C.fz (.int (many : Nat)), C.fz (.bl bare), C.fz (.int kind), C.ow (.lst ((List.range k).map fun k => D.int (stk size bare row k))), C.fz (.int (k : Nat)), C.fz (.int dg), C.fz (.int s), .un, .un]
theorem rngI_map {k : Nat} (a : Nat → Int) : (List.range (k + 1)).map (fun s => D.int (a s)) = (List.range k).map (fun s => D.int (a s)) ++ [D.int (a k)] := by
  rw [List.range_succ, List.map_append]; rfl
def bF (size : Nat) (row : List Int) (many : Nat) (bare : Bool) (kind : Int) (x y z : C) (t : Int) : List C := [C.fz (.int (size : Nat)), C.fz (.lst (row.map D.int)), C.fz (.int (many : Nat)), C.fz (.bl bare), C.fz (.int kind), C.ow (.lst ((stks size bare row).map D.int)), x, y, z, C.fz (.int (stks size bare row).sum), C.fz (.int t)]
def mvsB (size many : Nat) (bare : Bool) (row : List Int) (k : Nat) : List (Nat × Nat) := (List.range k).map fun j => ((row.getD (2 + j) 0 % (many : Int)).toNat, (stk size bare row j).toNat)
theorem sum_toNat : ∀ {xs : List Int}, (∀ x ∈ xs, 0 ≤ x) → (((xs.map Int.toNat).sum : Nat) : Int) = xs.sum
  | [], _ => rfl
  | x :: xs, h => by
    have h1 := h x (List.mem_cons_self ..)
    have h2 := sum_toNat fun y hy => h y (List.mem_cons_of_mem x hy)
    simp only [List.map_cons, List.sum_cons, Int.natCast_add]
    omega
def sp_law_bet : PSp := fun ds P => ∃ (size : Nat) (row : List Int) (many : Nat) (bare : Bool), ds = [.int (size : Nat), .lst (row.map D.int), .int (many : Nat), .bl bare] ∧ 1 ≤ size ∧ size ≤ 6 ∧ 1 ≤ many ∧ many ≤ 60 ∧ Digs row szBet ∧
  ∀ r : BE.Rule, RuOk size many r → (r.1 : Int) = bt size bare row → P (ruD r)
theorem len_law_bet : ∀ ds P, sp_law_bet ds P → ds.length = 4 := by rintro _ _ ⟨_, _, _, _, rfl, _⟩; rfl
theorem w_law_bet : ∀ ds Q, sp_law_bet ds Q → b_law_bet { nx := fun _ => Q .non, rt := Q } (startC ["size", "row", "many", "bare", "kind", "stakes", "k", "digit", "stake", "together", "total"] ds) := by
  rintro _ Q ⟨size, row, many, bare, rfl, s1, s6, m1, m60, hr, q⟩
  have hz : sizeLine = 16777216 := PySem.sizeLine_eq
  obtain ⟨kind, e0, a0, b0⟩ := hr.get (i := 0) rfl
  obtain ⟨r1, e1, a1, b1⟩ := hr.get (i := 1) rfl
  have g0 := getD_of e0
  have g1 := getD_of e1
  obtain ⟨ml1, ml2, ml3⟩ := mill s1 s6
  simp only [PL.startC, List.map_cons, List.map_nil, List.length_cons, List.length_nil, Nat.reduceAdd, Nat.reduceSub, List.replicate_succ, List.replicate_zero, List.cons_append, List.nil_append, List.append_nil]
  unfold b_law_bet
  simp! only [true_and]
  refine ⟨_, atI_int D.int 0 rfl e0, by omega, ⟨by omega, by omega⟩, ?_⟩
  refine for_r (W := fun i env => ∃ x y z : C, env = [C.fz (.int (size : Nat)), C.fz (.lst (row.map D.int)), C.fz (.int (many : Nat)), C.fz (.bl bare), C.fz (.int kind), C.ow (.lst ((List.range i).map fun k => D.int (stk size bare row k))), x, y, z, .un, .un]) ⟨.un, .un, .un, rfl⟩ ?_ ?_
  · rintro k env hk ⟨x, y, z, rfl⟩
    have hk : k < size := hk
    have hs8 : ∀ j : Nat, j < 6 → szBet[8 + j]? = some 1000001 := by decide
    obtain ⟨dg, ed, d0, d1⟩ := hr.get (hs8 k (by omega))
    have gd := getD_of ed
    simp! only [true_and]
    refine ⟨_, atI_int D.int (8 + k) (by omega) ed, ?_⟩
    simp! only [true_and]
    have J1 := stk1_ok kind dg
    refine ⟨by decide, ?_⟩
    have step : ∀ (p : PTS) (PD : PEnds) (s t : Int), (p { PD with nx := fun e => e = bE size row many bare kind k dg t } (bE size row many bare kind k dg s)) → PD.nx (bE size row many bare kind k dg t) → pJn p PD (bE size row many bare kind k dg s) := fun p PD s t h1 h2 => jn (fun e => e = bE size row many bare kind k dg t) h1 fun e he => by rw [he]; exact h2
    refine step _ _ (1 + dg % 9) (stk1 kind dg) ?_ ?_
    · unfold bE
      simp! only [true_and]
      unfold stk1
      by_cases c1 : kind = 5
      · obtain ⟨x, h1, h2, _, _⟩ := tbl_ok dg
        rw [if_pos c1, if_pos (Or.inl c1), h2]
        exact ⟨by omega, by decide, _, h1, rfl⟩
      · rw [if_neg c1]
        by_cases c2 : kind = 6
        · obtain ⟨x, h1, h2, _, _⟩ := tbl_ok dg
          rw [if_pos c2, if_pos (Or.inr c2), h2]
          exact ⟨by omega, by decide, _, h1, rfl⟩
        · rw [if_neg c2, if_neg (by omega)]
    unfold bE
    simp! only [true_and]
    refine step _ _ (stk1 kind dg) (stk2 size kind dg) ?_ ?_
    · unfold bE
      simp! only [true_and]
      unfold stk2
      by_cases c1 : kind = 7
      · rw [if_pos c1, if_pos (Or.inl c1)]
        exact ⟨by unfold CPow; decide, cdivw 10 (by omega) (by omega) (by decide), by show 0 < (1000000 : Int) / (size : Int); omega, rfl⟩
      · rw [if_neg c1]
        by_cases c2 : kind = 8
        · rw [if_pos c2, if_pos (Or.inr c2)]
          exact ⟨by unfold CPow; decide, cdivw 10 (by omega) (by omega) (by decide), by show 0 < (1000000 : Int) / (size : Int); omega, rfl⟩
        · rw [if_neg c2, if_neg (by omega)]
    unfold bE
    simp! only [true_and]
    refine step _ _ (stk2 size kind dg) (stk3 size kind r1 dg k) ?_ ?_
    · unfold bE
      simp! only [true_and]
      unfold stk3
      by_cases c1 : kind = 9
      · rw [if_pos c1]
        refine ⟨_, atI_int D.int 1 rfl e1, ?_⟩
        simp! only [true_and]
        by_cases c2 : (k : Int) = r1 % (size : Int)
        · rw [if_pos c2, if_pos ⟨c1, c2⟩]
          exact ⟨by omega, by decide, rfl⟩
        · rw [if_neg c2, if_neg (fun z => c2 z.2)]
          exact ⟨by omega, rfl⟩
      · rw [if_neg c1, if_neg (fun z => c1 z.1)]
    unfold bE
    simp! only [true_and]
    refine step _ _ (stk3 size kind r1 dg k) (stk4 size kind r1 dg k) ?_ ?_
    · unfold bE
      simp! only [true_and]
      unfold stk4
      by_cases c1 : kind = 11
      · rw [if_pos c1, if_pos (Or.inl c1)]
        refine ⟨_, atI_int D.int 1 rfl e1, ?_⟩
        simp! only [true_and]
        exact ⟨by decide, trivial⟩
      · rw [if_neg c1]
        by_cases c2 : kind = 12
        · rw [if_pos c2, if_pos (Or.inr c2)]
          refine ⟨_, atI_int D.int 1 rfl e1, ?_⟩
          simp! only [true_and]
          exact ⟨by decide, trivial⟩
        · rw [if_neg c2, if_neg (by omega)]
    unfold bE
    simp! only [true_and]
    refine step _ _ (stk4 size kind r1 dg k) (stk5 size kind r1 dg k) ?_ ?_
    · unfold bE
      simp! only [true_and]
      unfold stk5
      by_cases c1 : kind = 14
      · rw [if_pos c1, if_pos c1]
      · rw [if_neg c1, if_neg c1]
    unfold bE
    simp! only [true_and]
    refine step _ _ (stk5 size kind r1 dg k) (stk size bare row k) ?_ ?_
    · unfold bE
      simp! only [true_and]
      unfold stk
      rw [gd, g0, g1]
      cases bare with
      | false =>
        rw [if_neg (by decide), if_neg (fun z => absurd z.1 (by decide))]
      | true =>
        rw [if_pos rfl]
        refine ⟨by decide, ?_⟩
        by_cases c1 : dg % 24 = 0
        · rw [if_pos c1, if_pos ⟨rfl, .inl c1⟩]
        · rw [if_neg c1]
          by_cases c2 : kind = 15
          · rw [if_pos c2, if_pos ⟨rfl, .inr (.inl c2)⟩]
          · rw [if_neg c2]
            by_cases c3 : kind = 10
            · rw [if_pos c3]
              refine ⟨_, atI_int D.int 1 rfl e1, ?_⟩
              simp! only [true_and]
              by_cases c4 : (k : Int) = r1 % (size : Int)
              · rw [decide_eq_true c4]
                simp only [Bool.not_true, Bool.false_eq_true, if_false]
                rw [if_neg (fun z => by rcases z with z | z | z; · exact c1 z
                                        · exact c2 z
                                        · exact z.2 c4)]
                exact ⟨by omega, rfl⟩
              · rw [decide_eq_false c4]
                simp only [Bool.not_false, if_true]
                rw [if_pos (.inr (.inr ⟨c3, c4⟩))]
                exact ⟨by omega, rfl⟩
            · rw [if_neg c3, if_neg (fun z => by rcases z.2 with z | z | z; · exact c1 z
                                                 · exact c2 z
                                                 · exact c3 z.1)]
    unfold bE
    simp! only [true_and]
    refine ⟨by rw [List.length_range]; omega, ?_⟩
    rw [rngI_map]
    exact ⟨_, _, _, rfl⟩
  · rintro env ⟨x, y, z, rfl⟩
    have es : (List.range size).map (fun k => D.int (stk size bare row k)) = (stks size bare row).map D.int := by
      unfold stks; rw [List.map_map]; rfl
    rw [show ((size : Nat) : Int).toNat = size from rfl, es]
    obtain ⟨t1, t2, t3, t4⟩ := bt_ok bare row s1 s6 (by rw [g1]; omega)
    have tb := bt_ok bare row s1 s6 (by rw [g1]; omega)
    unfold bt at tb t1 t2 t3
    rw [g0, g1] at tb t1 t2 t3
    simp! only [true_and]
    refine ⟨_, stks size bare row, rfl, intsOf_map _, ?_⟩
    have step : ∀ (p : PTS) (PD : PEnds) (s t : Int), (p { PD with nx := fun e => e = bF size row many bare kind x y z t } (bF size row many bare kind x y z s)) → PD.nx (bF size row many bare kind x y z t) → pJn p PD (bF size row many bare kind x y z s) := fun p PD s t h1 h2 => jn (fun e => e = bF size row many bare kind x y z t) h1 fun e he => by rw [he]; exact h2
    refine step _ _ _ (bt1 kind r1 (stks size bare row).sum) ?_ ?_
    · unfold bF
      simp! only [true_and]
      unfold bt1
      by_cases c1 : kind < 3
      · rw [if_pos c1, if_pos c1]
        refine ⟨_, atI_int D.int 1 rfl e1, ?_⟩
        simp! only [true_and]
        exact ⟨by decide, trivial⟩
      · rw [if_neg c1, if_neg c1]
    unfold bF
    simp! only [true_and]
    refine step _ _ _ (bt2 kind r1 (stks size bare row).sum) ?_ ?_
    · unfold bF
      simp! only [true_and]
      unfold bt2
      by_cases c1 : kind = 7
      · rw [if_pos c1, if_pos c1]
        refine ⟨by unfold CPow; decide, _, atI_int D.int 1 rfl e1, ?_⟩
        simp! only [true_and]
        rfl
      · rw [if_neg c1, if_neg c1]
    unfold bF
    simp! only [true_and]
    refine step _ _ _ (bt3 kind r1 (stks size bare row).sum) ?_ ?_
    · unfold bF
      simp! only [true_and]
      unfold bt3
      by_cases c1 : kind = 13
      · rw [if_pos c1, if_pos c1]
        exact ⟨by unfold CPow; decide, rfl⟩
      · rw [if_neg c1, if_neg c1]
    unfold bF
    simp! only [true_and]
    refine ⟨⟨by omega, by omega⟩, ?_⟩
    refine lc_n (W := fun k acc => acc = (mvsB size many bare row k).map mvD) rfl ?_ ?_
    · rintro k acc hk rfl
      have hk : k < size := hk
      have hs2 : ∀ j : Nat, j < 6 → szBet[2 + j]? = some 3600 := by decide
      obtain ⟨d2, ed, d0, d1⟩ := hr.get (hs2 k (by omega))
      have gd := getD_of ed
      have so := stk_ok bare row k s1 s6
      have m0 := Int.emod_nonneg d2 (show ((many : Nat) : Int) ≠ 0 by omega)
      simp! only [true_and]
      refine ⟨_, atI_int D.int (2 + k) (by omega) ed, ?_⟩
      simp! only [true_and]
      refine ⟨by omega, D.int (stk size bare row k), atI_map D.int (by unfold stks; rw [List.getElem?_map, List.getElem?_range hk]; rfl), ?_⟩
      refine ⟨by omega, by unfold mvsB; simp only [List.length_map, List.length_range]; omega, ?_⟩
      unfold mvsB
      rw [List.range_succ, List.map_append, List.map_append]
      congr 1
      show [D.tup [D.int (d2 % (many : Int)), D.int (stk size bare row k)]] = [D.tup [D.int (((row.getD (2 + k) 0 % (many : Int)).toNat : Nat) : Int), D.int (((stk size bare row k).toNat : Nat) : Int)]]
      rw [gd, Int.toNat_of_nonneg m0, Int.toNat_of_nonneg so.1]
    · rintro acc rfl
      refine ⟨_, rfl, by omega, ?_⟩
      have es : (mvsB size many bare row size).map (·.2) = (stks size bare row).map Int.toNat := by
        unfold mvsB stks
        rw [List.map_map, List.map_map]; rfl
      have ss : ((((stks size bare row).map Int.toNat).sum : Nat) : Int) = (stks size bare row).sum := sum_toNat fun x hx => by
        obtain ⟨k, _, rfl⟩ := List.mem_map.mp hx
        exact (stk_ok bare row k s1 s6).1
      have hT : ((((max 1 (bt3 kind r1 (stks size bare row).sum)).toNat : Nat)) : Int) = max 1 (bt3 kind r1 (stks size bare row).sum) := Int.toNat_of_nonneg (by omega)
      have fin := q ((max 1 (bt3 kind r1 (stks size bare row).sum)).toNat, mvsB size many bare row size) ⟨by show 1 ≤ (max 1 _ : Int).toNat; omega, by show (max 1 _ : Int).toNat ≤ _; omega, by unfold mvsB; simp, fun p hp => ?_, by show ((mvsB size many bare row size).map (·.2)).sum ≤ (max 1 _ : Int).toNat; rw [es]; omega⟩ (by unfold bt; rw [g0, g1]; exact hT)
      · unfold ruD at fin
        rw [hT] at fin
        exact fin
      · unfold mvsB at hp
        obtain ⟨j, _, rfl⟩ := List.mem_map.mp hp
        show (_ % ((many : Nat) : Int)).toNat < many
        have := Int.emod_lt_of_pos (row.getD (2 + j) 0) (show (0 : Int) < ((many : Nat) : Int) by omega)
        omega
end K65
end

section
set_option linter.all false
set_option maxRecDepth 100000
set_option maxHeartbeats 1000000
set_option autoImplicit false
namespace K65
open PySem PySem.Spec PyProof.Rows L2 PL
local macro_rules
  | `(tactic| simp! only [$xs,*]) => `(tactic| (try simp only [PL.dflS, PL.pickLD, PL.lcmP_i, PL.isoP, PL.pMeth, PL.pOEq, PL.pLcntB, PL.reprTP_t, PL.strIP_i, PL.pChain, PL.allP_lst, PL.anyP_lst, PL.rg3_i, PL.piR3, PL.upP_s, PL.pUp, PL.gcdP_i, PL.xBi, PL.xJoin, PL.xiE, PL.xLc_eq, PL.pRaise1, PL.pRaise2, PL.xPure, PL.xaPure, PL.xaNil, PL.xaCons, PL.xCall, PL.xCallK, PL.nrX, PL.xLst, PL.xTup, PL.xBin, PL.pDropX, PL.pRetX, PL.pSetX, PL.pTry, PL.pIsEs, PL.pLidx, PL.ltTP_t, PL.pRev, PL.revP_l, PL.revP_s, PL.pMtS, PL.mtSP_s, PL.findF_1, PL.findF_2, PL.startsF_1, PL.sidxF_1, PL.scntF_1, PL.pSeq, PL.pNext, PL.pSet, PL.pSetO, PL.pRet, PL.pRetN, PL.pIfS, PL.pFor, PL.pWhile, PL.pBrk, PL.pCnt, PL.pDrop, PL.pApp, PL.pAsg, PL.pgN, PL.pFrz, PL.frz, PL.pC, PL.pN, PL.pNo, PL.pBin, PL.negP, PL.pB, PL.pAnd, PL.pOr, PL.pNot, PL.pAndV, PL.pOrV, PL.pNotV, PL.pIf, PL.paNil, PL.paCons, PL.pLst, PL.pTup, PL.pIx, PL.pSl, PL.poNone, PL.poSome, PL.pCall, PL.pCallK, PL.piR1, PL.piR2, PL.piE, PL.pBits, PL.isiP_eq, PL.pLr1, PL.pJoinR, PL.pJoin, PL.pLc_eq, PL.pYes, PL.wipeC, PL.pBor, PL.pBorT, PL.frzs, PL.pSetI, PL.pChainT, PL.isNP, PL.addP_i, PL.addP_s, PL.addP_t, PL.addP_l, PL.catP_l, PL.subP_i, PL.mulP_i, PL.mulP_l, PL.repP_l, PL.mulP_s, PL.fdivP_i, PL.modP_i, PL.powP_i, PL.ltP_i, PL.ltP_s, PL.gtP_i, PL.gtP_s, PL.leP_i, PL.leP_s, PL.geP_i, PL.geP_s, PL.eqP_int, PL.eqP_str, PL.eqP_bl, PL.eqP_lst_lst, PL.eqP_tup_tup, PL.eqP_lst_tup, PL.eqP_tup_lst, PL.neP_int, PL.neP_str, PL.neP_bl, PL.neP_lst_lst, PL.neP_tup_tup, PL.neP_lst_tup, PL.neP_tup_lst, PL.asB_b, PL.asS_s, PL.lenP_lst, PL.itP_lst, PL.ixP_lst, PL.listP_lst_, PL.tupleP_lst_, PL.sumP_lst_, PL.maxP_lst_, PL.minP_lst_, PL.lenP_tup, PL.itP_tup, PL.ixP_tup, PL.listP_tup_, PL.tupleP_tup_, PL.sumP_tup_, PL.maxP_tup_, PL.minP_tup_, PL.lenP_scr, PL.itP_scr, PL.ixP_scr, PL.listP_scr_, PL.tupleP_scr_, PL.sumP_scr_, PL.maxP_scr_, PL.minP_scr_, PL.lenP_str, PL.lenP_dk, PL.itP_str, PL.ixP_str, PL.intP_i, PL.intP_b, PL.rg1_i, PL.rg2_i, PL.lr1_i, PL.lr2_i, PL.maxP_2, PL.maxP_3, PL.minP_2, PL.minP_3, PL.slP_lst, PL.slP_tup, PL.slP_str, PL.slPL_lst, PL.pgTup_t, PL.pgTup_l, PL.pgsCons_c, PL.pgsNil_n, PL.joinRP_l, PL.reprP_i, PL.reprP_s, PL.setP_i, PL.ixE_0, PL.ixE_1, PL.ixE_2, PL.ixE_3, PL.ixE_4, PL.ixE_5, PL.ixE_6, PL.ixE_7, PL.ixE_8, PL.isqrtP_i, PL.reprLP_l, PL.pMkE, PL.pErF, PL.pIsE, PL.pRevS, PL.pRetO, PL.pRetON, PL.pNever, PL.pExt, PL.listDP_d, PL.pFld, PL.pFldS, PL.setF, PL.slfD, PL.piEn, PL.itEn, PL.isi2P, PL.isBP, PL.pDk, PL.pDt, PL.divmodP_i, PL.pGet, PL.isi_non_int, PL.isi_non_bool, PL.isi_non_str, PL.isi_non_list, PL.isi_non_tuple, PL.isi_bl_int, PL.isi_bl_bool, PL.isi_bl_str, PL.isi_bl_list, PL.isi_bl_tuple, PL.isi_int_int, PL.isi_int_bool, PL.isi_int_str, PL.isi_int_list, PL.isi_int_tuple, PL.isi_str_int, PL.isi_str_bool, PL.isi_str_str, PL.isi_str_list, PL.isi_str_tuple, PL.isi_tup_int, PL.isi_tup_bool, PL.isi_tup_str, PL.isi_tup_list, PL.isi_tup_tuple, PL.isi_lst_int, PL.isi_lst_bool, PL.isi_lst_str, PL.isi_lst_list, PL.isi_lst_tuple, PL.pickL, List.filterMap_cons, List.filterMap_nil, true_and, decide_true, decide_false, eq_self, Int.zero_add, decide_eq_true_eq, PL.rowE, PL.rowS, PL.startC, List.length_map, List.map_cons, List.map_nil, List.length_cons, List.length_nil, List.append_nil, List.nil_append, List.cons_append, List.replicate_succ, List.replicate_zero, List.set_cons_zero, List.set_cons_succ, List.getElem?_cons_zero, List.getElem?_cons_succ, Nat.reduceAdd, Nat.reduceSub, if_true, Bool.not_true, Bool.not_false, Bool.false_eq_true, if_false, $xs,*]))
theorem rot_sum (st : List Nat) (c : Nat) (h : 0 < st.length) : ((List.range st.length).map fun k => st.getD ((k + c) % st.length) 0).sum = st.sum := by
  have hc := Nat.mod_lt c h
  have e : (List.range st.length).map (fun k => st.getD ((k + c) % st.length) 0) = st.drop (c % st.length) ++ st.take (c % st.length) := by
    apply List.ext_getElem?
    intro i
    rw [List.getElem?_map, List.getElem?_append, List.length_drop]
    by_cases hi : i < st.length
    · rw [List.getElem?_range hi]
      have hm : (i + c) % st.length = (i + c % st.length) % st.length := by rw [Nat.add_mod, Nat.mod_eq_of_lt hi]
      by_cases hj : i < st.length - c % st.length
      · rw [if_pos hj, List.getElem?_drop]
        have : (i + c) % st.length = c % st.length + i := by rw [hm, Nat.mod_eq_of_lt (by omega)]; omega
        show some (st.getD ((i + c) % st.length) 0) = _
        rw [this, List.getD_eq_getElem?_getD, List.getElem?_eq_getElem (show c % st.length + i < st.length by omega)]; rfl
      · rw [if_neg hj, List.getElem?_take]
        have : (i + c) % st.length = i - (st.length - c % st.length) := by
          rw [hm, Nat.mod_eq_sub_mod (by omega), Nat.mod_eq_of_lt (by omega)]; omega
        show some (st.getD ((i + c) % st.length) 0) = _
        rw [this, if_pos (by omega), List.getD_eq_getElem?_getD, List.getElem?_eq_getElem (show i - (st.length - c % st.length) < st.length by omega)]; rfl
    · rw [List.getElem?_eq_none (by simp; omega)]
      rw [if_neg (by omega), List.getElem?_take, if_neg (by omega)]; rfl
  rw [e, List.sum_append, Nat.add_comm, ← List.sum_append, List.take_append_drop]
def sz4 : List Int := szBet ++ szBet ++ szBet ++ szBet
def slB (row : List Int) (j : Nat) : List Int := (row.drop (14 * j)).take (14 * j + 14 - 14 * j)
theorem slB_digs {row : List Int} (h : Digs row sz4) {j : Nat} (hj : j < 4) : Digs (slB row j) szBet := by
  have hl : row.length = 56 := by rw [h.length]; rfl
  refine Digs.of (by unfold slB; rw [List.length_take, List.length_drop, hl]; show min _ _ = 14; omega) fun i r s hr hs => ?_
  have hi : i < 14 := by
    have := (List.getElem?_eq_some_iff.mp hs).1
    exact this
  have key : ∀ j : Nat, j < 4 → ∀ i : Nat, i < 14 → sz4[14 * j + i]? = szBet[i]? := by decide
  unfold slB at hr
  rw [List.getElem?_take, if_pos (by omega), List.getElem?_drop] at hr
  exact h.at hr ((key j hj i hi).trans hs)
def sp_law_wide_rules : PSp := fun ds P => ∃ (size : Nat) (cell : Int) (many : Nat) (bare : Bool), ds = [.int (size : Nat), .int cell, .int (many : Nat), .bl bare] ∧ 1 ≤ size ∧ size ≤ 6 ∧ 1 ≤ many ∧ many ≤ 60 ∧
  ∀ R : List BE.Rule, R.length = many → (∀ r ∈ R, RuOk size many r) → BE.Few R → P (rusD R)
theorem len_law_wide_rules : ∀ ds P, sp_law_wide_rules ds P → ds.length = 4 := by rintro _ _ ⟨_, _, _, _, rfl, _⟩; rfl
theorem w_law_wide_rules : ∀ ds Q, sp_law_wide_rules ds Q → b_law_wide_rules sp_law_digits sp_law_bet { nx := fun _ => Q .non, rt := Q } (startC ["size", "cell", "many", "bare", "one", "row", "rules", "s", "base", "bet", "part", "k"] ds) := by
  rintro _ Q ⟨size, cell, many, bare, rfl, s1, s6, m1, m60, q⟩
  have hz : sizeLine = 16777216 := PySem.sizeLine_eq
  simp only [PL.startC, List.map_cons, List.map_nil, List.length_cons, List.length_nil, Nat.reduceAdd, Nat.reduceSub, List.replicate_succ, List.replicate_zero, List.cons_append, List.nil_append, List.append_nil]
  unfold b_law_wide_rules
  simp! only [true_and]
  rw [show (List.replicate (Int.toNat 6) [D.int 3600]).flatten = [D.int 3600, D.int 3600, D.int 3600, D.int 3600, D.int 3600, D.int 3600] from rfl, show (List.replicate (Int.toNat 6) [D.int 1000001]).flatten = [D.int 1000001, D.int 1000001, D.int 1000001, D.int 1000001, D.int 1000001, D.int 1000001] from rfl]
  iterate 14 (refine ⟨by first | omega | decide | (rw [hz]; decide), ?_⟩)
  refine ⟨cell, sz4, rfl, by decide, sizes_ok (by decide), fun row hr => ?_⟩
  refine ⟨by omega, ⟨by omega, by omega⟩, ?_⟩
  refine for_r (W := fun i env => ∃ (R : List BE.Rule) (x y z w v : C), R.length = i ∧ (∀ r ∈ R, RuOk size many r) ∧ (8 < many → ∀ r ∈ R, ∃ j : Nat, j < 4 ∧ (r.1 : Int) = bt size bare (slB row j)) ∧
    env = [C.fz (.int (size : Nat)), C.fz (.int cell), C.fz (.int (many : Nat)), C.fz (.bl bare), C.fz (.lst (szBet.map D.int)), C.fz (.lst (row.map D.int)), C.ow (.lst (R.map ruD)), x, y, z, w, v]) ⟨[], .un, .un, .un, .un, .un, rfl, fun r h => by simp at h, fun _ r h => by simp at h, rfl⟩ ?_ ?_
  · rintro k env hk ⟨R, x, y, z, w, v, hR, ok, few, rfl⟩
    have hk : k < many := hk
    simp! only [true_and]
    refine ⟨by decide, mulx_ok (a := 4) (b := 4) (by decide) (by omega) (by decide), ?_⟩
    have fin : ∀ (r' : BE.Rule) (x' y' z' w' v' : C), RuOk size many r' → (8 < many → ∃ j : Nat, j < 4 ∧ (r'.1 : Int) = bt size bare (slB row j)) → R.length < sizeLine ∧ ∃ (R_1 : List BE.Rule) (x y z w_1 v_1 : C), R_1.length = k + 1 ∧ (∀ r ∈ R_1, RuOk size many r) ∧ (8 < many → ∀ r ∈ R_1, ∃ j : Nat, j < 4 ∧ (r.1 : Int) = bt size bare (slB row j)) ∧
        [C.fz (.int (size : Nat)), C.fz (.int cell), C.fz (.int (many : Nat)), C.fz (.bl bare), C.fz (.lst (szBet.map D.int)), C.fz (.lst (row.map D.int)), C.ow (.lst (R.map ruD ++ [ruD r'])), x', y', z', w', v'] =
        [C.fz (.int (size : Nat)), C.fz (.int cell), C.fz (.int (many : Nat)), C.fz (.bl bare), C.fz (.lst (szBet.map D.int)), C.fz (.lst (row.map D.int)), C.ow (.lst (R_1.map ruD)), x, y, z, w_1, v_1] := by
      intro r' x' y' z' w' v' h1 h2
      refine ⟨by omega, R ++ [r'], x', y', z', w', v', by simp [hR], fun r hr => ?_, fun h8 r hr => ?_, by rw [List.map_append]; rfl⟩
      · rcases List.mem_append.mp hr with hr | hr
        · exact ok r hr
        · rw [List.mem_singleton] at hr; subst hr; exact h1
      · rcases List.mem_append.mp hr with hr | hr
        · exact few h8 r hr
        · rw [List.mem_singleton] at hr; subst hr; exact h2 h8
    have hl : row.length = 56 := by rw [hr.length]; rfl
    have h4 : k % 4 < 4 := Nat.mod_lt _ (by decide)
    have e1 : (14 : Int) * ((k : Int) % 4) = ((14 * (k % 4) : Nat) : Int) := by omega
    have e2 : (14 : Int) * ((k : Int) % 4) + 14 = ((14 * (k % 4) + 14 : Nat) : Int) := by omega
    rw [e2, e1, PL.cutD_map D.int row _ _ (by omega)]
    refine ⟨size, slB row (k % 4), many, bare, rfl, s1, s6, m1, m60, slB_digs hr h4, fun r hr1 hr2 => ?_⟩
    dsimp only
    by_cases h5 : (4 : Int) ≤ (k : Int)
    · rw [if_pos h5]
      by_cases h8 : ((many : Nat) : Int) ≤ 8
      · rw [if_pos h8]
        refine ⟨by unfold CPow; decide, by decide, mulx_ok (a := 14) (b := 10) (by decide) (by omega) (by decide), ?_⟩
        refine ⟨_, szBet, rfl, by decide, sizes_ok (by decide), fun row2 hr2 => ?_⟩
        refine ⟨size, row2, many, bare, rfl, s1, s6, m1, m60, hr2, fun r3 h1 h2 => ?_⟩
        exact fin r3 _ _ _ _ _ h1 fun z => absurd z (by omega)
      · rw [if_neg h8, if_pos h5]
        refine ⟨by unfold CPow; decide, by decide, mulx_ok (a := 14) (b := 10) (by decide) (by omega) (by decide), by omega, by omega, by decide, by decide, by rw [hz]; decide, by rw [hz]; decide, ?_⟩
        rw [show (List.replicate (Int.toNat 6) [D.int 3600]).flatten = [D.int 3600, D.int 3600, D.int 3600, D.int 3600, D.int 3600, D.int 3600] from rfl]
        refine ⟨_, [6, 3600, 3600, 3600, 3600, 3600, 3600], rfl, by decide, sizes_ok (by decide), fun part hp => ?_⟩
        obtain ⟨p0, ep0, ap0, bp0⟩ := hp.get (i := 0) rfl
        unfold ruD
        simp! only [true_and]
        refine ⟨⟨by omega, by omega⟩, ?_⟩
        refine lc_n (W := fun j acc => acc = ((List.range j).map fun j => ((part.getD (1 + j) 0 % (many : Int)).toNat, (r.2.map (·.2)).getD ((j + p0.toNat) % size) 0)).map mvD) rfl ?_ ?_
        · rintro j acc hj rfl
          have hj : j < size := hj
          have hs2 : ∀ j : Nat, j < 6 → ([6, 3600, 3600, 3600, 3600, 3600, 3600] : List Int)[1 + j]? = some 3600 := by decide
          obtain ⟨d2, ed, d0, d1⟩ := hp.get (hs2 j (by omega))
          have gd := getD_of ed
          have m0 := Int.emod_nonneg d2 (show ((many : Nat) : Int) ≠ 0 by omega)
          have hlt : (j + p0.toNat) % size < r.2.length := by rw [hr1.len]; exact Nat.mod_lt _ (by omega)
          have e3 : ((j : Int) + p0) % (size : Int) = (((j + p0.toNat) % size : Nat) : Int) := by
            rw [Int.natCast_emod, Int.natCast_add, Int.toNat_of_nonneg ap0]
          simp! only [true_and]
          refine ⟨_, atI_int D.int (1 + j) (by omega) ed, ?_⟩
          simp! only [true_and]
          refine ⟨by omega, _, atI_int D.int 0 rfl ep0, ?_⟩
          simp! only [true_and]
          refine ⟨by omega, ?_⟩
          rw [e3]
          obtain ⟨p, hp⟩ : ∃ p, r.2[(j + p0.toNat) % size]? = some p := ⟨_, List.getElem?_eq_getElem hlt⟩
          refine ⟨mvD p, atI_map mvD hp, ?_⟩
          unfold mvD
          simp! only [true_and]
          refine ⟨by omega, by rw [List.length_range]; omega, ?_⟩
          rw [List.range_succ, List.map_append, List.map_append]
          congr 1
          show [D.tup [D.int (d2 % (many : Int)), D.int (p.2 : Nat)]] = [D.tup [D.int (((part.getD (1 + j) 0 % (many : Int)).toNat : Nat) : Int), D.int (((r.2.map (·.2)).getD ((j + p0.toNat) % size) 0 : Nat) : Int)]]
          rw [gd, Int.toNat_of_nonneg m0, List.getD_eq_getElem?_getD, List.getElem?_map, hp]; rfl
        · rintro acc rfl
          refine ⟨_, rfl, by omega, ?_⟩
          have hrs := rot_sum (r.2.map (·.2)) p0.toNat (by rw [List.length_map, hr1.len]; omega)
          rw [List.length_map, hr1.len] at hrs
          refine fin (r.1, (List.range size).map fun j => ((part.getD (1 + j) 0 % (many : Int)).toNat, (r.2.map (·.2)).getD ((j + p0.toNat) % size) 0)) _ _ _ _ _ ⟨hr1.t1, hr1.t2, by simp, fun p hp => ?_, ?_⟩ fun _ => ⟨k % 4, h4, hr2⟩
          · obtain ⟨j, _, rfl⟩ := List.mem_map.mp hp
            show (_ % ((many : Nat) : Int)).toNat < many
            have := Int.emod_lt_of_pos (part.getD (1 + j) 0) (show (0 : Int) < ((many : Nat) : Int) by omega)
            omega
          · rw [List.map_map]
            refine Nat.le_trans (Nat.le_of_eq ?_) hr1.sum
            exact hrs
    · rw [if_neg h5, if_neg h5]
      exact fin r _ _ _ _ _ hr1 fun _ => ⟨k % 4, h4, hr2⟩
  · rintro env ⟨R, x, y, z, w, v, hR, ok, few, rfl⟩
    have hR : R.length = many := hR
    simp! only [true_and]
    refine ⟨_, rfl, q R hR ok ?_⟩
    by_cases h8 : many ≤ 8
    · refine ⟨R.map (·.1), by rw [List.length_map]; omega, fun t ht => ?_, fun r hr => List.mem_map.mpr ⟨r, hr, rfl⟩⟩
      obtain ⟨r, hr, rfl⟩ := List.mem_map.mp ht
      exact ⟨(ok r hr).t1, (ok r hr).t2⟩
    · refine ⟨(List.range 4).map fun j => (bt size bare (slB row j)).toNat, by simp, fun t ht => ?_, fun r hr => ?_⟩
      · obtain ⟨j, hj, rfl⟩ := List.mem_map.mp ht
        have hd := slB_digs hr (List.mem_range.mp hj)
        obtain ⟨r1, e1, a1, b1⟩ := hd.get (i := 1) rfl
        have := bt_ok bare (slB row j) s1 s6 (by rw [getD_of e1]; exact a1)
        omega
      · obtain ⟨j, hj, e⟩ := few (by omega) r hr
        exact List.mem_map.mpr ⟨j, List.mem_range.mpr hj, by omega⟩
end K65
end

section
set_option linter.all false
set_option maxRecDepth 100000
set_option maxHeartbeats 1000000
set_option autoImplicit false
namespace K65
open PySem PySem.Spec PyProof.Rows L2 PL
local macro_rules
  | `(tactic| simp! only [$xs,*]) => `(tactic| (try simp only [PL.dflS, PL.pickLD, PL.lcmP_i, PL.isoP, PL.pMeth, PL.pOEq, PL.pLcntB, PL.reprTP_t, PL.strIP_i, PL.pChain, PL.allP_lst, PL.anyP_lst, PL.rg3_i, PL.piR3, PL.upP_s, PL.pUp, PL.gcdP_i, PL.xBi, PL.xJoin, PL.xiE, PL.xLc_eq, PL.pRaise1, PL.pRaise2, PL.xPure, PL.xaPure, PL.xaNil, PL.xaCons, PL.xCall, PL.xCallK, PL.nrX, PL.xLst, PL.xTup, PL.xBin, PL.pDropX, PL.pRetX, PL.pSetX, PL.pTry, PL.pIsEs, PL.pLidx, PL.ltTP_t, PL.pRev, PL.revP_l, PL.revP_s, PL.pMtS, PL.mtSP_s, PL.findF_1, PL.findF_2, PL.startsF_1, PL.sidxF_1, PL.scntF_1, PL.pSeq, PL.pNext, PL.pSet, PL.pSetO, PL.pRet, PL.pRetN, PL.pIfS, PL.pFor, PL.pWhile, PL.pBrk, PL.pCnt, PL.pDrop, PL.pApp, PL.pAsg, PL.pgN, PL.pFrz, PL.frz, PL.pC, PL.pN, PL.pNo, PL.pBin, PL.negP, PL.pB, PL.pAnd, PL.pOr, PL.pNot, PL.pAndV, PL.pOrV, PL.pNotV, PL.pIf, PL.paNil, PL.paCons, PL.pLst, PL.pTup, PL.pIx, PL.pSl, PL.poNone, PL.poSome, PL.pCall, PL.pCallK, PL.piR1, PL.piR2, PL.piE, PL.pBits, PL.isiP_eq, PL.pLr1, PL.pJoinR, PL.pJoin, PL.pLc_eq, PL.pYes, PL.wipeC, PL.pBor, PL.pBorT, PL.frzs, PL.pSetI, PL.pChainT, PL.isNP, PL.addP_i, PL.addP_s, PL.addP_t, PL.addP_l, PL.catP_l, PL.subP_i, PL.mulP_i, PL.mulP_l, PL.repP_l, PL.mulP_s, PL.fdivP_i, PL.modP_i, PL.powP_i, PL.ltP_i, PL.ltP_s, PL.gtP_i, PL.gtP_s, PL.leP_i, PL.leP_s, PL.geP_i, PL.geP_s, PL.eqP_int, PL.eqP_str, PL.eqP_bl, PL.eqP_lst_lst, PL.eqP_tup_tup, PL.eqP_lst_tup, PL.eqP_tup_lst, PL.neP_int, PL.neP_str, PL.neP_bl, PL.neP_lst_lst, PL.neP_tup_tup, PL.neP_lst_tup, PL.neP_tup_lst, PL.asB_b, PL.asS_s, PL.lenP_lst, PL.itP_lst, PL.ixP_lst, PL.listP_lst_, PL.tupleP_lst_, PL.sumP_lst_, PL.maxP_lst_, PL.minP_lst_, PL.lenP_tup, PL.itP_tup, PL.ixP_tup, PL.listP_tup_, PL.tupleP_tup_, PL.sumP_tup_, PL.maxP_tup_, PL.minP_tup_, PL.lenP_scr, PL.itP_scr, PL.ixP_scr, PL.listP_scr_, PL.tupleP_scr_, PL.sumP_scr_, PL.maxP_scr_, PL.minP_scr_, PL.lenP_str, PL.lenP_dk, PL.itP_str, PL.ixP_str, PL.intP_i, PL.intP_b, PL.rg1_i, PL.rg2_i, PL.lr1_i, PL.lr2_i, PL.maxP_2, PL.maxP_3, PL.minP_2, PL.minP_3, PL.slP_lst, PL.slP_tup, PL.slP_str, PL.slPL_lst, PL.pgTup_t, PL.pgTup_l, PL.pgsCons_c, PL.pgsNil_n, PL.joinRP_l, PL.reprP_i, PL.reprP_s, PL.setP_i, PL.ixE_0, PL.ixE_1, PL.ixE_2, PL.ixE_3, PL.ixE_4, PL.ixE_5, PL.ixE_6, PL.ixE_7, PL.ixE_8, PL.isqrtP_i, PL.reprLP_l, PL.pMkE, PL.pErF, PL.pIsE, PL.pRevS, PL.pRetO, PL.pRetON, PL.pNever, PL.pExt, PL.listDP_d, PL.pFld, PL.pFldS, PL.setF, PL.slfD, PL.piEn, PL.itEn, PL.isi2P, PL.isBP, PL.pDk, PL.pDt, PL.divmodP_i, PL.pGet, PL.isi_non_int, PL.isi_non_bool, PL.isi_non_str, PL.isi_non_list, PL.isi_non_tuple, PL.isi_bl_int, PL.isi_bl_bool, PL.isi_bl_str, PL.isi_bl_list, PL.isi_bl_tuple, PL.isi_int_int, PL.isi_int_bool, PL.isi_int_str, PL.isi_int_list, PL.isi_int_tuple, PL.isi_str_int, PL.isi_str_bool, PL.isi_str_str, PL.isi_str_list, PL.isi_str_tuple, PL.isi_tup_int, PL.isi_tup_bool, PL.isi_tup_str, PL.isi_tup_list, PL.isi_tup_tuple, PL.isi_lst_int, PL.isi_lst_bool, PL.isi_lst_str, PL.isi_lst_list, PL.isi_lst_tuple, PL.pickL, List.filterMap_cons, List.filterMap_nil, true_and, decide_true, decide_false, eq_self, Int.zero_add, decide_eq_true_eq, PL.rowE, PL.rowS, PL.startC, List.length_map, List.map_cons, List.map_nil, List.length_cons, List.length_nil, List.append_nil, List.nil_append, List.cons_append, List.replicate_succ, List.replicate_zero, List.set_cons_zero, List.set_cons_succ, List.getElem?_cons_zero, List.getElem?_cons_succ, Nat.reduceAdd, Nat.reduceSub, if_true, Bool.not_true, Bool.not_false, Bool.false_eq_true, if_false, $xs,*]))
def sp_law_as_lists : PSp := fun ds P => ∃ R : List BE.Rule, ds = [rusD R] ∧ R.length ≤ 1000 ∧ (∀ r ∈ R, r.2.length ≤ 1000) ∧ P (.lst (R.map ruLD))
theorem len_law_as_lists : ∀ ds P, sp_law_as_lists ds P → ds.length = 1 := by rintro _ _ ⟨_, rfl, _⟩; rfl
theorem w_law_as_lists : ∀ ds Q, sp_law_as_lists ds Q → b_law_as_lists { nx := fun _ => Q .non, rt := Q } (startC ["rules", "handed", "rule", "move"] ds) := by
  rintro _ Q ⟨R, rfl, hR, hl, q⟩
  have hz : sizeLine = 16777216 := PySem.sizeLine_eq
  simp only [PL.startC, List.map_cons, List.map_nil, List.length_cons, List.length_nil, Nat.reduceAdd, Nat.reduceSub, List.replicate_succ, List.replicate_zero, List.cons_append, List.nil_append, List.append_nil]
  unfold b_law_as_lists rusD
  simp! only [true_and]
  refine ⟨by decide, ?_⟩
  refine for_m (W := fun i env => ∃ x y : C, env = [C.fz (.tup (R.map ruD)), C.ow (.lst ((R.take i).map ruLD)), x, y]) ⟨.un, .un, rfl⟩ ?_ ?_
  · rintro k r env hk ⟨x, y, rfl⟩
    have hkl := (List.getElem?_eq_some_iff.mp hk).1
    have hm := hl r (List.mem_of_getElem? hk)
    unfold ruD
    simp! only [true_and]
    refine lc_m (W := fun j acc => acc = (r.2.take j).map mvLD) rfl ?_ ?_
    · rintro j p acc hj rfl
      have hjl := (List.getElem?_eq_some_iff.mp hj).1
      unfold mvD
      simp! only [true_and]
      refine ⟨_, rfl, ?_⟩
      refine ⟨by rw [List.length_take]; omega, ?_⟩
      rw [take_snoc hj, List.map_append]; rfl
    · rintro acc rfl
      rw [List.take_length]
      simp! only [true_and]
      refine ⟨by omega, by rw [List.length_take]; omega, ?_⟩
      rw [take_snoc hk, List.map_append]
      exact ⟨_, _, rfl⟩
  · rintro env ⟨x, y, rfl⟩
    rw [List.take_length]
    simp! only [true_and]
    exact q
/-! ### the product of the distinct totals -/
def sp_law_common : PSp := fun ds P => ∃ (R : List BE.Rule), ds = [rusD R] ∧ BE.Few R ∧ ∀ C : Nat, BE.Com R C → P (.int (C : Nat))
theorem len_law_common : ∀ ds P, sp_law_common ds P → ds.length = 1 := by rintro _ _ ⟨_, rfl, _⟩; rfl
theorem w_law_common : ∀ ds Q, sp_law_common ds Q → b_law_common { nx := fun _ => Q .non, rt := Q } (startC ["rules", "common", "known", "rule"] ds) := by
  rintro _ Q ⟨R, rfl, f, q⟩
  obtain ⟨ts, t1, t2, t3⟩ := f.ex
  simp only [PL.startC, List.map_cons, List.map_nil, List.length_cons, List.length_nil, Nat.reduceAdd, Nat.reduceSub, List.replicate_succ, List.replicate_zero, List.cons_append, List.nil_append, List.append_nil]
  unfold b_law_common rusD
  simp! only [pDk]
  refine for_m (W := fun i env => ∃ (ks : List Nat) (x : C), ks.Nodup ∧ (∀ k ∈ ks, ∃ r ∈ R, r.1 = k) ∧ (∀ r ∈ R.take i, r.1 ∈ ks) ∧ env = [C.fz (.tup (R.map ruD)), C.fz (.int (ks.prod : Nat)), C.ow (setK ks), x]) ⟨[], .un, by simp, by simp, by simp, rfl⟩ ?_ ?_
  · rintro k r env hk ⟨ks, x, h1, h2, h3, rfl⟩
    have hm := List.mem_of_getElem? hk
    have sub : ∀ k ∈ ks, k ∈ ts := fun k hk => by obtain ⟨r, hr, rfl⟩ := h2 k hk; exact t3 r hr
    have hl := BE.nodup_sub h1 sub
    have htk : ∀ q ∈ R.take (k + 1), q ∈ R.take k ∨ q = r := fun q hq => by
      rw [take_snoc hk] at hq
      rcases List.mem_append.mp hq with hq | hq
      · exact .inl hq
      · exact .inr (List.mem_singleton.mp hq)
    unfold ruD
    simp! only [inP_set]
    by_cases hin : r.1 ∈ ks
    · rw [decide_eq_true hin]
      simp only [bne_self_eq_false, Bool.false_eq_true, if_false]
      refine ⟨ks, _, h1, h2, fun q hq => ?_, rfl⟩
      rcases htk q hq with hq | rfl
      · exact h3 q hq
      · exact hin
    · rw [decide_eq_false hin]
      simp only [Bool.bne_true, Bool.not_false, if_true]
      refine setP_set hin (by omega) ?_
      refine ⟨?_, ks ++ [r.1], C.fz (D.tup [D.int (r.1 : Nat), D.tup (r.2.map mvD)]), ?_, ?_, ?_, ?_⟩
      · refine cmP (p2 (BE.prod_8 (by omega) fun k hk => (t2 k (sub k hk)).2) (by decide)) (p2 (t2 _ (t3 r hm)).2 (by decide))
      · rw [List.nodup_append]
        exact ⟨h1, by simp, fun a ha b hb e => by simp at hb; subst hb; subst e; exact hin ha⟩
      · intro a ha
        rcases List.mem_append.mp ha with ha | ha
        · exact h2 a ha
        · rw [List.mem_singleton] at ha; subst ha; exact ⟨r, hm, rfl⟩
      · intro q hq
        rcases htk q hq with hq | rfl
        · exact List.mem_append_left _ (h3 q hq)
        · exact List.mem_append_right _ (List.mem_singleton.mpr rfl)
      · rw [nm, List.prod_append, List.prod_cons, List.prod_nil, Nat.mul_one]
  · rintro env ⟨ks, x, h1, h2, h3, rfl⟩
    rw [List.take_length] at h3
    simp! only [true_and]
    exact q _ (BE.com_of f h1 h2 h3)
end K65
end

section
set_option autoImplicit false
set_option linter.all false
/-! BE2: chances text by text, added up over all texts of a length. -/
namespace BE
abbrev W := List Nat
def ext (abc : W) (ws : List W) : List W := ws.flatMap fun w => abc.map fun c => w ++ [c]
def lev (abc : W) : Nat → List W
  | 0 => [[]]
  | n + 1 => ext abc (lev abc n)
theorem ext_snoc (abc : W) (ws : List W) (w : W) : ext abc (ws ++ [w]) = ext abc ws ++ abc.map fun c => w ++ [c] := by
  unfold ext
  rw [List.flatMap_append]; simp
theorem ext_len (abc : W) : ∀ ws : List W, (ext abc ws).length = ws.length * abc.length
  | [] => by simp [ext]
  | w :: ws => by
    show (_ ++ ext abc ws).length = _
    rw [List.length_append, List.length_map, ext_len abc ws, List.length_cons, Nat.add_mul]; omega
theorem lev_len (abc : W) : ∀ n, (lev abc n).length = abc.length ^ n
  | 0 => rfl
  | n + 1 => by
    show (ext abc (lev abc n)).length = _
    rw [ext_len, lev_len abc n, Nat.pow_succ]
theorem lev_mem (abc : W) : ∀ n w, w ∈ lev abc n → w.length = n ∧ ∀ c ∈ w, c ∈ abc
  | 0, w, h => by
    have : w = [] := by simpa [lev] using h
    subst this
    exact ⟨rfl, fun c hc => by cases hc⟩
  | n + 1, w, h => by
    obtain ⟨v, hv, hw⟩ := List.mem_flatMap.mp (show w ∈ (lev abc n).flatMap _ from h)
    obtain ⟨c, hc, rfl⟩ := List.mem_map.mp hw
    obtain ⟨h1, h2⟩ := lev_mem abc n v hv
    refine ⟨by simp [h1], fun d hd => ?_⟩
    rcases List.mem_append.mp hd with hd | hd
    · exact h2 d hd
    · rw [List.mem_singleton] at hd; subst hd; exact hc
abbrev S3 := Nat × Nat × Nat
def mvc (R : List Rule) (abc : W) (a c : Nat) : Nat × Nat := (mv R a).getD (abc.idxOf c) (0, 0)
def stp (R : List Rule) (abc : W) (q : S3) (c : Nat) : S3 := (q.1 * (mvc R abc q.2.2 c).2, q.2.1 * tt R q.2.2, (mvc R abc q.2.2 c).1)
def run (R : List Rule) (abc : W) (s : Nat) (w : W) : S3 := w.foldl (stp R abc) (1, 1, s)
theorem run_snoc (R : List Rule) (abc : W) (s : Nat) (w : W) (c : Nat) : run R abc s (w ++ [c]) = stp R abc (run R abc s w) c := by
  unfold run
  rw [List.foldl_append]; rfl
theorem mvc_mem {R : List Rule} {abc : W} {a c : Nat} (g : Good abc.length R) (ha : a < R.length) (hc : c ∈ abc) : mvc R abc a c ∈ mv R a ∧ (mv R a)[abc.idxOf c]? = some (mvc R abc a c) := by
  have hl : (mv R a).length = abc.length := by
    rw [mv_at (List.getElem?_eq_getElem ha)]; exact g.len _ (List.getElem_mem ha)
  have hi : abc.idxOf c < (mv R a).length := by rw [hl]; exact List.idxOf_lt_length_of_mem hc
  have e : (mv R a)[abc.idxOf c]? = some (mvc R abc a c) := by
    unfold mvc
    rw [List.getD_eq_getElem?_getD, List.getElem?_eq_getElem hi]; rfl
  exact ⟨List.mem_of_getElem? e, e⟩
structure RunOk (R : List Rule) (D n : Nat) (q : S3) : Prop where
  at_ : q.2.2 < R.length
  pos : 0 < q.2.1
  dv : q.2.1 ∣ D ^ n
  le : q.1 ≤ q.2.1
theorem stake_le {size : Nat} {R : List Rule} (g : Good size R) {a : Nat} {p : Nat × Nat} (h : p ∈ mv R a) : p.2 ≤ tt R a := by
  obtain ⟨i, hi⟩ := List.mem_iff_getElem?.mp h
  have := get_le_sum (xs := (mv R a).map (·.2)) (j := i) (x := p.2) (by rw [List.getElem?_map, hi]; rfl)
  exact Nat.le_trans this (g.sm a)
theorem stp_ok {R : List Rule} {abc : W} {D n : Nat} (g : Good abc.length R) (hd : ∀ s, s < R.length → tt R s ∣ D) {q : S3} (h : RunOk R D n q) {c : Nat} (hc : c ∈ abc) : RunOk R D (n + 1) (stp R abc q c) := by
  have hm := (mvc_mem g h.at_ hc).1
  refine ⟨g.nx _ hm, Nat.mul_pos h.pos (g.tp _), ?_, Nat.mul_le_mul h.le (stake_le g hm)⟩
  show q.2.1 * tt R q.2.2 ∣ D ^ (n + 1)
  rw [Nat.pow_succ]
  exact Nat.mul_dvd_mul h.dv (hd _ h.at_)
theorem run_ok {R : List Rule} {abc : W} {D : Nat} (g : Good abc.length R) (hd : ∀ s, s < R.length → tt R s ∣ D) {s : Nat} (hs : s < R.length) : ∀ (n : Nat) (w : W), w ∈ lev abc n → RunOk R D n (run R abc s w)
  | 0, w, h => by
    have : w = [] := by simpa [lev] using h
    subst this
    exact ⟨hs, Nat.one_pos, Nat.dvd_refl _, Nat.le_refl _⟩
  | n + 1, w, h => by
    obtain ⟨v, hv, hw⟩ := List.mem_flatMap.mp (show w ∈ (lev abc n).flatMap _ from h)
    obtain ⟨c, hc, rfl⟩ := List.mem_map.mp hw
    rw [run_snoc]
    exact stp_ok g hd (run_ok g hd hs n v hv) hc
/-- the letters take the moves, each once -/
theorem moves_all {R : List Rule} {abc : W} {a : Nat} (g : Good abc.length R) (hn : abc.Nodup) (ha : a < R.length) : abc.map (mvc R abc a) = mv R a := by
  have hl : (mv R a).length = abc.length := by
    rw [mv_at (List.getElem?_eq_getElem ha)]; exact g.len _ (List.getElem_mem ha)
  apply List.ext_getElem?
  intro i
  rw [List.getElem?_map]
  by_cases hi : i < abc.length
  · rw [List.getElem?_eq_getElem hi]
    have e : abc.idxOf abc[i] = i := hn.idxOf_getElem i hi
    have := (mvc_mem g ha (List.getElem_mem hi)).2
    rw [e] at this
    rw [this]; rfl
  · rw [List.getElem?_eq_none (by omega), List.getElem?_eq_none (by omega)]; rfl
theorem div_split {D n b t : Nat} (hb : b ∣ D ^ n) (b0 : 0 < b) (ht : t ∣ D) (t0 : 0 < t) : D ^ (n + 1) / (b * t) = D ^ n / b * (D / t) := by
  obtain ⟨x, hx⟩ := hb
  obtain ⟨y, hy⟩ := ht
  have e1 : D ^ n / b = x := by rw [hx]; exact Nat.mul_div_cancel_left _ b0
  have e2 : D / t = y := by conv => { lhs; rw [hy] }; exact Nat.mul_div_cancel_left _ t0
  rw [e1, e2, Nat.pow_succ, hx]
  have : b * x * D = b * t * (x * y) := by conv => { lhs; rhs; rw [hy] }; ac_rfl
  rw [this]
  exact Nat.mul_div_cancel_left _ (Nat.mul_pos b0 t0)
theorem sum_flat {α β : Type} (f : β → Nat) (g : α → List β) : ∀ xs : List α, ((xs.flatMap g).map f).sum = (xs.map fun x => ((g x).map f).sum).sum
  | [] => rfl
  | x :: xs => by
    rw [List.flatMap_cons, List.map_append, List.sum_append, sum_flat f g xs]; rfl
def val (R : List Rule) (abc : W) (D s n : Nat) (w : W) : Nat := (run R abc s w).1 * (D ^ n / (run R abc s w).2.1)
theorem lev_sum {R : List Rule} {abc : W} {D : Nat} (g : Good abc.length R) (hn : abc.Nodup) (hd : ∀ s, s < R.length → tt R s ∣ D) {s : Nat} (hs : s < R.length) (m : Nat) : ∀ n, ((lev abc n).map fun w => val R abc D s n w * A R D m (run R abc s w).2.2).sum = A R D (n + m) s
  | 0 => by
    show ([[]].map fun w => val R abc D s 0 w * A R D m (run R abc s w).2.2).sum = _
    rw [Nat.zero_add]
    show 1 * (D ^ 0 / 1) * A R D m s + 0 = _
    simp
  | n + 1 => by
    have ih := lev_sum g hn hd hs (m + 1) n
    rw [show n + 1 + m = n + (m + 1) by omega, ← ih]
    show ((ext abc (lev abc n)).map _).sum = _
    unfold ext
    rw [sum_flat]
    apply sum_congr
    intro w hw
    have ok := run_ok g hd hs n w hw
    have t0 := g.tp (run R abc s w).2.2
    rw [List.map_map]
    have e : abc.map ((fun w => val R abc D s (n + 1) w * A R D m (run R abc s w).2.2) ∘ fun c => w ++ [c]) = (abc.map (mvc R abc (run R abc s w).2.2)).map (fun p : Nat × Nat => p.2 * A R D m p.1 * ((run R abc s w).1 * (D ^ n / (run R abc s w).2.1) * (D / tt R (run R abc s w).2.2))) := by
      rw [List.map_map]
      apply List.map_congr_left
      intro c hc
      show val R abc D s (n + 1) (w ++ [c]) * A R D m (run R abc s (w ++ [c])).2.2 = _
      unfold val
      rw [run_snoc]
      show (run R abc s w).1 * (mvc R abc (run R abc s w).2.2 c).2 * (D ^ (n + 1) / ((run R abc s w).2.1 * tt R (run R abc s w).2.2)) * A R D m (mvc R abc (run R abc s w).2.2 c).1 = _
      rw [div_split ok.dv ok.pos (hd _ ok.at_) t0]
      ac_rfl
    rw [e, moves_all g hn ok.at_, ← sum_mul (fun p : Nat × Nat => p.2 * A R D m p.1)]
    show _ = (run R abc s w).1 * (D ^ n / (run R abc s w).2.1) * (((mv R (run R abc s w).2.2).map fun p => p.2 * A R D m p.1).sum * (D / tt R (run R abc s w).2.2))
    ac_rfl
theorem lev_sum0 {R : List Rule} {abc : W} {D : Nat} (g : Good abc.length R) (hn : abc.Nodup) (hd : ∀ s, s < R.length → tt R s ∣ D) {s : Nat} (hs : s < R.length) (n : Nat) : ((lev abc n).map fun w => val R abc D s n w).sum = A R D n s := by
  have h := lev_sum g hn hd hs 0 n
  rw [Nat.add_zero] at h
  rw [← h]
  apply sum_congr
  intro w _
  show _ = _ * 1
  rw [Nat.mul_one]
theorem val_le {R : List Rule} {abc : W} {D : Nat} (g : Good abc.length R) (hd : ∀ s, s < R.length → tt R s ∣ D) {s : Nat} (hs : s < R.length) {n : Nat} {w : W} (hw : w ∈ lev abc n) : val R abc D s n w ≤ D ^ n := by
  have ok := run_ok g hd hs n w hw
  unfold val
  calc (run R abc s w).1 * (D ^ n / (run R abc s w).2.1) ≤ (run R abc s w).2.1 * (D ^ n / (run R abc s w).2.1) := Nat.mul_le_mul_right _ ok.le
    _ ≤ D ^ n := Nat.mul_div_le _ _
end BE
end

section
set_option linter.all false
set_option maxRecDepth 100000
set_option maxHeartbeats 1000000
set_option autoImplicit false
namespace K65
open PySem PySem.Spec PyProof.Rows L2 PL
local macro_rules
  | `(tactic| simp! only [$xs,*]) => `(tactic| (try simp only [PL.dflS, PL.pickLD, PL.lcmP_i, PL.isoP, PL.pMeth, PL.pOEq, PL.pLcntB, PL.reprTP_t, PL.strIP_i, PL.pChain, PL.allP_lst, PL.anyP_lst, PL.rg3_i, PL.piR3, PL.upP_s, PL.pUp, PL.gcdP_i, PL.xBi, PL.xJoin, PL.xiE, PL.xLc_eq, PL.pRaise1, PL.pRaise2, PL.xPure, PL.xaPure, PL.xaNil, PL.xaCons, PL.xCall, PL.xCallK, PL.nrX, PL.xLst, PL.xTup, PL.xBin, PL.pDropX, PL.pRetX, PL.pSetX, PL.pTry, PL.pIsEs, PL.pLidx, PL.ltTP_t, PL.pRev, PL.revP_l, PL.revP_s, PL.pMtS, PL.mtSP_s, PL.findF_1, PL.findF_2, PL.startsF_1, PL.sidxF_1, PL.scntF_1, PL.pSeq, PL.pNext, PL.pSet, PL.pSetO, PL.pRet, PL.pRetN, PL.pIfS, PL.pFor, PL.pWhile, PL.pBrk, PL.pCnt, PL.pDrop, PL.pApp, PL.pAsg, PL.pgN, PL.pFrz, PL.frz, PL.pC, PL.pN, PL.pNo, PL.pBin, PL.negP, PL.pB, PL.pAnd, PL.pOr, PL.pNot, PL.pAndV, PL.pOrV, PL.pNotV, PL.pIf, PL.paNil, PL.paCons, PL.pLst, PL.pTup, PL.pIx, PL.pSl, PL.poNone, PL.poSome, PL.pCall, PL.pCallK, PL.piR1, PL.piR2, PL.piE, PL.pBits, PL.isiP_eq, PL.pLr1, PL.pJoinR, PL.pJoin, PL.pLc_eq, PL.pYes, PL.wipeC, PL.pBor, PL.pBorT, PL.frzs, PL.pSetI, PL.pChainT, PL.isNP, PL.addP_i, PL.addP_s, PL.addP_t, PL.addP_l, PL.catP_l, PL.subP_i, PL.mulP_i, PL.mulP_l, PL.repP_l, PL.mulP_s, PL.fdivP_i, PL.modP_i, PL.powP_i, PL.ltP_i, PL.ltP_s, PL.gtP_i, PL.gtP_s, PL.leP_i, PL.leP_s, PL.geP_i, PL.geP_s, PL.eqP_int, PL.eqP_str, PL.eqP_bl, PL.eqP_lst_lst, PL.eqP_tup_tup, PL.eqP_lst_tup, PL.eqP_tup_lst, PL.neP_int, PL.neP_str, PL.neP_bl, PL.neP_lst_lst, PL.neP_tup_tup, PL.neP_lst_tup, PL.neP_tup_lst, PL.asB_b, PL.asS_s, PL.lenP_lst, PL.itP_lst, PL.ixP_lst, PL.listP_lst_, PL.tupleP_lst_, PL.sumP_lst_, PL.maxP_lst_, PL.minP_lst_, PL.lenP_tup, PL.itP_tup, PL.ixP_tup, PL.listP_tup_, PL.tupleP_tup_, PL.sumP_tup_, PL.maxP_tup_, PL.minP_tup_, PL.lenP_scr, PL.itP_scr, PL.ixP_scr, PL.listP_scr_, PL.tupleP_scr_, PL.sumP_scr_, PL.maxP_scr_, PL.minP_scr_, PL.lenP_str, PL.lenP_dk, PL.itP_str, PL.ixP_str, PL.intP_i, PL.intP_b, PL.rg1_i, PL.rg2_i, PL.lr1_i, PL.lr2_i, PL.maxP_2, PL.maxP_3, PL.minP_2, PL.minP_3, PL.slP_lst, PL.slP_tup, PL.slP_str, PL.slPL_lst, PL.pgTup_t, PL.pgTup_l, PL.pgsCons_c, PL.pgsNil_n, PL.joinRP_l, PL.reprP_i, PL.reprP_s, PL.setP_i, PL.ixE_0, PL.ixE_1, PL.ixE_2, PL.ixE_3, PL.ixE_4, PL.ixE_5, PL.ixE_6, PL.ixE_7, PL.ixE_8, PL.isqrtP_i, PL.reprLP_l, PL.pMkE, PL.pErF, PL.pIsE, PL.pRevS, PL.pRetO, PL.pRetON, PL.pNever, PL.pExt, PL.listDP_d, PL.pFld, PL.pFldS, PL.setF, PL.slfD, PL.piEn, PL.itEn, PL.isi2P, PL.isBP, PL.pDk, PL.pDt, PL.divmodP_i, PL.pGet, PL.isi_non_int, PL.isi_non_bool, PL.isi_non_str, PL.isi_non_list, PL.isi_non_tuple, PL.isi_bl_int, PL.isi_bl_bool, PL.isi_bl_str, PL.isi_bl_list, PL.isi_bl_tuple, PL.isi_int_int, PL.isi_int_bool, PL.isi_int_str, PL.isi_int_list, PL.isi_int_tuple, PL.isi_str_int, PL.isi_str_bool, PL.isi_str_str, PL.isi_str_list, PL.isi_str_tuple, PL.isi_tup_int, PL.isi_tup_bool, PL.isi_tup_str, PL.isi_tup_list, PL.isi_tup_tuple, PL.isi_lst_int, PL.isi_lst_bool, PL.isi_lst_str, PL.isi_lst_list, PL.isi_lst_tuple, PL.pickL, List.filterMap_cons, List.filterMap_nil, true_and, decide_true, decide_false, eq_self, Int.zero_add, decide_eq_true_eq, PL.rowE, PL.rowS, PL.startC, List.length_map, List.map_cons, List.map_nil, List.length_cons, List.length_nil, List.append_nil, List.nil_append, List.cons_append, List.replicate_succ, List.replicate_zero, List.set_cons_zero, List.set_cons_succ, List.getElem?_cons_zero, List.getElem?_cons_succ, Nat.reduceAdd, Nat.reduceSub, if_true, Bool.not_true, Bool.not_false, Bool.false_eq_true, if_false, $xs,*]))
theorem AB.nd {abc : Wd} (ab : AB abc) : abc.Nodup := by
  have lt : ∀ d i a b, abc[i]? = some a → abc[i + d + 1]? = some b → a < b := by
    intro d
    induction d with
    | zero => exact fun i a b ha hb => ab.srt i a b ha hb
    | succ d ih =>
      intro i a b ha hb
      have hl := (List.getElem?_eq_some_iff.mp hb).1
      obtain ⟨c, hc⟩ : ∃ c, abc[i + d + 1]? = some c := ⟨_, List.getElem?_eq_getElem (by omega)⟩
      exact Nat.lt_trans (ih i a c ha hc) (ab.srt (i + d + 1) c b hc hb)
  refine List.pairwise_iff_getElem.mpr fun i j hi hj hij e => ?_
  have := lt (j - i - 1) i abc[i] abc[j] (List.getElem?_eq_getElem hi) (by rw [show i + (j - i - 1) + 1 = j by omega]; exact List.getElem?_eq_getElem hj)
  omega
theorem idx_T {a : Wd} (nd : a.Nodup) {c : Nat} (hm : c ∈ a) : ∃ r, Builtin.Str.occurrences (T a) (T [c]) 0 (T a).length 1 = a.idxOf c :: r := by
  have key : ∀ i, PySem.StrLaws.At (T a) (T [c]) (T a).length i ↔ a[i]? = some c := fun i => by
    have h := PySem.StrLaws.subAt_one (T a) c i
    rw [show (T a).cps.toList = a from by show a.toArray.toList = a; simp] at h
    exact h
  rcases PySem.StrLaws.occ_head (T a) (T [c]) 1 (Nat.le_refl _) with ⟨e, no⟩ | ⟨i, r, e, hi, _⟩
  · exact absurd ((key _).mpr (idx_get hm)) (no _)
  · have h := (key i).mp hi
    exact ⟨r, by rw [e, nd_idx nd h]⟩
/-! ### all texts of a length -/
def sp_law_all_texts : PSp := fun ds P => ∃ (abc : Wd) (n : Nat), ds = [TD abc, .int (n : Nat)] ∧ (∀ k, k ≤ n → abc.length ^ k ≤ 1000) ∧ abc.length ≤ 6 ∧ n ≤ 1000 ∧ P (.lst ((BE.lev abc n).map TD))
theorem len_law_all_texts : ∀ ds P, sp_law_all_texts ds P → ds.length = 2 := by rintro _ _ ⟨_, _, rfl, _⟩; rfl
theorem w_law_all_texts : ∀ ds Q, sp_law_all_texts ds Q → b_law_all_texts { nx := fun _ => Q .non, rt := Q } (startC ["alphabet", "steps", "texts", "turn", "grown", "text", "letter"] ds) := by
  rintro _ Q ⟨abc, n, rfl, hb, h6, hn, q⟩
  have hz : sizeLine = 16777216 := PySem.sizeLine_eq
  simp only [PL.startC, List.map_cons, List.map_nil, List.length_cons, List.length_nil, Nat.reduceAdd, Nat.reduceSub, List.replicate_succ, List.replicate_zero, List.cons_append, List.nil_append, List.append_nil]
  unfold b_law_all_texts
  simp! only [true_and]
  refine ⟨by omega, ⟨by omega, by omega⟩, ?_⟩
  refine for_r (W := fun i env => ∃ x y z w : C, env = [C.fz (TD abc), C.fz (.int (n : Nat)), C.fz (.lst ((BE.lev abc i).map TD)), x, y, z, w]) ⟨.un, .un, .un, .un, rfl⟩ ?_ ?_
  · rintro k env hk ⟨x, y, z, w, rfl⟩
    have hk : k < n := hk
    have hlen : (BE.lev abc k).length ≤ 1000 := by rw [BE.lev_len]; exact hb k (by omega)
    have hext : ∀ j, (BE.ext abc ((BE.lev abc k).take j)).length ≤ 6000 := fun j => by
      rw [BE.ext_len, List.length_take]
      calc min j (BE.lev abc k).length * abc.length ≤ 1000 * 6 := Nat.mul_le_mul (by omega) h6
        _ = 6000 := rfl
    simp! only [true_and]
    refine ⟨by decide, ?_⟩
    refine for_m (W := fun j env => ∃ z w : C, env = [C.fz (TD abc), C.fz (.int (n : Nat)), C.fz (.lst ((BE.lev abc k).map TD)), C.fz (.int (k : Nat)), C.ow (.lst ((BE.ext abc ((BE.lev abc k).take j)).map TD)), z, w]) ⟨_, _, rfl⟩ ?_ ?_
    · rintro j v env hj ⟨z, w, rfl⟩
      obtain ⟨lv, _⟩ := BE.lev_mem abc k v (List.mem_of_getElem? hj)
      have hx := hext j
      simp only [show TD abc = D.str (T abc) from rfl]
      simp! only [true_and]
      rw [signs_T]
      refine for_m (W := fun i env => ∃ w : C, env = [C.fz (TD abc), C.fz (.int (n : Nat)), C.fz (.lst ((BE.lev abc k).map TD)), C.fz (.int (k : Nat)), C.ow (.lst ((BE.ext abc ((BE.lev abc k).take j) ++ (abc.take i).map fun c => v ++ [c]).map TD)), C.fz (TD v), w]) ⟨w, by rw [List.take_zero, List.map_nil, List.append_nil]; rfl⟩ ?_ ?_
      · rintro i c env hi ⟨w, rfl⟩
        simp only [show TD v = D.str (T v) from rfl, show TD [c] = D.str (T [c]) from rfl]
        simp! only [true_and]
        rw [T_app, T_len, T_len, lv]
        have hic := (List.getElem?_eq_some_iff.mp hi).1
        refine ⟨by show k + 1 ≤ _; omega, by rw [List.length_append, List.length_map, List.length_take]; omega, C.fz (TD [c]), ?_⟩
        simp only [take_snoc hi, List.map_append, List.append_assoc]
        rfl
      · rintro env ⟨w, rfl⟩
        rw [List.take_length, take_snoc hj, BE.ext_snoc]
        exact ⟨_, _, rfl⟩
    · rintro env ⟨z, w, rfl⟩
      rw [List.take_length]
      simp! only [true_and]
      exact ⟨_, rfl, _, _, _, _, rfl⟩
  · rintro env ⟨x, y, z, w, rfl⟩
    simp! only [true_and]
    exact q
/-! ### the product of the shares of a text -/
theorem run_take (R : List BE.Rule) (abc : Wd) (s : Nat) {w : Wd} {k c : Nat} (h : w[k]? = some c) : BE.run R abc s (w.take (k + 1)) = BE.stp R abc (BE.run R abc s (w.take k)) c := by
  rw [take_snoc h, BE.run_snoc]
theorem run_good {R : List BE.Rule} {abc : Wd} (g : BE.Good abc.length R) (f : BE.Few R) {s : Nat} (hs : s < R.length) {w : Wd} (hw : ∀ c ∈ w, c ∈ abc) (k : Nat) (hk : k ≤ w.length) : BE.RunOk R (BE.lcmL R) k (BE.run R abc s (w.take k)) := by
  induction k with
  | zero => exact ⟨hs, Nat.one_pos, Nat.dvd_refl _, Nat.le_refl _⟩
  | succ k ih =>
    have hkl : k < w.length := hk
    have hc : w[k]? = some w[k] := List.getElem?_eq_getElem hkl
    rw [run_take R abc s hc]
    exact BE.stp_ok g (BE.lcm_com f).dv (ih (by omega)) (hw _ (List.getElem_mem hkl))
def sp_law_product : PSp := fun ds P => ∃ (abc : Wd) (R : List BE.Rule) (w : Wd) (s : Nat), ds = [TD abc, rusD R, TD w, .int (s : Nat)] ∧ AB abc ∧ BE.Good abc.length R ∧ BE.Few R ∧ s < R.length ∧ w.length ≤ 20 ∧ (∀ c ∈ w, c ∈ abc) ∧
  P (.lst [.int ((BE.run R abc s w).1 : Nat), .int ((BE.run R abc s w).2.1 : Nat), .int ((BE.run R abc s w).2.2 : Nat)])
theorem len_law_product : ∀ ds P, sp_law_product ds P → ds.length = 4 := by rintro _ _ ⟨_, _, _, _, rfl, _⟩; rfl
theorem w_law_product : ∀ ds Q, sp_law_product ds Q → b_law_product { nx := fun _ => Q .non, rt := Q } (startC ["alphabet", "rules", "text", "s", "top", "bottom", "at", "letter", "move"] ds) := by
  rintro _ Q ⟨abc, R, w, s, rfl, ab, g, f, hs, hl, hw, q⟩
  have hz : sizeLine = 16777216 := PySem.sizeLine_eq
  simp only [PL.startC, List.map_cons, List.map_nil, List.length_cons, List.length_nil, Nat.reduceAdd, Nat.reduceSub, List.replicate_succ, List.replicate_zero, List.cons_append, List.nil_append, List.append_nil]
  unfold b_law_product
  simp only [show TD w = D.str (T w) from rfl]
  simp! only [true_and]
  rw [signs_T]
  refine for_m (W := fun i env => ∃ x y : C, env = [C.fz (TD abc), C.fz (rusD R), C.fz (TD w), C.fz (.int (s : Nat)), C.fz (.int ((BE.run R abc s (w.take i)).1 : Nat)), C.fz (.int ((BE.run R abc s (w.take i)).2.1 : Nat)), C.fz (.int ((BE.run R abc s (w.take i)).2.2 : Nat)), x, y]) ⟨.un, .un, rfl⟩ ?_ ?_
  · rintro k c env hk ⟨x, y, rfl⟩
    have hkl := (List.getElem?_eq_some_iff.mp hk).1
    have hc := hw c (List.mem_of_getElem? hk)
    have ok := run_good g f hs hw k (by omega)
    obtain ⟨hm1, hm2⟩ := BE.mvc_mem g ok.at_ hc
    obtain ⟨rest, hr⟩ := idx_T ab.nd hc
    have hb1 : (BE.run R abc s (w.take k)).2.1 ≤ 2 ^ 3680 := Nat.le_trans (Nat.le_of_dvd (Nat.pow_pos (BE.lcm_com f).pos) ok.dv) ((BE.lcm_com f).pw (by omega)).1
    have hb0 := Nat.le_trans ok.le hb1
    obtain ⟨r, hrule⟩ : ∃ r, R[(BE.run R abc s (w.take k)).2.2]? = some r := ⟨_, List.getElem?_eq_getElem ok.at_⟩
    have ht : r.1 ≤ 2 ^ 23 := by
      obtain ⟨ts, t1, t2, t3⟩ := f.ex
      exact (t2 _ (t3 _ (List.mem_of_getElem? hrule))).2
    have hst := BE.stake_le g hm1
    rw [BE.tt_at hrule] at hst
    rw [BE.mv_at hrule] at hm2
    rw [run_take R abc s hk]
    unfold BE.stp
    rw [BE.tt_at hrule]
    generalize BE.run R abc s (w.take k) = z at *
    generalize BE.mvc R abc z.2.2 c = m at *
    unfold rusD
    simp only [show TD abc = D.str (T abc) from rfl, show TD [c] = D.str (T [c]) from rfl]
    simp! only [true_and]
    refine ⟨ruD r, atI_map ruD hrule, ?_⟩
    unfold ruD
    simp! only [true_and]
    refine ⟨_, rest, hr, mvD m, atI_map mvD hm2, ?_⟩
    unfold mvD
    simp! only [true_and]
    refine ⟨cmP (p2 hb0 (by decide)) (p2 (Nat.le_trans hst ht) (by decide)), _, atI_map _ hrule, ?_⟩
    simp! only [true_and]
    refine ⟨cmP (p2 hb1 (by decide)) (p2 ht (by decide)), ?_⟩
    rw [nm, nm]
    exact ⟨_, _, rfl⟩
  · rintro env ⟨x, y, rfl⟩
    rw [List.take_length]
    simp! only [true_and]
    exact ⟨by omega, q⟩
/-! ### by listing -/
def sp_law_listed : PSp := fun ds P => ∃ (abc : Wd) (R : List BE.Rule) (s n : Nat), ds = [TD abc, rusD R, .int (s : Nat), .int (n : Nat)] ∧ AB abc ∧ BE.Good abc.length R ∧ BE.Few R ∧ s < R.length ∧ n ≤ 20 ∧ (∀ k, k ≤ n → abc.length ^ k ≤ 1000) ∧
  ∀ C : Nat, BE.Com R C → P (.lst [.int (BE.A R C n s : Nat), .int ((C ^ n : Nat) : Int)])
theorem len_law_listed : ∀ ds P, sp_law_listed ds P → ds.length = 4 := by rintro _ _ ⟨_, _, _, _, rfl, _⟩; rfl
theorem w_law_listed : ∀ ds Q, sp_law_listed ds Q → b_law_listed sp_law_common sp_law_all_texts sp_law_product { nx := fun _ => Q .non, rt := Q } (startC ["alphabet", "rules", "s", "steps", "common", "bottom", "turn", "top", "text", "made"] ds) := by
  rintro _ Q ⟨abc, R, s, n, rfl, ab, g, f, hs, hn, hp, q⟩
  have hz : sizeLine = 16777216 := PySem.sizeLine_eq
  simp only [PL.startC, List.map_cons, List.map_nil, List.length_cons, List.length_nil, Nat.reduceAdd, Nat.reduceSub, List.replicate_succ, List.replicate_zero, List.cons_append, List.nil_append, List.append_nil]
  unfold b_law_listed
  simp! only [true_and]
  refine ⟨R, rfl, f, fun C' c => ?_⟩
  refine ⟨⟨by omega, by omega⟩, ?_⟩
  refine for_r (W := fun i env => ∃ x : C, env = [C.fz (TD abc), C.fz (rusD R), C.fz (.int (s : Nat)), C.fz (.int (n : Nat)), C.fz (.int (C' : Nat)), C.fz (.int ((C' ^ i : Nat) : Int)), x, .un, .un, .un]) ⟨.un, rfl⟩ ?_ ?_
  · rintro k env hk ⟨x, rfl⟩
    have hk : k < n := hk
    simp! only [true_and]
    refine ⟨cmP (p2 (c.pw (L := k) (by omega)).1 (by decide)) (p2 c.le (by decide)), ?_⟩
    rw [nm, ← Nat.pow_succ]
    exact ⟨_, rfl⟩
  rintro env ⟨x, rfl⟩
  simp only [show ((n : Nat) : Int).toNat = n from rfl]
  simp! only [true_and]
  refine ⟨abc, n, rfl, hp, ab.l6, by omega, ?_⟩
  simp! only [true_and]
  have hsum : ∀ i, (((BE.lev abc n).take i).map fun w => BE.val R abc C' s n w).sum ≤ 2 ^ 3680 := fun i => by
    refine Nat.le_trans ?_ (Nat.le_trans (BE.A_le g c.dv n s hs) (c.pw hn).1)
    rw [← BE.lev_sum0 g ab.nd c.dv hs n]
    conv => rhs; rw [← List.take_append_drop i (BE.lev abc n), List.map_append, List.sum_append]
    exact Nat.le_add_right _ _
  refine for_m (W := fun i env => ∃ y z : C, env = [C.fz (TD abc), C.fz (rusD R), C.fz (.int (s : Nat)), C.fz (.int (n : Nat)), C.fz (.int (C' : Nat)), C.fz (.int ((C' ^ n : Nat) : Int)), x, C.fz (.int (((((BE.lev abc n).take i).map fun w => BE.val R abc C' s n w).sum : Nat) : Int)), y, z]) ⟨_, _, rfl⟩ ?_ ?_
  · rintro k w env hk ⟨y, z, rfl⟩
    have hm := List.mem_of_getElem? hk
    obtain ⟨l1, l2⟩ := BE.lev_mem abc n w hm
    have ok := BE.run_ok g c.dv hs n w hm
    have hb1 : (BE.run R abc s w).2.1 ≤ 2 ^ 3680 := Nat.le_trans (Nat.le_of_dvd (Nat.pow_pos c.pos) ok.dv) (c.pw hn).1
    simp! only [true_and]
    refine ⟨abc, R, w, s, rfl, ab, g, f, hs, by omega, l2, ?_⟩
    have hv : (((BE.lev abc n).take (k + 1)).map fun w => BE.val R abc C' s n w).sum = (((BE.lev abc n).take k).map fun w => BE.val R abc C' s n w).sum + (BE.run R abc s w).1 * (C' ^ n / (BE.run R abc s w).2.1) := by
      rw [take_snoc hk, List.map_append, List.sum_append]
      show _ + (BE.val R abc C' s n w + 0) = _
      rw [Nat.add_zero]; rfl
    rw [hv]
    generalize BE.run R abc s w = z at *
    simp! only [true_and]
    have h1 := ok.pos
    refine ⟨cdiv_nat h1 (Sm.of hb1 (by decide)), ?_⟩
    rw [show (((C' ^ n : Nat) : Int) / ((z.2.1 : Nat) : Int)) = ((C' ^ n / z.2.1 : Nat) : Int) from rfl]
    refine ⟨cmP (p2 (Nat.le_trans ok.le hb1) (by decide)) (p2 (Nat.le_trans (Nat.div_le_self _ _) (c.pw hn).1) (by decide)), ?_⟩
    rw [nm]
    exact ⟨_, _, rfl⟩
  · rintro env ⟨y, z, rfl⟩
    rw [List.take_length, BE.lev_sum0 g ab.nd c.dv hs n]
    simp! only [true_and]
    exact ⟨by omega, q C' c⟩
end K65
end

section
set_option linter.all false
set_option maxRecDepth 100000
set_option maxHeartbeats 1000000
set_option autoImplicit false
namespace K65
open PySem PySem.Spec PyProof.Rows L2 PL
local macro_rules
  | `(tactic| simp! only [$xs,*]) => `(tactic| (try simp only [PL.dflS, PL.pickLD, PL.lcmP_i, PL.isoP, PL.pMeth, PL.pOEq, PL.pLcntB, PL.reprTP_t, PL.strIP_i, PL.pChain, PL.allP_lst, PL.anyP_lst, PL.rg3_i, PL.piR3, PL.upP_s, PL.pUp, PL.gcdP_i, PL.xBi, PL.xJoin, PL.xiE, PL.xLc_eq, PL.pRaise1, PL.pRaise2, PL.xPure, PL.xaPure, PL.xaNil, PL.xaCons, PL.xCall, PL.xCallK, PL.nrX, PL.xLst, PL.xTup, PL.xBin, PL.pDropX, PL.pRetX, PL.pSetX, PL.pTry, PL.pIsEs, PL.pLidx, PL.ltTP_t, PL.pRev, PL.revP_l, PL.revP_s, PL.pMtS, PL.mtSP_s, PL.findF_1, PL.findF_2, PL.startsF_1, PL.sidxF_1, PL.scntF_1, PL.pSeq, PL.pNext, PL.pSet, PL.pSetO, PL.pRet, PL.pRetN, PL.pIfS, PL.pFor, PL.pWhile, PL.pBrk, PL.pCnt, PL.pDrop, PL.pApp, PL.pAsg, PL.pgN, PL.pFrz, PL.frz, PL.pC, PL.pN, PL.pNo, PL.pBin, PL.negP, PL.pB, PL.pAnd, PL.pOr, PL.pNot, PL.pAndV, PL.pOrV, PL.pNotV, PL.pIf, PL.paNil, PL.paCons, PL.pLst, PL.pTup, PL.pIx, PL.pSl, PL.poNone, PL.poSome, PL.pCall, PL.pCallK, PL.piR1, PL.piR2, PL.piE, PL.pBits, PL.isiP_eq, PL.pLr1, PL.pJoinR, PL.pJoin, PL.pLc_eq, PL.pYes, PL.wipeC, PL.pBor, PL.pBorT, PL.frzs, PL.pSetI, PL.pChainT, PL.isNP, PL.addP_i, PL.addP_s, PL.addP_t, PL.addP_l, PL.catP_l, PL.subP_i, PL.mulP_i, PL.mulP_l, PL.repP_l, PL.mulP_s, PL.fdivP_i, PL.modP_i, PL.powP_i, PL.ltP_i, PL.ltP_s, PL.gtP_i, PL.gtP_s, PL.leP_i, PL.leP_s, PL.geP_i, PL.geP_s, PL.eqP_int, PL.eqP_str, PL.eqP_bl, PL.eqP_lst_lst, PL.eqP_tup_tup, PL.eqP_lst_tup, PL.eqP_tup_lst, PL.neP_int, PL.neP_str, PL.neP_bl, PL.neP_lst_lst, PL.neP_tup_tup, PL.neP_lst_tup, PL.neP_tup_lst, PL.asB_b, PL.asS_s, PL.lenP_lst, PL.itP_lst, PL.ixP_lst, PL.listP_lst_, PL.tupleP_lst_, PL.sumP_lst_, PL.maxP_lst_, PL.minP_lst_, PL.lenP_tup, PL.itP_tup, PL.ixP_tup, PL.listP_tup_, PL.tupleP_tup_, PL.sumP_tup_, PL.maxP_tup_, PL.minP_tup_, PL.lenP_scr, PL.itP_scr, PL.ixP_scr, PL.listP_scr_, PL.tupleP_scr_, PL.sumP_scr_, PL.maxP_scr_, PL.minP_scr_, PL.lenP_str, PL.lenP_dk, PL.itP_str, PL.ixP_str, PL.intP_i, PL.intP_b, PL.rg1_i, PL.rg2_i, PL.lr1_i, PL.lr2_i, PL.maxP_2, PL.maxP_3, PL.minP_2, PL.minP_3, PL.slP_lst, PL.slP_tup, PL.slP_str, PL.slPL_lst, PL.pgTup_t, PL.pgTup_l, PL.pgsCons_c, PL.pgsNil_n, PL.joinRP_l, PL.reprP_i, PL.reprP_s, PL.setP_i, PL.ixE_0, PL.ixE_1, PL.ixE_2, PL.ixE_3, PL.ixE_4, PL.ixE_5, PL.ixE_6, PL.ixE_7, PL.ixE_8, PL.isqrtP_i, PL.reprLP_l, PL.pMkE, PL.pErF, PL.pIsE, PL.pRevS, PL.pRetO, PL.pRetON, PL.pNever, PL.pExt, PL.listDP_d, PL.pFld, PL.pFldS, PL.setF, PL.slfD, PL.piEn, PL.itEn, PL.isi2P, PL.isBP, PL.pDk, PL.pDt, PL.divmodP_i, PL.pGet, PL.isi_non_int, PL.isi_non_bool, PL.isi_non_str, PL.isi_non_list, PL.isi_non_tuple, PL.isi_bl_int, PL.isi_bl_bool, PL.isi_bl_str, PL.isi_bl_list, PL.isi_bl_tuple, PL.isi_int_int, PL.isi_int_bool, PL.isi_int_str, PL.isi_int_list, PL.isi_int_tuple, PL.isi_str_int, PL.isi_str_bool, PL.isi_str_str, PL.isi_str_list, PL.isi_str_tuple, PL.isi_tup_int, PL.isi_tup_bool, PL.isi_tup_str, PL.isi_tup_list, PL.isi_tup_tuple, PL.isi_lst_int, PL.isi_lst_bool, PL.isi_lst_str, PL.isi_lst_list, PL.isi_lst_tuple, PL.pickL, List.filterMap_cons, List.filterMap_nil, true_and, decide_true, decide_false, eq_self, Int.zero_add, decide_eq_true_eq, PL.rowE, PL.rowS, PL.startC, List.length_map, List.map_cons, List.map_nil, List.length_cons, List.length_nil, List.append_nil, List.nil_append, List.cons_append, List.replicate_succ, List.replicate_zero, List.set_cons_zero, List.set_cons_succ, List.getElem?_cons_zero, List.getElem?_cons_succ, Nat.reduceAdd, Nat.reduceSub, if_true, Bool.not_true, Bool.not_false, Bool.false_eq_true, if_false, $xs,*]))
def natD (x : Nat) : D := .int (x : Nat)
theorem map_natD_set (xs : List Nat) (j x : Nat) : (xs.map natD).set j (D.int (x : Nat)) = (xs.set j x).map natD := by
  rw [List.map_set]; rfl
theorem map_natD_set1 (xs : List Nat) (j : Nat) : (xs.map natD).set j (D.int 1) = (xs.set j 1).map natD := map_natD_set xs j 1
theorem sum_cast : ∀ xs : List Nat, (xs.map fun x : Nat => (x : Int)).sum = ((xs.sum : Nat) : Int)
  | [] => rfl
  | x :: xs => by simp only [List.map_cons, List.sum_cons, sum_cast xs, Int.natCast_add]
theorem rep_snoc (k : Nat) : (List.replicate k 0).map natD ++ [D.int 0] = natD 0 :: (List.replicate k 0).map natD := by
  rw [List.map_replicate]
  exact (List.replicate_succ' ..).symm.trans List.replicate_succ
def sp_law_weights : PSp := fun ds P => ∃ (size : Nat) (R : List BE.Rule) (s n : Nat), ds = [rusD R, .int (s : Nat), .int (n : Nat)] ∧ BE.Good size R ∧ BE.Few R ∧ R.length ≤ 1000 ∧ s < R.length ∧ n ≤ 20 ∧
  ∀ C : Nat, BE.Com R C → P (.lst [.int (BE.A R C n s : Nat), .int ((C ^ n : Nat) : Int)])
theorem len_law_weights : ∀ ds P, sp_law_weights ds P → ds.length = 3 := by rintro _ _ ⟨_, _, _, _, rfl, _⟩; rfl
theorem w_law_weights : ∀ ds Q, sp_law_weights ds Q → b_law_weights sp_law_common { nx := fun _ => Q .non, rt := Q } (startC ["rules", "s", "steps", "common", "bottom", "weights", "turn", "grown", "at", "part", "move", "rule"] ds) := by
  rintro _ Q ⟨size, R, s, n, rfl, g, f, hR, hs, hn, q⟩
  have hz : sizeLine = 16777216 := PySem.sizeLine_eq
  simp only [PL.startC, List.map_cons, List.map_nil, List.length_cons, List.length_nil, Nat.reduceAdd, Nat.reduceSub, List.replicate_succ, List.replicate_zero, List.cons_append, List.nil_append, List.append_nil]
  unfold b_law_weights
  simp! only [true_and]
  refine ⟨R, rfl, f, fun C' c => ?_⟩
  unfold rusD
  simp! only [true_and]
  refine lc_m (W := fun k acc => acc = (List.replicate k 0).map natD) rfl ?_ ?_
  · rintro k r acc hk rfl
    have hkl := (List.getElem?_eq_some_iff.mp hk).1
    simp! only [true_and]
    refine ⟨by rw [List.length_replicate]; omega, ?_⟩
    exact rep_snoc k
  rintro acc rfl
  simp! only [true_and]
  refine ⟨s, ixN_nat (by rw [List.length_replicate]; exact hs), ?_⟩
  rw [map_natD_set1]
  refine ⟨⟨by omega, by omega⟩, ?_⟩
  refine for_r (W := fun i env => ∃ (ws : List Nat) (x y z u v w : C), ws.length = R.length ∧ BE.dot (BE.A R C' (n - i)) 0 ws = BE.A R C' n s ∧ ws.sum ≤ C' ^ i ∧
    env = [C.fz (.tup (R.map ruD)), C.fz (.int (s : Nat)), C.fz (.int (n : Nat)), C.fz (.int (C' : Nat)), C.fz (.int ((C' ^ i : Nat) : Int)), C.ow (.lst (ws.map natD)), x, y, z, u, v, w]) ⟨_, .un, .un, .un, .un, .un, .un, by simp, by rw [Nat.sub_zero, BE.dot_unit _ _ _ hs], ?_, rfl⟩ ?_ ?_
  · rw [← BE.dot_one _ 0, BE.dot_unit _ _ _ hs]; exact Nat.le_refl _
  · rintro i env hi ⟨ws, x, y, z, u, v, w, wl, w1, w2, rfl⟩
    have hi : i < n := hi
    simp! only [true_and]
    refine lc_m (W := fun k acc => acc = (List.replicate k 0).map natD) rfl ?_ ?_
    · rintro k r acc hk rfl
      have hkl := (List.getElem?_eq_some_iff.mp hk).1
      simp! only [true_and]
      refine ⟨by rw [List.length_replicate]; omega, ?_⟩
      exact rep_snoc k
    rintro acc rfl
    simp! only [true_and]
    refine ⟨⟨by omega, by omega⟩, ?_⟩
    have hwb : ∀ (a x : Nat), ws[a]? = some x → x ≤ 2 ^ 3680 := fun a x h => Nat.le_trans (BE.get_le_sum h) (Nat.le_trans w2 (c.pw (by omega)).1)
    refine for_r (W := fun a env => ∃ (gs : List Nat) (z u v w : C), gs.length = R.length ∧ BE.dot (BE.A R C' (n - (i + 1))) 0 gs = BE.dot (BE.A R C' (n - i)) 0 (ws.take a) ∧ gs.sum ≤ (ws.take a).sum * C' ∧
      env = [C.fz (.tup (R.map ruD)), C.fz (.int (s : Nat)), C.fz (.int (n : Nat)), C.fz (.int (C' : Nat)), C.fz (.int ((C' ^ i : Nat) : Int)), C.ow (.lst (ws.map natD)), C.fz (.int (i : Nat)), C.ow (.lst (gs.map natD)), z, u, v, w]) ⟨List.replicate R.length 0, _, _, _, _, by rw [List.length_replicate], by rw [BE.dot_zero]; rfl, by rw [← BE.dot_one _ 0, BE.dot_zero]; exact Nat.zero_le _, rfl⟩ ?_ ?_
    · rintro a env ha ⟨gs, z, u, v, w, gl, g1, g2, rfl⟩
      have ha : a < R.length := ha
      obtain ⟨r, hr⟩ : ∃ r, R[a]? = some r := ⟨_, List.getElem?_eq_getElem ha⟩
      obtain ⟨x, hx⟩ : ∃ x, ws[a]? = some x := ⟨_, List.getElem?_eq_getElem (by omega)⟩
      have hxb := hwb a x hx
      have hm := List.mem_of_getElem? hr
      have ht1 := g.t1 r hm
      have tb : r.1 ≤ 2 ^ 23 := by
        obtain ⟨ts, t1, t2, t3⟩ := f.ex
        exact (t2 _ (t3 r hm)).2
      have el : n - i = (n - (i + 1)) + 1 := by omega
      have hA : BE.A R C' (n - i) a = (r.2.map fun p => p.2 * BE.A R C' (n - (i + 1)) p.1).sum * (C' / r.1) := by
        rw [el]
        show ((BE.mv R a).map fun p => p.2 * BE.A R C' (n - (i + 1)) p.1).sum * (C' / BE.tt R a) = _
        rw [BE.mv_at hr, BE.tt_at hr]
      have hd : BE.dot (BE.A R C' (n - i)) 0 (ws.take (a + 1)) = BE.dot (BE.A R C' (n - i)) 0 (ws.take a) + x * BE.A R C' (n - i) a := by
        rw [take_snoc hx, BE.dot_snoc, List.length_take, Nat.min_eq_left (by omega), Nat.zero_add]
      have hsm : (ws.take (a + 1)).sum = (ws.take a).sum + x := by rw [take_snoc hx, List.sum_append]; simp
      simp! only [true_and]
      refine ⟨D.int (x : Nat), atI_map natD hx, ?_⟩
      simp! only [true_and]
      by_cases x0 : (0 : Int) < (x : Int)
      · rw [if_pos x0]
        refine ⟨D.int (x : Nat), atI_map natD hx, ruD r, atI_map ruD hr, ?_⟩
        rw [show ruD r = D.tup [D.int (r.1 : Nat), D.tup (r.2.map mvD)] from rfl]
        simp! only [true_and]
        refine ⟨cdivw 24 (by omega) (by omega) (by decide), ?_⟩
        rw [show ((C' : Int) / (r.1 : Int)) = ((C' / r.1 : Nat) : Int) from rfl]
        have hq : C' / r.1 ≤ 2 ^ 184 := Nat.le_trans (Nat.div_le_self _ _) c.le
        refine ⟨cmP (p2 hxb (by decide)) (p2 hq (by decide)), ?_⟩
        rw [nm]
        have hpart : x * (C' / r.1) ≤ 2 ^ 3864 := by
          rw [show (3864 : Nat) = 3680 + 184 from rfl, Nat.pow_add]
          exact Nat.mul_le_mul hxb hq
        refine ⟨ruD r, atI_map ruD hr, ?_⟩
        rw [show ruD r = D.tup [D.int (r.1 : Nat), D.tup (r.2.map mvD)] from rfl]
        simp! only [true_and]
        refine for_m (W := fun m env => ∃ (hs : List Nat) (v : C), hs.length = R.length ∧ BE.dot (BE.A R C' (n - (i + 1))) 0 hs = BE.dot (BE.A R C' (n - (i + 1))) 0 gs + x * (C' / r.1) * ((r.2.take m).map fun p => p.2 * BE.A R C' (n - (i + 1)) p.1).sum ∧ hs.sum = gs.sum + x * (C' / r.1) * ((r.2.take m).map (·.2)).sum ∧
          env = [C.fz (.tup (R.map ruD)), C.fz (.int (s : Nat)), C.fz (.int (n : Nat)), C.fz (.int (C' : Nat)), C.fz (.int ((C' ^ i : Nat) : Int)), C.ow (.lst (ws.map natD)), C.fz (.int (i : Nat)), C.ow (.lst (hs.map natD)), C.fz (.int (a : Nat)), C.fz (.int ((x * (C' / r.1) : Nat) : Int)), v, w]) ⟨gs, _, gl, by simp, by simp, rfl⟩ ?_ ?_
        · rintro m p env hp ⟨hs, v, hl, h1, h2, rfl⟩
          have hpm := List.mem_of_getElem? hp
          have hnx := g.nxt r hm p hpm
          have hst := BE.stake_le g (a := a) (p := p) (by rw [BE.mv_at hr]; exact hpm)
          rw [BE.tt_at hr] at hst
          obtain ⟨y, hy⟩ : ∃ y, hs[p.1]? = some y := ⟨_, List.getElem?_eq_getElem (by omega)⟩
          rw [show mvD p = D.tup [D.int (p.1 : Nat), D.int (p.2 : Nat)] from rfl]
          simp! only [true_and]
          refine ⟨D.int (y : Nat), atI_map natD hy, ?_⟩
          simp! only [true_and]
          refine ⟨cmP (p2 hpart (by decide)) (p2 (Nat.le_trans hst tb) (by decide)), p.1, ixN_nat (by omega), ?_⟩
          rw [nm, ← Int.natCast_add, map_natD_set]
          refine ⟨hs.set p.1 (y + x * (C' / r.1) * p.2), _, by simp [hl], ?_, ?_, rfl⟩
          · rw [BE.dot_set _ hs 0 p.1 y _ hy, h1, mvsum_snoc hp, Nat.mul_add, Nat.zero_add, Nat.add_assoc, Nat.mul_assoc (x * (C' / r.1)) p.2]
          · rw [← BE.dot_one (hs.set _ _) 0, BE.dot_set _ hs 0 p.1 y _ hy, BE.dot_one, h2, sum_snoc hp, Nat.mul_add, Nat.mul_one, Nat.add_assoc]
        · rintro env ⟨hs, v, hl, h1, h2, rfl⟩
          rw [List.take_length] at h1 h2
          refine ⟨hs, _, _, _, _, hl, ?_, ?_, rfl⟩
          · rw [h1, hd, g1, hA, Nat.mul_assoc, Nat.mul_comm (C' / r.1)]
          · rw [h2, hsm, Nat.add_mul]
            have k1 := BE.div_tot (c.dv a ha) ((r.2.map (·.2)).sum) (by rw [BE.tt_at hr]; exact g.sum r hm)
            rw [BE.tt_at hr] at k1
            have k2 : x * (C' / r.1) * (r.2.map (·.2)).sum ≤ x * C' := by
              rw [Nat.mul_assoc, Nat.mul_comm (C' / r.1)]
              exact Nat.mul_le_mul_left _ k1
            omega
      · rw [if_neg x0]
        have : x = 0 := by omega
        subst this
        refine ⟨gs, _, _, _, _, gl, ?_, ?_, rfl⟩
        · rw [hd, g1]; simp
        · rw [hsm]; exact g2
    · rintro env ⟨gs, z, u, v, w, gl, g1, g2, rfl⟩
      have g1 : BE.dot (BE.A R C' (n - (i + 1))) 0 gs = BE.dot (BE.A R C' (n - i)) 0 (ws.take R.length) := g1
      have g2 : gs.sum ≤ (ws.take R.length).sum * C' := g2
      rw [List.take_of_length_le (by omega)] at g1 g2
      simp! only [true_and]
      refine ⟨_, rfl, cmP (p2 (c.pw (L := i) (by omega)).1 (by decide)) (p2 c.le (by decide)), ?_⟩
      rw [nm, ← Nat.pow_succ]
      exact ⟨gs, _, _, _, _, _, _, gl, g1.trans w1, Nat.le_trans g2 (by rw [Nat.pow_succ]; exact Nat.mul_le_mul_right _ w2), rfl⟩
  · rintro env ⟨ws, x, y, z, u, v, w, wl, w1, w2, rfl⟩
    have w1 : BE.dot (BE.A R C' (n - n)) 0 ws = BE.A R C' n s := w1
    rw [Nat.sub_self] at w1
    have w1 : BE.dot (fun _ => 1) 0 ws = BE.A R C' n s := w1
    rw [BE.dot_one] at w1
    simp! only [true_and]
    refine ⟨_, ws.map fun x : Nat => (x : Int), rfl, ?_, by omega, ?_⟩
    · have : ws.map natD = (ws.map fun x : Nat => (x : Int)).map D.int := by rw [List.map_map]; rfl
      rw [this, intsOf_map]
    · rw [sum_cast, w1]
      exact q C' c
end K65
end

section
set_option linter.all false
set_option maxRecDepth 100000
set_option maxHeartbeats 1000000
set_option autoImplicit false
namespace K65
open PySem PySem.Spec PyProof.Rows L2 PL
local macro_rules
  | `(tactic| simp! only [$xs,*]) => `(tactic| (try simp only [PL.dflS, PL.pickLD, PL.lcmP_i, PL.isoP, PL.pMeth, PL.pOEq, PL.pLcntB, PL.reprTP_t, PL.strIP_i, PL.pChain, PL.allP_lst, PL.anyP_lst, PL.rg3_i, PL.piR3, PL.upP_s, PL.pUp, PL.gcdP_i, PL.xBi, PL.xJoin, PL.xiE, PL.xLc_eq, PL.pRaise1, PL.pRaise2, PL.xPure, PL.xaPure, PL.xaNil, PL.xaCons, PL.xCall, PL.xCallK, PL.nrX, PL.xLst, PL.xTup, PL.xBin, PL.pDropX, PL.pRetX, PL.pSetX, PL.pTry, PL.pIsEs, PL.pLidx, PL.ltTP_t, PL.pRev, PL.revP_l, PL.revP_s, PL.pMtS, PL.mtSP_s, PL.findF_1, PL.findF_2, PL.startsF_1, PL.sidxF_1, PL.scntF_1, PL.pSeq, PL.pNext, PL.pSet, PL.pSetO, PL.pRet, PL.pRetN, PL.pIfS, PL.pFor, PL.pWhile, PL.pBrk, PL.pCnt, PL.pDrop, PL.pApp, PL.pAsg, PL.pgN, PL.pFrz, PL.frz, PL.pC, PL.pN, PL.pNo, PL.pBin, PL.negP, PL.pB, PL.pAnd, PL.pOr, PL.pNot, PL.pAndV, PL.pOrV, PL.pNotV, PL.pIf, PL.paNil, PL.paCons, PL.pLst, PL.pTup, PL.pIx, PL.pSl, PL.poNone, PL.poSome, PL.pCall, PL.pCallK, PL.piR1, PL.piR2, PL.piE, PL.pBits, PL.isiP_eq, PL.pLr1, PL.pJoinR, PL.pJoin, PL.pLc_eq, PL.pYes, PL.wipeC, PL.pBor, PL.pBorT, PL.frzs, PL.pSetI, PL.pChainT, PL.isNP, PL.addP_i, PL.addP_s, PL.addP_t, PL.addP_l, PL.catP_l, PL.subP_i, PL.mulP_i, PL.mulP_l, PL.repP_l, PL.mulP_s, PL.fdivP_i, PL.modP_i, PL.powP_i, PL.ltP_i, PL.ltP_s, PL.gtP_i, PL.gtP_s, PL.leP_i, PL.leP_s, PL.geP_i, PL.geP_s, PL.eqP_int, PL.eqP_str, PL.eqP_bl, PL.eqP_lst_lst, PL.eqP_tup_tup, PL.eqP_lst_tup, PL.eqP_tup_lst, PL.neP_int, PL.neP_str, PL.neP_bl, PL.neP_lst_lst, PL.neP_tup_tup, PL.neP_lst_tup, PL.neP_tup_lst, PL.asB_b, PL.asS_s, PL.lenP_lst, PL.itP_lst, PL.ixP_lst, PL.listP_lst_, PL.tupleP_lst_, PL.sumP_lst_, PL.maxP_lst_, PL.minP_lst_, PL.lenP_tup, PL.itP_tup, PL.ixP_tup, PL.listP_tup_, PL.tupleP_tup_, PL.sumP_tup_, PL.maxP_tup_, PL.minP_tup_, PL.lenP_scr, PL.itP_scr, PL.ixP_scr, PL.listP_scr_, PL.tupleP_scr_, PL.sumP_scr_, PL.maxP_scr_, PL.minP_scr_, PL.lenP_str, PL.lenP_dk, PL.itP_str, PL.ixP_str, PL.intP_i, PL.intP_b, PL.rg1_i, PL.rg2_i, PL.lr1_i, PL.lr2_i, PL.maxP_2, PL.maxP_3, PL.minP_2, PL.minP_3, PL.slP_lst, PL.slP_tup, PL.slP_str, PL.slPL_lst, PL.pgTup_t, PL.pgTup_l, PL.pgsCons_c, PL.pgsNil_n, PL.joinRP_l, PL.reprP_i, PL.reprP_s, PL.setP_i, PL.ixE_0, PL.ixE_1, PL.ixE_2, PL.ixE_3, PL.ixE_4, PL.ixE_5, PL.ixE_6, PL.ixE_7, PL.ixE_8, PL.isqrtP_i, PL.reprLP_l, PL.pMkE, PL.pErF, PL.pIsE, PL.pRevS, PL.pRetO, PL.pRetON, PL.pNever, PL.pExt, PL.listDP_d, PL.pFld, PL.pFldS, PL.setF, PL.slfD, PL.piEn, PL.itEn, PL.isi2P, PL.isBP, PL.pDk, PL.pDt, PL.divmodP_i, PL.pGet, PL.isi_non_int, PL.isi_non_bool, PL.isi_non_str, PL.isi_non_list, PL.isi_non_tuple, PL.isi_bl_int, PL.isi_bl_bool, PL.isi_bl_str, PL.isi_bl_list, PL.isi_bl_tuple, PL.isi_int_int, PL.isi_int_bool, PL.isi_int_str, PL.isi_int_list, PL.isi_int_tuple, PL.isi_str_int, PL.isi_str_bool, PL.isi_str_str, PL.isi_str_list, PL.isi_str_tuple, PL.isi_tup_int, PL.isi_tup_bool, PL.isi_tup_str, PL.isi_tup_list, PL.isi_tup_tuple, PL.isi_lst_int, PL.isi_lst_bool, PL.isi_lst_str, PL.isi_lst_list, PL.isi_lst_tuple, PL.pickL, List.filterMap_cons, List.filterMap_nil, true_and, decide_true, decide_false, eq_self, Int.zero_add, decide_eq_true_eq, PL.rowE, PL.rowS, PL.startC, List.length_map, List.map_cons, List.map_nil, List.length_cons, List.length_nil, List.append_nil, List.nil_append, List.cons_append, List.replicate_succ, List.replicate_zero, List.set_cons_zero, List.set_cons_succ, List.getElem?_cons_zero, List.getElem?_cons_succ, Nat.reduceAdd, Nat.reduceSub, if_true, Bool.not_true, Bool.not_false, Bool.false_eq_true, if_false, $xs,*]))
/-- all that is had is bet, on the ways of at most n letters -/
def sp_law_all_bet : PSp := fun ds P => ∃ (size : Nat) (R : List BE.Rule) (s n : Nat), ds = [rusD R, .int (s : Nat), .int (n : Nat)] ∧ BE.Good size R ∧ size ≤ 100 ∧ R.length ≤ 1000 ∧ s < R.length ∧ n ≤ 20 ∧ ∀ b : Bool, (b = true ↔ BE.Full R n s) → P (.bl b)
theorem len_law_all_bet : ∀ ds P, sp_law_all_bet ds P → ds.length = 3 := by rintro _ _ ⟨_, _, _, _, rfl, _⟩; rfl
theorem w_law_all_bet : ∀ ds Q, sp_law_all_bet ds Q → b_law_all_bet { nx := fun _ => Q .non, rt := Q } (startC ["rules", "s", "steps", "here", "turn", "known", "after", "at", "move"] ds) := by
  rintro _ Q ⟨size, R, s, n, rfl, g, h100, hR, hs, hn, q⟩
  have hz : sizeLine = 16777216 := PySem.sizeLine_eq
  simp only [PL.startC, List.map_cons, List.map_nil, List.length_cons, List.length_nil, Nat.reduceAdd, Nat.reduceSub, List.replicate_succ, List.replicate_zero, List.cons_append, List.nil_append, List.append_nil]
  unfold b_law_all_bet
  simp! only [true_and]
  refine ⟨by omega, ⟨by omega, by omega⟩, ?_⟩
  refine for_r (W := fun i env => ∃ (hs : List Nat) (x y z u v : C), hs.Nodup ∧ (∀ a ∈ hs, a < R.length) ∧ ((∀ a ∈ hs, BE.Full R (n - i) a) ↔ BE.Full R n s) ∧
    env = [C.fz (rusD R), C.fz (.int (s : Nat)), C.fz (.int (n : Nat)), C.fz (.lst (hs.map natD)), x, y, z, u, v]) ⟨[s], .un, .un, .un, .un, .un, by simp, fun a ha => by rw [List.mem_singleton] at ha; subst ha; exact hs, by simp, rfl⟩ ?_ ?_
  · rintro i env hi ⟨hs, x, y, z, u, v, h1, h2, h3, rfl⟩
    have hi : i < n := hi
    have el : n - i = (n - (i + 1)) + 1 := by omega
    have hln : hs.length ≤ R.length := by
      have := BE.nodup_sub (m := List.range R.length) h1 fun a ha => List.mem_range.mpr (h2 a ha)
      rwa [List.length_range] at this
    simp! only [pDk]
    refine ⟨by decide, ?_⟩
    refine for_m (W := fun j env => ∃ (af : List Nat) (u v : C), af.Nodup ∧ (∀ a ∈ af, a < R.length) ∧ (∀ a ∈ hs.take j, ((BE.mv R a).map (·.2)).sum = BE.tt R a) ∧ (∀ b, b ∈ af ↔ ∃ a ∈ hs.take j, ∃ p ∈ BE.mv R a, 0 < p.2 ∧ p.1 = b) ∧
      env = [C.fz (rusD R), C.fz (.int (s : Nat)), C.fz (.int (n : Nat)), C.fz (.lst (hs.map natD)), C.fz (.int (i : Nat)), C.ow (setK af), C.ow (.lst (af.map natD)), u, v]) ⟨[], _, _, by simp, by simp, by simp, by simp, rfl⟩ ?_ ?_
    · rintro j a env hj ⟨af, u, v, f1, f2, f3, f4, rfl⟩
      have ham := List.mem_of_getElem? hj
      have ha := h2 a ham
      obtain ⟨r, hr⟩ : ∃ r, R[a]? = some r := ⟨_, List.getElem?_eq_getElem ha⟩
      have hm := List.mem_of_getElem? hr
      have hafl : af.length ≤ R.length := by
        have := BE.nodup_sub (m := List.range R.length) f1 fun a ha => List.mem_range.mpr (f2 a ha)
        rwa [List.length_range] at this
      have hrl := g.len r hm
      rw [show natD a = D.int (a : Nat) from rfl]
      unfold rusD
      simp! only [true_and]
      refine ⟨ruD r, atI_map ruD hr, ?_⟩
      rw [show ruD r = D.tup [D.int (r.1 : Nat), D.tup (r.2.map mvD)] from rfl]
      simp! only [true_and]
      refine lc_m (W := fun k acc => acc = (((r.2.take k).map (·.2)).map fun x : Nat => (x : Int)).map D.int) rfl ?_ ?_
      · rintro k p acc hk rfl
        have hkl := (List.getElem?_eq_some_iff.mp hk).1
        rw [show mvD p = D.tup [D.int (p.1 : Nat), D.int (p.2 : Nat)] from rfl]
        simp! only [true_and]
        refine ⟨by simp only [List.length_map, List.length_take]; omega, ?_⟩
        simp only [take_snoc hk, List.map_append]; rfl
      rintro acc rfl
      rw [List.take_length]
      refine ⟨_, _, rfl, intsOf_map _, ?_⟩
      rw [sum_cast]
      simp! only [true_and]
      refine ⟨ruD r, atI_map ruD hr, ?_⟩
      rw [show ruD r = D.tup [D.int (r.1 : Nat), D.tup (r.2.map mvD)] from rfl]
      simp! only [true_and]
      by_cases hT : (r.2.map (·.2)).sum = r.1
      · rw [hT]
        simp only [decide_true, Bool.not_true, Bool.false_eq_true, if_false]
        refine ⟨ruD r, atI_map ruD hr, ?_⟩
        rw [show ruD r = D.tup [D.int (r.1 : Nat), D.tup (r.2.map mvD)] from rfl]
        simp! only [true_and]
        refine for_m (W := fun m env => ∃ (ag : List Nat) (v : C), ag.Nodup ∧ (∀ a ∈ ag, a < R.length) ∧ (∀ b, b ∈ ag ↔ b ∈ af ∨ ∃ p ∈ r.2.take m, 0 < p.2 ∧ p.1 = b) ∧
          env = [C.fz (.tup (R.map ruD)), C.fz (.int (s : Nat)), C.fz (.int (n : Nat)), C.fz (.lst (hs.map natD)), C.fz (.int (i : Nat)), C.ow (setK ag), C.ow (.lst (ag.map natD)), C.fz (.int (a : Nat)), v]) ⟨af, _, f1, f2, by simp, rfl⟩ ?_ ?_
        · rintro m p env hp ⟨ag, v, k1, k2, k3, rfl⟩
          have hpm := List.mem_of_getElem? hp
          have hnx := g.nxt r hm p hpm
          have hagl : ag.length ≤ R.length := by
            have := BE.nodup_sub (m := List.range R.length) k1 fun a ha => List.mem_range.mpr (k2 a ha)
            rwa [List.length_range] at this
          rw [show mvD p = D.tup [D.int (p.1 : Nat), D.int (p.2 : Nat)] from rfl]
          have stay : (¬ 0 < p.2 ∨ p.1 ∈ ag) → ∀ b, b ∈ ag ↔ b ∈ af ∨ ∃ q ∈ r.2.take (m + 1), 0 < q.2 ∧ q.1 = b := by
            intro hno b
            rw [k3 b, take_snoc hp]
            constructor
            · rintro (h | ⟨q, h, e⟩)
              · exact .inl h
              · exact .inr ⟨q, List.mem_append_left _ h, e⟩
            · rintro (h | ⟨q, h, e0, e⟩)
              · exact .inl h
              · rcases List.mem_append.mp h with h | h
                · exact .inr ⟨q, h, e0, e⟩
                · rw [List.mem_singleton] at h
                  subst h
                  rcases hno with z | z
                  · exact absurd e0 z
                  · rw [e] at z; exact (k3 b).mp z
          simp! only [inP_set]
          by_cases p0 : 0 < p.2
          · rw [if_pos (by omega)]
            by_cases hin : p.1 ∈ ag
            · rw [decide_eq_true hin]
              simp only [bne_self_eq_false, Bool.false_eq_true, if_false]
              exact ⟨ag, _, k1, k2, stay (.inr hin), rfl⟩
            · rw [decide_eq_false hin]
              simp only [Bool.bne_true, Bool.not_false, if_true]
              refine setP_set hin (by omega) ?_
              refine ⟨by omega, ag ++ [p.1], C.fz (D.tup [D.int (p.1 : Nat), D.int (p.2 : Nat)]), ?_, ?_, ?_, by rw [List.map_append]; rfl⟩
              · rw [List.nodup_append]
                exact ⟨k1, by simp, fun a ha b hb e => by simp at hb; subst hb; subst e; exact hin ha⟩
              · intro b hb
                rcases List.mem_append.mp hb with hb | hb
                · exact k2 b hb
                · rw [List.mem_singleton] at hb; subst hb; exact hnx
              · intro b
                rw [List.mem_append, k3 b, take_snoc hp, List.mem_singleton]
                constructor
                · rintro ((h | ⟨q, h, e⟩) | h)
                  · exact .inl h
                  · exact .inr ⟨q, List.mem_append_left _ h, e⟩
                  · exact .inr ⟨p, List.mem_append_right _ (List.mem_singleton.mpr rfl), p0, h.symm⟩
                · rintro (h | ⟨q, h, e0, e⟩)
                  · exact .inl (.inl h)
                  · rcases List.mem_append.mp h with h | h
                    · exact .inl (.inr ⟨q, h, e0, e⟩)
                    · rw [List.mem_singleton] at h; subst h; exact .inr e.symm
          · rw [if_neg (by omega)]
            exact ⟨ag, _, k1, k2, stay (.inl p0), rfl⟩
        · rintro env ⟨ag, v, k1, k2, k3, rfl⟩
          rw [List.take_length] at k3
          refine ⟨ag, _, _, k1, k2, ?_, ?_, rfl⟩
          · intro b hb
            rw [take_snoc hj] at hb
            rcases List.mem_append.mp hb with hb | hb
            · exact f3 b hb
            · rw [List.mem_singleton] at hb; subst hb
              rw [BE.mv_at hr, BE.tt_at hr]; exact hT
          · intro b
            rw [k3 b, f4 b, take_snoc hj]
            constructor
            · rintro (⟨a', h, e⟩ | ⟨q, h, e⟩)
              · exact ⟨a', List.mem_append_left _ h, e⟩
              · exact ⟨a, List.mem_append_right _ (List.mem_singleton.mpr rfl), q, by rw [BE.mv_at hr]; exact h, e⟩
            · rintro ⟨a', h, e⟩
              rcases List.mem_append.mp h with h | h
              · exact .inl ⟨a', h, e⟩
              · rw [List.mem_singleton] at h; subst h
                obtain ⟨q, hq, e⟩ := e
                rw [BE.mv_at hr] at hq
                exact .inr ⟨q, hq, e⟩
      · rw [decide_eq_false (by omega)]
        simp only [Bool.not_false, if_true]
        refine q false ⟨fun z => absurd z (by decide), fun z => absurd (h3.mpr z a ham) ?_⟩
        rw [el]
        intro z
        have z1 : ((BE.mv R a).map (·.2)).sum = BE.tt R a := z.1
        rw [BE.mv_at hr, BE.tt_at hr] at z1
        exact hT z1
    · rintro env ⟨af, u, v, f1, f2, f3, f4, rfl⟩
      rw [List.take_length] at f3 f4
      simp! only [true_and]
      refine ⟨_, rfl, af, _, _, _, _, _, f1, f2, ?_, rfl⟩
      rw [← h3, el]
      constructor
      · intro h a ha
        exact ⟨f3 a ha, fun p hp p0 => h p.1 ((f4 p.1).mpr ⟨a, ha, p, hp, p0, rfl⟩)⟩
      · intro h b hb
        obtain ⟨a, ha, p, hp, p0, rfl⟩ := (f4 b).mp hb
        exact (h a ha).2 p hp p0
  · rintro env ⟨hs, x, y, z, u, v, h1, h2, h3, rfl⟩
    have h3 : (∀ a ∈ hs, BE.Full R (n - n) a) ↔ BE.Full R n s := h3
    rw [Nat.sub_self] at h3
    simp! only [true_and]
    exact q true ⟨fun _ => h3.mp fun a _ => trivial, fun _ => rfl⟩
end K65
end

section
set_option linter.all false
set_option maxRecDepth 100000
set_option maxHeartbeats 1000000
set_option autoImplicit false
namespace K65
open PySem PySem.Spec PyProof.Rows L2 PL
local macro_rules
  | `(tactic| simp! only [$xs,*]) => `(tactic| (try simp only [PL.dflS, PL.pickLD, PL.lcmP_i, PL.isoP, PL.pMeth, PL.pOEq, PL.pLcntB, PL.reprTP_t, PL.strIP_i, PL.pChain, PL.allP_lst, PL.anyP_lst, PL.rg3_i, PL.piR3, PL.upP_s, PL.pUp, PL.gcdP_i, PL.xBi, PL.xJoin, PL.xiE, PL.xLc_eq, PL.pRaise1, PL.pRaise2, PL.xPure, PL.xaPure, PL.xaNil, PL.xaCons, PL.xCall, PL.xCallK, PL.nrX, PL.xLst, PL.xTup, PL.xBin, PL.pDropX, PL.pRetX, PL.pSetX, PL.pTry, PL.pIsEs, PL.pLidx, PL.ltTP_t, PL.pRev, PL.revP_l, PL.revP_s, PL.pMtS, PL.mtSP_s, PL.findF_1, PL.findF_2, PL.startsF_1, PL.sidxF_1, PL.scntF_1, PL.pSeq, PL.pNext, PL.pSet, PL.pSetO, PL.pRet, PL.pRetN, PL.pIfS, PL.pFor, PL.pWhile, PL.pBrk, PL.pCnt, PL.pDrop, PL.pApp, PL.pAsg, PL.pgN, PL.pFrz, PL.frz, PL.pC, PL.pN, PL.pNo, PL.pBin, PL.negP, PL.pB, PL.pAnd, PL.pOr, PL.pNot, PL.pAndV, PL.pOrV, PL.pNotV, PL.pIf, PL.paNil, PL.paCons, PL.pLst, PL.pTup, PL.pIx, PL.pSl, PL.poNone, PL.poSome, PL.pCall, PL.pCallK, PL.piR1, PL.piR2, PL.piE, PL.pBits, PL.isiP_eq, PL.pLr1, PL.pJoinR, PL.pJoin, PL.pLc_eq, PL.pYes, PL.wipeC, PL.pBor, PL.pBorT, PL.frzs, PL.pSetI, PL.pChainT, PL.isNP, PL.addP_i, PL.addP_s, PL.addP_t, PL.addP_l, PL.catP_l, PL.subP_i, PL.mulP_i, PL.mulP_l, PL.repP_l, PL.mulP_s, PL.fdivP_i, PL.modP_i, PL.powP_i, PL.ltP_i, PL.ltP_s, PL.gtP_i, PL.gtP_s, PL.leP_i, PL.leP_s, PL.geP_i, PL.geP_s, PL.eqP_int, PL.eqP_str, PL.eqP_bl, PL.eqP_lst_lst, PL.eqP_tup_tup, PL.eqP_lst_tup, PL.eqP_tup_lst, PL.neP_int, PL.neP_str, PL.neP_bl, PL.neP_lst_lst, PL.neP_tup_tup, PL.neP_lst_tup, PL.neP_tup_lst, PL.asB_b, PL.asS_s, PL.lenP_lst, PL.itP_lst, PL.ixP_lst, PL.listP_lst_, PL.tupleP_lst_, PL.sumP_lst_, PL.maxP_lst_, PL.minP_lst_, PL.lenP_tup, PL.itP_tup, PL.ixP_tup, PL.listP_tup_, PL.tupleP_tup_, PL.sumP_tup_, PL.maxP_tup_, PL.minP_tup_, PL.lenP_scr, PL.itP_scr, PL.ixP_scr, PL.listP_scr_, PL.tupleP_scr_, PL.sumP_scr_, PL.maxP_scr_, PL.minP_scr_, PL.lenP_str, PL.lenP_dk, PL.itP_str, PL.ixP_str, PL.intP_i, PL.intP_b, PL.rg1_i, PL.rg2_i, PL.lr1_i, PL.lr2_i, PL.maxP_2, PL.maxP_3, PL.minP_2, PL.minP_3, PL.slP_lst, PL.slP_tup, PL.slP_str, PL.slPL_lst, PL.pgTup_t, PL.pgTup_l, PL.pgsCons_c, PL.pgsNil_n, PL.joinRP_l, PL.reprP_i, PL.reprP_s, PL.setP_i, PL.ixE_0, PL.ixE_1, PL.ixE_2, PL.ixE_3, PL.ixE_4, PL.ixE_5, PL.ixE_6, PL.ixE_7, PL.ixE_8, PL.isqrtP_i, PL.reprLP_l, PL.pMkE, PL.pErF, PL.pIsE, PL.pRevS, PL.pRetO, PL.pRetON, PL.pNever, PL.pExt, PL.listDP_d, PL.pFld, PL.pFldS, PL.setF, PL.slfD, PL.piEn, PL.itEn, PL.isi2P, PL.isBP, PL.pDk, PL.pDt, PL.divmodP_i, PL.pGet, PL.isi_non_int, PL.isi_non_bool, PL.isi_non_str, PL.isi_non_list, PL.isi_non_tuple, PL.isi_bl_int, PL.isi_bl_bool, PL.isi_bl_str, PL.isi_bl_list, PL.isi_bl_tuple, PL.isi_int_int, PL.isi_int_bool, PL.isi_int_str, PL.isi_int_list, PL.isi_int_tuple, PL.isi_str_int, PL.isi_str_bool, PL.isi_str_str, PL.isi_str_list, PL.isi_str_tuple, PL.isi_tup_int, PL.isi_tup_bool, PL.isi_tup_str, PL.isi_tup_list, PL.isi_tup_tuple, PL.isi_lst_int, PL.isi_lst_bool, PL.isi_lst_str, PL.isi_lst_list, PL.isi_lst_tuple, PL.pickL, List.filterMap_cons, List.filterMap_nil, true_and, decide_true, decide_false, eq_self, Int.zero_add, decide_eq_true_eq, PL.rowE, PL.rowS, PL.startC, List.length_map, List.map_cons, List.map_nil, List.length_cons, List.length_nil, List.append_nil, List.nil_append, List.cons_append, List.replicate_succ, List.replicate_zero, List.set_cons_zero, List.set_cons_succ, List.getElem?_cons_zero, List.getElem?_cons_succ, Nat.reduceAdd, Nat.reduceSub, if_true, Bool.not_true, Bool.not_false, Bool.false_eq_true, if_false, $xs,*]))
theorem short_ok {n : Nat} (h1 : 1 ≤ n) (h6 : n ≤ 6) : ∃ z : Int, atI [D.int 20, D.int 8, D.int 5, D.int 4, D.int 3, D.int 3] ((n : Int) - 1) = some (D.int z) ∧ 0 ≤ z ∧ z ≤ 20 ∧ ∀ j : Nat, (j : Int) ≤ z → n ^ j ≤ 1000 := by
  have mono : ∀ a b : Nat, a ≤ b → n ^ a ≤ n ^ b := fun a b h => Nat.pow_le_pow_right h1 h
  have : n = 1 ∨ n = 2 ∨ n = 3 ∨ n = 4 ∨ n = 5 ∨ n = 6 := by omega
  rcases this with rfl | rfl | rfl | rfl | rfl | rfl
  · exact ⟨20, rfl, by decide, by decide, fun j hj => Nat.le_trans (mono j 20 (by omega)) (by decide)⟩
  · exact ⟨8, rfl, by decide, by decide, fun j hj => Nat.le_trans (mono j 8 (by omega)) (by decide)⟩
  · exact ⟨5, rfl, by decide, by decide, fun j hj => Nat.le_trans (mono j 5 (by omega)) (by decide)⟩
  · exact ⟨4, rfl, by decide, by decide, fun j hj => Nat.le_trans (mono j 4 (by omega)) (by decide)⟩
  · exact ⟨3, rfl, by decide, by decide, fun j hj => Nat.le_trans (mono j 3 (by omega)) (by decide)⟩
  · exact ⟨3, rfl, by decide, by decide, fun j hj => Nat.le_trans (mono j 3 (by omega)) (by decide)⟩
/-- a quotient told, and the same one due -/
theorem due_ok {size : Nat} {R : List BE.Rule} {C D' n s : Nat} {P : D → Prop} (g : BE.Good size R) (c : BE.Com R C) (d : BE.Com R D') (hs : s < R.length) (hn : n ≤ 20) (q : P (.bl true)) :
    sp_law_ratio [D.int ((BE.A R D' n s : Nat) : Int), D.int ((D' ^ n : Nat) : Int)] fun x => sp_law_same [frD (BE.red (BE.A R C n s) (C ^ n)), x] P := by
  refine ⟨_, _, rfl, (d.pw hn).2, Sm.of (d.pw hn).1 (by decide), Sm.of (Nat.le_trans (BE.A_le g d.dv n s hs) (d.pw hn).1) (by decide), ?_⟩
  refine ⟨_, _, rfl, ?_⟩
  rw [decide_eq_true (BE.same_red g c d n s hs)]
  exact q
theorem one_iff {size : Nat} {R : List BE.Rule} {C n s : Nat} (g : BE.Good size R) (c : BE.Com R C) (hs : s < R.length) {b : Bool} (hb : b = true ↔ BE.Full R n s) : decide (BE.red (BE.A R C n s) (C ^ n) = (1, 1)) = b := by
  have h1 := BE.red_one (a := BE.A R C n s) (Nat.pow_pos (n := n) c.pos)
  have h2 := BE.full_iff g c.pos c.dv n s hs
  cases b with
  | true => exact decide_eq_true (h1.mpr (h2.mpr (hb.mp rfl)))
  | false => exact decide_eq_false fun z => absurd (hb.mpr (h2.mp (h1.mp z))) (by decide)
theorem red_zero (R : List BE.Rule) (C s : Nat) : BE.red (BE.A R C 0 s) (C ^ 0) = (1, 1) := by
  rw [Nat.pow_zero]
  exact (by decide : BE.red 1 1 = (1, 1))
theorem w_law : ∀ ds Q, sp_law ds Q → b_law sp_law_digits sp_law_cell sp_law_alphabet sp_law_wide_rules sp_Bettor__init__ sp_law_as_lists sp_length_chance sp_law_weights sp_law_same sp_law_ratio sp_law_listed sp_law_fraction sp_law_all_bet { nx := fun _ => Q .non, rt := Q } (startC ["script", "pick", "alphabet", "size", "many", "rules", "others", "s", "steps", "lesser", "short", "player", "second", "first", "due", "less"] ds) := by
  rintro _ Q ⟨ns, rfl, hn, h⟩
  have hz : sizeLine = 16777216 := PySem.sizeLine_eq
  simp only [PL.startC, List.map_cons, List.map_nil, List.length_cons, List.length_nil, Nat.reduceAdd, Nat.reduceSub, List.replicate_succ, List.replicate_zero, List.cons_append, List.nil_append, List.append_nil]
  unfold b_law
  simp! only [true_and]
  refine ⟨ns, 0, rfl, hn, by decide, by decide, fun c0 => ⟨by omega, ?_⟩⟩
  refine ⟨c0, [8, 4, 56, 60, 21, 21, 8, 21], rfl, by decide, sizes_ok (by decide), fun pick hp => ?_⟩
  obtain ⟨p0, e0, a0, b0⟩ := hp.get (i := 0) rfl
  obtain ⟨p1, e1, a1, b1⟩ := hp.get (i := 1) rfl
  obtain ⟨p2, e2, a2, b2⟩ := hp.get (i := 2) rfl
  obtain ⟨p3, e3, a3, b3⟩ := hp.get (i := 3) rfl
  obtain ⟨p4, e4, a4, b4⟩ := hp.get (i := 4) rfl
  obtain ⟨p5, e5, a5, b5⟩ := hp.get (i := 5) rfl
  obtain ⟨p6, e6, a6, b6⟩ := hp.get (i := 6) rfl
  obtain ⟨p7, e7, a7, b7⟩ := hp.get (i := 7) rfl
  simp! only [true_and]
  refine ⟨ns, 1, rfl, hn, by decide, by decide, fun c1 => ?_⟩
  iterate 6 (refine ⟨by first | omega | decide | (rw [hz]; decide), ?_⟩)
  refine ⟨c1, szAb, rfl, by decide, sizes_ok (by decide), fun row hr => ?_⟩
  refine ⟨row, rfl, hr, fun abc ab => ?_⟩
  have al1 := ab.l1
  have al6 := ab.l6
  simp only [show TD abc = D.str (T abc) from rfl]
  simp! only [true_and]
  rw [T_len]
  refine ⟨by omega, _, atI_int D.int 1 rfl e1, ?_⟩
  simp! only [true_and]
  refine jn (fun e => ∃ m : Nat, 1 ≤ m ∧ m ≤ 60 ∧ e = [C.fz (.scr (ns.map D.int)), C.fz (.lst (pick.map D.int)), C.fz (TD abc), C.fz (.int (abc.length : Nat)), C.fz (.int (m : Nat)), .un, .un, .un, .un, .un, .un, .un, .un, .un, .un, .un]) ?_ ?_
  · refine ⟨_, atI_int D.int 0 rfl e0, ?_⟩
    simp! only [true_and]
    split
    · refine ⟨_, atI_int D.int 2 rfl e2, ?_⟩
      simp! only [true_and]
      refine ⟨mulx_ok (a := 6) (b := 4) (by omega) (by decide) (by decide), cdivw 10 (by decide) (by decide) (by decide), (min 60 (5 + p2 * 5 / 4)).toNat, by omega, by omega, ?_⟩
      rw [show (((min 60 (5 + p2 * 5 / 4)).toNat : Nat) : Int) = min 60 (5 + p2 * 5 / 4) by omega]; rfl
    · refine ⟨(1 + p1).toNat, by omega, by omega, ?_⟩
      rw [show (((1 + p1).toNat : Nat) : Int) = 1 + p1 by omega]; rfl
  rintro _ ⟨m', m1', m60', rfl⟩
  simp! only [true_and]
  refine jn (fun e => ∃ m : Nat, 1 ≤ m ∧ m ≤ 60 ∧ e = [C.fz (.scr (ns.map D.int)), C.fz (.lst (pick.map D.int)), C.fz (TD abc), C.fz (.int (abc.length : Nat)), C.fz (.int (m : Nat)), .un, .un, .un, .un, .un, .un, .un, .un, .un, .un, .un]) ?_ ?_
  · refine ⟨_, atI_int D.int 0 rfl e0, ?_⟩
    simp! only [true_and]
    split
    · refine ⟨_, atI_int D.int 2 rfl e2, ?_⟩
      simp! only [true_and]
      refine ⟨by decide, (5 + p2 % 4).toNat, by omega, by omega, ?_⟩
      rw [show (((5 + p2 % 4).toNat : Nat) : Int) = 5 + p2 % 4 by omega]
    · exact ⟨m', m1', m60', rfl⟩
  rintro _ ⟨m, m1, m60, rfl⟩
  simp! only [true_and]
  refine ⟨ns, 2, rfl, hn, by decide, by decide, fun c2 => ?_⟩
  refine ⟨_, atI_int D.int 6 rfl e6, ?_⟩
  simp! only [true_and]
  refine ⟨abc.length, c2, m, _, rfl, al1, al6, m1, m60, fun R hR okR fR => ?_⟩
  refine ⟨ns, 3, rfl, hn, by decide, by decide, fun c3 => ?_⟩
  refine ⟨_, atI_int D.int 3 rfl e3, ?_⟩
  simp! only [true_and]
  refine ⟨by decide, _, atI_int D.int 6 rfl e6, ?_⟩
  simp! only [true_and]
  obtain ⟨q3, hq3⟩ := Int.eq_ofNat_of_zero_le (show 0 ≤ 1 + p3 % 4 by omega)
  rw [hq3]
  refine ⟨abc.length, c3, q3, _, rfl, al1, al6, by omega, by omega, fun R2 hR2 okR2 fR2 => ?_⟩
  have good : ∀ (R : List BE.Rule) (m : Nat), 1 ≤ m → R.length = m → (∀ r ∈ R, RuOk abc.length m r) → BE.Good abc.length R := fun R m h1 hl ok =>
    ⟨by omega, fun r hr => (ok r hr).t1, fun r hr => (ok r hr).len, fun r hr p hp => by rw [hl]; exact (ok r hr).nxt p hp, fun r hr => (ok r hr).sum⟩
  have g1 := good R m m1 hR okR
  have g2 := good R2 q3 (by omega) hR2 okR2
  refine ⟨_, atI_int D.int 3 rfl e3, ?_⟩
  simp! only [true_and]
  obtain ⟨s, hs⟩ := Int.eq_ofNat_of_zero_le (Int.emod_nonneg p3 (show ((m : Nat) : Int) ≠ 0 by omega))
  have hsm : (s : Int) < (m : Int) := by rw [← hs]; exact Int.emod_lt_of_pos p3 (by omega)
  rw [hs]
  refine ⟨by omega, ?_⟩
  have hm6 : (m : Int) * (abc.length : Int) = ((m * abc.length : Nat) : Int) := nm _ _
  have hmp : 1 ≤ m * abc.length ∧ m * abc.length ≤ 360 := ⟨Nat.mul_pos m1 al1, Nat.mul_le_mul m60 al6⟩
  have pk2 : ∀ (x : Int), x = 0 ∨ x = 1 → ∃ y : Int, atI [D.int 20, D.int 10] x = some (D.int y) ∧ 0 ≤ y ∧ y ≤ 20 := by
    rintro x (rfl | rfl)
    · exact ⟨20, rfl, by decide, by decide⟩
    · exact ⟨10, rfl, by decide, by decide⟩
  refine jn (fun e => ∃ n : Nat, n ≤ 20 ∧ e = [C.fz (.scr (ns.map D.int)), C.fz (.lst (pick.map D.int)), C.fz (TD abc), C.fz (.int (abc.length : Nat)), C.fz (.int (m : Nat)), C.fz (rusD R), C.fz (rusD R2), C.fz (.int (s : Nat)), C.fz (.int (n : Nat)), .un, .un, .un, .un, .un, .un, .un]) ?_ ?_
  · refine ⟨_, atI_int D.int 4 rfl e4, ?_⟩
    simp! only [true_and]
    rw [hm6]
    have hq0 : 0 ≤ (2400 : Int) / ((m * abc.length : Nat) : Int) := Int.ediv_nonneg (by decide) (by omega)
    refine ⟨mulx_ok (a := 7) (b := 4) (by omega) (by omega) (by decide), cdivw 10 (by omega) (by omega) (by decide), by omega, ?_⟩
    split
    · obtain ⟨y, hy, y0, y1⟩ := pk2 (if (m : Int) ≤ 8 then 1 else 0) (by split <;> simp)
      refine ⟨_, hy, ?_⟩
      rw [minP_3]
      refine ⟨(min (min p4 (2400 / ((m * abc.length : Nat) : Int))) y).toNat, by omega, ?_⟩
      rw [show (((min (min p4 (2400 / ((m * abc.length : Nat) : Int))) y).toNat : Nat) : Int) = min (min p4 (2400 / ((m * abc.length : Nat) : Int))) y by omega]
    · refine ⟨(min (min p4 (2400 / ((m * abc.length : Nat) : Int))) 20).toNat, by omega, ?_⟩
      rw [show (((min (min p4 (2400 / ((m * abc.length : Nat) : Int))) 20).toNat : Nat) : Int) = min (min p4 (2400 / ((m * abc.length : Nat) : Int))) 20 by omega]
  rintro _ ⟨n, n20, rfl⟩
  simp! only [true_and]
  refine ⟨_, atI_int D.int 7 rfl e7, ?_⟩
  simp! only [true_and]
  obtain ⟨l, hl⟩ := Int.eq_ofNat_of_zero_le (Int.emod_nonneg p7 (show ((n : Nat) : Int) + 1 ≠ 0 by omega))
  have hln : (l : Int) < (n : Int) + 1 := by rw [← hl]; exact Int.emod_lt_of_pos p7 (by omega)
  rw [hl]
  refine ⟨by omega, ?_⟩
  refine jn (fun e => ∃ k : Nat, k ≤ 20 ∧ (∀ j, j ≤ k → abc.length ^ j ≤ 1000) ∧ e = [C.fz (.scr (ns.map D.int)), C.fz (.lst (pick.map D.int)), C.fz (TD abc), C.fz (.int (abc.length : Nat)), C.fz (.int (m : Nat)), C.fz (rusD R), C.fz (rusD R2), C.fz (.int (s : Nat)), C.fz (.int (n : Nat)), C.fz (.int (l : Nat)), C.fz (.int (k : Nat)), .un, .un, .un, .un, .un]) ?_ ?_
  · refine ⟨_, atI_int D.int 5 rfl e5, ?_⟩
    simp! only [true_and]
    obtain ⟨z, hz1, z0, z20, hz2⟩ := short_ok al1 al6
    refine ⟨by omega, _, hz1, by omega, ?_⟩
    split
    · obtain ⟨y, hy, y0, y1⟩ := pk2 (if (m : Int) ≤ 8 then 1 else 0) (by split <;> simp)
      refine ⟨_, hy, ?_⟩
      rw [minP_3]
      refine ⟨(min (min p5 z) y).toNat, by omega, fun j hj => hz2 j (by omega), ?_⟩
      rw [show (((min (min p5 z) y).toNat : Nat) : Int) = min (min p5 z) y by omega]
    · rw [minP_3]
      refine ⟨(min (min p5 z) 20).toNat, by omega, fun j hj => hz2 j (by omega), ?_⟩
      rw [show (((min (min p5 z) 20).toNat : Nat) : Int) = min (min p5 z) 20 by omega]
  rintro _ ⟨k, k20, hk, rfl⟩
  have hl2 : ∀ x ∈ R, x.2.length ≤ 1000 := fun x hx => by rw [(okR x hx).len]; omega
  simp! only [true_and]
  refine ⟨R, rfl, by omega, hl2, ?_⟩
  refine ⟨abc, R, _, rfl, ab, .inr rfl, by omega, g1, ?_⟩
  refine ⟨abc, R2, _, rfl, ab, .inl rfl, by omega, g2, ?_⟩
  refine ⟨abc, R, n, s, rfl, by omega, by omega, g1, fR, n20, fun C1 cm1 => ?_⟩
  refine ⟨abc.length, R, s, n, rfl, g1, fR, by omega, by omega, n20, fun C2 cm2 => ?_⟩
  simp! only [true_and]
  refine due_ok g1 cm1 cm2 (by omega) n20 ?_
  simp! only [true_and]
  refine ⟨abc, R, s, k, rfl, ab, g1, fR, by omega, k20, hk, fun C3 cm3 => ?_⟩
  refine ⟨abc, R, k, s, rfl, by omega, by omega, g1, fR, k20, fun C4 cm4 => ?_⟩
  simp! only [true_and]
  refine due_ok g1 cm4 cm3 (by omega) k20 ?_
  simp! only [true_and]
  refine ⟨abc.length, R, 0, n, rfl, g1, fR, by omega, by omega, n20, fun C5 cm5 => ?_⟩
  refine ⟨abc, R, n, 0, rfl, by omega, by omega, g1, fR, n20, fun C6 cm6 => ?_⟩
  simp! only [true_and]
  refine due_ok g1 cm6 cm5 (by omega) n20 ?_
  simp! only [true_and]
  refine ⟨abc, R2, 0, k, rfl, ab, g2, fR2, by omega, k20, hk, fun C7 cm7 => ?_⟩
  refine ⟨abc, R2, k, 0, rfl, by omega, by omega, g2, fR2, k20, fun C8 cm8 => ?_⟩
  simp! only [true_and]
  refine due_ok g2 cm8 cm7 (by omega) k20 ?_
  simp! only [true_and]
  refine ⟨abc, R, l, s, rfl, by omega, by omega, g1, fR, by omega, fun C9 cm9 => ?_⟩
  have hle := BE.A_mono g1 cm9.dv l (n - l) s (by omega)
  rw [show l + (n - l) = n by omega] at hle
  have hsame := BE.same_red g1 cm1 cm9 n s (by omega)
  have hfl := BE.red_le (Nat.pow_pos (n := n) cm9.pos) (Nat.pow_pos (n := l) cm9.pos) hle
  rw [← hsame] at hfl
  have hl1 := BE.red_le (c := 1) (d := 1) (Nat.pow_pos (n := l) cm9.pos) Nat.one_pos (by rw [Nat.mul_one, Nat.one_mul]; exact BE.A_le g1 cm9.dv l s (by omega))
  have bA : ∀ (C n : Nat), BE.Com R C → n ≤ 20 → (BE.red (BE.A R C n s) (C ^ n)).1 ≤ 2 ^ 3680 ∧ (BE.red (BE.A R C n s) (C ^ n)).2 ≤ 2 ^ 3680 := fun C n c hn =>
    ⟨Nat.le_trans (Nat.div_le_self _ _) (Nat.le_trans (BE.A_le g1 c.dv n s (by omega)) (c.pw hn).1), Nat.le_trans (Nat.div_le_self _ _) (c.pw hn).1⟩
  obtain ⟨bf1, bf2⟩ := bA C1 n cm1 n20
  obtain ⟨bl1, bl2⟩ := bA C9 l cm9 (by omega)
  have o1 : ∀ b : Bool, (b = true ↔ BE.Full R n s) → decide (BE.red (BE.A R C1 n s) (C1 ^ n) = (1, 1)) = b := fun b hb => one_iff g1 cm1 (by omega) hb
  have o9 : ∀ b : Bool, (b = true ↔ BE.Full R l s) → decide (BE.red (BE.A R C9 l s) (C9 ^ l) = (1, 1)) = b := fun b hb => one_iff g1 cm9 (by omega) hb
  have hend : ∀ C : Nat, BE.Com R C → BE.red (BE.A R C n s) (C ^ n) = BE.red (BE.A R C1 n s) (C1 ^ n) := fun C c => BE.same_red g1 c cm1 n s (by omega)
  generalize BE.red (BE.A R C1 n s) (C1 ^ n) = first at *
  generalize BE.red (BE.A R C9 l s) (C9 ^ l) = less at *
  rw [show BE.red 1 1 = (1, 1) by decide] at hl1
  have hl1 : less.1 ≤ less.2 := by simpa using hl1
  dsimp only
  refine jn (fun e => e = [C.fz (.scr (ns.map D.int)), C.fz (.lst (pick.map D.int)), C.fz (TD abc), C.fz (.int (abc.length : Nat)), C.fz (.int (m : Nat)), C.fz (rusD R), C.fz (rusD R2), C.fz (.int (s : Nat)), C.fz (.int (n : Nat)), C.fz (.int (l : Nat)), C.fz (.int (k : Nat)), C.fz (betD abc R), C.fz (betD abc R2), C.fz (frD first), C.fz (.lst [.int ((BE.A R2 C7 k 0 : Nat) : Int), .int ((C7 ^ k : Nat) : Int)]), C.fz (frD less)]) ?_ ?_
  · simp! only [true_and]
    refine ⟨less, rfl, ?_⟩
    rw [show frD less = D.tup [D.int (less.1 : Nat), D.int (less.2 : Nat)] from rfl, show frD first = D.tup [D.int (first.1 : Nat), D.int (first.2 : Nat)] from rfl]
    simp! only [true_and]
    rw [if_neg (by omega)]
    refine ⟨cmP (K65.p2 bf1 (by decide)) (K65.p2 bl2 (by decide)), cmP (K65.p2 bl1 (by decide)) (K65.p2 bf2 (by decide)), ?_⟩
    rw [nm, nm, if_neg (by omega)]
    trivial
  rintro _ rfl
  have E1 : ∀ p : Nat × Nat, ∀ P : D → Prop, P (.bl (decide (p = (1, 1)))) → eqP (frD p) (.tup [.int 1, .int 1]) P := fun p P h => by
    have e : PyData.eqv (toPy (frD p)) (toPy (.tup [.int 1, .int 1])) = decide (p = (1, 1)) := fr_eqv p (1, 1)
    show cmpOk (frD p) = true ∧ cmpOk (frD (1, 1)) = true ∧ P (.bl (PyData.eqv (toPy (frD p)) (toPy (.tup [.int 1, .int 1]))))
    exact ⟨fr_cmp p, fr_cmp _, by rw [e]; exact h⟩
  simp! only [true_and]
  refine ⟨by omega, E1 _ _ ?_⟩
  simp! only [true_and]
  refine ⟨abc.length, R, s, l, rfl, g1, by omega, by omega, by omega, by omega, fun b hb => ?_⟩
  rw [o9 b hb]
  simp! only [true_and]
  try simp only [decide_true, Bool.not_true, Bool.false_eq_true, if_false]
  refine ⟨by omega, E1 _ _ ?_⟩
  refine ⟨abc.length, R, s, n, rfl, g1, by omega, by omega, by omega, n20, fun b hb => ?_⟩
  rw [o1 b hb]
  simp! only [true_and]
  try simp only [decide_true, Bool.not_true, Bool.false_eq_true, if_false]
  refine ⟨abc, R, 0, s, rfl, by omega, by omega, g1, fR, by decide, fun C c => ⟨by omega, ?_⟩⟩
  rw [red_zero]
  refine ⟨(1, 1), (1, 1), rfl, ?_⟩
  simp! only [true_and]
  refine ⟨abc, R2, 0, 0, rfl, by omega, by omega, g2, fR2, by decide, fun C c => ⟨by omega, ?_⟩⟩
  rw [red_zero]
  refine ⟨(1, 1), (1, 1), rfl, ?_⟩
  simp! only [true_and]
  refine ⟨abc, R, n, s, rfl, by omega, by omega, g1, fR, n20, fun C c => ?_⟩
  rw [hend C c]
  refine ⟨_, _, rfl, ?_⟩
  rw [decide_eq_true rfl]
  exact h
end K65
end

section
set_option linter.all false
set_option maxRecDepth 100000
set_option maxHeartbeats 0
/-! The walk of law_k65_chances_of_a_length; printed by gen.py. -/
namespace K65
open PySem PySem.Spec PyProof.Rows L2 PL
structure Fre (mg : MG) : Prop where
  bool : mg "bool" = none
  enumerate : mg "enumerate" = none
  int : mg "int" = none
  isinstance : mg "isinstance" = none
  len : mg "len" = none
  list : mg "list" = none
  max : mg "max" = none
  min : mg "min" = none
  range : mg "range" = none
  sorted : mg "sorted" = none
  sum : mg "sum" = none
  tuple : mg "tuple" = none
structure Glo (mg : MG) : Prop where
  LETTERS : ∃ t, mg "LETTERS" = some (.str "0123456789abcdefghijklmnopqrstuvwxyz" t)
section
variable {P : Program} {w : World} {K : PySem.W.Frag} {mg : MG} {base : Heap}
theorem sc_Bettor__init__ : FnScope ["self", "alphabet", "rules", "kept"] ["self", "alphabet", "rules"] (defScope d_Bettor__init__) := ⟨rfl, rfl, rfl, by decide +kernel, rfl, by decide +kernel, by decide +kernel⟩
theorem ok_Bettor__init__ {f : Addr} {fd : FuncData} (F : FunD K "__init__" "Bettor.__init__" (defArgs d_Bettor__init__) (defBody d_Bettor__init__) (defScope d_Bettor__init__) [] [] f fd) (M : Fre mg) (T_obj : ObT K mg objTab) {Cc : Addr} (hcl : mg "Bettor" = some (.ref Cc)) {f_check_alphabet : Addr} {fd_check_alphabet : FuncData} (C_check_alphabet : Cal P w K mg base "check_alphabet" ["alphabet"] 1 f_check_alphabet fd_check_alphabet sp_check_alphabet) {f_frozen : Addr} {fd_frozen : FuncData} (C_frozen : Cal P w K mg base "frozen" ["value"] 6 f_frozen fd_frozen sp_frozen) {f_check_moves : Addr} {fd_check_moves : FuncData} (C_check_moves : Cal P w K mg base "check_moves" ["alphabet", "rules"] 1 f_check_moves fd_check_moves sp_check_moves) {f_check_bets : Addr} {fd_check_bets : FuncData} (C_check_bets : Cal P w K mg base "check_bets" ["rules"] 3 f_check_bets fd_check_bets sp_check_bets) : FnOk P w K mg base CX0 7 f fd ["self", "alphabet", "rules"] (spN K mg "Bettor" Cc sp_Bettor__init__) :=
  have S := sc_Bettor__init__
  pfnN (p := (b_Bettor__init__ sp_check_alphabet sp_frozen sp_check_moves sp_check_bets)) F S hcl len_Bettor__init__ (fun cdv A outer s H E hr =>
    (puss_cons (pus_expr (pu_c C_check_alphabet hr (pua_cons (pu_name 1) pua_nil)))
      (puss_cons (pus_set 3 S.nd (pu_c C_frozen hr (pua_cons (pu_name 2) pua_nil)))
      (puss_cons (pus_expr (pu_c C_check_moves hr (pua_cons (pu_name 1) (pua_cons (pu_name 3) pua_nil))))
      (puss_cons (pus_expr (pu_c C_check_bets hr (pua_cons (pu_name 3) pua_nil)))
      (puss_cons (pus_fldS 0 T_obj (pv _) (pu_name 1))
      (puss_cons (pus_fldS 0 T_obj (pv _) (pu_name 3))
      (puss_one (pus_fldS 0 T_obj (pv _) (pu_len M.len (PuE.o (pu_name 3)))))))))))) w_Bettor__init__
theorem sc_frozen : FnScope ["value", "item"] ["value"] (defScope d_frozen) := ⟨rfl, rfl, rfl, by decide +kernel, rfl, by decide +kernel, by decide +kernel⟩
theorem ok_frozen_1 {f : Addr} {fd : FuncData} (F : FnP K "frozen" d_frozen f fd) (M : Fre mg) {f_frozen : Addr} {fd_frozen : FuncData} (C_frozen : Cal P w K mg base "frozen" ["value"] 1 f_frozen fd_frozen sp_frozen_0) : FnOk P w K mg base CX0 2 f fd ["value"] (spP K mg sp_frozen_1) :=
  have S := sc_frozen
  pfnD (p := (b_frozen sp_frozen_0)) F S len_frozen_1 (fun cdv A outer s H E hr =>
    (puss_cons (pus_if (put_val (pu_isi2 M.isinstance M.list M.tuple (pu_name 0)))
      (puss_one (pus_ret (pu_tuple M.tuple (PuF.o (puf_lc rfl S.nd (pui_e (pu_name 0)) (blkOk_by (own := [("item", 1)]) (N := ["value", "item"]) (sc := defScope d_frozen) (by decide +kernel)) (fun _ _ _ _ _ => (pug_name 1 S.nd)) (fun _ _ _ _ _ => puts_nil) (fun _ _ _ _ _ => (pu_c C_frozen hr (pua_cons (pu_name 1) pua_nil))))))))
      puss_nil)
      (puss_one (pus_ret (pu_name 0))))) w_frozen_1
theorem ok_frozen_2 {f : Addr} {fd : FuncData} (F : FnP K "frozen" d_frozen f fd) (M : Fre mg) {f_frozen : Addr} {fd_frozen : FuncData} (C_frozen : Cal P w K mg base "frozen" ["value"] 2 f_frozen fd_frozen sp_frozen_1) : FnOk P w K mg base CX0 3 f fd ["value"] (spP K mg sp_frozen_2) :=
  have S := sc_frozen
  pfnD (p := (b_frozen sp_frozen_1)) F S len_frozen_2 (fun cdv A outer s H E hr =>
    (puss_cons (pus_if (put_val (pu_isi2 M.isinstance M.list M.tuple (pu_name 0)))
      (puss_one (pus_ret (pu_tuple M.tuple (PuF.o (puf_lc rfl S.nd (pui_e (pu_name 0)) (blkOk_by (own := [("item", 1)]) (N := ["value", "item"]) (sc := defScope d_frozen) (by decide +kernel)) (fun _ _ _ _ _ => (pug_name 1 S.nd)) (fun _ _ _ _ _ => puts_nil) (fun _ _ _ _ _ => (pu_c C_frozen hr (pua_cons (pu_name 1) pua_nil))))))))
      puss_nil)
      (puss_one (pus_ret (pu_name 0))))) w_frozen_2
theorem ok_frozen_3 {f : Addr} {fd : FuncData} (F : FnP K "frozen" d_frozen f fd) (M : Fre mg) {f_frozen : Addr} {fd_frozen : FuncData} (C_frozen : Cal P w K mg base "frozen" ["value"] 3 f_frozen fd_frozen sp_frozen_2) : FnOk P w K mg base CX0 4 f fd ["value"] (spP K mg sp_frozen_3) :=
  have S := sc_frozen
  pfnD (p := (b_frozen sp_frozen_2)) F S len_frozen_3 (fun cdv A outer s H E hr =>
    (puss_cons (pus_if (put_val (pu_isi2 M.isinstance M.list M.tuple (pu_name 0)))
      (puss_one (pus_ret (pu_tuple M.tuple (PuF.o (puf_lc rfl S.nd (pui_e (pu_name 0)) (blkOk_by (own := [("item", 1)]) (N := ["value", "item"]) (sc := defScope d_frozen) (by decide +kernel)) (fun _ _ _ _ _ => (pug_name 1 S.nd)) (fun _ _ _ _ _ => puts_nil) (fun _ _ _ _ _ => (pu_c C_frozen hr (pua_cons (pu_name 1) pua_nil))))))))
      puss_nil)
      (puss_one (pus_ret (pu_name 0))))) w_frozen_3
theorem ok_frozen_4 {f : Addr} {fd : FuncData} (F : FnP K "frozen" d_frozen f fd) (M : Fre mg) {f_frozen : Addr} {fd_frozen : FuncData} (C_frozen : Cal P w K mg base "frozen" ["value"] 4 f_frozen fd_frozen sp_frozen_3) : FnOk P w K mg base CX0 5 f fd ["value"] (spP K mg sp_frozen_4) :=
  have S := sc_frozen
  pfnD (p := (b_frozen sp_frozen_3)) F S len_frozen_4 (fun cdv A outer s H E hr =>
    (puss_cons (pus_if (put_val (pu_isi2 M.isinstance M.list M.tuple (pu_name 0)))
      (puss_one (pus_ret (pu_tuple M.tuple (PuF.o (puf_lc rfl S.nd (pui_e (pu_name 0)) (blkOk_by (own := [("item", 1)]) (N := ["value", "item"]) (sc := defScope d_frozen) (by decide +kernel)) (fun _ _ _ _ _ => (pug_name 1 S.nd)) (fun _ _ _ _ _ => puts_nil) (fun _ _ _ _ _ => (pu_c C_frozen hr (pua_cons (pu_name 1) pua_nil))))))))
      puss_nil)
      (puss_one (pus_ret (pu_name 0))))) w_frozen_4
theorem ok_frozen_5 {f : Addr} {fd : FuncData} (F : FnP K "frozen" d_frozen f fd) (M : Fre mg) {f_frozen : Addr} {fd_frozen : FuncData} (C_frozen : Cal P w K mg base "frozen" ["value"] 5 f_frozen fd_frozen sp_frozen_4) : FnOk P w K mg base CX0 6 f fd ["value"] (spP K mg sp_frozen_5) :=
  have S := sc_frozen
  pfnD (p := (b_frozen sp_frozen_4)) F S len_frozen_5 (fun cdv A outer s H E hr =>
    (puss_cons (pus_if (put_val (pu_isi2 M.isinstance M.list M.tuple (pu_name 0)))
      (puss_one (pus_ret (pu_tuple M.tuple (PuF.o (puf_lc rfl S.nd (pui_e (pu_name 0)) (blkOk_by (own := [("item", 1)]) (N := ["value", "item"]) (sc := defScope d_frozen) (by decide +kernel)) (fun _ _ _ _ _ => (pug_name 1 S.nd)) (fun _ _ _ _ _ => puts_nil) (fun _ _ _ _ _ => (pu_c C_frozen hr (pua_cons (pu_name 1) pua_nil))))))))
      puss_nil)
      (puss_one (pus_ret (pu_name 0))))) w_frozen_5
theorem sc_is_whole : FnScope ["value"] ["value"] (defScope d_is_whole) := ⟨rfl, rfl, rfl, by decide +kernel, rfl, by decide +kernel, by decide +kernel⟩
theorem ok_is_whole {f : Addr} {fd : FuncData} (F : FnP K "is_whole" d_is_whole f fd) (M : Fre mg) : FnOk P w K mg base CX0 1 f fd ["value"] (spP K mg sp_is_whole) :=
  have S := sc_is_whole
  pfnD (p := b_is_whole) F S len_is_whole (fun cdv A outer s H E hr =>
    (puss_one (pus_ret (pu_and (pu_isi M.isinstance M.int (PuE.o (pu_name 0))) (pu_one (pu_not (pu_isi M.isinstance M.bool (PuE.o (pu_name 0))))))))) w_is_whole
theorem sc_check_alphabet : FnScope ["alphabet", "index", "letter"] ["alphabet"] (defScope d_check_alphabet) := ⟨rfl, rfl, rfl, by decide +kernel, rfl, by decide +kernel, by decide +kernel⟩
theorem ok_check_alphabet {f : Addr} {fd : FuncData} (F : FnP K "check_alphabet" d_check_alphabet f fd) (M : Fre mg) (G : Glo mg) : FnOk P w K mg base CX0 1 f fd ["alphabet"] (spP K mg sp_check_alphabet) :=
  have S := sc_check_alphabet
  pfnD (p := b_check_alphabet) F S len_check_alphabet (fun cdv A outer s H E hr =>
    (puss_cons (pus_if (put_not (put_chain op_leAll leP_ok op_leAll leP_ok (PuE.o pu_int) (PuE.o (pu_len M.len (PuE.o (pu_name 0)))) (PuE.o pu_int)))
      (puss_one pus_never)
      puss_nil)
      (puss_one (pus_for PassesOwn.never rfl (pui_en M.enumerate (pu_name 0)) (pug_tup rfl (pugs_cons (pug_name 1 S.nd) (pugs_cons (pug_name 2 S.nd) pugs_nil)))
      (puss_one (pus_if (PuW.t (puw_or (put_notIn (Room.u65 hr) (pu_name 2) (PuE.o (pu_gstr G.LETTERS))) (puw_or1 (PuW.t (puw_and (put_gt (PuE.o (pu_name 1)) (PuE.o pu_int)) (puw_and1 (put_ge (PuE.o (pu_ix (hu_of hr) (PuE.o (pu_name 0)) (pu_sub (PuE.o (pu_name 1)) (PuE.o pu_int)))) (PuE.o (pu_name 2)))))))))
      (puss_one pus_never)
      puss_nil)))))) w_check_alphabet
theorem sc_ratio : FnScope ["top", "bottom", "common"] ["top", "bottom"] (defScope d_ratio) := ⟨rfl, rfl, rfl, by decide +kernel, rfl, by decide +kernel, by decide +kernel⟩
theorem ok_ratio {f : Addr} {fd : FuncData} (F : FnP K "ratio" d_ratio f fd) (I_gcd : mg "gcd" = some (.builtin "math.gcd")) : FnOk P w K mg base CX0 1 f fd ["top", "bottom"] (spP K mg sp_ratio) :=
  have S := sc_ratio
  pfnD (p := b_ratio) F S len_ratio (fun cdv A outer s H E hr =>
    (puss_cons (pus_set 2 S.nd (pu_gcd I_gcd (PuE.o (pu_name 0)) (PuE.o (pu_name 1))))
      (puss_one (pus_ret (pu_tup (pua_cons (pu_fdiv (PuE.o (pu_name 0)) (PuE.o (pu_name 2))) (pua_cons (pu_fdiv (PuE.o (pu_name 1)) (PuE.o (pu_name 2))) pua_nil))))))) w_ratio
theorem sc_check_moves : FnScope ["alphabet", "rules", "standing", "rule"] ["alphabet", "rules"] (defScope d_check_moves) := ⟨rfl, rfl, rfl, by decide +kernel, rfl, by decide +kernel, by decide +kernel⟩
theorem ok_check_moves {f : Addr} {fd : FuncData} (F : FnP K "check_moves" d_check_moves f fd) (M : Fre mg) : FnOk P w K mg base CX0 1 f fd ["alphabet", "rules"] (spP K mg sp_check_moves) :=
  have S := sc_check_moves
  pfnD (p := b_check_moves) F S len_check_moves (fun cdv A outer s H E hr =>
    (puss_cons (pus_if (put_eq (Room.units hr) (PuE.o (pu_len M.len (PuE.o (pu_name 1)))) (PuE.o pu_int))
      (puss_one pus_never)
      puss_nil)
      (puss_one (pus_for PassesOwn.never rfl (pui_en M.enumerate (pu_name 1)) (pug_tup rfl (pugs_cons (pug_name 2 S.nd) (pugs_cons (pug_name 3 S.nd) pugs_nil)))
      (puss_one (pus_if (put_ne (Room.units hr) (PuE.o (pu_len M.len (PuE.o (pu_ix (hu_of hr) (PuE.o (pu_name 3)) pu_int)))) (PuE.o (pu_len M.len (PuE.o (pu_name 0)))))
      (puss_one pus_never)
      puss_nil)))))) w_check_moves
theorem sc_check_bets : FnScope ["rules", "standing", "rule"] ["rules"] (defScope d_check_bets) := ⟨rfl, rfl, rfl, by decide +kernel, rfl, by decide +kernel, by decide +kernel⟩
theorem ok_check_bets {f : Addr} {fd : FuncData} (F : FnP K "check_bets" d_check_bets f fd) (M : Fre mg) {f_is_good_bet : Addr} {fd_is_good_bet : FuncData} (C_is_good_bet : Cal P w K mg base "is_good_bet" ["rule", "standings"] 2 f_is_good_bet fd_is_good_bet sp_is_good_bet) : FnOk P w K mg base CX0 3 f fd ["rules"] (spP K mg sp_check_bets) :=
  have S := sc_check_bets
  pfnD (p := (b_check_bets sp_is_good_bet)) F S len_check_bets (fun cdv A outer s H E hr =>
    (puss_one (pus_for PassesOwn.never rfl (pui_en M.enumerate (pu_name 0)) (pug_tup rfl (pugs_cons (pug_name 1 S.nd) (pugs_cons (pug_name 2 S.nd) pugs_nil)))
      (puss_one (pus_if (put_not (put_val (pu_c C_is_good_bet hr (pua_cons (pu_name 2) (pua_cons (pu_len M.len (PuE.o (pu_name 0))) pua_nil)))))
      (puss_one pus_never)
      puss_nil))))) w_check_bets
theorem sc_is_good_bet : FnScope ["rule", "standings", "total", "moves", "together", "following", "stake"] ["rule", "standings"] (defScope d_is_good_bet) := ⟨rfl, rfl, rfl, by decide +kernel, rfl, by decide +kernel, by decide +kernel⟩
theorem ok_is_good_bet {f : Addr} {fd : FuncData} (F : FnP K "is_good_bet" d_is_good_bet f fd) {f_is_whole : Addr} {fd_is_whole : FuncData} (C_is_whole : Cal P w K mg base "is_whole" ["value"] 1 f_is_whole fd_is_whole sp_is_whole) : FnOk P w K mg base CX0 2 f fd ["rule", "standings"] (spP K mg sp_is_good_bet) :=
  have S := sc_is_good_bet
  pfnD (p := (b_is_good_bet sp_is_whole)) F S len_is_good_bet (fun cdv A outer s H E hr =>
    (puss_cons (pus_asg (pu_name 0) (pug_tup rfl (pugs_cons (pug_name 2 S.nd) (pugs_cons (pug_name 3 S.nd) pugs_nil))))
      (puss_cons (pus_jn (pus_if (PuW.t (puw_or (put_not (put_val (pu_c C_is_whole hr (pua_cons (pu_name 2) pua_nil)))) (puw_or1 (put_lt (PuE.o (pu_name 2)) (PuE.o pu_int)))))
      (puss_one (pus_ret pu_bl))
      puss_nil))
      (puss_cons (pus_set 4 S.nd pu_int)
      (puss_cons (pus_for PassesOwn.never rfl (pui_e (pu_name 3)) (pug_tup rfl (pugs_cons (pug_name 5 S.nd) (pugs_cons (pug_name 6 S.nd) pugs_nil)))
      (puss_cons (pus_if (PuW.t (puw_or (put_not (put_val (pu_c C_is_whole hr (pua_cons (pu_name 5) pua_nil)))) (puw_or (put_lt (PuE.o (pu_name 5)) (PuE.o pu_int)) (puw_or1 (put_ge (PuE.o (pu_name 5)) (PuE.o (pu_name 1)))))))
      (puss_one (pus_ret pu_bl))
      puss_nil)
      (puss_cons (pus_if (PuW.t (puw_or (put_not (put_val (pu_c C_is_whole hr (pua_cons (pu_name 6) pua_nil)))) (puw_or1 (put_lt (PuE.o (pu_name 6)) (PuE.o pu_int)))))
      (puss_one (pus_ret pu_bl))
      puss_nil)
      (puss_one (pus_set 4 S.nd (pu_add (PuE.o (pu_name 4)) (PuE.o (pu_name 6))))))))
      (puss_one (pus_ret (pu_le (PuE.o (pu_name 4)) (PuE.o (pu_name 2)))))))))) w_is_good_bet
theorem sc_common_total : FnScope ["bettor", "common", "rule"] ["bettor"] (defScope d_common_total) := ⟨rfl, rfl, rfl, by decide +kernel, rfl, by decide +kernel, by decide +kernel⟩
theorem ok_common_total {f : Addr} {fd : FuncData} (F : FnP K "common_total" d_common_total f fd) (I_lcm : mg "lcm" = some (.builtin "math.lcm")) (T_obj : ObT K mg objTab) : FnOk P w K mg base CX0 1 f fd ["bettor"] (spP K mg sp_common_total) :=
  have S := sc_common_total
  pfnD (p := b_common_total) F S len_common_total (fun cdv A outer s H E hr =>
    (puss_cons (pus_set 1 S.nd pu_int)
      (puss_cons (pus_for PassesOwn.never rfl (pui_e (pu_fld T_obj (PuE.o (pu_name 0)))) (pug_name 2 S.nd)
      (puss_one (pus_set 1 S.nd (pu_lcm I_lcm (PuE.o (pu_name 1)) (PuE.o (pu_ix (hu_of hr) (PuE.o (pu_name 2)) pu_int))))))
      (puss_one (pus_ret (pu_name 1)))))) w_common_total
theorem sc_one_letter_more : FnScope ["bettor", "common", "tops", "grown", "total", "moves", "top", "following", "stake"] ["bettor", "common", "tops"] (defScope d_one_letter_more) := ⟨rfl, rfl, rfl, by decide +kernel, rfl, by decide +kernel, by decide +kernel⟩
theorem ok_one_letter_more {f : Addr} {fd : FuncData} (F : FnP K "one_letter_more" d_one_letter_more f fd) (T_obj : ObT K mg objTab) : FnOk P w K mg base CX0 1 f fd ["bettor", "common", "tops"] (spP K mg sp_one_letter_more) :=
  have S := sc_one_letter_more
  pfnD (p := b_one_letter_more) F S len_one_letter_more (fun cdv A outer s H E hr =>
    (puss_cons (pus_setO 3 S.nd (puf_lst pua_nil))
      (puss_cons (pus_for PassesOwn.never rfl (pui_e (pu_fld T_obj (PuE.o (pu_name 0)))) (pug_tup rfl (pugs_cons (pug_name 4 S.nd) (pugs_cons (pug_name 5 S.nd) pugs_nil)))
      (puss_cons (pus_set 6 S.nd pu_int)
      (puss_cons (pus_for PassesOwn.never rfl (pui_e (pu_name 5)) (pug_tup rfl (pugs_cons (pug_name 7 S.nd) (pugs_cons (pug_name 8 S.nd) pugs_nil)))
      (puss_one (pus_set 6 S.nd (pu_add (PuE.o (pu_name 6)) (PuE.o (pu_mul (PuE.o (pu_name 8)) (PuE.o (pu_ix (hu_of hr) (PuE.o (pu_name 2)) (pu_name 7)))))))))
      (puss_one (pus_app 3 (pu_mul (PuE.o (pu_name 6)) (PuE.o (pu_fdiv (PuE.o (pu_name 1)) (PuE.o (pu_name 4))))))))))
      (puss_one (pus_frz 3 (pus_ret (pu_name 3))))))) w_one_letter_more
theorem sc_length_chance : FnScope ["bettor", "length", "start", "common", "tops", "bottom", "_"] ["bettor", "length", "start"] (defScope d_length_chance) := ⟨rfl, rfl, rfl, by decide +kernel, rfl, by decide +kernel, by decide +kernel⟩
theorem ok_length_chance {f : Addr} {fd : FuncData} (F : FnP K "length_chance" d_length_chance f fd) (M : Fre mg) (T_obj : ObT K mg objTab) {f_common_total : Addr} {fd_common_total : FuncData} (C_common_total : Cal P w K mg base "common_total" ["bettor"] 1 f_common_total fd_common_total sp_common_total) {f_one_letter_more : Addr} {fd_one_letter_more : FuncData} (C_one_letter_more : Cal P w K mg base "one_letter_more" ["bettor", "common", "tops"] 1 f_one_letter_more fd_one_letter_more sp_one_letter_more) {f_ratio : Addr} {fd_ratio : FuncData} (C_ratio : Cal P w K mg base "ratio" ["top", "bottom"] 1 f_ratio fd_ratio sp_ratio) : FnOk P w K mg base CX0 2 f fd ["bettor", "length", "start"] (spP K mg sp_length_chance) :=
  have S := sc_length_chance
  pfnD (p := (b_length_chance sp_common_total sp_one_letter_more sp_ratio)) F S len_length_chance (fun cdv A outer s H E hr =>
    (puss_cons (pus_set 3 S.nd (pu_c C_common_total hr (pua_cons (pu_name 0) pua_nil)))
      (puss_cons (pus_setLc 4 rfl S.nd (pui_e (pu_fld T_obj (PuE.o (pu_name 0)))) (blkOk_by (own := [("_", 6)]) (N := ["bettor", "length", "start", "common", "tops", "bottom", "_"]) (sc := defScope d_length_chance) (by decide +kernel)) (fun _ _ _ _ _ => (pug_name 6 S.nd)) (fun _ _ _ _ _ => puts_nil) (fun _ _ _ _ _ => pu_int))
      (puss_frz 4 (puss_cons (pus_set 5 S.nd pu_int)
      (puss_cons (pus_for PassesOwn.never rfl (pui_r1 M.range (pu_name 1)) (pug_name 6 S.nd)
      (puss_cons (pus_set 4 S.nd (pu_c C_one_letter_more hr (pua_cons (pu_name 0) (pua_cons (pu_name 3) (pua_cons (pu_name 4) pua_nil)))))
      (puss_one (pus_set 5 S.nd (pu_mul (PuE.o (pu_name 5)) (PuE.o (pu_name 3)))))))
      (puss_one (pus_ret (pu_c C_ratio hr (pua_cons (pu_ix (hu_of hr) (PuE.o (pu_name 4)) (pu_name 2)) (pua_cons (pu_name 5) pua_nil))))))))))) w_length_chance
theorem sc_law_whole : FnScope ["value"] ["value"] (defScope d_law_whole) := ⟨rfl, rfl, rfl, by decide +kernel, rfl, by decide +kernel, by decide +kernel⟩
theorem ok_law_whole {f : Addr} {fd : FuncData} (F : FnP K "_law_whole" d_law_whole f fd) (M : Fre mg) : FnOk P w K mg base CX0 1 f fd ["value"] (spP K mg sp_law_whole) :=
  have S := sc_law_whole
  pfnD (p := b_law_whole) F S len_law_whole (fun cdv A outer s H E hr =>
    (puss_one (pus_ret (pu_and (pu_isi M.isinstance M.int (PuE.o (pu_name 0))) (pu_one (pu_not (pu_isi M.isinstance M.bool (PuE.o (pu_name 0))))))))) w_law_whole
theorem sc_law_cell : FnScope ["script", "k", "seed", "cell"] ["script", "k"] (defScope d_law_cell) := ⟨rfl, rfl, rfl, by decide +kernel, rfl, by decide +kernel, by decide +kernel⟩
theorem ok_law_cell {f : Addr} {fd : FuncData} (F : FnP K "_law_cell" d_law_cell f fd) (M : Fre mg) : FnOk P w K mg base CX0 1 f fd ["script", "k"] (spP K mg sp_law_cell) :=
  have S := sc_law_cell
  pfnD (p := b_law_cell) F S len_law_cell (fun cdv A outer s H E hr =>
    (puss_cons (pus_if (put_lt (PuE.o (pu_name 1)) (PuE.o (pu_len M.len (PuE.o (pu_name 0)))))
      (puss_one (pus_ret (pu_ix (hu_of hr) (PuE.o (pu_name 0)) (pu_name 1))))
      puss_nil)
      (puss_cons (pus_set 2 S.nd pu_int)
      (puss_cons (pus_for PassesOwn.never rfl (pui_e (pu_name 0)) (pug_name 3 S.nd)
      (puss_one (pus_set 2 S.nd (pu_mod (PuE.o (pu_int1 M.int (PuE.o (pu_add (PuE.o (pu_mul (PuE.o (pu_name 2)) (PuE.o pu_int))) (PuE.o (pu_mod (PuE.o (pu_int1 M.int (PuE.o (pu_name 3)))) (PuE.o pu_int))))))) (PuE.o pu_int)))))
      (puss_one (pus_ret (pu_mod (PuE.o (pu_int1 M.int (PuE.o (pu_mul (PuE.o (pu_mul (PuE.o (pu_add (PuE.o (pu_name 2)) (PuE.o pu_int))) (PuE.o (pu_add (PuE.o (pu_name 1)) (PuE.o pu_int))))) (PuE.o pu_int))))) (PuE.o pu_int)))))))) w_law_cell
theorem sc_law_digits : FnScope ["cell", "sizes", "row", "rest", "size", "seed", "k", "twice"] ["cell", "sizes"] (defScope d_law_digits) := ⟨rfl, rfl, rfl, by decide +kernel, rfl, by decide +kernel, by decide +kernel⟩
theorem ok_law_digits {f : Addr} {fd : FuncData} (F : FnP K "_law_digits" d_law_digits f fd) (M : Fre mg) : FnOk P w K mg base CX0 1 f fd ["cell", "sizes"] (spP K mg sp_law_digits) :=
  have S := sc_law_digits
  pfnD (p := b_law_digits) F S len_law_digits (fun cdv A outer s H E hr =>
    (puss_cons (pus_setO 2 S.nd (puf_lst pua_nil))
      (puss_cons (pus_set 3 S.nd (pu_int1 M.int (PuE.o (pu_name 0))))
      (puss_cons (pus_if (put_ge (PuE.o (pu_name 3)) (PuE.o (pu_pow (PuE.o pu_int) (PuE.o pu_int))))
      (puss_cons (pus_set 3 S.nd (pu_sub (PuE.o (pu_name 3)) (PuE.o (pu_pow (PuE.o pu_int) (PuE.o pu_int)))))
      (puss_cons (pus_for PassesOwn.never rfl (pui_e (pu_name 1)) (pug_name 4 S.nd)
      (puss_cons (pus_app 2 (pu_mod (PuE.o (pu_int1 M.int (PuE.o (pu_name 3)))) (PuE.o (pu_name 4))))
      (puss_one (pus_set 3 S.nd (pu_fdiv (PuE.o (pu_int1 M.int (PuE.o (pu_name 3)))) (PuE.o (pu_name 4)))))))
      (puss_one (pus_frz 2 (pus_ret (pu_name 2))))))
      puss_nil)
      (puss_cons (pus_set 5 S.nd (pu_mod (PuE.o (pu_int1 M.int (PuE.o (pu_name 3)))) (PuE.o pu_int)))
      (puss_cons (pus_for PassesOwn.never rfl (pui_r1 M.range (pu_len M.len (PuE.o (pu_name 1)))) (pug_name 6 S.nd)
      (puss_cons (pus_set 5 S.nd (pu_mod (PuE.o (pu_int1 M.int (PuE.o (pu_add (PuE.o (pu_add (PuE.o (pu_mul (PuE.o (pu_name 5)) (PuE.o pu_int))) (PuE.o (pu_mul (PuE.o pu_int) (PuE.o (pu_name 6)))))) (PuE.o pu_int))))) (PuE.o pu_int)))
      (puss_cons (pus_set 7 S.nd (pu_mod (PuE.o (pu_int1 M.int (PuE.o (pu_mul (PuE.o (pu_name 5)) (PuE.o (pu_add (PuE.o (pu_fdiv (PuE.o (pu_name 5)) (PuE.o pu_int))) (PuE.o pu_int))))))) (PuE.o pu_int)))
      (puss_one (pus_app 2 (pu_mod (PuE.o (pu_fdiv (PuE.o (pu_name 7)) (PuE.o pu_int))) (PuE.o (pu_ix (hu_of hr) (PuE.o (pu_name 1)) (pu_name 6)))))))))
      (puss_one (pus_frz 2 (pus_ret (pu_name 2)))))))))) w_law_digits
theorem sc_law_alphabet : FnScope ["row", "upto", "many", "letters", "taken", "k", "at", "turn"] ["row", "upto"] (defScope d_law_alphabet) := ⟨rfl, rfl, rfl, by decide +kernel, rfl, by decide +kernel, by decide +kernel⟩
theorem ok_law_alphabet {f : Addr} {fd : FuncData} (F : FnP K "_law_alphabet" d_law_alphabet f fd) (M : Fre mg) : FnOk P w K mg base CX0 1 f fd ["row", "upto"] (spP K mg sp_law_alphabet) :=
  have S := sc_law_alphabet
  pfnD (p := b_law_alphabet) F S len_law_alphabet (fun cdv A outer s H E hr =>
    (puss_cons (pus_set 2 S.nd (pu_min rfl M.min (puao_cons (PuE.o (pu_name 1)) (puao_cons (PuE.o (pu_ix (hu_of hr) (PuF.o (puf_lst (pua_cons pu_int (pua_cons pu_int (pua_cons pu_int (pua_cons pu_int (pua_cons pu_int (pua_cons pu_int (pua_cons pu_int (pua_cons pu_int (pua_cons pu_int (pua_cons pu_int (pua_cons pu_int (pua_cons pu_int pua_nil)))))))))))))) (pu_ix (hu_of hr) (PuE.o (pu_name 0)) pu_int))) puao_nil))))
      (puss_cons (pus_set 3 S.nd pu_str)
      (puss_cons (pus_setO 4 S.nd (puf_lst pua_nil))
      (puss_cons (pus_for PassesOwn.never rfl (pui_r1 M.range (pu_name 2)) (pug_name 5 S.nd)
      (puss_cons (pus_set 6 S.nd (pu_mod (PuE.o (pu_int1 M.int (PuE.o (pu_ix (hu_of hr) (PuE.o (pu_name 0)) (pu_add (PuE.o pu_int) (PuE.o (pu_name 5))))))) (PuE.o pu_int)))
      (puss_cons (pus_for PassesOwn.never rfl (pui_r1 M.range pu_int) (pug_name 7 S.nd)
      (puss_one (pus_if (put_in (Room.u65 hr) (pu_ix (hu_of hr) (PuE.o (pu_name 3)) (pu_name 6)) (pu_nameO 4))
      (puss_one (pus_set 6 S.nd (pu_mod (PuE.o (pu_int1 M.int (PuE.o (pu_add (PuE.o (pu_name 6)) (PuE.o pu_int))))) (PuE.o pu_int))))
      puss_nil)))
      (puss_one (pus_app 4 (pu_ix (hu_of hr) (PuE.o (pu_name 3)) (pu_name 6)))))))
      (puss_one (pus_ret (pu_join pu_str (PuF.o (puf_sortI M.sorted (pu_nameO 4))))))))))) w_law_alphabet
theorem sc_law_ratio : FnScope ["top", "bottom", "one", "two", "turn", "rest"] ["top", "bottom"] (defScope d_law_ratio) := ⟨rfl, rfl, rfl, by decide +kernel, rfl, by decide +kernel, by decide +kernel⟩
theorem ok_law_ratio {f : Addr} {fd : FuncData} (F : FnP K "_law_ratio" d_law_ratio f fd) (M : Fre mg) : FnOk P w K mg base CX0 1 f fd ["top", "bottom"] (spP K mg sp_law_ratio) :=
  have S := sc_law_ratio
  pfnD (p := b_law_ratio) F S len_law_ratio (fun cdv A outer s H E hr =>
    (puss_cons (pus_set 2 S.nd (pu_name 0))
      (puss_cons (pus_set 3 S.nd (pu_name 1))
      (puss_cons (pus_for PassesOwn.never rfl (pui_r1 M.range pu_int) (pug_name 4 S.nd)
      (puss_cons (pus_if (put_eq (Room.units hr) (PuE.o (pu_name 3)) (PuE.o pu_int))
      (puss_one pus_break)
      puss_nil)
      (puss_cons (pus_set 5 S.nd (pu_mod (PuE.o (pu_int1 M.int (PuE.o (pu_name 2)))) (PuE.o (pu_name 3))))
      (puss_cons (pus_set 2 S.nd (pu_name 3))
      (puss_one (pus_set 3 S.nd (pu_name 5)))))))
      (puss_one (pus_ret (pu_tup (pua_cons (pu_fdiv (PuE.o (pu_name 0)) (PuE.o (pu_name 2))) (pua_cons (pu_fdiv (PuE.o (pu_name 1)) (PuE.o (pu_name 2))) pua_nil))))))))) w_law_ratio
theorem sc_law_fraction : FnScope ["value"] ["value"] (defScope d_law_fraction) := ⟨rfl, rfl, rfl, by decide +kernel, rfl, by decide +kernel, by decide +kernel⟩
theorem ok_law_fraction {f : Addr} {fd : FuncData} (F : FnP K "_law_fraction" d_law_fraction f fd) (M : Fre mg) {f_law_whole : Addr} {fd_law_whole : FuncData} (C_law_whole : Cal P w K mg base "_law_whole" ["value"] 1 f_law_whole fd_law_whole sp_law_whole) : FnOk P w K mg base CX0 2 f fd ["value"] (spP K mg sp_law_fraction) :=
  have S := sc_law_fraction
  pfnD (p := (b_law_fraction sp_law_whole)) F S len_law_fraction (fun cdv A outer s H E hr =>
    (puss_one (pus_ret (pu_and (pu_isi M.isinstance M.tuple (PuE.o (pu_name 0))) (pu_and (pu_eq (Room.units hr) (PuE.o (pu_len M.len (PuE.o (pu_name 0)))) (PuE.o pu_int)) (pu_and (pu_c C_law_whole hr (pua_cons (pu_ix (hu_of hr) (PuE.o (pu_name 0)) pu_int) pua_nil)) (pu_one (pu_c C_law_whole hr (pua_cons (pu_ix (hu_of hr) (PuE.o (pu_name 0)) pu_int) pua_nil))))))))) w_law_fraction
theorem sc_law_same : FnScope ["value", "due"] ["value", "due"] (defScope d_law_same) := ⟨rfl, rfl, rfl, by decide +kernel, rfl, by decide +kernel, by decide +kernel⟩
theorem ok_law_same {f : Addr} {fd : FuncData} (F : FnP K "_law_same" d_law_same f fd) {f_law_fraction : Addr} {fd_law_fraction : FuncData} (C_law_fraction : Cal P w K mg base "_law_fraction" ["value"] 2 f_law_fraction fd_law_fraction sp_law_fraction) : FnOk P w K mg base CX0 3 f fd ["value", "due"] (spP K mg sp_law_same) :=
  have S := sc_law_same
  pfnD (p := (b_law_same sp_law_fraction)) F S len_law_same (fun cdv A outer s H E hr =>
    (puss_one (pus_ret (pu_and (pu_c C_law_fraction hr (pua_cons (pu_name 0) pua_nil)) (pu_one (pu_eq (Room.units hr) (PuE.o (pu_name 0)) (PuE.o (pu_name 1)))))))) w_law_same
theorem sc_law_bet : FnScope ["size", "row", "many", "bare", "kind", "stakes", "k", "digit", "stake", "together", "total"] ["size", "row", "many", "bare"] (defScope d_law_bet) := ⟨rfl, rfl, rfl, by decide +kernel, rfl, by decide +kernel, by decide +kernel⟩
theorem ok_law_bet {f : Addr} {fd : FuncData} (F : FnP K "_law_bet" d_law_bet f fd) (M : Fre mg) : FnOk P w K mg base CX0 1 f fd ["size", "row", "many", "bare"] (spP K mg sp_law_bet) :=
  have S := sc_law_bet
  pfnD (p := b_law_bet) F S len_law_bet (fun cdv A outer s H E hr =>
    (puss_cons (pus_set 4 S.nd (pu_ix (hu_of hr) (PuE.o (pu_name 1)) pu_int))
      (puss_cons (pus_setO 5 S.nd (puf_lst pua_nil))
      (puss_cons (pus_for PassesOwn.never rfl (pui_r1 M.range (pu_name 0)) (pug_name 6 S.nd)
      (puss_cons (pus_set 7 S.nd (pu_ix (hu_of hr) (PuE.o (pu_name 1)) (pu_add (PuE.o pu_int) (PuE.o (pu_name 6)))))
      (puss_cons (pus_set 8 S.nd (pu_add (PuE.o pu_int) (PuE.o (pu_mod (PuE.o (pu_int1 M.int (PuE.o (pu_name 7)))) (PuE.o pu_int)))))
      (puss_cons (pus_jn (pus_if (PuW.t (puw_or (put_eq (Room.units hr) (PuE.o (pu_name 4)) (PuE.o pu_int)) (puw_or1 (put_eq (Room.units hr) (PuE.o (pu_name 4)) (PuE.o pu_int)))))
      (puss_one (pus_set 8 S.nd (pu_ix (hu_of hr) (PuF.o (puf_lst (pua_cons pu_int (pua_cons pu_int (pua_cons pu_int (pua_cons pu_int (pua_cons pu_int (pua_cons pu_int (pua_cons pu_int (pua_cons pu_int (pua_cons pu_int (pua_cons pu_int (pua_cons pu_int (pua_cons pu_int pua_nil)))))))))))))) (pu_mod (PuE.o (pu_int1 M.int (PuE.o (pu_name 7)))) (PuE.o pu_int)))))
      puss_nil))
      (puss_cons (pus_jn (pus_if (PuW.t (puw_or (put_eq (Room.units hr) (PuE.o (pu_name 4)) (PuE.o pu_int)) (puw_or1 (put_eq (Room.units hr) (PuE.o (pu_name 4)) (PuE.o pu_int)))))
      (puss_one (pus_set 8 S.nd (pu_add (PuE.o pu_int) (PuE.o (pu_mod (PuE.o (pu_int1 M.int (PuE.o (pu_name 7)))) (PuE.o (pu_fdiv (PuE.o (pu_pow (PuE.o pu_int) (PuE.o pu_int))) (PuE.o (pu_name 0)))))))))
      puss_nil))
      (puss_cons (pus_jn (pus_if (PuW.t (puw_and (put_eq (Room.units hr) (PuE.o (pu_name 4)) (PuE.o pu_int)) (puw_and1 (put_eq (Room.units hr) (PuE.o (pu_name 6)) (PuE.o (pu_mod (PuE.o (pu_int1 M.int (PuE.o (pu_ix (hu_of hr) (PuE.o (pu_name 1)) pu_int)))) (PuE.o (pu_name 0))))))))
      (puss_one (pus_set 8 S.nd (pu_add (PuE.o pu_int) (PuE.o (pu_mod (PuE.o (pu_int1 M.int (PuE.o (pu_name 7)))) (PuE.o pu_int))))))
      puss_nil))
      (puss_cons (pus_jn (pus_if (PuW.t (puw_or (put_eq (Room.units hr) (PuE.o (pu_name 4)) (PuE.o pu_int)) (puw_or1 (put_eq (Room.units hr) (PuE.o (pu_name 4)) (PuE.o pu_int)))))
      (puss_one (pus_set 8 S.nd (pu_add (PuE.o pu_int) (PuE.o (pu_mod (PuE.o (pu_int1 M.int (PuE.o (pu_ix (hu_of hr) (PuE.o (pu_name 1)) pu_int)))) (PuE.o pu_int))))))
      puss_nil))
      (puss_cons (pus_jn (pus_if (put_eq (Room.units hr) (PuE.o (pu_name 4)) (PuE.o pu_int))
      (puss_one (pus_set 8 S.nd pu_int))
      puss_nil))
      (puss_cons (pus_jn (pus_if (PuW.t (puw_and (put_val (pu_name 3)) (puw_and1 (PuW.t (puw_or (put_eq (Room.units hr) (PuE.o (pu_mod (PuE.o (pu_int1 M.int (PuE.o (pu_name 7)))) (PuE.o pu_int))) (PuE.o pu_int)) (puw_or (put_eq (Room.units hr) (PuE.o (pu_name 4)) (PuE.o pu_int)) (puw_or1 (PuW.t (puw_and (put_eq (Room.units hr) (PuE.o (pu_name 4)) (PuE.o pu_int)) (puw_and1 (put_ne (Room.units hr) (PuE.o (pu_name 6)) (PuE.o (pu_mod (PuE.o (pu_int1 M.int (PuE.o (pu_ix (hu_of hr) (PuE.o (pu_name 1)) pu_int)))) (PuE.o (pu_name 0)))))))))))))))
      (puss_one (pus_set 8 S.nd pu_int))
      puss_nil))
      (puss_one (pus_app 5 (pu_name 8))))))))))))
      (puss_cons (pus_set 9 S.nd (pu_sum rfl M.sum (pu_nameO 5)))
      (puss_cons (pus_set 10 S.nd (pu_name 9))
      (puss_cons (pus_jn (pus_if (put_lt (PuE.o (pu_name 4)) (PuE.o pu_int))
      (puss_one (pus_set 10 S.nd (pu_add (PuE.o (pu_name 9)) (PuE.o (pu_mod (PuE.o (pu_int1 M.int (PuE.o (pu_ix (hu_of hr) (PuE.o (pu_name 1)) pu_int)))) (PuE.o pu_int))))))
      puss_nil))
      (puss_cons (pus_jn (pus_if (put_eq (Room.units hr) (PuE.o (pu_name 4)) (PuE.o pu_int))
      (puss_one (pus_set 10 S.nd (pu_min rfl M.min (puao_cons (PuE.o (pu_pow (PuE.o pu_int) (PuE.o pu_int))) (puao_cons (PuE.o (pu_add (PuE.o (pu_name 9)) (PuE.o (pu_int1 M.int (PuE.o (pu_ix (hu_of hr) (PuE.o (pu_name 1)) pu_int)))))) puao_nil)))))
      puss_nil))
      (puss_cons (pus_jn (pus_if (put_eq (Room.units hr) (PuE.o (pu_name 4)) (PuE.o pu_int))
      (puss_one (pus_set 10 S.nd (pu_pow (PuE.o pu_int) (PuE.o pu_int))))
      puss_nil))
      (puss_one (pus_ret (pu_tup (pua_cons (pu_max rfl M.max (puao_cons (PuE.o pu_int) (puao_cons (PuE.o (pu_name 10)) puao_nil))) (pua_cons (pu_tuple M.tuple (PuF.o (puf_lc rfl S.nd (pui_r1 M.range (pu_name 0)) (blkOk_by (own := [("k", 6)]) (N := ["size", "row", "many", "bare", "kind", "stakes", "k", "digit", "stake", "together", "total"]) (sc := defScope d_law_bet) (by decide +kernel)) (fun _ _ _ _ _ => (pug_name 6 S.nd)) (fun _ _ _ _ _ => puts_nil) (fun _ _ _ _ _ => (pu_tup (pua_cons (pu_mod (PuE.o (pu_int1 M.int (PuE.o (pu_ix (hu_of hr) (PuE.o (pu_name 1)) (pu_add (PuE.o pu_int) (PuE.o (pu_name 6))))))) (PuE.o (pu_name 2))) (pua_cons (pu_ix (hu_of hr) (pu_nameO 5) (pu_name 6)) pua_nil))))))) pua_nil)))))))))))))) w_law_bet
theorem sc_law_wide_rules : FnScope ["size", "cell", "many", "bare", "one", "row", "rules", "s", "base", "bet", "part", "k"] ["size", "cell", "many", "bare"] (defScope d_law_wide_rules) := ⟨rfl, rfl, rfl, by decide +kernel, rfl, by decide +kernel, by decide +kernel⟩
theorem ok_law_wide_rules {f : Addr} {fd : FuncData} (F : FnP K "_law_wide_rules" d_law_wide_rules f fd) (M : Fre mg) {f_law_digits : Addr} {fd_law_digits : FuncData} (C_law_digits : Cal P w K mg base "_law_digits" ["cell", "sizes"] 1 f_law_digits fd_law_digits sp_law_digits) {f_law_bet : Addr} {fd_law_bet : FuncData} (C_law_bet : Cal P w K mg base "_law_bet" ["size", "row", "many", "bare"] 1 f_law_bet fd_law_bet sp_law_bet) : FnOk P w K mg base CX0 2 f fd ["size", "cell", "many", "bare"] (spP K mg sp_law_wide_rules) :=
  have S := sc_law_wide_rules
  pfnD (p := (b_law_wide_rules sp_law_digits sp_law_bet)) F S len_law_wide_rules (fun cdv A outer s H E hr =>
    (puss_cons (pus_set 4 S.nd (pu_add (PuE.o (pu_add (PuF.o (puf_lst (pua_cons pu_int (pua_cons pu_int pua_nil)))) (PuE.o (pu_mul (PuF.o (puf_lst (pua_cons pu_int pua_nil))) (PuE.o pu_int))))) (PuE.o (pu_mul (PuF.o (puf_lst (pua_cons pu_int pua_nil))) (PuE.o pu_int)))))
      (puss_cons (pus_set 5 S.nd (pu_c C_law_digits hr (pua_cons (pu_name 1) (pua_cons (pu_add (PuE.o (pu_add (PuE.o (pu_add (PuE.o (pu_name 4)) (PuE.o (pu_name 4)))) (PuE.o (pu_name 4)))) (PuE.o (pu_name 4))) pua_nil))))
      (puss_cons (pus_setO 6 S.nd (puf_lst pua_nil))
      (puss_cons (pus_for PassesOwn.never rfl (pui_r1 M.range (pu_name 2)) (pug_name 7 S.nd)
      (puss_cons (pus_set 8 S.nd (pu_mul (PuE.o pu_int) (PuE.o (pu_mod (PuE.o (pu_int1 M.int (PuE.o (pu_name 7)))) (PuE.o pu_int)))))
      (puss_cons (pus_set 9 S.nd (pu_c C_law_bet hr (pua_cons (pu_name 0) (pua_cons (pu_sl (PuE.o (pu_name 5)) (pupo_some (pu_name 8)) (pupo_some (pu_add (PuE.o (pu_name 8)) (PuE.o pu_int)))) (pua_cons (pu_name 2) (pua_cons (pu_name 3) pua_nil))))))
      (puss_cons (pus_if (PuW.t (puw_and (put_ge (PuE.o (pu_name 7)) (PuE.o pu_int)) (puw_and1 (put_le (PuE.o (pu_name 2)) (PuE.o pu_int)))))
      (puss_one (pus_set 9 S.nd (pu_c C_law_bet hr (pua_cons (pu_name 0) (pua_cons (pu_c C_law_digits hr (pua_cons (pu_add (PuE.o (pu_mod (PuE.o (pu_int1 M.int (PuE.o (pu_name 1)))) (PuE.o (pu_pow (PuE.o pu_int) (PuE.o pu_int))))) (PuE.o (pu_mul (PuE.o pu_int) (PuE.o (pu_name 7))))) (pua_cons (pu_name 4) pua_nil))) (pua_cons (pu_name 2) (pua_cons (pu_name 3) pua_nil)))))))
      (puss_one (pus_if (put_ge (PuE.o (pu_name 7)) (PuE.o pu_int))
      (puss_cons (pus_set 10 S.nd (pu_c C_law_digits hr (pua_cons (pu_add (PuE.o (pu_mod (PuE.o (pu_int1 M.int (PuE.o (pu_name 1)))) (PuE.o (pu_pow (PuE.o pu_int) (PuE.o pu_int))))) (PuE.o (pu_mul (PuE.o pu_int) (PuE.o (pu_name 7))))) (pua_cons (pu_add (PuF.o (puf_lst (pua_cons pu_int pua_nil))) (PuE.o (pu_mul (PuF.o (puf_lst (pua_cons pu_int pua_nil))) (PuE.o pu_int)))) pua_nil))))
      (puss_one (pus_set 9 S.nd (pu_tup (pua_cons (pu_ix (hu_of hr) (PuE.o (pu_name 9)) pu_int) (pua_cons (pu_tuple M.tuple (PuF.o (puf_lc rfl S.nd (pui_r1 M.range (pu_name 0)) (blkOk_by (own := [("k", 11)]) (N := ["size", "cell", "many", "bare", "one", "row", "rules", "s", "base", "bet", "part", "k"]) (sc := defScope d_law_wide_rules) (by decide +kernel)) (fun _ _ _ _ _ => (pug_name 11 S.nd)) (fun _ _ _ _ _ => puts_nil) (fun _ _ _ _ _ => (pu_tup (pua_cons (pu_mod (PuE.o (pu_int1 M.int (PuE.o (pu_ix (hu_of hr) (PuE.o (pu_name 10)) (pu_add (PuE.o pu_int) (PuE.o (pu_name 11))))))) (PuE.o (pu_name 2))) (pua_cons (pu_ix (hu_of hr) (PuE.o (pu_ix (hu_of hr) (PuE.o (pu_ix (hu_of hr) (PuE.o (pu_name 9)) pu_int)) (pu_mod (PuE.o (pu_int1 M.int (PuE.o (pu_add (PuE.o (pu_name 11)) (PuE.o (pu_ix (hu_of hr) (PuE.o (pu_name 10)) pu_int)))))) (PuE.o (pu_name 0))))) pu_int) pua_nil))))))) pua_nil))))))
      puss_nil)))
      (puss_one (pus_app 6 (pu_name 9)))))))
      (puss_one (pus_ret (pu_tuple M.tuple (pu_nameO 6))))))))) w_law_wide_rules
theorem sc_law_product : FnScope ["alphabet", "rules", "text", "s", "top", "bottom", "at", "letter", "move"] ["alphabet", "rules", "text", "s"] (defScope d_law_product) := ⟨rfl, rfl, rfl, by decide +kernel, rfl, by decide +kernel, by decide +kernel⟩
theorem ok_law_product {f : Addr} {fd : FuncData} (F : FnP K "_law_product" d_law_product f fd) : FnOk P w K mg base CX0 1 f fd ["alphabet", "rules", "text", "s"] (spP K mg sp_law_product) :=
  have S := sc_law_product
  pfnD (p := b_law_product) F S len_law_product (fun cdv A outer s H E hr =>
    (puss_cons (pus_set 4 S.nd pu_int)
      (puss_cons (pus_set 5 S.nd pu_int)
      (puss_cons (pus_set 6 S.nd (pu_name 3))
      (puss_cons (pus_for PassesOwn.never rfl (pui_e (pu_name 2)) (pug_name 7 S.nd)
      (puss_cons (pus_set 8 S.nd (pu_ix (hu_of hr) (PuE.o (pu_ix (hu_of hr) (PuE.o (pu_ix (hu_of hr) (PuE.o (pu_name 1)) (pu_name 6))) pu_int)) (pu_sindex (PuE.o (pu_name 0)) (pua_cons (pu_name 7) pua_nil))))
      (puss_cons (pus_set 4 S.nd (pu_mul (PuE.o (pu_name 4)) (PuE.o (pu_ix (hu_of hr) (PuE.o (pu_name 8)) pu_int))))
      (puss_cons (pus_set 5 S.nd (pu_mul (PuE.o (pu_name 5)) (PuE.o (pu_ix (hu_of hr) (PuE.o (pu_ix (hu_of hr) (PuE.o (pu_name 1)) (pu_name 6))) pu_int))))
      (puss_one (pus_set 6 S.nd (pu_ix (hu_of hr) (PuE.o (pu_name 8)) pu_int)))))))
      (puss_one (pus_ret (PuF.toE (puf_lst (pua_cons (pu_name 4) (pua_cons (pu_name 5) (pua_cons (pu_name 6) pua_nil)))))))))))) w_law_product
theorem sc_law_as_lists : FnScope ["rules", "handed", "rule", "move"] ["rules"] (defScope d_law_as_lists) := ⟨rfl, rfl, rfl, by decide +kernel, rfl, by decide +kernel, by decide +kernel⟩
theorem ok_law_as_lists {f : Addr} {fd : FuncData} (F : FnP K "_law_as_lists" d_law_as_lists f fd) (M : Fre mg) : FnOk P w K mg base CX0 1 f fd ["rules"] (spP K mg sp_law_as_lists) :=
  have S := sc_law_as_lists
  pfnD (p := b_law_as_lists) F S len_law_as_lists (fun cdv A outer s H E hr =>
    (puss_cons (pus_setO 1 S.nd (puf_lst pua_nil))
      (puss_cons (pus_for PassesOwn.never rfl (pui_e (pu_name 0)) (pug_name 2 S.nd)
      (puss_one (pus_app 1 (PuF.toE (puf_lst (pua_cons (pu_ix (hu_of hr) (PuE.o (pu_name 2)) pu_int) (pua_cons (PuF.toE (puf_lc rfl S.nd (pui_e (pu_ix (hu_of hr) (PuE.o (pu_name 2)) pu_int)) (blkOk_by (own := [("move", 3)]) (N := ["rules", "handed", "rule", "move"]) (sc := defScope d_law_as_lists) (by decide +kernel)) (fun _ _ _ _ _ => (pug_name 3 S.nd)) (fun _ _ _ _ _ => puts_nil) (fun _ _ _ _ _ => (PuF.toE (puf_list M.list (PuE.o (pu_name 3))))))) pua_nil)))))))
      (puss_one (pus_frz 1 (pus_ret (pu_name 1))))))) w_law_as_lists
theorem sc_law_common : FnScope ["rules", "common", "known", "rule"] ["rules"] (defScope d_law_common) := ⟨rfl, rfl, rfl, by decide +kernel, rfl, by decide +kernel, by decide +kernel⟩
theorem ok_law_common {f : Addr} {fd : FuncData} (F : FnP K "_law_common" d_law_common f fd) : FnOk P w K mg base CX0 1 f fd ["rules"] (spP K mg sp_law_common) :=
  have S := sc_law_common
  pfnD (p := b_law_common) F S len_law_common (fun cdv A outer s H E hr =>
    (puss_cons (pus_set 1 S.nd pu_int)
      (puss_cons (pus_setO 2 S.nd puf_dk)
      (puss_cons (pus_for PassesOwn.never rfl (pui_e (pu_name 0)) (pug_name 3 S.nd)
      (puss_one (pus_if (put_notIn (Room.u65 hr) (pu_ix (hu_of hr) (PuE.o (pu_name 3)) pu_int) (pu_nameO 2))
      (puss_cons (pus_setI 2 (hu_of hr) (pu_ix (hu_of hr) (PuE.o (pu_name 3)) pu_int) pu_bl (fun _ _ h g => ps_asg h (pg_sub (pv _) g (set_all (hu_of hr)))))
      (puss_one (pus_set 1 S.nd (pu_mul (PuE.o (pu_name 1)) (PuE.o (pu_ix (hu_of hr) (PuE.o (pu_name 3)) pu_int))))))
      puss_nil)))
      (puss_one (pus_ret (pu_name 1))))))) w_law_common
theorem sc_law_all_texts : FnScope ["alphabet", "steps", "texts", "turn", "grown", "text", "letter"] ["alphabet", "steps"] (defScope d_law_all_texts) := ⟨rfl, rfl, rfl, by decide +kernel, rfl, by decide +kernel, by decide +kernel⟩
theorem ok_law_all_texts {f : Addr} {fd : FuncData} (F : FnP K "_law_all_texts" d_law_all_texts f fd) (M : Fre mg) : FnOk P w K mg base CX0 1 f fd ["alphabet", "steps"] (spP K mg sp_law_all_texts) :=
  have S := sc_law_all_texts
  pfnD (p := b_law_all_texts) F S len_law_all_texts (fun cdv A outer s H E hr =>
    (puss_cons (pus_set 2 S.nd (PuF.toE (puf_lst (pua_cons pu_str pua_nil))))
      (puss_cons (pus_for PassesOwn.never rfl (pui_r1 M.range (pu_name 1)) (pug_name 3 S.nd)
      (puss_cons (pus_setO 4 S.nd (puf_lst pua_nil))
      (puss_cons (pus_for PassesOwn.never rfl (pui_e (pu_name 2)) (pug_name 5 S.nd)
      (puss_one (pus_for PassesOwn.never rfl (pui_e (pu_name 0)) (pug_name 6 S.nd)
      (puss_one (pus_app 4 (pu_add (PuE.o (pu_name 5)) (PuE.o (pu_name 6))))))))
      (puss_one (pus_set 2 S.nd (PuF.toE (puf_list M.list (pu_nameO 4))))))))
      (puss_one (pus_ret (pu_name 2)))))) w_law_all_texts
theorem sc_law_listed : FnScope ["alphabet", "rules", "s", "steps", "common", "bottom", "turn", "top", "text", "made"] ["alphabet", "rules", "s", "steps"] (defScope d_law_listed) := ⟨rfl, rfl, rfl, by decide +kernel, rfl, by decide +kernel, by decide +kernel⟩
theorem ok_law_listed {f : Addr} {fd : FuncData} (F : FnP K "_law_listed" d_law_listed f fd) (M : Fre mg) {f_law_common : Addr} {fd_law_common : FuncData} (C_law_common : Cal P w K mg base "_law_common" ["rules"] 1 f_law_common fd_law_common sp_law_common) {f_law_all_texts : Addr} {fd_law_all_texts : FuncData} (C_law_all_texts : Cal P w K mg base "_law_all_texts" ["alphabet", "steps"] 1 f_law_all_texts fd_law_all_texts sp_law_all_texts) {f_law_product : Addr} {fd_law_product : FuncData} (C_law_product : Cal P w K mg base "_law_product" ["alphabet", "rules", "text", "s"] 1 f_law_product fd_law_product sp_law_product) : FnOk P w K mg base CX0 2 f fd ["alphabet", "rules", "s", "steps"] (spP K mg sp_law_listed) :=
  have S := sc_law_listed
  pfnD (p := (b_law_listed sp_law_common sp_law_all_texts sp_law_product)) F S len_law_listed (fun cdv A outer s H E hr =>
    (puss_cons (pus_set 4 S.nd (pu_c C_law_common hr (pua_cons (pu_name 1) pua_nil)))
      (puss_cons (pus_set 5 S.nd pu_int)
      (puss_cons (pus_for PassesOwn.never rfl (pui_r1 M.range (pu_name 3)) (pug_name 6 S.nd)
      (puss_one (pus_set 5 S.nd (pu_mul (PuE.o (pu_name 5)) (PuE.o (pu_name 4))))))
      (puss_cons (pus_set 7 S.nd pu_int)
      (puss_cons (pus_for PassesOwn.never rfl (pui_e (pu_c C_law_all_texts hr (pua_cons (pu_name 0) (pua_cons (pu_name 3) pua_nil)))) (pug_name 8 S.nd)
      (puss_cons (pus_set 9 S.nd (pu_c C_law_product hr (pua_cons (pu_name 0) (pua_cons (pu_name 1) (pua_cons (pu_name 8) (pua_cons (pu_name 2) pua_nil))))))
      (puss_one (pus_set 7 S.nd (pu_add (PuE.o (pu_name 7)) (PuE.o (pu_mul (PuE.o (pu_ix (hu_of hr) (PuE.o (pu_name 9)) pu_int)) (PuE.o (pu_fdiv (PuE.o (pu_name 5)) (PuE.o (pu_ix (hu_of hr) (PuE.o (pu_name 9)) pu_int)))))))))))
      (puss_one (pus_ret (PuF.toE (puf_lst (pua_cons (pu_name 7) (pua_cons (pu_name 5) pua_nil)))))))))))) w_law_listed
theorem sc_law_weights : FnScope ["rules", "s", "steps", "common", "bottom", "weights", "turn", "grown", "at", "part", "move", "rule"] ["rules", "s", "steps"] (defScope d_law_weights) := ⟨rfl, rfl, rfl, by decide +kernel, rfl, by decide +kernel, by decide +kernel⟩
theorem ok_law_weights {f : Addr} {fd : FuncData} (F : FnP K "_law_weights" d_law_weights f fd) (M : Fre mg) {f_law_common : Addr} {fd_law_common : FuncData} (C_law_common : Cal P w K mg base "_law_common" ["rules"] 1 f_law_common fd_law_common sp_law_common) : FnOk P w K mg base CX0 2 f fd ["rules", "s", "steps"] (spP K mg sp_law_weights) :=
  have S := sc_law_weights
  pfnD (p := (b_law_weights sp_law_common)) F S len_law_weights (fun cdv A outer s H E hr =>
    (puss_cons (pus_set 3 S.nd (pu_c C_law_common hr (pua_cons (pu_name 0) pua_nil)))
      (puss_cons (pus_set 4 S.nd pu_int)
      (puss_cons (pus_setLc 5 rfl S.nd (pui_e (pu_name 0)) (blkOk_by (own := [("rule", 11)]) (N := ["rules", "s", "steps", "common", "bottom", "weights", "turn", "grown", "at", "part", "move", "rule"]) (sc := defScope d_law_weights) (by decide +kernel)) (fun _ _ _ _ _ => (pug_name 11 S.nd)) (fun _ _ _ _ _ => puts_nil) (fun _ _ _ _ _ => pu_int))
      (puss_cons (pus_setI 5 (hu_of hr) (pu_name 1) pu_int (fun _ _ h g => ps_asg h (pg_sub (pv _) g (set_all (hu_of hr)))))
      (puss_cons (pus_for PassesOwn.never rfl (pui_r1 M.range (pu_name 2)) (pug_name 6 S.nd)
      (puss_cons (pus_setLc 7 rfl S.nd (pui_e (pu_name 0)) (blkOk_by (own := [("rule", 11)]) (N := ["rules", "s", "steps", "common", "bottom", "weights", "turn", "grown", "at", "part", "move", "rule"]) (sc := defScope d_law_weights) (by decide +kernel)) (fun _ _ _ _ _ => (pug_name 11 S.nd)) (fun _ _ _ _ _ => puts_nil) (fun _ _ _ _ _ => pu_int))
      (puss_cons (pus_for PassesOwn.never rfl (pui_r1 M.range (pu_len M.len (PuE.o (pu_name 0)))) (pug_name 8 S.nd)
      (puss_one (pus_if (put_gt (PuE.o (pu_ix (hu_of hr) (pu_nameO 5) (pu_name 8))) (PuE.o pu_int))
      (puss_cons (pus_set 9 S.nd (pu_mul (PuE.o (pu_ix (hu_of hr) (pu_nameO 5) (pu_name 8))) (PuE.o (pu_fdiv (PuE.o (pu_name 3)) (PuE.o (pu_ix (hu_of hr) (PuE.o (pu_ix (hu_of hr) (PuE.o (pu_name 0)) (pu_name 8))) pu_int))))))
      (puss_one (pus_for PassesOwn.never rfl (pui_e (pu_ix (hu_of hr) (PuE.o (pu_ix (hu_of hr) (PuE.o (pu_name 0)) (pu_name 8))) pu_int)) (pug_name 10 S.nd)
      (puss_one (pus_setI 7 (hu_of hr) (pu_ix (hu_of hr) (PuE.o (pu_name 10)) pu_int) (pu_add (PuE.o (pu_ix (hu_of hr) (pu_nameO 7) (pu_ix (hu_of hr) (PuE.o (pu_name 10)) pu_int))) (PuE.o (pu_mul (PuE.o (pu_name 9)) (PuE.o (pu_ix (hu_of hr) (PuE.o (pu_name 10)) pu_int))))) (fun _ _ h g => ps_asg h (pg_sub (pv _) g (set_all (hu_of hr)))))))))
      puss_nil)))
      (puss_cons (pus_setO 5 S.nd (puf_list M.list (pu_nameO 7)))
      (puss_one (pus_set 4 S.nd (pu_mul (PuE.o (pu_name 4)) (PuE.o (pu_name 3)))))))))
      (puss_one (pus_ret (PuF.toE (puf_lst (pua_cons (pu_sum rfl M.sum (pu_nameO 5)) (pua_cons (pu_name 4) pua_nil)))))))))))) w_law_weights
theorem sc_law_all_bet : FnScope ["rules", "s", "steps", "here", "turn", "known", "after", "at", "move"] ["rules", "s", "steps"] (defScope d_law_all_bet) := ⟨rfl, rfl, rfl, by decide +kernel, rfl, by decide +kernel, by decide +kernel⟩
theorem ok_law_all_bet {f : Addr} {fd : FuncData} (F : FnP K "_law_all_bet" d_law_all_bet f fd) (M : Fre mg) : FnOk P w K mg base CX0 1 f fd ["rules", "s", "steps"] (spP K mg sp_law_all_bet) :=
  have S := sc_law_all_bet
  pfnD (p := b_law_all_bet) F S len_law_all_bet (fun cdv A outer s H E hr =>
    (puss_cons (pus_set 3 S.nd (PuF.toE (puf_lst (pua_cons (pu_name 1) pua_nil))))
      (puss_cons (pus_for PassesOwn.never rfl (pui_r1 M.range (pu_name 2)) (pug_name 4 S.nd)
      (puss_cons (pus_setO 5 S.nd puf_dk)
      (puss_cons (pus_setO 6 S.nd (puf_lst pua_nil))
      (puss_cons (pus_for PassesOwn.never rfl (pui_e (pu_name 3)) (pug_name 7 S.nd)
      (puss_cons (pus_if (put_ne (Room.units hr) (PuE.o (pu_sum rfl M.sum (PuF.o (puf_lc rfl S.nd (pui_e (pu_ix (hu_of hr) (PuE.o (pu_ix (hu_of hr) (PuE.o (pu_name 0)) (pu_name 7))) pu_int)) (blkOk_by (own := [("move", 8)]) (N := ["rules", "s", "steps", "here", "turn", "known", "after", "at", "move"]) (sc := defScope d_law_all_bet) (by decide +kernel)) (fun _ _ _ _ _ => (pug_name 8 S.nd)) (fun _ _ _ _ _ => puts_nil) (fun _ _ _ _ _ => (pu_ix (hu_of hr) (PuE.o (pu_name 8)) pu_int)))))) (PuE.o (pu_ix (hu_of hr) (PuE.o (pu_ix (hu_of hr) (PuE.o (pu_name 0)) (pu_name 7))) pu_int)))
      (puss_one (pus_ret pu_bl))
      puss_nil)
      (puss_one (pus_for PassesOwn.never rfl (pui_e (pu_ix (hu_of hr) (PuE.o (pu_ix (hu_of hr) (PuE.o (pu_name 0)) (pu_name 7))) pu_int)) (pug_name 8 S.nd)
      (puss_one (pus_if (PuW.t (puw_and (put_gt (PuE.o (pu_ix (hu_of hr) (PuE.o (pu_name 8)) pu_int)) (PuE.o pu_int)) (puw_and1 (put_notIn (Room.u65 hr) (pu_ix (hu_of hr) (PuE.o (pu_name 8)) pu_int) (pu_nameO 5)))))
      (puss_cons (pus_setI 5 (hu_of hr) (pu_ix (hu_of hr) (PuE.o (pu_name 8)) pu_int) pu_bl (fun _ _ h g => ps_asg h (pg_sub (pv _) g (set_all (hu_of hr)))))
      (puss_one (pus_app 6 (pu_ix (hu_of hr) (PuE.o (pu_name 8)) pu_int))))
      puss_nil))))))
      (puss_one (pus_set 3 S.nd (PuF.toE (puf_list M.list (pu_nameO 6)))))))))
      (puss_one (pus_ret pu_bl))))) w_law_all_bet
theorem sc_law : FnScope ["script", "pick", "alphabet", "size", "many", "rules", "others", "s", "steps", "lesser", "short", "player", "second", "first", "due", "less"] ["script"] (defScope d_law) := ⟨rfl, rfl, rfl, by decide +kernel, rfl, by decide +kernel, by decide +kernel⟩
theorem ok_law {f : Addr} {fd : FuncData} (F : FnP K "law" d_law f fd) (M : Fre mg) {f_law_digits : Addr} {fd_law_digits : FuncData} (C_law_digits : Cal P w K mg base "_law_digits" ["cell", "sizes"] 1 f_law_digits fd_law_digits sp_law_digits) {f_law_cell : Addr} {fd_law_cell : FuncData} (C_law_cell : Cal P w K mg base "_law_cell" ["script", "k"] 1 f_law_cell fd_law_cell sp_law_cell) {f_law_alphabet : Addr} {fd_law_alphabet : FuncData} (C_law_alphabet : Cal P w K mg base "_law_alphabet" ["row", "upto"] 1 f_law_alphabet fd_law_alphabet sp_law_alphabet) {f_law_wide_rules : Addr} {fd_law_wide_rules : FuncData} (C_law_wide_rules : Cal P w K mg base "_law_wide_rules" ["size", "cell", "many", "bare"] 2 f_law_wide_rules fd_law_wide_rules sp_law_wide_rules) {C_Bettor__init___ f_Bettor__init__ : Addr} {fd_Bettor__init__ : FuncData} (C_Bettor__init__ : OCl P w K mg base "Bettor" ["alphabet", "rules"] 7 C_Bettor__init___ f_Bettor__init__ fd_Bettor__init__ sp_Bettor__init__) {f_law_as_lists : Addr} {fd_law_as_lists : FuncData} (C_law_as_lists : Cal P w K mg base "_law_as_lists" ["rules"] 1 f_law_as_lists fd_law_as_lists sp_law_as_lists) {f_length_chance : Addr} {fd_length_chance : FuncData} (C_length_chance : CalD P w K mg base "length_chance" ["bettor", "length", "start"] 2 f_length_chance fd_length_chance [D.int 0] sp_length_chance) {f_law_weights : Addr} {fd_law_weights : FuncData} (C_law_weights : Cal P w K mg base "_law_weights" ["rules", "s", "steps"] 2 f_law_weights fd_law_weights sp_law_weights) {f_law_same : Addr} {fd_law_same : FuncData} (C_law_same : Cal P w K mg base "_law_same" ["value", "due"] 3 f_law_same fd_law_same sp_law_same) {f_law_ratio : Addr} {fd_law_ratio : FuncData} (C_law_ratio : Cal P w K mg base "_law_ratio" ["top", "bottom"] 1 f_law_ratio fd_law_ratio sp_law_ratio) {f_law_listed : Addr} {fd_law_listed : FuncData} (C_law_listed : Cal P w K mg base "_law_listed" ["alphabet", "rules", "s", "steps"] 2 f_law_listed fd_law_listed sp_law_listed) {f_law_fraction : Addr} {fd_law_fraction : FuncData} (C_law_fraction : Cal P w K mg base "_law_fraction" ["value"] 2 f_law_fraction fd_law_fraction sp_law_fraction) {f_law_all_bet : Addr} {fd_law_all_bet : FuncData} (C_law_all_bet : Cal P w K mg base "_law_all_bet" ["rules", "s", "steps"] 1 f_law_all_bet fd_law_all_bet sp_law_all_bet) (KB_length_chance_0_bettor_length : PKB K fd_length_chance ["bettor", "length", "start"] 0 ["bettor", "length"] (pickLD [0, 1] [D.int 0])) (KB_length_chance_0_length_start_bettor : PKB K fd_length_chance ["bettor", "length", "start"] 0 ["length", "start", "bettor"] (pickL [2, 0, 1])) (KB_length_chance_2_start : PKB K fd_length_chance ["bettor", "length", "start"] 2 ["start"] (pickL [0, 1, 2])) : FnOk P w K mg base CX0 9 f fd ["script"] (spP K mg sp_law) :=
  have S := sc_law
  pfnD (p := (b_law sp_law_digits sp_law_cell sp_law_alphabet sp_law_wide_rules sp_Bettor__init__ sp_law_as_lists sp_length_chance sp_law_weights sp_law_same sp_law_ratio sp_law_listed sp_law_fraction sp_law_all_bet)) F S len_law (fun cdv A outer s H E hr =>
    (puss_cons (pus_set 1 S.nd (pu_c C_law_digits hr (pua_cons (pu_c C_law_cell hr (pua_cons (pu_name 0) (pua_cons pu_int pua_nil))) (pua_cons (PuF.toE (puf_lst (pua_cons pu_int (pua_cons pu_int (pua_cons pu_int (pua_cons pu_int (pua_cons pu_int (pua_cons pu_int (pua_cons pu_int (pua_cons pu_int pua_nil)))))))))) pua_nil))))
      (puss_cons (pus_set 2 S.nd (pu_c C_law_alphabet hr (pua_cons (pu_c C_law_digits hr (pua_cons (pu_c C_law_cell hr (pua_cons (pu_name 0) (pua_cons pu_int pua_nil))) (pua_cons (pu_add (PuF.o (puf_lst (pua_cons pu_int pua_nil))) (PuE.o (pu_mul (PuF.o (puf_lst (pua_cons pu_int pua_nil))) (PuE.o pu_int)))) pua_nil))) (pua_cons pu_int pua_nil))))
      (puss_cons (pus_set 3 S.nd (pu_len M.len (PuE.o (pu_name 2))))
      (puss_cons (pus_set 4 S.nd (pu_add (PuE.o pu_int) (PuE.o (pu_ix (hu_of hr) (PuE.o (pu_name 1)) pu_int))))
      (puss_cons (pus_jn (pus_if (put_eq (Room.units hr) (PuE.o (pu_ix (hu_of hr) (PuE.o (pu_name 1)) pu_int)) (PuE.o pu_int))
      (puss_one (pus_set 4 S.nd (pu_min rfl M.min (puao_cons (PuE.o pu_int) (puao_cons (PuE.o (pu_add (PuE.o pu_int) (PuE.o (pu_fdiv (PuE.o (pu_mul (PuE.o (pu_ix (hu_of hr) (PuE.o (pu_name 1)) pu_int)) (PuE.o pu_int))) (PuE.o pu_int))))) puao_nil)))))
      puss_nil))
      (puss_cons (pus_jn (pus_if (put_eq (Room.units hr) (PuE.o (pu_ix (hu_of hr) (PuE.o (pu_name 1)) pu_int)) (PuE.o pu_int))
      (puss_one (pus_set 4 S.nd (pu_add (PuE.o pu_int) (PuE.o (pu_mod (PuE.o (pu_int1 M.int (PuE.o (pu_ix (hu_of hr) (PuE.o (pu_name 1)) pu_int)))) (PuE.o pu_int))))))
      puss_nil))
      (puss_cons (pus_set 5 S.nd (pu_c C_law_wide_rules hr (pua_cons (pu_name 3) (pua_cons (pu_c C_law_cell hr (pua_cons (pu_name 0) (pua_cons pu_int pua_nil))) (pua_cons (pu_name 4) (pua_cons (pu_lt (PuE.o (pu_ix (hu_of hr) (PuE.o (pu_name 1)) pu_int)) (PuE.o pu_int)) pua_nil))))))
      (puss_cons (pus_set 6 S.nd (pu_c C_law_wide_rules hr (pua_cons (pu_name 3) (pua_cons (pu_c C_law_cell hr (pua_cons (pu_name 0) (pua_cons pu_int pua_nil))) (pua_cons (pu_add (PuE.o pu_int) (PuE.o (pu_mod (PuE.o (pu_int1 M.int (PuE.o (pu_ix (hu_of hr) (PuE.o (pu_name 1)) pu_int)))) (PuE.o pu_int)))) (pua_cons (pu_eq (Room.units hr) (PuE.o (pu_ix (hu_of hr) (PuE.o (pu_name 1)) pu_int)) (PuE.o pu_int)) pua_nil))))))
      (puss_cons (pus_set 7 S.nd (pu_mod (PuE.o (pu_int1 M.int (PuE.o (pu_ix (hu_of hr) (PuE.o (pu_name 1)) pu_int)))) (PuE.o (pu_name 4))))
      (puss_cons (pus_jn (pus_set 8 S.nd (pu_min rfl M.min (puao_cons (PuE.o (pu_ix (hu_of hr) (PuE.o (pu_name 1)) pu_int)) (puao_cons (PuE.o (pu_fdiv (PuE.o pu_int) (PuE.o (pu_mul (PuE.o (pu_name 4)) (PuE.o (pu_name 3)))))) (puao_cons (PuE.o (pu_ix (hu_of hr) (PuF.o (puf_lst (pua_cons pu_int (pua_cons pu_int pua_nil)))) (pu_int1 M.int (PuE.o (pu_chain op_ltAll ltP_ok op_leAll leP_ok (PuE.o pu_int) (PuE.o (pu_name 4)) (PuE.o pu_int)))))) puao_nil))))))
      (puss_cons (pus_set 9 S.nd (pu_mod (PuE.o (pu_int1 M.int (PuE.o (pu_ix (hu_of hr) (PuE.o (pu_name 1)) pu_int)))) (PuE.o (pu_add (PuE.o (pu_name 8)) (PuE.o pu_int)))))
      (puss_cons (pus_jn (pus_set 10 S.nd (pu_min rfl M.min (puao_cons (PuE.o (pu_ix (hu_of hr) (PuE.o (pu_name 1)) pu_int)) (puao_cons (PuE.o (pu_ix (hu_of hr) (PuF.o (puf_lst (pua_cons pu_int (pua_cons pu_int (pua_cons pu_int (pua_cons pu_int (pua_cons pu_int (pua_cons pu_int pua_nil)))))))) (pu_sub (PuE.o (pu_name 3)) (PuE.o pu_int)))) (puao_cons (PuE.o (pu_ix (hu_of hr) (PuF.o (puf_lst (pua_cons pu_int (pua_cons pu_int pua_nil)))) (pu_int1 M.int (PuE.o (pu_chain op_ltAll ltP_ok op_leAll leP_ok (PuE.o pu_int) (PuE.o (pu_name 4)) (PuE.o pu_int)))))) puao_nil))))))
      (puss_cons (pus_set 11 S.nd (pu_mk C_Bettor__init__ hr (pua_cons (pu_name 2) (pua_cons (pu_c C_law_as_lists hr (pua_cons (pu_name 5) pua_nil)) pua_nil))))
      (puss_cons (pus_set 12 S.nd (pu_mk C_Bettor__init__ hr (pua_cons (pu_name 2) (pua_cons (pu_name 6) pua_nil))))
      (puss_cons (pus_set 13 S.nd (pu_cKD C_length_chance KB_length_chance_2_start hr (pua_cons (pu_name 11) (pua_cons (pu_name 8) pua_nil)) (puk_cons (pu_name 7) puk_nil)))
      (puss_cons (pus_set 14 S.nd (pu_c C_law_weights hr (pua_cons (pu_name 5) (pua_cons (pu_name 7) (pua_cons (pu_name 8) pua_nil)))))
      (puss_cons (pus_if (put_not (put_val (pu_c C_law_same hr (pua_cons (pu_name 13) (pua_cons (pu_c C_law_ratio hr (pua_cons (pu_ix (hu_of hr) (PuE.o (pu_name 14)) pu_int) (pua_cons (pu_ix (hu_of hr) (PuE.o (pu_name 14)) pu_int) pua_nil))) pua_nil)))))
      (puss_one (pus_ret pu_bl))
      puss_nil)
      (puss_cons (pus_set 14 S.nd (pu_c C_law_listed hr (pua_cons (pu_name 2) (pua_cons (pu_name 5) (pua_cons (pu_name 7) (pua_cons (pu_name 10) pua_nil))))))
      (puss_cons (pus_if (put_not (put_val (pu_c C_law_same hr (pua_cons (pu_cKD C_length_chance KB_length_chance_2_start hr (pua_cons (pu_name 11) (pua_cons (pu_name 10) pua_nil)) (puk_cons (pu_name 7) puk_nil)) (pua_cons (pu_c C_law_ratio hr (pua_cons (pu_ix (hu_of hr) (PuE.o (pu_name 14)) pu_int) (pua_cons (pu_ix (hu_of hr) (PuE.o (pu_name 14)) pu_int) pua_nil))) pua_nil)))))
      (puss_one (pus_ret pu_bl))
      puss_nil)
      (puss_cons (pus_set 14 S.nd (pu_c C_law_weights hr (pua_cons (pu_name 5) (pua_cons pu_int (pua_cons (pu_name 8) pua_nil)))))
      (puss_cons (pus_if (put_not (put_val (pu_c C_law_same hr (pua_cons (pu_cKD0 C_length_chance KB_length_chance_0_bettor_length hr (puk_cons (pu_name 11) (puk_cons (pu_name 8) puk_nil))) (pua_cons (pu_c C_law_ratio hr (pua_cons (pu_ix (hu_of hr) (PuE.o (pu_name 14)) pu_int) (pua_cons (pu_ix (hu_of hr) (PuE.o (pu_name 14)) pu_int) pua_nil))) pua_nil)))))
      (puss_one (pus_ret pu_bl))
      puss_nil)
      (puss_cons (pus_set 14 S.nd (pu_c C_law_listed hr (pua_cons (pu_name 2) (pua_cons (pu_name 6) (pua_cons pu_int (pua_cons (pu_name 10) pua_nil))))))
      (puss_cons (pus_if (put_not (put_val (pu_c C_law_same hr (pua_cons (pu_cD C_length_chance hr (pua_cons (pu_name 12) (pua_cons (pu_name 10) pua_nil))) (pua_cons (pu_c C_law_ratio hr (pua_cons (pu_ix (hu_of hr) (PuE.o (pu_name 14)) pu_int) (pua_cons (pu_ix (hu_of hr) (PuE.o (pu_name 14)) pu_int) pua_nil))) pua_nil)))))
      (puss_one (pus_ret pu_bl))
      puss_nil)
      (puss_cons (pus_set 15 S.nd (pu_cKD0 C_length_chance KB_length_chance_0_length_start_bettor hr (puk_cons (pu_name 9) (puk_cons (pu_name 7) (puk_cons (pu_name 11) puk_nil)))))
      (puss_cons (pus_jn (pus_if (PuW.t (puw_or (put_not (put_val (pu_c C_law_fraction hr (pua_cons (pu_name 15) pua_nil)))) (puw_or (put_gt (PuE.o (pu_ix (hu_of hr) (PuE.o (pu_name 15)) pu_int)) (PuE.o (pu_ix (hu_of hr) (PuE.o (pu_name 15)) pu_int))) (puw_or1 (put_gt (PuE.o (pu_mul (PuE.o (pu_ix (hu_of hr) (PuE.o (pu_name 13)) pu_int)) (PuE.o (pu_ix (hu_of hr) (PuE.o (pu_name 15)) pu_int)))) (PuE.o (pu_mul (PuE.o (pu_ix (hu_of hr) (PuE.o (pu_name 15)) pu_int)) (PuE.o (pu_ix (hu_of hr) (PuE.o (pu_name 13)) pu_int)))))))))
      (puss_one (pus_ret pu_bl))
      puss_nil))
      (puss_cons (pus_if (PuW.t (puw_or (put_ne (Room.units hr) (PuE.o (pu_eq (Room.units hr) (PuE.o (pu_name 15)) (PuE.o (pu_tup (pua_cons pu_int (pua_cons pu_int pua_nil)))))) (PuE.o (pu_c C_law_all_bet hr (pua_cons (pu_name 5) (pua_cons (pu_name 7) (pua_cons (pu_name 9) pua_nil)))))) (puw_or1 (put_ne (Room.units hr) (PuE.o (pu_eq (Room.units hr) (PuE.o (pu_name 13)) (PuE.o (pu_tup (pua_cons pu_int (pua_cons pu_int pua_nil)))))) (PuE.o (pu_c C_law_all_bet hr (pua_cons (pu_name 5) (pua_cons (pu_name 7) (pua_cons (pu_name 8) pua_nil)))))))))
      (puss_one (pus_ret pu_bl))
      puss_nil)
      (puss_cons (pus_if (PuW.t (puw_or (put_not (put_val (pu_c C_law_same hr (pua_cons (pu_cKD C_length_chance KB_length_chance_2_start hr (pua_cons (pu_name 11) (pua_cons pu_int pua_nil)) (puk_cons (pu_name 7) puk_nil)) (pua_cons (pu_tup (pua_cons pu_int (pua_cons pu_int pua_nil))) pua_nil))))) (puw_or1 (put_not (put_val (pu_c C_law_same hr (pua_cons (pu_cD C_length_chance hr (pua_cons (pu_name 12) (pua_cons pu_int pua_nil))) (pua_cons (pu_tup (pua_cons pu_int (pua_cons pu_int pua_nil))) pua_nil))))))))
      (puss_one (pus_ret pu_bl))
      puss_nil)
      (puss_one (pus_ret (pu_c C_law_same hr (pua_cons (pu_cKD C_length_chance KB_length_chance_2_start hr (pua_cons (pu_name 11) (pua_cons (pu_name 8) pua_nil)) (puk_cons (pu_name 7) puk_nil)) (pua_cons (pu_name 13) pua_nil))))))))))))))))))))))))))))))))) w_law
end
theorem facts {P : Program} {w : World} {K : PySem.W.Frag} {h : Heap} {mg : MG} {f : Addr} (X : K.In h) (Gm : h.Ns mainGlobals mg) (hfa : mg ("law" : Str) = some (.ref f)) (c : He.SaysD fa fn K) (hx : xb K = true) :
    ∃ fd : FuncData, (∀ (s : Shared) (v : Value), BindsTo s fd ⟨[v], []⟩ [("script", v)]) ∧ ∀ base : Heap, K.In base → base.Ns mainGlobals mg → FnOk P w K mg base CX0 9 f fd ["script"] (spP K mg sp_law) := by
  have M : Fre mg := ⟨He.free_ok X Gm (c.fact 28 (f := .free "bool") rfl), He.free_ok X Gm (c.fact 29 (f := .free "enumerate") rfl), He.free_ok X Gm (c.fact 30 (f := .free "int") rfl), He.free_ok X Gm (c.fact 31 (f := .free "isinstance") rfl), He.free_ok X Gm (c.fact 32 (f := .free "len") rfl), He.free_ok X Gm (c.fact 33 (f := .free "list") rfl), He.free_ok X Gm (c.fact 34 (f := .free "max") rfl), He.free_ok X Gm (c.fact 35 (f := .free "min") rfl), He.free_ok X Gm (c.fact 36 (f := .free "range") rfl), He.free_ok X Gm (c.fact 37 (f := .free "sorted") rfl), He.free_ok X Gm (c.fact 38 (f := .free "sum") rfl), He.free_ok X Gm (c.fact 39 (f := .free "tuple") rfl)⟩
  have G : Glo mg := ⟨He.str_ok X Gm (c.fact 40 (f := .str "LETTERS" "0123456789abcdefghijklmnopqrstuvwxyz") rfl)⟩
  unfold xb at hx
  simp only [Bool.and_eq_true] at hx
  obtain ⟨hxo, hxm_gcd, hxm_lcm⟩ := hx
  have I_gcd : mg "gcd" = some (.builtin "math.gcd") := PySem.W.mg_of X Gm (He.eqO_ok hxm_gcd)
  have I_lcm : mg "lcm" = some (.builtin "math.lcm") := PySem.W.mg_of X Gm (He.eqO_ok hxm_lcm)
  have T_obj := obT_of X Gm hxo
  have e_Bettor := obj_one X Gm hxo (c := "Bettor") (ns := ["alphabet", "rules", "standings"]) (by decide +kernel)
  obtain ⟨fd_is_whole, F_is_whole⟩ := c.def_ 2 (d := ⟨("is_whole", none), "is_whole", "is_whole", defArgs d_is_whole, defBody d_is_whole, defScope d_is_whole, [], []⟩) rfl
  change FnP K "is_whole" d_is_whole _ fd_is_whole at F_is_whole
  have B_is_whole : Binds K fd_is_whole ["value"] [] := FunD.bindsN F_is_whole fun _ _ _ _ _ _ us hl => match us, hl with | [_], _ => rfl
  have g_is_whole := He.glo_ok X Gm (c.fact 2 (f := .glo "is_whole") rfl)
  obtain ⟨fd_check_alphabet, F_check_alphabet⟩ := c.def_ 3 (d := ⟨("check_alphabet", none), "check_alphabet", "check_alphabet", defArgs d_check_alphabet, defBody d_check_alphabet, defScope d_check_alphabet, [], []⟩) rfl
  change FnP K "check_alphabet" d_check_alphabet _ fd_check_alphabet at F_check_alphabet
  have B_check_alphabet : Binds K fd_check_alphabet ["alphabet"] [] := FunD.bindsN F_check_alphabet fun _ _ _ _ _ _ us hl => match us, hl with | [_], _ => rfl
  have g_check_alphabet := He.glo_ok X Gm (c.fact 3 (f := .glo "check_alphabet") rfl)
  obtain ⟨fd_ratio, F_ratio⟩ := c.def_ 4 (d := ⟨("ratio", none), "ratio", "ratio", defArgs d_ratio, defBody d_ratio, defScope d_ratio, [], []⟩) rfl
  change FnP K "ratio" d_ratio _ fd_ratio at F_ratio
  have B_ratio : Binds K fd_ratio ["top", "bottom"] [] := FunD.bindsN F_ratio fun _ _ _ _ _ _ us hl => match us, hl with | [_, _], _ => rfl
  have g_ratio := He.glo_ok X Gm (c.fact 4 (f := .glo "ratio") rfl)
  obtain ⟨fd_check_moves, F_check_moves⟩ := c.def_ 5 (d := ⟨("check_moves", none), "check_moves", "check_moves", defArgs d_check_moves, defBody d_check_moves, defScope d_check_moves, [], []⟩) rfl
  change FnP K "check_moves" d_check_moves _ fd_check_moves at F_check_moves
  have B_check_moves : Binds K fd_check_moves ["alphabet", "rules"] [] := FunD.bindsN F_check_moves fun _ _ _ _ _ _ us hl => match us, hl with | [_, _], _ => rfl
  have g_check_moves := He.glo_ok X Gm (c.fact 5 (f := .glo "check_moves") rfl)
  obtain ⟨fd_common_total, F_common_total⟩ := c.def_ 8 (d := ⟨("common_total", none), "common_total", "common_total", defArgs d_common_total, defBody d_common_total, defScope d_common_total, [], []⟩) rfl
  change FnP K "common_total" d_common_total _ fd_common_total at F_common_total
  have B_common_total : Binds K fd_common_total ["bettor"] [] := FunD.bindsN F_common_total fun _ _ _ _ _ _ us hl => match us, hl with | [_], _ => rfl
  have g_common_total := He.glo_ok X Gm (c.fact 8 (f := .glo "common_total") rfl)
  obtain ⟨fd_one_letter_more, F_one_letter_more⟩ := c.def_ 9 (d := ⟨("one_letter_more", none), "one_letter_more", "one_letter_more", defArgs d_one_letter_more, defBody d_one_letter_more, defScope d_one_letter_more, [], []⟩) rfl
  change FnP K "one_letter_more" d_one_letter_more _ fd_one_letter_more at F_one_letter_more
  have B_one_letter_more : Binds K fd_one_letter_more ["bettor", "common", "tops"] [] := FunD.bindsN F_one_letter_more fun _ _ _ _ _ _ us hl => match us, hl with | [_, _, _], _ => rfl
  have g_one_letter_more := He.glo_ok X Gm (c.fact 9 (f := .glo "one_letter_more") rfl)
  obtain ⟨fd_law_whole, F_law_whole⟩ := c.def_ 11 (d := ⟨("_law_whole", none), "_law_whole", "_law_whole", defArgs d_law_whole, defBody d_law_whole, defScope d_law_whole, [], []⟩) rfl
  change FnP K "_law_whole" d_law_whole _ fd_law_whole at F_law_whole
  have B_law_whole : Binds K fd_law_whole ["value"] [] := FunD.bindsN F_law_whole fun _ _ _ _ _ _ us hl => match us, hl with | [_], _ => rfl
  have g_law_whole := He.glo_ok X Gm (c.fact 11 (f := .glo "_law_whole") rfl)
  obtain ⟨fd_law_cell, F_law_cell⟩ := c.def_ 12 (d := ⟨("_law_cell", none), "_law_cell", "_law_cell", defArgs d_law_cell, defBody d_law_cell, defScope d_law_cell, [], []⟩) rfl
  change FnP K "_law_cell" d_law_cell _ fd_law_cell at F_law_cell
  have B_law_cell : Binds K fd_law_cell ["script", "k"] [] := FunD.bindsN F_law_cell fun _ _ _ _ _ _ us hl => match us, hl with | [_, _], _ => rfl
  have g_law_cell := He.glo_ok X Gm (c.fact 12 (f := .glo "_law_cell") rfl)
  obtain ⟨fd_law_digits, F_law_digits⟩ := c.def_ 13 (d := ⟨("_law_digits", none), "_law_digits", "_law_digits", defArgs d_law_digits, defBody d_law_digits, defScope d_law_digits, [], []⟩) rfl
  change FnP K "_law_digits" d_law_digits _ fd_law_digits at F_law_digits
  have B_law_digits : Binds K fd_law_digits ["cell", "sizes"] [] := FunD.bindsN F_law_digits fun _ _ _ _ _ _ us hl => match us, hl with | [_, _], _ => rfl
  have g_law_digits := He.glo_ok X Gm (c.fact 13 (f := .glo "_law_digits") rfl)
  obtain ⟨fd_law_alphabet, F_law_alphabet⟩ := c.def_ 14 (d := ⟨("_law_alphabet", none), "_law_alphabet", "_law_alphabet", defArgs d_law_alphabet, defBody d_law_alphabet, defScope d_law_alphabet, [], []⟩) rfl
  change FnP K "_law_alphabet" d_law_alphabet _ fd_law_alphabet at F_law_alphabet
  have B_law_alphabet : Binds K fd_law_alphabet ["row", "upto"] [] := FunD.bindsN F_law_alphabet fun _ _ _ _ _ _ us hl => match us, hl with | [_, _], _ => rfl
  have g_law_alphabet := He.glo_ok X Gm (c.fact 14 (f := .glo "_law_alphabet") rfl)
  obtain ⟨fd_law_ratio, F_law_ratio⟩ := c.def_ 15 (d := ⟨("_law_ratio", none), "_law_ratio", "_law_ratio", defArgs d_law_ratio, defBody d_law_ratio, defScope d_law_ratio, [], []⟩) rfl
  change FnP K "_law_ratio" d_law_ratio _ fd_law_ratio at F_law_ratio
  have B_law_ratio : Binds K fd_law_ratio ["top", "bottom"] [] := FunD.bindsN F_law_ratio fun _ _ _ _ _ _ us hl => match us, hl with | [_, _], _ => rfl
  have g_law_ratio := He.glo_ok X Gm (c.fact 15 (f := .glo "_law_ratio") rfl)
  obtain ⟨fd_law_bet, F_law_bet⟩ := c.def_ 18 (d := ⟨("_law_bet", none), "_law_bet", "_law_bet", defArgs d_law_bet, defBody d_law_bet, defScope d_law_bet, [], []⟩) rfl
  change FnP K "_law_bet" d_law_bet _ fd_law_bet at F_law_bet
  have B_law_bet : Binds K fd_law_bet ["size", "row", "many", "bare"] [] := FunD.bindsN F_law_bet fun _ _ _ _ _ _ us hl => match us, hl with | [_, _, _, _], _ => rfl
  have g_law_bet := He.glo_ok X Gm (c.fact 18 (f := .glo "_law_bet") rfl)
  obtain ⟨fd_law_product, F_law_product⟩ := c.def_ 20 (d := ⟨("_law_product", none), "_law_product", "_law_product", defArgs d_law_product, defBody d_law_product, defScope d_law_product, [], []⟩) rfl
  change FnP K "_law_product" d_law_product _ fd_law_product at F_law_product
  have B_law_product : Binds K fd_law_product ["alphabet", "rules", "text", "s"] [] := FunD.bindsN F_law_product fun _ _ _ _ _ _ us hl => match us, hl with | [_, _, _, _], _ => rfl
  have g_law_product := He.glo_ok X Gm (c.fact 20 (f := .glo "_law_product") rfl)
  obtain ⟨fd_law_as_lists, F_law_as_lists⟩ := c.def_ 21 (d := ⟨("_law_as_lists", none), "_law_as_lists", "_law_as_lists", defArgs d_law_as_lists, defBody d_law_as_lists, defScope d_law_as_lists, [], []⟩) rfl
  change FnP K "_law_as_lists" d_law_as_lists _ fd_law_as_lists at F_law_as_lists
  have B_law_as_lists : Binds K fd_law_as_lists ["rules"] [] := FunD.bindsN F_law_as_lists fun _ _ _ _ _ _ us hl => match us, hl with | [_], _ => rfl
  have g_law_as_lists := He.glo_ok X Gm (c.fact 21 (f := .glo "_law_as_lists") rfl)
  obtain ⟨fd_law_common, F_law_common⟩ := c.def_ 22 (d := ⟨("_law_common", none), "_law_common", "_law_common", defArgs d_law_common, defBody d_law_common, defScope d_law_common, [], []⟩) rfl
  change FnP K "_law_common" d_law_common _ fd_law_common at F_law_common
  have B_law_common : Binds K fd_law_common ["rules"] [] := FunD.bindsN F_law_common fun _ _ _ _ _ _ us hl => match us, hl with | [_], _ => rfl
  have g_law_common := He.glo_ok X Gm (c.fact 22 (f := .glo "_law_common") rfl)
  obtain ⟨fd_law_all_texts, F_law_all_texts⟩ := c.def_ 23 (d := ⟨("_law_all_texts", none), "_law_all_texts", "_law_all_texts", defArgs d_law_all_texts, defBody d_law_all_texts, defScope d_law_all_texts, [], []⟩) rfl
  change FnP K "_law_all_texts" d_law_all_texts _ fd_law_all_texts at F_law_all_texts
  have B_law_all_texts : Binds K fd_law_all_texts ["alphabet", "steps"] [] := FunD.bindsN F_law_all_texts fun _ _ _ _ _ _ us hl => match us, hl with | [_, _], _ => rfl
  have g_law_all_texts := He.glo_ok X Gm (c.fact 23 (f := .glo "_law_all_texts") rfl)
  obtain ⟨fd_law_all_bet, F_law_all_bet⟩ := c.def_ 26 (d := ⟨("_law_all_bet", none), "_law_all_bet", "_law_all_bet", defArgs d_law_all_bet, defBody d_law_all_bet, defScope d_law_all_bet, [], []⟩) rfl
  change FnP K "_law_all_bet" d_law_all_bet _ fd_law_all_bet at F_law_all_bet
  have B_law_all_bet : Binds K fd_law_all_bet ["rules", "s", "steps"] [] := FunD.bindsN F_law_all_bet fun _ _ _ _ _ _ us hl => match us, hl with | [_, _, _], _ => rfl
  have g_law_all_bet := He.glo_ok X Gm (c.fact 26 (f := .glo "_law_all_bet") rfl)
  obtain ⟨fd_is_good_bet, F_is_good_bet⟩ := c.def_ 7 (d := ⟨("is_good_bet", none), "is_good_bet", "is_good_bet", defArgs d_is_good_bet, defBody d_is_good_bet, defScope d_is_good_bet, [], []⟩) rfl
  change FnP K "is_good_bet" d_is_good_bet _ fd_is_good_bet at F_is_good_bet
  have B_is_good_bet : Binds K fd_is_good_bet ["rule", "standings"] [] := FunD.bindsN F_is_good_bet fun _ _ _ _ _ _ us hl => match us, hl with | [_, _], _ => rfl
  have g_is_good_bet := He.glo_ok X Gm (c.fact 7 (f := .glo "is_good_bet") rfl)
  obtain ⟨fd_length_chance, F_length_chance⟩ := c.def_ 10 (d := ⟨("length_chance", none), "length_chance", "length_chance", defArgs d_length_chance, defBody d_length_chance, defScope d_length_chance, [], [("start", .int 0)]⟩) rfl
  change FunD K "length_chance" "length_chance" (defArgs d_length_chance) (defBody d_length_chance) (defScope d_length_chance) [] [("start", V.int 0)] _ fd_length_chance at F_length_chance
  have G_length_chance := F_length_chance
  replace F_length_chance : FnP K "length_chance" d_length_chance _ fd_length_chance := FunD.strip G_length_chance
  have B_length_chance : DfB K mg fd_length_chance ["bettor", "length", "start"] [D.int 0] := dfb_of G_length_chance 2 rfl fun _ _ _ _ _ _ us ks l1 l2 => match us, ks, l1, l2 with | [_, _], [_], _, _ => ⟨_, _, _, _, _, _, rfl, rfl, rfl⟩
  have g_length_chance := He.glo_ok X Gm (c.fact 10 (f := .glo "length_chance") rfl)
  obtain ⟨fd_law_fraction, F_law_fraction⟩ := c.def_ 16 (d := ⟨("_law_fraction", none), "_law_fraction", "_law_fraction", defArgs d_law_fraction, defBody d_law_fraction, defScope d_law_fraction, [], []⟩) rfl
  change FnP K "_law_fraction" d_law_fraction _ fd_law_fraction at F_law_fraction
  have B_law_fraction : Binds K fd_law_fraction ["value"] [] := FunD.bindsN F_law_fraction fun _ _ _ _ _ _ us hl => match us, hl with | [_], _ => rfl
  have g_law_fraction := He.glo_ok X Gm (c.fact 16 (f := .glo "_law_fraction") rfl)
  obtain ⟨fd_law_wide_rules, F_law_wide_rules⟩ := c.def_ 19 (d := ⟨("_law_wide_rules", none), "_law_wide_rules", "_law_wide_rules", defArgs d_law_wide_rules, defBody d_law_wide_rules, defScope d_law_wide_rules, [], []⟩) rfl
  change FnP K "_law_wide_rules" d_law_wide_rules _ fd_law_wide_rules at F_law_wide_rules
  have B_law_wide_rules : Binds K fd_law_wide_rules ["size", "cell", "many", "bare"] [] := FunD.bindsN F_law_wide_rules fun _ _ _ _ _ _ us hl => match us, hl with | [_, _, _, _], _ => rfl
  have g_law_wide_rules := He.glo_ok X Gm (c.fact 19 (f := .glo "_law_wide_rules") rfl)
  obtain ⟨fd_law_listed, F_law_listed⟩ := c.def_ 24 (d := ⟨("_law_listed", none), "_law_listed", "_law_listed", defArgs d_law_listed, defBody d_law_listed, defScope d_law_listed, [], []⟩) rfl
  change FnP K "_law_listed" d_law_listed _ fd_law_listed at F_law_listed
  have B_law_listed : Binds K fd_law_listed ["alphabet", "rules", "s", "steps"] [] := FunD.bindsN F_law_listed fun _ _ _ _ _ _ us hl => match us, hl with | [_, _, _, _], _ => rfl
  have g_law_listed := He.glo_ok X Gm (c.fact 24 (f := .glo "_law_listed") rfl)
  obtain ⟨fd_law_weights, F_law_weights⟩ := c.def_ 25 (d := ⟨("_law_weights", none), "_law_weights", "_law_weights", defArgs d_law_weights, defBody d_law_weights, defScope d_law_weights, [], []⟩) rfl
  change FnP K "_law_weights" d_law_weights _ fd_law_weights at F_law_weights
  have B_law_weights : Binds K fd_law_weights ["rules", "s", "steps"] [] := FunD.bindsN F_law_weights fun _ _ _ _ _ _ us hl => match us, hl with | [_, _, _], _ => rfl
  have g_law_weights := He.glo_ok X Gm (c.fact 25 (f := .glo "_law_weights") rfl)
  obtain ⟨fd_check_bets, F_check_bets⟩ := c.def_ 6 (d := ⟨("check_bets", none), "check_bets", "check_bets", defArgs d_check_bets, defBody d_check_bets, defScope d_check_bets, [], []⟩) rfl
  change FnP K "check_bets" d_check_bets _ fd_check_bets at F_check_bets
  have B_check_bets : Binds K fd_check_bets ["rules"] [] := FunD.bindsN F_check_bets fun _ _ _ _ _ _ us hl => match us, hl with | [_], _ => rfl
  have g_check_bets := He.glo_ok X Gm (c.fact 6 (f := .glo "check_bets") rfl)
  obtain ⟨fd_law_same, F_law_same⟩ := c.def_ 17 (d := ⟨("_law_same", none), "_law_same", "_law_same", defArgs d_law_same, defBody d_law_same, defScope d_law_same, [], []⟩) rfl
  change FnP K "_law_same" d_law_same _ fd_law_same at F_law_same
  have B_law_same : Binds K fd_law_same ["value", "due"] [] := FunD.bindsN F_law_same fun _ _ _ _ _ _ us hl => match us, hl with | [_, _], _ => rfl
  have g_law_same := He.glo_ok X Gm (c.fact 17 (f := .glo "_law_same") rfl)
  obtain ⟨fd_frozen, F_frozen⟩ := c.def_ 1 (d := ⟨("frozen", none), "frozen", "frozen", defArgs d_frozen, defBody d_frozen, defScope d_frozen, [], []⟩) rfl
  change FnP K "frozen" d_frozen _ fd_frozen at F_frozen
  have B_frozen : Binds K fd_frozen ["value"] [] := FunD.bindsN F_frozen fun _ _ _ _ _ _ us hl => match us, hl with | [_], _ => rfl
  have g_frozen := He.glo_ok X Gm (c.fact 1 (f := .glo "frozen") rfl)
  obtain ⟨fd_Bettor__init__, F_Bettor__init__⟩ := c.def_ 0 (d := ⟨("Bettor", some "__init__"), "__init__", "Bettor.__init__", defArgs d_Bettor__init__, defBody d_Bettor__init__, defScope d_Bettor__init__, [], []⟩) rfl
  have B_Bettor__init__ : Binds K fd_Bettor__init__ ["self", "alphabet", "rules"] [] := FunD.bindsN F_Bettor__init__ fun _ _ _ _ _ _ us hl => match us, hl with | [_, _, _], _ => rfl
  obtain ⟨fd_law, F_law⟩ := c.def_ 27 (d := ⟨("law", none), "law", "law", defArgs d_law, defBody d_law, defScope d_law, [], []⟩) rfl
  change FnP K "law" d_law _ fd_law at F_law
  have KB_length_chance_0_bettor_length : PKB K fd_length_chance ["bettor", "length", "start"] 0 ["bettor", "length"] (pickLD [0, 1] [D.int 0]) := FunD.pkbD G_length_chance 0 ["bettor", "length"] [0, 1] fun _ _ _ _ _ _ us mv ws l1 l2 l3 => match us, mv, ws, l1, l2, l3 with | [], [_], [_, _], _, _, _ => ⟨_, _, _, _, _, _, rfl, rfl, rfl⟩
  have KB_length_chance_0_length_start_bettor : PKB K fd_length_chance ["bettor", "length", "start"] 0 ["length", "start", "bettor"] (pickL [2, 0, 1]) := FunD.pkbA G_length_chance 0 ["length", "start", "bettor"] [2, 0, 1] fun _ _ _ _ _ _ us ws l1 l2 => match us, ws, l1, l2 with | [], [_, _, _], _, _ => rfl
  have KB_length_chance_2_start : PKB K fd_length_chance ["bettor", "length", "start"] 2 ["start"] (pickL [0, 1, 2]) := FunD.pkbA G_length_chance 2 ["start"] [0, 1, 2] fun _ _ _ _ _ _ us ws l1 l2 => match us, ws, l1, l2 with | [_, _], [_], _, _ => rfl
  have e := hfa.symm.trans (He.glo_ok X Gm (c.fact 27 (f := .glo "law") rfl))
  cases e
  have b := FunD.bindsA (ps := ["script"]) F_law fun _ _ _ _ _ _ us hl => match us, hl with | [_], _ => rfl
  refine ⟨fd_law, fun s v => b s [v] rfl, fun base _ _ => ?_⟩
  have C_is_whole : Cal P w K mg base "is_whole" ["value"] 1 _ fd_is_whole sp_is_whole := ⟨ok_is_whole F_is_whole M, g_is_whole, F_is_whole.kp, B_is_whole⟩
  have C_check_alphabet : Cal P w K mg base "check_alphabet" ["alphabet"] 1 _ fd_check_alphabet sp_check_alphabet := ⟨ok_check_alphabet F_check_alphabet M G, g_check_alphabet, F_check_alphabet.kp, B_check_alphabet⟩
  have C_ratio : Cal P w K mg base "ratio" ["top", "bottom"] 1 _ fd_ratio sp_ratio := ⟨ok_ratio F_ratio I_gcd, g_ratio, F_ratio.kp, B_ratio⟩
  have C_check_moves : Cal P w K mg base "check_moves" ["alphabet", "rules"] 1 _ fd_check_moves sp_check_moves := ⟨ok_check_moves F_check_moves M, g_check_moves, F_check_moves.kp, B_check_moves⟩
  have C_common_total : Cal P w K mg base "common_total" ["bettor"] 1 _ fd_common_total sp_common_total := ⟨ok_common_total F_common_total I_lcm T_obj, g_common_total, F_common_total.kp, B_common_total⟩
  have C_one_letter_more : Cal P w K mg base "one_letter_more" ["bettor", "common", "tops"] 1 _ fd_one_letter_more sp_one_letter_more := ⟨ok_one_letter_more F_one_letter_more T_obj, g_one_letter_more, F_one_letter_more.kp, B_one_letter_more⟩
  have C_law_whole : Cal P w K mg base "_law_whole" ["value"] 1 _ fd_law_whole sp_law_whole := ⟨ok_law_whole F_law_whole M, g_law_whole, F_law_whole.kp, B_law_whole⟩
  have C_law_cell : Cal P w K mg base "_law_cell" ["script", "k"] 1 _ fd_law_cell sp_law_cell := ⟨ok_law_cell F_law_cell M, g_law_cell, F_law_cell.kp, B_law_cell⟩
  have C_law_digits : Cal P w K mg base "_law_digits" ["cell", "sizes"] 1 _ fd_law_digits sp_law_digits := ⟨ok_law_digits F_law_digits M, g_law_digits, F_law_digits.kp, B_law_digits⟩
  have C_law_alphabet : Cal P w K mg base "_law_alphabet" ["row", "upto"] 1 _ fd_law_alphabet sp_law_alphabet := ⟨ok_law_alphabet F_law_alphabet M, g_law_alphabet, F_law_alphabet.kp, B_law_alphabet⟩
  have C_law_ratio : Cal P w K mg base "_law_ratio" ["top", "bottom"] 1 _ fd_law_ratio sp_law_ratio := ⟨ok_law_ratio F_law_ratio M, g_law_ratio, F_law_ratio.kp, B_law_ratio⟩
  have C_law_bet : Cal P w K mg base "_law_bet" ["size", "row", "many", "bare"] 1 _ fd_law_bet sp_law_bet := ⟨ok_law_bet F_law_bet M, g_law_bet, F_law_bet.kp, B_law_bet⟩
  have C_law_product : Cal P w K mg base "_law_product" ["alphabet", "rules", "text", "s"] 1 _ fd_law_product sp_law_product := ⟨ok_law_product F_law_product, g_law_product, F_law_product.kp, B_law_product⟩
  have C_law_as_lists : Cal P w K mg base "_law_as_lists" ["rules"] 1 _ fd_law_as_lists sp_law_as_lists := ⟨ok_law_as_lists F_law_as_lists M, g_law_as_lists, F_law_as_lists.kp, B_law_as_lists⟩
  have C_law_common : Cal P w K mg base "_law_common" ["rules"] 1 _ fd_law_common sp_law_common := ⟨ok_law_common F_law_common, g_law_common, F_law_common.kp, B_law_common⟩
  have C_law_all_texts : Cal P w K mg base "_law_all_texts" ["alphabet", "steps"] 1 _ fd_law_all_texts sp_law_all_texts := ⟨ok_law_all_texts F_law_all_texts M, g_law_all_texts, F_law_all_texts.kp, B_law_all_texts⟩
  have C_law_all_bet : Cal P w K mg base "_law_all_bet" ["rules", "s", "steps"] 1 _ fd_law_all_bet sp_law_all_bet := ⟨ok_law_all_bet F_law_all_bet M, g_law_all_bet, F_law_all_bet.kp, B_law_all_bet⟩
  have C_is_good_bet : Cal P w K mg base "is_good_bet" ["rule", "standings"] 2 _ fd_is_good_bet sp_is_good_bet := ⟨ok_is_good_bet F_is_good_bet C_is_whole, g_is_good_bet, F_is_good_bet.kp, B_is_good_bet⟩
  have C_length_chance : CalD P w K mg base "length_chance" ["bettor", "length", "start"] 2 _ fd_length_chance [D.int 0] sp_length_chance := ⟨ok_length_chance F_length_chance M T_obj C_common_total C_one_letter_more C_ratio, g_length_chance, F_length_chance.kp, B_length_chance⟩
  have C_law_fraction : Cal P w K mg base "_law_fraction" ["value"] 2 _ fd_law_fraction sp_law_fraction := ⟨ok_law_fraction F_law_fraction M C_law_whole, g_law_fraction, F_law_fraction.kp, B_law_fraction⟩
  have C_law_wide_rules : Cal P w K mg base "_law_wide_rules" ["size", "cell", "many", "bare"] 2 _ fd_law_wide_rules sp_law_wide_rules := ⟨ok_law_wide_rules F_law_wide_rules M C_law_digits C_law_bet, g_law_wide_rules, F_law_wide_rules.kp, B_law_wide_rules⟩
  have C_law_listed : Cal P w K mg base "_law_listed" ["alphabet", "rules", "s", "steps"] 2 _ fd_law_listed sp_law_listed := ⟨ok_law_listed F_law_listed M C_law_common C_law_all_texts C_law_product, g_law_listed, F_law_listed.kp, B_law_listed⟩
  have C_law_weights : Cal P w K mg base "_law_weights" ["rules", "s", "steps"] 2 _ fd_law_weights sp_law_weights := ⟨ok_law_weights F_law_weights M C_law_common, g_law_weights, F_law_weights.kp, B_law_weights⟩
  have C_check_bets : Cal P w K mg base "check_bets" ["rules"] 3 _ fd_check_bets sp_check_bets := ⟨ok_check_bets F_check_bets M C_is_good_bet, g_check_bets, F_check_bets.kp, B_check_bets⟩
  have C_law_same : Cal P w K mg base "_law_same" ["value", "due"] 3 _ fd_law_same sp_law_same := ⟨ok_law_same F_law_same C_law_fraction, g_law_same, F_law_same.kp, B_law_same⟩
  have C_frozen : Cal P w K mg base "frozen" ["value"] 1 _ fd_frozen sp_frozen_0 := ⟨never_ok, g_frozen, F_frozen.kp, B_frozen⟩
  have C_frozen : Cal P w K mg base "frozen" ["value"] 2 _ fd_frozen sp_frozen_1 := ⟨ok_frozen_1 F_frozen M C_frozen, g_frozen, F_frozen.kp, B_frozen⟩
  have C_frozen : Cal P w K mg base "frozen" ["value"] 3 _ fd_frozen sp_frozen_2 := ⟨ok_frozen_2 F_frozen M C_frozen, g_frozen, F_frozen.kp, B_frozen⟩
  have C_frozen : Cal P w K mg base "frozen" ["value"] 4 _ fd_frozen sp_frozen_3 := ⟨ok_frozen_3 F_frozen M C_frozen, g_frozen, F_frozen.kp, B_frozen⟩
  have C_frozen : Cal P w K mg base "frozen" ["value"] 5 _ fd_frozen sp_frozen_4 := ⟨ok_frozen_4 F_frozen M C_frozen, g_frozen, F_frozen.kp, B_frozen⟩
  have C_frozen : Cal P w K mg base "frozen" ["value"] 6 _ fd_frozen sp_frozen_5 := ⟨ok_frozen_5 F_frozen M C_frozen, g_frozen, F_frozen.kp, B_frozen⟩
  have C_frozen : Cal P w K mg base "frozen" ["value"] 6 _ fd_frozen sp_frozen := C_frozen
  have C_Bettor__init__ : OCl P w K mg base "Bettor" ["alphabet", "rules"] 7 _ _ fd_Bettor__init__ sp_Bettor__init__ := ⟨e_Bettor.1, e_Bettor.2.2.1, ok_Bettor__init__ F_Bettor__init__ M T_obj e_Bettor.1 C_check_alphabet C_frozen C_check_moves C_check_bets, B_Bettor__init__⟩
  exact ok_law F_law M C_law_digits C_law_cell C_law_alphabet C_law_wide_rules C_Bettor__init__ C_law_as_lists C_length_chance C_law_weights C_law_same C_law_ratio C_law_listed C_law_fraction C_law_all_bet KB_length_chance_0_bettor_length KB_length_chance_0_length_start_bettor KB_length_chance_2_start
end K65
open PySem PySem.W PyProof.Rows
set_option maxRecDepth 100000 in
set_option maxHeartbeats 0 in
theorem PySem.Challenge.cw_unpressed_k65_chances_of_a_length_holds : PySem.Challenge.rw_unpressed_k65_chances_of_a_length.Holds := by
  w_on; o_law
  refine HandSHeadRun.head_imp (r := OpenLaw.row PySem.Challenge.rw_unpressed_k65_chances_of_a_length) (q := view (OpenLaw.row PySem.Challenge.rw_unpressed_k65_chances_of_a_length).prog [0, 38]) (H := K65.hk) (ob := K65.ob) (M := 60000) (loose := K65.loose) (d := HandSHeadRun.topDef (OpenLaw.row PySem.Challenge.rw_unpressed_k65_chances_of_a_length).prog 38) (kwd := []) K65.ob_eq
    K65.run (by kernel_rfl) (by kernel_rfl) (by kernel_rfl) (by rfl) (by first | assumption | decide +kernel) (by decide +kernel) ⟨rfl, rfl, rfl, rfl, rfl, by decide +kernel⟩ ?hw ?hc
  case hw => w_witness2
  case hc =>
    refine L2.walk_ofE (l := PySem.Challenge.rw_unpressed_k65_chances_of_a_length) (n := 63) (k := 9) (x := "script") (CX := L2.CX0) rfl (by decide) (by kernel_rfl) ⟨rfl, by decide, by decide⟩ ?F (fun _ _ _ _ z => z)
    intro w mg fa h Y G hmg0
    obtain ⟨K, KX, c, hx⟩ := Y
    have hmg : mg ("law" : PySem.Str) = some (.ref fa) := by
      have e : (HandSHeadRun.topDef (OpenLaw.row PySem.Challenge.rw_unpressed_k65_chances_of_a_length).prog 38).name = ("law" : PySem.Str) := by kernel_rfl
      rw [← e]
      exact hmg0
    obtain ⟨fd, hb, hF⟩ := K65.facts (P := (PySem.Challenge.rw_unpressed_k65_chances_of_a_length).prog) (w := w) KX G hmg c hx
    exact ⟨K, fd, PL.spP K mg K65.sp_law, KX, hb, fun H a ns hl hO hS => PL.law_entry hS (K65.law_in ns hl), hF⟩
end
