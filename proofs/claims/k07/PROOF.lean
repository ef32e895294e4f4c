import PyProof.Rows.All
import Wide.All
import OpenK.AllK
import Wide.FinOn
import HandS.ForMost
import HandS.Wide
import HandS.WideBits
import HandS.IsInst
import HandS.SortInts
import HandS.Deep
import HandS.Conv
import HandS.ExcInit
import HandS.NoneIn
import HandS.TupAny
import HandS.Defaults
import HandS.MakeKwOnly
import HandS.RevTup
import HandS.Rev
import HandS.MapObj
import PyProof.MaxThree
import HandS.HeadHook2
import HandS.HeadEnd
import HandS.Head0
import HandS.Head1
import HandS.Head2
import HandS.RaiseMore
import HandS.Iter
import KE.KExcIs
import HandS.MakeKw
import HandS.ExcField
import KE.KMathG
import Flt.RightSqrt
import HandS.Gcd
import HandS.Style
import KE.GoesMore
import HandS.More
import HandS.StrMore
import HandS.Text
import HandS.Replace
import HandS.Strs
import KE.KRevSl
import PyProof.SliceStr2
import HandS.TupLe
import HandS.Exc
import HandS.ExcOwn
import KE.SortKeyHeap
import HandS.SortKw
import PyProof.StrLawsIn
import PySem.Challenge.RW_unpressed_k07_text_with_count
import HandS.Head3
set_option Elab.async false
section
set_option linter.all false
set_option maxRecDepth 100000
set_option maxHeartbeats 4000000
set_option autoImplicit false
/-! PL1: a layer of pure data over the hand layer. A value is plain data (D); lists and dicts that a def builds by mutation are owned cells of its slots; everything else is frozen. -/
namespace PL
open PySem PySem.Spec PyProof.Rows L2

inductive D where
  | non
  | bl (b : Bool)
  | int (i : Int)
  | str (x : Str)
  | tup (ds : List D)
  | lst (ds : List D)
  | scr (ds : List D)
  | dk (kvs : List (Key × D))
  | dt (kvs : List (List Key × D))
  | obj (C : Str) (fs : List (Str × D))
  | err (C : Str) (fs : List (Str × D))

abbrev MG := Str → Option Value

/-- what is tracked at a tells: an exception object of the class at C, its dict at dx -/
def Exq (u : HO) (a C dx : Addr) : Prop := ∃ φ : Heap → Prop, u = .ext φ ∧ ∀ h, φ h → ∃ (oe : Obj) (vs : Array Value), h.get? a = some oe ∧ oe.cls = .ref C ∧ oe.dict = some dx ∧ oe.data = .fields vs
theorem exq_exo {a C dx : Addr} : Exq (exo a C (some dx)) a C dx := ⟨_, rfl, fun _ ⟨_, e⟩ => ⟨_, _, e, rfl, rfl, rfl⟩⟩
theorem Exq.frz {u : HO} {a C dx : Addr} {o : Obj} {w : HO} (q : Exq u a C dx) : u ≠ .frz o w := fun z => by
  obtain ⟨φ, e, _⟩ := q
  rw [e] at z; cases z
theorem Exq.at {P : Program} {w : World} {H : Hp} {h : Heap} {u : HO} {a C dx : Addr} (q : Exq u a C dx) (hok : HOk P w H h) (e : H a = some u) : ∃ (oe : Obj) (vs : Array Value), h.get? a = some oe ∧ oe.cls = .ref C ∧ oe.dict = some dx ∧ oe.data = .fields vs := by
  obtain ⟨φ, rfl, k⟩ := q
  have x : ObjOk P w H h a (.ext φ) := hok a _ e
  exact k _ x.1

mutual
inductive Rep (K : PySem.W.Frag) (mg : MG) (G : Hp) : V → D → Prop
  | non : Rep K mg G .non .non
  | bl (b : Bool) : Rep K mg G (.bl b) (.bl b)
  | int (i : Int) : Rep K mg G (.int i) (.int i)
  | str (x : Str) : Rep K mg G (.str x) (.str x)
  | tup {a : Addr} {vs : List V} {ds : List D} : G a = some (.tup vs) → Reps K mg G vs ds → Rep K mg G (.ref a) (.tup ds)
  | lst {a : Addr} {vs : List V} {ds : List D} : G a = some (.lst vs) → Reps K mg G vs ds → Rep K mg G (.ref a) (.lst ds)
  | scr {a : Addr} {vs : List V} {ds : List D} : SqL K G a vs → Reps K mg G vs ds → Rep K mg G (.ref a) (.scr ds)
  | dk {a : Addr} {vs : List (Key × V)} {ds : List (Key × D)} : Rd G a (.dK vs) → RepKV K mg G vs ds → Rep K mg G (.ref a) (.dk ds)
  | dt {a : Addr} {vs : List (List Key × V)} {ds : List (List Key × D)} : G a = some (.dT vs) → RepTV K mg G vs ds → Rep K mg G (.ref a) (.dt ds)
  | obj {a C dx : Addr} {cls : Str} {fs : List (Str × V)} {ds : List (Str × D)} : G a = some (.ins C dx fs) → mg cls = some (.ref C) → RepF K mg G fs ds → Rep K mg G (.ref a) (.obj cls ds)
  | slf {a C dx : Addr} {cls : Str} {fs : List (Str × V)} {ds : List (Str × D)} : G a = some (.ins C dx fs) → mg cls = some (.ref C) → RepF K mg G fs ds → Rep K mg G (.ref a) (.obj cls (("@", .int (a : Nat)) :: ds))
  | err {a C dx : Addr} {cls : Str} {fs : List (Str × V)} {ds : List (Str × D)} {u : HO} : G a = some u → Exq u a C dx → G dx = some (exd dx fs) → mg cls = some (.ref C) → RepF K mg G fs ds → Rep K mg G (.ref a) (.err cls ds)
inductive Reps (K : PySem.W.Frag) (mg : MG) (G : Hp) : List V → List D → Prop
  | nil : Reps K mg G [] []
  | cons {v : V} {vs : List V} {d : D} {ds : List D} : Rep K mg G v d → Reps K mg G vs ds → Reps K mg G (v :: vs) (d :: ds)
inductive RepKV (K : PySem.W.Frag) (mg : MG) (G : Hp) : List (Key × V) → List (Key × D) → Prop
  | nil : RepKV K mg G [] []
  | cons {k : Key} {v : V} {vs : List (Key × V)} {d : D} {ds : List (Key × D)} : Rep K mg G v d → RepKV K mg G vs ds → RepKV K mg G ((k, v) :: vs) ((k, d) :: ds)
inductive RepTV (K : PySem.W.Frag) (mg : MG) (G : Hp) : List (List Key × V) → List (List Key × D) → Prop
  | nil : RepTV K mg G [] []
  | cons {k : List Key} {v : V} {vs : List (List Key × V)} {d : D} {ds : List (List Key × D)} : Rep K mg G v d → RepTV K mg G vs ds → RepTV K mg G ((k, v) :: vs) ((k, d) :: ds)
inductive RepF (K : PySem.W.Frag) (mg : MG) (G : Hp) : List (Str × V) → List (Str × D) → Prop
  | nil : RepF K mg G [] []
  | cons {k : Str} {v : V} {vs : List (Str × V)} {d : D} {ds : List (Str × D)} : Rep K mg G v d → RepF K mg G vs ds → RepF K mg G ((k, v) :: vs) ((k, d) :: ds)
end

theorem Same.sqT {K : PySem.W.Frag} {H H' : Hp} {a : Addr} {xs : List V} (e : Same H H') (h : SqT K H a xs) : SqT K H' a xs := by
  rcases h with (h | ⟨o, h⟩) | h
  · exact .inl (.inl (e _ _ h))
  · exact .inl (.inr ⟨o, e _ _ h⟩)
  · exact .inr h

theorem rd_same {G H : Hp} {a : Addr} {u : HO} (e : Same G H) (h : Rd G a u) : Rd H a u := by
  rcases h with h | ⟨o, h⟩
  · exact .inl (e _ _ h)
  · exact .inr ⟨o, e _ _ h⟩
section
variable {K : PySem.W.Frag} {mg : MG} {G G' : Hp}
mutual
theorem Rep.mono (e : Same G G') : ∀ {v : V} {d : D}, Rep K mg G v d → Rep K mg G' v d
  | _, _, .non => .non
  | _, _, .bl b => .bl b
  | _, _, .int i => .int i
  | _, _, .str x => .str x
  | _, _, .tup h r => .tup (e _ _ h) (Reps.mono e r)
  | _, _, .lst h r => .lst (e _ _ h) (Reps.mono e r)
  | _, _, .scr h r => .scr (e.seq h) (Reps.mono e r)
  | _, _, .dk h r => .dk (rd_same e h) (RepKV.mono e r)
  | _, _, .dt h r => .dt (e _ _ h) (RepTV.mono e r)
  | _, _, .obj h m r => .obj (e _ _ h) m (RepF.mono e r)
  | _, _, .slf h m r => .slf (e _ _ h) m (RepF.mono e r)
  | _, _, .err h q h2 m r => .err (e _ _ h) q (e _ _ h2) m (RepF.mono e r)
theorem Reps.mono (e : Same G G') : ∀ {v : List V} {d : List D}, Reps K mg G v d → Reps K mg G' v d
  | _, _, .nil => .nil
  | _, _, .cons h t => .cons (Rep.mono e h) (Reps.mono e t)
theorem RepKV.mono (e : Same G G') : ∀ {v : List (Key × V)} {d : List (Key × D)}, RepKV K mg G v d → RepKV K mg G' v d
  | _, _, .nil => .nil
  | _, _, .cons h t => .cons (Rep.mono e h) (RepKV.mono e t)
theorem RepTV.mono (e : Same G G') : ∀ {v : List (List Key × V)} {d : List (List Key × D)}, RepTV K mg G v d → RepTV K mg G' v d
  | _, _, .nil => .nil
  | _, _, .cons h t => .cons (Rep.mono e h) (RepTV.mono e t)
theorem RepF.mono (e : Same G G') : ∀ {v : List (Str × V)} {d : List (Str × D)}, RepF K mg G v d → RepF K mg G' v d
  | _, _, .nil => .nil
  | _, _, .cons h t => .cons (Rep.mono e h) (RepF.mono e t)
end
theorem Reps.length : ∀ {vs : List V} {ds : List D}, Reps K mg G vs ds → vs.length = ds.length
  | _, _, .nil => rfl
  | _, _, .cons _ t => congrArg (· + 1) (Reps.length t)
theorem Reps.get : ∀ {vs : List V} {ds : List D} {i : Nat} {v : V}, Reps K mg G vs ds → vs[i]? = some v → ∃ d, ds[i]? = some d ∧ Rep K mg G v d
  | _, _, _, _, .nil, e => by simp at e
  | _, _, 0, _, .cons r _, e => by simp at e; subst e; exact ⟨_, rfl, r⟩
  | _, _, i + 1, v, .cons _ t, e => by
    obtain ⟨d, h1, h2⟩ := Reps.get (i := i) (v := v) t (by simpa using e)
    exact ⟨d, by simpa using h1, h2⟩
theorem Reps.getD : ∀ {vs : List V} {ds : List D} {i : Nat} {d : D}, Reps K mg G vs ds → ds[i]? = some d → ∃ v, vs[i]? = some v ∧ Rep K mg G v d
  | _, _, _, _, .nil, e => by simp at e
  | _, _, 0, _, .cons r _, e => by simp at e; subst e; exact ⟨_, rfl, r⟩
  | _, _, i + 1, d, .cons _ t, e => by
    obtain ⟨v, h1, h2⟩ := Reps.getD (i := i) (d := d) t (by simpa using e)
    exact ⟨v, by simpa using h1, h2⟩
theorem Reps.append : ∀ {vs ws : List V} {ds es : List D}, Reps K mg G vs ds → Reps K mg G ws es → Reps K mg G (vs ++ ws) (ds ++ es)
  | _, _, _, _, .nil, h => h
  | _, _, _, _, .cons r t, h => .cons r (Reps.append t h)
theorem Reps.take : ∀ {vs : List V} {ds : List D} (n : Nat), Reps K mg G vs ds → Reps K mg G (vs.take n) (ds.take n)
  | _, _, 0, _ => by simp only [List.take_zero]; exact .nil
  | _, _, _ + 1, .nil => .nil
  | _, _, n + 1, .cons r t => .cons r (Reps.take n t)
theorem Reps.drop : ∀ {vs : List V} {ds : List D} (n : Nat), Reps K mg G vs ds → Reps K mg G (vs.drop n) (ds.drop n)
  | _, _, 0, r => r
  | _, _, _ + 1, .nil => .nil
  | _, _, n + 1, .cons _ t => Reps.drop n t
theorem Reps.set {v : V} {d : D} (r : Rep K mg G v d) : ∀ {vs : List V} {ds : List D} (i : Nat), Reps K mg G vs ds → Reps K mg G (vs.set i v) (ds.set i d)
  | _, _, _, .nil => .nil
  | _, _, 0, .cons _ t => .cons r t
  | _, _, i + 1, .cons q t => .cons q (Reps.set r i t)
theorem Reps.reverse {vs : List V} {ds : List D} (h : Reps K mg G vs ds) : Reps K mg G vs.reverse ds.reverse := by
  induction vs generalizing ds with
  | nil => cases h; exact .nil
  | cons v vs ih =>
    cases h with
    | cons r t =>
      simp only [List.reverse_cons]
      exact (ih t).append (.cons r .nil)
theorem Reps.ints : ∀ {vs : List V} {ns : List Int}, Reps K mg G vs (ns.map D.int) → vs = ns.map V.int
  | _, [], .nil => rfl
  | _, n :: ns, .cons r t => by
    cases r
    rw [Reps.ints t]; rfl
theorem Reps.strs : ∀ {vs : List V} {ns : List Str}, Reps K mg G vs (ns.map D.str) → vs = ns.map V.str
  | _, [], .nil => rfl
  | _, n :: ns, .cons r t => by
    cases r
    rw [Reps.strs t]; rfl
theorem Reps.bls : ∀ {vs : List V} {ns : List Bool}, Reps K mg G vs (ns.map D.bl) → vs = ns.map V.bl
  | _, [], .nil => rfl
  | _, n :: ns, .cons r t => by
    cases r
    rw [Reps.bls t]; rfl
theorem Reps.ofInts : ∀ (ns : List Int), Reps K mg G (ns.map V.int) (ns.map D.int)
  | [] => .nil
  | n :: ns => .cons (.int n) (Reps.ofInts ns)
theorem Reps.ofStrs : ∀ (ns : List Str), Reps K mg G (ns.map V.str) (ns.map D.str)
  | [] => .nil
  | n :: ns => .cons (.str n) (Reps.ofStrs ns)
end

/-! ### growth of the frozen part and of the whole heap -/
structure Ext (G H G' H' : Hp) : Prop where
  g : Same G G'
  h : Same H H'
  s : Same G' H'
  f : ∀ a, G a = none → G' a ≠ none → H a = none
theorem Ext.refl {G H : Hp} (s : Same G H) : Ext G H G H := ⟨Same.refl _, Same.refl _, s, fun _ e n => absurd e n⟩
theorem Ext.trans {G H G1 H1 G2 H2 : Hp} (a : Ext G H G1 H1) (b : Ext G1 H1 G2 H2) : Ext G H G2 H2 :=
  ⟨a.g.trans b.g, a.h.trans b.h, b.s, fun x e n => by
    by_cases q : G1 x = none
    · exact a.h.free (b.f x q n)
    · exact a.f x e q⟩
theorem Same.upd {H : Hp} {p : Addr} {o : HO} (n : H p = none) : Same H (L2.upd H p o) := fun b u e => by rw [upd_ne (ne_of_none e n)]; exact e
/-- a new frozen object -/
theorem Ext.new {G H : Hp} {p : Addr} {o : HO} (s : Same G H) (n : H p = none) : Ext G H (upd G p o) (upd H p o) := by
  have nG : G p = none := s.free n
  refine ⟨Same.upd nG, Same.upd n, fun b u e => ?_, fun a e q => ?_⟩
  · by_cases h : b = p
    · subst h; rw [upd_same] at e ⊢; exact e
    · rw [upd_ne h] at e ⊢; exact s _ _ e
  · by_cases h : a = p
    · subst h; exact n
    · rw [upd_ne h] at q; exact absurd e q
/-- a new object that is not frozen -/
theorem Ext.newH {G H : Hp} {p : Addr} {o : HO} (s : Same G H) (n : H p = none) : Ext G H G (upd H p o) :=
  ⟨Same.refl _, Same.upd n, s.trans (Same.upd n), fun _ e q => absurd e q⟩

/-! ### slots -/
inductive C where
  | un
  | fz (d : D)
  | ow (d : D)

inductive Top (K : PySem.W.Frag) (mg : MG) (H G : Hp) (l : Addr) : D → Prop
  | lst {vs : List V} {ds : List D} : H l = some (.lst vs) → Reps K mg G vs ds → Top K mg H G l (.lst ds)
  | dk {vs : List (Key × V)} {ds : List (Key × D)} : H l = some (.dK vs) → RepKV K mg G vs ds → Top K mg H G l (.dk ds)
  | dt {vs : List (List Key × V)} {ds : List (List Key × D)} : H l = some (.dT vs) → RepTV K mg G vs ds → Top K mg H G l (.dt ds)
  | slf {C dx : Addr} {cls : Str} {vs : List (Str × V)} {ds : List (Str × D)} : H l = some (.ins C dx vs) → mg cls = some (.ref C) → RepF K mg G vs ds → Top K mg H G l (.obj cls (("@", .int (l : Nat)) :: ds))

section
variable {K : PySem.W.Frag} {mg : MG} {G H G' H' : Hp} {l : Addr} {d : D}
theorem Top.mono (h : Top K mg H G l d) (a : Same H H') (b : Same G G') : Top K mg H' G' l d := by
  cases h with
  | lst e r => exact .lst (a _ _ e) (r.mono b)
  | dk e r => exact .dk (a _ _ e) (r.mono b)
  | dt e r => exact .dt (a _ _ e) (r.mono b)
  | slf e m r => exact .slf (a _ _ e) m (r.mono b)
theorem Top.some (h : Top K mg H G l d) : ∃ o, H l = Option.some o := by
  cases h with
  | lst e r => exact ⟨_, e⟩
  | dk e r => exact ⟨_, e⟩
  | dt e r => exact ⟨_, e⟩
  | slf e m r => exact ⟨_, e⟩
/-- an owned cell is frozen -/
theorem Top.freeze (h : Top K mg H G l d) (s : Same G H) (n : G l = none) : ∃ o, H l = Option.some o ∧ Rep K mg (upd G l o) (.ref l) d ∧ Same G (upd G l o) ∧ Same (upd G l o) H := by
  have sG : ∀ o, Same G (upd G l o) := fun o => Same.upd n
  have sH : ∀ o, H l = Option.some o → Same (upd G l o) H := fun o e b u q => by
    by_cases hb : b = l
    · subst hb; rw [upd_same] at q; cases q; exact e
    · rw [upd_ne hb] at q; exact s _ _ q
  cases h with
  | lst e r => exact ⟨_, e, .lst upd_same (r.mono (sG _)), sG _, sH _ e⟩
  | dk e r => exact ⟨_, e, .dk (.inl upd_same) (r.mono (sG _)), sG _, sH _ e⟩
  | dt e r => exact ⟨_, e, .dt upd_same (r.mono (sG _)), sG _, sH _ e⟩
  | slf e m r => exact ⟨_, e, .slf upd_same m (r.mono (sG _)), sG _, sH _ e⟩
end

/-- a value that is read at its top: frozen, or an owned cell -/
def Shal (K : PySem.W.Frag) (mg : MG) (H G : Hp) (v : V) (d : D) : Prop := Rep K mg G v d ∨ ∃ l, v = .ref l ∧ Top K mg H G l d
theorem Shal.mono {K : PySem.W.Frag} {mg : MG} {G H G' H' : Hp} {v : V} {d : D} (h : Shal K mg H G v d) (a : Same H H') (b : Same G G') : Shal K mg H' G' v d := by
  rcases h with h | ⟨l, e, t⟩
  · exact .inl (h.mono b)
  · exact .inr ⟨l, e, t.mono a b⟩
section
variable {K : PySem.W.Frag} {mg : MG} {G H : Hp} {v : V}
theorem Shal.int {i : Int} (h : Shal K mg H G v (.int i)) : v = .int i := by
  rcases h with h | ⟨l, e, t⟩
  · cases h; rfl
  · cases t
theorem Shal.bl {i : Bool} (h : Shal K mg H G v (.bl i)) : v = .bl i := by
  rcases h with h | ⟨l, e, t⟩
  · cases h; rfl
  · cases t
theorem Shal.str {i : Str} (h : Shal K mg H G v (.str i)) : v = .str i := by
  rcases h with h | ⟨l, e, t⟩
  · cases h; rfl
  · cases t
theorem Shal.non (h : Shal K mg H G v .non) : v = .non := by
  rcases h with h | ⟨l, e, t⟩
  · cases h; rfl
  · cases t
theorem Shal.lst {ds : List D} (h : Shal K mg H G v (.lst ds)) (s : Same G H) : ∃ l vs, v = .ref l ∧ H l = some (.lst vs) ∧ Reps K mg G vs ds := by
  rcases h with h | ⟨l, e, t⟩
  · cases h with
    | lst e r => exact ⟨_, _, rfl, s _ _ e, r⟩
  · cases t with
    | lst e' r => exact ⟨_, _, e, e', r⟩
theorem Shal.dk {ds : List (Key × D)} (h : Shal K mg H G v (.dk ds)) (s : Same G H) : ∃ l vs, v = .ref l ∧ Rd H l (.dK vs) ∧ RepKV K mg G vs ds := by
  rcases h with h | ⟨l, e, t⟩
  · cases h with
    | dk e r => exact ⟨_, _, rfl, rd_same s e, r⟩
  · cases t with
    | dk e' r => exact ⟨_, _, e, .inl e', r⟩
theorem Shal.dt {ds : List (List Key × D)} (h : Shal K mg H G v (.dt ds)) (s : Same G H) : ∃ l vs, v = .ref l ∧ H l = some (.dT vs) ∧ RepTV K mg G vs ds := by
  rcases h with h | ⟨l, e, t⟩
  · cases h with
    | dt e r => exact ⟨_, _, rfl, s _ _ e, r⟩
  · cases t with
    | dt e' r => exact ⟨_, _, e, e', r⟩
theorem Shal.scr {ds : List D} (h : Shal K mg H G v (.scr ds)) (s : Same G H) : ∃ l vs, v = .ref l ∧ SqL K H l vs ∧ Reps K mg G vs ds := by
  rcases h with h | ⟨l, e, t⟩
  · cases h with
    | scr e r => exact ⟨_, _, rfl, s.seq e, r⟩
  · cases t
theorem Shal.tup {ds : List D} (h : Shal K mg H G v (.tup ds)) (s : Same G H) : ∃ l vs, v = .ref l ∧ H l = some (.tup vs) ∧ Reps K mg G vs ds := by
  rcases h with h | ⟨l, e, t⟩
  · cases h with
    | tup e r => exact ⟨_, _, rfl, s _ _ e, r⟩
  · cases t
theorem Shal.err {cls : Str} {ds : List (Str × D)} (h : Shal K mg H G v (.err cls ds)) : Rep K mg G v (.err cls ds) := by
  rcases h with h | ⟨l, e, t⟩
  · exact h
  · cases t
theorem Shal.obj {cls : Str} {ds : List (Str × D)} (h : Shal K mg H G v (.obj cls ds)) (s : Same G H) : ∃ a C dx vs ds', v = .ref a ∧ H a = some (.ins C dx vs) ∧ mg cls = some (.ref C) ∧ RepF K mg G vs ds' ∧ (ds = ds' ∨ ds = (("@", D.int (a : Nat)) :: ds' : List (Str × D))) := by
  rcases h with h | ⟨l, e, t⟩
  · cases h with
    | obj e m r => exact ⟨_, _, _, _, _, rfl, s _ _ e, m, r, .inl rfl⟩
    | slf e m r => exact ⟨_, _, _, _, _, rfl, s _ _ e, m, r, .inr rfl⟩
  · cases t with
    | slf a m r => exact ⟨_, _, _, _, _, e, a, m, r, .inr rfl⟩
end

def SlotOk (K : PySem.W.Frag) (mg : MG) (H G : Hp) (c : C) (o : Option (Option V)) : Prop := match c with
  | .un => True
  | .fz d => ∃ v, o = some (some v) ∧ Rep K mg G v d
  | .ow d => ∃ l, o = some (some (.ref l)) ∧ Top K mg H G l d ∧ G l = none

structure Ok (K : PySem.W.Frag) (mg : MG) (G H : Hp) (env : List C) (σ : L2.St) : Prop where
  same : Same G H
  slot : ∀ (i : Nat) (c : C), env[i]? = some c → SlotOk K mg H G c σ[i]?
  apart : ∀ (i j : Nat) (d e : D) (l : Addr), env[i]? = some (.ow d) → env[j]? = some (.ow e) → σ[i]? = some (some (.ref l)) → σ[j]? = some (some (.ref l)) → i = j
  len : env.length = σ.length
section
variable {K : PySem.W.Frag} {mg : MG} {G H G' H' : Hp} {env : List C} {σ : L2.St}
theorem SlotOk.ext {c : C} {o : Option (Option V)} (h : SlotOk K mg H G c o) (e : Ext G H G' H') : SlotOk K mg H' G' c o := by
  cases c with
  | un => trivial
  | fz d => obtain ⟨v, a, r⟩ := h; exact ⟨v, a, r.mono e.g⟩
  | ow d =>
    obtain ⟨l, a, t, n⟩ := h
    refine ⟨l, a, t.mono e.h e.g, ?_⟩
    cases q : G' l with
    | none => rfl
    | some o =>
      obtain ⟨u, hu⟩ := t.some
      have := e.f l n (by rw [q]; intro z; cases z)
      rw [hu] at this; cases this
theorem Ok.ext (h : Ok K mg G H env σ) (e : Ext G H G' H') : Ok K mg G' H' env σ :=
  ⟨e.s, fun i c q => (h.slot i c q).ext e, h.apart, h.len⟩
end

structure Rel (K : PySem.W.Frag) (mg : MG) (G0 H0 G H : Hp) (env : List C) (σ : L2.St) : Prop where
  ok : Ok K mg G H env σ
  ext : Ext G0 H0 G H
  own : ∀ (i : Nat) (d : D) (l : Addr), env[i]? = some (.ow d) → σ[i]? = some (some (.ref l)) → H0 l = none
theorem Rel.step {K : PySem.W.Frag} {mg : MG} {G0 H0 G H G' H' : Hp} {env : List C} {σ : L2.St} (h : Rel K mg G0 H0 G H env σ) (e : Ext G H G' H') : Rel K mg G0 H0 G' H' env σ :=
  ⟨h.ok.ext e, h.ext.trans e, h.own⟩

/-- slot i gets frozen data -/
theorem Rel.setFz {K : PySem.W.Frag} {mg : MG} {G0 H0 G H : Hp} {env : List C} {σ : L2.St} {i : Nat} {v : V} {d : D} (h : Rel K mg G0 H0 G H env σ) (r : Rep K mg G v d) :
    Rel K mg G0 H0 G H (env.set i (.fz d)) (σ.set i (some v)) := by
  have low : ∀ {j : Nat} {e : D}, (env.set i (.fz d))[j]? = some (.ow e) → j ≠ i ∧ env[j]? = some (.ow e) := fun {j e} q => by
    rw [List.getElem?_set] at q
    split at q
    · split at q <;> cases q
    · rename_i hij; exact ⟨Ne.symm hij, q⟩
  refine ⟨⟨h.ok.same, fun j c q => ?_, fun j k d' e' l q1 q2 s1 s2 => ?_, by simp [h.ok.len]⟩, h.ext, fun j d' l q s1 => ?_⟩
  · rw [List.getElem?_set] at q
    split at q
    · rename_i hij
      subst hij
      split at q
      · rename_i hl
        cases q
        refine ⟨v, ?_, r⟩
        rw [List.getElem?_set_self (by rw [← h.ok.len]; exact hl)]
      · cases q
    · rename_i hij
      rw [List.getElem?_set_ne hij]
      exact h.ok.slot j c q
  · obtain ⟨n1, e1⟩ := low q1
    obtain ⟨n2, e2⟩ := low q2
    rw [List.getElem?_set_ne (Ne.symm n1)] at s1
    rw [List.getElem?_set_ne (Ne.symm n2)] at s2
    exact h.ok.apart j k d' e' l e1 e2 s1 s2
  · obtain ⟨n1, e1⟩ := low q
    rw [List.getElem?_set_ne (Ne.symm n1)] at s1
    exact h.own j d' l e1 s1
/-- slot i gets a new owned cell -/
theorem Rel.setOw {K : PySem.W.Frag} {mg : MG} {G0 H0 G H : Hp} {env : List C} {σ : L2.St} {i : Nat} {l : Addr} {d : D} (h : Rel K mg G0 H0 G H env σ) (t : Top K mg H G l d) (n : G l = none) (n0 : H0 l = none)
    (new : ∀ (j : Nat) (e : D), env[j]? = some (.ow e) → σ[j]? ≠ some (some (.ref l))) :
    Rel K mg G0 H0 G H (env.set i (.ow d)) (σ.set i (some (.ref l))) := by
  have low : ∀ {j : Nat} {e : D}, (env.set i (.ow d))[j]? = some (.ow e) → j ≠ i → env[j]? = some (.ow e) := fun {j e} q hn => by
    rw [List.getElem?_set_ne (Ne.symm hn)] at q
    exact q
  refine ⟨⟨h.ok.same, fun j c q => ?_, fun j k d' e' m q1 q2 s1 s2 => ?_, by simp [h.ok.len]⟩, h.ext, fun j d' m q s1 => ?_⟩
  · rw [List.getElem?_set] at q
    split at q
    · rename_i hij
      subst hij
      split at q
      · rename_i hl
        cases q
        refine ⟨l, ?_, t, n⟩
        rw [List.getElem?_set_self (by rw [← h.ok.len]; exact hl)]
      · cases q
    · rename_i hij
      rw [List.getElem?_set_ne hij]
      exact h.ok.slot j c q
  · by_cases a1 : j = i
    · by_cases a2 : k = i
      · rw [a1, a2]
      · subst a1
        have e2 := low q2 a2
        rw [List.getElem?_set_ne (Ne.symm a2)] at s2
        rw [List.getElem?_set] at s1
        split at s1
        · split at s1
          · cases s1; exact absurd s2 (new k e' e2)
          · cases s1
        · rename_i z; exact absurd rfl z
    · have e1 := low q1 a1
      rw [List.getElem?_set_ne (Ne.symm a1)] at s1
      by_cases a2 : k = i
      · subst a2
        rw [List.getElem?_set] at s2
        split at s2
        · split at s2
          · cases s2; exact absurd s1 (new j d' e1)
          · cases s2
        · rename_i z; exact absurd rfl z
      · have e2 := low q2 a2
        rw [List.getElem?_set_ne (Ne.symm a2)] at s2
        exact h.ok.apart j k d' e' m e1 e2 s1 s2
  · by_cases a1 : j = i
    · subst a1
      rw [List.getElem?_set] at s1
      split at s1
      · split at s1
        · cases s1; exact n0
        · cases s1
      · rename_i z; exact absurd rfl z
    · have e1 := low q a1
      rw [List.getElem?_set_ne (Ne.symm a1)] at s1
      exact h.own j d' m e1 s1
/-- the cell of slot i is changed -/
theorem Rel.write {K : PySem.W.Frag} {mg : MG} {G0 H0 G H : Hp} {env : List C} {σ : L2.St} {i : Nat} {l : Addr} {d e : D} {o : HO} (h : Rel K mg G0 H0 G H env σ) (hi : env[i]? = some (.ow d)) (hl : σ[i]? = some (some (.ref l))) (n : G l = none)
    (t : Top K mg (upd H l o) G l e) : Rel K mg G0 H0 G (upd H l o) (env.set i (.ow e)) σ := by
  have n0 := h.own i d l hi hl
  have sm : Same G (upd H l o) := fun b u q => by
    have : b ≠ l := fun z => by subst z; rw [n] at q; cases q
    rw [upd_ne this]; exact h.ok.same _ _ q
  have low : ∀ {j : Nat} {f : D}, (env.set i (.ow e))[j]? = some (.ow f) → ∃ f', env[j]? = some (.ow f') := fun {j f} q => by
    rw [List.getElem?_set] at q
    split at q
    · rename_i hij; subst hij; exact ⟨d, hi⟩
    · exact ⟨f, q⟩
  refine ⟨⟨sm, fun j c q => ?_, fun j k d' e' m q1 q2 s1 s2 => ?_, by simp [h.ok.len]⟩, ⟨h.ext.g, fun b u q => ?_, sm, h.ext.f⟩, fun j d' m q s1 => ?_⟩
  · rw [List.getElem?_set] at q
    split at q
    · rename_i hij
      subst hij
      split at q
      · cases q; exact ⟨l, hl, t, n⟩
      · cases q
    · rename_i hij
      have s := h.ok.slot j c q
      cases c with
      | un => trivial
      | fz d' => exact s
      | ow d' =>
        obtain ⟨m, e1, t1, n1⟩ := s
        have ne : m ≠ l := fun z => by subst z; exact hij (h.ok.apart i j d d' m hi q hl e1)
        refine ⟨m, e1, ?_, n1⟩
        cases t1 with
        | lst a r => exact .lst (by rw [upd_ne ne]; exact a) r
        | dk a r => exact .dk (by rw [upd_ne ne]; exact a) r
        | dt a r => exact .dt (by rw [upd_ne ne]; exact a) r
        | slf a cm r => exact .slf (by rw [upd_ne ne]; exact a) cm r
  · obtain ⟨f1, z1⟩ := low q1
    obtain ⟨f2, z2⟩ := low q2
    exact h.ok.apart j k f1 f2 m z1 z2 s1 s2
  · have : b ≠ l := fun z => by subst z; rw [n0] at q; cases q
    rw [upd_ne this]; exact h.ext.h _ _ q
  · obtain ⟨f1, z1⟩ := low q
    exact h.own j f1 m z1 s1
/-- slot i's cell is frozen -/
def frz (i : Nat) (env : List C) : List C := match env[i]? with
  | some (.ow d) => env.set i (.fz d)
  | _ => env
theorem Rel.freeze {K : PySem.W.Frag} {mg : MG} {G0 H0 G H : Hp} {env : List C} {σ : L2.St} (i : Nat) (h : Rel K mg G0 H0 G H env σ) : ∃ G', Rel K mg G0 H0 G' H (frz i env) σ ∧ Same G G' := by
  unfold frz
  split
  · rename_i d hd
    obtain ⟨l, hl, t, n⟩ := h.ok.slot i _ hd
    obtain ⟨o, ho, r, s1, s2⟩ := t.freeze h.ok.same n
    have n0 := h.own i d l hd hl
    have fre : ∀ a, G a = none → a ≠ l → upd G l o a = none := fun a e ne => by rw [upd_ne ne]; exact e
    have low : ∀ {j : Nat} {e : D}, (env.set i (.fz d))[j]? = some (.ow e) → j ≠ i ∧ env[j]? = some (.ow e) := fun {j e} q => by
      rw [List.getElem?_set] at q
      split at q
      · split at q <;> cases q
      · rename_i hij; exact ⟨Ne.symm hij, q⟩
    refine ⟨upd G l o, ⟨⟨s2, fun j c q => ?_, fun j k d' e' m q1 q2 z1 z2 => h.ok.apart j k d' e' m (low q1).2 (low q2).2 z1 z2, by simp [h.ok.len]⟩, ⟨h.ext.g.trans s1, h.ext.h, s2, fun a e ne => ?_⟩, fun j d' m q z => h.own j d' m (low q).2 z⟩, s1⟩
    · rw [List.getElem?_set] at q
      split at q
      · rename_i hij
        subst hij
        split at q
        · cases q; exact ⟨_, hl, r⟩
        · cases q
      · rename_i hij
        have s := h.ok.slot j c q
        cases c with
        | un => trivial
        | fz d' => obtain ⟨v, a, b⟩ := s; exact ⟨v, a, b.mono s1⟩
        | ow d' =>
          obtain ⟨m, e1, t1, n1⟩ := s
          have ne : m ≠ l := fun z => by subst z; exact hij (h.ok.apart i j d d' m hd q hl e1)
          exact ⟨m, e1, t1.mono (Same.refl _) s1, fre m n1 ne⟩
    · by_cases hal : a = l
      · subst hal; exact n0
      · rw [upd_ne hal] at ne; exact h.ext.f a e ne
  · exact ⟨G, h, Same.refl _⟩
/-- slot i is forgotten -/
theorem Rel.forget {K : PySem.W.Frag} {mg : MG} {G0 H0 G H : Hp} {env : List C} {σ : L2.St} (i : Nat) (h : Rel K mg G0 H0 G H env σ) : Rel K mg G0 H0 G H (env.set i .un) σ := by
  have low : ∀ {j : Nat} {e : D}, (env.set i .un)[j]? = some (.ow e) → env[j]? = some (.ow e) := fun {j e} q => by
    rw [List.getElem?_set] at q
    split at q
    · split at q <;> cases q
    · exact q
  refine ⟨⟨h.ok.same, fun j c q => ?_, fun j k d' e' m q1 q2 z1 z2 => h.ok.apart j k d' e' m (low q1) (low q2) z1 z2, by simp [h.ok.len]⟩, h.ext, fun j d' m q z => h.own j d' m (low q) z⟩
  rw [List.getElem?_set] at q
  split at q
  · split at q
    · cases q; trivial
    · cases q
  · exact h.ok.slot j c q
end PL
end

section
set_option linter.all false
set_option maxRecDepth 100000
set_option maxHeartbeats 4000000
set_option autoImplicit false
/-! PL2: judgements over plain data, and expressions. -/
namespace PL
open PySem PySem.Spec PyProof.Rows L2

abbrev PTE := List C → (D → Prop) → Prop
abbrev PTT := List C → (Bool → Prop) → Prop
abbrev PTA := List C → (List D → Prop) → Prop

/-- an expression, its value frozen -/
structure PuE (X : Cx) (e : Expr) (p : PTE) : Prop where
  ex : ∃ t : TE, PE X e t ∧ ∀ (G H : Hp) (env : List C) (σ : L2.St) (P : D → Prop) (Q : VK), Ok X.K X.mg G H env σ → p env P →
    (∀ d v G' H', Ext G H G' H' → Rep X.K X.mg G' v d → P d → Q v H') → t σ H Q
/-- .. its value read at its top -/
structure PuO (X : Cx) (e : Expr) (p : PTE) : Prop where
  ex : ∃ t : TE, PE X e t ∧ ∀ (G H : Hp) (env : List C) (σ : L2.St) (P : D → Prop) (Q : VK), Ok X.K X.mg G H env σ → p env P →
    (∀ d v G' H', Ext G H G' H' → Shal X.K X.mg H' G' v d → P d → Q v H') → t σ H Q
/-- .. its value a new cell -/
structure PuF (X : Cx) (e : Expr) (p : PTE) : Prop where
  ex : ∃ t : TE, PE X e t ∧ ∀ (G H : Hp) (env : List C) (σ : L2.St) (P : D → Prop) (Q : VK), Ok X.K X.mg G H env σ → p env P →
    (∀ d l G' H', Ext G H G' H' → Top X.K X.mg H' G' l d → G' l = none → H l = none → P d → Q (.ref l) H') → t σ H Q
structure PuT (X : Cx) (e : Expr) (p : PTT) : Prop where
  ex : ∃ t : TT, PT X e t ∧ ∀ (G H : Hp) (env : List C) (σ : L2.St) (P : Bool → Prop) (Q : Bool → Hp → Prop), Ok X.K X.mg G H env σ → p env P →
    (∀ b G' H', Ext G H G' H' → P b → Q b H') → t σ H Q
structure PuW (X : Cx) (e : Expr) (p : PTT) : Prop where
  ex : ∃ t : TT, PW X e t ∧ ∀ (G H : Hp) (env : List C) (σ : L2.St) (P : Bool → Prop) (Q : Bool → Hp → Prop), Ok X.K X.mg G H env σ → p env P →
    (∀ b G' H', Ext G H G' H' → P b → Q b H') → t σ H Q
structure PuA (X : Cx) (es : List Expr) (p : PTA) : Prop where
  ex : ∃ t : TA, PA X es t ∧ ∀ (G H : Hp) (env : List C) (σ : L2.St) (P : List D → Prop) (Q : List V → Hp → Prop), Ok X.K X.mg G H env σ → p env P →
    (∀ ds vs G' H', Ext G H G' H' → Reps X.K X.mg G' vs ds → P ds → Q vs H') → t σ H Q
inductive Shals (K : PySem.W.Frag) (mg : MG) (H G : Hp) : List V → List D → Prop
  | nil : Shals K mg H G [] []
  | cons {v : V} {vs : List V} {d : D} {ds : List D} : Shal K mg H G v d → Shals K mg H G vs ds → Shals K mg H G (v :: vs) (d :: ds)
structure PuAO (X : Cx) (es : List Expr) (p : PTA) : Prop where
  ex : ∃ t : TA, PA X es t ∧ ∀ (G H : Hp) (env : List C) (σ : L2.St) (P : List D → Prop) (Q : List V → Hp → Prop), Ok X.K X.mg G H env σ → p env P →
    (∀ ds vs G' H', Ext G H G' H' → Shals X.K X.mg H' G' vs ds → P ds → Q vs H') → t σ H Q

section
variable {X : Cx} {e a b : Expr} {es : List Expr} {p pa pb : PTE} {pt pu : PTT} {ps : PTA} {pos : Pos}

theorem PuE.o (h : PuE X e p) : PuO X e p := by
  obtain ⟨t, h1, h2⟩ := h.ex
  exact ⟨t, h1, fun G H env σ P Q ok hp k => h2 G H env σ P Q ok hp fun d v G' H' x r q => k d v G' H' x (.inl r) q⟩
theorem PuF.toE (h : PuF X e p) : PuE X e p := by
  obtain ⟨t, h1, h2⟩ := h.ex
  refine ⟨t, h1, fun G H env σ P Q ok hp k => h2 G H env σ P Q ok hp fun d l G' H' x r n nH q => ?_⟩
  obtain ⟨o, ho, r', s1, s2⟩ := r.freeze x.s n
  refine k d _ (upd G' l o) H' ⟨x.g.trans s1, x.h, s2, fun a e1 ne => ?_⟩ r' q
  by_cases hal : a = l
  · subst hal; exact nH
  · rw [upd_ne hal] at ne; exact x.f a e1 ne
theorem PuF.o (h : PuF X e p) : PuO X e p := h.toE.o

/-! ### names, constants -/
def pC (d : D) : PTE := fun _ P => P d
def pN (i : Nat) : PTE := fun env P => match env[i]? with
  | some (.fz d) => P d
  | _ => False
def pNo (i : Nat) : PTE := fun env P => match env[i]? with
  | some (.fz d) => P d
  | some (.ow d) => P d
  | _ => False
theorem pu_of {t : TE} (h : PE X e t) {d : D} {v : V} (r : ∀ G, Rep X.K X.mg G v d) (ht : ∀ σ H Q, Q v H → t σ H Q) : PuE X e (pC d) :=
  ⟨t, h, fun G H env σ P Q ok hp k => ht _ _ _ (k d v G H (.refl ok.same) (r G) hp)⟩
theorem pu_int {i : Int} {j : Nat} : PuE X (.Constant (.int i) j pos) (pC (.int i)) := pu_of pe_int (fun _ => .int i) fun _ _ _ h => h
theorem pu_bl {i : Bool} {j : Nat} : PuE X (.Constant (.bool i) j pos) (pC (.bl i)) := pu_of pe_bl (fun _ => .bl i) fun _ _ _ h => h
theorem pu_non {j : Nat} : PuE X (.Constant .none j pos) (pC .non) := pu_of pe_non (fun _ => .non) fun _ _ _ h => h
theorem pu_str {i : Str} {j : Nat} : PuE X (.Constant (.str i) j pos) (pC (.str i)) := pu_of pe_str (fun _ => .str i) fun _ _ _ h => h
theorem pu_name (i : Nat) {x : Str} (hN : X.N[i]? = some x := by rfl) (hv : Vis X.env.scope x := by first | exact Or.inl rfl | exact Or.inr (Or.inl rfl) | exact Or.inr (Or.inr rfl)) (hd : (x == ("__debug__" : Str)) = false := by decide)
    (hcd : (x == ("__classdict__" : Str)) = false := by decide) : PuE X (.Name x pos) (pN i) := by
  refine ⟨tVar i, pe_var hN hv hd hcd, fun G H env σ P Q ok hp k => ?_⟩
  unfold pN at hp
  split at hp
  · rename_i d hd
    obtain ⟨v, e, r⟩ := ok.slot i _ hd
    exact ⟨v, e, k d v G H (.refl ok.same) r hp⟩
  · exact hp.elim
theorem pu_nameO (i : Nat) {x : Str} (hN : X.N[i]? = some x := by rfl) (hv : Vis X.env.scope x := by first | exact Or.inl rfl | exact Or.inr (Or.inl rfl) | exact Or.inr (Or.inr rfl)) (hd : (x == ("__debug__" : Str)) = false := by decide)
    (hcd : (x == ("__classdict__" : Str)) = false := by decide) : PuO X (.Name x pos) (pNo i) := by
  refine ⟨tVar i, pe_var hN hv hd hcd, fun G H env σ P Q ok hp k => ?_⟩
  unfold pNo at hp
  split at hp
  · rename_i d hd
    obtain ⟨v, e, r⟩ := ok.slot i _ hd
    exact ⟨v, e, k d v G H (.refl ok.same) (.inl r) hp⟩
  · rename_i d hd
    obtain ⟨l, e, r, n⟩ := ok.slot i _ hd
    exact ⟨.ref l, e, k d _ G H (.refl ok.same) (.inr ⟨l, rfl, r⟩) hp⟩
  · exact hp.elim
/-- a module's constant -/
theorem pu_glob {x : Str} {v : V} {d : D} {u : Value} (hm : X.mg x = some u) (r : RelV v u) (rd : ∀ G, Rep X.K X.mg G v d) (hg : Gl X x := by rfl) (hd : (x == ("__debug__" : Str)) = false := by decide) : PuE X (.Name x pos) (pC d) :=
  pu_of (pe_glob hg hm r hd) rd fun _ _ _ h => h

/-! ### two-place operations -/
abbrev BinP := D → D → (D → Prop) → Prop
/-- f over data is carried by r over values -/
def BinOk (X : Cx) (r : R2) (f : BinP) : Prop := ∀ (G H : Hp) (v w : V) (x y : D) (P : D → Prop) (Q : VK), Same G H → Shal X.K X.mg H G v x → Shal X.K X.mg H G w y → f x y P →
  (∀ d u G' H', Ext G H G' H' → Rep X.K X.mg G' u d → P d → Q u H') → r v w H Q
def pBin (f : BinP) (pa pb : PTE) : PTE := fun env P => pa env fun x => pb env fun y => f x y P
theorem bin_t {ta tb : TE} {r : R2} {f : BinP} (hf : BinOk X r f) {G H : Hp} {env : List C} {σ : L2.St} {P : D → Prop} {Q : VK} (ok : Ok X.K X.mg G H env σ)
    (ha : ∀ (G H : Hp) (env : List C) (σ : L2.St) (P : D → Prop) (Q : VK), Ok X.K X.mg G H env σ → pa env P → (∀ d v G' H', Ext G H G' H' → Shal X.K X.mg H' G' v d → P d → Q v H') → ta σ H Q)
    (hb : ∀ (G H : Hp) (env : List C) (σ : L2.St) (P : D → Prop) (Q : VK), Ok X.K X.mg G H env σ → pb env P → (∀ d v G' H', Ext G H G' H' → Shal X.K X.mg H' G' v d → P d → Q v H') → tb σ H Q)
    (hp : pBin f pa pb env P) (k : ∀ d v G' H', Ext G H G' H' → Rep X.K X.mg G' v d → P d → Q v H') : tOp r ta tb σ H Q := by
  refine ha G H env σ _ _ ok hp fun x v G1 H1 e1 r1 q1 => ?_
  refine hb G1 H1 env σ _ _ (ok.ext e1) q1 fun y w G2 H2 e2 r2 q2 => ?_
  exact hf G2 H2 v w x y P Q e2.s (r1.mono e2.h e2.g) r2 q2 fun d u G3 H3 e3 r3 q3 => k d u G3 H3 ((e1.trans e2).trans e3) r3 q3
theorem pu_bin {op : Operator} {r : R2} {f : BinP} (ho : OpR X (binaryOp op) r) (hf : BinOk X r f) (ha : PuO X a pa) (hb : PuO X b pb) : PuE X (.BinOp a op b pos) (pBin f pa pb) := by
  obtain ⟨ta, a1, a2⟩ := ha.ex
  obtain ⟨tb, b1, b2⟩ := hb.ex
  exact ⟨tOp r ta tb, pe_op ho a1 b1, fun G H env σ P Q ok hp k => bin_t hf ok a2 b2 hp k⟩
theorem pu_cmp {op : CmpOp} {r : R2} {f : BinP} (ho : OpR X (compareOp op) r) (hf : BinOk X r f) (ha : PuO X a pa) (hb : PuO X b pb) (hm : behindInMarks op b = false) : PuE X (.Compare a [op] [b] pos) (pBin f pa pb) := by
  obtain ⟨ta, a1, a2⟩ := ha.ex
  obtain ⟨tb, b1, b2⟩ := hb.ex
  exact ⟨tOp r ta tb, pe_cmpR ho a1 b1 hm, fun G H env σ P Q ok hp k => bin_t hf ok a2 b2 hp k⟩
/-- a value that must be a bool -/
def asB (P : Bool → Prop) : D → Prop := fun d => match d with
  | .bl b => P b
  | _ => False
def pB (p : PTE) : PTT := fun env P => p env (asB P)
theorem asB_rep {G : Hp} {v : V} {d : D} {P : Bool → Prop} (r : Rep X.K X.mg G v d) (h : asB P d) : ∃ b, v = .bl b ∧ P b := by
  unfold asB at h
  split at h
  · cases r; exact ⟨_, rfl, h⟩
  · exact h.elim
theorem put_cmp {op : CmpOp} {r : R2} {f : BinP} (ho : OpR X (compareOp op) r) (hf : BinOk X r f) (ha : PuO X a pa) (hb : PuO X b pb) (hm : behindInMarks op b = false) : PuT X (.Compare a [op] [b] pos) (pB (pBin f pa pb)) := by
  obtain ⟨ta, a1, a2⟩ := ha.ex
  obtain ⟨tb, b1, b2⟩ := hb.ex
  refine ⟨tTest (tOp r ta tb), pt_cmpR ho a1 b1 hm, fun G H env σ P Q ok hp k => bin_t hf ok a2 b2 hp fun d v G' H' x r q => ?_⟩
  obtain ⟨b, e, z⟩ := asB_rep r q
  exact ⟨b, e, k b G' H' x z⟩
/-- an expression whose value is a bool, as a test -/
theorem put_val (h : PuE X e p) (he : ∀ whole, isTrue e X.env whole = (do let v ← whole; standAt e.pos; holding [v] (truthy v)) := by intro _; rfl) : PuT X e (pB p) := by
  obtain ⟨t, h1, h2⟩ := h.ex
  refine ⟨_, pt_val h1 he, fun G H env σ P Q ok hp k => h2 G H env σ _ _ ok hp fun d v G' H' x r q => ?_⟩
  obtain ⟨b, e, z⟩ := asB_rep r q
  exact ⟨b, e, k b G' H' x z⟩

/-! ### and, or, not -/
def pAnd (p q : PTT) : PTT := fun env P => p env fun b => if b = true then q env P else P false
def pOr (p q : PTT) : PTT := fun env P => p env fun b => if b = true then P true else q env P
def pNot (p : PTT) : PTT := fun env P => p env fun b => P (!b)
theorem puw_and1 (h : PuT X a pt) : PuW X (.BoolOp .And [a] pos) pt := by
  obtain ⟨t, h1, h2⟩ := h.ex
  exact ⟨t, pw_and1 h1, h2⟩
theorem puw_or1 (h : PuT X a pt) : PuW X (.BoolOp .Or [a] pos) pt := by
  obtain ⟨t, h1, h2⟩ := h.ex
  exact ⟨t, pw_or1 h1, h2⟩
theorem puw_and {rest : List Expr} (h : PuT X a pt) (g : PuW X (.BoolOp .And (b :: rest) pos) pu) : PuW X (.BoolOp .And (a :: b :: rest) pos) (pAnd pt pu) := by
  obtain ⟨t, h1, h2⟩ := h.ex
  obtain ⟨u, g1, g2⟩ := g.ex
  refine ⟨_, pw_and h1 g1, fun G H env σ P Q ok hp k => h2 G H env σ _ _ ok hp fun c G' H' x q => ?_⟩
  cases c with
  | true => exact g2 G' H' env σ P Q (ok.ext x) q fun b G2 H2 y z => k b G2 H2 (x.trans y) z
  | false => exact k false G' H' x q
theorem puw_or {rest : List Expr} (h : PuT X a pt) (g : PuW X (.BoolOp .Or (b :: rest) pos) pu) : PuW X (.BoolOp .Or (a :: b :: rest) pos) (pOr pt pu) := by
  obtain ⟨t, h1, h2⟩ := h.ex
  obtain ⟨u, g1, g2⟩ := g.ex
  refine ⟨_, pw_or h1 g1, fun G H env σ P Q ok hp k => h2 G H env σ _ _ ok hp fun c G' H' x q => ?_⟩
  cases c with
  | false => exact g2 G' H' env σ P Q (ok.ext x) q fun b G2 H2 y z => k b G2 H2 (x.trans y) z
  | true => exact k true G' H' x q
theorem PuW.t (h : PuW X e pt) : PuT X e pt := by
  obtain ⟨t, h1, h2⟩ := h.ex
  exact ⟨t, h1.pt, h2⟩
theorem put_not (h : PuT X a pt) : PuT X (.UnaryOp .Not a pos) (pNot pt) := by
  obtain ⟨t, h1, h2⟩ := h.ex
  exact ⟨_, pt_not h1, fun G H env σ P Q ok hp k => h2 G H env σ _ _ ok hp fun c G' H' x q => k (!c) G' H' x q⟩
/-- .. as values -/
def pAndV (p q : PTE) : PTE := fun env P => p env (asB fun b => if b = true then q env P else P (.bl false))
def pOrV (p q : PTE) : PTE := fun env P => p env (asB fun b => if b = true then P (.bl true) else q env P)
def pNotV (p : PTE) : PTE := fun env P => p env (asB fun b => P (.bl (!b)))
theorem pu_one {op : BoolOp} (h : PuE X a p) : PuE X (.BoolOp op [a] pos) p := by
  obtain ⟨t, h1, h2⟩ := h.ex
  exact ⟨t, pe_one h1, h2⟩
theorem pu_and {rest : List Expr} (h : PuE X a pa) (g : PuE X (.BoolOp .And (b :: rest) pos) pb) : PuE X (.BoolOp .And (a :: b :: rest) pos) (pAndV pa pb) := by
  obtain ⟨t, h1, h2⟩ := h.ex
  obtain ⟨u, g1, g2⟩ := g.ex
  refine ⟨_, pe_and h1 g1, fun G H env σ P Q ok hp k => h2 G H env σ _ _ ok hp fun d v G' H' x r q => ?_⟩
  obtain ⟨c, e, z⟩ := asB_rep r q
  refine ⟨c, e, ?_⟩
  cases c with
  | true => exact g2 G' H' env σ P Q (ok.ext x) z fun d v G2 H2 y r2 z2 => k d v G2 H2 (x.trans y) r2 z2
  | false => exact k _ _ G' H' x (.bl false) z
theorem pu_or {rest : List Expr} (h : PuE X a pa) (g : PuE X (.BoolOp .Or (b :: rest) pos) pb) : PuE X (.BoolOp .Or (a :: b :: rest) pos) (pOrV pa pb) := by
  obtain ⟨t, h1, h2⟩ := h.ex
  obtain ⟨u, g1, g2⟩ := g.ex
  refine ⟨_, pe_or h1 g1, fun G H env σ P Q ok hp k => h2 G H env σ _ _ ok hp fun d v G' H' x r q => ?_⟩
  obtain ⟨c, e, z⟩ := asB_rep r q
  refine ⟨c, e, ?_⟩
  cases c with
  | false => exact g2 G' H' env σ P Q (ok.ext x) z fun d v G2 H2 y r2 z2 => k d v G2 H2 (x.trans y) r2 z2
  | true => exact k _ _ G' H' x (.bl true) z
theorem pu_not (h : PuE X a pa) : PuE X (.UnaryOp .Not a pos) (pNotV pa) := by
  obtain ⟨t, h1, h2⟩ := h.ex
  refine ⟨_, pe_not h1, fun G H env σ P Q ok hp k => h2 G H env σ _ _ ok hp fun d v G' H' x r q => ?_⟩
  obtain ⟨c, e, z⟩ := asB_rep r q
  exact ⟨c, e, k _ _ G' H' x (.bl _) z⟩
def pIf (p : PTT) (pa pb : PTE) : PTE := fun env P => p env fun b => if b = true then pa env P else pb env P
theorem pu_ifExp {c : Expr} (h : PuT X c pt) (ha : PuE X a pa) (hb : PuE X b pb) : PuE X (.IfExp c a b pos) (pIf pt pa pb) := by
  obtain ⟨t, h1, h2⟩ := h.ex
  obtain ⟨ta, a1, a2⟩ := ha.ex
  obtain ⟨tb, b1, b2⟩ := hb.ex
  refine ⟨_, pe_ifExp h1 a1 b1, fun G H env σ P Q ok hp k => h2 G H env σ _ _ ok hp fun c G' H' x q => ?_⟩
  cases c with
  | true => exact a2 G' H' env σ P Q (ok.ext x) q fun d v G2 H2 y r z => k d v G2 H2 (x.trans y) r z
  | false => exact b2 G' H' env σ P Q (ok.ext x) q fun d v G2 H2 y r z => k d v G2 H2 (x.trans y) r z

/-! ### the operations on data -/
def addP : BinP := fun x y P => match x, y with
  | .int i, .int j => P (.int (i + j))
  | .str i, .str j => i.length + j.length ≤ sizeLine ∧ P (.str (i ++ j))
  | .tup xs, .tup ys => xs ≠ [] ∧ xs.length + ys.length ≤ sizeLine ∧ P (.tup (xs ++ ys))
  | .lst xs, .lst ys => xs.length + ys.length ≤ sizeLine ∧ P (.lst (xs ++ ys))
  | _, _ => False
def rAddAll (K : PySem.W.Frag) : R2 := fun x y H Q => (∃ i j, x = .int i ∧ y = .int j ∧ Q (.int (i + j)) H) ∨ (∃ i j, x = .str i ∧ y = .str j ∧ i.length + j.length ≤ sizeLine ∧ Q (.str (i ++ j)) H) ∨ rCatT K x y H Q ∨ rCat x y H Q
theorem op_addAll : OpR X (binaryOp .Add) (rAddAll X.K) := OpR.or op_add (OpR.or op_add_str (OpR.or op_catT op_cat))
theorem addP_ok : BinOk X (rAddAll X.K) addP := by
  intro G H v w x y P Q s r1 r2 h k
  unfold addP at h
  split at h
  · cases r1.int; cases r2.int
    exact .inl ⟨_, _, rfl, rfl, k _ _ G H (.refl s) (.int _) h⟩
  · cases r1.str; cases r2.str
    exact .inr (.inl ⟨_, _, rfl, rfl, h.1, k _ _ G H (.refl s) (.str _) h.2⟩)
  · rename_i xs ys
    obtain ⟨l, vs, rfl, t1, q1⟩ := r1.tup s
    obtain ⟨m, ws, rfl, t2, q2⟩ := r2.tup s
    refine .inr (.inr (.inl ⟨_, _, vs, ws, rfl, rfl, SqT.of t1, SqT.of t2, fun z => ?_, ?_, fun z => ?_, fun z p hp => ?_⟩))
    · subst z; cases q1; exact h.1 rfl
    · rw [q1.length, q2.length]; exact h.2.1
    · subst z
      cases q2
      have hh := h.2.2
      rw [List.append_nil] at hh
      refine k _ _ G H (.refl s) ?_ hh
      rcases r1 with r1 | ⟨_, _, t⟩
      · exact r1
      · cases t
    · refine k _ _ _ _ (Ext.new s hp) (.tup upd_same ?_) h.2.2
      exact (q1.append q2).mono (Same.upd (s.free hp))
  · rename_i xs ys
    obtain ⟨l, vs, rfl, t1, q1⟩ := r1.lst s
    obtain ⟨m, ws, rfl, t2, q2⟩ := r2.lst s
    refine .inr (.inr (.inr ⟨_, _, vs, ws, rfl, rfl, t1, t2, ?_, fun p hp => ?_⟩))
    · rw [q1.length, q2.length]; exact h.1
    · refine k _ _ _ _ (Ext.new s hp) (.lst upd_same ?_) h.2
      exact (q1.append q2).mono (Same.upd (s.free hp))
  · exact h.elim
theorem pu_add (ha : PuO X a pa) (hb : PuO X b pb) : PuE X (.BinOp a .Add b pos) (pBin addP pa pb) := pu_bin op_addAll addP_ok ha hb

/-- ints in, under C, a value of data out -/
theorem binI {r : R2} {f : BinP} {Cd : Int → Int → Prop} {g : Int → Int → D} {gv : Int → Int → V} (hg : ∀ i j G, Rep X.K X.mg G (gv i j) (g i j)) (hr : r = rI Cd gv)
    (hf : ∀ x y P, f x y P → ∃ i j, x = .int i ∧ y = .int j ∧ Cd i j ∧ P (g i j)) : BinOk X r f := by
  subst hr
  intro G H v w x y P Q s r1 r2 h k
  obtain ⟨i, j, rfl, rfl, c, q⟩ := hf x y P h
  cases r1.int; cases r2.int
  exact ⟨i, j, rfl, rfl, c, k _ _ G H (.refl s) (hg i j G) q⟩
theorem binI0 {r : R2} {f : BinP} {g : Int → Int → D} {gv : Int → Int → V} (hg : ∀ i j G, Rep X.K X.mg G (gv i j) (g i j)) (hr : r = rI0 gv)
    (hf : ∀ x y P, f x y P → ∃ i j, x = .int i ∧ y = .int j ∧ P (g i j)) : BinOk X r f := by
  subst hr
  intro G H v w x y P Q s r1 r2 h k
  obtain ⟨i, j, rfl, rfl, q⟩ := hf x y P h
  cases r1.int; cases r2.int
  exact ⟨i, j, rfl, rfl, k _ _ G H (.refl s) (hg i j G) q⟩
def subP : BinP := fun x y P => match x, y with
  | .int i, .int j => P (.int (i - j))
  | _, _ => False
theorem pu_sub (ha : PuO X a pa) (hb : PuO X b pb) : PuE X (.BinOp a .Sub b pos) (pBin subP pa pb) :=
  pu_bin op_sub (binI0 (g := fun i j => .int (i - j)) (fun _ _ _ => .int _) rfl fun x y P h => by
    unfold subP at h; split at h
    · exact ⟨_, _, rfl, rfl, h⟩
    · exact h.elim) ha hb
/-- a text, so often -/
def repS (x : Str) (n : Nat) : Str := ⟨(List.replicate n x.cps).foldl (· ++ ·) #[]⟩
theorem repS_acc (x : Str) : ∀ (n : Nat) (a : Array Nat), ((List.replicate n x.cps).foldl (· ++ ·) a).toList = a.toList ++ (List.replicate n x.cps.toList).flatten
  | 0, a => by simp
  | n + 1, a => by
    rw [List.replicate_succ, List.foldl_cons, repS_acc x n, List.replicate_succ, List.flatten_cons, Array.toList_append, List.append_assoc]
theorem repS_tl (x : Str) (n : Nat) : (repS x n).cps.toList = (List.replicate n x.cps.toList).flatten := by
  show ((List.replicate n x.cps).foldl (· ++ ·) #[]).toList = _
  rw [repS_acc]; rfl
theorem repS_len (x : Str) (n : Nat) : (repS x n).length = x.length * n := by
  show (repS x n).cps.size = x.cps.size * n
  rw [← Array.length_toList, repS_tl]
  induction n with
  | zero => rfl
  | succ n ih => rw [List.replicate_succ, List.flatten_cons, List.length_append, ih, Nat.mul_succ, Array.length_toList]; omega
theorem repS_1 (x : Str) : repS x 1 = x := TL.ext_tl (by show (repS x 1).cps.toList = x.cps.toList; rw [repS_tl]; simp)
theorem repS_nil (x : Str) (n : Nat) (h : x.length = 0) : repS x n = x := by
  refine TL.ext_tl ?_
  have h1 : (repS x n).cps.toList.length = 0 := by
    have := repS_len x n
    rw [h, Nat.zero_mul] at this
    rw [Array.length_toList]; exact this
  have h2 : x.cps.toList.length = 0 := by rw [Array.length_toList]; exact h
  show (repS x n).cps.toList = x.cps.toList
  rw [List.length_eq_zero_iff.mp h1, List.length_eq_zero_iff.mp h2]
def rMulS : R2 := fun x y H Q => ∃ z k, x = .str z ∧ y = .int k ∧ -(2 ^ 63) ≤ k ∧ k < 2 ^ 63 ∧ z.length * k.toNat ≤ sizeLine ∧ Q (.str (repS z k.toNat)) H
theorem op_mulS : OpR X (binaryOp .Mult) rMulS := by
  intro pins s σ H x y v u Q I rx ry h
  obtain ⟨z, k, rfl, rfl, h1, h2, hz, q⟩ := h
  obtain ⟨t, rfl⟩ := rx
  obtain ⟨t', rfl⟩ := ry
  have hs : sizeLine = 16777216 := PySem.sizeLine_eq
  refine PySem.P.mul_str (by rw [decide_eq_false (by omega), decide_eq_false (by omega)]; rfl) (fun a b c => ?_) (fun a b => ?_) ?_
  · have hk : 0 < k := by omega
    have e : ((z.length * k.toNat : Nat) : Int) = z.length * k := by rw [Int.natCast_mul, Int.toNat_of_nonneg (by omega)]
    have d := Int.mul_ediv_add_emod (2 ^ 63 - 1) k
    have m := Int.emod_lt_of_pos (2 ^ 63 - 1) hk
    have f : ((2 ^ 63 - 1) / k + 1) * k ≤ z.length * k := Int.mul_le_mul_of_nonneg_right (by omega) (by omega)
    rw [Int.add_mul, Int.mul_comm ((2 ^ 63 - 1) / k) k] at f
    omega
  · exact decide_eq_false (by omega)
  · by_cases a : k < 1
    · rw [if_pos a]
      have e : k.toNat = 0 := by omega
      rw [e] at q
      exact ⟨by decide, .str _, H, I.tok _, ⟨_, rfl⟩, q⟩
    · rw [if_neg a]
      by_cases b : (k == 1 || z.length == 0) = true
      · rw [if_pos b]
        have e : repS z k.toNat = z := by
          rw [Bool.or_eq_true] at b
          rcases b with b | b
          · rw [show k = 1 by simpa using b]; exact repS_1 z
          · exact repS_nil z _ (by simpa using b)
        rw [e] at q
        exact ⟨.str _, H, I, ⟨_, rfl⟩, q⟩
      · rw [if_neg b]
        refine ⟨?_, .str _, H, I.tok _, ⟨_, rfl⟩, q⟩
        show (repS z k.toNat).length ≤ _
        rw [repS_len]
        exact hz
def mulP : BinP := fun x y P => match x, y with
  | .int i, .int j => CMulX i j ∧ P (.int (i * j))
  | .lst xs, .int k => -(2 ^ 63) ≤ k ∧ k < 2 ^ 63 ∧ xs.length * k.toNat ≤ sizeLine ∧ P (.lst (List.replicate k.toNat xs).flatten)
  | .str z, .int k => -(2 ^ 63) ≤ k ∧ k < 2 ^ 63 ∧ z.length * k.toNat ≤ sizeLine ∧ P (.str (repS z k.toNat))
  | _, _ => False
theorem Reps.rep {K : PySem.W.Frag} {mg : MG} {G : Hp} {vs : List V} {ds : List D} (h : Reps K mg G vs ds) : ∀ k : Nat, Reps K mg G (List.replicate k vs).flatten (List.replicate k ds).flatten
  | 0 => .nil
  | k + 1 => by
    simp only [List.replicate_succ, List.flatten_cons]
    exact h.append (Reps.rep h k)
def rMulAll : R2 := fun x y H Q => rI CMulX (fun i j => .int (i * j)) x y H Q ∨ rRep x y H Q ∨ rMulS x y H Q
theorem op_mulAll : OpR X (binaryOp .Mult) rMulAll := OpR.or op_mulX (OpR.or op_rep op_mulS)
theorem mulP_ok : BinOk X rMulAll mulP := by
  intro G H v w x y P Q s r1 r2 h k
  unfold mulP at h
  split at h
  · cases r1.int; cases r2.int
    exact .inl ⟨_, _, rfl, rfl, h.1, k _ _ G H (.refl s) (.int _) h.2⟩
  · cases r2.int
    obtain ⟨l, vs, rfl, t1, q1⟩ := r1.lst s
    refine .inr (.inl ⟨_, _, vs, rfl, rfl, t1, h.1, h.2.1, by rw [q1.length]; exact h.2.2.1, fun p hp => ?_⟩)
    exact k _ _ _ _ (Ext.new s hp) (.lst upd_same ((q1.rep _).mono (Same.upd (s.free hp)))) h.2.2.2
  · cases r1.str; cases r2.int
    exact .inr (.inr ⟨_, _, rfl, rfl, h.1, h.2.1, h.2.2.1, k _ _ G H (.refl s) (.str _) h.2.2.2⟩)
  · exact h.elim
theorem pu_mul (ha : PuO X a pa) (hb : PuO X b pb) : PuE X (.BinOp a .Mult b pos) (pBin mulP pa pb) := pu_bin op_mulAll mulP_ok ha hb
def fdivP : BinP := fun x y P => match x, y with
  | .int i, .int j => CDivW i j ∧ P (.int (i / j))
  | _, _ => False
theorem pu_fdiv (ha : PuO X a pa) (hb : PuO X b pb) : PuE X (.BinOp a .FloorDiv b pos) (pBin fdivP pa pb) :=
  pu_bin op_fdivW (binI (g := fun i j => .int (i / j)) (fun _ _ _ => .int _) rfl fun x y P h => by
    unfold fdivP at h; split at h
    · exact ⟨_, _, rfl, rfl, h.1, h.2⟩
    · exact h.elim) ha hb
def modP : BinP := fun x y P => match x, y with
  | .int i, .int j => 0 < j ∧ P (.int (i % j))
  | _, _ => False
theorem pu_mod (ha : PuO X a pa) (hb : PuO X b pb) : PuE X (.BinOp a .Mod b pos) (pBin modP pa pb) :=
  pu_bin op_mod (binI (g := fun i j => .int (i % j)) (fun _ _ _ => .int _) rfl fun x y P h => by
    unfold modP at h; split at h
    · exact ⟨_, _, rfl, rfl, h.1, h.2⟩
    · exact h.elim) ha hb
def powP : BinP := fun x y P => match x, y with
  | .int i, .int j => CPow i j ∧ P (.int (i ^ j.toNat))
  | _, _ => False
theorem pu_pow (ha : PuO X a pa) (hb : PuO X b pb) : PuE X (.BinOp a .Pow b pos) (pBin powP pa pb) :=
  pu_bin op_pow (binI (g := fun i j => .int (i ^ j.toNat)) (fun _ _ _ => .int _) rfl fun x y P h => by
    unfold powP at h; split at h
    · exact ⟨_, _, rfl, rfl, h.1, h.2⟩
    · exact h.elim) ha hb
def negP (p : PTE) : PTE := fun env P => p env fun x => match x with
  | .int i => P (.int (-i))
  | _ => False
theorem pu_neg (ha : PuO X a pa) : PuE X (.UnaryOp .USub a pos) (negP pa) := by
  obtain ⟨t, h1, h2⟩ := ha.ex
  refine ⟨_, pe_un un_neg h1, fun G H env σ P Q ok hp k => h2 G H env σ _ _ ok hp fun d v G' H' x r q => ?_⟩
  split at q
  · cases r.int
    exact ⟨_, rfl, k _ _ G' H' x (.int _) q⟩
  · exact q.elim

/-! ### comparisons -/
def ltP : BinP := fun x y P => match x, y with
  | .int i, .int j => P (.bl (decide (i < j)))
  | .str i, .str j => P (.bl (decide (i.cps.toList < j.cps.toList)))
  | _, _ => False
def leP : BinP := fun x y P => match x, y with
  | .int i, .int j => P (.bl (decide (i ≤ j)))
  | .str i, .str j => P (.bl (!decide (j.cps.toList < i.cps.toList)))
  | _, _ => False
def gtP : BinP := fun x y P => match x, y with
  | .int i, .int j => P (.bl (decide (j < i)))
  | .str i, .str j => P (.bl (decide (j.cps.toList < i.cps.toList)))
  | _, _ => False
def geP : BinP := fun x y P => match x, y with
  | .int i, .int j => P (.bl (decide (j ≤ i)))
  | .str i, .str j => P (.bl (!decide (i.cps.toList < j.cps.toList)))
  | _, _ => False
def rCmp2 (f : Int → Int → Bool) (g : Str → Str → Bool) : R2 := fun x y H Q => rI0 (fun i j => .bl (f i j)) x y H Q ∨ ∃ i j, x = .str i ∧ y = .str j ∧ Q (.bl (g i j)) H
theorem cmp2_ok {f : Int → Int → Bool} {g : Str → Str → Bool} {h : BinP} (hh : ∀ x y P, h x y P → (∃ i j, x = .int i ∧ y = .int j ∧ P (.bl (f i j))) ∨ ∃ i j, x = .str i ∧ y = .str j ∧ P (.bl (g i j))) : BinOk X (rCmp2 f g) h := by
  intro G H v w x y P Q s r1 r2 z k
  rcases hh x y P z with ⟨i, j, rfl, rfl, q⟩ | ⟨i, j, rfl, rfl, q⟩
  · cases r1.int; cases r2.int
    exact .inl ⟨_, _, rfl, rfl, k _ _ G H (.refl s) (.bl _) q⟩
  · cases r1.str; cases r2.str
    exact .inr ⟨_, _, rfl, rfl, k _ _ G H (.refl s) (.bl _) q⟩
theorem op_ltAll : OpR X (compareOp .Lt) (rCmp2 (fun i j => decide (i < j)) fun i j => decide (i.cps.toList < j.cps.toList)) := OpR.or op_lt op_lt_str
theorem op_leAll : OpR X (compareOp .LtE) (rCmp2 (fun i j => decide (i ≤ j)) fun i j => !decide (j.cps.toList < i.cps.toList)) := OpR.or op_le op_le_str
theorem op_gtAll : OpR X (compareOp .Gt) (rCmp2 (fun i j => decide (j < i)) fun i j => decide (j.cps.toList < i.cps.toList)) := OpR.or op_gt op_gt_str
theorem op_geAll : OpR X (compareOp .GtE) (rCmp2 (fun i j => decide (j ≤ i)) fun i j => !decide (i.cps.toList < j.cps.toList)) := OpR.or op_ge op_ge_str
theorem ltP_ok : BinOk X (rCmp2 (fun i j => decide (i < j)) fun i j => decide (i.cps.toList < j.cps.toList)) ltP := cmp2_ok fun x y P h => by
  unfold ltP at h; split at h
  · exact .inl ⟨_, _, rfl, rfl, h⟩
  · exact .inr ⟨_, _, rfl, rfl, h⟩
  · exact h.elim
theorem leP_ok : BinOk X (rCmp2 (fun i j => decide (i ≤ j)) fun i j => !decide (j.cps.toList < i.cps.toList)) leP := cmp2_ok fun x y P h => by
  unfold leP at h; split at h
  · exact .inl ⟨_, _, rfl, rfl, h⟩
  · exact .inr ⟨_, _, rfl, rfl, h⟩
  · exact h.elim
theorem gtP_ok : BinOk X (rCmp2 (fun i j => decide (j < i)) fun i j => decide (j.cps.toList < i.cps.toList)) gtP := cmp2_ok fun x y P h => by
  unfold gtP at h; split at h
  · exact .inl ⟨_, _, rfl, rfl, h⟩
  · exact .inr ⟨_, _, rfl, rfl, h⟩
  · exact h.elim
theorem geP_ok : BinOk X (rCmp2 (fun i j => decide (j ≤ i)) fun i j => !decide (i.cps.toList < j.cps.toList)) geP := cmp2_ok fun x y P h => by
  unfold geP at h; split at h
  · exact .inl ⟨_, _, rfl, rfl, h⟩
  · exact .inr ⟨_, _, rfl, rfl, h⟩
  · exact h.elim

/-! ### == of data -/
mutual
def toPy : D → PyData
  | .non => .none
  | .bl b => .bool b
  | .int i => .int i
  | .str x => .str x
  | .tup ds => .tuple (toPys ds)
  | .lst ds => .list (toPys ds)
  | .scr ds => .list (toPys ds)
  | .dk _ => .none
  | .dt _ => .none
  | .obj _ _ => .none
  | .err _ _ => .none
def toPys : List D → List PyData
  | [] => []
  | d :: ds => toPy d :: toPys ds
end
mutual
/-- no dict, no object within -/
def flat : D → Bool
  | .non => true
  | .bl _ => true
  | .int _ => true
  | .str _ => true
  | .tup ds => flats ds
  | .lst ds => flats ds
  | .scr ds => flats ds
  | .dk _ => false
  | .dt _ => false
  | .obj _ _ => false
  | .err _ _ => false
def flats : List D → Bool
  | [] => true
  | d :: ds => flat d && flats ds
end
end
section
variable {K : PySem.W.Frag} {mg : MG} {G H : Hp}
mutual
theorem Rep.dp (s : Same G H) : ∀ {v : V} {d : D}, Rep K mg G v d → flat d = true → Dp K H v (toPy d)
  | _, _, .non, _ => .non
  | _, _, .bl b, _ => .bl b
  | _, _, .int i, _ => .int i
  | _, _, .str x, _ => .str x
  | _, _, .tup h r, f => .tup (SqT.of (s _ _ h)) (Reps.dp s r f)
  | _, _, .lst h r, f => .lst (SqL.of (s _ _ h)) (Reps.dp s r f)
  | _, _, .scr h r, f => .lst (s.seq h) (Reps.dp s r f)
  | _, _, .dk h r, f => nomatch (show false = true from f)
  | _, _, .dt h r, f => nomatch (show false = true from f)
  | _, _, .obj h m r, f => nomatch (show false = true from f)
  | _, _, .slf h m r, f => nomatch (show false = true from f)
  | _, _, .err h _ _ m r, f => nomatch (show false = true from f)
theorem Reps.dp (s : Same G H) : ∀ {v : List V} {d : List D}, Reps K mg G v d → flats d = true → DpAll K H v (toPys d)
  | _, _, .nil, _ => .nil
  | _, _, .cons h t, f =>
    have f' := Bool.and_eq_true_iff.mp (show (flat _ && flats _) = true from f)
    .cons (Rep.dp s h f'.1) (Reps.dp s t f'.2)
end
theorem Shal.dp {v : V} {d : D} (h : Shal K mg H G v d) (s : Same G H) (f : flat d = true) : Dp K H v (toPy d) := by
  rcases h with h | ⟨l, rfl, t⟩
  · exact h.dp s f
  · cases t with
    | lst e r => exact .lst (SqL.of e) (r.dp s f)
    | dk e r => exact nomatch (show false = true from f)
    | dt e r => exact nomatch (show false = true from f)
    | slf e m r => exact nomatch (show false = true from f)
end
section
variable {X : Cx} {e a b : Expr} {pa pb : PTE} {pos : Pos}
def cmpOk (d : D) : Bool := flat d && SeqAt.shaped (toPy d)
def rEqAll (K : PySem.W.Frag) : R2 := fun x y H Q => rEq x y H Q ∨ rEqD K x y H Q
def rNeAll (K : PySem.W.Frag) : R2 := fun x y H Q => rNe x y H Q ∨ rNeD K x y H Q
theorem op_eqAll (hu : X.A.units + 64 < cLine) : OpR X (compareOp .Eq) (rEqAll X.K) := OpR.or op_eq (op_eqD hu)
theorem op_neAll (hu : X.A.units + 64 < cLine) : OpR X (compareOp .NotEq) (rNeAll X.K) := OpR.or op_ne (op_neD hu)
def eqP : BinP := fun x y P => match x, y with
  | .int i, .int j => P (.bl (decide (i = j)))
  | .str i, .str j => P (.bl (decide (i = j)))
  | .bl i, .bl j => P (.bl (decide (i = j)))
  | x, y => cmpOk x = true ∧ cmpOk y = true ∧ P (.bl (PyData.eqv (toPy x) (toPy y)))
def neP : BinP := fun x y P => match x, y with
  | .int i, .int j => P (.bl (!decide (i = j)))
  | .str i, .str j => P (.bl (!decide (i = j)))
  | .bl i, .bl j => P (.bl (!decide (i = j)))
  | x, y => cmpOk x = true ∧ cmpOk y = true ∧ P (.bl (!PyData.eqv (toPy x) (toPy y)))
theorem cmpOk_iff {d : D} (h : cmpOk d = true) : flat d = true ∧ SeqAt.shaped (toPy d) = true := Bool.and_eq_true_iff.mp h
theorem vint_dec (i j : Int) : decide (V.int i = V.int j) = decide (i = j) := by
  by_cases h : i = j
  · subst h; simp
  · rw [decide_eq_false h, decide_eq_false fun e => h (V.int.inj e)]
theorem vstr_dec (i j : Str) : decide (V.str i = V.str j) = decide (i = j) := by
  by_cases h : i = j
  · subst h; simp
  · rw [decide_eq_false h, decide_eq_false fun e => h (V.str.inj e)]
theorem vbl_dec (i j : Bool) : decide (V.bl i = V.bl j) = decide (i = j) := by
  by_cases h : i = j
  · subst h; simp
  · rw [decide_eq_false h, decide_eq_false fun e => h (V.bl.inj e)]
theorem eqP_ok : BinOk X (rEqAll X.K) eqP := by
  intro G H v w x y P Q s r1 r2 h k
  unfold eqP at h
  split at h
  · cases r1.int; cases r2.int
    exact .inl ⟨rfl, by rw [vint_dec]; exact k _ _ G H (.refl s) (.bl _) h⟩
  · cases r1.str; cases r2.str
    exact .inl ⟨rfl, by rw [vstr_dec]; exact k _ _ G H (.refl s) (.bl _) h⟩
  · cases r1.bl; cases r2.bl
    exact .inl ⟨rfl, by rw [vbl_dec]; exact k _ _ G H (.refl s) (.bl _) h⟩
  · obtain ⟨h1, h2, h⟩ := h
    obtain ⟨f1, s1⟩ := cmpOk_iff h1
    obtain ⟨f2, s2⟩ := cmpOk_iff h2
    exact .inr ⟨_, _, r1.dp s f1, r2.dp s f2, s1, s2, k _ _ G H (.refl s) (.bl _) h⟩
theorem neP_ok : BinOk X (rNeAll X.K) neP := by
  intro G H v w x y P Q s r1 r2 h k
  unfold neP at h
  split at h
  · cases r1.int; cases r2.int
    exact .inl ⟨rfl, by rw [vint_dec]; exact k _ _ G H (.refl s) (.bl _) h⟩
  · cases r1.str; cases r2.str
    exact .inl ⟨rfl, by rw [vstr_dec]; exact k _ _ G H (.refl s) (.bl _) h⟩
  · cases r1.bl; cases r2.bl
    exact .inl ⟨rfl, by rw [vbl_dec]; exact k _ _ G H (.refl s) (.bl _) h⟩
  · obtain ⟨h1, h2, h⟩ := h
    obtain ⟨f1, s1⟩ := cmpOk_iff h1
    obtain ⟨f2, s2⟩ := cmpOk_iff h2
    exact .inr ⟨_, _, r1.dp s f1, r2.dp s f2, s1, s2, k _ _ G H (.refl s) (.bl _) h⟩
end
end PL
end

section
set_option linter.all false
set_option maxRecDepth 100000
set_option maxHeartbeats 4000000
set_option autoImplicit false
/-! PL3: statements, loops, comprehensions, calls, a def's promise. -/
namespace PL
open PySem PySem.Spec PyProof.Rows L2

structure PEnds where
  nx : List C → Prop
  rt : D → Prop
  bk : List C → Prop := fun _ => False
  ct : List C → Prop := fun _ => False
  ro : D → Prop := fun _ => False
  er : List C → D → Prop := fun _ _ => False
abbrev PTS := PEnds → List C → Prop

structure EndsOk (X : Cx) (G0 H0 : Hp) (PD : PEnds) (E : Ends) : Prop where
  nx : ∀ G H env σ, Rel X.K X.mg G0 H0 G H env σ → PD.nx env → E.nx σ H
  bk : ∀ G H env σ, Rel X.K X.mg G0 H0 G H env σ → PD.bk env → E.bk σ H
  ct : ∀ G H env σ, Rel X.K X.mg G0 H0 G H env σ → PD.ct env → E.ct σ H
  rt : ∀ G H d v, Ext G0 H0 G H → Rep X.K X.mg G v d → PD.rt d → E.rt v H
  ro : ∀ G H d l, Ext G0 H0 G H → Top X.K X.mg H G l d → G l = none → H0 l = none → PD.ro d → E.rt (.ref l) H
  er : ∃ W : WX, Takes X W ∧ ∀ (G H : Hp) (env : List C) (σ : L2.St) (cls : Str) (fs : List (Str × D)) (Ca d : Addr) (vs : List (Str × V)), Rel X.K X.mg G0 H0 G H env σ → X.mg cls = some (.ref Ca) → H d = some (.xd vs) → H0 d = none → G d = none → RepF X.K X.mg G vs fs → PD.er env (.err cls fs) → W (.ref Ca) (some d) σ H
theorem tk0 {X : Cx} : Takes X (fun _ _ _ _ => False) := fun _ _ x => by
  obtain ⟨_, _, _, _, _, _, _, _, _, _, _, _, _, _, _, _, z⟩ := x
  exact z.elim

structure PuS (X : Cx) (st : Stmt) (p : PTS) : Prop where
  ex : ∃ t : TS, PS X st t ∧ ∀ (G0 H0 G H : Hp) (env : List C) (σ : L2.St) (PD : PEnds) (E : Ends), Rel X.K X.mg G0 H0 G H env σ → EndsOk X G0 H0 PD E → p PD env → t E σ H
structure PuSs (X : Cx) (st : List Stmt) (p : PTS) : Prop where
  ex : ∃ t : TS, PSs X st t ∧ ∀ (G0 H0 G H : Hp) (env : List C) (σ : L2.St) (PD : PEnds) (E : Ends), Rel X.K X.mg G0 H0 G H env σ → EndsOk X G0 H0 PD E → p PD env → t E σ H

section
variable {X : Cx} {st : Stmt} {rest : List Stmt} {e a b : Expr} {p q : PTS} {pe pa pb : PTE} {pt : PTT} {pos : Pos}
def pNext : PTS := fun PD env => PD.nx env
def pSeq (p q : PTS) : PTS := fun PD env => p { PD with nx := q PD } env
theorem puss_nil : PuSs X [] pNext := ⟨_, pss_nil, fun _ _ _ _ _ _ _ _ r e h => e.nx _ _ _ _ r h⟩
theorem puss_cons (h : PuS X st p) (g : PuSs X rest q) : PuSs X (st :: rest) (pSeq p q) := by
  obtain ⟨t, h1, h2⟩ := h.ex
  obtain ⟨u, g1, g2⟩ := g.ex
  refine ⟨_, pss_cons h1 g1, fun G0 H0 G H env σ PD E r ok hp => ?_⟩
  exact h2 G0 H0 G H env σ { PD with nx := q PD } { E with nx := u E } r ⟨fun G1 H1 env1 σ1 r1 z => g2 G0 H0 G1 H1 env1 σ1 PD E r1 ok z, ok.bk, ok.ct, ok.rt, ok.ro, ok.er⟩ hp
theorem puss_one (h : PuS X st p) : PuSs X [st] p := by
  obtain ⟨t, h1, h2⟩ := h.ex
  exact ⟨_, pss_one h1, h2⟩
/-- ahead of a statement a cell is frozen, a slot is forgotten -/
def pFrz (i : Nat) (p : PTS) : PTS := fun PD env => p PD (frz i env)
def pUn (i : Nat) (p : PTS) : PTS := fun PD env => p PD (env.set i .un)
theorem pus_frz (i : Nat) (h : PuS X st p) : PuS X st (pFrz i p) := by
  obtain ⟨t, h1, h2⟩ := h.ex
  refine ⟨t, h1, fun G0 H0 G H env σ PD E r ok hp => ?_⟩
  obtain ⟨G', r', _⟩ := r.freeze i
  exact h2 G0 H0 G' H _ σ PD E r' ok hp
theorem puss_frz (i : Nat) (h : PuSs X rest p) : PuSs X rest (pFrz i p) := by
  obtain ⟨t, h1, h2⟩ := h.ex
  refine ⟨t, h1, fun G0 H0 G H env σ PD E r ok hp => ?_⟩
  obtain ⟨G', r', _⟩ := r.freeze i
  exact h2 G0 H0 G' H _ σ PD E r' ok hp
theorem pus_un (i : Nat) (h : PuS X st p) : PuS X st (pUn i p) := by
  obtain ⟨t, h1, h2⟩ := h.ex
  exact ⟨t, h1, fun G0 H0 G H env σ PD E r ok hp => h2 G0 H0 G H _ σ PD E (r.forget i) ok hp⟩
theorem puss_un (i : Nat) (h : PuSs X rest p) : PuSs X rest (pUn i p) := by
  obtain ⟨t, h1, h2⟩ := h.ex
  exact ⟨t, h1, fun G0 H0 G H env σ PD E r ok hp => h2 G0 H0 G H _ σ PD E (r.forget i) ok hp⟩

theorem pus_pass : PuS X (.Pass pos) pNext := ⟨_, ps_pass, fun _ _ _ _ _ _ _ _ r e h => e.nx _ _ _ _ r h⟩
theorem pus_doc {x : Str} {j : Nat} {pos' : Pos} : PuS X (.Expr (.Constant (.str x) j pos) pos') pNext := ⟨_, ps_doc, fun _ _ _ _ _ _ _ _ r e h => e.nx _ _ _ _ r h⟩
def pBrk : PTS := fun PD env => PD.bk env
def pCnt : PTS := fun PD env => PD.ct env
theorem pus_break : PuS X (.Break pos) pBrk := ⟨_, ps_break, fun _ _ _ _ _ _ _ _ r e h => e.bk _ _ _ _ r h⟩
theorem pus_continue : PuS X (.Continue pos) pCnt := ⟨_, ps_continue, fun _ _ _ _ _ _ _ _ r e h => e.ct _ _ _ _ r h⟩
def pRet (pe : PTE) : PTS := fun PD env => pe env PD.rt
theorem pus_ret (h : PuE X e pe) : PuS X (.Return (some e) pos) (pRet pe) := by
  obtain ⟨t, h1, h2⟩ := h.ex
  exact ⟨_, ps_ret h1, fun G0 H0 G H env σ PD E r ok hp => h2 G H env σ _ _ r.ok hp fun d v G' H' x rp z => ok.rt G' H' d v (r.ext.trans x) rp z⟩
def pRetN : PTS := fun PD env => PD.rt .non
theorem pus_retN : PuS X (.Return none pos) pRetN := ⟨_, ps_retN, fun _ _ _ _ _ _ _ _ r e h => e.rt _ _ _ _ r.ext .non h⟩
def pDrop (pe : PTE) : PTS := fun PD env => pe env fun _ => PD.nx env
theorem pus_expr (h : PuE X e pe) (hs : swapsWith e none pos.line X.env = pure false := by rfl) : PuS X (.Expr e pos) (pDrop pe) := by
  obtain ⟨t, h1, h2⟩ := h.ex
  exact ⟨_, ps_expr h1 hs, fun G0 H0 G H env σ PD E r ok hp => h2 G H env σ _ _ r.ok hp fun d v G' H' x rp z => ok.nx G' H' env σ (r.step x) z⟩
def pIfS (pt : PTT) (p q : PTS) : PTS := fun PD env => pt env fun b => if b = true then p PD env else q PD env
theorem pus_if {c : Expr} {sa sb : List Stmt} (hc : PuT X c pt) (ha : PuSs X sa p) (hb : PuSs X sb q) : PuS X (.If c sa sb pos) (pIfS pt p q) := by
  obtain ⟨t, h1, h2⟩ := hc.ex
  obtain ⟨ta, a1, a2⟩ := ha.ex
  obtain ⟨tb, b1, b2⟩ := hb.ex
  refine ⟨_, ps_if h1 a1 b1, fun G0 H0 G H env σ PD E r ok hp => h2 G H env σ _ _ r.ok hp fun c G' H' x z => ?_⟩
  cases c with
  | true => exact a2 G0 H0 G' H' env σ PD E (r.step x) ok z
  | false => exact b2 G0 H0 G' H' env σ PD E (r.step x) ok z
/-- code that is not reached -/
def pNever : PTS := fun _ _ => False
theorem pus_never : PuS X st pNever := ⟨_, ps_never, fun _ _ _ _ _ _ _ _ _ _ h => h.elim⟩

/-! ### stores -/
def pSet (i : Nat) (pe : PTE) : PTS := fun PD env => pe env fun d => PD.nx (env.set i (.fz d))
def pSetO (i : Nat) (pe : PTE) : PTS := fun PD env => pe env fun d => PD.nx (env.set i (.ow d))
theorem pus_set (i : Nat) {x : Str} {pos' : Pos} (hN : X.N.Nodup) (he : PuE X e pe) (hi : X.N[i]? = some x := by rfl) (hx : Loc X.env.scope x := by first | exact Or.inl rfl | exact Or.inr rfl)
    (hs : swapsWith e (some (.Name x pos')) pos.line X.env = pure false := by rfl) (hf : X.fn x = true ∨ X.env.scope.names.lookup x = some .local := by first | exact .inl rfl | exact .inr rfl) :
    PuS X (.Assign [.Name x pos'] e pos) (pSet i pe) := by
  obtain ⟨t, h1, h2⟩ := he.ex
  refine ⟨_, ps_set hN hi hx h1 hs hf, fun G0 H0 G H env σ PD E r ok hp => h2 G H env σ _ _ r.ok hp fun d v G' H' x rp z => ?_⟩
  exact ok.nx G' H' _ _ ((r.step x).setFz rp) z
theorem setOw_of {K : PySem.W.Frag} {mg : MG} {G0 H0 G H G' H' : Hp} {env : List C} {σ : L2.St} (i : Nat) {l : Addr} {d : D} (r : Rel K mg G0 H0 G H env σ) (x : Ext G H G' H') (t : Top K mg H' G' l d) (n : G' l = none) (nH : H l = none) :
    Rel K mg G0 H0 G' H' (env.set i (.ow d)) (σ.set i (some (.ref l))) := by
  refine (r.step x).setOw t n (r.ext.h.free nH) fun j e q s => ?_
  obtain ⟨m, e1, t1, n1⟩ := r.ok.slot j _ q
  rw [e1] at s
  cases s
  obtain ⟨o, ho⟩ := t1.some
  rw [nH] at ho; cases ho
theorem pus_setO (i : Nat) {x : Str} {pos' : Pos} (hN : X.N.Nodup) (he : PuF X e pe) (hi : X.N[i]? = some x := by rfl) (hx : Loc X.env.scope x := by first | exact Or.inl rfl | exact Or.inr rfl)
    (hs : swapsWith e (some (.Name x pos')) pos.line X.env = pure false := by rfl) (hf : X.fn x = true ∨ X.env.scope.names.lookup x = some .local := by first | exact .inl rfl | exact .inr rfl) :
    PuS X (.Assign [.Name x pos'] e pos) (pSetO i pe) := by
  obtain ⟨t, h1, h2⟩ := he.ex
  refine ⟨_, ps_set hN hi hx h1 hs hf, fun G0 H0 G H env σ PD E r ok hp => h2 G H env σ _ _ r.ok hp fun d l G' H' x rp n nH z => ?_⟩
  exact ok.nx G' H' _ _ (setOw_of i r x rp n nH) z

/-! ### targets -/
abbrev PTG := D → List C → (List C → Prop) → Prop
def Off (is : List Nat) (σ σ' : L2.St) : Prop := σ'.length = σ.length ∧ ∀ j : Nat, j ∉ is → (σ'[j]? : Option (Option V)) = σ[j]?
theorem Off.refl (is : List Nat) (σ : L2.St) : Off is σ σ := ⟨rfl, fun _ _ => rfl⟩
theorem Off.trans {is js : List Nat} {σ σ1 σ2 : L2.St} (a : Off is σ σ1) (b : Off js σ1 σ2) : Off (is ++ js) σ σ2 :=
  ⟨b.1.trans a.1, fun j h => by rw [List.mem_append, not_or] at h; exact (b.2 j h.2).trans (a.2 j h.1)⟩
theorem Off.set (i : Nat) (σ : L2.St) (v : Option V) : Off [i] σ (σ.set i v) := ⟨by simp, fun j h => by
  have : i ≠ j := fun e => h (by simp [e])
  rw [List.getElem?_set_ne this]⟩
structure PuG (X : Cx) (tg : Expr) (g : PTG) (is : List Nat) : Prop where
  ex : ∃ t : TG, PG X tg t ∧ ∀ (G0 H0 G H : Hp) (env : List C) (σ : L2.St) (d : D) (v : V) (P : List C → Prop) (Q : L2.St → Hp → Prop), Rel X.K X.mg G0 H0 G H env σ → Rep X.K X.mg G v d → g d env P →
    (∀ env' σ', Rel X.K X.mg G0 H0 G H env' σ' → Off is σ σ' → P env' → Q σ' H) → t v σ H Q
def pgN (i : Nat) : PTG := fun d env P => P (env.set i (.fz d))
theorem pug_name (i : Nat) {x : Str} (hN : X.N.Nodup) (hi : X.N[i]? = some x := by rfl) (hx : Loc X.env.scope x := by first | exact Or.inl rfl | exact Or.inr rfl)
    (hf : X.fn x = true ∨ X.env.scope.names.lookup x = some .local := by first | exact .inl rfl | exact .inr rfl) : PuG X (.Name x pos) (pgN i) [i] :=
  ⟨_, pg_name hN hi hx hf, fun G0 H0 G H env σ d v P Q r rp hp k => k _ _ (r.setFz rp) (Off.set i σ _) hp⟩
/-- targets in a row -/
abbrev PTGs := List D → List C → (List C → Prop) → Prop
structure PuGs (X : Cx) (ts : List Expr) (g : PTGs) (is : List Nat) : Prop where
  ex : ∃ t : TGs, PGs X ts t ∧ ∀ (G0 H0 G H : Hp) (env : List C) (σ : L2.St) (ds : List D) (vs : List V) (P : List C → Prop) (Q : L2.St → Hp → Prop), Rel X.K X.mg G0 H0 G H env σ → Reps X.K X.mg G vs ds → g ds env P →
    (∀ env' σ', Rel X.K X.mg G0 H0 G H env' σ' → Off is σ σ' → P env' → Q σ' H) → t vs σ H Q
def pgsNil : PTGs := fun ds env P => match ds with
  | [] => P env
  | _ => False
def pgsCons (g : PTG) (h : PTGs) : PTGs := fun ds env P => match ds with
  | d :: r => g d env fun env' => h r env' P
  | [] => False
theorem pugs_nil : PuGs X [] pgsNil [] := by
  refine ⟨_, pgs_nil, fun G0 H0 G H env σ ds vs P Q r rp hp k => ?_⟩
  unfold pgsNil at hp
  split at hp
  · cases rp; exact ⟨rfl, k _ _ r (Off.refl _ _) hp⟩
  · exact hp.elim
theorem pugs_cons {ts : List Expr} {g : PTG} {h : PTGs} {is js : List Nat} (h1 : PuG X e g is) (h2 : PuGs X ts h js) (hs : (assignEach (e :: ts) X.env).map (·.2) = assign e X.env :: (assignEach ts X.env).map (·.2) := by rfl) : PuGs X (e :: ts) (pgsCons g h) (is ++ js) := by
  obtain ⟨t, a1, a2⟩ := h1.ex
  obtain ⟨u, b1, b2⟩ := h2.ex
  refine ⟨_, pgs_cons a1 b1 hs, fun G0 H0 G H env σ ds vs P Q r rp hp k => ?_⟩
  unfold pgsCons at hp
  split at hp
  · cases rp with
    | cons r1 r2 => exact ⟨_, _, rfl, a2 G0 H0 G H env σ _ _ _ _ r r1 hp fun env' σ' r' o' q => b2 G0 H0 G H env' σ' _ _ P Q r' r2 q fun env2 σ2 r3 o3 q3 => k env2 σ2 r3 (o'.trans o3) q3⟩
  · exact hp.elim
theorem PG.or {tg : Expr} {g1 g2 : TG} (h1 : PG X tg g1) (h2 : PG X tg g2) : PG X tg (fun v σ H Q => g1 v σ H Q ∨ g2 v σ H Q) :=
  ⟨fun pins s σ H v u Q I r hw => hw.elim (h1.run pins s σ H v u Q I r) (h2.run pins s σ H v u Q I r)⟩
def pgTup (n : Nat) (h : PTGs) : PTG := fun d env P => match d with
  | .tup ds => ds.length = n ∧ h ds env P
  | .lst ds => ds.length = n ∧ h ds env P
  | _ => False
theorem pug_tup {ts : List Expr} {k n : Nat} {h : PTGs} {is : List Nat} (hc : X.calm = true) (hh : PuGs X ts h is) (hn : (assignEach ts X.env).length = n := by rfl) (hst : (assignEach ts X.env).findIdx? (·.1) = none := by rfl) : PuG X (.Tuple ts k pos) (pgTup n h) is := by
  obtain ⟨t, a1, a2⟩ := hh.ex
  refine ⟨_, PG.or (pg_tup hc a1 hn hst) (pg_unl hc a1 hn hst), fun G0 H0 G H env σ d v P Q r rp hp kk => ?_⟩
  unfold pgTup at hp
  split at hp
  · cases rp with
    | tup s rs => exact .inl ⟨_, _, rfl, SqT.of (r.ok.same _ _ s), by rw [rs.length]; exact hp.1, a2 G0 H0 G H env σ _ _ P Q r rs hp.2 kk⟩
  · cases rp with
    | lst s rs => exact .inr ⟨_, _, rfl, SqL.of (r.ok.same _ _ s), by rw [rs.length]; exact hp.1, a2 G0 H0 G H env σ _ _ P Q r rs hp.2 kk⟩
  · exact hp.elim
def pAsg (pe : PTE) (g : PTG) : PTS := fun PD env => pe env fun d => g d env PD.nx
theorem pus_asg {tg : Expr} {g : PTG} {is : List Nat} (he : PuE X e pe) (hg : PuG X tg g is) (hs : swapsWithSole [tg] e pos.line X.env = pure false := by rfl) (hw : swappedStores [tg] e X.env = pure none := by rfl)
    (h1 : (assignEach [tg] X.env).map (·.2) = [assign tg X.env] := by rfl) : PuS X (.Assign [tg] e pos) (pAsg pe g) := by
  obtain ⟨t, a1, a2⟩ := he.ex
  obtain ⟨u, b1, b2⟩ := hg.ex
  refine ⟨_, ps_asg a1 b1 hs hw h1, fun G0 H0 G H env σ PD E r ok hp => a2 G H env σ _ _ r.ok hp fun d v G' H' x rp z => ?_⟩
  exact b2 G0 H0 G' H' env σ d v PD.nx E.nx (r.step x) rp z fun env' σ' r' _ q => ok.nx G' H' env' σ' r' q

/-! ### what is walked -/
structure Sq where
  n : Nat
  ob : Nat → D → Prop
/-- J walks S, over the frozen part G -/
structure Walks (K : PySem.W.Frag) (mg : MG) (G : Hp) (S : Sq) (J : It) : Prop where
  go : ∀ i G1 H1, Same G G1 → Same G1 H1 → i < S.n → J.go i H1
  yld : ∀ i G1 H1 x H', Same G G1 → Same G1 H1 → i < S.n → J.yld i H1 x H' → ∃ G' d, Ext G1 H1 G' H' ∧ Rep K mg G' x d ∧ S.ob i d
  stop : ∀ G1 H1, Same G G1 → Same G1 H1 → J.stop S.n H1
abbrev PTI := List C → (Sq → Prop) → Prop
structure PuI (X : Cx) (tg iter : Expr) (p : PTI) : Prop where
  ex : ∃ w : TI, PI X tg iter w ∧ ∀ (G H : Hp) (env : List C) (σ : L2.St) (P : Sq → Prop) (R : It → Hp → Prop), Ok X.K X.mg G H env σ → p env P →
    (∀ S J G' H', Ext G H G' H' → Walks X.K X.mg G' S J → P S → R J H') → w σ H R
theorem PI.or {tg iter : Expr} {w1 w2 : TI} (h1 : PI X tg iter w1) (h2 : PI X tg iter w2) : PI X tg iter (fun σ H R => w1 σ H R ∨ w2 σ H R) :=
  ⟨fun pins s σ H R I h => h.elim (h1.run pins s σ H R I) (h2.run pins s σ H R I)⟩
/-- the items of a list or tuple; the signs of a text -/
def sqL (ds : List D) : Sq := ⟨ds.length, fun i d => ds[i]? = some d⟩
def sqR (lo : Int) (n : Nat) : Sq := ⟨n, fun i d => d = .int (lo + i)⟩
def sqC (lo c : Int) (n : Nat) : Sq := ⟨n, fun i d => d = .int (lo + i * c)⟩
def signs (x : Str) : List D := x.cps.toList.map fun c => .str ⟨#[c]⟩
def itP (P : Sq → Prop) : D → Prop := fun d => match d with
  | .lst ds => P (sqL ds)
  | .tup ds => P (sqL ds)
  | .scr ds => P (sqL ds)
  | .str x => P (sqL (signs x))
  | _ => False
def piE (pe : PTE) : PTI := fun env P => pe env (itP P)
theorem walks_list {K : PySem.W.Frag} {mg : MG} {G : Hp} {a : Addr} {vs : List V} {ds : List D} (h : SqL K G a vs) (r : Reps K mg G vs ds) : Walks K mg G (sqL ds) (Itl K a) where
  go i G1 H1 s1 s2 hi := by
    have : i < vs.length := by rw [r.length]; exact hi
    exact ⟨vs, vs[i], (s1.trans s2).seq h, by simp [this]⟩
  yld i G1 H1 x H' s1 s2 hi y := by
    obtain ⟨rfl, y⟩ := y
    obtain ⟨d, e, q⟩ := r.get (y vs ((s1.trans s2).seq h))
    exact ⟨G1, d, .refl s2, q.mono s1, e⟩
  stop G1 H1 s1 s2 := ⟨vs, (s1.trans s2).seq h, by rw [r.length]; exact Nat.le_refl _⟩
theorem walks_tup {K : PySem.W.Frag} {mg : MG} {G : Hp} {a : Addr} {vs : List V} {ds : List D} (h : SqT K G a vs) (r : Reps K mg G vs ds) : Walks K mg G (sqL ds) (Itt K a) where
  go i G1 H1 s1 s2 hi := by
    have : i < vs.length := by rw [r.length]; exact hi
    exact ⟨vs, vs[i], Same.sqT (s1.trans s2) h, by simp [this]⟩
  yld i G1 H1 x H' s1 s2 hi y := by
    obtain ⟨rfl, y⟩ := y
    obtain ⟨d, e, q⟩ := r.get (y vs (Same.sqT (s1.trans s2) h))
    exact ⟨G1, d, .refl s2, q.mono s1, e⟩
  stop G1 H1 s1 s2 := ⟨vs, Same.sqT (s1.trans s2) h, by rw [r.length]; exact Nat.le_refl _⟩
theorem walks_range {K : PySem.W.Frag} {mg : MG} {G : Hp} (lo : Int) (n : Nat) : Walks K mg G (sqR lo n) (Itr lo n) where
  go i G1 H1 s1 s2 hi := hi
  yld i G1 H1 x H' s1 s2 hi y := by
    obtain ⟨rfl, rfl⟩ := y
    exact ⟨G1, _, .refl s2, .int _, rfl⟩
  stop G1 H1 s1 s2 := Nat.le_refl _
theorem walks_rangeC {K : PySem.W.Frag} {mg : MG} {G : Hp} (lo c : Int) (n : Nat) : Walks K mg G (sqC lo c n) (Itc lo c n) where
  go i G1 H1 s1 s2 hi := hi
  yld i G1 H1 x H' s1 s2 hi y := by
    obtain ⟨rfl, rfl⟩ := y
    exact ⟨G1, _, .refl s2, .int _, rfl⟩
  stop G1 H1 s1 s2 := Nat.le_refl _
theorem walks_str {K : PySem.W.Frag} {mg : MG} {G : Hp} (x : Str) : Walks K mg G (sqL (signs x)) (Its x) where
  go i G1 H1 s1 s2 hi := by
    have : i < (signs x).length := hi
    show i < x.cps.size
    simpa [signs] using this
  yld i G1 H1 v H' s1 s2 hi y := by
    obtain ⟨rfl, c, e, rfl⟩ := y
    refine ⟨G1, _, .refl s2, .str _, ?_⟩
    show (signs x)[i]? = _
    unfold signs
    rw [List.getElem?_map, Array.getElem?_toList, e]; rfl
  stop G1 H1 s1 s2 := by
    show x.cps.size ≤ (signs x).length
    simp [signs]
def iAny (K : PySem.W.Frag) (tl : TE) : TI := fun σ H R => tl σ H fun x H1 => (∃ a, x = .ref a ∧ (∃ xs, SqL K H1 a xs) ∧ R (Itl K a) H1) ∨ (∃ a, x = .ref a ∧ (∃ xs, SqT K H1 a xs) ∧ R (Itt K a) H1) ∨ ∃ y, x = .str y ∧ R (Its y) H1
theorem pi_any {tg l : Expr} {tl : TE} (hl : PE X l tl) : PI X tg l (iAny X.K tl) := by
  refine ⟨fun pins s σ H R I h => ?_⟩
  refine thn (hl.run pins s σ H _ I h) fun v s1 ⟨x, H1, I1, r1, q1⟩ => ?_
  rcases q1 with ⟨a, e, ⟨xs, hq⟩, q⟩ | ⟨a, e, ⟨xs, hq⟩, q⟩ | ⟨y, ex, q⟩
  · subst e
    cases r1
    obtain ⟨its, rv, p, hz⟩ := I1.list hq
    refine wpAny_pyIter_list p.isList ?_
    refine ⟨s1.heap.objs.size, [s1.heap.objs.size], _, _, H1, rfl, I1.kept (t' := s1.toks) fun b o e => Heap.get?_push_of_some _ e, turn_list a _, ⟨_, Heap.get?_push_size _ rfl, rfl, rfl⟩, fun b hb => ?_, q⟩
    have e : b = s1.heap.objs.size := by simpa using hb
    subst e
    exact I1.fpOk (Nat.le_refl _) (I1.hok.fresh (Nat.le_refl _))
  · subst e
    cases r1
    obtain ⟨its, rv, p, hz⟩ := I1.tuple hq
    refine wpAny_pyIter_tuple (show s1.heap.IsTuple a its.toArray from p) ?_
    refine ⟨s1.heap.objs.size, [s1.heap.objs.size], _, _, H1, rfl, I1.kept (t' := s1.toks) fun b o e => Heap.get?_push_of_some _ e, turn_tuple a _, ⟨_, Heap.get?_push_size _ rfl, rfl, rfl⟩, fun b hb => ?_, q⟩
    have e : b = s1.heap.objs.size := by simpa using hb
    subst e
    exact I1.fpOk (Nat.le_refl _) (I1.hok.fresh (Nat.le_refl _))
  · subst ex
    obtain ⟨t, rfl⟩ := r1
    cases ha : y.cps.all (· < 128)
    · exact wpAny_pyIter_wide ha (pi_one (tk := s1.toks) I1 _ (turn_str _ y t "str_iterator" (.inr rfl)) ⟨_, Heap.get?_push_size _ rfl, rfl, rfl⟩ q)
    · exact wpAny_pyIter_ascii ha (pi_one (tk := s1.toks) I1 _ (turn_str _ y t "str_ascii_iterator" (.inl rfl)) ⟨_, Heap.get?_push_size _ rfl, rfl, rfl⟩ q)
theorem pui_e {tg : Expr} (h : PuE X e pe) : PuI X tg e (piE pe) := by
  obtain ⟨t, h1, h2⟩ := h.ex
  refine ⟨_, pi_any h1, fun G H env σ P R ok hp k => h2 G H env σ _ _ ok hp fun d v G' H' x r q => ?_⟩
  unfold itP at q
  split at q
  · cases r with
    | lst e rs => exact .inl ⟨_, rfl, ⟨_, SqL.of (x.s _ _ e)⟩, k _ _ G' H' x (walks_list (SqL.of e) rs) q⟩
  · cases r with
    | tup e rs => exact .inr (.inl ⟨_, rfl, ⟨_, SqT.of (x.s _ _ e)⟩, k _ _ G' H' x (walks_tup (SqT.of e) rs) q⟩)
  · cases r with
    | scr e rs => exact .inl ⟨_, rfl, ⟨_, x.s.seq e⟩, k _ _ G' H' x (walks_list e rs) q⟩
  · cases r
    exact .inr (.inr ⟨_, rfl, k _ _ G' H' x (walks_str _) q⟩)
  · exact q.elim
/-- range: up to 2 ^ 62 -/
def inR (i : Int) : Prop := -(2 ^ 62) ≤ i ∧ i < 2 ^ 62
def rg1 (P : Sq → Prop) : D → Prop := fun d => match d with
  | .int j => inR j ∧ P (sqR 0 j.toNat)
  | _ => False
def piR1 (pa : PTE) : PTI := fun env P => pa env (rg1 P)
def rg2 (P : Sq → Prop) : D → D → Prop := fun d f => match d, f with
  | .int i, .int j => (inR i ∧ inR j) ∧ P (sqR i (j - i).toNat)
  | _, _ => False
def piR2 (pa pb : PTE) : PTI := fun env P => pa env fun d => pb env fun f => rg2 P d f
theorem pui_r1 {tg : Expr} {p' : Pos} (hm : X.mg "range" = none) (h : PuE X a pa) (hg : Gl X "range" := by rfl) (hs1 : starEach [a] X.env = [(false, eval a X.env)] := by rfl) : PuI X tg (.Call (.Name "range" p') [a] [] pos) (piR1 pa) := by
  obtain ⟨t, h1, h2⟩ := h.ex
  refine ⟨_, pi_range1 hg hm (pa_cons h1 pa_nil hs1) hs1, fun G H env σ P R ok hp k => h2 G H env σ _ _ ok hp fun d v G' H' x r q => ?_⟩
  unfold rg1 at q
  split at q
  · cases r
    exact ⟨_, rfl, q.1.1, q.1.2, k _ _ G' H' x (walks_range 0 _) q.2⟩
  · exact q.elim
theorem pui_r2 {tg : Expr} {p' : Pos} (hm : X.mg "range" = none) (h : PuE X a pa) (h' : PuE X b pb) (hg : Gl X "range" := by rfl) (hs : starEach [a, b] X.env = [(false, eval a X.env), (false, eval b X.env)] := by rfl)
    (hs2 : starEach [b] X.env = [(false, eval b X.env)] := by rfl) : PuI X tg (.Call (.Name "range" p') [a, b] [] pos) (piR2 pa pb) := by
  obtain ⟨t, h1, h2⟩ := h.ex
  obtain ⟨u, g1, g2⟩ := h'.ex
  refine ⟨_, pi_range2 hg hm (pa_cons h1 (pa_cons g1 pa_nil hs2) (by rw [hs, hs2])) hs hs2, fun G H env σ P R ok hp k => h2 G H env σ _ _ ok hp fun d v G' H' x r q => ?_⟩
  refine g2 G' H' env σ _ _ (ok.ext x) q fun f w G2 H2 y r2 q2 => ?_
  unfold rg2 at q2
  split at q2
  · cases r; cases r2
    obtain ⟨⟨⟨a1, a2⟩, a3, a4⟩, q2⟩ := q2
    exact ⟨_, _, rfl, ⟨a1, a2, a3, a4⟩, k _ _ G2 H2 (x.trans y) (walks_range _ _) q2⟩
  · exact q2.elim

/-! ### for -/
/-- W: what holds ahead of turn k -/
def forP (S : Sq) (g : PTG) (body : PTS) : PTS := fun PD env => ∃ W : Nat → List C → Prop, W 0 env ∧
  (∀ k d env, k < S.n → S.ob k d → W k env → g d env fun env' => body { nx := W (k + 1), ct := W (k + 1), bk := PD.nx, rt := PD.rt, er := PD.er } env') ∧ ∀ env, W S.n env → PD.nx env
def pFor (pi : PTI) (g : PTG) (body : PTS) : PTS := fun PD env => pi env fun S => forP S g body PD env
theorem for_at {S : Sq} {J : It} {g : PTG} {pb : PTS} {tgt : TG} {tb : TS} {is : List Nat} {G0 H0 G1 H1 : Hp} {env : List C} {σ : L2.St} {PD : PEnds} {E : Ends}
    (g2 : ∀ (G0 H0 G H : Hp) (env : List C) (σ : L2.St) (d : D) (v : V) (P : List C → Prop) (Q : L2.St → Hp → Prop), Rel X.K X.mg G0 H0 G H env σ → Rep X.K X.mg G v d → g d env P →
      (∀ env' σ', Rel X.K X.mg G0 H0 G H env' σ' → Off is σ σ' → P env' → Q σ' H) → tgt v σ H Q)
    (b2 : ∀ (G0 H0 G H : Hp) (env : List C) (σ : L2.St) (PD : PEnds) (E : Ends), Rel X.K X.mg G0 H0 G H env σ → EndsOk X G0 H0 PD E → pb PD env → tb E σ H)
    (r : Rel X.K X.mg G0 H0 G1 H1 env σ) (ok : EndsOk X G0 H0 PD E) (wk : Walks X.K X.mg G1 S J) (hp : forP S g pb PD env) :
    ∃ W : Nat → Nat → L2.St → Hp → Prop, (∃ m, W 0 m σ H1) ∧ ∀ i m σ H, W i m σ H → (J.stop i H ∧ E.nx σ H) ∨ (J.go i H ∧ ∃ N : L2.St → Hp → Prop, (∀ σ' H', N σ' H' → ∃ m', m' < m ∧ W (i + 1) m' σ' H') ∧
      ∀ x H', J.yld i H x H' → tgt x σ H' fun σ2 H2 => tb { E with nx := N, ct := N, bk := E.nx } σ2 H2) := by
  obtain ⟨W, w0, step, fin⟩ := hp
  refine ⟨fun i m σ H => m = S.n - i ∧ i ≤ S.n ∧ ∃ G env, Rel X.K X.mg G0 H0 G H env σ ∧ Same G1 G ∧ W i env, ⟨S.n, by simp, Nat.zero_le _, G1, env, r, Same.refl _, w0⟩, ?_⟩
  rintro i m σ2 H2 ⟨rfl, hi, G2, env2, r2, s2, w2⟩
  by_cases hlt : i < S.n
  · refine .inr ⟨wk.go i G2 H2 s2 r2.ok.same hlt, fun σ' H' => ∃ G' env', Rel X.K X.mg G0 H0 G' H' env' σ' ∧ Same G1 G' ∧ W (i + 1) env', fun σ' H' ⟨G', env', r', s', w'⟩ => ⟨S.n - (i + 1), by omega, rfl, hlt, G', env', r', s', w'⟩, fun xv H3 y => ?_⟩
    obtain ⟨G3, d, x3, rp, ob⟩ := wk.yld i G2 H2 xv H3 s2 r2.ok.same hlt y
    refine g2 G0 H0 G3 H3 env2 σ2 d xv _ _ (r2.step x3) rp (step i d env2 hlt ob w2) fun env4 σ4 r4 _ q4 => ?_
    -- the frozen part stays: the entry is moved up to G3
    have base : Rel X.K X.mg G3 H0 G3 H3 env4 σ4 := ⟨r4.ok, ⟨Same.refl _, r4.ext.h, r4.ext.s, fun _ e n => absurd e n⟩, r4.own⟩
    refine b2 G3 H0 G3 H3 env4 σ4 _ _ base ⟨?_, ?_, ?_, ?_, fun _ _ _ _ _ _ _ _ (z : False) => z.elim, ?_⟩ q4
    · intro G5 H5 env5 σ5 r5 w5
      exact ⟨G5, env5, ⟨r5.ok, ⟨r4.ext.g.trans r5.ext.g, r5.ext.h, r5.ext.s, fun a e n => by
        by_cases z : G3 a = none
        · exact r5.ext.f a z n
        · exact r4.ext.f a e z⟩, r5.own⟩, (s2.trans x3.g).trans r5.ext.g, w5⟩
    · intro G5 H5 env5 σ5 r5 w5
      exact ok.nx G5 H5 env5 σ5 ⟨r5.ok, ⟨r4.ext.g.trans r5.ext.g, r5.ext.h, r5.ext.s, fun a e n => by
        by_cases z : G3 a = none
        · exact r5.ext.f a z n
        · exact r4.ext.f a e z⟩, r5.own⟩ w5
    · intro G5 H5 env5 σ5 r5 w5
      exact ⟨G5, env5, ⟨r5.ok, ⟨r4.ext.g.trans r5.ext.g, r5.ext.h, r5.ext.s, fun a e n => by
        by_cases z : G3 a = none
        · exact r5.ext.f a z n
        · exact r4.ext.f a e z⟩, r5.own⟩, (s2.trans x3.g).trans r5.ext.g, w5⟩
    · intro G5 H5 d5 v5 x5 rp5 q5
      exact ok.rt G5 H5 d5 v5 ⟨r4.ext.g.trans x5.g, x5.h, x5.s, fun a e n => by
        by_cases z : G3 a = none
        · exact x5.f a z n
        · exact r4.ext.f a e z⟩ rp5 q5
    · obtain ⟨W, tk, f⟩ := ok.er
      refine ⟨W, tk, fun G5 H5 env5 σ5 cls fs Ca d5 vs r5 hm hd h0 g5 rf q5 => f G5 H5 env5 σ5 cls fs Ca d5 vs ⟨r5.ok, ⟨r4.ext.g.trans r5.ext.g, r5.ext.h, r5.ext.s, fun a e n => ?_⟩, r5.own⟩ hm hd h0 g5 rf q5⟩
      by_cases z : G3 a = none
      · exact r5.ext.f a z n
      · exact r4.ext.f a e z
  · have e : i = S.n := by omega
    subst e
    exact .inl ⟨wk.stop G2 H2 s2 r2.ok.same, ok.nx G2 H2 env2 σ2 r2 (fin env2 w2)⟩
theorem pus_for {tg iter : Expr} {body : List Stmt} {pi : PTI} {g : PTG} {is : List Nat} {pb : PTS} (hp : PassesOwn (model X.prog X.w) X.A X.env X.xe) (hc : X.calm = true) (hi : PuI X tg iter pi) (hg : PuG X tg g is) (hb : PuSs X body pb)
    (hs : ∀ x, foldedSetIterable iter X.env x = pure x := by intro _; rfl) : PuS X (.For tg iter body [] pos) (pFor pi g pb) := by
  obtain ⟨w, i1, i2⟩ := hi.ex
  obtain ⟨tgt, g1, g2⟩ := hg.ex
  obtain ⟨tb, b1, b2⟩ := hb.ex
  exact ⟨_, ps_for hp hc i1 g1 b1 hs, fun G0 H0 G H env σ PD E r ok hp => i2 G H env σ _ _ r.ok hp fun S J G1 H1 x wk z => for_at g2 b2 (r.step x) ok wk z⟩

/-! ### while -/
def pWhile (pt : PTT) (body : PTS) : PTS := fun PD env => ∃ W : Nat → List C → Prop, (∃ m, W m env) ∧ ∀ m env, W m env →
  pt env fun b => if b = true then body { nx := fun e => ∃ m', m' < m ∧ W m' e, ct := fun e => ∃ m', m' < m ∧ W m' e, bk := PD.nx, rt := PD.rt, er := PD.er } env else PD.nx env
theorem pus_while {c : Expr} {body : List Stmt} {pb : PTS} (hp : PassesOwn (model X.prog X.w) X.A X.env X.xe) (hc : PuT X c pt) (hb : PuSs X body pb) : PuS X (.While c body [] pos) (pWhile pt pb) := by
  obtain ⟨t, c1, c2⟩ := hc.ex
  obtain ⟨tb, b1, b2⟩ := hb.ex
  refine ⟨_, ps_while hp c1 b1, fun G0 H0 G H env σ PD E r ok ⟨W, ⟨m0, w0⟩, step⟩ => ?_⟩
  refine ⟨fun m σ H => ∃ G env, Rel X.K X.mg G0 H0 G H env σ ∧ W m env, ⟨m0, G, env, r, w0⟩, ?_⟩
  rintro m σ2 H2 ⟨G2, env2, r2, w2⟩
  refine c2 G2 H2 env2 σ2 _ _ r2.ok (step m env2 w2) fun b G3 H3 x q => ?_
  cases b with
  | false => exact ok.nx G3 H3 env2 σ2 (r2.step x) q
  | true =>
    refine ⟨fun σ' H' => ∃ G' env', Rel X.K X.mg G0 H0 G' H' env' σ' ∧ ∃ m', m' < m ∧ W m' env', fun σ' H' ⟨G', env', r', m', hm, w'⟩ => ⟨m', hm, G', env', r', w'⟩, ?_⟩
    rw [if_pos rfl] at q
    refine b2 G0 H0 G3 H3 env2 σ2 { nx := fun e => ∃ m', m' < m ∧ W m' e, ct := fun e => ∃ m', m' < m ∧ W m' e, bk := PD.nx, rt := PD.rt, er := PD.er } _ (r2.step x) ⟨fun G' H' env' σ' r' w' => ⟨G', env', r', w'⟩, fun G' H' env' σ' r' w' => ok.nx G' H' env' σ' r' w', fun G' H' env' σ' r' w' => ⟨G', env', r', w'⟩, ok.rt, fun _ _ _ _ _ _ _ _ z => z.elim, ok.er⟩ q
end
end PL
end

section
set_option linter.all false
set_option maxRecDepth 100000
set_option maxHeartbeats 4000000
set_option autoImplicit false
/-! PL4: argument lists, displays, subscripts, slices, comprehensions, calls, a def's promise. -/
namespace PL
open PySem PySem.Spec PyProof.Rows L2

section
variable {X : Cx} {e a b : Expr} {es : List Expr} {pe pa pb : PTE} {ps : PTA} {pos : Pos}
def paNil : PTA := fun _ P => P []
def paCons (p : PTE) (q : PTA) : PTA := fun env P => p env fun d => q env fun ds => P (d :: ds)
theorem pua_nil : PuA X [] paNil := ⟨_, pa_nil, fun G H env σ P Q ok hp k => k [] [] G H (.refl ok.same) .nil hp⟩
theorem pua_cons (h : PuE X e pe) (g : PuA X es ps) (hs : starEach (e :: es) X.env = (false, eval e X.env) :: starEach es X.env := by rfl) : PuA X (e :: es) (paCons pe ps) := by
  obtain ⟨t, h1, h2⟩ := h.ex
  obtain ⟨u, g1, g2⟩ := g.ex
  refine ⟨_, pa_cons h1 g1 hs, fun G H env σ P Q ok hp k => h2 G H env σ _ _ ok hp fun d v G' H' x r q => ?_⟩
  exact g2 G' H' env σ _ _ (ok.ext x) q fun ds vs G2 H2 y rs q2 => k (d :: ds) (v :: vs) G2 H2 (x.trans y) (.cons (r.mono y.g) rs) q2
theorem Shals.mono {K : PySem.W.Frag} {mg : MG} {G G' H H' : Hp} (a : Same H H') (b : Same G G') : ∀ {vs : List V} {ds : List D}, Shals K mg H G vs ds → Shals K mg H' G' vs ds
  | _, _, .nil => .nil
  | _, _, .cons r t => .cons (r.mono a b) (Shals.mono a b t)
theorem puao_nil : PuAO X [] paNil := ⟨_, pa_nil, fun G H env σ P Q ok hp k => k [] [] G H (.refl ok.same) .nil hp⟩
theorem puao_cons (h : PuO X e pe) (g : PuAO X es ps) (hs : starEach (e :: es) X.env = (false, eval e X.env) :: starEach es X.env := by rfl) : PuAO X (e :: es) (paCons pe ps) := by
  obtain ⟨t, h1, h2⟩ := h.ex
  obtain ⟨u, g1, g2⟩ := g.ex
  refine ⟨_, pa_cons h1 g1 hs, fun G H env σ P Q ok hp k => h2 G H env σ _ _ ok hp fun d v G' H' x r q => ?_⟩
  exact g2 G' H' env σ _ _ (ok.ext x) q fun ds vs G2 H2 y rs q2 => k (d :: ds) (v :: vs) G2 H2 (x.trans y) (.cons (r.mono y.h y.g) rs) q2

/-! ### displays -/
def pLst (ps : PTA) : PTE := fun env P => ps env fun ds => ds.length ≤ sizeLine ∧ P (.lst ds)
def pTup (ps : PTA) : PTE := fun env P => ps env fun ds => ds.length ≤ sizeLine ∧ P (.tup ds)
theorem puf_lst (h : PuA X es ps) : PuF X (.List es pos) (pLst ps) := by
  obtain ⟨t, h1, h2⟩ := h.ex
  refine ⟨_, pe_lst h1, fun G H env σ P Q ok hp k => h2 G H env σ _ _ ok hp fun ds vs G' H' x r q => ⟨by rw [r.length]; exact q.1, fun p hn => ?_⟩⟩
  exact k _ p G' _ (x.trans (Ext.newH x.s hn)) (.lst upd_same r) (x.s.free hn) (x.h.free hn) q.2
theorem pu_tup {j : Nat} (h : PuA X es ps) : PuE X (.Tuple es j pos) (pTup ps) := by
  obtain ⟨t, h1, h2⟩ := h.ex
  refine ⟨_, pe_tup h1, fun G H env σ P Q ok hp k => h2 G H env σ _ _ ok hp fun ds vs G' H' x r q => ⟨by rw [r.length]; exact q.1, fun p hn => ?_⟩⟩
  exact k _ _ _ _ (x.trans (Ext.new x.s hn)) (.tup upd_same (r.mono (Same.upd (x.s.free hn)))) q.2

/-! ### dicts over data -/
def lookD {κ : Type} [DecidableEq κ] (kvs : List (κ × D)) (k : κ) : Option D := (kvs.find? fun kv => decide (kv.1 = k)).map (·.2)
def putD {κ : Type} [DecidableEq κ] (kvs : List (κ × D)) (k : κ) (v : D) : List (κ × D) :=
  if (kvs.any fun kv => decide (kv.1 = k)) then kvs.map fun kv => if kv.1 = k then (kv.1, v) else kv else kvs ++ [(k, v)]
/-- two tables with the same keys, their values related -/
inductive Rel2 {κ : Type} (R : V → D → Prop) : List (κ × V) → List (κ × D) → Prop
  | nil : Rel2 R [] []
  | cons {k : κ} {v : V} {d : D} {vs : List (κ × V)} {ds : List (κ × D)} : R v d → Rel2 R vs ds → Rel2 R ((k, v) :: vs) ((k, d) :: ds)
end
section
variable {κ : Type} [DecidableEq κ] {R : V → D → Prop}
theorem Rel2.length : ∀ {vs : List (κ × V)} {ds : List (κ × D)}, Rel2 R vs ds → vs.length = ds.length
  | _, _, .nil => rfl
  | _, _, .cons _ t => congrArg (· + 1) t.length
theorem Rel2.look {k : κ} : ∀ {vs : List (κ × V)} {ds : List (κ × D)}, Rel2 R vs ds → (valV vs k = none ∧ lookD ds k = none) ∨ ∃ v d, valV vs k = some v ∧ lookD ds k = some d ∧ R v d
  | _, _, .nil => .inl ⟨rfl, rfl⟩
  | _, _, .cons (k := j) (v := v) (d := d) (vs := vs) (ds := ds) r t => by
    by_cases h : j = k
    · exact .inr ⟨v, d, by simp [valV, List.find?_cons, h], by simp [lookD, List.find?_cons, h], r⟩
    · rcases Rel2.look (k := k) t with ⟨a, b⟩ | ⟨v', d', a, b, c⟩
      · exact .inl ⟨by rw [valV_neg (p := (j, v)) h]; exact a, by simpa [lookD, List.find?_cons, h] using b⟩
      · exact .inr ⟨v', d', by rw [valV_neg (p := (j, v)) h]; exact a, by simpa [lookD, List.find?_cons, h] using b, c⟩
theorem Rel2.any {k : κ} : ∀ {vs : List (κ × V)} {ds : List (κ × D)}, Rel2 R vs ds → (vs.any fun kv => decide (kv.1 = k)) = ds.any fun kv => decide (kv.1 = k)
  | _, _, .nil => rfl
  | _, _, .cons _ t => by simp only [List.any_cons, t.any]
theorem Rel2.map {k : κ} {v : V} {d : D} (r : R v d) : ∀ {vs : List (κ × V)} {ds : List (κ × D)}, Rel2 R vs ds → Rel2 R (vs.map fun kv => if kv.1 = k then (kv.1, v) else kv) (ds.map fun kv => if kv.1 = k then (kv.1, d) else kv)
  | _, _, .nil => .nil
  | _, _, .cons (k := j) q t => by
    simp only [List.map_cons]
    by_cases h : j = k
    · simp only [h, if_true]; exact .cons r (t.map r)
    · simp only [h, if_false]; exact .cons q (t.map r)
theorem Rel2.snoc {k : κ} {v : V} {d : D} (r : R v d) : ∀ {vs : List (κ × V)} {ds : List (κ × D)}, Rel2 R vs ds → Rel2 R (vs ++ [(k, v)]) (ds ++ [(k, d)])
  | _, _, .nil => .cons r .nil
  | _, _, .cons q t => .cons q (t.snoc r)
theorem Rel2.put {k : κ} {v : V} {d : D} (r : R v d) {vs : List (κ × V)} {ds : List (κ × D)} (h : Rel2 R vs ds) : Rel2 R (putK vs k v) (putD ds k d) := by
  unfold putK putD
  rw [h.any]
  split
  · exact h.map r
  · exact h.snoc r
end
section
variable {K : PySem.W.Frag} {mg : MG} {G H : Hp}
theorem RepKV.rel : ∀ {vs : List (Key × V)} {ds : List (Key × D)}, RepKV K mg G vs ds → Rel2 (Rep K mg G) vs ds
  | _, _, .nil => .nil
  | _, _, .cons r t => .cons r (RepKV.rel t)
theorem RepKV.of : ∀ {vs : List (Key × V)} {ds : List (Key × D)}, Rel2 (Rep K mg G) vs ds → RepKV K mg G vs ds
  | _, _, .nil => .nil
  | _, _, .cons r t => .cons r (RepKV.of t)
theorem RepTV.rel : ∀ {vs : List (List Key × V)} {ds : List (List Key × D)}, RepTV K mg G vs ds → Rel2 (Rep K mg G) vs ds
  | _, _, .nil => .nil
  | _, _, .cons r t => .cons r (RepTV.rel t)
theorem RepTV.of : ∀ {vs : List (List Key × V)} {ds : List (List Key × D)}, Rel2 (Rep K mg G) vs ds → RepTV K mg G vs ds
  | _, _, .nil => .nil
  | _, _, .cons r t => .cons r (RepTV.of t)
end
def keyOf : D → Option Key
  | .int i => some (.inl i)
  | .str x => some (.inr x)
  | _ => none
def keysOf : List D → Option (List Key)
  | [] => some []
  | d :: ds => (keyOf d).bind fun k => (keysOf ds).map fun ks => k :: ks
def tkeyOf : D → Option (List Key)
  | .tup ds => keysOf ds
  | _ => none
section
variable {K : PySem.W.Frag} {mg : MG} {G H : Hp}
theorem Rep.key {v : V} {d : D} {k : Key} (r : Rep K mg G v d) (h : keyOf d = some k) : v = kV k := by
  cases r with
  | int i => cases h; rfl
  | str x => cases h; rfl
  | non => cases h
  | bl _ => cases h
  | tup _ _ => cases h
  | lst _ _ => cases h
  | scr _ _ => cases h
  | dk _ _ => cases h
  | dt _ _ => cases h
  | obj _ _ _ => cases h
  | slf _ _ _ => cases h
  | err _ _ _ _ _ => cases h
theorem Reps.keys : ∀ {vs : List V} {ds : List D} {ks : List Key}, Reps K mg G vs ds → keysOf ds = some ks → vs = ks.map kV
  | _, _, ks, .nil, h => by cases h; rfl
  | _, _, ks, .cons (d := d) (ds := ds) r t, h => by
    unfold keysOf at h
    cases e : keyOf d with
    | none => rw [e] at h; cases h
    | some k =>
      rw [e] at h
      cases e2 : keysOf ds with
      | none => simp [e2] at h
      | some ks' =>
        simp [e2] at h
        subst h
        rw [r.key e, Reps.keys t e2]; rfl
/-- what the table d holds at the key y -/
def getP (d y : D) : Option (Option D) := match d with
  | .dk kvs => (keyOf y).map fun k => lookD kvs k
  | .dt kvs => (tkeyOf y).map fun k => lookD kvs k
  | _ => none
theorem Shal.dget {v w : V} {d y : D} {o : Option D} (s : Same G H) (r : Shal K mg H G v d) (ry : Rep K mg G w y) (h : getP d y = some o) :
    ∃ a, v = .ref a ∧ ((o = none ∧ DGet H a w none) ∨ ∃ z u, o = some z ∧ DGet H a w (some u) ∧ Rep K mg G u z) := by
  unfold getP at h
  split at h
  · rename_i kvs
    cases e : keyOf y with
    | none => rw [e] at h; cases h
    | some k =>
      rw [e] at h; cases h
      obtain ⟨l, vs, rfl, hl, rs⟩ := r.dk s
      have ek := ry.key e
      subst ek
      have g : DGet H l (kV k) (valV vs k) := .inl ⟨vs, k, hl, rfl, rfl⟩
      refine ⟨l, rfl, ?_⟩
      rcases rs.rel.look (k := k) with ⟨a, b⟩ | ⟨u, z, a, b, c⟩
      · rw [a] at g; exact .inl ⟨b, g⟩
      · rw [a] at g; exact .inr ⟨z, u, b, g, c⟩
  · rename_i kvs
    cases e : tkeyOf y with
    | none => rw [e] at h; cases h
    | some k =>
      rw [e] at h; cases h
      obtain ⟨l, vs, rfl, hl, rs⟩ := r.dt s
      cases ry with
      | tup hb rb =>
        have ek := rb.keys e
        subst ek
        have g := DGet.t (k := k) hl (s _ _ hb)
        refine ⟨l, rfl, ?_⟩
        rcases rs.rel.look (k := k) with ⟨a, b⟩ | ⟨u, z, a, b, c⟩
        · rw [a] at g; exact .inl ⟨b, g⟩
        · rw [a] at g; exact .inr ⟨z, u, b, g, c⟩
      | non => cases e
      | bl _ => cases e
      | int _ => cases e
      | str _ => cases e
      | lst _ _ => cases e
      | scr _ _ => cases e
      | dk _ _ => cases e
      | dt _ _ => cases e
      | obj _ _ _ => cases e
      | slf _ _ _ => cases e
      | err _ _ _ _ _ => cases e
  · cases h
end

section
variable {X : Cx} {e a b : Expr} {es : List Expr} {pe pa pb : PTE} {ps : PTA} {pos : Pos}
/-! ### subscripts -/
theorem ix_dict (hu : X.A.units + 1 < cLine) : IxR X (fun x y H Q => ∃ a v, x = .ref a ∧ DGet H a y (some v) ∧ Q v H) := by
  intro value slice pins s σ H x y v u Q I rx ry h hs
  obtain ⟨a, z, rfl, g, q⟩ := h
  obtain rfl : v = Value.ref a := rx
  exact tail_any (dict_typeIs I g) PySem.F.slot_dict_getitem.lookup (d_getItem hu I g ry fun w' s3 I3 rw' => ⟨z, H, I3, rw', q⟩) hs
def rIxAll (K : PySem.W.Frag) : R2 := fun x y H Q => rIx K x y H Q ∨ ∃ a v, x = .ref a ∧ DGet H a y (some v) ∧ Q v H
theorem ix_all (hu : X.A.units + 1 < cLine) : IxR X (rIxAll X.K) := IxR.or ix_seq (ix_dict hu)
def ixP : D → D → (D → Prop) → Prop := fun x y P => match x, y with
  | .lst ds, .int i => ∃ d, atI ds i = some d ∧ P d
  | .tup ds, .int i => ∃ d, atI ds i = some d ∧ P d
  | .scr ds, .int i => ∃ d, atI ds i = some d ∧ P d
  | .str z, .int i => z.length ≤ sizeLine ∧ ∃ c, atI z.cps.toList i = some c ∧ P (.str ⟨#[c]⟩)
  | d, y => ∃ z, getP d y = some (some z) ∧ P z
theorem atI_rep {K : PySem.W.Frag} {mg : MG} {G : Hp} {vs : List V} {ds : List D} {i : Int} {d : D} (r : Reps K mg G vs ds) (h : atI ds i = some d) : ∃ v, atI vs i = some v ∧ Rep K mg G v d := by
  unfold atI at h ⊢
  rw [r.length]
  cases e : ixN ds.length i with
  | none => rw [e] at h; cases h
  | some j => rw [e] at h; exact r.getD h
theorem ixP_ok {G H : Hp} {v w : V} {x y : D} {P : D → Prop} {Q : VK} (s : Same G H) (r1 : Shal X.K X.mg H G v x) (r2 : Rep X.K X.mg G w y) (h : ixP x y P)
    (k : ∀ d u G' H', Ext G H G' H' → Rep X.K X.mg G' u d → P d → Q u H') : rIxAll X.K v w H Q := by
  unfold ixP at h
  split at h
  · obtain ⟨d, e, h⟩ := h
    cases r2
    obtain ⟨l, vs, rfl, hl, rs⟩ := r1.lst s
    obtain ⟨u, eu, ru⟩ := atI_rep rs e
    exact .inl (.inl ⟨l, vs, _, u, rfl, rfl, SqL.of hl, eu, k _ _ G H (.refl s) ru h⟩)
  · obtain ⟨d, e, h⟩ := h
    cases r2
    obtain ⟨l, vs, rfl, hl, rs⟩ := r1.tup s
    obtain ⟨u, eu, ru⟩ := atI_rep rs e
    exact .inl (.inr (.inl ⟨l, vs, _, u, rfl, rfl, SqT.of hl, eu, k _ _ G H (.refl s) ru h⟩))
  · obtain ⟨d, e, h⟩ := h
    cases r2
    obtain ⟨l, vs, rfl, hl, rs⟩ := r1.scr s
    obtain ⟨u, eu, ru⟩ := atI_rep rs e
    exact .inl (.inl ⟨l, vs, _, u, rfl, rfl, hl, eu, k _ _ G H (.refl s) ru h⟩)
  · obtain ⟨hz, c, e, h⟩ := h
    cases r2
    cases r1.str
    exact .inl (.inr (.inr ⟨_, _, c, rfl, rfl, hz, e, k _ _ G H (.refl s) (.str _) h⟩))
  · obtain ⟨z, e, h⟩ := h
    obtain ⟨l, rfl, q⟩ := r1.dget s r2 e
    rcases q with ⟨q, _⟩ | ⟨z', u, q, g, ru⟩
    · cases q
    · cases q
      exact .inr ⟨l, u, rfl, g, k _ _ G H (.refl s) ru h⟩
def pIx (pa pb : PTE) : PTE := fun env P => pa env fun x => pb env fun y => ixP x y P
theorem pu_ix (hu : X.A.units + 1 < cLine) (ha : PuO X a pa) (hb : PuE X b pb) (hs : PlainIx b := by exact fun _ _ => rfl) : PuE X (.Subscript a b pos) (pIx pa pb) := by
  obtain ⟨t, a1, a2⟩ := ha.ex
  obtain ⟨u, b1, b2⟩ := hb.ex
  refine ⟨_, pe_ix (ix_all hu) a1 b1 hs, fun G H env σ P Q ok hp k => ?_⟩
  refine a2 G H env σ _ _ ok hp fun x v G1 H1 e1 r1 q1 => ?_
  refine b2 G1 H1 env σ _ _ (ok.ext e1) q1 fun y w G2 H2 e2 r2 q2 => ?_
  exact ixP_ok e2.s (r1.mono e2.h e2.g) r2 q2 fun d u G3 H3 e3 r3 q3 => k d u G3 H3 ((e1.trans e2).trans e3) r3 q3

/-! ### slices -/
abbrev PTO := List C → (Option Int → Prop) → Prop
structure PuPO (X : Cx) (e : Option Expr) (p : PTO) : Prop where
  ex : ∃ t : TO, PO X e t ∧ ∀ (G H : Hp) (env : List C) (σ : L2.St) (P : Option Int → Prop) (Q : Option Int → Hp → Prop), Ok X.K X.mg G H env σ → p env P → (∀ i G' H', Ext G H G' H' → P i → Q i H') → t σ H Q
def poNone : PTO := fun _ P => P none
def poSome (p : PTE) : PTO := fun env P => p env fun d => match d with
  | .int i => P (some i)
  | _ => False
theorem pupo_none : PuPO X none poNone := ⟨_, po_none, fun G H env σ P Q ok hp k => k none G H (.refl ok.same) hp⟩
theorem pupo_some (h : PuE X e pe) : PuPO X (some e) (poSome pe) := by
  obtain ⟨t, h1, h2⟩ := h.ex
  refine ⟨_, po_some h1, fun G H env σ P Q ok hp k => h2 G H env σ _ _ ok hp fun d v G' H' x r q => ?_⟩
  split at q
  · cases r; exact ⟨_, rfl, k _ G' H' x q⟩
  · exact q.elim
def cutD (xs : List D) (lo hi : Option Int) : List D := (xs.drop (HT.sIx xs.length 0 lo)).take (HT.sIx xs.length xs.length hi - HT.sIx xs.length 0 lo)
theorem Reps.cut {K : PySem.W.Frag} {mg : MG} {G : Hp} {vs : List V} {ds : List D} (r : Reps K mg G vs ds) (lo hi : Option Int) : Reps K mg G (cutV vs lo hi) (cutD ds lo hi) := by
  unfold cutV cutD
  rw [r.length]
  exact (r.drop _).take _
theorem cutD_whole {xs : List D} {lo hi : Option Int} (h : HT.sIx xs.length 0 lo = 0 ∧ HT.sIx xs.length xs.length hi = xs.length) : cutD xs lo hi = xs := by
  unfold cutD
  rw [h.1, h.2]; simp
def rSlAll (K : PySem.W.Frag) : V → Option Int → Option Int → Hp → VK → Prop := fun x lo hi H Q => rSlL K x lo hi H Q ∨ rSlS x lo hi H Q ∨ rSlA K x lo hi H Q
theorem sl_all : SlR X (rSlAll X.K) := SlR.or sl_list (SlR.or sl_str sl_tupA)
def slP (x : D) (lo hi : Option Int) (P : D → Prop) : Prop := match x with
  | .lst ds => P (.lst (cutD ds lo hi))
  | .scr ds => P (.lst (cutD ds lo hi))
  | .tup ds => P (.tup (cutD ds lo hi))
  | .str z => z.length ≤ sizeLine ∧ P (.str (cutS z lo hi))
  | _ => False
def pSl (pa : PTE) (pl ph : PTO) : PTE := fun env P => pa env fun x => pl env fun lo => ph env fun hi => slP x lo hi P
theorem pu_sl {lo hi : Option Expr} {pl ph : PTO} {p2 : Pos} (ha : PuO X a pa) (hl : PuPO X lo pl) (hh : PuPO X hi ph) : PuE X (.Subscript a (.Slice lo hi none p2) pos) (pSl pa pl ph) := by
  obtain ⟨t, a1, a2⟩ := ha.ex
  obtain ⟨u, b1, b2⟩ := hl.ex
  obtain ⟨w, c1, c2⟩ := hh.ex
  refine ⟨_, pe_slice sl_all a1 b1 c1, fun G H env σ P Q ok hp k => ?_⟩
  refine a2 G H env σ _ _ ok hp fun x v G1 H1 e1 r1 q1 => ?_
  refine b2 G1 H1 env σ _ _ (ok.ext e1) q1 fun l G2 H2 e2 q2 => ?_
  refine c2 G2 H2 env σ _ _ ((ok.ext e1).ext e2) q2 fun r G3 H3 e3 q3 => ?_
  have r3 := (r1.mono e2.h e2.g).mono e3.h e3.g
  have k' : ∀ d u G' H', Ext G3 H3 G' H' → Rep X.K X.mg G' u d → P d → Q u H' := fun d u G' H' x => k d u G' H' (((e1.trans e2).trans e3).trans x)
  unfold slP at q3
  split at q3
  · obtain ⟨m, vs, rfl, hl, rs⟩ := r3.lst e3.s
    exact .inl ⟨m, vs, rfl, SqL.of hl, fun p hn => k' _ _ _ _ (Ext.new e3.s hn) (.lst upd_same ((rs.cut l r).mono (Same.upd (e3.s.free hn)))) q3⟩
  · obtain ⟨m, vs, rfl, hl, rs⟩ := r3.scr e3.s
    exact .inl ⟨m, vs, rfl, hl, fun p hn => k' _ _ _ _ (Ext.new e3.s hn) (.lst upd_same ((rs.cut l r).mono (Same.upd (e3.s.free hn)))) q3⟩
  · rename_i ds
    have hv : Rep X.K X.mg G3 v (.tup ds) := by
      rcases r3 with r3 | ⟨_, _, t⟩
      · exact r3
      · cases t
    obtain ⟨m, vs, rfl, hl, rs⟩ := r3.tup e3.s
    refine .inr (.inr ⟨m, vs, rfl, SqT.of hl, fun z => ?_, fun z p hn => k' _ _ _ _ (Ext.new e3.s hn) (.tup upd_same ((rs.cut l r).mono (Same.upd (e3.s.free hn)))) q3⟩)
    rw [rs.length] at z
    rw [cutD_whole z] at q3
    exact k' _ _ _ _ (.refl e3.s) hv q3
  · cases r3.str
    exact .inr (.inl ⟨_, rfl, q3.1, k' _ _ _ _ (.refl e3.s) (.str _) q3.2⟩)
  · exact q3.elim
/-- a list's slice, a new cell -/
def slPL (x : D) (lo hi : Option Int) (P : D → Prop) : Prop := match x with
  | .lst ds => P (.lst (cutD ds lo hi))
  | .scr ds => P (.lst (cutD ds lo hi))
  | _ => False
def pSlL (pa : PTE) (pl ph : PTO) : PTE := fun env P => pa env fun x => pl env fun lo => ph env fun hi => slPL x lo hi P
theorem puf_sl {lo hi : Option Expr} {pl ph : PTO} {p2 : Pos} (ha : PuO X a pa) (hl : PuPO X lo pl) (hh : PuPO X hi ph) : PuF X (.Subscript a (.Slice lo hi none p2) pos) (pSlL pa pl ph) := by
  obtain ⟨t, a1, a2⟩ := ha.ex
  obtain ⟨u, b1, b2⟩ := hl.ex
  obtain ⟨w, c1, c2⟩ := hh.ex
  refine ⟨_, pe_slice sl_list a1 b1 c1, fun G H env σ P Q ok hp k => ?_⟩
  refine a2 G H env σ _ _ ok hp fun x v G1 H1 e1 r1 q1 => ?_
  refine b2 G1 H1 env σ _ _ (ok.ext e1) q1 fun l G2 H2 e2 q2 => ?_
  refine c2 G2 H2 env σ _ _ ((ok.ext e1).ext e2) q2 fun r G3 H3 e3 q3 => ?_
  have r3 := (r1.mono e2.h e2.g).mono e3.h e3.g
  have x3 := (e1.trans e2).trans e3
  unfold slPL at q3
  split at q3
  · obtain ⟨m, vs, rfl, hl, rs⟩ := r3.lst e3.s
    exact ⟨m, vs, rfl, SqL.of hl, fun p hn => k _ p G3 _ (x3.trans (Ext.newH e3.s hn)) (.lst upd_same (rs.cut l r)) (e3.s.free hn) (x3.h.free hn) q3⟩
  · obtain ⟨m, vs, rfl, hl, rs⟩ := r3.scr e3.s
    exact ⟨m, vs, rfl, hl, fun p hn => k _ p G3 _ (x3.trans (Ext.newH e3.s hn)) (.lst upd_same (rs.cut l r)) (e3.s.free hn) (x3.h.free hn) q3⟩
  · exact q3.elim

/-! ### a cell changed: x.append(e), x[i] = e -/
def pApp (i : Nat) (pe : PTE) : PTS := fun PD env => match env[i]? with
  | some (.ow (.lst ds)) => pe env fun d => ds.length < sizeLine ∧ PD.nx (env.set i (.ow (.lst (ds ++ [d]))))
  | _ => False
theorem pus_app (i : Nat) {x : Str} {apos npos p1 : Pos} (he : PuE X e pe)
    (hs : ∀ t, PE X e t → PS X (.Expr (.Call (.Attribute (.Name x npos) "append" apos) [e] [] p1) pos) (tDrop (tBM X.K "list" rAppend (tVar i) (tCons t tNil))) := by exact fun t h => ps_expr (pe_bm PySem.F.plainAttrs_list PySem.F.slot_list_append PySem.F.type_list_append mt_append (pv _) (pa_cons h pa_nil))) :
    PuS X (.Expr (.Call (.Attribute (.Name x npos) "append" apos) [e] [] p1) pos) (pApp i pe) := by
  obtain ⟨t, h1, h2⟩ := he.ex
  refine ⟨_, hs t h1, fun G0 H0 G H env σ PD E r ok hp => ?_⟩
  unfold pApp at hp
  split at hp
  · rename_i ds hi
    obtain ⟨l, hl, tp, n⟩ := r.ok.slot i _ hi
    cases tp with
    | lst hH rs =>
      refine ⟨.ref l, hl, .inl ⟨rfl, _, SqL.of hH⟩, h2 G H env σ _ _ r.ok hp fun d v G' H' x rp z => ?_⟩
      have r' := r.step x
      obtain ⟨l', hl', tp', n'⟩ := r'.ok.slot i _ hi
      rw [hl] at hl'
      cases hl'
      cases tp' with
      | lst hH' rs' =>
        refine ⟨l, _, v, rfl, rfl, hH', by rw [rs'.length]; exact z.1, ?_⟩
        exact ok.nx G' _ _ σ (r'.write hi hl n' (.lst upd_same (rs'.append (.cons rp .nil)))) z.2
  · exact hp.elim
def rSetAll : V → V → V → Hp → (Hp → Prop) → Prop := fun o i v H Q => rSetL o i v H Q ∨ ∃ a H', o = .ref a ∧ DPut H a i v H' ∧ Q H'
theorem set_all (hu : X.A.units + 1 < cLine) : PSet X rSetAll := by
  intro pins s σ H o i v ov iv u Q I ro ri rv h
  rcases h with h | ⟨a, H', rfl, g, q⟩
  · exact set_list pins s σ H o i v ov iv u Q I ro ri rv h
  · obtain rfl : ov = Value.ref a := ro
    exact d_setItem hu I g ri rv fun s4 I4 => ⟨H', I4, q⟩
def setP (d y v : D) (P : D → Prop) : Prop := match d with
  | .lst ds => ∃ k j, y = .int k ∧ ixN ds.length k = some j ∧ P (.lst (ds.set j v))
  | .dk kvs => ∃ k, keyOf y = some k ∧ kvs.length < sizeLine ∧ P (.dk (putD kvs k v))
  | .dt kvs => ∃ k, tkeyOf y = some k ∧ kvs.length < sizeLine ∧ P (.dt (putD kvs k v))
  | _ => False
def pSetI (i : Nat) (pk pe : PTE) : PTS := fun PD env => match env[i]? with
  | some (.ow d) => pe env fun v => pk env fun y => setP d y v fun d' => PD.nx (env.set i (.ow d'))
  | _ => False
theorem pus_setI (i : Nat) {x : Str} {npos tpos : Pos} (hu : X.A.units + 1 < cLine) (hk : PuE X a pa) (he : PuE X e pe)
    (hs : ∀ t u, PE X e t → PE X a u → PS X (.Assign [.Subscript (.Name x npos) a tpos] e pos) (tAsg t (gSub (tVar i) u rSetAll))) :
    PuS X (.Assign [.Subscript (.Name x npos) a tpos] e pos) (pSetI i pa pe) := by
  obtain ⟨t, h1, h2⟩ := he.ex
  obtain ⟨u, g1, g2⟩ := hk.ex
  refine ⟨_, hs t u h1 g1, fun G0 H0 G H env σ PD E r ok hp => ?_⟩
  unfold pSetI at hp
  split at hp
  · rename_i d hi
    refine h2 G H env σ _ _ r.ok hp fun v vv G1 H1 x1 rv z1 => ?_
    obtain ⟨l, hl, tp, n⟩ := (r.step x1).ok.slot i _ hi
    refine ⟨.ref l, hl, g2 G1 H1 env σ _ _ (r.step x1).ok z1 fun y yv G2 H2 x2 ry z2 => ?_⟩
    have r' := (r.step x1).step x2
    have rv' := rv.mono x2.g
    obtain ⟨l', hl', tp', n'⟩ := r'.ok.slot i _ hi
    rw [hl] at hl'
    cases hl'
    unfold setP at z2
    split at z2
    · obtain ⟨k, j, rfl, e1, z2⟩ := z2
      cases ry
      cases tp' with
      | lst hH rs => exact .inl ⟨l, _, k, j, rfl, rfl, hH, by rw [rs.length]; exact e1, ok.nx G2 _ _ σ (r'.write hi hl n' (.lst upd_same (rs.set rv' j))) z2⟩
    · obtain ⟨k, e1, e2, z2⟩ := z2
      cases tp' with
      | dk hH rs =>
        have ek := ry.key e1
        subst ek
        exact .inr ⟨l, _, rfl, .inl ⟨_, k, hH, rfl, by rw [rs.rel.length]; exact e2, rfl⟩, ok.nx G2 _ _ σ (r'.write hi hl n' (.dk upd_same (RepKV.of (rs.rel.put rv')))) z2⟩
    · obtain ⟨k, e1, e2, z2⟩ := z2
      cases tp' with
      | dt hH rs =>
        cases ry with
        | tup hb rb =>
          have ek := rb.keys e1
          subst ek
          exact .inr ⟨l, _, rfl, .inr ⟨_, k, _, hH, rfl, x2.s _ _ hb, by rw [rs.rel.length]; exact e2, rfl⟩, ok.nx G2 _ _ σ (r'.write hi hl n' (.dt upd_same (RepTV.of (rs.rel.put rv')))) z2⟩
        | non => cases e1
        | bl _ => cases e1
        | int _ => cases e1
        | str _ => cases e1
        | lst _ _ => cases e1
        | scr _ _ => cases e1
        | dk _ _ => cases e1
        | dt _ _ => cases e1
        | obj _ _ _ => cases e1
        | slf _ _ _ => cases e1
        | err _ _ _ _ _ => cases e1
    · exact z2.elim
  · exact hp.elim

/-! ### borrowed cells: an expression whose value is no object may read cells as values -/
def scalar : D → Bool
  | .non => true
  | .bl _ => true
  | .int _ => true
  | .str _ => true
  | _ => false
theorem Rep.scal {K : PySem.W.Frag} {mg : MG} {G G' : Hp} {v : V} {d : D} (r : Rep K mg G v d) (h : scalar d = true) : Rep K mg G' v d := by
  cases r with
  | non => exact .non
  | bl b => exact .bl b
  | int i => exact .int i
  | str x => exact .str x
  | tup _ _ => cases h
  | lst _ _ => cases h
  | scr _ _ => cases h
  | dk _ _ => cases h
  | dt _ _ => cases h
  | obj _ _ _ => cases h
  | slf _ _ _ => cases h
  | err _ _ _ _ _ => cases h
theorem Ok.freeze {K : PySem.W.Frag} {mg : MG} {G H : Hp} {env : List C} {σ : L2.St} (i : Nat) (h : Ok K mg G H env σ) : ∃ G', Ok K mg G' H (frz i env) σ ∧ Same G G' := by
  have r : Rel K mg G G G H env σ := ⟨h, ⟨Same.refl _, h.same, h.same, fun _ e n => absurd e n⟩, fun j d l q s => by
    obtain ⟨m, e1, _, n⟩ := h.slot j _ q
    rw [e1] at s; cases s; exact n⟩
  obtain ⟨G', r', s⟩ := r.freeze i
  exact ⟨G', r'.ok, s⟩
def frzs : List Nat → List C → List C
  | [], env => env
  | i :: is, env => frzs is (frz i env)
theorem Ok.freezes {K : PySem.W.Frag} {mg : MG} {H : Hp} {σ : L2.St} : ∀ (is : List Nat) {G : Hp} {env : List C}, Ok K mg G H env σ → ∃ G', Ok K mg G' H (frzs is env) σ ∧ Same G G'
  | [], G, _, h => ⟨G, h, Same.refl _⟩
  | i :: is, G, env, h => by
    obtain ⟨G1, h1, s1⟩ := h.freeze i
    obtain ⟨G2, h2, s2⟩ := Ok.freezes is h1
    exact ⟨G2, h2, s1.trans s2⟩
def pBor (is : List Nat) (p : PTE) : PTE := fun env P => p (frzs is env) fun d => scalar d = true ∧ P d
theorem pu_bor (is : List Nat) (h : PuE X e pe) : PuE X e (pBor is pe) := by
  obtain ⟨t, h1, h2⟩ := h.ex
  refine ⟨t, h1, fun G H env σ P Q ok hp k => ?_⟩
  obtain ⟨G1, ok1, s1⟩ := ok.freezes is
  refine h2 G1 H _ σ _ _ ok1 hp fun d v G' H' x r q => ?_
  exact k d v G H' ⟨Same.refl _, x.h, ok.same.trans x.h, fun _ e n => absurd e n⟩ (r.scal q.1) q.2
def pBorT (is : List Nat) (p : PTT) : PTT := fun env P => p (frzs is env) P
theorem put_bor {pt : PTT} (is : List Nat) (h : PuT X e pt) : PuT X e (pBorT is pt) := by
  obtain ⟨t, h1, h2⟩ := h.ex
  refine ⟨t, h1, fun G H env σ P Q ok hp k => ?_⟩
  obtain ⟨G1, ok1, s1⟩ := ok.freezes is
  exact h2 G1 H _ σ _ _ ok1 hp fun b G' H' x q => k b G H' ⟨Same.refl _, x.h, ok.same.trans x.h, fun _ e n => absurd e n⟩ q

/-! ### a def's promise, its call -/
abbrev PSp := List D → (D → Prop) → Prop
def spP (K : PySem.W.Frag) (mg : MG) (f : PSp) : Sp := fun vs H Q _ => ∃ (G : Hp) (ds : List D) (P : D → Prop), Same G H ∧ Reps K mg G vs ds ∧ f ds P ∧
  ∀ d v G' H', Ext G H G' H' → Rep K mg G' v d → P d → Q v H'
def pCall (f : PSp) (ps : PTA) : PTE := fun env P => ps env fun ds => f ds P
theorem pu_call {k : Nat} {f : Addr} {fd : FuncData} {ns : List Str} {sp : PSp} {x : Str} {p' : Pos} (F : FnOk X.prog X.w X.K X.mg X.base CX0 k f fd ns (spP X.K X.mg sp)) (hr : Room k X.A) (hm : X.mg x = some (.ref f)) (hk : PySem.W.keepIn X.K (.ref f) = true)
    (hb : Binds X.K fd ns []) (h : PuA X (e :: es) ps) (hg : Gl X x := by rfl) (hdb : (x == ("__debug__" : Str)) = false := by decide) (he : starEach (e :: es) X.env = (false, eval e X.env) :: starEach es X.env := by rfl) (hpl : (backTo pos (starEach es X.env)).any (·.1) = false := by rfl) :
    PuE X (.Call (.Name x p') (e :: es) [] pos) (pCall sp ps) := by
  obtain ⟨t, h1, h2⟩ := h.ex
  refine ⟨_, pe_call F hr hg hm hk hb (dvs := []) .nil pass0 h1 hdb he hpl, fun G H env σ P Q ok hp kk => h2 G H env σ _ _ ok hp fun ds vs G' H' x r q => ?_⟩
  rw [List.append_nil]
  exact ⟨G', ds, P, x.s, r, q, fun d v G2 H2 y r2 q2 => kk d v G2 H2 (x.trans y) r2 q2⟩
theorem pu_call0 {k : Nat} {f : Addr} {fd : FuncData} {ns : List Str} {sp : PSp} {x : Str} {p' : Pos} (F : FnOk X.prog X.w X.K X.mg X.base CX0 k f fd ns (spP X.K X.mg sp)) (hr : Room k X.A) (hm : X.mg x = some (.ref f)) (hk : PySem.W.keepIn X.K (.ref f) = true)
    (hb : Binds X.K fd ns []) (hg : Gl X x := by rfl) (hdb : (x == ("__debug__" : Str)) = false := by decide) :
    PuE X (.Call (.Name x p') [] [] pos) (pCall sp paNil) := by
  refine ⟨_, pe_call0 F hr hg hm hk hb (dvs := []) .nil pass0 hdb, fun G H env σ P Q ok hp kk => ?_⟩
  exact ⟨G, [], P, ok.same, .nil, hp, fun d v G2 H2 y r2 q2 => kk d v G2 H2 y r2 q2⟩
/-- keywords: their values from the left -/
structure PuK (X : Cx) (kws : List Keyword) (p : PTA) : Prop where
  ex : ∃ t : TA, PK X kws t ∧ ∀ (G H : Hp) (env : List C) (σ : L2.St) (P : List D → Prop) (Q : List V → Hp → Prop), Ok X.K X.mg G H env σ → p env P →
    (∀ ds vs G' H', Ext G H G' H' → Reps X.K X.mg G' vs ds → P ds → Q vs H') → t σ H Q
theorem puk_nil : PuK X [] paNil := ⟨_, pk_nil, fun G H env σ P Q ok hp k => k [] [] G H (.refl ok.same) .nil hp⟩
theorem puk_cons {kws : List Keyword} {nm : Option Str} {kpos : Pos} (h : PuE X e pe) (g : PuK X kws ps) : PuK X (⟨nm, e, kpos⟩ :: kws) (paCons pe ps) := by
  obtain ⟨t, h1, h2⟩ := h.ex
  obtain ⟨u, g1, g2⟩ := g.ex
  refine ⟨_, pk_cons h1 g1, fun G H env σ P Q ok hp k => h2 G H env σ _ _ ok hp fun d v G' H' x r q => ?_⟩
  exact g2 G' H' env σ _ _ (ok.ext x) q fun ds vs G2 H2 y rs q2 => k (d :: ds) (v :: vs) G2 H2 (x.trans y) (.cons (r.mono y.g) rs) q2
theorem pe_callN0 {CX : CXT} {k : Nat} {f : Addr} {fd : FuncData} {ps ks : List Str} {sp : Sp} {E : XK} {x : Str} {p pos : Pos} {kws : List Keyword} {tk : TA} {g : List Value → List Value → List Value} {gV : List V → List V → List V}
    (F : FnOk X.prog X.w X.K X.mg X.base CX k f fd ps sp) (hr : Room k X.A) (hg : Gl X x) (hm : X.mg x = some (.ref f)) (hk : PySem.W.keepIn X.K (.ref f) = true) (hb : KBn X.K fd ps 0 ks g gV) (hx : Passes CX X E) (hkw : PK X kws tk)
    (hall : (backToKw pos (keywordEach kws X.env)).all (·.1.isSome) = true := by rfl) (hks : (backToKw pos (keywordEach kws X.env)).filterMap (·.1) = ks := by rfl) (hdb : (x == ("__debug__" : Str)) = false := by decide)
    (hpl : ((backTo pos (starEach [] X.env)).any (·.1) || (backToKw pos (keywordEach kws X.env)).any (·.1.isNone)) = false := by rfl) :
    PE X (.Call (.Name x p) [] kws pos) (tCallN 0 ks.length sp gV E tNil tk) := by
  refine ⟨fun pins s σ H Q I h => ?_⟩
  refine wpAny_Call_Name_kw (ld_glob I hg hm ?_ hdb)
  refine PySem.W.callWith_KW0 (h₀ := X.base) I.ok.mod.kin hk hall ?_ hpl
  refine thn (hkw.run pos pins s σ H _ I h) fun ws s2 ⟨zs, H2, I2, rz, l1, l2, q2⟩ => ⟨I2.kIn, ?_⟩
  rw [hks]
  exact run_fnN (us := []) (vs := []) F hr hb hx I2 .nil rz rfl l2 q2
/-- the parameters in order, each from the positional values or the keywords -/
structure PKB (K : PySem.W.Frag) (fd : FuncData) (ps : List Str) (n : Nat) (ks : List Str) (gD : List D → List D → List D) : Prop where
  ex : ∃ g gV, KBn K fd ps n ks g gV ∧ ∀ (mg : MG) (G : Hp) (vs zs : List V) (ds es : List D), Reps K mg G vs ds → Reps K mg G zs es → vs.length = n → zs.length = ks.length → Reps K mg G (gV vs zs) (gD ds es)
def pCallK (f : PSp) (n m : Nat) (gD : List D → List D → List D) (ps qs : PTA) : PTE := fun env P => ps env fun ds => qs env fun es => ds.length = n ∧ es.length = m ∧ f (gD ds es) P
theorem pu_callK {k n m : Nat} {f : Addr} {fd : FuncData} {ns ks : List Str} {sp : PSp} {x : Str} {p' : Pos} {kws : List Keyword} {qs : PTA} {gD : List D → List D → List D} (F : FnOk X.prog X.w X.K X.mg X.base CX0 k f fd ns (spP X.K X.mg sp)) (hr : Room k X.A) (hm : X.mg x = some (.ref f)) (hk : PySem.W.keepIn X.K (.ref f) = true)
    (hb : PKB X.K fd ns n ks gD) (hml : ks.length = m) (h : PuA X (e :: es) ps) (hkw : PuK X kws qs) (hg : Gl X x := by rfl) (hall : (backToKw pos (keywordEach kws X.env)).all (·.1.isSome) = true := by rfl) (hks : (backToKw pos (keywordEach kws X.env)).filterMap (·.1) = ks := by rfl)
    (hdb : (x == ("__debug__" : Str)) = false := by decide) (he : starEach (e :: es) X.env = (false, eval e X.env) :: starEach es X.env := by rfl)
    (hpl : ((backTo pos (starEach (e :: es) X.env)).any (·.1) || (backToKw pos (keywordEach kws X.env)).any (·.1.isNone)) = false := by rfl) :
    PuE X (.Call (.Name x p') (e :: es) kws pos) (pCallK sp n m gD ps qs) := by
  subst hml
  obtain ⟨t, h1, h2⟩ := h.ex
  obtain ⟨u, g1, g2⟩ := hkw.ex
  obtain ⟨g, gV, kb, kr⟩ := hb.ex
  refine ⟨_, pe_callN F hr hg hm hk kb pass0 h1 g1 hall hks hdb he hpl, fun G H env σ P Q ok hp kk => h2 G H env σ _ _ ok hp fun ds vs G' H' x r q => ?_⟩
  refine g2 G' H' env σ _ _ (ok.ext x) q fun es zs G2 H2 y rz q2 => ?_
  have r2 := r.mono y.g
  refine ⟨r2.length.trans q2.1, rz.length.trans q2.2.1, G2, _, P, y.s, kr _ _ _ _ _ _ r2 rz (r2.length.trans q2.1) (rz.length.trans q2.2.1), q2.2.2, fun d v G3 H3 z r3 q3 => kk d v G3 H3 ((x.trans y).trans z) r3 q3⟩
theorem pu_callK0 {k m : Nat} {f : Addr} {fd : FuncData} {ns ks : List Str} {sp : PSp} {x : Str} {p' : Pos} {kws : List Keyword} {qs : PTA} {gD : List D → List D → List D} (F : FnOk X.prog X.w X.K X.mg X.base CX0 k f fd ns (spP X.K X.mg sp)) (hr : Room k X.A) (hm : X.mg x = some (.ref f)) (hk : PySem.W.keepIn X.K (.ref f) = true)
    (hb : PKB X.K fd ns 0 ks gD) (hml : ks.length = m) (hkw : PuK X kws qs) (hg : Gl X x := by rfl) (hall : (backToKw pos (keywordEach kws X.env)).all (·.1.isSome) = true := by rfl) (hks : (backToKw pos (keywordEach kws X.env)).filterMap (·.1) = ks := by rfl)
    (hdb : (x == ("__debug__" : Str)) = false := by decide) (hpl : ((backTo pos (starEach [] X.env)).any (·.1) || (backToKw pos (keywordEach kws X.env)).any (·.1.isNone)) = false := by rfl) :
    PuE X (.Call (.Name x p') [] kws pos) (pCallK sp 0 m gD paNil qs) := by
  subst hml
  obtain ⟨u, g1, g2⟩ := hkw.ex
  obtain ⟨g, gV, kb, kr⟩ := hb.ex
  refine ⟨_, pe_callN0 F hr hg hm hk kb pass0 g1 hall hks hdb hpl, fun G H env σ P Q ok hp kk => g2 G H env σ _ _ ok hp fun es zs G2 H2 y rz q2 => ?_⟩
  refine ⟨rfl, rz.length.trans q2.2.1, G2, _, P, y.s, kr _ _ _ _ _ _ .nil rz rfl (rz.length.trans q2.2.1), q2.2.2, fun d v G3 H3 z r3 q3 => kk d v G3 H3 (y.trans z) r3 q3⟩
end

/-- the entry's slots -/
def startC (N : List Str) (ds : List D) : List C := ds.map .fz ++ List.replicate (N.length - ds.length) .un
theorem start_ok {K : PySem.W.Frag} {mg : MG} {G H : Hp} {N : List Str} {vs : List V} {ds : List D} (s : Same G H) (r : Reps K mg G vs ds) : Ok K mg G H (startC N ds) (L2.start N vs) := by
  have hl := r.length
  refine ⟨s, fun i c q => ?_, fun i j d e l q => ?_, by simp [startC, L2.start, hl]⟩
  · by_cases hi : i < ds.length
    · unfold startC at q
      rw [List.getElem?_append_left (by simpa using hi), List.getElem?_map] at q
      cases e : ds[i]? with
      | none => rw [e] at q; cases q
      | some d =>
        rw [e] at q; cases q
        obtain ⟨v, ev, rv⟩ := r.getD e
        refine ⟨v, ?_, rv⟩
        unfold L2.start
        rw [List.getElem?_append_left (by simpa [hl] using hi), List.getElem?_map, ev]; rfl
    · unfold startC at q
      rw [List.getElem?_append_right (by simpa using hi), List.getElem?_replicate] at q
      split at q
      · cases q; trivial
      · cases q
  · have : ∀ (k : Nat) (f : D), (startC N ds)[k]? ≠ some (.ow f) := fun k f z => by
      unfold startC at z
      by_cases hk : k < ds.length
      · rw [List.getElem?_append_left (by simpa using hk), List.getElem?_map] at z
        cases e : ds[k]? with
        | none => rw [e] at z; cases z
        | some d => rw [e] at z; cases z
      · rw [List.getElem?_append_right (by simpa using hk), List.getElem?_replicate] at z
        split at z <;> cases z
    exact absurd q (this i d)
/-- THE RULE for a def over data -/
theorem pfn {P : Program} {w : World} {K : PySem.W.Frag} {mg : MG} {base : Heap} {x qual : Str} {st : Stmt} {f : Addr} {fd : FuncData} {N ns : List Str} {k : Nat} {sp : PSp} (F : Fun K x qual st f fd) (S : FnScope N ns (defScope st)) (hlen : ∀ ds P, sp ds P → ds.length = ns.length)
    (hbody : ∀ (cdv : Value) (A : Around) (outer : List Env) (s : Shared) (H : Hp) (E : XK), Room k (A.deeper (envOfC qual (defScope st) s.heap.objs.size f cdv)) →
      ∃ p : PTS, PuSs (cxOf CX0 P w K mg base N qual (defScope st) f cdv A outer s H E).nox (defBody st) p ∧ ∀ ds Q, sp ds Q → p { nx := fun _ => Q .non, rt := Q } (startC N ds)) : FnOk P w K mg base CX0 (k + 1) f fd ns (spP K mg sp) := by
  refine F.ok S (fun vs H Q E h => ?_) (fun cdv A outer s H vs Q E hr h => ?_)
  · obtain ⟨G, ds, P', _, r, q, _⟩ := h
    rw [r.length]; exact hlen ds P' q
  · obtain ⟨G, ds, P', sm, r, q, kk⟩ := h
    obtain ⟨p, pb, hp⟩ := hbody cdv A outer s H E hr
    obtain ⟨t, t1, t2⟩ := pb.ex
    refine ⟨t, t1, t2 G H G H _ _ { nx := fun _ => P' .non, rt := P' } _ ⟨start_ok sm r, .refl sm, fun i d l q => ?_⟩ ⟨?_, ?_, ?_, ?_, fun _ _ _ _ _ _ _ _ z => z.elim, ⟨_, tk0, fun _ _ _ _ _ _ _ _ _ _ _ _ _ _ _ z => z.elim⟩⟩ (hp ds P' q)⟩
    · intro s1
      obtain ⟨m, e1, _, n⟩ := (start_ok (N := N) sm r).slot i _ q
      exfalso
      unfold startC at q
      by_cases hk : i < ds.length
      · rw [List.getElem?_append_left (by simpa using hk), List.getElem?_map] at q
        cases e : ds[i]? with
        | none => rw [e] at q; cases q
        | some d => rw [e] at q; cases q
      · rw [List.getElem?_append_right (by simpa using hk), List.getElem?_replicate] at q
        split at q <;> cases q
    · intro G' H' env σ r' z
      exact kk .non .non G' H' r'.ext .non z
    · intro G' H' env σ r' z; exact z
    · intro G' H' env σ r' z; exact z
    · intro G' H' d v x rp z
      exact kk d v G' H' x rp z
end PL
end

section
set_option linter.all false
set_option maxRecDepth 100000
set_option maxHeartbeats 4000000
set_option autoImplicit false
/-! PL5: list comprehensions over data. -/
namespace PL
open PySem PySem.Spec PyProof.Rows L2

/-- the tests of a clause -/
structure PuTs (X : Cx) (ifs : List Expr) (p : PTT) : Prop where
  ex : ∃ t : TT, PTs X ifs t ∧ ∀ (G H : Hp) (env : List C) (σ : L2.St) (P : Bool → Prop) (Q : Bool → Hp → Prop), Ok X.K X.mg G H env σ → p env P →
    (∀ b G' H', Ext G H G' H' → P b → Q b H') → t σ H Q
def pYes : PTT := fun _ P => P true
section
variable {X : Cx} {e : Expr} {pt : PTT}
theorem puts_nil : PuTs X [] pYes := ⟨_, pts_nil, fun G H env σ P Q ok hp k => k true G H (.refl ok.same) hp⟩
theorem puts_one (h : PuT X e pt) : PuTs X [e] pt := by
  obtain ⟨t, h1, h2⟩ := h.ex
  exact ⟨t, pts_one h1, h2⟩
end

def wipeC (env : List C) : List Nat → List C
  | [] => env
  | v :: vs => (wipeC env vs).set v .un
theorem Ok.un {K : PySem.W.Frag} {mg : MG} {G H : Hp} {env : List C} {σ : L2.St} (h : Ok K mg G H env σ) (i : Nat) : Ok K mg G H (env.set i .un) (σ.set i none) := by
  have low : ∀ {j : Nat} {e : D}, (env.set i .un)[j]? = some (.ow e) → j ≠ i ∧ env[j]? = some (.ow e) := fun {j e} q => by
    rw [List.getElem?_set] at q
    split at q
    · split at q <;> cases q
    · rename_i hij; exact ⟨Ne.symm hij, q⟩
  refine ⟨h.same, fun j c q => ?_, fun j k d e l q1 q2 z1 z2 => ?_, by simp [h.len]⟩
  · rw [List.getElem?_set] at q
    split at q
    · split at q
      · cases q; trivial
      · cases q
    · rename_i hij
      rw [List.getElem?_set_ne hij]
      exact h.slot j c q
  · obtain ⟨n1, e1⟩ := low q1
    obtain ⟨n2, e2⟩ := low q2
    rw [List.getElem?_set_ne (Ne.symm n1)] at z1
    rw [List.getElem?_set_ne (Ne.symm n2)] at z2
    exact h.apart j k d e l e1 e2 z1 z2
theorem Ok.wipe {K : PySem.W.Frag} {mg : MG} {G H : Hp} {env : List C} {σ : L2.St} (h : Ok K mg G H env σ) : ∀ vs : List Nat, Ok K mg G H (wipeC env vs) (wipe σ vs)
  | [] => h
  | v :: vs => (h.wipe vs).un v
theorem wipe_off {is : List Nat} {σ σ' : L2.St} (o : Off is σ σ') {vs : List Nat} (h : ∀ i ∈ is, i ∈ vs) : wipe σ' vs = wipe σ vs := by
  have key : ∀ (τ : L2.St) (j : Nat), (wipe τ vs)[j]? = if j ∈ vs ∧ j < τ.length then some none else τ[j]? := by
    intro τ j
    clear h
    induction vs with
    | nil => simp [wipe]
    | cons v vs ih =>
      unfold wipe
      rw [List.getElem?_set]
      by_cases hv : v = j
      · subst hv
        rw [wipe_length]
        by_cases hl : v < τ.length
        · simp [hl]
        · simp [hl]
      · rw [if_neg hv, ih]
        have : (j ∈ v :: vs) ↔ j ∈ vs := by simp [Ne.symm hv]
        simp only [this]
  apply List.ext_getElem?
  intro j
  rw [key, key, o.1]
  by_cases hj : j ∈ vs
  · by_cases hl : j < σ.length
    · simp [hj, hl]
    · rw [if_neg (fun z => hl z.2), if_neg (fun z => hl z.2), List.getElem?_eq_none (by rw [o.1]; omega), List.getElem?_eq_none (by omega)]
  · rw [if_neg (fun z => hj z.1), if_neg (fun z => hj z.1)]
    exact o.2 j fun z => hj (h j z)

/-- what a list comprehension makes: W by the turn and the items made so far -/
def pLc (pi : PTI) (vs : List Nat) (g : PTG) (pt : PTT) (pe : PTE) : PTE := fun env P => pi env fun S => ∃ W : Nat → List D → Prop, W 0 [] ∧
  (∀ k d acc, k < S.n → S.ob k d → W k acc → g d (wipeC env vs) fun env2 => pt env2 fun b => if b = true then pe env2 fun y => acc.length < sizeLine ∧ W (k + 1) (acc ++ [y]) else W (k + 1) acc) ∧
  ∀ acc, W S.n acc → P (.lst acc)
section
variable {X : Cx} {elt tg iter : Expr} {ifs : List Expr} {scope : Scope} {own : List (Str × Nat)} {pos : Pos} {pi : PTI} {g : PTG} {is : List Nat} {pt : PTT} {pe : PTE}
abbrev BlkG (X : Cx) (scope : Scope) (tg : Expr) (g : PTG) (is : List Nat) : Prop := ∀ (s : Shared) (H : Hp) (C : Addr) (cl : List (Str × Addr)) (fp : List Addr), PuG (X.blk s H scope (compEnvC scope cl C X.env) fp) tg g is
abbrev BlkT (X : Cx) (scope : Scope) (ifs : List Expr) (pt : PTT) : Prop := ∀ (s : Shared) (H : Hp) (C : Addr) (cl : List (Str × Addr)) (fp : List Addr), PuTs (X.blk s H scope (compEnvC scope cl C X.env) fp) ifs pt
abbrev BlkE (X : Cx) (scope : Scope) (elt : Expr) (pe : PTE) : Prop := ∀ (s : Shared) (H : Hp) (C : Addr) (cl : List (Str × Addr)) (fp : List Addr), PuE (X.blk s H scope (compEnvC scope cl C X.env) fp) elt pe
/-- the readings that serve every block -/
def allG (X : Cx) (scope : Scope) (tg : Expr) : TG := fun v σ H Q => ∀ (s : Shared) (H0 : Hp) (C : Addr) (cl : List (Str × Addr)) (fp : List Addr), ∃ t : TG, PG (X.blk s H0 scope (compEnvC scope cl C X.env) fp) tg t ∧ t v σ H Q
def allT (X : Cx) (scope : Scope) (ifs : List Expr) : TT := fun σ H Q => ∀ (s : Shared) (H0 : Hp) (C : Addr) (cl : List (Str × Addr)) (fp : List Addr), ∃ t : TT, PTs (X.blk s H0 scope (compEnvC scope cl C X.env) fp) ifs t ∧ t σ H Q
def allE (X : Cx) (scope : Scope) (elt : Expr) : TE := fun σ H Q => ∀ (s : Shared) (H0 : Hp) (C : Addr) (cl : List (Str × Addr)) (fp : List Addr), ∃ t : TE, PE (X.blk s H0 scope (compEnvC scope cl C X.env) fp) elt t ∧ t σ H Q
theorem allG_ok (s : Shared) (H : Hp) (C : Addr) (cl : List (Str × Addr)) (fp : List Addr) : PG (X.blk s H scope (compEnvC scope cl C X.env) fp) tg (allG X scope tg) :=
  ⟨fun pins s1 σ H1 v u Q I r h => let ⟨_, h1, h2⟩ := h s H C cl fp; h1.run pins s1 σ H1 v u Q I r h2⟩
theorem allT_ok (s : Shared) (H : Hp) (C : Addr) (cl : List (Str × Addr)) (fp : List Addr) : PTs (X.blk s H scope (compEnvC scope cl C X.env) fp) ifs (allT X scope ifs) :=
  ⟨fun pins s1 σ H1 Q I h => let ⟨_, h1, h2⟩ := h s H C cl fp; h1.run pins s1 σ H1 Q I h2⟩
theorem allE_ok (s : Shared) (H : Hp) (C : Addr) (cl : List (Str × Addr)) (fp : List Addr) : PE (X.blk s H scope (compEnvC scope cl C X.env) fp) elt (allE X scope elt) :=
  ⟨fun pins s1 σ H1 Q I h => let ⟨_, h1, h2⟩ := h s H C cl fp; h1.run pins s1 σ H1 Q I h2⟩
theorem lc_reads (hi : PuI X tg iter pi) (hg : BlkG X scope tg g is) (ht : BlkT X scope ifs pt) (he : BlkE X scope elt pe) (vs : List Nat) (hv : ∀ i ∈ is, i ∈ vs) :
    ∃ w : TI, PI X tg iter w ∧ ∀ (G H : Hp) (env : List C) (σ : L2.St) (P : D → Prop) (Q : VK), Ok X.K X.mg G H env σ → pLc pi vs g pt pe env P →
    (∀ d l G' H', Ext G H G' H' → Top X.K X.mg H' G' l d → G' l = none → H l = none → P d → Q (.ref l) H') → tLc w (allG X scope tg) (allT X scope ifs) (allE X scope elt) vs σ H Q := by
  obtain ⟨w, w1, w2⟩ := hi.ex
  refine ⟨w, w1, fun G H env σ P Q ok hp k => ?_⟩
  refine w2 G H env σ _ _ ok hp fun S J G1 H1 x1 wk ⟨W, w0, step, fin⟩ dd hD => ?_
  have nG1 : G1 dd = none := x1.s.free hD
  have ok1 := ok.ext x1
  have nown : ∀ (i : Nat) (d : D), env[i]? = some (.ow d) → ∀ l, σ[i]? = some (some (.ref l)) → l ≠ dd := fun i d q l hl z => by
    obtain ⟨m, e1, t1, _⟩ := ok1.slot i _ q
    rw [hl] at e1
    cases e1
    obtain ⟨o, ho⟩ := t1.some
    rw [z, hD] at ho; cases ho
  -- the state behind a turn
  have turn : ∀ (G2 H2 : Hp) (o : HO), Ok X.K X.mg G2 H2 env σ → Same G1 G2 → G2 dd = none → Same H1 H2 → (∀ a, G1 a = none → G2 a ≠ none → H1 a = none) → Ok X.K X.mg G2 (upd H2 dd o) env σ := fun G2 H2 o ok2 s2 n2 _ _ => by
    refine ⟨fun b u e => ?_, fun i c q => ?_, ok2.apart, ok2.len⟩
    · have : b ≠ dd := fun z => by subst z; rw [n2] at e; cases e
      rw [upd_ne this]; exact ok2.same _ _ e
    · have s := ok2.slot i c q
      cases c with
      | un => trivial
      | fz d => exact s
      | ow d =>
        obtain ⟨l, e1, t1, n1⟩ := s
        have ne := nown i d q l e1
        refine ⟨l, e1, ?_, n1⟩
        cases t1 with
        | lst a r => exact .lst (by rw [upd_ne ne]; exact a) r
        | dk a r => exact .dk (by rw [upd_ne ne]; exact a) r
        | dt a r => exact .dt (by rw [upd_ne ne]; exact a) r
        | slf a cm r => exact .slf (by rw [upd_ne ne]; exact a) cm r
  refine ⟨fun i m H' => m = S.n - i ∧ i ≤ S.n ∧ ∃ G' acc ys, Ok X.K X.mg G' H' env σ ∧ Same G1 G' ∧ Same H1 H' ∧ (∀ a, G1 a = none → G' a ≠ none → H1 a = none) ∧ G' dd = none ∧ H' dd = some (.lst ys) ∧ Reps X.K X.mg G' ys acc ∧ W i acc,
    ⟨S.n, by simp, Nat.zero_le _, G1, [], [], turn G1 H1 _ ok1 (Same.refl _) nG1 (Same.refl _) (fun _ e n => absurd e n), Same.refl _, Same.upd hD, fun _ e n => absurd e n, nG1, upd_same, .nil, w0⟩, ?_⟩
  rintro i m H2 ⟨rfl, hi, G2, acc, ys, ok2, s2, sH2, f2, n2, hd2, ra, w2'⟩
  by_cases hlt : i < S.n
  · refine .inr ⟨wk.go i G2 H2 s2 ok2.same hlt, fun H' => ∃ G' acc ys, Ok X.K X.mg G' H' env σ ∧ Same G1 G' ∧ Same H1 H' ∧ (∀ a, G1 a = none → G' a ≠ none → H1 a = none) ∧ G' dd = none ∧ H' dd = some (.lst ys) ∧ Reps X.K X.mg G' ys acc ∧ W (i + 1) acc, fun H' q => ⟨S.n - (i + 1), by omega, rfl, hlt, q⟩, fun xv H3 y => ?_⟩
    obtain ⟨G3, d, x3, rp, ob⟩ := wk.yld i G2 H2 xv H3 s2 ok2.same hlt y
    have ok3 := ok2.ext x3
    have okw := ok3.wipe vs
    have st := step i d acc hlt ob w2'
    have nd : ∀ {G' H' : Hp}, Ext G2 H2 G' H' → G' dd = none := fun {G' H'} x => by
      cases q : G' dd with
      | none => rfl
      | some o => 
        have := x.f dd n2 (by rw [q]; intro z; cases z)
        rw [hd2] at this; cases this
    intro sB HB CB clB fpB
    obtain ⟨tg', tg1, tg2⟩ := (hg sB HB CB clB fpB).ex
    refine ⟨tg', tg1, ?_⟩
    have rel : Rel X.K X.mg G3 G3 G3 H3 (wipeC env vs) (wipe σ vs) := ⟨okw, ⟨Same.refl _, okw.same, okw.same, fun _ e n => absurd e n⟩, fun j d' l q s => by
      obtain ⟨m, e1, _, n⟩ := okw.slot j _ q
      rw [e1] at s; cases s; exact n⟩
    refine tg2 G3 G3 G3 H3 _ _ d xv _ _ rel rp st fun env4 σ4 r4 o4 q4 => ⟨wipe_off o4 hv |>.trans ?_, ?_⟩
    · -- wiping twice
      have : ∀ vs' : List Nat, (∀ i ∈ vs', i ∈ vs) → wipe (wipe σ vs) vs = wipe σ vs := fun _ _ => by
        apply List.ext_getElem?
        intro j
        have key : ∀ (us : List Nat) (τ : L2.St) (j : Nat), (wipe τ us)[j]? = if j ∈ us ∧ j < τ.length then some none else τ[j]? := by
          intro us τ j
          induction us with
          | nil => simp [wipe]
          | cons v us ih =>
            unfold wipe
            rw [List.getElem?_set]
            by_cases hv : v = j
            · subst hv
              rw [wipe_length]
              by_cases hl : v < τ.length
              · simp [hl]
              · simp [hl]
            · rw [if_neg hv, ih]
              have : (j ∈ v :: us) ↔ j ∈ us := by simp [Ne.symm hv]
              simp only [this]
        rw [key, key, wipe_length]
        split <;> simp_all
      exact this vs fun _ h => h
    · intro sT HT CT clT fpT
      obtain ⟨tt', tt1, tt2⟩ := (ht sT HT CT clT fpT).ex
      refine ⟨tt', tt1, tt2 G3 H3 env4 σ4 _ _ r4.ok q4 fun b G5 H5 x5 q5 => ?_⟩
      have chain5 : Ext G2 H2 G5 H5 := x3.trans x5
      cases b with
      | false =>
        simp only [Bool.false_eq_true, if_false] at q5 ⊢
        refine ⟨G5, acc, ys, ok2.ext chain5, s2.trans chain5.g, sH2.trans chain5.h, fun a e n => ?_, nd chain5, chain5.h _ _ hd2, ra.mono chain5.g, q5⟩
        by_cases z : G2 a = none
        · exact sH2.free (chain5.f a z n)
        · exact f2 a e z
      | true =>
        simp only [if_true] at q5 ⊢
        intro sE HE CE clE fpE
        obtain ⟨te', te1, te2⟩ := (he sE HE CE clE fpE).ex
        refine ⟨te', te1, te2 G5 H5 env4 σ4 _ _ (r4.ok.ext x5) q5 fun yd yv G6 H6 x6 ry q6 => ?_⟩
        have chain6 : Ext G2 H2 G6 H6 := chain5.trans x6
        have ok6 := ok2.ext chain6
        have n6 := nd chain6
        have f6 : ∀ a, G1 a = none → G6 a ≠ none → H1 a = none := fun a e n => by
          by_cases z : G2 a = none
          · exact sH2.free (chain6.f a z n)
          · exact f2 a e z
        refine ⟨ys, chain6.h _ _ hd2, by rw [ra.length]; exact q6.1, G6, acc ++ [yd], ys ++ [yv], turn G6 H6 _ ok6 (s2.trans chain6.g) n6 (sH2.trans chain6.h) f6, s2.trans chain6.g, fun b u e => ?_, f6, n6, upd_same, (ra.mono chain6.g).append (.cons ry .nil), q6.2⟩
        have : b ≠ dd := fun z => by subst z; rw [hD] at e; cases e
        rw [upd_ne this]; exact chain6.h _ _ (sH2 _ _ e)
  · have e : i = S.n := by omega
    subst e
    refine .inl ⟨wk.stop G2 H2 s2 ok2.same, k (.lst acc) dd G2 H2 ⟨x1.g.trans s2, x1.h.trans sH2, ok2.same, fun a e n => ?_⟩ (.lst hd2 ra) n2 (x1.h.free hD) (fin acc w2')⟩
    by_cases z : G1 a = none
    · exact x1.h.free (f2 a z n)
    · exact x1.f a e z
theorem puf_lc {vs : List Nat} (hc : X.calm = true) (hN : X.N.Nodup) (hi : PuI X tg iter pi) (ok : BlkOk X.N X.env.scope scope own) (hg : BlkG X scope tg g is) (ht : BlkT X scope ifs pt) (he : BlkE X scope elt pe)
    (hvs : own.map (·.2) = vs := by rfl) (hv : ∀ i ∈ is, i ∈ vs := by decide) (hs : ∀ x, foldedSetIterable iter X.env x = pure x := by intro _; rfl) : PuF X (.ListComp elt [⟨tg, iter, ifs, 0⟩] scope pos) (pLc pi vs g pt pe) := by
  subst hvs
  obtain ⟨w, w1, w2⟩ := lc_reads hi hg ht he (own.map (·.2)) hv
  exact ⟨_, pe_lc hc hN w1 ok allG_ok allT_ok allE_ok hs, w2⟩
/-- y = [..] -/
theorem pus_setLc (i : Nat) {vs : List Nat} {y : Str} {py spos : Pos} (hc : X.calm = true) (hN : X.N.Nodup) (hi : PuI X tg iter pi) (ok : BlkOk X.N X.env.scope scope own) (hg : BlkG X scope tg g is) (ht : BlkT X scope ifs pt) (he : BlkE X scope elt pe)
    (hy : X.N[i]? = some y := by rfl) (hyl : X.env.scope.names.lookup y = some .local := by rfl)
    (hsw : swapsWith (.ListComp elt [⟨tg, iter, ifs, 0⟩] scope pos) (some (.Name y py)) spos.line X.env = pure true := by exact sw_true rfl rfl rfl (by decide +kernel))
    (hvs : own.map (·.2) = vs := by rfl) (hv : ∀ i ∈ is, i ∈ vs := by decide) (hs : ∀ x, foldedSetIterable iter X.env x = pure x := by intro _; rfl) :
    PuS X (.Assign [.Name y py] (.ListComp elt [⟨tg, iter, ifs, 0⟩] scope pos) spos) (pSetO i (pLc pi vs g pt pe)) := by
  subst hvs
  obtain ⟨w, w1, w2⟩ := lc_reads hi hg ht he (own.map (·.2)) hv
  refine ⟨_, ps_setLc hc hN hy hyl hsw w1 ok allG_ok allT_ok allE_ok hs, fun G0 H0 G H env σ PD E r okE hp => ?_⟩
  refine w2 G H env σ _ _ r.ok hp fun d l G' H' x rp n nH z => ?_
  exact okE.nx G' H' _ _ (setOw_of i r x rp n nH) z
end
end PL
end

section
set_option linter.all false
set_option maxRecDepth 100000
set_option maxHeartbeats 4000000
set_option autoImplicit false
/-! PL6: built-ins over data. -/
namespace PL
open PySem PySem.Spec PyProof.Rows L2

/-- a call by values, carried by a function of data -/
def CallOk (X : Cx) (r : List V → Hp → VK → Prop) (f : PSp) : Prop := ∀ (G H : Hp) (vs : List V) (ds : List D) (P : D → Prop) (Q : VK), Same G H → Shals X.K X.mg H G vs ds → f ds P →
  (∀ d u G' H', Ext G H G' H' → Rep X.K X.mg G' u d → P d → Q u H') → r vs H Q
/-- .. that makes a new cell -/
def CallFOk (X : Cx) (r : List V → Hp → VK → Prop) (f : PSp) : Prop := ∀ (G H : Hp) (vs : List V) (ds : List D) (P : D → Prop) (Q : VK), Same G H → Shals X.K X.mg H G vs ds → f ds P →
  (∀ d l G' H', Ext G H G' H' → Top X.K X.mg H' G' l d → G' l = none → H l = none → P d → Q (.ref l) H') → r vs H Q
section
variable {X : Cx} {e a b : Expr} {es : List Expr} {pe pa pb : PTE} {ps : PTA} {pos p' : Pos} {x : Str} {id : String} {r : List V → Hp → VK → Prop} {f : PSp}
theorem pu_bi (hc : CallR X (.builtin id) r) (hf : CallOk X r f) (hm : X.mg x = none) (h : PuAO X (e :: es) ps) (hg : Gl X x := by rfl) (hv : bootBuiltins x = some (.builtin id) := by decide +kernel) (hn : x ≠ "__name__" := by decide) (hdb : (x == ("__debug__" : Str)) = false := by decide)
    (he : starEach (e :: es) X.env = (false, eval e X.env) :: starEach es X.env := by rfl) (hpl : (backTo pos (starEach es X.env)).any (·.1) = false := by rfl) : PuE X (.Call (.Name x p') (e :: es) [] pos) (pCall f ps) := by
  obtain ⟨t, h1, h2⟩ := h.ex
  refine ⟨_, pe_callB hc hg hm hv h1 hn hdb he hpl, fun G H env σ P Q ok hp k => h2 G H env σ _ _ ok hp fun ds vs G' H' y rs q => ?_⟩
  exact hf G' H' vs ds P Q y.s rs q fun d u G2 H2 z r2 q2 => k d u G2 H2 (y.trans z) r2 q2
theorem pu_ty {T : String} (hc : CallR X (.type T) r) (hf : CallOk X r f) (hm : X.mg x = none) (h : PuAO X (e :: es) ps) (hg : Gl X x := by rfl) (hv : bootBuiltins x = some (.type T) := by decide +kernel) (hn : x ≠ "__name__" := by decide) (hdb : (x == ("__debug__" : Str)) = false := by decide)
    (he : starEach (e :: es) X.env = (false, eval e X.env) :: starEach es X.env := by rfl) (hpl : (backTo pos (starEach es X.env)).any (·.1) = false := by rfl) : PuE X (.Call (.Name x p') (e :: es) [] pos) (pCall f ps) := by
  obtain ⟨t, h1, h2⟩ := h.ex
  refine ⟨_, pe_callTy hc hg hm hv h1 hn hdb he hpl, fun G H env σ P Q ok hp k => h2 G H env σ _ _ ok hp fun ds vs G' H' y rs q => ?_⟩
  exact hf G' H' vs ds P Q y.s rs q fun d u G2 H2 z r2 q2 => k d u G2 H2 (y.trans z) r2 q2
theorem puf_bi (hc : CallR X (.builtin id) r) (hf : CallFOk X r f) (hm : X.mg x = none) (h : PuAO X (e :: es) ps) (hg : Gl X x := by rfl) (hv : bootBuiltins x = some (.builtin id) := by decide +kernel) (hn : x ≠ "__name__" := by decide) (hdb : (x == ("__debug__" : Str)) = false := by decide)
    (he : starEach (e :: es) X.env = (false, eval e X.env) :: starEach es X.env := by rfl) (hpl : (backTo pos (starEach es X.env)).any (·.1) = false := by rfl) : PuF X (.Call (.Name x p') (e :: es) [] pos) (pCall f ps) := by
  obtain ⟨t, h1, h2⟩ := h.ex
  refine ⟨_, pe_callB hc hg hm hv h1 hn hdb he hpl, fun G H env σ P Q ok hp k => h2 G H env σ _ _ ok hp fun ds vs G' H' y rs q => ?_⟩
  exact hf G' H' vs ds P Q y.s rs q fun d l G2 H2 z r2 n1 n2 q2 => k d l G2 H2 (y.trans z) r2 n1 (y.h.free n2) q2
theorem puf_ty {T : String} (hc : CallR X (.type T) r) (hf : CallFOk X r f) (hm : X.mg x = none) (h : PuAO X (e :: es) ps) (hg : Gl X x := by rfl) (hv : bootBuiltins x = some (.type T) := by decide +kernel) (hn : x ≠ "__name__" := by decide) (hdb : (x == ("__debug__" : Str)) = false := by decide)
    (he : starEach (e :: es) X.env = (false, eval e X.env) :: starEach es X.env := by rfl) (hpl : (backTo pos (starEach es X.env)).any (·.1) = false := by rfl) : PuF X (.Call (.Name x p') (e :: es) [] pos) (pCall f ps) := by
  obtain ⟨t, h1, h2⟩ := h.ex
  refine ⟨_, pe_callTy hc hg hm hv h1 hn hdb he hpl, fun G H env σ P Q ok hp k => h2 G H env σ _ _ ok hp fun ds vs G' H' y rs q => ?_⟩
  exact hf G' H' vs ds P Q y.s rs q fun d l G2 H2 z r2 n1 n2 q2 => k d l G2 H2 (y.trans z) r2 n1 (y.h.free n2) q2

/-! ### len -/
def lenP : PSp := fun ds P => match ds with
  | [.lst xs] => P (.int xs.length)
  | [.tup xs] => P (.int xs.length)
  | [.scr xs] => P (.int xs.length)
  | [.str z] => z.length ≤ sizeLine ∧ P (.int z.length)
  | [.dk kvs] => P (.int kvs.length)
  | _ => False
theorem one_shal {K : PySem.W.Frag} {mg : MG} {G H : Hp} {vs : List V} {d : D} (h : Shals K mg H G vs [d]) : ∃ v, vs = [v] ∧ Shal K mg H G v d := by
  cases h with
  | cons r t => cases t; exact ⟨_, rfl, r⟩
theorem two_shal {K : PySem.W.Frag} {mg : MG} {G H : Hp} {vs : List V} {d f : D} (h : Shals K mg H G vs [d, f]) : ∃ v w, vs = [v, w] ∧ Shal K mg H G v d ∧ Shal K mg H G w f := by
  cases h with
  | cons r t =>
    obtain ⟨w, rfl, r2⟩ := one_shal t
    exact ⟨_, _, rfl, r, r2⟩
theorem three_shal {K : PySem.W.Frag} {mg : MG} {G H : Hp} {vs : List V} {d f g : D} (h : Shals K mg H G vs [d, f, g]) : ∃ v w u, vs = [v, w, u] ∧ Shal K mg H G v d ∧ Shal K mg H G w f ∧ Shal K mg H G u g := by
  cases h with
  | cons r t =>
    obtain ⟨w, u, rfl, r2, r3⟩ := two_shal t
    exact ⟨_, _, _, rfl, r, r2, r3⟩
def rLenAll (K : PySem.W.Frag) : List V → Hp → VK → Prop := fun xs H Q => (∃ x n, xs = [x] ∧ LenV K x H n ∧ Q (.int n) H) ∨ ∃ a kvs, xs = [V.ref a] ∧ Rd H a (.dK kvs) ∧ Q (.int kvs.length) H
theorem call_lenRd : CallR X (.builtin "len") (fun xs H Q => ∃ a kvs, xs = [V.ref a] ∧ Rd H a (.dK kvs) ∧ Q (.int kvs.length) H) := by
  intro pins s σ H xs us Q I r ⟨a, kvs, e, ha, q⟩
  subst e
  obtain ⟨u, rfl, ru⟩ := vals1 r
  cases ru
  refine d_len I ha fun t s' J => ⟨.int kvs.length, H, J, ⟨t, rfl⟩, q⟩
theorem cr_len : CallR X (.builtin "len") (rLenAll X.K) := CallR.or call_len call_lenRd
theorem lenP_ok : CallOk X (rLenAll X.K) lenP := by
  intro G H vs ds P Q s rs h k
  unfold lenP at h
  split at h
  · obtain ⟨v, rfl, r⟩ := one_shal rs
    obtain ⟨l, ws, rfl, hl, rr⟩ := r.lst s
    exact .inl ⟨_, _, rfl, .inl ⟨ws, SqL.of hl, rfl⟩, k _ _ G H (.refl s) (by rw [rr.length]; exact .int _) h⟩
  · obtain ⟨v, rfl, r⟩ := one_shal rs
    obtain ⟨l, ws, rfl, hl, rr⟩ := r.tup s
    exact .inl ⟨_, _, rfl, .inr ⟨ws, SqT.of hl, rfl⟩, k _ _ G H (.refl s) (by rw [rr.length]; exact .int _) h⟩
  · obtain ⟨v, rfl, r⟩ := one_shal rs
    obtain ⟨l, ws, rfl, hl, rr⟩ := r.scr s
    exact .inl ⟨_, _, rfl, .inl ⟨ws, hl, rfl⟩, k _ _ G H (.refl s) (by rw [rr.length]; exact .int _) h⟩
  · obtain ⟨v, rfl, r⟩ := one_shal rs
    cases r.str
    exact .inl ⟨_, _, rfl, ⟨h.1, rfl⟩, k _ _ G H (.refl s) (.int _) h.2⟩
  · obtain ⟨v, rfl, r⟩ := one_shal rs
    obtain ⟨l, ws, rfl, hl, rr⟩ := r.dk s
    exact .inr ⟨l, ws, rfl, hl, k _ _ G H (.refl s) (by rw [rr.rel.length]; exact .int _) h⟩
  · exact h.elim
theorem pu_len (hm : X.mg "len" = none) (h : PuO X a pa) (hs : starEach [a] X.env = (false, eval a X.env) :: starEach [] X.env := by rfl) (hg : Gl X "len" := by rfl) : PuE X (.Call (.Name "len" p') [a] [] pos) (pCall lenP (paCons pa paNil)) :=
  pu_bi cr_len lenP_ok hm (puao_cons h puao_nil hs) hg (by decide +kernel) (by decide) (by decide) hs rfl

/-! ### int, min, max, sum -/
def intP : PSp := fun ds P => match ds with
  | [.int i] => P (.int i)
  | [.bl k] => P (.int (if k then 1 else 0))
  | _ => False
theorem intP_ok : CallOk X (fun xs H Q => (∃ i, xs = [.int i] ∧ Q (.int i) H) ∨ ∃ k, xs = [.bl k] ∧ Q (.int (if k then 1 else 0)) H) intP := by
  intro G H vs ds P Q s rs h k
  unfold intP at h
  split at h
  · obtain ⟨v, rfl, r⟩ := one_shal rs
    cases r.int
    exact .inl ⟨_, rfl, k _ _ G H (.refl s) (.int _) h⟩
  · obtain ⟨v, rfl, r⟩ := one_shal rs
    cases r.bl
    exact .inr ⟨_, rfl, k _ _ G H (.refl s) (.int _) h⟩
  · exact h.elim
theorem pu_int1 (hm : X.mg "int" = none) (h : PuO X a pa) (hs : starEach [a] X.env = (false, eval a X.env) :: starEach [] X.env := by rfl) (hg : Gl X "int" := by rfl) : PuE X (.Call (.Name "int" p') [a] [] pos) (pCall intP (paCons pa paNil)) :=
  pu_ty call_int1 intP_ok hm (puao_cons h puao_nil hs) hg (by decide +kernel) (by decide) (by decide) hs rfl

theorem call_max3 (hc : X.calm = true) : CallR X (.builtin "max") (fun xs H Q => ∃ i j k, xs = [.int i, .int j, .int k] ∧ Q (.int (max (max i j) k)) H) := by
  intro pins s σ H xs us Q I r h
  obtain ⟨i, j, k, rfl, q⟩ := h
  cases r with
  | cons r1 r => cases r with
    | cons r2 r => cases r with
      | cons r3 r =>
        cases r
        obtain ⟨t1, rfl⟩ := r1
        obtain ⟨t2, rfl⟩ := r2
        obtain ⟨t3, rfl⟩ := r3
        refine max_three_ints (I.ok.hd hc) fun h' tk kk => ⟨_, H, I.kept kk, ?_, q⟩
        by_cases h1 : j > i
        · rw [if_pos h1]
          by_cases h2 : k > j
          · rw [if_pos h2]; exact ⟨_, by rw [show max (max i j) k = k by omega]⟩
          · rw [if_neg h2]; exact ⟨_, by rw [show max (max i j) k = j by omega]⟩
        · rw [if_neg h1]
          by_cases h2 : k > i
          · rw [if_pos h2]; exact ⟨_, by rw [show max (max i j) k = k by omega]⟩
          · rw [if_neg h2]; exact ⟨_, by rw [show max (max i j) k = i by omega]⟩
theorem call_min3 (hc : X.calm = true) : CallR X (.builtin "min") (fun xs H Q => ∃ i j k, xs = [.int i, .int j, .int k] ∧ Q (.int (min (min i j) k)) H) := by
  intro pins s σ H xs us Q I r h
  obtain ⟨i, j, k, rfl, q⟩ := h
  cases r with
  | cons r1 r => cases r with
    | cons r2 r => cases r with
      | cons r3 r =>
        cases r
        obtain ⟨t1, rfl⟩ := r1
        obtain ⟨t2, rfl⟩ := r2
        obtain ⟨t3, rfl⟩ := r3
        refine min_three_ints (I.ok.hd hc) fun h' tk kk => ⟨_, H, I.kept kk, ?_, q⟩
        by_cases h1 : j < i
        · rw [if_pos h1]
          by_cases h2 : k < j
          · rw [if_pos h2]; exact ⟨_, by rw [show min (min i j) k = k by omega]⟩
          · rw [if_neg h2]; exact ⟨_, by rw [show min (min i j) k = j by omega]⟩
        · rw [if_neg h1]
          by_cases h2 : k < i
          · rw [if_pos h2]; exact ⟨_, by rw [show min (min i j) k = k by omega]⟩
          · rw [if_neg h2]; exact ⟨_, by rw [show min (min i j) k = i by omega]⟩
def intsOf : List D → Option (List Int)
  | [] => some []
  | .int i :: ds => (intsOf ds).map (i :: ·)
  | _ :: _ => none
theorem intsOf_eq : ∀ {ds : List D} {ns : List Int}, intsOf ds = some ns → ds = ns.map D.int
  | [], ns, h => by cases h; rfl
  | .int i :: ds, ns, h => by
    unfold intsOf at h
    cases e : intsOf ds with
    | none => rw [e] at h; cases h
    | some ms => rw [e] at h; cases h; rw [intsOf_eq e]; rfl
  | .non :: ds, ns, h => by cases h
  | .bl _ :: ds, ns, h => by cases h
  | .str _ :: ds, ns, h => by cases h
  | .tup _ :: ds, ns, h => by cases h
  | .lst _ :: ds, ns, h => by cases h
  | .scr _ :: ds, ns, h => by cases h
  | .dk _ :: ds, ns, h => by cases h
  | .dt _ :: ds, ns, h => by cases h
  | .obj _ _ :: ds, ns, h => by cases h
  | .err _ _ :: ds, ns, h => by cases h
theorem intsOf_map (ns : List Int) : intsOf (ns.map D.int) = some ns := by
  induction ns with
  | nil => rfl
  | cons n ns ih => simp [intsOf, ih]
theorem reps_ints {K : PySem.W.Frag} {mg : MG} {G : Hp} {vs : List V} {ds : List D} {ns : List Int} (r : Reps K mg G vs ds) (h : intsOf ds = some ns) : vs = ns.map V.int := by
  rw [intsOf_eq h] at r; exact r.ints
/-- the items of a list, tuple or the script -/
def lstOf : D → Option (List D)
  | .lst ds => some ds
  | .scr ds => some ds
  | _ => none
theorem Shal.sql {K : PySem.W.Frag} {mg : MG} {G H : Hp} {v : V} {d : D} {ds : List D} (h : Shal K mg H G v d) (s : Same G H) (e : lstOf d = some ds) : ∃ l vs, v = .ref l ∧ SqL K H l vs ∧ Reps K mg G vs ds := by
  cases d with
  | lst ds' =>
    cases e
    obtain ⟨l, vs, a, b, c⟩ := h.lst s
    exact ⟨l, vs, a, SqL.of b, c⟩
  | scr ds' => cases e; exact h.scr s
  | non => cases e
  | bl _ => cases e
  | int _ => cases e
  | str _ => cases e
  | tup _ => cases e
  | dk _ => cases e
  | dt _ => cases e
  | obj _ _ => cases e
  | err _ _ => cases e
def maxP : PSp := fun ds P => match ds with
  | [.int i, .int j] => P (.int (max i j))
  | [.int i, .int j, .int k] => P (.int (max (max i j) k))
  | [d] => ∃ xs ns, lstOf d = some xs ∧ intsOf xs = some ns ∧ 0 < ns.length ∧ ∀ m, m ∈ ns → (∀ y, y ∈ ns → y ≤ m) → P (.int m)
  | _ => False
def minP : PSp := fun ds P => match ds with
  | [.int i, .int j] => P (.int (min i j))
  | [.int i, .int j, .int k] => P (.int (min (min i j) k))
  | [d] => ∃ xs ns, lstOf d = some xs ∧ intsOf xs = some ns ∧ 0 < ns.length ∧ ∀ m, m ∈ ns → (∀ y, y ∈ ns → m ≤ y) → P (.int m)
  | _ => False
def rMaxAll (K : PySem.W.Frag) : List V → Hp → VK → Prop := fun xs H Q => (∃ i j, xs = [.int i, .int j] ∧ Q (.int (if j > i then j else i)) H) ∨ (∃ i j k, xs = [.int i, .int j, .int k] ∧ Q (.int (max (max i j) k)) H) ∨ rMax K xs H Q
def rMinAll (K : PySem.W.Frag) : List V → Hp → VK → Prop := fun xs H Q => (∃ i j, xs = [.int i, .int j] ∧ Q (.int (if j < i then j else i)) H) ∨ (∃ i j k, xs = [.int i, .int j, .int k] ∧ Q (.int (min (min i j) k)) H) ∨ rMin K xs H Q
theorem maxP_ok : CallOk X (rMaxAll X.K) maxP := by
  intro G H vs ds P Q s rs h k
  unfold maxP at h
  split at h
  · rename_i i j
    obtain ⟨v, w, rfl, r1, r2⟩ := two_shal rs
    cases r1.int; cases r2.int
    refine .inl ⟨_, _, rfl, ?_⟩
    rw [show (if j > i then j else i) = max i j by omega]
    exact k _ _ G H (.refl s) (.int _) h
  · obtain ⟨v, w, u, rfl, r1, r2, r3⟩ := three_shal rs
    cases r1.int; cases r2.int; cases r3.int
    exact .inr (.inl ⟨_, _, _, rfl, k _ _ G H (.refl s) (.int _) h⟩)
  · obtain ⟨xs, ns, e1, e2, e3, h⟩ := h
    obtain ⟨v, rfl, r⟩ := one_shal rs
    obtain ⟨l, ws, rfl, hl, rr⟩ := r.sql s e1
    have ew := reps_ints rr e2
    subst ew
    exact .inr (.inr ⟨l, ns, rfl, hl, e3, fun m hm hle => k _ _ G H (.refl s) (.int _) (h m hm hle)⟩)
  · exact h.elim
theorem minP_ok : CallOk X (rMinAll X.K) minP := by
  intro G H vs ds P Q s rs h k
  unfold minP at h
  split at h
  · rename_i i j
    obtain ⟨v, w, rfl, r1, r2⟩ := two_shal rs
    cases r1.int; cases r2.int
    refine .inl ⟨_, _, rfl, ?_⟩
    rw [show (if j < i then j else i) = min i j by omega]
    exact k _ _ G H (.refl s) (.int _) h
  · obtain ⟨v, w, u, rfl, r1, r2, r3⟩ := three_shal rs
    cases r1.int; cases r2.int; cases r3.int
    exact .inr (.inl ⟨_, _, _, rfl, k _ _ G H (.refl s) (.int _) h⟩)
  · obtain ⟨xs, ns, e1, e2, e3, h⟩ := h
    obtain ⟨v, rfl, r⟩ := one_shal rs
    obtain ⟨l, ws, rfl, hl, rr⟩ := r.sql s e1
    have ew := reps_ints rr e2
    subst ew
    exact .inr (.inr ⟨l, ns, rfl, hl, e3, fun m hm hle => k _ _ G H (.refl s) (.int _) (h m hm hle)⟩)
  · exact h.elim
theorem cr_maxAll (hc : X.calm = true) : CallR X (.builtin "max") (rMaxAll X.K) := CallR.or (call_max2 hc) (CallR.or (call_max3 hc) (cr_max hc))
theorem cr_minAll (hc : X.calm = true) : CallR X (.builtin "min") (rMinAll X.K) := CallR.or (call_min2 hc) (CallR.or (call_min3 hc) (cr_min hc))
theorem pu_max (hc : X.calm = true) (hm : X.mg "max" = none) (h : PuAO X (e :: es) ps) (hg : Gl X "max" := by rfl) (he : starEach (e :: es) X.env = (false, eval e X.env) :: starEach es X.env := by rfl) (hpl : (backTo pos (starEach es X.env)).any (·.1) = false := by rfl) :
    PuE X (.Call (.Name "max" p') (e :: es) [] pos) (pCall maxP ps) := pu_bi (cr_maxAll hc) maxP_ok hm h hg (by decide +kernel) (by decide) (by decide) he hpl
theorem pu_min (hc : X.calm = true) (hm : X.mg "min" = none) (h : PuAO X (e :: es) ps) (hg : Gl X "min" := by rfl) (he : starEach (e :: es) X.env = (false, eval e X.env) :: starEach es X.env := by rfl) (hpl : (backTo pos (starEach es X.env)).any (·.1) = false := by rfl) :
    PuE X (.Call (.Name "min" p') (e :: es) [] pos) (pCall minP ps) := pu_bi (cr_minAll hc) minP_ok hm h hg (by decide +kernel) (by decide) (by decide) he hpl
def sumP : PSp := fun ds P => match ds with
  | [d] => ∃ xs ns, lstOf d = some xs ∧ intsOf xs = some ns ∧ P (.int ns.sum)
  | _ => False
theorem sumP_ok : CallOk X (rSum X.K) sumP := by
  intro G H vs ds P Q s rs h k
  unfold sumP at h
  split at h
  · obtain ⟨xs, ns, e1, e2, h⟩ := h
    obtain ⟨v, rfl, r⟩ := one_shal rs
    obtain ⟨l, ws, rfl, hl, rr⟩ := r.sql s e1
    have ew := reps_ints rr e2
    subst ew
    exact ⟨l, ns, rfl, hl, k _ _ G H (.refl s) (.int _) h⟩
  · exact h.elim
theorem pu_sum (hc : X.calm = true) (hm : X.mg "sum" = none) (h : PuO X a pa) (hs : starEach [a] X.env = (false, eval a X.env) :: starEach [] X.env := by rfl) (hg : Gl X "sum" := by rfl) : PuE X (.Call (.Name "sum" p') [a] [] pos) (pCall sumP (paCons pa paNil)) :=
  pu_bi (cr_sum hc) sumP_ok hm (puao_cons h puao_nil hs) hg (by decide +kernel) (by decide) (by decide) hs rfl

/-! ### list, tuple, sorted -/
def itemsOf : D → Option (List D)
  | .lst ds => some ds
  | .scr ds => some ds
  | .tup ds => some ds
  | _ => none
def listP : PSp := fun ds P => match ds with
  | [d] => ∃ xs, itemsOf d = some xs ∧ P (.lst xs)
  | _ => False
theorem Shal.items {K : PySem.W.Frag} {mg : MG} {G H : Hp} {v : V} {d : D} {ds : List D} (h : Shal K mg H G v d) (s : Same G H) (e : itemsOf d = some ds) : ∃ l vs, v = .ref l ∧ (SqL K H l vs ∨ SqT K H l vs) ∧ Reps K mg G vs ds := by
  cases d with
  | lst ds' =>
    cases e
    obtain ⟨l, vs, a, b, c⟩ := h.lst s
    exact ⟨l, vs, a, .inl (SqL.of b), c⟩
  | scr ds' =>
    cases e
    obtain ⟨l, vs, a, b, c⟩ := h.scr s
    exact ⟨l, vs, a, .inl b, c⟩
  | tup ds' =>
    cases e
    obtain ⟨l, vs, a, b, c⟩ := h.tup s
    exact ⟨l, vs, a, .inr (SqT.of b), c⟩
  | non => cases e
  | bl _ => cases e
  | int _ => cases e
  | str _ => cases e
  | dk _ => cases e
  | dt _ => cases e
  | obj _ _ => cases e
  | err _ _ => cases e
theorem listP_ok : CallFOk X (fun xs H Q => ∃ p ys, xs = [.ref p] ∧ (SqL X.K H p ys ∨ SqT X.K H p ys) ∧ ∀ l, H l = none → Q (.ref l) (upd H l (.lst ys))) listP := by
  intro G H vs ds P Q s rs h k
  unfold listP at h
  split at h
  · obtain ⟨xs, e1, h⟩ := h
    obtain ⟨v, rfl, r⟩ := one_shal rs
    obtain ⟨l, ws, rfl, hl, rr⟩ := r.items s e1
    exact ⟨l, ws, rfl, hl, fun p hn => k _ p G _ (Ext.newH s hn) (.lst upd_same rr) (s.free hn) hn h⟩
  · exact h.elim
theorem puf_list (hm : X.mg "list" = none) (h : PuO X a pa) (hs : starEach [a] X.env = (false, eval a X.env) :: starEach [] X.env := by rfl) (hg : Gl X "list" := by rfl) : PuF X (.Call (.Name "list" p') [a] [] pos) (pCall listP (paCons pa paNil)) :=
  puf_ty call_list_of listP_ok hm (puao_cons h puao_nil hs) hg (by decide +kernel) (by decide) (by decide) hs rfl
def tupleP : PSp := fun ds P => match ds with
  | [d] => ∃ xs, itemsOf d = some xs ∧ P (.tup xs)
  | _ => False
theorem tupleP_ok : CallOk X (fun xs H Q => ∃ p ys, xs = [.ref p] ∧ ((SqL X.K H p ys ∧ ∀ l, H l = none → Q (.ref l) (upd H l (.tup ys))) ∨ (SqT X.K H p ys ∧ Q (.ref p) H))) tupleP := by
  intro G H vs ds P Q s rs h k
  unfold tupleP at h
  split at h
  · rename_i d
    obtain ⟨xs, e1, h⟩ := h
    obtain ⟨v, rfl, r⟩ := one_shal rs
    cases d with
    | tup ds' =>
      cases e1
      obtain ⟨l, ws, rfl, hl, rr⟩ := r.tup s
      refine ⟨l, ws, rfl, .inr ⟨SqT.of hl, k _ _ G H (.refl s) ?_ h⟩⟩
      rcases r with r | ⟨_, _, t⟩
      · exact r
      · cases t
    | lst ds' =>
      cases e1
      obtain ⟨l, ws, rfl, hl, rr⟩ := r.lst s
      exact ⟨l, ws, rfl, .inl ⟨SqL.of hl, fun p hn => k _ _ _ _ (Ext.new s hn) (.tup upd_same (rr.mono (Same.upd (s.free hn)))) h⟩⟩
    | scr ds' =>
      cases e1
      obtain ⟨l, ws, rfl, hl, rr⟩ := r.scr s
      exact ⟨l, ws, rfl, .inl ⟨hl, fun p hn => k _ _ _ _ (Ext.new s hn) (.tup upd_same (rr.mono (Same.upd (s.free hn)))) h⟩⟩
    | non => cases e1
    | bl _ => cases e1
    | int _ => cases e1
    | str _ => cases e1
    | dk _ => cases e1
    | dt _ => cases e1
    | obj _ _ => cases e1
    | err _ _ => cases e1
  · exact h.elim
theorem pu_tuple (hm : X.mg "tuple" = none) (h : PuO X a pa) (hs : starEach [a] X.env = (false, eval a X.env) :: starEach [] X.env := by rfl) (hg : Gl X "tuple" := by rfl) : PuE X (.Call (.Name "tuple" p') [a] [] pos) (pCall tupleP (paCons pa paNil)) :=
  pu_ty call_tuple_of tupleP_ok hm (puao_cons h puao_nil hs) hg (by decide +kernel) (by decide) (by decide) hs rfl
/-- list(range(..)) -/
def lr1 (P : D → Prop) : D → Prop := fun d => match d with
  | .int n => RgOk 0 n ∧ P (.lst ((List.range n.toNat).map fun (i : Nat) => D.int (i : Int)))
  | _ => False
def pLr1 (pa : PTE) : PTE := fun env P => pa env (lr1 P)
theorem rg_reps {K : PySem.W.Frag} {mg : MG} {G : Hp} (a b : Int) : Reps K mg G (rgV a b) ((List.range (b - a).toNat).map fun (i : Nat) => D.int (a + (i : Int))) := by
  unfold rgV
  generalize (b - a).toNat = n
  have : ∀ l : List Nat, Reps K mg G (l.map fun (i : Nat) => V.int (a + (i : Int))) (l.map fun (i : Nat) => D.int (a + (i : Int))) := by
    intro l
    induction l with
    | nil => exact .nil
    | cons x l ih => exact .cons (.int _) ih
  exact this _
theorem puf_lr1 {p2 pos2 : Pos} (hc : X.calm = true) (hm : X.mg "list" = none) (hm2 : X.mg "range" = none) (h : PuE X a pa) (hg : Gl X "list" := by rfl) (hg2 : Gl X "range" := by rfl) (na : starEach [a] X.env = (false, eval a X.env) :: starEach [] X.env := by rfl)
    (na2 : starEach [.Call (.Name "range" p2) [a] [] pos2] X.env = (false, eval (.Call (.Name "range" p2) [a] [] pos2) X.env) :: starEach [] X.env := by rfl) :
    PuF X (.Call (.Name "list" p') [.Call (.Name "range" p2) [a] [] pos2] [] pos) (pLr1 pa) := by
  obtain ⟨t, h1, h2⟩ := h.ex
  refine ⟨_, pe_listRg hc hg hm (prg_1 hg2 hm2 h1 na) na2, fun G H env σ P Q ok hp k => h2 G H env σ _ _ ok hp fun d v G' H' x r q => ?_⟩
  unfold lr1 at q
  split at q
  · rename_i n
    cases r
    refine ⟨n, rfl, q.1, fun p hn => k _ p G' _ (x.trans (Ext.newH x.s hn)) (.lst upd_same ?_) (x.s.free hn) (x.h.free hn) q.2⟩
    have := rg_reps (K := X.K) (mg := X.mg) (G := G') 0 n
    simpa using this
  · exact q.elim
def lr2 (P : D → Prop) : D → D → Prop := fun d f => match d, f with
  | .int m, .int n => RgOk m n ∧ P (.lst ((List.range (n - m).toNat).map fun (i : Nat) => D.int (m + (i : Int))))
  | _, _ => False
def pLr2 (pa pb : PTE) : PTE := fun env P => pa env fun d => pb env fun f => lr2 P d f
theorem puf_lr2 {p2 pos2 : Pos} (hc : X.calm = true) (hm : X.mg "list" = none) (hm2 : X.mg "range" = none) (h : PuE X a pa) (h' : PuE X b pb) (hg : Gl X "list" := by rfl) (hg2 : Gl X "range" := by rfl) (na : starEach [a, b] X.env = (false, eval a X.env) :: starEach [b] X.env := by rfl)
    (nb : starEach [b] X.env = (false, eval b X.env) :: starEach [] X.env := by rfl) (hp : (backTo pos2 (starEach [b] X.env)).any (·.1) = false := by rfl)
    (na2 : starEach [.Call (.Name "range" p2) [a, b] [] pos2] X.env = (false, eval (.Call (.Name "range" p2) [a, b] [] pos2) X.env) :: starEach [] X.env := by rfl) :
    PuF X (.Call (.Name "list" p') [.Call (.Name "range" p2) [a, b] [] pos2] [] pos) (pLr2 pa pb) := by
  obtain ⟨t, h1, h2⟩ := h.ex
  obtain ⟨u, g1, g2⟩ := h'.ex
  refine ⟨_, pe_listRg hc hg hm (prg_2 hg2 hm2 h1 g1 na nb hp) na2, fun G H env σ P Q ok hp k => h2 G H env σ _ _ ok hp fun d v G' H' x r q => ?_⟩
  refine g2 G' H' env σ _ _ (ok.ext x) q fun f w G2 H2 y r2 q2 => ?_
  unfold lr2 at q2
  split at q2
  · rename_i m n
    cases r; cases r2
    exact ⟨m, n, rfl, rfl, q2.1, fun p hn => k _ p G2 _ ((x.trans y).trans (Ext.newH y.s hn)) (.lst upd_same (rg_reps m n)) (y.s.free hn) ((x.trans y).h.free hn) q2.2⟩
  · exact q2.elim
def strsOf : List D → Option (List Str)
  | [] => some []
  | .str i :: ds => (strsOf ds).map (i :: ·)
  | _ :: _ => none
theorem strsOf_eq : ∀ {ds : List D} {ns : List Str}, strsOf ds = some ns → ds = ns.map D.str
  | [], ns, h => by cases h; rfl
  | .str i :: ds, ns, h => by
    unfold strsOf at h
    cases e : strsOf ds with
    | none => rw [e] at h; cases h
    | some ms => rw [e] at h; cases h; rw [strsOf_eq e]; rfl
  | .non :: ds, ns, h => by cases h
  | .bl _ :: ds, ns, h => by cases h
  | .int _ :: ds, ns, h => by cases h
  | .tup _ :: ds, ns, h => by cases h
  | .lst _ :: ds, ns, h => by cases h
  | .scr _ :: ds, ns, h => by cases h
  | .dk _ :: ds, ns, h => by cases h
  | .dt _ :: ds, ns, h => by cases h
  | .obj _ _ :: ds, ns, h => by cases h
  | .err _ _ :: ds, ns, h => by cases h
theorem strsOf_map (ns : List Str) : strsOf (ns.map D.str) = some ns := by
  induction ns with
  | nil => rfl
  | cons n ns ih => simp [strsOf, ih]
theorem reps_strs {K : PySem.W.Frag} {mg : MG} {G : Hp} {vs : List V} {ds : List D} {ns : List Str} (r : Reps K mg G vs ds) (h : strsOf ds = some ns) : vs = ns.map V.str := by
  rw [strsOf_eq h] at r; exact r.strs
def sortIP : PSp := fun ds P => match ds with
  | [d] => ∃ xs, lstOf d = some xs ∧ ((∃ ns, intsOf xs = some ns ∧ ∀ ms : List Int, ms.Perm ns → ms.Pairwise (· ≤ ·) → P (.lst (ms.map D.int))) ∨
      ∃ zs, strsOf xs = some zs ∧ zs.length < 64 ∧ ∀ ys : List Str, ys.Perm zs → sortedS ys = true → P (.lst (ys.map D.str)))
  | _ => False
theorem sortIP_ok : CallFOk X (fun xs H Q => rSortedI X.K xs H Q ∨ rSortedS X.K xs H Q) sortIP := by
  intro G H vs ds P Q s rs h k
  unfold sortIP at h
  split at h
  · obtain ⟨xs, e1, h⟩ := h
    obtain ⟨v, rfl, r⟩ := one_shal rs
    obtain ⟨l, ws, rfl, hl, rr⟩ := r.sql s e1
    rcases h with ⟨ns, e2, h⟩ | ⟨zs, e2, h64, h⟩
    · have ew := reps_ints rr e2
      subst ew
      exact .inl ⟨l, ns, rfl, hl, fun ms p h1 h2 hn => k _ p G _ (Ext.newH s hn) (.lst upd_same (Reps.ofInts ms)) (s.free hn) hn (h ms h1 h2)⟩
    · have ew := reps_strs rr e2
      subst ew
      exact .inr ⟨l, zs, rfl, hl, h64, fun ys p h1 h2 hn => k _ p G _ (Ext.newH s hn) (.lst upd_same (Reps.ofStrs ys)) (s.free hn) hn (h ys h1 h2)⟩
  · exact h.elim
theorem puf_sortI (hm : X.mg "sorted" = none) (h : PuO X a pa) (hs : starEach [a] X.env = (false, eval a X.env) :: starEach [] X.env := by rfl) (hg : Gl X "sorted" := by rfl) : PuF X (.Call (.Name "sorted" p') [a] [] pos) (pCall sortIP (paCons pa paNil)) :=
  puf_bi (CallR.or cr_sortedI cr_sortedS) sortIP_ok hm (puao_cons h puao_nil hs) hg (by decide +kernel) (by decide) (by decide) hs rfl

/-! ### in -/
def hasP (x : D) (ys : List D) : Bool := (toPys ys).any fun z => PyData.eqv z (toPy x)
def inP (neg : Bool) : BinP := fun x y P => match y with
  | .lst ys => cmpOk x = true ∧ cmpOk (.lst ys) = true ∧ P (.bl (hasP x ys != neg))
  | .str b => ∃ a, x = .str a ∧ P (.bl ((!(Builtin.Str.occurrences b a 0 b.length 1).isEmpty) != neg))
  | d => ∃ o, getP d x = some o ∧ P (.bl (o.isSome != neg))
def rInAll (K : PySem.W.Frag) (neg : Bool) : R2 := fun x y H Q => (∃ d ds, Dp K H x d ∧ Dp K H y (.list ds) ∧ SeqAt.shaped d = true ∧ SeqAt.shaped (.list ds) = true ∧ Q (.bl ((ds.any fun z => PyData.eqv z d) != neg)) H) ∨
  (∃ i j, x = .str i ∧ y = .str j ∧ Q (.bl ((!(Builtin.Str.occurrences j i 0 j.length 1).isEmpty) != neg)) H) ∨ ∃ a o, y = .ref a ∧ DGet H a x o ∧ Q (.bl (o.isSome != neg)) H
theorem op_inAll (hu : X.A.units + 65 < cLine) : OpR X (compareOp .In) (rInAll X.K false) := by
  intro pins s σ H x y v u Q I rx ry h
  rcases h with ⟨d, ds, h1, h2, h3, h4, q⟩ | ⟨i, j, h1, h2, q⟩ | ⟨a, o, rfl, g, q⟩
  · exact op_inD hu pins s σ H x y v u Q I rx ry ⟨d, ds, h1, h2, h3, h4, by simpa using q⟩
  · exact op_in_str pins s σ H x y v u Q I rx ry ⟨i, j, h1, h2, by simpa using q⟩
  · obtain rfl : u = Value.ref a := ry
    exact d_in (by omega) I g rx fun s3 I3 => ⟨.bl o.isSome, H, I3, rfl, by simpa using q⟩
theorem op_notInAll (hu : X.A.units + 65 < cLine) : OpR X (compareOp .NotIn) (rInAll X.K true) := by
  intro pins s σ H x y v u Q I rx ry h
  rcases h with ⟨d, ds, h1, h2, h3, h4, q⟩ | ⟨i, j, h1, h2, q⟩ | ⟨a, o, rfl, g, q⟩
  · exact op_notInD hu pins s σ H x y v u Q I rx ry ⟨d, ds, h1, h2, h3, h4, by simpa using q⟩
  · exact L2.op_notIn_str pins s σ H x y v u Q I rx ry ⟨i, j, h1, h2, by simpa using q⟩
  · obtain rfl : u = Value.ref a := ry
    exact d_notIn (by omega) I g rx fun s3 I3 => ⟨.bl (!o.isSome), H, I3, rfl, by simpa using q⟩
/-- the left side of «in» a table must be frozen -/
def BinEO (X : Cx) (r : R2) (f : BinP) : Prop := ∀ (G H : Hp) (v w : V) (x y : D) (P : D → Prop) (Q : VK), Same G H → Rep X.K X.mg G v x → Shal X.K X.mg H G w y → f x y P →
  (∀ d u G' H', Ext G H G' H' → Rep X.K X.mg G' u d → P d → Q u H') → r v w H Q
theorem inP_ok (neg : Bool) : BinEO X (rInAll X.K neg) (inP neg) := by
  intro G H v w x y P Q s r1 r2 h k
  unfold inP at h
  split at h
  · rename_i ys
    obtain ⟨f1, s1⟩ := cmpOk_iff h.1
    obtain ⟨f2, s2⟩ := cmpOk_iff h.2.1
    exact .inl ⟨_, _, r1.dp s f1, r2.dp s f2, s1, s2, k _ _ G H (.refl s) (.bl _) h.2.2⟩
  · obtain ⟨a, rfl, h⟩ := h
    cases r1
    cases r2.str
    exact .inr (.inl ⟨_, _, rfl, rfl, k _ _ G H (.refl s) (.bl _) h⟩)
  · obtain ⟨o, e, h⟩ := h
    obtain ⟨l, rfl, q⟩ := r2.dget s r1 e
    rcases q with ⟨rfl, g⟩ | ⟨z, u, rfl, g, _⟩
    · exact .inr (.inr ⟨l, none, rfl, g, k _ _ G H (.refl s) (.bl _) h⟩)
    · exact .inr (.inr ⟨l, some u, rfl, g, k _ _ G H (.refl s) (.bl _) h⟩)
theorem binEO_t {ta tb : TE} {r : R2} {f : BinP} (hf : BinEO X r f) {G H : Hp} {env : List C} {σ : L2.St} {P : D → Prop} {Q : VK} (ok : Ok X.K X.mg G H env σ)
    (ha : ∀ (G H : Hp) (env : List C) (σ : L2.St) (P : D → Prop) (Q : VK), Ok X.K X.mg G H env σ → pa env P → (∀ d v G' H', Ext G H G' H' → Rep X.K X.mg G' v d → P d → Q v H') → ta σ H Q)
    (hb : ∀ (G H : Hp) (env : List C) (σ : L2.St) (P : D → Prop) (Q : VK), Ok X.K X.mg G H env σ → pb env P → (∀ d v G' H', Ext G H G' H' → Shal X.K X.mg H' G' v d → P d → Q v H') → tb σ H Q)
    (hp : pBin f pa pb env P) (k : ∀ d v G' H', Ext G H G' H' → Rep X.K X.mg G' v d → P d → Q v H') : tOp r ta tb σ H Q := by
  refine ha G H env σ _ _ ok hp fun x v G1 H1 e1 r1 q1 => ?_
  refine hb G1 H1 env σ _ _ (ok.ext e1) q1 fun y w G2 H2 e2 r2 q2 => ?_
  exact hf G2 H2 v w x y P Q e2.s (r1.mono e2.g) r2 q2 fun d u G3 H3 e3 r3 q3 => k d u G3 H3 ((e1.trans e2).trans e3) r3 q3
theorem put_in (hu : X.A.units + 65 < cLine) (ha : PuE X a pa) (hb : PuO X b pb) (hm : behindInMarks .In b = false := by rfl) : PuT X (.Compare a [.In] [b] pos) (pB (pBin (inP false) pa pb)) := by
  obtain ⟨ta, a1, a2⟩ := ha.ex
  obtain ⟨tb, b1, b2⟩ := hb.ex
  refine ⟨_, pt_cmpR (op_inAll hu) a1 b1 hm, fun G H env σ P Q ok hp k => binEO_t (inP_ok false) ok a2 b2 hp fun d v G' H' x r q => ?_⟩
  obtain ⟨b, e, z⟩ := asB_rep r q
  exact ⟨b, e, k b G' H' x z⟩
theorem put_notIn (hu : X.A.units + 65 < cLine) (ha : PuE X a pa) (hb : PuO X b pb) (hm : behindInMarks .NotIn b = false := by rfl) : PuT X (.Compare a [.NotIn] [b] pos) (pB (pBin (inP true) pa pb)) := by
  obtain ⟨ta, a1, a2⟩ := ha.ex
  obtain ⟨tb, b1, b2⟩ := hb.ex
  refine ⟨_, pt_cmpR (op_notInAll hu) a1 b1 hm, fun G H env σ P Q ok hp k => binEO_t (inP_ok true) ok a2 b2 hp fun d v G' H' x r q => ?_⟩
  obtain ⟨b, e, z⟩ := asB_rep r q
  exact ⟨b, e, k b G' H' x z⟩
theorem pu_in (hu : X.A.units + 65 < cLine) (ha : PuE X a pa) (hb : PuO X b pb) (hm : behindInMarks .In b = false := by rfl) : PuE X (.Compare a [.In] [b] pos) (pBin (inP false) pa pb) := by
  obtain ⟨ta, a1, a2⟩ := ha.ex
  obtain ⟨tb, b1, b2⟩ := hb.ex
  exact ⟨_, pe_cmpR (op_inAll hu) a1 b1 hm, fun G H env σ P Q ok hp k => binEO_t (inP_ok false) ok a2 b2 hp k⟩
theorem pu_notIn (hu : X.A.units + 65 < cLine) (ha : PuE X a pa) (hb : PuO X b pb) (hm : behindInMarks .NotIn b = false := by rfl) : PuE X (.Compare a [.NotIn] [b] pos) (pBin (inP true) pa pb) := by
  obtain ⟨ta, a1, a2⟩ := ha.ex
  obtain ⟨tb, b1, b2⟩ := hb.ex
  exact ⟨_, pe_cmpR (op_notInAll hu) a1 b1 hm, fun G H env σ P Q ok hp k => binEO_t (inP_ok true) ok a2 b2 hp k⟩

/-! ### the comparisons, as tests and as values -/
theorem put_eq (hu : X.A.units + 64 < cLine) (ha : PuO X a pa) (hb : PuO X b pb) : PuT X (.Compare a [.Eq] [b] pos) (pB (pBin eqP pa pb)) := put_cmp (op_eqAll hu) eqP_ok ha hb (nomark _)
theorem put_ne (hu : X.A.units + 64 < cLine) (ha : PuO X a pa) (hb : PuO X b pb) : PuT X (.Compare a [.NotEq] [b] pos) (pB (pBin neP pa pb)) := put_cmp (op_neAll hu) neP_ok ha hb (nomark _)
theorem put_lt (ha : PuO X a pa) (hb : PuO X b pb) : PuT X (.Compare a [.Lt] [b] pos) (pB (pBin ltP pa pb)) := put_cmp op_ltAll ltP_ok ha hb (nomark _)
theorem put_le (ha : PuO X a pa) (hb : PuO X b pb) : PuT X (.Compare a [.LtE] [b] pos) (pB (pBin leP pa pb)) := put_cmp op_leAll leP_ok ha hb (nomark _)
theorem put_gt (ha : PuO X a pa) (hb : PuO X b pb) : PuT X (.Compare a [.Gt] [b] pos) (pB (pBin gtP pa pb)) := put_cmp op_gtAll gtP_ok ha hb (nomark _)
theorem put_ge (ha : PuO X a pa) (hb : PuO X b pb) : PuT X (.Compare a [.GtE] [b] pos) (pB (pBin geP pa pb)) := put_cmp op_geAll geP_ok ha hb (nomark _)
theorem pu_eq (hu : X.A.units + 64 < cLine) (ha : PuO X a pa) (hb : PuO X b pb) : PuE X (.Compare a [.Eq] [b] pos) (pBin eqP pa pb) := pu_cmp (op_eqAll hu) eqP_ok ha hb (nomark _)
theorem pu_ne (hu : X.A.units + 64 < cLine) (ha : PuO X a pa) (hb : PuO X b pb) : PuE X (.Compare a [.NotEq] [b] pos) (pBin neP pa pb) := pu_cmp (op_neAll hu) neP_ok ha hb (nomark _)
theorem pu_lt (ha : PuO X a pa) (hb : PuO X b pb) : PuE X (.Compare a [.Lt] [b] pos) (pBin ltP pa pb) := pu_cmp op_ltAll ltP_ok ha hb (nomark _)
theorem pu_le (ha : PuO X a pa) (hb : PuO X b pb) : PuE X (.Compare a [.LtE] [b] pos) (pBin leP pa pb) := pu_cmp op_leAll leP_ok ha hb (nomark _)
theorem pu_gt (ha : PuO X a pa) (hb : PuO X b pb) : PuE X (.Compare a [.Gt] [b] pos) (pBin gtP pa pb) := pu_cmp op_gtAll gtP_ok ha hb (nomark _)
theorem pu_ge (ha : PuO X a pa) (hb : PuO X b pb) : PuE X (.Compare a [.GtE] [b] pos) (pBin geP pa pb) := pu_cmp op_geAll geP_ok ha hb (nomark _)
/-- is None -/
def isNon : D → Bool
  | .non => true
  | _ => false
def isNP (neg : Bool) (p : PTE) : PTE := fun env P => p env fun d => P (.bl (isNon d != neg))
theorem Rep.isN {K : PySem.W.Frag} {mg : MG} {G : Hp} {v : V} {d : D} (r : Rep K mg G v d) : decide (v = .non) = isNon d := by
  cases r <;> rfl
theorem pu_isN {j : Nat} {pos' : Pos} (ha : PuE X a pa) : PuE X (.Compare a [.Is] [.Constant .none j pos'] pos) (isNP false pa) := by
  obtain ⟨t, h1, h2⟩ := ha.ex
  refine ⟨_, pe_cmp (pc_isN h1) rfl, fun G H env σ P Q ok hp k => h2 G H env σ _ _ ok hp fun d v G' H' x r q => ?_⟩
  have : V.bl (decide (v = .non)) = V.bl (isNon d != false) := by rw [r.isN, Bool.bne_false]
  rw [this]
  exact k _ _ G' H' x (.bl _) q
theorem pu_notN {j : Nat} {pos' : Pos} (ha : PuE X a pa) : PuE X (.Compare a [.IsNot] [.Constant .none j pos'] pos) (isNP true pa) := by
  obtain ⟨t, h1, h2⟩ := ha.ex
  refine ⟨_, pe_cmp (pc_notN h1) rfl, fun G H env σ P Q ok hp k => h2 G H env σ _ _ ok hp fun d v G' H' x r q => ?_⟩
  have : V.bl (!decide (v = .non)) = V.bl (isNon d != true) := by rw [r.isN, Bool.bne_true]
  rw [this]
  exact k _ _ G' H' x (.bl _) q
theorem put_isN {j : Nat} {pos' : Pos} (ha : PuE X a pa) : PuT X (.Compare a [.Is] [.Constant .none j pos'] pos) (pB (isNP false pa)) := by
  obtain ⟨t, h1, h2⟩ := ha.ex
  refine ⟨_, pt_cmp (pc_isN h1) rfl, fun G H env σ P Q ok hp k => h2 G H env σ _ _ ok hp fun d v G' H' x r q => ?_⟩
  have : decide (v = .non) = (isNon d != false) := by rw [r.isN, Bool.bne_false]
  exact ⟨_, rfl, by rw [this]; exact k _ G' H' x q⟩
theorem put_notN {j : Nat} {pos' : Pos} (ha : PuE X a pa) : PuT X (.Compare a [.IsNot] [.Constant .none j pos'] pos) (pB (isNP true pa)) := by
  obtain ⟨t, h1, h2⟩ := ha.ex
  refine ⟨_, pt_cmp (pc_notN h1) rfl, fun G H env σ P Q ok hp k => h2 G H env σ _ _ ok hp fun d v G' H' x r q => ?_⟩
  have : (!decide (v = .non)) = (isNon d != true) := by rw [r.isN, Bool.bne_true]
  exact ⟨_, rfl, by rw [this]; exact k _ G' H' x q⟩

/-! ### isinstance of a built-in type -/
def tyName : D → Option String
  | .non => some "NoneType"
  | .bl _ => some "bool"
  | .int _ => some "int"
  | .str _ => some "str"
  | .tup _ => some "tuple"
  | .lst _ => some "list"
  | .scr _ => none
  | .dk _ => some "dict"
  | .dt _ => some "dict"
  | .obj _ _ => none
  | .err _ _ => none
theorem Rep.tyx {K : PySem.W.Frag} {mg : MG} {G H : Hp} {v : V} {d : D} {n : String} (r : Shal K mg H G v d) (s : Same G H) (h : tyName d = some n) : TyX K H v (.type n) := by
  cases d with
  | non => cases h; cases r.non; exact .base .non
  | bl b => cases h; cases r.bl; exact .base (.bl b)
  | int i => cases h; cases r.int; exact .base (.int i)
  | str x => cases h; cases r.str; exact .base (.str x)
  | tup ds => cases h; obtain ⟨l, vs, rfl, e, _⟩ := r.tup s; exact .base (.tup e)
  | lst ds => cases h; obtain ⟨l, vs, rfl, e, _⟩ := r.lst s; exact .base (.lst e)
  | scr ds => cases h
  | dk ds =>
    cases h
    obtain ⟨l, vs, rfl, e, _⟩ := r.dk s
    rcases e with e | ⟨o, e⟩
    · exact .base (.dK e)
    · exact .fDict e
  | dt ds => cases h; obtain ⟨l, vs, rfl, e, _⟩ := r.dt s; exact .base (.dT e)
  | obj _ _ => cases h
  | err _ _ => cases h
def isiP (T : String) (p : PTE) : PTE := fun env P => p env fun d => ∃ n b, tyName d = some n ∧ kitB n T = some b ∧ P (.bl b)
theorem pu_isi {T : Str} {n : String} {p2 : Pos} (hm : X.mg "isinstance" = none) (hmT : X.mg T = none) (ha : PuO X a pa) (hv : bootBuiltins T = some (.type n) := by decide +kernel) (hg : Gl X "isinstance" := by rfl) (hgT : Gl X T := by rfl)
    (hs : starEach [a, .Name T p2] X.env = (false, eval a X.env) :: starEach [.Name T p2] X.env := by rfl) (hs2 : starEach [.Name T p2] X.env = (false, eval (.Name T p2) X.env) :: starEach [] X.env := by rfl) (hpl : (backTo pos (starEach [.Name T p2] X.env)).any (·.1) = false := by rfl)
    (hn : T ≠ "__name__" := by decide) (hd : (T == ("__debug__" : Str)) = false := by decide) : PuE X (.Call (.Name "isinstance" p') [a, .Name T p2] [] pos) (isiP n pa) := by
  obtain ⟨t, h1, h2⟩ := ha.ex
  refine ⟨_, pe_callB call_isi hg hm (by decide +kernel) (pa_cons h1 (pa_cons (pe_bltn (v := .ty n) hgT hmT hv rfl hn hd) pa_nil hs2) hs) (by decide) (by decide) hs hpl, fun G H env σ P Q ok hp k => h2 G H env σ _ _ ok hp fun d v G' H' x r q => ?_⟩
  obtain ⟨m, b, e1, e2, q⟩ := q
  exact ⟨v, .ty n, .type m, .type n, b, rfl, .ty n, Rep.tyx r x.s e1, kit_ty e2, k _ _ G' H' x (.bl b) q⟩

/-! ### text methods -/
/-- a receiver that must be a text, before the argument is read -/
def asS (P : Str → Prop) : D → Prop := fun d => match d with
  | .str z => P z
  | _ => False
theorem asS_rep {G : Hp} {v : V} {d : D} {P : Str → Prop} (r : Rep X.K X.mg G v d) (h : asS P d) : ∃ z, v = .str z ∧ P z := by
  unfold asS at h
  split at h
  · cases r; exact ⟨_, rfl, h⟩
  · exact h.elim
def joinP (z : Str) (y : D) (P : D → Prop) : Prop := ∃ xs ys, itemsOf y = some xs ∧ strsOf xs = some ys ∧ (ys.map (·.length)).sum + ys.length * z.length ≤ 16777216 ∧ P (.str (Txt.join z ys))
def pJoin (pa pb : PTE) : PTE := fun env P => pa env (asS fun z => pb env fun y => joinP z y P)
theorem pu_join {apos : Pos} (ho : PuE X a pa) (he : PuO X b pb) (hs : starEach [b] X.env = [(false, eval b X.env)] := by rfl) (hbase : attributeBase a "join" X.env (eval a X.env) = eval a X.env := by rfl) (hline : (apos.endLine == pos.line) = true := by rfl) :
    PuE X (.Call (.Attribute a "join" apos) [b] [] pos) (pJoin pa pb) := by
  obtain ⟨t, h1, h2⟩ := ho.ex
  obtain ⟨u, g1, g2⟩ := he.ex
  refine ⟨_, pe_join h1 g1 hs hbase hline, fun G H env σ P Q ok hp k => h2 G H env σ _ _ ok hp fun x v G1 H1 e1 r1 q1 => ?_⟩
  obtain ⟨z, rfl, q1⟩ := asS_rep r1 q1
  refine ⟨⟨z, rfl⟩, g2 G1 H1 env σ _ _ (ok.ext e1) q1 fun y w G2 H2 e2 r2 q2 => ?_⟩
  obtain ⟨xs, ys, i1, i2, hz, q2⟩ := q2
  obtain ⟨l, ws, rfl, hl, rr⟩ := r2.items e2.s i1
  have ew := reps_strs rr i2
  subst ew
  exact ⟨z, l, ys, rfl, rfl, hl, hz, k _ _ G2 H2 (e1.trans e2) (.str _) q2⟩
def pBits (pa : PTE) : PTE := fun env P => pa env fun x => match x with
  | .int i => P (.int (Builtin.Int.intBits i : Nat))
  | _ => False
theorem pu_bits {apos : Pos} (ho : PuE X a pa) (hbase : attributeBase a "bit_length" X.env (eval a X.env) = eval a X.env := by rfl) (hline : (apos.endLine == pos.line) = true := by rfl) : PuE X (.Call (.Attribute a "bit_length" apos) [] [] pos) (pBits pa) := by
  obtain ⟨t, h1, h2⟩ := ho.ex
  refine ⟨_, pe_bits h1 hbase hline, fun G H env σ P Q ok hp k => h2 G H env σ _ _ ok hp fun d v G' H' x r q => ?_⟩
  split at q
  · cases r; exact ⟨_, rfl, k _ _ G' H' x (.int _) q⟩
  · exact q.elim
end

/-! ### sep.join(reversed(list)) -/
section
open MpR RT
variable {prog : Program} {w : World} {A : Around} {E : Value → Shared → Prop} {s : Shared}
theorem join_rev {x : Str} {t : Tok} {ys : List Str} {it l : Addr} {items : Array Value} {Q : Value → Shared → Prop} (hh : A.handled = none) (hit : s.heap.IsRevIter it l ((items.size : Int) - 1)) (hl : s.heap.IsList l items) (hne : l ≠ it) (hn : items.size ≤ sizeLine)
    (hP : ∀ acc : Array Value, ItemsOf (fun i v => items[items.size - 1 - i]? = some v) acc items.size → StrsAre acc.toList ys) (hok : (ys.map (·.length)).sum + ys.length * x.length ≤ 16777216)
    (hq : ∀ (h' : Heap) (k : Nat) (t' : Tok), (∀ b o, b ≠ it → s.heap.get? b = some o → h'.get? b = some o) → Q (.str (Txt.join x ys) t') { s with heap := h', toks := k }) :
    wpAny (model prog w) A (call (.builtin "str.join") [.str x t, .ref it]) Q E s := by
  refine wpAny_call (codeAny_call_builtin F.slot_str_join.plain F.entry_str_join (F.slot_str_join.check _ _ _ _ _ _ _ _ (typeIs_str _ _ _) (F.args_str_join_2 _ _) ?_))
  rw [join_tree_other]
  refine wpAny_bind (wpAny_typeOf hit.typeIs ?_)
  show wpAny _ A.in1 ((pyIter (.ref it)).tryCatch _ >>= fun it => collect it >>= fun items => joinTail x items) _ _ s
  refine wpAny_bind (wpAny_tryCatch (wpAny_pyIter_revIter hit ?_))
  refine wpAny_bind (collect_rev (A := A.in1) hh hit hl hne hn fun h' tk acc hk hacc => ?_)
  obtain ⟨l', hl', ht⟩ := strsAre_values (hP acc hacc)
  subst ht
  rw [hl']
  have hok' := joinOk_of hok
  unfold JoinOk at hok'
  rw [Bool.not_eq_true'] at hok'
  have g : Gives (joinTail x (strValues l')) (joinMade x l') := by
    have g0 := gives_joinTail x l' hok'
    cases l' with
    | nil => exact g0
    | cons p r => cases r with
      | nil => exact g0
      | cons q r' => exact g0
  exact g prog w A (wants Q E) _ (post_join l' ⟨joinFit_length hok', fun t' k => hq h' k t' hk⟩)
end
section
variable {X : Cx} {a b : Expr} {pa pb : PTE} {pos : Pos}
def tJoinRev (K : PySem.W.Frag) (to te : TE) : TE := fun σ H Q => to σ H fun x H1 => (∃ a, x = .str a) ∧ te σ H1 fun y H2 => ∃ (a : Str) (p : Addr) (ys : List Str), x = .str a ∧ y = .ref p ∧ SqL K H2 p (ys.map V.str) ∧
  (ys.map (·.length)).sum + ys.length * a.length ≤ 16777216 ∧ Q (.str (Txt.join a ys.reverse)) H2
theorem pe_joinRev {to te : TE} {apos p2 pos2 : Pos} (hc : X.calm = true) (ho : PE X a to) (he : PE X b te) (hm : X.mg "reversed" = none) (hg : Gl X "reversed" := by rfl) (hs : starEach [b] X.env = (false, eval b X.env) :: starEach [] X.env := by rfl)
    (hs1 : starEach [.Call (.Name "reversed" p2) [b] [] pos2] X.env = [(false, eval (.Call (.Name "reversed" p2) [b] [] pos2) X.env)] := by rfl)
    (hbase : attributeBase a "join" X.env (eval a X.env) = eval a X.env := by rfl) (hline : (apos.endLine == pos.line) = true := by rfl) :
    PE X (.Call (.Attribute a "join" apos) [.Call (.Name "reversed" p2) [b] [] pos2] [] pos) (tJoinRev X.K to te) := by
  refine ⟨fun pins s σ H Q I h => ?_⟩
  refine PySem.Call_method1 hbase hs1 hline (thn (ho.run pins s σ H _ I h) fun v s1 ⟨x, H1, I1, r1, q1⟩ => ?_)
  obtain ⟨⟨z, rfl⟩, q1⟩ := q1
  obtain ⟨t, rfl⟩ := _root_.id r1
  refine ⟨"str", _, F.plainAttrs_str, F.slot_str_join, F.type_str_join, typeIs_str _ _ _, (fun _ e => nomatch e), Calls.callWith_builtin rfl (Calls.evalArgs_plain (Calls.spliced_cons ?_))⟩
  refine Call_ (ld_blt I1 hg hm PyProof.Rows.boot_reversed (PyProof.Rows.callWith_type1 (args_cons (thn (he.run pins s1 σ H1 _ I1 q1) fun u s2 ⟨y, H2, I2, r2, q2⟩ => args_nil ?_) hs) hs rfl))
  obtain ⟨z', p, ys, ez, ey, hq, hz, q⟩ := q2
  cases ez
  subst ey
  obtain rfl : u = Value.ref p := r2
  obtain ⟨its, rv, pl, hsz⟩ := I2.list hq
  have hlen : its.length = ys.length := by have := rv.length; simpa using this.symm
  refine call_reversed_list pl.isList ?_
  have k0 : ∀ b o, s2.heap.get? b = some o → (s2.heap.push (revObj p ((its.toArray.size : Int) - 1))).get? b = some o := fun b o e => Heap.get?_push_of_some _ e
  have I3 : Inv X pins σ H2 { s2 with heap := s2.heap.push (revObj p ((its.toArray.size : Int) - 1)) } := I2.kept (t' := s2.toks) k0
  obtain ⟨f0, f1, f2, f3, f4, f5⟩ := I2.fpOk (H' := H2) (b := s2.heap.objs.size) (Nat.le_refl _) (I2.hok.fresh (Nat.le_refl _))
  have hl := pl.isList
  obtain ⟨ol, hol, _⟩ := id hl
  have hne : p ≠ s2.heap.objs.size := Nat.ne_of_lt (Heap.lt_size hol)
  refine Calls.spliced_nil (join_rev (s := { s2 with heap := s2.heap.push (revObj p ((its.toArray.size : Int) - 1)) }) (ys := ys.reverse) (I2.ok.hd hc) ⟨_, Heap.get?_push_size _ rfl, rfl, rfl⟩ (hl.push _) hne (by rw [List.size_toArray, ← rv.length]; exact hsz) (fun acc hacc => ?_) ?_ fun h' k t' hk => ?_)
  · have q := RT.vals_rev rv hacc
    rw [← List.map_reverse] at q
    exact strs_of_vals q
  · rw [List.map_reverse, List.sum_reverse, List.length_reverse]; exact hz
  · exact ⟨.str _, H2, I3.turned (t' := k) (fun b o hb e => hk b o hb e) f0 f1 f3 f4 f5, ⟨t', rfl⟩, q⟩
def joinRP (z : Str) (y : D) (P : D → Prop) : Prop := ∃ xs ys, lstOf y = some xs ∧ strsOf xs = some ys ∧ (ys.map (·.length)).sum + ys.length * z.length ≤ 16777216 ∧ P (.str (Txt.join z ys.reverse))
def pJoinR (pa pb : PTE) : PTE := fun env P => pa env (asS fun z => pb env fun y => joinRP z y P)
theorem pu_joinRev {apos p2 pos2 : Pos} (hc : X.calm = true) (ho : PuE X a pa) (he : PuO X b pb) (hm : X.mg "reversed" = none) (hg : Gl X "reversed" := by rfl) (hs : starEach [b] X.env = (false, eval b X.env) :: starEach [] X.env := by rfl)
    (hs1 : starEach [.Call (.Name "reversed" p2) [b] [] pos2] X.env = [(false, eval (.Call (.Name "reversed" p2) [b] [] pos2) X.env)] := by rfl)
    (hbase : attributeBase a "join" X.env (eval a X.env) = eval a X.env := by rfl) (hline : (apos.endLine == pos.line) = true := by rfl) :
    PuE X (.Call (.Attribute a "join" apos) [.Call (.Name "reversed" p2) [b] [] pos2] [] pos) (pJoinR pa pb) := by
  obtain ⟨t, h1, h2⟩ := ho.ex
  obtain ⟨u, g1, g2⟩ := he.ex
  refine ⟨_, pe_joinRev hc h1 g1 hm hg hs hs1 hbase hline, fun G H env σ P Q ok hp k => h2 G H env σ _ _ ok hp fun x v G1 H1 e1 r1 q1 => ?_⟩
  obtain ⟨z, rfl, q1⟩ := asS_rep r1 q1
  refine ⟨⟨z, rfl⟩, g2 G1 H1 env σ _ _ (ok.ext e1) q1 fun y w G2 H2 e2 r2 q2 => ?_⟩
  obtain ⟨xs, ys, i1, i2, hz, q2⟩ := q2
  obtain ⟨l, ws, rfl, hl, rr⟩ := r2.sql e2.s i1
  have ew := reps_strs rr i2
  subst ew
  exact ⟨z, l, ys, rfl, rfl, hl, hz, k _ _ G2 H2 (e1.trans e2) (.str _) q2⟩
end
end PL
end

section
set_option linter.all false
set_option maxRecDepth 100000
set_option maxHeartbeats 4000000
set_option autoImplicit false
/-! PL7: defs by their place in the text, callees, keywords, chains. -/
namespace PL
open PySem PySem.Spec PyProof.Rows L2

/-- a def of the text, without defaults -/
abbrev FnP (K : PySem.W.Frag) (x : Str) (st : Stmt) (f : Addr) (fd : FuncData) : Prop := FunD K x x (defArgs st) (defBody st) (defScope st) [] [] f fd
/-- THE RULE for a def over data -/
theorem pfnD {P : Program} {w : World} {K : PySem.W.Frag} {mg : MG} {base : Heap} {x : Str} {st : Stmt} {f : Addr} {fd : FuncData} {N ns : List Str} {k : Nat} {sp : PSp} {p : PTS} (F : FnP K x st f fd) (S : FnScope N ns (defScope st)) (hlen : ∀ ds P, sp ds P → ds.length = ns.length)
    (hbody : ∀ (cdv : Value) (A : Around) (outer : List Env) (s : Shared) (H : Hp) (E : XK), Room k (A.deeper (envOfC x (defScope st) s.heap.objs.size f cdv)) →
      PuSs (cxOf CX0 P w K mg base N x (defScope st) f cdv A outer s H E).nox (defBody st) p) (hp : ∀ ds Q, sp ds Q → p { nx := fun _ => Q .non, rt := Q } (startC N ds)) : FnOk P w K mg base CX0 (k + 1) f fd ns (spP K mg sp) := by
  refine FunD.ok F S (fun vs H Q E h => ?_) (fun cdv A outer s H vs Q E hr h => ?_)
  · obtain ⟨G, ds, P', _, r, q, _⟩ := h
    rw [r.length]; exact hlen ds P' q
  · obtain ⟨G, ds, P', sm, r, q, kk⟩ := h
    obtain ⟨t, t1, t2⟩ := (hbody cdv A outer s H E hr).ex
    refine ⟨t, t1.nox, t2 G H G H _ _ { nx := fun _ => P' .non, rt := P' } _ ⟨start_ok sm r, .refl sm, fun i d l q => ?_⟩ ⟨?_, ?_, ?_, ?_, fun _ _ _ _ _ _ _ _ z => z.elim, ⟨_, tk0, fun _ _ _ _ _ _ _ _ _ _ _ _ _ _ _ z => z.elim⟩⟩ (hp ds P' q)⟩
    · intro s1
      exfalso
      unfold startC at q
      by_cases hk : i < ds.length
      · rw [List.getElem?_append_left (by simpa using hk), List.getElem?_map] at q
        cases e : ds[i]? with
        | none => rw [e] at q; cases q
        | some d => rw [e] at q; cases q
      · rw [List.getElem?_append_right (by simpa using hk), List.getElem?_replicate] at q
        split at q <;> cases q
    · intro G' H' env σ r' z
      exact kk .non .non G' H' r'.ext .non z
    · intro G' H' env σ r' z; exact z
    · intro G' H' env σ r' z; exact z
    · intro G' H' d v x rp z
      exact kk d v G' H' x rp z

/-- a def that may be called -/
structure Cal (P : Program) (w : World) (K : PySem.W.Frag) (mg : MG) (base : Heap) (x : Str) (ns : List Str) (k : Nat) (f : Addr) (fd : FuncData) (sp : PSp) : Prop where
  ok : FnOk P w K mg base CX0 k f fd ns (spP K mg sp)
  mg : mg x = some (.ref f)
  kp : PySem.W.keepIn K (.ref f) = true
  b : Binds K fd ns []
theorem Room.u65 {k : Nat} {A : Around} (r : Room k A) : A.units + 65 < cLine := by have := r.un; omega
section
variable {X : Cx} {e a b c : Expr} {es : List Expr} {pa pb pc : PTE} {ps : PTA} {pos p' : Pos}
theorem pu_c {x : Str} {ns : List Str} {k k' : Nat} {f : Addr} {fd : FuncData} {sp : PSp} (C : Cal X.prog X.w X.K X.mg X.base x ns k f fd sp) (hr : Room k' X.A) (h : PuA X (e :: es) ps) (hk : k ≤ k' := by decide) (hg : Gl X x := by rfl)
    (hdb : (x == ("__debug__" : Str)) = false := by decide) (he : starEach (e :: es) X.env = (false, eval e X.env) :: starEach es X.env := by rfl) (hpl : (backTo pos (starEach es X.env)).any (·.1) = false := by rfl) :
    PuE X (.Call (.Name x p') (e :: es) [] pos) (pCall sp ps) := pu_call C.ok (hr.mono hk) C.mg C.kp C.b h hg hdb he hpl
theorem pu_c0 {x : Str} {ns : List Str} {k k' : Nat} {f : Addr} {fd : FuncData} {sp : PSp} (C : Cal X.prog X.w X.K X.mg X.base x ns k f fd sp) (hr : Room k' X.A) (hk : k ≤ k' := by decide) (hg : Gl X x := by rfl)
    (hdb : (x == ("__debug__" : Str)) = false := by decide) : PuE X (.Call (.Name x p') [] [] pos) (pCall sp paNil) := pu_call0 C.ok (hr.mono hk) C.mg C.kp C.b hg hdb
theorem pu_cK {x : Str} {ns ks : List Str} {n m k k' : Nat} {f : Addr} {fd : FuncData} {sp : PSp} {kws : List Keyword} {qs : PTA} {gD : List D → List D → List D} (C : Cal X.prog X.w X.K X.mg X.base x ns k f fd sp) (hb : PKB X.K fd ns n ks gD) (hr : Room k' X.A) (h : PuA X (e :: es) ps) (hkw : PuK X kws qs) (hml : ks.length = m := by rfl) (hk : k ≤ k' := by decide) (hg : Gl X x := by rfl)
    (hall : (backToKw pos (keywordEach kws X.env)).all (·.1.isSome) = true := by rfl) (hks : (backToKw pos (keywordEach kws X.env)).filterMap (·.1) = ks := by rfl)
    (hdb : (x == ("__debug__" : Str)) = false := by decide) (he : starEach (e :: es) X.env = (false, eval e X.env) :: starEach es X.env := by rfl)
    (hpl : ((backTo pos (starEach (e :: es) X.env)).any (·.1) || (backToKw pos (keywordEach kws X.env)).any (·.1.isNone)) = false := by rfl) :
    PuE X (.Call (.Name x p') (e :: es) kws pos) (pCallK sp n m gD ps qs) := pu_callK C.ok (hr.mono hk) C.mg C.kp hb hml h hkw hg hall hks hdb he hpl
theorem pu_cK0 {x : Str} {ns ks : List Str} {m k k' : Nat} {f : Addr} {fd : FuncData} {sp : PSp} {kws : List Keyword} {qs : PTA} {gD : List D → List D → List D} (C : Cal X.prog X.w X.K X.mg X.base x ns k f fd sp) (hb : PKB X.K fd ns 0 ks gD) (hr : Room k' X.A) (hkw : PuK X kws qs) (hml : ks.length = m := by rfl) (hk : k ≤ k' := by decide) (hg : Gl X x := by rfl)
    (hall : (backToKw pos (keywordEach kws X.env)).all (·.1.isSome) = true := by rfl) (hks : (backToKw pos (keywordEach kws X.env)).filterMap (·.1) = ks := by rfl)
    (hdb : (x == ("__debug__" : Str)) = false := by decide) (hpl : ((backTo pos (starEach [] X.env)).any (·.1) || (backToKw pos (keywordEach kws X.env)).any (·.1.isNone)) = false := by rfl) :
    PuE X (.Call (.Name x p') [] kws pos) (pCallK sp 0 m gD paNil qs) := pu_callK0 C.ok (hr.mono hk) C.mg C.kp hb hml hkw hg hall hks hdb hpl

/-! ### a < b < c -/
def pChainT (f g : BinP) (pa pb pc : PTE) : PTT := fun env P => pa env fun x => pb env fun y => f x y (asB fun k => if k = true then pc env fun z => g y z (asB P) else P false)
theorem put_chain {op op' : CmpOp} {r r' : R2} {f g : BinP} (ho : OpR X (compareOp op) r) (hf : BinOk X r f) (ho' : OpR X (compareOp op') r') (hg : BinOk X r' g) (ha : PuO X a pa) (hb : PuO X b pb) (hc : PuO X c pc)
    (hm : lastMarks [op, op'] [b, c] = false := by with_unfolding_all rfl) : PuT X (.Compare a [op, op'] [b, c] pos) (pChainT f g pa pb pc) := by
  obtain ⟨ta, a1, a2⟩ := ha.ex
  obtain ⟨tb, b1, b2⟩ := hb.ex
  obtain ⟨tc, c1, c2⟩ := hc.ex
  refine ⟨_, pt_chain ho ho' a1 b1 c1 hm, fun G H env σ P Q ok hp k => ?_⟩
  refine a2 G H env σ _ _ ok hp fun x v G1 H1 e1 r1 q1 => ?_
  refine b2 G1 H1 env σ _ _ (ok.ext e1) q1 fun y w G2 H2 e2 r2 q2 => ?_
  refine hf G2 H2 v w x y _ _ e2.s (r1.mono e2.h e2.g) r2 q2 fun d u G3 H3 e3 r3 q3 => ?_
  obtain ⟨kk, rfl, z⟩ := asB_rep r3 q3
  refine ⟨kk, rfl, ?_⟩
  cases kk with
  | false => exact ⟨false, rfl, k false G3 H3 ((e1.trans e2).trans e3) z⟩
  | true =>
    refine c2 G3 H3 env σ _ _ (((ok.ext e1).ext e2).ext e3) z fun z' u G4 H4 e4 r4 q4 => ?_
    refine hg G4 H4 w u y z' _ _ e4.s ((r2.mono e3.h e3.g).mono e4.h e4.g) r4 q4 fun d u2 G5 H5 e5 r5 q5 => ?_
    obtain ⟨b5, rfl, z5⟩ := asB_rep r5 q5
    exact ⟨b5, rfl, k b5 G5 H5 ((((e1.trans e2).trans e3).trans e4).trans e5) z5⟩

/-! ### new lists by + and * -/
def catP : BinP := fun x y P => match x, y with
  | .lst xs, .lst ys => xs.length + ys.length ≤ sizeLine ∧ P (.lst (xs ++ ys))
  | _, _ => False
theorem puf_cat (ha : PuO X a pa) (hb : PuO X b pb) : PuF X (.BinOp a .Add b pos) (pBin catP pa pb) := by
  obtain ⟨ta, a1, a2⟩ := ha.ex
  obtain ⟨tb, b1, b2⟩ := hb.ex
  refine ⟨_, pe_op op_cat a1 b1, fun G H env σ P Q ok hp k => ?_⟩
  refine a2 G H env σ _ _ ok hp fun x v G1 H1 e1 r1 q1 => ?_
  refine b2 G1 H1 env σ _ _ (ok.ext e1) q1 fun y w G2 H2 e2 r2 q2 => ?_
  have r1' := r1.mono e2.h e2.g
  unfold catP at q2
  split at q2
  · obtain ⟨l, vs, rfl, t1, s1⟩ := r1'.lst e2.s
    obtain ⟨m, ws, rfl, t2, s2⟩ := r2.lst e2.s
    exact ⟨_, _, vs, ws, rfl, rfl, t1, t2, by rw [s1.length, s2.length]; exact q2.1, fun p hn => k _ p G2 _ ((e1.trans e2).trans (Ext.newH e2.s hn)) (.lst upd_same (s1.append s2)) (e2.s.free hn) ((e1.trans e2).h.free hn) q2.2⟩
  · exact q2.elim
def repP : BinP := fun x y P => match x, y with
  | .lst xs, .int k => -(2 ^ 63) ≤ k ∧ k < 2 ^ 63 ∧ xs.length * k.toNat ≤ sizeLine ∧ P (.lst (List.replicate k.toNat xs).flatten)
  | _, _ => False
theorem puf_rep (ha : PuO X a pa) (hb : PuO X b pb) : PuF X (.BinOp a .Mult b pos) (pBin repP pa pb) := by
  obtain ⟨ta, a1, a2⟩ := ha.ex
  obtain ⟨tb, b1, b2⟩ := hb.ex
  refine ⟨_, pe_op op_rep a1 b1, fun G H env σ P Q ok hp k => ?_⟩
  refine a2 G H env σ _ _ ok hp fun x v G1 H1 e1 r1 q1 => ?_
  refine b2 G1 H1 env σ _ _ (ok.ext e1) q1 fun y w G2 H2 e2 r2 q2 => ?_
  have r1' := r1.mono e2.h e2.g
  unfold repP at q2
  split at q2
  · obtain ⟨l, vs, rfl, t1, s1⟩ := r1'.lst e2.s
    cases r2.int
    exact ⟨_, _, vs, rfl, rfl, t1, q2.1, q2.2.1, by rw [s1.length]; exact q2.2.2.1, fun p hn => k _ p G2 _ ((e1.trans e2).trans (Ext.newH e2.s hn)) (.lst upd_same (s1.rep _)) (e2.s.free hn) ((e1.trans e2).h.free hn) q2.2.2.2⟩
  · exact q2.elim
/-- {} -/
def pDk : PTE := fun _ P => P (.dk [])
def pDt : PTE := fun _ P => P (.dt [])
theorem puf_dk : PuF X (.Dict [] [] pos) pDk := ⟨_, pe_dnewK, fun G H env σ P Q ok hp k p hn => k _ p G _ (Ext.newH ok.same hn) (.dk upd_same .nil) (ok.same.free hn) hn hp⟩
theorem puf_dt : PuF X (.Dict [] [] pos) pDt := ⟨_, pe_dnewT, fun G H env σ P Q ok hp k p hn => k _ p G _ (Ext.newH ok.same hn) (.dt upd_same .nil) (ok.same.free hn) hn hp⟩
end

/-! ### keywords by places -/
def pickL {α : Type} (pick : List Nat) (us ws : List α) : List α := pick.filterMap fun i => (us ++ ws)[i]?
theorem Vals.pick {vs : List V} {us : List Value} (r : Vals vs us) : ∀ pick : List Nat, Vals (pick.filterMap fun i => vs[i]?) (pick.filterMap fun i => us[i]?)
  | [] => .nil
  | i :: is => by
    rw [List.filterMap_cons, List.filterMap_cons]
    cases e : vs[i]? with
    | none =>
      rw [r.none_of e]
      exact Vals.pick r is
    | some v =>
      obtain ⟨u, e2, q⟩ := r.get e
      rw [e2]
      exact .cons q (Vals.pick r is)
theorem Reps.pick {K : PySem.W.Frag} {mg : MG} {G : Hp} {vs : List V} {ds : List D} (r : Reps K mg G vs ds) : ∀ pick : List Nat, Reps K mg G (pick.filterMap fun i => vs[i]?) (pick.filterMap fun i => ds[i]?)
  | [] => .nil
  | i :: is => by
    rw [List.filterMap_cons, List.filterMap_cons]
    cases e : vs[i]? with
    | none =>
      have : ds[i]? = none := by
        rw [List.getElem?_eq_none_iff] at e ⊢
        rw [← r.length]; exact e
      rw [this]
      exact Reps.pick r is
    | some v =>
      obtain ⟨d, e2, q⟩ := r.get e
      rw [e2]
      exact .cons q (Reps.pick r is)
theorem FunD.pkb {K : PySem.W.Frag} {x qual : Str} {params : Arguments} {body : List Stmt} {scope : Scope} {f : Addr} {fd : FuncData} {ns : List Str} (F : FunD K x qual params body scope [] [] f fd) (n : Nat) (ks : List Str) (pick : List Nat)
    (h : ∀ (kV doc pm : Value) (an : Option Addr) (cdv ct : Value) (us ws : List Value), us.length = n → ws.length = ks.length → bindArgs (PySem.W.fnOf x qual params body scope .none kV doc pm an cdv ct) ⟨us, ks.zip ws⟩ = pure (ns.zip (pickL pick us ws))) :
    PKB K fd ns n ks (pickL pick) := by
  obtain ⟨oc, od, dV, kV, doc, pm, an, cdv, ct, osl, rfl, lk, hcd, hD, hK⟩ := F.ex
  rcases hD with ⟨_, rfl⟩ | ⟨e, _⟩
  · refine ⟨pickL pick, pickL pick, ⟨fun s us ws _ l1 l2 => .of_eq (h kV doc pm an cdv ct us ws l1 l2), fun r1 r2 => Vals.pick (r1.append r2) pick⟩, fun mg G vs zs ds es r1 r2 _ _ => Reps.pick (r1.append r2) pick⟩
  · exact absurd rfl e
end PL
end

section
set_option linter.all false
set_option maxRecDepth 100000
set_option maxHeartbeats 4000000
set_option autoImplicit false
/-! PL8: the law's entry, a module's texts. -/
namespace PL
open PySem PySem.Spec PyProof.Rows L2
theorem law_entry {K : PySem.W.Frag} {mg : MG} {sp : PSp} {H : Hp} {a : Addr} {ns : List Int} {E : XK} (hS : SqL K H a (ns.map V.int)) (h : sp [.scr (ns.map D.int)] fun d => d = .bl true) : spP K mg sp [.ref a] H (fun v _ => v = .bl true) E :=
  ⟨H, _, _, Same.refl _, .cons (.scr hS (Reps.ofInts ns)) .nil, h, fun d v G' H' _ r e => by subst e; cases r; rfl⟩
section
variable {X : Cx} {pos : Pos}
theorem pu_gstr {x z : Str} (h : ∃ t, X.mg x = some (.str z t)) (hg : Gl X x := by rfl) (hd : (x == ("__debug__" : Str)) = false := by decide) : PuE X (.Name x pos) (pC (.str z)) := by
  obtain ⟨t, h⟩ := h
  exact pu_glob (v := .str z) h ⟨t, rfl⟩ (fun _ => .str z) hg hd
end
end PL
end

section
set_option linter.all false
set_option maxRecDepth 100000
set_option maxHeartbeats 4000000
set_option autoImplicit false
/-! PL9: reading a body over data. -/
namespace PL
open PySem PySem.Spec PyProof.Rows L2

theorem for_r {lo : Int} {n : Nat} {g : PTG} {body : PTS} {PD : PEnds} {env : List C} (W : Nat → List C → Prop) (h0 : W 0 env)
    (hs : ∀ (k : Nat) (env : List C), k < n → W k env → g (.int (lo + k)) env fun e => body { nx := W (k + 1), ct := W (k + 1), bk := PD.nx, rt := PD.rt, er := PD.er } e) (hd : ∀ env, W n env → PD.nx env) : forP (sqR lo n) g body PD env :=
  ⟨W, h0, fun k d env hk ob w => by cases ob; exact hs k env hk w, hd⟩
theorem for_l {ds : List D} {g : PTG} {body : PTS} {PD : PEnds} {env : List C} (W : Nat → List C → Prop) (h0 : W 0 env)
    (hs : ∀ (k : Nat) (d : D) (env : List C), ds[k]? = some d → W k env → g d env fun e => body { nx := W (k + 1), ct := W (k + 1), bk := PD.nx, rt := PD.rt, er := PD.er } e) (hd : ∀ env, W ds.length env → PD.nx env) : forP (sqL ds) g body PD env :=
  ⟨W, h0, fun k d env _ ob w => hs k d env ob w, hd⟩
/-- over a list of data that stand for things of a type -/
theorem for_m {α : Type} {f : α → D} {xs : List α} {g : PTG} {body : PTS} {PD : PEnds} {env : List C} (W : Nat → List C → Prop) (h0 : W 0 env)
    (hs : ∀ (k : Nat) (x : α) (env : List C), xs[k]? = some x → W k env → g (f x) env fun e => body { nx := W (k + 1), ct := W (k + 1), bk := PD.nx, rt := PD.rt, er := PD.er } e) (hd : ∀ env, W xs.length env → PD.nx env) : forP (sqL (xs.map f)) g body PD env :=
  for_l W h0 (fun k d env hk w => by
    rw [List.getElem?_map] at hk
    cases e : xs[k]? with
    | none => rw [e] at hk; cases hk
    | some x => rw [e] at hk; cases hk; exact hs k x env e w) (fun env w => hd env (by simpa using w))
/-- a comprehension's body, folded (pLc over S) -/
def LcP (S : Sq) (vs : List Nat) (g : PTG) (pt : PTT) (pe : PTE) (env : List C) (P : D → Prop) : Prop := ∃ W : Nat → List D → Prop, W 0 [] ∧
  (∀ k d acc, k < S.n → S.ob k d → W k acc → g d (wipeC env vs) fun env2 => pt env2 fun b => if b = true then pe env2 fun y => acc.length < sizeLine ∧ W (k + 1) (acc ++ [y]) else W (k + 1) acc) ∧
  ∀ acc, W S.n acc → P (.lst acc)
theorem pLc_eq (pi : PTI) (vs : List Nat) (g : PTG) (pt : PTT) (pe : PTE) (env : List C) (P : D → Prop) : pLc pi vs g pt pe env P = pi env fun S => LcP S vs g pt pe env P := rfl
/-- one more item -/
structure Snoc (f : Nat → D) (k : Nat) (y : D) : Prop where
  e : y = f k
/-- over a range: item k is f k -/
theorem lc_r {lo : Int} {n : Nat} {vs : List Nat} {g : PTG} {pt : PTT} {pe : PTE} {env : List C} {P : D → Prop} (f : Nat → D) (hn : n ≤ sizeLine)
    (hs : ∀ (k : Nat) (R : D → Prop), k < n → R (f k) → g (.int (lo + k)) (wipeC env vs) fun env2 => pt env2 fun b => if b = true then pe env2 R else False)
    (hg : ∀ d e (A B : List C → Prop), (∀ x, A x → B x) → g d e A → g d e B) (hpt : ∀ e (A B : Bool → Prop), (∀ b, A b → B b) → pt e A → pt e B)
    (hd : P (.lst ((List.range n).map f))) : LcP (sqR lo n) vs g pt pe env P := by
  refine ⟨fun k acc => acc = (List.range k).map f, rfl, ?_, ?_⟩
  · rintro k d acc hk ob rfl
    cases ob
    have hk : k < n := hk
    refine hg _ _ _ _ (fun x hx => ?_) (hs k (fun y => ((List.range k).map f).length < sizeLine ∧ ((List.range k).map f ++ [y]) = (List.range (k + 1)).map f) hk ⟨by simp; omega, ?_⟩)
    · refine hpt _ _ _ (fun b hb => ?_) hx
      split at hb
      · rename_i h; subst h; rw [if_pos rfl]; exact hb
      · exact hb.elim
    · rw [List.range_succ, List.map_append]; rfl
  · rintro acc rfl; exact hd
theorem lc_l {ds : List D} {vs : List Nat} {g : PTG} {pt : PTT} {pe : PTE} {env : List C} {P : D → Prop} (f : D → D) (hn : ds.length ≤ sizeLine)
    (hs : ∀ (k : Nat) (d : D) (R : D → Prop), ds[k]? = some d → R (f d) → g d (wipeC env vs) fun env2 => pt env2 fun b => if b = true then pe env2 R else False)
    (hg : ∀ d e (A B : List C → Prop), (∀ x, A x → B x) → g d e A → g d e B) (hpt : ∀ e (A B : Bool → Prop), (∀ b, A b → B b) → pt e A → pt e B)
    (hd : P (.lst (ds.map f))) : LcP (sqL ds) vs g pt pe env P := by
  refine ⟨fun k acc => acc = (ds.take k).map f, by simp, ?_, ?_⟩
  · rintro k d acc hk ob rfl
    have hk : k < ds.length := hk
    have ob : ds[k]? = some d := ob
    refine hg _ _ _ _ (fun x hx => ?_) (hs k d (fun y => ((ds.take k).map f).length < sizeLine ∧ ((ds.take k).map f ++ [y]) = (ds.take (k + 1)).map f) ob ⟨by simp; omega, ?_⟩)
    · refine hpt _ _ _ (fun b hb => ?_) hx
      split at hb
      · rename_i h; subst h; rw [if_pos rfl]; exact hb
      · exact hb.elim
    · rw [List.take_add_one, ob, List.map_append]; rfl
  · rintro acc rfl
    show P (.lst ((ds.take ds.length).map f))
    rw [List.take_length]; exact hd
theorem pgN_mono (i : Nat) : ∀ d e (A B : List C → Prop), (∀ x, A x → B x) → pgN i d e A → pgN i d e B := fun _ _ _ _ h => h _
theorem pYes_mono : ∀ e (A B : Bool → Prop), (∀ b, A b → B b) → pYes e A → pYes e B := fun _ _ _ h => h _

/-! ### == of lists of ints, of texts -/
theorem flats_ints (ns : List Int) : flats (ns.map D.int) = true := by
  induction ns with
  | nil => rfl
  | cons n ns ih => exact ih
theorem toPys_ints (ns : List Int) : toPys (ns.map D.int) = ns.map PyData.int := by
  induction ns with
  | nil => rfl
  | cons n ns ih => show PyData.int n :: toPys (ns.map D.int) = _; rw [ih]; rfl
theorem lay_ints (ns : List Int) : PyData.canLayAll0 (ns.map PyData.int) = true := by
  induction ns with
  | nil => rfl
  | cons n ns ih => show (PyData.canLay0 (.int n) && PyData.canLayAll0 (ns.map PyData.int)) = true; rw [ih]; rfl
theorem depth_ints (ns : List Int) : PyData.depthAll (ns.map PyData.int) ≤ 1 := by
  induction ns with
  | nil => simp [PyData.depthAll]
  | cons n ns ih =>
    simp only [List.map_cons, PyData.depthAll, PyData.depth]
    omega
theorem cmpOk_ints (ns : List Int) : cmpOk (.lst (ns.map D.int)) = true := by
  have h1 : flat (.lst (ns.map D.int)) = true := flats_ints ns
  have h2 : SeqAt.shaped (toPy (.lst (ns.map D.int))) = true := by
    show (PyData.canLay0 (.list (toPys (ns.map D.int))) && decide (PyData.depth (.list (toPys (ns.map D.int))) ≤ 64)) = true
    rw [toPys_ints, Bool.and_eq_true]
    have := depth_ints ns
    exact ⟨lay_ints ns, decide_eq_true (by simp only [PyData.depth]; omega)⟩
  unfold cmpOk
  rw [h1, h2]; rfl
theorem eqv_ints (ns ms : List Int) : PyData.eqvAll (ns.map PyData.int) (ms.map PyData.int) = decide (ns = ms) := by
  induction ns generalizing ms with
  | nil => cases ms <;> simp [PyData.eqvAll]
  | cons n ns ih =>
    cases ms with
    | nil => simp [PyData.eqvAll]
    | cons m ms =>
      simp only [List.map_cons, PyData.eqvAll, PyData.eqv, ih]
      by_cases h : n = m
      · subst h; simp
      · simp [h]
theorem cmpOk_int (n : Int) : cmpOk (.int n) = true := rfl
/-- n in a list of ints -/
theorem hasP_ints (n : Int) (ns : List Int) : hasP (.int n) (ns.map D.int) = decide (n ∈ ns) := by
  unfold hasP
  rw [toPys_ints, List.any_map]
  show (ns.any fun z => PyData.eqv (.int z) (.int n)) = _
  simp only [PyData.eqv]
  induction ns with
  | nil => rfl
  | cons m ns ih =>
    rw [List.any_cons, ih]
    by_cases h : m = n
    · subst h; simp
    · have : ¬ n = m := fun e => h e.symm
      have hb : (m == n) = false := by simpa using h
      rw [hb]
      simp [this]
end PL
end

section
set_option linter.all false
set_option maxRecDepth 100000
set_option maxHeartbeats 4000000
set_option autoImplicit false
/-! PL10: plain facts the bodies lean on. -/
namespace PL
open PySem PySem.Spec PyProof.Rows L2

theorem rowE (r : List Int) (x : Int) : r.map D.int ++ [D.int x] = (r ++ [x]).map D.int := by rw [List.map_append]; rfl
theorem rowS (r : List Str) (x : Str) : r.map D.str ++ [D.str x] = (r ++ [x]).map D.str := by rw [List.map_append]; rfl
/-- each figure below its size -/
inductive Digs : List Int → List Int → Prop
  | nil : Digs [] []
  | cons {r s : Int} {rs ss : List Int} (h0 : 0 ≤ r) (h1 : r < s) (t : Digs rs ss) : Digs (r :: rs) (s :: ss)
theorem Digs.length {rs ss : List Int} (h : Digs rs ss) : rs.length = ss.length := by
  induction h with
  | nil => rfl
  | cons _ _ _ ih => simp [ih]
theorem Digs.of : ∀ {rs ss : List Int}, rs.length = ss.length → (∀ (i : Nat) (r s : Int), rs[i]? = some r → ss[i]? = some s → 0 ≤ r ∧ r < s) → Digs rs ss
  | [], [], _, _ => .nil
  | [], _ :: _, h, _ => by simp at h
  | _ :: _, [], h, _ => by simp at h
  | r :: rs, s :: ss, h, k => .cons (k 0 r s rfl rfl).1 (k 0 r s rfl rfl).2 (Digs.of (by simpa using h) fun i x y hx hy => k (i + 1) x y hx hy)
theorem Digs.at {rs ss : List Int} (h : Digs rs ss) : ∀ {i : Nat} {r s : Int}, rs[i]? = some r → ss[i]? = some s → 0 ≤ r ∧ r < s := by
  induction h with
  | nil => intro i r s hr; cases hr
  | cons h0 h1 _ ih =>
    intro i r s hr hs
    cases i with
    | zero => cases hr; cases hs; exact ⟨h0, h1⟩
    | succ i => exact ih hr hs
/-- the items so far -/
def DigsK (k : Nat) (rs ss : List Int) : Prop := rs.length = k ∧ ∀ (i : Nat) (r s : Int), rs[i]? = some r → ss[i]? = some s → 0 ≤ r ∧ r < s
theorem DigsK.nil (ss : List Int) : DigsK 0 [] ss := ⟨rfl, fun i r s h => by cases h⟩
theorem DigsK.snoc {k : Nat} {rs ss : List Int} {r s : Int} (h : DigsK k rs ss) (hs : ss[k]? = some s) (h0 : 0 ≤ r) (h1 : r < s) : DigsK (k + 1) (rs ++ [r]) ss := by
  refine ⟨by simp [h.1], fun i r' s' hr hs' => ?_⟩
  by_cases hi : i < rs.length
  · rw [List.getElem?_append_left hi] at hr
    exact h.2 i r' s' hr hs'
  · have hlt : i < (rs ++ [r]).length := (List.getElem?_eq_some_iff.mp hr).1
    rw [List.length_append, List.length_singleton] at hlt
    have e : i = k := by have := h.1; omega
    subst e
    rw [hs] at hs'; cases hs'
    rw [show i = rs.length from h.1.symm, List.getElem?_concat_length] at hr
    cases hr
    exact ⟨h0, h1⟩
theorem DigsK.done {rs ss : List Int} (h : DigsK ss.length rs ss) : Digs rs ss := Digs.of h.1 h.2
theorem atI_map {α β : Type} (f : α → β) {xs : List α} {j : Nat} {x : α} (h : xs[j]? = some x) : atI (xs.map f) (j : Int) = some (f x) := atI_nat (by rw [List.getElem?_map, h]; rfl)
theorem atI_mapI {α β : Type} (f : α → β) {xs : List α} {i : Int} (h0 : 0 ≤ i) (h1 : i < xs.length) : ∃ x, x ∈ xs ∧ xs[i.toNat]? = some x ∧ atI (xs.map f) i = some (f x) := by
  obtain ⟨j, rfl⟩ := Int.eq_ofNat_of_zero_le h0
  have hj : j < xs.length := by omega
  refine ⟨xs[j], List.getElem_mem hj, ?_, atI_map f (List.getElem?_eq_getElem hj)⟩
  simp [hj]
/-- 2 ^ k, cast -/
theorem cdivw {i j : Int} (a : Nat) (h0 : 0 < j) (h : j < 2 ^ a) (ha : a ≤ 8999) : CDivW i j := by
  refine ⟨h0, ?_⟩
  have e : j.natAbs ≠ 0 := by omega
  have hp : ((2 : Int) ^ a) = ((2 ^ a : Nat) : Int) := by simp
  have hl : j.natAbs < 2 ^ a := by omega
  have := (Nat.log2_lt e).mpr hl
  omega
theorem natAbs_lt_pow {j : Int} {a : Nat} (h0 : 0 ≤ j) (h : j < 2 ^ a) : j.natAbs < 2 ^ a := by
  have hp : ((2 : Int) ^ a) = ((2 ^ a : Nat) : Int) := by simp
  omega
theorem cmul_pow {i j : Int} (a b : Nat) (h0 : 0 ≤ i) (h : i < 2 ^ a) (h1 : 0 ≤ j) (h2 : j < 2 ^ b) (ha : a + b ≤ 134217728) : CMulX i j := mulx_ok (natAbs_lt_pow h0 h) (natAbs_lt_pow h1 h2) ha
theorem cpow18 : CPow 10 18 := by unfold CPow; decide
/-- of n options, the bits -/
def lw (m : Int) : Nat := Builtin.Int.intBits (m - 1)
theorem lw_le {m : Int} {w : Nat} (h : 1 ≤ m) : lw m ≤ w ↔ m ≤ 2 ^ w := by
  unfold lw
  have hp : ((2 : Int) ^ w) = ((2 ^ w : Nat) : Int) := by simp
  constructor
  · intro e
    have h2 : (m - 1).natAbs < 2 ^ w := by
      unfold Builtin.Int.intBits at e
      split at e
      · rename_i z
        have : m - 1 = 0 := by simpa using z
        rw [this]; simp [Nat.two_pow_pos]
      · rename_i z
        have z : m - 1 ≠ 0 := by simpa using z
        exact (Nat.log2_lt (by omega)).mp (by omega)
    omega
  · intro e
    exact intBits_le (by omega)

/-! ### a number as a text of w bits -/
def bitC (n : Int) : Nat := if n % 2 = 1 then 49 else 48
def numL (n : Int) : Nat → List Nat
  | 0 => []
  | w + 1 => numL (n / 2) w ++ [bitC n]
def numS (n : Int) (w : Nat) : Str := ⟨(numL n w).toArray⟩
theorem numL_len (w : Nat) : ∀ n : Int, (numL n w).length = w := by
  induction w with
  | zero => intro n; rfl
  | succ w ih => intro n; simp [numL, ih]
theorem numS_len (n : Int) (w : Nat) : (numS n w).length = w := by
  show (numL n w).toArray.size = w
  simp [numL_len]
theorem numS_tl (n : Int) (w : Nat) : (numS n w).cps.toList = numL n w := by simp [numS]
def valL (xs : List Nat) : Int := xs.foldl (fun v c => v * 2 + if c = 49 then 1 else 0) 0
theorem valL_snoc (xs : List Nat) (c : Nat) : valL (xs ++ [c]) = valL xs * 2 + if c = 49 then 1 else 0 := by simp [valL, List.foldl_append]
theorem numL_bits (w : Nat) : ∀ (n : Int) (c : Nat), c ∈ numL n w → c = 48 ∨ c = 49 := by
  induction w with
  | zero => intro n c h; cases h
  | succ w ih =>
    intro n c h
    simp only [numL, List.mem_append, List.mem_singleton] at h
    rcases h with h | h
    · exact ih _ _ h
    · subst h; unfold bitC; split <;> simp
theorem valL_num (w : Nat) : ∀ n : Int, 0 ≤ n → n < 2 ^ w → valL (numL n w) = n := by
  induction w with
  | zero => intro n h0 h; simp at h; have : n = 0 := by omega
            subst this; rfl
  | succ w ih =>
    intro n h0 h
    have h' : n / 2 < 2 ^ w := by rw [Int.pow_succ] at h; omega
    simp only [numL, valL_snoc, ih (n / 2) (by omega) h', bitC]
    split
    · rw [if_pos rfl]; omega
    · rw [if_neg (by decide)]; omega
theorem lex_app {a b c d : List Nat} (h : a < b) (e : a.length = b.length) : a ++ c < b ++ d := by
  induction a generalizing b with
  | nil => cases b with
    | nil => exact absurd h (by simp)
    | cons y b => simp at e
  | cons x a ih => cases b with
    | nil => simp at e
    | cons y b =>
      rw [List.cons_lt_cons_iff] at h
      rw [List.cons_append, List.cons_append, List.cons_lt_cons_iff]
      rcases h with h | ⟨h1, h2⟩
      · exact .inl h
      · exact .inr ⟨h1, ih h2 (by simpa using e)⟩
theorem lex_same {a c d : List Nat} (h : c < d) : a ++ c < a ++ d := by
  induction a with
  | nil => exact h
  | cons x a ih => rw [List.cons_append, List.cons_append, List.cons_lt_cons_iff]; exact .inr ⟨rfl, ih⟩
theorem numL_lt (w : Nat) : ∀ n m : Int, 0 ≤ n → n < m → m < 2 ^ w → numL n w < numL m w := by
  induction w with
  | zero => intro n m h0 h1 h2; simp at h2; omega
  | succ w ih =>
    intro n m h0 h1 h2
    simp only [numL]
    by_cases e : n / 2 = m / 2
    · rw [e]
      apply lex_same
      have a : n % 2 = 0 := by omega
      have b : m % 2 = 1 := by omega
      rw [List.cons_lt_cons_iff]
      left
      simp [bitC, a, b]
    · refine lex_app (ih _ _ (by omega) (by omega) ?_) (by rw [numL_len, numL_len])
      rw [Int.pow_succ] at h2; omega
/-- texts of one sign each -/
theorem join_signs (cs : List Nat) : Txt.join (Str.ofString "") (cs.map fun c => (⟨#[c]⟩ : Str)) = ⟨cs.toArray⟩ := by
  rw [TL.join_eq]
  apply TL.ext_tl
  rw [TL.tl_join]
  show TL.joinL [] _ = cs
  induction cs with
  | nil => rfl
  | cons c cs ih =>
    cases cs with
    | nil => rfl
    | cons d cs => 
      show [c] ++ ([] ++ TL.joinL [] _) = _
      rw [show ((d :: cs).map fun c => (⟨#[c]⟩ : Str)).map TL.tl = TL.tl (⟨#[d]⟩ : Str) :: (cs.map fun c => (⟨#[c]⟩ : Str)).map TL.tl from rfl] at ih
      rw [ih]; rfl
/-- the figures, lowest first -/
def lowL (n : Int) : Nat → List Nat
  | 0 => []
  | k + 1 => lowL n k ++ [bitC (n / 2 ^ k)]
theorem lowL_len (n : Int) (k : Nat) : (lowL n k).length = k := by
  induction k with
  | zero => rfl
  | succ k ih => simp [lowL, ih]
theorem lowL_cons (n : Int) (k : Nat) : lowL n (k + 1) = bitC n :: lowL (n / 2) k := by
  induction k with
  | zero => simp [lowL]
  | succ k ih =>
    rw [lowL, ih, lowL]
    have e : n / 2 / 2 ^ k = n / 2 ^ (k + 1) := by
      rw [Int.ediv_ediv_of_nonneg (by omega), Int.pow_succ, Int.mul_comm]
    rw [e]; rfl
theorem lowL_rev (w : Nat) : ∀ n : Int, (lowL n w).reverse = numL n w := by
  induction w with
  | zero => intro n; rfl
  | succ w ih => intro n; rw [lowL_cons, List.reverse_cons, ih]; rfl
/-- over a list of things: item x gives f' x -/
theorem lc_m {α : Type} {f : α → D} {xs : List α} {vs : List Nat} {g : PTG} {pt : PTT} {pe : PTE} {env : List C} {P : D → Prop} (W : Nat → List D → Prop) (h0 : W 0 [])
    (hs : ∀ (k : Nat) (x : α) (acc : List D), xs[k]? = some x → W k acc → g (f x) (wipeC env vs) fun env2 => pt env2 fun b => if b = true then pe env2 fun y => acc.length < sizeLine ∧ W (k + 1) (acc ++ [y]) else W (k + 1) acc)
    (hd : ∀ acc, W xs.length acc → P (.lst acc)) : LcP (sqL (xs.map f)) vs g pt pe env P := by
  refine ⟨W, h0, fun k d acc _ ob w => ?_, fun acc w => hd acc (by have : W (xs.map f).length acc := w; rwa [List.length_map] at this)⟩
  have ob : (xs.map f)[k]? = some d := ob
  rw [List.getElem?_map] at ob
  cases e : xs[k]? with
  | none => rw [e] at ob; cases ob
  | some x => rw [e] at ob; cases ob; exact hs k x acc e w
theorem lc_n {lo : Int} {n : Nat} {vs : List Nat} {g : PTG} {pt : PTT} {pe : PTE} {env : List C} {P : D → Prop} (W : Nat → List D → Prop) (h0 : W 0 [])
    (hs : ∀ (k : Nat) (acc : List D), k < n → W k acc → g (.int (lo + k)) (wipeC env vs) fun env2 => pt env2 fun b => if b = true then pe env2 fun y => acc.length < sizeLine ∧ W (k + 1) (acc ++ [y]) else W (k + 1) acc)
    (hd : ∀ acc, W n acc → P (.lst acc)) : LcP (sqR lo n) vs g pt pe env P :=
  ⟨W, h0, fun k d acc hk ob w => by cases ob; exact hs k acc hk w, hd⟩
theorem pow2_le {a b : Nat} (h : a ≤ b) : (2 : Int) ^ a ≤ 2 ^ b := by
  have e1 : ((2 : Int) ^ a) = ((2 ^ a : Nat) : Int) := by simp
  have e2 : ((2 : Int) ^ b) = ((2 ^ b : Nat) : Int) := by simp
  have := Nat.pow_le_pow_right (n := 2) (by decide) h
  omega
theorem ipow_le {c d : Int} {a b : Nat} (h0 : 1 ≤ c) (hc : c ≤ d) (h : a ≤ b) : c ^ a ≤ d ^ b := by
  obtain ⟨c, rfl⟩ := Int.eq_ofNat_of_zero_le (show 0 ≤ c by omega)
  obtain ⟨d, rfl⟩ := Int.eq_ofNat_of_zero_le (show 0 ≤ d by omega)
  have e1 : ((c : Int) ^ a) = ((c ^ a : Nat) : Int) := by simp
  have e2 : ((d : Int) ^ b) = ((d ^ b : Nat) : Int) := by simp
  have h1 := Nat.pow_le_pow_left (show c ≤ d by omega) a
  have h2 := Nat.pow_le_pow_right (n := d) (show 0 < d by omega) h
  omega
theorem ipow_pos {c : Int} {a : Nat} (h0 : 1 ≤ c) : 1 ≤ c ^ a := by
  have := ipow_le (c := c) (d := c) (a := 0) (b := a) h0 (Int.le_refl _) (Nat.zero_le _)
  rwa [Int.pow_zero] at this
theorem take_snoc {α : Type} {xs : List α} {k : Nat} {x : α} (h : xs[k]? = some x) : xs.take (k + 1) = xs.take k ++ [x] := by rw [List.take_add_one, h]; rfl
theorem valL_bd (xs : List Nat) : ∀ (k : Nat) (v : Int), 0 ≤ v → v < 2 ^ k → 0 ≤ xs.foldl (fun v c => v * 2 + if c = 49 then 1 else 0) v ∧ xs.foldl (fun (v : Int) c => v * 2 + if c = 49 then 1 else 0) v < 2 ^ (k + xs.length) := by
  induction xs with
  | nil => intro k v h0 h1; exact ⟨h0, h1⟩
  | cons c xs ih =>
    intro k v h0 h1
    have e : (2 : Int) ^ (k + 1) = 2 ^ k * 2 := Int.pow_succ _ _
    have := ih (k + 1) (v * 2 + if c = 49 then 1 else 0) (by split <;> omega) (by split <;> omega)
    rw [List.length_cons, show k + (xs.length + 1) = k + 1 + xs.length by omega]
    exact this
theorem valL_lt (xs : List Nat) : 0 ≤ valL xs ∧ valL xs < 2 ^ xs.length := by
  have := valL_bd xs 0 0 (by decide) (by decide)
  rwa [Nat.zero_add] at this
theorem sum_ones {α : Type} (f : α → Str) (h : ∀ a, (f a).length = 1) (xs : List α) : ((xs.map f).map (·.length)).sum = xs.length := by
  induction xs with
  | nil => rfl
  | cons x xs ih => simp only [List.map_cons, List.sum_cons, ih, h, List.length_cons]; omega
theorem halves (n : Int) (k : Nat) : n / 2 ^ k / 2 = n / 2 ^ (k + 1) := by
  have : (0 : Int) ≤ 2 ^ k := by have := pow2_le (Nat.zero_le k); rw [Int.pow_zero] at this; omega
  rw [Int.ediv_ediv_of_nonneg this, Int.pow_succ]
theorem pairwise_lt {ms : List Int} (h : ms.Pairwise (· ≤ ·)) (hn : ms.Nodup) : ms.Pairwise (· < ·) := by
  induction ms with
  | nil => exact .nil
  | cons m ms ih =>
    rw [List.pairwise_cons] at h
    rw [List.nodup_cons] at hn
    rw [List.pairwise_cons]
    refine ⟨fun x hx => ?_, ih h.2 hn.2⟩
    have h1 := h.1 x hx
    have h2 : x ≠ m := fun e => hn.1 (e ▸ hx)
    omega
theorem range_lt (n : Nat) : ((List.range n).map fun (i : Nat) => (i : Int)).Pairwise (· < ·) := by
  rw [List.pairwise_map]
  exact List.pairwise_lt_range.imp (fun h => by omega)
theorem sizes_ok {l : List Int} (h : ∀ s ∈ l, 0 < s ∧ s ≤ 1000000000000) : ∀ s ∈ l, 0 < s ∧ s < 2 ^ 1000 := fun s hs => by
  have := pow2_le (a := 50) (b := 1000) (by decide)
  have := h s hs
  omega
theorem str_0 : Str.ofString "0" = ⟨#[48]⟩ := by decide +kernel
theorem str_1 : Str.ofString "1" = ⟨#[49]⟩ := by decide +kernel
theorem str_e : Str.ofString "" = ⟨#[]⟩ := by decide +kernel
theorem sgn1 {c d : Nat} : ((⟨#[c]⟩ : Str) = ⟨#[d]⟩) = (c = d) := by simp
end PL
end

section
set_option linter.all false
set_option maxRecDepth 100000
set_option maxHeartbeats 4000000
set_option autoImplicit false
/-! PL11: the readings at known data, one equation each (printed by a small program of ours). -/
namespace PL
open PySem PySem.Spec PyProof.Rows L2
theorem isiE {d : D} {n T : String} {b : Bool} {P : D → Prop} (h1 : tyName d = some n) (h2 : kitB n T = some b) : (∃ n b, tyName d = some n ∧ kitB n T = some b ∧ P (.bl b)) = P (.bl b) := by
  refine propext ⟨fun ⟨m, c, e1, e2, p⟩ => ?_, fun p => ⟨_, _, h1, h2, p⟩⟩
  rw [h1] at e1; cases e1
  rw [h2] at e2; cases e2
  exact p
theorem ixE {ds : List D} {i : Int} {x : D} {P : D → Prop} (h : atI ds i = some x) : (∃ d, atI ds i = some d ∧ P d) = P x := by rw [h]; exact propext ⟨fun ⟨d, e, p⟩ => by cases e; exact p, fun p => ⟨x, rfl, p⟩⟩
theorem ixE_0 {x0 : D} {l : List D} {P : D → Prop} : (∃ d, atI (x0 :: l) 0 = some d ∧ P d) = P x0 := ixE (atI_nat (j := 0) rfl)
theorem ixE_1 {x0 x1 : D} {l : List D} {P : D → Prop} : (∃ d, atI (x0 :: x1 :: l) 1 = some d ∧ P d) = P x1 := ixE (atI_nat (j := 1) rfl)
theorem ixE_2 {x0 x1 x2 : D} {l : List D} {P : D → Prop} : (∃ d, atI (x0 :: x1 :: x2 :: l) 2 = some d ∧ P d) = P x2 := ixE (atI_nat (j := 2) rfl)
theorem ixE_3 {x0 x1 x2 x3 : D} {l : List D} {P : D → Prop} : (∃ d, atI (x0 :: x1 :: x2 :: x3 :: l) 3 = some d ∧ P d) = P x3 := ixE (atI_nat (j := 3) rfl)
theorem ixE_4 {x0 x1 x2 x3 x4 : D} {l : List D} {P : D → Prop} : (∃ d, atI (x0 :: x1 :: x2 :: x3 :: x4 :: l) 4 = some d ∧ P d) = P x4 := ixE (atI_nat (j := 4) rfl)
theorem ixE_5 {x0 x1 x2 x3 x4 x5 : D} {l : List D} {P : D → Prop} : (∃ d, atI (x0 :: x1 :: x2 :: x3 :: x4 :: x5 :: l) 5 = some d ∧ P d) = P x5 := ixE (atI_nat (j := 5) rfl)
theorem ixE_6 {x0 x1 x2 x3 x4 x5 x6 : D} {l : List D} {P : D → Prop} : (∃ d, atI (x0 :: x1 :: x2 :: x3 :: x4 :: x5 :: x6 :: l) 6 = some d ∧ P d) = P x6 := ixE (atI_nat (j := 6) rfl)
theorem ixE_7 {x0 x1 x2 x3 x4 x5 x6 x7 : D} {l : List D} {P : D → Prop} : (∃ d, atI (x0 :: x1 :: x2 :: x3 :: x4 :: x5 :: x6 :: x7 :: l) 7 = some d ∧ P d) = P x7 := ixE (atI_nat (j := 7) rfl)
theorem ixE_8 {x0 x1 x2 x3 x4 x5 x6 x7 x8 : D} {l : List D} {P : D → Prop} : (∃ d, atI (x0 :: x1 :: x2 :: x3 :: x4 :: x5 :: x6 :: x7 :: x8 :: l) 8 = some d ∧ P d) = P x8 := ixE (atI_nat (j := 8) rfl)
def isiD (T : String) (d : D) (P : D → Prop) : Prop := ∃ n b, tyName d = some n ∧ kitB n T = some b ∧ P (.bl b)
theorem inP_l {neg : Bool} {x : D} {ys : List D} {P : D → Prop} : inP neg x (.lst ys) P = (cmpOk x = true ∧ cmpOk (.lst ys) = true ∧ P (.bl (hasP x ys != neg))) := rfl
theorem isiP_eq {T : String} {p : PTE} {env : List C} {P : D → Prop} : isiP T p env P = p env fun d => isiD T d P := rfl
theorem addP_i {P : D → Prop} {i j : Int} : addP (.int i) (.int j) P = (P (.int (i + j))) := rfl
theorem addP_s {P : D → Prop} {i j : Str} : addP (.str i) (.str j) P = (i.length + j.length ≤ sizeLine ∧ P (.str (i ++ j))) := rfl
theorem addP_t {P : D → Prop} {i j : List D} : addP (.tup i) (.tup j) P = (i ≠ [] ∧ i.length + j.length ≤ sizeLine ∧ P (.tup (i ++ j))) := rfl
theorem addP_l {P : D → Prop} {i j : List D} : addP (.lst i) (.lst j) P = (i.length + j.length ≤ sizeLine ∧ P (.lst (i ++ j))) := rfl
theorem catP_l {P : D → Prop} {i j : List D} : catP (.lst i) (.lst j) P = (i.length + j.length ≤ sizeLine ∧ P (.lst (i ++ j))) := rfl
theorem subP_i {P : D → Prop} {i j : Int} : subP (.int i) (.int j) P = (P (.int (i - j))) := rfl
theorem mulP_i {P : D → Prop} {i j : Int} : mulP (.int i) (.int j) P = (CMulX i j ∧ P (.int (i * j))) := rfl
theorem mulP_l {P : D → Prop} {i : List D} {j : Int} : mulP (.lst i) (.int j) P = (-(2 ^ 63) ≤ j ∧ j < 2 ^ 63 ∧ i.length * j.toNat ≤ sizeLine ∧ P (.lst (List.replicate j.toNat i).flatten)) := rfl
theorem mulP_s {P : D → Prop} {i : Str} {j : Int} : mulP (.str i) (.int j) P = (-(2 ^ 63) ≤ j ∧ j < 2 ^ 63 ∧ i.length * j.toNat ≤ sizeLine ∧ P (.str (repS i j.toNat))) := rfl
theorem repP_l {P : D → Prop} {i : List D} {j : Int} : repP (.lst i) (.int j) P = (-(2 ^ 63) ≤ j ∧ j < 2 ^ 63 ∧ i.length * j.toNat ≤ sizeLine ∧ P (.lst (List.replicate j.toNat i).flatten)) := rfl
theorem fdivP_i {P : D → Prop} {i j : Int} : fdivP (.int i) (.int j) P = (CDivW i j ∧ P (.int (i / j))) := rfl
theorem modP_i {P : D → Prop} {i j : Int} : modP (.int i) (.int j) P = (0 < j ∧ P (.int (i % j))) := rfl
theorem powP_i {P : D → Prop} {i j : Int} : powP (.int i) (.int j) P = (CPow i j ∧ P (.int (i ^ j.toNat))) := rfl
theorem ltP_i {P : D → Prop} {i j : Int} : ltP (.int i) (.int j) P = (P (.bl (decide (i < j)))) := rfl
theorem ltP_s {P : D → Prop} {i j : Str} : ltP (.str i) (.str j) P = (P (.bl (decide (i.cps.toList < j.cps.toList)))) := rfl
theorem gtP_i {P : D → Prop} {i j : Int} : gtP (.int i) (.int j) P = (P (.bl (decide (j < i)))) := rfl
theorem gtP_s {P : D → Prop} {i j : Str} : gtP (.str i) (.str j) P = (P (.bl (decide (j.cps.toList < i.cps.toList)))) := rfl
theorem leP_i {P : D → Prop} {i j : Int} : leP (.int i) (.int j) P = (P (.bl (decide (i ≤ j)))) := rfl
theorem leP_s {P : D → Prop} {i j : Str} : leP (.str i) (.str j) P = (P (.bl (!decide (j.cps.toList < i.cps.toList)))) := rfl
theorem geP_i {P : D → Prop} {i j : Int} : geP (.int i) (.int j) P = (P (.bl (decide (j ≤ i)))) := rfl
theorem geP_s {P : D → Prop} {i j : Str} : geP (.str i) (.str j) P = (P (.bl (!decide (i.cps.toList < j.cps.toList)))) := rfl
theorem eqP_int {P : D → Prop} {i j : Int} : eqP (.int i) (.int j) P = (P (.bl (decide (i = j)))) := rfl
theorem eqP_str {P : D → Prop} {i j : Str} : eqP (.str i) (.str j) P = (P (.bl (decide (i = j)))) := rfl
theorem eqP_bl {P : D → Prop} {i j : Bool} : eqP (.bl i) (.bl j) P = (P (.bl (decide (i = j)))) := rfl
theorem eqP_lst_lst {P : D → Prop} {i j : List D} : eqP (.lst i) (.lst j) P = (cmpOk (.lst i) = true ∧ cmpOk (.lst j) = true ∧ P (.bl (PyData.eqv (toPy (.lst i)) (toPy (.lst j))))) := rfl
theorem eqP_tup_tup {P : D → Prop} {i j : List D} : eqP (.tup i) (.tup j) P = (cmpOk (.tup i) = true ∧ cmpOk (.tup j) = true ∧ P (.bl (PyData.eqv (toPy (.tup i)) (toPy (.tup j))))) := rfl
theorem eqP_lst_tup {P : D → Prop} {i j : List D} : eqP (.lst i) (.tup j) P = (cmpOk (.lst i) = true ∧ cmpOk (.tup j) = true ∧ P (.bl (PyData.eqv (toPy (.lst i)) (toPy (.tup j))))) := rfl
theorem eqP_tup_lst {P : D → Prop} {i j : List D} : eqP (.tup i) (.lst j) P = (cmpOk (.tup i) = true ∧ cmpOk (.lst j) = true ∧ P (.bl (PyData.eqv (toPy (.tup i)) (toPy (.lst j))))) := rfl
theorem neP_int {P : D → Prop} {i j : Int} : neP (.int i) (.int j) P = (P (.bl (!decide (i = j)))) := rfl
theorem neP_str {P : D → Prop} {i j : Str} : neP (.str i) (.str j) P = (P (.bl (!decide (i = j)))) := rfl
theorem neP_bl {P : D → Prop} {i j : Bool} : neP (.bl i) (.bl j) P = (P (.bl (!decide (i = j)))) := rfl
theorem neP_lst_lst {P : D → Prop} {i j : List D} : neP (.lst i) (.lst j) P = (cmpOk (.lst i) = true ∧ cmpOk (.lst j) = true ∧ P (.bl (!PyData.eqv (toPy (.lst i)) (toPy (.lst j))))) := rfl
theorem neP_tup_tup {P : D → Prop} {i j : List D} : neP (.tup i) (.tup j) P = (cmpOk (.tup i) = true ∧ cmpOk (.tup j) = true ∧ P (.bl (!PyData.eqv (toPy (.tup i)) (toPy (.tup j))))) := rfl
theorem neP_lst_tup {P : D → Prop} {i j : List D} : neP (.lst i) (.tup j) P = (cmpOk (.lst i) = true ∧ cmpOk (.tup j) = true ∧ P (.bl (!PyData.eqv (toPy (.lst i)) (toPy (.tup j))))) := rfl
theorem neP_tup_lst {P : D → Prop} {i j : List D} : neP (.tup i) (.lst j) P = (cmpOk (.tup i) = true ∧ cmpOk (.lst j) = true ∧ P (.bl (!PyData.eqv (toPy (.tup i)) (toPy (.lst j))))) := rfl
theorem asB_b {P : Bool → Prop} {b : Bool} : asB P (.bl b) = (P b) := rfl
theorem asS_s {P : Str → Prop} {b : Str} : asS P (.str b) = (P b) := rfl
theorem lenP_lst {P : D → Prop} {xs : List D} : lenP [.lst xs] P = (P (.int (xs.length : Nat))) := rfl
theorem itP_lst {P : Sq → Prop} {xs : List D} : itP P (.lst xs) = (P (sqL xs)) := rfl
theorem ixP_lst {P : D → Prop} {xs : List D} {i : Int} : ixP (.lst xs) (.int i) P = (∃ d, atI xs i = some d ∧ P d) := rfl
theorem listP_lst_ {P : D → Prop} {xs : List D} : listP [.lst xs] P = (∃ ys, itemsOf (.lst xs) = some ys ∧ P (.lst ys)) := rfl
theorem tupleP_lst_ {P : D → Prop} {xs : List D} : tupleP [.lst xs] P = (∃ ys, itemsOf (.lst xs) = some ys ∧ P (.tup ys)) := rfl
theorem sumP_lst_ {P : D → Prop} {xs : List D} : sumP [.lst xs] P = (∃ ys ns, lstOf (.lst xs) = some ys ∧ intsOf ys = some ns ∧ P (.int ns.sum)) := rfl
theorem maxP_lst_ {P : D → Prop} {xs : List D} : maxP [.lst xs] P = (∃ ys ns, lstOf (.lst xs) = some ys ∧ intsOf ys = some ns ∧ 0 < ns.length ∧ ∀ m, m ∈ ns → (∀ y, y ∈ ns → y ≤ m) → P (.int m)) := rfl
theorem minP_lst_ {P : D → Prop} {xs : List D} : minP [.lst xs] P = (∃ ys ns, lstOf (.lst xs) = some ys ∧ intsOf ys = some ns ∧ 0 < ns.length ∧ ∀ m, m ∈ ns → (∀ y, y ∈ ns → m ≤ y) → P (.int m)) := rfl
theorem lenP_tup {P : D → Prop} {xs : List D} : lenP [.tup xs] P = (P (.int (xs.length : Nat))) := rfl
theorem itP_tup {P : Sq → Prop} {xs : List D} : itP P (.tup xs) = (P (sqL xs)) := rfl
theorem ixP_tup {P : D → Prop} {xs : List D} {i : Int} : ixP (.tup xs) (.int i) P = (∃ d, atI xs i = some d ∧ P d) := rfl
theorem listP_tup_ {P : D → Prop} {xs : List D} : listP [.tup xs] P = (∃ ys, itemsOf (.tup xs) = some ys ∧ P (.lst ys)) := rfl
theorem tupleP_tup_ {P : D → Prop} {xs : List D} : tupleP [.tup xs] P = (∃ ys, itemsOf (.tup xs) = some ys ∧ P (.tup ys)) := rfl
theorem sumP_tup_ {P : D → Prop} {xs : List D} : sumP [.tup xs] P = (∃ ys ns, lstOf (.tup xs) = some ys ∧ intsOf ys = some ns ∧ P (.int ns.sum)) := rfl
theorem maxP_tup_ {P : D → Prop} {xs : List D} : maxP [.tup xs] P = (∃ ys ns, lstOf (.tup xs) = some ys ∧ intsOf ys = some ns ∧ 0 < ns.length ∧ ∀ m, m ∈ ns → (∀ y, y ∈ ns → y ≤ m) → P (.int m)) := rfl
theorem minP_tup_ {P : D → Prop} {xs : List D} : minP [.tup xs] P = (∃ ys ns, lstOf (.tup xs) = some ys ∧ intsOf ys = some ns ∧ 0 < ns.length ∧ ∀ m, m ∈ ns → (∀ y, y ∈ ns → m ≤ y) → P (.int m)) := rfl
theorem lenP_scr {P : D → Prop} {xs : List D} : lenP [.scr xs] P = (P (.int (xs.length : Nat))) := rfl
theorem itP_scr {P : Sq → Prop} {xs : List D} : itP P (.scr xs) = (P (sqL xs)) := rfl
theorem ixP_scr {P : D → Prop} {xs : List D} {i : Int} : ixP (.scr xs) (.int i) P = (∃ d, atI xs i = some d ∧ P d) := rfl
theorem listP_scr_ {P : D → Prop} {xs : List D} : listP [.scr xs] P = (∃ ys, itemsOf (.scr xs) = some ys ∧ P (.lst ys)) := rfl
theorem tupleP_scr_ {P : D → Prop} {xs : List D} : tupleP [.scr xs] P = (∃ ys, itemsOf (.scr xs) = some ys ∧ P (.tup ys)) := rfl
theorem sumP_scr_ {P : D → Prop} {xs : List D} : sumP [.scr xs] P = (∃ ys ns, lstOf (.scr xs) = some ys ∧ intsOf ys = some ns ∧ P (.int ns.sum)) := rfl
theorem maxP_scr_ {P : D → Prop} {xs : List D} : maxP [.scr xs] P = (∃ ys ns, lstOf (.scr xs) = some ys ∧ intsOf ys = some ns ∧ 0 < ns.length ∧ ∀ m, m ∈ ns → (∀ y, y ∈ ns → y ≤ m) → P (.int m)) := rfl
theorem minP_scr_ {P : D → Prop} {xs : List D} : minP [.scr xs] P = (∃ ys ns, lstOf (.scr xs) = some ys ∧ intsOf ys = some ns ∧ 0 < ns.length ∧ ∀ m, m ∈ ns → (∀ y, y ∈ ns → m ≤ y) → P (.int m)) := rfl
theorem lenP_str {P : D → Prop} {z : Str} : lenP [.str z] P = (z.length ≤ sizeLine ∧ P (.int (z.length : Nat))) := rfl
theorem lenP_dk {P : D → Prop} {z : List (Key × D)} : lenP [.dk z] P = (P (.int (z.length : Nat))) := rfl
theorem itP_str {P : Sq → Prop} {xs : Str} : itP P (.str xs) = (P (sqL (signs xs))) := rfl
theorem ixP_str {P : D → Prop} {z : Str} {i : Int} : ixP (.str z) (.int i) P = (z.length ≤ sizeLine ∧ ∃ c, atI z.cps.toList i = some c ∧ P (.str ⟨#[c]⟩)) := rfl
theorem intP_i {P : D → Prop} {i : Int} : intP [.int i] P = (P (.int i)) := rfl
theorem intP_b {P : D → Prop} {k : Bool} : intP [.bl k] P = (P (.int (if k then 1 else 0))) := rfl
theorem rg1_i {P : Sq → Prop} {i : Int} : rg1 P (.int i) = (PL.inR i ∧ P (sqR 0 i.toNat)) := rfl
theorem rg2_i {P : Sq → Prop} {i j : Int} : rg2 P (.int i) (.int j) = ((PL.inR i ∧ PL.inR j) ∧ P (sqR i (j - i).toNat)) := rfl
theorem lr1_i {P : D → Prop} {n : Int} : lr1 P (.int n) = (RgOk 0 n ∧ P (.lst ((List.range n.toNat).map fun (i : Nat) => D.int (i : Int)))) := rfl
theorem lr2_i {P : D → Prop} {m n : Int} : lr2 P (.int m) (.int n) = (RgOk m n ∧ P (.lst ((List.range (n - m).toNat).map fun (i : Nat) => D.int (m + (i : Int))))) := rfl
theorem maxP_2 {P : D → Prop} {i j : Int} : maxP [.int i, .int j] P = (P (.int (max i j))) := rfl
theorem maxP_3 {P : D → Prop} {i j k : Int} : maxP [.int i, .int j, .int k] P = (P (.int (max (max i j) k))) := rfl
theorem minP_2 {P : D → Prop} {i j : Int} : minP [.int i, .int j] P = (P (.int (min i j))) := rfl
theorem minP_3 {P : D → Prop} {i j k : Int} : minP [.int i, .int j, .int k] P = (P (.int (min (min i j) k))) := rfl
theorem slP_lst {P : D → Prop} {ds : List D} {lo hi : Option Int} : slP (.lst ds) lo hi P = (P (.lst (cutD ds lo hi))) := rfl
theorem slP_tup {P : D → Prop} {ds : List D} {lo hi : Option Int} : slP (.tup ds) lo hi P = (P (.tup (cutD ds lo hi))) := rfl
theorem slP_str {P : D → Prop} {ds : Str} {lo hi : Option Int} : slP (.str ds) lo hi P = (ds.length ≤ sizeLine ∧ P (.str (cutS ds lo hi))) := rfl
theorem slPL_lst {P : D → Prop} {ds : List D} {lo hi : Option Int} : slPL (.lst ds) lo hi P = (P (.lst (cutD ds lo hi))) := rfl
theorem pgTup_l {n : Nat} {h : PTGs} {ds : List D} {env : List C} {P : List C → Prop} : pgTup n h (.lst ds) env P = (ds.length = n ∧ h ds env P) := rfl
theorem pgsCons_c {g : PTG} {h : PTGs} {d : D} {r : List D} {env : List C} {P : List C → Prop} : pgsCons g h (d :: r) env P = (g d env fun env' => h r env' P) := rfl
theorem pgsNil_n {env : List C} {P : List C → Prop} : pgsNil [] env P = P env := rfl
theorem pgTup_t {n : Nat} {h : PTGs} {ds : List D} {env : List C} {P : List C → Prop} : pgTup n h (.tup ds) env P = (ds.length = n ∧ h ds env P) := rfl
theorem isi_non_int {P : D → Prop} : isiD "int" (.non : D) P = P (.bl false) := isiE rfl (by decide)
theorem isi_non_bool {P : D → Prop} : isiD "bool" (.non : D) P = P (.bl false) := isiE rfl (by decide)
theorem isi_non_str {P : D → Prop} : isiD "str" (.non : D) P = P (.bl false) := isiE rfl (by decide)
theorem isi_non_list {P : D → Prop} : isiD "list" (.non : D) P = P (.bl false) := isiE rfl (by decide)
theorem isi_non_tuple {P : D → Prop} : isiD "tuple" (.non : D) P = P (.bl false) := isiE rfl (by decide)
theorem isi_bl_int {P : D → Prop} {z : Bool} : isiD "int" (.bl z) P = P (.bl true) := isiE rfl (by decide)
theorem isi_bl_bool {P : D → Prop} {z : Bool} : isiD "bool" (.bl z) P = P (.bl true) := isiE rfl (by decide)
theorem isi_bl_str {P : D → Prop} {z : Bool} : isiD "str" (.bl z) P = P (.bl false) := isiE rfl (by decide)
theorem isi_bl_list {P : D → Prop} {z : Bool} : isiD "list" (.bl z) P = P (.bl false) := isiE rfl (by decide)
theorem isi_bl_tuple {P : D → Prop} {z : Bool} : isiD "tuple" (.bl z) P = P (.bl false) := isiE rfl (by decide)
theorem isi_int_int {P : D → Prop} {z : Int} : isiD "int" (.int z) P = P (.bl true) := isiE rfl (by decide)
theorem isi_int_bool {P : D → Prop} {z : Int} : isiD "bool" (.int z) P = P (.bl false) := isiE rfl (by decide)
theorem isi_int_str {P : D → Prop} {z : Int} : isiD "str" (.int z) P = P (.bl false) := isiE rfl (by decide)
theorem isi_int_list {P : D → Prop} {z : Int} : isiD "list" (.int z) P = P (.bl false) := isiE rfl (by decide)
theorem isi_int_tuple {P : D → Prop} {z : Int} : isiD "tuple" (.int z) P = P (.bl false) := isiE rfl (by decide)
theorem isi_str_int {P : D → Prop} {z : Str} : isiD "int" (.str z) P = P (.bl false) := isiE rfl (by decide)
theorem isi_str_bool {P : D → Prop} {z : Str} : isiD "bool" (.str z) P = P (.bl false) := isiE rfl (by decide)
theorem isi_str_str {P : D → Prop} {z : Str} : isiD "str" (.str z) P = P (.bl true) := isiE rfl (by decide)
theorem isi_str_list {P : D → Prop} {z : Str} : isiD "list" (.str z) P = P (.bl false) := isiE rfl (by decide)
theorem isi_str_tuple {P : D → Prop} {z : Str} : isiD "tuple" (.str z) P = P (.bl false) := isiE rfl (by decide)
theorem isi_tup_int {P : D → Prop} {z : List D} : isiD "int" (.tup z) P = P (.bl false) := isiE rfl (by decide)
theorem isi_tup_bool {P : D → Prop} {z : List D} : isiD "bool" (.tup z) P = P (.bl false) := isiE rfl (by decide)
theorem isi_tup_str {P : D → Prop} {z : List D} : isiD "str" (.tup z) P = P (.bl false) := isiE rfl (by decide)
theorem isi_tup_list {P : D → Prop} {z : List D} : isiD "list" (.tup z) P = P (.bl false) := isiE rfl (by decide)
theorem isi_tup_tuple {P : D → Prop} {z : List D} : isiD "tuple" (.tup z) P = P (.bl true) := isiE rfl (by decide)
theorem isi_lst_int {P : D → Prop} {z : List D} : isiD "int" (.lst z) P = P (.bl false) := isiE rfl (by decide)
theorem isi_lst_bool {P : D → Prop} {z : List D} : isiD "bool" (.lst z) P = P (.bl false) := isiE rfl (by decide)
theorem isi_lst_str {P : D → Prop} {z : List D} : isiD "str" (.lst z) P = P (.bl false) := isiE rfl (by decide)
theorem isi_lst_list {P : D → Prop} {z : List D} : isiD "list" (.lst z) P = P (.bl true) := isiE rfl (by decide)
theorem isi_lst_tuple {P : D → Prop} {z : List D} : isiD "tuple" (.lst z) P = P (.bl false) := isiE rfl (by decide)
theorem joinRP_l {z : Str} {xs : List Str} {P : D → Prop} : joinRP z (.lst (xs.map D.str)) P = ((xs.map (·.length)).sum + xs.length * z.length ≤ 16777216 ∧ P (.str (Txt.join z xs.reverse))) := by
  refine propext ⟨fun ⟨a, b, h1, h2, h⟩ => ?_, fun h => ⟨_, _, rfl, strsOf_map xs, h⟩⟩
  cases h1
  rw [strsOf_map] at h2; cases h2
  exact h
end PL
end

section
set_option linter.all false
set_option maxRecDepth 100000
set_option maxHeartbeats 4000000
set_option autoImplicit false
/-! PL12: repr of a number. -/
namespace PL
open PySem PySem.Spec PyProof.Rows L2
section
variable {X : Cx} {e a b : Expr} {pa pb : PTE} {pos p' : Pos}
def reprP : PSp := fun ds P => match ds with
  | [.int i] => i.natAbs.log2 < 1920 ∧ P (.str (toString i))
  | [.str x] => (PySem.reprText x).length ≤ sizeLine ∧ P (.str (PySem.reprText x))
  | _ => False
theorem cr_reprS : CallR X (.builtin "repr") (fun xs H Q => ∃ x : Str, xs = [.str x] ∧ (PySem.reprText x).length ≤ sizeLine ∧ Q (.str (PySem.reprText x)) H) := by
  intro pins s σ H xs us Q I r h
  obtain ⟨x, rfl, hz, q⟩ := h
  obtain ⟨u, rfl, t, rfl⟩ := vals1 r
  exact PySem.P.repr_of_str ⟨.str _, H, I.tok _, ⟨_, rfl⟩, q⟩ hz
theorem reprP_ok : CallOk X (fun xs H Q => (∃ i, xs = [.int i] ∧ i.natAbs.log2 < 1920 ∧ Q (.str (toString i)) H) ∨ ∃ x : Str, xs = [.str x] ∧ (PySem.reprText x).length ≤ sizeLine ∧ Q (.str (PySem.reprText x)) H) reprP := by
  intro G H vs ds P Q s rs h k
  unfold reprP at h
  split at h
  · obtain ⟨v, rfl, r⟩ := one_shal rs
    cases r.int
    exact .inl ⟨_, rfl, h.1, k _ _ G H (.refl s) (.str _) h.2⟩
  · obtain ⟨v, rfl, r⟩ := one_shal rs
    cases r.str
    exact .inr ⟨_, rfl, h.1, k _ _ G H (.refl s) (.str _) h.2⟩
  · exact h.elim
theorem reprP_s {P : D → Prop} {x : Str} : reprP [.str x] P = ((PySem.reprText x).length ≤ sizeLine ∧ P (.str (PySem.reprText x))) := rfl
theorem pu_repr (hm : X.mg "repr" = none) (h : PuO X a pa) (hs : starEach [a] X.env = (false, eval a X.env) :: starEach [] X.env := by rfl) (hg : Gl X "repr" := by rfl) : PuE X (.Call (.Name "repr" p') [a] [] pos) (pCall reprP (paCons pa paNil)) :=
  pu_bi (CallR.or SkE.call_repr_int cr_reprS) reprP_ok hm (puao_cons h puao_nil hs) hg (by decide +kernel) (by decide) (by decide) hs rfl
theorem reprP_i {P : D → Prop} {i : Int} : reprP [.int i] P = (i.natAbs.log2 < 1920 ∧ P (.str (toString i))) := rfl
theorem reprb {i : Int} (a : Nat) (h0 : 0 ≤ i) (h : i < 2 ^ a) (ha : a ≤ 1919) : i.natAbs.log2 < 1920 := by
  by_cases e : i.natAbs = 0
  · rw [e]; decide
  · have := (Nat.log2_lt e).mpr (natAbs_lt_pow h0 h)
    omega
/-- a statement behind which the ways meet again: J holds there -/
def pJn (p : PTS) : PTS := fun PD env => ∃ J : List C → Prop, p { PD with nx := J } env ∧ ∀ e, J e → PD.nx e
theorem pus_jn {st : Stmt} {p : PTS} (h : PuS X st p) : PuS X st (pJn p) := by
  obtain ⟨t, h1, h2⟩ := h.ex
  refine ⟨t, h1, fun G0 H0 G H env σ PD E r ok ⟨J, hp, hj⟩ => ?_⟩
  exact h2 G0 H0 G H env σ { PD with nx := J } E r ⟨fun G1 H1 env1 σ1 r1 z => ok.nx G1 H1 env1 σ1 r1 (hj env1 z), ok.bk, ok.ct, ok.rt, ok.ro, ok.er⟩ hp
theorem jn {p : PTS} {PD : PEnds} {env : List C} (J : List C → Prop) (h1 : p { PD with nx := J } env) (h2 : ∀ e, J e → PD.nx e) : pJn p PD env := ⟨J, h1, h2⟩
theorem setP_i {ds : List D} {i : Int} {v : D} {P : D → Prop} : setP (.lst ds) (.int i) v P = ∃ j, ixN ds.length i = some j ∧ P (.lst (ds.set j v)) :=
  propext ⟨fun ⟨k, j, e, h1, h2⟩ => by cases e; exact ⟨j, h1, h2⟩, fun ⟨j, h1, h2⟩ => ⟨_, j, rfl, h1, h2⟩⟩
theorem ixN_nat {n j : Nat} (h : j < n) : ixN n (j : Int) = some j := by
  unfold ixN
  rw [if_pos (by omega), if_pos (by omega)]; simp
theorem ixN_int {n : Nat} {i : Int} (h0 : 0 ≤ i) (h : i < n) : ixN n i = some i.toNat := by
  unfold ixN
  rw [if_pos h0, if_pos h]
theorem cutD_map {α : Type} (f : α → D) (xs : List α) (a b : Nat) (h : b ≤ xs.length) : cutD (xs.map f) (some (a : Int)) (some (b : Int)) = ((xs.drop a).take (b - a)).map f := by
  unfold cutD
  rw [HT.sIx_nat, HT.sIx_nat, List.length_map, Nat.min_eq_left h, List.map_take, List.map_drop]
  by_cases ha : a ≤ xs.length
  · rw [Nat.min_eq_left ha]
  · rw [Nat.min_eq_right (by omega), List.drop_of_length_le (by simp), List.drop_of_length_le (by simp; omega)]; simp
theorem cutD_from {α : Type} (f : α → D) (xs : List α) (a : Nat) : cutD (xs.map f) (some (a : Int)) none = (xs.drop a).map f := by
  unfold cutD
  rw [HT.sIx_nat, HT.sIx_none, List.length_map, List.map_drop]
  by_cases ha : a ≤ xs.length
  · rw [Nat.min_eq_left ha, List.take_of_length_le (by simp)]
  · rw [Nat.min_eq_right (by omega), List.drop_of_length_le (by simp), List.drop_of_length_le (by simp; omega)]; simp
theorem cutD_to {α : Type} (f : α → D) (xs : List α) (b : Nat) (h : b ≤ xs.length) : cutD (xs.map f) none (some (b : Int)) = (xs.take b).map f := by
  unfold cutD
  rw [HT.sIx_nat, HT.sIx_none, List.length_map, Nat.min_eq_left h, List.drop_zero, Nat.sub_zero, List.map_take]
theorem take4 {α : Type} {xs : List α} {a : Nat} {p q r s : α} (h0 : xs[a]? = some p) (h1 : xs[a + 1]? = some q) (h2 : xs[a + 2]? = some r) (h3 : xs[a + 3]? = some s) : (xs.drop a).take 4 = [p, q, r, s] := by
  apply List.ext_getElem?
  intro i
  rw [List.getElem?_take]
  match i with
  | 0 => rw [if_pos (by decide), List.getElem?_drop]; exact h0
  | 1 => rw [if_pos (by decide), List.getElem?_drop]; exact h1
  | 2 => rw [if_pos (by decide), List.getElem?_drop]; exact h2
  | 3 => rw [if_pos (by decide), List.getElem?_drop]; exact h3
  | i + 4 => rw [if_neg (by omega)]; rfl
theorem Digs.get {rs ss : List Int} (h : Digs rs ss) {i : Nat} {s : Int} (hs : ss[i]? = some s) : ∃ x, rs[i]? = some x ∧ 0 ≤ x ∧ x < s := by
  have hi : i < rs.length := by rw [h.length]; exact (List.getElem?_eq_some_iff.mp hs).1
  exact ⟨_, List.getElem?_eq_getElem hi, h.at (List.getElem?_eq_getElem hi) hs⟩
theorem atI_int {α β : Type} (f : α → β) {xs : List α} {i : Int} {x : α} (j : Nat) (e : i = (j : Int)) (h : xs[j]? = some x) : atI (xs.map f) i = some (f x) := by
  subst e; exact atI_map f h
end
end PL
end

section
set_option linter.all false
set_option maxRecDepth 100000
set_option maxHeartbeats 4000000
set_option autoImplicit false
/-! PL13: divmod, dict.get, list.reverse, loops over a dict (locked), calls that give a new cell. -/
namespace PL
open PySem PySem.Spec PyProof.Rows L2
section
variable {X : Cx} {e a b c : Expr} {es : List Expr} {pe pa pb pc : PTE} {ps : PTA} {pos p' : Pos}
/-! ### divmod -/
def divmodP : PSp := fun ds P => match ds with
  | [.int i, .int j] => CDiv i j ∧ P (.tup [.int (i / j), .int (i % j)])
  | _ => False
theorem divmodP_ok : CallOk X (fun xs H Q => ∃ i j, xs = [.int i, .int j] ∧ CDiv i j ∧ ∀ p, H p = none → Q (.ref p) (upd H p (.tup [.int (i / j), .int (i % j)]))) divmodP := by
  intro G H vs ds P Q s rs h k
  unfold divmodP at h
  split at h
  · obtain ⟨v, w, rfl, r, r2⟩ := two_shal rs
    cases r.int
    cases r2.int
    exact ⟨_, _, rfl, h.1, fun p hn => k _ _ _ _ (Ext.new s hn) (.tup upd_same (.cons (.int _) (.cons (.int _) .nil))) h.2⟩
  · exact h.elim
theorem pu_divmod (hm : X.mg "divmod" = none) (h : PuAO X [a, b] ps) (hs : starEach [a, b] X.env = (false, eval a X.env) :: starEach [b] X.env := by rfl) (hpl : (backTo pos (starEach [b] X.env)).any (·.1) = false := by rfl) (hg : Gl X "divmod" := by rfl) :
    PuE X (.Call (.Name "divmod" p') [a, b] [] pos) (pCall divmodP ps) := pu_bi call_divmod divmodP_ok hm h hg (by decide +kernel) (by decide) (by decide) hs hpl
theorem divmodP_i {P : D → Prop} {i j : Int} : divmodP [.int i, .int j] P = (CDiv i j ∧ P (.tup [.int (i / j), .int (i % j)])) := rfl

/-! ### d.get(k, x) -/
def isDk : D → Bool
  | .dk _ => true
  | .dt _ => true
  | _ => false
theorem Shal.isD {K : PySem.W.Frag} {mg : MG} {G H : Hp} {v : V} {d : D} (r : Shal K mg H G v d) (s : Same G H) (h : isDk d = true) : ∃ l, v = .ref l ∧ IsD H l := by
  cases d with
  | dk ds => obtain ⟨l, vs, rfl, e, _⟩ := r.dk s; exact ⟨l, rfl, .inl ⟨vs, e⟩⟩
  | dt ds => obtain ⟨l, vs, rfl, e, _⟩ := r.dt s; exact ⟨l, rfl, .inr ⟨vs, .inl e⟩⟩
  | _ => cases h
def getDP (x y z : D) (P : D → Prop) : Prop := ∃ o, getP x y = some o ∧ P (o.getD z)
def pGet (pa pb pc : PTE) : PTE := fun env P => pa env fun x => isDk x = true ∧ pb env fun y => pc env fun z => getDP x y z P
theorem pu_get {apos : Pos} (hu : X.A.units + 1 < cLine) (ho : PuO X a pa) (he : PuE X b pb) (hf : PuE X c pc) (m : M2 X a "get" apos b c pos := by exact ⟨rfl, rfl, rfl, rfl⟩) :
    PuE X (.Call (.Attribute a "get" apos) [b, c] [] pos) (pGet pa pb pc) := by
  obtain ⟨ta, a1, a2⟩ := ho.ex
  obtain ⟨tb, b1, b2⟩ := he.ex
  obtain ⟨tc, c1, c2⟩ := hf.ex
  refine ⟨_, pe_dget2 hu a1 b1 c1 m, fun G H env σ P Q ok hp k => ?_⟩
  refine a2 G H env σ _ _ ok hp fun x v G1 H1 e1 r1 q1 => ?_
  obtain ⟨l, rfl, d1⟩ := r1.isD e1.s q1.1
  refine ⟨l, rfl, d1, b2 G1 H1 env σ _ _ (ok.ext e1) q1.2 fun y w G2 H2 e2 r2 q2 => ?_⟩
  refine c2 G2 H2 env σ _ _ ((ok.ext e1).ext e2) q2 fun z u G3 H3 e3 r3 q3 => ?_
  obtain ⟨o, e4, q4⟩ := q3
  obtain ⟨l', el, g⟩ := Shal.dget e3.s ((r1.mono e2.h e2.g).mono e3.h e3.g) (r2.mono e3.g) e4
  cases el
  have x3 := (e1.trans e2).trans e3
  rcases g with ⟨rfl, g⟩ | ⟨z', u', rfl, g, r4⟩
  · exact ⟨none, g, k _ _ G3 H3 x3 r3 q4⟩
  · exact ⟨some u', g, k _ _ G3 H3 x3 r4 q4⟩

/-! ### x.reverse() -/
def pRevS (i : Nat) : PTS := fun PD env => match env[i]? with
  | some (.ow (.lst ds)) => PD.nx (env.set i (.ow (.lst ds.reverse)))
  | _ => False
theorem pus_rev (i : Nat) {x : Str} {apos npos p1 : Pos}
    (hs : PS X (.Expr (.Call (.Attribute (.Name x npos) "reverse" apos) [] [] p1) pos) (tDrop (tBM0 X.K "list" rReverse (tVar i))) := by exact ps_expr (pe_bm0 PySem.F.plainAttrs_list PySem.F.slot_list_reverse PySem.F.type_list_reverse mt_reverse (pv _))) :
    PuS X (.Expr (.Call (.Attribute (.Name x npos) "reverse" apos) [] [] p1) pos) (pRevS i) := by
  refine ⟨_, hs, fun G0 H0 G H env σ PD E r ok hp => ?_⟩
  unfold pRevS at hp
  split at hp
  · rename_i ds hi
    obtain ⟨l, hl, tp, n⟩ := r.ok.slot i _ hi
    cases tp with
    | lst hH rs =>
      refine ⟨.ref l, hl, .inl ⟨rfl, _, SqL.of hH⟩, l, _, rfl, rfl, hH, ?_⟩
      exact ok.nx G _ _ σ (r.write hi hl n (.lst upd_same rs.reverse)) hp
  · exact hp.elim
end

/-! ### a dict that is walked is locked -/
section
variable {K : PySem.W.Frag} {mg : MG} {G H G' H' : Hp} {l : Addr} {od : Obj} {us : List (Key × V)}
theorem unl {a : Addr} {o : HO} (e : G l = some (.frz od (.dK us))) (h : G a = some o) (d : o ≠ .frz od (.dK us)) : upd G l (.dK us) a = some o := by
  by_cases z : a = l
  · subst z; rw [e] at h; cases h; exact absurd rfl d
  · rw [upd_ne z]; exact h
mutual
theorem Rep.unl (e : G l = some (.frz od (.dK us))) : ∀ {v : V} {d : D}, Rep K mg G v d → Rep K mg (upd G l (.dK us)) v d
  | _, _, .non => .non
  | _, _, .bl b => .bl b
  | _, _, .int i => .int i
  | _, _, .str x => .str x
  | _, _, .tup h r => .tup (PL.unl e h (fun z => nomatch z)) (Reps.unl e r)
  | _, _, .lst h r => .lst (PL.unl e h (fun z => nomatch z)) (Reps.unl e r)
  | _, _, .scr h r => .scr (by
      rcases h with (h | ⟨o, h⟩) | h
      · exact .inl (.inl (PL.unl e h (fun z => nomatch z)))
      · exact .inl (.inr ⟨o, PL.unl e h (fun z => nomatch z)⟩)
      · exact .inr h) (Reps.unl e r)
  | _, _, .dk (a := a) h r => .dk (by
      rcases h with h | ⟨o, h⟩
      · exact .inl (PL.unl e h (fun z => nomatch z))
      · by_cases z : a = l
        · subst z; rw [e] at h; cases h; exact .inl upd_same
        · exact .inr ⟨o, by rw [upd_ne z]; exact h⟩) (RepKV.unl e r)
  | _, _, .dt h r => .dt (PL.unl e h (fun z => nomatch z)) (RepTV.unl e r)
  | _, _, .obj h m r => .obj (PL.unl e h (fun z => nomatch z)) m (RepF.unl e r)
  | _, _, .slf h m r => .slf (PL.unl e h (fun z => nomatch z)) m (RepF.unl e r)
  | _, _, .err h q h2 m r => .err (PL.unl e h q.frz) q (PL.unl e h2 (fun z => by
      have z' : HO.ext _ = HO.frz _ _ := z
      cases z')) m (RepF.unl e r)
theorem Reps.unl (e : G l = some (.frz od (.dK us))) : ∀ {v : List V} {d : List D}, Reps K mg G v d → Reps K mg (upd G l (.dK us)) v d
  | _, _, .nil => .nil
  | _, _, .cons h t => .cons (Rep.unl e h) (Reps.unl e t)
theorem RepKV.unl (e : G l = some (.frz od (.dK us))) : ∀ {v : List (Key × V)} {d : List (Key × D)}, RepKV K mg G v d → RepKV K mg (upd G l (.dK us)) v d
  | _, _, .nil => .nil
  | _, _, .cons h t => .cons (Rep.unl e h) (RepKV.unl e t)
theorem RepTV.unl (e : G l = some (.frz od (.dK us))) : ∀ {v : List (List Key × V)} {d : List (List Key × D)}, RepTV K mg G v d → RepTV K mg (upd G l (.dK us)) v d
  | _, _, .nil => .nil
  | _, _, .cons h t => .cons (Rep.unl e h) (RepTV.unl e t)
theorem RepF.unl (e : G l = some (.frz od (.dK us))) : ∀ {v : List (Str × V)} {d : List (Str × D)}, RepF K mg G v d → RepF K mg (upd G l (.dK us)) v d
  | _, _, .nil => .nil
  | _, _, .cons h t => .cons (Rep.unl e h) (RepF.unl e t)
end
theorem Rel.lock {G0 H0 : Hp} {env : List C} {σ : L2.St} {i : Nat} {kvs : List (Key × D)} (r : Rel K mg G0 H0 G H env σ) (hi : env[i]? = some (.ow (.dk kvs))) (hl : σ[i]? = some (some (.ref l))) (hH : H l = some (.dK us)) (rs : RepKV K mg G us kvs) (n : G l = none) (od : Obj) :
    Rel K mg (upd G l (.frz od (.dK us))) H0 (upd G l (.frz od (.dK us))) (upd H l (.frz od (.dK us))) (env.set i (.fz (.dk kvs))) σ := by
  have n0 := r.own i _ l hi hl
  have sG : Same G (upd G l (.frz od (.dK us))) := Same.upd n
  have sH : Same (upd G l (.frz od (.dK us))) (upd H l (.frz od (.dK us))) := fun b u e => by
    by_cases z : b = l
    · subst z; rw [upd_same] at e ⊢; exact e
    · rw [upd_ne z] at e ⊢; exact r.ok.same _ _ e
  have low : ∀ {j : Nat} {e : D}, (env.set i (.fz (.dk kvs)))[j]? = some (.ow e) → j ≠ i ∧ env[j]? = some (.ow e) := fun {j e} q => by
    rw [List.getElem?_set] at q
    split at q
    · split at q <;> cases q
    · rename_i hij; exact ⟨Ne.symm hij, q⟩
  refine ⟨⟨sH, fun j c q => ?_, fun j k d' e' m q1 q2 z1 z2 => r.ok.apart j k d' e' m (low q1).2 (low q2).2 z1 z2, by simp [r.ok.len]⟩, ⟨Same.refl _, fun b u e => ?_, sH, fun _ e ne => absurd e ne⟩, fun j d' m q z => r.own j d' m (low q).2 z⟩
  · rw [List.getElem?_set] at q
    split at q
    · rename_i hij
      subst hij
      split at q
      · cases q; exact ⟨_, hl, .dk (.inr ⟨od, upd_same⟩) (rs.mono sG)⟩
      · cases q
    · rename_i hij
      have s := r.ok.slot j c q
      cases c with
      | un => trivial
      | fz d' => obtain ⟨v, a, b⟩ := s; exact ⟨v, a, b.mono sG⟩
      | ow d' =>
        obtain ⟨m, e1, t1, n1⟩ := s
        have ne : m ≠ l := fun z => by subst z; exact hij (r.ok.apart i j _ d' m hi q hl e1)
        refine ⟨m, e1, ?_, by rw [upd_ne ne]; exact n1⟩
        cases t1 with
        | lst a r => exact .lst (by rw [upd_ne ne]; exact a) (r.mono sG)
        | dk a r => exact .dk (by rw [upd_ne ne]; exact a) (r.mono sG)
        | dt a r => exact .dt (by rw [upd_ne ne]; exact a) (r.mono sG)
        | slf a cm r => exact .slf (by rw [upd_ne ne]; exact a) cm (r.mono sG)
  · have : b ≠ l := fun z => by subst z; rw [n0] at e; cases e
    rw [upd_ne this]; exact r.ext.h _ _ e
theorem Ext.unlock {G0 H0 G1 H1 : Hp} (x : Ext G0 H0 G H) (n : G l = none) (n0 : H0 l = none) (y : Ext (upd G l (.frz od (.dK us))) H0 G1 H1) :
    G1 l = some (.frz od (.dK us)) ∧ H1 l = some (.frz od (.dK us)) ∧ Ext G0 H0 (upd G1 l (.dK us)) (upd H1 l (.dK us)) := by
  have g1 : G1 l = some (.frz od (.dK us)) := y.g _ _ upd_same
  have h1 := y.s _ _ g1
  have nG0 : G0 l = none := x.g.free n
  refine ⟨g1, h1, fun b u e => ?_, fun b u e => ?_, fun b u e => ?_, fun b e ne => ?_⟩
  · have z : b ≠ l := fun z => by subst z; rw [nG0] at e; cases e
    rw [upd_ne z]
    exact y.g _ _ (by rw [upd_ne z]; exact x.g _ _ e)
  · have z : b ≠ l := fun z => by subst z; rw [n0] at e; cases e
    rw [upd_ne z]
    exact y.h _ _ e
  · by_cases z : b = l
    · subst z; rw [upd_same] at e ⊢; exact e
    · rw [upd_ne z] at e ⊢; exact y.s _ _ e
  · by_cases z : b = l
    · subst z; exact n0
    · rw [upd_ne z] at ne
      by_cases q : G b = none
      · exact y.f b (by rw [upd_ne z]; exact q) ne
      · exact x.f b e q
theorem Rel.unlock {G0 H0 G1 H1 : Hp} {env' : List C} {σ' : L2.St} (x : Ext G0 H0 G H) (n : G l = none) (n0 : H0 l = none) (r' : Rel K mg (upd G l (.frz od (.dK us))) H0 G1 H1 env' σ') :
    H1 l = some (.frz od (.dK us)) ∧ Rel K mg G0 H0 (upd G1 l (.dK us)) (upd H1 l (.dK us)) env' σ' := by
  obtain ⟨g1, h1, y⟩ := x.unlock n n0 r'.ext
  refine ⟨h1, ⟨⟨y.s, fun j c q => ?_, r'.ok.apart, r'.ok.len⟩, y, r'.own⟩⟩
  have s := r'.ok.slot j c q
  cases c with
  | un => trivial
  | fz d' => obtain ⟨v, a, b⟩ := s; exact ⟨v, a, b.unl g1⟩
  | ow d' =>
    obtain ⟨m, e1, t1, n1⟩ := s
    have ne : m ≠ l := fun z => by subst z; rw [g1] at n1; cases n1
    refine ⟨m, e1, ?_, by rw [upd_ne ne]; exact n1⟩
    cases t1 with
    | lst a r => exact .lst (by rw [upd_ne ne]; exact a) (r.unl g1)
    | dk a r => exact .dk (by rw [upd_ne ne]; exact a) (r.unl g1)
    | dt a r => exact .dt (by rw [upd_ne ne]; exact a) (r.unl g1)
    | slf a cm r => exact .slf (by rw [upd_ne ne]; exact a) cm (r.unl g1)
end
def keyD : Key → D
  | .inl i => .int i
  | .inr x => .str x
def keysD (kvs : List (Key × D)) : List D := kvs.map fun p => keyD p.1
def valsD (kvs : List (Key × D)) : List D := kvs.map (·.2)
theorem rep_key {K : PySem.W.Frag} {mg : MG} {G : Hp} (k : Key) : Rep K mg G (kV k) (keyD k) := by
  cases k with
  | inl i => exact .int i
  | inr x => exact .str x
theorem RepKV.get {K : PySem.W.Frag} {mg : MG} {G : Hp} : ∀ {vs : List (Key × V)} {ds : List (Key × D)} {i : Nat} {p : Key × V}, RepKV K mg G vs ds → vs[i]? = some p → ∃ d, ds[i]? = some (p.1, d) ∧ Rep K mg G p.2 d
  | _, _, _, _, .nil, e => by simp at e
  | _, _, 0, _, .cons r _, e => by simp at e; subst e; exact ⟨_, rfl, r⟩
  | _, _, i + 1, p, .cons _ t, e => by
    obtain ⟨d, h1, h2⟩ := RepKV.get (i := i) (p := p) t (by simpa using e)
    exact ⟨d, by simpa using h1, h2⟩
theorem RepKV.len {K : PySem.W.Frag} {mg : MG} {G : Hp} : ∀ {vs : List (Key × V)} {ds : List (Key × D)}, RepKV K mg G vs ds → vs.length = ds.length
  | _, _, .nil => rfl
  | _, _, .cons _ t => congrArg (· + 1) (RepKV.len t)
section
variable {K : PySem.W.Frag} {mg : MG} {G : Hp} {l : Addr} {od : Obj} {us : List (Key × V)} {kvs : List (Key × D)}
theorem walks_keys (h : G l = some (.frz od (.dK us))) (r : RepKV K mg G us kvs) : Walks K mg G (sqL (keysD kvs)) (Itk l od us) where
  go i G1 H1 s1 s2 hi := ⟨s2 _ _ (s1 _ _ h), by rw [r.len]; simpa [sqL, keysD] using hi⟩
  yld i G1 H1 x H' s1 s2 hi y := by
    obtain ⟨rfl, k, v, e, rfl⟩ := y
    obtain ⟨d, e2, q⟩ := r.get e
    refine ⟨G1, keyD k, .refl s2, rep_key k, ?_⟩
    show (keysD kvs)[i]? = _
    unfold keysD
    rw [List.getElem?_map, e2]; rfl
  stop G1 H1 s1 s2 := ⟨s2 _ _ (s1 _ _ h), by rw [r.len]; simp [sqL, keysD]⟩
theorem walks_vals (h : G l = some (.frz od (.dK us))) (r : RepKV K mg G us kvs) : Walks K mg G (sqL (valsD kvs)) (Itd l od us) where
  go i G1 H1 s1 s2 hi := ⟨s2 _ _ (s1 _ _ h), by rw [r.len]; simpa [sqL, valsD] using hi⟩
  yld i G1 H1 x H' s1 s2 hi y := by
    obtain ⟨rfl, k, e⟩ := y
    obtain ⟨d, e2, q⟩ := r.get e
    refine ⟨G1, d, .refl s2, q.mono s1, ?_⟩
    show (valsD kvs)[i]? = _
    unfold valsD
    rw [List.getElem?_map, e2]; rfl
  stop G1 H1 s1 s2 := ⟨s2 _ _ (s1 _ _ h), by rw [r.len]; simp [sqL, valsD]⟩
end
def pForD (i : Nat) (m : List (Key × D) → List D) (g : PTG) (body : PTS) : PTS := fun PD env => match env[i]? with
  | some (.ow (.dk kvs)) => forP (sqL (m kvs)) g body { PD with er := fun _ _ => False } (env.set i (.fz (.dk kvs)))
  | _ => False
section
variable {X : Cx} {tg iter : Expr} {body : List Stmt} {g : PTG} {is : List Nat} {pb : PTS} {pos : Pos}
theorem pus_forD (i : Nat) {m : List (Key × D) → List D} {w : TI} {J : Addr → Obj → List (Key × V) → It} (hp : PassesOwn (model X.prog X.w) X.A X.env X.xe) (hc : X.calm = true) (i1 : PI X tg iter w)
    (hw : ∀ (σ : L2.St) (H : Hp) (l : Addr) (od : Obj) (us : List (Key × V)) (R : It → Hp → Prop), σ[i]? = some (some (.ref l)) → H l = some (.frz od (.dK us)) → R (J l od us) H → w σ H R)
    (hk : ∀ (G : Hp) (l : Addr) (od : Obj) (us : List (Key × V)) (kvs : List (Key × D)), G l = some (.frz od (.dK us)) → RepKV X.K X.mg G us kvs → Walks X.K X.mg G (sqL (m kvs)) (J l od us))
    (hg : PuG X tg g is) (hb : PuSs X body pb) (hs : ∀ x, foldedSetIterable iter X.env x = pure x := by intro _; rfl) : PuS X (.For tg iter body [] pos) (pForD i m g pb) := by
  obtain ⟨tgt, g1, g2⟩ := hg.ex
  obtain ⟨tb, b1, b2⟩ := hb.ex
  refine ⟨_, ps_lock (ps_for hp hc i1 g1 b1 hs), fun G0 H0 G H env σ PD E r ok h => ?_⟩
  unfold pForD at h
  split at h
  · rename_i kvs hi
    obtain ⟨l, hl, t, n⟩ := r.ok.slot i _ hi
    have n0 := r.own i _ l hi hl
    cases t with
    | dk hH rs =>
      refine ⟨l, _, hH, trivial, fun od => hw σ _ l od _ _ hl upd_same ?_⟩
      refine for_at g2 b2 (r.lock hi hl hH rs n od) ?_ (hk _ l od _ kvs upd_same (rs.mono (Same.upd n))) h
      refine ⟨?_, ?_, ?_, ?_, ?_, ⟨_, tk0, fun _ _ _ _ _ _ _ _ _ _ _ _ _ _ _ z => z.elim⟩⟩
      · intro G' H' env' σ' r' z
        obtain ⟨h1, r2⟩ := Rel.unlock r.ext n n0 r'
        exact ⟨h1, ok.nx _ _ _ _ r2 z⟩
      · intro G' H' env' σ' r' z
        obtain ⟨h1, r2⟩ := Rel.unlock r.ext n n0 r'
        exact ⟨h1, ok.bk _ _ _ _ r2 z⟩
      · intro G' H' env' σ' r' z
        obtain ⟨h1, r2⟩ := Rel.unlock r.ext n n0 r'
        exact ⟨h1, ok.ct _ _ _ _ r2 z⟩
      · intro G' H' d v x rp z
        obtain ⟨g1, h1, y⟩ := r.ext.unlock n n0 x
        exact ⟨h1, ok.rt _ _ d v y (rp.unl g1) z⟩
      · intro G' H' d m x t nm nm0 z
        obtain ⟨g1, h1, y⟩ := r.ext.unlock n n0 x
        have ne : m ≠ l := fun z => by subst z; rw [g1] at nm; cases nm
        refine ⟨h1, ok.ro _ _ d m y ?_ (by rw [upd_ne ne]; exact nm) nm0 z⟩
        cases t with
        | lst a r => exact .lst (by rw [upd_ne ne]; exact a) (r.unl g1)
        | dk a r => exact .dk (by rw [upd_ne ne]; exact a) (r.unl g1)
        | dt a r => exact .dt (by rw [upd_ne ne]; exact a) (r.unl g1)
        | slf a cm r => exact .slf (by rw [upd_ne ne]; exact a) cm (r.unl g1)
  · exact h.elim
theorem pus_forK (i : Nat) {x : Str} {p2 : Pos} (hp : PassesOwn (model X.prog X.w) X.A X.env X.xe) (hc : X.calm = true) (hv : PE X (.Name x p2) (tVar i)) (hg : PuG X tg g is) (hb : PuSs X body pb) (hs : ∀ z, foldedSetIterable (.Name x p2) X.env z = pure z := by intro _; rfl) :
    PuS X (.For tg (.Name x p2) body [] pos) (pForD i keysD g pb) :=
  pus_forD i hp hc (pi_keys hv) (fun σ H l od us R h1 h2 h3 => ⟨.ref l, h1, l, od, rfl, .inl ⟨us, h2, h3⟩⟩) (fun G l od us kvs h r => walks_keys h r) hg hb hs
theorem pus_forV (i : Nat) {x : Str} {p2 apos cpos : Pos} (hp : PassesOwn (model X.prog X.w) X.A X.env X.xe) (hc : X.calm = true) (hv : PE X (.Name x p2) (tVar i)) (hg : PuG X tg g is) (hb : PuSs X body pb)
    (hbase : attributeBase (.Name x p2) "values" X.env (eval (.Name x p2) X.env) = eval (.Name x p2) X.env := by rfl) (hline : (apos.endLine == cpos.line) = true := by rfl)
    (hs : ∀ z, foldedSetIterable (.Call (.Attribute (.Name x p2) "values" apos) [] [] cpos) X.env z = pure z := by intro _; rfl) :
    PuS X (.For tg (.Call (.Attribute (.Name x p2) "values" apos) [] [] cpos) body [] pos) (pForD i valsD g pb) :=
  pus_forD i hp hc (pi_values hv hbase hline) (fun σ H l od us R h1 h2 h3 => ⟨.ref l, h1, l, od, us, rfl, h2, h3⟩) (fun G l od us kvs h r => walks_vals h r) hg hb hs

/-! ### a def that gives a new cell -/
def spO (K : PySem.W.Frag) (mg : MG) (f : PSp) : Sp := fun vs H Q _ => ∃ (G : Hp) (ds : List D) (P : D → Prop), Same G H ∧ Reps K mg G vs ds ∧ f ds P ∧
  ∀ d l G' H', Ext G H G' H' → Top K mg H' G' l d → G' l = none → H l = none → P d → Q (.ref l) H'
def pRetO (pe : PTE) : PTS := fun PD env => pe env PD.ro
theorem pus_retO {e : Expr} {pe : PTE} (h : PuF X e pe) : PuS X (.Return (some e) pos) (pRetO pe) := by
  obtain ⟨t, h1, h2⟩ := h.ex
  exact ⟨_, ps_ret h1, fun G0 H0 G H env σ PD E r ok hp => h2 G H env σ _ _ r.ok hp fun d l G' H' x rp n nH z => ok.ro G' H' d l (r.ext.trans x) rp n (r.ext.h.free nH) z⟩
def pRetON (i : Nat) : PTS := fun PD env => match env[i]? with
  | some (.ow d) => PD.ro d
  | _ => False
theorem pus_retON (i : Nat) {x : Str} {p2 : Pos} (hv : PE X (.Name x p2) (tVar i)) : PuS X (.Return (some (.Name x p2)) pos) (pRetON i) := by
  refine ⟨_, ps_ret hv, fun G0 H0 G H env σ PD E r ok hp => ?_⟩
  unfold pRetON at hp
  split at hp
  · rename_i d hi
    obtain ⟨l, hl, t, n⟩ := r.ok.slot i _ hi
    exact ⟨.ref l, hl, ok.ro G H d l r.ext t n (r.own i d l hi hl) hp⟩
  · exact hp.elim
theorem pfnO {P : Program} {w : World} {K : PySem.W.Frag} {mg : MG} {base : Heap} {x : Str} {st : Stmt} {f : Addr} {fd : FuncData} {N ns : List Str} {k : Nat} {sp : PSp} {p : PTS} (F : FnP K x st f fd) (S : FnScope N ns (defScope st)) (hlen : ∀ ds P, sp ds P → ds.length = ns.length)
    (hbody : ∀ (cdv : Value) (A : Around) (outer : List Env) (s : Shared) (H : Hp) (E : XK), Room k (A.deeper (envOfC x (defScope st) s.heap.objs.size f cdv)) →
      PuSs (cxOf CX0 P w K mg base N x (defScope st) f cdv A outer s H E).nox (defBody st) p) (hp : ∀ ds Q, sp ds Q → p { nx := fun _ => False, rt := fun _ => False, ro := Q } (startC N ds)) : FnOk P w K mg base CX0 (k + 1) f fd ns (spO K mg sp) := by
  refine FunD.ok F S (fun vs H Q E h => ?_) (fun cdv A outer s H vs Q E hr h => ?_)
  · obtain ⟨G, ds, P', _, r, q, _⟩ := h
    rw [r.length]; exact hlen ds P' q
  · obtain ⟨G, ds, P', sm, r, q, kk⟩ := h
    obtain ⟨t, t1, t2⟩ := (hbody cdv A outer s H E hr).ex
    refine ⟨t, t1.nox, t2 G H G H _ _ { nx := fun _ => False, rt := fun _ => False, ro := P' } _ ⟨start_ok sm r, .refl sm, fun i d l q => ?_⟩ ⟨fun _ _ _ _ _ z => z.elim, ?_, ?_, fun _ _ _ _ _ _ z => z.elim, ?_, ⟨_, tk0, fun _ _ _ _ _ _ _ _ _ _ _ _ _ _ _ z => z.elim⟩⟩ (hp ds P' q)⟩
    · intro s1
      exfalso
      unfold startC at q
      by_cases hk : i < ds.length
      · rw [List.getElem?_append_left (by simpa using hk), List.getElem?_map] at q
        cases e : ds[i]? with
        | none => rw [e] at q; cases q
        | some d => rw [e] at q; cases q
      · rw [List.getElem?_append_right (by simpa using hk), List.getElem?_replicate] at q
        split at q <;> cases q
    · intro G' H' env σ r' z; exact z
    · intro G' H' env σ r' z; exact z
    · intro G' H' d l x t n n0 z
      exact kk d l G' H' x t n n0 z
structure CalO (P : Program) (w : World) (K : PySem.W.Frag) (mg : MG) (base : Heap) (x : Str) (ns : List Str) (k : Nat) (f : Addr) (fd : FuncData) (sp : PSp) : Prop where
  ok : FnOk P w K mg base CX0 k f fd ns (spO K mg sp)
  mg : mg x = some (.ref f)
  kp : PySem.W.keepIn K (.ref f) = true
  b : Binds K fd ns []
theorem puf_c {x : Str} {ns : List Str} {k k' : Nat} {f : Addr} {fd : FuncData} {sp : PSp} {e : Expr} {es : List Expr} {ps : PTA} {p' : Pos} (C : CalO X.prog X.w X.K X.mg X.base x ns k f fd sp) (hr : Room k' X.A) (h : PuA X (e :: es) ps) (hk : k ≤ k' := by decide) (hg : Gl X x := by rfl)
    (hdb : (x == ("__debug__" : Str)) = false := by decide) (he : starEach (e :: es) X.env = (false, eval e X.env) :: starEach es X.env := by rfl) (hpl : (backTo pos (starEach es X.env)).any (·.1) = false := by rfl) :
    PuF X (.Call (.Name x p') (e :: es) [] pos) (pCall sp ps) := by
  obtain ⟨t, h1, h2⟩ := h.ex
  refine ⟨_, pe_call C.ok (hr.mono hk) hg C.mg C.kp C.b (dvs := []) .nil pass0 h1 hdb he hpl, fun G H env σ P Q ok hp kk => h2 G H env σ _ _ ok hp fun ds vs G' H' x r q => ?_⟩
  rw [List.append_nil]
  exact ⟨G', ds, P, x.s, r, q, fun d l G2 H2 y t n nH q2 => kk d l G2 H2 (x.trans y) t n (x.h.free nH) q2⟩
end
theorem forD_k {i : Nat} {m : List (Key × D) → List D} {g : PTG} {body : PTS} {PD : PEnds} {env : List C} {kvs : List (Key × D)} (hi : env[i]? = some (.ow (.dk kvs))) (h : forP (sqL (m kvs)) g body { PD with er := fun _ _ => False } (env.set i (.fz (.dk kvs)))) : pForD i m g body PD env := by
  unfold pForD
  rw [hi]; exact h
end PL
end

section
set_option linter.all false
set_option maxRecDepth 100000
set_option maxHeartbeats 4000000
set_option autoImplicit false
/-! PL14: errors of the program's own classes as data: made (by places, by names), a field read, isinstance. -/
namespace PL
section
open PySem PySem.W PySem.Calls PyProof.Rows PySem.Spec PySem.HandSPX
variable {prog : Program} {w : World} {A : Around} {E : Value → Shared → Prop} {R : Result → Shared → Prop} {h : Heap} {g : Array GenState} {d : Drawn} {t : Nat} {os : OsState}
variable {nm q : Str} {C N : Addr} {bs bm : List Value} {hdct : Bool} {sn : List Str} {sub : List Value} {ab : Bool} {col : Option Bool} {dd : Option Addr} {k0 k1 k2 k3 k5 : Option Value}
/-- ValueError.__new__ takes any keywords -/
theorem new_seen {M : Model} (hT : ∀ Y : String, bm.contains (.type Y) = veTail.contains (.type Y)) {us : List Value} {kw : List (Str × Value)} {Q : Unit → Shared → Prop}
    (hC : h.get? C = some (excClassObj nm q C N bs bm hdct sn sub ab col dd k0 k1 k2 k3 k5 "ValueError.__new__")) (hq : Q () ⟨h, g, d, t, os⟩) : wpAny M A (checkBuiltinCall "ValueError.__new__" ⟨.ref C :: us, kw⟩) Q E ⟨h, g, d, t, os⟩ := by
  have FV := F.excBase_ValueError
  have inB : (Value.ref C :: bm).contains (.type "ValueError") = true := by rw [List.contains_cons, hT, FV.hasB, Bool.or_true]
  have star := FV.noStar
  simp only [checkBuiltinCall, FV.newKind, FV.newSplit, FV.newRow]
  repeat
    first
      | refine wpAny_loadPart_at hC ?_
      | (refine wpAny_isSubtype_exc hC ?_
         rw [inB])
      | refine wpAny_staticBase_exc hC ?_
      | refine wpAny_madeBy_exc hC ?_
      | simp only [bne_self_eq_false, Bool.false_eq_true, if_false]
      | wp_step
  exact hq
theorem new_made (hT : ∀ Y : String, bm.contains (.type Y) = veTail.contains (.type Y)) {us : List Value} {kw : List (Str × Value)}
    (hC : h.get? C = some (excClassObj nm q C N bs bm hdct sn sub ab col dd k0 k1 k2 k3 k5 "ValueError.__new__")) (hz : us.length ≤ sizeLine)
    (hq : R (.ok (.ret (.ref (h.objs.size + 1)))) ⟨(h.push (W.kdv_tup us)).push (excO C h.objs.size), g, d, t, os⟩) : codeAny (model prog w) A (.builtin "ValueError.__new__" ⟨.ref C :: us, kw⟩) R ⟨h, g, d, t, os⟩ := by
  have FV := F.excBase_ValueError
  have ends := FV.ends
  have inB : (Value.ref C :: bm).contains (.type "ValueError") = true := by rw [List.contains_cons, hT, FV.hasB, Bool.or_true]
  have noA : (Value.ref C :: bm).contains (.type "AttributeError") = false := by
    rw [List.contains_cons, hT, FV.noAttr]; rfl
  have noN : (Value.ref C :: bm).contains (.type "NameError") = false := by
    rw [List.contains_cons, hT, FV.noName]; rfl
  refine codeAny_builtinAt FV.entry ?_
  unfold Builtin.«BaseException.__new__»
  refine PySem.wpAt_bind ?_
  show PySem.wpAt _ _ _ (stack >>= _) _ _ _
  refine PySem.wpAt_bind (PySem.wpAt_stack fun p below => PySem.wpAt_of_wpAny ?_)
  wp_walk
  refine PySem.wpAt_of_wpAny ?_
  rw [FV.owner]
  repeat
    first
      | with_reducible refine wpAny_madeHere_exc FV.canon hC ?_
      | with_reducible refine wpAny_loadPart_at hC ?_
      | (with_reducible refine wpAny_isSubtype_exc hC ?_
         first
           | rw [inB]
           | rw [noA]
           | rw [noN])
      | wp_step
  show R _ _
  rw [Heap.size_push]
  exact hq
theorem cls_call (hT : ∀ Y : String, bm.contains (.type Y) = veTail.contains (.type Y)) {us : List Value} {kw : List (Str × Value)} {f : Addr} {Q : Fin → Shared → Prop}
    (hC : h.get? C = some (excClassObj nm q C N bs bm hdct sn sub ab col dd k0 k1 k2 k3 k5 "ValueError.__new__")) (hz : us.length ≤ sizeLine)
    (hi : W.Looks (model prog w) h (typeLookup (.ref C) "__init__") (some (.ref f))) (hb : ∀ self, W.Looks (model prog w) h (bindSpecial (.ref f) self) (.ref f, [self]))
    (hq : codeAny (model prog w) A (.call (.ref f) ⟨.ref (h.objs.size + 1) :: us, kw⟩) (fun r s' => match r with
        | .ok (.ret v) => v = .none ∧ Q (.done (.ret (.ref (h.objs.size + 1)))) s'
        | .ok _ => False
        | .error e => E e s') ⟨(h.push (W.kdv_tup us)).push (excO C h.objs.size), g, d, t, os⟩) : wpAny (model prog w) A (Builtin.«type.__call__» ⟨.ref C :: us, kw⟩) Q E ⟨h, g, d, t, os⟩ := by
  repeat
    first
      | with_reducible refine wpAny_loadPart_at hC ?_
      | with_reducible refine wpAny_madeBy_exc hC ?_
      | wp_step
  refine codeAny_call_builtin_code (Code.quiet_builtin _ F.excBase_ValueError.quiet) (new_seen hT hC ?_)
  refine new_made hT hC hz ?_
  show wpAny _ _ _ _ _ _
  have kp : ∀ b o, h.get? b = some o → ((h.push (W.kdv_tup us)).push (excO C h.objs.size)).get? b = some o := fun b o e => Heap.get?_push_of_some _ (Heap.get?_push_of_some _ e)
  have hC2 := kp _ _ hC
  have hN : ((h.push (W.kdv_tup us)).push (excO C h.objs.size)).get? (h.objs.size + 1) = some (excO C h.objs.size) := by heap_get
  have inC : (Value.ref C :: bm).contains (.ref C) = true := by simp
  have i1 := hi.keeps kp
  have b1 := (hb (.ref (h.objs.size + 1))).keeps kp
  unfold isInstance
  repeat
    first
      | with_reducible refine wpAny_loadPart_at hN ?_
      | (with_reducible refine wpAny_isSubtype_exc hC2 ?_
         rw [inC])
      | wp_step
  show wpAny _ _ (typeLookup (.ref C) _) _ _ _
  refine i1.at ?_
  refine wpAny_holding (wpAny_bind (b1.at ?_))
  refine wpAny_bind (wpAny_call (codeAny_mono hq fun r s' z => ?_))
  rcases r with e | (v | _ | _ | _) <;> first | exact z | exact z.elim | skip
  obtain ⟨rfl, z⟩ := z
  first
    | exact wpAny_pure (wpAny_pure z)
    | (wp_walk; exact z)
/-- a class of errors is called, by places and by names -/
theorem cls_made (hT : ∀ Y : String, bm.contains (.type Y) = veTail.contains (.type Y)) {us : List Value} {kw : List (Str × Value)} {f : Addr}
    (hC : h.get? C = some (excClassObj nm q C N bs bm hdct sn sub ab col dd k0 k1 k2 k3 k5 "ValueError.__new__")) (hz : us.length ≤ sizeLine)
    (hi : W.Looks (model prog w) h (typeLookup (.ref C) "__init__") (some (.ref f))) (hb : ∀ self, W.Looks (model prog w) h (bindSpecial (.ref f) self) (.ref f, [self]))
    (hq : codeAny (model prog w) (A.under (.builtin "type.__call__" ⟨.ref C :: us, kw⟩)) (.call (.ref f) ⟨.ref (h.objs.size + 1) :: us, kw⟩) (W.InitBack (h.objs.size + 1) R)
      ⟨(h.push (W.kdv_tup us)).push (excO C h.objs.size), g, d, t, os⟩) : codeAny (model prog w) A (.call (.ref C) ⟨us, kw⟩) R ⟨h, g, d, t, os⟩ := by
  have f1 := tc_lookup
  have f2 := tc_bind (.ref C)
  have hTy : (⟨h, g, d, t, os⟩ : Shared).TypeIs (.ref C) "type" := ⟨_, hC, rfl⟩
  refine codeAny_of_tree ?_
  show wpAny _ _ (callAny (.ref C) _) _ _ _
  repeat
    any_goals
      first
        | assumption
        | with_reducible refine wpAny_loadPart_at hC ?_
        | wp_step
  refine ⟨rfl, ?_⟩
  refine codeAny_call_builtin_at (Code.quiet_builtin _ (by decide +kernel)) entry_typeCall (wpAny_check_type_call_sub hC (cls_call hT hC hz hi hb ?_))
  refine codeAny_mono hq fun r s' z => ?_
  rcases r with e | (v | _ | _ | _) <;> exact z
end
end PL
end

section
set_option linter.all false
set_option maxRecDepth 100000
set_option maxHeartbeats 4000000
set_option autoImplicit false
/-! PL15: errors as data: what is looked at of their classes, __init__, the call of a class, a field, isinstance; a head with one more look. -/
namespace PL
open PySem PySem.Spec PyProof.Rows L2

/-! ### what is looked at of a class of errors -/
def oexB (K : PySem.W.Frag) (C : Addr) : Bool := match K.lookup C with
  | some ⟨.type "type", _, .cls cd, sl⟩ => (match cd.mro, sl.toList with
    | .ref D :: bm, [_, _, _, _, some (.builtin n), _] => D == C && (n == "ValueError.__new__" && (!cd.hasDel && (cd.hasDict && PySem.HandSPX.refsVE bm)))
    | _, _ => false)
  | _ => false
theorem oexB_ok {K : PySem.W.Frag} {C : Addr} (q : oexB K C = true) : ∃ nm q N bs bm sn sub ab col dd k0 k1 k2 k3 k5, K.lookup C = some (excClassObj nm q C N bs bm true sn sub ab col dd k0 k1 k2 k3 k5 "ValueError.__new__") ∧ PySem.HandSPX.refsVE bm = true := by
  unfold oexB at q
  split at q
  · rename_i dd cd sl ho
    split at q
    · rename_i D bm k0 k1 k2 k3 n k5 hm hs
      simp only [Bool.and_eq_true, beq_iff_eq, Bool.not_eq_true'] at q
      obtain ⟨rfl, rfl, hdel, hdict, hbm⟩ := q
      obtain ⟨nm, bs, mro, ns, qn, hd, sn, sub, ab, col, del⟩ := cd
      dsimp only at hm hdel hdict
      subst hm hdel hdict
      obtain rfl : sl = #[k0, k1, k2, k3, some (.builtin "ValueError.__new__"), k5] := by
        obtain ⟨l⟩ := sl
        simp only at hs
        rw [hs]
      exact ⟨nm, qn, ns, bs, bm, sn, sub, ab, col, dd, k0, k1, k2, k3, k5, ho, hbm⟩
    · cases q
  · cases q
/-- a class of errors whose __init__ stores the fields fs -/
structure ErC (K : PySem.W.Frag) (C f : Addr) (fs : List Str) : Prop where
  oex : OexC K C
  xf : XfC K C
  cl : PySem.W.findIn K (.ref C) "__class__" = some (some (.builtin "object.__class__"))
  hn : PySem.W.specialIn K (.builtin "object.__class__") "__get__" = some (some (.builtin "getset_descriptor.__get__"))
  ht : PySem.W.takesIn K (.builtin "object.__class__") = some true
  hm : PySem.W.mroIn K C (.type "object") = some true
  ini : PySem.W.findIn K (.ref C) "__init__" = some (some (.ref f))
  tI : PySem.W.typeIn K (.ref f) = some (.type "function")
  no : ∀ x ∈ fs, PySem.W.findIn K (.ref C) x = some none
def ercB (K : PySem.W.Frag) (C f : Addr) (fs : List Str) : Bool := oexB K C && (He.eqO (PySem.W.findIn K (.ref C) "__setattr__") (some (some (.builtin "object.__setattr__"))) && (decide (PySem.W.subIn K (.ref C) (.type "BaseException") = some true) &&
  (decide (PySem.W.typeIn K (.ref C) = some (.type "type")) && (PySem.W.keepIn K (.ref C) && (xfB K C && (He.eqO (PySem.W.findIn K (.ref C) "__class__") (some (some (.builtin "object.__class__"))) &&
  (He.eqO (PySem.W.specialIn K (.builtin "object.__class__") "__get__") (some (some (.builtin "getset_descriptor.__get__"))) && (decide (PySem.W.takesIn K (.builtin "object.__class__") = some true) && (decide (PySem.W.mroIn K C (.type "object") = some true) &&
  (He.eqO (PySem.W.findIn K (.ref C) "__init__") (some (some (.ref f))) && (decide (PySem.W.typeIn K (.ref f) = some (.type "function")) && fs.all fun x => He.eqO (PySem.W.findIn K (.ref C) x) (some none))))))))))))
theorem ercB_ok {K : PySem.W.Frag} {C f : Addr} {fs : List Str} (h : ercB K C f fs = true) : ErC K C f fs := by
  unfold ercB at h
  simp only [Bool.and_eq_true] at h
  obtain ⟨h1, h2, h3, h4, h5, h6, h7, h8, h9, h10, h11, h12, h13⟩ := h
  exact ⟨⟨oexB_ok h1, He.eqO_ok h2, of_decide_eq_true h3, of_decide_eq_true h4, h5⟩, xfB_ok h6, He.eqO_ok h7, He.eqO_ok h8, of_decide_eq_true h9, of_decide_eq_true h10, He.eqO_ok h11, of_decide_eq_true h12, fun x hx => He.eqO_ok (List.all_eq_true.mp h13 x hx)⟩

/-! ### __init__ -/
def flds (fs : List Str) (ys : List V) : List (Str × V) := (fs.zip ys).reverse
def spI (C : Addr) (fs : List Str) : Sp := fun vs H Q _ => ∃ (a : Addr) (ys : List V), vs = .ref a :: ys ∧ ys.length = fs.length ∧ H a = some (exo a C none) ∧
  ∀ d, H d = none → d ≠ a → Q .non (upd (upd H d (exd d (flds fs ys))) a (exo a C (some d)))
theorem spI_len {C : Addr} {fs : List Str} {vs : List V} {H : Hp} {Q : VK} {E : XK} (h : spI C fs vs H Q E) : vs.length = fs.length + 1 := by
  obtain ⟨a, ys, rfl, l, _⟩ := h
  rw [List.length_cons, l]
theorem ini1 {K : PySem.W.Frag} {C : Addr} {x : Str} {vs : List V} {H : Hp} {Q : VK} {E : XK} (T : OexC K C) (no : PySem.W.findIn K (.ref C) x = some none) (h : spI C [x] vs H Q E) :
    tOst K x (tVar 0) (tVar 1) { nx := fun _ H' => Q .non H', rt := Q } (start ["self", x] vs) H := by
  obtain ⟨a, ys, rfl, l, ha, q⟩ := h
  match ys, l with
  | [y], _ => exact ⟨y, rfl, .ref a, rfl, a, C, rfl, T, no, .inl ⟨ha, fun d n ne => q d n ne⟩⟩
theorem upd_swap {H : Hp} {d a : Addr} {o1 o2 o3 : HO} (ne : d ≠ a) : upd (upd (upd H d o1) a o2) d o3 = upd (upd H d o3) a o2 := by
  funext b
  by_cases h1 : b = d
  · subst h1; rw [upd_same, upd_ne ne, upd_same]
  · rw [upd_ne h1]
    by_cases h2 : b = a
    · subst h2; rw [upd_same, upd_same]
    · rw [upd_ne h2, upd_ne h2, upd_ne h1, upd_ne h1]
theorem ini2 {K : PySem.W.Frag} {C : Addr} {x z : Str} {vs : List V} {H : Hp} {Q : VK} {E : XK} (T : OexC K C) (no : ∀ y ∈ [x, z], PySem.W.findIn K (.ref C) y = some none) (h : spI C [x, z] vs H Q E) :
    tOst K x (tVar 0) (tVar 1) { nx := fun σ H => tOst K z (tVar 0) (tVar 2) { nx := fun _ H' => Q .non H', rt := Q } σ H, rt := Q } (start ["self", x, z] vs) H := by
  obtain ⟨a, ys, rfl, l, ha, q⟩ := h
  match ys, l with
  | [y, w], _ =>
    refine ⟨y, rfl, .ref a, rfl, a, C, rfl, T, no x (by simp), .inl ⟨ha, fun d n ne => ?_⟩⟩
    refine ⟨w, rfl, .ref a, rfl, a, C, rfl, T, no z (by simp), .inr ⟨d, [(x, y)], upd_same, by rw [upd_ne ne, upd_same], by simp, ?_⟩⟩
    show Q .non _
    rw [upd_swap ne]
    exact q d n ne

/-! ### the call of a class of errors -/
/-- n values, m keywords; pk: the places of __init__'s further parameters among them -/
def tMkE (C : Addr) (n m : Nat) (sp : Sp) (g : List V → List V → List V) (t tk : TA) : TE := fun σ H Q => t σ H fun vs H1 => tk σ H1 fun zs H2 => vs.length = n ∧ zs.length = m ∧ vs.length ≤ 1000 ∧
  ∀ a, H2 a = none → sp (.ref a :: g vs zs) (upd H2 a (exo a C none)) (fun v H3 => v = .non ∧ Q (.ref a) H3) fun _ _ _ => False
/-- how __init__'s parameters are bound -/
def IniB (K : PySem.W.Frag) (fd : FuncData) (ps : List Str) (n : Nat) (ks : List Str) (pk : List Nat) : Prop :=
  ∀ (s : Shared) (u : Value) (us ws : List Value), K.In s.heap → us.length = n → ws.length = ks.length → BindsTo s fd ⟨u :: us, ks.zip ws⟩ (ps.zip (u :: pickL pk us ws))
section
variable {X : Cx} {CX : CXT} {k n : Nat} {f C : Addr} {fd : FuncData} {ps ks fs : List Str} {sp : Sp} {x : Str} {p pos : Pos} {e : Expr} {es : List Expr} {kws : List Keyword} {t tk : TA} {pk : List Nat}
theorem run_mkE {pins : List (Addr × Obj)} {σ : L2.St} {H : Hp} {s : Shared} {Q : VK} {us ws : List Value} {vs zs : List V} (T : ErC X.K C f fs) (F : FnOk X.prog X.w X.K X.mg X.base CX k f fd ps sp) (hr : Room (k + 1) X.A) (hb : IniB X.K fd ps n ks pk) (hx : Passes CX X fun _ _ _ => False)
    (I : Inv X pins σ H s) (r : Vals vs us) (rz : Vals zs ws) (l1 : vs.length = n) (l2 : zs.length = ks.length) (l3 : vs.length ≤ 1000)
    (h : ∀ a, H a = none → sp (.ref a :: pickL pk vs zs) (upd H a (exo a C none)) (fun v H3 => v = .non ∧ Q (.ref a) H3) fun _ _ _ => False) :
    wpAny (model X.prog X.w) X.A (call (.ref C) us (ks.zip ws)) (EP X pins σ Q) X.xe s := by
  obtain ⟨nm, q, N, bs, bm, sn, sub, ab, col, dd, k0, k1, k2, k3, k5, hC, hbm⟩ := T.oex.cls
  obtain ⟨hp, g, dr, tok, os⟩ := s
  have up : hp.objs.size ≤ hp.objs.size + 1 := Nat.le_succ _
  have hq := h (hp.objs.size + 1) (I.hok.fresh up)
  have kk : ∀ b o, hp.get? b = some o → ((hp.push (PySem.W.kdv_tup us)).push (PySem.HandSPX.excO C hp.objs.size)).get? b = some o := fun b o z => Heap.get?_push_of_some _ (Heap.get?_push_of_some _ z)
  have hN : ((hp.push (PySem.W.kdv_tup us)).push (PySem.HandSPX.excO C hp.objs.size)).get? (hp.objs.size + 1) = some (PySem.HandSPX.excO C hp.objs.size) := by heap_get
  have I2 := I.laid (t' := tok) (a := hp.objs.size + 1) (o := exo (hp.objs.size + 1) C none) (h' := (hp.push (PySem.W.kdv_tup us)).push (PySem.HandSPX.excO C hp.objs.size)) kk up (exo_ok hN)
  have r2 : Vals (V.ref (hp.objs.size + 1) :: pickL pk vs zs) (Value.ref (hp.objs.size + 1) :: pickL pk us ws) := .cons rfl (Vals.pick (r.append rz) pk)
  have hu : us.length ≤ sizeLine := by
    rw [← Paired.length r, sizeLine_eq]; omega
  refine wpAny_call (cls_made (fun Y => PySem.HandSPX.refsVE_contains Y bm hbm) (I.kIn _ _ hC) hu (PySem.W.looks_findIn I.kIn T.ini) (fun self => PySem.W.bind_fn I.kIn self T.tI) ?_)
  refine codeAny_mono (F.run _ X.stack _ _ ⟨Value.ref (hp.objs.size + 1) :: us, ks.zip ws⟩ (Value.ref (hp.objs.size + 1) :: pickL pk us ws) _ _ (fun _ _ _ => False) (hr.make C us (ks.zip ws)) (I2.env0.make C us (ks.zip ws))
    (hb _ _ us ws I2.kIn (r.length.symm.trans l1) (rz.length.symm.trans l2)) r2 hq) fun res s' hq' => ?_
  cases res with
  | error er => exact hx pins σ _ _ er s' I2 hq'
  | ok fl =>
    cases fl with
    | ret u =>
      obtain ⟨v, H', I3, rv, ev, q3⟩ := I2.after hq'
      subst ev
      exact ⟨rv, ⟨V.ref (hp.objs.size + 1), H', I3, rfl, q3⟩⟩
    | next => exact False.elim hq'
    | brk => exact False.elim hq'
    | cont => exact False.elim hq'
theorem pe_mkE (T : ErC X.K C f fs) (F : FnOk X.prog X.w X.K X.mg X.base CX k f fd ps sp) (hr : Room (k + 1) X.A) (hg : Gl X x) (hm : X.mg x = some (.ref C)) (hb : IniB X.K fd ps n [] pk) (hx : Passes CX X fun _ _ _ => False) (ha : PA X (e :: es) t)
    (hdb : (x == ("__debug__" : Str)) = false := by decide) (he : starEach (e :: es) X.env = (false, eval e X.env) :: starEach es X.env := by rfl) (hpl : (backTo pos (starEach es X.env)).any (·.1) = false := by rfl) :
    PE X (.Call (.Name x p) (e :: es) [] pos) (tMkE C n 0 sp (pickL pk) t tNil) := by
  refine ⟨fun pins s σ H Q I h => ?_⟩
  refine wpAny_Call_Name_kw (ld_glob I hg hm ?_ hdb)
  refine PySem.W.callWith_K (h₀ := X.base) I.ok.mod.kin T.oex.kC (thn (ha.run pos pins s σ H _ I h) fun us s1 ⟨vs, H1, I1, r, l1, l2, l3, q⟩ => ⟨I1.kIn, ?_⟩) he hpl
  exact run_mkE (ks := []) (ws := []) (zs := []) T F hr hb hx I1 r .nil l1 rfl l3 q
theorem pe_mkEK (T : ErC X.K C f fs) (F : FnOk X.prog X.w X.K X.mg X.base CX k f fd ps sp) (hr : Room (k + 1) X.A) (hg : Gl X x) (hm : X.mg x = some (.ref C)) (hb : IniB X.K fd ps 0 ks pk) (hx : Passes CX X fun _ _ _ => False) (hkw : PK X kws tk)
    (hall : (backToKw pos (keywordEach kws X.env)).all (·.1.isSome) = true := by rfl) (hks : (backToKw pos (keywordEach kws X.env)).filterMap (·.1) = ks := by rfl) (hdb : (x == ("__debug__" : Str)) = false := by decide)
    (hpl : ((backTo pos (starEach [] X.env)).any (·.1) || (backToKw pos (keywordEach kws X.env)).any (·.1.isNone)) = false := by rfl) :
    PE X (.Call (.Name x p) [] kws pos) (tMkE C 0 ks.length sp (pickL pk) tNil tk) := by
  refine ⟨fun pins s σ H Q I h => ?_⟩
  refine wpAny_Call_Name_kw (ld_glob I hg hm ?_ hdb)
  refine PySem.W.callWith_KW0 (h₀ := X.base) I.ok.mod.kin T.oex.kC hall ?_ hpl
  refine thn (hkw.run pos pins s σ H _ I h) fun ws s2 ⟨zs, H2, I2, rz, l1, l2, l3, q2⟩ => ⟨I2.kIn, ?_⟩
  rw [hks]
  exact run_mkE (us := []) (vs := []) T F hr hb hx I2 .nil rz rfl l2 (by simp) q2
end
theorem ini_b {K : PySem.W.Frag} {x qual : Str} {params : Arguments} {body : List Stmt} {scope : Scope} {f : Addr} {fd : FuncData} {ns : List Str} (F : FunD K x qual params body scope [] [] f fd) (n : Nat) (ks : List Str) (pk : List Nat)
    (h : ∀ (kV doc pm : Value) (an : Option Addr) (cdv ct : Value) (u : Value) (us ws : List Value), us.length = n → ws.length = ks.length → bindArgs (PySem.W.fnOf x qual params body scope .none kV doc pm an cdv ct) ⟨u :: us, ks.zip ws⟩ = pure (ns.zip (u :: pickL pk us ws))) :
    IniB K fd ns n ks pk := by
  obtain ⟨oc, od, dV, kV, doc, pm, an, cdv, ct, osl, rfl, lk, hcd, hD, hK⟩ := F.ex
  rcases hD with ⟨_, rfl⟩ | ⟨e, _⟩
  · exact fun s u us ws _ l1 l2 => .of_eq (h kV doc pm an cdv ct u us ws l1 l2)
  · exact absurd rfl e

/-! ### over data -/
def fldsD (fs : List Str) (ds : List D) : List (Str × D) := (fs.zip ds).reverse
theorem RepF.append {K : PySem.W.Frag} {mg : MG} {G : Hp} : ∀ {vs ws : List (Str × V)} {ds es : List (Str × D)}, RepF K mg G vs ds → RepF K mg G ws es → RepF K mg G (vs ++ ws) (ds ++ es)
  | _, _, _, _, .nil, h => h
  | _, _, _, _, .cons r t, h => .cons r (RepF.append t h)
theorem repF_flds {K : PySem.W.Frag} {mg : MG} {G : Hp} : ∀ {fs : List Str} {ys : List V} {ds : List D}, Reps K mg G ys ds → RepF K mg G (flds fs ys) (fldsD fs ds)
  | [], _, _, _ => .nil
  | _ :: _, _, _, .nil => .nil
  | f :: fs, y :: ys, d :: ds, .cons r t => by
    unfold flds fldsD
    rw [List.zip_cons_cons, List.zip_cons_cons, List.reverse_cons, List.reverse_cons]
    exact (repF_flds t).append (.cons r .nil)
theorem lookD_put {f g : Str} {y : D} {fs : List (Str × D)} : ((f, y) :: fs).lookup g = if g = f then some y else fs.lookup g := by
  by_cases h : g = f
  · subst h
    rw [List.lookup_cons_self, if_pos rfl]
  · have e : (g == f) = false := by simpa using h
    rw [if_neg h, List.lookup_cons, e]
theorem RepF.look {K : PySem.W.Frag} {mg : MG} {G : Hp} {x : Str} : ∀ {vs : List (Str × V)} {ds : List (Str × D)} {d : D}, RepF K mg G vs ds → ds.lookup x = some d → ∃ v, vs.lookup x = some v ∧ Rep K mg G v d
  | _, _, _, .nil, e => by cases e
  | _, _, _, .cons (k := k) r t, e => by
    rw [lookup_put]
    rw [lookD_put] at e
    by_cases h : x = k
    · rw [if_pos h] at e ⊢
      cases e
      exact ⟨_, rfl, r⟩
    · rw [if_neg h] at e ⊢
      exact RepF.look t e
theorem ext_err {G H : Hp} {a d C : Addr} {fs : List (Str × V)} (s : Same G H) (na : H a = none) (nd : H d = none) (ne : d ≠ a) :
    Ext G H (upd (upd G d (exd d fs)) a (exo a C (some d))) (upd (upd (upd H a (exo a C none)) d (exd d fs)) a (exo a C (some d))) := by
  have x1 := Ext.new (o := exd d fs) s nd
  have x2 := Ext.new (o := exo a C (some d)) x1.s (p := a) (by rw [upd_ne (Ne.symm ne)]; exact na)
  have e : upd (upd (upd H a (exo a C none)) d (exd d fs)) a (exo a C (some d)) = upd (upd H d (exd d fs)) a (exo a C (some d)) := by
    funext b
    by_cases h1 : b = a
    · subst h1; rw [upd_same, upd_same]
    · rw [upd_ne h1, upd_ne h1]
      by_cases h2 : b = d
      · subst h2; rw [upd_same, upd_same]
      · rw [upd_ne h2, upd_ne h2, upd_ne h1]
  rw [e]
  exact x1.trans x2
/-- the classes of errors that are known, with their fields -/
abbrev ETab := List (Str × List Str)
structure ErT (K : PySem.W.Frag) (mg : MG) (tab : ETab) : Prop where
  ex : ∀ c fs, tab.lookup c = some fs → ∃ C f, mg c = some (.ref C) ∧ ErC K C f fs
def pMkE (cls : Str) (fs : List Str) (pk : List Nat) (n m : Nat) (ps qs : PTA) : PTE := fun env P => ps env fun ds => qs env fun es => ds.length = n ∧ es.length = m ∧ ds.length ≤ 1000 ∧ (pickL pk ds es).length = fs.length ∧ P (.err cls (fldsD fs (pickL pk ds es)))
section
variable {X : Cx} {k n : Nat} {f Cc : Addr} {fd : FuncData} {ks fs : List Str} {cls : Str} {p pos : Pos} {e : Expr} {es : List Expr} {kws : List Keyword} {pe : PTE} {ps qs : PTA} {pk : List Nat}
theorem mkE_reads {t tk : TA} {m : Nat} (hm : X.mg cls = some (.ref Cc))
    (h2 : ∀ (G H : Hp) (env : List C) (σ : L2.St) (P : List D → Prop) (Q : List V → Hp → Prop), Ok X.K X.mg G H env σ → ps env P → (∀ ds vs G' H', Ext G H G' H' → Reps X.K X.mg G' vs ds → P ds → Q vs H') → t σ H Q)
    (g2 : ∀ (G H : Hp) (env : List C) (σ : L2.St) (P : List D → Prop) (Q : List V → Hp → Prop), Ok X.K X.mg G H env σ → qs env P → (∀ ds vs G' H', Ext G H G' H' → Reps X.K X.mg G' vs ds → P ds → Q vs H') → tk σ H Q)
    (G H : Hp) (env : List C) (σ : L2.St) (P : D → Prop) (Q : VK) (ok : Ok X.K X.mg G H env σ) (hp : pMkE cls fs pk n m ps qs env P) (kk : ∀ d v G' H', Ext G H G' H' → Rep X.K X.mg G' v d → P d → Q v H') :
    tMkE Cc n m (spI Cc fs) (pickL pk) t tk σ H Q := by
  refine h2 G H env σ _ _ ok hp fun ds vs G1 H1 x1 r1 q1 => ?_
  refine g2 G1 H1 env σ _ _ (ok.ext x1) q1 fun es zs G2 H2 x2 r2 ⟨l1, l2, l3, l4, q⟩ => ?_
  have r1' := r1.mono x2.g
  have rp : Reps X.K X.mg G2 (pickL pk vs zs) (pickL pk ds es) := Reps.pick (r1'.append r2) pk
  refine ⟨r1'.length.trans l1, r2.length.trans l2, by rw [r1'.length]; exact l3, fun a na => ⟨a, _, rfl, by rw [rp.length]; exact l4, upd_same, fun d nd ne => ⟨rfl, ?_⟩⟩⟩
  rw [upd_ne ne] at nd
  have x3 := ext_err (C := Cc) (fs := flds fs (pickL pk vs zs)) x2.s na nd ne
  refine kk _ _ _ _ ((x1.trans x2).trans x3) (.err upd_same exq_exo (by rw [upd_ne ne, upd_same]) hm ?_) q
  exact (repF_flds rp).mono x3.g
theorem pu_mkE (T : ErC X.K Cc f fs) (hm : X.mg cls = some (.ref Cc)) (F : FnOk X.prog X.w X.K X.mg X.base CX0 1 f fd ("self" :: fs) (spI Cc fs)) (hb : IniB X.K fd ("self" :: fs) n [] pk) (hr : Room (k + 2) X.A) (h : PuA X (e :: es) ps) (hg : Gl X cls := by rfl)
    (hdb : (cls == ("__debug__" : Str)) = false := by decide) (he : starEach (e :: es) X.env = (false, eval e X.env) :: starEach es X.env := by rfl) (hpl : (backTo pos (starEach es X.env)).any (·.1) = false := by rfl) :
    PuE X (.Call (.Name cls p) (e :: es) [] pos) (pMkE cls fs pk n 0 ps paNil) := by
  obtain ⟨t, h1, h2⟩ := h.ex
  exact ⟨_, pe_mkE T F (hr.mono (by omega)) hg hm hb pass0 h1 hdb he hpl, mkE_reads hm h2 fun G H env σ P Q ok hp k => k [] [] G H (.refl ok.same) .nil hp⟩
theorem pu_mkEK {m : Nat} (T : ErC X.K Cc f fs) (hm : X.mg cls = some (.ref Cc)) (F : FnOk X.prog X.w X.K X.mg X.base CX0 1 f fd ("self" :: fs) (spI Cc fs)) (hb : IniB X.K fd ("self" :: fs) 0 ks pk) (hr : Room (k + 2) X.A) (hkw : PuK X kws qs) (hml : ks.length = m := by rfl) (hg : Gl X cls := by rfl)
    (hall : (backToKw pos (keywordEach kws X.env)).all (·.1.isSome) = true := by rfl) (hks : (backToKw pos (keywordEach kws X.env)).filterMap (·.1) = ks := by rfl) (hdb : (cls == ("__debug__" : Str)) = false := by decide)
    (hpl : ((backTo pos (starEach [] X.env)).any (·.1) || (backToKw pos (keywordEach kws X.env)).any (·.1.isNone)) = false := by rfl) :
    PuE X (.Call (.Name cls p) [] kws pos) (pMkE cls fs pk 0 m paNil qs) := by
  subst hml
  obtain ⟨u, g1, g2⟩ := hkw.ex
  exact ⟨_, pe_mkEK T F (hr.mono (by omega)) hg hm hb pass0 g1 hall hks hdb hpl, mkE_reads hm (fun G H env σ P Q ok hp k => k [] [] G H (.refl ok.same) .nil hp) g2⟩

/-! ### a field -/
def tErF (K : PySem.W.Frag) (x : Str) (te : TE) : TE := fun σ H Q => te σ H fun y H1 => ∃ (a C f dx : Addr) (ns : List Str) (fs : List (Str × V)) (v : V), y = .ref a ∧ ErC K C f ns ∧ x ∈ ns ∧ (∃ w, H1 a = some w ∧ Exq w a C dx) ∧ H1 dx = some (exd dx fs) ∧ fs.lookup x = some v ∧ Q v H1
theorem pe_erF {x : Str} {te : TE} (he : PE X e te) (hb : attributeBase e x X.env (eval e X.env) = eval e X.env := by rfl) : PE X (.Attribute e x pos) (tErF X.K x te) := by
  refine ⟨fun pins s σ H Q I h => ?_⟩
  refine attr_of hb (thn (he.run pins s σ H _ I h) fun u s1 hh => ?_)
  obtain ⟨y, H1, I1, ry, a, C, f, dx, ns, fs, v, ey, T, hn, ea, ed, l, q⟩ := hh
  subst ey
  obtain rfl : u = Value.ref a := ry
  obtain ⟨w0, ea, xq⟩ := ea
  obtain ⟨oe, ves, ho, hcl, hdx, hdt⟩ := xq.at I1.hok ea
  obtain ⟨mA, hns, rel⟩ := exd_at I1.hok ed
  obtain ⟨od, hod, hl⟩ := lookIn_ns hns
  obtain ⟨w, hw, rw'⟩ := RelO.some_of (v := v) (o := mA x) (by rw [← l]; exact rel x)
  have J : PySem.W.InstAt s1.heap a _ C (some od) := ⟨ho, hcl, by unfold PySem.W.notCls; rw [hdt] <;> rfl, by rw [hdx]; exact hod⟩
  exact HandSPX.exc_get I1.kIn J T.xf.ga T.xf.gg T.xf.exC (PySem.W.findObj_own T.xf.hdC (T.no x hn) rfl (by rw [hl, hw])) (handed_of rw') ⟨v, H1, I1.tok _, rw', q⟩
def pErF (tab : ETab) (x : Str) (p : PTE) : PTE := fun env P => p env fun d => ∃ c ns fs v, d = .err c fs ∧ tab.lookup c = some ns ∧ x ∈ ns ∧ fs.lookup x = some v ∧ P v
theorem pu_erF {tab : ETab} {x : Str} (T : ErT X.K X.mg tab) (he : PuE X e pe) (hb : attributeBase e x X.env (eval e X.env) = eval e X.env := by rfl) : PuE X (.Attribute e x pos) (pErF tab x pe) := by
  obtain ⟨t, h1, h2⟩ := he.ex
  refine ⟨_, pe_erF h1 hb, fun G H env σ P Q ok hp k => h2 G H env σ _ _ ok hp fun d v G' H' y r q => ?_⟩
  obtain ⟨c, ns, fs, w, rfl, hc, hx, hl, q⟩ := q
  cases r with
  | err ea eq ed em rf =>
    obtain ⟨C', f', em', T'⟩ := T.ex c ns hc
    rw [em] at em'
    cases em'
    obtain ⟨v', l', r'⟩ := rf.look hl
    exact ⟨_, _, f', _, ns, _, v', rfl, T', hx, ⟨_, y.s _ _ ea, eq⟩, y.s _ _ ed, l', k w v' G' H' y r' q⟩

/-! ### isinstance -/
def rIsEr (K : PySem.W.Frag) : List V → Hp → VK → Prop := fun xs H Q => ∃ (a C f dx : Addr) (ns : List Str) (c : V) (u : Value) (b : Bool), xs = [.ref a, c] ∧ ClsV c u ∧ ErC K C f ns ∧ (∃ w, H a = some w ∧ Exq w a C dx) ∧ (∃ fs, H dx = some (exd dx fs)) ∧ PySem.W.kitOne K (.ref C) u = some b ∧ Q (.bl b) H
theorem call_isEr : CallR X (.builtin "isinstance") (rIsEr X.K) := by
  intro pins s σ H xs us Q I r h
  obtain ⟨a, C, f, dx, ns, c, u, b, rfl, kc, T, ea, ⟨fs, ed⟩, e, q⟩ := h
  obtain ⟨u1, u2, rfl, r1, r2⟩ := vals2 r
  have e2 := kc.eq r2
  subst e2
  cases (show u1 = Value.ref a from r1)
  obtain ⟨w0, ea, xq⟩ := ea
  obtain ⟨oe, ves, ho, hcl2, hdx, hdt⟩ := xq.at I.hok ea
  obtain ⟨mA, hns, rel⟩ := exd_at I.hok ed
  obtain ⟨od, hod, hl⟩ := lookIn_ns hns
  have J : PySem.W.InstAt s.heap a _ C (some od) := ⟨ho, hcl2, by unfold PySem.W.notCls; rw [hdt] <;> rfl, by rw [hdx]; exact hod⟩
  obtain ⟨nm, q', N, bs, bm, sn, sub, ab, col, dd, k0, k1, k2, k3, k5, hC, hbm⟩ := T.oex.cls
  have hcl : (PySem.W.clsIn X.K C).isSome = true := by
    unfold PySem.W.clsIn
    rw [hC]; rfl
  exact PySem.W.kia_one (PySem.W.kitx_exc hcl T.xf.ga T.xf.gg T.xf.exC T.cl T.hn T.ht T.hm) I.kIn J e (fun z => nomatch z) fun tk => ⟨.bl b, H, I.kept (t' := tk) fun _ _ z => z, rfl, q⟩
/-- which of the known classes belong to a class (or not) -/
abbrev STab := Str → Option Bool
structure ErS (K : PySem.W.Frag) (mg : MG) (sub : STab) (u : Value) : Prop where
  ex : ∀ c b, sub c = some b → ∃ C f ns, mg c = some (.ref C) ∧ ErC K C f ns ∧ PySem.W.kitOne K (.ref C) u = some b
def pIsE (sub : STab) (p : PTE) : PTE := fun env P => p env fun d => ∃ c fs b, d = .err c fs ∧ sub c = some b ∧ P (.bl b)
theorem isE_reads {sub : STab} {c : V} {u : Value} {G H : Hp} {v : V} {d : D} {P : D → Prop} {Q : VK} (S : ErS X.K X.mg sub u) (kc : ClsV c u) (s : Same G H) (r : Rep X.K X.mg G v d) (h : ∃ c fs b, d = .err c fs ∧ sub c = some b ∧ P (.bl b))
    (k : ∀ b, P (.bl b) → Q (.bl b) H) : rIsEr X.K [v, c] H Q := by
  obtain ⟨cn, fs, b, rfl, hs, q⟩ := h
  cases r with
  | err ea eq ed em rf =>
    obtain ⟨C', f', ns, em', T', e⟩ := S.ex cn b hs
    rw [em] at em'
    cases em'
    exact ⟨_, _, f', _, ns, c, u, b, rfl, kc, T', ⟨_, s _ _ ea, eq⟩, ⟨_, s _ _ ed⟩, e, k b q⟩
theorem pu_isE {sub : STab} {T : Str} {CT : Addr} {p2 p' : Pos} (S : ErS X.K X.mg sub (.ref CT)) (hT : X.mg T = some (.ref CT)) (hm : X.mg "isinstance" = none) (he : PuE X e pe) (hg : Gl X "isinstance" := by rfl) (hgT : Gl X T := by rfl)
    (hs : starEach [e, .Name T p2] X.env = (false, eval e X.env) :: starEach [.Name T p2] X.env := by rfl) (hs2 : starEach [.Name T p2] X.env = (false, eval (.Name T p2) X.env) :: starEach [] X.env := by rfl) (hpl : (backTo pos (starEach [.Name T p2] X.env)).any (·.1) = false := by rfl)
    (hd : (T == ("__debug__" : Str)) = false := by decide) : PuE X (.Call (.Name "isinstance" p') [e, .Name T p2] [] pos) (pIsE sub pe) := by
  obtain ⟨t, h1, h2⟩ := he.ex
  refine ⟨_, pe_callB call_isEr hg hm (by decide +kernel) (pa_cons h1 (pa_cons (pe_glob (v := .ref CT) hgT hT rfl hd) pa_nil hs2) hs) (by decide) (by decide) hs hpl, fun G H env σ P Q ok hp k => h2 G H env σ _ _ ok hp fun d v G' H' x r q => ?_⟩
  exact isE_reads S (.own CT) x.s r q fun b z => k _ _ G' H' x (.bl b) z
theorem pu_isEB {sub : STab} {T : Str} {n : String} {p2 p' : Pos} (S : ErS X.K X.mg sub (.type n)) (hm : X.mg "isinstance" = none) (hmT : X.mg T = none) (he : PuE X e pe) (hv : bootBuiltins T = some (.type n) := by decide +kernel) (hg : Gl X "isinstance" := by rfl) (hgT : Gl X T := by rfl)
    (hs : starEach [e, .Name T p2] X.env = (false, eval e X.env) :: starEach [.Name T p2] X.env := by rfl) (hs2 : starEach [.Name T p2] X.env = (false, eval (.Name T p2) X.env) :: starEach [] X.env := by rfl) (hpl : (backTo pos (starEach [.Name T p2] X.env)).any (·.1) = false := by rfl)
    (hn : T ≠ "__name__" := by decide) (hd : (T == ("__debug__" : Str)) = false := by decide) : PuE X (.Call (.Name "isinstance" p') [e, .Name T p2] [] pos) (pIsE sub pe) := by
  obtain ⟨t, h1, h2⟩ := he.ex
  refine ⟨_, pe_callB call_isEr hg hm (by decide +kernel) (pa_cons h1 (pa_cons (pe_bltn (v := .ty n) hgT hmT hv rfl hn hd) pa_nil hs2) hs) (by decide) (by decide) hs hpl, fun G H env σ P Q ok hp k => h2 G H env σ _ _ ok hp fun d v G' H' x r q => ?_⟩
  exact isE_reads S (.ty n) x.s r q fun b z => k _ _ G' H' x (.bl b) z
end

/-! ### a head with one more look -/
open He in
def hookX (n : Nat) (fa : List Fa) (fn : List DefD) (xb : PySem.W.Frag → Bool) : PySem.W.Hook where
  α := AlD × Bool
  obs := fun s => (obsDG n fa fn s.heap.get?, xb (frG s.heap.get? (asD s.heap.get? n)))
  val := fun _ => (valD fn, true)
  says := fun _ h => ∃ K : PySem.W.Frag, K.In h ∧ SaysD fa fn K ∧ xb K = true
  of := fun _ _ e => ⟨_, frG_in, (Prod.mk.inj e).1, (Prod.mk.inj e).2⟩
  keeps := fun _ _ _ ⟨K, hK, c⟩ k => ⟨K, PySem.W.Frag.In.keeps hK k, c⟩
open He in
def obsX (n : Nat) (fa : List Fa) (fn : List DefD) (xb : PySem.W.Frag → Bool) (g : Addr → Option Obj) : AlD × Bool := (obsDG n fa fn g, xb (frG g (asD g n)))
open He in
theorem obsX_eq {n : Nat} {fa : List Fa} {fn : List DefD} {xb : PySem.W.Frag → Bool} {g : Addr → Option Obj} {s : Shared} (h : ∀ a, g a = s.heap.get? a) : obsX n fa fn xb g = (hookX n fa fn xb).obs s := by
  have e : g = s.heap.get? := funext h
  rw [e] <;> rfl

/-! ### what a program's head gives of its errors -/
def subOf (tab : ETab) (T : Str) : STab := fun c => if (tab.lookup c).isSome = true then some (decide (c = T)) else none
def subAll (tab : ETab) : STab := fun c => if (tab.lookup c).isSome = true then some true else none
def errB (tab : ETab) (K : PySem.W.Frag) : Bool := tab.all fun p => (He.Fa.glo p.1).ok K && ercB K (He.ga K p.1) (He.ma K (He.ga K p.1) "__init__") p.2
def subB (tab : ETab) (K : PySem.W.Frag) : Bool := tab.all fun p => tab.all fun q => decide (PySem.W.kitOne K (.ref (He.ga K p.1)) (.ref (He.ga K q.1)) = some (decide (p.1 = q.1)))
def supB (tab : ETab) (K : PySem.W.Frag) (u : Value) : Bool := tab.all fun p => decide (PySem.W.kitOne K (.ref (He.ga K p.1)) u = some true)
theorem mem_of_look {tab : ETab} {c : Str} {fs : List Str} (h : tab.lookup c = some fs) : (c, fs) ∈ tab := by
  induction tab with
  | nil => cases h
  | cons p r ih =>
    obtain ⟨k, v⟩ := p
    by_cases e : c = k
    · subst e
      rw [List.lookup_cons_self] at h
      cases h
      exact List.mem_cons_self
    · have hb : (c == k) = false := by simpa using e
      rw [List.lookup_cons, hb] at h
      exact List.mem_cons_of_mem _ (ih h)
section
variable {tab : ETab} {K : PySem.W.Frag} {h : Heap} {mg : MG}
theorem err_one (X : K.In h) (G : h.Ns mainGlobals mg) (b : errB tab K = true) {c : Str} {fs : List Str} (hc : tab.lookup c = some fs) : mg c = some (.ref (He.ga K c)) ∧ ErC K (He.ga K c) (He.ma K (He.ga K c) "__init__") fs := by
  have z := List.all_eq_true.mp b _ (mem_of_look hc)
  rw [Bool.and_eq_true] at z
  exact ⟨He.glo_ok X G z.1, ercB_ok z.2⟩
theorem erT_of (X : K.In h) (G : h.Ns mainGlobals mg) (b : errB tab K = true) : ErT K mg tab := ⟨fun c fs hc => ⟨_, _, err_one X G b hc⟩⟩
theorem erS_of (X : K.In h) (G : h.Ns mainGlobals mg) (b : errB tab K = true) (b2 : subB tab K = true) (T : Str) {ns : List Str} (hT : tab.lookup T = some ns) : ErS K mg (subOf tab T) (.ref (He.ga K T)) := ⟨fun c v e => by
  unfold subOf at e
  split at e
  · rename_i hs
    cases e
    obtain ⟨fs, hf⟩ := Option.isSome_iff_exists.mp hs
    obtain ⟨h1, h2⟩ := err_one X G b hf
    have z := List.all_eq_true.mp (List.all_eq_true.mp b2 _ (mem_of_look hf)) _ (mem_of_look hT)
    exact ⟨_, _, fs, h1, h2, of_decide_eq_true z⟩
  · cases e⟩
theorem erA_of {u : Value} (X : K.In h) (G : h.Ns mainGlobals mg) (b : errB tab K = true) (b2 : supB tab K u = true) : ErS K mg (subAll tab) u := ⟨fun c v e => by
  unfold subAll at e
  split at e
  · rename_i hs
    cases e
    obtain ⟨fs, hf⟩ := Option.isSome_iff_exists.mp hs
    obtain ⟨h1, h2⟩ := err_one X G b hf
    exact ⟨_, _, fs, h1, h2, of_decide_eq_true (List.all_eq_true.mp b2 _ (mem_of_look hf))⟩
  · cases e⟩
end
/-- a class of errors that may be called -/
structure ECl (P : Program) (w : World) (K : PySem.W.Frag) (mg : MG) (base : Heap) (cls : Str) (C f : Addr) (fd : FuncData) (fs : List Str) : Prop where
  gm : mg cls = some (.ref C)
  er : ErC K C f fs
  ok : FnOk P w K mg base CX0 1 f fd ("self" :: fs) (spI C fs)
section
variable {X : Cx} {k n : Nat} {f Cc : Addr} {fd : FuncData} {ks fs : List Str} {cls : Str} {p pos : Pos} {e : Expr} {es : List Expr} {kws : List Keyword} {ps qs : PTA} {pk : List Nat}
theorem pu_er (E : ECl X.prog X.w X.K X.mg X.base cls Cc f fd fs) (hb : IniB X.K fd ("self" :: fs) n [] pk) (hr : Room k X.A) (h : PuA X (e :: es) ps) (hk : 2 ≤ k := by decide) (hg : Gl X cls := by rfl)
    (hdb : (cls == ("__debug__" : Str)) = false := by decide) (he : starEach (e :: es) X.env = (false, eval e X.env) :: starEach es X.env := by rfl) (hpl : (backTo pos (starEach es X.env)).any (·.1) = false := by rfl) :
    PuE X (.Call (.Name cls p) (e :: es) [] pos) (pMkE cls fs pk n 0 ps paNil) := pu_mkE (k := 0) E.er E.gm E.ok hb (hr.mono hk) h hg hdb he hpl
theorem pu_erK {m : Nat} (E : ECl X.prog X.w X.K X.mg X.base cls Cc f fd fs) (hb : IniB X.K fd ("self" :: fs) 0 ks pk) (hr : Room k X.A) (hkw : PuK X kws qs) (hml : ks.length = m := by rfl) (hk : 2 ≤ k := by decide) (hg : Gl X cls := by rfl)
    (hall : (backToKw pos (keywordEach kws X.env)).all (·.1.isSome) = true := by rfl) (hks : (backToKw pos (keywordEach kws X.env)).filterMap (·.1) = ks := by rfl) (hdb : (cls == ("__debug__" : Str)) = false := by decide)
    (hpl : ((backTo pos (starEach [] X.env)).any (·.1) || (backToKw pos (keywordEach kws X.env)).any (·.1.isNone)) = false := by rfl) :
    PuE X (.Call (.Name cls p) [] kws pos) (pMkE cls fs pk 0 m paNil qs) := pu_mkEK (k := 0) E.er E.gm E.ok hb (hr.mono hk) hkw hml hg hall hks hdb hpl
end
/-- __init__ of one field, of two -/
theorem init1 {P : Program} {w : World} {K : PySem.W.Frag} {mg : MG} {base : Heap} {qual : Str} {params : Arguments} {body : List Stmt} {scope : Scope} {C f : Addr} {fd : FuncData} {x : Str} (F : FunD K "__init__" qual params body scope [] [] f fd) (S : FnScope (["self", x] : List Str) (["self", x] : List Str) scope) (T : ErC K C f [x])
    (hb : ∀ X : Cx, X.K = K → X.N = (["self", x] : List Str) → X.env.scope = scope → PSs X body (tOst K x (tVar 0) (tVar 1))) : FnOk P w K mg base CX0 1 f fd ["self", x] (spI C [x]) :=
  FunD.ok F S (fun vs H Q E h => spI_len h) fun cdv A outer s H vs Q E hr h => ⟨_, hb _ rfl rfl rfl, ini1 T.oex (T.no x (by simp)) h⟩
theorem init2 {P : Program} {w : World} {K : PySem.W.Frag} {mg : MG} {base : Heap} {qual : Str} {params : Arguments} {body : List Stmt} {scope : Scope} {C f : Addr} {fd : FuncData} {x z : Str} (F : FunD K "__init__" qual params body scope [] [] f fd) (S : FnScope (["self", x, z] : List Str) (["self", x, z] : List Str) scope) (T : ErC K C f [x, z])
    (hb : ∀ X : Cx, X.K = K → X.N = (["self", x, z] : List Str) → X.env.scope = scope → PSs X body (tSeq (tOst K x (tVar 0) (tVar 1)) (tOst K z (tVar 0) (tVar 2)))) : FnOk P w K mg base CX0 1 f fd ["self", x, z] (spI C [x, z]) :=
  FunD.ok F S (fun vs H Q E h => spI_len h) fun cdv A outer s H vs Q E hr h => ⟨_, hb _ rfl rfl rfl, ini2 T.oex T.no h⟩
/-- a def of which nothing is asked -/
theorem never_ok {P : Program} {w : World} {K : PySem.W.Frag} {mg : MG} {base : Heap} {k : Nat} {f : Addr} {fd : FuncData} {ps : List Str} : FnOk P w K mg base CX0 k f fd ps (spP K mg fun _ _ => False) :=
  ⟨fun vs H Q E h => by
    obtain ⟨_, _, _, _, _, z, _⟩ := h
    exact z.elim, fun A outer s H args us vs Q E hr e0 hb r h => by
    obtain ⟨_, _, _, _, _, z, _⟩ := h
    exact z.elim⟩
end PL
end

section
set_option linter.all false
set_option maxRecDepth 100000
set_option maxHeartbeats 4000000
set_option autoImplicit false
/-! PL16: isqrt; repr of lists, for a law's own def (nothing is being shown when a law is called). -/
namespace PL
open PySem PySem.Spec PyProof.Rows L2
section
variable {X : Cx} {e a : Expr} {pa : PTE} {pos p' : Pos}
/-! ### isqrt -/
theorem cr_isqrt : CallR X (.builtin "math.isqrt") (fun xs H Q => ∃ i : Int, xs = [.int i] ∧ 0 ≤ i ∧ i < 2 ^ 2000 ∧ Q (.int ((Float64.isqrt i.toNat : Nat) : Int)) H) := by
  intro pins s σ H xs us Q I r ⟨i, ex, h0, h1, q⟩
  subst ex
  obtain ⟨u, rfl, t, rfl⟩ := vals1 r
  have hl : i.toNat.log2 < 2000 := by
    by_cases z : i.toNat = 0
    · rw [z]; decide
    · rw [Nat.log2_lt z]
      have e : ((2 ^ 2000 : Nat) : Int) = 2 ^ 2000 := by simp
      omega
  exact call_function_meets PySem.W.MGF.kind_isqrt PySem.W.MGF.plain_isqrt PySem.W.MGF.entry_isqrt (PySem.W.MGF.args_isqrt _) (PySem.W.mg_run_isqrt i t (by omega) (by omega) (by omega)).meets ⟨.int _, H, I.tok _, ⟨_, rfl⟩, q⟩
def isqrtP : PSp := fun ds P => match ds with
  | [.int i] => 0 ≤ i ∧ i < 2 ^ 2000 ∧ ∀ r : Int, 0 ≤ r → r * r ≤ i → i < (r + 1) * (r + 1) → P (.int r)
  | _ => False
theorem isqrtP_i {P : D → Prop} {i : Int} : isqrtP [.int i] P = (0 ≤ i ∧ i < 2 ^ 2000 ∧ ∀ r : Int, 0 ≤ r → r * r ≤ i → i < (r + 1) * (r + 1) → P (.int r)) := rfl
theorem isqrtP_ok : CallOk X (fun xs H Q => ∃ i : Int, xs = [.int i] ∧ 0 ≤ i ∧ i < 2 ^ 2000 ∧ Q (.int ((Float64.isqrt i.toNat : Nat) : Int)) H) isqrtP := by
  intro G H vs ds P Q s rs h k
  unfold isqrtP at h
  split at h
  · rename_i i
    obtain ⟨v, rfl, r⟩ := one_shal rs
    cases r.int
    obtain ⟨h0, h1, h⟩ := h
    have key : P (.int ((Float64.isqrt i.toNat : Nat) : Int)) := by
      obtain ⟨s1, s2⟩ := Float64.isqrt_spec i.toNat
      generalize Float64.isqrt i.toNat = n at *
      refine h n (by omega) ?_ ?_
      · have e : ((n * n : Nat) : Int) = (n : Int) * n := Int.natCast_mul n n
        omega
      · have e : (((n + 1) * (n + 1) : Nat) : Int) = ((n : Int) + 1) * ((n : Int) + 1) := by rw [Int.natCast_mul]; rfl
        omega
    exact ⟨_, rfl, h0, h1, k _ _ G H (.refl s) (.int _) key⟩
  · exact h.elim
theorem pu_isqrt {x : Str} (hm : X.mg x = some (.builtin "math.isqrt")) (h : PuO X a pa) (hg : Gl X x := by rfl) (hdb : (x == ("__debug__" : Str)) = false := by decide) (hs : starEach [a] X.env = (false, eval a X.env) :: starEach [] X.env := by rfl) :
    PuE X (.Call (.Name x p') [a] [] pos) (pCall isqrtP (paCons pa paNil)) := by
  obtain ⟨t, h1, h2⟩ := (puao_cons h puao_nil hs).ex
  refine ⟨_, pe_callBfun cr_isqrt hg hm h1 hdb hs rfl, fun G H env σ P Q ok hp k => h2 G H env σ _ _ ok hp fun ds vs G' H' y rs q => ?_⟩
  exact isqrtP_ok G' H' vs ds P Q y.s rs q fun d u G2 H2 z r2 q2 => k d u G2 H2 (y.trans z) r2 q2

/-! ### repr of flat data -/
def rRep (K : PySem.W.Frag) : List V → Hp → VK → Prop := fun xs H Q => ∃ (a : Addr) (d : PyData), xs = [.ref a] ∧ Dp K H (.ref a) d ∧ d.showable = true ∧ d.hasDict = false ∧ d.depth ≤ 64 ∧ d.shown.length ≤ sizeLine ∧ Q (.str d.shown) H
theorem cr_rep (hg : X.A.guards = some []) (hu : X.A.units + 65 < cLine) : CallR X (.builtin "repr") (rRep X.K) := by
  intro pins s σ H xs us Q I r ⟨a, d, ex, hd, hs, hn, hdp, hz, q⟩
  subst ex
  obtain ⟨u, rfl, ru⟩ := vals1 r
  obtain ⟨as, rd⟩ := Dp.reads I d (.ref a) u hd ru
  obtain rfl : u = Value.ref a := ru
  exact repr_of_reads' rd hs (PyData.noDict_hsm hn) hg (by omega) (fun _ _ e => e) (fun h' w tk hk => ⟨.str _, H, I.kept hk, ⟨_, rfl⟩, q⟩) hz
def reprLP : PSp := fun ds P => match ds with
  | [.lst xs] => flats xs = true ∧ (toPy (.lst xs)).showable = true ∧ (toPy (.lst xs)).hasDict = false ∧ (toPy (.lst xs)).depth ≤ 64 ∧ (toPy (.lst xs)).shown.length ≤ sizeLine ∧ P (.str (toPy (.lst xs)).shown)
  | _ => False
theorem reprLP_l {P : D → Prop} {xs : List D} : reprLP [.lst xs] P = (flats xs = true ∧ (toPy (.lst xs)).showable = true ∧ (toPy (.lst xs)).hasDict = false ∧ (toPy (.lst xs)).depth ≤ 64 ∧ (toPy (.lst xs)).shown.length ≤ sizeLine ∧ P (.str (toPy (.lst xs)).shown)) := rfl
theorem reprLP_ok : CallOk X (rRep X.K) reprLP := by
  intro G H vs ds P Q s rs h k
  unfold reprLP at h
  split at h
  · rename_i xs
    obtain ⟨v, rfl, r⟩ := one_shal rs
    obtain ⟨h1, h2, h3, h4, h5, h6⟩ := h
    have hd := r.dp s (d := .lst xs) h1
    obtain ⟨l, ws, rfl, _, _⟩ := r.lst s
    exact ⟨l, _, rfl, hd, h2, h3, h4, h5, k _ _ G H (.refl s) (.str _) h6⟩
  · exact h.elim
theorem pu_reprL (hg : X.A.guards = some []) {k : Nat} (hr : Room k X.A) (hm : X.mg "repr" = none) (h : PuO X a pa) (hs : starEach [a] X.env = (false, eval a X.env) :: starEach [] X.env := by rfl) (hgl : Gl X "repr" := by rfl) : PuE X (.Call (.Name "repr" p') [a] [] pos) (pCall reprLP (paCons pa paNil)) :=
  pu_bi (cr_rep hg (Room.u65 hr)) reprLP_ok hm (puao_cons h puao_nil hs) hgl (by decide +kernel) (by decide) (by decide) hs rfl
end

/-! ### a def that is called where nothing is being shown -/
structure FnG (P : Program) (w : World) (K : PySem.W.Frag) (mg : MG) (base : Heap) (k : Nat) (f : Addr) (fd : FuncData) (ps : List Str) (sp : Sp) : Prop where
  go : ∀ (A : Around) (outer : List Env) (s : Shared) (H : Hp) (args : Args) (us : List Value) (vs : List V) (Q : VK) (E : XK), Room k A → A.guards = some [] → Env0 P w K mg base A outer s H → BindsTo s fd args (ps.zip us) → Vals vs us → sp vs H Q E →
    codeAny (model P w) A (.call (.ref f) args) (CR CX0 outer P w H s Q E) s
theorem pfnG {P : Program} {w : World} {K : PySem.W.Frag} {mg : MG} {base : Heap} {x : Str} {st : Stmt} {f : Addr} {fd : FuncData} {N ns : List Str} {k : Nat} {sp : PSp} {p : PTS} (F : FnP K x st f fd) (S : FnScope N ns (defScope st)) (hlen : ∀ ds P, sp ds P → ds.length = ns.length)
    (hbody : ∀ (cdv : Value) (A : Around) (outer : List Env) (s : Shared) (H : Hp) (E : XK), Room k (A.deeper (envOfC x (defScope st) s.heap.objs.size f cdv)) → A.guards = some [] →
      PuSs (cxOf CX0 P w K mg base N x (defScope st) f cdv A outer s H E).nox (defBody st) p) (hp : ∀ ds Q, sp ds Q → p { nx := fun _ => Q .non, rt := Q } (startC N ds)) : FnG P w K mg base (k + 1) f fd ns (spP K mg sp) := by
  constructor
  intro A outer s H args us vs Q E hr hgd e0 hb r hsp
  obtain ⟨oc, od, dV, kV, doc, pm, an, cdv, ct, osl, rfl, lk, hcd, _, _⟩ := F.ex
  obtain ⟨G, ds, P', sm, rr, q, kk⟩ := hsp
  have hl : vs.length = ns.length := by rw [rr.length]; exact hlen ds P' q
  have into : ∀ b o, base.get? b = some o → s.heap.get? b = some o := fun b o e => (e0.bs b o e).1
  have KX : K.In s.heap := e0.mod.kin.keeps into
  have params : ∀ y ∈ ns.zip us, (defScope st).names.lookup y.1 = some .local ∨ ((defScope st).names.lookup y.1 = some .cell ∧ ((cellsFrom (s.heap.objs.size + 1) (defScope st).names []).lookup y.1).isSome = true) := by
    rintro ⟨n, v⟩ hy
    rcases S.par n (List.of_mem_zip hy).1 with h | h
    · exact .inl h
    · exact .inr ⟨h, PySem.W.cellsFrom_some _ _ _ (.inl h)⟩
  refine codeAny_call_function hr.depth (KX _ _ lk) rfl S.co S.gen rfl (PySem.W.codeRec_of KX hcd) (hb _ _ _ _ ?_)
  refine wpAny_newFunctionEnv_cells S.kind params fun env he s1 x1 => ?_
  subst he
  refine ⟨(e0.mod.nolimit.keeps into).keeps x1.toInCall.keep, codeAny_func ?_⟩
  obtain ⟨t, t1, t2⟩ := (hbody cdv A outer s H E (hr.deeper _) hgd).ex
  have I := inv_start (CX := CX0) (E := E) S hr.hd e0 hl r x1
  have hq := t2 G H G H _ _ { nx := fun _ => P' .non, rt := P' } { nx := fun _ H' => Q .non H', rt := Q } ⟨start_ok (N := N) sm rr, .refl sm, fun i d l z => by
    intro s1
    exfalso
    unfold startC at z
    by_cases hk : i < ds.length
    · rw [List.getElem?_append_left (by simpa using hk), List.getElem?_map] at z
      cases e : ds[i]? with
      | none => rw [e] at z; cases z
      | some d => rw [e] at z; cases z
    · rw [List.getElem?_append_right (by simpa using hk), List.getElem?_replicate] at z
      split at z <;> cases z⟩
    ⟨fun G' H' env σ r' z => kk .non .non G' H' r'.ext .non z, fun G' H' env σ r' z => z, fun G' H' env σ r' z => z, fun G' H' d v y rp z => kk d v G' H' y rp z, fun _ _ _ _ _ _ _ _ z => z.elim, ⟨_, tk0, fun _ _ _ _ _ _ _ _ _ _ _ _ _ _ _ z => z.elim⟩⟩ (hp ds P' q)
  refine wpAny_mono (t1.nox.run [] s1 (start N vs) H _ I hq) (fun fl s' hs => ?_) fun e s' hs => hs
  cases fl with
  | ret u =>
    obtain ⟨v, σ', H', J, rv, z⟩ := hs
    exact ⟨v, H', J.os, J.bare, J.base, J.hok, rv, z⟩
  | next =>
    obtain ⟨σ', H', J, z⟩ := hs
    exact ⟨V.non, H', J.os, J.bare, J.base, J.hok, rfl, z⟩
  | brk =>
    obtain ⟨_, _, _, z⟩ := hs
    exact z.elim
  | cont =>
    obtain ⟨_, _, _, z⟩ := hs
    exact z.elim
/-- the same of a promise that holds anywhere -/
theorem FnG.of {P : Program} {w : World} {K : PySem.W.Frag} {mg : MG} {base : Heap} {k : Nat} {f : Addr} {fd : FuncData} {ps : List Str} {sp : Sp} (F : FnOk P w K mg base CX0 k f fd ps sp) : FnG P w K mg base k f fd ps sp :=
  ⟨fun A outer s H args us vs Q E hr _ e0 hb r h => F.run A outer s H args us vs Q E hr e0 hb r h⟩
/-- what is tracked of the heap ahead of a law: its script alone, if it is no object of the module -/
def hpOf (K : PySem.W.Frag) (a : Addr) (o : Obj) (ns : List Int) : Hp := fun b => if b = a ∧ K.lookup a = none then some (.frz o (.lst (ns.map V.int))) else none
section
variable {K : PySem.W.Frag} {a : Addr} {o : Obj} {ns : List Int}
theorem hpOf_some {b : Addr} {u : HO} (e : hpOf K a o ns b = some u) : b = a ∧ K.lookup a = none ∧ u = .frz o (.lst (ns.map V.int)) := by
  unfold hpOf at e
  split at e
  · rename_i h
    cases e
    exact ⟨h.1, h.2, rfl⟩
  · cases e
theorem hpOf_only : Only (hpOf K a o ns) := fun b => by
  cases e : hpOf K a o ns b with
  | none => exact .inl rfl
  | some u =>
    obtain ⟨_, _, rfl⟩ := hpOf_some e
    exact .inr ⟨_, _, rfl⟩
end
theorem law_g {P : Program} {w : World} {K : PySem.W.Frag} {mg mb : MG} {k : Nat} {fa a : Addr} {fd : FuncData} {x : Str} {sp : Sp} {s1 : Shared} {vs : List Value} {ns : List Int} (KX : K.In s1.heap) (hns : s1.heap.Ns mainGlobals mg) (hb : s1.heap.Ns builtinsNs mb)
    (hbb : ∀ y : Str, y ≠ "__name__" → mb y = bootBuiltins y) (hlim : s1.heap.NoLimit) (hg : s1.gens = #[]) (ha : s1.heap.get? a = some { cls := .type "list", data := .seq vs.toArray }) (hi : IntsAre vs ns) (hl : ns.length ≤ sizeLine) (hr : Room k callerA)
    (F : ∀ base : Heap, K.In base → base.Ns mainGlobals mg → FnG P w K mg base k fa fd [x] sp) (hbind : ∀ (s : Shared) (u : Value), BindsTo s fd ⟨[u], []⟩ [(x, u)])
    (hsp : ∀ H : Hp, Only H → SqL K H a (ns.map V.int) → sp [.ref a] H (fun v _ => v = .bl true) fun _ _ _ => False) :
    codeAny (model P w) callerA (.call (.ref fa) ⟨[.ref a], []⟩) (fun r s' => r = .ok (.ret (.bool true)) ∧ OldK s1.heap s'.heap ∧ s'.os = s1.os ∧ AllBare s'.gens) s1 := by
  have rv := vals_ints hi
  have lv := hi.length
  -- the objects that are not tracked
  have keepN : ∀ {b : Addr} {u : Obj}, s1.heap.get? b = some u → hpOf K a { cls := .type "list", data := .seq vs.toArray } ns b = none → (hidT s1.heap (hpOf K a { cls := .type "list", data := .seq vs.toArray } ns)).get? b = some u := fun e n => hidT_get e n
  have dictN : ∀ {b : Addr} {u : Obj} {es : Array DictEntry} {ep : Nat}, s1.heap.get? b = some u → u.data = .dict es ep → hpOf K a { cls := .type "list", data := .seq vs.toArray } ns b = none := fun {b u es ep} e d => by
    cases q : hpOf K a { cls := .type "list", data := .seq vs.toArray } ns b with
    | none => rfl
    | some z =>
      obtain ⟨rfl, _, _⟩ := hpOf_some q
      rw [ha] at e
      cases e
      have d' : Data.seq vs.toArray _ = Data.dict es ep := d
      cases d'
  have nsN : ∀ {b : Addr} {m : MG}, s1.heap.Ns b m → (hidT s1.heap (hpOf K a { cls := .type "list", data := .seq vs.toArray } ns)).Ns b m := fun ⟨u, es, ep, e, d, r⟩ => ⟨u, es, ep, keepN e (dictN e d), d, r⟩
  have kN : K.In (hidT s1.heap (hpOf K a { cls := .type "list", data := .seq vs.toArray } ns)) := fun b u e => keepN (KX b u e) (by
    cases q : hpOf K a { cls := .type "list", data := .seq vs.toArray } ns b with
    | none => rfl
    | some z =>
      obtain ⟨rfl, n, _⟩ := hpOf_some q
      rw [n] at e
      cases e)
  have hok : HOk P w (hpOf K a { cls := .type "list", data := .seq vs.toArray } ns) s1.heap := fun b u e => by
    obtain ⟨rfl, _, rfl⟩ := hpOf_some e
    exact ⟨ha, by rw [List.length_map]; exact hl, vs, _, rv, ha⟩
  have hS : SqL K (hpOf K a { cls := .type "list", data := .seq vs.toArray } ns) a (ns.map V.int) := by
    cases hk : K.lookup a with
    | none => exact .inl (.inr ⟨_, if_pos ⟨rfl, hk⟩⟩)
    | some u =>
      have e := KX a u hk
      rw [ha] at e
      cases e
      exact .inr ⟨_, vs.toArray, _, hk, rfl, rfl, rfl, by rw [List.size_toArray, lv]; exact hl, by simpa using rv⟩
  have e0 : Env0 P w K mg (hidT s1.heap (hpOf K a { cls := .type "list", data := .seq vs.toArray } ns)) callerA [] s1 (hpOf K a { cls := .type "list", data := .seq vs.toArray } ns) :=
    ⟨rfl, ⟨kN, nsN hns, ⟨mb, nsN hb, hbb⟩, hlim.elim fun mc h => ⟨mc, nsN h.1, h.2⟩⟩, fun b u e => of_hidT e, Nat.le_of_eq (hidT_size _ _), trivial, fun b hb => absurd (show b ∈ ([] : List Addr) from hb) (by simp), hok, .of_eq hg⟩
  refine codeAny_mono ((F _ kN (nsN hns)).go callerA [] s1 _ ⟨[.ref a], []⟩ [.ref a] [.ref a] _ _ hr rfl e0 (hbind s1 (.ref a)) (.cons rfl .nil) (hsp _ hpOf_only hS)) fun r s' z => ?_
  cases r with
  | error e => exact False.elim z
  | ok fl =>
    cases fl with
    | next => exact False.elim z
    | brk => exact False.elim z
    | cont => exact False.elim z
    | ret u =>
      obtain ⟨v, H', os, bare, un, hok2, rv2, ev⟩ := z
      have ev : v = .bl true := ev
      subst ev
      obtain rfl : u = Value.bool true := rv2
      refine ⟨rfl, OldK.of_keep fun b y e => ?_, os, bare⟩
      cases q : hpOf K a { cls := .type "list", data := .seq vs.toArray } ns b with
      | none => exact un.keep b y e q (fun z => absurd (show b ∈ ([] : List Addr) from z) (by simp)) (by simp)
      | some t =>
        obtain ⟨_, _, rfl⟩ := hpOf_some q
        obtain ⟨e1, _⟩ := hok b _ q
        obtain ⟨e2, _⟩ := hok2 b _ (un.frzs b _ _ q)
        rw [e] at e1
        cases e1
        exact e2
/-- a law's end, its def called where nothing is being shown -/
theorem walk_g {l : PySem.W.OpenLaw} {n k : Nat} {q : Program} {loose : List Str} {XP : MG → Heap → Prop} {YP : World → Heap → Prop} {d : DefRec} {x : Str} (hn : l.most = some n) (hn2 : n ≤ sizeLine) (hdf : d.params.defaults = []) (hr : Room k callerA)
    (F : ∀ (w : World) (mg : MG) (fa : Addr) (h : Heap), YP w h → h.Ns mainGlobals mg → mg d.name = some (.ref fa) → ∃ (K : PySem.W.Frag) (fd : FuncData) (sp : Sp), K.In h ∧ (∀ (s : Shared) (u : Value), BindsTo s fd ⟨[u], []⟩ [(x, u)]) ∧
      (∀ (H : Hp) (a : Addr) (ns : List Int), ns.length ≤ n → Only H → SqL K H a (ns.map V.int) → sp [.ref a] H (fun v _ => v = .bl true) fun _ _ _ => False) ∧ ∀ base : Heap, K.In base → base.Ns mainGlobals mg → FnG l.prog w K mg base k fa fd [x] sp) :
    PySem.W.WalkO q loose XP YP l.row.toRowW d [] (fun f vs => PySem.call f vs) := by
  refine Att.attach_call hn hdf ?_
  intro w s0 s1 mg mb fa o pm cd doc a vs ns G Y ho hd hcd hmg hobj hints hlen hgens
  obtain ⟨K, fd, sp, KX, bnd, hsp, hF⟩ := F w mg fa _ Y G.T.g hmg
  exact law_g KX G.T.g G.T.b G.T.builtins G.T.nolimit hgens hobj hints (Nat.le_trans hlen hn2) hr hF bnd fun H hO hS => hsp H a ns hlen hO hS
end PL
end

section
set_option linter.all false
set_option maxRecDepth 100000
set_option maxHeartbeats 4000000
set_option autoImplicit false
/-! PL17: dict displays, x.extend(new list). -/
namespace PL
open PySem PySem.Spec PyProof.Rows L2
section
variable {X : Cx} {e a b c k v : Expr} {es : List Expr} {ks : List (Option Expr)} {vs : List Expr} {pe pa pb pk pv : PTE} {ps : PTA} {pos p' : Pos}
/-! ### dict displays -/
def pPairs : List (PTE × PTE) → List C → (List (D × D) → Prop) → Prop
  | [], _, P => P []
  | (pk, pv) :: r, env, P => pk env fun x => pv env fun y => pPairs r env fun ps => P ((x, y) :: ps)
def keysP : List (D × D) → Option (List (Key × D))
  | [] => some []
  | (x, y) :: r => (keyOf x).bind fun k => (keysP r).map fun ks => (k, y) :: ks
def mergeD (kvs more : List (Key × D)) : List (Key × D) := more.foldl (fun acc kv => putD acc kv.1 kv.2) kvs
def pDisp (pps : List (PTE × PTE)) : PTE := fun env P => pPairs pps env fun ps => match keysP ps with
  | some kvs => kvs.length ≤ 15 ∧ P (.dk (mergeD [] kvs))
  | none => False
inductive RepPs (K : PySem.W.Frag) (mg : MG) (G : Hp) : List (V × V) → List (D × D) → Prop
  | nil : RepPs K mg G [] []
  | cons {x y : V} {d f : D} {xs : List (V × V)} {ds : List (D × D)} : Rep K mg G x d → Rep K mg G y f → RepPs K mg G xs ds → RepPs K mg G ((x, y) :: xs) ((d, f) :: ds)
theorem RepPs.mono {K : PySem.W.Frag} {mg : MG} {G G' : Hp} (s : Same G G') : ∀ {xs : List (V × V)} {ds : List (D × D)}, RepPs K mg G xs ds → RepPs K mg G' xs ds
  | _, _, .nil => .nil
  | _, _, .cons a b t => .cons (a.mono s) (b.mono s) (RepPs.mono s t)
theorem RepPs.keys {K : PySem.W.Frag} {mg : MG} {G : Hp} : ∀ {xs : List (V × V)} {ds : List (D × D)} {kvs : List (Key × D)}, RepPs K mg G xs ds → keysP ds = some kvs →
    ∃ us : List (Key × V), xs = us.map (fun kv => (kV kv.1, kv.2)) ∧ us.length = kvs.length ∧ Rel2 (Rep K mg G) us kvs
  | _, _, _, .nil, h => by cases h; exact ⟨[], rfl, rfl, .nil⟩
  | _, _, kvs, .cons (d := d) (f := f) (ds := ds) a b t, h => by
    unfold keysP at h
    cases e : keyOf d with
    | none => rw [e] at h; cases h
    | some k =>
      rw [e] at h
      cases e2 : keysP ds with
      | none => rw [e2] at h; cases h
      | some ms =>
        rw [e2] at h
        cases h
        obtain ⟨us, rfl, l, r⟩ := RepPs.keys t e2
        have ek := a.key e
        subst ek
        exact ⟨(k, _) :: us, rfl, by simp [l], .cons b r⟩
theorem Rel2.merge {R : V → D → Prop} : ∀ {more : List (Key × V)} {ms : List (Key × D)} {kvs : List (Key × V)} {ds : List (Key × D)}, Rel2 R more ms → Rel2 R kvs ds → Rel2 R (mergeK kvs more) (mergeD ds ms)
  | _, _, _, _, .nil, h => h
  | _, _, _, _, .cons (k := k) r t, h => by
    have q := Rel2.merge t (Rel2.put (k := k) r h)
    exact q
/-- the pairs of a display -/
structure PuPs (X : Cx) (pos : Pos) (ks : List (Option Expr)) (vs : List Expr) (pps : List (PTE × PTE)) : Prop where
  ex : ∃ trs : List (TE × TE), PPs X pos ks vs trs ∧ ∀ (G H : Hp) (env : List C) (σ : L2.St) (P : List (D × D) → Prop) (Q : List (V × V) → Hp → Prop), Ok X.K X.mg G H env σ → pPairs pps env P →
    (∀ ds xs G' H', Ext G H G' H' → RepPs X.K X.mg G' xs ds → P ds → Q xs H') → tPairs trs σ H Q
theorem pups_nil : PuPs X pos [] [] [] := ⟨[], pps_nil, fun G H env σ P Q ok hp k => k _ _ G H (.refl ok.same) .nil hp⟩
theorem pups_cons {pps : List (PTE × PTE)} (hk : PuE X k pk) (hv : PuE X v pv) (hr : PuPs X pos ks vs pps) : PuPs X pos (some k :: ks) (v :: vs) ((pk, pv) :: pps) := by
  obtain ⟨t, a1, a2⟩ := hk.ex
  obtain ⟨u, b1, b2⟩ := hv.ex
  obtain ⟨w, c1, c2⟩ := hr.ex
  refine ⟨(t, u) :: w, pps_cons a1 b1 c1, fun G H env σ P Q ok hp kk => ?_⟩
  refine a2 G H env σ _ _ ok hp fun x xv G1 H1 e1 r1 q1 => ?_
  refine b2 G1 H1 env σ _ _ (ok.ext e1) q1 fun y yv G2 H2 e2 r2 q2 => ?_
  refine c2 G2 H2 env σ _ _ ((ok.ext e1).ext e2) q2 fun ds xs G3 H3 e3 r3 q3 => ?_
  exact kk _ _ G3 H3 ((e1.trans e2).trans e3) (.cons (r1.mono (e2.g.trans e3.g)) (r2.mono e3.g) r3) q3
theorem puf_disp {pps : List (PTE × PTE)} (h : PuPs X pos ks vs pps) (hall : ks.all (·.isSome) = true := by rfl) (hl : ks.length = vs.length := by rfl) (h0 : ks ≠ [] := by exact fun q => by cases q) (h15 : ks.length ≤ 15 := by decide) :
    PuF X (.Dict ks vs pos) (pDisp pps) := by
  obtain ⟨t, a1, a2⟩ := h.ex
  refine ⟨_, pe_disp a1 hall hl h0 h15, fun G H env σ P Q ok hp k p hn => ?_⟩
  refine a2 G _ env σ _ _ (ok.ext (Ext.newH ok.same hn)) hp fun ds xs G' H' x r q => ?_
  refine ⟨x.h _ _ upd_same, ?_⟩
  split at q
  · rename_i kvs ek
    obtain ⟨us, rfl, l, rr⟩ := r.keys ek
    have nG : G' p = none := by
      by_cases z : G' p = none
      · exact z
      · have := x.f p (ok.same.free hn) z
        rw [upd_same] at this
        cases this
    have y := (Ext.newH (o := .dK []) ok.same hn).trans x
    refine ⟨us, rfl, by rw [l]; exact q.1, k _ p G' _ ⟨y.g, fun b u e => ?_, fun b u e => ?_, y.f⟩ (.dk upd_same (RepKV.of (Rel2.merge rr .nil))) nG hn q.2⟩
    · rw [upd_ne (ne_of_none e hn)]; exact y.h _ _ e
    · rw [upd_ne (ne_of_none e nG)]; exact y.s _ _ e
  · exact q.elim

/-! ### x.extend(a new list) -/
def pExt (i : Nat) (pe : PTE) : PTS := fun PD env => match env[i]? with
  | some (.ow (.lst ds)) => pe env fun d => match d with
    | .lst es => ds.length + es.length ≤ sizeLine ∧ PD.nx (env.set i (.ow (.lst (ds ++ es))))
    | _ => False
  | _ => False
theorem pus_extend (i : Nat) {x : Str} {apos npos p1 : Pos} (he : PuF X e pe)
    (hs : ∀ t, PE X e t → PS X (.Expr (.Call (.Attribute (.Name x npos) "extend" apos) [e] [] p1) pos) (tDrop (tBM X.K "list" rExtend (tVar i) (tCons t tNil))) := by exact fun t h => ps_expr (pe_bm PySem.F.plainAttrs_list PySem.F.slot_list_extend PySem.F.type_list_extend mt_extend (L2.pv _) (pa_cons h pa_nil))) :
    PuS X (.Expr (.Call (.Attribute (.Name x npos) "extend" apos) [e] [] p1) pos) (pExt i pe) := by
  obtain ⟨t, h1, h2⟩ := he.ex
  refine ⟨_, hs t h1, fun G0 H0 G H env σ PD E r ok hp => ?_⟩
  unfold pExt at hp
  split at hp
  · rename_i ds hi
    obtain ⟨l, hl, tp, n⟩ := r.ok.slot i _ hi
    cases tp with
    | lst hH rs =>
      refine ⟨.ref l, hl, .inl ⟨rfl, _, SqL.of hH⟩, h2 G H env σ _ _ r.ok hp fun d b G' H' x tb nb _ z => ?_⟩
      split at z
      · cases tb with
        | lst hB rb =>
          have r' := r.step x
          obtain ⟨l', hl', tp', n'⟩ := r'.ok.slot i _ hi
          rw [hl] at hl'
          cases hl'
          cases tp' with
          | lst hH' rs' =>
            refine ⟨l, b, _, _, rfl, rfl, hH', hB, by rw [rs'.length, rb.length]; exact z.1, ?_⟩
            exact ok.nx G' _ _ σ (r'.write hi hl n' (.lst upd_same (rs'.append rb))) z.2
      · exact z.elim
  · exact hp.elim
end
end PL
end

section
set_option linter.all false
set_option maxRecDepth 100000
set_option maxHeartbeats 4000000
set_option autoImplicit false
/-! PL18: instances of own classes: fields read, fields set in __init__, the class called. -/
namespace PL
open PySem PySem.Spec PyProof.Rows L2
abbrev OTab := List (Str × List Str)
/-- what is known of the own classes and their fields -/
structure ObT (K : PySem.W.Frag) (mg : MG) (tab : OTab) : Prop where
  ex : ∀ c ns C, tab.lookup c = some ns → mg c = some (.ref C) → Cls K C ∧ ∀ f ∈ ns, NoAttr K C f
def fldOk (tab : OTab) (c f : Str) : Bool := (match tab.lookup c with
  | some ns => ns.contains f
  | none => false) && !(f == ("@" : Str))
theorem fldOk_ok {K : PySem.W.Frag} {mg : MG} {tab : OTab} {c f : Str} {C : Addr} (T : ObT K mg tab) (h : fldOk tab c f = true) (hm : mg c = some (.ref C)) : Cls K C ∧ NoAttr K C f ∧ ¬ f = ("@" : Str) := by
  unfold fldOk at h
  rw [Bool.and_eq_true] at h
  obtain ⟨h1, h2⟩ := h
  split at h1
  · rename_i ns hns
    obtain ⟨a, b⟩ := T.ex c ns C hns hm
    refine ⟨a, b f (List.contains_iff_mem.mp h1), fun e => ?_⟩
    subst e
    simp at h2
  · cases h1
/-- a field of an object -/
def fldP (tab : OTab) (f : Str) (P : D → Prop) : D → Prop
  | .obj cls fs => fldOk tab cls f = true ∧ ∃ v, fs.lookup f = some v ∧ P v
  | _ => False
def pFld (tab : OTab) (f : Str) (pe : PTE) : PTE := fun env P => pe env (fldP tab f P)
theorem fldP_eq {tab : OTab} {f cls : Str} {fs : List (Str × D)} {v : D} {P : D → Prop} (h1 : fldOk tab cls f = true) (h2 : fs.lookup f = some v) : fldP tab f P (.obj cls fs) = P v := by
  refine propext ⟨fun ⟨_, w, e, q⟩ => ?_, fun q => ⟨h1, v, h2, q⟩⟩
  rw [h2] at e; cases e; exact q
section
variable {X : Cx} {e a b c : Expr} {es : List Expr} {pe pa pb : PTE} {ps : PTA} {pos p' : Pos} {tab : OTab}
theorem pu_fld {f : Str} (T : ObT X.K X.mg tab) (he : PuO X e pe) (hb : attributeBase e f X.env (eval e X.env) = eval e X.env := by rfl) : PuE X (.Attribute e f pos) (pFld tab f pe) := by
  obtain ⟨t, h1, h2⟩ := he.ex
  refine ⟨_, pe_fld h1 hb, fun G H env σ P Q ok hp k => h2 G H env σ _ _ ok hp fun d v G' H' y r q => ?_⟩
  cases d with
  | obj cls fs =>
    obtain ⟨h3, w, hl, q⟩ := q
    obtain ⟨a, C, dx, vs, ds', rfl, ha, hm, rf, hd⟩ := r.obj y.s
    obtain ⟨t1, t2, t3⟩ := fldOk_ok T h3 hm
    have hl' : ds'.lookup f = some w := by
      rcases hd with rfl | rfl
      · exact hl
      · rw [lookD_put, if_neg t3] at hl; exact hl
    obtain ⟨v', l', r'⟩ := rf.look hl'
    exact ⟨a, C, dx, vs, v', rfl, ha, t1, t2, l', k w v' G' H' y r' q⟩
  | _ => exact q.elim

/-! ### self.f = e -/
def putFD (f : Str) (d : D) : List (Str × D) → List (Str × D)
  | [] => [(f, d)]
  | (g, x) :: r => if g = f then (g, d) :: r else (g, x) :: putFD f d r
theorem RepF.put {K : PySem.W.Frag} {mg : MG} {G : Hp} {f : Str} {v : V} {d : D} (r : Rep K mg G v d) : ∀ {vs : List (Str × V)} {ds : List (Str × D)}, RepF K mg G vs ds → RepF K mg G (putF f v vs) (putFD f d ds)
  | _, _, .nil => .cons r .nil
  | _, _, .cons (k := g) a t => by
    unfold putF putFD
    by_cases h : g = f
    · rw [if_pos h, if_pos h]; exact .cons r t
    · rw [if_neg h, if_neg h]; exact .cons a (RepF.put r t)
theorem RepF.len {K : PySem.W.Frag} {mg : MG} {G : Hp} : ∀ {vs : List (Str × V)} {ds : List (Str × D)}, RepF K mg G vs ds → vs.length = ds.length
  | _, _, .nil => rfl
  | _, _, .cons _ t => congrArg (· + 1) (RepF.len t)
def slfD (l : Nat) (cls : Str) (fs : List (Str × D)) : D := .obj cls (("@", .int (l : Nat)) :: fs)
def setF (tab : OTab) (i : Nat) (f : Str) (d : D) (PD : PEnds) (env : List C) : D → Prop
  | .obj cls (p :: fs) => fldOk tab cls f = true ∧ fs.length < 1000 ∧ PD.nx (env.set i (.ow (.obj cls (p :: putFD f d fs))))
  | _ => False
def pFldS (tab : OTab) (i : Nat) (f : Str) (pe : PTE) : PTS := fun PD env => pe env fun d => match env[i]? with
  | some (.ow o) => setF tab i f d PD env o
  | _ => False
theorem pus_fldS (i : Nat) {x f : Str} {p2 p3 : Pos} (T : ObT X.K X.mg tab) (hv : PE X (.Name x p2) (tVar i)) (he : PuE X e pe) (hs : swapsWith e (some (.Attribute (.Name x p2) f p3)) pos.line X.env = pure false := by rfl) :
    PuS X (.Assign [.Attribute (.Name x p2) f p3] e pos) (pFldS tab i f pe) := by
  obtain ⟨t, h1, h2⟩ := he.ex
  refine ⟨_, ps_fld hv h1 hs, fun G0 H0 G H env σ PD E r ok hp => ?_⟩
  refine h2 G H env σ _ _ r.ok hp fun d v G1 H1 x1 rv z => ?_
  split at z
  · rename_i o hi
    have r' := r.step x1
    obtain ⟨l, hl, tp, n⟩ := r'.ok.slot i _ hi
    refine ⟨.ref l, hl, ?_⟩
    cases tp with
    | slf ea hm rf =>
      obtain ⟨z1, z2, z3⟩ := z
      obtain ⟨t1, t2, t3⟩ := fldOk_ok T z1 hm
      refine ⟨l, _, _, _, rfl, ea, t1, t2, by rw [rf.len]; exact z2, ?_⟩
      exact ok.nx G1 _ _ σ (r'.write hi hl n (.slf upd_same hm (rf.put rv))) z3
    | lst _ _ => exact z.elim
    | dk _ _ => exact z.elim
    | dt _ _ => exact z.elim
  · exact z.elim

/-! ### __init__ -/
def spN (K : PySem.W.Frag) (mg : MG) (cls : Str) (Cc : Addr) (f : PSp) : Sp := fun vs H Q _ => ∃ (x dx : Addr) (us : List V) (G H1 : Hp) (ds : List D) (P : D → Prop), vs = .ref x :: us ∧ H1 x = none ∧ H1 dx = none ∧ dx ≠ x ∧
  H = upd (upd H1 dx (.own x)) x (.ins Cc dx []) ∧ Same G H1 ∧ Reps K mg G us ds ∧ f ds P ∧
  ∀ (fs : List (Str × D)) (ws : List (Str × V)) (d2 : Addr) (G' H' : Hp), Ext G H1 G' H' → G' x = none → H' x = some (.ins Cc d2 ws) → RepF K mg G' ws fs → P (.obj cls fs) → Q .non H'
def startN (N : List Str) (x : Nat) (cls : Str) (ds : List D) : List C := (startC N (.non :: ds)).set 0 (.ow (slfD x cls []))
theorem startC_fz {N : List Str} {ds : List D} {i : Nat} {d : D} (q : (startC N ds)[i]? = some (.ow d)) : False := by
  unfold startC at q
  by_cases hk : i < ds.length
  · rw [List.getElem?_append_left (by simpa using hk), List.getElem?_map] at q
    cases e : ds[i]? with
    | none => rw [e] at q; cases q
    | some d => rw [e] at q; cases q
  · rw [List.getElem?_append_right (by simpa using hk), List.getElem?_replicate] at q
    split at q <;> cases q
theorem pfnN {P : Program} {w : World} {K : PySem.W.Frag} {mg : MG} {base : Heap} {qual cls : Str} {st : Stmt} {f Cc : Addr} {fd : FuncData} {N ns : List Str} {k : Nat} {sp : PSp} {p : PTS} (F : FunD K "__init__" qual (defArgs st) (defBody st) (defScope st) [] [] f fd)
    (S : FnScope N ("self" :: ns) (defScope st)) (hm : mg cls = some (.ref Cc)) (hlen : ∀ ds P, sp ds P → ds.length = ns.length)
    (hbody : ∀ (cdv : Value) (A : Around) (outer : List Env) (s : Shared) (H : Hp) (E : XK), Room k (A.deeper (envOfC qual (defScope st) s.heap.objs.size f cdv)) →
      PuSs (cxOf CX0 P w K mg base N qual (defScope st) f cdv A outer s H E).nox (defBody st) p)
    (hp : ∀ x ds Q, sp ds Q → p { nx := fun e => ∃ fs, e[0]? = some (.ow (slfD x cls fs)) ∧ Q (.obj cls fs), rt := fun _ => False } (startN N x cls ds)) : FnOk P w K mg base CX0 (k + 1) f fd ("self" :: ns) (spN K mg cls Cc sp) := by
  refine FunD.ok F S (fun vs H Q E h => ?_) (fun cdv A outer s H vs Q E hr h => ?_)
  · obtain ⟨x, dx, us, G, H1, ds, P', rfl, _, _, _, _, _, r, q, _⟩ := h
    rw [List.length_cons, List.length_cons, r.length, hlen ds P' q]
  · obtain ⟨x, dx, us, G, H1, ds, P', rfl, nx, nd, ne, rfl, sm, r, q, kk⟩ := h
    obtain ⟨t, t1, t2⟩ := (hbody cdv A outer s (upd (upd H1 dx (.own x)) x (.ins Cc dx [])) E hr).ex
    have s1 : Same H1 (upd H1 dx (.own x)) := Same.upd nd
    have nx1 : (upd H1 dx (.own x)) x = none := by rw [upd_ne (Ne.symm ne)]; exact nx
    have s2 : Same H1 (upd (upd H1 dx (.own x)) x (.ins Cc dx [])) := s1.trans (Same.upd nx1)
    have smH := sm.trans s2
    have nG : G x = none := sm.free nx
    have st0 := start_ok (N := N) smH (Reps.cons Rep.non r)
    have r0 : Rel K mg G H1 G (upd (upd H1 dx (.own x)) x (.ins Cc dx [])) (startC N (.non :: ds)) (L2.start N (.non :: us)) :=
      ⟨st0, ⟨Same.refl _, s2, smH, fun a e z => absurd e z⟩, fun i d l q => (startC_fz q).elim⟩
    have r1 := r0.setOw (i := 0) (l := x) (d := slfD x cls []) (.slf upd_same hm .nil) nG nx fun j e q => (startC_fz q).elim
    refine ⟨t, t1.nox, t2 G H1 G _ _ _ { nx := fun e => ∃ fs, e[0]? = some (.ow (slfD x cls fs)) ∧ P' (.obj cls fs), rt := fun _ => False } _ r1 ⟨?_, fun _ _ _ _ _ z => z.elim, fun _ _ _ _ _ z => z.elim, fun _ _ _ _ _ _ z => z.elim, fun _ _ _ _ _ _ _ _ z => z.elim, ⟨_, tk0, fun _ _ _ _ _ _ _ _ _ _ _ _ _ _ _ z => z.elim⟩⟩ (hp x ds P' q)⟩
    intro G' H' env σ r' z
    obtain ⟨fs, z1, z2⟩ := z
    obtain ⟨l, hl, tp, n⟩ := r'.ok.slot 0 _ z1
    unfold slfD at tp
    generalize hD : D.obj cls (("@", .int (x : Nat)) :: fs) = dd at tp
    cases tp with
    | slf ea em rf =>
      injection hD with h1 h2
      injection h2 with h3 h4
      injection h3 with _ h5
      injection h5 with h6
      have h6 : x = l := Int.ofNat.inj h6
      subst h1 h4 h6
      have em' : mg cls = some (.ref _) := em
      rw [hm] at em'
      cases em'
      exact kk fs _ _ G' H' r'.ext n ea rf z2
    | lst _ _ => cases hD
    | dk _ _ => cases hD
    | dt _ _ => cases hD

/-- a class that may be called -/
structure OCl (P : Program) (w : World) (K : PySem.W.Frag) (mg : MG) (base : Heap) (cls : Str) (ns : List Str) (k : Nat) (Cc f : Addr) (fd : FuncData) (sp : PSp) : Prop where
  gm : mg cls = some (.ref Cc)
  mkr : Mk K Cc f
  ok : FnOk P w K mg base CX0 k f fd ("self" :: ns) (spN K mg cls Cc sp)
  b : Binds K fd ("self" :: ns) []
theorem Ext.born {G H G1 H1 G2 H2 : Hp} {x : Addr} {o : HO} (e1 : Ext G H G1 H1) (e2 : Ext G1 H1 G2 H2) (nx : H1 x = none) (nG : G2 x = none) (hx : H2 x = some o) : Ext G H (upd G2 x o) H2 := by
  refine e1.trans ⟨e2.g.trans (Same.upd nG), e2.h, fun b u q => ?_, fun a e n => ?_⟩
  · by_cases hb : b = x
    · subst hb; rw [upd_same] at q; cases q; exact hx
    · rw [upd_ne hb] at q; exact e2.s _ _ q
  · by_cases ha : a = x
    · subst ha; exact nx
    · rw [upd_ne ha] at n; exact e2.f a e n
theorem pu_mk {cls : Str} {ns : List Str} {k k' : Nat} {Cc f : Addr} {fd : FuncData} {sp : PSp} (E : OCl X.prog X.w X.K X.mg X.base cls ns k Cc f fd sp) (hr : Room k' X.A) (h : PuA X (e :: es) ps) (hk : k + 1 ≤ k' := by decide) (hg : Gl X cls := by rfl)
    (hdb : (cls == ("__debug__" : Str)) = false := by decide) (he : starEach (e :: es) X.env = (false, eval e X.env) :: starEach es X.env := by rfl) (hpl : (backTo pos (starEach es X.env)).any (·.1) = false := by rfl) :
    PuE X (.Call (.Name cls p') (e :: es) [] pos) (pCall sp ps) := by
  obtain ⟨t, h1, h2⟩ := h.ex
  refine ⟨_, pe_make E.mkr E.ok (hr.mono hk) hg E.gm E.b (dvs := []) .nil pass0 h1 hdb he hpl, fun G H env σ P Q ok hp kk => h2 G H env σ _ _ ok hp fun ds vs G' H' y r q => ?_⟩
  intro x dx nx nd ne
  rw [List.append_nil]
  refine ⟨x, dx, vs, G', H', ds, P, rfl, nx, nd, ne, rfl, y.s, r, q, fun fs ws d2 G2 H2 z nG hx rf q2 => ⟨rfl, ?_⟩⟩
  exact kk (.obj cls fs) (.ref x) _ H2 (y.born z nx nG hx) (.obj upd_same E.gm (rf.mono (Same.upd nG))) q2
end
/-! ### what a program's head gives of its classes -/
def objB (tab : OTab) (K : PySem.W.Frag) : Bool := tab.all fun p => (He.Fa.glo p.1).ok K && ((He.Fa.cls p.1).ok K && ((He.Fa.mkr p.1).ok K && p.2.all fun f => (He.Fa.noat p.1 f).ok K))
section
variable {tab : OTab} {K : PySem.W.Frag} {h : Heap} {mg : MG}
theorem obj_one (X : K.In h) (G : h.Ns mainGlobals mg) (b : objB tab K = true) {c : Str} {ns : List Str} (hc : tab.lookup c = some ns) : mg c = some (.ref (He.ga K c)) ∧ Cls K (He.ga K c) ∧ Mk K (He.ga K c) (He.ma K (He.ga K c) "__init__") ∧ ∀ f ∈ ns, NoAttr K (He.ga K c) f := by
  have z := List.all_eq_true.mp b _ (mem_of_look hc)
  rw [Bool.and_eq_true, Bool.and_eq_true, Bool.and_eq_true] at z
  exact ⟨He.glo_ok X G z.1, He.cls_ok z.2.1, He.mkr_ok z.2.2.1, fun f hf => He.noat_ok (List.all_eq_true.mp z.2.2.2 f hf)⟩
theorem obT_of (X : K.In h) (G : h.Ns mainGlobals mg) (b : objB tab K = true) : ObT K mg tab := ⟨fun c ns C hc hm => by
  obtain ⟨h1, h2, _, h4⟩ := obj_one X G b hc
  rw [h1] at hm
  cases hm
  exact ⟨h2, h4⟩⟩
end
end PL
end

section
set_option linter.all false
set_option maxRecDepth 100000
set_option maxHeartbeats 4000000
set_option autoImplicit false
/-! PL19: enumerate, isinstance of several types, is True. -/
namespace PySem
open Sem (wp)
open AutoSeq1 (wpAny_loadPart')
set_option maxHeartbeats 1000000 in
theorem meets_enumerate_newT (l : Addr) (items : Array Value) :
    Meets (Builtin.«enumerate.__new__» ⟨[.type "enumerate", .ref l], []⟩) (fun _ R s => s.heap.IsTuple l items ∧
      R (.ok (.ret (.ref (s.heap.push { cls := .type "tuple_iterator", data := .fields #[.ref l, .int 0 0] }).objs.size)))
        { s with heap := (s.heap.push { cls := .type "tuple_iterator", data := .fields #[.ref l, .int 0 0] }).push { cls := .type "enumerate", data := .fields #[.none, .bool false, .ref s.heap.objs.size, rawInt 0, .none, .none] } }) :=
  .of_wp fun prog w A R s h => by
    obtain ⟨hp, g, d, tk, os⟩ := s; obtain ⟨h1, h⟩ := h
    have hsub := sub_enumerate
    have q1 : ∀ {A' : Around} {E : Value → Shared → Prop} {Q : Value → Shared → Prop}, Q (.ref hp.objs.size) ⟨hp.push { cls := .type "tuple_iterator", data := .fields #[.ref l, .int 0 0] }, g, d, tk, os⟩ → wpAny (model prog w) A' (pyIter (.ref l)) Q E ⟨hp, g, d, tk, os⟩ :=
      fun q => (begins_tuple l items).iter prog w _ _ ⟨hp, g, d, tk, os⟩ _ h1 q
    wp_walk using q1
    refine wpAny_stack_any fun st => wpAny_pure ?_
    split
    · rename_i c _ _ _ _ _
      cases (c == Value.type "enumerate")
      · wp_walk using q1
        exact ⟨_, rfl, h⟩
      · wp_walk using q1
        exact ⟨_, rfl, h⟩
    · wp_walk using q1
      exact ⟨_, rfl, h⟩
theorem call_enumerate_tuple {prog : Program} {w : World} {A : Around} {E : Value → Shared → Prop} {s : Shared} {l : Addr} {items : Array Value} {Q : Value → Shared → Prop} (hL : s.heap.IsTuple l items)
    (h : ∀ h', IsEnum h' (s.heap.objs.size + 1) s.heap.objs.size 0 .none → h'.IsTupleIter s.heap.objs.size l 0 → h'.objs.size = s.heap.objs.size + 2 →
      (∀ b o, s.heap.get? b = some o → h'.get? b = some o) → Q (.ref (s.heap.objs.size + 1)) { s with heap := h' }) :
    wpAny (model prog w) A (call (.type "enumerate") [.ref l]) Q E s := by
  refine callType_new F.called_enumerate (by decide) (F.typeCall_enumerate_1 _) (F.newCall_enumerate_1 _) (fun obj => F.args_object_init_2 obj _) F.entry_enumerate_new
    (meets_enumerate_newT l items) ⟨hL, ?_⟩
  have hz : (s.heap.push { cls := .type "tuple_iterator", data := .fields #[.ref l, .int 0 0] }).objs.size = s.heap.objs.size + 1 := Heap.size_push ..
  show _ ∧ _
  rw [hz]
  have he : IsEnum ((s.heap.push { cls := .type "tuple_iterator", data := .fields #[.ref l, .int 0 0] }).push
      { cls := .type "enumerate", data := .fields #[.none, .bool false, .ref s.heap.objs.size, rawInt 0, .none, .none] }) (s.heap.objs.size + 1) s.heap.objs.size 0 .none := by
    have := Heap.get?_push_size (s.heap.push { cls := .type "tuple_iterator", data := .fields #[.ref l, .int 0 0] })
      (o := { cls := .type "enumerate", data := .fields #[.none, .bool false, .ref s.heap.objs.size, rawInt 0, .none, .none] }) rfl
    rw [hz] at this; exact this
  refine ⟨⟨_, he, rfl⟩, h _ he ⟨_, Heap.get?_push_of_some _ (Heap.get?_push_size _ rfl), rfl, rfl⟩ (by rw [Heap.size_push, hz]) fun b o x => Heap.get?_push_of_some _ (Heap.get?_push_of_some _ x)⟩
end PySem
namespace PL
open PySem PySem.Spec PyProof.Rows L2
/-! ### enumerate(tuple), enumerate(text) -/
def IteT (K : PySem.W.Frag) (a : Addr) : It :=
  ⟨fun i H => ∃ (xs : List V) (x : V), SqT K H a xs ∧ xs[i]? = some x, fun i H v H' => ∃ T x, v = .ref T ∧ H T = none ∧ H' = upd H T (.tup [.int (i : Nat), x]) ∧ ∀ xs, SqT K H a xs → xs[i]? = some x, fun i H => ∃ xs : List V, SqT K H a xs ∧ xs.length = i⟩
def IteS (x : Str) : It :=
  ⟨fun i H => i < x.cps.size, fun i H v H' => ∃ T c, v = .ref T ∧ H T = none ∧ H' = upd H T (.tup [.int (i : Nat), .str ⟨#[c]⟩]) ∧ x.cps[i]? = some c, fun i H => x.cps.size = i⟩
/-- the common part of a turn: the new pair, the record let go -/
theorem enum_pair {X : Cx} {pins : List (Addr × Obj)} {σ : L2.St} {H : Hp} {s : Shared} {E : Value → Shared → Prop} {elts : List Expr} {kk : Nat} {tpos : Pos} {e it : Addr} {i : Nat} {u : Value} {v : V} {tk : Nat} {h' : Heap} {R : Heap → Prop}
    (I : Inv X pins σ H s) (hf : ∀ b ∈ [e, it], FpOk X pins H b) (hel : e < s.heap.objs.size) (hil : it < s.heap.objs.size) (hne : e ≠ it) (ru : RelV v u) (ho : IsEnumOut h' e it ((i : Int) + 1) u s.heap.objs.size)
    (hT : h'.get? s.heap.objs.size = some { cls := .type "tuple", data := .seq #[.int i tk, u] }) (hk : ∀ b o, b ≠ e → b ≠ it → s.heap.get? b = some o → h'.get? b = some o) (hR : ∀ h'', Heap.SameBut e h' h'' → R h'') :
    wpAny (model X.prog X.w) X.A (letOwnedTupleGo (.Tuple elts kk tpos) (.ref e) (.ref s.heap.objs.size)) (fun _ s2 => Inv X pins σ (upd H s.heap.objs.size (.tup [.int (i : Nat), v])) s2 ∧ H s.heap.objs.size = none ∧ IsEnum s2.heap e it ((i : Int) + 1) u ∧ R s2.heap ∧ ∀ b ∈ [e, it], (upd H s.heap.objs.size (.tup [.int (i : Nat), v])) b = none) E { s with heap := h', toks := tk + 1 } := by
  refine wpAny_letOwnedTupleGo_enum (s := { s with heap := h', toks := tk + 1 }) ho fun h'' he' sb => ?_
  have hT2 : h''.get? s.heap.objs.size = some { cls := .type "tuple", data := .seq #[.int i tk, u] } := (sb.2 _ (Nat.ne_of_gt hel)).trans hT
  have new : ObjOk X.prog X.w (upd H s.heap.objs.size (.tup [.int (i : Nat), v])) h'' s.heap.objs.size (.tup [.int (i : Nat), v]) :=
    ⟨by show 2 ≤ sizeLine; decide, [.int i tk, u], .cons ⟨_, rfl⟩ (.cons ru .nil), ⟨_, hT2, rfl, _, rfl⟩⟩
  have I1 : Inv X pins σ (upd H s.heap.objs.size (.tup [.int (i : Nat), v])) { s with heap := h'', toks := tk + 1 } :=
    I.turnedNew (ch := [e, it]) (fun b ob hb q => (sb.2 b (fun z => hb (by simp [z]))).trans (hk b ob (fun z => hb (by simp [z])) (fun z => hb (by simp [z])) q)) hf (Nat.le_refl _) new
  refine ⟨I1, I.hok.fresh (Nat.le_refl _), he', hR h'' sb, fun b hb => ?_⟩
  have hb' : b < s.heap.objs.size := by
    have e' : b = e ∨ b = it := by simpa using hb
    rcases e' with z | z
    · rw [z]; exact hel
    · rw [z]; exact hil
  rw [upd_ne (Nat.ne_of_lt hb')]
  exact (hf b hb).1
theorem turn_enumT {P : Program} {w : World} {K : PySem.W.Frag} {elts : List Expr} {kk : Nat} {tpos : Pos} (a e it : Addr) :
    Turn P w K (.Tuple elts kk tpos) (IteT K a) [e, it] e (fun i h => (∃ old, IsEnum h e it ((i : Nat) : Int) old) ∧ h.IsTupleIter it a i ∧ e ≠ it ∧ a ≠ it ∧ a ≠ e) where
  mem := by simp
  obj := fun i h st b hb => by
    obtain ⟨⟨old, he⟩, ⟨o, ho, hc, hd⟩, _⟩ := st
    have e' : b = e ∨ b = it := by simpa using hb
    rcases e' with z | z
    · rw [z]; exact ⟨_, he, fun v q => nomatch q⟩
    · rw [z]; exact ⟨o, ho, fun v q => by rw [hd] at q; cases q⟩
  keep := fun i h h' st k => let ⟨⟨old, he⟩, hi, hne⟩ := st; ⟨⟨old, k e (by simp) _ he⟩, hi.at fun o q => k it (by simp) o q, hne⟩
  item := by
    intro X hP hw hK hc i pins s σ H E I hf st hg
    subst hP hw hK
    obtain ⟨⟨old, he⟩, hit, hne, hn2, hn3⟩ := st
    obtain ⟨xs, x, hq, hx⟩ := hg
    obtain ⟨its, rv, p, hz⟩ := I.tuple hq
    obtain ⟨u, hu, ru⟩ := rv.get hx
    have hel : e < s.heap.objs.size := Heap.lt_size he
    have hil : it < s.heap.objs.size := by obtain ⟨_, q, _⟩ := hit; exact Heap.lt_size q
    have hlt : i < its.toArray.size := by
      rw [List.size_toArray]; exact (List.getElem?_eq_some_iff.mp hu).1
    refine wpAny_pyNext_enum_itemD (Draws.tuple (A := X.A.in1) (I.ok.hd hc) it a hn2 its.toArray) he ⟨hit, p⟩ hlt hne (by simp [hne, Ne.symm hn3]) fun y h' tk hy ho hst hT hsz hk => ?_
    have ey : y = u := by
      rw [List.getElem?_toArray, hu] at hy
      exact (Option.some.inj hy).symm
    subst ey
    refine ⟨_, rfl, thn (enum_pair (R := fun h => h.IsTupleIter it a (i + 1)) I hf hel hil hne ru ho hT hk fun h'' sb => hst.1.at fun o q => (sb.2 it (Ne.symm hne)).trans q) fun _ s2 ⟨I1, hn, he', r, hb⟩ => ?_⟩
    have e1 : (i : Int) + 1 = ((i + 1 : Nat) : Int) := by omega
    rw [e1] at he'
    exact ⟨.ref s.heap.objs.size, _, I1, rfl, ⟨_, x, rfl, hn, rfl, fun ys hy => by rw [I.tuple_inj hy hq]; exact hx⟩, ⟨⟨_, he'⟩, r, hne, hn2, hn3⟩, hb⟩
  done := by
    intro X hP hw hK hc i pins s σ H E I hf st hg
    subst hP hw hK
    obtain ⟨⟨old, he⟩, hit, hne, hn2, hn3⟩ := st
    obtain ⟨xs, hq, hx⟩ := hg
    obtain ⟨its, rv, p, hz⟩ := I.tuple hq
    obtain ⟨f0, f1, f2, f3, f4, f5⟩ := hf it (by simp)
    have hl := rv.length
    have hi : its.toArray.size = i := by rw [List.size_toArray]; omega
    refine wpAny_pyNext_enum_endD (Draws.tuple (A := X.A.in1) (I.ok.hd hc) it a hn2 its.toArray) he (by rw [hi]; exact ⟨hit, p⟩) fun h' eb => ⟨rfl, I.turned (t' := s.toks) (fun b o hb q => eb b o hb q) f0 f1 f3 f4 f5⟩
  self := fun A i s Q E st h => let ⟨⟨_, he⟩, _⟩ := st; wpAny_pyIter_enum he h
theorem turn_enumS {P : Program} {w : World} {K : PySem.W.Frag} {elts : List Expr} {kk : Nat} {tpos : Pos} (x : Str) (t : Tok) (e it : Addr) :
    Turn P w K (.Tuple elts kk tpos) (IteS x) [e, it] e (fun i h => (∃ old, IsEnum h e it ((i : Nat) : Int) old) ∧ h.IsStrIter it (strIterType x) x t i ∧ e ≠ it) where
  mem := by simp
  obj := fun i h st b hb => by
    obtain ⟨⟨old, he⟩, ⟨o, ho, hc, hd⟩, _⟩ := st
    have e' : b = e ∨ b = it := by simpa using hb
    rcases e' with z | z
    · rw [z]; exact ⟨_, he, fun v q => nomatch q⟩
    · rw [z]; exact ⟨o, ho, fun v q => by rw [hd] at q; cases q⟩
  keep := fun i h h' st k => let ⟨⟨old, he⟩, hi, hne⟩ := st; ⟨⟨old, k e (by simp) _ he⟩, (let ⟨o, ho, r⟩ := hi; ⟨o, k it (by simp) o ho, r⟩), hne⟩
  item := by
    intro X hP hw hK hc i pins s σ H E I hf st hg
    subst hP hw hK
    obtain ⟨⟨old, he⟩, hit, hne⟩ := st
    have hg : i < x.cps.size := hg
    have hel : e < s.heap.objs.size := Heap.lt_size he
    have hil : it < s.heap.objs.size := by obtain ⟨_, q, _⟩ := hit; exact Heap.lt_size q
    refine wpAny_pyNext_enum_itemD (Draws.text (A := X.A.in1) (I.ok.hd hc) it x t) he hit hg hne (by simp [hne]) fun y h' tk hy ho hst hT hsz hk => ?_
    obtain ⟨c, u, hc', rfl⟩ := hy
    refine ⟨_, rfl, thn (enum_pair (v := .str ⟨#[c]⟩) (R := fun h => h.IsStrIter it (strIterType x) x t (i + 1)) I hf hel hil hne ⟨u, rfl⟩ ho hT hk fun h'' sb => let ⟨o, q, r⟩ := hst; ⟨o, (sb.2 it (Ne.symm hne)).trans q, r⟩) fun _ s2 ⟨I1, hn, he', r, hb⟩ => ?_⟩
    have e1 : (i : Int) + 1 = ((i + 1 : Nat) : Int) := by omega
    rw [e1] at he'
    exact ⟨.ref s.heap.objs.size, _, I1, rfl, ⟨_, c, rfl, hn, rfl, hc'⟩, ⟨⟨_, he'⟩, r, hne⟩, hb⟩
  done := by
    intro X hP hw hK hc i pins s σ H E I hf st hg
    subst hP hw hK
    obtain ⟨⟨old, he⟩, hit, hne⟩ := st
    obtain ⟨f0, f1, f2, f3, f4, f5⟩ := hf it (by simp)
    have hi : x.cps.size = i := hg
    refine wpAny_pyNext_enum_endD (Draws.text (A := X.A.in1) (I.ok.hd hc) it x t) he (by rw [hi]; exact hit) fun h' eb => ⟨rfl, I.turned (t' := s.toks) (fun b o hb q => eb b o hb q) f0 f1 f3 f4 f5⟩
  self := fun A i s Q E st h => let ⟨⟨_, he⟩, _⟩ := st; wpAny_pyIter_enum he h
def iEnAny (K : PySem.W.Frag) (ta : TA) : TI := fun σ H R => ta σ H fun vs H1 => (∃ a xs, vs = [.ref a] ∧ SqL K H1 a xs ∧ R (Ite K a) H1) ∨ (∃ a xs, vs = [.ref a] ∧ SqT K H1 a xs ∧ R (IteT K a) H1) ∨ ∃ x, vs = [.str x] ∧ R (IteS x) H1
theorem pi_enumAny {X : Cx} {e : Expr} {ta : TA} {p pos tpos : Pos} {elts : List Expr} {kk : Nat} (hg : Gl X "enumerate") (hm : X.mg "enumerate" = none) (ha : PA X [e] ta) (hs : starEach [e] X.env = [(false, eval e X.env)] := by rfl) :
    PI X (.Tuple elts kk tpos) (.Call (.Name "enumerate" p) [e] [] pos) (iEnAny X.K ta) := by
  refine ⟨fun pins s σ H R I h => ?_⟩
  refine Call_ (ld_blt I hg hm boot_enumerate (PyProof.Rows.callWith_type1 (thn (ha.run pos pins s σ H _ I h) fun us s1 ⟨vs, H1, I1, r1, q1⟩ => ?_) hs rfl))
  have fp : ∀ b ∈ [s1.heap.objs.size + 1, s1.heap.objs.size], s1.heap.objs.size ≤ b := fun b hb => by
    have e' : b = s1.heap.objs.size + 1 ∨ b = s1.heap.objs.size := by simpa using hb
    omega
  rcases q1 with ⟨a, xs, ex, hq, q⟩ | ⟨a, xs, ex, hq, q⟩ | ⟨x, ex, q⟩
  · subst ex
    cases r1 with
    | cons r rr =>
      cases rr
      cases r
      obtain ⟨its, rv, p', hz⟩ := I1.list hq
      refine call_enumerate_list p'.isList fun h' he hit hsz hk => wpAny_pyIter_enum he ?_
      have I2 : Inv X pins σ H1 { s1 with heap := h' } := I1.kept (t' := s1.toks) hk
      exact ⟨s1.heap.objs.size + 1, [s1.heap.objs.size + 1, s1.heap.objs.size], _, _, H1, rfl, I2, turn_enum a (s1.heap.objs.size + 1) s1.heap.objs.size, ⟨⟨.none, he⟩, hit, Nat.succ_ne_self _⟩, fun b hb => I1.fpOk (fp b hb) (I1.hok.fresh (fp b hb)), q⟩
  · subst ex
    cases r1 with
    | cons r rr =>
      cases rr
      cases r
      obtain ⟨its, rv, p', hz⟩ := I1.tuple hq
      have hlt : a < s1.heap.objs.size := by obtain ⟨_, q, _⟩ := p'; exact Heap.lt_size q
      refine call_enumerate_tuple (items := its.toArray) p' fun h' he hit hsz hk => wpAny_pyIter_enum he ?_
      have I2 : Inv X pins σ H1 { s1 with heap := h' } := I1.kept (t' := s1.toks) hk
      exact ⟨s1.heap.objs.size + 1, [s1.heap.objs.size + 1, s1.heap.objs.size], _, _, H1, rfl, I2, turn_enumT a (s1.heap.objs.size + 1) s1.heap.objs.size, ⟨⟨.none, he⟩, hit, Nat.succ_ne_self _, Nat.ne_of_lt hlt, Nat.ne_of_lt (Nat.lt_succ_of_lt hlt)⟩, fun b hb => I1.fpOk (fp b hb) (I1.hok.fresh (fp b hb)), q⟩
  · subst ex
    cases r1 with
    | cons r rr =>
      cases rr
      obtain ⟨t, rfl⟩ := r
      refine call_enumerate_str fun h' he hit hsz hk => wpAny_pyIter_enum he ?_
      have I2 : Inv X pins σ H1 { s1 with heap := h' } := I1.kept (t' := s1.toks) hk
      exact ⟨s1.heap.objs.size + 1, [s1.heap.objs.size + 1, s1.heap.objs.size], _, _, H1, rfl, I2, turn_enumS x t (s1.heap.objs.size + 1) s1.heap.objs.size, ⟨⟨.none, he⟩, hit, Nat.succ_ne_self _⟩, fun b hb => I1.fpOk (fp b hb) (I1.hok.fresh (fp b hb)), q⟩
/-! ### over data -/
def enF : Nat → List D → List D
  | _, [] => []
  | i, d :: ds => .tup [.int (i : Nat), d] :: enF (i + 1) ds
def enD (ds : List D) : List D := enF 0 ds
theorem enF_len : ∀ (ds : List D) (i : Nat), (enF i ds).length = ds.length
  | [], _ => rfl
  | d :: ds, i => congrArg (· + 1) (enF_len ds (i + 1))
theorem enD_len (ds : List D) : (enD ds).length = ds.length := enF_len ds 0
theorem enF_get : ∀ (ds : List D) (i k : Nat), (enF i ds)[k]? = ds[k]?.map fun d => .tup [.int ((i + k : Nat) : Int), d]
  | [], i, k => by simp [enF]
  | d :: ds, i, 0 => by simp [enF]
  | d :: ds, i, k + 1 => by
    show (enF (i + 1) ds)[k]? = _
    rw [enF_get ds (i + 1) k, show i + 1 + k = i + (k + 1) by omega]; rfl
theorem enD_get (ds : List D) (k : Nat) : (enD ds)[k]? = ds[k]?.map fun d => .tup [.int (k : Nat), d] := by
  unfold enD
  rw [enF_get, Nat.zero_add]
def itEn (P : Sq → Prop) : D → Prop := fun d => match d with
  | .lst ds => P (sqL (enD ds))
  | .tup ds => P (sqL (enD ds))
  | .str x => P (sqL (enD (signs x)))
  | _ => False
def piEn (pe : PTE) : PTI := fun env P => pe env (itEn P)
theorem enum_yld {K : PySem.W.Frag} {mg : MG} {G G1 H1 : Hp} {i : Nat} {x : V} {d : D} {T : Addr} {ds : List D} (s1 : Same G G1) (s2 : Same G1 H1) (hn : H1 T = none) (rd : Rep K mg G x d) (hd : ds[i]? = some d) :
    ∃ G' d', Ext G1 H1 G' (upd H1 T (.tup [.int (i : Nat), x])) ∧ Rep K mg G' (.ref T) d' ∧ (sqL (enD ds)).ob i d' := by
  refine ⟨_, .tup [.int (i : Nat), d], Ext.new s2 hn, .tup upd_same ?_, ?_⟩
  · exact .cons (.int _) (.cons ((rd.mono s1).mono (Same.upd (s2.free hn))) .nil)
  · show (enD ds)[i]? = _
    rw [enD_get, hd]; rfl
theorem walks_enL {K : PySem.W.Frag} {mg : MG} {G : Hp} {a : Addr} {vs : List V} {ds : List D} (h : SqL K G a vs) (r : Reps K mg G vs ds) : Walks K mg G (sqL (enD ds)) (Ite K a) where
  go i G1 H1 s1 s2 hi := by
    have hi : i < (enD ds).length := hi
    have : i < vs.length := by rw [r.length, ← enD_len]; exact hi
    exact ⟨vs, vs[i], (s1.trans s2).seq h, by simp [this]⟩
  yld i G1 H1 x H' s1 s2 hi y := by
    obtain ⟨T, x', rfl, hn, rfl, y⟩ := y
    obtain ⟨d, e, q⟩ := r.get (y vs ((s1.trans s2).seq h))
    exact enum_yld s1 s2 hn q e
  stop G1 H1 s1 s2 := ⟨vs, (s1.trans s2).seq h, by
    show vs.length ≤ (enD ds).length
    rw [enD_len, r.length]; exact Nat.le_refl _⟩
theorem walks_enT {K : PySem.W.Frag} {mg : MG} {G : Hp} {a : Addr} {vs : List V} {ds : List D} (h : SqT K G a vs) (r : Reps K mg G vs ds) : Walks K mg G (sqL (enD ds)) (IteT K a) where
  go i G1 H1 s1 s2 hi := by
    have hi : i < (enD ds).length := hi
    have : i < vs.length := by rw [r.length, ← enD_len]; exact hi
    exact ⟨vs, vs[i], Same.sqT (s1.trans s2) h, by simp [this]⟩
  yld i G1 H1 x H' s1 s2 hi y := by
    obtain ⟨T, x', rfl, hn, rfl, y⟩ := y
    obtain ⟨d, e, q⟩ := r.get (y vs (Same.sqT (s1.trans s2) h))
    exact enum_yld s1 s2 hn q e
  stop G1 H1 s1 s2 := ⟨vs, Same.sqT (s1.trans s2) h, by
    show vs.length = (enD ds).length
    rw [enD_len, r.length]⟩
theorem walks_enS {K : PySem.W.Frag} {mg : MG} {G : Hp} (x : Str) : Walks K mg G (sqL (enD (signs x))) (IteS x) where
  go i G1 H1 s1 s2 hi := by
    have hi : i < (enD (signs x)).length := hi
    rw [enD_len] at hi
    show i < x.cps.size
    simpa [signs] using hi
  yld i G1 H1 v H' s1 s2 hi y := by
    obtain ⟨T, c, rfl, hn, rfl, e⟩ := y
    refine enum_yld s1 s2 hn (.str _) ?_
    unfold signs
    rw [List.getElem?_map, Array.getElem?_toList, e]; rfl
  stop G1 H1 s1 s2 := by
    show x.cps.size = (enD (signs x)).length
    rw [enD_len]; simp [signs]
section
variable {X : Cx} {a e : Expr} {pa pe : PTE} {pos p' : Pos}
theorem pui_en {elts : List Expr} {kk : Nat} {tpos : Pos} (hm : X.mg "enumerate" = none) (h : PuE X a pa) (hg : Gl X "enumerate" := by rfl) (hs1 : starEach [a] X.env = [(false, eval a X.env)] := by rfl) : PuI X (.Tuple elts kk tpos) (.Call (.Name "enumerate" p') [a] [] pos) (piEn pa) := by
  obtain ⟨t, h1, h2⟩ := h.ex
  refine ⟨_, pi_enumAny hg hm (pa_cons h1 pa_nil hs1) hs1, fun G H env σ P R ok hp k => h2 G H env σ _ _ ok hp fun d v G' H' x r q => ?_⟩
  unfold itEn at q
  split at q
  · cases r with
    | lst e rs => exact .inl ⟨_, _, rfl, SqL.of (x.s _ _ e), k _ _ G' H' x (walks_enL (SqL.of e) rs) q⟩
  · cases r with
    | tup e rs => exact .inr (.inl ⟨_, _, rfl, SqT.of (x.s _ _ e), k _ _ G' H' x (walks_enT (SqT.of e) rs) q⟩)
  · cases r
    exact .inr (.inr ⟨_, rfl, k _ _ G' H' x (walks_enS _) q⟩)
  · exact q.elim
/-! ### isinstance(x, (T, U)) -/
def isi2P (T U : String) (p : PTE) : PTE := fun env P => p env fun d => ∃ n b c, tyName d = some n ∧ kitB n T = some b ∧ kitB n U = some c ∧ P (.bl (b || c))
theorem kit_any2 {K : PySem.W.Frag} {n T U : String} {b c : Bool} (h1 : kitB n T = some b) (h2 : kitB n U = some c) : PySem.W.kitAny K (.type n) [.type T, .type U] = some (b || c) := by
  have k1 := kit_ty (K := K) h1
  have k2 := kit_ty (K := K) h2
  unfold PySem.W.kitAny
  rw [k1]
  cases b with
  | true => rfl
  | false =>
    show PySem.W.kitAny K (.type n) [.type U] = some c
    unfold PySem.W.kitAny
    rw [k2]
    cases c with
    | true => rfl
    | false => rfl
theorem pu_isi2 {T U : Str} {n m : String} {p2 p3 p4 : Pos} {k4 : Nat} (hm : X.mg "isinstance" = none) (hmT : X.mg T = none) (hmU : X.mg U = none) (ha : PuE X a pa) (hv : bootBuiltins T = some (.type n) := by decide +kernel) (hvU : bootBuiltins U = some (.type m) := by decide +kernel) (hg : Gl X "isinstance" := by rfl) (hgT : Gl X T := by rfl) (hgU : Gl X U := by rfl)
    (hs : starEach [a, .Tuple [.Name T p2, .Name U p3] k4 p4] X.env = (false, eval a X.env) :: starEach [.Tuple [.Name T p2, .Name U p3] k4 p4] X.env := by rfl) (hs2 : starEach [.Tuple [.Name T p2, .Name U p3] k4 p4] X.env = (false, eval (.Tuple [.Name T p2, .Name U p3] k4 p4) X.env) :: starEach [] X.env := by rfl)
    (hpl : (backTo pos (starEach [.Tuple [.Name T p2, .Name U p3] k4 p4] X.env)).any (·.1) = false := by rfl)
    (hn : T ≠ "__name__" := by decide) (hd : (T == ("__debug__" : Str)) = false := by decide) (hnU : U ≠ "__name__" := by decide) (hdU : (U == ("__debug__" : Str)) = false := by decide) :
    PuE X (.Call (.Name "isinstance" p') [a, .Tuple [.Name T p2, .Name U p3] k4 p4] [] pos) (isi2P n m pa) := by
  obtain ⟨t, h1, h2⟩ := ha.ex
  refine ⟨_, pe_callB call_isiT hg hm (by decide +kernel) (pa_cons h1 (pa_cons (pe_tup (pa_cons (pe_bltn (v := .ty n) hgT hmT hv rfl hn hd) (pa_cons (pe_bltn (v := .ty m) hgU hmU hvU rfl hnU hdU) pa_nil))) pa_nil hs2) hs) (by decide) (by decide) hs hpl, fun G H env σ P Q ok hp k => h2 G H env σ _ _ ok hp fun d v G' H' x r q => ?_⟩
  obtain ⟨nn, b, c, e0, e1, e2, q⟩ := q
  refine ⟨by show 2 ≤ sizeLine; decide, fun tp ht => ⟨v, tp, [.ty n, .ty m], .type nn, [.type n, .type m], b || c, rfl, upd_same, .cons (.ty n) (.cons (.ty m) .nil), ?_, kit_any2 e1 e2, k _ _ G' _ (x.trans (Ext.newH x.s ht)) (.bl _) q⟩⟩
  exact Rep.tyx (G := G') (mg := X.mg) (.inl r) (x.s.trans (Same.upd ht)) e0
/-! ### is True, is not True -/
def isBP (neg : Bool) : BinP := fun x y P => ∃ a b : Bool, x = .bl a ∧ y = .bl b ∧ P (.bl (decide (a = b) != neg))
theorem isBP_ok : BinOk X rIsB (isBP false) := by
  rintro G H v w x y P Q s r1 r2 ⟨a, b, rfl, rfl, q⟩ k
  cases r1.bl; cases r2.bl
  exact ⟨a, b, rfl, rfl, k _ _ _ _ (.refl s) (.bl _) (by simpa using q)⟩
theorem notBP_ok : BinOk X rNotB (isBP true) := by
  rintro G H v w x y P Q s r1 r2 ⟨a, b, rfl, rfl, q⟩ k
  cases r1.bl; cases r2.bl
  exact ⟨a, b, rfl, rfl, k _ _ _ _ (.refl s) (.bl _) (by simpa using q)⟩
end
end PL
end

section
set_option linter.all false
set_option maxRecDepth 100000
set_option maxHeartbeats 4000000
set_option autoImplicit false
/-! PL20: list(d), the keys of a dict. -/
namespace PL
open PySem PySem.Spec PyProof.Rows L2
section
variable {X : Cx} {e a b : Expr} {pe pa pb : PTE} {pos p' : Pos}
def listDP : PSp := fun ds P => match ds with
  | [.dk kvs] => P (.lst (keysD kvs))
  | _ => False
theorem reps_keys {K : PySem.W.Frag} {mg : MG} {G : Hp} : ∀ {us : List (Key × V)} {kvs : List (Key × D)}, RepKV K mg G us kvs → Reps K mg G (us.map fun kv => kV kv.1) (keysD kvs)
  | _, _, .nil => .nil
  | _, _, .cons _ t => .cons (rep_key _) (reps_keys t)
theorem listDP_ok : CallFOk X (fun xs H Q => ∃ (a : Addr) (kvs : List (Key × V)), xs = [.ref a] ∧ Rd H a (.dK kvs) ∧ ∀ p, H p = none → Q (.ref p) (upd H p (.lst (kvs.map fun kv => kV kv.1)))) listDP := by
  intro G H vs ds P Q s rs h k
  unfold listDP at h
  split at h
  · obtain ⟨v, rfl, r⟩ := one_shal rs
    obtain ⟨l, us, rfl, hl, rr⟩ := r.dk s
    exact ⟨l, us, rfl, hl, fun p hn => k _ p G _ (Ext.newH s hn) (.lst upd_same (reps_keys rr)) (s.free hn) hn h⟩
  · exact h.elim
theorem puf_listD (hc : X.calm = true) (hm : X.mg "list" = none) (h : PuO X a pa) (hs : starEach [a] X.env = (false, eval a X.env) :: starEach [] X.env := by rfl) (hg : Gl X "list" := by rfl) : PuF X (.Call (.Name "list" p') [a] [] pos) (pCall listDP (paCons pa paNil)) :=
  puf_ty (call_listD hc) listDP_ok hm (puao_cons h puao_nil hs) hg (by decide +kernel) (by decide) (by decide) hs rfl
theorem listDP_d {kvs : List (Key × D)} {P : D → Prop} : listDP [.dk kvs] P = P (.lst (keysD kvs)) := rfl
end
end PL
end

section
set_option linter.all false
set_option maxRecDepth 100000
set_option maxHeartbeats 4000000
set_option autoImplicit false
/-! PL21: what stands backwards; methods of texts: find, startswith, index. -/
namespace PL
open PySem PySem.Spec PyProof.Rows L2
/-! ### e[::-1] -/
def revS (z : Str) : Str := ⟨z.cps.toList.reverse.toArray⟩
theorem revS_made {z : Str} {t u : Tok} : sliceMade z t none none (some (-1, u)) = .str (revS z) := by
  unfold sliceMade slicePicked
  rw [if_neg (by simp)]
  have e : Builtin.Str.strSliceIndices none none (((some ((-1 : Int), u)).map (·.1)).getD 1) z.length = (List.range z.length).reverse := by
    show sliceRange ((z.length : Int) - 1) (-1) (-1) = _
    rw [PySem.W.krv_sliceRange, PySem.W.krv_range]
  show Made.str ⟨((Builtin.Str.strSliceIndices none none (((some ((-1 : Int), u)).map (·.1)).getD 1) z.length).filterMap (z.cps[·]?)).toArray⟩ = _
  rw [e, List.filterMap_reverse]
  unfold revS
  rw [show z.length = z.cps.size from rfl, PySem.W.krv_all]
section
variable {X : Cx} {e a b c : Expr} {es : List Expr} {te : TE} {pe pa pb : PTE} {pos p' : Pos}
def tRevA (K : PySem.W.Frag) (te : TE) : TE := fun σ H Q => te σ H fun x H1 => (∃ a xs, x = .ref a ∧ SqL K H1 a xs ∧ ∀ p, H1 p = none → Q (.ref p) (upd H1 p (.lst xs.reverse))) ∨ ∃ z, x = .str z ∧ z.length ≤ sizeLine ∧ Q (.str (revS z)) H1
theorem pe_revA {k : Nat} {p1 p2 p3 : Pos} (he : PE X e te) : PE X (.Subscript e (.Slice none none (some (.UnaryOp .USub (.Constant (.int 1) k p1) p2)) p3) pos) (tRevA X.K te) := by
  constructor
  intro pins s σ H Q I h
  refine Subscript_ (thn (he.run pins s σ H _ I h) ?_)
  rintro v s1 ⟨x, H1, I1, r1, q1⟩
  have step1 : PO X (some (.UnaryOp .USub (.Constant (.int 1) k p1) p2)) (tPart (tUn (rU fun i => .int (-i)) (tC (.int 1)))) := po_some (pe_un un_neg pe_int)
  refine wpAny_Slice (thn (po_none.run pins s1 σ H1 (fun o H2 => o = none ∧ H2 = H1) I1 ⟨rfl, rfl⟩) ?_)
  rintro lo s2 ⟨l, H2, I2, pl, rfl, rfl⟩
  refine thn (po_none.run pins s2 σ H2 (fun o H3 => o = none ∧ H3 = H2) I2 ⟨rfl, rfl⟩) ?_
  rintro hi s3 ⟨u, H3, I3, pu, rfl, rfl⟩
  refine thn (step1.run pins s3 σ H3 (fun o H4 => o = some (-1) ∧ H4 = H3) I3 ⟨1, rfl, -1, rfl, rfl, rfl⟩) ?_
  rintro st s4 ⟨o, H4, I4, ps, rfl, rfl⟩
  have I5 : Inv X pins σ H4 { s4 with heap := s4.heap.push { cls := .type "slice", data := .fields #[lo, hi, st] } } := I4.kept (t' := s4.toks) fun _ _ q => Heap.get?_push_of_some _ q
  rcases q1 with ⟨a, xs, rfl, hx, q⟩ | ⟨z, rfl, hz, q⟩
  · cases r1
    obtain ⟨its, r, ht, hl⟩ := I5.list hx
    have hn := r.length
    refine tail_any (ops := [.ref a, .ref s4.heap.objs.size]) (T := "list") (id := "list.__getitem__") ht.isList.typeIs PySem.slot_list_getitem.lookup ?_ (by with_unfolding_all rfl)
    refine wpAny_getItem_list_slice ht.isList (Heap.IsSliceOf.new _ lo hi st) pl pu ps (by decide) ?_ (by rw [List.size_toArray]; omega)
    rw [PySem.W.krv_pick]
    refine ⟨.ref _, _, I5.laid (t' := s4.toks) (o := .lst xs.reverse) (fun _ _ w => Heap.get?_push_of_some _ w) (Nat.le_refl _) ?_, rfl, q _ (I5.hok.fresh (Nat.le_refl _))⟩
    exact ⟨by rw [List.length_reverse]; exact hl, _, 0, r.reverse, Heap.get?_push_size _ rfl⟩
  · obtain ⟨t, rfl⟩ := r1
    cases pl
    cases pu
    cases ps with
    | int i w =>
      refine tail_any (ops := [.str z t, .ref s4.heap.objs.size]) (T := "str") (id := "str.__getitem__") (typeIs_str _ _ _) PySem.F.slot_str_getitem.lookup ?_ (by with_unfolding_all rfl)
      refine wpAny_getItem_str_slice (l := none) (u := none) (st := some (-1, w)) ⟨_, Heap.get?_push_size _ rfl, rfl, rfl⟩ rfl ?_
      rw [revS_made]
      refine ⟨by show z.cps.toList.reverse.toArray.size ≤ _; rw [List.size_toArray, List.length_reverse, Array.length_toList]; exact hz, ?_⟩
      exact ⟨.str (revS z), _, I5.kept (t' := s4.toks + 1) fun _ _ q => q, ⟨_, rfl⟩, q⟩
def revP (P : D → Prop) : D → Prop := fun d => match d with
  | .lst ds => P (.lst ds.reverse)
  | .str z => z.length ≤ sizeLine ∧ P (.str (revS z))
  | _ => False
def pRev (pe : PTE) : PTE := fun env P => pe env (revP P)
theorem revP_l {P : D → Prop} {ds : List D} : revP P (.lst ds) = P (.lst ds.reverse) := rfl
theorem revP_s {P : D → Prop} {z : Str} : revP P (.str z) = (z.length ≤ sizeLine ∧ P (.str (revS z))) := rfl
theorem pu_rev {k : Nat} {p1 p2 p3 : Pos} (he : PuO X e pe) : PuE X (.Subscript e (.Slice none none (some (.UnaryOp .USub (.Constant (.int 1) k p1) p2)) p3) pos) (pRev pe) := by
  obtain ⟨t, h1, h2⟩ := he.ex
  refine ⟨_, pe_revA h1, fun G H env σ P Q ok hp kk => h2 G H env σ _ _ ok hp fun d v G' H' x r q => ?_⟩
  unfold revP at q
  split at q
  · obtain ⟨l, vs, rfl, hl, rs⟩ := r.lst x.s
    exact .inl ⟨l, vs, rfl, SqL.of hl, fun p hn => kk _ _ _ _ (x.trans (Ext.new x.s hn)) (.lst upd_same (rs.reverse.mono (Same.upd (x.s.free hn)))) q⟩
  · cases r.str
    exact .inr ⟨_, rfl, q.1, kk _ _ G' H' x (.str _) q.2⟩
  · exact q.elim

/-! ### methods of texts -/
/-- a method over data: the receiver a text -/
def MtS (X : Cx) (r : V → List V → Hp → VK → Prop) (f : Str → List D → (D → Prop) → Prop) : Prop :=
  ∀ (G H : Hp) (z : Str) (vs : List V) (ds : List D) (P : D → Prop) (Q : VK), Same G H → Reps X.K X.mg G vs ds → f z ds P → (∀ d v G' H', Ext G H G' H' → Rep X.K X.mg G' v d → P d → Q v H') → r (.str z) vs H Q
def mtSP (f : Str → List D → (D → Prop) → Prop) (ps : PTA) (env : List C) (P : D → Prop) : D → Prop := fun d => match d with
  | .str z => ps env fun ds => f z ds P
  | _ => False
def pMtS (f : Str → List D → (D → Prop) → Prop) (pe : PTE) (ps : PTA) : PTE := fun env P => pe env (mtSP f ps env P)
theorem mtSP_s {f : Str → List D → (D → Prop) → Prop} {ps : PTA} {env : List C} {P : D → Prop} {z : Str} : mtSP f ps env P (.str z) = ps env fun ds => f z ds P := rfl
variable {name : Str} {apos cpos : Pos} {id : String} {r : V → List V → Hp → VK → Prop} {f : Str → List D → (D → Prop) → Prop} {o : Expr} {po : PTE} {ps : PTA}
theorem pu_mts (slot : Slot "str" name id) (hty : typeOf (.builtin id) = pure (.type "method_descriptor")) (hm : MtR X id r) (hf : MtS X r f) (ho : PuO X o po) (ha : PuA X (e :: es) ps)
    (hbase : attributeBase o name X.env (eval o X.env) = eval o X.env := by rfl)
    (hfew : ((backTo cpos (starEach (e :: es) X.env)).all (fun x => !x.1) && (backToKw cpos (keywordEach [] X.env)).all (fun x => x.1.isSome)
      && decide ((e :: es).length + ([] : List Keyword).length + (if ([] : List Keyword).isEmpty then 0 else 1) < 30)) = true := by rfl)
    (hline : (apos.endLine == cpos.line) = true := by rfl) (hs : starEach (e :: es) X.env = (false, eval e X.env) :: starEach es X.env := by rfl) (hplain : (backTo cpos (starEach es X.env)).any (·.1) = false := by rfl) :
    PuE X (.Call (.Attribute o name apos) (e :: es) [] cpos) (pMtS f po ps) := by
  obtain ⟨t, h1, h2⟩ := ho.ex
  obtain ⟨u, g1, g2⟩ := ha.ex
  refine ⟨_, pe_bm PySem.F.plainAttrs_str slot hty hm h1 g1 hbase hfew hline hs hplain, fun G H env σ P Q ok hp kk => h2 G H env σ _ _ ok hp fun d v G1 H1 x1 r1 q1 => ?_⟩
  unfold mtSP at q1
  split at q1
  · cases r1.str
    refine ⟨rfl, g2 G1 H1 env σ _ _ (ok.ext x1) q1 fun ds vs G2 H2 x2 r2 q2 => ?_⟩
    exact hf G2 H2 _ vs ds P Q x2.s r2 q2 fun d w G3 H3 x3 r3 q3 => kk d w G3 H3 ((x1.trans x2).trans x3) r3 q3
  · exact q1.elim
def findF : Str → List D → (D → Prop) → Prop := fun z ds P => match ds with
  | [.str w] => P (.int (Txt.find z w))
  | [.str w, .int i] => P (.int (Txt.find3 z w i))
  | _ => False
theorem findF_1 {z w : Str} {P : D → Prop} : findF z [.str w] P = P (.int (Txt.find z w)) := rfl
theorem findF_2 {z w : Str} {i : Int} {P : D → Prop} : findF z [.str w, .int i] P = P (.int (Txt.find3 z w i)) := rfl
theorem reps1 {K : PySem.W.Frag} {mg : MG} {G : Hp} {vs : List V} {d : D} (h : Reps K mg G vs [d]) : ∃ v, vs = [v] ∧ Rep K mg G v d := by
  cases h with
  | cons r t => cases t; exact ⟨_, rfl, r⟩
theorem reps2 {K : PySem.W.Frag} {mg : MG} {G : Hp} {vs : List V} {d e : D} (h : Reps K mg G vs [d, e]) : ∃ v w, vs = [v, w] ∧ Rep K mg G v d ∧ Rep K mg G w e := by
  cases h with
  | cons r t => obtain ⟨w, rfl, q⟩ := reps1 t; exact ⟨_, _, rfl, r, q⟩
theorem findF_ok : MtS X (fun x xs H Q => (∃ a b, x = .str a ∧ xs = [.str b] ∧ Q (.int (Txt.find a b)) H) ∨ ∃ (a b : Str) (i : Int), x = .str a ∧ xs = [.str b, .int i] ∧ Q (.int (Txt.find3 a b i)) H) findF := by
  intro G H z vs ds P Q s rs h k
  unfold findF at h
  split at h
  · obtain ⟨v, rfl, r⟩ := reps1 rs
    cases r
    exact .inl ⟨_, _, rfl, rfl, k _ _ G H (.refl s) (.int _) h⟩
  · obtain ⟨v, w, rfl, r1, r2⟩ := reps2 rs
    cases r1; cases r2
    exact .inr ⟨_, _, _, rfl, rfl, k _ _ G H (.refl s) (.int _) h⟩
  · exact h.elim
theorem pu_find (ho : PuO X o po) (ha : PuA X (e :: es) ps) (hbase : attributeBase o "find" X.env (eval o X.env) = eval o X.env := by rfl)
    (hfew : ((backTo cpos (starEach (e :: es) X.env)).all (fun x => !x.1) && (backToKw cpos (keywordEach [] X.env)).all (fun x => x.1.isSome)
      && decide ((e :: es).length + ([] : List Keyword).length + (if ([] : List Keyword).isEmpty then 0 else 1) < 30)) = true := by rfl)
    (hline : (apos.endLine == cpos.line) = true := by rfl) (hs : starEach (e :: es) X.env = (false, eval e X.env) :: starEach es X.env := by rfl) (hplain : (backTo cpos (starEach es X.env)).any (·.1) = false := by rfl) :
    PuE X (.Call (.Attribute o "find" apos) (e :: es) [] cpos) (pMtS findF po ps) :=
  pu_mts PySem.F.slot_str_find PySem.F.type_str_find (mt_find.or mt_find3) findF_ok ho ha hbase hfew hline hs hplain
def startsF : Str → List D → (D → Prop) → Prop := fun z ds P => match ds with
  | [.str w] => P (.bl (Txt.startswith z w))
  | _ => False
theorem startsF_1 {z w : Str} {P : D → Prop} : startsF z [.str w] P = P (.bl (Txt.startswith z w)) := rfl
theorem startsF_ok : MtS X (fun x xs H Q => ∃ a b, x = .str a ∧ xs = [.str b] ∧ Q (.bl (Txt.startswith a b)) H) startsF := by
  intro G H z vs ds P Q s rs h k
  unfold startsF at h
  split at h
  · obtain ⟨v, rfl, r⟩ := reps1 rs
    cases r
    exact ⟨_, _, rfl, rfl, k _ _ G H (.refl s) (.bl _) h⟩
  · exact h.elim
theorem pu_starts (ho : PuO X o po) (ha : PuA X (e :: es) ps) (hbase : attributeBase o "startswith" X.env (eval o X.env) = eval o X.env := by rfl)
    (hfew : ((backTo cpos (starEach (e :: es) X.env)).all (fun x => !x.1) && (backToKw cpos (keywordEach [] X.env)).all (fun x => x.1.isSome)
      && decide ((e :: es).length + ([] : List Keyword).length + (if ([] : List Keyword).isEmpty then 0 else 1) < 30)) = true := by rfl)
    (hline : (apos.endLine == cpos.line) = true := by rfl) (hs : starEach (e :: es) X.env = (false, eval e X.env) :: starEach es X.env := by rfl) (hplain : (backTo cpos (starEach es X.env)).any (·.1) = false := by rfl) :
    PuE X (.Call (.Attribute o "startswith" apos) (e :: es) [] cpos) (pMtS startsF po ps) :=
  pu_mts PySem.F.slot_str_startswith PySem.F.type_str_startswith mt_startswith startsF_ok ho ha hbase hfew hline hs hplain
/-- the first place of a text in a text -/
def sidxF : Str → List D → (D → Prop) → Prop := fun z ds P => match ds with
  | [.str w] => ∃ i rest, Builtin.Str.occurrences z w 0 z.length 1 = i :: rest ∧ P (.int (i : Nat))
  | _ => False
theorem sidxF_1 {z w : Str} {P : D → Prop} : sidxF z [.str w] P = ∃ i rest, Builtin.Str.occurrences z w 0 z.length 1 = i :: rest ∧ P (.int (i : Nat)) := rfl
theorem sidxF_ok : MtS X (fun x xs H Q => ∃ a b i rest, x = .str a ∧ xs = [.str b] ∧ Builtin.Str.occurrences a b 0 a.length 1 = i :: rest ∧ Q (.int (i : Nat)) H) sidxF := by
  intro G H z vs ds P Q s rs h k
  unfold sidxF at h
  split at h
  · obtain ⟨v, rfl, r⟩ := reps1 rs
    cases r
    obtain ⟨i, rest, e, h⟩ := h
    exact ⟨_, _, i, rest, rfl, rfl, e, k _ _ G H (.refl s) (.int _) h⟩
  · exact h.elim
theorem pu_sindex (ho : PuO X o po) (ha : PuA X (e :: es) ps) (hbase : attributeBase o "index" X.env (eval o X.env) = eval o X.env := by rfl)
    (hfew : ((backTo cpos (starEach (e :: es) X.env)).all (fun x => !x.1) && (backToKw cpos (keywordEach [] X.env)).all (fun x => x.1.isSome)
      && decide ((e :: es).length + ([] : List Keyword).length + (if ([] : List Keyword).isEmpty then 0 else 1) < 30)) = true := by rfl)
    (hline : (apos.endLine == cpos.line) = true := by rfl) (hs : starEach (e :: es) X.env = (false, eval e X.env) :: starEach es X.env := by rfl) (hplain : (backTo cpos (starEach es X.env)).any (·.1) = false := by rfl) :
    PuE X (.Call (.Attribute o "index" apos) (e :: es) [] cpos) (pMtS sidxF po ps) :=
  pu_mts PySem.F.slot_str_index PySem.F.type_str_index mt_sindex sidxF_ok ho ha hbase hfew hline hs hplain
def scntF : Str → List D → (D → Prop) → Prop := fun z ds P => match ds with
  | [.str w] => P (.int (Txt.count z w))
  | _ => False
theorem scntF_1 {z w : Str} {P : D → Prop} : scntF z [.str w] P = P (.int (Txt.count z w)) := rfl
theorem scntF_ok : MtS X (fun x xs H Q => ∃ a b, x = .str a ∧ xs = [.str b] ∧ Q (.int (Txt.count a b)) H) scntF := by
  intro G H z vs ds P Q s rs h k
  unfold scntF at h
  split at h
  · obtain ⟨v, rfl, r⟩ := reps1 rs
    cases r
    exact ⟨_, _, rfl, rfl, k _ _ G H (.refl s) (.int _) h⟩
  · exact h.elim
theorem pu_scount (ho : PuO X o po) (ha : PuA X (e :: es) ps) (hbase : attributeBase o "count" X.env (eval o X.env) = eval o X.env := by rfl)
    (hfew : ((backTo cpos (starEach (e :: es) X.env)).all (fun x => !x.1) && (backToKw cpos (keywordEach [] X.env)).all (fun x => x.1.isSome)
      && decide ((e :: es).length + ([] : List Keyword).length + (if ([] : List Keyword).isEmpty then 0 else 1) < 30)) = true := by rfl)
    (hline : (apos.endLine == cpos.line) = true := by rfl) (hs : starEach (e :: es) X.env = (false, eval e X.env) :: starEach es X.env := by rfl) (hplain : (backTo cpos (starEach es X.env)).any (·.1) = false := by rfl) :
    PuE X (.Call (.Attribute o "count" apos) (e :: es) [] cpos) (pMtS scntF po ps) :=
  pu_mts PySem.F.slot_str_count PySem.F.type_str_count mt_count scntF_ok ho ha hbase hfew hline hs hplain
end
end PL
end

section
set_option linter.all false
set_option maxRecDepth 100000
set_option maxHeartbeats 4000000
set_option autoImplicit false
/-! PL22: < of tuples of ints and texts. -/
namespace PL
open PySem PySem.Spec PyProof.Rows L2
/-- equal, less -/
def scV : V → V → Option (Bool × Bool)
  | .int a, .int b => some (decide (a = b), decide (a < b))
  | .str a, .str b => some (decide (a = b), decide (a.cps.toList < b.cps.toList))
  | _, _ => none
def ltV : List V → List V → Option Bool
  | [], [] => some false
  | [], _ :: _ => some true
  | _ :: _, [] => some false
  | x :: xs, y :: ys => match scV x y with
    | some (true, _) => ltV xs ys
    | some (false, r) => some r
    | none => none
/-- only pairs up to the first unequal one are looked at: all must be of one kind -/
def allV : List V → List V → Bool
  | x :: xs, y :: ys => (scV x y).isSome && allV xs ys
  | _, _ => true
def eF (xs ys : List V) (j : Nat) : Bool := match xs[j]?, ys[j]? with
  | some x, some y => ((scV x y).map (·.1)).getD false
  | _, _ => false
def rF (xs ys : List V) (j : Nat) : Bool := match xs[j]?, ys[j]? with
  | some x, some y => ((scV x y).map (·.2)).getD false
  | _, _ => false
theorem lexAt_eq : ∀ (xs ys : List V) (pre pre' : List V) (r : Bool), pre.length = pre'.length → allV xs ys = true → ltV xs ys = some r →
    Ob.lexAt (eF (pre ++ xs) (pre' ++ ys)) (rF (pre ++ xs) (pre' ++ ys)) (decide ((pre ++ xs).length < (pre' ++ ys).length)) pre.length (min xs.length ys.length) = r
  | [], [], pre, pre', r, hp, _, h => by
    cases h
    rw [List.length_nil, Nat.min_self, Ob.lexAt_zero, List.append_nil, List.append_nil, hp]
    simp
  | [], y :: ys, pre, pre', r, hp, _, h => by
    cases h
    rw [List.length_nil, Nat.zero_min, Ob.lexAt_zero]
    simp [hp]
  | x :: xs, [], pre, pre', r, hp, _, h => by
    cases h
    rw [List.length_nil, Nat.min_zero, Ob.lexAt_zero]
    simp [hp]
  | x :: xs, y :: ys, pre, pre', r, hp, ha, h => by
    unfold allV at ha
    rw [Bool.and_eq_true] at ha
    obtain ⟨⟨e, l⟩, hs⟩ := Option.isSome_iff_exists.mp ha.1
    have g1 : (pre ++ x :: xs)[pre.length]? = some x := by simp
    have g2 : (pre' ++ y :: ys)[pre.length]? = some y := by rw [hp]; simp
    have ee : eF (pre ++ x :: xs) (pre' ++ y :: ys) pre.length = e := by unfold eF; rw [g1, g2]; simp [hs]
    have er : rF (pre ++ x :: xs) (pre' ++ y :: ys) pre.length = l := by unfold rF; rw [g1, g2]; simp [hs]
    rw [List.length_cons, List.length_cons, show min (xs.length + 1) (ys.length + 1) = min xs.length ys.length + 1 by omega, Ob.lexAt_succ, ee, er]
    unfold ltV at h
    rw [hs] at h
    cases e with
    | false => cases h; rw [if_neg (by decide)]
    | true =>
      rw [if_pos rfl]
      have ih := lexAt_eq xs ys (pre ++ [x]) (pre' ++ [y]) r (by simp [hp]) ha.2 h
      simpa using ih
theorem Vals.at_ {xs : List V} {us : List Value} (r : Vals xs us) {j : Nat} (h : j < us.toArray.size) : ∃ x, xs[j]? = some x ∧ RelV x us.toArray[j] := by
  have hl : j < us.length := by simpa using h
  have hx : j < xs.length := by rw [r.length]; exact hl
  obtain ⟨u, e, q⟩ := r.get (i := j) (x := xs[j]) (List.getElem?_eq_getElem hx)
  refine ⟨xs[j], List.getElem?_eq_getElem hx, ?_⟩
  rw [List.getElem?_eq_getElem hl] at e
  cases e
  simpa using q
def rLtS (K : PySem.W.Frag) : R2 := fun x y H Q => ∃ a b xs ys r, x = .ref a ∧ y = .ref b ∧ SqT K H a xs ∧ SqT K H b ys ∧ allV xs ys = true ∧ ltV xs ys = some r ∧ Q (.bl r) H
theorem op_ltS {X : Cx} (hu : X.A.units < cLine) : OpR X (compareOp .Lt) (rLtS X.K) := by
  intro pins s σ H x y v u Q I rx ry h
  obtain ⟨a, b, xs, ys, r, rfl, rfl, ha, hb, hall, hl, q⟩ := h
  cases rx
  cases ry
  obtain ⟨us, r1, p1, _⟩ := I.tuple ha
  obtain ⟨ws, r2, p2, _⟩ := I.tuple hb
  have all_at : ∀ {xs ys : List V} {j : Nat} {x y : V}, allV xs ys = true → xs[j]? = some x → ys[j]? = some y → ∃ p, scV x y = some p := by
    intro xs
    induction xs with
    | nil => intro ys j x y _ h; simp at h
    | cons z xs ih =>
      intro ys j x y ha hx hy
      cases ys with
      | nil => simp at hy
      | cons w ys =>
        unfold allV at ha
        rw [Bool.and_eq_true] at ha
        cases j with
        | zero => cases hx; cases hy; exact Option.isSome_iff_exists.mp ha.1
        | succ j => exact ih ha.2 (by simpa using hx) (by simpa using hy)
  have R := Ob.RcOp.tuples_lt (A := X.A) (s := s) (e := eF xs ys) (r := rF xs ys) p1 p2 hu (fun j h1 h2 => by
    obtain ⟨x, ex, qx⟩ := Vals.at_ r1 h1
    obtain ⟨y, ey, qy⟩ := Vals.at_ r2 h2
    obtain ⟨p, hp⟩ := all_at hall ex ey
    have e1 : eF xs ys j = p.1 := by unfold eF; rw [ex, ey]; simp [hp]
    rw [e1]
    cases x <;> cases y <;> first | (exfalso; unfold scV at hp; cases hp; done) | skip
    · rename_i i k
      obtain ⟨t, et⟩ := qx
      obtain ⟨t', et'⟩ := qy
      rw [et, et']
      unfold scV at hp
      cases hp
      have z : decide (i = k) = (i == k) := by by_cases q : i = k <;> simp [q]
      show SeqAt.EqAt _ _ _ _ (decide (i = k))
      rw [z]
      exact SeqAt.EqAt.int_int _ _ _ _
    · rename_i i k
      obtain ⟨t, et⟩ := qx
      obtain ⟨t', et'⟩ := qy
      rw [et, et']
      unfold scV at hp
      cases hp
      have z : decide (i = k) = (i == k) := by by_cases q : i = k <;> simp [q]
      show SeqAt.EqAt _ _ _ _ (decide (i = k))
      rw [z]
      exact SeqAt.EqAt.str_str _ _ _ _) (fun j h1 h2 _ => by
    obtain ⟨x, ex, qx⟩ := Vals.at_ r1 h1
    obtain ⟨y, ey, qy⟩ := Vals.at_ r2 h2
    obtain ⟨p, hp⟩ := all_at hall ex ey
    have e1 : rF xs ys j = p.2 := by unfold rF; rw [ex, ey]; simp [hp]
    rw [e1]
    cases x <;> cases y <;> first | (exfalso; unfold scV at hp; cases hp; done) | skip
    · obtain ⟨t, et⟩ := qx
      obtain ⟨t', et'⟩ := qy
      rw [et, et']
      unfold scV at hp
      cases hp
      exact Ob.RcOp.lt_int _ _ _ _
    · obtain ⟨t, et⟩ := qx
      obtain ⟨t', et'⟩ := qy
      rw [et, et']
      unfold scV at hp
      cases hp
      exact fun _ _ _ _ h => PyProof.Rows.lt_str h)
  have e := lexAt_eq xs ys [] [] r rfl hall hl
  simp only [List.nil_append, List.length_nil] at e
  have n1 : us.toArray.size = xs.length := by rw [List.size_toArray, r1.length]
  have n2 : ws.toArray.size = ys.length := by rw [List.size_toArray, r2.length]
  rw [n1, n2, e] at R
  exact R X.prog X.w _ _ ⟨.bl r, H, I, rfl, q⟩
/-! over data -/
def scD : D → D → Option (Bool × Bool)
  | .int a, .int b => some (decide (a = b), decide (a < b))
  | .str a, .str b => some (decide (a = b), decide (a.cps.toList < b.cps.toList))
  | _, _ => none
def ltD : List D → List D → Option Bool
  | [], [] => some false
  | [], _ :: _ => some true
  | _ :: _, [] => some false
  | x :: xs, y :: ys => match scD x y with
    | some (true, _) => ltD xs ys
    | some (false, r) => some r
    | none => none
def allD : List D → List D → Bool
  | x :: xs, y :: ys => (scD x y).isSome && allD xs ys
  | _, _ => true
theorem scD_V {K : PySem.W.Frag} {mg : MG} {G : Hp} {v w : V} {x y : D} (r1 : Rep K mg G v x) (r2 : Rep K mg G w y) (h : (scD x y).isSome = true) : scV v w = scD x y := by
  cases x <;> cases y <;> first | (exfalso; unfold scD at h; cases h; done) | skip
  · cases r1; cases r2; rfl
  · cases r1; cases r2; rfl
theorem ltD_V {K : PySem.W.Frag} {mg : MG} {G : Hp} : ∀ {vs ws : List V} {xs ys : List D}, Reps K mg G vs xs → Reps K mg G ws ys → allD xs ys = true → allV vs ws = true ∧ ltV vs ws = ltD xs ys
  | _, _, _, _, .nil, .nil, _ => ⟨rfl, rfl⟩
  | _, _, _, _, .nil, .cons _ _, _ => ⟨rfl, rfl⟩
  | _, _, _, _, .cons _ _, .nil, _ => ⟨rfl, rfl⟩
  | _, _, _, _, .cons r1 t1, .cons r2 t2, h => by
    unfold allD at h
    rw [Bool.and_eq_true] at h
    have e := scD_V r1 r2 h.1
    obtain ⟨i1, i2⟩ := ltD_V t1 t2 h.2
    unfold allV ltV ltD
    rw [e, i1, h.1]
    refine ⟨rfl, ?_⟩
    split <;> first | exact i2 | rfl
def ltTP : BinP := fun x y P => match x, y with
  | .tup xs, .tup ys => allD xs ys = true ∧ ∃ r, ltD xs ys = some r ∧ P (.bl r)
  | _, _ => False
theorem ltTP_t {xs ys : List D} {P : D → Prop} : ltTP (.tup xs) (.tup ys) P = (allD xs ys = true ∧ ∃ r, ltD xs ys = some r ∧ P (.bl r)) := rfl
section
variable {X : Cx} {a b : Expr} {pa pb : PTE} {pos : Pos}
theorem ltTP_ok : BinOk X (rLtS X.K) ltTP := by
  intro G H v w x y P Q s r1 r2 h k
  unfold ltTP at h
  split at h
  · obtain ⟨ha, r, hr, q⟩ := h
    obtain ⟨l, vs, rfl, e1, t1⟩ := r1.tup s
    obtain ⟨m, ws, rfl, e2, t2⟩ := r2.tup s
    obtain ⟨i1, i2⟩ := ltD_V t1 t2 ha
    exact ⟨l, m, vs, ws, r, rfl, rfl, SqT.of e1, SqT.of e2, i1, i2.trans hr, k _ _ G H (.refl s) (.bl r) q⟩
  · exact h.elim
theorem pu_ltT (hu : X.A.units + 64 < cLine) (ha : PuO X a pa) (hb : PuO X b pb) : PuE X (.Compare a [.Lt] [b] pos) (pBin ltTP pa pb) := pu_cmp (op_ltS (by omega)) ltTP_ok ha hb (nomark _)
theorem put_ltT (hu : X.A.units + 64 < cLine) (ha : PuO X a pa) (hb : PuO X b pb) : PuT X (.Compare a [.Lt] [b] pos) (pB (pBin ltTP pa pb)) := put_cmp (op_ltS (by omega)) ltTP_ok ha hb (nomark _)
end
end PL
end

section
set_option linter.all false
set_option maxRecDepth 100000
set_option maxHeartbeats 4000000
set_option autoImplicit false
/-! PL23: errors raised, passed on, caught. -/
namespace PL
open PySem PySem.Spec PyProof.Rows L2

/-! ### at the hand layer: a caught exception is tracked -/
/-- a caught exception of the class at C, its dict at dx -/
def exT (a C dx : Addr) : HO := .ext fun h => ∃ (oe : Obj) (ws : Array Value), h.get? a = some oe ∧ Zc (.ref C) (some dx) oe ∧ oe.data = .fields ws
theorem exq_exT {a C dx : Addr} : Exq (exT a C dx) a C dx := ⟨_, rfl, fun _ ⟨oe, ws, e, z, d⟩ => ⟨oe, ws, e, z.1, z.2, d⟩⟩
/-- the heap in which a caught exception stands -/
def caught (H : Hp) (a C dx : Addr) (vs : List (Str × V)) : Hp := upd (upd H dx (exd dx vs)) a (exT a C dx)
section
variable {X : Cx} {pins : List (Addr × Obj)} {σ : L2.St} {H : Hp} {s : Shared} {a C dx : Addr} {vs : List (Str × V)} {oe : Obj} {ws : Array Value}
theorem caught_other {b : Addr} (ha : H a = none) (hd : H dx = some (.xd vs)) (n1 : b ≠ a) (n2 : b ≠ dx) : caught H a C dx vs b = H b := by
  unfold caught
  rw [upd_ne n1, upd_ne n2]
theorem caught_hok {P : Program} {w : World} {h : Heap} (ok : HOk P w H h) (he : h.get? a = some oe) (hz : Zc (.ref C) (some dx) oe) (hf : oe.data = .fields ws) (ha : H a = none) (hd : H dx = some (.xd vs)) : HOk P w (caught H a C dx vs) h := by
  have ned : dx ≠ a := fun z => by subst z; rw [ha] at hd; cases hd
  have keepO : ∀ c x, H c = some (.own x) → caught H a C dx vs c = some (.own x) := fun c x q => by
    have n1 : c ≠ a := fun z => by subst z; rw [ha] at q; cases q
    have n2 : c ≠ dx := fun z => by subst z; rw [hd] at q; cases q
    rw [caught_other ha hd n1 n2]; exact q
  have keepT : ∀ c xs, H c = some (.tup xs) → caught H a C dx vs c = some (.tup xs) := fun c x q => by
    have n1 : c ≠ a := fun z => by subst z; rw [ha] at q; cases q
    have n2 : c ≠ dx := fun z => by subst z; rw [hd] at q; cases q
    rw [caught_other ha hd n1 n2]; exact q
  intro b u q
  by_cases n1 : b = a
  · subst n1
    have z : caught H b C dx vs b = some (exT b C dx) := upd_same
    rw [z] at q; cases q
    exact ⟨⟨oe, ws, he, hz, hf⟩, ⟨oe, he⟩, fun h1 h2 ⟨o, w2, e, r⟩ k => ⟨o, w2, k o e, r⟩⟩
  · by_cases n2 : b = dx
    · subst n2
      have z : caught H a C b vs b = some (exd b vs) := by
        unfold caught
        rw [upd_ne n1, upd_same]
      rw [z] at q; cases q
      have old : ObjOk P w H h b (.xd vs) := ok b _ hd
      obtain ⟨mA, hn, hr⟩ := old
      exact exd_ok hn hr
    · rw [caught_other ha hd n1 n2] at q
      exact (ok b u q).stay (fun c x _ z => z) (fun c z => keepO c b z) fun c xs z => keepT c xs z
/-- an exception that has landed stands in the suite's state as data -/
theorem susp (I : Inv X pins σ H s) (he : s.heap.get? a = some oe) (hz : Zc (.ref C) (some dx) oe) (hf : oe.data = .fields ws) (ha : H a = none) (hd : H dx = some (.xd vs)) (nL : a ≠ X.env.locals) (n0 : X.s_0.heap.get? a = none) (np : ∀ p ∈ X.pn ++ pins, p.1 ≠ a) :
    Inv (X.suite a (X.pn ++ pins)) [] σ (caught H a C dx vs) s := by
  have ned : dx ≠ a := fun z => by subst z; rw [ha] at hd; cases hd
  have hid : ∀ b, b ≠ a → H b = none → caught H a C dx vs b = none := fun b n q => by
    have n2 : b ≠ dx := fun z => by subst z; rw [hd] at q; cases q
    rw [caught_other ha hd n n2]; exact q
  have hto : ∀ b u, H b = some u → (∀ ys, u ≠ .xd ys) → caught H a C dx vs b = some u := fun b u q nx => by
    have n1 : b ≠ a := fun z => by subst z; rw [ha] at q; cases q
    have n2 : b ≠ dx := fun z => by subst z; rw [hd] at q; cases q; exact nx _ rfl
    rw [caught_other ha hd n1 n2]; exact q
  refine ⟨I.ok.suite _ _, I.os, I.bare, ⟨I.base.keep, I.base.slot, fun b o e n x => ?_, I.base.there, fun b xs e => ?_, fun b o u e => ?_, fun b ps e => ?_⟩, I.loc, I.cell, hid _ (Ne.symm nL) I.free, fun x c e => ?_, fun p hp => ?_, caught_hok I.hok he hz hf ha hd, I.len⟩
  · exact hid b (fun z => by subst z; rw [n0] at e; cases e) (I.base.free b o e n x)
  · exact hto b _ (I.base.tups b xs e) fun ys z => nomatch z
  · exact hto b _ (I.base.frzs b o u e) fun ys z => nomatch z
  · obtain ⟨m, q⟩ := I.base.tbls b ps e
    exact ⟨m, hto b _ q fun ys z => nomatch z⟩
  · refine hid c (fun z => ?_) (I.freeC x c e)
    subst z
    obtain ⟨v, o, ho, hc⟩ := I.cell x c e
    rw [he] at ho; cases ho
    rw [hf] at hc; cases hc
  · have hp' : p ∈ X.pn ++ pins := by rw [List.append_nil] at hp; exact hp
    obtain ⟨e, n, nl, nf, d⟩ := I.pin p hp'
    exact ⟨e, hid _ (np p hp') n, nl, nf, d⟩
theorem unsusp {pn2 : List (Addr × Obj)} (I : Inv (X.suite a (X.pn ++ pins)) pn2 σ H s) (ok : X.Ok) : Inv X pins σ H s :=
  ⟨ok, I.os, I.bare, I.base, I.loc, I.cell, I.free, I.freeC, fun p hp => I.pin p (List.mem_append_left _ hp), I.hok, I.len⟩
end

/-! ### except clauses -/
abbrev SuT := Addr → List (Addr × Obj) → TS
inductive Hds (X : Cx) : List ExceptHandler → List (Value × Option Nat × SuT) → Prop
  | nil : Hds X [] []
  | only {x : Str} {c : Value} {ts : SuT} {b : Stmt} {su : List Stmt} {np hp : Pos} {r : List ExceptHandler} {l : List (Value × Option Nat × SuT)} (hc : Names X x c) (hsu : ∀ a pn, PSs (X.suite a pn) (b :: su) (ts a pn)) (t : Hds X r l) :
      Hds X (.ExceptHandler (some (.Name x np)) none (b :: su) hp :: r) ((c, none, ts) :: l)
  | as {x n : Str} {c : Value} {i : Nat} {ts : SuT} {b : Stmt} {su : List Stmt} {np hp : Pos} {r : List ExceptHandler} {l : List (Value × Option Nat × SuT)} (hc : Names X x c) (hN : X.N.Nodup) (hi : X.N[i]? = some n) (hl : X.env.kindOf n = some .local)
      (hsu : ∀ a pn, PSs (X.suite a pn) (b :: su) (ts a pn)) (t : Hds X r l) : Hds X (.ExceptHandler (some (.Name x np)) (some n) (b :: su) hp :: r) ((c, some i, ts) :: l)
/-- the ends of a suite whose name goes -/
def endsGo : Option Nat → Ends → Ends
  | none, D => D
  | some i, D => { nx := fun σ H => D.nx (σ.set i none) H, rt := D.rt, bk := fun σ H => D.bk (σ.set i none) H, ct := fun σ H => D.ct (σ.set i none) H }
def putEx : Option Nat → Addr → L2.St → L2.St
  | none, _, σ => σ
  | some i, a, σ => σ.set i (some (.ref a))
/-- what the clauses want of an exception, one behind another -/
def wHds (K : PySem.W.Frag) (Wo : WX) (D : Ends) : List (Value × Option Nat × SuT) → WX
  | [] => Wo
  | (c, i, ts) :: r => fun cls d σ H => ∃ b : Bool, PySem.W.exmOne K cls c = some b ∧
      (b = true → ∀ (a : Addr) (pn : List (Addr × Obj)) (Ca dx : Addr) (vs : List (Str × V)), H a = none → cls = .ref Ca → d = some dx → H dx = some (.xd vs) → ts a pn (endsGo i D) (putEx i a σ) (caught H a Ca dx vs)) ∧
      (b = false → wHds K Wo D r cls d σ H)
def wTry (K : PySem.W.Frag) (Wo : WX) (D : Ends) (l : List (Value × Option Nat × SuT)) : WX := fun cls d σ H => (∃ (Ca dx : Addr) (vs : List (Str × V)), cls = .ref Ca ∧ d = some dx ∧ H dx = some (.xd vs)) ∧ wHds K Wo D l cls d σ H
section
variable {X : Cx} {body : List Stmt} {h₀ : ExceptHandler} {hds : List ExceptHandler} {l : List (Value × Option Nat × SuT)} {pos : Pos}
theorem ps_tryE {tb : List (Addr × Obj) → (Value → Shared → Prop) → TS} (hs : X.stack = X.env :: X.outer) (hf : X.env.frame = some X.env.locals) (hex : X.ex = [])
    (hb : ∀ (pn : List (Addr × Obj)) (xe : Value → Shared → Prop), PassesOwn (model X.prog X.w) X.A X.env xe → PSs (X.tr pn xe) body (tb pn xe)) (hh : Hds X (h₀ :: hds) l) :
    PS X (.Try body (h₀ :: hds) [] [] pos) (fun D σ H => ∃ Wo : WX, Takes X Wo ∧ ∀ (pn : List (Addr × Obj)) (xe : Value → Shared → Prop), PassesOwn (model X.prog X.w) X.A X.env xe → Takes (X.tr pn xe) (wTry X.K Wo D l) → tb pn xe D σ H) := by
  refine ⟨fun pins s σ H D I ⟨Wo, tk, h⟩ => ?_⟩
  have okX := I.ok
  have frm : X.A.frames = some (X.env :: X.outer) := okX.frames.trans (congrArg some hs)
  let catch_ : Value → Shared → Prop := fun u sx => wpAny (model X.prog X.w) X.A (noteFrame u X.env) (fun _ sy => wpAny (model X.prog X.w) X.A (setFlight u none) (fun _ sz => wpAny (model X.prog X.w) X.A (handleBy u X.env (h₀ :: hds)) (SP X pins D) X.xe sz) X.xe sy) X.xe sx
  have hpo : PassesOwn (model X.prog X.w) X.A X.env catch_ := PassesOwn.looking
  have got : Takes (X.tr (X.pn ++ pins) catch_) (wTry X.K Wo D l) := by
    intro u s2 air
    obtain ⟨a, B, sI, pI, σ2, H2, cls, d, rfl, JI, nb, up, sky, na, os, ag, ⟨Ca, dx, vs, rfl, rfl, hxd⟩, wh⟩ := air
    have J : Inv X pins σ2 H2 sI := JI.ofTry okX
    have sky2 : Sky B (X.env :: X.outer) a (Zc (.ref Ca) (some dx)) X.env.locals s2.heap := by rw [← hs]; exact sky
    show wpAny (model X.prog X.w) X.A (noteFrame (.ref a) X.env) _ _ _
    refine Sky.land Zc.steady frm hf sky2 fun h3 fly up3 => ?_
    have J3 : Inv X pins σ2 H2 { s2 with heap := h3 } := J.landed nb fly.1 (up.trans up3) os ag
    obtain ⟨o3, w3, e3, z3, d3⟩ := fly.there
    have out : a ∉ frs (X.env :: X.outer) := fun hm => by
      obtain ⟨_, o4, e4, nf⟩ := fly.2.2.1.mem hm
      rw [e3] at e4; cases e4
      exact nf _ d3
    have nL : a ≠ X.env.locals := fun z => out (List.mem_filterMap.mpr ⟨X.env, List.mem_cons_self, by rw [hf, z]⟩)
    have nI : sI.heap.get? a = none := by
      cases q : sI.heap.get? a with
      | none => rfl
      | some o =>
        have y := nb a o q (by rw [hs]; exact out)
        rw [fly.2.1] at y; cases y
    have n0 : X.s_0.heap.get? a = none := by
      cases q : X.s_0.heap.get? a with
      | none => rfl
      | some o =>
        obtain ⟨o4, y⟩ := J.base.there a o q (by rw [hex]; exact List.not_mem_nil)
        rw [nI] at y; cases y
    have np : ∀ p ∈ X.pn ++ pins, p.1 ≠ a := fun p hp z => by
      have y := (J.pin p hp).1
      rw [z, nI] at y; cases y
    have S3 := susp J3 e3 z3 d3 na hxd nL n0 np
    have go : ∀ {hq : List ExceptHandler} {lq : List (Value × Option Nat × SuT)}, Hds X hq lq → wHds X.K Wo D lq (.ref Ca) (some dx) σ2 H2 → wpAny (model X.prog X.w) X.A (handleBy (.ref a) X.env hq) (SP X pins D) X.xe { s2 with heap := h3 } := by
      intro hq lq hk
      have tst : ∀ {x : Str} {c : Value} {np : Pos} {Q E : Value → Shared → Prop}, Names X x c → Q c { s2 with heap := h3 } → wpAny (model X.prog X.w) (X.A.mark (some (.ref a))) (eval (.Name x np) X.env) Q E { s2 with heap := h3 } := fun {x c np Q E} hc q => by
        obtain ⟨g1, g2, m1 | ⟨m1, m2, m3⟩⟩ := hc
        · exact ld_glob (X := X.suite a (X.pn ++ pins)) S3 g1 m1 q g2
        · exact ld_blt (X := X.suite a (X.pn ++ pins)) S3 g1 m1 m2 q m3 g2
      have look : PySem.W.Looks (model X.prog X.w) h3 (typeOf (.ref a)) (.ref Ca) := fun A Q E s k q => wpAny_typeOf_ref (k _ _ e3) (by rw [z3.1]; exact q)
      induction hk with
      | nil =>
        intro w
        refine wpAny_handleBy_nil ?_
        obtain ⟨f1, f2, f3, oe, ve, T, oT, te, he, hz, hd, h1, hr⟩ := id fly
        unfold PySem.passOn
        refine wpAny_bind (wpAny_field he hd h1 ?_)
        rw [if_neg (show ¬ ((Value.ref T == Value.none) = true) from by simp)]
        have away : wpAny (model X.prog X.w) X.A (setFlight (.ref a) X.env.frame) (fun _ sq => wpAny (model X.prog X.w) X.A (throw (.ref a) : Sem Flow) (SP X pins D) X.xe sq) X.xe { s2 with heap := h3 } := by
          rw [hf]
          refine HandSPX.setFlight_upZ fly fun h4 hh4 up4 => wpAny_throw (tk _ _ ⟨a, B, sI, pins, σ2, H2, .ref Ca, some dx, rfl, J, nb, (up.trans up3).trans up4, .inr (.inr (by rw [hs]; exact hh4)), na, os, ag, w⟩)
        first
          | exact wpAny_bind (wpAny_pure (wpAny_bind away))
          | exact wpAny_bind away
      | only hc hsu r ih =>
        intro w
        obtain ⟨b, hb1, yes, no⟩ := w
        refine wpAny_handleBy_cons (codeAny_handlers_test (tst hc ((PySem.W.exm_one (M := model X.prog X.w) J3.kIn look hb1).here ?_))) (fun q => nomatch q)
        cases b with
        | false => exact ih (no rfl)
        | true =>
          refine codeAny_handlers_suite (HandSPX.lands_againZ fly fun h4 fly4 up4 => ?_)
          have J4 : Inv X pins σ2 H2 { s2 with heap := h4 } := J.landed nb fly4.1 ((up.trans up3).trans up4) os ag
          obtain ⟨o4, w4, e4, z4, d4⟩ := fly4.there
          have S4 := susp J4 e4 z4 d4 na hxd nL n0 np
          refine wpAny_mono ((hsu a (X.pn ++ pins)).run [] _ _ _ _ S4 (yes rfl a _ Ca dx vs na rfl rfl hxd)) (fun f s6 e => ?_) (fun _ _ z => False.elim z)
          cases f with
          | next => obtain ⟨σ6, H6, S6, q6⟩ := e; exact ⟨_, _, unsusp S6 okX, q6⟩
          | brk => obtain ⟨σ6, H6, S6, q6⟩ := e; exact ⟨_, _, unsusp S6 okX, q6⟩
          | cont => obtain ⟨σ6, H6, S6, q6⟩ := e; exact ⟨_, _, unsusp S6 okX, q6⟩
          | ret u => obtain ⟨v6, σ6, H6, S6, r6, q6⟩ := e; exact ⟨_, _, _, unsusp S6 okX, r6, q6⟩
      | @as x n c i ts b0 su np' hp' r lr hc hN hi hl hsu rr ih =>
        intro w
        obtain ⟨b, hb1, yes, no⟩ := w
        refine wpAny_handleBy_cons (codeAny_handlers_test (tst hc ((PySem.W.exm_one (M := model X.prog X.w) J3.kIn look hb1).here ?_))) (fun q => nomatch q)
        cases b with
        | false => exact ih (no rfl)
        | true =>
          refine codeAny_handlers_suite_as (HandSPX.lands_againZ fly fun h4 fly4 up4 => ?_)
          have J4 : Inv X pins σ2 H2 { s2 with heap := h4 } := J.landed nb fly4.1 ((up.trans up3).trans up4) os ag
          obtain ⟨o4, w4, e4, z4, d4⟩ := fly4.there
          have S4 := susp J4 e4 z4 d4 na hxd nL n0 np
          refine store_ok (X := X.suite a (X.pn ++ pins)) (v := .ref a) S4 hN hi (.inl hl) rfl (fun s5 S5 => ?_) (.inr hl)
          refine wpAny_mono ((hsu a (X.pn ++ pins)).run [] s5 _ _ _ S5 (yes rfl a _ Ca dx vs na rfl rfl hxd)) (fun f s6 e => ?_) (fun _ _ z => False.elim z)
          have away : ∀ {σ6 : L2.St} {H6 : Hp} {Q : Shared → Prop}, Inv (X.suite a (X.pn ++ pins)) [] σ6 H6 s6 → (∀ s7, Inv X pins (σ6.set i none) H6 s7 → Q s7) →
              wpAny (model X.prog X.w) X.A (do bindName X.env n .none; unbindBehindTheSuite X.env n hp') (fun _ s7 => Q s7) X.xe s6 := fun {σ6 H6 Q} S6 hq => gone_ok (unsusp S6 okX) hN hi hl hq
          cases f with
          | next => obtain ⟨σ6, H6, S6, q6⟩ := e; exact away S6 fun s7 J7 => ⟨_, _, J7, q6⟩
          | brk => obtain ⟨σ6, H6, S6, q6⟩ := e; exact away S6 fun s7 J7 => ⟨_, _, J7, q6⟩
          | cont => obtain ⟨σ6, H6, S6, q6⟩ := e; exact away S6 fun s7 J7 => ⟨_, _, J7, q6⟩
          | ret u => obtain ⟨v6, σ6, H6, S6, r6, q6⟩ := e; exact away S6 fun s7 J7 => ⟨_, _, _, J7, r6, q6⟩
    exact go hh wh
  refine wpAny_Try_except (wpAny_mono ((hb (X.pn ++ pins) catch_ hpo).run [] s σ H D (I.toTry _) (h _ _ hpo got)) (fun f s1 e => ?_) (fun u s1 e => e))
  cases f with
  | next => obtain ⟨σ2, H2, J2, q⟩ := e; exact wpAny_execs_nil ⟨σ2, H2, J2.ofTry okX, q⟩
  | brk => obtain ⟨σ2, H2, J2, q⟩ := e; exact ⟨σ2, H2, J2.ofTry okX, q⟩
  | cont => obtain ⟨σ2, H2, J2, q⟩ := e; exact ⟨σ2, H2, J2.ofTry okX, q⟩
  | ret u => obtain ⟨v, σ2, H2, J2, r, q⟩ := e; exact ⟨v, σ2, H2, J2.ofTry okX, r, q⟩
end

/-! ### over data -/
/-- what is known of a class that a clause names -/
structure ExS (K : PySem.W.Frag) (mg : MG) (sub : STab) (u : Value) : Prop where
  ex : ∀ c b, sub c = some b → ∃ C, mg c = some (.ref C) ∧ PySem.W.exmOne K (.ref C) u = some b
abbrev HdD := STab × Option Nat × PTS
def goD : Option Nat → PEnds → PEnds
  | none, PD => { PD with er := fun _ _ => False }
  | some i, PD => { nx := fun e => PD.nx (e.set i .un), rt := PD.rt, bk := fun e => PD.bk (e.set i .un), ct := fun e => PD.ct (e.set i .un), ro := PD.ro }
def putD_ : Option Nat → D → List C → List C
  | none, _, env => env
  | some i, d, env => env.set i (.fz d)
/-- the clauses, one behind another -/
def pHds : List HdD → PEnds → List C → D → Prop
  | [], PD, env, d => PD.er env d
  | (sub, i, p) :: r, PD, env, d => ∃ (cls : Str) (fs : List (Str × D)) (b : Bool), d = .err cls fs ∧ sub cls = some b ∧ (b = true → p (goD i PD) (putD_ i d env)) ∧ (b = false → pHds r PD env d)
def pTry (p : PTS) (l : List HdD) : PTS := fun PD env => p { PD with er := fun e d => pHds l PD e d } env
inductive PHd (X : Cx) : List ExceptHandler → List HdD → Prop
  | nil : PHd X [] []
  | only {x : Str} {c : Value} {sub : STab} {p : PTS} {b : Stmt} {su : List Stmt} {np hp : Pos} {r : List ExceptHandler} {l : List HdD} (hc : Names X x c) (S : ExS X.K X.mg sub c) (hsu : ∀ a pn, PuSs (X.suite a pn) (b :: su) p) (t : PHd X r l) :
      PHd X (.ExceptHandler (some (.Name x np)) none (b :: su) hp :: r) ((sub, none, p) :: l)
  | as {x n : Str} {c : Value} {sub : STab} {i : Nat} {p : PTS} {b : Stmt} {su : List Stmt} {np hp : Pos} {r : List ExceptHandler} {l : List HdD} (hc : Names X x c) (S : ExS X.K X.mg sub c) (hN : X.N.Nodup) (hi : X.N[i]? = some n) (hl : X.env.kindOf n = some .local)
      (hsu : ∀ a pn, PuSs (X.suite a pn) (b :: su) p) (t : PHd X r l) : PHd X (.ExceptHandler (some (.Name x np)) (some n) (b :: su) hp :: r) ((sub, some i, p) :: l)
/-- slot i is wiped -/
theorem Rel.gone {K : PySem.W.Frag} {mg : MG} {G0 H0 G H : Hp} {env : List C} {σ : L2.St} (i : Nat) (h : Rel K mg G0 H0 G H env σ) : Rel K mg G0 H0 G H (env.set i .un) (σ.set i none) := by
  have f := h.forget i
  have ne : ∀ {j : Nat} {d : D}, (env.set i .un)[j]? = some (.ow d) → j ≠ i := fun {j d} q z => by
    subst z
    rw [List.getElem?_set] at q
    split at q
    · split at q <;> cases q
    · rename_i z; exact z rfl
  refine ⟨⟨h.ok.same, fun j c q => ?_, fun j k d e l q1 q2 s1 s2 => ?_, by simp [h.ok.len]⟩, h.ext, fun j d l q s1 => ?_⟩
  · by_cases z : j = i
    · subst z
      rw [List.getElem?_set] at q
      split at q
      · split at q
        · cases q; trivial
        · cases q
      · rename_i z; exact absurd rfl z
    · rw [List.getElem?_set_ne (Ne.symm z)]
      exact f.ok.slot j c q
  · rw [List.getElem?_set_ne (Ne.symm (ne q1))] at s1
    rw [List.getElem?_set_ne (Ne.symm (ne q2))] at s2
    exact f.ok.apart j k d e l q1 q2 s1 s2
  · rw [List.getElem?_set_ne (Ne.symm (ne q))] at s1
    exact f.own j d l q s1
/-- the dict of an exception is frozen -/
theorem Rel.xd {K : PySem.W.Frag} {mg : MG} {G0 H0 G H : Hp} {env : List C} {σ : L2.St} {dx : Addr} {vs : List (Str × V)} (r : Rel K mg G0 H0 G H env σ) (hd : H dx = some (.xd vs)) (h0 : H0 dx = none) (g : G dx = none) :
    Rel K mg G0 H0 (upd G dx (exd dx vs)) (upd H dx (exd dx vs)) env σ := by
  have sG : Same G (upd G dx (exd dx vs)) := Same.upd g
  have off : ∀ {l : Addr} {d : D}, Top K mg H G l d → l ≠ dx := fun {l d} t z => by
    subst z
    cases t with
    | lst a _ => rw [hd] at a; cases a
    | dk a _ => rw [hd] at a; cases a
    | dt a _ => rw [hd] at a; cases a
    | slf a _ _ => rw [hd] at a; cases a
  have sH : Same (upd G dx (exd dx vs)) (upd H dx (exd dx vs)) := fun b u q => by
    by_cases z : b = dx
    · subst z; rw [upd_same] at q ⊢; exact q
    · rw [upd_ne z] at q ⊢; exact r.ok.same _ _ q
  refine ⟨⟨sH, fun j c q => ?_, r.ok.apart, r.ok.len⟩, ⟨r.ext.g.trans sG, fun b u q => ?_, sH, fun a e n => ?_⟩, r.own⟩
  · have s := r.ok.slot j c q
    cases c with
    | un => trivial
    | fz d => obtain ⟨v, e, q⟩ := s; exact ⟨v, e, q.mono sG⟩
    | ow d =>
      obtain ⟨l, e, t, n⟩ := s
      have ne := off t
      refine ⟨l, e, ?_, by rw [upd_ne ne]; exact n⟩
      cases t with
      | lst a w => exact .lst (by rw [upd_ne ne]; exact a) (w.mono sG)
      | dk a w => exact .dk (by rw [upd_ne ne]; exact a) (w.mono sG)
      | dt a w => exact .dt (by rw [upd_ne ne]; exact a) (w.mono sG)
      | slf a m w => exact .slf (by rw [upd_ne ne]; exact a) m (w.mono sG)
  · have z : b ≠ dx := fun z => by subst z; rw [h0] at q; cases q
    rw [upd_ne z]
    exact r.ext.h _ _ q
  · by_cases z : a = dx
    · subst z; exact h0
    · rw [upd_ne z] at n; exact r.ext.f a e n
/-- a caught error is data -/
theorem Rel.caught {K : PySem.W.Frag} {mg : MG} {G0 H0 G H : Hp} {env : List C} {σ : L2.St} {a Ca dx : Addr} {cls : Str} {vs : List (Str × V)} {fs : List (Str × D)} (i : Option Nat) (r : Rel K mg G0 H0 G H env σ) (hm : mg cls = some (.ref Ca)) (hd : H dx = some (.xd vs)) (h0 : H0 dx = none) (g : G dx = none) (rf : RepF K mg G vs fs) (ha : H a = none) :
    Rel K mg G0 H0 (caught G a Ca dx vs) (caught H a Ca dx vs) (putD_ i (.err cls fs) env) (putEx i a σ) := by
  have ned : dx ≠ a := fun z => by subst z; rw [ha] at hd; cases hd
  have r1 := r.xd hd h0 g
  have na : upd H dx (exd dx vs) a = none := by rw [upd_ne (Ne.symm ned)]; exact ha
  have x := Ext.new (o := exT a Ca dx) r1.ok.same na
  have r2 := r1.step x
  have rep : Rep K mg (PL.caught G a Ca dx vs) (.ref a) (.err cls fs) := by
    refine .err upd_same exq_exT (dx := dx) (fs := vs) ?_ hm ?_
    · unfold PL.caught
      rw [upd_ne ned, upd_same]
    · exact rf.mono ((Same.upd g).trans x.g)
  cases i with
  | none => exact r2
  | some i => exact r2.setFz rep
section
variable {X : Cx}
theorem PHd.hds {h : List ExceptHandler} {l : List HdD} (p : PHd X h l) : ∃ lt, Hds X h lt ∧ ∀ (G0 H0 : Hp) (PD : PEnds) (E : Ends) (Wo : WX), EndsOk X G0 H0 PD E →
    (∀ (G H : Hp) (env : List C) (σ : L2.St) (cls : Str) (fs : List (Str × D)) (Ca d : Addr) (vs : List (Str × V)), Rel X.K X.mg G0 H0 G H env σ → X.mg cls = some (.ref Ca) → H d = some (.xd vs) → H0 d = none → G d = none → RepF X.K X.mg G vs fs → PD.er env (.err cls fs) → Wo (.ref Ca) (some d) σ H) →
    ∀ (G H : Hp) (env : List C) (σ : L2.St) (cls : Str) (fs : List (Str × D)) (Ca d : Addr) (vs : List (Str × V)), Rel X.K X.mg G0 H0 G H env σ → X.mg cls = some (.ref Ca) → H d = some (.xd vs) → H0 d = none → G d = none → RepF X.K X.mg G vs fs →
      pHds l PD env (.err cls fs) → wHds X.K Wo E lt (.ref Ca) (some d) σ H := by
  induction p with
  | nil => exact ⟨[], .nil, fun G0 H0 PD E Wo ok hw G H env σ cls fs Ca d vs r hm hd h0 g rf w => hw G H env σ cls fs Ca d vs r hm hd h0 g rf w⟩
  | only hc S hsu t ih =>
    obtain ⟨lt, h1, h2⟩ := ih
    refine ⟨_ :: lt, .only hc (fun a pn => (Classical.choose_spec (hsu a pn).ex).1) h1, fun G0 H0 PD E Wo ok hw G H env σ cls fs Ca d vs r hm hd h0 g rf w => ?_⟩
    obtain ⟨c2, f2, b, e, hs, yes, no⟩ := w
    cases e
    obtain ⟨C2, m2, x2⟩ := S.ex _ _ hs
    rw [hm] at m2; cases m2
    refine ⟨b, x2, fun e a pn Ca' dx' vs' ha e1 e2 e3 => ?_, fun e => h2 G0 H0 PD E Wo ok hw G H env σ cls fs Ca d vs r hm hd h0 g rf (no e)⟩
    cases e1; cases e2
    rw [hd] at e3; cases e3
    refine (Classical.choose_spec (hsu a pn).ex).2 G0 H0 _ _ _ _ (goD none PD) (endsGo none E) (r.caught none hm hd h0 g rf ha) ⟨ok.nx, ok.bk, ok.ct, ok.rt, ok.ro, ⟨_, tk0, fun _ _ _ _ _ _ _ _ _ _ _ _ _ _ _ z => z.elim⟩⟩ (yes e)
  | as hc S hN hi hl hsu t ih =>
    obtain ⟨lt, h1, h2⟩ := ih
    refine ⟨_ :: lt, .as hc hN hi hl (fun a pn => (Classical.choose_spec (hsu a pn).ex).1) h1, fun G0 H0 PD E Wo ok hw G H env σ cls fs Ca d vs r hm hd h0 g rf w => ?_⟩
    obtain ⟨c2, f2, b, e, hs, yes, no⟩ := w
    cases e
    obtain ⟨C2, m2, x2⟩ := S.ex _ _ hs
    rw [hm] at m2; cases m2
    refine ⟨b, x2, fun e a pn Ca' dx' vs' ha e1 e2 e3 => ?_, fun e => h2 G0 H0 PD E Wo ok hw G H env σ cls fs Ca d vs r hm hd h0 g rf (no e)⟩
    cases e1; cases e2
    rw [hd] at e3; cases e3
    refine (Classical.choose_spec (hsu a pn).ex).2 G0 H0 _ _ _ _ (goD (some _) PD) (endsGo (some _) E) (r.caught (some _) hm hd h0 g rf ha) ⟨fun G' H' env' σ' r' z => ok.nx _ _ _ _ (r'.gone _) z, fun G' H' env' σ' r' z => ok.bk _ _ _ _ (r'.gone _) z, fun G' H' env' σ' r' z => ok.ct _ _ _ _ (r'.gone _) z, ok.rt, ok.ro, ⟨_, tk0, fun _ _ _ _ _ _ _ _ _ _ _ _ _ _ _ z => z.elim⟩⟩ (yes e)
theorem pus_try {body : List Stmt} {h₀ : ExceptHandler} {hds : List ExceptHandler} {pos : Pos} {p : PTS} {l : List HdD} (hs : X.stack = X.env :: X.outer) (hf : X.env.frame = some X.env.locals) (hex : X.ex = [])
    (hb : ∀ (pn : List (Addr × Obj)) (xe : Value → Shared → Prop), PassesOwn (model X.prog X.w) X.A X.env xe → PuSs (X.tr pn xe) body p) (hh : PHd X (h₀ :: hds) l) : PuS X (.Try body (h₀ :: hds) [] [] pos) (pTry p l) := by
  obtain ⟨lt, h1, h2⟩ := hh.hds
  refine ⟨_, ps_tryE (tb := fun pn xe D σ H => ∃ h : PassesOwn (model X.prog X.w) X.A X.env xe, Classical.choose (hb pn xe h).ex D σ H) hs hf hex (fun pn xe h => ⟨fun pins s σ H D I ⟨h', z⟩ => (Classical.choose_spec (hb pn xe h').ex).1.run pins s σ H D I z⟩) h1, fun G0 H0 G H env σ PD E r ok hp => ?_⟩
  obtain ⟨Wo, tk, hw⟩ := ok.er
  refine ⟨Wo, tk, fun pn xe h tk2 => ⟨h, ?_⟩⟩
  refine (Classical.choose_spec (hb pn xe h).ex).2 G0 H0 G H env σ { PD with er := fun e d => pHds l PD e d } E r ⟨ok.nx, ok.bk, ok.ct, ok.rt, ok.ro, ⟨_, tk2, fun G1 H1 env1 σ1 cls fs Ca d vs r1 hm hd h0 g rf z => ⟨⟨Ca, d, vs, rfl, rfl, hd⟩, h2 G0 H0 PD E Wo ok hw G1 H1 env1 σ1 cls fs Ca d vs r1 hm hd h0 g rf z⟩⟩⟩ hp
end
end PL
end

section
set_option linter.all false
set_option maxRecDepth 100000
set_option maxHeartbeats 4000000
set_option autoImplicit false
/-! PL24: expressions that may raise, raise, defs that may raise. -/
namespace PL
open PySem PySem.Spec PyProof.Rows L2

abbrev PTX := List C → (D → Prop) → (D → Prop) → Prop
abbrev PTAX := List C → (List D → Prop) → (D → Prop) → Prop
/-- what is wanted of an error that leaves an expression -/
def XOk (X : Cx) (W : WX) (G H : Hp) (σ : L2.St) (R : D → Prop) : Prop := ∀ (G' H' : Hp) (cls : Str) (fs : List (Str × D)) (Ca dx : Addr) (vs : List (Str × V)), Ext G H G' H' → X.mg cls = some (.ref Ca) → H' dx = some (.xd vs) → H dx = none → G' dx = none → RepF X.K X.mg G' vs fs → R (.err cls fs) → W (.ref Ca) (some dx) σ H'
theorem XOk.step {X : Cx} {W : WX} {G H G1 H1 : Hp} {σ : L2.St} {R : D → Prop} (h : XOk X W G H σ R) (x : Ext G H G1 H1) : XOk X W G1 H1 σ R :=
  fun G' H' cls fs Ca dx vs y hm hd hn hg rf z => h G' H' cls fs Ca dx vs (x.trans y) hm hd (x.h.free hn) hg rf z
structure PuX (X : Cx) (e : Expr) (p : PTX) : Prop where
  ex : ∃ t : TE, PE X e t ∧ ∀ (G H : Hp) (env : List C) (σ : L2.St) (P R : D → Prop) (Q : VK) (W : WX), Takes X W → Ok X.K X.mg G H env σ → p env P R →
    (∀ d v G' H', Ext G H G' H' → Rep X.K X.mg G' v d → P d → Q v H') → XOk X W G H σ R → t σ H Q
structure PuAX (X : Cx) (es : List Expr) (p : PTAX) : Prop where
  ex : ∃ t : TA, PA X es t ∧ ∀ (G H : Hp) (env : List C) (σ : L2.St) (P : List D → Prop) (R : D → Prop) (Q : List V → Hp → Prop) (W : WX), Takes X W → Ok X.K X.mg G H env σ → p env P R →
    (∀ ds vs G' H', Ext G H G' H' → Reps X.K X.mg G' vs ds → P ds → Q vs H') → XOk X W G H σ R → t σ H Q
def xPure (p : PTE) : PTX := fun env P _ => p env P
def xaPure (p : PTA) : PTAX := fun env P _ => p env P
def xaNil : PTAX := fun _ P _ => P []
def xaCons (p : PTX) (q : PTAX) : PTAX := fun env P R => p env (fun d => q env (fun ds => P (d :: ds)) R) R
theorem PE.any {ι : Type} {X : Cx} {e : Expr} {A : ι → Prop} {t : ι → TE} (h : ∀ i, A i → PE X e (t i)) : PE X e (fun σ H Q => ∃ i, A i ∧ t i σ H Q) :=
  ⟨fun pins s σ H Q I ⟨i, a, z⟩ => (h i a).run pins s σ H Q I z⟩
section
variable {X : Cx} {e a b : Expr} {es : List Expr} {pe : PTE} {ps : PTA} {p q : PTX} {pa : PTAX} {pos p' : Pos}
theorem pux_of (h : PuE X e pe) : PuX X e (xPure pe) := by
  obtain ⟨t, h1, h2⟩ := h.ex
  exact ⟨t, h1, fun G H env σ P R Q W tk ok hp k kx => h2 G H env σ P Q ok hp k⟩
theorem puax_of (h : PuA X es ps) : PuAX X es (xaPure ps) := by
  obtain ⟨t, h1, h2⟩ := h.ex
  exact ⟨t, h1, fun G H env σ P R Q W tk ok hp k kx => h2 G H env σ P Q ok hp k⟩
theorem puax_nil : PuAX X [] xaNil := ⟨_, pa_nil, fun G H env σ P R Q W tk ok hp k kx => k [] [] G H (.refl ok.same) .nil hp⟩
theorem puax_cons (h : PuX X e p) (g : PuAX X es pa) (hs : starEach (e :: es) X.env = (false, eval e X.env) :: starEach es X.env := by rfl) : PuAX X (e :: es) (xaCons p pa) := by
  obtain ⟨t, h1, h2⟩ := h.ex
  obtain ⟨u, g1, g2⟩ := g.ex
  refine ⟨_, pa_cons h1 g1 hs, fun G H env σ P R Q W tk ok hp k kx => h2 G H env σ _ R _ W tk ok hp (fun d v G' H' x r z => ?_) kx⟩
  exact g2 G' H' env σ _ R _ W tk (ok.ext x) z (fun ds vs G2 H2 y rs q2 => k (d :: ds) (v :: vs) G2 H2 (x.trans y) (.cons (r.mono y.g) rs) q2) (kx.step x)

/-! ### a def that may raise -/
abbrev PSpX := List D → (D → Prop) → (D → Prop) → Prop
def spX (K : PySem.W.Frag) (mg : MG) (f : PSpX) : Sp := fun vs H Q E => ∃ (G : Hp) (ds : List D) (P R : D → Prop), Same G H ∧ Reps K mg G vs ds ∧ f ds P R ∧
  (∀ d v G' H', Ext G H G' H' → Rep K mg G' v d → P d → Q v H') ∧
  ∀ (G' H' : Hp) (cls : Str) (fs : List (Str × D)) (Ca dx : Addr) (us : List (Str × V)), Ext G H G' H' → mg cls = some (.ref Ca) → H' dx = some (.xd us) → H dx = none → G' dx = none → RepF K mg G' us fs → R (.err cls fs) → E (.ref Ca) (some dx) H'
structure CalX (P : Program) (w : World) (K : PySem.W.Frag) (mg : MG) (base : Heap) (x : Str) (ns : List Str) (k : Nat) (f : Addr) (fd : FuncData) (sp : PSpX) : Prop where
  ok : FnOk P w K mg base (L2.CX P w) k f fd ns (spX K mg sp)
  mg : mg x = some (.ref f)
  kp : PySem.W.keepIn K (.ref f) = true
  b : Binds K fd ns []
/-- the same def where nothing is raised -/
theorem CalX.nr {P : Program} {w : World} {K : PySem.W.Frag} {mg : MG} {base : Heap} {x : Str} {ns : List Str} {k : Nat} {f : Addr} {fd : FuncData} {sx : PSpX} {sp : PSp} (C : CalX P w K mg base x ns k f fd sx) (h : ∀ ds Q, sp ds Q → sx ds Q fun _ => False) : Cal P w K mg base x ns k f fd sp := by
  have up : ∀ vs H Q E, spP K mg sp vs H Q E → spX K mg sx vs H Q fun _ _ _ => False := fun vs H Q E ⟨G, ds, P', s, r, q, kk⟩ => ⟨G, ds, P', fun _ => False, s, r, h ds P' q, kk, fun _ _ _ _ _ _ _ _ _ _ _ _ _ z => z⟩
  refine ⟨⟨fun vs H Q E z => C.ok.len vs H Q _ (up vs H Q E z), fun A outer s H args us vs Q E hr e0 hb r z => codeAny_mono (C.ok.run A outer s H args us vs Q _ hr e0 hb r (up vs H Q E z)) fun res s' q => ?_⟩, C.mg, C.kp, C.b⟩
  cases res with
  | error er =>
    obtain ⟨_, _, _, _, _, _, _, _, _, _, _, _, z⟩ := (show L2.CX P w outer H s (fun _ _ _ => False) er s' from q)
    exact z.elim
  | ok f => cases f <;> exact q
/-- a def that raises nothing, called with what may raise -/
def nrX (sp : PSp) : PSpX := fun ds P _ => sp ds P
theorem Cal.x {P : Program} {w : World} {K : PySem.W.Frag} {mg : MG} {base : Heap} {x : Str} {ns : List Str} {k : Nat} {f : Addr} {fd : FuncData} {sp : PSp} (C : Cal P w K mg base x ns k f fd sp) : CalX P w K mg base x ns k f fd (nrX sp) := by
  have down : ∀ vs H Q E, spX K mg (nrX sp) vs H Q E → spP K mg sp vs H Q E := fun vs H Q E ⟨G, ds, P', R', s, r, h, kk, _⟩ => ⟨G, ds, P', s, r, h, kk⟩
  refine ⟨⟨fun vs H Q E z => C.ok.len vs H Q E (down vs H Q E z), fun A outer s H args us vs Q E hr e0 hb r z => codeAny_mono (C.ok.run A outer s H args us vs Q E hr e0 hb r (down vs H Q E z)) fun res s' q => ?_⟩, C.mg, C.kp, C.b⟩
  cases res with
  | error er => exact False.elim q
  | ok f => cases f <;> exact q
def xCall (f : PSpX) (pa : PTAX) : PTX := fun env P R => pa env (fun ds => f ds P R) R
theorem pux_c {x : Str} {ns : List Str} {k k' : Nat} {f : Addr} {fd : FuncData} {sp : PSpX} (C : CalX X.prog X.w X.K X.mg X.base x ns k f fd sp) (hr : Room k' X.A) (h : PuAX X (e :: es) pa) (hk : k ≤ k' := by decide) (hg : Gl X x := by rfl)
    (hdb : (x == ("__debug__" : Str)) = false := by decide) (he : starEach (e :: es) X.env = (false, eval e X.env) :: starEach es X.env := by rfl) (hpl : (backTo pos (starEach es X.env)).any (·.1) = false := by rfl) :
    PuX X (.Call (.Name x p') (e :: es) [] pos) (xCall sp pa) := by
  obtain ⟨t, h1, h2⟩ := h.ex
  refine ⟨_, PE.any (A := fun W => Takes X W) fun W tk => pe_callS (E := WE W) C.ok (hr.mono hk) hg C.mg C.kp C.b (passAt tk) h1 hdb he hpl, fun G H env σ P R Q W tk ok hp kk kx => ⟨W, tk, ?_⟩⟩
  refine h2 G H env σ _ R _ W tk ok hp (fun ds vs G' H' x r q => ⟨G', ds, P, R, x.s, r, q, fun d v G2 H2 y r2 q2 => kk d v G2 H2 (x.trans y) r2 q2, ?_⟩) kx
  exact kx.step x
/-- keywords -/
def tCallKS (n m : Nat) (sp : Sp) (gV : List V → List V → List V) (E : L2.St → XK) (t tk : TA) : TE := fun σ H Q => t σ H fun vs H1 => tk σ H1 fun zs H2 => vs.length = n ∧ zs.length = m ∧ sp (gV vs zs) H2 Q (E σ)
theorem run_kw {CX : CXT} {k n : Nat} {f : Addr} {fd : FuncData} {ns ks : List Str} {sp : Sp} {E : XK} {g : List Value → List Value → List Value} {gV : List V → List V → List V} {pins : List (Addr × Obj)} {σ : L2.St} {H : Hp} {s : Shared} {Q : VK} {us ws : List Value} {vs zs : List V}
    (F : FnOk X.prog X.w X.K X.mg X.base CX k f fd ns sp) (hr : Room k X.A) (hb : KBn X.K fd ns n ks g gV) (hx : PassesAt CX X σ E) (I : Inv X pins σ H s) (r : Vals vs us) (rz : Vals zs ws) (l1 : vs.length = n) (l2 : zs.length = ks.length) (h : sp (gV vs zs) H Q E) :
    wpAny (model X.prog X.w) X.A (call (.ref f) us (ks.zip ws)) (EP X pins σ Q) X.xe s := by
  have to_ := hb.to s us ws I.kIn (r.length.symm.trans l1) (rz.length.symm.trans l2)
  have run_ := F.run X.A X.stack s H ⟨us, ks.zip ws⟩ (g us ws) (gV vs zs) Q E hr I.env0 to_ (hb.rel r rz) h
  refine wpAny_call (codeAny_mono run_ fun res s' q => ?_)
  match res, q with
  | .error u, q => exact hx pins H s u s' I q
  | .ok (.ret u), q => exact I.after q
  | .ok .next, q => exact False.elim q
  | .ok .brk, q => exact False.elim q
  | .ok .cont, q => exact False.elim q
theorem pe_callKS {CX : CXT} {k n : Nat} {f : Addr} {fd : FuncData} {ns ks : List Str} {sp : Sp} {E : L2.St → XK} {x : Str} {kws : List Keyword} {t tk : TA} {g : List Value → List Value → List Value} {gV : List V → List V → List V}
    (F : FnOk X.prog X.w X.K X.mg X.base CX k f fd ns sp) (hr : Room k X.A) (hg : Gl X x) (hm : X.mg x = some (.ref f)) (hk : PySem.W.keepIn X.K (.ref f) = true) (hb : KBn X.K fd ns n ks g gV) (hx : ∀ σ, PassesAt CX X σ (E σ)) (ha : PA X (e :: es) t) (hkw : PK X kws tk)
    (hall : (backToKw pos (keywordEach kws X.env)).all (·.1.isSome) = true) (hks : (backToKw pos (keywordEach kws X.env)).filterMap (·.1) = ks) (hdb : (x == ("__debug__" : Str)) = false) (he : starEach (e :: es) X.env = (false, eval e X.env) :: starEach es X.env)
    (hpl : ((backTo pos (starEach (e :: es) X.env)).any (·.1) || (backToKw pos (keywordEach kws X.env)).any (·.1.isNone)) = false) :
    PE X (.Call (.Name x p') (e :: es) kws pos) (tCallKS n ks.length sp gV E t tk) := by
  refine ⟨fun pins s σ H Q I h => ?_⟩
  refine wpAny_Call_Name_kw (ld_glob I hg hm ?_ hdb)
  refine PySem.W.callWith_KW (h₀ := X.base) I.ok.mod.kin hk hall (thn (ha.run pos pins s σ H _ I h) fun us s1 ⟨vs, H1, I1, r, q⟩ => thn (hkw.run pos pins s1 σ H1 _ I1 q) fun ws s2 ⟨zs, H2, I2, rz, l1, l2, q2⟩ => ⟨I2.kIn, ?_⟩) hpl he
  rw [hks]
  exact run_kw F hr hb (hx σ) I2 r rz l1 l2 q2
theorem pe_callKS0 {CX : CXT} {k : Nat} {f : Addr} {fd : FuncData} {ns ks : List Str} {sp : Sp} {E : L2.St → XK} {x : Str} {kws : List Keyword} {tk : TA} {g : List Value → List Value → List Value} {gV : List V → List V → List V}
    (F : FnOk X.prog X.w X.K X.mg X.base CX k f fd ns sp) (hr : Room k X.A) (hg : Gl X x) (hm : X.mg x = some (.ref f)) (hk : PySem.W.keepIn X.K (.ref f) = true) (hb : KBn X.K fd ns 0 ks g gV) (hx : ∀ σ, PassesAt CX X σ (E σ)) (hkw : PK X kws tk)
    (hall : (backToKw pos (keywordEach kws X.env)).all (·.1.isSome) = true) (hks : (backToKw pos (keywordEach kws X.env)).filterMap (·.1) = ks) (hdb : (x == ("__debug__" : Str)) = false)
    (hpl : ((backTo pos (starEach [] X.env)).any (·.1) || (backToKw pos (keywordEach kws X.env)).any (·.1.isNone)) = false) :
    PE X (.Call (.Name x p') [] kws pos) (tCallKS 0 ks.length sp gV E tNil tk) := by
  refine ⟨fun pins s σ H Q I h => ?_⟩
  refine wpAny_Call_Name_kw (ld_glob I hg hm ?_ hdb)
  refine PySem.W.callWith_KW0 (h₀ := X.base) I.ok.mod.kin hk hall ?_ hpl
  refine thn (hkw.run pos pins s σ H _ I h) fun ws s2 ⟨zs, H2, I2, rz, l1, l2, q2⟩ => ⟨I2.kIn, ?_⟩
  rw [hks]
  exact run_kw (us := []) (vs := []) F hr hb (hx σ) I2 .nil rz rfl l2 q2
def xCallK (f : PSpX) (n m : Nat) (gD : List D → List D → List D) (pa : PTAX) (qs : PTA) : PTX := fun env P R => pa env (fun ds => qs env fun es => ds.length = n ∧ es.length = m ∧ f (gD ds es) P R) R
theorem pux_cK {x : Str} {ns ks : List Str} {n m k k' : Nat} {f : Addr} {fd : FuncData} {sp : PSpX} {kws : List Keyword} {qs : PTA} {gD : List D → List D → List D} (C : CalX X.prog X.w X.K X.mg X.base x ns k f fd sp) (hb : PKB X.K fd ns n ks gD) (hr : Room k' X.A) (h : PuAX X (e :: es) pa) (hkw : PuK X kws qs) (hml : ks.length = m := by rfl) (hk : k ≤ k' := by decide) (hg : Gl X x := by rfl)
    (hall : (backToKw pos (keywordEach kws X.env)).all (·.1.isSome) = true := by rfl) (hks : (backToKw pos (keywordEach kws X.env)).filterMap (·.1) = ks := by rfl)
    (hdb : (x == ("__debug__" : Str)) = false := by decide) (he : starEach (e :: es) X.env = (false, eval e X.env) :: starEach es X.env := by rfl)
    (hpl : ((backTo pos (starEach (e :: es) X.env)).any (·.1) || (backToKw pos (keywordEach kws X.env)).any (·.1.isNone)) = false := by rfl) :
    PuX X (.Call (.Name x p') (e :: es) kws pos) (xCallK sp n m gD pa qs) := by
  subst hml
  obtain ⟨t, h1, h2⟩ := h.ex
  obtain ⟨u, g1, g2⟩ := hkw.ex
  obtain ⟨g, gV, kb, kr⟩ := hb.ex
  refine ⟨_, PE.any (A := fun W => Takes X W) fun W tk => pe_callKS (E := WE W) C.ok (hr.mono hk) hg C.mg C.kp kb (passAt tk) h1 g1 hall hks hdb he hpl, fun G H env σ P R Q W tk ok hp kk kx => ⟨W, tk, ?_⟩⟩
  refine h2 G H env σ _ R _ W tk ok hp (fun ds vs G' H' x r q => g2 G' H' env σ _ _ (ok.ext x) q fun es zs G2 H2 y rz q2 => ?_) kx
  have r2 := r.mono y.g
  exact ⟨r2.length.trans q2.1, rz.length.trans q2.2.1, G2, _, P, R, y.s, kr _ _ _ _ _ _ r2 rz (r2.length.trans q2.1) (rz.length.trans q2.2.1), q2.2.2, fun d v G3 H3 z r3 q3 => kk d v G3 H3 ((x.trans y).trans z) r3 q3, kx.step (x.trans y)⟩
theorem pux_cK0 {x : Str} {ns ks : List Str} {m k k' : Nat} {f : Addr} {fd : FuncData} {sp : PSpX} {kws : List Keyword} {qs : PTA} {gD : List D → List D → List D} (C : CalX X.prog X.w X.K X.mg X.base x ns k f fd sp) (hb : PKB X.K fd ns 0 ks gD) (hr : Room k' X.A) (hkw : PuK X kws qs) (hml : ks.length = m := by rfl) (hk : k ≤ k' := by decide) (hg : Gl X x := by rfl)
    (hall : (backToKw pos (keywordEach kws X.env)).all (·.1.isSome) = true := by rfl) (hks : (backToKw pos (keywordEach kws X.env)).filterMap (·.1) = ks := by rfl)
    (hdb : (x == ("__debug__" : Str)) = false := by decide) (hpl : ((backTo pos (starEach [] X.env)).any (·.1) || (backToKw pos (keywordEach kws X.env)).any (·.1.isNone)) = false := by rfl) :
    PuX X (.Call (.Name x p') [] kws pos) (xCallK sp 0 m gD xaNil qs) := by
  subst hml
  obtain ⟨u, g1, g2⟩ := hkw.ex
  obtain ⟨g, gV, kb, kr⟩ := hb.ex
  refine ⟨_, PE.any (A := fun W => Takes X W) fun W tk => pe_callKS0 (E := WE W) C.ok (hr.mono hk) hg C.mg C.kp kb (passAt tk) g1 hall hks hdb hpl, fun G H env σ P R Q W tk ok hp kk kx => ⟨W, tk, ?_⟩⟩
  refine g2 G H env σ _ _ ok hp fun es zs G2 H2 y rz q2 => ?_
  exact ⟨rfl, rz.length.trans q2.2.1, G2, _, P, R, y.s, kr _ _ _ _ _ _ .nil rz rfl (rz.length.trans q2.2.1), q2.2.2, fun d v G3 H3 z r3 q3 => kk d v G3 H3 (y.trans z) r3 q3, kx.step y⟩

/-! ### displays, fields, operators over what may raise -/
def xLst (pa : PTAX) : PTX := fun env P R => pa env (fun ds => ds.length ≤ sizeLine ∧ P (.lst ds)) R
def xTup (pa : PTAX) : PTX := fun env P R => pa env (fun ds => ds.length ≤ sizeLine ∧ P (.tup ds)) R
theorem pux_lst (h : PuAX X es pa) : PuX X (.List es pos) (xLst pa) := by
  obtain ⟨t, h1, h2⟩ := h.ex
  refine ⟨_, pe_lst h1, fun G H env σ P R Q W tk ok hp k kx => h2 G H env σ _ R _ W tk ok hp (fun ds vs G' H' x r q => ⟨by rw [r.length]; exact q.1, fun p hn => ?_⟩) kx⟩
  exact k _ _ _ _ (x.trans (Ext.new x.s hn)) (.lst upd_same (r.mono (Same.upd (x.s.free hn)))) q.2
theorem pux_tup {j : Nat} (h : PuAX X es pa) : PuX X (.Tuple es j pos) (xTup pa) := by
  obtain ⟨t, h1, h2⟩ := h.ex
  refine ⟨_, pe_tup h1, fun G H env σ P R Q W tk ok hp k kx => h2 G H env σ _ R _ W tk ok hp (fun ds vs G' H' x r q => ⟨by rw [r.length]; exact q.1, fun p hn => ?_⟩) kx⟩
  exact k _ _ _ _ (x.trans (Ext.new x.s hn)) (.tup upd_same (r.mono (Same.upd (x.s.free hn)))) q.2
def xBin (f : BinP) (p q : PTX) : PTX := fun env P R => p env (fun x => q env (fun y => f x y P) R) R
theorem pux_bin {op : Operator} {r : R2} {f : BinP} (ho : OpR X (binaryOp op) r) (hf : BinOk X r f) (ha : PuX X a p) (hb : PuX X b q) : PuX X (.BinOp a op b pos) (xBin f p q) := by
  obtain ⟨ta, a1, a2⟩ := ha.ex
  obtain ⟨tb, b1, b2⟩ := hb.ex
  refine ⟨_, pe_op ho a1 b1, fun G H env σ P R Q W tk ok hp k kx => ?_⟩
  refine a2 G H env σ _ R _ W tk ok hp (fun x v G1 H1 e1 r1 q1 => ?_) kx
  refine b2 G1 H1 env σ _ R _ W tk (ok.ext e1) q1 (fun y w G2 H2 e2 r2 q2 => ?_) (kx.step e1)
  exact hf G2 H2 v w x y _ _ e2.s (.inl (r1.mono e2.g)) (.inl r2) q2 fun d u G3 H3 e3 r3 q3 => k d u G3 H3 ((e1.trans e2).trans e3) r3 q3
def xFld (tab : OTab) (f : Str) (p : PTX) : PTX := fun env P R => p env (fldP tab f P) R
theorem pux_fld {tab : OTab} {f : Str} (T : ObT X.K X.mg tab) (he : PuX X e p) (hb : attributeBase e f X.env (eval e X.env) = eval e X.env := by rfl) : PuX X (.Attribute e f pos) (xFld tab f p) := by
  obtain ⟨t, h1, h2⟩ := he.ex
  refine ⟨_, pe_fld h1 hb, fun G H env σ P R Q W tk ok hp k kx => h2 G H env σ _ R _ W tk ok hp (fun d v G' H' y r q => ?_) kx⟩
  cases d with
  | obj cls fs =>
    obtain ⟨h3, w, hl, q⟩ := q
    obtain ⟨a, C, dx, vs, ds', rfl, ha, hm, rf, hd⟩ := (Shal.obj (.inl r) y.s)
    obtain ⟨t1, t2, t3⟩ := fldOk_ok T h3 hm
    have hl' : ds'.lookup f = some w := by
      rcases hd with rfl | rfl
      · exact hl
      · rw [lookD_put, if_neg t3] at hl; exact hl
    obtain ⟨v', l', r'⟩ := rf.look hl'
    exact ⟨a, C, dx, vs, v', rfl, ha, t1, t2, l', k w v' G' H' y r' q⟩
  | _ => exact q.elim

/-! ### statements -/
variable {st : Stmt}
theorem er_ok {G0 H0 G H : Hp} {env : List C} {σ : L2.St} {PD : PEnds} {W : WX} (r : Rel X.K X.mg G0 H0 G H env σ)
    (h : ∀ (G H : Hp) (env : List C) (σ : L2.St) (cls : Str) (fs : List (Str × D)) (Ca d : Addr) (vs : List (Str × V)), Rel X.K X.mg G0 H0 G H env σ → X.mg cls = some (.ref Ca) → H d = some (.xd vs) → H0 d = none → G d = none → RepF X.K X.mg G vs fs → PD.er env (.err cls fs) → W (.ref Ca) (some d) σ H) : XOk X W G H σ (PD.er env) :=
  fun G' H' cls fs Ca dx vs x hm hd hn hg rf z => h G' H' env σ cls fs Ca dx vs (r.step x) hm hd (r.ext.h.free hn) hg rf z
def pDropX (p : PTX) : PTS := fun PD env => p env (fun _ => PD.nx env) (PD.er env)
theorem pus_exprX (h : PuX X e p) (hs : swapsWith e none pos.line X.env = pure false := by rfl) : PuS X (.Expr e pos) (pDropX p) := by
  obtain ⟨t, h1, h2⟩ := h.ex
  refine ⟨_, ps_expr h1 hs, fun G0 H0 G H env σ PD E r ok hp => ?_⟩
  obtain ⟨W, tk, er⟩ := ok.er
  exact h2 G H env σ _ _ _ W tk r.ok hp (fun d v G' H' x rp z => ok.nx G' H' env σ (r.step x) z) (er_ok r er)
def pRetX (p : PTX) : PTS := fun PD env => p env PD.rt (PD.er env)
theorem pus_retX (h : PuX X e p) : PuS X (.Return (some e) pos) (pRetX p) := by
  obtain ⟨t, h1, h2⟩ := h.ex
  refine ⟨_, ps_ret h1, fun G0 H0 G H env σ PD E r ok hp => ?_⟩
  obtain ⟨W, tk, er⟩ := ok.er
  exact h2 G H env σ _ _ _ W tk r.ok hp (fun d v G' H' x rp z => ok.rt G' H' d v (r.ext.trans x) rp z) (er_ok r er)
def pSetX (i : Nat) (p : PTX) : PTS := fun PD env => p env (fun d => PD.nx (env.set i (.fz d))) (PD.er env)
theorem pus_setX (i : Nat) {x : Str} {pos' : Pos} (hN : X.N.Nodup) (he : PuX X e p) (hi : X.N[i]? = some x := by rfl) (hx : Loc X.env.scope x := by first | exact Or.inl rfl | exact Or.inr rfl)
    (hs : swapsWith e (some (.Name x pos')) pos.line X.env = pure false := by rfl) (hf : X.fn x = true ∨ X.env.scope.names.lookup x = some .local := by first | exact .inl rfl | exact .inr rfl) :
    PuS X (.Assign [.Name x pos'] e pos) (pSetX i p) := by
  obtain ⟨t, h1, h2⟩ := he.ex
  refine ⟨_, ps_set hN hi hx h1 hs hf, fun G0 H0 G H env σ PD E r ok hp => ?_⟩
  obtain ⟨W, tk, er⟩ := ok.er
  exact h2 G H env σ _ _ _ W tk r.ok hp (fun d v G' H' x rp z => ok.nx G' H' _ _ ((r.step x).setFz rp) z) (er_ok r er)
/-- a cell is frozen ahead -/
def xFrz (is : List Nat) (p : PTX) : PTX := fun env P R => p (frzs is env) P R
/-- raise C(..) -/
def pRaise (cls : Str) (fs : List Str) (ps : PTA) : PTS := fun PD env => ps env fun ds => ds.length = fs.length ∧ ds.length ≤ 1000 ∧ PD.er env (.err cls (fldsD fs ds))
theorem pus_raise {cls : Str} {Cc f : Addr} {fd : FuncData} {fs : List Str} {k' : Nat} (E : ECl X.prog X.w X.K X.mg X.base cls Cc f fd fs) (hb : Binds X.K fd ("self" :: fs) []) (hc : X.calm = true) (hr : Room k' X.A) (h : PuA X (e :: es) ps) (hk : 2 ≤ k' := by decide) (hg : Gl X cls := by rfl)
    (hdb : (cls == ("__debug__" : Str)) = false := by decide) (he : starEach (e :: es) X.env = (false, eval e X.env) :: starEach es X.env := by rfl) (hpl : (backTo p' (starEach es X.env)).any (·.1) = false := by rfl) {p2 : Pos} :
    PuS X (.Raise (some (.Call (.Name cls p2) (e :: es) [] p')) none pos) (pRaise cls fs ps) := by
  obtain ⟨t, h1, h2⟩ := h.ex
  have mk := pmk_oex (p := p2) (pos := p') E.er.oex E.er.ini E.er.tI E.ok (hr.mono hk) hb (dvs := []) .nil pass0 hg E.gm h1 hdb he hpl
  refine ⟨fun D σ H => ∃ W, Takes X W ∧ _, ⟨fun pins s σ H D I ⟨W, tk, z⟩ => (ps_raise hc tk mk).run pins s σ H D I z⟩, fun G0 H0 G H env σ PD Ed r ok hp => ?_⟩
  obtain ⟨W, tk, er⟩ := ok.er
  refine ⟨W, tk, h2 G H env σ _ _ r.ok hp fun ds vs G1 H1 x rp ⟨z1, z2, z3⟩ => ?_⟩
  refine ⟨by rw [rp.length]; exact z2, fun a na => ⟨a, vs ++ [], rfl, by rw [List.append_nil, rp.length]; exact z1, upd_same, fun d nd ne => ?_⟩⟩
  rw [upd_ne ne] at nd
  refine ⟨rfl, d, flds fs (vs ++ []), upd_same, by rw [upd_ne ne, upd_same], nd, ?_⟩
  have eH : upd (del (upd (upd (upd H1 a (exo a Cc none)) d (exd d (flds fs (vs ++ [])))) a (exo a Cc (some d))) a) d (.xd (flds fs (vs ++ []))) = upd H1 d (.xd (flds fs (vs ++ []))) := by
    funext b
    by_cases hb : b = d
    · subst hb; rw [upd_same, upd_same]
    · rw [upd_ne hb, upd_ne hb]
      by_cases hb2 : b = a
      · subst hb2; rw [del_same]; exact na.symm
      · rw [del_ne hb2, upd_ne hb2, upd_ne hb, upd_ne hb2]
  rw [eH, List.append_nil]
  have r1 := (r.step x).step (Ext.newH (o := .xd (flds fs vs)) x.s nd)
  exact er G1 _ env σ cls (fldsD fs ds) Cc d (flds fs vs) r1 E.gm upd_same (r.ext.h.free (x.h.free nd)) (x.s.free nd) (repF_flds rp) z3
end
/-- THE RULE for a def over data that may raise -/
theorem pfnX {P : Program} {w : World} {K : PySem.W.Frag} {mg : MG} {base : Heap} {x : Str} {st : Stmt} {f : Addr} {fd : FuncData} {N ns : List Str} {k : Nat} {sp : PSpX} {p : PTS} (F : FnP K x st f fd) (S : FnScope N ns (defScope st)) (hlen : ∀ ds P R, sp ds P R → ds.length = ns.length)
    (hbody : ∀ (cdv : Value) (A : Around) (outer : List Env) (s : Shared) (H : Hp) (E : XK), Room k (A.deeper (envOfC x (defScope st) s.heap.objs.size f cdv)) →
      PassesOwn (model P w) (cxOf (L2.CX P w) P w K mg base N x (defScope st) f cdv A outer s H E).A (cxOf (L2.CX P w) P w K mg base N x (defScope st) f cdv A outer s H E).env (cxOf (L2.CX P w) P w K mg base N x (defScope st) f cdv A outer s H E).xe →
      PuSs (cxOf (L2.CX P w) P w K mg base N x (defScope st) f cdv A outer s H E) (defBody st) p) (hp : ∀ ds Q R, sp ds Q R → p { nx := fun _ => Q .non, rt := Q, er := fun _ => R } (startC N ds)) : FnOk P w K mg base (L2.CX P w) (k + 1) f fd ns (spX K mg sp) := by
  refine FunD.ok F S (fun vs H Q E h => ?_) (fun cdv A outer s H vs Q E hr h => ?_)
  · obtain ⟨G, ds, P', R', _, r, q, _⟩ := h
    rw [r.length]; exact hlen ds P' R' q
  · obtain ⟨G, ds, P', R', sm, r, q, kk, kx⟩ := h
    obtain ⟨t, t1, t2⟩ := (hbody cdv A outer s H E hr (passes_of rfl)).ex
    refine ⟨t, t1, t2 G H G H _ _ { nx := fun _ => P' .non, rt := P', er := fun _ => R' } _ ⟨start_ok sm r, .refl sm, fun i d l q => (startC_fz q).elim⟩ ⟨?_, fun _ _ _ _ _ z => z, fun _ _ _ _ _ z => z, fun G' H' d v x rp z => kk d v G' H' x rp z, fun _ _ _ _ _ _ _ _ z => z.elim, ⟨_, takes_of rfl rfl rfl rfl, ?_⟩⟩ (hp ds P' R' q)⟩
    · intro G' H' env σ r' z
      exact kk .non .non G' H' r'.ext .non z
    · intro G' H' env σ cls fs Ca d vs r' hm hd h0 g rf z
      exact kx G' H' cls fs Ca d vs r'.ext hm hd h0 g rf z
theorem pRaise1 {cls f : Str} {pe : PTE} {PD : PEnds} {env : List C} : pRaise cls [f] (paCons pe paNil) PD env = pe env fun d => PD.er env (.err cls [(f, d)]) := by
  have e : ∀ d, (([d] : List D).length = ([f] : List Str).length ∧ ([d] : List D).length ≤ 1000 ∧ PD.er env (.err cls (fldsD [f] [d]))) = PD.er env (.err cls [(f, d)]) := fun d => propext ⟨fun h => h.2.2, fun h => ⟨rfl, by show 1 ≤ 1000; omega, h⟩⟩
  show (pe env fun d => _) = _
  congr 1
  funext d
  exact e d
theorem pRaise2 {cls f g : Str} {pe qe : PTE} {PD : PEnds} {env : List C} : pRaise cls [f, g] (paCons pe (paCons qe paNil)) PD env = pe env fun d => qe env fun x => PD.er env (.err cls [(g, x), (f, d)]) := by
  have e : ∀ d x, (([d, x] : List D).length = ([f, g] : List Str).length ∧ ([d, x] : List D).length ≤ 1000 ∧ PD.er env (.err cls (fldsD [f, g] [d, x]))) = PD.er env (.err cls [(g, x), (f, d)]) := fun d x => propext ⟨fun h => h.2.2, fun h => ⟨rfl, by show 2 ≤ 1000; omega, h⟩⟩
  show (pe env fun d => qe env fun x => _) = _
  congr 1
  funext d
  congr 1
  funext x
  exact e d x
end PL
end

section
set_option linter.all false
set_option maxRecDepth 100000
set_option maxHeartbeats 4000000
set_option autoImplicit false
/-! PL25: defs called while an exception is handled (without loops, without raise). -/
namespace PL
open PySem PySem.Spec PyProof.Rows L2

structure RoomT (k : Nat) (A : Around) : Prop where
  dep : A.depth + 3 * k + 5 < recursionLimit
  uni : A.units + 16 * k + 200 < cLine
theorem RoomT.mono {j k : Nat} {A : Around} (r : RoomT k A) (h : j ≤ k) : RoomT j A := ⟨by have a := r.dep; omega, by have a := r.uni; omega⟩
theorem rmT {k : Nat} {A : Around} {h : Option Value} (r : Room k A) : RoomT k (A.mark h) := ⟨r.dp, r.un⟩
theorem huT {k : Nat} {A : Around} (r : RoomT k A) : A.units + 1 < cLine := by have a := r.uni; omega
theorem unT {k : Nat} {A : Around} (r : RoomT k A) : A.units + 64 < cLine := by have a := r.uni; omega
theorem u65T {k : Nat} {A : Around} (r : RoomT k A) : A.units + 65 < cLine := by have a := r.uni; omega
theorem RoomT.deeper {k : Nat} {A : Around} (r : RoomT (k + 1) A) (env : Env) : RoomT k (A.deeper env) :=
  ⟨by have a := r.dep; show A.depth + 1 + 3 * k + 5 < _; omega, by have a := r.uni; show A.units + 3 + 16 * k + 200 < _; omega⟩
structure FnT (P : Program) (w : World) (K : PySem.W.Frag) (mg : MG) (base : Heap) (k : Nat) (f : Addr) (fd : FuncData) (ns : List Str) (sp : Sp) : Prop where
  len : ∀ vs H Q E, sp vs H Q E → vs.length = ns.length
  go : ∀ (A : Around) (outer : List Env) (s : Shared) (H : Hp) (args : Args) (us : List Value) (vs : List V) (Q : VK) (E : XK), RoomT k A → Env0 P w K mg base A outer s H → BindsTo s fd args (ns.zip us) → Vals vs us → sp vs H Q E →
    codeAny (model P w) A (.call (.ref f) args) (CR CX0 outer P w H s Q E) s
/-- the body's context -/
def cxT (P : Program) (w : World) (K : PySem.W.Frag) (mg : MG) (base : Heap) (N : List Str) (qual : Str) (scope : Scope) (f : Addr) (cd : Value) (A : Around) (outer : List Env) (s : Shared) (H : Hp) : Cx :=
  { cxOf CX0 P w K mg base N qual scope f cd A outer s H (fun _ _ _ => False) with calm := false, xe := fun _ _ => False }
section
variable {P : Program} {w : World} {K : PySem.W.Frag} {mg : MG} {base : Heap} {N ns : List Str} {qual : Str} {scope : Scope} {f : Addr} {cd : Value} {A : Around} {outer : List Env} {s s1 : Shared} {H : Hp} {us : List Value} {vs : List V}
theorem begin_T (S : FnScope N ns scope) (e0 : Env0 P w K mg base A outer s H) (hl : vs.length = ns.length) (r : Vals vs us)
    (x : InCallC s s.heap.objs.size (bindL (envOfC qual scope s.heap.objs.size f cd).kindOf (ns.zip us) fun _ => none) (cellsFrom (s.heap.objs.size + 1) scope.names []) (bindC (envOfC qual scope s.heap.objs.size f cd).kindOf (ns.zip us) fun _ => none) s1) :
    Inv (cxT P w K mg base N qual scope f cd A outer s H) [] (L2.start N vs) H s1 := by
  have eq0 : Env0 P w K mg base { A with handled := none } outer s H := ⟨e0.frames, e0.mod, e0.bs, e0.bsz, e0.funs, e0.frf, e0.hok, e0.bare⟩
  have I := inv_start (CX := CX0) (E := fun _ _ _ => False) S rfl eq0 hl r x
  have o := I.ok
  exact ⟨⟨o.mod, o.kind, o.glob, o.blt, o.above, o.inj, o.has, o.cab, fun z => Bool.noConfusion (show false = true from z), Around.frames_deeper e0.frames, o.stk, o.exf, o.bs, o.bsz, o.noex, o.exfs, o.funs, o.frf⟩, I.os, I.bare, I.base, I.loc, I.cell, I.free, I.freeC, I.pin, I.hok, I.len⟩
end
theorem fnT_of {P : Program} {w : World} {K : PySem.W.Frag} {mg : MG} {base : Heap} {k : Nat} {f : Addr} {fd : FuncData} {x : Str} {st : Stmt} {N ns : List Str} {sp : Sp} (F : FnP K x st f fd) (S : FnScope N ns (defScope st)) (hlen : ∀ vs H Q E, sp vs H Q E → vs.length = ns.length)
    (hbody : ∀ (cdv : Value) (A : Around) (outer : List Env) (s : Shared) (H : Hp) (vs : List V) (Q : VK) (E : XK), RoomT k (A.deeper (envOfC x (defScope st) s.heap.objs.size f cdv)) → sp vs H Q E →
      ∃ t, PSs (cxT P w K mg base N x (defScope st) f cdv A outer s H) (defBody st) t ∧ t { nx := fun _ H' => Q .non H', rt := Q } (L2.start N vs) H) : FnT P w K mg base (k + 1) f fd ns sp := by
  obtain ⟨oc, od, dV, kV, doc, pm, an, cdv, ct, osl, rfl, lk, hcd, _, _⟩ := F.ex
  refine ⟨hlen, fun A outer s H args us vs Q E hr e0 hb r z => ?_⟩
  have inK : K.In s.heap := e0.mod.kin.keeps fun b o e => (e0.bs b o e).1
  have free_ : s.heap.NoLimit := e0.mod.nolimit.keeps fun b o e => (e0.bs b o e).1
  have kinds : ∀ y ∈ ns.zip us, (defScope st).names.lookup y.1 = some .local ∨ ((defScope st).names.lookup y.1 = some .cell ∧ ((cellsFrom (s.heap.objs.size + 1) (defScope st).names []).lookup y.1).isSome = true) := fun y hy =>
    (S.par y.1 (List.of_mem_zip hy).1).imp id fun q => ⟨q, PySem.W.cellsFrom_some _ _ _ (.inl q)⟩
  have deep : A.depth < recursionLimit := by have a := hr.dep; omega
  refine codeAny_call_function deep (inK _ _ lk) rfl S.co S.gen rfl (PySem.W.codeRec_of inK hcd) (hb _ _ _ _ (wpAny_newFunctionEnv_cells S.kind kinds fun env he s1 y => ?_))
  subst he
  obtain ⟨t, ht, q0⟩ := hbody cdv A outer s H vs Q E (hr.deeper _) z
  refine ⟨free_.keeps y.toInCall.keep, codeAny_func (wpAny_mono (ht.run [] s1 (L2.start N vs) H _ (begin_T S e0 (hlen _ _ _ _ z) r y) q0) (fun fl s2 h => ?_) fun u s2 h => False.elim h)⟩
  match fl, h with
  | .ret u, ⟨v, σ2, H2, J, rv, q⟩ => exact ⟨v, H2, J.os, J.bare, J.base, J.hok, rv, q⟩
  | .next, ⟨σ2, H2, J, q⟩ => exact ⟨.non, H2, J.os, J.bare, J.base, J.hok, rfl, q⟩
  | .brk, ⟨_, _, _, q⟩ => exact False.elim q
  | .cont, ⟨_, _, _, q⟩ => exact False.elim q
theorem pfnT {P : Program} {w : World} {K : PySem.W.Frag} {mg : MG} {base : Heap} {x : Str} {st : Stmt} {f : Addr} {fd : FuncData} {N ns : List Str} {k : Nat} {sp : PSp} {p : PTS} (F : FnP K x st f fd) (S : FnScope N ns (defScope st)) (hlen : ∀ ds P, sp ds P → ds.length = ns.length)
    (hbody : ∀ (cdv : Value) (A : Around) (outer : List Env) (s : Shared) (H : Hp), RoomT k (A.deeper (envOfC x (defScope st) s.heap.objs.size f cdv)) → PuSs (cxT P w K mg base N x (defScope st) f cdv A outer s H) (defBody st) p)
    (hp : ∀ ds Q, sp ds Q → p { nx := fun _ => Q .non, rt := Q } (startC N ds)) : FnT P w K mg base (k + 1) f fd ns (spP K mg sp) := by
  refine fnT_of F S (fun vs H Q E h => ?_) (fun cdv A outer s H vs Q E hr h => ?_)
  · obtain ⟨G, ds, P', _, r, q, _⟩ := h
    rw [r.length]; exact hlen ds P' q
  · obtain ⟨G, ds, P', sm, r, q, kk⟩ := h
    obtain ⟨t, t1, t2⟩ := (hbody cdv A outer s H hr).ex
    exact ⟨t, t1, t2 G H G H _ _ { nx := fun _ => P' .non, rt := P' } _ ⟨start_ok sm r, .refl sm, fun i d l q => (startC_fz q).elim⟩ ⟨fun G' H' env σ r' z => kk .non .non G' H' r'.ext .non z, fun _ _ _ _ _ z => z, fun _ _ _ _ _ z => z, fun G' H' d v x rp z => kk d v G' H' x rp z, fun _ _ _ _ _ _ _ _ z => z.elim, ⟨_, tk0, fun _ _ _ _ _ _ _ _ _ _ _ _ _ _ _ z => z.elim⟩⟩ (hp ds P' q)⟩
structure CalT (P : Program) (w : World) (K : PySem.W.Frag) (mg : MG) (base : Heap) (x : Str) (ns : List Str) (k : Nat) (f : Addr) (fd : FuncData) (sp : PSp) : Prop where
  ok : FnT P w K mg base k f fd ns (spP K mg sp)
  mg : mg x = some (.ref f)
  kp : PySem.W.keepIn K (.ref f) = true
  b : Binds K fd ns []
section
variable {X : Cx} {e : Expr} {es : List Expr} {ps : PTA} {pos p' : Pos}
theorem pe_callT {k : Nat} {f : Addr} {fd : FuncData} {ns : List Str} {sp : Sp} {x : Str} {t : TA} (F : FnT X.prog X.w X.K X.mg X.base k f fd ns sp) (hr : RoomT k X.A) (hg : Gl X x) (hm : X.mg x = some (.ref f)) (hk : PySem.W.keepIn X.K (.ref f) = true) (hb : Binds X.K fd ns [])
    (ha : PA X (e :: es) t) (hdb : (x == ("__debug__" : Str)) = false) (he : starEach (e :: es) X.env = (false, eval e X.env) :: starEach es X.env) (hpl : (backTo pos (starEach es X.env)).any (·.1) = false) :
    PE X (.Call (.Name x p') (e :: es) [] pos) (tCall sp [] (fun _ _ _ => False) t) := by
  refine ⟨fun pins s σ H Q I h => wpAny_Call_Name_kw (ld_glob I hg hm ?_ hdb)⟩
  refine PySem.W.callWith_K (h₀ := X.base) I.ok.mod.kin hk (thn (ha.run pos pins s σ H _ I h) fun us s1 ⟨vs, H1, I1, r, q⟩ => ⟨I1.kIn, ?_⟩) he hpl
  have q : sp vs H1 Q (fun _ _ _ => False) := by
    have q' : sp (vs ++ []) H1 Q (fun _ _ _ => False) := q
    rw [List.append_nil] at q'
    exact q'
  have ln : us.length = ns.length := r.length.symm.trans (F.len _ _ _ _ q)
  have b := hb s1 us I1.kIn (by rw [List.append_nil]; exact ln)
  rw [List.append_nil] at b
  refine wpAny_call (codeAny_mono (F.go X.A X.stack s1 H1 ⟨us, []⟩ us vs Q _ hr I1.env0 b r q) fun res s2 z => ?_)
  match res, z with
  | .error u, z => exact False.elim z
  | .ok (.ret u), z => exact I1.after z
  | .ok .next, z => exact False.elim z
  | .ok .brk, z => exact False.elim z
  | .ok .cont, z => exact False.elim z
theorem pu_ct {x : Str} {ns : List Str} {k k' : Nat} {f : Addr} {fd : FuncData} {sp : PSp} (C : CalT X.prog X.w X.K X.mg X.base x ns k f fd sp) (hr : RoomT k' X.A) (h : PuA X (e :: es) ps) (hk : k ≤ k' := by decide) (hg : Gl X x := by rfl)
    (hdb : (x == ("__debug__" : Str)) = false := by decide) (he : starEach (e :: es) X.env = (false, eval e X.env) :: starEach es X.env := by rfl) (hpl : (backTo pos (starEach es X.env)).any (·.1) = false := by rfl) :
    PuE X (.Call (.Name x p') (e :: es) [] pos) (pCall sp ps) := by
  obtain ⟨t, h1, h2⟩ := h.ex
  refine ⟨_, pe_callT C.ok (hr.mono hk) hg C.mg C.kp C.b h1 hdb he hpl, fun G H env σ P Q ok hp kk => h2 G H env σ _ _ ok hp fun ds vs G' H' x r q => ?_⟩
  rw [List.append_nil]
  exact ⟨G', ds, P, x.s, r, q, fun d v G2 H2 y r2 q2 => kk d v G2 H2 (x.trans y) r2 q2⟩
end

/-! ### what a head gives of the classes that clauses name -/
def exOne (tab : ETab) (K : PySem.W.Frag) (T : Str) : Bool := tab.all fun p => decide (PySem.W.exmOne K (.ref (He.ga K p.1)) (.ref (He.ga K T)) = some (decide (p.1 = T)))
def exA (tab : ETab) (K : PySem.W.Frag) (u : Value) : Bool := tab.all fun p => decide (PySem.W.exmOne K (.ref (He.ga K p.1)) u = some true)
section
variable {tab : ETab} {K : PySem.W.Frag} {h : Heap} {mg : MG}
theorem exS_of (X : K.In h) (G : h.Ns mainGlobals mg) (b : errB tab K = true) (T : Str) (b2 : exOne tab K T = true) : ExS K mg (subOf tab T) (.ref (He.ga K T)) := ⟨fun c v e => by
  unfold subOf at e
  split at e
  · rename_i hs
    cases e
    obtain ⟨fs, hf⟩ := Option.isSome_iff_exists.mp hs
    exact ⟨_, (err_one X G b hf).1, of_decide_eq_true (List.all_eq_true.mp b2 _ (mem_of_look hf))⟩
  · cases e⟩
theorem exA_of {u : Value} (X : K.In h) (G : h.Ns mainGlobals mg) (b : errB tab K = true) (b2 : exA tab K u = true) : ExS K mg (subAll tab) u := ⟨fun c v e => by
  unfold subAll at e
  split at e
  · rename_i hs
    cases e
    obtain ⟨fs, hf⟩ := Option.isSome_iff_exists.mp hs
    exact ⟨_, (err_one X G b hf).1, of_decide_eq_true (List.all_eq_true.mp b2 _ (mem_of_look hf))⟩
  · cases e⟩
end

/-! ### isinstance(e, (A, B, ..)) -/
def anyS : List STab → STab
  | [], _ => some false
  | s :: r, c => match s c with
    | some true => some true
    | some false => anyS r c
    | none => none
structure PuCl (X : Cx) (es : List Expr) (Ts : List STab) : Prop where
  ex : ∃ (t : TA) (cs : List V) (us : List Value), PA X es t ∧ Paired ClsV cs us ∧ cs.length = es.length ∧ (∀ c b C, anyS Ts c = some b → X.mg c = some (.ref C) → PySem.W.kitAny X.K (.ref C) us = some b) ∧ ∀ (σ : L2.St) (H : Hp) (Q : List V → Hp → Prop), Q cs H → t σ H Q
section
variable {X : Cx} {e : Expr} {es : List Expr} {pe : PTE} {Ts : List STab} {pos : Pos}
theorem pucl_nil : PuCl X [] [] := ⟨_, [], [], pa_nil, .nil, rfl, fun c b C e _ => by cases e; exact kitAny_nil, fun σ H Q q => q⟩
theorem pucl_cons {sub : STab} {T : Str} {CT : Addr} {p : Pos} (S : ErS X.K X.mg sub (.ref CT)) (hT : X.mg T = some (.ref CT)) (h : PuCl X es Ts) (hg : Gl X T := by rfl) (hd : (T == ("__debug__" : Str)) = false := by decide)
    (hs : starEach (.Name T p :: es) X.env = (false, eval (.Name T p) X.env) :: starEach es X.env := by rfl) : PuCl X (.Name T p :: es) (sub :: Ts) := by
  obtain ⟨t, cs, us, h1, h2, h3, h4, h5⟩ := h.ex
  refine ⟨_, _ :: cs, _ :: us, pa_cons (pe_glob (v := .ref CT) hg hT rfl hd) h1 hs, .cons (.own CT) h2, by rw [List.length_cons, List.length_cons, h3], fun c b C e m => ?_, fun σ H Q q => h5 σ H _ q⟩
  unfold anyS at e
  split at e
  · rename_i e1
    cases e
    obtain ⟨C', _, _, m', _, k⟩ := S.ex c _ e1
    rw [m] at m'; cases m'
    exact kitAny_cons k (fun z => nomatch z) fun _ => rfl
  · rename_i e1
    obtain ⟨C', _, _, m', _, k⟩ := S.ex c _ e1
    rw [m] at m'; cases m'
    exact kitAny_cons k (fun _ => h4 c b C e m) fun z => nomatch z
  · cases e
def rIsErT (K : PySem.W.Frag) : List V → Hp → VK → Prop := fun xs H Q => ∃ (a C f dx tp : Addr) (ns : List Str) (cs : List V) (us : List Value) (b : Bool), xs = [.ref a, .ref tp] ∧ H tp = some (.tup cs) ∧ Paired ClsV cs us ∧ ErC K C f ns ∧ (∃ w, H a = some w ∧ Exq w a C dx) ∧ (∃ fs, H dx = some (exd dx fs)) ∧ PySem.W.kitAny K (.ref C) us = some b ∧ Q (.bl b) H
theorem call_isErT : CallR X (.builtin "isinstance") (rIsErT X.K) := by
  intro pins s σ H xs vs Q I r h
  obtain ⟨a, C, f, dx, tp, ns, cs, us, b, rfl, hT, kc, T, ea, ⟨fs, ed⟩, e, q⟩ := h
  obtain ⟨u1, u2, rfl, r1, r2⟩ := vals2 r
  cases (show u1 = Value.ref a from r1)
  cases (show u2 = Value.ref tp from r2)
  obtain ⟨w0, ea, xq⟩ := ea
  obtain ⟨oe, ves, ho, hcl2, hdx, hdt⟩ := xq.at I.hok ea
  obtain ⟨mA, hns, rel⟩ := exd_at I.hok ed
  obtain ⟨od, hod, hl⟩ := lookIn_ns hns
  have J : PySem.W.InstAt s.heap a _ C (some od) := ⟨ho, hcl2, by unfold PySem.W.notCls; rw [hdt] <;> rfl, by rw [hdx]; exact hod⟩
  obtain ⟨nm, q', N, bs, bm, sn, sb, ab, col, dd, k0, k1, k2, k3, k5, hC, hbm⟩ := T.oex.cls
  have hcl : (PySem.W.clsIn X.K C).isSome = true := by
    unfold PySem.W.clsIn
    rw [hC]; rfl
  obtain ⟨_, its, rv, o, g1, g2, n, g3⟩ := (show ObjOk X.prog X.w H s.heap tp (.tup cs) from I.hok tp _ hT)
  have e3 := ClsV.all kc rv
  subst e3
  obtain ⟨oc, odd, dt, sl⟩ := o
  simp only at g2 g3
  subst g2 g3
  exact PySem.W.kia_tup (PySem.W.kitx_exc hcl T.xf.ga T.xf.gg T.xf.exC T.cl T.hn T.ht T.hm) I.kIn J g1 e (fun z => nomatch z) fun tk => ⟨.bl b, H, I.kept (t' := tk) fun _ _ z => z, rfl, q⟩
def pIsEs (Ts : List STab) (p : PTE) : PTE := fun env P => p env fun d => ∃ c fs b, d = .err c fs ∧ anyS Ts c = some b ∧ P (.bl b)
theorem pu_isEs {tab : ETab} {p' p4 : Pos} {k4 : Nat} (TE : ErT X.K X.mg tab) (hall : ∀ c b, anyS Ts c = some b → (tab.lookup c).isSome = true) (hm : X.mg "isinstance" = none) (he : PuE X e pe) (h : PuCl X es Ts) (hg : Gl X "isinstance" := by rfl)
    (hl : es.length ≤ sizeLine := by decide) (hs : starEach [e, .Tuple es k4 p4] X.env = (false, eval e X.env) :: starEach [.Tuple es k4 p4] X.env := by rfl) (hs2 : starEach [.Tuple es k4 p4] X.env = (false, eval (.Tuple es k4 p4) X.env) :: starEach [] X.env := by rfl)
    (hpl : (backTo pos (starEach [.Tuple es k4 p4] X.env)).any (·.1) = false := by rfl) : PuE X (.Call (.Name "isinstance" p') [e, .Tuple es k4 p4] [] pos) (pIsEs Ts pe) := by
  obtain ⟨t, h1, h2⟩ := he.ex
  obtain ⟨ta, cs, us, g1, g2, g3, g4, g5⟩ := h.ex
  refine ⟨_, pe_callB call_isErT hg hm (by decide +kernel) (pa_cons h1 (pa_cons (pe_tup g1) pa_nil hs2) hs) (by decide) (by decide) hs hpl, fun G H env σ P Q ok hp k => h2 G H env σ _ _ ok hp fun d v G' H' x r q => ?_⟩
  obtain ⟨c, fs, b, rfl, hb, q⟩ := q
  cases r with
  | err ea eq ed em rf =>
    obtain ⟨ns, hns⟩ := Option.isSome_iff_exists.mp (hall c b hb)
    obtain ⟨C', f', em', T'⟩ := TE.ex c ns hns
    rw [em] at em'
    cases em'
    refine g5 σ H' _ ⟨by rw [g3]; exact hl, fun tp ht => ?_⟩
    have sU : Same H' (upd H' tp (.tup cs)) := Same.upd ht
    exact ⟨_, _, f', _, tp, ns, cs, us, b, rfl, upd_same, g2, T', ⟨_, sU _ _ (x.s _ _ ea), eq⟩, ⟨_, sU _ _ (x.s _ _ ed)⟩, g4 c b _ hb em, k (.bl b) (.bl b) G' _ (x.trans (Ext.newH x.s ht)) (.bl b) q⟩
end
/-- one class of the table among the asked ones -/
theorem any_tab {tab : ETab} {Ts : List STab} {T : Str} : ∀ c b, anyS (subOf tab T :: Ts) c = some b → (tab.lookup c).isSome = true := fun c b h => by
  unfold anyS subOf at h
  by_cases z : (tab.lookup c).isSome = true
  · exact z
  · rw [if_neg z] at h
    cases h
end PL
end

section
set_option linter.all false
set_option maxRecDepth 100000
set_option maxHeartbeats 4000000
set_option autoImplicit false
/-! PL26: more of lists. -/
namespace PL
open PySem PySem.Spec PyProof.Rows L2
section
variable {X : Cx} {a b c e o : Expr} {es : List Expr} {pe po : PTE} {ps : PTA} {pos apos cpos : Pos}
/-! ### l.index(x) -/
/-- j is the first place of an equal item -/
def firstAt (xs : List D) (y : D) (j : Nat) : Prop := (∃ z, xs[j]? = some z ∧ PyData.eqv (toPy z) (toPy y) = true) ∧ ∀ m z, m < j → xs[m]? = some z → PyData.eqv (toPy z) (toPy y) = false
def lidxP (ps : PTA) (env : List C) (P : D → Prop) : D → Prop := fun d => match d with
  | .lst xs => ps env fun ds => ∃ y j, ds = [y] ∧ cmpOk (.lst xs) = true ∧ cmpOk y = true ∧ firstAt xs y j ∧ P (.int (j : Nat))
  | _ => False
def pLidx (pe : PTE) (ps : PTA) : PTE := fun env P => pe env (lidxP ps env P)
theorem toPys_get : ∀ {xs : List D} {j : Nat}, (toPys xs)[j]? = (xs[j]?).map toPy
  | [], _ => by simp [toPys]
  | x :: xs, 0 => by simp [toPys]
  | x :: xs, j + 1 => by
    show (toPy x :: toPys xs)[j + 1]? = _
    simp only [List.getElem?_cons_succ]
    exact toPys_get
theorem pu_lidx (hu : X.A.units + 65 < cLine) (ho : PuO X o po) (ha : PuA X [e] ps)
    (hbase : attributeBase o "index" X.env (eval o X.env) = eval o X.env := by rfl)
    (hfew : ((backTo cpos (starEach [e] X.env)).all (fun x => !x.1) && (backToKw cpos (keywordEach [] X.env)).all (fun x => x.1.isSome)
      && decide (([e] : List Expr).length + ([] : List Keyword).length + (if ([] : List Keyword).isEmpty then 0 else 1) < 30)) = true := by rfl)
    (hline : (apos.endLine == cpos.line) = true := by rfl) (hs : starEach [e] X.env = (false, eval e X.env) :: starEach [] X.env := by rfl) (hplain : (backTo cpos (starEach [] X.env)).any (·.1) = false := by rfl) :
    PuE X (.Call (.Attribute o "index" apos) [e] [] cpos) (pLidx po ps) := by
  obtain ⟨t, h1, h2⟩ := ho.ex
  obtain ⟨u, g1, g2⟩ := ha.ex
  refine ⟨_, pe_bm PySem.F.plainAttrs_list PySem.F.slot_list_index PySem.F.type_list_index (mt_indexD hu) h1 g1 hbase hfew hline hs hplain, fun G H env σ P Q ok hp kk => h2 G H env σ _ _ ok hp fun d v G1 H1 x1 r1 q1 => ?_⟩
  unfold lidxP at q1
  split at q1
  · rename_i xs
    obtain ⟨l, vs, rfl, hl, rs⟩ := r1.lst x1.s
    refine ⟨.inl ⟨rfl, vs, SqL.of hl⟩, g2 G1 H1 env σ _ _ (ok.ext x1) q1 fun ds ws G2 H2 x2 r2 q2 => ?_⟩
    obtain ⟨y, j, rfl, c1, c2, ⟨⟨z, hz, ez⟩, no⟩, q⟩ := q2
    obtain ⟨w, rfl, rw_⟩ := reps1 r2
    obtain ⟨f1, s1⟩ := cmpOk_iff c1
    obtain ⟨f2, s2⟩ := cmpOk_iff c2
    have r1' : Shal X.K X.mg H2 G2 (.ref l) (.lst xs) := .inr ⟨l, rfl, .lst (x2.h _ _ hl) (rs.mono x2.g)⟩
    refine ⟨l, w, toPy y, toPys xs, j, toPy z, rfl, rfl, r1'.dp x2.s f1, rw_.dp x2.s f2, s1, s2, by rw [toPys_get, hz]; rfl, ez, fun m z' hm e => ?_, kk _ _ G2 H2 (x1.trans x2) (.int _) q⟩
    rw [toPys_get] at e
    cases q3 : xs[m]? with
    | none => rw [q3] at e; cases e
    | some z2 => rw [q3] at e; cases e; exact no m z2 hm q3
  · exact q1.elim
end
end PL
end

section
set_option linter.all false
set_option maxRecDepth 100000
set_option maxHeartbeats 4000000
set_option autoImplicit false
/-! PL27: str of an int; comparison chains as values; all of a list; ranges with a step; x = xs.pop(); upper; gcd. -/
namespace PL
open PySem PySem.Spec PyProof.Rows L2
section
variable {X : Cx} {e a b c : Expr} {es : List Expr} {pe pa pb pc : PTE} {ps : PTA} {pos p' : Pos}
/-! ### str(n) -/
def strIP : PSp := fun ds P => match ds with
  | [.int i] => i.natAbs.log2 < 1920 ∧ P (.str (toString i))
  | _ => False
theorem strIP_ok : CallOk X (fun xs H Q => ∃ i, xs = [.int i] ∧ i.natAbs.log2 < 1920 ∧ Q (.str (toString i)) H) strIP := by
  intro G H vs ds P Q s rs h k
  unfold strIP at h
  split at h
  · obtain ⟨v, rfl, r⟩ := one_shal rs
    cases r.int
    exact ⟨_, rfl, h.1, k _ _ G H (.refl s) (.str _) h.2⟩
  · exact h.elim
theorem strIP_i {P : D → Prop} {i : Int} : strIP [.int i] P = (i.natAbs.log2 < 1920 ∧ P (.str (toString i))) := rfl
theorem pu_strI (hm : X.mg "str" = none) (h : PuO X a pa) (hs : starEach [a] X.env = (false, eval a X.env) :: starEach [] X.env := by rfl) (hg : Gl X "str" := by rfl) : PuE X (.Call (.Name "str" p') [a] [] pos) (pCall strIP (paCons pa paNil)) :=
  pu_ty call_str_int strIP_ok hm (puao_cons h puao_nil hs) hg (by decide +kernel) (by decide) (by decide) hs rfl
/-! ### a < b < c as a value -/
def pChain (f g : BinP) (pa pb pc : PTE) : PTE := fun env P => pa env fun x => pb env fun y => f x y (asB fun k => if k = true then pc env fun z => g y z P else P (.bl false))
theorem pu_chain {op op' : CmpOp} {r r' : R2} {f g : BinP} (ho : OpR X (compareOp op) r) (hf : BinOk X r f) (ho' : OpR X (compareOp op') r') (hg : BinOk X r' g) (ha : PuO X a pa) (hb : PuO X b pb) (hc : PuO X c pc)
    (hm : lastMarks [op, op'] [b, c] = false := by with_unfolding_all rfl) : PuE X (.Compare a [op, op'] [b, c] pos) (pChain f g pa pb pc) := by
  obtain ⟨ta, a1, a2⟩ := ha.ex
  obtain ⟨tb, b1, b2⟩ := hb.ex
  obtain ⟨tc, c1, c2⟩ := hc.ex
  refine ⟨_, pe_chain ho ho' a1 b1 c1 hm, fun G H env σ P Q ok hp k => ?_⟩
  refine a2 G H env σ _ _ ok hp fun x v G1 H1 e1 r1 q1 => ?_
  refine b2 G1 H1 env σ _ _ (ok.ext e1) q1 fun y w G2 H2 e2 r2 q2 => ?_
  refine hf G2 H2 v w x y _ _ e2.s (r1.mono e2.h e2.g) r2 q2 fun d u G3 H3 e3 r3 q3 => ?_
  obtain ⟨kk, rfl, z⟩ := asB_rep r3 q3
  refine ⟨kk, rfl, ?_⟩
  cases kk with
  | false => exact k _ _ G3 H3 ((e1.trans e2).trans e3) (.bl false) z
  | true =>
    refine c2 G3 H3 env σ _ _ (((ok.ext e1).ext e2).ext e3) z fun z' u G4 H4 e4 r4 q4 => ?_
    exact hg G4 H4 w u y z' _ _ e4.s ((r2.mono e3.h e3.g).mono e4.h e4.g) r4 q4 fun d u2 G5 H5 e5 r5 q5 => k _ _ G5 H5 ((((e1.trans e2).trans e3).trans e4).trans e5) r5 q5
/-! ### all, any of a list of truth values -/
def blsOf : List D → Option (List Bool)
  | [] => some []
  | .bl b :: ds => (blsOf ds).map (b :: ·)
  | _ => none
theorem blsOf_map (bs : List Bool) : blsOf (bs.map D.bl) = some bs := by
  induction bs with
  | nil => rfl
  | cons b bs ih => show (blsOf (bs.map D.bl)).map (b :: ·) = _; rw [ih]; rfl
theorem blsOf_eq : ∀ {ds : List D} {bs : List Bool}, blsOf ds = some bs → ds = bs.map D.bl
  | [], bs, h => by cases h; rfl
  | .bl b :: ds, bs, h => by
    unfold blsOf at h
    cases e : blsOf ds with
    | none => rw [e] at h; cases h
    | some cs => rw [e] at h; cases h; rw [blsOf_eq e]; rfl
  | .non :: _, _, h => by cases h
  | .int _ :: _, _, h => by cases h
  | .str _ :: _, _, h => by cases h
  | .tup _ :: _, _, h => by cases h
  | .lst _ :: _, _, h => by cases h
  | .scr _ :: _, _, h => by cases h
  | .dk _ :: _, _, h => by cases h
  | .dt _ :: _, _, h => by cases h
  | .obj _ _ :: _, _, h => by cases h
  | .err _ _ :: _, _, h => by cases h
def allP : PSp := fun ds P => match ds with
  | [d] => ∃ xs bs, lstOf d = some xs ∧ blsOf xs = some bs ∧ P (.bl (bs.all id))
  | _ => False
def anyP : PSp := fun ds P => match ds with
  | [d] => ∃ xs bs, lstOf d = some xs ∧ blsOf xs = some bs ∧ P (.bl (bs.any id))
  | _ => False
theorem allP_ok : CallOk X (rAll X.K) allP := by
  intro G H vs ds P Q s rs h k
  unfold allP at h
  split at h
  · obtain ⟨xs, bs, e1, e2, q⟩ := h
    obtain ⟨v, rfl, r⟩ := one_shal rs
    obtain ⟨l, ws, rfl, hl, rr⟩ := r.sql s e1
    have ew : ws = bs.map V.bl := by rw [blsOf_eq e2] at rr; exact rr.bls
    subst ew
    exact ⟨l, bs, rfl, hl, k _ _ G H (.refl s) (.bl _) q⟩
  · exact h.elim
theorem anyP_ok : CallOk X (rAny X.K) anyP := by
  intro G H vs ds P Q s rs h k
  unfold anyP at h
  split at h
  · obtain ⟨xs, bs, e1, e2, q⟩ := h
    obtain ⟨v, rfl, r⟩ := one_shal rs
    obtain ⟨l, ws, rfl, hl, rr⟩ := r.sql s e1
    have ew : ws = bs.map V.bl := by rw [blsOf_eq e2] at rr; exact rr.bls
    subst ew
    exact ⟨l, bs, rfl, hl, k _ _ G H (.refl s) (.bl _) q⟩
  · exact h.elim
theorem allP_lst {P : D → Prop} {xs : List D} : allP [.lst xs] P = ∃ ys bs, lstOf (.lst xs) = some ys ∧ blsOf ys = some bs ∧ P (.bl (bs.all id)) := rfl
theorem anyP_lst {P : D → Prop} {xs : List D} : anyP [.lst xs] P = ∃ ys bs, lstOf (.lst xs) = some ys ∧ blsOf ys = some bs ∧ P (.bl (bs.any id)) := rfl
theorem pu_all (hc : X.calm = true) (hm : X.mg "all" = none) (h : PuO X a pa) (hs : starEach [a] X.env = (false, eval a X.env) :: starEach [] X.env := by rfl) (hg : Gl X "all" := by rfl) : PuE X (.Call (.Name "all" p') [a] [] pos) (pCall allP (paCons pa paNil)) :=
  pu_bi (cr_all hc) allP_ok hm (puao_cons h puao_nil hs) hg (by decide +kernel) (by decide) (by decide) hs rfl
theorem pu_any (hc : X.calm = true) (hm : X.mg "any" = none) (h : PuO X a pa) (hs : starEach [a] X.env = (false, eval a X.env) :: starEach [] X.env := by rfl) (hg : Gl X "any" := by rfl) : PuE X (.Call (.Name "any" p') [a] [] pos) (pCall anyP (paCons pa paNil)) :=
  pu_bi (cr_any hc) anyP_ok hm (puao_cons h puao_nil hs) hg (by decide +kernel) (by decide) (by decide) hs rfl
/-! ### range(a, b, c) -/
def rg3 (P : Sq → Prop) : D → D → D → Prop := fun d f g => match d, f, g with
  | .int i, .int j, .int c => ∃ n, RgC i j c n ∧ P (sqC i c n)
  | _, _, _ => False
theorem rg3_i {P : Sq → Prop} {i j c : Int} : rg3 P (.int i) (.int j) (.int c) = ∃ n, RgC i j c n ∧ P (sqC i c n) := rfl
def piR3 (pa pb pc : PTE) : PTI := fun env P => pa env fun d => pb env fun f => pc env fun g => rg3 P d f g
theorem pui_r3 {tg : Expr} (hm : X.mg "range" = none) (h : PuE X a pa) (h' : PuE X b pb) (h'' : PuE X c pc) (hg : Gl X "range" := by rfl) (hs : starEach [a, b, c] X.env = (false, eval a X.env) :: starEach [b, c] X.env := by rfl)
    (hs2 : starEach [b, c] X.env = (false, eval b X.env) :: starEach [c] X.env := by rfl) (hs3 : starEach [c] X.env = (false, eval c X.env) :: starEach [] X.env := by rfl) (hpl : (backTo pos (starEach [b, c] X.env)).any (·.1) = false := by rfl) :
    PuI X tg (.Call (.Name "range" p') [a, b, c] [] pos) (piR3 pa pb pc) := by
  obtain ⟨t, h1, h2⟩ := h.ex
  obtain ⟨u, g1, g2⟩ := h'.ex
  obtain ⟨v, k1, k2⟩ := h''.ex
  refine ⟨_, pi_range3 hg hm (pa_cons h1 (pa_cons g1 (pa_cons k1 pa_nil hs3) hs2) hs) hs hpl, fun G H env σ P R ok hp k => h2 G H env σ _ _ ok hp fun d v G1 H1 x1 r1 q1 => ?_⟩
  refine g2 G1 H1 env σ _ _ (ok.ext x1) q1 fun f w G2 H2 x2 r2 q2 => ?_
  refine k2 G2 H2 env σ _ _ ((ok.ext x1).ext x2) q2 fun g u G3 H3 x3 r3 q3 => ?_
  unfold rg3 at q3
  split at q3
  · cases r1; cases r2; cases r3
    obtain ⟨n, z, q3⟩ := q3
    exact ⟨_, _, _, n, rfl, z, k _ _ G3 H3 ((x1.trans x2).trans x3) (walks_rangeC _ _ _) q3⟩
  · exact q3.elim
theorem for_c {lo c : Int} {n : Nat} {g : PTG} {body : PTS} {PD : PEnds} {env : List C} (W : Nat → List C → Prop) (h0 : W 0 env)
    (hs : ∀ (k : Nat) (env : List C), k < n → W k env → g (.int (lo + (k : Nat) * c)) env fun e => body { nx := W (k + 1), ct := W (k + 1), bk := PD.nx, rt := PD.rt, er := PD.er } e) (hd : ∀ env, W n env → PD.nx env) : forP (sqC lo c n) g body PD env :=
  ⟨W, h0, fun k d env hk ob w => by cases ob; exact hs k env hk w, hd⟩
/-! ### upper -/
def upP (P : D → Prop) : D → Prop := fun d => match d with
  | .str z => z.length ≤ 5592405 ∧ P (.str (Txt.upper z))
  | _ => False
def pUp (pe : PTE) : PTE := fun env P => pe env (upP P)
theorem upP_s {P : D → Prop} {z : Str} : upP P (.str z) = (z.length ≤ 5592405 ∧ P (.str (Txt.upper z))) := rfl
theorem pu_upper {apos : Pos} (ho : PuE X a pa) (hbase : attributeBase a "upper" X.env (eval a X.env) = eval a X.env := by rfl) (hline : (apos.endLine == pos.line) = true := by rfl) : PuE X (.Call (.Attribute a "upper" apos) [] [] pos) (pUp pa) := by
  obtain ⟨t, h1, h2⟩ := ho.ex
  refine ⟨_, pe_upper h1 hbase hline, fun G H env σ P Q ok hp k => h2 G H env σ _ _ ok hp fun d v G' H' x r q => ?_⟩
  unfold upP at q
  split at q
  · cases r; exact ⟨⟨_, rfl⟩, _, rfl, rfl, q.1, k _ _ G' H' x (.str _) q.2⟩
  · exact q.elim
/-! ### gcd -/
def gcdP : PSp := fun ds P => match ds with
  | [.int i, .int j] => P (.int ((Nat.gcd i.natAbs j.natAbs : Nat) : Int))
  | _ => False
theorem gcdP_i {P : D → Prop} {i j : Int} : gcdP [.int i, .int j] P = P (.int ((Nat.gcd i.natAbs j.natAbs : Nat) : Int)) := rfl
theorem gcdP_ok : CallOk X rGcd gcdP := by
  intro G H vs ds P Q s rs h k
  unfold gcdP at h
  split at h
  · cases rs with
    | cons r1 rs =>
      cases rs with
      | cons r2 rs =>
        cases rs
        cases r1.int; cases r2.int
        exact ⟨_, _, rfl, k _ _ G H (.refl s) (.int _) h⟩
  · exact h.elim
theorem pu_gcd {x : Str} (hm : X.mg x = some (.builtin "math.gcd")) (h : PuO X a pa) (h' : PuO X b pb) (hg : Gl X x := by rfl) (hdb : (x == ("__debug__" : Str)) = false := by decide) (hs : starEach [a, b] X.env = (false, eval a X.env) :: starEach [b] X.env := by rfl)
    (hs2 : starEach [b] X.env = (false, eval b X.env) :: starEach [] X.env := by rfl) (hpl : (backTo pos (starEach [b] X.env)).any (·.1) = false := by rfl) :
    PuE X (.Call (.Name x p') [a, b] [] pos) (pCall gcdP (paCons pa (paCons pb paNil))) := by
  obtain ⟨t, h1, h2⟩ := (puao_cons h (puao_cons h' puao_nil hs2) hs).ex
  refine ⟨_, pe_callBfun cr_gcd hg hm h1 hdb hs hpl, fun G H env σ P Q ok hp k => h2 G H env σ _ _ ok hp fun ds vs G' H' y rs q => ?_⟩
  exact gcdP_ok G' H' vs ds P Q y.s rs q fun d u G2 H2 z r2 q2 => k d u G2 H2 (y.trans z) r2 q2
/-! ### y = xs.pop() -/
def pPop (i j : Nat) : PTS := fun PD env => match env[i]? with
  | some (.ow (.lst ds)) => ∃ d, ds[ds.length - 1]? = some d ∧ PD.nx ((env.set i (.ow (.lst ds.dropLast))).set j (.fz d))
  | _ => False
theorem Reps.dropLast {K : PySem.W.Frag} {mg : MG} {G : Hp} {vs : List V} {ds : List D} (h : Reps K mg G vs ds) : Reps K mg G vs.dropLast ds.dropLast := by
  rw [List.dropLast_eq_take, List.dropLast_eq_take, h.length]
  exact h.take _
theorem pus_pop (i j : Nat) {x y : Str} {apos npos p1 spos p2 : Pos} (hN : X.N.Nodup) (hi : X.N[j]? = some y := by rfl) (hx : Loc X.env.scope y := by first | exact Or.inl rfl | exact Or.inr rfl)
    (hv : PE X (.Name x npos) (tVar i))
    (hs : swapsWith (.Call (.Attribute (.Name x npos) "pop" apos) [] [] p1) (some (.Name y p2)) spos.line X.env = pure false := by rfl) (hf : X.fn y = true ∨ X.env.scope.names.lookup y = some .local := by first | exact .inl rfl | exact .inr rfl)
    (hbase : attributeBase (.Name x npos) "pop" X.env (eval (.Name x npos) X.env) = eval (.Name x npos) X.env := by rfl) (hline : (apos.endLine == p1.line) = true := by rfl) :
    PuS X (.Assign [.Name y p2] (.Call (.Attribute (.Name x npos) "pop" apos) [] [] p1) spos) (pPop i j) := by
  refine ⟨_, ps_set hN hi hx (pe_bm0 PySem.F.plainAttrs_list PySem.F.slot_list_pop PySem.F.type_list_pop mt_pop hv hbase hline) hs hf, fun G0 H0 G H env σ PD E r ok hp => ?_⟩
  unfold pPop at hp
  split at hp
  · rename_i ds hi
    obtain ⟨d, hd, z⟩ := hp
    obtain ⟨l, hl, tp, n⟩ := r.ok.slot i _ hi
    cases tp with
    | lst hH rs =>
      obtain ⟨v, hv, rv⟩ := rs.getD hd
      refine ⟨.ref l, hl, .inl ⟨rfl, _, SqL.of hH⟩, l, _, v, rfl, rfl, hH, by rw [rs.length]; exact hv, ?_⟩
      have r' := r.write hi hl n (.lst upd_same rs.dropLast)
      exact ok.nx G _ _ _ (r'.setFz rv) z
  · exact hp.elim
end
end PL
end

section
set_option linter.all false
set_option maxRecDepth 100000
set_option maxHeartbeats 4000000
set_option autoImplicit false
/-! PL28: sorted(texts, key=f), f a def that returns (len(text), text). -/
namespace PL
open PySem PySem.Spec PyProof.Rows L2 PySem.W
/-- the key of a text -/
def keyT (x : Str) : PyData := .tuple [.int (x.length : Nat), .str x]
def keyBody (n : Str) (k : Nat) (p1 p2 p3 p4 p5 p6 : Pos) : List Stmt := [.Return (some (.Tuple [.Call (.Name "len" p1) [.Name n p2] [] p3, .Name n p4] k p5)) p6]
section
variable {P : Program} {w : World} {K : PySem.W.Frag} {mg : MG} {base : Heap}
theorem key_run {qual : Str} {params : Arguments} {scope : Scope} {x n : Str} {f : Addr} {fd : FuncData} {k : Nat} {p1 p2 p3 p4 p5 p6 : Pos} {A : Around} {s : Shared} {z : Str} {t : Tok}
    (F : FunD K x qual params (keyBody n k p1 p2 p3 p4 p5 p6) scope [] [] f fd) (S : FnScope [n] [n] scope) (hn : scope.names = [(n, .local), ("len", .globalImplicit)])
    (hb : ∀ (s : Shared) (v : Value), BindsTo s fd ⟨[v], []⟩ [(n, v)]) (hnl : (n == ("__debug__" : Str)) = false) (hln : (("len" : Str) == n) = false)
    (M : Mod K mg base) (hmg : mg "len" = none) (keep : ∀ b o, base.get? b = some o → s.heap.get? b = some o) (hd : A.depth < recursionLimit) (hz : z.length ≤ sizeLine) :
    wpAny (model P w) A (call (.ref f) [.str z t]) (KeyPure (keyT z) s) (fun _ _ => False) s := by
  obtain ⟨oc, od, dV, kV, doc, pm, an, cdv, ct, osl, rfl, lk, hcd, _, _⟩ := F.ex
  have KX : K.In s.heap := M.kin.keeps keep
  have lim : s.heap.NoLimit := M.nolimit.keeps keep
  refine wpAny_call ?_
  refine codeAny_call_function hd (KX _ _ lk) rfl S.co S.gen rfl (PySem.W.codeRec_of KX hcd) (hb _ _ _ _ _ _ ?_)
  refine wpAny_newFunctionEnv_cells S.kind (fun y hy => ?_) fun env he s1 x => ?_
  · have : y = (n, Value.str z t) := by simpa using hy
    subst this
    left
    rw [hn]
    simp
  have fk : env.scope.kind = .function := by rw [he]; exact S.kind
  have fg : env.globals = mainGlobals := by rw [he]; rfl
  have fb : env.builtins = builtinsNs := by rw [he]; rfl
  have kn : env.kindOf n = some .local := by
    rw [he]
    show scope.names.lookup n = _
    rw [hn]; simp
  have kl : env.kindOf "len" = some .globalImplicit := by
    rw [he]
    show scope.names.lookup ("len" : Str) = _
    rw [hn, List.lookup_cons, hln]; rfl
  have hm : bindL env.kindOf [(n, Value.str z t)] (fun _ => none) n = some (.str z t) := by
    show (if env.kindOf n = some .local then fun y => if y = n then some (Value.str z t) else none else fun _ => none) n = _
    rw [if_pos kn, if_pos rfl]
  obtain ⟨mb, b1, b2⟩ := M.blt
  have hv : mb "len" = some (.builtin "len") := (b2 "len" (by decide)).trans (by decide +kernel)
  have ic := x.toInCall
  generalize bindL env.kindOf [(n, Value.str z t)] (fun _ => none) = m at hm ic
  clear he x
  generalize hL : env.locals = L at ic
  refine ⟨lim.keeps ic.keep, codeAny_func ?_⟩
  have ld : ∀ {B : Around} {E : Value → Shared → Prop} {s2 : Shared} {p : Pos} {Q : Value → Shared → Prop}, InCall s L m s2 → Q (.str z t) s2 → wpAny (model P w) B (eval (.Name n p) env) Q E s2 := fun {B E s2 p Q} ic2 q => by
    refine wpAny_Name (wpAny_loadName_local fk kn (by rw [hL]; exact ic2.ns) hm q) hnl
  refine wpAny_execs_cons ?_
  refine wpAny_Return_some ?_
  refine wpAny_Tuple_spliced ?_
  refine Calls.spliced_cons ?_
  refine wpAny_Call_Name_kw (Calls.Name_function_global fk kl (Calls.loadGlobal_builtin (mg := mg) (mb := mb) (by rw [fg]; exact (M.glob.keeps keep).keeps ic.keep) hmg (by rw [fb]; exact (b1.keeps keep).keeps ic.keep) hv ?_))
  refine PyProof.Rows.callWith_builtin1 (Calls.spliced_cons (ld ic (Calls.spliced_nil (len_str (by have := PySem.sizeLine_eq; omega) ?_)))) rfl rfl
  refine Calls.spliced_cons (ld (ic.tok _) (Calls.spliced_nil ⟨by show 2 ≤ sizeLine; decide, ?_⟩))
  obtain ⟨h', tk, e⟩ := ic.same
  refine ⟨s1.heap.push { cls := .type "tuple", data := .seq #[.int (z.length : Nat) (s1.toks + 1), .str z t] }, s1.toks + 1 + 1, ?_, fun b o q => Heap.get?_push_of_some _ (ic.keep b o q), ?_⟩
  · subst e; rfl
  · exact .tuple (as := []) (Heap.get?_push_size _ rfl) rfl rfl (.cons (as := []) (bs := []) (.int _ _) (.cons (as := []) (bs := []) (.str _ _) .nil))
/-! ### the order -/
def leT (a b : Str) : Prop := a.length < b.length ∨ (a.length = b.length ∧ ¬ b.cps.toList < a.cps.toList)
theorem dataLe_keyT (a b : Str) : dataLe false keyT a b = true ↔ leT a b := by
  show (!dataLt (keyT b) (keyT a)) = true ↔ _
  unfold leT keyT
  rw [dataLt_pair (by simp [alike]) (by simp [alike]), dataLt_int, dataLt_str]
  simp only [PyData.eqv, beq_iff_eq]
  by_cases h1 : b.length = a.length
  · rw [if_pos (by omega)]
    by_cases h2 : b = a
    · rw [if_pos h2]
      subst h2
      simp only [Bool.not_false, true_iff]
      exact .inr ⟨trivial, List.lt_irrefl _⟩
    · rw [if_neg h2]
      simp only [Bool.not_eq_true', decide_eq_false_iff_not]
      exact ⟨fun h => .inr ⟨h1.symm, h⟩, fun h => by
        rcases h with h | h
        · omega
        · exact h.2⟩
  · rw [if_neg (by omega)]
    simp only [Bool.not_eq_true', decide_eq_false_iff_not]
    omega
theorem leT_total (a b : Str) : leT a b ∨ leT b a := by
  unfold leT
  by_cases h : a.length = b.length
  · by_cases h2 : b.cps.toList < a.cps.toList
    · exact .inr (.inr ⟨h.symm, List.lt_asymm h2⟩)
    · exact .inl (.inr ⟨h, h2⟩)
  · omega
section
variable {X : Cx}
theorem keyT_sorts (ys : List Str) : (ys.mergeSort (dataLe false keyT)).Perm ys ∧ (ys.mergeSort (dataLe false keyT)).Pairwise leT := by
  refine ⟨List.mergeSort_perm ys _, ?_⟩
  have t : TotalLe (dataLe false keyT) := sortLe_total _ _ _
  exact (sort_pairwise t ys).imp fun {a b} q => (dataLe_keyT a b).mp q
def rSortK (K : PySem.W.Frag) (f : Addr) : List V → List V → Hp → VK → Prop := fun vs zs H Q => ∃ (a : Addr) (ys : List Str), vs = [V.ref a] ∧ zs = [V.ref f] ∧ SqL K H a (ys.map V.str) ∧ (∀ y ∈ ys, y.length ≤ sizeLine) ∧
  ∀ (zs : List Str) (p : Addr), zs.Perm ys → zs.Pairwise leT → H p = none → Q (.ref p) (upd H p (.lst (zs.map V.str)))
theorem eachStrs {h : Heap} : ∀ {ys : List Str} {us : List Value}, Vals (ys.map V.str) us → EachIs (fun v y => ∃ t, v = Value.str y t) us ys
  | [], _, .nil => .nil
  | y :: ys, _, .cons r rs => .cons r (eachStrs (h := h) rs)
theorem valsStrs : ∀ {ys : List Str} {us : List Value}, EachIs (fun v y => ∃ t, v = Value.str y t) us ys → Vals (ys.map V.str) us
  | _, _, .nil => .nil
  | _, _, .cons r rs => .cons r (valsStrs rs)
theorem cr_sortK {qual : Str} {params : Arguments} {scope : Scope} {x n : Str} {f : Addr} {fd : FuncData} {k k' : Nat} {p1 p2 p3 p4 p5 p6 : Pos}
    (F : FunD X.K x qual params (keyBody n k p1 p2 p3 p4 p5 p6) scope [] [] f fd) (S : FnScope [n] [n] scope) (hn : scope.names = [(n, .local), ("len", .globalImplicit)])
    (hb : ∀ (s : Shared) (v : Value), BindsTo s fd ⟨[v], []⟩ [(n, v)]) (hnl : (n == ("__debug__" : Str)) = false) (hln : (("len" : Str) == n) = false) (hmg : X.mg "len" = none) (hr : Room k' X.A) :
    CallRK X (.builtin "sorted") [Str.ofString "key"] (rSortK X.K f) := by
  intro pins s σ H vs zs us ws Q I r rz h
  obtain ⟨a, ys, rfl, rfl, hs, hz, q⟩ := h
  obtain rfl := Vals.ref1 r
  obtain rfl := Vals.ref1 rz
  obtain ⟨its, rv, hl, hz2⟩ := I.list hs
  have hsz := PySem.sizeLine_eq
  have hlen : ys.length ≤ sizeLine := by rw [← List.length_map (f := V.str)]; exact hz2
  refine sorted_key_data (R := fun v y => ∃ t, v = Value.str y t) (b := false) keyT hl.isList (eachStrs (h := s.heap) rv) (AllAlike.of fun _ _ => by simp [alike, alikeAll, keyT]) (Sortable.tuples fun _ => ⟨_, _, rfl⟩) hlen (fun y _ => ?_) (ksk_s1 _ _) (fun _ => ksk_l1 _ _) (fun _ => ksk_t1 _ _) (fun v y hv hy h tk kp => ?_) fun out c h' tk kp hf hD ho eo => ?_
  · have hd : (keyT y).depth = 1 := by simp [keyT, PyData.depth, PyData.depthAll]
    have := hr.un
    omega
  · obtain ⟨t, rfl⟩ := hv
    exact key_run (s := { s with heap := h, toks := tk }) F S hn hb hnl hln I.mod hmg (fun b o e => kp b o (I.bk b o e)) (by have := hr.dp; show X.A.depth < _; omega) (hz y hy)
  · obtain ⟨w1, w2⟩ := keyT_sorts ys
    refine ⟨.ref _, upd H (s.heap.objs.size + 1) (.lst ((ys.mergeSort (dataLe false keyT)).map V.str)), I.laid (t' := tk) (fun b o e => kp b o e) (Nat.le_succ _) ⟨?_, out, c, valsStrs eo, hD⟩, rfl, q _ _ w1 w2 (I.hok.fresh (Nat.le_succ _))⟩
    rw [List.length_map, w1.length_eq]; exact hlen
def sortKP : PSp := fun ds P => match ds with
  | [d] => ∃ xs ys, lstOf d = some xs ∧ strsOf xs = some ys ∧ (∀ y ∈ ys, y.length ≤ sizeLine) ∧ ∀ zs : List Str, zs.Perm ys → zs.Pairwise leT → P (.lst (zs.map D.str))
  | _ => False
structure KeyF (K : PySem.W.Frag) (mg : MG) (x : Str) (f : Addr) : Prop where
  mgx : mg x = some (.ref f)
  ex : ∃ (qual : Str) (params : Arguments) (scope : Scope) (n : Str) (fd : FuncData) (k : Nat) (p1 p2 p3 p4 p5 p6 : Pos), FunD K x qual params (keyBody n k p1 p2 p3 p4 p5 p6) scope [] [] f fd ∧ FnScope [n] [n] scope ∧ scope.names = [(n, .local), ("len", .globalImplicit)] ∧
    (∀ (s : Shared) (v : Value), BindsTo s fd ⟨[v], []⟩ [(n, v)]) ∧ (n == ("__debug__" : Str)) = false ∧ (("len" : Str) == n) = false
theorem keyF_of {K : PySem.W.Frag} {mg : MG} {x n : Str} {st : Stmt} {f : Addr} {fd : FuncData} {k : Nat} {p1 p2 p3 p4 p5 p6 : Pos} (F : FnP K x st f fd) (g : mg x = some (.ref f)) (S : FnScope [n] [n] (defScope st))
    (hb : defBody st = keyBody n k p1 p2 p3 p4 p5 p6) (hn : (defScope st).names = [(n, .local), ("len", .globalImplicit)]) (b : ∀ (s : Shared) (us : List Value), us.length = ([n] : List Str).length → BindsTo s fd ⟨us, []⟩ (([n] : List Str).zip us))
    (hnl : (n == ("__debug__" : Str)) = false) (hln : (("len" : Str) == n) = false) : KeyF K mg x f := by
  refine ⟨g, x, defArgs st, defScope st, n, fd, k, p1, p2, p3, p4, p5, p6, ?_, S, hn, fun s v => b s [v] rfl, hnl, hln⟩
  rw [← hb]
  exact F
theorem sortKP_ok {K : PySem.W.Frag} {mg : MG} {f : Addr} {G H : Hp} {v : V} {d : D} {P : D → Prop} {Q : VK} (s : Same G H) (r : Shal K mg H G v d) (h : sortKP [d] P)
    (k : ∀ d l G' H', Ext G H G' H' → Top K mg H' G' l d → G' l = none → H l = none → P d → Q (.ref l) H') : rSortK K f [v] [.ref f] H Q := by
  obtain ⟨xs, ys, e1, e2, hz, q⟩ := h
  obtain ⟨l, ws, rfl, hl, rr⟩ := r.sql s e1
  have ew := reps_strs rr e2
  subst ew
  exact ⟨l, ys, rfl, rfl, hl, hz, fun zs p h1 h2 hn => k _ p G _ (Ext.newH s hn) (.lst upd_same (Reps.ofStrs zs)) (s.free hn) hn (q zs h1 h2)⟩
theorem puf_sortK {X : Cx} {a : Expr} {pa : PTE} {x : Str} {f : Addr} {k' : Nat} {pos p' p2 p3 : Pos} (KF : KeyF X.K X.mg x f) (hml : X.mg "len" = none) (hm : X.mg "sorted" = none) (hr : Room k' X.A) (h : PuO X a pa)
    (hs : starEach [a] X.env = (false, eval a X.env) :: starEach [] X.env := by rfl) (hg : Gl X "sorted" := by rfl) (hgx : Gl X x := by rfl) (hd : (x == ("__debug__" : Str)) = false := by decide)
    (he : backTo pos (starEach [a] X.env) = (false, eval a X.env) :: backTo pos (starEach [] X.env) := by rfl) (hpl : (backTo pos (starEach [a] X.env)).any (·.1) = false := by rfl)
    (hall : (backToKw pos (keywordEach [⟨some "key", .Name x p2, p3⟩] X.env)).all (·.1.isSome) = true := by rfl) (hnone : (backToKw pos (keywordEach [⟨some "key", .Name x p2, p3⟩] X.env)).any (·.1.isNone) = false := by rfl)
    (hks : (backToKw pos (keywordEach [⟨some "key", .Name x p2, p3⟩] X.env)).filterMap (·.1) = [Str.ofString "key"] := by rfl) :
    PuF X (.Call (.Name "sorted" p') [a] [⟨some "key", .Name x p2, p3⟩] pos) (pCall sortKP (paCons pa paNil)) := by
  obtain ⟨qual, params, scope, n, fd, k, q1, q2, q3, q4, q5, q6, F, S, hn, hb, hnl, hln⟩ := KF.ex
  obtain ⟨t, h1, h2⟩ := h.ex
  refine ⟨_, pe_callBK (cr_sortK F S hn hb hnl hln hml hr) hg hm (by decide +kernel) (pa_cons h1 pa_nil hs) (pk_cons (pe_glob (v := .ref f) hgx KF.mgx rfl hd) pk_nil) (by decide) (by decide) he hpl hall hnone hks, fun G H env σ P Q ok hp kk => h2 G H env σ _ _ ok hp fun d v G' H' y r q => ?_⟩
  exact sortKP_ok y.s r q fun d l G2 H2 z r2 g2 h2 q2 => kk d l G2 H2 (y.trans z) r2 g2 (y.h.free h2) q2
end
end
end PL
end

section
set_option linter.all false
set_option maxRecDepth 100000
set_option maxHeartbeats 4000000
set_option autoImplicit false
/-! PL29: isinstance of an own class; comprehensions over what may raise. -/
namespace PL
open PySem PySem.Spec PyProof.Rows L2
def tyNames : List String := ["NoneType", "bool", "int", "str", "tuple", "list", "dict"]
def insB (tab : OTab) (K : PySem.W.Frag) : Bool :=
  He.eqO (PySem.W.specialIn K (.builtin "object.__class__") "__get__") (some (some (.builtin "getset_descriptor.__get__"))) && (decide (PySem.W.takesIn K (.builtin "object.__class__") = some true) &&
  (tab.all fun p => He.eqO (PySem.W.findIn K (.ref (He.ga K p.1)) "__class__") (some (some (.builtin "object.__class__"))) && decide (PySem.W.mroIn K (He.ga K p.1) (.type "object") = some true)))
def insTB (tab : OTab) (K : PySem.W.Frag) (T : Str) : Bool :=
  (tab.all fun p => decide (PySem.W.kitOne K (.ref (He.ga K p.1)) (.ref (He.ga K T)) = some (decide (p.1 = T)))) && (tyNames.all fun n => decide (PySem.W.kitOne K (.type n) (.ref (He.ga K T)) = some false))
structure InsT (K : PySem.W.Frag) (mg : MG) (tab : OTab) (T : Str) (CT : Addr) : Prop where
  mgT : mg T = some (.ref CT)
  ob : ∀ c C, (tab.lookup c).isSome = true → mg c = some (.ref C) → PySem.W.kitOne K (.ref C) (.ref CT) = some (decide (c = T))
  bt : ∀ n ∈ tyNames, PySem.W.kitOne K (.type n) (.ref CT) = some false
  ty : ∀ c C, (tab.lookup c).isSome = true → mg c = some (.ref C) → ∀ (H : Hp) (a dx : Addr) (fs : List (Str × V)), H a = some (.ins C dx fs) → TyX K H (.ref a) (.ref C)
theorem mem_of_lookO {tab : OTab} {c : Str} (h : (tab.lookup c).isSome = true) : ∃ ns, (c, ns) ∈ tab ∧ tab.lookup c = some ns := by
  obtain ⟨ns, e⟩ := Option.isSome_iff_exists.mp h
  exact ⟨ns, mem_of_look e, e⟩
theorem insT_of {tab : OTab} {K : PySem.W.Frag} {h : Heap} {mg : MG} {T : Str} (X : K.In h) (G : h.Ns mainGlobals mg) (b : objB tab K = true) (b1 : insB tab K = true) (b2 : insTB tab K T = true) (hT : (tab.lookup T).isSome = true) : InsT K mg tab T (He.ga K T) := by
  unfold insB at b1
  unfold insTB at b2
  rw [Bool.and_eq_true, Bool.and_eq_true] at b1
  rw [Bool.and_eq_true] at b2
  obtain ⟨s1, s2, s3⟩ := b1
  obtain ⟨t1, t2⟩ := b2
  have mgc : ∀ c, (tab.lookup c).isSome = true → mg c = some (.ref (He.ga K c)) := fun c hc => by
    obtain ⟨ns, _, e⟩ := mem_of_lookO hc
    exact (obj_one X G b e).1
  refine ⟨mgc T hT, fun c C hc hm => ?_, fun n hn => of_decide_eq_true (List.all_eq_true.mp t2 n hn), fun c C hc hm H a dx fs e => ?_⟩
  · obtain ⟨ns, hmem, _⟩ := mem_of_lookO hc
    have := (mgc c hc).symm.trans hm
    cases this
    exact of_decide_eq_true (List.all_eq_true.mp t1 _ hmem)
  · obtain ⟨ns, hmem, el⟩ := mem_of_lookO hc
    have := (mgc c hc).symm.trans hm
    cases this
    have z := List.all_eq_true.mp s3 _ hmem
    rw [Bool.and_eq_true] at z
    exact .base (.ins e (obj_one X G b el).2.1 (He.eqO_ok z.1) (He.eqO_ok s1) (of_decide_eq_true s2) (of_decide_eq_true z.2))
def isoB (tab : OTab) (T : Str) : D → Option Bool
  | .obj c _ => if (tab.lookup c).isSome = true then some (decide (c = T)) else none
  | d => (tyName d).map fun _ => false
def isoP (tab : OTab) (T : Str) (p : PTE) : PTE := fun env P => p env fun d => ∃ b, isoB tab T d = some b ∧ P (.bl b)
theorem tyName_mem {d : D} {n : String} (h : tyName d = some n) : n ∈ tyNames := by
  cases d <;> (first | cases h | skip) <;> decide
section
variable {X : Cx} {a : Expr} {pa : PTE} {pos p' : Pos} {tab : OTab}
theorem pu_iso {T : Str} {CT : Addr} {p2 : Pos} (S : InsT X.K X.mg tab T CT) (hm : X.mg "isinstance" = none) (ha : PuO X a pa) (hg : Gl X "isinstance" := by rfl) (hgT : Gl X T := by rfl)
    (hs : starEach [a, .Name T p2] X.env = (false, eval a X.env) :: starEach [.Name T p2] X.env := by rfl) (hs2 : starEach [.Name T p2] X.env = (false, eval (.Name T p2) X.env) :: starEach [] X.env := by rfl) (hpl : (backTo pos (starEach [.Name T p2] X.env)).any (·.1) = false := by rfl)
    (hd : (T == ("__debug__" : Str)) = false := by decide) : PuE X (.Call (.Name "isinstance" p') [a, .Name T p2] [] pos) (isoP tab T pa) := by
  obtain ⟨t, h1, h2⟩ := ha.ex
  refine ⟨_, pe_callB call_isi hg hm (by decide +kernel) (pa_cons h1 (pa_cons (pe_glob (v := .ref CT) hgT S.mgT rfl hd) pa_nil hs2) hs) (by decide) (by decide) hs hpl, fun G H env σ P Q ok hp k => h2 G H env σ _ _ ok hp fun d v G' H' x r q => ?_⟩
  obtain ⟨b, e, q⟩ := q
  have base : ∀ n, tyName d = some n → b = false → rIsi X.K [v, .ref CT] H' Q := fun n hn hb => by
    subst hb
    exact ⟨v, .ref CT, .type n, .ref CT, false, rfl, .own CT, Rep.tyx r x.s hn, S.bt n (tyName_mem hn), k _ _ G' H' x (.bl false) q⟩
  have other : (tyName d).map (fun _ => false) = some b → rIsi X.K [v, .ref CT] H' Q := fun e => by
    cases hn : tyName d with
    | none => rw [hn] at e; cases e
    | some n => rw [hn] at e; cases e; exact base n hn rfl
  cases d with
  | obj c fs =>
    by_cases hc : (tab.lookup c).isSome = true
    · have e : (if (tab.lookup c).isSome = true then some (decide (c = T)) else none) = some b := e
      rw [if_pos hc] at e
      cases e
      obtain ⟨l, C, dx, vs, ds', rfl, hl, hm', _⟩ := Shal.obj r x.s
      exact ⟨.ref l, .ref CT, .ref C, .ref CT, _, rfl, .own CT, S.ty c C hc hm' H' l dx vs hl, S.ob c C hc hm', k _ _ G' H' x (.bl _) q⟩
    · have e : (if (tab.lookup c).isSome = true then some (decide (c = T)) else none) = some b := e
      rw [if_neg hc] at e
      cases e
  | non => exact other e
  | bl _ => exact other e
  | int _ => exact other e
  | str _ => exact other e
  | tup _ => exact other e
  | lst _ => exact other e
  | scr _ => exact other e
  | dk _ => exact other e
  | dt _ => exact other e
  | err _ _ => exact other e
end
/-! ### what may raise: built-in functions, join, comprehensions over it -/
abbrev PTIX := List C → (Sq → Prop) → (D → Prop) → Prop
structure PuIX (X : Cx) (tg iter : Expr) (p : PTIX) : Prop where
  ex : ∃ w : TI, PI X tg iter w ∧ ∀ (G H : Hp) (env : List C) (σ : L2.St) (P : Sq → Prop) (R : D → Prop) (Q : It → Hp → Prop) (Wx : WX), Takes X Wx → Ok X.K X.mg G H env σ → p env P R →
    (∀ S J G' H', Ext G H G' H' → Walks X.K X.mg G' S J → P S → Q J H') → XOk X Wx G H σ R → w σ H Q
def xiE (p : PTX) : PTIX := fun env P R => p env (itP P) R
def xLc (px : PTIX) (vs : List Nat) (g : PTG) (pt : PTT) (pe : PTE) : PTX := fun env P R => px env (fun S => ∃ W : Nat → List D → Prop, W 0 [] ∧
  (∀ k d acc, k < S.n → S.ob k d → W k acc → g d (wipeC env vs) fun env2 => pt env2 fun b => if b = true then pe env2 fun y => acc.length < sizeLine ∧ W (k + 1) (acc ++ [y]) else W (k + 1) acc) ∧
  ∀ acc, W S.n acc → P (.lst acc)) R
theorem xLc_eq (px : PTIX) (vs : List Nat) (g : PTG) (pt : PTT) (pe : PTE) (env : List C) (P R : D → Prop) : xLc px vs g pt pe env P R = px env (fun S => LcP S vs g pt pe env P) R := rfl
section
variable {X : Cx} {e a b : Expr} {es : List Expr} {pe pa : PTE} {p : PTX} {pxa : PTAX} {px : PTIX} {pos p' : Pos} {x : Str} {id : String} {r : List V → Hp → VK → Prop} {f : PSp}
theorem reps_shals {K : PySem.W.Frag} {mg : MG} {G H : Hp} : ∀ {vs : List V} {ds : List D}, Reps K mg G vs ds → Shals K mg H G vs ds
  | _, _, .nil => .nil
  | _, _, .cons r rs => .cons (.inl r) (reps_shals rs)
def xBi (f : PSp) (p : PTAX) : PTX := fun env P R => p env (fun ds => f ds P) R
theorem pux_bi (hc : CallR X (.builtin id) r) (hf : CallOk X r f) (hm : X.mg x = none) (h : PuAX X (e :: es) pxa) (hg : Gl X x := by rfl) (hv : bootBuiltins x = some (.builtin id) := by decide +kernel) (hn : x ≠ "__name__" := by decide) (hdb : (x == ("__debug__" : Str)) = false := by decide)
    (he : starEach (e :: es) X.env = (false, eval e X.env) :: starEach es X.env := by rfl) (hpl : (backTo pos (starEach es X.env)).any (·.1) = false := by rfl) : PuX X (.Call (.Name x p') (e :: es) [] pos) (xBi f pxa) := by
  obtain ⟨t, h1, h2⟩ := h.ex
  refine ⟨_, pe_callB hc hg hm hv h1 hn hdb he hpl, fun G H env σ P R Q W tk ok hp k kx => h2 G H env σ _ R _ W tk ok hp (fun ds vs G' H' y rs q => ?_) kx⟩
  exact hf G' H' vs ds P Q y.s (reps_shals rs) q fun d u G2 H2 z r2 q2 => k d u G2 H2 (y.trans z) r2 q2
theorem pux_ty {T : String} (hc : CallR X (.type T) r) (hf : CallOk X r f) (hm : X.mg x = none) (h : PuAX X (e :: es) pxa) (hg : Gl X x := by rfl) (hv : bootBuiltins x = some (.type T) := by decide +kernel) (hn : x ≠ "__name__" := by decide) (hdb : (x == ("__debug__" : Str)) = false := by decide)
    (he : starEach (e :: es) X.env = (false, eval e X.env) :: starEach es X.env := by rfl) (hpl : (backTo pos (starEach es X.env)).any (·.1) = false := by rfl) : PuX X (.Call (.Name x p') (e :: es) [] pos) (xBi f pxa) := by
  obtain ⟨t, h1, h2⟩ := h.ex
  refine ⟨_, pe_callTy hc hg hm hv h1 hn hdb he hpl, fun G H env σ P R Q W tk ok hp k kx => h2 G H env σ _ R _ W tk ok hp (fun ds vs G' H' y rs q => ?_) kx⟩
  exact hf G' H' vs ds P Q y.s (reps_shals rs) q fun d u G2 H2 z r2 q2 => k d u G2 H2 (y.trans z) r2 q2
theorem pux_tuple (hm : X.mg "tuple" = none) (h : PuX X a p) (hs : starEach [a] X.env = (false, eval a X.env) :: starEach [] X.env := by rfl) (hg : Gl X "tuple" := by rfl) : PuX X (.Call (.Name "tuple" p') [a] [] pos) (xBi tupleP (xaCons p xaNil)) :=
  pux_ty call_tuple_of tupleP_ok hm (puax_cons h puax_nil hs) hg (by decide +kernel) (by decide) (by decide) hs rfl
theorem pux_len (hm : X.mg "len" = none) (h : PuX X a p) (hs : starEach [a] X.env = (false, eval a X.env) :: starEach [] X.env := by rfl) (hg : Gl X "len" := by rfl) : PuX X (.Call (.Name "len" p') [a] [] pos) (xBi lenP (xaCons p xaNil)) :=
  pux_bi cr_len lenP_ok hm (puax_cons h puax_nil hs) hg (by decide +kernel) (by decide) (by decide) hs rfl
def xJoin (pa : PTE) (q : PTX) : PTX := fun env P R => pa env (asS fun z => q env (fun y => joinP z y P) R)
theorem pux_join {q : PTX} {apos : Pos} (ho : PuE X a pa) (he : PuX X b q) (hs : starEach [b] X.env = [(false, eval b X.env)] := by rfl) (hbase : attributeBase a "join" X.env (eval a X.env) = eval a X.env := by rfl) (hline : (apos.endLine == pos.line) = true := by rfl) :
    PuX X (.Call (.Attribute a "join" apos) [b] [] pos) (xJoin pa q) := by
  obtain ⟨t, h1, h2⟩ := ho.ex
  obtain ⟨u, g1, g2⟩ := he.ex
  refine ⟨_, pe_join h1 g1 hs hbase hline, fun G H env σ P R Q W tk ok hp k kx => h2 G H env σ _ _ ok hp fun x v G1 H1 e1 r1 q1 => ?_⟩
  obtain ⟨z, rfl, q1⟩ := asS_rep r1 q1
  refine ⟨⟨z, rfl⟩, g2 G1 H1 env σ _ R _ W tk (ok.ext e1) q1 (fun y w G2 H2 e2 r2 q2 => ?_) (kx.step e1)⟩
  obtain ⟨xs, ys, i1, i2, hz, q2⟩ := q2
  obtain ⟨l, ws, rfl, hl, rr⟩ := Shal.items (.inl r2) e2.s i1
  have ew := reps_strs rr i2
  subst ew
  exact ⟨z, l, ys, rfl, rfl, hl, hz, k _ _ G2 H2 (e1.trans e2) (.str _) q2⟩
theorem pix_e {tg : Expr} (h : PuX X e p) : PuIX X tg e (xiE p) := by
  obtain ⟨t, h1, h2⟩ := h.ex
  refine ⟨_, pi_any h1, fun G H env σ P R Q W tk ok hp k kx => h2 G H env σ _ R _ W tk ok hp (fun d v G' H' x r q => ?_) kx⟩
  unfold itP at q
  split at q
  · cases r with
    | lst e rs => exact .inl ⟨_, rfl, ⟨_, SqL.of (x.s _ _ e)⟩, k _ _ G' H' x (walks_list (SqL.of e) rs) q⟩
  · cases r with
    | tup e rs => exact .inr (.inl ⟨_, rfl, ⟨_, SqT.of (x.s _ _ e)⟩, k _ _ G' H' x (walks_tup (SqT.of e) rs) q⟩)
  · cases r with
    | scr e rs => exact .inl ⟨_, rfl, ⟨_, x.s.seq e⟩, k _ _ G' H' x (walks_list e rs) q⟩
  · cases r
    exact .inr (.inr ⟨_, rfl, k _ _ G' H' x (walks_str _) q⟩)
  · exact q.elim
variable {elt tg iter : Expr} {ifs : List Expr} {scope : Scope} {own : List (Str × Nat)} {g : PTG} {is : List Nat} {pt : PTT}
theorem lc_readsX (hi : PuIX X tg iter px) (hg : BlkG X scope tg g is) (ht : BlkT X scope ifs pt) (he : BlkE X scope elt pe) (vs : List Nat) (hv : ∀ i ∈ is, i ∈ vs) :
    ∃ w : TI, PI X tg iter w ∧ ∀ (G H : Hp) (env : List C) (σ : L2.St) (P R : D → Prop) (Q : VK) (Wx : WX), Takes X Wx → Ok X.K X.mg G H env σ → xLc px vs g pt pe env P R →
    (∀ d l G' H', Ext G H G' H' → Top X.K X.mg H' G' l d → G' l = none → H l = none → P d → Q (.ref l) H') → XOk X Wx G H σ R → tLc w (allG X scope tg) (allT X scope ifs) (allE X scope elt) vs σ H Q := by
  obtain ⟨w, w1, w2⟩ := hi.ex
  refine ⟨w, w1, fun G H env σ P R Q Wx tk ok hp k kx => ?_⟩
  refine w2 G H env σ _ R _ Wx tk ok hp (fun S J G1 H1 x1 wk ⟨W, w0, step, fin⟩ dd hD => ?_) kx
  have nG1 : G1 dd = none := x1.s.free hD
  have ok1 := ok.ext x1
  have nown : ∀ (i : Nat) (d : D), env[i]? = some (.ow d) → ∀ l, σ[i]? = some (some (.ref l)) → l ≠ dd := fun i d q l hl z => by
    obtain ⟨m, e1, t1, _⟩ := ok1.slot i _ q
    rw [hl] at e1
    cases e1
    obtain ⟨o, ho⟩ := t1.some
    rw [z, hD] at ho; cases ho
  -- the state behind a turn
  have turn : ∀ (G2 H2 : Hp) (o : HO), Ok X.K X.mg G2 H2 env σ → Same G1 G2 → G2 dd = none → Same H1 H2 → (∀ a, G1 a = none → G2 a ≠ none → H1 a = none) → Ok X.K X.mg G2 (upd H2 dd o) env σ := fun G2 H2 o ok2 s2 n2 _ _ => by
    refine ⟨fun b u e => ?_, fun i c q => ?_, ok2.apart, ok2.len⟩
    · have : b ≠ dd := fun z => by subst z; rw [n2] at e; cases e
      rw [upd_ne this]; exact ok2.same _ _ e
    · have s := ok2.slot i c q
      cases c with
      | un => trivial
      | fz d => exact s
      | ow d =>
        obtain ⟨l, e1, t1, n1⟩ := s
        have ne := nown i d q l e1
        refine ⟨l, e1, ?_, n1⟩
        cases t1 with
        | lst a r => exact .lst (by rw [upd_ne ne]; exact a) r
        | dk a r => exact .dk (by rw [upd_ne ne]; exact a) r
        | dt a r => exact .dt (by rw [upd_ne ne]; exact a) r
        | slf a cm r => exact .slf (by rw [upd_ne ne]; exact a) cm r
  refine ⟨fun i m H' => m = S.n - i ∧ i ≤ S.n ∧ ∃ G' acc ys, Ok X.K X.mg G' H' env σ ∧ Same G1 G' ∧ Same H1 H' ∧ (∀ a, G1 a = none → G' a ≠ none → H1 a = none) ∧ G' dd = none ∧ H' dd = some (.lst ys) ∧ Reps X.K X.mg G' ys acc ∧ W i acc,
    ⟨S.n, by simp, Nat.zero_le _, G1, [], [], turn G1 H1 _ ok1 (Same.refl _) nG1 (Same.refl _) (fun _ e n => absurd e n), Same.refl _, Same.upd hD, fun _ e n => absurd e n, nG1, upd_same, .nil, w0⟩, ?_⟩
  rintro i m H2 ⟨rfl, hi, G2, acc, ys, ok2, s2, sH2, f2, n2, hd2, ra, w2'⟩
  by_cases hlt : i < S.n
  · refine .inr ⟨wk.go i G2 H2 s2 ok2.same hlt, fun H' => ∃ G' acc ys, Ok X.K X.mg G' H' env σ ∧ Same G1 G' ∧ Same H1 H' ∧ (∀ a, G1 a = none → G' a ≠ none → H1 a = none) ∧ G' dd = none ∧ H' dd = some (.lst ys) ∧ Reps X.K X.mg G' ys acc ∧ W (i + 1) acc, fun H' q => ⟨S.n - (i + 1), by omega, rfl, hlt, q⟩, fun xv H3 y => ?_⟩
    obtain ⟨G3, d, x3, rp, ob⟩ := wk.yld i G2 H2 xv H3 s2 ok2.same hlt y
    have ok3 := ok2.ext x3
    have okw := ok3.wipe vs
    have st := step i d acc hlt ob w2'
    have nd : ∀ {G' H' : Hp}, Ext G2 H2 G' H' → G' dd = none := fun {G' H'} x => by
      cases q : G' dd with
      | none => rfl
      | some o => 
        have := x.f dd n2 (by rw [q]; intro z; cases z)
        rw [hd2] at this; cases this
    intro sB HB CB clB fpB
    obtain ⟨tg', tg1, tg2⟩ := (hg sB HB CB clB fpB).ex
    refine ⟨tg', tg1, ?_⟩
    have rel : Rel X.K X.mg G3 G3 G3 H3 (wipeC env vs) (wipe σ vs) := ⟨okw, ⟨Same.refl _, okw.same, okw.same, fun _ e n => absurd e n⟩, fun j d' l q s => by
      obtain ⟨m, e1, _, n⟩ := okw.slot j _ q
      rw [e1] at s; cases s; exact n⟩
    refine tg2 G3 G3 G3 H3 _ _ d xv _ _ rel rp st fun env4 σ4 r4 o4 q4 => ⟨wipe_off o4 hv |>.trans ?_, ?_⟩
    · -- wiping twice
      have : ∀ vs' : List Nat, (∀ i ∈ vs', i ∈ vs) → wipe (wipe σ vs) vs = wipe σ vs := fun _ _ => by
        apply List.ext_getElem?
        intro j
        have key : ∀ (us : List Nat) (τ : L2.St) (j : Nat), (wipe τ us)[j]? = if j ∈ us ∧ j < τ.length then some none else τ[j]? := by
          intro us τ j
          induction us with
          | nil => simp [wipe]
          | cons v us ih =>
            unfold wipe
            rw [List.getElem?_set]
            by_cases hv : v = j
            · subst hv
              rw [wipe_length]
              by_cases hl : v < τ.length
              · simp [hl]
              · simp [hl]
            · rw [if_neg hv, ih]
              have : (j ∈ v :: us) ↔ j ∈ us := by simp [Ne.symm hv]
              simp only [this]
        rw [key, key, wipe_length]
        split <;> simp_all
      exact this vs fun _ h => h
    · intro sT HT CT clT fpT
      obtain ⟨tt', tt1, tt2⟩ := (ht sT HT CT clT fpT).ex
      refine ⟨tt', tt1, tt2 G3 H3 env4 σ4 _ _ r4.ok q4 fun b G5 H5 x5 q5 => ?_⟩
      have chain5 : Ext G2 H2 G5 H5 := x3.trans x5
      cases b with
      | false =>
        simp only [Bool.false_eq_true, if_false] at q5 ⊢
        refine ⟨G5, acc, ys, ok2.ext chain5, s2.trans chain5.g, sH2.trans chain5.h, fun a e n => ?_, nd chain5, chain5.h _ _ hd2, ra.mono chain5.g, q5⟩
        by_cases z : G2 a = none
        · exact sH2.free (chain5.f a z n)
        · exact f2 a e z
      | true =>
        simp only [if_true] at q5 ⊢
        intro sE HE CE clE fpE
        obtain ⟨te', te1, te2⟩ := (he sE HE CE clE fpE).ex
        refine ⟨te', te1, te2 G5 H5 env4 σ4 _ _ (r4.ok.ext x5) q5 fun yd yv G6 H6 x6 ry q6 => ?_⟩
        have chain6 : Ext G2 H2 G6 H6 := chain5.trans x6
        have ok6 := ok2.ext chain6
        have n6 := nd chain6
        have f6 : ∀ a, G1 a = none → G6 a ≠ none → H1 a = none := fun a e n => by
          by_cases z : G2 a = none
          · exact sH2.free (chain6.f a z n)
          · exact f2 a e z
        refine ⟨ys, chain6.h _ _ hd2, by rw [ra.length]; exact q6.1, G6, acc ++ [yd], ys ++ [yv], turn G6 H6 _ ok6 (s2.trans chain6.g) n6 (sH2.trans chain6.h) f6, s2.trans chain6.g, fun b u e => ?_, f6, n6, upd_same, (ra.mono chain6.g).append (.cons ry .nil), q6.2⟩
        have : b ≠ dd := fun z => by subst z; rw [hD] at e; cases e
        rw [upd_ne this]; exact chain6.h _ _ (sH2 _ _ e)
  · have e : i = S.n := by omega
    subst e
    refine .inl ⟨wk.stop G2 H2 s2 ok2.same, k (.lst acc) dd G2 H2 ⟨x1.g.trans s2, x1.h.trans sH2, ok2.same, fun a e n => ?_⟩ (.lst hd2 ra) n2 (x1.h.free hD) (fin acc w2')⟩
    by_cases z : G1 a = none
    · exact x1.h.free (f2 a z n)
    · exact x1.f a e z
theorem pux_lc {vs : List Nat} (hc : X.calm = true) (hN : X.N.Nodup) (hi : PuIX X tg iter px) (ok : BlkOk X.N X.env.scope scope own) (hg : BlkG X scope tg g is) (ht : BlkT X scope ifs pt) (he : BlkE X scope elt pe)
    (hvs : own.map (·.2) = vs := by rfl) (hv : ∀ i ∈ is, i ∈ vs := by decide) (hs : ∀ x, foldedSetIterable iter X.env x = pure x := by intro _; rfl) : PuX X (.ListComp elt [⟨tg, iter, ifs, 0⟩] scope pos) (xLc px vs g pt pe) := by
  subst hvs
  obtain ⟨w, w1, w2⟩ := lc_readsX hi hg ht he (own.map (·.2)) hv
  refine ⟨_, pe_lc hc hN w1 ok allG_ok allT_ok allE_ok hs, fun G H env σ P R Q W tk okk hp k kx => w2 G H env σ P R Q W tk okk hp (fun d l G' H' x r n nH q => ?_) kx⟩
  obtain ⟨o, ho, r', s1, s2⟩ := r.freeze x.s n
  refine k d _ (upd G' l o) H' ⟨x.g.trans s1, x.h, s2, fun a e1 ne => ?_⟩ r' q
  by_cases hal : a = l
  · subst hal; exact nH
  · rw [upd_ne hal] at ne; exact x.f a e1 ne
end
end PL
end

section
set_option linter.all false
set_option maxRecDepth 100000
set_option autoImplicit false
/-! The bodies of law_k07_text_with_count's defs over plain data; printed by gen.py. -/
namespace K07
open PySem PySem.Spec PyProof.Rows L2 PL
def errTab : ETab := [("BadAlphabet", ["alphabet"]), ("BadLetter", ["index"]), ("BadRow", ["index"]), ("BadTail", ["tail"]), ("BadRank", ["rank"]), ("BadIndex", ["index"]), ("TooLarge", ["number"])]
-- slots: 0 alphabet, 1 index, 2 letter
def bX_check_alphabet : PTS :=
  (pSeq (pIfS (pNot (pChainT leP leP (pC (.int 1)) (pCall lenP (paCons (pN 0) paNil)) (pC (.int 6))))
    (pRaise "BadAlphabet" ["alphabet"] (paCons (pN 0) paNil))
    pNext)
    (pFor (piEn (pN 0)) (pgTup 2 (pgsCons (pgN 1) (pgsCons (pgN 2) pgsNil)))
    (pIfS (pOr (pB (pBin (inP true) (pN 2) (pC (.str "0123456789abcdefghijklmnopqrstuvwxyz")))) (pAnd (pB (pBin gtP (pN 1) (pC (.int 0)))) (pB (pBin geP (pIx (pN 0) (pBin subP (pN 1) (pC (.int 1)))) (pN 2)))))
    (pRaise "BadAlphabet" ["alphabet"] (paCons (pN 0) paNil))
    pNext)))
-- slots: 0 text
def b_order_of_text : PTS :=
  (pRet (pTup (paCons (pCall lenP (paCons (pN 0) paNil)) (paCons (pN 0) paNil))))
-- slots: 0 size, 1 length, 2 count, 3 left, 4 letters, 5 texts
def b_greatest_count : PTS :=
  (pSeq (pIfS (pB (pBin eqP (pN 0) (pC (.int 1))))
    (pSeq (pSet 2 (pCall isqrtP (paCons (pBin mulP (pC (.int 2)) (pN 1)) paNil)))
    (pSeq (pIfS (pB (pBin gtP (pBin mulP (pN 2) (pBin addP (pN 2) (pC (.int 1)))) (pBin mulP (pC (.int 2)) (pN 1))))
    (pSet 2 (pBin subP (pN 2) (pC (.int 1))))
    pNext)
    (pRet (pN 2))))
    pNext)
    (pSeq (pSet 2 (pC (.int 0)))
    (pSeq (pSet 3 (pN 1))
    (pSeq (pSet 4 (pC (.int 1)))
    (pSeq (pSet 5 (pN 0))
    (pSeq (pWhile (pB (pBin leP (pBin mulP (pN 5) (pN 4)) (pN 3)))
    (pSeq (pSet 2 (pBin addP (pN 2) (pN 5)))
    (pSeq (pSet 3 (pBin subP (pN 3) (pBin mulP (pN 5) (pN 4))))
    (pSeq (pSet 4 (pBin addP (pN 4) (pC (.int 1))))
    (pSet 5 (pBin mulP (pN 5) (pN 0)))))))
    (pRet (pBin addP (pN 2) (pBin fdivP (pN 3) (pN 4))))))))))
-- slots: 0 length, 1 count
def b_least_count : PTS :=
  (pSeq (pSet 1 (pCall isqrtP (paCons (pBin mulP (pC (.int 2)) (pN 0)) paNil)))
    (pSeq (pIfS (pAnd (pB (pBin gtP (pN 1) (pC (.int 0)))) (pB (pBin geP (pBin mulP (pBin subP (pN 1) (pC (.int 1))) (pBin addP (pN 1) (pC (.int 2)))) (pBin mulP (pC (.int 2)) (pN 0)))))
    (pSet 1 (pBin subP (pN 1) (pC (.int 1))))
    pNext)
    (pRet (pN 1))))
-- slots: 0 alphabet, 1 count, 2 words!, 3 index, 4 letter
def b_first_words : PTS :=
  (pSeq (pSetO 2 (pLst (paCons (pC (.str "")) paNil)))
    (pSeq (pSet 3 (pC (.int 0)))
    (pSeq (pWhile (pB (pBin leP (pCall lenP (paCons (pNo 2) paNil)) (pN 1)))
    (pSeq (pFor (piE (pN 0)) (pgN 4)
    (pApp 2 (pBin addP (pIx (pNo 2) (pN 3)) (pN 4))))
    (pSet 3 (pBin addP (pN 3) (pC (.int 1))))))
    (pRet (pSl (pNo 2) (poSome (pC (.int 1))) (poSome (pBin addP (pN 1) (pC (.int 1)))))))))
-- slots: 0 alphabet, 1 total, 2 count, 3 first, 4 words, 5 chain!, 6 others!, 7 missing, 8 word, 9 step
def b_words_with_total (sp_first_words : PSp) : PTS :=
  (pSeq (pSet 3 (pIx (pN 0) (pC (.int 0))))
    (pSeq (pSet 4 (pCall sp_first_words (paCons (pN 0) (paCons (pN 2) paNil))))
    (pSeq (pSetO 5 (pLc (piE (pN 4)) [8] (pgN 8) (pB (pBin eqP (pN 8) (pBin mulP (pN 3) (pCall lenP (paCons (pN 8) paNil))))) (pN 8)))
    (pSeq (pSetO 6 (pLc (piE (pN 4)) [8] (pgN 8) (pB (pBin neP (pN 8) (pBin mulP (pN 3) (pCall lenP (paCons (pN 8) paNil))))) (pN 8)))
    (pSeq (pSet 7 (pBin subP (pN 1) (pCall sumP (paCons (pLc (piE (pN 4)) [8] (pgN 8) pYes (pCall lenP (paCons (pN 8) paNil))) paNil))))
    (pSeq (pWhile (pB (pBin gtP (pN 7) (pC (.int 0))))
    (pSeq (pPop 6 8)
    (pSeq (pSet 9 (pBin subP (pBin addP (pCall lenP (paCons (pNo 5) paNil)) (pC (.int 1))) (pCall lenP (paCons (pN 8) paNil))))
    (pIfS (pB (pBin leP (pN 9) (pN 7)))
    (pSeq (pApp 5 (pBin mulP (pN 3) (pBin addP (pCall lenP (paCons (pNo 5) paNil)) (pC (.int 1)))))
    (pSet 7 (pBin subP (pN 7) (pN 9))))
    (pSeq (pApp 6 (pBin addP (pBin mulP (pN 3) (pBin subP (pBin addP (pCall lenP (paCons (pN 8) paNil)) (pN 7)) (pC (.int 1)))) (pIx (pN 0) (pC (.int 1)))))
    (pSet 7 (pC (.int 0))))))))
    (pRet (pCall sortKP (paCons (pBin addP (pNo 5) (pNo 6)) paNil)))))))))
-- slots: 0 alphabet, 1 length, 2 count
def bX_text_with (sp_least_count : PSp) (sp_greatest_count : PSp) (sp_words_with_total : PSp) (sx_check_alphabet : PSpX) : PTS :=
  (pSeq (pDropX (xCall sx_check_alphabet (xaPure (paCons (pN 0) paNil))))
    (pSeq (pIfS (pOr (pB (pBin ltP (pN 2) (pCall sp_least_count (paCons (pN 1) paNil)))) (pB (pBin gtP (pN 2) (pCall sp_greatest_count (paCons (pCall lenP (paCons (pN 0) paNil)) (paCons (pN 1) paNil))))))
    (pRet (pC .non))
    pNext)
    (pSeq (pIfS (pB (pBin geP (pN 1) (pBin fdivP (pBin mulP (pN 2) (pBin addP (pN 2) (pC (.int 1)))) (pC (.int 2)))))
    (pRet (pBin mulP (pIx (pN 0) (pC (.int 0))) (pN 1)))
    pNext)
    (pRet (pJoin (pC (.str "")) (pCall sp_words_with_total (paCons (pN 0) (paCons (pN 1) (paCons (pN 2) paNil)))))))))
-- slots: 0 script, 1 k, 2 seed, 3 cell
def b_law_cell : PTS :=
  (pSeq (pIfS (pB (pBin ltP (pN 1) (pCall lenP (paCons (pN 0) paNil))))
    (pRet (pIx (pN 0) (pN 1)))
    pNext)
    (pSeq (pSet 2 (pC (.int 17)))
    (pSeq (pFor (piE (pN 0)) (pgN 3)
    (pSet 2 (pBin modP (pCall intP (paCons (pBin addP (pBin mulP (pN 2) (pC (.int 31))) (pBin modP (pCall intP (paCons (pN 3) paNil)) (pC (.int 1000003)))) paNil)) (pC (.int 1000003)))))
    (pRet (pBin modP (pCall intP (paCons (pBin mulP (pBin mulP (pBin addP (pN 2) (pC (.int 7))) (pBin addP (pN 1) (pC (.int 3)))) (pC (.int 69621))) paNil)) (pC (.int 2147483647)))))))
-- slots: 0 cell, 1 sizes, 2 row!, 3 rest, 4 size, 5 seed, 6 k, 7 twice
def b_law_digits : PTS :=
  (pSeq (pSetO 2 (pLst paNil))
    (pSeq (pSet 3 (pCall intP (paCons (pN 0) paNil)))
    (pSeq (pIfS (pB (pBin geP (pN 3) (pBin powP (pC (.int 10)) (pC (.int 18)))))
    (pSeq (pSet 3 (pBin subP (pN 3) (pBin powP (pC (.int 10)) (pC (.int 18)))))
    (pSeq (pFor (piE (pN 1)) (pgN 4)
    (pSeq (pApp 2 (pBin modP (pCall intP (paCons (pN 3) paNil)) (pN 4)))
    (pSet 3 (pBin fdivP (pCall intP (paCons (pN 3) paNil)) (pN 4)))))
    (pFrz 2 (pRet (pN 2)))))
    pNext)
    (pSeq (pSet 5 (pBin modP (pCall intP (paCons (pN 3) paNil)) (pC (.int 2147483629))))
    (pSeq (pFor (piR1 (pCall lenP (paCons (pN 1) paNil))) (pgN 6)
    (pSeq (pSet 5 (pBin modP (pCall intP (paCons (pBin addP (pBin addP (pBin mulP (pN 5) (pC (.int 48271))) (pBin mulP (pC (.int 974711)) (pN 6))) (pC (.int 12345))) paNil)) (pC (.int 2147483647))))
    (pSeq (pSet 7 (pBin modP (pCall intP (paCons (pBin mulP (pN 5) (pBin addP (pBin fdivP (pN 5) (pC (.int 65537))) (pC (.int 3)))) paNil)) (pC (.int 2147483629))))
    (pApp 2 (pBin modP (pBin fdivP (pN 7) (pC (.int 19))) (pIx (pN 1) (pN 6)))))))
    (pFrz 2 (pRet (pN 2))))))))
-- slots: 0 row, 1 upto, 2 many, 3 letters, 4 taken!, 5 k, 6 at, 7 turn
def b_law_alphabet : PTS :=
  (pSeq (pSet 2 (pCall minP (paCons (pN 1) (paCons (pIx (pLst (paCons (pC (.int 2)) (paCons (pC (.int 2)) (paCons (pC (.int 2)) (paCons (pC (.int 2)) (paCons (pC (.int 3)) (paCons (pC (.int 3)) (paCons (pC (.int 3)) (paCons (pC (.int 1)) (paCons (pC (.int 4)) (paCons (pC (.int 5)) (paCons (pC (.int 6)) (paCons (pC (.int 2)) paNil))))))))))))) (pIx (pN 0) (pC (.int 0)))) paNil))))
    (pSeq (pSet 3 (pC (.str "0123456789abcdefghijklmnopqrstuvwxyz")))
    (pSeq (pSetO 4 (pLst paNil))
    (pSeq (pFor (piR1 (pN 2)) (pgN 5)
    (pSeq (pSet 6 (pBin modP (pCall intP (paCons (pIx (pN 0) (pBin addP (pC (.int 1)) (pN 5))) paNil)) (pC (.int 36))))
    (pSeq (pFor (piR1 (pC (.int 36))) (pgN 7)
    (pIfS (pB (pBin (inP false) (pIx (pN 3) (pN 6)) (pNo 4)))
    (pSet 6 (pBin modP (pCall intP (paCons (pBin addP (pN 6) (pC (.int 1))) paNil)) (pC (.int 36))))
    pNext))
    (pApp 4 (pIx (pN 3) (pN 6))))))
    (pRet (pJoin (pC (.str "")) (pCall sortIP (paCons (pNo 4) paNil))))))))
-- slots: 0 text, 1 pieces!, 2 number!, 3 rows!, 4 word, 5 letter
def b_law_cut : PTS :=
  (pSeq (pSetO 1 (pLst (paCons (pC (.str "")) paNil)))
    (pSeq (pSetO 2 (pDisp [((pC (.str "")), (pC (.int 0)))]))
    (pSeq (pSetO 3 (pLst paNil))
    (pSeq (pSet 4 (pC (.str "")))
    (pSeq (pFor (piE (pN 0)) (pgN 5)
    (pIfS (pB (pBin (inP false) (pBin addP (pN 4) (pN 5)) (pNo 2)))
    (pSet 4 (pBin addP (pN 4) (pN 5)))
    (pSeq (pApp 3 (pTup (paCons (pIx (pNo 2) (pN 4)) (paCons (pN 5) paNil))))
    (pSeq (pSetI 2 (pBin addP (pN 4) (pN 5)) (pCall lenP (paCons (pNo 1) paNil)))
    (pSeq (pApp 1 (pBin addP (pN 4) (pN 5)))
    (pSet 4 (pC (.str ""))))))))
    (pFrz 1 (pRet (pLst (paCons (pCall tupleP (paCons (pNo 3) paNil)) (paCons (pIx (pNo 2) (pN 4)) (paCons (pN 1) paNil)))))))))))
-- slots: 0 far, 1 many
def b_law_least : PTS :=
  (pSeq (pFor (piR1 (pC (.int 60))) (pgN 1)
    (pIfS (pB (pBin geP (pBin mulP (pN 1) (pBin addP (pN 1) (pC (.int 3)))) (pBin mulP (pC (.int 2)) (pN 0))))
    (pRet (pN 1))
    pNext))
    (pRet (pC (.int 60))))
-- slots: 0 base, 1 far, 2 many, 3 left, 4 letters, 5 level, 6 here, 7 k
def b_law_greatest : PTS :=
  (pSeq (pSet 2 (pC (.int 0)))
    (pSeq (pSet 3 (pN 1))
    (pSeq (pSet 4 (pC (.int 1)))
    (pSeq (pSet 5 (pN 0))
    (pSeq (pSet 6 (pN 0))
    (pSeq (pFor (piR1 (pC (.int 500))) (pgN 7)
    (pSeq (pIfS (pB (pBin eqP (pN 6) (pC (.int 0))))
    (pSeq (pSet 4 (pBin addP (pN 4) (pC (.int 1))))
    (pSeq (pSet 5 (pBin mulP (pN 5) (pN 0)))
    (pSet 6 (pN 5))))
    pNext)
    (pSeq (pIfS (pB (pBin gtP (pN 4) (pN 3)))
    pBrk
    pNext)
    (pSeq (pSet 3 (pBin subP (pN 3) (pN 4)))
    (pSeq (pSet 6 (pBin subP (pN 6) (pC (.int 1))))
    (pSet 2 (pBin addP (pN 2) (pC (.int 1)))))))))
    (pRet (pN 2))))))))
-- slots: 0 base, 1 row, 2 far, 3 texts, 4 k
def b_law_far : PTS :=
  (pSeq (pSet 2 (pIx (pN 1) (pC (.int 1))))
    (pSeq (pJn (pIfS (pB (pBin eqP (pIx (pN 1) (pC (.int 0))) (pC (.int 2))))
    (pSet 2 (pIx (pN 1) (pC (.int 2))))
    pNext))
    (pSeq (pJn (pIfS (pB (pBin eqP (pIx (pN 1) (pC (.int 0))) (pC (.int 3))))
    (pSet 2 (pIx (pN 1) (pC (.int 3))))
    pNext))
    (pSeq (pJn (pIfS (pB (pBin eqP (pIx (pN 1) (pC (.int 0))) (pC (.int 4))))
    (pSet 2 (pBin subP (pBin addP (pBin fdivP (pBin mulP (pIx (pN 1) (pC (.int 4))) (pBin addP (pIx (pN 1) (pC (.int 4))) (pC (.int 1)))) (pC (.int 2))) (pIx (pN 1) (pC (.int 5)))) (pC (.int 1))))
    pNext))
    (pSeq (pIfS (pB (pBin gtP (pIx (pN 1) (pC (.int 0))) (pC (.int 4))))
    (pSeq (pSet 2 (pBin subP (pIx (pN 1) (pC (.int 5))) (pC (.int 1))))
    (pSeq (pSet 3 (pC (.int 1)))
    (pFor (piR2 (pC (.int 1)) (pBin addP (pC (.int 2)) (pBin modP (pCall intP (paCons (pIx (pN 1) (pC (.int 4))) paNil)) (pC (.int 5))))) (pgN 4)
    (pSeq (pSet 3 (pBin mulP (pN 3) (pN 0)))
    (pIfS (pB (pBin leP (pBin addP (pN 2) (pBin mulP (pN 3) (pN 4))) (pC (.int 400))))
    (pSet 2 (pBin addP (pN 2) (pBin mulP (pN 3) (pN 4))))
    pNext)))))
    pNext)
    (pRet (pCall maxP (paCons (pC (.int 0)) (paCons (pN 2) paNil)))))))))
-- slots: 0 least, 1 most, 2 row, 3 wide, 4 drawn, 5 many
def b_law_manies : PTS :=
  (pSeq (pIfS (pB (pBin leP (pBin subP (pN 1) (pN 0)) (pC (.int 24))))
    (pRet (pLc (piR2 (pCall maxP (paCons (pC (.int 0)) (paCons (pBin subP (pN 0) (pC (.int 1))) paNil))) (pBin addP (pN 1) (pC (.int 2)))) [5] (pgN 5) pYes (pN 5)))
    pNext)
    (pSeq (pSet 3 (pBin addP (pBin subP (pN 1) (pN 0)) (pC (.int 1))))
    (pSeq (pSet 4 (pLst (paCons (pBin addP (pN 0) (pBin modP (pCall intP (paCons (pIx (pN 2) (pC (.int 0))) paNil)) (pN 3))) (paCons (pBin addP (pN 0) (pBin modP (pCall intP (paCons (pIx (pN 2) (pC (.int 1))) paNil)) (pN 3))) paNil))))
    (pRet (pBin addP (pLst (paCons (pCall maxP (paCons (pC (.int 0)) (paCons (pBin subP (pN 0) (pC (.int 1))) paNil))) (paCons (pN 0) (paCons (pBin addP (pN 0) (pC (.int 1))) (paCons (pBin subP (pN 1) (pC (.int 1))) (paCons (pN 1) (paCons (pBin addP (pN 1) (pC (.int 1))) paNil))))))) (pN 4))))))
-- slots: 0 abc, 1 far, 2 many, 3 least, 4 most, 5 told, 6 letter
def b_law_told (sp_text_with : PSp) (sp_law_cut : PSp) : PTS :=
  (pSeq (pSet 5 (pCall sp_text_with (paCons (pN 0) (paCons (pN 1) (paCons (pN 2) paNil)))))
    (pSeq (pIfS (pOr (pB (pBin ltP (pN 2) (pN 3))) (pB (pBin gtP (pN 2) (pN 4))))
    (pRet (isNP false (pN 5)))
    pNext)
    (pSeq (pIfS (pOr (pNot (pB (isiP "str" (pN 5)))) (pB (pBin neP (pCall lenP (paCons (pN 5) paNil)) (pN 1))))
    (pRet (pC (.bl false)))
    pNext)
    (pSeq (pFor (piE (pN 5)) (pgN 6)
    (pIfS (pB (pBin (inP true) (pN 6) (pN 0)))
    (pRet (pC (.bl false)))
    pNext))
    (pRet (pBin eqP (pCall lenP (paCons (pIx (pCall sp_law_cut (paCons (pN 5) paNil)) (pC (.int 0))) paNil)) (pN 2)))))))
-- slots: 0 word, 1 letters, 2 last, 3 sign, 4 at
def b_law_is_alphabet : PTS :=
  (pSeq (pSet 1 (pC (.str "0123456789abcdefghijklmnopqrstuvwxyz")))
    (pSeq (pIfS (pOr (pB (pBin ltP (pCall lenP (paCons (pN 0) paNil)) (pC (.int 1)))) (pB (pBin gtP (pCall lenP (paCons (pN 0) paNil)) (pC (.int 6)))))
    (pRet (pC (.bl false)))
    pNext)
    (pSeq (pSet 2 (negP (pC (.int 1))))
    (pSeq (pFor (piE (pN 0)) (pgN 3)
    (pSeq (pSet 4 (pMtS findF (pN 1) (paCons (pN 3) paNil)))
    (pSeq (pIfS (pB (pBin leP (pN 4) (pN 2)))
    (pRet (pC (.bl false)))
    pNext)
    (pSet 2 (pN 4)))))
    (pRet (pC (.bl true)))))))
-- slots: 0 abc, 1 row, 2 signs, 3 at
def b_law_bad : PTS :=
  (pSeq (pIfS (pB (pBin gtP (pIx (pN 1) (pC (.int 0))) (pC (.int 10))))
    (pSeq (pSet 2 (pC (.str " !\"#$&'()*+,-./0123456789:;<=>?@ABCDEFGHIJKLMNOPQRSTUVWXYZ[\\]^_`abcdefghijklmnopqrstuvwxyz{|}~\n")))
    (pRet (pJoin (pC (.str "")) (pLc (piE (pSl (pN 1) (poSome (pC (.int 4))) (poSome (pBin addP (pC (.int 4)) (pIx (pN 1) (pC (.int 3))))))) [3] (pgN 3) pYes (pIx (pN 2) (pN 3))))))
    pNext)
    (pSeq (pIfS (pB (pBin eqP (pIx (pN 1) (pC (.int 0))) (pC (.int 0))))
    (pRet (pBin addP (pN 0) (pIx (pN 0) (negP (pC (.int 1))))))
    pNext)
    (pSeq (pIfS (pB (pBin eqP (pIx (pN 1) (pC (.int 0))) (pC (.int 1))))
    (pRet (pBin addP (pIx (pN 0) (pC (.int 0))) (pN 0)))
    pNext)
    (pSeq (pIfS (pB (pBin eqP (pIx (pN 1) (pC (.int 0))) (pC (.int 2))))
    (pRet (pSl (pC (.str "0123456789abcdefghijklmnopqrstuvwxyz")) (poSome (pIx (pN 1) (pC (.int 1)))) (poSome (pBin addP (pIx (pN 1) (pC (.int 1))) (pC (.int 7))))))
    pNext)
    (pSeq (pIfS (pB (pBin eqP (pIx (pN 1) (pC (.int 0))) (pC (.int 3))))
    (pRet (pBin addP (pC (.str "/")) (pSl (pN 0) (poSome (pC (.int 1))) poNone)))
    pNext)
    (pSeq (pIfS (pB (pBin eqP (pIx (pN 1) (pC (.int 0))) (pC (.int 4))))
    (pRet (pBin addP (pSl (pN 0) poNone (poSome (negP (pC (.int 1))))) (pC (.str "{"))))
    pNext)
    (pSeq (pJn (pIfS (pAnd (pB (pBin eqP (pIx (pN 1) (pC (.int 0))) (pC (.int 5)))) (pB (pBin gtP (pCall lenP (paCons (pN 0) paNil)) (pC (.int 1)))))
    (pRet (pBin addP (pBin addP (pIx (pN 0) (pC (.int 1))) (pIx (pN 0) (pC (.int 0)))) (pSl (pN 0) (poSome (pC (.int 2))) poNone)))
    pNext))
    (pSeq (pIfS (pAnd (pB (pBin eqP (pIx (pN 1) (pC (.int 0))) (pC (.int 6)))) (pB (pBin gtP (pCall lenP (paCons (pN 0) paNil)) (pC (.int 1)))))
    (pRet (pBin addP (pBin addP (pSl (pN 0) poNone (poSome (negP (pC (.int 2))))) (pIx (pN 0) (negP (pC (.int 1))))) (pIx (pN 0) (negP (pC (.int 2))))))
    pNext)
    (pSeq (pIfS (pB (pBin eqP (pIx (pN 1) (pC (.int 0))) (pC (.int 7))))
    (pRet (pBin addP (pN 0) (pC (.str "\n"))))
    pNext)
    (pSeq (pIfS (pB (pBin eqP (pIx (pN 1) (pC (.int 0))) (pC (.int 8))))
    (pRet (pBin addP (pC (.str " ")) (pN 0)))
    pNext)
    (pRet (pIx (pLst (paCons (pC (.str "")) (paCons (pC (.str "0:a")) (paCons (pC (.str "@")) (paCons (pC (.str "Za")) (paCons (pC (.str "A")) (paCons (pC (.str "`a")) (paCons (pC (.str "a-b")) (paCons (pC (.str "a b")) (paCons (pC (.str "ba")) (paCons (pC (.str "\n")) (paCons (pC (.str "09a0")) paNil)))))))))))) (pIx (pN 1) (pC (.int 2)))))))))))))))
-- slots: 0 bad, 1 far, 2 many, 3 e
def b_law_refused (sp_law_is_alphabet : PSp) (sx_text_with : PSpX) : PTS :=
  (pSeq (pIfS (pB (pCall sp_law_is_alphabet (paCons (pN 0) paNil)))
    (pRet (pC (.bl true)))
    pNext)
    (pSeq (pTry (pDropX (xCall sx_text_with (xaPure (paCons (pN 0) (paCons (pN 1) (paCons (pN 2) paNil))))))
    [((subAll errTab), some 3, (pSeq (pIfS (pOr (pNot (pB (pIsE (subOf errTab "BadAlphabet") (pN 3)))) (pNot (pB (pIsE (subAll errTab) (pN 3)))))
    (pRet (pC (.bl false)))
    pNext)
    (pSeq (pIfS (pB (pIsEs [subOf errTab "BadLetter", subOf errTab "BadIndex", subOf errTab "BadRank", subOf errTab "BadRow", subOf errTab "BadTail", subOf errTab "TooLarge"] (pN 3)))
    (pRet (pC (.bl false)))
    pNext)
    (pRet (pAndV (isiP "str" (pErF errTab "alphabet" (pN 3))) (pBin eqP (pErF errTab "alphabet" (pN 3)) (pN 0)))))))])
    (pRet (pC (.bl false)))))
-- slots: 0 script, 1 abc, 2 far, 3 row, 4 least, 5 most, 6 middle, 7 first, 8 other, 9 many, 10 bad
def b_law (sp_law_alphabet : PSp) (sp_law_digits : PSp) (sp_law_cell : PSp) (sp_law_far : PSp) (sp_law_least : PSp) (sp_law_greatest : PSp) (sp_text_with : PSp) (sp_law_told : PSp) (sp_law_manies : PSp) (sp_law_bad : PSp) (sp_law_refused : PSp) : PTS :=
  (pSeq (pSet 1 (pCall sp_law_alphabet (paCons (pCall sp_law_digits (paCons (pCall sp_law_cell (paCons (pN 0) (paCons (pC (.int 0)) paNil))) (paCons (pLst (paCons (pC (.int 12)) (paCons (pC (.int 36)) (paCons (pC (.int 36)) (paCons (pC (.int 36)) (paCons (pC (.int 36)) (paCons (pC (.int 36)) (paCons (pC (.int 36)) paNil)))))))) paNil))) (paCons (pC (.int 6)) paNil))))
    (pSeq (pSet 2 (pCall sp_law_far (paCons (pCall lenP (paCons (pN 1) paNil)) (paCons (pCall sp_law_digits (paCons (pCall sp_law_cell (paCons (pN 0) (paCons (pC (.int 1)) paNil))) (paCons (pLst (paCons (pC (.int 7)) (paCons (pC (.int 401)) (paCons (pC (.int 46)) (paCons (pC (.int 13)) (paCons (pC (.int 28)) (paCons (pC (.int 3)) paNil))))))) paNil))) paNil))))
    (pSeq (pSet 3 (pCall sp_law_digits (paCons (pCall sp_law_cell (paCons (pN 0) (paCons (pC (.int 2)) paNil))) (paCons (pLst (paCons (pC (.int 1001)) (paCons (pC (.int 400)) (paCons (pC (.int 400)) (paCons (pC (.int 400)) paNil))))) paNil))))
    (pSeq (pSet 4 (pCall sp_law_least (paCons (pN 2) paNil)))
    (pSeq (pSet 5 (pCall sp_law_greatest (paCons (pCall lenP (paCons (pN 1) paNil)) (paCons (pN 2) paNil))))
    (pSeq (pSet 6 (pBin addP (pN 4) (pBin modP (pCall intP (paCons (pIx (pN 3) (pC (.int 3))) paNil)) (pBin addP (pBin subP (pN 5) (pN 4)) (pC (.int 1))))))
    (pSeq (pSet 7 (pCall reprP (paCons (pCall sp_text_with (paCons (pN 1) (paCons (pN 2) (paCons (pN 6) paNil)))) paNil)))
    (pSeq (pSet 8 (pCall sp_law_alphabet (paCons (pCall sp_law_digits (paCons (pCall sp_law_cell (paCons (pN 0) (paCons (pC (.int 3)) paNil))) (paCons (pLst (paCons (pC (.int 12)) (paCons (pC (.int 36)) (paCons (pC (.int 36)) (paCons (pC (.int 36)) (paCons (pC (.int 36)) (paCons (pC (.int 36)) (paCons (pC (.int 36)) paNil)))))))) paNil))) (paCons (pC (.int 6)) paNil))))
    (pSeq (pIfS (pNot (pB (pCall sp_law_told (paCons (pN 8) (paCons (pN 2) (paCons (pN 6) (paCons (pN 4) (paCons (pCall sp_law_greatest (paCons (pCall lenP (paCons (pN 8) paNil)) (paCons (pN 2) paNil))) paNil))))))))
    (pRet (pC (.bl false)))
    pNext)
    (pSeq (pFor (piE (pBin addP (pCall sp_law_manies (paCons (pN 4) (paCons (pN 5) (paCons (pSl (pN 3) (poSome (pC (.int 1))) (poSome (pC (.int 3)))) paNil)))) (pLst (paCons (pN 6) (paCons (pIx (pN 3) (pC (.int 0))) paNil))))) (pgN 9)
    (pIfS (pNot (pB (pCall sp_law_told (paCons (pN 1) (paCons (pN 2) (paCons (pN 9) (paCons (pN 4) (paCons (pN 5) paNil))))))))
    (pRet (pC (.bl false)))
    pNext))
    (pSeq (pSet 10 (pCall sp_law_bad (paCons (pN 1) (paCons (pCall sp_law_digits (paCons (pCall sp_law_cell (paCons (pN 0) (paCons (pC (.int 4)) paNil))) (paCons (pBin addP (pLst (paCons (pC (.int 14)) (paCons (pC (.int 30)) (paCons (pC (.int 11)) (paCons (pC (.int 9)) paNil))))) (pBin mulP (pLst (paCons (pC (.int 95)) paNil)) (pC (.int 8)))) paNil))) paNil))))
    (pSeq (pIfS (pOr (pNot (pB (pCall sp_law_refused (paCons (pN 10) (paCons (pN 2) (paCons (pN 6) paNil)))))) (pNot (pB (pCall sp_law_refused (paCons (pN 10) (paCons (pN 2) (paCons (pBin addP (pN 5) (pC (.int 1))) paNil)))))))
    (pRet (pC (.bl false)))
    pNext)
    (pRet (pBin eqP (pCall reprP (paCons (pCallK sp_text_with 0 3 (pickL [2, 1, 0]) paNil (paCons (pN 6) (paCons (pN 2) (paCons (pN 1) paNil)))) paNil)) (pN 7)))))))))))))))
end K07
end

section
set_option linter.all false
set_option maxRecDepth 100000
set_option maxHeartbeats 4000000
set_option autoImplicit false
/-! CT: texts as lists of code points, the cut of a text (plain law). -/
namespace PL
open PySem PySem.Spec PyProof.Rows L2
abbrev Wd := List Nat
def T (w : Wd) : Str := ⟨w.toArray⟩
def TD (w : Wd) : D := .str (T w)
theorem T_inj {a b : Wd} (h : T a = T b) : a = b := by
  have : a.toArray = b.toArray := congrArg Str.cps h
  simpa using this
theorem T_app (a b : Wd) : T a ++ T b = T (a ++ b) := by
  show (⟨a.toArray ++ b.toArray⟩ : Str) = ⟨(a ++ b).toArray⟩
  simp
theorem T_len (a : Wd) : (T a).length = a.length := rfl
theorem signs_T (a : Wd) : signs (T a) = a.map fun c => TD [c] := rfl
theorem T_nil : T [] = "" := rfl
/-- all texts with k letters -/
def allN (al : Wd) : Nat → List Wd
  | 0 => [[]]
  | k + 1 => (allN al k).flatMap fun t => al.map fun c => t ++ [c]
theorem allN_len (al : Wd) : ∀ k, (allN al k).length = al.length ^ k
  | 0 => rfl
  | k + 1 => by
    show ((allN al k).flatMap fun t => al.map fun c => t ++ [c]).length = _
    rw [List.length_flatMap]
    have : (List.map (fun t => (al.map fun c => t ++ [c]).length) (allN al k)) = List.replicate (allN al k).length al.length := by
      rw [List.eq_replicate_iff]
      refine ⟨by simp, fun b hb => ?_⟩
      obtain ⟨t, _, rfl⟩ := List.mem_map.mp hb
      simp
    rw [this, List.sum_replicate_nat, allN_len al k, Nat.pow_succ]
theorem allN_mem {al : Wd} : ∀ {k : Nat} {t : Wd}, t ∈ allN al k → t.length = k
  | 0, t, h => by
    have : t = [] := by simpa [allN] using h
    subst this; rfl
  | k + 1, t, h => by
    obtain ⟨u, hu, ht⟩ := List.mem_flatMap.mp h
    obtain ⟨c, _, rfl⟩ := List.mem_map.mp ht
    rw [List.length_append, allN_mem hu]; rfl
/-! the numbers of the pieces -/
def nmF : Nat → List Wd → List (Key × D)
  | _, [] => []
  | i, p :: ps => (Sum.inr (T p), D.int (i : Nat)) :: nmF (i + 1) ps
def nmD (ps : List Wd) : List (Key × D) := nmF 0 ps
theorem nmF_len : ∀ (ps : List Wd) (i : Nat), (nmF i ps).length = ps.length
  | [], _ => rfl
  | p :: ps, i => congrArg (· + 1) (nmF_len ps (i + 1))
theorem lookF (w : Wd) : ∀ (ps : List Wd) (i : Nat), lookD (nmF i ps) (Sum.inr (T w) : Key) = if w ∈ ps then some (D.int ((i + ps.idxOf w : Nat) : Int)) else none
  | [], i => rfl
  | p :: ps, i => by
    unfold lookD nmF
    rw [List.find?_cons]
    by_cases h : p = w
    · subst h
      rw [show decide ((Sum.inr (T p) : Key) = Sum.inr (T p)) = true from decide_eq_true rfl]
      simp [List.idxOf_cons_self]
    · rw [show decide ((Sum.inr (T p) : Key) = Sum.inr (T w)) = false from decide_eq_false fun e => h (T_inj (Sum.inr.inj e))]
      show lookD (nmF (i + 1) ps) _ = _
      rw [lookF w ps (i + 1)]
      by_cases hm : w ∈ ps
      · have e : (p :: ps).idxOf w = ps.idxOf w + 1 := by
          rw [List.idxOf_cons]
          have : (p == w) = false := beq_eq_false_iff_ne.mpr h
          rw [this]; rfl
        rw [if_pos hm, if_pos (List.mem_cons_of_mem _ hm), e, show i + 1 + ps.idxOf w = i + (ps.idxOf w + 1) by omega]
      · have : ¬ w ∈ p :: ps := fun q => by
          rcases List.mem_cons.mp q with q | q
          · exact h q.symm
          · exact hm q
        rw [if_neg hm, if_neg this]
theorem look_nm (ps : List Wd) (w : Wd) : lookD (nmD ps) (Sum.inr (T w) : Key) = if w ∈ ps then some (D.int (ps.idxOf w : Nat)) else none := by
  unfold nmD
  rw [lookF, Nat.zero_add]
theorem nmF_snoc (w : Wd) : ∀ (ps : List Wd) (i : Nat), nmF i (ps ++ [w]) = nmF i ps ++ [(Sum.inr (T w), D.int ((i + ps.length : Nat) : Int))]
  | [], i => rfl
  | p :: ps, i => by
    show (_ :: nmF (i + 1) (ps ++ [w])) = _ :: (nmF (i + 1) ps ++ _)
    rw [nmF_snoc w ps (i + 1), List.length_cons, show i + 1 + ps.length = i + (ps.length + 1) by omega]
theorem put_nm {ps : List Wd} {w : Wd} (h : w ∉ ps) : putD (nmD ps) (Sum.inr (T w) : Key) (D.int (ps.length : Nat)) = nmD (ps ++ [w]) := by
  have a : ((nmD ps).any fun kv => decide (kv.1 = (Sum.inr (T w) : Key))) = false := by
    have e := look_nm ps w
    rw [if_neg h] at e
    unfold lookD at e
    rw [Option.map_eq_none_iff, List.find?_eq_none] at e
    rw [List.any_eq_false]
    exact e
  unfold putD
  rw [a]
  show nmD ps ++ [_] = _
  unfold nmD
  rw [nmF_snoc, Nat.zero_add]
theorem inP_nm {neg : Bool} {ps : List Wd} {w : Wd} {P : D → Prop} (h : P (.bl (decide (w ∈ ps) != neg))) : inP neg (.str (T w)) (.dk (nmD ps)) P := by
  refine ⟨_, rfl, ?_⟩
  have e : (lookD (nmD ps) (Sum.inr (T w) : Key)).isSome = decide (w ∈ ps) := by
    rw [look_nm]
    by_cases c : w ∈ ps
    · rw [if_pos c, decide_eq_true c]; rfl
    · rw [if_neg c, decide_eq_false c]; rfl
  show P (.bl ((lookD (nmD ps) (Sum.inr (T w) : Key)).isSome != neg))
  rw [e]
  exact h
theorem ixP_nm {ps : List Wd} {w : Wd} {P : D → Prop} (hm : w ∈ ps) (h : P (.int (ps.idxOf w : Nat))) : ixP (.dk (nmD ps)) (.str (T w)) P := by
  refine ⟨_, ?_, h⟩
  show some (lookD (nmD ps) (Sum.inr (T w) : Key)) = _
  rw [look_nm, if_pos hm]
theorem setP_nm {ps : List Wd} {w : Wd} {P : D → Prop} (hm : w ∉ ps) (hl : ps.length < sizeLine) (h : P (.dk (nmD (ps ++ [w])))) : setP (.dk (nmD ps)) (.str (T w)) (.int (ps.length : Nat)) P := by
  refine ⟨_, rfl, ?_, ?_⟩
  · show (nmF 0 ps).length < _
    rw [nmF_len]; exact hl
  · rw [put_nm hm]; exact h
/-! the cut -/
structure CS where
  ps : List Wd
  rows : List (Nat × Nat)
  w : Wd
def CS.ini : CS := ⟨[[]], [], []⟩
def CS.step (s : CS) (c : Nat) : CS := if s.w ++ [c] ∈ s.ps then { s with w := s.w ++ [c] } else ⟨s.ps ++ [s.w ++ [c]], s.rows ++ [(s.ps.idxOf s.w, c)], []⟩
def cutC (t : Wd) : CS := t.foldl CS.step .ini
/-- a row of a cut -/
def rowD (r : Nat × Nat) : D := .tup [.int (r.1 : Nat), TD [r.2]]
structure CS.Ok (s : CS) (k : Nat) : Prop where
  nil : [] ∈ s.ps
  w : s.w ∈ s.ps
  len : s.rows.length + 1 = s.ps.length
  le : s.ps.length ≤ k + 1
  wl : s.w.length ≤ k
theorem CS.Ok.ini : CS.Ok .ini 0 := ⟨List.mem_singleton.mpr rfl, List.mem_singleton.mpr rfl, rfl, Nat.le_refl _, Nat.le_refl _⟩
theorem CS.Ok.step {s : CS} {k : Nat} (h : s.Ok k) (c : Nat) : (s.step c).Ok (k + 1) := by
  have := h.len; have := h.le; have := h.wl
  unfold CS.step
  by_cases e : s.w ++ [c] ∈ s.ps
  · rw [if_pos e]
    exact ⟨h.nil, e, h.len, by show s.ps.length ≤ _; omega, by show (s.w ++ [c]).length ≤ _; rw [List.length_append]; exact Nat.succ_le_succ h.wl⟩
  · rw [if_neg e]
    refine ⟨List.mem_append_left _ h.nil, List.mem_append_left _ h.nil, ?_, ?_, Nat.zero_le _⟩
    · show (s.rows ++ [_]).length + 1 = (s.ps ++ [_]).length
      rw [List.length_append, List.length_append]; simp; omega
    · show (s.ps ++ [_]).length ≤ _
      rw [List.length_append]; simp; omega
theorem cutC_snoc (t : Wd) (c : Nat) : cutC (t ++ [c]) = (cutC t).step c := by
  unfold cutC
  rw [List.foldl_append]; rfl
theorem takeC {α : Type} {t : List α} {k : Nat} {c : α} (h : t[k]? = some c) : t.take (k + 1) = t.take k ++ [c] := by
  rw [List.take_add_one, h]; rfl
theorem cutC_ok (t : Wd) : (cutC t).Ok t.length := by
  have : ∀ k, k ≤ t.length → (cutC (t.take k)).Ok k := by
    intro k
    induction k with
    | zero => intro _; exact CS.Ok.ini
    | succ k ih =>
      intro hk
      obtain ⟨c, hc⟩ : ∃ c, t[k]? = some c := ⟨_, List.getElem?_eq_getElem (by omega)⟩
      rw [takeC hc, cutC_snoc]
      exact (ih (by omega)).step c
  have h := this t.length (Nat.le_refl _)
  rwa [List.take_length] at h
end PL
end

section
set_option linter.all false
set_option maxRecDepth 100000
set_option maxHeartbeats 4000000
set_option autoImplicit false
/-! CT2: cuts (plain law): rows, pieces, text, starts; a sign in a text. -/
namespace PL
open PySem PySem.Spec PyProof.Rows L2
theorem snoc_ind {α : Type} {motive : List α → Prop} (nil : motive []) (snoc : ∀ l a, motive l → motive (l ++ [a])) (l : List α) : motive l := by
  have : ∀ r : List α, motive r.reverse := by
    intro r
    induction r with
    | nil => exact nil
    | cons a r ih => rw [List.reverse_cons]; exact snoc _ _ ih
  have h := this l.reverse
  rwa [List.reverse_reverse] at h
theorem in_T (a : Wd) (c : Nat) : (!(Builtin.Str.occurrences (T a) (T [c]) 0 (T a).length 1).isEmpty) = decide (c ∈ a) := PySem.StrLaws.found_one (T a) c
abbrev CRow := Nat × Nat
/-- the texts of the pieces -/
def txs (rows : List CRow) : List Wd := rows.foldl (fun ps r => ps ++ [ps.getD r.1 [] ++ [r.2]]) [[]]
theorem txs_snoc (rows : List CRow) (r : CRow) : txs (rows ++ [r]) = txs rows ++ [(txs rows).getD r.1 [] ++ [r.2]] := by
  unfold txs
  rw [List.foldl_append]; rfl
theorem txs_len (rows : List CRow) : (txs rows).length = rows.length + 1 := by
  induction rows using snoc_ind with
  | nil => rfl
  | snoc rs r ih => rw [txs_snoc, List.length_append, ih, List.length_append]; rfl
/-- good rows -/
structure GR (abc : Wd) (rows : List CRow) : Prop where
  row : ∀ (i : Nat) (r : CRow), rows[i]? = some r → r.1 ≤ i ∧ r.2 ∈ abc
  nd : rows.Nodup
theorem GR.take {abc : Wd} {rows : List CRow} (h : GR abc rows) (k : Nat) : GR abc (rows.take k) := by
  refine ⟨fun i r hr => ?_, h.nd.sublist (List.take_sublist _ _)⟩
  rw [List.getElem?_take] at hr
  split at hr
  · exact h.row i r hr
  · cases hr
/-- where the pieces begin, and where the tail -/
def sK (ps : List Wd) (k : Nat) : Nat := ((ps.take (k + 1)).map List.length).sum
def sts (ps : List Wd) : List Nat := (List.range ps.length).map (sK ps)
theorem sK_succ {ps : List Wd} {k : Nat} {p : Wd} (h : ps[k + 1]? = some p) : sK ps (k + 1) = sK ps k + p.length := by
  unfold sK
  rw [takeC h, List.map_append, List.sum_append]; simp
/-! a cut's invariants -/
structure CS.Gd (abc : Wd) (s : CS) : Prop where
  ps : s.ps = txs s.rows
  gr : ∀ (i : Nat) (r : CRow), s.rows[i]? = some r → r.1 ≤ i ∧ r.2 ∈ abc
  nd : s.ps.Nodup
  w : s.w ∈ s.ps
theorem txs_zero (rows : List CRow) : (txs rows)[0]? = some [] := by
  induction rows using snoc_ind with
  | nil => rfl
  | snoc rs r ih =>
    have := txs_len rs
    rw [txs_snoc, List.getElem?_append_left (by omega), ih]
/-- piece k + 1 is the row's parent and its letter -/
theorem txs_at {rows : List CRow} : ∀ {k : Nat} {r : CRow}, (∀ (i : Nat) (r : CRow), rows[i]? = some r → r.1 ≤ i) → rows[k]? = some r → ∃ p, (txs rows)[r.1]? = some p ∧ (txs rows)[k + 1]? = some (p ++ [r.2]) := by
  induction rows using snoc_ind with
  | nil => intro k r _ h; cases h
  | snoc rs q ih =>
    intro k r hg h
    have hl := txs_len rs
    have hg' : ∀ (i : Nat) (r : CRow), rs[i]? = some r → r.1 ≤ i := fun i r hr => hg i r (by rw [List.getElem?_append_left (List.getElem?_eq_some_iff.mp hr).1]; exact hr)
    rw [txs_snoc]
    by_cases hk : k < rs.length
    · rw [List.getElem?_append_left hk] at h
      obtain ⟨p, a, b⟩ := ih hg' h
      have ha := (List.getElem?_eq_some_iff.mp a).1
      exact ⟨p, by rw [List.getElem?_append_left ha]; exact a, by rw [List.getElem?_append_left (by omega)]; exact b⟩
    · have hk2 : k = rs.length := by
        have := (List.getElem?_eq_some_iff.mp h).1
        rw [List.length_append] at this
        simp at this; omega
      subst hk2
      rw [List.getElem?_append_right (Nat.le_refl _), Nat.sub_self] at h
      cases h
      have hr := hg rs.length q (by rw [List.getElem?_append_right (Nat.le_refl _), Nat.sub_self]; rfl)
      obtain ⟨p, hp⟩ : ∃ p, (txs rs)[q.1]? = some p := ⟨_, List.getElem?_eq_getElem (by omega)⟩
      refine ⟨p, by rw [List.getElem?_append_left (by omega)]; exact hp, ?_⟩
      rw [List.getElem?_append_right (by omega), show rs.length + 1 - (txs rs).length = 0 by omega, List.getD_eq_getElem?_getD, hp]; rfl
theorem nd_get {α : Type} {l : List α} (h : l.Nodup) {i j : Nat} {x : α} (hi : l[i]? = some x) (hj : l[j]? = some x) : i = j := by
  obtain ⟨a1, a2⟩ := List.getElem?_eq_some_iff.mp hi
  obtain ⟨b1, b2⟩ := List.getElem?_eq_some_iff.mp hj
  have hp := List.pairwise_iff_getElem.mp h
  by_cases c1 : i < j
  · exact absurd (a2.trans b2.symm) (hp i j a1 b1 c1)
  · by_cases c2 : j < i
    · exact absurd (b2.trans a2.symm) (hp j i b1 a1 c2)
    · omega
theorem nd_idx {α : Type} [BEq α] [LawfulBEq α] {l : List α} (h : l.Nodup) {i : Nat} {x : α} (hi : l[i]? = some x) : l.idxOf x = i := by
  have hm := List.mem_of_getElem? hi
  have hl := List.idxOf_lt_length_of_mem hm
  have e : l[l.idxOf x]? = some x := by rw [List.getElem?_eq_getElem hl, List.getElem_idxOf]
  exact nd_get h e hi
theorem idx_get {α : Type} [BEq α] [LawfulBEq α] {l : List α} {x : α} (hm : x ∈ l) : l[l.idxOf x]? = some x := by
  rw [List.getElem?_eq_getElem (List.idxOf_lt_length_of_mem hm), List.getElem_idxOf]
section
variable {abc : Wd} {s : CS} {c : Nat}
theorem CS.Gd.rows_nd (h : s.Gd abc) : s.rows.Nodup := by
  refine List.pairwise_iff_getElem.mpr fun i j hi hj hij e => ?_
  obtain ⟨r, hr⟩ : ∃ r, s.rows[i]? = some r := ⟨_, List.getElem?_eq_getElem hi⟩
  have hr2 : s.rows[j]? = some r := by
    rw [List.getElem?_eq_getElem hj, ← e, ← List.getElem?_eq_getElem hi, hr]
  have hg := fun i r q => (h.gr i r q).1
  obtain ⟨p, a1, a2⟩ := txs_at hg hr
  obtain ⟨q, b1, b2⟩ := txs_at hg hr2
  rw [a1] at b1
  cases b1
  have nd := h.nd
  rw [h.ps] at nd
  have := nd_get nd a2 b2
  omega
/-- the row of a word that is a piece, and its number -/
theorem CS.Gd.old (h : s.Gd abc) (hm : s.w ++ [c] ∈ s.ps) : (s.ps.idxOf s.w, c) ∈ s.rows ∧ s.rows.idxOf (s.ps.idxOf s.w, c) + 1 = s.ps.idxOf (s.w ++ [c]) := by
  have hg := fun i r q => (h.gr i r q).1
  have hl : s.ps.length = s.rows.length + 1 := by rw [h.ps]; exact txs_len _
  have e := idx_get hm
  have hlt := (List.getElem?_eq_some_iff.mp e).1
  have h0 : s.ps[0]? = some [] := by rw [h.ps]; exact txs_zero _
  generalize hj : s.ps.idxOf (s.w ++ [c]) = j at *
  cases j with
  | zero => rw [h0] at e; have := Option.some.inj e; simp at this
  | succ k =>
    obtain ⟨r, hr⟩ : ∃ r, s.rows[k]? = some r := ⟨_, List.getElem?_eq_getElem (by omega)⟩
    obtain ⟨p, a1, a2⟩ := txs_at hg hr
    rw [← h.ps] at a1 a2
    rw [a2] at e
    have e := Option.some.inj e
    have ew : p = s.w := by
      have := congrArg List.dropLast e
      simpa using this
    have ec : r.2 = c := by
      have := congrArg List.getLast? e
      simpa using this
    subst ew
    have ei := nd_idx h.nd a1
    have er : (s.ps.idxOf s.w, c) = r := by rw [ei, ← ec]
    rw [er]
    exact ⟨List.mem_of_getElem? hr, by rw [nd_idx h.rows_nd hr]⟩
theorem CS.Gd.new (h : s.Gd abc) (hm : s.w ++ [c] ∉ s.ps) : (s.ps.idxOf s.w, c) ∉ s.rows := by
  intro hr
  have hg := fun i r q => (h.gr i r q).1
  obtain ⟨p, a1, a2⟩ := txs_at hg (idx_get hr)
  rw [← h.ps] at a1 a2
  have : p = s.w := by
    have := idx_get h.w
    rw [this] at a1
    exact (Option.some.inj a1).symm
  subst this
  exact hm (List.mem_of_getElem? a2)
theorem CS.Gd.step (h : s.Gd abc) (hc : c ∈ abc) : (s.step c).Gd abc := by
  unfold CS.step
  have hl : s.ps.length = s.rows.length + 1 := by rw [h.ps]; exact txs_len _
  have h0 : s.ps[0]? = some [] := by rw [h.ps]; exact txs_zero _
  by_cases e : s.w ++ [c] ∈ s.ps
  · rw [if_pos e]
    exact ⟨h.ps, h.gr, h.nd, e⟩
  · rw [if_neg e]
    have hi := List.idxOf_lt_length_of_mem h.w
    refine ⟨?_, fun i r hr => ?_, ?_, List.mem_append_left _ (List.mem_of_getElem? h0)⟩
    · show s.ps ++ [_] = txs (s.rows ++ [_])
      rw [txs_snoc, ← h.ps, List.getD_eq_getElem?_getD, idx_get h.w]; rfl
    · have hr : (s.rows ++ [(s.ps.idxOf s.w, c)])[i]? = some r := hr
      by_cases hk : i < s.rows.length
      · rw [List.getElem?_append_left hk] at hr
        exact h.gr i r hr
      · have hk2 : i = s.rows.length := by
          have := (List.getElem?_eq_some_iff.mp hr).1
          rw [List.length_append] at this
          simp at this; omega
        subst hk2
        rw [List.getElem?_append_right (Nat.le_refl _), Nat.sub_self] at hr
        cases hr
        exact ⟨by show s.ps.idxOf s.w ≤ _; omega, hc⟩
    · show (s.ps ++ [_]).Nodup
      rw [List.nodup_append]
      exact ⟨h.nd, by simp, fun a ha b hb q => by simp at hb; subst hb; subst q; exact e ha⟩
end
theorem CS.Gd.ini (abc : Wd) : CS.ini.Gd abc := ⟨rfl, fun i r h => (by cases h), by decide, List.mem_singleton.mpr rfl⟩
theorem cutC_gd {abc : Wd} (t : Wd) (h : ∀ c ∈ t, c ∈ abc) : (cutC t).Gd abc := by
  induction t using snoc_ind with
  | nil => exact CS.Gd.ini abc
  | snoc t c ih =>
    rw [cutC_snoc]
    exact (ih fun x hx => h x (List.mem_append_left _ hx)).step (h c (by simp))
theorem CS.Gd.good {abc : Wd} {s : CS} (h : s.Gd abc) : GR abc s.rows := ⟨h.gr, h.rows_nd⟩
/-- the pieces and the tail are the text -/
theorem cutC_text (t : Wd) : (cutC t).ps.flatten ++ (cutC t).w = t := by
  induction t using snoc_ind with
  | nil => rfl
  | snoc t c ih =>
    rw [cutC_snoc]
    unfold CS.step
    by_cases e : (cutC t).w ++ [c] ∈ (cutC t).ps
    · rw [if_pos e]
      show _ ++ (_ ++ [c]) = _
      rw [← List.append_assoc, ih]
    · rw [if_neg e]
      show ((cutC t).ps ++ [(cutC t).w ++ [c]]).flatten ++ [] = _
      rw [List.flatten_append, List.append_nil]
      show (cutC t).ps.flatten ++ ([(cutC t).w ++ [c]]).flatten = _
      simp only [List.flatten_cons, List.flatten_nil, List.append_nil]
      rw [← List.append_assoc, ih]
theorem txs_le (rows : List CRow) : ∀ p ∈ txs rows, p.length ≤ rows.length := by
  induction rows using snoc_ind with
  | nil => intro p h; rw [show txs [] = [[]] from rfl, List.mem_singleton] at h; subst h; exact Nat.le_refl _
  | snoc rs r ih =>
    intro p h
    rw [txs_snoc] at h
    rw [List.length_append]
    rcases List.mem_append.mp h with h | h
    · have := ih p h; omega
    · rw [List.mem_singleton] at h
      subst h
      rw [List.length_append]
      rw [List.getD_eq_getElem?_getD]
      have : ((txs rs)[r.1]?.getD []).length ≤ rs.length := by
        cases e : (txs rs)[r.1]? with
        | none => exact Nat.zero_le _
        | some q => exact ih q (List.mem_of_getElem? e)
      simp; omega
theorem sum_le {ls : List Nat} {m : Nat} (h : ∀ x ∈ ls, x ≤ m) : ls.sum ≤ ls.length * m := by
  induction ls with
  | nil => exact Nat.zero_le _
  | cons x ls ih =>
    have a := h x (List.mem_cons_self ..)
    have b := ih fun y hy => h y (List.mem_cons_of_mem _ hy)
    rw [List.sum_cons, List.length_cons, Nat.add_mul, Nat.one_mul]; omega
theorem flat_len (ps : List Wd) : ps.flatten.length = (ps.map List.length).sum := List.length_flatten
theorem joinL_e : ∀ xs : List (List Nat), TL.joinL [] xs = xs.flatten
  | [] => rfl
  | [p] => by simp [TL.joinL]
  | p :: q :: r => by
    show p ++ ([] ++ TL.joinL [] (q :: r)) = _
    rw [joinL_e (q :: r)]; simp
theorem join_T (ps : List Wd) : Txt.join (Str.ofString "") (ps.map T) = T ps.flatten := by
  have e : (Txt.join (Str.ofString "") (ps.map T)).cps.toList = ps.flatten := by
    rw [TL.join_eq]
    show TL.tl (Str.join (Str.ofString "") (ps.map T)) = _
    rw [TL.tl_join, str_e]
    show TL.joinL [] _ = _
    rw [joinL_e, List.map_map]
    congr 1
    rw [show (TL.tl ∘ T) = id from funext fun w => by show w.toArray.toList = w; simp, List.map_id]
  have e2 : (Txt.join (Str.ofString "") (ps.map T)).cps = ps.flatten.toArray := by rw [← e]
  show _ = (⟨ps.flatten.toArray⟩ : Str)
  rw [← e2]
/-! rows as keys -/
def keyR (r : CRow) : List Key := [Sum.inl (r.1 : Int), Sum.inr (T [r.2])]
theorem keyR_inj {a b : CRow} (h : keyR a = keyR b) : a = b := by
  unfold keyR at h
  injection h with h1 h2
  injection h2 with h2 _
  have e1 : (a.1 : Int) = b.1 := Sum.inl.inj h1
  have e2 := T_inj (Sum.inr.inj h2)
  have e3 : a.2 = b.2 := by simpa using e2
  exact Prod.ext (by omega) e3
theorem look_rows (v : CRow → D) (q : CRow) : ∀ rows : List CRow, lookD (rows.map fun r => (keyR r, v r)) (keyR q) = if q ∈ rows then some (v q) else none
  | [] => rfl
  | r :: rows => by
    unfold lookD
    rw [List.map_cons, List.find?_cons]
    by_cases h : r = q
    · subst h
      rw [show decide (keyR r = keyR r) = true from decide_eq_true rfl]; simp
    · rw [show decide (keyR r = keyR q) = false from decide_eq_false fun e => h (keyR_inj e)]
      show lookD (rows.map fun r => (keyR r, v r)) (keyR q) = _
      rw [look_rows v q rows]
      have h2 : ¬ q = r := fun e => h e.symm
      simp [h2]
theorem put_rows {v : CRow → D} {q : CRow} {rows : List CRow} {d : D} (h : q ∉ rows) : putD (rows.map fun r => (keyR r, v r)) (keyR q) d = (rows.map fun r => (keyR r, v r)) ++ [(keyR q, d)] := by
  have a : ((rows.map fun r => (keyR r, v r)).any fun kv => decide (kv.1 = keyR q)) = false := by
    have e := look_rows v q rows
    rw [if_neg h] at e
    unfold lookD at e
    rw [Option.map_eq_none_iff, List.find?_eq_none] at e
    rw [List.any_eq_false]
    exact e
  unfold putD
  rw [a]; rfl
theorem inP_rows {neg : Bool} {v : CRow → D} {rows : List CRow} {r : CRow} {P : D → Prop} (h : P (.bl (decide (r ∈ rows) != neg))) : inP neg (rowD r) (.dt (rows.map fun r => (keyR r, v r))) P := by
  refine ⟨_, rfl, ?_⟩
  have e : (lookD (rows.map fun r => (keyR r, v r)) (keyR r)).isSome = decide (r ∈ rows) := by
    rw [look_rows]
    by_cases c : r ∈ rows
    · rw [if_pos c, decide_eq_true c]; rfl
    · rw [if_neg c, decide_eq_false c]; rfl
  show P (.bl ((lookD (rows.map fun r => (keyR r, v r)) (keyR r)).isSome != neg))
  rw [e]; exact h
theorem ixP_rows {v : CRow → D} {rows : List CRow} {r : CRow} {P : D → Prop} (hm : r ∈ rows) (h : P (v r)) : ixP (.dt (rows.map fun r => (keyR r, v r))) (rowD r) P := by
  refine ⟨_, ?_, h⟩
  show some (lookD (rows.map fun r => (keyR r, v r)) (keyR r)) = _
  rw [look_rows, if_pos hm]
theorem setP_rows {v : CRow → D} {rows : List CRow} {r : CRow} {d : D} {P : D → Prop} (hm : r ∉ rows) (hl : rows.length < sizeLine) (h : P (.dt ((rows.map fun r => (keyR r, v r)) ++ [(keyR r, d)]))) : setP (.dt (rows.map fun r => (keyR r, v r))) (rowD r) d P := by
  refine ⟨keyR r, rfl, by rw [List.length_map]; exact hl, ?_⟩
  rw [put_rows hm]; exact h
end PL
end

section
set_option linter.all false
set_option maxRecDepth 100000
set_option maxHeartbeats 4000000
set_option autoImplicit false
/-! SP: inside words, filling, and the bound of the pieces within a text (plain law). -/
namespace PL
open PySem PySem.Spec PyProof.Rows L2
theorem nodup_sub' {α : Type} : ∀ {l m : List α}, l.Nodup → (∀ x ∈ l, x ∈ m) → l.length ≤ m.length
  | [], _, _, _ => Nat.zero_le _
  | a :: l, m, h, hs => by
    obtain ⟨h1, h2⟩ := List.nodup_cons.mp h
    obtain ⟨s, t, rfl⟩ := List.append_of_mem (hs a (List.mem_cons_self ..))
    have ih := nodup_sub' (m := s ++ t) h2 fun x hx => by
      have := hs x (List.mem_cons_of_mem _ hx)
      rcases List.mem_append.mp this with q | q
      · exact List.mem_append_left _ q
      · rcases List.mem_cons.mp q with q | q
        · subst q; exact absurd hx h1
        · exact List.mem_append_right _ q
    rw [List.length_append] at ih
    rw [List.length_append, List.length_cons, List.length_cons]; omega
theorem len_mul_le {ls : List Nat} {m : Nat} (h : ∀ x ∈ ls, m ≤ x) : ls.length * m ≤ ls.sum := by
  induction ls with
  | nil => simp
  | cons x ls ih =>
    have a := h x (List.mem_cons_self ..)
    have b := ih fun y hy => h y (List.mem_cons_of_mem _ hy)
    rw [List.sum_cons, List.length_cons, Nat.add_mul, Nat.one_mul]; omega
theorem sub_sum {A B : List Wd} (h : A.Sublist B) : (A.map List.length).sum ≤ (B.map List.length).sum := by
  induction h with
  | slnil => exact Nat.le_refl _
  | cons a _ ih => rw [List.map_cons, List.sum_cons]; omega
  | cons_cons a _ ih => rw [List.map_cons, List.map_cons, List.sum_cons, List.sum_cons]; omega
/-! pieces have no holes -/
theorem CS.Gd.dropLast {abc : Wd} {s : CS} (h : s.Gd abc) {p : Wd} (hp : p ∈ s.ps) (hn : p ≠ []) : p.dropLast ∈ s.ps := by
  have hg := fun i r q => (h.gr i r q).1
  have hl : s.ps.length = s.rows.length + 1 := by rw [h.ps]; exact txs_len _
  have h0 : s.ps[0]? = some [] := by rw [h.ps]; exact txs_zero _
  obtain ⟨j, hj, e⟩ := List.mem_iff_getElem.mp hp
  cases j with
  | zero =>
    have := List.getElem?_eq_some_iff.mpr ⟨hj, e⟩
    rw [h0] at this
    exact absurd (Option.some.inj this).symm hn
  | succ k =>
    obtain ⟨r, hr⟩ : ∃ r, s.rows[k]? = some r := ⟨_, List.getElem?_eq_getElem (by omega)⟩
    obtain ⟨q, a1, a2⟩ := txs_at hg hr
    rw [← h.ps] at a1 a2
    have e2 := List.getElem?_eq_some_iff.mpr ⟨hj, e⟩
    rw [a2] at e2
    have e3 := Option.some.inj e2
    rw [← e3, List.dropLast_concat]
    exact List.mem_of_getElem? a1
theorem CS.Gd.take {abc : Wd} {s : CS} (h : s.Gd abc) : ∀ (n : Nat) {p : Wd} (k : Nat), p.length = n → p ∈ s.ps → p.take k ∈ s.ps
  | 0, p, k, hl, hp => by rw [List.length_eq_zero_iff.mp hl] at hp ⊢; simpa using hp
  | n + 1, p, k, hl, hp => by
    by_cases hk : n + 1 ≤ k
    · rw [List.take_of_length_le (by omega)]; exact hp
    · have hn : p ≠ [] := fun e => by rw [e] at hl; simp at hl
      have := CS.Gd.take h n (p := p.dropLast) k (by rw [List.length_dropLast]; omega) (h.dropLast hp hn)
      rw [List.dropLast_eq_take, List.take_take, Nat.min_eq_left (by omega)] at this
      exact this
/-- an inside word -/
def Ins (ps : List Wd) (w : Wd) : Prop := w ≠ [] ∧ ∃ p ∈ ps, w <:+: p
theorem CS.Gd.suffix {abc : Wd} {s : CS} (h : s.Gd abc) {w : Wd} (hi : Ins s.ps w) : ∃ p ∈ s.ps, w <:+ p := by
  obtain ⟨_, p, hp, x, y, e⟩ := hi
  refine ⟨p.take (x ++ w).length, h.take _ _ rfl hp, x, ?_⟩
  rw [← e, List.take_left]
/-! counts by length -/
def nlen (K : List Wd) (l : Nat) : Nat := (K.filter fun w => decide (w.length = l)).length
def cnts (K : List Wd) (M : Nat) : List Nat := (List.range M).map fun l => nlen K (l + 1)
theorem nlen_le {K K2 : List Wd} (nd : K.Nodup) (h : ∀ w ∈ K, w ∈ K2) (l : Nat) : nlen K l ≤ nlen K2 l := by
  refine nodup_sub' (nd.sublist List.filter_sublist) fun w hw => ?_
  obtain ⟨a, b⟩ := List.mem_filter.mp hw
  exact List.mem_filter.mpr ⟨h w a, b⟩
theorem nlen_eq {K K2 : List Wd} (nd : K.Nodup) (nd2 : K2.Nodup) (h : ∀ w, w ∈ K ↔ w ∈ K2) (l : Nat) : nlen K l = nlen K2 l :=
  Nat.le_antisymm (nlen_le nd (fun w => (h w).mp) l) (nlen_le nd2 (fun w => (h w).mpr) l)
theorem nlen_snoc (K : List Wd) (w : Wd) (l : Nat) : nlen (K ++ [w]) l = nlen K l + if w.length = l then 1 else 0 := by
  unfold nlen
  rw [List.filter_append, List.length_append]
  congr 1
  by_cases h : w.length = l
  · rw [if_pos h]; simp [h]
  · rw [if_neg h]; simp [h]
/-! filling -/
def fillF : Nat → Nat → List Nat → Nat
  | _, _, [] => 0
  | i, left, c :: cs => min c (left / (i + 1)) + fillF (i + 1) (left - min c (left / (i + 1)) * (i + 1)) cs
theorem fill_opt : ∀ (cs : List Nat) (i left : Nat) (N : List Nat), (∀ x ∈ N, i + 1 ≤ x) → (∀ l, i + 1 ≤ l → N.count l ≤ cs.getD (l - (i + 1)) 0) → N.sum ≤ left → N.length ≤ fillF i left cs
  | [], i, left, N, h1, h2, _ => by
    cases N with
    | nil => exact Nat.zero_le _
    | cons x N =>
      have hx := h1 x (List.mem_cons_self ..)
      have := h2 x hx
      rw [List.count_cons_self] at this
      simp at this
  | c :: cs, i, left, N, h1, h2, h3 => by
    -- the words of the least length, and the others
    have hs : (N.filter (fun x => decide (x = i + 1))).length + (N.filter (fun x => !decide (x = i + 1))).length = N.length := by
      clear h1 h2 h3
      induction N with
      | nil => rfl
      | cons x N ih =>
        by_cases e : x = i + 1
        · simp only [List.filter_cons, decide_eq_true e, if_true, Bool.not_true, Bool.false_eq_true, if_false, List.length_cons]; omega
        · simp only [List.filter_cons, decide_eq_false e, Bool.false_eq_true, if_false, Bool.not_false, if_true, List.length_cons]; omega
    have hsum : (N.filter (fun x => decide (x = i + 1))).length * (i + 1) + (N.filter (fun x => !decide (x = i + 1))).sum = N.sum := by
      clear h1 h2 h3 hs
      induction N with
      | nil => simp
      | cons x N ih =>
        by_cases e : x = i + 1
        · simp only [List.filter_cons, decide_eq_true e, if_true, Bool.not_true, Bool.false_eq_true, if_false, List.length_cons, List.sum_cons, Nat.add_mul, Nat.one_mul]; omega
        · simp only [List.filter_cons, decide_eq_false e, Bool.false_eq_true, if_false, Bool.not_false, if_true, List.sum_cons]; omega
    have hc : (N.filter (fun x => decide (x = i + 1))).length ≤ c := by
      have := h2 (i + 1) (Nat.le_refl _)
      rw [Nat.sub_self] at this
      have e : N.count (i + 1) = (N.filter (fun x => decide (x = i + 1))).length := by
        rw [List.count, List.countP_eq_length_filter]
        congr 1
      rw [e] at this
      simpa using this
    generalize hn0 : (N.filter (fun x => decide (x = i + 1))).length = n0 at *
    generalize hN1 : N.filter (fun x => !decide (x = i + 1)) = N1 at *
    have g1 : ∀ x ∈ N1, i + 1 + 1 ≤ x := fun x hx => by
      rw [← hN1] at hx
      obtain ⟨a, b⟩ := List.mem_filter.mp hx
      have := h1 x a
      have : ¬ x = i + 1 := by simpa using b
      omega
    have g2 : ∀ l, i + 1 + 1 ≤ l → N1.count l ≤ cs.getD (l - (i + 1 + 1)) 0 := fun l hl => by
      have h := h2 l (by omega)
      rw [show l - (i + 1) = (l - (i + 1 + 1)) + 1 by omega] at h
      have h' : N.count l ≤ cs.getD (l - (i + 1 + 1)) 0 := by simpa using h
      refine Nat.le_trans ?_ h'
      rw [← hN1]
      exact (List.filter_sublist).count_le l
    have hq : n0 ≤ left / (i + 1) := by
      rw [Nat.le_div_iff_mul_le (by omega)]; omega
    show N.length ≤ min c (left / (i + 1)) + fillF (i + 1) (left - min c (left / (i + 1)) * (i + 1)) cs
    generalize ht : min c (left / (i + 1)) = t
    have htn : n0 ≤ t := by omega
    have htl : t * (i + 1) ≤ left := by
      have : t ≤ left / (i + 1) := by omega
      exact (Nat.le_div_iff_mul_le (by omega)).mp this
    by_cases hd : N1.length ≤ t - n0
    · omega
    · have hdrop : (t - n0) * (i + 1 + 1) ≤ (N1.take (t - n0)).sum := by
        have : (N1.take (t - n0)).length * (i + 1 + 1) ≤ (N1.take (t - n0)).sum := len_mul_le fun x hx => g1 x (List.mem_of_mem_take hx)
        rwa [List.length_take, Nat.min_eq_left (by omega)] at this
      have hsp : (N1.take (t - n0)).sum + (N1.drop (t - n0)).sum = N1.sum := by
        rw [← List.sum_append, List.take_append_drop]
      have ih := fill_opt cs (i + 1) (left - t * (i + 1)) (N1.drop (t - n0)) (fun x hx => g1 x (List.mem_of_mem_drop hx)) (fun l hl => Nat.le_trans ((List.drop_sublist _ _).count_le l) (g2 l hl)) (by
        have e1 : t * (i + 1) = n0 * (i + 1) + (t - n0) * (i + 1) := by rw [← Nat.add_mul]; congr 1; omega
        have e2 : (t - n0) * (i + 1 + 1) = (t - n0) * (i + 1) + (t - n0) := by rw [Nat.mul_add _ (i + 1) 1, Nat.mul_one]
        omega)
      rw [List.length_drop] at ih
      omega
/-! the words that lie in no part -/
theorem split_at_len : ∀ (B : List Wd) (m : Nat), B.flatten.length ≤ m ∨ ∃ B0 q B3, B = B0 ++ q :: B3 ∧ B0.flatten.length ≤ m ∧ m < B0.flatten.length + q.length
  | [], m => .inl (Nat.zero_le _)
  | w :: B, m => by
    by_cases h : w.length ≤ m
    · rcases split_at_len B (m - w.length) with e | ⟨B0, q, B3, rfl, e1, e2⟩
      · refine .inl ?_
        rw [List.flatten_cons, List.length_append]; omega
      · refine .inr ⟨w :: B0, q, B3, rfl, ?_, ?_⟩ <;> rw [List.flatten_cons, List.length_append] <;> omega
    · exact .inr ⟨[], w, B, rfl, Nat.zero_le _, by simpa using (by omega : m < w.length)⟩
theorem cat_short {a r x z : Wd} (e : a ++ r = x ++ z) (h : x.length ≤ a.length) : ∃ c, a = x ++ c ∧ z = c ++ r := by
  rcases List.append_eq_append_iff.mp e with ⟨c, h1, h2⟩ | ⟨c, h1, h2⟩
  · have : c = [] := by
      have := congrArg List.length h1
      rw [List.length_append] at this
      exact List.length_eq_zero_iff.mp (by omega)
    subst this
    exact ⟨[], by simpa using h1.symm, by simpa using h2.symm⟩
  · exact ⟨c, h1, h2⟩
theorem mem_infix {B : List Wd} {q : Wd} (h : q ∈ B) : q <:+: B.flatten := by
  obtain ⟨s, t, rfl⟩ := List.append_of_mem h
  exact ⟨s.flatten, t.flatten, by simp⟩
/-- of words behind one another, all but one less than the parts lie in a part -/
theorem cross : ∀ (A B : List Wd) (x y : Wd), A ≠ [] → A.flatten = x ++ B.flatten ++ y → ∃ B1 : List Wd, B1.Sublist B ∧ (∀ q ∈ B1, ∃ a ∈ A, q <:+: a) ∧ B.length + 1 ≤ B1.length + A.length
  | [], _, _, _, h, _ => absurd rfl h
  | [a], B, x, y, _, e => by
    refine ⟨B, List.Sublist.refl _, fun q hq => ⟨a, List.mem_singleton.mpr rfl, ?_⟩, Nat.le_refl _⟩
    have e : a = x ++ B.flatten ++ y := by simpa using e
    exact (mem_infix hq).trans ⟨x, y, e.symm⟩
  | a :: b :: A, B, x, y, _, e => by
    have e : a ++ (b :: A).flatten = x ++ B.flatten ++ y := by rw [← e]; rfl
    by_cases hx : x.length ≤ a.length
    · rcases split_at_len B (a.length - x.length) with hB | ⟨B0, q, B3, rfl, h1, h2⟩
      · obtain ⟨c, hc, _⟩ := cat_short (x := x ++ B.flatten) e (by rw [List.length_append]; omega)
        refine ⟨B, List.Sublist.refl _, fun q hq => ⟨a, List.mem_cons_self .., (mem_infix hq).trans ⟨x, c, hc.symm⟩⟩, ?_⟩
        rw [List.length_cons, List.length_cons]; omega
      · have e : a ++ (b :: A).flatten = x ++ (B0.flatten ++ (q ++ B3.flatten)) ++ y := by rw [e, List.flatten_append, List.flatten_cons (l := q)]
        obtain ⟨c, hc, _⟩ := cat_short (x := x ++ B0.flatten) (z := q ++ B3.flatten ++ y) (by rw [e]; simp) (by rw [List.length_append]; omega)
        obtain ⟨d, hd, hr⟩ := cat_short (a := x ++ B0.flatten ++ q) (r := B3.flatten ++ y) (x := a) (z := (b :: A).flatten) (by rw [e]; simp) (by rw [List.length_append, List.length_append]; omega)
        obtain ⟨C1, c1, c2, c3⟩ := cross (b :: A) B3 d y (by simp) (by rw [hr]; simp)
        refine ⟨B0 ++ C1, List.Sublist.append (List.Sublist.refl _) (List.Sublist.cons _ c1), fun w hw => ?_, ?_⟩
        · rcases List.mem_append.mp hw with hw | hw
          · exact ⟨a, List.mem_cons_self .., (mem_infix hw).trans ⟨x, c, hc.symm⟩⟩
          · obtain ⟨a', ha, hi⟩ := c2 w hw
            exact ⟨a', List.mem_cons_of_mem _ ha, hi⟩
        · rw [List.length_append, List.length_append, List.length_cons]
          rw [List.length_cons] at c3 ⊢
          rw [List.length_cons]
          omega
    · obtain ⟨d, hd, hr⟩ := cat_short (a := x) (r := B.flatten ++ y) (x := a) (z := (b :: A).flatten) (by rw [e]; simp) (by omega)
      obtain ⟨C1, c1, c2, c3⟩ := cross (b :: A) B d y (by simp) (by rw [hr]; simp)
      refine ⟨C1, c1, fun w hw => ?_, by rw [List.length_cons]; omega⟩
      obtain ⟨a', ha, hi⟩ := c2 w hw
      exact ⟨a', List.mem_cons_of_mem _ ha, hi⟩
/-! the bound -/
/-- how many borders a cut has -/
def NB (s : CS) : Nat := if s.rows = [] then 0 else s.rows.length - 1 + if s.w = [] then 0 else 1
theorem bound_sp {abc : Wd} {s : CS} (gd : s.Gd abc) {K : List Wd} {M L : Nat} (hL : (s.ps.flatten ++ s.w).length ≤ L) (nd : K.Nodup) (hK : ∀ w, w ∈ K ↔ Ins s.ps w) (hM : ∀ p ∈ s.ps, p.length ≤ M)
    {B : List Wd} (ndB : B.Nodup) (hB : ∀ q ∈ B, q ≠ []) {x y : Wd} (e : s.ps.flatten ++ s.w = x ++ B.flatten ++ y) : B.length ≤ NB s + fillF 0 L (cnts K M) := by
  have h0 : s.ps[0]? = some [] := by rw [gd.ps]; exact txs_zero _
  have hl : s.ps.length = s.rows.length + 1 := by rw [gd.ps]; exact txs_len _
  obtain ⟨ps', hps⟩ : ∃ ps', s.ps = [] :: ps' := by
    cases hq : s.ps with
    | nil => rw [hq] at h0; cases h0
    | cons p r => rw [hq] at h0; cases h0; exact ⟨r, rfl⟩
  -- the parts: the pieces, and the tail if there is one
  have key : ∀ A : List Wd, (∀ a ∈ A, ∃ p ∈ s.ps, a <:+: p) → A ≠ [] → A.flatten = s.ps.flatten ++ s.w → A.length = NB s + 1 → B.length ≤ NB s + fillF 0 L (cnts K M) := by
    intro A hA hne hf hn
    obtain ⟨B1, b1, b2, b3⟩ := cross A B x y hne (by rw [hf]; exact e)
    have hin : ∀ w ∈ B1, w ∈ K := fun w hw => by
      obtain ⟨a, ha, hi⟩ := b2 w hw
      obtain ⟨p, hp, hi2⟩ := hA a ha
      exact (hK w).mpr ⟨hB w (b1.subset hw), p, hp, hi.trans hi2⟩
    have nd1 : B1.Nodup := ndB.sublist b1
    have hsum : (B1.map List.length).sum ≤ L := by
      have h1 : (B1.map List.length).sum ≤ (B.map List.length).sum := sub_sum b1
      rw [← flat_len B] at h1
      rw [e, List.length_append, List.length_append] at hL
      omega
    have hf := fill_opt (cnts K M) 0 L (B1.map List.length) (fun n hn => by
      obtain ⟨w, hw, rfl⟩ := List.mem_map.mp hn
      have := hB w (b1.subset hw)
      have : 0 < w.length := List.length_pos_iff.mpr this
      omega) (fun l hl => by
      have hc : (B1.map List.length).count l = nlen B1 l := by
        unfold nlen
        rw [List.count, List.countP_map, List.countP_eq_length_filter]
        congr 1
      rw [hc]
      by_cases hlM : l - (0 + 1) < M
      · have : (cnts K M).getD (l - (0 + 1)) 0 = nlen K l := by
          unfold cnts
          rw [List.getD_eq_getElem?_getD, List.getElem?_map, List.getElem?_range hlM]
          show nlen K (l - (0 + 1) + 1) = _
          rw [show l - (0 + 1) + 1 = l by omega]
        rw [this]
        exact nlen_le nd1 hin l
      · have : nlen B1 l = 0 := by
          unfold nlen
          rw [List.length_eq_zero_iff, List.filter_eq_nil_iff]
          intro w hw
          obtain ⟨_, p, hp, hi⟩ := (hK w).mp (hin w hw)
          have h1 := hM p hp
          have h2 := hi.length_le
          simp; omega
        rw [this]; exact Nat.zero_le _) hsum
    rw [List.length_map] at hf
    omega
  by_cases hr : s.rows = []
  · have hp1 : ps' = [] := by
      rw [hps, hr] at hl
      exact List.length_eq_zero_iff.mp (by simpa using hl)
    have hw : s.w = [] := by
      have := gd.w
      rw [hps, hp1] at this
      simpa using this
    refine key [s.w] (fun a ha => ⟨s.w, gd.w, by rw [List.mem_singleton.mp ha]; exact List.infix_refl _⟩) (by simp) (by rw [hps, hp1, hw]; rfl) ?_
    unfold NB
    rw [if_pos hr]; rfl
  · have hlp : ps'.length = s.rows.length := by rw [hps] at hl; simpa using hl
    have hpos : 0 < s.rows.length := List.length_pos_iff.mpr hr
    by_cases hw : s.w = []
    · refine key ps' (fun a ha => ⟨a, by rw [hps]; exact List.mem_cons_of_mem _ ha, List.infix_refl _⟩) (fun q => by rw [q] at hlp; simp at hlp; omega) (by rw [hps, hw]; simp) ?_
      unfold NB
      rw [if_neg hr, if_pos hw]; omega
    · refine key (ps' ++ [s.w]) (fun a ha => ?_) (by simp) (by rw [hps]; simp) ?_
      · rcases List.mem_append.mp ha with ha | ha
        · exact ⟨a, by rw [hps]; exact List.mem_cons_of_mem _ ha, List.infix_refl _⟩
        · rw [List.mem_singleton.mp ha]; exact ⟨s.w, gd.w, List.infix_refl _⟩
      · unfold NB
        rw [if_neg hr, if_neg hw, List.length_append, hlp]; simp; omega
/-! a beginning's cut -/
theorem step_rows (s : CS) (c : Nat) : ∃ r, (s.step c).rows = s.rows ++ r := by
  unfold CS.step
  by_cases e : s.w ++ [c] ∈ s.ps
  · rw [if_pos e]; exact ⟨[], by simp⟩
  · rw [if_neg e]; exact ⟨_, rfl⟩
theorem cutC_pre (t u : Wd) : ∃ r, (cutC (t ++ u)).rows = (cutC t).rows ++ r := by
  induction u using snoc_ind with
  | nil => exact ⟨[], by simp⟩
  | snoc u c ih =>
    obtain ⟨r, hr⟩ := ih
    rw [← List.append_assoc, cutC_snoc]
    obtain ⟨q, hq⟩ := step_rows (cutC (t ++ u)) c
    exact ⟨r ++ q, by rw [hq, hr, List.append_assoc]⟩
/-! borders -/
theorem sK_last {ps : List Wd} {k : Nat} (h : k + 1 = ps.length) : sK ps k = ps.flatten.length := by
  unfold sK
  rw [h, List.take_length, flat_len]
theorem sK_zero {ps : List Wd} (h : ps[0]? = some []) : sK ps 0 = 0 := by
  unfold sK
  rw [takeC h]; rfl
theorem CS.Gd.nonempty {abc : Wd} {s : CS} (h : s.Gd abc) {k : Nat} {p : Wd} (hk : s.ps[k + 1]? = some p) : 1 ≤ p.length := by
  by_cases e : p = []
  · subst e
    have h0 : s.ps[0]? = some [] := by rw [h.ps]; exact txs_zero _
    have := nd_get h.nd h0 hk
    omega
  · exact List.length_pos_iff.mpr e
theorem CS.Gd.sK_lt {abc : Wd} {s : CS} (h : s.Gd abc) {k : Nat} (hk : k + 1 < s.ps.length) : sK s.ps k < sK s.ps (k + 1) := by
  obtain ⟨p, hp⟩ : ∃ p, s.ps[k + 1]? = some p := ⟨_, List.getElem?_eq_getElem hk⟩
  have := h.nonempty hp
  rw [sK_succ hp]; omega
theorem CS.Gd.sK_pos {abc : Wd} {s : CS} (h : s.Gd abc) : ∀ {k : Nat}, 1 ≤ k → k < s.ps.length → 1 ≤ sK s.ps k
  | 0, h1, _ => by omega
  | k + 1, _, h2 => by have := h.sK_lt h2; omega
theorem CS.Gd.sK_lt_last {abc : Wd} {s : CS} (h : s.Gd abc) : ∀ (d : Nat) {k : Nat}, k + d + 2 = s.ps.length → sK s.ps k < s.ps.flatten.length
  | 0, k, e => by
    have a := h.sK_lt (k := k) (by omega)
    rw [sK_last (ps := s.ps) (k := k + 1) (by omega)] at a
    exact a
  | d + 1, k, e => by
    have a := h.sK_lt (k := k) (by omega)
    have b := CS.Gd.sK_lt_last h d (k := k + 1) (by omega)
    omega
/-- the starts strictly inside a text are as many as the borders -/
theorem CS.Gd.borders {abc : Wd} {s : CS} (h : s.Gd abc) {L : Nat} (hL : (s.ps.flatten ++ s.w).length = L) : ((sts s.ps).filter fun n => decide (0 < n ∧ n < L)).length = NB s := by
  have hl : s.ps.length = s.rows.length + 1 := by rw [h.ps]; exact txs_len _
  have h0 : s.ps[0]? = some [] := by rw [h.ps]; exact txs_zero _
  have z0 := sK_zero h0
  rw [List.length_append] at hL
  unfold sts
  rw [List.filter_map, List.length_map, hl, List.range_succ_eq_map, List.filter_cons]
  have e0 : ((fun n => decide (0 < n ∧ n < L)) ∘ sK s.ps) 0 = false := by
    show decide (0 < sK s.ps 0 ∧ _) = false
    rw [z0]; exact decide_eq_false (by omega)
  rw [e0]
  rw [if_neg (by decide)]
  rw [List.filter_map, List.length_map]
  unfold NB
  cases hm : s.rows.length with
  | zero =>
    rw [if_pos (List.length_eq_zero_iff.mp hm)]; rfl
  | succ j =>
    rw [if_neg (fun e => by rw [e] at hm; cases hm)]
    rw [List.range_succ, List.filter_append, List.length_append]
    have a1 : (List.range j).filter (((fun n => decide (0 < n ∧ n < L)) ∘ sK s.ps) ∘ Nat.succ) = List.range j := by
      rw [List.filter_eq_self]
      intro k hk
      have hk := List.mem_range.mp hk
      have p1 := h.sK_pos (k := k + 1) (by omega) (by omega)
      have p2 := h.sK_lt_last (j - k - 1) (k := k + 1) (by omega)
      exact decide_eq_true (show 0 < sK s.ps (k + 1) ∧ sK s.ps (k + 1) < L by omega)
    rw [a1, List.length_range]
    have p1 := h.sK_pos (k := j + 1) (by omega) (by omega)
    have p2 := sK_last (ps := s.ps) (k := j + 1) (by omega)
    by_cases hw : s.w = []
    · rw [if_pos hw]
      have : [j].filter (((fun n => decide (0 < n ∧ n < L)) ∘ sK s.ps) ∘ Nat.succ) = [] := by
        rw [List.filter_cons, if_neg]
        · rfl
        · have : ¬ (0 < sK s.ps (j + 1) ∧ sK s.ps (j + 1) < L) := by
            intro q; have hw0 : s.w.length = 0 := (by rw [hw]; rfl); omega
          simpa using this
      rw [this]; simp
    · rw [if_neg hw]
      have hwl := List.length_pos_iff.mpr hw
      have : [j].filter (((fun n => decide (0 < n ∧ n < L)) ∘ sK s.ps) ∘ Nat.succ) = [j] := by
        rw [List.filter_cons, if_pos]
        · rfl
        · exact decide_eq_true (show 0 < sK s.ps (j + 1) ∧ sK s.ps (j + 1) < L by omega)
      rw [this]; simp
end PL
end

section
set_option linter.all false
set_option maxRecDepth 100000
set_option maxHeartbeats 4000000
set_option autoImplicit false
/-! TX: stretches of a text (plain law). -/
namespace PL
open PySem PySem.Spec PyProof.Rows L2
abbrev Pr := Int × Int
def prT (p : Pr) : D := .tup [.int p.1, .int p.2]
def prL (p : Pr) : D := .lst [.int p.1, .int p.2]
def wd (z : Str) (p : Pr) : Str := cutS z (some p.1) (some p.2)
/-- pieces in order, none empty, within n -/
def Ch (n : Int) : Int → List Pr → Prop
  | _, [] => True
  | r, p :: ps => r ≤ p.1 ∧ p.1 < p.2 ∧ p.2 ≤ n ∧ Ch n p.2 ps
def lastE (r : Int) (ps : List Pr) : Int := (ps.getLast?.map (·.2)).getD r
/-- the reading, from reached and seen on -/
def rd (z : Str) : List Pr → Int → List Str → Bool
  | [], _, _ => true
  | p :: ps, r, seen => if p.1 < r ∨ p.2 ≤ p.1 ∨ (z.length : Int) < p.2 then false else if wd z p ∈ seen then false else rd z ps p.2 (seen ++ [wd z p])
theorem rd_cons (z : Str) (p : Pr) (ps : List Pr) (r : Int) (seen : List Str) : rd z (p :: ps) r seen = if p.1 < r ∨ p.2 ≤ p.1 ∨ (z.length : Int) < p.2 then false else if wd z p ∈ seen then false else rd z ps p.2 (seen ++ [wd z p]) := rfl
theorem rd_nil (z : Str) (r : Int) (seen : List Str) : rd z [] r seen = true := rfl
theorem rd_iff (z : Str) : ∀ (ps : List Pr) (r : Int) (seen : List Str), rd z ps r seen = true ↔ Ch z.length r ps ∧ (ps.map (wd z)).Nodup ∧ ∀ w, w ∈ ps.map (wd z) → w ∉ seen
  | [], r, seen => by simp [rd, Ch]
  | p :: ps, r, seen => by
    unfold rd Ch
    rw [List.map_cons, List.nodup_cons]
    by_cases h : p.1 < r ∨ p.2 ≤ p.1 ∨ (z.length : Int) < p.2
    · rw [if_pos h]
      constructor
      · intro e; cases e
      · rintro ⟨⟨a, b, c, _⟩, _⟩; omega
    · rw [if_neg h]
      by_cases hs : wd z p ∈ seen
      · rw [if_pos hs]
        constructor
        · intro e; cases e
        · rintro ⟨_, _, k⟩; exact absurd hs (k _ (List.mem_cons_self ..))
      · rw [if_neg hs, rd_iff z ps p.2 (seen ++ [wd z p])]
        constructor
        · rintro ⟨a, b, c⟩
          refine ⟨⟨by omega, by omega, by omega, a⟩, ⟨fun hm => c _ hm (by simp), b⟩, fun w hw => ?_⟩
          rcases List.mem_cons.mp hw with rfl | hw
          · exact hs
          · exact fun q => c w hw (by simp [q])
        · rintro ⟨⟨a1, a2, a3, a4⟩, ⟨b1, b2⟩, c⟩
          refine ⟨a4, b2, fun w hw q => ?_⟩
          rcases List.mem_append.mp q with q | q
          · exact c w (List.mem_cons_of_mem _ hw) q
          · rw [List.mem_singleton] at q
            subst q; exact b1 hw
theorem rd_true {z : Str} {ps : List Pr} : rd z ps 0 [] = true ↔ Ch z.length 0 ps ∧ (ps.map (wd z)).Nodup := by
  rw [rd_iff]; simp
theorem Ch.weak {n r r' : Int} (h : r' ≤ r) : ∀ {ps : List Pr}, Ch n r ps → Ch n r' ps
  | [], _ => trivial
  | _ :: _, ⟨a, b, c, d⟩ => ⟨by omega, b, c, d⟩
theorem lastE_nil (r : Int) : lastE r [] = r := rfl
theorem lastE_snoc (r : Int) (ps : List Pr) (p : Pr) : lastE r (ps ++ [p]) = p.2 := by simp [lastE]
theorem lastE_cons (r : Int) (p : Pr) (ps : List Pr) : lastE r (p :: ps) = lastE p.2 ps := by
  cases ps with
  | nil => rfl
  | cons q qs => simp [lastE, List.getLast?_cons]
theorem Ch.app {n : Int} : ∀ {r : Int} {ps qs : List Pr}, Ch n r (ps ++ qs) ↔ Ch n r ps ∧ Ch n (lastE r ps) qs
  | r, [], qs => by simp [Ch, lastE]
  | r, p :: ps, qs => by
    rw [List.cons_append, lastE_cons]
    show (r ≤ p.1 ∧ p.1 < p.2 ∧ p.2 ≤ n ∧ Ch n p.2 (ps ++ qs)) ↔ (r ≤ p.1 ∧ p.1 < p.2 ∧ p.2 ≤ n ∧ Ch n p.2 ps) ∧ Ch n (lastE p.2 ps) qs
    rw [Ch.app]
    constructor
    · rintro ⟨a, b, c, d, e⟩; exact ⟨⟨a, b, c, d⟩, e⟩
    · rintro ⟨⟨a, b, c, d⟩, e⟩; exact ⟨a, b, c, d, e⟩
theorem Ch.one {n r : Int} {p : Pr} : Ch n r [p] ↔ r ≤ p.1 ∧ p.1 < p.2 ∧ p.2 ≤ n := by simp [Ch]
theorem Ch.last {n : Int} : ∀ {r : Int} {ps : List Pr}, Ch n r ps → r ≤ lastE r ps ∧ (r ≤ n → lastE r ps ≤ n)
  | r, [], _ => ⟨Int.le_refl _, fun h => h⟩
  | r, p :: ps, ⟨a, b, c, d⟩ => by
    have := Ch.last d
    rw [lastE_cons]
    exact ⟨by omega, fun _ => this.2 c⟩
theorem Ch.mem {n : Int} : ∀ {r : Int} {ps : List Pr}, Ch n r ps → ∀ p ∈ ps, r ≤ p.1 ∧ p.1 < p.2 ∧ p.2 ≤ n ∧ p.2 ≤ lastE r ps
  | r, [], _, p, h => by cases h
  | r, q :: ps, ⟨a, b, c, d⟩, p, h => by
    have hl := Ch.last d
    rw [lastE_cons]
    rcases List.mem_cons.mp h with rfl | h
    · exact ⟨a, b, c, hl.1⟩
    · have := Ch.mem d p h
      exact ⟨by omega, this.2.1, this.2.2.1, this.2.2.2⟩

/-! ### a table of words seen -/
def seenD (ws : List Str) : List (Key × D) := ws.map fun w => (Sum.inr w, D.bl true)
theorem lookD_seen (ws : List Str) (w : Str) : lookD (seenD ws) (Sum.inr w : Key) = if w ∈ ws then some (D.bl true) else none := by
  unfold lookD seenD
  induction ws with
  | nil => rfl
  | cons x ws ih =>
    rw [List.map_cons, List.find?_cons]
    by_cases h : x = w
    · subst h; simp
    · have hd : decide ((Sum.inr x : Key) = Sum.inr w) = false := decide_eq_false fun e => h (Sum.inr.inj e)
      rw [hd]
      show Option.map _ (List.find? _ _) = _
      rw [ih]
      have : ¬ w = x := fun e => h e.symm
      simp [this]
theorem putD_seen (ws : List Str) (w : Str) (h : w ∉ ws) : putD (seenD ws) (Sum.inr w : Key) (D.bl true) = seenD (ws ++ [w]) := by
  unfold putD
  rw [if_neg, seenD, seenD, List.map_append]; rfl
  intro e
  rw [List.any_eq_true] at e
  obtain ⟨kv, hm, e⟩ := e
  unfold seenD at hm
  rw [List.mem_map] at hm
  obtain ⟨x, hx, rfl⟩ := hm
  have e : (Sum.inr x : Key) = Sum.inr w := of_decide_eq_true e
  cases e
  exact h hx
theorem inP_seen {neg : Bool} {w : Str} {ws : List Str} {P : D → Prop} : inP neg (.str w) (.dk (seenD ws)) P = P (.bl (decide (w ∈ ws) != neg)) := by
  refine propext ⟨fun ⟨o, e, h⟩ => ?_, fun h => ⟨_, rfl, ?_⟩⟩
  · have e : some (lookD (seenD ws) (Sum.inr w : Key)) = some o := e
    cases e
    rw [lookD_seen] at h
    split at h
    · rename_i hm; rw [decide_eq_true hm]; exact h
    · rename_i hm; rw [decide_eq_false hm]; exact h
  · show P (.bl ((lookD (seenD ws) (Sum.inr w : Key)).isSome != neg))
    rw [lookD_seen]
    split
    · rename_i hm; rw [decide_eq_true hm] at h; exact h
    · rename_i hm; rw [decide_eq_false hm] at h; exact h
theorem inP_seenF {w : Str} {ws : List Str} {P : D → Prop} : inP false (.str w) (.dk (seenD ws)) P = P (.bl (decide (w ∈ ws))) := by rw [inP_seen, Bool.bne_false]
theorem inP_seenT {w : Str} {ws : List Str} {P : D → Prop} : inP true (.str w) (.dk (seenD ws)) P = P (.bl (!decide (w ∈ ws))) := by rw [inP_seen, Bool.bne_true]
theorem setP_seen {w : Str} {ws : List Str} {P : D → Prop} (h : w ∉ ws) (hl : ws.length < sizeLine) (q : P (.dk (seenD (ws ++ [w])))) : setP (.dk (seenD ws)) (.str w) (.bl true) P :=
  ⟨_, rfl, by unfold seenD; rw [List.length_map]; exact hl, by rw [putD_seen ws w h]; exact q⟩
theorem getD_seen (ws : List Str) : D.dk (seenD ws) = .dk (seenD ws) := rfl

/-! ### == of rows of pairs -/
theorem flats_prL (ps : List Pr) : flats (ps.map prL) = true := by
  induction ps with
  | nil => rfl
  | cons p ps ih => exact ih
theorem toPys_prL (ps : List Pr) : toPys (ps.map prL) = ps.map fun p => PyData.list [.int p.1, .int p.2] := by
  induction ps with
  | nil => rfl
  | cons p ps ih => show PyData.list [.int p.1, .int p.2] :: toPys (ps.map prL) = _; rw [ih]; rfl
theorem lay_prL (ps : List Pr) : PyData.canLayAll0 (ps.map fun p => PyData.list [.int p.1, .int p.2]) = true := by
  induction ps with
  | nil => rfl
  | cons p ps ih => show (PyData.canLay0 (.list [.int p.1, .int p.2]) && PyData.canLayAll0 (ps.map fun p => PyData.list [.int p.1, .int p.2])) = true; rw [ih]; rfl
theorem depth_prL (ps : List Pr) : PyData.depthAll (ps.map fun p => PyData.list [.int p.1, .int p.2]) ≤ 3 := by
  induction ps with
  | nil => simp [PyData.depthAll]
  | cons p ps ih =>
    simp only [List.map_cons, PyData.depthAll, PyData.depth]
    omega
theorem cmpOk_prL (ps : List Pr) : cmpOk (.lst (ps.map prL)) = true := by
  have h1 : flat (.lst (ps.map prL)) = true := flats_prL ps
  have h2 : SeqAt.shaped (toPy (.lst (ps.map prL))) = true := by
    show (PyData.canLay0 (.list (toPys (ps.map prL))) && decide (PyData.depth (.list (toPys (ps.map prL))) ≤ 64)) = true
    rw [toPys_prL, Bool.and_eq_true]
    have := depth_prL ps
    exact ⟨lay_prL ps, decide_eq_true (by simp only [PyData.depth]; omega)⟩
  unfold cmpOk
  rw [h1, h2]; rfl
theorem eqv_prL (ps : List Pr) : PyData.eqv (toPy (.lst (ps.map prL))) (toPy (.lst (ps.map prL))) = true := by
  show PyData.eqvAll (toPys (ps.map prL)) (toPys (ps.map prL)) = true
  rw [toPys_prL]
  induction ps with
  | nil => rfl
  | cons p ps ih => simp only [List.map_cons, PyData.eqvAll, PyData.eqv, ih]; simp

/-! ### the text with a word put in -/
theorem cutS_tl (z : Str) {a b : Int} (h0 : 0 ≤ a) (hab : a ≤ b) (hb : b ≤ z.length) : (cutS z (some a) (some b)).cps.toList = (z.cps.toList.drop a.toNat).take (b.toNat - a.toNat) := by
  obtain ⟨a, rfl⟩ := Int.eq_ofNat_of_zero_le h0
  obtain ⟨b, rfl⟩ := Int.eq_ofNat_of_zero_le (show 0 ≤ b by omega)
  unfold cutS
  rw [HT.sIx_nat, HT.sIx_nat, Nat.min_eq_left (show a ≤ z.length by omega), Nat.min_eq_left (show b ≤ z.length by omega)]
  rfl
theorem cutS_len (z : Str) {a b : Int} (h0 : 0 ≤ a) (hab : a ≤ b) (hb : b ≤ z.length) : ((cutS z (some a) (some b)).length : Int) = b - a := by
  show ((cutS z (some a) (some b)).cps.size : Int) = _
  have hz : z.length = z.cps.toList.length := by simp [Str.length]
  rw [← Array.length_toList, cutS_tl z h0 hab hb, List.length_take, List.length_drop]
  omega
theorem str_len_app (x y : Str) : (x ++ y).length = x.length + y.length := by
  show (x ++ y).cps.size = x.cps.size + y.cps.size
  rw [Str.cps_append, Array.size_append]
section
variable {L W : List Nat} {at_ : Nat}
theorem cut_before (h : at_ ≤ L.length) {a b : Nat} (hab : a ≤ b) (hb : b ≤ at_) : ((L.take at_ ++ W ++ L.drop at_).drop a).take (b - a) = (L.drop a).take (b - a) := by
  apply List.ext_getElem?
  intro i
  rw [List.getElem?_take, List.getElem?_take]
  split
  · rename_i hi
    rw [List.getElem?_drop, List.getElem?_drop, List.append_assoc, List.getElem?_append_left (by rw [List.length_take]; omega), List.getElem?_take, if_pos (by omega)]
  · rfl
theorem cut_after (h : at_ ≤ L.length) {a b : Nat} (ha : at_ ≤ a) (hab : a ≤ b) : ((L.take at_ ++ W ++ L.drop at_).drop (a + W.length)).take ((b + W.length) - (a + W.length)) = (L.drop a).take (b - a) := by
  apply List.ext_getElem?
  intro i
  rw [List.getElem?_take, List.getElem?_take, show b + W.length - (a + W.length) = b - a by omega]
  split
  · rw [List.getElem?_drop, List.getElem?_drop, List.getElem?_append_right (by rw [List.length_append, List.length_take]; omega), List.getElem?_drop, List.length_append, List.length_take]
    congr 1
    omega
  · rfl
theorem cut_in (h : at_ ≤ L.length) : ((L.take at_ ++ W ++ L.drop at_).drop at_).take ((at_ + W.length) - at_) = W := by
  have e : (L.take at_).length = at_ := by rw [List.length_take]; omega
  rw [List.append_assoc, List.drop_append_of_le_length (by omega), List.drop_of_length_le (by omega), List.nil_append, Nat.add_sub_cancel_left, List.take_append_of_le_length (Nat.le_refl _), List.take_length]
end
/-! ### lengths -/
theorem joinL_nil (ps : List (List Nat)) : TL.joinL [] ps = ps.flatten := by
  induction ps with
  | nil => rfl
  | cons p ps ih =>
    cases ps with
    | nil => simp [TL.joinL]
    | cons q qs =>
      show p ++ ([] ++ TL.joinL [] (q :: qs)) = _
      rw [ih]; simp
theorem join_len (ys : List Str) : (Txt.join (Str.ofString "") ys).length = (ys.map (·.length)).sum := by
  have e : (Txt.join (Str.ofString "") ys).cps.toList = (ys.map TL.tl).flatten := by
    rw [TL.join_eq]
    show TL.tl (Str.join (Str.ofString "") ys) = _
    rw [TL.tl_join, str_e]
    exact joinL_nil _
  show (Txt.join (Str.ofString "") ys).cps.size = _
  rw [← Array.length_toList, e, List.length_flatten, List.map_map]
  congr 1
theorem cutS_le (z : Str) (lo hi : Option Int) : (cutS z lo hi).length ≤ z.length := by
  show (cutS z lo hi).cps.size ≤ z.cps.size
  unfold cutS
  rw [List.size_toArray, List.length_take, List.length_drop, Array.length_toList]
  omega
theorem cutS_to (z : Str) (b : Nat) : (cutS z none (some (b : Int))).length = min b z.length := by
  show (cutS z none (some (b : Int))).cps.size = _
  unfold cutS
  rw [List.size_toArray, List.length_take, List.length_drop, Array.length_toList, HT.sIx_none, HT.sIx_nat]
  show min (min b z.length - 0) (z.length - 0) = min b z.length
  omega
theorem flats_strs (ns : List Str) : flats (ns.map D.str) = true := by
  induction ns with
  | nil => rfl
  | cons n ns ih => exact ih
theorem toPys_strs (ns : List Str) : toPys (ns.map D.str) = ns.map PyData.str := by
  induction ns with
  | nil => rfl
  | cons n ns ih => show PyData.str n :: toPys (ns.map D.str) = _; rw [ih]; rfl
theorem sum_same {α : Type} (f : α → Nat) (c : Nat) (xs : List α) (h : ∀ x ∈ xs, f x = c) : (xs.map f).sum = xs.length * c := by
  induction xs with
  | nil => simp
  | cons x xs ih =>
    rw [List.map_cons, List.sum_cons, ih fun y hy => h y (List.mem_cons_of_mem _ hy), h x (List.mem_cons_self ..), List.length_cons, Nat.succ_mul]
    omega
theorem sum_le' {α : Type} (f : α → Nat) (c : Nat) (xs : List α) (h : ∀ x ∈ xs, f x ≤ c) : (xs.map f).sum ≤ xs.length * c := by
  induction xs with
  | nil => simp
  | cons x xs ih =>
    have a := ih fun y hy => h y (List.mem_cons_of_mem _ hy)
    have b := h x (List.mem_cons_self ..)
    rw [List.map_cons, List.sum_cons, List.length_cons, Nat.succ_mul]
    omega
end PL
end

section
set_option linter.all false
set_option maxRecDepth 100000
set_option maxHeartbeats 4000000
set_option autoImplicit false
/-! SP2: words behind one another with gaps, one change, the bound; the square of the fill (plain law). -/
namespace PL
open PySem PySem.Spec PyProof.Rows L2
/-- words that stand behind one another in a text, with gaps -/
def Occ : List Wd → Wd → Prop
  | [], _ => True
  | b :: B, t => ∃ g r, t = g ++ b ++ r ∧ Occ B r
theorem Occ.pre (z : Wd) : ∀ {B : List Wd} {t : Wd}, Occ B t → Occ B (z ++ t)
  | [], _, _ => trivial
  | _ :: _, _, ⟨g, r, e, h⟩ => ⟨z ++ g, r, by rw [e]; simp, h⟩
theorem Occ.len : ∀ {B : List Wd} {t : Wd}, Occ B t → (B.map List.length).sum ≤ t.length
  | [], _, _ => Nat.zero_le _
  | b :: B, t, ⟨g, r, e, h⟩ => by
    have := Occ.len h
    rw [e, List.map_cons, List.sum_cons, List.length_append, List.length_append]; omega
theorem Occ.flat : ∀ (B : List Wd) (x y : Wd), Occ B (x ++ B.flatten ++ y)
  | [], _, _ => trivial
  | b :: B, x, y => ⟨x, B.flatten ++ y, by simp, by simpa using Occ.flat B [] y⟩
/-- one place of at most one letter is changed: all words but one stay -/
theorem Occ.step : ∀ (B : List Wd) (p a c q : Wd), c.length ≤ 1 → Occ B (p ++ c ++ q) → ∃ B', B'.Sublist B ∧ Occ B' (p ++ a ++ q) ∧ B.length ≤ B'.length + 1
  | [], _, _, _, _, _, _ => ⟨[], List.Sublist.refl _, trivial, Nat.zero_le _⟩
  | b :: B, p, a, c, q, hc, ⟨g, r, e, h⟩ => by
    by_cases hl : (g ++ b).length ≤ p.length
    · obtain ⟨p', e1, e2⟩ := cat_short (a := p) (r := c ++ q) (x := g ++ b) (z := r) (by rw [← List.append_assoc]; exact e) hl
      rw [e2] at h
      obtain ⟨B', h1, h2, h3⟩ := Occ.step B p' a c q hc (by rw [List.append_assoc]; exact h)
      refine ⟨b :: B', h1.cons_cons _, ⟨g, p' ++ a ++ q, by rw [e1]; simp, h2⟩, by rw [List.length_cons, List.length_cons]; omega⟩
    · obtain ⟨s, e1, e2⟩ := cat_short (a := g ++ b) (r := r) (x := p ++ c) (z := q) e.symm (by rw [List.length_append]; omega)
      refine ⟨B, List.sublist_cons_self .., ?_, by rw [List.length_cons]; omega⟩
      rw [e2, ← List.append_assoc]
      exact Occ.pre _ h
theorem Occ.split : ∀ (B : List Wd) (a r : Wd), Occ B (a ++ r) → ∃ B0 B3, (B = B0 ++ B3 ∨ ∃ q, B = B0 ++ q :: B3) ∧ (∀ w ∈ B0, w <:+: a) ∧ Occ B3 r
  | [], _, _, _ => ⟨[], [], .inl rfl, by simp, trivial⟩
  | b :: B, a, r, ⟨g, s, e, h⟩ => by
    by_cases hl : (g ++ b).length ≤ a.length
    · obtain ⟨a', e1, e2⟩ := cat_short e hl
      rw [e2] at h
      obtain ⟨B0, B3, h1, h2, h3⟩ := Occ.split B a' r h
      refine ⟨b :: B0, B3, ?_, fun w hw => ?_, h3⟩
      · rcases h1 with rfl | ⟨q, rfl⟩
        · exact .inl rfl
        · exact .inr ⟨q, rfl⟩
      · rcases List.mem_cons.mp hw with rfl | hw
        · exact ⟨g, a', e1.symm⟩
        · exact (h2 w hw).trans ⟨g ++ b, [], by rw [e1]; simp⟩
    · obtain ⟨d, e1, e2⟩ := cat_short e.symm (by omega)
      exact ⟨[], B, .inr ⟨b, rfl⟩, by simp, by rw [e2]; exact Occ.pre _ h⟩
theorem crossO : ∀ (A B : List Wd) (t : Wd), A ≠ [] → A.flatten = t → Occ B t → ∃ B1 : List Wd, B1.Sublist B ∧ (∀ q ∈ B1, ∃ a ∈ A, q <:+: a) ∧ B.length + 1 ≤ B1.length + A.length
  | [], _, _, h, _, _ => absurd rfl h
  | [a], B, t, _, e, h => by
    have e : a = t := by simpa using e
    subst e
    refine ⟨B, List.Sublist.refl _, ?_, Nat.le_refl _⟩
    have : ∀ (B : List Wd) (t : Wd), Occ B t → ∀ q ∈ B, q <:+: t := by
      intro B
      induction B with
      | nil => intro t _ q hq; cases hq
      | cons b B ih =>
        rintro t ⟨g, r, rfl, h⟩ q hq
        rcases List.mem_cons.mp hq with rfl | hq
        · exact ⟨g, r, rfl⟩
        · exact (ih r h q hq).trans ⟨g ++ b, [], by simp⟩
    exact fun q hq => ⟨a, List.mem_singleton.mpr rfl, this B a h q hq⟩
  | a :: b :: A, B, t, _, e, h => by
    have e : a ++ (b :: A).flatten = t := by rw [← e]; rfl
    rw [← e] at h
    obtain ⟨B0, B3, h1, h2, h3⟩ := Occ.split B a _ h
    obtain ⟨C1, c1, c2, c3⟩ := crossO (b :: A) B3 _ (by simp) rfl h3
    refine ⟨B0 ++ C1, ?_, fun w hw => ?_, ?_⟩
    · rcases h1 with rfl | ⟨q, rfl⟩
      · exact List.Sublist.append (List.Sublist.refl _) c1
      · exact List.Sublist.append (List.Sublist.refl _) (List.Sublist.cons _ c1)
    · rcases List.mem_append.mp hw with hw | hw
      · exact ⟨a, List.mem_cons_self .., h2 w hw⟩
      · obtain ⟨a', ha, hi⟩ := c2 w hw
        exact ⟨a', List.mem_cons_of_mem _ ha, hi⟩
    · have : B.length ≤ B0.length + B3.length + 1 := by
        rcases h1 with rfl | ⟨q, rfl⟩ <;> simp only [List.length_append, List.length_cons] <;> omega
      rw [List.length_append]
      rw [List.length_cons] at c3 ⊢
      rw [List.length_cons]
      omega
/-- words that are all inside: no more than the fill -/
theorem fill_of {s : CS} {K B1 : List Wd} {M L : Nat} (hK : ∀ w, w ∈ K ↔ Ins s.ps w) (hM : ∀ p ∈ s.ps, p.length ≤ M) (nd1 : B1.Nodup) (hin : ∀ w ∈ B1, w ∈ K) (hsum : (B1.map List.length).sum ≤ L) : B1.length ≤ fillF 0 L (cnts K M) := by
  have hf := fill_opt (cnts K M) 0 L (B1.map List.length) (fun n hn => by
    obtain ⟨w, hw, rfl⟩ := List.mem_map.mp hn
    have := List.length_pos_iff.mpr ((hK w).mp (hin w hw)).1
    omega) (fun l hl => by
    have hc : (B1.map List.length).count l = nlen B1 l := by
      unfold nlen
      rw [List.count, List.countP_map, List.countP_eq_length_filter]
      congr 1
    rw [hc]
    by_cases hlM : l - (0 + 1) < M
    · have : (cnts K M).getD (l - (0 + 1)) 0 = nlen K l := by
        unfold cnts
        rw [List.getD_eq_getElem?_getD, List.getElem?_map, List.getElem?_range hlM]
        show nlen K (l - (0 + 1) + 1) = _
        rw [show l - (0 + 1) + 1 = l by omega]
      rw [this]
      exact nlen_le nd1 hin l
    · have : nlen B1 l = 0 := by
        unfold nlen
        rw [List.length_eq_zero_iff, List.filter_eq_nil_iff]
        intro w hw
        obtain ⟨_, p, hp, hi⟩ := (hK w).mp (hin w hw)
        have h1 := hM p hp
        have h2 := hi.length_le
        simp; omega
      rw [this]; exact Nat.zero_le _) hsum
  rw [List.length_map] at hf
  exact hf
/-- the parts of a cut: pieces and the tail -/
theorem parts_of {abc : Wd} {s : CS} (gd : s.Gd abc) : ∃ A : List Wd, (∀ a ∈ A, ∃ p ∈ s.ps, a <:+: p) ∧ A ≠ [] ∧ A.flatten = s.ps.flatten ++ s.w ∧ A.length = NB s + 1 := by
  have h0 : s.ps[0]? = some [] := by rw [gd.ps]; exact txs_zero _
  have hl : s.ps.length = s.rows.length + 1 := by rw [gd.ps]; exact txs_len _
  obtain ⟨ps', hps⟩ : ∃ ps', s.ps = [] :: ps' := by
    cases hq : s.ps with
    | nil => rw [hq] at h0; cases h0
    | cons p r => rw [hq] at h0; cases h0; exact ⟨r, rfl⟩
  by_cases hr : s.rows = []
  · have hp1 : ps' = [] := by
      rw [hps, hr] at hl
      exact List.length_eq_zero_iff.mp (by simpa using hl)
    have hw : s.w = [] := by
      have := gd.w
      rw [hps, hp1] at this
      simpa using this
    refine ⟨[s.w], fun a ha => ⟨s.w, gd.w, by rw [List.mem_singleton.mp ha]; exact List.infix_refl _⟩, by simp, by rw [hps, hp1, hw]; rfl, ?_⟩
    unfold NB
    rw [if_pos hr]; rfl
  · have hlp : ps'.length = s.rows.length := by rw [hps] at hl; simpa using hl
    have hpos : 0 < s.rows.length := List.length_pos_iff.mpr hr
    by_cases hw : s.w = []
    · refine ⟨ps', fun a ha => ⟨a, by rw [hps]; exact List.mem_cons_of_mem _ ha, List.infix_refl _⟩, fun q => by rw [q] at hlp; simp at hlp; omega, by rw [hps, hw]; simp, ?_⟩
      unfold NB
      rw [if_neg hr, if_pos hw]; omega
    · refine ⟨ps' ++ [s.w], fun a ha => ?_, by simp, by rw [hps]; simp, ?_⟩
      · rcases List.mem_append.mp ha with ha | ha
        · exact ⟨a, by rw [hps]; exact List.mem_cons_of_mem _ ha, List.infix_refl _⟩
        · rw [List.mem_singleton.mp ha]; exact ⟨s.w, gd.w, List.infix_refl _⟩
      · unfold NB
        rw [if_neg hr, if_neg hw, List.length_append, hlp]; simp; omega
theorem bound_occ {abc : Wd} {s : CS} (gd : s.Gd abc) {K : List Wd} {M L : Nat} (hL : (s.ps.flatten ++ s.w).length ≤ L) (hK : ∀ w, w ∈ K ↔ Ins s.ps w) (hM : ∀ p ∈ s.ps, p.length ≤ M)
    {B : List Wd} (ndB : B.Nodup) (hB : ∀ q ∈ B, q ≠ []) (e : Occ B (s.ps.flatten ++ s.w)) : B.length ≤ NB s + fillF 0 L (cnts K M) := by
  obtain ⟨A, hA, hne, hf, hn⟩ := parts_of gd
  obtain ⟨B1, b1, b2, b3⟩ := crossO A B _ hne hf e
  have hin : ∀ w ∈ B1, w ∈ K := fun w hw => by
    obtain ⟨a, ha, hi⟩ := b2 w hw
    obtain ⟨p, hp, hi2⟩ := hA a ha
    exact (hK w).mpr ⟨hB w (b1.subset hw), p, hp, hi.trans hi2⟩
  have h1 : (B1.map List.length).sum ≤ (B.map List.length).sum := sub_sum b1
  have := fill_of hK hM (ndB.sublist b1) hin (L := L) (Nat.le_trans h1 (Nat.le_trans e.len hL))
  omega
theorem fill_le : ∀ (cs : List Nat) (i left : Nat), fillF i left cs ≤ left
  | [], i, left => Nat.zero_le _
  | c :: cs, i, left => by
    have ih := fill_le cs (i + 1) (left - min c (left / (i + 1)) * (i + 1))
    show min c (left / (i + 1)) + fillF (i + 1) (left - min c (left / (i + 1)) * (i + 1)) cs ≤ left
    have hx2 : min c (left / (i + 1)) * (i + 1) ≤ left := Nat.le_trans (Nat.mul_le_mul_right _ (Nat.min_le_right ..)) (Nat.div_mul_le_self ..)
    have : min c (left / (i + 1)) ≤ min c (left / (i + 1)) * (i + 1) := Nat.le_mul_of_pos_right _ (Nat.succ_pos _)
    omega
/-- the square of the fill -/
theorem fill_sq {m : Nat} : ∀ (cs : List Nat) (i left : Nat), (∀ c ∈ cs, c ≤ m) → fillF i left cs * fillF i left cs + 2 * m * (i * fillF i left cs) ≤ 2 * m * left
  | [], i, left, _ => by
    show 0 * 0 + 2 * m * (i * 0) ≤ _
    simp
  | c :: cs, i, left, h => by
    have hc := h c (List.mem_cons_self ..)
    have ih := fill_sq cs (i + 1) (left - min c (left / (i + 1)) * (i + 1)) fun x hx => h x (List.mem_cons_of_mem _ hx)
    show (min c (left / (i + 1)) + fillF (i + 1) (left - min c (left / (i + 1)) * (i + 1)) cs) * (min c (left / (i + 1)) + fillF (i + 1) (left - min c (left / (i + 1)) * (i + 1)) cs) + 2 * m * (i * (min c (left / (i + 1)) + fillF (i + 1) (left - min c (left / (i + 1)) * (i + 1)) cs)) ≤ 2 * m * left
    have hx : min c (left / (i + 1)) ≤ m := Nat.le_trans (Nat.min_le_left ..) hc
    have hx2 : min c (left / (i + 1)) * (i + 1) ≤ left := Nat.le_trans (Nat.mul_le_mul_right _ (Nat.min_le_right ..)) (Nat.div_mul_le_self ..)
    generalize min c (left / (i + 1)) = x at *
    obtain ⟨d, rfl⟩ := Nat.exists_eq_add_of_le hx
    obtain ⟨l', hl'⟩ := Nat.exists_eq_add_of_le hx2
    subst hl'
    rw [Nat.add_sub_cancel_left] at *
    generalize fillF (i + 1) l' cs = n at *
    have e : 2 * (x + d) * (x * (i + 1) + l') = (2 * (x + d) * l') + 2 * (x + d) * (x * (i + 1)) := by grind
    have e2 : (n * n + 2 * (x + d) * ((i + 1) * n)) + 2 * (x + d) * (x * (i + 1)) = ((x + n) * (x + n) + 2 * (x + d) * (i * (x + n))) + (x * x + 2 * (d * x) + 2 * (d * n)) := by grind
    omega
theorem nlen_rows {abc : Wd} {s : CS} (gd : s.Gd abc) {K : List Wd} (nd : K.Nodup) (hK : ∀ w, w ∈ K ↔ Ins s.ps w) (l : Nat) : nlen K (l + 1) ≤ s.rows.length := by
  have h0 : s.ps[0]? = some [] := by rw [gd.ps]; exact txs_zero _
  have hl : s.ps.length = s.rows.length + 1 := by rw [gd.ps]; exact txs_len _
  obtain ⟨ps', hps⟩ : ∃ ps', s.ps = [] :: ps' := by
    cases hq : s.ps with
    | nil => rw [hq] at h0; cases h0
    | cons p r => rw [hq] at h0; cases h0; exact ⟨r, rfl⟩
  have := nodup_sub' (l := K.filter fun w => decide (w.length = l + 1)) (m := ps'.map fun p => p.drop (p.length - (l + 1))) (nd.sublist List.filter_sublist) fun w hw => by
    obtain ⟨h1, h2⟩ := List.mem_filter.mp hw
    have h2 : w.length = l + 1 := of_decide_eq_true h2
    obtain ⟨p, hp, hs⟩ := gd.suffix ((hK w).mp h1)
    have hp : p ∈ ps' := by
      rw [hps] at hp
      rcases List.mem_cons.mp hp with rfl | hp
      · have := hs.length_le; rw [List.length_nil] at this; omega
      · exact hp
    exact List.mem_map.mpr ⟨p, hp, by rw [← h2]; exact (List.suffix_iff_eq_drop.mp hs).symm⟩
  rw [List.length_map] at this
  rw [hps, List.length_cons] at hl
  unfold nlen
  omega
/-- stretches with gaps stand behind one another -/
theorem ch_occ {t : Wd} : ∀ {ps : List Pr} {r : Nat}, Ch (t.length : Nat) (r : Int) ps → Occ (ps.map fun p => (t.drop p.1.toNat).take (p.2.toNat - p.1.toNat)) (t.drop r)
  | [], _, _ => trivial
  | p :: ps, r, h => by
    obtain ⟨h1, h2, h3, h4⟩ := h
    obtain ⟨b, hb⟩ : ∃ b : Nat, p.2 = (b : Int) := ⟨p.2.toNat, by omega⟩
    obtain ⟨a, ha⟩ : ∃ a : Nat, p.1 = (a : Int) := ⟨p.1.toNat, by omega⟩
    rw [hb] at h4 h2 h3
    rw [ha] at h1 h2
    refine ⟨(t.drop r).take (a - r), t.drop b, ?_, ch_occ h4⟩
    show t.drop r = (t.drop r).take (a - r) ++ (t.drop p.1.toNat).take (p.2.toNat - p.1.toNat) ++ t.drop b
    rw [ha, hb, Int.toNat_natCast, Int.toNat_natCast]
    have e1 : t.drop r = (t.drop r).take (a - r) ++ t.drop a := by
      conv => lhs; rw [← List.take_append_drop (a - r) (t.drop r)]
      rw [List.drop_drop, show r + (a - r) = a by omega]
    have e2 : t.drop a = (t.drop a).take (b - a) ++ t.drop b := by
      conv => lhs; rw [← List.take_append_drop (b - a) (t.drop a)]
      rw [List.drop_drop, show a + (b - a) = b by omega]
    conv => lhs; rw [e1, e2]
    rw [List.append_assoc]
end PL
end

section
set_option autoImplicit false
set_option linter.all false
/-! WC: the letters of the shortest texts (k06): the i-th text in order has ln b i letters, n of them have tot b n together. -/
namespace WC
/-- how many texts have 1 to w letters -/
def cum (b : Nat) : Nat → Nat
  | 0 => 0
  | w + 1 => cum b w + b ^ (w + 1)
theorem cum_lt {b : Nat} (hb : 1 ≤ b) (w : Nat) : cum b w < cum b (w + 1) := by
  have : 0 < b ^ (w + 1) := Nat.pow_pos hb
  show cum b w < cum b w + b ^ (w + 1)
  omega
theorem cum_mono {b : Nat} (hb : 1 ≤ b) {v w : Nat} (h : v ≤ w) : cum b v ≤ cum b w := by
  induction w with
  | zero => have : v = 0 := by omega
            subst this; exact Nat.le_refl _
  | succ w ih =>
    by_cases e : v = w + 1
    · subst e; exact Nat.le_refl _
    · exact Nat.le_trans (ih (by omega)) (Nat.le_of_lt (cum_lt hb w))
theorem le_cum {b : Nat} (hb : 1 ≤ b) (w : Nat) : w ≤ cum b w := by
  induction w with
  | zero => exact Nat.le_refl _
  | succ w ih => have := cum_lt hb w; omega
theorem cum_step (b w : Nat) : cum b (w + 1) = b * (1 + cum b w) := by
  induction w with
  | zero => show 0 + b ^ 1 = b * (1 + 0); rw [Nat.pow_one]; omega
  | succ w ih =>
    show cum b (w + 1) + b ^ (w + 2) = b * (1 + (cum b w + b ^ (w + 1)))
    rw [ih, Nat.pow_succ b (w + 1), Nat.mul_comm (b ^ (w + 1)) b]
    simp only [Nat.mul_add]
    omega
theorem pow_le_cum (b w : Nat) (h : 1 ≤ w) : b ^ w ≤ cum b w := by
  obtain ⟨v, rfl⟩ : ∃ v, w = v + 1 := ⟨w - 1, by omega⟩
  show b ^ (v + 1) ≤ cum b v + b ^ (v + 1)
  omega
/-- the least w with k <= cum b w -/
def Ln (b k w : Nat) : Prop := k ≤ cum b w ∧ ∀ v, v < w → cum b v < k
theorem Ln.uniq {b k v w : Nat} (h1 : Ln b k v) (h2 : Ln b k w) : v = w := by
  by_cases a : v < w
  · have := h2.2 v a; have := h1.1; omega
  · by_cases c : w < v
    · have := h1.2 w c; have := h2.1; omega
    · omega
def lnF (b k : Nat) : Nat → Nat → Nat
  | 0, w => w
  | f + 1, w => if k ≤ cum b w then w else lnF b k f (w + 1)
theorem lnF_ok {b k : Nat} : ∀ f w, (∀ v, v < w → cum b v < k) → k ≤ cum b (w + f) → Ln b k (lnF b k f w)
  | 0, w, h1, h2 => ⟨h2, h1⟩
  | f + 1, w, h1, h2 => by
    unfold lnF
    split
    · rename_i h; exact ⟨h, h1⟩
    · rename_i h
      refine lnF_ok f (w + 1) (fun v hv => ?_) (by rw [show w + 1 + f = w + (f + 1) by omega]; exact h2)
      by_cases e : v = w
      · subst e; omega
      · exact h1 v (by omega)
def ln (b k : Nat) : Nat := lnF b k k 0
theorem ln_ok {b : Nat} (hb : 1 ≤ b) (k : Nat) : Ln b k (ln b k) := lnF_ok k 0 (fun v hv => by omega) (by rw [Nat.zero_add]; exact le_cum hb k)
theorem ln_eq {b k w : Nat} (hb : 1 ≤ b) (h : Ln b k w) : ln b k = w := (ln_ok hb k).uniq h
theorem ln_at {b k w : Nat} (hb : 1 ≤ b) (h1 : cum b w < k) (h2 : k ≤ cum b (w + 1)) : ln b k = w + 1 :=
  ln_eq hb ⟨h2, fun v hv => Nat.lt_of_le_of_lt (cum_mono hb (show v ≤ w by omega)) h1⟩
theorem ln_zero {b : Nat} (hb : 1 ≤ b) : ln b 0 = 0 := ln_eq hb ⟨Nat.zero_le _, fun v hv => by omega⟩
theorem ln_pos {b k : Nat} (hb : 1 ≤ b) (hk : 1 ≤ k) : 1 ≤ ln b k := by
  by_cases h : ln b k = 0
  · have := (ln_ok hb k).1
    rw [h] at this
    have : cum b 0 = 0 := rfl
    omega
  · omega
theorem ln_ge {b k w : Nat} (hb : 1 ≤ b) (h : cum b w < k) : w + 1 ≤ ln b k := by
  by_cases c : w < ln b k
  · exact c
  · have := (ln_ok hb k).1
    have := cum_mono hb (show ln b k ≤ w by omega)
    omega
theorem ln_child {b : Nat} (hb : 1 ≤ b) (a j : Nat) (hj : j < b) : ln b (b * a + 1 + j) = ln b a + 1 := by
  obtain ⟨h1, h2⟩ := ln_ok hb a
  refine ln_eq hb ⟨?_, fun v hv => ?_⟩
  · rw [cum_step]
    have := Nat.mul_le_mul_left b h1
    rw [Nat.mul_add]
    omega
  · cases v with
    | zero => show 0 < _; omega
    | succ v =>
      rw [cum_step, Nat.mul_add]
      have h3 := h2 v (by omega)
      have := Nat.mul_le_mul_left b (show cum b v + 1 ≤ a from h3)
      rw [Nat.mul_add] at this
      omega
theorem cum_one (w : Nat) : cum 1 w = w := by
  induction w with
  | zero => rfl
  | succ w ih => show cum 1 w + 1 ^ (w + 1) = w + 1; rw [ih, Nat.one_pow]
theorem ln_one (k : Nat) : ln 1 k = k := ln_eq (Nat.le_refl _) ⟨by rw [cum_one]; exact Nat.le_refl _, fun v hv => by rw [cum_one]; exact hv⟩
theorem cum_base {b : Nat} (hb : 1 ≤ b) (w : Nat) : w ≤ cum b w := le_cum hb w
theorem ln_le {b : Nat} (hb : 1 ≤ b) (k : Nat) : ln b k ≤ k := by
  by_cases h : ln b k ≤ k
  · exact h
  · have := (ln_ok hb k).2 k (by omega)
    have := le_cum hb k
    omega
/-- the letters of the first n texts -/
def tot (b : Nat) : Nat → Nat
  | 0 => 0
  | n + 1 => tot b n + ln b (n + 1)
theorem tot_lt {b : Nat} (hb : 1 ≤ b) (n : Nat) : tot b n < tot b (n + 1) := by
  have := ln_pos hb (show 1 ≤ n + 1 by omega)
  show tot b n < tot b n + ln b (n + 1)
  omega
theorem tot_mono {b : Nat} (hb : 1 ≤ b) {m n : Nat} (h : m ≤ n) : tot b m ≤ tot b n := by
  induction n with
  | zero => have : m = 0 := by omega
            subst this; exact Nat.le_refl _
  | succ n ih =>
    by_cases e : m = n + 1
    · subst e; exact Nat.le_refl _
    · exact Nat.le_trans (ih (by omega)) (Nat.le_of_lt (tot_lt hb n))
theorem le_tot {b : Nat} (hb : 1 ≤ b) (n : Nat) : n ≤ tot b n := by
  induction n with
  | zero => exact Nat.le_refl _
  | succ n ih => have := tot_lt hb n; omega
/-- r more texts of w + 1 letters -/
theorem tot_more {b : Nat} (hb : 1 ≤ b) {w m : Nat} (h0 : cum b w ≤ m) : ∀ r, m + r ≤ cum b (w + 1) → tot b (m + r) = tot b m + (w + 1) * r
  | 0, _ => by simp
  | r + 1, h => by
    have ih := tot_more hb h0 r (by omega)
    show tot b (m + r) + ln b (m + r + 1) = _
    rw [ih, ln_at hb (w := w) (by omega) (by omega), Nat.mul_add]
    omega
theorem tot_one (n : Nat) : 2 * tot 1 n = n * (n + 1) := by
  induction n with
  | zero => rfl
  | succ n ih =>
    show 2 * (tot 1 n + ln 1 (n + 1)) = _
    rw [Nat.mul_add, ih, ln_one]
    simp only [Nat.mul_add, Nat.add_mul]
    omega
theorem tot_le_one {b : Nat} (hb : 1 ≤ b) (n : Nat) : tot b n ≤ tot 1 n := by
  induction n with
  | zero => exact Nat.le_refl _
  | succ n ih =>
    show tot b n + ln b (n + 1) ≤ tot 1 n + ln 1 (n + 1)
    have := ln_le hb (n + 1)
    rw [ln_one]
    omega
/-- the greatest count for a length -/
def Gs (b L n : Nat) : Prop := tot b n ≤ L ∧ L < tot b (n + 1)
theorem Gs.uniq {b L m n : Nat} (hb : 1 ≤ b) (h1 : Gs b L m) (h2 : Gs b L n) : m = n := by
  by_cases a : m < n
  · have := tot_mono hb (show m + 1 ≤ n from a); have := h1.2; have := h2.1; omega
  · by_cases c : n < m
    · have := tot_mono hb (show n + 1 ≤ m from c); have := h2.2; have := h1.1; omega
    · omega
theorem Gs.at_ {b n : Nat} (hb : 1 ≤ b) : Gs b (tot b n) n := ⟨Nat.le_refl _, tot_lt hb n⟩
theorem Gs.pred {b n : Nat} (hb : 1 ≤ b) (h : 1 ≤ tot b n) : Gs b (tot b n - 1) (n - 1) := by
  cases n with
  | zero => have : tot b 0 = 0 := rfl
            omega
  | succ n =>
    have := tot_lt hb n
    exact ⟨by show tot b n ≤ _; omega, by show _ < tot b (n + 1); omega⟩
theorem Gs.le {b L n : Nat} (hb : 1 ≤ b) (h : Gs b L n) : n ≤ L := Nat.le_trans (le_tot hb n) h.1
theorem Gs.mono {b L m n : Nat} (hb : 1 ≤ b) (h1 : Gs 1 L m) (h : Gs b L n) : m ≤ n := by
  by_cases c : n < m
  · have a1 := tot_mono (Nat.le_refl 1) (show n + 1 ≤ m from c)
    have a2 := tot_le_one hb (n + 1)
    have := h1.1; have := h.2
    omega
  · omega
/-- the last part: as many texts of w + 1 letters as the letters left make -/
theorem Gs.of {b L w : Nat} (hb : 1 ≤ b) (h1 : tot b (cum b w) ≤ L) (h2 : L - tot b (cum b w) < b ^ (w + 1) * (w + 1)) : Gs b L (cum b w + (L - tot b (cum b w)) / (w + 1)) := by
  have hq : (L - tot b (cum b w)) / (w + 1) < b ^ (w + 1) := by
    rw [Nat.div_lt_iff_lt_mul (by omega)]; exact h2
  have hc : cum b (w + 1) = cum b w + b ^ (w + 1) := rfl
  have e1 := tot_more hb (Nat.le_refl (cum b w)) ((L - tot b (cum b w)) / (w + 1)) (by omega)
  have e2 := tot_more hb (Nat.le_refl (cum b w)) ((L - tot b (cum b w)) / (w + 1) + 1) (by omega)
  have d1 := Nat.div_mul_le_self (L - tot b (cum b w)) (w + 1)
  have d2 := Nat.lt_div_mul_add (a := L - tot b (cum b w)) (show 0 < w + 1 by omega)
  rw [Nat.mul_comm] at d1 d2
  refine ⟨?_, ?_⟩
  · rw [e1]; omega
  · rw [Nat.add_assoc, e2, Nat.mul_add]; omega
theorem bound {b L n d : Nat} (hb : 1 ≤ b) (h : Gs b L n) (hd : 1 ≤ d) : n ≤ L / d + cum b (d - 1) := by
  by_cases c : n ≤ cum b (d - 1)
  · exact Nat.le_trans c (Nat.le_add_left _ _)
  · have key : ∀ r, d * r ≤ tot b (cum b (d - 1) + r) := by
      intro r
      induction r with
      | zero => simp
      | succ r ih =>
        show _ ≤ tot b (cum b (d - 1) + r) + ln b (cum b (d - 1) + r + 1)
        have := ln_ge hb (w := d - 1) (k := cum b (d - 1) + r + 1) (by omega)
        rw [Nat.mul_add]
        omega
    have k1 := key (n - cum b (d - 1))
    rw [show cum b (d - 1) + (n - cum b (d - 1)) = n by omega] at k1
    have := h.1
    have : n - cum b (d - 1) ≤ L / d := by
      rw [Nat.le_div_iff_mul_le (by omega), Nat.mul_comm]; omega
    omega
/-- the least count is the greatest count of one letter -/
theorem least_gs {L n : Nat} (h1 : 2 * L ≤ n * (n + 3)) (h2 : n = 0 ∨ (n - 1) * (n + 2) < 2 * L) : Gs 1 L n := by
  have t1 := tot_one n
  have t2 := tot_one (n + 1)
  have e1 : n * (n + 3) = n * (n + 1) + 2 * n := by simp only [Nat.mul_add]; omega
  have e2 : (n + 1) * (n + 1 + 1) = n * (n + 1) + 2 * n + 2 := by simp only [Nat.mul_add, Nat.add_mul]; omega
  refine ⟨?_, by omega⟩
  rcases h2 with h2 | h2
  · subst h2; exact Nat.zero_le _
  · obtain ⟨m, rfl⟩ : ∃ m, n = m + 1 := by
      refine ⟨n - 1, ?_⟩
      by_cases z : n = 0
      · subst z; simp at h2 h1; omega
      · omega
    have e3 : (m + 1 - 1) * (m + 1 + 2) + 2 = (m + 1) * (m + 1 + 1) := by
      rw [Nat.add_sub_cancel]
      simp only [Nat.mul_add, Nat.add_mul]; omega
    omega
theorem list_sum (b : Nat) (hb : 1 ≤ b) : ∀ n, ((List.range (n + 1)).map (ln b)).sum = tot b n
  | 0 => by
    show ln b 0 + 0 = 0
    rw [ln_zero hb]
  | n + 1 => by
    rw [List.range_succ, List.map_append, List.sum_append, list_sum b hb n]
    show tot b n + (ln b (n + 1) + 0) = tot b n + ln b (n + 1)
    omega
theorem cum_big {b : Nat} (hb : 2 ≤ b) (w : Nat) (h : 1 ≤ w) : 2 ^ w ≤ cum b w := Nat.le_trans (Nat.pow_le_pow_left hb w) (pow_le_cum b w h)
end WC
end

section
set_option linter.all false
set_option maxRecDepth 100000
set_option maxHeartbeats 4000000
set_option autoImplicit false
/-! GC: different words have at least the letters of the shortest texts; a cut's pieces and the least count (plain law). -/
namespace PL
open PySem PySem.Spec PyProof.Rows L2 WC
theorem allN_all {al : Wd} : ∀ (n : Nat) {t : Wd}, t.length = n → (∀ c ∈ t, c ∈ al) → t ∈ allN al n
  | 0, t, h, _ => by rw [List.length_eq_zero_iff.mp h]; exact List.mem_singleton.mpr rfl
  | n + 1, t, h, hc => by
    have hne : t ≠ [] := fun e => by rw [e] at h; cases h
    obtain ⟨s, z, rfl⟩ : ∃ s z, t = s ++ [z] := ⟨_, _, (List.dropLast_concat_getLast hne).symm⟩
    rw [List.length_append, List.length_singleton] at h
    refine List.mem_flatMap.mpr ⟨s, allN_all n (by omega) fun c hcs => hc c (List.mem_append_left _ hcs), List.mem_map.mpr ⟨z, hc z (by simp), rfl⟩⟩
def upTo (al : Wd) : Nat → List Wd
  | 0 => []
  | w + 1 => upTo al w ++ allN al (w + 1)
theorem upTo_len (al : Wd) : ∀ w, (upTo al w).length = cum al.length w
  | 0 => rfl
  | w + 1 => by
    show (upTo al w ++ allN al (w + 1)).length = cum al.length w + al.length ^ (w + 1)
    rw [List.length_append, upTo_len, allN_len]
theorem upTo_mem {al : Wd} : ∀ {w : Nat} {t : Wd}, 1 ≤ t.length → t.length ≤ w → (∀ c ∈ t, c ∈ al) → t ∈ upTo al w
  | 0, _, h1, h2, _ => by omega
  | w + 1, t, h1, h2, hc => by
    by_cases h : t.length ≤ w
    · exact List.mem_append_left _ (upTo_mem h1 h hc)
    · exact List.mem_append_right _ (allN_all _ (by omega) hc)
theorem max_word : ∀ (B : List Wd), B ≠ [] → ∃ B1 x B2, B = B1 ++ x :: B2 ∧ ∀ q ∈ B, q.length ≤ x.length
  | [], h => absurd rfl h
  | [x], _ => ⟨[], x, [], rfl, fun q hq => by rw [List.mem_singleton.mp hq]; exact Nat.le_refl _⟩
  | x :: y :: B, _ => by
    obtain ⟨B1, z, B2, e, h⟩ := max_word (y :: B) (by simp)
    by_cases hx : z.length ≤ x.length
    · exact ⟨[], x, y :: B, rfl, fun q hq => by
        rcases List.mem_cons.mp hq with rfl | hq
        · exact Nat.le_refl _
        · exact Nat.le_trans (h q hq) hx⟩
    · exact ⟨x :: B1, z, B2, by rw [e]; rfl, fun q hq => by
        rcases List.mem_cons.mp hq with rfl | hq
        · omega
        · exact h q hq⟩
theorem tot_words {al : Wd} (h1 : 1 ≤ al.length) : ∀ (n : Nat) {B : List Wd}, B.length = n → B.Nodup → (∀ q ∈ B, q ≠ []) → (∀ q ∈ B, ∀ c ∈ q, c ∈ al) → tot al.length n ≤ (B.map List.length).sum
  | 0, B, h, _, _, _ => Nat.zero_le _
  | n + 1, B, h, nd, hne, hc => by
    obtain ⟨B1, x, B2, rfl, hm⟩ := max_word B (fun e => by rw [e] at h; cases h)
    have nd' : (B1 ++ B2).Nodup := nd.sublist (List.Sublist.append (List.Sublist.refl _) (List.sublist_cons_self ..))
    have hl : (B1 ++ B2).length = n := by
      simp only [List.length_append, List.length_cons] at h ⊢; omega
    have hsub : ∀ q ∈ B1 ++ B2, q ∈ B1 ++ x :: B2 := fun q hq => by
      rcases List.mem_append.mp hq with hq | hq
      · exact List.mem_append_left _ hq
      · exact List.mem_append_right _ (List.mem_cons_of_mem _ hq)
    have ih := tot_words h1 n hl nd' (fun q hq => hne q (hsub q hq)) fun q hq => hc q (hsub q hq)
    have hx : ln al.length (n + 1) ≤ x.length := by
      have hle : n + 1 ≤ cum al.length x.length := by
        rw [← h, ← upTo_len]
        exact nodup_sub' nd fun q hq => upTo_mem (List.length_pos_iff.mpr (hne q hq)) (hm q hq) (hc q hq)
      by_cases z : ln al.length (n + 1) ≤ x.length
      · exact z
      · have := (ln_ok h1 (n + 1)).2 x.length (by omega)
        omega
    show tot al.length n + ln al.length (n + 1) ≤ _
    rw [List.map_append, List.sum_append] at ih ⊢
    rw [List.map_cons, List.sum_cons]
    omega
theorem words_gs {al : Wd} (h1 : 1 ≤ al.length) {B : List Wd} {L n : Nat} (hB : (B.map List.length).sum ≤ L) (nd : B.Nodup) (hne : ∀ q ∈ B, q ≠ []) (hc : ∀ q ∈ B, ∀ c ∈ q, c ∈ al) (g : Gs al.length L n) : B.length ≤ n := by
  have h := tot_words h1 B.length rfl nd hne hc
  by_cases z : B.length ≤ n
  · exact z
  · have := tot_mono h1 (show n + 1 ≤ B.length by omega)
    have := g.2
    omega
/-! pieces -/
theorem piece_le {abc : Wd} {s : CS} (gd : s.Gd abc) : ∀ (k : Nat) {p : Wd}, s.ps[k]? = some p → p.length ≤ k := by
  intro k
  induction k using Nat.strongRecOn with
  | ind k ih =>
    intro p hp
    cases k with
    | zero =>
      rw [gd.ps, txs_zero] at hp
      cases hp; exact Nat.le_refl _
    | succ k =>
      have hl : s.ps.length = s.rows.length + 1 := by rw [gd.ps]; exact txs_len _
      have hk := (List.getElem?_eq_some_iff.mp hp).1
      obtain ⟨r, hr⟩ : ∃ r, s.rows[k]? = some r := ⟨_, List.getElem?_eq_getElem (by omega)⟩
      obtain ⟨q, h1, h2⟩ := txs_at (fun i r hr => (gd.gr i r hr).1) hr
      rw [gd.ps, h2] at hp
      cases hp
      have hrk := (gd.gr k r hr).1
      rw [← gd.ps] at h1
      have := ih r.1 (by omega) h1
      rw [List.length_append, List.length_singleton]; omega
theorem sum_pieces {abc : Wd} {s : CS} (gd : s.Gd abc) : ∀ k, k ≤ s.ps.length → 2 * ((s.ps.take k).map List.length).sum ≤ (k - 1) * k
  | 0, _ => by simp
  | k + 1, h => by
    have ih := sum_pieces gd k (by omega)
    obtain ⟨p, hp⟩ : ∃ p, s.ps[k]? = some p := ⟨_, List.getElem?_eq_getElem (by omega)⟩
    have := piece_le gd k hp
    rw [takeC hp, List.map_append, List.sum_append]
    show 2 * (_ + (p.length + 0)) ≤ _
    rw [Nat.add_sub_cancel]
    cases k with
    | zero => simp at this ⊢; simp [this]
    | succ k =>
      rw [Nat.add_sub_cancel] at ih
      have e : (k + 1) * (k + 1 + 1) = k * (k + 1) + 2 * (k + 1) := by grind
      omega
theorem pieces_least {abc : Wd} {t : Wd} (gd : (cutC t).Gd abc) : 2 * t.length ≤ (cutC t).rows.length * ((cutC t).rows.length + 3) := by
  have hl : (cutC t).ps.length = (cutC t).rows.length + 1 := by rw [gd.ps]; exact txs_len _
  have h1 := sum_pieces gd (cutC t).ps.length (Nat.le_refl _)
  rw [List.take_length, hl, Nat.add_sub_cancel] at h1
  obtain ⟨i, hi, e⟩ := List.mem_iff_getElem.mp gd.w
  have hw := piece_le gd i (by rw [List.getElem?_eq_getElem hi, e])
  have ht := congrArg List.length (cutC_text t)
  rw [List.length_append, flat_len] at ht
  have e : (cutC t).rows.length * ((cutC t).rows.length + 3) = (cutC t).rows.length * ((cutC t).rows.length + 1) + 2 * (cutC t).rows.length := by grind
  omega
theorem least_le {L n m : Nat} (h : 2 * L ≤ m * (m + 3)) (h2 : n = 0 ∨ (n - 1) * (n + 2) < 2 * L) : n ≤ m := by
  by_cases z : n ≤ m
  · exact z
  · rcases h2 with h2 | h2
    · omega
    · have h3 : m * (m + 3) ≤ (n - 1) * (n + 2) := Nat.mul_le_mul (by omega) (by omega)
      omega
end PL
end

section
set_option linter.all false
set_option maxRecDepth 100000
set_option maxHeartbeats 4000000
set_option autoImplicit false
/-! FW: all words in order, and what a cut makes of them (plain law). -/
namespace PL
open PySem PySem.Spec PyProof.Rows L2 WC
/-- word k of all words in order (the empty one is word 0) -/
def nw (abc : Wd) : Nat → Wd
  | 0 => []
  | k + 1 => if h : 1 ≤ abc.length then nw abc (k / abc.length) ++ [abc.getD (k % abc.length) 0] else []
  decreasing_by exact Nat.lt_succ_of_le (Nat.div_le_self _ _)
theorem nw_zero (abc : Wd) : nw abc 0 = [] := by unfold nw; rfl
theorem nw_child {abc : Wd} (h : 1 ≤ abc.length) (a j : Nat) {c : Nat} (hc : abc[j]? = some c) : nw abc (abc.length * a + 1 + j) = nw abc a ++ [c] := by
  have hj := (List.getElem?_eq_some_iff.mp hc).1
  rw [show abc.length * a + 1 + j = (abc.length * a + j) + 1 by omega]
  rw [nw, dif_pos h]
  have e1 : (abc.length * a + j) / abc.length = a := by
    rw [Nat.mul_add_div (by omega), Nat.div_eq_of_lt hj, Nat.add_zero]
  have e2 : (abc.length * a + j) % abc.length = j := by
    rw [Nat.mul_add_mod, Nat.mod_eq_of_lt hj]
  rw [e1, e2, List.getD_eq_getElem?_getD, hc]; rfl
theorem child_of {b : Nat} (h : 1 ≤ b) (k : Nat) : k + 1 = b * (k / b) + 1 + k % b ∧ k % b < b ∧ k / b ≤ k := ⟨by have := Nat.div_add_mod k b; omega, Nat.mod_lt _ (by omega), Nat.div_le_self _ _⟩
theorem nw_succ {abc : Wd} (h : 1 ≤ abc.length) (k : Nat) : ∃ a j c, k + 1 = abc.length * a + 1 + j ∧ abc[j]? = some c ∧ a ≤ k ∧ nw abc (k + 1) = nw abc a ++ [c] := by
  obtain ⟨e1, e2, e3⟩ := child_of h k
  have hc : abc[k % abc.length]? = some abc[k % abc.length] := List.getElem?_eq_getElem e2
  exact ⟨_, _, _, e1, hc, e3, by rw [← nw_child h _ _ hc, ← e1]⟩
theorem nw_len {abc : Wd} (h : 1 ≤ abc.length) : ∀ k, (nw abc k).length = ln abc.length k := by
  intro k
  induction k using Nat.strongRecOn with
  | ind k ih =>
    cases k with
    | zero => rw [nw_zero, ln_zero h]; rfl
    | succ k =>
      obtain ⟨a, j, c, e, hc, ha, ew⟩ := nw_succ h k
      rw [ew, List.length_append, List.length_singleton, ih a (by omega), e, ln_child h a j (List.getElem?_eq_some_iff.mp hc).1]
theorem nw_mem {abc : Wd} (h : 1 ≤ abc.length) : ∀ k, ∀ c ∈ nw abc k, c ∈ abc := by
  intro k
  induction k using Nat.strongRecOn with
  | ind k ih =>
    cases k with
    | zero => rw [nw_zero]; intro c hc; cases hc
    | succ k =>
      obtain ⟨a, j, c, e, hc, ha, ew⟩ := nw_succ h k
      rw [ew]
      intro x hx
      rcases List.mem_append.mp hx with hx | hx
      · exact ih a (by omega) x hx
      · rw [List.mem_singleton.mp hx]; exact List.mem_of_getElem? hc
theorem nw_inj {abc : Wd} (h : 1 ≤ abc.length) (nd : abc.Nodup) : ∀ i j, nw abc i = nw abc j → i = j := by
  intro i
  induction i using Nat.strongRecOn with
  | ind i ih =>
    intro j e
    cases i with
    | zero =>
      cases j with
      | zero => rfl
      | succ j =>
        obtain ⟨a, k, c, _, _, _, ew⟩ := nw_succ h j
        rw [nw_zero, ew] at e
        exact absurd (congrArg List.length e) (by simp)
    | succ i =>
      obtain ⟨a, k, c, e1, hc, ha, ew⟩ := nw_succ h i
      cases j with
      | zero =>
        rw [nw_zero, ew] at e
        exact absurd (congrArg List.length e) (by simp)
      | succ j =>
        obtain ⟨a', k', c', e1', hc', ha', ew'⟩ := nw_succ h j
        rw [ew, ew'] at e
        obtain ⟨q1, q2⟩ := List.append_inj' e rfl
        have q3 := ih a (by omega) a' q1
        have q4 : c = c' := by simpa using q2
        subst q3 q4
        have q5 := nd_get nd hc hc'
        omega
/-- the first n words that are not empty -/
def nws (abc : Wd) (n : Nat) : List Wd := (List.range n).map fun i => nw abc (i + 1)
/-- all words from the empty one on, n of them -/
def nw0 (abc : Wd) (n : Nat) : List Wd := (List.range n).map (nw abc)
theorem nw0_succ (abc : Wd) (n : Nat) : nw0 abc (n + 1) = [] :: nws abc n := by
  unfold nw0 nws
  rw [List.range_succ_eq_map, List.map_cons, nw_zero, List.map_map]; rfl
theorem nws_succ (abc : Wd) (n : Nat) : nws abc (n + 1) = nws abc n ++ [nw abc (n + 1)] := by
  unfold nws
  rw [List.range_succ, List.map_append]; rfl
theorem nw0_snoc (abc : Wd) (n : Nat) : nw0 abc (n + 1) = nw0 abc n ++ [nw abc n] := by
  unfold nw0
  rw [List.range_succ, List.map_append]; rfl
theorem nws_len (abc : Wd) (n : Nat) : (nws abc n).length = n := by unfold nws; simp
theorem nw0_len (abc : Wd) (n : Nat) : (nw0 abc n).length = n := by unfold nw0; simp
theorem nw0_get {abc : Wd} {n i : Nat} (h : i < n) : (nw0 abc n)[i]? = some (nw abc i) := by unfold nw0; simp [h]
theorem nws_get {abc : Wd} {n i : Nat} (h : i < n) : (nws abc n)[i]? = some (nw abc (i + 1)) := by unfold nws; simp [h]
theorem nws_flat {abc : Wd} (h : 1 ≤ abc.length) : ∀ n, (nws abc n).flatten.length = tot abc.length n
  | 0 => rfl
  | n + 1 => by
    rw [nws_succ, List.flatten_append, List.length_append, nws_flat h n]
    show _ + ([nw abc (n + 1)].flatten).length = tot abc.length n + ln abc.length (n + 1)
    rw [List.flatten_cons, List.flatten_nil, List.append_nil, nw_len h]
/-- the text of all words, cut -/
def allW (abc : Wd) (L : Nat) : Wd := (nws abc (L + 1)).flatten.take L
theorem nws_pre (abc : Wd) {m n : Nat} (h : m ≤ n) : ∃ r, nws abc n = nws abc m ++ r := ⟨(nws abc n).drop m, by
  have e : nws abc m = (nws abc n).take m := by
    unfold nws
    rw [← List.map_take, List.take_range, Nat.min_eq_left h]
  rw [e, List.take_append_drop]⟩
theorem take_all {abc : Wd} (h : 1 ≤ abc.length) {L m n : Nat} (hm : L ≤ tot abc.length m) (hmn : m ≤ n) : (nws abc n).flatten.take L = (nws abc m).flatten.take L := by
  obtain ⟨r, e⟩ := nws_pre abc hmn
  rw [e, List.flatten_append, List.take_append_of_le_length (by rw [nws_flat h]; exact hm)]
theorem allW_eq {abc : Wd} (h : 1 ≤ abc.length) {L m : Nat} (hm : L ≤ tot abc.length m) : (nws abc m).flatten.take L = allW abc L := by
  have h1 : L ≤ tot abc.length (L + 1) := Nat.le_trans (Nat.le_succ L) (le_tot h (L + 1))
  unfold allW
  rcases Nat.le_total m (L + 1) with z | z
  · exact (take_all h hm z).symm
  · exact take_all h h1 z
theorem allW_len {abc : Wd} (h : 1 ≤ abc.length) (L : Nat) : (allW abc L).length = L := by
  unfold allW
  rw [List.length_take, nws_flat h]
  have := le_tot h (L + 1)
  omega
theorem allW_take {abc : Wd} (h : 1 ≤ abc.length) {K L : Nat} (hk : K ≤ L) : (allW abc L).take K = allW abc K := by
  have h1 := le_tot h (L + 1)
  rw [← allW_eq h (L := K) (m := L + 1) (by omega)]
  unfold allW
  rw [List.take_take, Nat.min_eq_left hk]
theorem allW_mem {abc : Wd} (h : 1 ≤ abc.length) (L : Nat) : ∀ c ∈ allW abc L, c ∈ abc := fun c hc => by
  have hc := List.mem_of_mem_take hc
  obtain ⟨w, hw, q⟩ := List.mem_flatten.mp hc
  unfold nws at hw
  obtain ⟨i, _, rfl⟩ := List.mem_map.mp hw
  exact nw_mem h _ c q
theorem allW_split {abc : Wd} (h : 1 ≤ abc.length) {L n : Nat} (g : Gs abc.length L n) : allW abc L = (nws abc n).flatten ++ (nw abc (n + 1)).take (L - tot abc.length n) := by
  rw [← allW_eq h (m := n + 1) (Nat.le_of_lt g.2), nws_succ, List.flatten_append, List.take_append, nws_flat h, List.take_of_length_le (by rw [nws_flat h]; exact g.1)]
  show _ ++ List.take _ [nw abc (n + 1)].flatten = _
  rw [List.flatten_cons, List.flatten_nil, List.append_nil]
/-- a beginning of a word is an earlier word -/
theorem nw_take {abc : Wd} (h : 1 ≤ abc.length) : ∀ k l, l < (nw abc k).length → ∃ a, a < k ∧ (nw abc k).take l = nw abc a := by
  intro k
  induction k using Nat.strongRecOn with
  | ind k ih =>
    intro l hl
    cases k with
    | zero => rw [nw_zero] at hl; cases hl
    | succ k =>
      obtain ⟨a, j, c, e, hc, ha, ew⟩ := nw_succ h k
      rw [ew, List.length_append, List.length_singleton] at hl
      rw [ew]
      by_cases z : l < (nw abc a).length
      · obtain ⟨a', h1, h2⟩ := ih a (by omega) l z
        exact ⟨a', by omega, by rw [List.take_append_of_le_length (by omega), h2]⟩
      · refine ⟨a, by omega, ?_⟩
        rw [show l = (nw abc a).length by omega, List.take_left]
theorem cutC_app (t : Wd) : ∀ u : Wd, cutC (t ++ u) = u.foldl CS.step (cutC t) := fun u => by
  unfold cutC
  rw [List.foldl_append]
theorem cut_words {abc : Wd} (h : 1 ≤ abc.length) (nd : abc.Nodup) : ∀ n, (cutC (nws abc n).flatten).ps = nw0 abc (n + 1) ∧ (cutC (nws abc n).flatten).w = [] ∧
    ∀ l, l < (nw abc (n + 1)).length → (cutC ((nws abc n).flatten ++ (nw abc (n + 1)).take l)).ps = nw0 abc (n + 1) ∧ (cutC ((nws abc n).flatten ++ (nw abc (n + 1)).take l)).w = (nw abc (n + 1)).take l := by
  have part : ∀ n, (cutC (nws abc n).flatten).ps = nw0 abc (n + 1) → (cutC (nws abc n).flatten).w = [] → ∀ l, l < (nw abc (n + 1)).length →
      (cutC ((nws abc n).flatten ++ (nw abc (n + 1)).take l)).ps = nw0 abc (n + 1) ∧ (cutC ((nws abc n).flatten ++ (nw abc (n + 1)).take l)).w = (nw abc (n + 1)).take l := by
    intro n h1 h2 l
    induction l with
    | zero => intro _; simp only [List.take_zero, List.append_nil]; exact ⟨h1, h2⟩
    | succ l ih =>
      intro hl
      obtain ⟨i1, i2⟩ := ih (by omega)
      obtain ⟨c, hc⟩ : ∃ c, (nw abc (n + 1))[l]? = some c := ⟨_, List.getElem?_eq_getElem (by omega)⟩
      obtain ⟨a, ha, ea⟩ := nw_take h (n + 1) (l + 1) hl
      have e := takeC hc
      rw [e, ← List.append_assoc, cutC_snoc]
      have hm : (cutC ((nws abc n).flatten ++ (nw abc (n + 1)).take l)).w ++ [c] ∈ (cutC ((nws abc n).flatten ++ (nw abc (n + 1)).take l)).ps := by
        rw [i1, i2, ← e, ea]
        exact List.mem_of_getElem? (nw0_get ha)
      unfold CS.step
      rw [if_pos hm]
      exact ⟨i1, by rw [i2]⟩
  intro n
  induction n with
  | zero =>
    have h1 : (cutC (nws abc 0).flatten).ps = nw0 abc 1 := by
      rw [nw0_succ]; rfl
    exact ⟨h1, rfl, part 0 h1 rfl⟩
  | succ n ih =>
    obtain ⟨i1, i2, i3⟩ := ih
    obtain ⟨a, j, c, e, hc, ha, ew⟩ := nw_succ h n
    have hl : (nw abc a).length < (nw abc (n + 1)).length := by rw [ew, List.length_append, List.length_singleton]; omega
    obtain ⟨k1, k2⟩ := i3 _ hl
    have et : (nw abc (n + 1)).take (nw abc a).length = nw abc a := by rw [ew, List.take_left]
    rw [et] at k1 k2
    have e2 : (nws abc (n + 1)).flatten = ((nws abc n).flatten ++ nw abc a) ++ [c] := by
      rw [nws_succ, List.flatten_append, List.append_assoc]
      show _ ++ [nw abc (n + 1)].flatten = _
      rw [List.flatten_cons, List.flatten_nil, List.append_nil, ew]
    have hn : (cutC ((nws abc n).flatten ++ nw abc a)).w ++ [c] ∉ (cutC ((nws abc n).flatten ++ nw abc a)).ps := by
      rw [k1, k2, ← ew]
      intro hm
      unfold nw0 at hm
      obtain ⟨i, hi, q⟩ := List.mem_map.mp hm
      have := nw_inj h nd _ _ q
      rw [List.mem_range] at hi
      omega
    have s1 : cutC (nws abc (n + 1)).flatten = (cutC ((nws abc n).flatten ++ nw abc a)).step c := by rw [e2, cutC_snoc]
    have g1 : (cutC (nws abc (n + 1)).flatten).ps = nw0 abc (n + 1 + 1) := by
      rw [s1]
      unfold CS.step
      rw [if_neg hn, k1, k2, ← ew, nw0_snoc abc (n + 1)]
    have g2 : (cutC (nws abc (n + 1)).flatten).w = [] := by
      rw [s1]
      unfold CS.step
      rw [if_neg hn]
    exact ⟨g1, g2, part _ g1 g2⟩
theorem cut_all {abc : Wd} (h : 1 ≤ abc.length) (nd : abc.Nodup) {L n : Nat} (g : Gs abc.length L n) : (cutC (allW abc L)).ps = nw0 abc (n + 1) ∧ (cutC (allW abc L)).w = (nw abc (n + 1)).take (L - tot abc.length n) := by
  rw [allW_split h g]
  refine (cut_words h nd n).2.2 _ ?_
  rw [nw_len h]
  have h1 := g.2
  have h2 : tot abc.length (n + 1) = tot abc.length n + ln abc.length (n + 1) := rfl
  have h3 := g.1
  omega
end PL
end

section
set_option linter.all false
set_option maxRecDepth 100000
set_option maxHeartbeats 4000000
set_option autoImplicit false
/-! WT: words whose set is closed under beginnings, and the cut of their text; words with a wanted total (plain law). -/
namespace PL
open PySem PySem.Spec PyProof.Rows L2 WC
theorem cut_walk {s : Wd} {P : List Wd} (h1 : (cutC s).ps = P) (h2 : (cutC s).w = []) : ∀ t : Wd, (∀ l, l ≤ t.length → t.take l ∈ P) → (cutC (s ++ t)).ps = P ∧ (cutC (s ++ t)).w = t := by
  intro t
  induction t using snoc_ind with
  | nil => intro _; rw [List.append_nil]; exact ⟨h1, h2⟩
  | snoc t c ih =>
    intro h
    obtain ⟨i1, i2⟩ := ih fun l hl => by
      have := h l (by rw [List.length_append]; omega)
      rwa [List.take_append_of_le_length hl] at this
    rw [← List.append_assoc, cutC_snoc]
    have hm : (cutC (s ++ t)).w ++ [c] ∈ (cutC (s ++ t)).ps := by
      rw [i1, i2]
      have := h (t ++ [c]).length (Nat.le_refl _)
      rwa [List.take_length] at this
    unfold CS.step
    rw [if_pos hm]
    exact ⟨i1, by rw [i2]⟩
theorem closed_take {P : List Wd} (h : ∀ p ∈ P, p.dropLast ∈ P) : ∀ (n : Nat) (p : Wd), p.length = n → p ∈ P → ∀ l, p.take l ∈ P
  | 0, p, hl, hp, l => by
    have : p = [] := List.length_eq_zero_iff.mp hl
    subst this
    rw [List.take_nil]; exact hp
  | n + 1, p, hl, hp, l => by
    by_cases z : p.length ≤ l
    · rw [List.take_of_length_le z]; exact hp
    · have := closed_take h n p.dropLast (by rw [List.length_dropLast]; omega) (h p hp) l
      rwa [List.dropLast_eq_take, List.take_take, Nat.min_eq_left (by omega)] at this
theorem cut_closed : ∀ ws : List Wd, ws.Nodup → (∀ (i : Nat) (w : Wd), ws[i]? = some w → w ≠ [] ∧ w.dropLast ∈ [] :: ws.take i) → (cutC ws.flatten).ps = [] :: ws ∧ (cutC ws.flatten).w = [] := by
  intro ws
  induction ws using snoc_ind with
  | nil => intro _ _; exact ⟨rfl, rfl⟩
  | snoc ws z ih =>
    intro nd cl
    have nd1 := (List.nodup_append.mp nd).1
    have nz : z ∉ ws := fun hm => (List.nodup_append.mp nd).2.2 z hm z (List.mem_singleton.mpr rfl) rfl
    have cl1 : ∀ (i : Nat) (w : Wd), ws[i]? = some w → w ≠ [] ∧ w.dropLast ∈ [] :: ws.take i := fun i w hw => by
      have hi := (List.getElem?_eq_some_iff.mp hw).1
      have := cl i w (by rw [List.getElem?_append_left hi]; exact hw)
      rwa [List.take_append_of_le_length (by omega)] at this
    obtain ⟨i1, i2⟩ := ih nd1 cl1
    obtain ⟨zne, zd⟩ := cl ws.length z (by rw [List.getElem?_append_right (Nat.le_refl _), Nat.sub_self]; rfl)
    rw [List.take_append_of_le_length (Nat.le_refl _), List.take_length] at zd
    have clP : ∀ p ∈ ([] :: ws : List Wd), p.dropLast ∈ ([] :: ws : List Wd) := fun p hp => by
      rcases List.mem_cons.mp hp with rfl | hp
      · exact List.mem_cons_self ..
      · obtain ⟨i, hi, e⟩ := List.mem_iff_getElem.mp hp
        have := (cl1 i p (List.getElem?_eq_some_iff.mpr ⟨hi, e⟩)).2
        rcases List.mem_cons.mp this with q | q
        · rw [q]; exact List.mem_cons_self ..
        · exact List.mem_cons_of_mem _ (List.mem_of_mem_take q)
    obtain ⟨k1, k2⟩ := cut_walk i1 i2 z.dropLast fun l _ => closed_take clP _ _ rfl zd l
    obtain ⟨u, c, rfl⟩ : ∃ u c, z = u ++ [c] := ⟨_, _, (List.dropLast_concat_getLast zne).symm⟩
    rw [List.dropLast_concat] at k1 k2
    have e : (ws ++ [u ++ [c]]).flatten = (ws.flatten ++ u) ++ [c] := by simp
    rw [e, cutC_snoc]
    have hn : (cutC (ws.flatten ++ u)).w ++ [c] ∉ (cutC (ws.flatten ++ u)).ps := by
      rw [k1, k2]
      intro hm
      rcases List.mem_cons.mp hm with q | q
      · simp at q
      · exact nz q
    unfold CS.step
    rw [if_neg hn, k1, k2]
    exact ⟨rfl, rfl⟩
/-! sorted, a closed set is closed in order -/
theorem leT_len {a b : Wd} (h : leT (T a) (T b)) : a.length ≤ b.length := by
  unfold leT at h
  rw [T_len, T_len] at h
  omega
theorem sort_closed {S zs : List Wd} (p : zs.Perm S) (srt : zs.Pairwise fun a b => a.length ≤ b.length) (cl : ∀ w ∈ S, w ≠ [] ∧ w.dropLast ∈ [] :: S) : ∀ (i : Nat) (w : Wd), zs[i]? = some w → w ≠ [] ∧ w.dropLast ∈ [] :: zs.take i := by
  intro i w hw
  have hm : w ∈ S := p.mem_iff.mp (List.mem_of_getElem? hw)
  obtain ⟨ne, hd⟩ := cl w hm
  refine ⟨ne, ?_⟩
  rcases List.mem_cons.mp hd with q | q
  · rw [q]; exact List.mem_cons_self ..
  · have hz : w.dropLast ∈ zs := p.mem_iff.mpr q
    obtain ⟨j, hj, e⟩ := List.mem_iff_getElem.mp hz
    have hi := (List.getElem?_eq_some_iff.mp hw)
    have hlen : w.dropLast.length < w.length := by
      rw [List.length_dropLast]
      have := List.length_pos_iff.mpr ne
      omega
    have hji : j < i := by
      by_cases z : j < i
      · exact z
      · rcases Nat.lt_or_eq_of_le (Nat.le_of_not_lt z) with z2 | z2
        · have := List.pairwise_iff_getElem.mp srt i j hi.1 hj z2
          rw [hi.2, e] at this
          omega
        · subst z2
          rw [hi.2] at e
          have := congrArg List.length e
          omega
    refine List.mem_cons_of_mem _ (List.mem_iff_getElem.mpr ⟨j, by rw [List.length_take]; have := hi.1; omega, ?_⟩)
    rw [List.getElem_take]; exact e
/-! words of one letter, and the others -/
def rep (a l : Nat) : Wd := List.replicate l a
def chn (a m : Nat) : List Wd := (List.range m).map fun i => rep a (i + 1)
def isA (a : Nat) (w : Wd) : Bool := decide (w = rep a w.length)
def oth (abc : Wd) (a n : Nat) : List Wd := (nws abc n).filter fun w => !isA a w
theorem rep_len (a l : Nat) : (rep a l).length = l := List.length_replicate ..
theorem rep_inj {a l m : Nat} (h : rep a l = rep a m) : l = m := by have := congrArg List.length h; rwa [rep_len, rep_len] at this
theorem rep_snoc (a l : Nat) : rep a (l + 1) = rep a l ++ [a] := List.replicate_succ' ..
theorem chn_succ (a m : Nat) : chn a (m + 1) = chn a m ++ [rep a (m + 1)] := by unfold chn; rw [List.range_succ, List.map_append]; rfl
theorem chn_len (a m : Nat) : (chn a m).length = m := by unfold chn; simp
theorem chn_mem {a m : Nat} {w : Wd} : w ∈ chn a m ↔ ∃ l, 1 ≤ l ∧ l ≤ m ∧ w = rep a l := by
  unfold chn
  rw [List.mem_map]
  constructor
  · rintro ⟨i, hi, rfl⟩
    exact ⟨i + 1, by omega, by rw [List.mem_range] at hi; omega, rfl⟩
  · rintro ⟨l, h1, h2, rfl⟩
    exact ⟨l - 1, List.mem_range.mpr (by omega), by rw [show l - 1 + 1 = l by omega]⟩
theorem chn_sum (a m : Nat) : 2 * ((chn a m).map List.length).sum = m * (m + 1) := by
  induction m with
  | zero => rfl
  | succ m ih =>
    rw [chn_succ, List.map_append, List.sum_append, Nat.mul_add, ih]
    simp only [List.map_cons, List.map_nil, List.sum_cons, List.sum_nil, rep_len]
    rw [Nat.add_mul (m) 1 (m + 1 + 1), Nat.mul_add m (m + 1) 1]
    omega
theorem chn_nd (a m : Nat) : (chn a m).Nodup := by
  unfold chn
  refine List.Pairwise.map _ (fun i j h e => h ?_) List.nodup_range
  have := rep_inj e
  omega
theorem isA_iff {a : Nat} {w : Wd} : isA a w = true ↔ w = rep a w.length := by unfold isA; exact decide_eq_true_iff
section
variable {abc : Wd} (h : 1 ≤ abc.length) (nd : abc.Nodup) {a : Nat} (ha : abc[0]? = some a)
include h ha in
theorem nw_rep : ∀ l, nw abc (cum abc.length l + 1) = rep a (l + 1) := by
  intro l
  induction l with
  | zero =>
    have := nw_child h 0 0 ha
    rw [Nat.mul_zero, Nat.zero_add, Nat.add_zero, nw_zero] at this
    exact this
  | succ l ih =>
    have := nw_child h (cum abc.length l + 1) 0 ha
    rw [ih, Nat.add_zero] at this
    rw [cum_step, Nat.add_comm 1, rep_snoc a (l + 1)]
    exact this
include h in
theorem nws_split {n : Nat} {L1 L2 : List Wd} {o : Wd} (e : nws abc n = L1 ++ o :: L2) : L1 = nws abc L1.length ∧ o = nw abc (L1.length + 1) ∧ L1.length < n := by
  have hl : L1.length < n := by
    have := congrArg List.length e
    rw [nws_len, List.length_append, List.length_cons] at this
    omega
  refine ⟨?_, ?_, hl⟩
  · have h1 : (nws abc n).take L1.length = L1 := by rw [e]; exact List.take_left ..
    rw [← h1, List.length_take, nws_len, Nat.min_eq_left (by omega)]
    unfold nws
    rw [← List.map_take, List.take_range, Nat.min_eq_left (by omega)]
  · have h1 : (nws abc n)[L1.length]? = some o := by rw [e, List.getElem?_append_right (Nat.le_refl _), Nat.sub_self]; rfl
    rw [nws_get hl] at h1
    exact (Option.some.inj h1).symm
include h in
theorem nws_mem {n : Nat} {w : Wd} : w ∈ nws abc n ↔ ∃ k, 1 ≤ k ∧ k ≤ n ∧ w = nw abc k := by
  unfold nws
  rw [List.mem_map]
  constructor
  · rintro ⟨i, hi, rfl⟩
    rw [List.mem_range] at hi
    exact ⟨i + 1, by omega, by omega, rfl⟩
  · rintro ⟨k, h1, h2, rfl⟩
    exact ⟨k - 1, List.mem_range.mpr (by omega), by rw [show k - 1 + 1 = k by omega]⟩
include h in
theorem nws_ne {n : Nat} {w : Wd} (hw : w ∈ nws abc n) : w ≠ [] ∧ w.dropLast ∈ [] :: nws abc n := by
  obtain ⟨k, h1, h2, rfl⟩ := (nws_mem h).mp hw
  obtain ⟨k, rfl⟩ : ∃ j, k = j + 1 := ⟨k - 1, by omega⟩
  obtain ⟨p, j, c, e, hc, hp, ew⟩ := nw_succ h k
  rw [ew]
  refine ⟨by simp, ?_⟩
  rw [List.dropLast_concat]
  rcases Nat.eq_zero_or_pos p with z | z
  · subst z; rw [nw_zero]; exact List.mem_cons_self ..
  · exact List.mem_cons_of_mem _ ((nws_mem h).mpr ⟨p, z, by omega, rfl⟩)
include h nd in
theorem nws_nd (n : Nat) : (nws abc n).Nodup := by
  unfold nws
  refine List.Pairwise.map _ (fun i j q e => q ?_) List.nodup_range
  have := nw_inj h nd _ _ e
  omega
include h in
theorem nws_srt (n : Nat) : (nws abc n).Pairwise fun u v => u.length ≤ v.length := by
  unfold nws
  refine List.Pairwise.map _ (R := fun i j => i < j) (fun i j q => ?_) List.pairwise_lt_range
  rw [nw_len h, nw_len h]
  obtain ⟨a1, a2⟩ := ln_ok h (i + 1)
  obtain ⟨b1, b2⟩ := ln_ok h (j + 1)
  by_cases z : ln abc.length (i + 1) ≤ ln abc.length (j + 1)
  · exact z
  · have := a2 (ln abc.length (j + 1)) (by omega)
    omega
include h ha in
/-- of each length the word of one letter comes first -/
theorem rep_before {n : Nat} {w : Wd} (hw : w ∈ nws abc n) : rep a w.length ∈ nws abc n := by
  obtain ⟨k, h1, h2, rfl⟩ := (nws_mem h).mp hw
  rw [nw_len h]
  have l1 := ln_pos h h1
  obtain ⟨_, a2⟩ := ln_ok h k
  have := a2 (ln abc.length k - 1) (by omega)
  refine (nws_mem h).mpr ⟨cum abc.length (ln abc.length k - 1) + 1, by omega, by omega, ?_⟩
  rw [nw_rep h ha, show ln abc.length k - 1 + 1 = ln abc.length k by omega]
include h nd ha in
theorem chn_of : ∀ n, ∃ m, (nws abc n).filter (isA a) = chn a m ∧ ∀ l, 1 ≤ l → (l ≤ m ↔ rep a l ∈ nws abc n) := by
  intro n
  induction n with
  | zero => exact ⟨0, rfl, fun l hl => ⟨fun q => by omega, fun q => by cases q⟩⟩
  | succ n ih =>
    obtain ⟨m, e, hm⟩ := ih
    rw [nws_succ, List.filter_append, e]
    by_cases z : isA a (nw abc (n + 1)) = true
    · have zw := isA_iff.mp z
      have hl1 : 1 ≤ (nw abc (n + 1)).length := by rw [nw_len h]; exact ln_pos h (by omega)
      have hmem : nw abc (n + 1) ∉ nws abc n := fun q => by
        obtain ⟨k, k1, k2, e⟩ := (nws_mem h).mp q
        have := nw_inj h nd _ _ e
        omega
      have hl : (nw abc (n + 1)).length = m + 1 := by
        have c1 : ¬ (nw abc (n + 1)).length ≤ m := fun q => hmem (by rw [zw]; exact (hm _ hl1).mp q)
        obtain ⟨p, j, c, e2, hc, hp, ew⟩ := nw_succ h n
        rcases Nat.eq_zero_or_pos p with z2 | z2
        · subst z2
          rw [ew, nw_zero] at c1 ⊢
          simp at c1 ⊢
          omega
        · have hpl : 1 ≤ (nw abc p).length := by rw [nw_len h]; exact ln_pos h z2
          have hpa : nw abc p = rep a (nw abc p).length := by
            have q := congrArg List.dropLast zw
            rw [ew, List.dropLast_concat, List.length_append, List.length_singleton, rep_snoc, List.dropLast_concat] at q
            exact q
          have := (hm _ hpl).mpr (by rw [← hpa]; exact (nws_mem h).mpr ⟨p, z2, by omega, rfl⟩)
          rw [ew, List.length_append, List.length_singleton] at c1 ⊢
          omega
      refine ⟨m + 1, ?_, fun l h1 => ?_⟩
      · rw [chn_succ]
        congr 1
        rw [List.filter_cons, if_pos z, List.filter_nil, ← hl, ← zw]
      · rw [List.mem_append, ← hm l h1, List.mem_singleton]
        constructor
        · intro q
          by_cases q2 : l ≤ m
          · exact .inl q2
          · right; rw [zw, hl, show l = m + 1 by omega]
        · rintro (q | q)
          · omega
          · have := congrArg List.length q
            rw [rep_len] at this
            omega
    · refine ⟨m, ?_, fun l h1 => ?_⟩
      · rw [List.filter_cons, if_neg z, List.filter_nil, List.append_nil]
      · rw [List.mem_append, ← hm l h1, List.mem_singleton]
        constructor
        · exact .inl
        · rintro (q | q)
          · exact q
          · exact absurd (isA_iff.mpr (by rw [← q, rep_len])) z
theorem filter_split {α : Type} (p : α → Bool) : ∀ (L : List α) (i : Nat) (o : α), (L.filter p)[i]? = some o → ∃ L1 L2, L = L1 ++ o :: L2 ∧ L1.filter p = (L.filter p).take i ∧ p o = true
  | [], i, o, h => by simp at h
  | x :: L, i, o, h => by
    by_cases z : p x = true
    · rw [List.filter_cons, if_pos z] at h ⊢
      cases i with
      | zero =>
        have : x = o := by simpa using h
        subst this
        exact ⟨[], L, rfl, rfl, z⟩
      | succ i =>
        obtain ⟨L1, L2, e1, e2, e3⟩ := filter_split p L i o (by simpa using h)
        exact ⟨x :: L1, L2, by rw [e1]; rfl, by rw [List.filter_cons, if_pos z, e2, List.take_succ_cons], e3⟩
    · rw [List.filter_cons, if_neg z] at h ⊢
      obtain ⟨L1, L2, e1, e2, e3⟩ := filter_split p L i o h
      exact ⟨x :: L1, L2, by rw [e1]; rfl, by rw [List.filter_cons, if_neg z, e2], e3⟩
/-- what is wanted of the words -/
structure GdW (abc : Wd) (n L : Nat) (S : List Wd) : Prop where
  nd : S.Nodup
  cl : ∀ w ∈ S, w ≠ [] ∧ w.dropLast ∈ [] :: S
  len : S.length = n
  sum : (S.map List.length).sum = L
  lt : ∀ w ∈ S, ∀ c ∈ w, c ∈ abc
include h nd ha in
theorem oth_at {n m0 : Nat} (em : ∀ l, 1 ≤ l → (l ≤ m0 ↔ rep a l ∈ nws abc n)) {i : Nat} {o : Wd} (ho : (oth abc a n)[i]? = some o) :
    1 ≤ o.length ∧ o.length ≤ m0 ∧ isA a o = false ∧ (o.dropLast = [] ∨ (∃ l, 1 ≤ l ∧ l ≤ m0 ∧ o.dropLast = rep a l) ∨ o.dropLast ∈ (oth abc a n).take i) := by
  obtain ⟨L1, L2, e1, e2, e3⟩ := filter_split _ _ _ _ ho
  obtain ⟨s1, s2, s3⟩ := nws_split h e1
  have hmem : o ∈ nws abc n := by rw [e1]; simp
  have ho1 : 1 ≤ o.length := List.length_pos_iff.mpr (nws_ne h hmem).1
  refine ⟨ho1, (em _ ho1).mpr (rep_before h ha hmem), by simpa using e3, ?_⟩
  have hd : o.dropLast ∈ [] :: L1 := by
    obtain ⟨p, j, c, e, hc, hp, ew⟩ := nw_succ h L1.length
    rw [s2, ew, List.dropLast_concat]
    rcases Nat.eq_zero_or_pos p with z | z
    · subst z; rw [nw_zero]; exact List.mem_cons_self ..
    · refine List.mem_cons_of_mem _ ?_
      have : nw abc p ∈ nws abc L1.length := (nws_mem h).mpr ⟨p, z, hp, rfl⟩
      rwa [← s1] at this
  rcases List.mem_cons.mp hd with q | q
  · exact .inl q
  · by_cases z : isA a o.dropLast = true
    · have zq := isA_iff.mp z
      have hq : 1 ≤ o.dropLast.length := by
        have : o.dropLast ∈ nws abc n := by rw [e1]; exact List.mem_append_left _ q
        exact List.length_pos_iff.mpr (nws_ne h this).1
      refine .inr (.inl ⟨o.dropLast.length, hq, (em _ hq).mpr ?_, zq⟩)
      rw [← zq, e1]
      exact List.mem_append_left _ q
    · refine .inr (.inr ?_)
      show _ ∈ ((nws abc n).filter fun w => !isA a w).take i
      rw [← e2]
      exact List.mem_filter.mpr ⟨q, by simpa using z⟩
include h nd ha in
theorem set_closed {n m0 m j : Nat} (em : ∀ l, 1 ≤ l → (l ≤ m0 ↔ rep a l ∈ nws abc n)) (hm : m0 ≤ m) (hj : j ≤ (oth abc a n).length) :
    (chn a m ++ (oth abc a n).take j).Nodup ∧ ∀ w ∈ chn a m ++ (oth abc a n).take j, w ≠ [] ∧ w.dropLast ∈ [] :: (chn a m ++ (oth abc a n).take j) := by
  have at_ : ∀ w ∈ (oth abc a n).take j, ∃ i, i < j ∧ (oth abc a n)[i]? = some w := fun w hw => by
    obtain ⟨i, hi, e⟩ := List.mem_iff_getElem.mp hw
    rw [List.length_take] at hi
    refine ⟨i, by omega, ?_⟩
    rw [List.getElem_take] at e
    exact List.getElem?_eq_some_iff.mpr ⟨by omega, e⟩
  refine ⟨List.nodup_append.mpr ⟨chn_nd a m, ?_, fun x hx y hy e => ?_⟩, fun w hw => ?_⟩
  · exact (((nws_nd h nd n).sublist List.filter_sublist).sublist (List.take_sublist _ _))
  · subst e
    obtain ⟨i, _, hi⟩ := at_ x hy
    obtain ⟨l, _, _, rfl⟩ := chn_mem.mp hx
    have := (oth_at h nd ha em hi).2.2.1
    rw [isA_iff.mpr (by rw [rep_len])] at this
    cases this
  · rcases List.mem_append.mp hw with hw | hw
    · obtain ⟨l, l1, l2, rfl⟩ := chn_mem.mp hw
      obtain ⟨l, rfl⟩ : ∃ k, l = k + 1 := ⟨l - 1, by omega⟩
      rw [rep_snoc, List.dropLast_concat]
      refine ⟨by simp, ?_⟩
      rcases Nat.eq_zero_or_pos l with z | z
      · subst z; exact List.mem_cons_self ..
      · exact List.mem_cons_of_mem _ (List.mem_append_left _ (chn_mem.mpr ⟨l, z, by omega, rfl⟩))
    · obtain ⟨i, hij, hi⟩ := at_ w hw
      obtain ⟨o1, o2, o3, o4⟩ := oth_at h nd ha em hi
      refine ⟨fun e => by rw [e] at o1; simp at o1, ?_⟩
      rcases o4 with q | ⟨l, l1, l2, q⟩ | q
      · rw [q]; exact List.mem_cons_self ..
      · rw [q]; exact List.mem_cons_of_mem _ (List.mem_append_left _ (chn_mem.mpr ⟨l, l1, by omega, rfl⟩))
      · refine List.mem_cons_of_mem _ (List.mem_append_right _ ?_)
        have : (oth abc a n).take i = ((oth abc a n).take j).take i := by rw [List.take_take, Nat.min_eq_left (by omega)]
        rw [this] at q
        exact List.mem_of_mem_take q
/-- the words that the program ends with -/
def wl (a c : Nat) (O : List Wd) : Nat → Nat → Nat → List Wd
  | 0, m, _ => chn a m
  | j + 1, m, miss => if miss = 0 then chn a m ++ O.take (j + 1) else
      if m + 1 - (O.getD j []).length ≤ miss then wl a c O j (m + 1) (miss - (m + 1 - (O.getD j []).length))
      else chn a m ++ (O.take j ++ [rep a ((O.getD j []).length + miss - 1) ++ [c]])
theorem take_succ_getD {O : List Wd} {j : Nat} (hj : j < O.length) : O.take (j + 1) = O.take j ++ [O.getD j []] := by
  have e := List.getElem?_eq_getElem hj
  rw [takeC e, List.getD_eq_getElem?_getD, e]; rfl
include h nd ha in
theorem wl_good {c n0 n m0 L : Nat} (hc : abc[1]? = some c ∨ oth abc a n0 = []) (en : n0 = n) (em : ∀ l, 1 ≤ l → (l ≤ m0 ↔ rep a l ∈ nws abc n)) (hL : 2 * L < n * (n + 1)) :
    ∀ (j m miss : Nat), m0 ≤ m → j ≤ (oth abc a n).length → m + j = n → ((chn a m ++ (oth abc a n).take j).map List.length).sum + miss = L → GdW abc n L (wl a c (oth abc a n) j m miss) := by
  subst en
  have am : a ∈ abc := List.mem_of_getElem? ha
  have lt1 : ∀ m, ∀ w ∈ chn a m, ∀ x ∈ w, x ∈ abc := fun m w hw x hx => by
    obtain ⟨l, _, _, rfl⟩ := chn_mem.mp hw
    rw [List.eq_of_mem_replicate hx]; exact am
  have lt2 : ∀ j, ∀ w ∈ (oth abc a n0).take j, ∀ x ∈ w, x ∈ abc := fun j w hw x hx => by
    have := List.mem_of_mem_take hw
    obtain ⟨k, _, _, rfl⟩ := (nws_mem h).mp (List.mem_filter.mp this).1
    exact nw_mem h k x hx
  intro j
  induction j with
  | zero =>
    intro m miss hm hj hmj hs
    rw [List.take_zero, List.append_nil] at hs
    have := chn_sum a m
    have e : m = n0 := by omega
    subst e
    omega
  | succ j ih =>
    intro m miss hm hj hmj hs
    unfold wl
    by_cases z : miss = 0
    · rw [if_pos z]
      obtain ⟨c1, c2⟩ := set_closed h nd ha em hm hj
      refine ⟨c1, c2, by rw [List.length_append, chn_len, List.length_take]; omega, by omega, fun w hw => ?_⟩
      rcases List.mem_append.mp hw with q | q
      · exact lt1 m w q
      · exact lt2 _ w q
    · rw [if_neg z]
      have ej := List.getElem?_eq_getElem (show j < (oth abc a n0).length by omega)
      have eo : (oth abc a n0).getD j [] = (oth abc a n0)[j] := by rw [List.getD_eq_getElem?_getD, ej]; rfl
      obtain ⟨o1, o2, o3, o4⟩ := oth_at h nd ha em ej
      rw [← eo] at o1 o2 o3 o4
      rw [take_succ_getD (by omega)] at hs
      generalize (oth abc a n0).getD j [] = o at *
      simp only [List.map_append, List.sum_append, List.map_cons, List.map_nil, List.sum_cons, List.sum_nil] at hs
      by_cases z2 : m + 1 - o.length ≤ miss
      · rw [if_pos z2]
        refine ih (m + 1) _ (by omega) (by omega) (by omega) ?_
        rw [chn_succ]
        simp only [List.map_append, List.sum_append, List.map_cons, List.map_nil, List.sum_cons, List.sum_nil, rep_len]
        omega
      · rw [if_neg z2]
        obtain ⟨c1, c2⟩ := set_closed h nd ha em hm (show j ≤ (oth abc a n0).length by omega)
        have hcm : abc[1]? = some c := by
          rcases hc with q | q
          · exact q
          · rw [q] at hj; simp at hj
        have hsrt : ∀ w ∈ (oth abc a n0).take j, w.length ≤ o.length := fun w hw => by
          obtain ⟨i, hi, e⟩ := List.mem_iff_getElem.mp hw
          rw [List.length_take] at hi
          rw [List.getElem_take] at e
          have pso : (oth abc a n0).Pairwise fun u v => u.length ≤ v.length := (nws_srt h n0).sublist (List.filter_sublist (p := fun w => !isA a w))
          have ps := List.pairwise_iff_getElem.mp pso i j (by omega) (by omega) (by omega)
          rw [e, ← eo] at ps
          exact ps
        have hac : c ≠ a := fun e => by
          subst e
          have := nd_get nd ha hcm
          cases this
        have xnew : rep a (o.length + miss - 1) ++ [c] ∉ chn a m ++ (oth abc a n0).take j := fun hx => by
          rcases List.mem_append.mp hx with q | q
          · obtain ⟨l, l1, _, e⟩ := chn_mem.mp q
            obtain ⟨l, rfl⟩ : ∃ k, l = k + 1 := ⟨l - 1, by omega⟩
            rw [rep_snoc] at e
            exact hac (by have := congrArg List.getLast? e; simpa using this)
          · have := hsrt _ q
            rw [List.length_append, rep_len, List.length_singleton] at this
            omega
        rw [← List.append_assoc]
        refine ⟨List.nodup_append.mpr ⟨c1, List.pairwise_singleton .., fun x hx y hy e => ?_⟩, fun w hw => ?_, ?_, ?_, fun w hw => ?_⟩
        · rw [List.mem_singleton.mp hy] at e
          subst e
          exact xnew hx
        · rcases List.mem_append.mp hw with q | q
          · obtain ⟨d1, d2⟩ := c2 w q
            refine ⟨d1, ?_⟩
            rcases List.mem_cons.mp d2 with d2 | d2
            · rw [d2]; exact List.mem_cons_self ..
            · exact List.mem_cons_of_mem _ (List.mem_append_left _ d2)
          · rw [List.mem_singleton.mp q]
            refine ⟨by simp, ?_⟩
            rw [List.dropLast_concat]
            rcases Nat.eq_zero_or_pos (o.length + miss - 1) with y | y
            · rw [y]; exact List.mem_cons_self ..
            · exact List.mem_cons_of_mem _ (List.mem_append_left _ (List.mem_append_left _ (chn_mem.mpr ⟨_, y, by omega, rfl⟩)))
        · rw [List.length_append, List.length_append, chn_len, List.length_take, List.length_singleton]; omega
        · simp only [List.map_append, List.sum_append, List.map_cons, List.map_nil, List.sum_cons, List.sum_nil, List.length_append, rep_len, List.length_singleton]
          omega
        · rcases List.mem_append.mp hw with q | q
          · rcases List.mem_append.mp q with q | q
            · exact lt1 m w q
            · exact lt2 _ w q
          · rw [List.mem_singleton.mp q]
            intro x hx
            rcases List.mem_append.mp hx with hx | hx
            · rw [List.eq_of_mem_replicate hx]; exact am
            · rw [List.mem_singleton.mp hx]; exact List.mem_of_getElem? hcm
end
/-! ### the text -/
instance (a b : Str) : Decidable (leT a b) := by unfold leT; infer_instance
def srtT (ys : List Str) : List Str := ys.mergeSort fun a b => decide (leT a b)
theorem leT_antisymm {a b : Str} (h1 : leT a b) (h2 : leT b a) : a = b := by
  have : a.cps.toList = b.cps.toList := by
    rcases h1 with h1 | ⟨e1, h1⟩
    · rcases h2 with h2 | ⟨e2, _⟩ <;> omega
    · rcases h2 with h2 | ⟨_, h2⟩
      · omega
      · exact List.le_antisymm (List.not_lt.mp h1) (List.not_lt.mp h2)
  cases a; cases b
  simp only at this
  rw [Array.toList_inj.mp this]
theorem leT_trans {a b c : Str} (h1 : leT a b) (h2 : leT b c) : leT a c := by
  unfold leT at *
  rcases h1 with h1 | ⟨e1, h1⟩
  · left
    rcases h2 with h2 | ⟨e2, _⟩ <;> omega
  · rcases h2 with h2 | ⟨e2, h2⟩
    · left; omega
    · right
      exact ⟨by omega, List.not_lt.mpr (List.le_trans (List.not_lt.mp h1) (List.not_lt.mp h2))⟩
theorem srtT_sorted (ys : List Str) : (srtT ys).Pairwise leT := by
  have := List.pairwise_mergeSort (le := fun a b => decide (leT a b)) (fun a b c h1 h2 => decide_eq_true (leT_trans (of_decide_eq_true h1) (of_decide_eq_true h2))) (fun a b => by
    rw [Bool.or_eq_true, decide_eq_true_iff, decide_eq_true_iff]; exact leT_total a b) ys
  exact this.imp fun h => of_decide_eq_true h
theorem srtT_eq {ys zs : List Str} (p : zs.Perm ys) (h : zs.Pairwise leT) : zs = srtT ys :=
  List.Perm.eq_of_pairwise (fun a b _ _ => leT_antisymm) h (srtT_sorted ys) (p.trans (List.mergeSort_perm ys _).symm)
/-- the words in order, and their text -/
def srtW (S : List Wd) : List Wd := (srtT (S.map T)).map fun s => s.cps.toList
theorem srtW_T (S : List Wd) : (srtW S).map T = srtT (S.map T) := by
  unfold srtW
  rw [List.map_map]
  have : ∀ s : Str, (T ∘ fun s => s.cps.toList) s = s := fun s => by cases s; simp [T]
  rw [List.map_congr_left fun s _ => this s, List.map_id']
theorem srtW_perm (S : List Wd) : (srtW S).Perm S := by
  have p : (srtT (S.map T)).Perm (S.map T) := List.mergeSort_perm _ _
  have := p.map fun s : Str => s.cps.toList
  rw [List.map_map] at this
  have e : S.map ((fun s : Str => s.cps.toList) ∘ T) = S := by
    rw [List.map_congr_left (g := id) fun s _ => by simp [T], List.map_id]
  rw [e] at this
  exact this
theorem srtW_len (S : List Wd) : (srtW S).Pairwise fun a b => a.length ≤ b.length := by
  have h := srtT_sorted (S.map T)
  rw [← srtW_T, List.pairwise_map] at h
  exact h.imp leT_len
theorem GdW.cut {abc : Wd} {n L : Nat} {S : List Wd} (g : GdW abc n L S) : (srtW S).flatten.length = L ∧ (∀ c ∈ (srtW S).flatten, c ∈ abc) ∧ (cutC (srtW S).flatten).rows.length = n := by
  have p := srtW_perm S
  refine ⟨?_, fun c hc => ?_, ?_⟩
  · rw [List.length_flatten, (p.map List.length).sum_nat, g.sum]
  · obtain ⟨w, hw, hc⟩ := List.mem_flatten.mp hc
    exact g.lt w (p.mem_iff.mp hw) c hc
  · have := (cut_closed (srtW S) (p.nodup_iff.mpr g.nd) (sort_closed p (srtW_len S) g.cl)).1
    have e := (cutC_ok (srtW S).flatten).len
    rw [this, List.length_cons, p.length_eq, g.len] at e
    omega
/-- one letter again and again -/
theorem rep_cut {a L n : Nat} (h1 : n * (n + 1) ≤ 2 * L) (h2 : 2 * L ≤ n * (n + 3)) : (cutC (rep a L)).rows.length = n := by
  have hn : n * (n + 3) = n * (n + 1) + 2 * n := by rw [Nat.mul_add n n 3, Nat.mul_add n n 1]; omega
  have cl : ∀ (i : Nat) (w : Wd), (chn a n)[i]? = some w → w ≠ [] ∧ w.dropLast ∈ [] :: (chn a n).take i := fun i w hw => by
    have hi := (List.getElem?_eq_some_iff.mp hw).1
    rw [chn_len] at hi
    unfold chn at hw
    rw [List.getElem?_map, List.getElem?_range hi] at hw
    have : w = rep a (i + 1) := (Option.some.inj hw).symm
    subst this
    rw [rep_snoc, List.dropLast_concat]
    refine ⟨by simp, ?_⟩
    rcases Nat.eq_zero_or_pos i with z | z
    · subst z; exact List.mem_cons_self ..
    · refine List.mem_cons_of_mem _ (List.mem_iff_getElem.mpr ⟨i - 1, by rw [List.length_take, chn_len]; omega, ?_⟩)
      rw [List.getElem_take]
      unfold chn
      rw [List.getElem_map, List.getElem_range, show i - 1 + 1 = i by omega]
  obtain ⟨k1, k2⟩ := cut_closed (chn a n) (chn_nd a n) cl
  have e : ∀ m, (chn a m).flatten = rep a ((chn a m).map List.length).sum := by
    intro m
    induction m with
    | zero => rfl
    | succ m ih =>
      rw [chn_succ, List.flatten_append, ih, List.map_append, List.sum_append]
      simp only [List.flatten_cons, List.flatten_nil, List.append_nil, List.map_cons, List.map_nil, List.sum_cons, List.sum_nil, rep_len, Nat.add_zero]
      unfold rep
      rw [List.replicate_append_replicate]
  have hs := chn_sum a n
  obtain ⟨c1, c2⟩ := cut_walk k1 k2 (rep a (L - ((chn a n).map List.length).sum)) fun l hl => by
    rw [rep_len] at hl
    unfold rep
    rw [List.take_replicate, Nat.min_eq_left hl]
    rcases Nat.eq_zero_or_pos l with z | z
    · subst z; exact List.mem_cons_self ..
    · exact List.mem_cons_of_mem _ (chn_mem.mpr ⟨l, z, by omega, rfl⟩)
  have e2 : (chn a n).flatten ++ rep a (L - ((chn a n).map List.length).sum) = rep a L := by
    rw [e]
    unfold rep
    rw [List.replicate_append_replicate]
    congr 1; omega
  rw [e2] at c1
  have q := (cutC_ok (rep a L)).len
  rw [c1, List.length_cons, chn_len] at q
  omega
def fstL (abc : Wd) : Nat := abc.getD 0 0
def wordsW (abc : Wd) (L n : Nat) : List Wd := wl (fstL abc) (abc.getD 1 0) (oth abc (fstL abc) n) (oth abc (fstL abc) n).length ((nws abc n).filter (isA (fstL abc))).length (L - tot abc.length n)
def textW (abc : Wd) (L n : Nat) : Wd := if n * (n + 1) / 2 ≤ L then rep (fstL abc) L else (srtW (wordsW abc L n)).flatten
theorem fst_at {abc : Wd} (h : 1 ≤ abc.length) : abc[0]? = some (fstL abc) := by
  unfold fstL
  rw [List.getD_eq_getElem?_getD, List.getElem?_eq_getElem (by omega)]; rfl
theorem snd_at {abc : Wd} (h : 2 ≤ abc.length) : abc[1]? = some (abc.getD 1 0) := by
  rw [List.getD_eq_getElem?_getD, List.getElem?_eq_getElem (by omega)]; rfl
theorem oth_one {abc : Wd} (h : abc.length = 1) (n : Nat) : oth abc (fstL abc) n = [] := by
  refine List.filter_eq_nil_iff.mpr fun w hw => ?_
  have hl : ∀ c ∈ w, c ∈ abc := by
    obtain ⟨k, _, _, rfl⟩ := (nws_mem (abc := abc) (by omega)).mp hw
    exact nw_mem (by omega) k
  have : w = rep (fstL abc) w.length := by
    refine List.eq_replicate_iff.mpr ⟨rfl, fun c hc => ?_⟩
    have h1 := hl c hc
    obtain ⟨x, rfl⟩ : ∃ x, abc = [x] := List.length_eq_one_iff.mp h
    exact List.mem_singleton.mp h1
  rw [isA_iff.mpr this]; decide
theorem nws_sum {abc : Wd} (h : 1 ≤ abc.length) (n : Nat) : ((nws abc n).map List.length).sum = tot abc.length n := by
  rw [← List.length_flatten, nws_flat h]
theorem filt_sum {α : Type} (f : α → Nat) (p : α → Bool) : ∀ l : List α, ((l.filter p).map f).sum + ((l.filter fun x => !p x).map f).sum = (l.map f).sum
  | [] => rfl
  | x :: l => by
    have ih := filt_sum f p l
    cases h : p x <;> simp [List.filter_cons, h] <;> omega
theorem split_len2 {α : Type} (p : α → Bool) : ∀ l : List α, (l.filter p).length + (l.filter fun x => !p x).length = l.length
  | [] => rfl
  | x :: l => by
    have ih := split_len2 p l
    cases h : p x <;> simp [List.filter_cons, h] <;> omega
theorem wordsW_good {abc : Wd} (h : 1 ≤ abc.length) (nd : abc.Nodup) {L n : Nat} (g : tot abc.length n ≤ L) (hL : 2 * L < n * (n + 1)) : GdW abc n L (wordsW abc L n) := by
  have ha := fst_at h
  obtain ⟨m0, e, em⟩ := chn_of h nd ha n
  have hc : abc[1]? = some (abc.getD 1 0) ∨ oth abc (fstL abc) n = [] := by
    by_cases z : abc.length = 1
    · exact .inr (oth_one z n)
    · exact .inl (snd_at (by omega))
  have sl := split_len2 (isA (fstL abc)) (nws abc n)
  have fs := filt_sum List.length (isA (fstL abc)) (nws abc n)
  rw [nws_sum h] at fs
  rw [nws_len] at sl
  have eo : (nws abc n).filter (fun x => !isA (fstL abc) x) = oth abc (fstL abc) n := rfl
  rw [eo] at sl fs
  unfold wordsW
  rw [e, chn_len] at sl ⊢
  rw [e] at fs
  refine wl_good h nd ha hc rfl em hL _ _ _ (Nat.le_refl _) (Nat.le_refl _) sl ?_
  rw [List.take_length, List.map_append, List.sum_append]
  omega
theorem textW_good {abc : Wd} (h : 1 ≤ abc.length) (nd : abc.Nodup) {L n : Nat} (g : tot abc.length n ≤ L) (hl : 2 * L ≤ n * (n + 3)) : (textW abc L n).length = L ∧ (∀ c ∈ textW abc L n, c ∈ abc) ∧ (cutC (textW abc L n)).rows.length = n := by
  have ev : 2 * (n * (n + 1) / 2) = n * (n + 1) := by
    have := tot_one n
    omega
  unfold textW
  split
  · rename_i z
    refine ⟨rep_len .., fun c hc => ?_, rep_cut (by omega) hl⟩
    rw [List.eq_of_mem_replicate hc]
    exact List.mem_of_getElem? (fst_at h)
  · rename_i z
    exact (wordsW_good h nd g (by omega)).cut
end PL
end

section
set_option linter.all false
set_option maxRecDepth 100000
set_option maxHeartbeats 1000000
set_option exponentiation.threshold 4000
set_option autoImplicit false
namespace K07
open PySem PySem.Spec PyProof.Rows L2 PL WC
local macro_rules
  | `(tactic| simp! only [$xs,*]) => `(tactic| (try simp only [PL.strIP_i, PL.pChain, PL.allP_lst, PL.anyP_lst, PL.rg3_i, PL.piR3, PL.upP_s, PL.pUp, PL.gcdP_i, PL.xBi, PL.xJoin, PL.xiE, PL.xLc_eq, PL.pRaise1, PL.pRaise2, PL.xPure, PL.xaPure, PL.xaNil, PL.xaCons, PL.xCall, PL.xCallK, PL.nrX, PL.xLst, PL.xTup, PL.xBin, PL.pDropX, PL.pRetX, PL.pSetX, PL.pTry, PL.pIsEs, PL.pLidx, PL.ltTP_t, PL.pRev, PL.revP_l, PL.revP_s, PL.pMtS, PL.mtSP_s, PL.findF_1, PL.findF_2, PL.startsF_1, PL.sidxF_1, PL.scntF_1, PL.pSeq, PL.pNext, PL.pSet, PL.pSetO, PL.pRet, PL.pRetN, PL.pIfS, PL.pFor, PL.pWhile, PL.pBrk, PL.pCnt, PL.pDrop, PL.pApp, PL.pAsg, PL.pgN, PL.pFrz, PL.frz, PL.pC, PL.pN, PL.pNo, PL.pBin, PL.negP, PL.pB, PL.pAnd, PL.pOr, PL.pNot, PL.pAndV, PL.pOrV, PL.pNotV, PL.pIf, PL.paNil, PL.paCons, PL.pLst, PL.pTup, PL.pIx, PL.pSl, PL.poNone, PL.poSome, PL.pCall, PL.pCallK, PL.piR1, PL.piR2, PL.piE, PL.pBits, PL.isiP_eq, PL.pLr1, PL.pJoinR, PL.pJoin, PL.pLc_eq, PL.pYes, PL.wipeC, PL.pBor, PL.pBorT, PL.frzs, PL.pSetI, PL.pChainT, PL.isNP, PL.addP_i, PL.addP_s, PL.addP_t, PL.addP_l, PL.catP_l, PL.subP_i, PL.mulP_i, PL.mulP_l, PL.repP_l, PL.mulP_s, PL.fdivP_i, PL.modP_i, PL.powP_i, PL.ltP_i, PL.ltP_s, PL.gtP_i, PL.gtP_s, PL.leP_i, PL.leP_s, PL.geP_i, PL.geP_s, PL.eqP_int, PL.eqP_str, PL.eqP_bl, PL.eqP_lst_lst, PL.eqP_tup_tup, PL.eqP_lst_tup, PL.eqP_tup_lst, PL.neP_int, PL.neP_str, PL.neP_bl, PL.neP_lst_lst, PL.neP_tup_tup, PL.neP_lst_tup, PL.neP_tup_lst, PL.asB_b, PL.asS_s, PL.lenP_lst, PL.itP_lst, PL.ixP_lst, PL.listP_lst_, PL.tupleP_lst_, PL.sumP_lst_, PL.maxP_lst_, PL.minP_lst_, PL.lenP_tup, PL.itP_tup, PL.ixP_tup, PL.listP_tup_, PL.tupleP_tup_, PL.sumP_tup_, PL.maxP_tup_, PL.minP_tup_, PL.lenP_scr, PL.itP_scr, PL.ixP_scr, PL.listP_scr_, PL.tupleP_scr_, PL.sumP_scr_, PL.maxP_scr_, PL.minP_scr_, PL.lenP_str, PL.lenP_dk, PL.itP_str, PL.ixP_str, PL.intP_i, PL.intP_b, PL.rg1_i, PL.rg2_i, PL.lr1_i, PL.lr2_i, PL.maxP_2, PL.maxP_3, PL.minP_2, PL.minP_3, PL.slP_lst, PL.slP_tup, PL.slP_str, PL.slPL_lst, PL.pgTup_t, PL.pgTup_l, PL.pgsCons_c, PL.pgsNil_n, PL.joinRP_l, PL.reprP_i, PL.reprP_s, PL.setP_i, PL.ixE_0, PL.ixE_1, PL.ixE_2, PL.ixE_3, PL.ixE_4, PL.ixE_5, PL.ixE_6, PL.ixE_7, PL.ixE_8, PL.isqrtP_i, PL.reprLP_l, PL.pMkE, PL.pErF, PL.pIsE, PL.pRevS, PL.pRetO, PL.pRetON, PL.pNever, PL.pExt, PL.listDP_d, PL.pFld, PL.pFldS, PL.setF, PL.slfD, PL.piEn, PL.itEn, PL.isi2P, PL.isBP, PL.pDk, PL.pDt, PL.divmodP_i, PL.pGet, PL.isi_non_int, PL.isi_non_bool, PL.isi_non_str, PL.isi_non_list, PL.isi_non_tuple, PL.isi_bl_int, PL.isi_bl_bool, PL.isi_bl_str, PL.isi_bl_list, PL.isi_bl_tuple, PL.isi_int_int, PL.isi_int_bool, PL.isi_int_str, PL.isi_int_list, PL.isi_int_tuple, PL.isi_str_int, PL.isi_str_bool, PL.isi_str_str, PL.isi_str_list, PL.isi_str_tuple, PL.isi_tup_int, PL.isi_tup_bool, PL.isi_tup_str, PL.isi_tup_list, PL.isi_tup_tuple, PL.isi_lst_int, PL.isi_lst_bool, PL.isi_lst_str, PL.isi_lst_list, PL.isi_lst_tuple, PL.pickL, List.filterMap_cons, List.filterMap_nil, true_and, decide_true, decide_false, eq_self, Int.zero_add, decide_eq_true_eq, PL.rowE, PL.rowS, PL.startC, List.length_map, List.map_cons, List.map_nil, List.length_cons, List.length_nil, List.append_nil, List.nil_append, List.cons_append, List.replicate_succ, List.replicate_zero, List.set_cons_zero, List.set_cons_succ, List.getElem?_cons_zero, List.getElem?_cons_succ, Nat.reduceAdd, Nat.reduceSub, if_true, Bool.not_true, Bool.not_false, Bool.false_eq_true, if_false, $xs,*]))
def sp_law : PSp := fun ds P => ∃ ns : List Int, ds = [.scr (ns.map D.int)] ∧ ns.length ≤ 63 ∧ P (.bl true)
theorem law_in (ns : List Int) (h : ns.length ≤ 63) : sp_law [.scr (ns.map D.int)] (fun d => d = .bl true) := ⟨ns, rfl, h, rfl⟩
theorem len_law : ∀ ds P, sp_law ds P → ds.length = 1 := by rintro _ _ ⟨ns, rfl, _⟩; rfl
def sp_law_cell : PSp := fun ds P => ∃ (ns : List Int) (k : Int), ds = [.scr (ns.map D.int), .int k] ∧ ns.length ≤ 63 ∧ 0 ≤ k ∧ k ≤ 1000000 ∧ ∀ z : Int, P (.int z)
theorem len_law_cell : ∀ ds P, sp_law_cell ds P → ds.length = 2 := by rintro _ _ ⟨ns, n, rfl, _⟩; rfl
theorem w_law_cell : ∀ ds Q, sp_law_cell ds Q → b_law_cell { nx := fun _ => Q .non, rt := Q } (startC ["script", "k", "seed", "cell"] ds) := by
  rintro _ Q ⟨ns, k, rfl, hn, h0, hk, h⟩
  unfold b_law_cell
  simp! only [true_and]
  split
  · rename_i hl
    obtain ⟨x, _, _, e⟩ := atI_mapI D.int h0 hl
    exact ⟨_, e, h _⟩
  · refine for_m (W := fun i env => ∃ (s : Int) (x : C), 0 ≤ s ∧ s < 1000003 ∧ env = [C.fz (.scr (ns.map D.int)), C.fz (.int k), C.fz (.int s), x]) ⟨17, _, by decide, by decide, rfl⟩ ?_ ?_
    · rintro i n env - ⟨s, x, s0, s1, rfl⟩
      simp! only [true_and]
      refine ⟨mulx_ok (a := 20) (b := 5) (by omega) (by decide) (by decide), by decide, by decide, _, _, ?_, ?_, rfl⟩
      · exact Int.emod_nonneg _ (by decide)
      · exact Int.emod_lt_of_pos _ (by decide)
    · rintro env ⟨s, x, s0, s1, rfl⟩
      simp! only [true_and]
      have h1 : 0 ≤ (s + 7) * (k + 3) := Int.mul_nonneg (by omega) (by omega)
      have h2 : (s + 7) * (k + 3) ≤ 1000009 * 1000003 := Int.mul_le_mul (by omega) (by omega) (by omega) (by omega)
      exact ⟨mulx_ok (a := 20) (b := 20) (by omega) (by omega) (by decide), mulx_ok (a := 41) (b := 20) (by omega) (by decide) (by decide), by decide, h _⟩
def sp_law_digits : PSp := fun ds P => ∃ (c : Int) (sizes : List Int), ds = [.int c, .lst (sizes.map D.int)] ∧ sizes.length ≤ 10000 ∧ (∀ s ∈ sizes, 0 < s ∧ s < 2 ^ 1000) ∧
  ∀ row : List Int, Digs row sizes → P (.lst (row.map D.int))
theorem len_law_digits : ∀ ds P, sp_law_digits ds P → ds.length = 2 := by rintro _ _ ⟨ns, n, rfl, _⟩; rfl
theorem w_law_digits : ∀ ds Q, sp_law_digits ds Q → b_law_digits { nx := fun _ => Q .non, rt := Q } (startC ["cell", "sizes", "row", "rest", "size", "seed", "k", "twice"] ds) := by
  rintro _ Q ⟨c, sizes, rfl, hl, hs, h⟩
  unfold b_law_digits
  simp! only [true_and]
  refine ⟨by decide, cpow18, ?_⟩
  have hsz : sizeLine = 16777216 := PySem.sizeLine_eq
  split
  · refine ⟨cpow18, ?_⟩
    refine for_m (W := fun i env => ∃ (row : List Int) (r : Int) (x y z w : C), DigsK i row sizes ∧ env = [C.fz (.int c), C.fz (.lst (sizes.map D.int)), C.ow (.lst (row.map D.int)), C.fz (.int r), x, y, z, w]) ⟨[], _, _, _, _, _, DigsK.nil _, rfl⟩ ?_ ?_
    · rintro k s env hk ⟨row, r, x, y, z, w, hd, rfl⟩
      have hm := hs s (List.mem_of_getElem? hk)
      have hkl : k < sizes.length := (List.getElem?_eq_some_iff.mp hk).1
      simp! only [true_and]
      have := hd.1
      refine ⟨hm.1, by omega, cdivw 1000 hm.1 hm.2 (by decide), row ++ [r % s], _, _, _, _, _, hd.snoc hk (Int.emod_nonneg _ (by omega)) (Int.emod_lt_of_pos _ hm.1), rfl⟩
    · rintro env ⟨row, r, x, y, z, w, hd, rfl⟩
      simp! only [true_and]
      exact h _ hd.done
  · refine ⟨by decide, ⟨by omega, by omega⟩, ?_⟩
    refine for_r (W := fun i env => ∃ (row : List Int) (s : Int) (x y z : C), DigsK i row sizes ∧ 0 ≤ s ∧ s < 2147483647 ∧ env = [C.fz (.int c), C.fz (.lst (sizes.map D.int)), C.ow (.lst (row.map D.int)), C.fz (.int c), x, C.fz (.int s), y, z]) ⟨[], _, _, _, _, DigsK.nil _, Int.emod_nonneg _ (by decide), Int.lt_trans (Int.emod_lt_of_pos _ (by decide)) (by decide), rfl⟩ ?_ ?_
    · rintro k env hk ⟨row, s, x, y, z, hd, s0, s1, rfl⟩
      have hk : k < sizes.length := hk
      obtain ⟨t, ht⟩ : ∃ t, sizes[k]? = some t := ⟨_, List.getElem?_eq_getElem hk⟩
      have hm := hs t (List.mem_of_getElem? ht)
      simp! only [true_and]
      have := hd.1
      have d0 := Int.emod_nonneg (s * 48271 + 974711 * (k : Int) + 12345) (show (2147483647 : Int) ≠ 0 by decide)
      have d1 := Int.emod_lt_of_pos (s * 48271 + 974711 * (k : Int) + 12345) (show (0 : Int) < 2147483647 by decide)
      refine ⟨mulx_ok (a := 31) (b := 16) (by omega) (by decide) (by decide), mulx_ok (a := 20) (b := 14) (by decide) (by omega) (by decide), by decide, cdivw 20 (by decide) (by decide) (by decide), ?_, by decide, cdivw 20 (by decide) (by decide) (by decide), ?_⟩
      · exact mulx_ok (a := 31) (b := 31) (by omega) (by omega) (by decide)
      · refine ⟨D.int t, atI_map D.int ht, ?_⟩
        simp! only [true_and]
        exact ⟨hm.1, by omega, row ++ [_], _, _, _, _, hd.snoc ht (Int.emod_nonneg _ (by omega)) (Int.emod_lt_of_pos _ hm.1), d0, d1, rfl⟩
    · rintro env ⟨row, s, x, y, z, hd, s0, s1, rfl⟩
      simp! only [true_and]
      exact h _ hd.done
/-! ### alphabets, rows, cuts -/
def LET : Wd := [48, 49, 50, 51, 52, 53, 54, 55, 56, 57, 97, 98, 99, 100, 101, 102, 103, 104, 105, 106, 107, 108, 109, 110, 111, 112, 113, 114, 115, 116, 117, 118, 119, 120, 121, 122]
theorem LET_eq : ("0123456789abcdefghijklmnopqrstuvwxyz" : Str) = T LET := by decide +kernel
structure AB (abc : Wd) : Prop where
  l1 : 1 ≤ abc.length
  l6 : abc.length ≤ 6
  mem : ∀ c ∈ abc, c ∈ LET
  srt : ∀ (i : Nat) (a b : Nat), abc[i]? = some a → abc[i + 1]? = some b → a < b
theorem inP_T {neg : Bool} {a : Wd} {c : Nat} {P : D → Prop} : inP neg (.str (T [c])) (.str (T a)) P = P (.bl (decide (c ∈ a) != neg)) := by
  refine propext ⟨fun ⟨z, e, h⟩ => ?_, fun h => ⟨_, rfl, ?_⟩⟩
  · cases e; rwa [in_T] at h
  · rw [in_T]; exact h
theorem atI_T {a : Wd} {k : Nat} {c : Nat} (h : a[k]? = some c) : atI (T a).cps.toList (k : Int) = some c := atI_nat (by show (a.toArray.toList)[k]? = _; simpa using h)
def sp_check_alphabet : PSp := fun ds P => ∃ abc : Wd, ds = [TD abc] ∧ AB abc ∧ P .non
theorem len_check_alphabet : ∀ ds P, sp_check_alphabet ds P → ds.length = 1 := by rintro _ _ ⟨n, rfl, _⟩; rfl
theorem enD_map {α : Type} (f : α → D) (xs : List α) : enD (xs.map f) = (xs.zipIdx).map fun p => D.tup [.int (p.2 : Nat), f p.1] := by
  apply List.ext_getElem?
  intro k
  rw [enD_get, List.getElem?_map, List.getElem?_map, List.getElem?_zipIdx]
  cases xs[k]? <;> simp
/-- a loop over enumerate -/
theorem for_en {α : Type} {f : α → D} {xs : List α} {g : PTG} {body : PTS} {PD : PEnds} {env : List C} (W : Nat → List C → Prop) (h0 : W 0 env)
    (hs : ∀ (k : Nat) (x : α) (env : List C), xs[k]? = some x → W k env → g (.tup [.int (k : Nat), f x]) env fun e => body { nx := W (k + 1), ct := W (k + 1), bk := PD.nx, rt := PD.rt, er := PD.er } e) (hd : ∀ env, W xs.length env → PD.nx env) : forP (sqL (enD (xs.map f))) g body PD env :=
  for_l W h0 (fun k d env hk w => by
    rw [enD_get, List.getElem?_map] at hk
    cases e : xs[k]? with
    | none => rw [e] at hk; cases hk
    | some x => rw [e] at hk; cases hk; exact hs k x env e w) (fun env w => hd env (by rw [enD_len, List.length_map] at w; exact w))
theorem T1_lt (a b : Nat) : decide ((T [a]).cps.toList < (T [b]).cps.toList) = decide (a < b) := by
  have e : ((T [a]).cps.toList < (T [b]).cps.toList) ↔ a < b := by
    show ([a] : List Nat) < [b] ↔ _
    rw [List.cons_lt_cons_iff]
    simp
  by_cases h : a < b
  · rw [decide_eq_true h, decide_eq_true (e.mpr h)]
  · rw [decide_eq_false h, decide_eq_false fun q => h (e.mp q)]
/-! the alphabet's check, with its error -/
def sx_check_alphabet : PSpX := fun ds P R => ∃ w : Wd, ds = [TD w] ∧ w.length ≤ 1000000 ∧ (AB w → P .non) ∧ (¬ AB w → R (.err "BadAlphabet" [("alphabet", TD w)]))
theorem lenx_check_alphabet : ∀ ds P R, sx_check_alphabet ds P R → ds.length = 1 := by rintro _ _ _ ⟨n, rfl, _⟩; rfl
theorem nr_check_alphabet : ∀ ds Q, sp_check_alphabet ds Q → sx_check_alphabet ds Q fun _ => False := by
  rintro _ Q ⟨abc, rfl, ab, q⟩
  exact ⟨abc, rfl, by have := ab.l6; omega, fun _ => q, fun h => h ab⟩
/-- a text is good up to a place -/
structure ABk (w : Wd) (k : Nat) : Prop where
  mem : ∀ (i c : Nat), i < k → w[i]? = some c → c ∈ LET
  srt : ∀ (i a b : Nat), i + 1 < k → w[i]? = some a → w[i + 1]? = some b → a < b
theorem ABk.all {w : Wd} (h : ABk w w.length) (l1 : 1 ≤ w.length) (l6 : w.length ≤ 6) : AB w := ⟨l1, l6, fun c hc => by
  obtain ⟨i, hi, e⟩ := List.mem_iff_getElem.mp hc
  exact h.mem i c hi (List.getElem?_eq_some_iff.mpr ⟨hi, e⟩), fun i a b ha hb => h.srt i a b (List.getElem?_eq_some_iff.mp hb).1 ha hb⟩
theorem wx_check_alphabet : ∀ ds Q R, sx_check_alphabet ds Q R → bX_check_alphabet { nx := fun _ => Q .non, rt := Q, er := fun _ => R } (startC ["alphabet", "index", "letter"] ds) := by
  rintro _ Q R ⟨w, rfl, hl, yes, no⟩
  have hz : sizeLine = 16777216 := PySem.sizeLine_eq
  simp only [PL.startC, List.map_cons, List.map_nil, List.length_cons, List.length_nil, Nat.reduceAdd, Nat.reduceSub, List.replicate_succ, List.replicate_zero, List.cons_append, List.nil_append, List.append_nil]
  unfold bX_check_alphabet
  simp only [show TD w = D.str (T w) from rfl]
  simp! only [true_and]
  rw [T_len, signs_T]
  refine ⟨by omega, ?_⟩
  split
  · rename_i h1
    split
    · rename_i h6
      exact no fun ab => by have := ab.l6; simp at h6; omega
    · rename_i h6
      have h6 : w.length ≤ 6 := by simp at h6; omega
      refine for_en (W := fun i env => ∃ x y : C, ABk w i ∧ env = [C.fz (TD w), x, y]) ⟨.un, .un, ⟨fun i c h => by omega, fun i a b h => by omega⟩, rfl⟩ ?_ ?_
      · rintro k c env hk ⟨x, y, hp, rfl⟩
        simp only [TD, LET_eq]
        simp! only [inP_T]
        by_cases hc : c ∈ LET
        · rw [decide_eq_true hc]
          simp! only [true_and]
          simp only [bne_self_eq_false, Bool.false_eq_true, if_false]
          have step : (∀ a, k ≠ 0 → w[k - 1]? = some a → a < c) → ABk w (k + 1) := fun h => ⟨fun i d hi hd => by
            by_cases z : i = k
            · subst z; rw [hk] at hd; cases hd; exact hc
            · exact hp.mem i d (by omega) hd, fun i a b hi ha hb => by
            by_cases z : i + 1 = k
            · subst z
              rw [hk] at hb; cases hb
              exact h a (by omega) (by simpa using ha)
            · exact hp.srt i a b (by omega) ha hb⟩
          split
          · rename_i hk0
            obtain ⟨j, rfl⟩ : ∃ j, k = j + 1 := ⟨k - 1, by omega⟩
            obtain ⟨d, hd⟩ : ∃ d, w[j]? = some d := ⟨_, List.getElem?_eq_getElem (by have := (List.getElem?_eq_some_iff.mp hk).1; omega)⟩
            rw [show (((j + 1 : Nat) : Int) - 1) = (j : Int) by omega]
            refine ⟨by rw [T_len]; omega, d, atI_T hd, ?_⟩
            rw [show decide (([d] : List Nat) < (T [c]).cps.toList) = decide (d < c) from T1_lt d c]
            by_cases hlt : d < c
            · rw [decide_eq_true hlt]
              simp! only [true_and]
              exact ⟨_, _, step fun a _ ha => by
                rw [Nat.add_sub_cancel, hd] at ha; cases ha; exact hlt, rfl⟩
            · rw [decide_eq_false hlt]
              simp! only [true_and]
              exact no fun ab => hlt (ab.srt j d c hd hk)
          · rename_i hk0
            exact ⟨_, _, step fun a h => absurd (by omega) h, rfl⟩
        · rw [decide_eq_false hc]
          simp! only [true_and]
          rw [if_pos (by decide)]
          exact no fun ab => hc (ab.mem c (List.mem_of_getElem? hk))
      · rintro env ⟨x, y, hp, rfl⟩
        exact yes (hp.all (by omega) h6)
  · rename_i h1
    exact no fun ab => by have := ab.l1; omega
theorem lay_strs (ns : List Str) (h : ∀ s ∈ ns, PyData.canLay0 (.str s) = true) : PyData.canLayAll0 (ns.map PyData.str) = true := by
  induction ns with
  | nil => rfl
  | cons n ns ih =>
    show (PyData.canLay0 (.str n) && PyData.canLayAll0 (ns.map PyData.str)) = true
    rw [ih fun s hs => h s (List.mem_cons_of_mem _ hs), h n (List.mem_cons_self ..)]; rfl
theorem depth_strs (ns : List Str) : PyData.depthAll (ns.map PyData.str) ≤ 1 := by
  induction ns with
  | nil => simp [PyData.depthAll]
  | cons n ns ih =>
    simp only [List.map_cons, PyData.depthAll, PyData.depth]
    omega
theorem cmpOk_str {x : Str} (h : PyData.canLay0 (.str x) = true) : cmpOk (.str x) = true := by
  have h1 : flat (.str x) = true := rfl
  have h2 : SeqAt.shaped (toPy (.str x)) = true := by
    show (PyData.canLay0 (.str x) && decide (PyData.depth (.str x) ≤ 64)) = true
    rw [h, Bool.true_and]
    exact decide_eq_true (by simp only [PyData.depth]; omega)
  unfold cmpOk
  rw [h1, h2]; rfl
theorem cmpOk_strs (ns : List Str) (h : ∀ s ∈ ns, PyData.canLay0 (.str s) = true) : cmpOk (.lst (ns.map D.str)) = true := by
  have h1 : flat (.lst (ns.map D.str)) = true := flats_strs ns
  have h2 : SeqAt.shaped (toPy (.lst (ns.map D.str))) = true := by
    show (PyData.canLay0 (.list (toPys (ns.map D.str))) && decide (PyData.depth (.list (toPys (ns.map D.str))) ≤ 64)) = true
    rw [toPys_strs, Bool.and_eq_true]
    have := depth_strs ns
    exact ⟨lay_strs ns h, decide_eq_true (by simp only [PyData.depth]; omega)⟩
  unfold cmpOk
  rw [h1, h2]; rfl
/-! ### an alphabet of a script -/
theorem nodup_sub {α : Type} : ∀ {l m : List α}, l.Nodup → (∀ x ∈ l, x ∈ m) → l.length ≤ m.length
  | [], _, _, _ => Nat.zero_le _
  | a :: l, m, h, hs => by
    obtain ⟨h1, h2⟩ := List.nodup_cons.mp h
    obtain ⟨s, t, rfl⟩ := List.append_of_mem (hs a (List.mem_cons_self ..))
    have ih := nodup_sub (m := s ++ t) h2 fun x hx => by
      have := hs x (List.mem_cons_of_mem _ hx)
      rcases List.mem_append.mp this with q | q
      · exact List.mem_append_left _ q
      · rcases List.mem_cons.mp q with q | q
        · subst q; exact absurd hx h1
        · exact List.mem_append_right _ q
    rw [List.length_append] at ih
    rw [List.length_append, List.length_cons, List.length_cons]; omega
theorem LET_nd : LET.Nodup := by decide
theorem LET_len : LET.length = 36 := rfl
theorem sorted_wd : ∀ (ys : List Str) (ls : List Nat), (∀ y ∈ ys, ∃ c ∈ ls, y = T [c]) → ∃ abc : Wd, ys = abc.map (fun c => T [c])
  | [], _, _ => ⟨[], rfl⟩
  | y :: ys, ls, h => by
    obtain ⟨c, _, rfl⟩ := h y (List.mem_cons_self ..)
    obtain ⟨abc, e⟩ := sorted_wd ys ls fun z hz => h z (List.mem_cons_of_mem _ hz)
    exact ⟨c :: abc, by rw [e]; rfl⟩
theorem flat1 : ∀ abc : Wd, (abc.map fun c => [c]).flatten = abc
  | [] => rfl
  | a :: l => by rw [List.map_cons, List.flatten_cons, flat1 l]; rfl
theorem sortedS_at : ∀ (abc : Wd) (i a b : Nat), sortedS (abc.map fun c => T [c]) = true → abc[i]? = some a → abc[i + 1]? = some b → a ≤ b
  | [], i, a, b, _, ha, _ => by simp at ha
  | [x], i, a, b, _, _, hb => by simp at hb
  | x :: y :: r, 0, a, b, h, ha, hb => by
    have ha : x = a := by simpa using ha
    have hb : y = b := by simpa using hb
    subst ha hb
    have h : (!ltCps [y] [x] && risingS (T [y]) (r.map fun c => T [c])) = true := h
    rw [Bool.and_eq_true] at h
    have h1 := h.1
    simp [ltCps] at h1
    exact h1
  | x :: y :: r, i + 1, a, b, h, ha, hb => by
    have h : (!ltCps [y] [x] && risingS (T [y]) (r.map fun c => T [c])) = true := h
    rw [Bool.and_eq_true] at h
    exact sortedS_at (y :: r) i a b h.2 (by simpa using ha) (by simpa using hb)
theorem canLay_let : ∀ c ∈ LET, PyData.canLay0 (.str (T [c])) = true := by decide +kernel
theorem hasP_T {c : Nat} : ∀ {ls : List Nat}, hasP (.str (T [c])) (ls.map fun c => D.str (T [c])) = decide (c ∈ ls)
  | [] => rfl
  | d :: ls => by
    have ih := hasP_T (c := c) (ls := ls)
    have e : hasP (.str (T [c])) ((d :: ls).map fun c => D.str (T [c])) = (decide ((T [d] : Str) = T [c]) || hasP (.str (T [c])) (ls.map fun c => D.str (T [c]))) := rfl
    rw [e, ih]
    by_cases h : d = c
    · subst h; simp
    · have h2 : ¬ T [d] = T [c] := fun q => h (by have := T_inj q; simpa using this)
      have h3 : ¬ c = d := fun q => h q.symm
      simp [h2, h3]
def szAb : List Int := [12, 36, 36, 36, 36, 36, 36]
def sp_law_alphabet : PSp := fun ds P => ∃ row : List Int, ds = [.lst (row.map D.int), .int 6] ∧ Digs row szAb ∧ ∀ abc : Wd, AB abc → P (TD abc)
theorem len_law_alphabet : ∀ ds P, sp_law_alphabet ds P → ds.length = 2 := by rintro _ _ ⟨z, rfl, _⟩; rfl
theorem w_law_alphabet : ∀ ds Q, sp_law_alphabet ds Q → b_law_alphabet { nx := fun _ => Q .non, rt := Q } (startC ["row", "upto", "many", "letters", "taken", "k", "at", "turn"] ds) := by
  rintro _ Q ⟨row, rfl, hr, q⟩
  have hs : sizeLine = 16777216 := PySem.sizeLine_eq
  simp only [PL.startC, List.map_cons, List.map_nil, List.length_cons, List.length_nil, Nat.reduceAdd, Nat.reduceSub, List.replicate_succ, List.replicate_zero, List.cons_append, List.nil_append, List.append_nil]
  unfold b_law_alphabet
  obtain ⟨r0, e0, z0, z1⟩ := hr.get (i := 0) rfl
  simp! only [true_and]
  refine ⟨by decide, _, atI_int D.int 0 rfl e0, ?_⟩
  obtain ⟨n, hn⟩ := Int.eq_ofNat_of_zero_le z0
  have hm : ∃ m : Int, 1 ≤ m ∧ m ≤ 6 ∧ atI [D.int 2, D.int 2, D.int 2, D.int 2, D.int 3, D.int 3, D.int 3, D.int 1, D.int 4, D.int 5, D.int 6, D.int 2] r0 = some (D.int m) := by
    subst hn
    have hd : ∀ n, n < 12 → 1 ≤ (([2, 2, 2, 2, 3, 3, 3, 1, 4, 5, 6, 2] : List Int)[n]?).getD 0 ∧ (([2, 2, 2, 2, 3, 3, 3, 1, 4, 5, 6, 2] : List Int)[n]?).getD 0 ≤ 6 := by decide
    have hn12 : n < 12 := by omega
    have h := hd n hn12
    have e : ([2, 2, 2, 2, 3, 3, 3, 1, 4, 5, 6, 2] : List Int)[n]? = some (([2, 2, 2, 2, 3, 3, 3, 1, 4, 5, 6, 2] : List Int)[n]'hn12) := List.getElem?_eq_getElem hn12
    rw [e] at h
    exact ⟨_, h.1, h.2, atI_map D.int e⟩
  obtain ⟨m, m0, m1, em⟩ := hm
  refine ⟨_, em, ?_⟩
  simp! only [true_and]
  rw [show min (6 : Int) m = m by omega]
  refine ⟨by decide, ⟨by omega, by omega⟩, ?_⟩
  simp only [LET_eq]
  refine for_r (W := fun i env => ∃ (ls : List Nat) (x y z : C), ls.length = i ∧ ls.Nodup ∧ (∀ c ∈ ls, c ∈ LET) ∧ env = [C.fz (.lst (row.map D.int)), C.fz (.int 6), C.fz (.int m), C.fz (.str (T LET)), C.ow (.lst (ls.map fun c => D.str (T [c]))), x, y, z]) ⟨[], _, _, _, rfl, by simp, by simp, rfl⟩ ?_ ?_
  · rintro k env hk ⟨ls, x, y, z, c1, c2, c3, rfl⟩
    have hk : k < 6 := by omega
    have hk2 : ∀ j : Nat, j < 6 → szAb[1 + j]? = some 36 := by decide
    obtain ⟨t, et, t0, t1⟩ := hr.get (hk2 k hk)
    have ltr : ∀ j : Nat, j < 36 → ∃ c, LET[j]? = some c := fun j hj => ⟨_, List.getElem?_eq_getElem (by rw [LET_len]; exact hj)⟩
    simp! only [true_and]
    refine ⟨_, atI_int D.int _ (by omega) et, ?_⟩
    simp! only [true_and]
    refine ⟨by decide, ⟨by decide, by decide⟩, ?_⟩
    obtain ⟨t, rfl⟩ := Int.eq_ofNat_of_zero_le t0
    -- at turn i the place is free, or the i places behind the first are taken
    refine for_r (W := fun i env => ∃ (a : Nat) (x z : C), a < 36 ∧ ((∀ c, LET[a]? = some c → c ∉ ls) ∨ (a = (t + i) % 36 ∧ ∀ j c, j < i → LET[(t + j) % 36]? = some c → c ∈ ls)) ∧ env = [C.fz (.lst (row.map D.int)), C.fz (.int 6), C.fz (.int m), C.fz (.str (T LET)), C.ow (.lst (ls.map fun c => D.str (T [c]))), x, C.fz (.int (a : Nat)), z]) ⟨t % 36, _, _, Nat.mod_lt _ (by decide), .inr ⟨rfl, fun j c h => by omega⟩, rfl⟩ ?_ ?_
    · rintro i env hi ⟨a, x, z, a1, inv, rfl⟩
      obtain ⟨c, ec⟩ := ltr a a1
      simp! only [true_and]
      refine ⟨by decide, c, atI_T ec, ?_⟩
      simp! only [inP_l]
      refine ⟨cmpOk_str (canLay_let c (List.mem_of_getElem? ec)), ?_, ?_⟩
      · have := cmpOk_strs (ls.map fun c => T [c]) (fun s h => by
          obtain ⟨d, hd, rfl⟩ := List.mem_map.mp h
          exact canLay_let d (c3 d hd))
        rw [List.map_map] at this; exact this
      rw [show D.str ⟨#[c]⟩ = D.str (T [c]) from rfl, hasP_T]
      by_cases hc : c ∈ ls
      · rw [decide_eq_true hc, if_pos (by decide)]
        refine ⟨by decide, (a + 1) % 36, _, _, Nat.mod_lt _ (by decide), ?_, rfl⟩
        rcases inv with inv | ⟨ia, ib⟩
        · exact absurd hc (inv c ec)
        · refine .inr ⟨by rw [ia]; omega, fun j d hj hd => ?_⟩
          by_cases e : j = i
          · subst e
            rw [← ia, ec] at hd
            cases hd; exact hc
          · exact ib j d (by omega) hd
      · rw [decide_eq_false hc, if_neg (by decide)]
        exact ⟨a, _, _, a1, .inl fun d hd => by rw [ec] at hd; cases hd; exact hc, rfl⟩
    · rintro env ⟨a, x, z, a1, inv, rfl⟩
      obtain ⟨c, ec⟩ := ltr a a1
      have hc : c ∉ ls := by
        rcases inv with inv | ⟨ia, ib⟩
        · exact inv c ec
        · intro _
          have hsub : ∀ d ∈ LET, d ∈ ls := fun d hd => by
            obtain ⟨j, hj, e⟩ := List.mem_iff_getElem.mp hd
            rw [LET_len] at hj
            refine ib ((j + 36 - t) % 36) d (Nat.mod_lt _ (by decide)) ?_
            have : (t + (j + 36 - t) % 36) % 36 = j := by omega
            rw [this]
            exact List.getElem?_eq_some_iff.mpr ⟨by rw [LET_len]; exact hj, e⟩
          have := nodup_sub LET_nd hsub
          rw [LET_len] at this
          omega
      simp! only [true_and]
      refine ⟨by decide, c, atI_T ec, ?_⟩
      simp! only [true_and]
      refine ⟨by omega, ls ++ [c], x, C.fz (.int (a : Nat)), z, by simp [c1], ?_, fun d hd => ?_, ?_⟩
      · rw [List.nodup_append]
        exact ⟨c2, by simp, fun a ha b hb e => by simp at hb; subst hb; subst e; exact hc ha⟩
      · rcases List.mem_append.mp hd with hd | hd
        · exact c3 d hd
        · rw [List.mem_singleton] at hd; subst hd; exact List.mem_of_getElem? ec
      · rw [List.map_append]; rfl
  · rintro env ⟨ls, x, y, z, c1, c2, c3, rfl⟩
    simp! only [true_and]
    have e1 : (ls.map fun c => D.str (T [c])) = (ls.map fun c => T [c]).map D.str := by rw [List.map_map]; rfl
    refine ⟨_, rfl, .inr ⟨ls.map fun c => T [c], by rw [e1, strsOf_map], by rw [List.length_map]; omega, fun ys p1 p2 => ?_⟩⟩
    obtain ⟨abc, rfl⟩ := sorted_wd ys ls fun y hy => by
      obtain ⟨c, hc, rfl⟩ := List.mem_map.mp (p1.mem_iff.mp hy)
      exact ⟨c, hc, rfl⟩
    have hl : abc.length = ls.length := by
      have := p1.length_eq
      rwa [List.length_map, List.length_map] at this
    have hmem : ∀ c ∈ abc, c ∈ ls := fun c hc => by
      obtain ⟨d, hd, e⟩ := List.mem_map.mp (p1.mem_iff.mp (List.mem_map.mpr ⟨c, hc, rfl⟩))
      have := T_inj e
      simp at this; subst this; exact hd
    have hnd : abc.Nodup := by
      have h1 : (ls.map fun c => T [c]).Nodup := c2.map _ fun a b hne e => hne (by have := T_inj e; simpa using this)
      have h2 : (abc.map fun c => T [c]).Nodup := (List.Perm.nodup_iff p1).mpr h1
      exact List.Pairwise.of_map _ (fun a b h e => h (by rw [e])) h2
    have ab : AB abc := ⟨by omega, by omega, fun c hc => c3 c (hmem c hc), fun i a b ha hb => by
      have hle := sortedS_at abc i a b p2 ha hb
      by_cases e : a = b
      · subst e
        have := nd_get hnd ha hb
        omega
      · omega⟩
    have e2 : (abc.map fun c => T [c]).map D.str = abc.map fun c => D.str (T [c]) := by rw [List.map_map]; rfl
    have e3 : (abc.map fun c => T [c]) = (abc.map fun c => [c]).map T := by rw [List.map_map]; rfl
    refine ⟨_, abc.map fun c => T [c], rfl, strsOf_map _, ?_, ?_⟩
    · have hsum := sum_same (fun y : Str => y.length) 1 (abc.map fun c => T [c]) fun w hw => by
        obtain ⟨c, _, rfl⟩ := List.mem_map.mp hw
        rfl
      rw [hsum, List.length_map, str_e]; show _ + _ * 0 ≤ _; omega
    · rw [e3, join_T]
      rw [flat1]
      exact q abc ab
def NI (n : Nat) : D := .int (n : Nat)
def N (p : Nat) : D := .int (p : Int)
def N' (p : Nat) : C := .fz (.int (p : Int))
theorem cm {a b : Nat} (ha : a < 2 ^ 600) (hb : b < 2 ^ 600) : CMulX (a : Int) (b : Int) := mulx_ok (a := 600) (b := 600) (by simpa using ha) (by simpa using hb) (by decide)
theorem nm (a b : Nat) : (a : Int) * (b : Int) = ((a * b : Nat) : Int) := (Int.natCast_mul a b).symm
theorem na (a b : Nat) : (a : Int) + (b : Int) = ((a + b : Nat) : Int) := (Int.natCast_add a b).symm
theorem n1 (a : Nat) : (a : Int) + 1 = ((a + 1 : Nat) : Int) := rfl
theorem n2 (a : Nat) : (a : Int) + 2 = ((a + 2 : Nat) : Int) := rfl
theorem n3 (a : Nat) : (a : Int) + 3 = ((a + 3 : Nat) : Int) := rfl
theorem n2m (a : Nat) : 2 * (a : Int) = ((2 * a : Nat) : Int) := (Int.natCast_mul 2 a).symm
theorem cm2 {a : Nat} (ha : a < 2 ^ 600) : CMulX 2 (a : Int) := mulx_ok (a := 2) (b := 600) (by decide) (by simpa using ha) (by decide)
theorem p30 : (10 : Int) ^ (Int.toNat 30) = 1000000000000000000000000000000 := by decide
theorem p15 : (10 : Int) ^ (Int.toNat 15) = 1000000000000000 := by decide
theorem cp30 : CPow 10 30 := by unfold CPow; decide
theorem cp15 : CPow 10 15 := by unfold CPow; decide
theorem half (x t : Nat) (h : 2 * t = x) : ((x : Nat) : Int) / 2 = (t : Int) := by omega
/-- the powers of a base that is reached -/
theorem pw_bd {b w n : Nat} (hb : 1 ≤ b) (h6 : b ≤ 6) (h : cum b w ≤ n) (hn : n < 2 ^ 200) : b ^ (w + 1) < 2 ^ 210 := by
  rw [Nat.pow_succ]
  by_cases hw : w = 0
  · subst hw
    rw [Nat.pow_zero, Nat.one_mul]
    have e : (2 : Nat) ^ 210 = 2 ^ 10 * 2 ^ 200 := by rw [← Nat.pow_add]
    have : 0 < (2 : Nat) ^ 200 := Nat.pow_pos (by decide)
    omega
  · have h2 := pow_le_cum b w (by omega)
    have h3 : b ^ w * b ≤ 2 ^ 200 * 6 := Nat.mul_le_mul (by omega) h6
    have e : (2 : Nat) ^ 210 = 2 ^ 10 * 2 ^ 200 := by rw [← Nat.pow_add]
    omega
theorem w_bd {b w n : Nat} (hb : 1 ≤ b) (h : cum b w ≤ n) : w ≤ n := Nat.le_trans (le_cum hb w) h
theorem big2 : (2 : Nat) ^ 200 < 2 ^ 210 ∧ (2 : Nat) ^ 210 < 2 ^ 600 ∧ (2 : Nat) ^ 110 < 2 ^ 200 ∧ (2 : Nat) ^ 100 < 2 ^ 110 ∧ 1000000000000000000000000000001 < (2 : Nat) ^ 100 := by decide
theorem up1 {n : Nat} (h : n < 2 ^ 200) : n + 3 < 2 ^ 600 := by
  have := big2
  have : (2 : Nat) ^ 210 = 2 ^ 10 * 2 ^ 200 := by rw [← Nat.pow_add]
  omega
def sp_greatest_count : PSp := fun ds P => ∃ b L : Nat, ds = [N b, N L] ∧ 1 ≤ b ∧ b ≤ 6 ∧ L < 2 ^ 100 ∧ ∀ n, Gs b L n → P (N n)
theorem len_greatest_count : ∀ ds P, sp_greatest_count ds P → ds.length = 2 := by rintro _ _ ⟨_, n, rfl, _⟩; rfl
theorem sq_nat {r : Int} {L : Nat} (r0 : 0 ≤ r) (h1 : r * r ≤ ((2 * L : Nat) : Int)) (h2 : ((2 * L : Nat) : Int) < (r + 1) * (r + 1)) : ∃ m : Nat, r = (m : Int) ∧ m * m ≤ 2 * L ∧ 2 * L < (m + 1) * (m + 1) := by
  obtain ⟨m, rfl⟩ := Int.eq_ofNat_of_zero_le r0
  refine ⟨m, rfl, ?_, ?_⟩
  · rw [nm] at h1; omega
  · rw [n1, nm] at h2; omega
theorem m_le {m L : Nat} (h : m * m ≤ 2 * L) : m ≤ 2 * L := by
  cases m with
  | zero => omega
  | succ m =>
    have : (m + 1) * 1 ≤ (m + 1) * (m + 1) := Nat.mul_le_mul_left _ (by omega)
    omega
theorem w_greatest_count : ∀ ds Q, sp_greatest_count ds Q → b_greatest_count { nx := fun _ => Q .non, rt := Q } (startC ["size", "length", "count", "left", "letters", "texts"] ds) := by
  rintro _ Q ⟨b, L, rfl, b1, b6, hL, q⟩
  have bg := big2
  simp only [PL.startC, List.map_cons, List.map_nil, List.length_cons, List.length_nil, Nat.reduceAdd, Nat.reduceSub, List.replicate_succ, List.replicate_zero, List.cons_append, List.nil_append, List.append_nil]
  unfold b_greatest_count
  simp only [show N b = D.int (b : Int) from rfl, show N L = D.int (L : Int) from rfl]
  simp! only [true_and]
  split
  · rename_i e
    obtain rfl : b = 1 := by omega
    refine ⟨cm2 (by omega), ?_⟩
    rw [n2m]
    refine ⟨by omega, ?_, fun r r0 r1 r2 => ?_⟩
    · have h2 : (2 * L : Nat) < 2 ^ 600 := by omega
      have e : ((2 ^ 600 : Nat) : Int) = 2 ^ 600 := by simp
      have : (2 : Int) ^ 600 ≤ 2 ^ 2000 := pow2_le (by decide)
      omega
    · obtain ⟨m, rfl, m1, m2⟩ := sq_nat r0 r1 r2
      have ml := m_le m1
      have tm := tot_one m
      have tm1 := tot_one (m + 1)
      have e1 : (m + 1) * (m + 1) = m * m + 2 * m + 1 := by simp only [Nat.mul_add, Nat.add_mul]; omega
      have e2 : m * (m + 1) = m * m + m := by simp only [Nat.mul_add]; omega
      have e3 : (m + 1) * (m + 1 + 1) = m * m + 3 * m + 2 := by simp only [Nat.mul_add, Nat.add_mul]; omega
      simp! only [true_and]
      rw [n1, nm]
      refine ⟨cm (by omega) (by omega), cm2 (by omega), ?_⟩
      split
      · rename_i hg
        obtain ⟨j, rfl⟩ : ∃ j, m = j + 1 := ⟨m - 1, by
          have : m ≠ 0 := fun z => by subst z; omega
          omega⟩
        have tj := tot_one j
        have e4 : (j + 1) * (j + 1) = j * (j + 1) + (j + 1) := by rw [Nat.add_mul, Nat.one_mul]
        rw [show (((j + 1 : Nat) : Int) - 1) = (j : Int) by omega]
        exact q j ⟨by omega, by omega⟩
      · rename_i hg
        exact q m ⟨by omega, by omega⟩
  · refine ⟨fun m env => ∃ (w : Nat), tot b (cum b w) ≤ L ∧ m = L - tot b (cum b w) ∧ env = [N' b, N' L, N' (cum b w), N' (L - tot b (cum b w)), N' (w + 1), N' (b ^ (w + 1))], ⟨_, 0, Nat.zero_le _, rfl, ?_⟩, ?_⟩
    · unfold N'
      rw [Nat.pow_one]; rfl
    · rintro m env ⟨w, ht, rfl, rfl⟩
      have hc : cum b w ≤ L := Nat.le_trans (le_tot b1 _) ht
      have hp := pw_bd b1 b6 hc (by omega)
      have hw := w_bd b1 hc
      unfold N'
      simp! only [true_and]
      rw [nm]
      refine ⟨cm (by omega) (by omega), ?_⟩
      split
      · rename_i hl
        have hm := tot_more b1 (Nat.le_refl (cum b w)) (b ^ (w + 1)) (Nat.le_refl _)
        have hs : cum b (w + 1) = cum b w + b ^ (w + 1) := rfl
        rw [Nat.mul_comm (w + 1)] at hm
        rw [← hs] at hm
        have hpos : 1 ≤ b ^ (w + 1) * (w + 1) := Nat.mul_pos (Nat.pow_pos b1) (by omega)
        rw [nm]
        refine ⟨cm (by omega) (by omega), cm (by omega) (by omega), _, ?_, w + 1, ?_, rfl, ?_⟩
        · omega
        · omega
        · rw [na, n1, show ((L - tot b (cum b w) : Nat) : Int) - ((b ^ (w + 1) * (w + 1) : Nat) : Int) = ((L - tot b (cum b (w + 1)) : Nat) : Int) by omega, ← Nat.pow_succ]
          rfl
      · rename_i hl
        refine ⟨cdivw 250 (by omega) ?_ (by decide), ?_⟩
        · have : (w + 1 : Nat) < 2 ^ 210 := by omega
          have e : ((2 ^ 210 : Nat) : Int) = 2 ^ 210 := by simp
          have : (2 : Int) ^ 210 ≤ 2 ^ 250 := pow2_le (by decide)
          omega
        · rw [show ((L - tot b (cum b w) : Nat) : Int) / ((w + 1 : Nat) : Int) = (((L - tot b (cum b w)) / (w + 1) : Nat) : Int) from rfl, na]
          exact q _ (Gs.of b1 ht (by omega))
/-! texts as data: equality -/
theorem TD_strs (ws : List Wd) : ws.map TD = (ws.map T).map D.str := by rw [List.map_map]; rfl
theorem strOk_T {w : Wd} (h : ∀ c ∈ w, c < 1114112) : PyData.canLay0 (.str (T w)) = true := by
  show (w.toArray.all (· < 0x110000)) = true
  rw [List.all_toArray, List.all_eq_true]
  exact fun c hc => decide_eq_true (h c hc)
theorem LET_lt : ∀ c ∈ LET, c < 1114112 := by decide
theorem cmpOk_T {w : Wd} (h : ∀ c ∈ w, c < 1114112) : cmpOk (TD w) = true := cmpOk_str (strOk_T h)
theorem cmpOk_TDs {ws : List Wd} (h : ∀ w ∈ ws, ∀ c ∈ w, c < 1114112) : cmpOk (.lst (ws.map TD)) = true := by
  rw [TD_strs]
  refine cmpOk_strs _ fun s hs => ?_
  obtain ⟨w, hw, rfl⟩ := List.mem_map.mp hs
  exact strOk_T (h w hw)
theorem cmpOk_TDt {ws : List Wd} (h : ∀ w ∈ ws, ∀ c ∈ w, c < 1114112) : cmpOk (.tup (ws.map TD)) = true := by
  have q := cmpOk_TDs h
  unfold cmpOk at q ⊢
  exact q
theorem toPys_TD : ∀ ws : List Wd, toPys (ws.map TD) = ws.map fun w => PyData.str (T w)
  | [] => rfl
  | w :: ws => by
    show toPy (TD w) :: toPys (ws.map TD) = _
    rw [toPys_TD ws]; rfl
theorem eqv_T (a b : Wd) : PyData.eqv (toPy (TD a)) (toPy (TD b)) = decide (a = b) := by
  show PyData.eqv (.str (T a)) (.str (T b)) = _
  simp only [PyData.eqv]
  by_cases h : a = b
  · subst h; simp
  · have : ¬ T a = T b := fun e => h (T_inj e)
    simp [h, this]
theorem eqv_TDs : ∀ as bs : List Wd, PyData.eqvAll (toPys (as.map TD)) (toPys (bs.map TD)) = decide (as = bs)
  | [], [] => by simp [toPys, PyData.eqvAll]
  | [], _ :: _ => by simp [toPys, PyData.eqvAll]
  | _ :: _, [] => by simp [toPys, PyData.eqvAll]
  | a :: as, b :: bs => by
    have ih := eqv_TDs as bs
    have e := eqv_T a b
    rw [List.map_cons, List.map_cons]
    simp only [toPys, PyData.eqvAll, ih, e]
    by_cases h : a = b
    · subst h
      by_cases h2 : as = bs <;> simp [h2]
    · simp [h]
theorem eqv_TDt (as bs : List Wd) : PyData.eqv (toPy (.tup (as.map TD))) (toPy (.tup (bs.map TD))) = decide (as = bs) := eqv_TDs as bs
theorem eqv_TDl (as bs : List Wd) : PyData.eqv (toPy (.lst (as.map TD))) (toPy (.lst (bs.map TD))) = decide (as = bs) := eqv_TDs as bs
theorem firstAt_TD {ws : List Wd} (nd : ws.Nodup) {i : Nat} {w : Wd} (h : ws[i]? = some w) : firstAt (ws.map TD) (TD w) i := by
  refine ⟨⟨TD w, by rw [List.getElem?_map, h]; rfl, by rw [eqv_T]; simp⟩, fun m z hm hz => ?_⟩
  rw [List.getElem?_map] at hz
  cases e : ws[m]? with
  | none => rw [e] at hz; cases hz
  | some v =>
    rw [e] at hz
    cases hz
    rw [eqv_T]
    refine decide_eq_false fun z => ?_
    subst z
    have := nd_get nd e h
    omega
end K07
end

section
set_option linter.all false
set_option maxRecDepth 100000
set_option maxHeartbeats 1000000
set_option exponentiation.threshold 4000
set_option autoImplicit false
namespace K07
open PySem PySem.Spec PyProof.Rows L2 PL WC
local macro_rules
  | `(tactic| simp! only [$xs,*]) => `(tactic| (try simp only [PL.strIP_i, PL.pChain, PL.allP_lst, PL.anyP_lst, PL.rg3_i, PL.piR3, PL.upP_s, PL.pUp, PL.gcdP_i, PL.xBi, PL.xJoin, PL.xiE, PL.xLc_eq, PL.pRaise1, PL.pRaise2, PL.xPure, PL.xaPure, PL.xaNil, PL.xaCons, PL.xCall, PL.xCallK, PL.nrX, PL.xLst, PL.xTup, PL.xBin, PL.pDropX, PL.pRetX, PL.pSetX, PL.pTry, PL.pIsEs, PL.pLidx, PL.ltTP_t, PL.pRev, PL.revP_l, PL.revP_s, PL.pMtS, PL.mtSP_s, PL.findF_1, PL.findF_2, PL.startsF_1, PL.sidxF_1, PL.scntF_1, PL.pSeq, PL.pNext, PL.pSet, PL.pSetO, PL.pRet, PL.pRetN, PL.pIfS, PL.pFor, PL.pWhile, PL.pBrk, PL.pCnt, PL.pDrop, PL.pApp, PL.pAsg, PL.pgN, PL.pFrz, PL.frz, PL.pC, PL.pN, PL.pNo, PL.pBin, PL.negP, PL.pB, PL.pAnd, PL.pOr, PL.pNot, PL.pAndV, PL.pOrV, PL.pNotV, PL.pIf, PL.paNil, PL.paCons, PL.pLst, PL.pTup, PL.pIx, PL.pSl, PL.poNone, PL.poSome, PL.pCall, PL.pCallK, PL.piR1, PL.piR2, PL.piE, PL.pBits, PL.isiP_eq, PL.pLr1, PL.pJoinR, PL.pJoin, PL.pLc_eq, PL.pYes, PL.wipeC, PL.pBor, PL.pBorT, PL.frzs, PL.pSetI, PL.pChainT, PL.isNP, PL.addP_i, PL.addP_s, PL.addP_t, PL.addP_l, PL.catP_l, PL.subP_i, PL.mulP_i, PL.mulP_l, PL.repP_l, PL.mulP_s, PL.fdivP_i, PL.modP_i, PL.powP_i, PL.ltP_i, PL.ltP_s, PL.gtP_i, PL.gtP_s, PL.leP_i, PL.leP_s, PL.geP_i, PL.geP_s, PL.eqP_int, PL.eqP_str, PL.eqP_bl, PL.eqP_lst_lst, PL.eqP_tup_tup, PL.eqP_lst_tup, PL.eqP_tup_lst, PL.neP_int, PL.neP_str, PL.neP_bl, PL.neP_lst_lst, PL.neP_tup_tup, PL.neP_lst_tup, PL.neP_tup_lst, PL.asB_b, PL.asS_s, PL.lenP_lst, PL.itP_lst, PL.ixP_lst, PL.listP_lst_, PL.tupleP_lst_, PL.sumP_lst_, PL.maxP_lst_, PL.minP_lst_, PL.lenP_tup, PL.itP_tup, PL.ixP_tup, PL.listP_tup_, PL.tupleP_tup_, PL.sumP_tup_, PL.maxP_tup_, PL.minP_tup_, PL.lenP_scr, PL.itP_scr, PL.ixP_scr, PL.listP_scr_, PL.tupleP_scr_, PL.sumP_scr_, PL.maxP_scr_, PL.minP_scr_, PL.lenP_str, PL.lenP_dk, PL.itP_str, PL.ixP_str, PL.intP_i, PL.intP_b, PL.rg1_i, PL.rg2_i, PL.lr1_i, PL.lr2_i, PL.maxP_2, PL.maxP_3, PL.minP_2, PL.minP_3, PL.slP_lst, PL.slP_tup, PL.slP_str, PL.slPL_lst, PL.pgTup_t, PL.pgTup_l, PL.pgsCons_c, PL.pgsNil_n, PL.joinRP_l, PL.reprP_i, PL.reprP_s, PL.setP_i, PL.ixE_0, PL.ixE_1, PL.ixE_2, PL.ixE_3, PL.ixE_4, PL.ixE_5, PL.ixE_6, PL.ixE_7, PL.ixE_8, PL.isqrtP_i, PL.reprLP_l, PL.pMkE, PL.pErF, PL.pIsE, PL.pRevS, PL.pRetO, PL.pRetON, PL.pNever, PL.pExt, PL.listDP_d, PL.pFld, PL.pFldS, PL.setF, PL.slfD, PL.piEn, PL.itEn, PL.isi2P, PL.isBP, PL.pDk, PL.pDt, PL.divmodP_i, PL.pGet, PL.isi_non_int, PL.isi_non_bool, PL.isi_non_str, PL.isi_non_list, PL.isi_non_tuple, PL.isi_bl_int, PL.isi_bl_bool, PL.isi_bl_str, PL.isi_bl_list, PL.isi_bl_tuple, PL.isi_int_int, PL.isi_int_bool, PL.isi_int_str, PL.isi_int_list, PL.isi_int_tuple, PL.isi_str_int, PL.isi_str_bool, PL.isi_str_str, PL.isi_str_list, PL.isi_str_tuple, PL.isi_tup_int, PL.isi_tup_bool, PL.isi_tup_str, PL.isi_tup_list, PL.isi_tup_tuple, PL.isi_lst_int, PL.isi_lst_bool, PL.isi_lst_str, PL.isi_lst_list, PL.isi_lst_tuple, PL.pickL, List.filterMap_cons, List.filterMap_nil, true_and, decide_true, decide_false, eq_self, Int.zero_add, decide_eq_true_eq, PL.rowE, PL.rowS, PL.startC, List.length_map, List.map_cons, List.map_nil, List.length_cons, List.length_nil, List.append_nil, List.nil_append, List.cons_append, List.replicate_succ, List.replicate_zero, List.set_cons_zero, List.set_cons_succ, List.getElem?_cons_zero, List.getElem?_cons_succ, Nat.reduceAdd, Nat.reduceSub, if_true, Bool.not_true, Bool.not_false, Bool.false_eq_true, if_false, $xs,*]))
def Ls (L n : Nat) : Prop := 2 * L ≤ n * (n + 3) ∧ (n = 0 ∨ (n - 1) * (n + 2) < 2 * L)
def sp_least_count : PSp := fun ds P => ∃ L : Nat, ds = [N L] ∧ L < 2 ^ 100 ∧ ∀ n, Ls L n → P (N n)
theorem len_least_count : ∀ ds P, sp_least_count ds P → ds.length = 1 := by rintro _ _ ⟨n, rfl, _⟩; rfl
theorem w_least_count : ∀ ds Q, sp_least_count ds Q → b_least_count { nx := fun _ => Q .non, rt := Q } (startC ["length", "count"] ds) := by
  rintro _ Q ⟨L, rfl, hL, q⟩
  have bg := big2
  simp only [PL.startC, List.map_cons, List.map_nil, List.length_cons, List.length_nil, Nat.reduceAdd, Nat.reduceSub, List.replicate_succ, List.replicate_zero, List.cons_append, List.nil_append, List.append_nil]
  unfold b_least_count
  simp only [show N L = D.int (L : Int) from rfl]
  simp! only [true_and]
  refine ⟨cm2 (by omega), ?_⟩
  rw [n2m]
  refine ⟨by omega, ?_, fun r r0 r1 r2 => ?_⟩
  · have h2 : (2 * L : Nat) < 2 ^ 600 := by omega
    have e : ((2 ^ 600 : Nat) : Int) = 2 ^ 600 := by simp
    have : (2 : Int) ^ 600 ≤ 2 ^ 2000 := pow2_le (by decide)
    omega
  · obtain ⟨m, rfl, m1, m2⟩ := sq_nat r0 r1 r2
    have ml := m_le m1
    have e1 : (m + 1) * (m + 1) = m * m + 2 * m + 1 := by simp only [Nat.mul_add, Nat.add_mul]; omega
    have e2 : m * (m + 3) = m * m + 3 * m := by simp only [Nat.mul_add]; omega
    simp! only [true_and]
    split
    · rename_i hg
      obtain ⟨j, rfl⟩ : ∃ j, m = j + 1 := ⟨m - 1, by omega⟩
      have e4 : (j + 1) * (j + 1) = j * j + 2 * j + 1 := by simp only [Nat.mul_add, Nat.add_mul]; omega
      have e5 : j * (j + 3) = j * j + 3 * j := by simp only [Nat.mul_add]; omega
      have e9 : j * (j + 1 + 2) = j * j + 3 * j := by simp only [Nat.mul_add]; omega
      have e6 : (j + 1 - 1) * (j + 1 + 2) = j * j + 3 * j := by rw [Nat.add_sub_cancel]; simp only [Nat.mul_add]; omega
      rw [show (((j + 1 : Nat) : Int) - 1) = (j : Int) by omega, n2, nm]
      refine ⟨cm (by omega) (by omega), cm2 (by omega), ?_⟩
      split
      · rename_i hc
        simp! only [true_and]
        refine q j ⟨by omega, ?_⟩
        by_cases z : j = 0
        · exact .inl z
        · right
          obtain ⟨i, rfl⟩ : ∃ i, j = i + 1 := ⟨j - 1, by omega⟩
          have e7 : (i + 1 - 1) * (i + 1 + 2) = i * i + 3 * i := by rw [Nat.add_sub_cancel]; simp only [Nat.mul_add]; omega
          have e8 : (i + 1) * (i + 1) = i * i + 2 * i + 1 := by simp only [Nat.mul_add, Nat.add_mul]; omega
          omega
      · rename_i hc
        simp! only [true_and]
        exact q (j + 1) ⟨by omega, .inr (by omega)⟩
    · rename_i hg
      simp! only [true_and]
      exact q m ⟨by omega, .inl (by omega)⟩
theorem ls_gs {L n : Nat} (h : Ls L n) : Gs 1 L n := least_gs h.1 h.2
/-! ### all words in order -/
theorem AB.nd {abc : Wd} (ab : AB abc) : abc.Nodup := by
  have lt : ∀ d i a b, abc[i]? = some a → abc[i + d + 1]? = some b → a < b := by
    intro d
    induction d with
    | zero => exact fun i a b ha hb => ab.srt i a b ha hb
    | succ d ih =>
      intro i a b ha hb
      have hl := (List.getElem?_eq_some_iff.mp hb).1
      obtain ⟨c, hc⟩ : ∃ c, abc[i + d + 1]? = some c := ⟨_, List.getElem?_eq_getElem (by omega)⟩
      exact Nat.lt_trans (ih i a c ha hc) (ab.srt (i + d + 1) c b hc hb)
  refine List.pairwise_iff_getElem.mpr fun i j hi hj hij e => ?_
  have := lt (j - i - 1) i abc[i] abc[j] (List.getElem?_eq_getElem hi) (by rw [show i + (j - i - 1) + 1 = j by omega]; exact List.getElem?_eq_getElem hj)
  omega
theorem nw_bd {abc : Wd} (h : 1 ≤ abc.length) (k : Nat) : (nw abc k).length ≤ k := by rw [nw_len h]; exact ln_le h k
def sp_first_words : PSp := fun ds P => ∃ (abc : Wd) (n : Nat), ds = [TD abc, .int (n : Nat)] ∧ AB abc ∧ n ≤ 10000 ∧ P (.lst ((nws abc n).map TD))
theorem len_first_words : ∀ ds P, sp_first_words ds P → ds.length = 2 := by rintro _ _ ⟨_, n, rfl, _⟩; rfl
theorem nw0_cut (abc : Wd) {n m : Nat} (h : n + 1 ≤ m) : cutD ((nw0 abc m).map TD) (some (1 : Int)) (some ((n : Int) + 1)) = (nws abc n).map TD := by
  rw [show ((n : Int) + 1) = ((n + 1 : Nat) : Int) by omega, show (1 : Int) = ((1 : Nat) : Int) from rfl, cutD_map TD _ 1 (n + 1) (by rw [nw0_len]; exact h)]
  congr 1
  apply List.ext_getElem?
  intro i
  rw [List.getElem?_take]
  split
  · rename_i hi
    rw [List.getElem?_drop, nw0_get (by omega), nws_get (by omega), Nat.add_comm]
  · rename_i hi
    rw [List.getElem?_eq_none (by rw [nws_len]; omega)]
theorem w_first_words : ∀ ds Q, sp_first_words ds Q → b_first_words { nx := fun _ => Q .non, rt := Q } (startC ["alphabet", "count", "words", "index", "letter"] ds) := by
  rintro _ Q ⟨abc, n, rfl, ab, hn, q⟩
  have hz : sizeLine = 16777216 := PySem.sizeLine_eq
  have l1 := ab.l1; have l6 := ab.l6
  simp only [PL.startC, List.map_cons, List.map_nil, List.length_cons, List.length_nil, Nat.reduceAdd, Nat.reduceSub, List.replicate_succ, List.replicate_zero, List.cons_append, List.nil_append, List.append_nil]
  unfold b_first_words
  simp! only [true_and]
  refine ⟨by decide, ?_⟩
  refine ⟨fun m env => ∃ (i : Nat) (x : C), m + (abc.length * i + 1) = n + 100 ∧ env = [C.fz (TD abc), C.fz (.int (n : Nat)), C.ow (.lst ((nw0 abc (abc.length * i + 1)).map TD)), C.fz (.int (i : Nat)), x], ⟨n + 99, 0, .un, by omega, by rw [Nat.mul_zero, Nat.zero_add, show nw0 abc 1 = [[]] from by rw [nw0_succ]; rfl]; rfl⟩, ?_⟩
  rintro m env ⟨i, x, hm, rfl⟩
  simp! only [true_and]
  rw [nw0_len]
  split
  · rename_i hle
    have hle : abc.length * i + 1 ≤ n := by omega
    simp only [show TD abc = D.str (T abc) from rfl]
    simp! only [true_and]
    rw [signs_T]
    refine for_m (W := fun j env => ∃ x : C, env = [C.fz (TD abc), C.fz (.int (n : Nat)), C.ow (.lst ((nw0 abc (abc.length * i + 1 + j)).map TD)), C.fz (.int (i : Nat)), x]) ⟨x, rfl⟩ ?_ ?_
    · rintro j c env hc ⟨x, rfl⟩
      have hj := (List.getElem?_eq_some_iff.mp hc).1
      have hi : i ≤ abc.length * i := Nat.le_mul_of_pos_left i (by omega)
      have hb := nw_bd l1 i
      simp! only [true_and]
      refine ⟨_, atI_map TD (nw0_get (by omega)), ?_⟩
      simp only [TD]
      simp! only [true_and]
      rw [T_app, T_len, T_len, nw0_len]
      refine ⟨by show (nw abc i).length + 1 ≤ _; omega, by omega, C.fz (TD [c]), ?_⟩
      rw [show abc.length * i + 1 + (j + 1) = abc.length * i + 1 + j + 1 by omega, nw0_snoc, nw_child l1 i j hc, List.map_append]
      rfl
    · rintro env ⟨x, rfl⟩
      simp! only [true_and]
      refine ⟨m - abc.length, by omega, i + 1, x, ?_, ?_⟩
      · rw [Nat.mul_add, Nat.mul_one]; omega
      · rw [Nat.mul_add, Nat.mul_one, show abc.length * i + 1 + abc.length = abc.length * i + abc.length + 1 by omega]
        rfl
  · rename_i hle
    rw [nw0_cut abc (by omega)]
    exact q
theorem joinT {ps : List Wd} {P : D → Prop} (hs : ps.flatten.length ≤ 16000000) (h : P (TD ps.flatten)) : joinP (Str.ofString "") (.lst (ps.map TD)) P := by
  have e1 : ps.map TD = (ps.map T).map D.str := by rw [List.map_map]; rfl
  refine ⟨_, ps.map T, rfl, by rw [e1, strsOf_map], ?_, ?_⟩
  · rw [List.map_map, show ((fun x : Str => x.length) ∘ T) = List.length from rfl, show (Str.ofString "").length = 0 by decide +kernel, ← List.length_flatten]; omega
  · rw [join_T]; exact h
/-- the greatest number of words in so many letters -/
theorem gs_ex {b : Nat} (hb : 1 ≤ b) (L : Nat) : ∃ n, Gs b L n := by
  have key : ∀ k, L < tot b (k + 1) → ∃ n, Gs b L n := by
    intro k
    induction k with
    | zero =>
      intro h
      exact ⟨0, by show 0 ≤ L; omega, h⟩
    | succ k ih =>
      intro h
      by_cases z : L < tot b (k + 1)
      · exact ih z
      · exact ⟨k + 1, by omega, h⟩
  exact key L (by have := le_tot hb (L + 1); omega)
theorem intsOf_NI (ps : List Nat) : intsOf (ps.map NI) = some (ps.map fun p : Nat => (p : Int)) := by
  have : ps.map NI = (ps.map fun p : Nat => (p : Int)).map D.int := by rw [List.map_map]; rfl
  rw [this, intsOf_map]
theorem sum_NI (ps : List Nat) : (ps.map fun p : Nat => (p : Int)).sum = ((ps.sum : Nat) : Int) := by
  induction ps with
  | nil => rfl
  | cons p ps ih => simp only [List.map_cons, List.sum_cons, ih]; omega
def sp_order_of_text : PSp := fun _ _ => False
theorem len_order_of_text : ∀ ds P, sp_order_of_text ds P → ds.length = 1 := fun _ _ h => h.elim
theorem w_order_of_text : ∀ ds Q, sp_order_of_text ds Q → b_order_of_text { nx := fun _ => Q .non, rt := Q } (startC ["text"] ds) := fun _ _ h => h.elim
def sp_words_with_total : PSp := fun ds P => ∃ (abc : Wd) (L n : Nat), ds = [TD abc, .int (L : Nat), .int (n : Nat)] ∧ AB abc ∧ n ≤ 1000 ∧ L ≤ 400 ∧ tot abc.length n ≤ L ∧ 2 * L < n * (n + 1) ∧ P (.lst ((srtW (wordsW abc L n)).map TD))
theorem len_words_with_total : ∀ ds P, sp_words_with_total ds P → ds.length = 3 := by rintro _ _ ⟨_, _, n, rfl, _⟩; rfl
theorem repS_T (a l : Nat) : repS (T [a]) l = T (rep a l) := by
  have h : (repS (T [a]) l).cps.toList = rep a l := by
    rw [repS_tl]
    show (List.replicate l [a]).flatten = _
    induction l with
    | zero => rfl
    | succ l ih => rw [List.replicate_succ, List.flatten_cons, ih]; rfl
  generalize repS (T [a]) l = s at *
  cases s
  simp only at h
  rw [← h]; simp [T]
theorem pPop_snoc {i j : Nat} {PD : PEnds} {env : List C} {ds : List D} {d : D} (h : env[i]? = some (.ow (.lst (ds ++ [d])))) : pPop i j PD env = PD.nx ((env.set i (.ow (.lst ds))).set j (.fz d)) := by
  unfold pPop
  rw [h]
  show (∃ d', (ds ++ [d])[(ds ++ [d]).length - 1]? = some d' ∧ PD.nx ((env.set i (.ow (.lst (ds ++ [d]).dropLast))).set j (.fz d'))) = _
  have e1 : (ds ++ [d])[(ds ++ [d]).length - 1]? = some d := by simp
  rw [e1, List.dropLast_concat]
  exact propext ⟨fun ⟨_, e, h⟩ => by cases e; exact h, fun h => ⟨_, rfl, h⟩⟩
theorem le_sum_of : ∀ {l : List Nat} {x : Nat}, x ∈ l → x ≤ l.sum
  | y :: l, x, h => by
    rw [List.sum_cons]
    rcases List.mem_cons.mp h with e | h
    · omega
    · have := le_sum_of h; omega
theorem filt_step {p : Wd → Bool} {xs : List Wd} {k : Nat} {w : Wd} (hk : xs[k]? = some w) : (xs.take (k + 1)).filter p = (xs.take k).filter p ++ if p w = true then [w] else [] := by
  rw [takeC hk, List.filter_append]
  congr 1
  cases h : p w <;> simp [h]
theorem filt_len {p : Wd → Bool} (xs : List Wd) (k : Nat) : ((xs.take k).filter p).length ≤ xs.length := Nat.le_trans (List.length_filter_le _ _) (by rw [List.length_take]; omega)
theorem w_words_with_total : ∀ ds Q, sp_words_with_total ds Q → b_words_with_total sp_first_words { nx := fun _ => Q .non, rt := Q } (startC ["alphabet", "total", "count", "first", "words", "chain", "others", "missing", "word", "step"] ds) := by
  rintro _ Q ⟨abc, L, n, rfl, ab, hn, hL, g, hl, q⟩
  have hz : sizeLine = 16777216 := PySem.sizeLine_eq
  have l1 := ab.l1; have l6 := ab.l6
  have nd := ab.nd
  have ha := fst_at l1
  obtain ⟨m0, e0, em⟩ := chn_of l1 nd ha n
  have sl := split_len2 (isA (fstL abc)) (nws abc n)
  have fs := filt_sum List.length (isA (fstL abc)) (nws abc n)
  rw [nws_sum l1, e0] at fs
  rw [nws_len, e0, chn_len] at sl
  have eo : (nws abc n).filter (fun x => !isA (fstL abc) x) = oth abc (fstL abc) n := rfl
  rw [eo] at sl fs
  have hwl : wordsW abc L n = wl (fstL abc) (abc.getD 1 0) (oth abc (fstL abc) n) (oth abc (fstL abc) n).length m0 (L - tot abc.length n) := by
    unfold wordsW; rw [e0, chn_len]
  have gd := wordsW_good l1 nd g hl
  have wlen : ∀ w ∈ nws abc n, w.length ≤ 1000 := fun w hw => by
    obtain ⟨k, _, hk, rfl⟩ := (nws_mem l1).mp hw
    have := nw_bd l1 k
    omega
  generalize hS : wordsW abc L n = S at *
  simp only [show TD abc = D.str (T abc) from rfl]
  simp only [PL.startC, List.map_cons, List.map_nil, List.length_cons, List.length_nil, Nat.reduceAdd, Nat.reduceSub, List.replicate_succ, List.replicate_zero, List.cons_append, List.nil_append, List.append_nil]
  unfold b_words_with_total
  simp! only [true_and]
  rw [T_len]
  refine ⟨by omega, fstL abc, atI_T ha, ?_⟩
  refine ⟨abc, n, rfl, ab, by omega, ?_⟩
  rw [show (⟨#[fstL abc]⟩ : Str) = T [fstL abc] from rfl]
  simp! only [true_and]
  have tst : ∀ w : Wd, decide (T w = repS (T [fstL abc]) w.length) = isA (fstL abc) w := fun w => by
    rw [repS_T]
    unfold isA
    exact decide_eq_decide.mpr ⟨T_inj, fun h => by rw [← h]⟩
  refine lc_m (W := fun k acc => acc = (((nws abc n).take k).filter (isA (fstL abc))).map TD) rfl ?_ ?_
  · rintro k w acc hk rfl
    have hw := wlen w (List.mem_of_getElem? hk)
    have hkl := (List.getElem?_eq_some_iff.mp hk).1
    simp only [show TD w = D.str (T w) from rfl]
    simp! only [true_and]
    rw [T_len, show (T [fstL abc]).length = 1 from rfl]
    refine ⟨by omega, by omega, by omega, by omega, ?_⟩
    have ht := tst w
    rw [show ((w.length : Nat) : Int).toNat = w.length from rfl, filt_step hk]
    have hf := filt_len (p := isA (fstL abc)) (nws abc n) k
    rw [nws_len] at hf
    split
    · rename_i z
      rw [decide_eq_true z] at ht
      rw [if_pos ht.symm, List.map_append]
      exact ⟨by omega, rfl⟩
    · rename_i z
      rw [decide_eq_false z] at ht
      rw [← ht, if_neg (by decide), List.append_nil]
  rintro acc rfl
  rw [List.take_length, e0]
  refine lc_m (W := fun k acc => acc = (((nws abc n).take k).filter (fun w => !isA (fstL abc) w)).map TD) rfl ?_ ?_
  · rintro k w acc hk rfl
    have hw := wlen w (List.mem_of_getElem? hk)
    have hkl := (List.getElem?_eq_some_iff.mp hk).1
    simp only [show TD w = D.str (T w) from rfl]
    simp! only [true_and]
    rw [T_len, show (T [fstL abc]).length = 1 from rfl]
    refine ⟨by omega, by omega, by omega, by omega, ?_⟩
    have ht := tst w
    rw [show ((w.length : Nat) : Int).toNat = w.length from rfl, filt_step hk]
    have hf := filt_len (p := fun w => !isA (fstL abc) w) (nws abc n) k
    rw [nws_len] at hf
    by_cases z : T w = repS (T [fstL abc]) w.length
    · rw [decide_eq_true z] at ht
      rw [decide_eq_true z, ← ht]
      simp
    · rw [decide_eq_false z] at ht
      rw [decide_eq_false z, ← ht]
      simp only [Bool.not_false, if_true, List.map_append, List.length_map]
      exact ⟨by omega, rfl⟩
  rintro acc rfl
  rw [List.take_length, eo]
  refine lc_m (W := fun k acc => acc = ((nws abc n).take k).map fun w => NI w.length) rfl ?_ ?_
  · rintro k w acc hk rfl
    have hw := wlen w (List.mem_of_getElem? hk)
    have hkl := (List.getElem?_eq_some_iff.mp hk).1
    rw [nws_len] at hkl
    simp only [show TD w = D.str (T w) from rfl]
    simp! only [true_and]
    rw [T_len]
    refine ⟨by omega, by rw [List.length_take]; omega, ?_⟩
    rw [takeC hk, List.map_append]
    rfl
  rintro acc rfl
  rw [List.take_length]
  have esum : sumP [.lst ((nws abc n).map fun w => NI w.length)] = fun P => P (.int ((tot abc.length n : Nat) : Int)) := by
    funext P
    have e1 : ((nws abc n).map fun w => NI w.length) = ((nws abc n).map List.length).map NI := by rw [List.map_map]; rfl
    rw [sumP_lst_]
    refine propext ⟨fun ⟨ys, ns, h1, h2, h3⟩ => ?_, fun h3 => ⟨_, _, rfl, by rw [e1, intsOf_NI], by rw [sum_NI, nws_sum l1]; exact h3⟩⟩
    cases h1
    rw [e1, intsOf_NI] at h2
    cases h2
    rw [sum_NI, nws_sum l1] at h3
    exact h3
  rw [esum]
  simp! only [true_and]
  generalize hO : oth abc (fstL abc) n = O at *
  generalize hA : fstL abc = a at *
  generalize hC : abc.getD 1 0 = c at *
  refine ⟨fun k env => (∃ (j m miss : Nat) (x y : C), k = 2 * j + 1 ∧ j ≤ O.length ∧ m0 ≤ m ∧ m + j = n ∧ wl a c O j m miss = S ∧ ((chn a m ++ O.take j).map List.length).sum + miss = L ∧
      env = [C.fz (.str (T abc)), C.fz (.int (L : Nat)), C.fz (.int (n : Nat)), C.fz (.str (T [a])), C.fz (.lst ((nws abc n).map TD)), C.ow (.lst ((chn a m).map TD)), C.ow (.lst ((O.take j).map TD)), C.fz (.int (miss : Nat)), x, y]) ∨
    (∃ (m : Nat) (Z : List Wd) (x y : C), chn a m ++ Z = S ∧ env = [C.fz (.str (T abc)), C.fz (.int (L : Nat)), C.fz (.int (n : Nat)), C.fz (.str (T [a])), C.fz (.lst ((nws abc n).map TD)), C.ow (.lst ((chn a m).map TD)), C.ow (.lst (Z.map TD)), C.fz (.int 0), x, y]),
    ⟨_, .inl ⟨O.length, m0, L - tot abc.length n, .un, .un, rfl, Nat.le_refl _, Nat.le_refl _, sl, hwl.symm, ?_, ?_⟩⟩, ?_⟩
  · rw [List.take_length, List.map_append, List.sum_append]; omega
  · rw [List.take_length, show (L : Int) - (tot abc.length n : Nat) = ((L - tot abc.length n : Nat) : Int) by omega]
  -- the end
  have fin : ∀ (m : Nat) (Z : List Wd), chn a m ++ Z = S → (chn a m).length + Z.length ≤ sizeLine ∧ sortKP [.lst ((chn a m).map TD ++ Z.map TD)] Q := by
    intro m Z e
    have hlen := gd.len
    have el : (chn a m).length + Z.length = n := by rw [← List.length_append, e, hlen]
    refine ⟨by omega, ?_⟩
    rw [← List.map_append, e]
    refine ⟨_, S.map T, rfl, by rw [TD_strs, strsOf_map], fun s hs => ?_, fun zs hp hs => ?_⟩
    · obtain ⟨w, hw, rfl⟩ := List.mem_map.mp hs
      rw [T_len]
      have h1 : w.length ≤ (S.map List.length).sum := le_sum_of (List.mem_map_of_mem hw)
      have h2 := gd.sum
      omega
    · rw [srtT_eq hp hs, ← srtW_T, ← TD_strs]
      exact q
  rintro k env (⟨j, m, miss, x, y, rfl, hj, hm, hmj, hw, hs, rfl⟩ | ⟨m, Z, x, y, e, rfl⟩)
  · simp! only [true_and]
    split
    · rename_i hpos
      obtain ⟨j, rfl⟩ : ∃ i, j = i + 1 := by
        rcases j with _ | j
        · have := chn_sum a m
          rw [List.take_zero, List.append_nil] at hs
          have e : m = n := by omega
          subst e
          omega
        · exact ⟨j, rfl⟩
      have hjl : j < O.length := by omega
      have ej := List.getElem?_eq_getElem hjl
      have eo2 : O.getD j [] = O[j] := by rw [List.getD_eq_getElem?_getD, ej]; rfl
      obtain ⟨o1, o2, o3, o4⟩ := oth_at l1 nd ha em (by rw [hO]; exact ej)
      rw [hO] at o4
      rw [← eo2] at o1 o2 o3 o4
      have hwe : wl a c O (j + 1) m miss = if m + 1 - (O.getD j []).length ≤ miss then wl a c O j (m + 1) (miss - (m + 1 - (O.getD j []).length)) else chn a m ++ (O.take j ++ [rep a ((O.getD j []).length + miss - 1) ++ [c]]) := by
        show (if miss = 0 then _ else _) = _
        rw [if_neg (by omega)]
      rw [hwe] at hw
      rw [take_succ_getD hjl] at hs ⊢
      generalize O.getD j [] = o at *
      rw [List.map_append]
      rw [pPop_snoc (ds := (O.take j).map TD) (d := TD o) rfl]
      simp only [show TD o = D.str (T o) from rfl]
      simp! only [true_and]
      simp only [List.map_append, List.sum_append, List.map_cons, List.map_nil, List.sum_cons, List.sum_nil] at hs
      have hcl := chn_len a m
      have hsm := chn_sum a m
      rw [T_len, hcl]
      refine ⟨by omega, ?_⟩
      split
      · rename_i hle
        rw [if_pos (by omega)] at hw
        rw [show (T [a]).length = 1 from rfl]
        refine ⟨by omega, by omega, by omega, by omega, 2 * j + 1, by omega, .inl ⟨j, m + 1, miss - (m + 1 - o.length), C.fz (.str (T o)), C.fz (.int ((m : Int) + 1 - (o.length : Nat))), rfl, by omega, by omega, by omega, hw, ?_, ?_⟩⟩
        · rw [chn_succ]
          simp only [List.map_append, List.sum_append, List.map_cons, List.map_nil, List.sum_cons, List.sum_nil, rep_len]
          omega
        · rw [show ((m : Int) + 1).toNat = m + 1 by omega, repS_T, chn_succ, List.map_append, show (miss : Int) - ((m : Int) + 1 - (o.length : Nat)) = ((miss - (m + 1 - o.length) : Nat) : Int) by omega]
          rfl
      · rename_i hle
        rw [if_neg (by omega)] at hw
        have hb2 : abc[1]? = some c := by
          rw [← hC]
          refine snd_at ?_
          by_cases z : abc.length = 1
          · have := oth_one z n
            rw [hA, hO] at this
            rw [this] at hjl
            simp at hjl
          · omega
        rw [show (T [a]).length = 1 from rfl, T_len]
        refine ⟨by omega, by omega, by omega, by omega, by omega, c, atI_T hb2, ?_⟩
        rw [show ((o.length : Int) + (miss : Nat) - 1).toNat = o.length + miss - 1 by omega, repS_T, show (⟨#[c]⟩ : Str) = T [c] from rfl, T_app, T_len, T_len, rep_len]
        refine ⟨by simp only [List.length_singleton]; omega, by rw [List.length_take]; omega, 0, by omega, .inr ⟨m, O.take j ++ [rep a (o.length + miss - 1) ++ [c]], C.fz (.str (T o)), C.fz (.int ((m : Int) + 1 - (o.length : Nat))), hw, ?_⟩⟩
        rw [List.map_append]
        rfl
    · rename_i hz0
      have hm0 : miss = 0 := by omega
      refine fin m (O.take j) ?_
      rw [← hw, hm0]
      cases j with
      | zero => simp [wl]
      | succ j => unfold wl; rw [if_pos rfl]
  · simp! only [true_and]
    rw [if_neg (by decide)]
    exact fin m Z e
end K07
end

section
set_option linter.all false
set_option maxRecDepth 100000
set_option maxHeartbeats 1000000
set_option exponentiation.threshold 4000
set_option autoImplicit false
namespace K07
open PySem PySem.Spec PyProof.Rows L2 PL WC
local macro_rules
  | `(tactic| simp! only [$xs,*]) => `(tactic| (try simp only [PL.strIP_i, PL.pChain, PL.allP_lst, PL.anyP_lst, PL.rg3_i, PL.piR3, PL.upP_s, PL.pUp, PL.gcdP_i, PL.xBi, PL.xJoin, PL.xiE, PL.xLc_eq, PL.pRaise1, PL.pRaise2, PL.xPure, PL.xaPure, PL.xaNil, PL.xaCons, PL.xCall, PL.xCallK, PL.nrX, PL.xLst, PL.xTup, PL.xBin, PL.pDropX, PL.pRetX, PL.pSetX, PL.pTry, PL.pIsEs, PL.pLidx, PL.ltTP_t, PL.pRev, PL.revP_l, PL.revP_s, PL.pMtS, PL.mtSP_s, PL.findF_1, PL.findF_2, PL.startsF_1, PL.sidxF_1, PL.scntF_1, PL.pSeq, PL.pNext, PL.pSet, PL.pSetO, PL.pRet, PL.pRetN, PL.pIfS, PL.pFor, PL.pWhile, PL.pBrk, PL.pCnt, PL.pDrop, PL.pApp, PL.pAsg, PL.pgN, PL.pFrz, PL.frz, PL.pC, PL.pN, PL.pNo, PL.pBin, PL.negP, PL.pB, PL.pAnd, PL.pOr, PL.pNot, PL.pAndV, PL.pOrV, PL.pNotV, PL.pIf, PL.paNil, PL.paCons, PL.pLst, PL.pTup, PL.pIx, PL.pSl, PL.poNone, PL.poSome, PL.pCall, PL.pCallK, PL.piR1, PL.piR2, PL.piE, PL.pBits, PL.isiP_eq, PL.pLr1, PL.pJoinR, PL.pJoin, PL.pLc_eq, PL.pYes, PL.wipeC, PL.pBor, PL.pBorT, PL.frzs, PL.pSetI, PL.pChainT, PL.isNP, PL.addP_i, PL.addP_s, PL.addP_t, PL.addP_l, PL.catP_l, PL.subP_i, PL.mulP_i, PL.mulP_l, PL.repP_l, PL.mulP_s, PL.fdivP_i, PL.modP_i, PL.powP_i, PL.ltP_i, PL.ltP_s, PL.gtP_i, PL.gtP_s, PL.leP_i, PL.leP_s, PL.geP_i, PL.geP_s, PL.eqP_int, PL.eqP_str, PL.eqP_bl, PL.eqP_lst_lst, PL.eqP_tup_tup, PL.eqP_lst_tup, PL.eqP_tup_lst, PL.neP_int, PL.neP_str, PL.neP_bl, PL.neP_lst_lst, PL.neP_tup_tup, PL.neP_lst_tup, PL.neP_tup_lst, PL.asB_b, PL.asS_s, PL.lenP_lst, PL.itP_lst, PL.ixP_lst, PL.listP_lst_, PL.tupleP_lst_, PL.sumP_lst_, PL.maxP_lst_, PL.minP_lst_, PL.lenP_tup, PL.itP_tup, PL.ixP_tup, PL.listP_tup_, PL.tupleP_tup_, PL.sumP_tup_, PL.maxP_tup_, PL.minP_tup_, PL.lenP_scr, PL.itP_scr, PL.ixP_scr, PL.listP_scr_, PL.tupleP_scr_, PL.sumP_scr_, PL.maxP_scr_, PL.minP_scr_, PL.lenP_str, PL.lenP_dk, PL.itP_str, PL.ixP_str, PL.intP_i, PL.intP_b, PL.rg1_i, PL.rg2_i, PL.lr1_i, PL.lr2_i, PL.maxP_2, PL.maxP_3, PL.minP_2, PL.minP_3, PL.slP_lst, PL.slP_tup, PL.slP_str, PL.slPL_lst, PL.pgTup_t, PL.pgTup_l, PL.pgsCons_c, PL.pgsNil_n, PL.joinRP_l, PL.reprP_i, PL.reprP_s, PL.setP_i, PL.ixE_0, PL.ixE_1, PL.ixE_2, PL.ixE_3, PL.ixE_4, PL.ixE_5, PL.ixE_6, PL.ixE_7, PL.ixE_8, PL.isqrtP_i, PL.reprLP_l, PL.pMkE, PL.pErF, PL.pIsE, PL.pRevS, PL.pRetO, PL.pRetON, PL.pNever, PL.pExt, PL.listDP_d, PL.pFld, PL.pFldS, PL.setF, PL.slfD, PL.piEn, PL.itEn, PL.isi2P, PL.isBP, PL.pDk, PL.pDt, PL.divmodP_i, PL.pGet, PL.isi_non_int, PL.isi_non_bool, PL.isi_non_str, PL.isi_non_list, PL.isi_non_tuple, PL.isi_bl_int, PL.isi_bl_bool, PL.isi_bl_str, PL.isi_bl_list, PL.isi_bl_tuple, PL.isi_int_int, PL.isi_int_bool, PL.isi_int_str, PL.isi_int_list, PL.isi_int_tuple, PL.isi_str_int, PL.isi_str_bool, PL.isi_str_str, PL.isi_str_list, PL.isi_str_tuple, PL.isi_tup_int, PL.isi_tup_bool, PL.isi_tup_str, PL.isi_tup_list, PL.isi_tup_tuple, PL.isi_lst_int, PL.isi_lst_bool, PL.isi_lst_str, PL.isi_lst_list, PL.isi_lst_tuple, PL.pickL, List.filterMap_cons, List.filterMap_nil, true_and, decide_true, decide_false, eq_self, Int.zero_add, decide_eq_true_eq, PL.rowE, PL.rowS, PL.startC, List.length_map, List.map_cons, List.map_nil, List.length_cons, List.length_nil, List.append_nil, List.nil_append, List.cons_append, List.replicate_succ, List.replicate_zero, List.set_cons_zero, List.set_cons_succ, List.getElem?_cons_zero, List.getElem?_cons_succ, Nat.reduceAdd, Nat.reduceSub, if_true, Bool.not_true, Bool.not_false, Bool.false_eq_true, if_false, $xs,*]))
def cutD3 (s : CS) : D := .lst [.tup (s.rows.map rowD), .int (s.ps.idxOf s.w : Nat), .lst (s.ps.map TD)]
def sp_law_cut : PSp := fun ds P => ∃ t : Wd, ds = [TD t] ∧ t.length ≤ 1000 ∧ P (cutD3 (cutC t))
theorem len_law_cut : ∀ ds P, sp_law_cut ds P → ds.length = 1 := by rintro _ _ ⟨n, rfl, _⟩; rfl
theorem w_law_cut : ∀ ds Q, sp_law_cut ds Q → b_law_cut { nx := fun _ => Q .non, rt := Q } (startC ["text", "pieces", "number", "rows", "word", "letter"] ds) := by
  rintro _ Q ⟨t, rfl, ht, q⟩
  have hz : sizeLine = 16777216 := PySem.sizeLine_eq
  simp only [PL.startC, List.map_cons, List.map_nil, List.length_cons, List.length_nil, Nat.reduceAdd, Nat.reduceSub, List.replicate_succ, List.replicate_zero, List.cons_append, List.nil_append, List.append_nil]
  unfold b_law_cut
  simp only [show TD t = D.str (T t) from rfl]
  simp! only [true_and]
  simp only [pDisp, pPairs, keysP, PL.keyOf, Option.bind, Option.map, mergeD, List.foldl]
  simp! only [true_and]
  rw [signs_T]
  refine ⟨by omega, by decide, by omega, ?_⟩
  refine for_m (W := fun i env => ∃ (s : CS) (x : C), s = cutC (t.take i) ∧ s.Ok i ∧ env = [C.fz (TD t), C.ow (.lst (s.ps.map TD)), C.ow (.dk (nmD s.ps)), C.ow (.lst (s.rows.map rowD)), C.fz (TD s.w), x]) ⟨.ini, .un, rfl, .ini, rfl⟩ ?_ ?_
  · rintro i c env hc ⟨s, x, hs, ok, rfl⟩
    have hi : i < t.length := (List.getElem?_eq_some_iff.mp hc).1
    have o1 := ok.len; have o2 := ok.le; have o3 := ok.wl
    have es : s.step c = cutC (t.take (i + 1)) := by rw [takeC hc, cutC_snoc, ← hs]
    have ok' := ok.step c
    simp only [TD]
    simp! only [true_and]
    rw [T_app, T_len, T_len]
    refine ⟨by simp only [List.length_cons, List.length_nil]; omega, inP_nm ?_⟩
    simp! only [true_and]
    by_cases e : s.w ++ [c] ∈ s.ps
    · simp only [decide_eq_true e]
      simp! only [true_and]
      refine ⟨by omega, s.step c, C.fz (.str (T [c])), es, ok', ?_⟩
      unfold CS.step
      rw [if_pos e]
    · simp only [decide_eq_false e]
      simp! only [true_and]
      refine ixP_nm ok.w ?_
      refine ⟨by omega, by omega, by omega, setP_nm e (by omega) ⟨by omega, by omega, s.step c, C.fz (.str (T [c])), es, ok', ?_⟩⟩
      unfold CS.step
      rw [if_neg e, List.map_append, List.map_append]; rfl
  · rintro env ⟨s, x, hs, ok, rfl⟩
    rw [List.take_length] at hs
    simp only [TD]
    simp! only [true_and]
    refine ⟨_, rfl, ixP_nm ok.w ?_⟩
    subst hs
    exact ⟨by omega, q⟩
/-- what is told of a length and a count -/
def twD (w : Wd) (L n l g : Nat) : D := if n < l ∨ g < n then .non else TD (textW w L n)
theorem ls_ex (L : Nat) : ∃ n, Ls L n := by
  have key : ∀ k, 2 * L ≤ k * (k + 3) → ∃ n, Ls L n := by
    intro k
    induction k with
    | zero => intro h; exact ⟨0, by omega, .inl rfl⟩
    | succ k ih =>
      intro h
      by_cases z : 2 * L ≤ k * (k + 3)
      · exact ih z
      · exact ⟨k + 1, h, .inr (by show k * (k + 3) < 2 * L; omega)⟩
  exact key (2 * L) (by have := Nat.le_mul_of_pos_right (2 * L) (show 0 < 2 * L + 3 by omega); omega)
def sx_text_with : PSpX := fun ds P R => ∃ (w : Wd) (L n : Nat), ds = [TD w, .int (L : Nat), .int (n : Nat)] ∧ w.length ≤ 1000000 ∧ L ≤ 400 ∧ n ≤ 1001 ∧ (AB w → ∀ l g, Ls L l → Gs w.length L g → P (twD w L n l g)) ∧ (¬ AB w → R (.err "BadAlphabet" [("alphabet", TD w)]))
def sp_text_with : PSp := fun ds P => ∃ (w : Wd) (L n : Nat), ds = [TD w, .int (L : Nat), .int (n : Nat)] ∧ AB w ∧ L ≤ 400 ∧ n ≤ 1001 ∧ ∀ l g, Ls L l → Gs w.length L g → P (twD w L n l g)
theorem lenx_text_with : ∀ ds P R, sx_text_with ds P R → ds.length = 3 := by rintro _ _ _ ⟨_, _, n, rfl, _⟩; rfl
theorem nr_text_with : ∀ ds Q, sp_text_with ds Q → sx_text_with ds Q fun _ => False := by
  rintro _ Q ⟨w, L, n, rfl, ab, hL, hn, q⟩
  exact ⟨w, L, n, rfl, by have := ab.l6; omega, hL, hn, fun _ => q, fun h => h ab⟩
theorem ls_mono {L l n : Nat} (h : Ls L l) (hl : l ≤ n) : 2 * L ≤ n * (n + 3) := Nat.le_trans h.1 (Nat.mul_le_mul hl (by omega))
theorem wx_text_with : ∀ ds Q R, sx_text_with ds Q R → bX_text_with sp_least_count sp_greatest_count sp_words_with_total sx_check_alphabet { nx := fun _ => Q .non, rt := Q, er := fun _ => R } (startC ["alphabet", "length", "count"] ds) := by
  rintro _ Q R ⟨w, L, n, rfl, hw, hL, hn, yes, no⟩
  have hz : sizeLine = 16777216 := PySem.sizeLine_eq
  have h100 : (400 : Nat) < 2 ^ 100 := by decide
  simp only [PL.startC, List.map_cons, List.map_nil, List.length_cons, List.length_nil, Nat.reduceAdd, Nat.reduceSub, List.replicate_succ, List.replicate_zero, List.cons_append, List.nil_append, List.append_nil]
  unfold bX_text_with
  simp! only [true_and]
  refine ⟨w, rfl, hw, fun ab => ?_, no⟩
  have l1 := ab.l1; have l6 := ab.l6
  simp only [show TD w = D.str (T w) from rfl]
  simp! only [true_and]
  refine ⟨L, rfl, by omega, fun l hl => ?_⟩
  simp only [N]
  simp! only [true_and]
  have ret : ∀ g, Gs w.length L g → (n < l ∨ g < n) → Q .non := fun g hg h => by
    have := yes ab l g hl hg
    unfold twD at this
    rwa [if_pos h] at this
  split
  · rename_i h1
    obtain ⟨g, hg⟩ := gs_ex l1 L
    exact ret g hg (.inl (by omega))
  rename_i h1
  rw [T_len]
  refine ⟨by omega, w.length, L, rfl, l1, l6, by omega, fun g hg => ?_⟩
  simp only [N]
  simp! only [true_and]
  split
  · rename_i h2
    exact ret g hg (.inr (by omega))
  rename_i h2
  have yes2 : Q (TD (textW w L n)) := by
    have := yes ab l g hl hg
    unfold twD at this
    rwa [if_neg (by omega)] at this
  have hg1 : tot w.length n ≤ L := Nat.le_trans (tot_mono l1 (by omega)) hg.1
  have hl2 := ls_mono hl (show l ≤ n by omega)
  obtain ⟨t1, t2, t3⟩ := textW_good l1 ab.nd hg1 hl2
  have en : ((n : Nat) : Int) * ((n : Int) + 1) / 2 = ((n * (n + 1) / 2 : Nat) : Int) := by
    rw [show ((n : Nat) : Int) * ((n : Int) + 1) = ((n * (n + 1) : Nat) : Int) from (Int.natCast_mul _ _).symm]
    omega
  rw [en]
  refine ⟨cmul_pow 20 20 (by omega) (by omega) (by omega) (by omega) (by decide), cdivw 10 (by decide) (by decide) (by decide), ?_⟩
  split
  · rename_i h3
    have e : textW w L n = rep (fstL w) L := by unfold textW; rw [if_pos (by omega)]
    rw [e] at yes2
    refine ⟨by omega, fstL w, atI_T (fst_at l1), ?_⟩
    rw [show (⟨#[fstL w]⟩ : Str) = T [fstL w] from rfl]
    simp! only [true_and]
    rw [show (T [fstL w]).length = 1 from rfl, show ((L : Nat) : Int).toNat = L from rfl, repS_T]
    exact ⟨by omega, by omega, by omega, yes2⟩
  · rename_i h3
    have e : textW w L n = (srtW (wordsW w L n)).flatten := by unfold textW; rw [if_neg (by omega)]
    rw [e] at yes2 t1
    have ev := tot_one n
    have := hg.le l1
    refine ⟨w, L, n, rfl, ab, by omega, hL, hg1, by omega, ?_⟩
    exact joinT (by omega) yes2
def sp_law_least : PSp := fun ds P => ∃ L : Nat, ds = [.int (L : Nat)] ∧ L ≤ 400 ∧ ∀ l, Ls L l → P (.int (l : Nat))
theorem len_law_least : ∀ ds P, sp_law_least ds P → ds.length = 1 := by rintro _ _ ⟨n, rfl, _⟩; rfl
theorem w_law_least : ∀ ds Q, sp_law_least ds Q → b_law_least { nx := fun _ => Q .non, rt := Q } (startC ["far", "many"] ds) := by
  rintro _ Q ⟨L, rfl, hL, q⟩
  simp only [PL.startC, List.map_cons, List.map_nil, List.length_cons, List.length_nil, Nat.reduceAdd, Nat.reduceSub, List.replicate_succ, List.replicate_zero, List.cons_append, List.nil_append, List.append_nil]
  unfold b_law_least
  simp! only [true_and]
  refine ⟨by unfold PL.inR; decide, ?_⟩
  refine for_r (W := fun i env => (i = 0 ∨ (i - 1) * (i + 2) < 2 * L) ∧ ∃ x : C, env = [C.fz (.int (L : Nat)), x]) ⟨.inl rfl, _, rfl⟩ ?_ ?_
  · rintro k env hk ⟨hi, x, rfl⟩
    have hk : k < 60 := hk
    simp! only [true_and]
    rw [show ((k : Nat) : Int) * ((k : Int) + 3) = ((k * (k + 3) : Nat) : Int) from (Int.natCast_mul _ _).symm]
    refine ⟨cmul_pow 20 20 (by omega) (by omega) (by omega) (by omega) (by decide), cmul_pow 20 20 (by omega) (by omega) (by omega) (by omega) (by decide), ?_⟩
    split
    · rename_i h1
      exact q k ⟨by omega, hi⟩
    · rename_i h1
      exact ⟨.inr (by show k * (k + 1 + 2) < 2 * L; have : k + 1 + 2 = k + 3 := by omega
                      rw [this]; omega), _, rfl⟩
  · rintro env ⟨hi, x, rfl⟩
    rcases hi with hi | hi
    · cases hi
    · have : (Int.toNat 60 - 1) * (Int.toNat 60 + 2) = 59 * 62 := rfl
      omega
def sp_law_greatest : PSp := fun ds P => ∃ b L : Nat, ds = [.int (b : Nat), .int (L : Nat)] ∧ 1 ≤ b ∧ b ≤ 6 ∧ L ≤ 400 ∧ ∀ g, Gs b L g → P (.int (g : Nat))
theorem len_law_greatest : ∀ ds P, sp_law_greatest ds P → ds.length = 2 := by rintro _ _ ⟨_, n, rfl, _⟩; rfl
theorem w_law_greatest : ∀ ds Q, sp_law_greatest ds Q → b_law_greatest { nx := fun _ => Q .non, rt := Q } (startC ["base", "far", "many", "left", "letters", "level", "here", "k"] ds) := by
  rintro _ Q ⟨b, L, rfl, b1, b6, hL, q⟩
  simp only [PL.startC, List.map_cons, List.map_nil, List.length_cons, List.length_nil, Nat.reduceAdd, Nat.reduceSub, List.replicate_succ, List.replicate_zero, List.cons_append, List.nil_append, List.append_nil]
  unfold b_law_greatest
  simp! only [true_and]
  refine ⟨by unfold PL.inR; decide, ?_⟩
  refine for_r (W := fun k env => ∃ (w : Nat) (x : C), 1 ≤ w ∧ cum b (w - 1) ≤ k ∧ k ≤ cum b w ∧ tot b k ≤ L ∧ env = [C.fz (.int (b : Nat)), C.fz (.int (L : Nat)), C.fz (.int (k : Nat)), C.fz (.int ((L - tot b k : Nat) : Int)), C.fz (.int (w : Nat)), C.fz (.int ((b ^ w : Nat) : Int)), C.fz (.int ((cum b w - k : Nat) : Int)), x]) ⟨1, .un, Nat.le_refl _, Nat.le_refl _, Nat.zero_le _, Nat.zero_le _, ?_⟩ ?_ ?_
  · have : cum b 1 = b := by show 0 + b ^ 1 = b; rw [Nat.pow_one]; omega
    rw [this, Nat.pow_one]; rfl
  · rintro k env hk ⟨w, x, w1, h1, h2, h3, rfl⟩
    have hk : k < 500 := hk
    have step : ∀ v : Nat, cum b v ≤ k → k < cum b (v + 1) → tot b (k + 1) = tot b k + (v + 1) := fun v h1 h2 => by
      have hl : ln b (k + 1) = v + 1 := ln_at b1 (by omega) (by omega)
      have ht : tot b (k + 1) = tot b k + ln b (k + 1) := rfl
      omega
    rw [Int.zero_add]
    by_cases hz : cum b w = k
    · have hp := pow_le_cum b w w1
      have e1 : ((b ^ w : Nat) : Int) * (b : Nat) = ((b ^ (w + 1) : Nat) : Int) := by rw [Nat.pow_succ]; exact (Int.natCast_mul _ _).symm
      have e2 : ((b ^ (w + 1) : Nat) : Int) = ((cum b (w + 1) - k : Nat) : Int) := by
        have : cum b (w + 1) = cum b w + b ^ (w + 1) := rfl
        omega
      have hc := cum_lt b1 w
      have st := step w (by omega) (by omega)
      simp! only [true_and]
      rw [if_pos (by omega)]
      refine ⟨cmul_pow 20 20 (by omega) (by omega) (by omega) (by omega) (by decide), ?_⟩
      rw [e1]
      split
      · rename_i h4
        exact q k ⟨h3, by omega⟩
      · rename_i h4
        refine ⟨w + 1, C.fz (.int (k : Nat)), by omega, by show cum b w ≤ k + 1; omega, by omega, by omega, ?_⟩
        rw [e2, show ((L - tot b k : Nat) : Int) - ((w : Int) + 1) = ((L - tot b (k + 1) : Nat) : Int) by omega, show ((cum b (w + 1) - k : Nat) : Int) - 1 = ((cum b (w + 1) - (k + 1) : Nat) : Int) by omega]
        rfl
    · obtain ⟨v, rfl⟩ : ∃ v, w = v + 1 := ⟨w - 1, by omega⟩
      have h1 : cum b v ≤ k := h1
      have st := step v h1 (by omega)
      simp! only [true_and]
      rw [if_neg (by omega)]
      split
      · rename_i h4
        exact q k ⟨h3, by omega⟩
      · rename_i h4
        refine ⟨v + 1, C.fz (.int (k : Nat)), by omega, by show cum b v ≤ k + 1; omega, by omega, by omega, ?_⟩
        rw [show ((L - tot b k : Nat) : Int) - ((v + 1 : Nat) : Int) = ((L - tot b (k + 1) : Nat) : Int) by omega, show ((cum b (v + 1) - k : Nat) : Int) - 1 = ((cum b (v + 1) - (k + 1) : Nat) : Int) by omega]
        rfl
  · rintro env ⟨w, x, w1, h1, h2, h3, rfl⟩
    have := le_tot b1 (Int.toNat 500)
    have e : Int.toNat 500 = 500 := rfl
    omega
theorem ls_uniq {L l m : Nat} (h1 : Ls L l) (h2 : Ls L m) : l = m := Gs.uniq (Nat.le_refl _) (ls_gs h1) (ls_gs h2)
theorem ls_gs_le {b L l g : Nat} (b1 : 1 ≤ b) (h1 : Ls L l) (h2 : Gs b L g) : l ≤ g := Gs.mono b1 (ls_gs h1) h2
def sp_law_manies : PSp := fun ds P => ∃ (l g : Nat) (r0 r1 : Int), ds = [.int (l : Nat), .int (g : Nat), .lst [.int r0, .int r1]] ∧ l ≤ g ∧ g ≤ 400 ∧ ∀ ns : List Nat, (∀ n ∈ ns, n ≤ 500) → ns.length ≤ 1000 → P (.lst (ns.map NI))
theorem len_law_manies : ∀ ds P, sp_law_manies ds P → ds.length = 3 := by rintro _ _ ⟨_, _, _, n, rfl, _⟩; rfl
theorem w_law_manies : ∀ ds Q, sp_law_manies ds Q → b_law_manies { nx := fun _ => Q .non, rt := Q } (startC ["least", "most", "row", "wide", "drawn", "many"] ds) := by
  rintro _ Q ⟨l, g, r0, r1, rfl, hl, hg, q⟩
  have hz : sizeLine = 16777216 := PySem.sizeLine_eq
  simp only [PL.startC, List.map_cons, List.map_nil, List.length_cons, List.length_nil, Nat.reduceAdd, Nat.reduceSub, List.replicate_succ, List.replicate_zero, List.cons_append, List.nil_append, List.append_nil]
  unfold b_law_manies
  simp! only [true_and]
  split
  · refine ⟨⟨by unfold PL.inR; omega, by unfold PL.inR; omega⟩, ?_⟩
    refine lc_n (W := fun k acc => acc = (List.range k).map fun i => NI ((l - 1) + i)) rfl ?_ ?_
    · rintro k acc hk rfl
      have hk : k < 500 := by omega
      simp! only [true_and]
      refine ⟨by rw [List.length_range]; omega, ?_⟩
      rw [List.range_succ, List.map_append, show max (0 : Int) ((l : Int) - 1) + (k : Int) = ((l - 1 + k : Nat) : Int) by omega]
      rfl
    · rintro acc rfl
      rw [show ((List.range ((g : Int) + 2 - max (0 : Int) ((l : Int) - 1)).toNat).map fun i => NI ((l - 1) + i)) = ((List.range ((g : Int) + 2 - max (0 : Int) ((l : Int) - 1)).toNat).map fun i => (l - 1) + i).map NI by rw [List.map_map]; rfl]
      refine q _ (fun n hn => ?_) (by rw [List.length_map, List.length_range]; omega)
      obtain ⟨i, hi, rfl⟩ := List.mem_map.mp hn
      rw [List.mem_range] at hi
      omega
  · rename_i h1
    have hw : (0 : Int) < (g : Int) - (l : Nat) + 1 := by omega
    have a0 := Int.emod_nonneg r0 (show (g : Int) - (l : Nat) + 1 ≠ 0 by omega)
    have a1 := Int.emod_lt_of_pos r0 hw
    have c0 := Int.emod_nonneg r1 (show (g : Int) - (l : Nat) + 1 ≠ 0 by omega)
    have c1 := Int.emod_lt_of_pos r1 hw
    refine ⟨hw, hw, by omega, by omega, by omega, ?_⟩
    obtain ⟨x, hx⟩ := Int.eq_ofNat_of_zero_le (show 0 ≤ (l : Int) + r0 % ((g : Int) - (l : Nat) + 1) by omega)
    obtain ⟨y, hy⟩ := Int.eq_ofNat_of_zero_le (show 0 ≤ (l : Int) + r1 % ((g : Int) - (l : Nat) + 1) by omega)
    rw [hx, hy, show max (0 : Int) ((l : Int) - 1) = ((l - 1 : Nat) : Int) by omega, show (l : Int) + 1 = ((l + 1 : Nat) : Int) by omega, show (g : Int) - 1 = ((g - 1 : Nat) : Int) by omega, show (g : Int) + 1 = ((g + 1 : Nat) : Int) by omega]
    refine q [l - 1, l, l + 1, g - 1, g, g + 1, x, y] (fun n hn => ?_) (by simp)
    simp only [List.mem_cons, List.not_mem_nil, or_false] at hn
    omega
def sp_law_told : PSp := fun ds P => ∃ (abc : Wd) (L n l g : Nat), ds = [TD abc, .int (L : Nat), .int (n : Nat), .int (l : Nat), .int (g : Nat)] ∧ AB abc ∧ L ≤ 400 ∧ n ≤ 1001 ∧ Ls L l ∧ Gs abc.length L g ∧ P (.bl true)
theorem len_law_told : ∀ ds P, sp_law_told ds P → ds.length = 5 := by rintro _ _ ⟨_, _, _, _, n, rfl, _⟩; rfl
theorem w_law_told : ∀ ds Q, sp_law_told ds Q → b_law_told sp_text_with sp_law_cut { nx := fun _ => Q .non, rt := Q } (startC ["abc", "far", "many", "least", "most", "told", "letter"] ds) := by
  rintro _ Q ⟨abc, L, n, l, g, rfl, ab, hL, hn, hl, hg, q⟩
  have hz : sizeLine = 16777216 := PySem.sizeLine_eq
  have l1 := ab.l1; have l6 := ab.l6
  simp only [PL.startC, List.map_cons, List.map_nil, List.length_cons, List.length_nil, Nat.reduceAdd, Nat.reduceSub, List.replicate_succ, List.replicate_zero, List.cons_append, List.nil_append, List.append_nil]
  unfold b_law_told
  simp! only [true_and]
  refine ⟨abc, L, n, rfl, ab, hL, hn, fun l' g' hl' hg' => ?_⟩
  obtain rfl := ls_uniq hl hl'
  obtain rfl := Gs.uniq l1 hg hg'
  unfold twD
  by_cases h1 : n < l
  · rw [if_pos (show n < l ∨ g < n from .inl h1)]
    simp! only [true_and]
    rw [if_pos (by omega)]
    exact q
  by_cases h2 : g < n
  · rw [if_pos (show n < l ∨ g < n from .inr h2)]
    simp! only [true_and]
    rw [if_neg (by omega), if_pos (by omega)]
    exact q
  rw [if_neg (show ¬ (n < l ∨ g < n) by omega)]
  have hg1 : tot abc.length n ≤ L := Nat.le_trans (tot_mono l1 (by omega)) hg.1
  obtain ⟨t1, t2, t3⟩ := textW_good l1 ab.nd hg1 (ls_mono hl (show l ≤ n by omega))
  generalize textW abc L n = t at *
  simp only [show ∀ z : Wd, TD z = D.str (T z) from fun _ => rfl]
  simp! only [true_and]
  rw [if_neg (by omega), if_neg (by omega), T_len]
  refine ⟨by omega, ?_⟩
  rw [t1]
  simp! only [true_and]
  rw [signs_T]
  refine for_m (W := fun k env => ∃ x : C, env = [C.fz (TD abc), C.fz (.int (L : Nat)), C.fz (.int (n : Nat)), C.fz (.int (l : Nat)), C.fz (.int (g : Nat)), C.fz (TD t), x]) ⟨_, rfl⟩ ?_ ?_
  · rintro k c env hk ⟨x, rfl⟩
    have hc := t2 c (List.mem_of_getElem? hk)
    simp only [show ∀ z : Wd, TD z = D.str (T z) from fun _ => rfl]
    simp! only [true_and]
    rw [inP_T, decide_eq_true hc]
    simp! only [true_and]
    exact ⟨_, rfl⟩
  · rintro env ⟨x, rfl⟩
    simp! only [true_and]
    refine ⟨t, rfl, by omega, ?_⟩
    simp only [cutD3]
    simp! only [true_and]
    rw [t3]
    rw [decide_eq_true rfl]
    exact q
/-! the law's own look at an alphabet -/
theorem find_T {a : Wd} (nd : a.Nodup) (c : Nat) : Txt.find (T a) (T [c]) = if c ∈ a then ((a.idxOf c : Nat) : Int) else -1 := by
  have key : ∀ i, PySem.StrLaws.At (T a) (T [c]) (T a).length i ↔ a[i]? = some c := fun i => by
    have h := PySem.StrLaws.subAt_one (T a) c i
    rw [show (T a).cps.toList = a from by show a.toArray.toList = a; simp] at h
    exact h
  unfold Txt.find
  rcases PySem.StrLaws.occ_head (T a) (T [c]) 1 (Nat.le_refl _) with ⟨e, no⟩ | ⟨i, r, e, hi, _⟩
  · rw [e, if_neg]
    intro hm
    exact no _ ((key _).mpr (idx_get hm))
  · rw [e]
    have h := (key i).mp hi
    rw [if_pos (List.mem_of_getElem? h), nd_idx nd h]
theorem LET_ord : ∀ c ∈ LET, ∀ d ∈ LET, (LET.idxOf c ≤ LET.idxOf d ↔ c ≤ d) := by decide +kernel
def sp_law_is_alphabet : PSp := fun ds P => ∃ w : Wd, ds = [TD w] ∧ w.length ≤ 1000000 ∧ (AB w → P (.bl true)) ∧ (¬ AB w → P (.bl false))
theorem len_law_is_alphabet : ∀ ds P, sp_law_is_alphabet ds P → ds.length = 1 := by rintro _ _ ⟨n, rfl, _⟩; rfl
theorem w_law_is_alphabet : ∀ ds Q, sp_law_is_alphabet ds Q → b_law_is_alphabet { nx := fun _ => Q .non, rt := Q } (startC ["word", "letters", "last", "sign", "at"] ds) := by
  rintro _ Q ⟨w, rfl, hl, yes, no⟩
  have hz : sizeLine = 16777216 := PySem.sizeLine_eq
  simp only [PL.startC, List.map_cons, List.map_nil, List.length_cons, List.length_nil, Nat.reduceAdd, Nat.reduceSub, List.replicate_succ, List.replicate_zero, List.cons_append, List.nil_append, List.append_nil]
  unfold b_law_is_alphabet
  simp only [show TD w = D.str (T w) from rfl]
  simp! only [true_and]
  rw [T_len, signs_T]
  refine ⟨by omega, ?_⟩
  split
  · exact no fun ab => by have := ab.l1; omega
  rename_i h1
  refine ⟨by omega, ?_⟩
  split
  · exact no fun ab => by have := ab.l6; omega
  rename_i h6
  refine for_m (W := fun i e => ABk w i ∧ ∃ (l : Int) (x y : C), ((i = 0 ∧ l = -1) ∨ ∃ c, 1 ≤ i ∧ w[i - 1]? = some c ∧ l = (LET.idxOf c : Nat)) ∧ e = [C.fz (TD w), C.fz (.str "0123456789abcdefghijklmnopqrstuvwxyz"), C.fz (.int l), x, y]) ⟨⟨fun i c h => by omega, fun i a b h => by omega⟩, -1, .un, .un, .inl ⟨rfl, rfl⟩, rfl⟩ ?_ ?_
  · rintro k c env hk ⟨hp, l, x, y, hlast, rfl⟩
    simp only [TD, LET_eq]
    simp! only [true_and]
    rw [find_T LET_nd]
    by_cases hc : c ∈ LET
    · rw [if_pos hc]
      have step : (∀ a, k ≠ 0 → w[k - 1]? = some a → a < c) → ABk w (k + 1) := fun h => ⟨fun i d hi hd => by
        by_cases z : i = k
        · subst z; rw [hk] at hd; cases hd; exact hc
        · exact hp.mem i d (by omega) hd, fun i a b hi ha hb => by
        by_cases z : i + 1 = k
        · subst z
          rw [hk] at hb; cases hb
          exact h a (by omega) (by simpa using ha)
        · exact hp.srt i a b (by omega) ha hb⟩
      split
      · rename_i hle
        rcases hlast with ⟨_, rfl⟩ | ⟨d, hk1, hd, rfl⟩
        · omega
        · refine no fun ab => ?_
          have hdm := hp.mem (k - 1) d (by omega) hd
          have := (LET_ord c hc d hdm).mp (by omega)
          have := ab.srt (k - 1) d c hd (by rw [Nat.sub_add_cancel hk1]; exact hk)
          omega
      · rename_i hle
        refine ⟨step fun a h0 ha => ?_, _, _, _, .inr ⟨c, by omega, by rw [Nat.add_sub_cancel]; exact hk, rfl⟩, rfl⟩
        rcases hlast with ⟨z, _⟩ | ⟨d, hk1, hd, rfl⟩
        · exact absurd z h0
        · rw [hd] at ha; cases ha
          have hdm := hp.mem (k - 1) a (by omega) hd
          have h2 := (LET_ord c hc a hdm)
          by_cases z : c ≤ a
          · have := h2.mpr z; omega
          · omega
    · rw [if_neg hc, if_pos]
      · exact no fun ab => hc (ab.mem c (List.mem_of_getElem? hk))
      · rcases hlast with ⟨_, rfl⟩ | ⟨d, hk1, hd, rfl⟩ <;> omega
  · rintro env ⟨hp, l, x, y, hlast, rfl⟩
    exact yes (hp.all (by omega) (by omega))
def szFar : List Int := [7, 401, 46, 13, 28, 3]
def sp_law_far : PSp := fun ds P => ∃ (b : Nat) (row : List Int), ds = [.int (b : Nat), .lst (row.map D.int)] ∧ 1 ≤ b ∧ b ≤ 6 ∧ Digs row szFar ∧ ∀ L : Nat, L ≤ 400 → P (.int (L : Nat))
theorem len_law_far : ∀ ds P, sp_law_far ds P → ds.length = 2 := by rintro _ _ ⟨_, n, rfl, _⟩; rfl
theorem w_law_far : ∀ ds Q, sp_law_far ds Q → b_law_far { nx := fun _ => Q .non, rt := Q } (startC ["base", "row", "far", "texts", "k"] ds) := by
  rintro _ Q ⟨b, row, rfl, b1, b6, dg, q⟩
  have hz : sizeLine = 16777216 := PySem.sizeLine_eq
  obtain _ | @⟨r0, _, _, _, r00, r01, dg⟩ := dg
  obtain _ | @⟨r1, _, _, _, r10, r11, dg⟩ := dg
  obtain _ | @⟨r2, _, _, _, r20, r21, dg⟩ := dg
  obtain _ | @⟨r3, _, _, _, r30, r31, dg⟩ := dg
  obtain _ | @⟨r4, _, _, _, r40, r41, dg⟩ := dg
  obtain _ | @⟨r5, _, _, _, r50, r51, dg⟩ := dg
  cases dg
  simp only [PL.startC, List.map_cons, List.map_nil, List.length_cons, List.length_nil, Nat.reduceAdd, Nat.reduceSub, List.replicate_succ, List.replicate_zero, List.cons_append, List.nil_append, List.append_nil]
  unfold b_law_far
  simp! only [true_and]
  refine jn (fun e => ∃ f : Int, -1 ≤ f ∧ f ≤ 400 ∧ e = [C.fz (.int (b : Nat)), C.fz (.lst [.int r0, .int r1, .int r2, .int r3, .int r4, .int r5]), C.fz (.int f), .un, .un]) ?_ ?_
  · simp! only [true_and]
    split
    · exact ⟨r2, by omega, by omega, rfl⟩
    · exact ⟨r1, by omega, by omega, rfl⟩
  rintro env ⟨f, f0, f1, rfl⟩
  refine jn (fun e => ∃ f : Int, -1 ≤ f ∧ f ≤ 400 ∧ e = [C.fz (.int (b : Nat)), C.fz (.lst [.int r0, .int r1, .int r2, .int r3, .int r4, .int r5]), C.fz (.int f), .un, .un]) ?_ ?_
  · simp! only [true_and]
    split
    · exact ⟨r3, by omega, by omega, rfl⟩
    · exact ⟨f, f0, f1, rfl⟩
  rintro env ⟨f, f0, f1, rfl⟩
  refine jn (fun e => ∃ f : Int, -1 ≤ f ∧ f ≤ 400 ∧ e = [C.fz (.int (b : Nat)), C.fz (.lst [.int r0, .int r1, .int r2, .int r3, .int r4, .int r5]), C.fz (.int f), .un, .un]) ?_ ?_
  · simp! only [true_and]
    split
    · have e1 : r4 * (r4 + 1) ≤ 27 * 28 := Int.mul_le_mul (by omega) (by omega) (by omega) (by omega)
      have e0 : 0 ≤ r4 * (r4 + 1) := Int.mul_nonneg r40 (by omega)
      refine ⟨cmul_pow 10 10 (by omega) (by omega) (by omega) (by omega) (by decide), cdivw 4 (by decide) (by decide) (by decide), _, ?_, ?_, rfl⟩
      · have := Int.ediv_nonneg e0 (show (0 : Int) ≤ 2 by decide); omega
      · have : r4 * (r4 + 1) / 2 ≤ 378 := by omega
        omega
    · exact ⟨f, f0, f1, rfl⟩
  rintro env ⟨f, f0, f1, rfl⟩
  simp! only [true_and]
  split
  · refine ⟨by decide, ⟨by unfold PL.inR; omega, by unfold PL.inR; omega⟩, ?_⟩
    refine for_r (W := fun i e => ∃ (f t : Int) (x : C), -1 ≤ f ∧ f ≤ 400 ∧ 1 ≤ t ∧ t ≤ 6 ^ i ∧ e = [C.fz (.int (b : Nat)), C.fz (.lst [.int r0, .int r1, .int r2, .int r3, .int r4, .int r5]), C.fz (.int f), C.fz (.int t), x]) ⟨r5 - 1, 1, .un, by omega, by omega, by omega, by decide, rfl⟩ ?_ ?_
    · rintro k env hk ⟨f, t, x, f0, f1, t0, t1, rfl⟩
      have hk5 : k < 5 := by omega
      have p6 : (6 : Int) ^ k ≤ 1296 := by
        match k, hk5 with
        | 0, _ => decide
        | 1, _ => decide
        | 2, _ => decide
        | 3, _ => decide
        | 4, _ => decide
      have tb1 : t * (b : Int) ≤ 6 ^ k * 6 := Int.mul_le_mul t1 (by omega) (by omega) (by omega)
      have tb0 : 1 * 1 ≤ t * (b : Int) := Int.mul_le_mul t0 (by omega) (by omega) (by omega)
      have e6 : (6 : Int) ^ (k + 1) = 6 ^ k * 6 := Int.pow_succ ..
      simp! only [true_and]
      refine ⟨cmul_pow 20 10 (by omega) (by omega) (by omega) (by omega) (by decide), cmul_pow 20 10 (by omega) (by omega) (by omega) (by omega) (by decide), ?_⟩
      have kk : 0 ≤ t * (b : Int) * (1 + (k : Int)) := Int.mul_nonneg (by omega) (by omega)
      split
      · rename_i hle
        exact ⟨cmul_pow 20 10 (by omega) (by omega) (by omega) (by omega) (by decide), _, _, _, by omega, hle, by omega, by rw [e6]; exact tb1, rfl⟩
      · exact ⟨_, _, _, f0, f1, by omega, by rw [e6]; exact tb1, rfl⟩
    · rintro env ⟨f, t, x, f0, f1, t0, t1, rfl⟩
      simp! only [true_and]
      obtain ⟨L, hL⟩ := Int.eq_ofNat_of_zero_le (show 0 ≤ max 0 f by omega)
      rw [hL]
      exact q L (by omega)
  · obtain ⟨L, hL⟩ := Int.eq_ofNat_of_zero_le (show 0 ≤ max 0 f by omega)
    rw [hL]
    exact q L (by omega)
theorem atI_ex {α : Type} {xs : List α} {i : Int} (h : -(xs.length : Int) ≤ i) (h2 : i < xs.length) : ∃ x, atI xs i = some x := by
  have key : ∃ j, ixN xs.length i = some j ∧ j < xs.length := by
    unfold ixN
    by_cases z : 0 ≤ i
    · rw [if_pos z, if_pos (by omega)]; exact ⟨_, rfl, by omega⟩
    · rw [if_neg z, if_pos (by omega)]; exact ⟨_, rfl, by omega⟩
  obtain ⟨j, e, hj⟩ := key
  unfold atI
  rw [e]
  exact ⟨_, List.getElem?_eq_getElem hj⟩
def sp_law_bad : PSp := fun ds P => ∃ (abc : Wd) (row : List Int), ds = [TD abc, .lst (row.map D.int)] ∧ AB abc ∧ Digs row ([14, 30, 11, 9] ++ List.replicate 8 95) ∧ ∀ w : Wd, w.length ≤ 100 → P (TD w)
theorem len_law_bad : ∀ ds P, sp_law_bad ds P → ds.length = 2 := by rintro _ _ ⟨_, n, rfl, _⟩; rfl
theorem w_law_bad : ∀ ds Q, sp_law_bad ds Q → b_law_bad { nx := fun _ => Q .non, rt := Q } (startC ["abc", "row", "signs", "at"] ds) := by
  rintro _ Q ⟨abc, row, rfl, ab, dg, q⟩
  have hz : sizeLine = 16777216 := PySem.sizeLine_eq
  have l1 := ab.l1; have l6 := ab.l6
  obtain _ | @⟨r0, _, _, _, r00, r01, dg⟩ := dg
  obtain _ | @⟨r1, _, _, _, r10, r11, dg⟩ := dg
  obtain _ | @⟨r2, _, _, _, r20, r21, dg⟩ := dg
  obtain _ | @⟨r3, _, _, _, r30, r31, dg⟩ := dg
  rename_i rs
  have q' : ∀ s : Str, s.length ≤ 100 → Q (.str s) := fun s h => by
    have e : s = T s.cps.toList := by
      obtain ⟨a⟩ := s
      unfold T
      simp
    rw [e]
    exact q s.cps.toList (by rw [← show s.length = s.cps.toList.length by simp [Str.length]]; exact h)
  have la : (T abc).length ≤ 6 := by rw [T_len]; exact l6
  have lc : ∀ lo hi, (cutS (T abc) lo hi).length ≤ 6 := fun lo hi => Nat.le_trans (cutS_le _ _ _) la
  have la2 : (T abc).cps.toList.length = abc.length := by show abc.toArray.toList.length = _; simp
  have app : ∀ a b : Str, (a ++ b).length = a.length + b.length := fun a b => by
    show (a.cps ++ b.cps).size = _
    rw [Array.size_append]; rfl
  have o1 : ∀ c : Nat, (⟨#[c]⟩ : Str).length = 1 := fun _ => rfl
  have s1 : (Str.ofString "/").length = 1 := by decide +kernel
  have s2 : (Str.ofString "{").length = 1 := by decide +kernel
  have s3 : (Str.ofString "\n").length = 1 := by decide +kernel
  have s4 : (Str.ofString " ").length = 1 := by decide +kernel
  have s5 : (Str.ofString "0123456789abcdefghijklmnopqrstuvwxyz").length = 36 := by decide +kernel
  simp only [PL.startC, List.map_cons, List.map_nil, List.length_cons, List.length_nil, Nat.reduceAdd, Nat.reduceSub, List.replicate_succ, List.replicate_zero, List.cons_append, List.nil_append, List.append_nil]
  unfold b_law_bad
  simp only [show TD abc = D.str (T abc) from rfl]
  simp! only [true_and]
  split
  · have dl : rs.length = 8 := dg.length
    have e : cutD (D.int r0 :: D.int r1 :: D.int r2 :: D.int r3 :: rs.map D.int) (some 4) (some (4 + r3)) = (rs.take r3.toNat).map D.int := by
      have := cutD_map D.int (r0 :: r1 :: r2 :: r3 :: rs) 4 (4 + r3.toNat) (by simp only [List.length_cons]; omega)
      rw [show (4 : Int) + r3 = ((4 + r3.toNat : Nat) : Int) by omega]
      rw [show 4 + r3.toNat - 4 = r3.toNat by omega] at this
      exact this
    rw [e]
    refine lc_m (W := fun k acc => ∃ cs : List Nat, cs.length = k ∧ acc = (cs.map fun c => [c]).map TD) ⟨[], rfl, rfl⟩ ?_ ?_
    · rintro k x acc hk ⟨cs, hcs, rfl⟩
      have hkl := (List.getElem?_eq_some_iff.mp hk).1
      rw [List.length_take] at hkl
      rw [List.getElem?_take] at hk
      rw [if_pos (by omega)] at hk
      obtain ⟨hx0, hx1⟩ : 0 ≤ x ∧ x < 95 := by
        obtain ⟨y, hy, y0, y1⟩ := dg.get (i := k) (s := 95) (by show (List.replicate 8 (95 : Int))[k]? = _; rw [List.getElem?_replicate, if_pos (by omega)])
        rw [hk] at hy; cases hy
        exact ⟨y0, y1⟩
      have sl : (Str.ofString " !\"#$&'()*+,-./0123456789:;<=>?@ABCDEFGHIJKLMNOPQRSTUVWXYZ[\\]^_`abcdefghijklmnopqrstuvwxyz{|}~\n").cps.toList.length = 95 := by decide +kernel
      have sl2 : (Str.ofString " !\"#$&'()*+,-./0123456789:;<=>?@ABCDEFGHIJKLMNOPQRSTUVWXYZ[\\]^_`abcdefghijklmnopqrstuvwxyz{|}~\n").length = 95 := by decide +kernel
      obtain ⟨c, hc⟩ := atI_ex (xs := (Str.ofString " !\"#$&'()*+,-./0123456789:;<=>?@ABCDEFGHIJKLMNOPQRSTUVWXYZ[\\]^_`abcdefghijklmnopqrstuvwxyz{|}~\n").cps.toList) (i := x) (by omega) (by omega)
      simp! only [true_and]
      refine ⟨by omega, c, hc, by omega, cs ++ [c], by rw [List.length_append, hcs]; rfl, ?_⟩
      rw [List.map_append, List.map_append]; rfl
    · rintro acc ⟨cs, hcs, rfl⟩
      rw [List.length_take] at hcs
      refine joinT (by rw [flat1]; omega) ?_
      rw [flat1]
      exact q cs (by omega)
  split
  · obtain ⟨c, hc⟩ := atI_ex (xs := (T abc).cps.toList) (i := -1) (by omega) (by omega)
    exact ⟨by omega, c, hc, by rw [o1]; omega, q' _ (by rw [app, o1]; omega)⟩
  split
  · obtain ⟨c, hc⟩ := atI_ex (xs := (T abc).cps.toList) (i := 0) (by omega) (by omega)
    exact ⟨by omega, c, hc, by rw [o1]; omega, q' _ (by rw [app, o1]; omega)⟩
  split
  · exact ⟨by omega, q' _ (by have := cutS_le (Str.ofString "0123456789abcdefghijklmnopqrstuvwxyz") (some r1) (some (r1 + 7)); omega)⟩
  split
  · have := lc (some 1) none
    exact ⟨by omega, by omega, q' _ (by rw [app]; omega)⟩
  split
  · have := lc none (some (-1))
    exact ⟨by omega, by omega, q' _ (by rw [app]; omega)⟩
  refine jn (fun e => e = [C.fz (.str (T abc)), C.fz (.lst (.int r0 :: .int r1 :: .int r2 :: .int r3 :: rs.map D.int)), .un, .un]) ?_ ?_
  · simp! only [true_and]
    split
    · refine ⟨by omega, ?_⟩
      split
      · rename_i hl
        rw [T_len] at hl
        obtain ⟨c, hc⟩ := atI_ex (xs := (T abc).cps.toList) (i := 1) (by omega) (by omega)
        obtain ⟨d, hd⟩ := atI_ex (xs := (T abc).cps.toList) (i := 0) (by omega) (by omega)
        have := lc (some 2) none
        exact ⟨by omega, c, hc, by omega, d, hd, by rw [o1, o1]; omega, by omega, by rw [app, o1, o1]; omega, q' _ (by rw [app, app, o1, o1]; omega)⟩
      · trivial
    · trivial
  rintro env rfl
  simp! only [true_and]
  have lst : ∃ d, atI [D.str (Str.ofString ""), D.str (Str.ofString "0:a"), D.str (Str.ofString "@"), D.str (Str.ofString "Za"), D.str (Str.ofString "A"), D.str (Str.ofString "`a"), D.str (Str.ofString "a-b"), D.str (Str.ofString "a b"), D.str (Str.ofString "ba"), D.str (Str.ofString "\n"), D.str (Str.ofString "09a0")] r2 = some d ∧ Q d := by
    obtain ⟨j, rfl⟩ := Int.eq_ofNat_of_zero_le r20
    have hj : j < 11 := by omega
    match j, hj with
    | 0, _ => exact ⟨_, rfl, q' _ (by decide +kernel)⟩
    | 1, _ => exact ⟨_, rfl, q' _ (by decide +kernel)⟩
    | 2, _ => exact ⟨_, rfl, q' _ (by decide +kernel)⟩
    | 3, _ => exact ⟨_, rfl, q' _ (by decide +kernel)⟩
    | 4, _ => exact ⟨_, rfl, q' _ (by decide +kernel)⟩
    | 5, _ => exact ⟨_, rfl, q' _ (by decide +kernel)⟩
    | 6, _ => exact ⟨_, rfl, q' _ (by decide +kernel)⟩
    | 7, _ => exact ⟨_, rfl, q' _ (by decide +kernel)⟩
    | 8, _ => exact ⟨_, rfl, q' _ (by decide +kernel)⟩
    | 9, _ => exact ⟨_, rfl, q' _ (by decide +kernel)⟩
    | 10, _ => exact ⟨_, rfl, q' _ (by decide +kernel)⟩
  have fin : if r0 = 7 then (T abc).length + (Str.ofString "\n").length ≤ sizeLine ∧ Q (D.str (T abc ++ Str.ofString "\n"))
      else if r0 = 8 then (Str.ofString " ").length + (T abc).length ≤ sizeLine ∧ Q (D.str (Str.ofString " " ++ T abc))
      else 11 ≤ sizeLine ∧ ∃ d, atI [D.str (Str.ofString ""), D.str (Str.ofString "0:a"), D.str (Str.ofString "@"), D.str (Str.ofString "Za"), D.str (Str.ofString "A"), D.str (Str.ofString "`a"), D.str (Str.ofString "a-b"), D.str (Str.ofString "a b"), D.str (Str.ofString "ba"), D.str (Str.ofString "\n"), D.str (Str.ofString "09a0")] r2 = some d ∧ Q d := by
    split
    · exact ⟨by omega, q' _ (by rw [app]; omega)⟩
    split
    · exact ⟨by omega, q' _ (by rw [app]; omega)⟩
    exact ⟨by omega, lst⟩
  split
  · refine ⟨by omega, ?_⟩
    split
    · rename_i hl
      rw [T_len] at hl
      obtain ⟨c, hc⟩ := atI_ex (xs := (T abc).cps.toList) (i := -1) (by omega) (by omega)
      obtain ⟨d, hd⟩ := atI_ex (xs := (T abc).cps.toList) (i := -2) (by omega) (by omega)
      have := lc none (some (-2))
      exact ⟨by omega, by omega, c, hc, by rw [o1]; omega, by omega, d, hd, by rw [app, o1, o1]; omega, q' _ (by rw [app, app, o1, o1]; omega)⟩
    · exact fin
  · exact fin
def sp_law_refused : PSp := fun ds P => ∃ (w : Wd) (L n : Nat), ds = [TD w, .int (L : Nat), .int (n : Nat)] ∧ w.length ≤ 100 ∧ L ≤ 400 ∧ n ≤ 1001 ∧ P (.bl true)
theorem len_law_refused : ∀ ds P, sp_law_refused ds P → ds.length = 3 := by rintro _ _ ⟨_, _, n, rfl, _⟩; rfl
theorem w_law_refused : ∀ ds Q, sp_law_refused ds Q → b_law_refused sp_law_is_alphabet sx_text_with { nx := fun _ => Q .non, rt := Q } (startC ["bad", "far", "many", "e"] ds) := by
  rintro _ Q ⟨w, L, n, rfl, hw, hL, hn, q⟩
  simp only [PL.startC, List.map_cons, List.map_nil, List.length_cons, List.length_nil, Nat.reduceAdd, Nat.reduceSub, List.replicate_succ, List.replicate_zero, List.cons_append, List.nil_append, List.append_nil]
  unfold b_law_refused
  simp! only [true_and]
  refine ⟨w, rfl, by omega, fun ab => ?_, fun nab => ?_⟩
  · simp! only [true_and]
    exact q
  simp! only [true_and]
  refine ⟨w, L, n, rfl, by omega, hL, hn, fun ab => absurd ab nab, fun _ => ?_⟩
  refine ⟨_, _, true, rfl, by decide +kernel, fun _ => ?_, fun z => nomatch z⟩
  unfold goD putD_
  simp! only [true_and]
  refine ⟨_, _, true, rfl, by decide +kernel, ?_⟩
  simp! only [true_and]
  refine ⟨_, _, true, rfl, by decide +kernel, ?_⟩
  simp! only [true_and]
  refine ⟨_, _, false, rfl, by decide +kernel, ?_⟩
  simp! only [true_and]
  refine ⟨_, _, _, _, rfl, rfl, by decide, rfl, ?_⟩
  simp only [TD]
  simp! only [true_and]
  refine ⟨_, _, _, _, rfl, rfl, by decide, rfl, ?_⟩
  simp! only [true_and]
  exact q
/-! repr of a text of letters -/
theorem repr_let : ∀ c ∈ LET, PySem.Builtin.Str.reprChar 39 c = [c] := by decide +kernel
theorem fold_let : ∀ (w : List Nat) (acc : Array Nat), (∀ c ∈ w, c ∈ LET) → w.foldl (fun out c => out ++ (PySem.Builtin.Str.reprChar 39 c).toArray) acc = acc ++ w.toArray
  | [], acc, _ => by simp
  | c :: w, acc, h => by
    rw [List.foldl_cons, repr_let c (h c (List.mem_cons_self ..)), fold_let w _ fun d hd => h d (List.mem_cons_of_mem _ hd)]
    apply Array.toList_inj.mp
    simp
theorem repr_T {w : Wd} (h : ∀ c ∈ w, c ∈ LET) : PySem.reprText (T w) = T ([39] ++ w ++ [39]) := by
  have hq : PySem.reprQuote (T w) = 39 := by
    unfold PySem.reprQuote
    have hn : (T w).cps.contains 39 = false := by
      rw [Bool.eq_false_iff]
      intro e
      have hm : 39 ∈ (T w).cps := by simpa using e
      have hm : 39 ∈ w := by simpa [T] using hm
      have := h 39 hm
      revert this
      decide
    rw [hn]; rfl
  unfold PySem.reprText
  rw [hq]
  unfold T
  rw [← Array.foldl_toList]
  have e : w.foldl (fun out c => out ++ (PySem.Builtin.Str.reprChar 39 c).toArray) #[39] = #[39] ++ w.toArray := fold_let w _ h
  show (⟨Array.push (w.foldl (fun out c => out ++ (PySem.Builtin.Str.reprChar 39 c).toArray) #[39]) 39⟩ : Str) = _
  rw [e]
  congr 1
  apply Array.toList_inj.mp
  simp
def szR2 : List Int := [1001, 400, 400, 400]
theorem w_law : ∀ ds Q, sp_law ds Q → b_law sp_law_alphabet sp_law_digits sp_law_cell sp_law_far sp_law_least sp_law_greatest sp_text_with sp_law_told sp_law_manies sp_law_bad sp_law_refused { nx := fun _ => Q .non, rt := Q } (startC ["script", "abc", "far", "row", "least", "most", "middle", "first", "other", "many", "bad"] ds) := by
  rintro _ Q ⟨ns, rfl, hn, h⟩
  have hz : sizeLine = 16777216 := PySem.sizeLine_eq
  simp only [PL.startC, List.map_cons, List.map_nil, List.length_cons, List.length_nil, Nat.reduceAdd, Nat.reduceSub, List.replicate_succ, List.replicate_zero, List.cons_append, List.nil_append, List.append_nil]
  unfold b_law
  simp! only [true_and]
  refine ⟨ns, 0, rfl, hn, by decide, by decide, fun c0 => ?_⟩
  refine ⟨by decide, c0, szAb, rfl, by decide, sizes_ok (by decide), fun ra hra => ?_⟩
  refine ⟨ra, rfl, hra, fun abc ab => ?_⟩
  have l1 := ab.l1; have l6 := ab.l6
  simp only [show TD abc = D.str (T abc) from rfl]
  simp! only [true_and]
  rw [T_len]
  refine ⟨by omega, ns, 1, rfl, hn, by decide, by decide, fun c1 => ?_⟩
  refine ⟨by decide, c1, szFar, rfl, by decide, sizes_ok (by decide), fun rf hrf => ?_⟩
  refine ⟨abc.length, rf, rfl, l1, l6, hrf, fun L hL => ?_⟩
  simp! only [true_and]
  refine ⟨ns, 2, rfl, hn, by decide, by decide, fun c2 => ?_⟩
  refine ⟨by decide, c2, szR2, rfl, by decide, sizes_ok (by decide), fun rr hrr => ?_⟩
  obtain _ | @⟨r0, _, _, _, r00, r01, hrr⟩ := hrr
  obtain _ | @⟨r1, _, _, _, r10, r11, hrr⟩ := hrr
  obtain _ | @⟨r2, _, _, _, r20, r21, hrr⟩ := hrr
  obtain _ | @⟨r3, _, _, _, r30, r31, hrr⟩ := hrr
  cases hrr
  simp! only [true_and]
  refine ⟨L, rfl, hL, fun l hl => ?_⟩
  refine ⟨by omega, abc.length, L, rfl, l1, l6, hL, fun g hg => ?_⟩
  have hlg := ls_gs_le l1 hl hg
  have hgL := hg.le l1
  simp! only [true_and]
  refine ⟨by omega, ?_⟩
  have hw : (0 : Int) < (g : Int) - (l : Nat) + 1 := by omega
  have a0 := Int.emod_nonneg r3 (show (g : Int) - (l : Nat) + 1 ≠ 0 by omega)
  have a1 := Int.emod_lt_of_pos r3 hw
  obtain ⟨m, hm⟩ := Int.eq_ofNat_of_zero_le (show 0 ≤ (l : Int) + r3 % ((g : Int) - (l : Nat) + 1) by omega)
  rw [hm]
  have hml : l ≤ m := by omega
  have hmg : m ≤ g := by omega
  have hg1 : tot abc.length m ≤ L := Nat.le_trans (tot_mono l1 hmg) hg.1
  obtain ⟨t1, t2, t3⟩ := textW_good l1 ab.nd hg1 (ls_mono hl hml)
  have tw : ∀ l' g', Ls L l' → Gs abc.length L g' → twD abc L m l' g' = TD (textW abc L m) := fun l' g' h1 h2 => by
    obtain rfl := ls_uniq hl h1
    obtain rfl := Gs.uniq l1 hg h2
    unfold twD
    rw [if_neg (by omega)]
  refine ⟨abc, L, m, rfl, ab, hL, by omega, fun l' g' h1 h2 => ?_⟩
  rw [tw l' g' h1 h2]
  generalize textW abc L m = t at *
  have hlet : ∀ c ∈ t, c ∈ LET := fun c hc => ab.mem c (t2 c hc)
  simp only [show ∀ z : Wd, TD z = D.str (T z) from fun _ => rfl]
  simp! only [true_and]
  rw [repr_T hlet, T_len]
  refine ⟨by simp only [List.length_append, List.length_singleton]; omega, ?_⟩
  refine ⟨ns, 3, rfl, hn, by decide, by decide, fun c3 => ?_⟩
  refine ⟨by decide, c3, szAb, rfl, by decide, sizes_ok (by decide), fun rb hrb => ?_⟩
  refine ⟨rb, rfl, hrb, fun oth ob => ?_⟩
  have k1 := ob.l1; have k6 := ob.l6
  simp only [show ∀ z : Wd, TD z = D.str (T z) from fun _ => rfl]
  simp! only [true_and]
  rw [T_len]
  refine ⟨by omega, oth.length, L, rfl, k1, k6, hL, fun g2 hg2 => ?_⟩
  refine ⟨oth, L, m, l, g2, rfl, ob, hL, by omega, hl, hg2, ?_⟩
  simp! only [true_and]
  rw [show PL.cutD [D.int r0, D.int r1, D.int r2, D.int r3] (some 1) (some 3) = [D.int r1, D.int r2] from cutD_map D.int [r0, r1, r2, r3] 1 3 (by simp)]
  refine ⟨l, g, r1, r2, rfl, hlg, by omega, fun ks hks hkl => ?_⟩
  simp! only [true_and]
  obtain ⟨p0, hp0⟩ := Int.eq_ofNat_of_zero_le r00
  rw [hp0] at r01 ⊢
  refine ⟨by omega, by omega, ?_⟩
  rw [show ks.map NI ++ [D.int (m : Nat), D.int (p0 : Nat)] = (ks ++ [m, p0]).map NI by rw [List.map_append]; rfl]
  refine for_m (W := fun k env => ∃ x : C, env = [C.fz (.scr (ns.map D.int)), C.fz (TD abc), C.fz (.int (L : Nat)), C.fz (.lst [.int (p0 : Nat), .int r1, .int r2, .int r3]), C.fz (.int (l : Nat)), C.fz (.int (g : Nat)), C.fz (.int (m : Nat)), C.fz (TD ([39] ++ t ++ [39])), C.fz (TD oth), x, .un]) ⟨_, rfl⟩ ?_ ?_
  · rintro k j env hk ⟨x, rfl⟩
    have hj : j ≤ 1001 := by
      rcases List.mem_append.mp (List.mem_of_getElem? hk) with q | q
      · have := hks j q; omega
      · simp only [List.mem_cons, List.not_mem_nil, or_false] at q
        omega
    simp! only [true_and]
    refine ⟨abc, L, j, l, g, rfl, ab, hL, hj, hl, hg, ?_⟩
    simp! only [true_and]
    exact ⟨_, rfl⟩
  · rintro env ⟨x, rfl⟩
    simp! only [true_and]
    refine ⟨ns, 4, rfl, hn, by decide, by decide, fun c4 => ?_⟩
    refine ⟨by decide, by decide, by decide, by decide, by decide, by decide, c4, [14, 30, 11, 9] ++ List.replicate 8 95, rfl, by decide, sizes_ok (by decide), fun rc hrc => ?_⟩
    refine ⟨abc, rc, rfl, ab, hrc, fun w hw => ?_⟩
    refine ⟨w, L, m, rfl, hw, hL, by omega, ?_⟩
    simp! only [true_and]
    refine ⟨w, L, g + 1, rfl, hw, hL, by omega, ?_⟩
    simp! only [true_and]
    refine ⟨abc, L, m, rfl, ab, hL, by omega, fun l' g' h1 h2 => ?_⟩
    rw [tw l' g' h1 h2]
    simp only [show ∀ z : Wd, TD z = D.str (T z) from fun _ => rfl]
    simp! only [true_and]
    rw [repr_T hlet, T_len]
    refine ⟨by simp only [List.length_append, List.length_singleton]; omega, ?_⟩
    rw [decide_eq_true (by simp)]
    exact h
end K07
end

section
set_option linter.all false
set_option maxRecDepth 100000
set_option maxHeartbeats 0
/-! The walk of law_k07_text_with_count; printed by gen.py. -/
namespace K07
open PySem PySem.Spec PyProof.Rows L2 PL
def top (i : Nat) : Stmt := PySem.Challenge.pw_unpressed_k07_text_with_count.main.body.getD i (.Pass ⟨0, 0, 0, 0⟩)
abbrev d_check_alphabet : Stmt := top 12
abbrev d_order_of_text : Stmt := top 13
abbrev d_greatest_count : Stmt := top 15
abbrev d_least_count : Stmt := top 16
abbrev d_first_words : Stmt := top 17
abbrev d_words_with_total : Stmt := top 18
abbrev d_text_with : Stmt := top 19
abbrev d_law_cell : Stmt := top 21
abbrev d_law_digits : Stmt := top 22
abbrev d_law_alphabet : Stmt := top 23
abbrev d_law_cut : Stmt := top 24
abbrev d_law_least : Stmt := top 25
abbrev d_law_greatest : Stmt := top 26
abbrev d_law_far : Stmt := top 27
abbrev d_law_manies : Stmt := top 28
abbrev d_law_told : Stmt := top 29
abbrev d_law_is_alphabet : Stmt := top 30
abbrev d_law_bad : Stmt := top 31
abbrev d_law_refused : Stmt := top 32
abbrev d_law : Stmt := top 33
abbrev i_BadAlphabet : Stmt := inClass (top 3) 0
abbrev i_BadLetter : Stmt := inClass (top 4) 0
abbrev i_BadRow : Stmt := inClass (top 5) 0
abbrev i_BadTail : Stmt := inClass (top 6) 0
abbrev i_BadRank : Stmt := inClass (top 7) 0
abbrev i_BadIndex : Stmt := inClass (top 8) 0
abbrev i_TooLarge : Stmt := inClass (top 9) 0
structure Fre (mg : MG) : Prop where
  ValueError : mg "ValueError" = none
  enumerate : mg "enumerate" = none
  int : mg "int" = none
  isinstance : mg "isinstance" = none
  len : mg "len" = none
  max : mg "max" = none
  min : mg "min" = none
  range : mg "range" = none
  repr : mg "repr" = none
  sorted : mg "sorted" = none
  str : mg "str" = none
  sum : mg "sum" = none
  tuple : mg "tuple" = none
structure Glo (mg : MG) : Prop where
  LETTERS : ∃ t, mg "LETTERS" = some (.str "0123456789abcdefghijklmnopqrstuvwxyz" t)
section
variable {P : Program} {w : World} {K : PySem.W.Frag} {mg : MG} {base : Heap}
theorem sc_check_alphabet : FnScope ["alphabet", "index", "letter"] ["alphabet"] (defScope d_check_alphabet) := ⟨rfl, rfl, rfl, by decide +kernel, rfl, by decide +kernel, by decide +kernel⟩
theorem okX_check_alphabet {f : Addr} {fd : FuncData} (F : FnP K "check_alphabet" d_check_alphabet f fd) (M : Fre mg) (G : Glo mg) {C_BadAlphabet f_BadAlphabet : Addr} {fd_BadAlphabet : FuncData} (E_BadAlphabet : ECl P w K mg base "BadAlphabet" C_BadAlphabet f_BadAlphabet fd_BadAlphabet ["alphabet"]) (BB_BadAlphabet : Binds K fd_BadAlphabet ["self", "alphabet"] []) : FnOk P w K mg base (L2.CX P w) 3 f fd ["alphabet"] (spX K mg sx_check_alphabet) :=
  have S := sc_check_alphabet
  pfnX (p := (bX_check_alphabet)) F S lenx_check_alphabet (fun cdv A outer s H E hr hpx =>
    (puss_cons (pus_if (put_not (put_chain op_leAll leP_ok op_leAll leP_ok (PuE.o pu_int) (PuE.o (pu_len M.len (PuE.o (pu_name 0)))) (PuE.o pu_int)))
      (puss_one (pus_raise E_BadAlphabet BB_BadAlphabet rfl hr (pua_cons (pu_name 0) pua_nil)))
      puss_nil)
      (puss_one (pus_for hpx rfl (pui_en M.enumerate (pu_name 0)) (pug_tup rfl (pugs_cons (pug_name 1 S.nd) (pugs_cons (pug_name 2 S.nd) pugs_nil)))
      (puss_one (pus_if (PuW.t (puw_or (put_notIn (Room.u65 hr) (pu_name 2) (PuE.o (pu_gstr G.LETTERS))) (puw_or1 (PuW.t (puw_and (put_gt (PuE.o (pu_name 1)) (PuE.o pu_int)) (puw_and1 (put_ge (PuE.o (pu_ix (hu_of hr) (PuE.o (pu_name 0)) (pu_sub (PuE.o (pu_name 1)) (PuE.o pu_int)))) (PuE.o (pu_name 2)))))))))
      (puss_one (pus_raise E_BadAlphabet BB_BadAlphabet rfl hr (pua_cons (pu_name 0) pua_nil)))
      puss_nil)))))) wx_check_alphabet
theorem sc_order_of_text : FnScope ["text"] ["text"] (defScope d_order_of_text) := ⟨rfl, rfl, rfl, by decide +kernel, rfl, by decide +kernel, by decide +kernel⟩
theorem ok_order_of_text {f : Addr} {fd : FuncData} (F : FnP K "order_of_text" d_order_of_text f fd) (M : Fre mg) : FnOk P w K mg base CX0 1 f fd ["text"] (spP K mg sp_order_of_text) :=
  have S := sc_order_of_text
  pfnD (p := b_order_of_text) F S len_order_of_text (fun cdv A outer s H E hr =>
    (puss_one (pus_ret (pu_tup (pua_cons (pu_len M.len (PuE.o (pu_name 0))) (pua_cons (pu_name 0) pua_nil)))))) w_order_of_text
theorem sc_greatest_count : FnScope ["size", "length", "count", "left", "letters", "texts"] ["size", "length"] (defScope d_greatest_count) := ⟨rfl, rfl, rfl, by decide +kernel, rfl, by decide +kernel, by decide +kernel⟩
theorem ok_greatest_count {f : Addr} {fd : FuncData} (F : FnP K "greatest_count" d_greatest_count f fd) (I_isqrt : mg "isqrt" = some (.builtin "math.isqrt")) : FnOk P w K mg base CX0 1 f fd ["size", "length"] (spP K mg sp_greatest_count) :=
  have S := sc_greatest_count
  pfnD (p := b_greatest_count) F S len_greatest_count (fun cdv A outer s H E hr =>
    (puss_cons (pus_if (put_eq (Room.units hr) (PuE.o (pu_name 0)) (PuE.o pu_int))
      (puss_cons (pus_set 2 S.nd (pu_isqrt I_isqrt (PuE.o (pu_mul (PuE.o pu_int) (PuE.o (pu_name 1))))))
      (puss_cons (pus_if (put_gt (PuE.o (pu_mul (PuE.o (pu_name 2)) (PuE.o (pu_add (PuE.o (pu_name 2)) (PuE.o pu_int))))) (PuE.o (pu_mul (PuE.o pu_int) (PuE.o (pu_name 1)))))
      (puss_one (pus_set 2 S.nd (pu_sub (PuE.o (pu_name 2)) (PuE.o pu_int))))
      puss_nil)
      (puss_one (pus_ret (pu_name 2)))))
      puss_nil)
      (puss_cons (pus_set 2 S.nd pu_int)
      (puss_cons (pus_set 3 S.nd (pu_name 1))
      (puss_cons (pus_set 4 S.nd pu_int)
      (puss_cons (pus_set 5 S.nd (pu_name 0))
      (puss_cons (pus_while PassesOwn.never (put_le (PuE.o (pu_mul (PuE.o (pu_name 5)) (PuE.o (pu_name 4)))) (PuE.o (pu_name 3)))
      (puss_cons (pus_set 2 S.nd (pu_add (PuE.o (pu_name 2)) (PuE.o (pu_name 5))))
      (puss_cons (pus_set 3 S.nd (pu_sub (PuE.o (pu_name 3)) (PuE.o (pu_mul (PuE.o (pu_name 5)) (PuE.o (pu_name 4))))))
      (puss_cons (pus_set 4 S.nd (pu_add (PuE.o (pu_name 4)) (PuE.o pu_int)))
      (puss_one (pus_set 5 S.nd (pu_mul (PuE.o (pu_name 5)) (PuE.o (pu_name 0)))))))))
      (puss_one (pus_ret (pu_add (PuE.o (pu_name 2)) (PuE.o (pu_fdiv (PuE.o (pu_name 3)) (PuE.o (pu_name 4)))))))))))))) w_greatest_count
theorem sc_least_count : FnScope ["length", "count"] ["length"] (defScope d_least_count) := ⟨rfl, rfl, rfl, by decide +kernel, rfl, by decide +kernel, by decide +kernel⟩
theorem ok_least_count {f : Addr} {fd : FuncData} (F : FnP K "least_count" d_least_count f fd) (I_isqrt : mg "isqrt" = some (.builtin "math.isqrt")) : FnOk P w K mg base CX0 1 f fd ["length"] (spP K mg sp_least_count) :=
  have S := sc_least_count
  pfnD (p := b_least_count) F S len_least_count (fun cdv A outer s H E hr =>
    (puss_cons (pus_set 1 S.nd (pu_isqrt I_isqrt (PuE.o (pu_mul (PuE.o pu_int) (PuE.o (pu_name 0))))))
      (puss_cons (pus_if (PuW.t (puw_and (put_gt (PuE.o (pu_name 1)) (PuE.o pu_int)) (puw_and1 (put_ge (PuE.o (pu_mul (PuE.o (pu_sub (PuE.o (pu_name 1)) (PuE.o pu_int))) (PuE.o (pu_add (PuE.o (pu_name 1)) (PuE.o pu_int))))) (PuE.o (pu_mul (PuE.o pu_int) (PuE.o (pu_name 0))))))))
      (puss_one (pus_set 1 S.nd (pu_sub (PuE.o (pu_name 1)) (PuE.o pu_int))))
      puss_nil)
      (puss_one (pus_ret (pu_name 1)))))) w_least_count
theorem sc_first_words : FnScope ["alphabet", "count", "words", "index", "letter"] ["alphabet", "count"] (defScope d_first_words) := ⟨rfl, rfl, rfl, by decide +kernel, rfl, by decide +kernel, by decide +kernel⟩
theorem ok_first_words {f : Addr} {fd : FuncData} (F : FnP K "first_words" d_first_words f fd) (M : Fre mg) : FnOk P w K mg base CX0 1 f fd ["alphabet", "count"] (spP K mg sp_first_words) :=
  have S := sc_first_words
  pfnD (p := b_first_words) F S len_first_words (fun cdv A outer s H E hr =>
    (puss_cons (pus_setO 2 S.nd (puf_lst (pua_cons pu_str pua_nil)))
      (puss_cons (pus_set 3 S.nd pu_int)
      (puss_cons (pus_while PassesOwn.never (put_le (PuE.o (pu_len M.len (pu_nameO 2))) (PuE.o (pu_name 1)))
      (puss_cons (pus_for PassesOwn.never rfl (pui_e (pu_name 0)) (pug_name 4 S.nd)
      (puss_one (pus_app 2 (pu_add (PuE.o (pu_ix (hu_of hr) (pu_nameO 2) (pu_name 3))) (PuE.o (pu_name 4))))))
      (puss_one (pus_set 3 S.nd (pu_add (PuE.o (pu_name 3)) (PuE.o pu_int))))))
      (puss_one (pus_ret (pu_sl (pu_nameO 2) (pupo_some pu_int) (pupo_some (pu_add (PuE.o (pu_name 1)) (PuE.o pu_int)))))))))) w_first_words
theorem sc_words_with_total : FnScope ["alphabet", "total", "count", "first", "words", "chain", "others", "missing", "word", "step"] ["alphabet", "total", "count"] (defScope d_words_with_total) := ⟨rfl, rfl, rfl, by decide +kernel, rfl, by decide +kernel, by decide +kernel⟩
theorem ok_words_with_total {f : Addr} {fd : FuncData} (F : FnP K "words_with_total" d_words_with_total f fd) (M : Fre mg) {fk_order_of_text : Addr} (KF_order_of_text : KeyF K mg "order_of_text" fk_order_of_text) {f_first_words : Addr} {fd_first_words : FuncData} (C_first_words : Cal P w K mg base "first_words" ["alphabet", "count"] 1 f_first_words fd_first_words sp_first_words) : FnOk P w K mg base CX0 2 f fd ["alphabet", "total", "count"] (spP K mg sp_words_with_total) :=
  have S := sc_words_with_total
  pfnD (p := (b_words_with_total sp_first_words)) F S len_words_with_total (fun cdv A outer s H E hr =>
    (puss_cons (pus_set 3 S.nd (pu_ix (hu_of hr) (PuE.o (pu_name 0)) pu_int))
      (puss_cons (pus_set 4 S.nd (pu_c C_first_words hr (pua_cons (pu_name 0) (pua_cons (pu_name 2) pua_nil))))
      (puss_cons (pus_setLc 5 rfl S.nd (pui_e (pu_name 4)) (blkOk_by (own := [("word", 8)]) (N := ["alphabet", "total", "count", "first", "words", "chain", "others", "missing", "word", "step"]) (sc := defScope d_words_with_total) (by decide +kernel)) (fun _ _ _ _ _ => (pug_name 8 S.nd)) (fun _ _ _ _ _ => (puts_one (put_eq (Room.units hr) (PuE.o (pu_name 8)) (PuE.o (pu_mul (PuE.o (pu_name 3)) (PuE.o (pu_len M.len (PuE.o (pu_name 8))))))))) (fun _ _ _ _ _ => (pu_name 8)))
      (puss_cons (pus_setLc 6 rfl S.nd (pui_e (pu_name 4)) (blkOk_by (own := [("word", 8)]) (N := ["alphabet", "total", "count", "first", "words", "chain", "others", "missing", "word", "step"]) (sc := defScope d_words_with_total) (by decide +kernel)) (fun _ _ _ _ _ => (pug_name 8 S.nd)) (fun _ _ _ _ _ => (puts_one (put_ne (Room.units hr) (PuE.o (pu_name 8)) (PuE.o (pu_mul (PuE.o (pu_name 3)) (PuE.o (pu_len M.len (PuE.o (pu_name 8))))))))) (fun _ _ _ _ _ => (pu_name 8)))
      (puss_cons (pus_set 7 S.nd (pu_sub (PuE.o (pu_name 1)) (PuE.o (pu_sum rfl M.sum (PuF.o (puf_lc rfl S.nd (pui_e (pu_name 4)) (blkOk_by (own := [("word", 8)]) (N := ["alphabet", "total", "count", "first", "words", "chain", "others", "missing", "word", "step"]) (sc := defScope d_words_with_total) (by decide +kernel)) (fun _ _ _ _ _ => (pug_name 8 S.nd)) (fun _ _ _ _ _ => puts_nil) (fun _ _ _ _ _ => (pu_len M.len (PuE.o (pu_name 8))))))))))
      (puss_cons (pus_while PassesOwn.never (put_gt (PuE.o (pu_name 7)) (PuE.o pu_int))
      (puss_cons (pus_pop 6 8 S.nd (hv := pv _))
      (puss_cons (pus_set 9 S.nd (pu_sub (PuE.o (pu_add (PuE.o (pu_len M.len (pu_nameO 5))) (PuE.o pu_int))) (PuE.o (pu_len M.len (PuE.o (pu_name 8))))))
      (puss_one (pus_if (put_le (PuE.o (pu_name 9)) (PuE.o (pu_name 7)))
      (puss_cons (pus_app 5 (pu_mul (PuE.o (pu_name 3)) (PuE.o (pu_add (PuE.o (pu_len M.len (pu_nameO 5))) (PuE.o pu_int)))))
      (puss_one (pus_set 7 S.nd (pu_sub (PuE.o (pu_name 7)) (PuE.o (pu_name 9))))))
      (puss_cons (pus_app 6 (pu_add (PuE.o (pu_mul (PuE.o (pu_name 3)) (PuE.o (pu_sub (PuE.o (pu_add (PuE.o (pu_len M.len (PuE.o (pu_name 8)))) (PuE.o (pu_name 7)))) (PuE.o pu_int))))) (PuE.o (pu_ix (hu_of hr) (PuE.o (pu_name 0)) pu_int))))
      (puss_one (pus_set 7 S.nd pu_int))))))))
      (puss_one (pus_ret (PuF.toE (puf_sortK KF_order_of_text M.len M.sorted hr (PuE.o (pu_add (pu_nameO 5) (pu_nameO 6)))))))))))))) w_words_with_total
theorem sc_text_with : FnScope ["alphabet", "length", "count"] ["alphabet", "length", "count"] (defScope d_text_with) := ⟨rfl, rfl, rfl, by decide +kernel, rfl, by decide +kernel, by decide +kernel⟩
theorem okX_text_with {f : Addr} {fd : FuncData} (F : FnP K "text_with" d_text_with f fd) (M : Fre mg) {f_least_count : Addr} {fd_least_count : FuncData} (C_least_count : Cal P w K mg base "least_count" ["length"] 1 f_least_count fd_least_count sp_least_count) {f_greatest_count : Addr} {fd_greatest_count : FuncData} (C_greatest_count : Cal P w K mg base "greatest_count" ["size", "length"] 1 f_greatest_count fd_greatest_count sp_greatest_count) {f_words_with_total : Addr} {fd_words_with_total : FuncData} (C_words_with_total : Cal P w K mg base "words_with_total" ["alphabet", "total", "count"] 2 f_words_with_total fd_words_with_total sp_words_with_total) {fx_check_alphabet : Addr} {fdx_check_alphabet : FuncData} (CX_check_alphabet : CalX P w K mg base "check_alphabet" ["alphabet"] 3 fx_check_alphabet fdx_check_alphabet sx_check_alphabet) : FnOk P w K mg base (L2.CX P w) 4 f fd ["alphabet", "length", "count"] (spX K mg sx_text_with) :=
  have S := sc_text_with
  pfnX (p := (bX_text_with sp_least_count sp_greatest_count sp_words_with_total sx_check_alphabet)) F S lenx_text_with (fun cdv A outer s H E hr hpx =>
    (puss_cons (pus_exprX (pux_c CX_check_alphabet hr (puax_of (pua_cons (pu_name 0) pua_nil))))
      (puss_cons (pus_if (PuW.t (puw_or (put_lt (PuE.o (pu_name 2)) (PuE.o (pu_c C_least_count hr (pua_cons (pu_name 1) pua_nil)))) (puw_or1 (put_gt (PuE.o (pu_name 2)) (PuE.o (pu_c C_greatest_count hr (pua_cons (pu_len M.len (PuE.o (pu_name 0))) (pua_cons (pu_name 1) pua_nil))))))))
      (puss_one (pus_ret pu_non))
      puss_nil)
      (puss_cons (pus_if (put_ge (PuE.o (pu_name 1)) (PuE.o (pu_fdiv (PuE.o (pu_mul (PuE.o (pu_name 2)) (PuE.o (pu_add (PuE.o (pu_name 2)) (PuE.o pu_int))))) (PuE.o pu_int))))
      (puss_one (pus_ret (pu_mul (PuE.o (pu_ix (hu_of hr) (PuE.o (pu_name 0)) pu_int)) (PuE.o (pu_name 1)))))
      puss_nil)
      (puss_one (pus_ret (pu_join pu_str (PuE.o (pu_c C_words_with_total hr (pua_cons (pu_name 0) (pua_cons (pu_name 1) (pua_cons (pu_name 2) pua_nil)))))))))))) wx_text_with
theorem sc_law_cell : FnScope ["script", "k", "seed", "cell"] ["script", "k"] (defScope d_law_cell) := ⟨rfl, rfl, rfl, by decide +kernel, rfl, by decide +kernel, by decide +kernel⟩
theorem ok_law_cell {f : Addr} {fd : FuncData} (F : FnP K "_law_cell" d_law_cell f fd) (M : Fre mg) : FnOk P w K mg base CX0 1 f fd ["script", "k"] (spP K mg sp_law_cell) :=
  have S := sc_law_cell
  pfnD (p := b_law_cell) F S len_law_cell (fun cdv A outer s H E hr =>
    (puss_cons (pus_if (put_lt (PuE.o (pu_name 1)) (PuE.o (pu_len M.len (PuE.o (pu_name 0)))))
      (puss_one (pus_ret (pu_ix (hu_of hr) (PuE.o (pu_name 0)) (pu_name 1))))
      puss_nil)
      (puss_cons (pus_set 2 S.nd pu_int)
      (puss_cons (pus_for PassesOwn.never rfl (pui_e (pu_name 0)) (pug_name 3 S.nd)
      (puss_one (pus_set 2 S.nd (pu_mod (PuE.o (pu_int1 M.int (PuE.o (pu_add (PuE.o (pu_mul (PuE.o (pu_name 2)) (PuE.o pu_int))) (PuE.o (pu_mod (PuE.o (pu_int1 M.int (PuE.o (pu_name 3)))) (PuE.o pu_int))))))) (PuE.o pu_int)))))
      (puss_one (pus_ret (pu_mod (PuE.o (pu_int1 M.int (PuE.o (pu_mul (PuE.o (pu_mul (PuE.o (pu_add (PuE.o (pu_name 2)) (PuE.o pu_int))) (PuE.o (pu_add (PuE.o (pu_name 1)) (PuE.o pu_int))))) (PuE.o pu_int))))) (PuE.o pu_int)))))))) w_law_cell
theorem sc_law_digits : FnScope ["cell", "sizes", "row", "rest", "size", "seed", "k", "twice"] ["cell", "sizes"] (defScope d_law_digits) := ⟨rfl, rfl, rfl, by decide +kernel, rfl, by decide +kernel, by decide +kernel⟩
theorem ok_law_digits {f : Addr} {fd : FuncData} (F : FnP K "_law_digits" d_law_digits f fd) (M : Fre mg) : FnOk P w K mg base CX0 1 f fd ["cell", "sizes"] (spP K mg sp_law_digits) :=
  have S := sc_law_digits
  pfnD (p := b_law_digits) F S len_law_digits (fun cdv A outer s H E hr =>
    (puss_cons (pus_setO 2 S.nd (puf_lst pua_nil))
      (puss_cons (pus_set 3 S.nd (pu_int1 M.int (PuE.o (pu_name 0))))
      (puss_cons (pus_if (put_ge (PuE.o (pu_name 3)) (PuE.o (pu_pow (PuE.o pu_int) (PuE.o pu_int))))
      (puss_cons (pus_set 3 S.nd (pu_sub (PuE.o (pu_name 3)) (PuE.o (pu_pow (PuE.o pu_int) (PuE.o pu_int)))))
      (puss_cons (pus_for PassesOwn.never rfl (pui_e (pu_name 1)) (pug_name 4 S.nd)
      (puss_cons (pus_app 2 (pu_mod (PuE.o (pu_int1 M.int (PuE.o (pu_name 3)))) (PuE.o (pu_name 4))))
      (puss_one (pus_set 3 S.nd (pu_fdiv (PuE.o (pu_int1 M.int (PuE.o (pu_name 3)))) (PuE.o (pu_name 4)))))))
      (puss_one (pus_frz 2 (pus_ret (pu_name 2))))))
      puss_nil)
      (puss_cons (pus_set 5 S.nd (pu_mod (PuE.o (pu_int1 M.int (PuE.o (pu_name 3)))) (PuE.o pu_int)))
      (puss_cons (pus_for PassesOwn.never rfl (pui_r1 M.range (pu_len M.len (PuE.o (pu_name 1)))) (pug_name 6 S.nd)
      (puss_cons (pus_set 5 S.nd (pu_mod (PuE.o (pu_int1 M.int (PuE.o (pu_add (PuE.o (pu_add (PuE.o (pu_mul (PuE.o (pu_name 5)) (PuE.o pu_int))) (PuE.o (pu_mul (PuE.o pu_int) (PuE.o (pu_name 6)))))) (PuE.o pu_int))))) (PuE.o pu_int)))
      (puss_cons (pus_set 7 S.nd (pu_mod (PuE.o (pu_int1 M.int (PuE.o (pu_mul (PuE.o (pu_name 5)) (PuE.o (pu_add (PuE.o (pu_fdiv (PuE.o (pu_name 5)) (PuE.o pu_int))) (PuE.o pu_int))))))) (PuE.o pu_int)))
      (puss_one (pus_app 2 (pu_mod (PuE.o (pu_fdiv (PuE.o (pu_name 7)) (PuE.o pu_int))) (PuE.o (pu_ix (hu_of hr) (PuE.o (pu_name 1)) (pu_name 6)))))))))
      (puss_one (pus_frz 2 (pus_ret (pu_name 2)))))))))) w_law_digits
theorem sc_law_alphabet : FnScope ["row", "upto", "many", "letters", "taken", "k", "at", "turn"] ["row", "upto"] (defScope d_law_alphabet) := ⟨rfl, rfl, rfl, by decide +kernel, rfl, by decide +kernel, by decide +kernel⟩
theorem ok_law_alphabet {f : Addr} {fd : FuncData} (F : FnP K "_law_alphabet" d_law_alphabet f fd) (M : Fre mg) : FnOk P w K mg base CX0 1 f fd ["row", "upto"] (spP K mg sp_law_alphabet) :=
  have S := sc_law_alphabet
  pfnD (p := b_law_alphabet) F S len_law_alphabet (fun cdv A outer s H E hr =>
    (puss_cons (pus_set 2 S.nd (pu_min rfl M.min (puao_cons (PuE.o (pu_name 1)) (puao_cons (PuE.o (pu_ix (hu_of hr) (PuF.o (puf_lst (pua_cons pu_int (pua_cons pu_int (pua_cons pu_int (pua_cons pu_int (pua_cons pu_int (pua_cons pu_int (pua_cons pu_int (pua_cons pu_int (pua_cons pu_int (pua_cons pu_int (pua_cons pu_int (pua_cons pu_int pua_nil)))))))))))))) (pu_ix (hu_of hr) (PuE.o (pu_name 0)) pu_int))) puao_nil))))
      (puss_cons (pus_set 3 S.nd pu_str)
      (puss_cons (pus_setO 4 S.nd (puf_lst pua_nil))
      (puss_cons (pus_for PassesOwn.never rfl (pui_r1 M.range (pu_name 2)) (pug_name 5 S.nd)
      (puss_cons (pus_set 6 S.nd (pu_mod (PuE.o (pu_int1 M.int (PuE.o (pu_ix (hu_of hr) (PuE.o (pu_name 0)) (pu_add (PuE.o pu_int) (PuE.o (pu_name 5))))))) (PuE.o pu_int)))
      (puss_cons (pus_for PassesOwn.never rfl (pui_r1 M.range pu_int) (pug_name 7 S.nd)
      (puss_one (pus_if (put_in (Room.u65 hr) (pu_ix (hu_of hr) (PuE.o (pu_name 3)) (pu_name 6)) (pu_nameO 4))
      (puss_one (pus_set 6 S.nd (pu_mod (PuE.o (pu_int1 M.int (PuE.o (pu_add (PuE.o (pu_name 6)) (PuE.o pu_int))))) (PuE.o pu_int))))
      puss_nil)))
      (puss_one (pus_app 4 (pu_ix (hu_of hr) (PuE.o (pu_name 3)) (pu_name 6)))))))
      (puss_one (pus_ret (pu_join pu_str (PuF.o (puf_sortI M.sorted (pu_nameO 4))))))))))) w_law_alphabet
theorem sc_law_cut : FnScope ["text", "pieces", "number", "rows", "word", "letter"] ["text"] (defScope d_law_cut) := ⟨rfl, rfl, rfl, by decide +kernel, rfl, by decide +kernel, by decide +kernel⟩
theorem ok_law_cut {f : Addr} {fd : FuncData} (F : FnP K "_law_cut" d_law_cut f fd) (M : Fre mg) : FnOk P w K mg base CX0 1 f fd ["text"] (spP K mg sp_law_cut) :=
  have S := sc_law_cut
  pfnD (p := b_law_cut) F S len_law_cut (fun cdv A outer s H E hr =>
    (puss_cons (pus_setO 1 S.nd (puf_lst (pua_cons pu_str pua_nil)))
      (puss_cons (pus_setO 2 S.nd (puf_disp (pups_cons pu_str pu_int pups_nil)))
      (puss_cons (pus_setO 3 S.nd (puf_lst pua_nil))
      (puss_cons (pus_set 4 S.nd pu_str)
      (puss_cons (pus_for PassesOwn.never rfl (pui_e (pu_name 0)) (pug_name 5 S.nd)
      (puss_one (pus_if (put_in (Room.u65 hr) (pu_add (PuE.o (pu_name 4)) (PuE.o (pu_name 5))) (pu_nameO 2))
      (puss_one (pus_set 4 S.nd (pu_add (PuE.o (pu_name 4)) (PuE.o (pu_name 5)))))
      (puss_cons (pus_app 3 (pu_tup (pua_cons (pu_ix (hu_of hr) (pu_nameO 2) (pu_name 4)) (pua_cons (pu_name 5) pua_nil))))
      (puss_cons (pus_setI 2 (hu_of hr) (pu_add (PuE.o (pu_name 4)) (PuE.o (pu_name 5))) (pu_len M.len (pu_nameO 1)) (fun _ _ h g => ps_asg h (pg_sub (pv _) g (set_all (hu_of hr)))))
      (puss_cons (pus_app 1 (pu_add (PuE.o (pu_name 4)) (PuE.o (pu_name 5))))
      (puss_one (pus_set 4 S.nd pu_str))))))))
      (puss_one (pus_frz 1 (pus_ret (PuF.toE (puf_lst (pua_cons (pu_tuple M.tuple (pu_nameO 3)) (pua_cons (pu_ix (hu_of hr) (pu_nameO 2) (pu_name 4)) (pua_cons (pu_name 1) pua_nil)))))))))))))) w_law_cut
theorem sc_law_least : FnScope ["far", "many"] ["far"] (defScope d_law_least) := ⟨rfl, rfl, rfl, by decide +kernel, rfl, by decide +kernel, by decide +kernel⟩
theorem ok_law_least {f : Addr} {fd : FuncData} (F : FnP K "_law_least" d_law_least f fd) (M : Fre mg) : FnOk P w K mg base CX0 1 f fd ["far"] (spP K mg sp_law_least) :=
  have S := sc_law_least
  pfnD (p := b_law_least) F S len_law_least (fun cdv A outer s H E hr =>
    (puss_cons (pus_for PassesOwn.never rfl (pui_r1 M.range pu_int) (pug_name 1 S.nd)
      (puss_one (pus_if (put_ge (PuE.o (pu_mul (PuE.o (pu_name 1)) (PuE.o (pu_add (PuE.o (pu_name 1)) (PuE.o pu_int))))) (PuE.o (pu_mul (PuE.o pu_int) (PuE.o (pu_name 0)))))
      (puss_one (pus_ret (pu_name 1)))
      puss_nil)))
      (puss_one (pus_ret pu_int)))) w_law_least
theorem sc_law_greatest : FnScope ["base", "far", "many", "left", "letters", "level", "here", "k"] ["base", "far"] (defScope d_law_greatest) := ⟨rfl, rfl, rfl, by decide +kernel, rfl, by decide +kernel, by decide +kernel⟩
theorem ok_law_greatest {f : Addr} {fd : FuncData} (F : FnP K "_law_greatest" d_law_greatest f fd) (M : Fre mg) : FnOk P w K mg base CX0 1 f fd ["base", "far"] (spP K mg sp_law_greatest) :=
  have S := sc_law_greatest
  pfnD (p := b_law_greatest) F S len_law_greatest (fun cdv A outer s H E hr =>
    (puss_cons (pus_set 2 S.nd pu_int)
      (puss_cons (pus_set 3 S.nd (pu_name 1))
      (puss_cons (pus_set 4 S.nd pu_int)
      (puss_cons (pus_set 5 S.nd (pu_name 0))
      (puss_cons (pus_set 6 S.nd (pu_name 0))
      (puss_cons (pus_for PassesOwn.never rfl (pui_r1 M.range pu_int) (pug_name 7 S.nd)
      (puss_cons (pus_if (put_eq (Room.units hr) (PuE.o (pu_name 6)) (PuE.o pu_int))
      (puss_cons (pus_set 4 S.nd (pu_add (PuE.o (pu_name 4)) (PuE.o pu_int)))
      (puss_cons (pus_set 5 S.nd (pu_mul (PuE.o (pu_name 5)) (PuE.o (pu_name 0))))
      (puss_one (pus_set 6 S.nd (pu_name 5)))))
      puss_nil)
      (puss_cons (pus_if (put_gt (PuE.o (pu_name 4)) (PuE.o (pu_name 3)))
      (puss_one pus_break)
      puss_nil)
      (puss_cons (pus_set 3 S.nd (pu_sub (PuE.o (pu_name 3)) (PuE.o (pu_name 4))))
      (puss_cons (pus_set 6 S.nd (pu_sub (PuE.o (pu_name 6)) (PuE.o pu_int)))
      (puss_one (pus_set 2 S.nd (pu_add (PuE.o (pu_name 2)) (PuE.o pu_int)))))))))
      (puss_one (pus_ret (pu_name 2)))))))))) w_law_greatest
theorem sc_law_far : FnScope ["base", "row", "far", "texts", "k"] ["base", "row"] (defScope d_law_far) := ⟨rfl, rfl, rfl, by decide +kernel, rfl, by decide +kernel, by decide +kernel⟩
theorem ok_law_far {f : Addr} {fd : FuncData} (F : FnP K "_law_far" d_law_far f fd) (M : Fre mg) : FnOk P w K mg base CX0 1 f fd ["base", "row"] (spP K mg sp_law_far) :=
  have S := sc_law_far
  pfnD (p := b_law_far) F S len_law_far (fun cdv A outer s H E hr =>
    (puss_cons (pus_set 2 S.nd (pu_ix (hu_of hr) (PuE.o (pu_name 1)) pu_int))
      (puss_cons (pus_jn (pus_if (put_eq (Room.units hr) (PuE.o (pu_ix (hu_of hr) (PuE.o (pu_name 1)) pu_int)) (PuE.o pu_int))
      (puss_one (pus_set 2 S.nd (pu_ix (hu_of hr) (PuE.o (pu_name 1)) pu_int)))
      puss_nil))
      (puss_cons (pus_jn (pus_if (put_eq (Room.units hr) (PuE.o (pu_ix (hu_of hr) (PuE.o (pu_name 1)) pu_int)) (PuE.o pu_int))
      (puss_one (pus_set 2 S.nd (pu_ix (hu_of hr) (PuE.o (pu_name 1)) pu_int)))
      puss_nil))
      (puss_cons (pus_jn (pus_if (put_eq (Room.units hr) (PuE.o (pu_ix (hu_of hr) (PuE.o (pu_name 1)) pu_int)) (PuE.o pu_int))
      (puss_one (pus_set 2 S.nd (pu_sub (PuE.o (pu_add (PuE.o (pu_fdiv (PuE.o (pu_mul (PuE.o (pu_ix (hu_of hr) (PuE.o (pu_name 1)) pu_int)) (PuE.o (pu_add (PuE.o (pu_ix (hu_of hr) (PuE.o (pu_name 1)) pu_int)) (PuE.o pu_int))))) (PuE.o pu_int))) (PuE.o (pu_ix (hu_of hr) (PuE.o (pu_name 1)) pu_int)))) (PuE.o pu_int))))
      puss_nil))
      (puss_cons (pus_if (put_gt (PuE.o (pu_ix (hu_of hr) (PuE.o (pu_name 1)) pu_int)) (PuE.o pu_int))
      (puss_cons (pus_set 2 S.nd (pu_sub (PuE.o (pu_ix (hu_of hr) (PuE.o (pu_name 1)) pu_int)) (PuE.o pu_int)))
      (puss_cons (pus_set 3 S.nd pu_int)
      (puss_one (pus_for PassesOwn.never rfl (pui_r2 M.range pu_int (pu_add (PuE.o pu_int) (PuE.o (pu_mod (PuE.o (pu_int1 M.int (PuE.o (pu_ix (hu_of hr) (PuE.o (pu_name 1)) pu_int)))) (PuE.o pu_int))))) (pug_name 4 S.nd)
      (puss_cons (pus_set 3 S.nd (pu_mul (PuE.o (pu_name 3)) (PuE.o (pu_name 0))))
      (puss_one (pus_if (put_le (PuE.o (pu_add (PuE.o (pu_name 2)) (PuE.o (pu_mul (PuE.o (pu_name 3)) (PuE.o (pu_name 4)))))) (PuE.o pu_int))
      (puss_one (pus_set 2 S.nd (pu_add (PuE.o (pu_name 2)) (PuE.o (pu_mul (PuE.o (pu_name 3)) (PuE.o (pu_name 4)))))))
      puss_nil)))))))
      puss_nil)
      (puss_one (pus_ret (pu_max rfl M.max (puao_cons (PuE.o pu_int) (puao_cons (PuE.o (pu_name 2)) puao_nil))))))))))) w_law_far
theorem sc_law_manies : FnScope ["least", "most", "row", "wide", "drawn", "many"] ["least", "most", "row"] (defScope d_law_manies) := ⟨rfl, rfl, rfl, by decide +kernel, rfl, by decide +kernel, by decide +kernel⟩
theorem ok_law_manies {f : Addr} {fd : FuncData} (F : FnP K "_law_manies" d_law_manies f fd) (M : Fre mg) : FnOk P w K mg base CX0 1 f fd ["least", "most", "row"] (spP K mg sp_law_manies) :=
  have S := sc_law_manies
  pfnD (p := b_law_manies) F S len_law_manies (fun cdv A outer s H E hr =>
    (puss_cons (pus_if (put_le (PuE.o (pu_sub (PuE.o (pu_name 1)) (PuE.o (pu_name 0)))) (PuE.o pu_int))
      (puss_one (pus_ret (PuF.toE (puf_lc rfl S.nd (pui_r2 M.range (pu_max rfl M.max (puao_cons (PuE.o pu_int) (puao_cons (PuE.o (pu_sub (PuE.o (pu_name 0)) (PuE.o pu_int))) puao_nil))) (pu_add (PuE.o (pu_name 1)) (PuE.o pu_int))) (blkOk_by (own := [("many", 5)]) (N := ["least", "most", "row", "wide", "drawn", "many"]) (sc := defScope d_law_manies) (by decide +kernel)) (fun _ _ _ _ _ => (pug_name 5 S.nd)) (fun _ _ _ _ _ => puts_nil) (fun _ _ _ _ _ => (pu_name 5))))))
      puss_nil)
      (puss_cons (pus_set 3 S.nd (pu_add (PuE.o (pu_sub (PuE.o (pu_name 1)) (PuE.o (pu_name 0)))) (PuE.o pu_int)))
      (puss_cons (pus_set 4 S.nd (PuF.toE (puf_lst (pua_cons (pu_add (PuE.o (pu_name 0)) (PuE.o (pu_mod (PuE.o (pu_int1 M.int (PuE.o (pu_ix (hu_of hr) (PuE.o (pu_name 2)) pu_int)))) (PuE.o (pu_name 3))))) (pua_cons (pu_add (PuE.o (pu_name 0)) (PuE.o (pu_mod (PuE.o (pu_int1 M.int (PuE.o (pu_ix (hu_of hr) (PuE.o (pu_name 2)) pu_int)))) (PuE.o (pu_name 3))))) pua_nil)))))
      (puss_one (pus_ret (pu_add (PuF.o (puf_lst (pua_cons (pu_max rfl M.max (puao_cons (PuE.o pu_int) (puao_cons (PuE.o (pu_sub (PuE.o (pu_name 0)) (PuE.o pu_int))) puao_nil))) (pua_cons (pu_name 0) (pua_cons (pu_add (PuE.o (pu_name 0)) (PuE.o pu_int)) (pua_cons (pu_sub (PuE.o (pu_name 1)) (PuE.o pu_int)) (pua_cons (pu_name 1) (pua_cons (pu_add (PuE.o (pu_name 1)) (PuE.o pu_int)) pua_nil)))))))) (PuE.o (pu_name 4))))))))) w_law_manies
theorem sc_law_told : FnScope ["abc", "far", "many", "least", "most", "told", "letter"] ["abc", "far", "many", "least", "most"] (defScope d_law_told) := ⟨rfl, rfl, rfl, by decide +kernel, rfl, by decide +kernel, by decide +kernel⟩
theorem ok_law_told {f : Addr} {fd : FuncData} (F : FnP K "_law_told" d_law_told f fd) (M : Fre mg) {f_text_with : Addr} {fd_text_with : FuncData} (C_text_with : Cal P w K mg base "text_with" ["alphabet", "length", "count"] 4 f_text_with fd_text_with sp_text_with) {f_law_cut : Addr} {fd_law_cut : FuncData} (C_law_cut : Cal P w K mg base "_law_cut" ["text"] 1 f_law_cut fd_law_cut sp_law_cut) : FnOk P w K mg base CX0 5 f fd ["abc", "far", "many", "least", "most"] (spP K mg sp_law_told) :=
  have S := sc_law_told
  pfnD (p := (b_law_told sp_text_with sp_law_cut)) F S len_law_told (fun cdv A outer s H E hr =>
    (puss_cons (pus_set 5 S.nd (pu_c C_text_with hr (pua_cons (pu_name 0) (pua_cons (pu_name 1) (pua_cons (pu_name 2) pua_nil)))))
      (puss_cons (pus_if (PuW.t (puw_or (put_lt (PuE.o (pu_name 2)) (PuE.o (pu_name 3))) (puw_or1 (put_gt (PuE.o (pu_name 2)) (PuE.o (pu_name 4))))))
      (puss_one (pus_ret (pu_isN (pu_name 5))))
      puss_nil)
      (puss_cons (pus_if (PuW.t (puw_or (put_not (put_val (pu_isi M.isinstance M.str (PuE.o (pu_name 5))))) (puw_or1 (put_ne (Room.units hr) (PuE.o (pu_len M.len (PuE.o (pu_name 5)))) (PuE.o (pu_name 1))))))
      (puss_one (pus_ret pu_bl))
      puss_nil)
      (puss_cons (pus_for PassesOwn.never rfl (pui_e (pu_name 5)) (pug_name 6 S.nd)
      (puss_one (pus_if (put_notIn (Room.u65 hr) (pu_name 6) (PuE.o (pu_name 0)))
      (puss_one (pus_ret pu_bl))
      puss_nil)))
      (puss_one (pus_ret (pu_eq (Room.units hr) (PuE.o (pu_len M.len (PuE.o (pu_ix (hu_of hr) (PuE.o (pu_c C_law_cut hr (pua_cons (pu_name 5) pua_nil))) pu_int)))) (PuE.o (pu_name 2)))))))))) w_law_told
theorem sc_law_is_alphabet : FnScope ["word", "letters", "last", "sign", "at"] ["word"] (defScope d_law_is_alphabet) := ⟨rfl, rfl, rfl, by decide +kernel, rfl, by decide +kernel, by decide +kernel⟩
theorem ok_law_is_alphabet {f : Addr} {fd : FuncData} (F : FnP K "_law_is_alphabet" d_law_is_alphabet f fd) (M : Fre mg) : FnOk P w K mg base CX0 1 f fd ["word"] (spP K mg sp_law_is_alphabet) :=
  have S := sc_law_is_alphabet
  pfnD (p := b_law_is_alphabet) F S len_law_is_alphabet (fun cdv A outer s H E hr =>
    (puss_cons (pus_set 1 S.nd pu_str)
      (puss_cons (pus_if (PuW.t (puw_or (put_lt (PuE.o (pu_len M.len (PuE.o (pu_name 0)))) (PuE.o pu_int)) (puw_or1 (put_gt (PuE.o (pu_len M.len (PuE.o (pu_name 0)))) (PuE.o pu_int)))))
      (puss_one (pus_ret pu_bl))
      puss_nil)
      (puss_cons (pus_set 2 S.nd (pu_neg (PuE.o pu_int)))
      (puss_cons (pus_for PassesOwn.never rfl (pui_e (pu_name 0)) (pug_name 3 S.nd)
      (puss_cons (pus_set 4 S.nd (pu_find (PuE.o (pu_name 1)) (pua_cons (pu_name 3) pua_nil)))
      (puss_cons (pus_if (put_le (PuE.o (pu_name 4)) (PuE.o (pu_name 2)))
      (puss_one (pus_ret pu_bl))
      puss_nil)
      (puss_one (pus_set 2 S.nd (pu_name 4))))))
      (puss_one (pus_ret pu_bl))))))) w_law_is_alphabet
theorem sc_law_bad : FnScope ["abc", "row", "signs", "at"] ["abc", "row"] (defScope d_law_bad) := ⟨rfl, rfl, rfl, by decide +kernel, rfl, by decide +kernel, by decide +kernel⟩
theorem ok_law_bad {f : Addr} {fd : FuncData} (F : FnP K "_law_bad" d_law_bad f fd) (M : Fre mg) : FnOk P w K mg base CX0 1 f fd ["abc", "row"] (spP K mg sp_law_bad) :=
  have S := sc_law_bad
  pfnD (p := b_law_bad) F S len_law_bad (fun cdv A outer s H E hr =>
    (puss_cons (pus_if (put_gt (PuE.o (pu_ix (hu_of hr) (PuE.o (pu_name 1)) pu_int)) (PuE.o pu_int))
      (puss_cons (pus_set 2 S.nd pu_str)
      (puss_one (pus_ret (pu_join pu_str (PuF.o (puf_lc rfl S.nd (pui_e (pu_sl (PuE.o (pu_name 1)) (pupo_some pu_int) (pupo_some (pu_add (PuE.o pu_int) (PuE.o (pu_ix (hu_of hr) (PuE.o (pu_name 1)) pu_int)))))) (blkOk_by (own := [("at", 3)]) (N := ["abc", "row", "signs", "at"]) (sc := defScope d_law_bad) (by decide +kernel)) (fun _ _ _ _ _ => (pug_name 3 S.nd)) (fun _ _ _ _ _ => puts_nil) (fun _ _ _ _ _ => (pu_ix (hu_of hr) (PuE.o (pu_name 2)) (pu_name 3)))))))))
      puss_nil)
      (puss_cons (pus_if (put_eq (Room.units hr) (PuE.o (pu_ix (hu_of hr) (PuE.o (pu_name 1)) pu_int)) (PuE.o pu_int))
      (puss_one (pus_ret (pu_add (PuE.o (pu_name 0)) (PuE.o (pu_ix (hu_of hr) (PuE.o (pu_name 0)) (pu_neg (PuE.o pu_int)))))))
      puss_nil)
      (puss_cons (pus_if (put_eq (Room.units hr) (PuE.o (pu_ix (hu_of hr) (PuE.o (pu_name 1)) pu_int)) (PuE.o pu_int))
      (puss_one (pus_ret (pu_add (PuE.o (pu_ix (hu_of hr) (PuE.o (pu_name 0)) pu_int)) (PuE.o (pu_name 0)))))
      puss_nil)
      (puss_cons (pus_if (put_eq (Room.units hr) (PuE.o (pu_ix (hu_of hr) (PuE.o (pu_name 1)) pu_int)) (PuE.o pu_int))
      (puss_one (pus_ret (pu_sl (PuE.o pu_str) (pupo_some (pu_ix (hu_of hr) (PuE.o (pu_name 1)) pu_int)) (pupo_some (pu_add (PuE.o (pu_ix (hu_of hr) (PuE.o (pu_name 1)) pu_int)) (PuE.o pu_int))))))
      puss_nil)
      (puss_cons (pus_if (put_eq (Room.units hr) (PuE.o (pu_ix (hu_of hr) (PuE.o (pu_name 1)) pu_int)) (PuE.o pu_int))
      (puss_one (pus_ret (pu_add (PuE.o pu_str) (PuE.o (pu_sl (PuE.o (pu_name 0)) (pupo_some pu_int) pupo_none)))))
      puss_nil)
      (puss_cons (pus_if (put_eq (Room.units hr) (PuE.o (pu_ix (hu_of hr) (PuE.o (pu_name 1)) pu_int)) (PuE.o pu_int))
      (puss_one (pus_ret (pu_add (PuE.o (pu_sl (PuE.o (pu_name 0)) pupo_none (pupo_some (pu_neg (PuE.o pu_int))))) (PuE.o pu_str))))
      puss_nil)
      (puss_cons (pus_jn (pus_if (PuW.t (puw_and (put_eq (Room.units hr) (PuE.o (pu_ix (hu_of hr) (PuE.o (pu_name 1)) pu_int)) (PuE.o pu_int)) (puw_and1 (put_gt (PuE.o (pu_len M.len (PuE.o (pu_name 0)))) (PuE.o pu_int)))))
      (puss_one (pus_ret (pu_add (PuE.o (pu_add (PuE.o (pu_ix (hu_of hr) (PuE.o (pu_name 0)) pu_int)) (PuE.o (pu_ix (hu_of hr) (PuE.o (pu_name 0)) pu_int)))) (PuE.o (pu_sl (PuE.o (pu_name 0)) (pupo_some pu_int) pupo_none)))))
      puss_nil))
      (puss_cons (pus_if (PuW.t (puw_and (put_eq (Room.units hr) (PuE.o (pu_ix (hu_of hr) (PuE.o (pu_name 1)) pu_int)) (PuE.o pu_int)) (puw_and1 (put_gt (PuE.o (pu_len M.len (PuE.o (pu_name 0)))) (PuE.o pu_int)))))
      (puss_one (pus_ret (pu_add (PuE.o (pu_add (PuE.o (pu_sl (PuE.o (pu_name 0)) pupo_none (pupo_some (pu_neg (PuE.o pu_int))))) (PuE.o (pu_ix (hu_of hr) (PuE.o (pu_name 0)) (pu_neg (PuE.o pu_int)))))) (PuE.o (pu_ix (hu_of hr) (PuE.o (pu_name 0)) (pu_neg (PuE.o pu_int)))))))
      puss_nil)
      (puss_cons (pus_if (put_eq (Room.units hr) (PuE.o (pu_ix (hu_of hr) (PuE.o (pu_name 1)) pu_int)) (PuE.o pu_int))
      (puss_one (pus_ret (pu_add (PuE.o (pu_name 0)) (PuE.o pu_str))))
      puss_nil)
      (puss_cons (pus_if (put_eq (Room.units hr) (PuE.o (pu_ix (hu_of hr) (PuE.o (pu_name 1)) pu_int)) (PuE.o pu_int))
      (puss_one (pus_ret (pu_add (PuE.o pu_str) (PuE.o (pu_name 0)))))
      puss_nil)
      (puss_one (pus_ret (pu_ix (hu_of hr) (PuF.o (puf_lst (pua_cons pu_str (pua_cons pu_str (pua_cons pu_str (pua_cons pu_str (pua_cons pu_str (pua_cons pu_str (pua_cons pu_str (pua_cons pu_str (pua_cons pu_str (pua_cons pu_str (pua_cons pu_str pua_nil))))))))))))) (pu_ix (hu_of hr) (PuE.o (pu_name 1)) pu_int))))))))))))))) w_law_bad
theorem sc_law_refused : FnScope ["bad", "far", "many", "e"] ["bad", "far", "many"] (defScope d_law_refused) := ⟨rfl, rfl, rfl, by decide +kernel, rfl, by decide +kernel, by decide +kernel⟩
theorem ok_law_refused {f : Addr} {fd : FuncData} (F : FnP K "_law_refused" d_law_refused f fd) (M : Fre mg) (T_err : ErT K mg errTab) {CT_BadAlphabet : Addr} (S_BadAlphabet : ErS K mg (subOf errTab "BadAlphabet") (.ref CT_BadAlphabet)) (g_BadAlphabet : mg "BadAlphabet" = some (.ref CT_BadAlphabet)) (S_ValueError : ErS K mg (subAll errTab) (.type "ValueError")) {CT_BadLetter : Addr} (S_BadLetter : ErS K mg (subOf errTab "BadLetter") (.ref CT_BadLetter)) (g_BadLetter : mg "BadLetter" = some (.ref CT_BadLetter)) {CT_BadIndex : Addr} (S_BadIndex : ErS K mg (subOf errTab "BadIndex") (.ref CT_BadIndex)) (g_BadIndex : mg "BadIndex" = some (.ref CT_BadIndex)) {CT_BadRank : Addr} (S_BadRank : ErS K mg (subOf errTab "BadRank") (.ref CT_BadRank)) (g_BadRank : mg "BadRank" = some (.ref CT_BadRank)) {CT_BadRow : Addr} (S_BadRow : ErS K mg (subOf errTab "BadRow") (.ref CT_BadRow)) (g_BadRow : mg "BadRow" = some (.ref CT_BadRow)) {CT_BadTail : Addr} (S_BadTail : ErS K mg (subOf errTab "BadTail") (.ref CT_BadTail)) (g_BadTail : mg "BadTail" = some (.ref CT_BadTail)) {CT_TooLarge : Addr} (S_TooLarge : ErS K mg (subOf errTab "TooLarge") (.ref CT_TooLarge)) (g_TooLarge : mg "TooLarge" = some (.ref CT_TooLarge)) {CT_PressError : Addr} (g_PressError : mg "PressError" = some (.ref CT_PressError)) (X_PressError : ExS K mg (subAll errTab) (.ref CT_PressError)) {f_law_is_alphabet : Addr} {fd_law_is_alphabet : FuncData} (C_law_is_alphabet : Cal P w K mg base "_law_is_alphabet" ["word"] 1 f_law_is_alphabet fd_law_is_alphabet sp_law_is_alphabet) {fx_text_with : Addr} {fdx_text_with : FuncData} (CX_text_with : CalX P w K mg base "text_with" ["alphabet", "length", "count"] 4 fx_text_with fdx_text_with sx_text_with) : FnOk P w K mg base CX0 5 f fd ["bad", "far", "many"] (spP K mg sp_law_refused) :=
  have S := sc_law_refused
  pfnD (p := (b_law_refused sp_law_is_alphabet sx_text_with)) F S len_law_refused (fun cdv A outer s H E hr =>
    (puss_cons (pus_if (put_val (pu_c C_law_is_alphabet hr (pua_cons (pu_name 0) pua_nil)))
      (puss_one (pus_ret pu_bl))
      puss_nil)
      (puss_cons (pus_try rfl rfl rfl (fun _ _ hpx => (puss_one (pus_exprX (pux_c CX_text_with hr (puax_of (pua_cons (pu_name 0) (pua_cons (pu_name 1) (pua_cons (pu_name 2) pua_nil))))))))
      (PHd.as ⟨by rfl, by decide, .inl g_PressError⟩ X_PressError S.nd rfl rfl
      (fun _ _ => have hr := rmT hr; (puss_cons (pus_if (PuW.t (puw_or (put_not (put_val (pu_isE S_BadAlphabet g_BadAlphabet M.isinstance (pu_name 3)))) (puw_or1 (put_not (put_val (pu_isEB S_ValueError M.isinstance M.ValueError (pu_name 3)))))))
      (puss_one (pus_ret pu_bl))
      puss_nil)
      (puss_cons (pus_if (put_val (pu_isEs T_err any_tab M.isinstance (pu_name 3) (pucl_cons S_BadLetter g_BadLetter (pucl_cons S_BadIndex g_BadIndex (pucl_cons S_BadRank g_BadRank (pucl_cons S_BadRow g_BadRow (pucl_cons S_BadTail g_BadTail (pucl_cons S_TooLarge g_TooLarge pucl_nil))))))))
      (puss_one (pus_ret pu_bl))
      puss_nil)
      (puss_one (pus_ret (pu_and (pu_isi M.isinstance M.str (PuE.o (pu_erF T_err (pu_name 3)))) (pu_one (pu_eq (unT hr) (PuE.o (pu_erF T_err (pu_name 3))) (PuE.o (pu_name 0))))))))))
      PHd.nil))
      (puss_one (pus_ret pu_bl))))) w_law_refused
theorem sc_law : FnScope ["script", "abc", "far", "row", "least", "most", "middle", "first", "other", "many", "bad"] ["script"] (defScope d_law) := ⟨rfl, rfl, rfl, by decide +kernel, rfl, by decide +kernel, by decide +kernel⟩
theorem ok_law {f : Addr} {fd : FuncData} (F : FnP K "law" d_law f fd) (M : Fre mg) {f_law_alphabet : Addr} {fd_law_alphabet : FuncData} (C_law_alphabet : Cal P w K mg base "_law_alphabet" ["row", "upto"] 1 f_law_alphabet fd_law_alphabet sp_law_alphabet) {f_law_digits : Addr} {fd_law_digits : FuncData} (C_law_digits : Cal P w K mg base "_law_digits" ["cell", "sizes"] 1 f_law_digits fd_law_digits sp_law_digits) {f_law_cell : Addr} {fd_law_cell : FuncData} (C_law_cell : Cal P w K mg base "_law_cell" ["script", "k"] 1 f_law_cell fd_law_cell sp_law_cell) {f_law_far : Addr} {fd_law_far : FuncData} (C_law_far : Cal P w K mg base "_law_far" ["base", "row"] 1 f_law_far fd_law_far sp_law_far) {f_law_least : Addr} {fd_law_least : FuncData} (C_law_least : Cal P w K mg base "_law_least" ["far"] 1 f_law_least fd_law_least sp_law_least) {f_law_greatest : Addr} {fd_law_greatest : FuncData} (C_law_greatest : Cal P w K mg base "_law_greatest" ["base", "far"] 1 f_law_greatest fd_law_greatest sp_law_greatest) {f_text_with : Addr} {fd_text_with : FuncData} (C_text_with : Cal P w K mg base "text_with" ["alphabet", "length", "count"] 4 f_text_with fd_text_with sp_text_with) {f_law_told : Addr} {fd_law_told : FuncData} (C_law_told : Cal P w K mg base "_law_told" ["abc", "far", "many", "least", "most"] 5 f_law_told fd_law_told sp_law_told) {f_law_manies : Addr} {fd_law_manies : FuncData} (C_law_manies : Cal P w K mg base "_law_manies" ["least", "most", "row"] 1 f_law_manies fd_law_manies sp_law_manies) {f_law_bad : Addr} {fd_law_bad : FuncData} (C_law_bad : Cal P w K mg base "_law_bad" ["abc", "row"] 1 f_law_bad fd_law_bad sp_law_bad) {f_law_refused : Addr} {fd_law_refused : FuncData} (C_law_refused : Cal P w K mg base "_law_refused" ["bad", "far", "many"] 5 f_law_refused fd_law_refused sp_law_refused) (KB_text_with_0_count_length_alphabet : PKB K fd_text_with ["alphabet", "length", "count"] 0 ["count", "length", "alphabet"] (pickL [2, 1, 0])) : FnOk P w K mg base CX0 6 f fd ["script"] (spP K mg sp_law) :=
  have S := sc_law
  pfnD (p := (b_law sp_law_alphabet sp_law_digits sp_law_cell sp_law_far sp_law_least sp_law_greatest sp_text_with sp_law_told sp_law_manies sp_law_bad sp_law_refused)) F S len_law (fun cdv A outer s H E hr =>
    (puss_cons (pus_set 1 S.nd (pu_c C_law_alphabet hr (pua_cons (pu_c C_law_digits hr (pua_cons (pu_c C_law_cell hr (pua_cons (pu_name 0) (pua_cons pu_int pua_nil))) (pua_cons (PuF.toE (puf_lst (pua_cons pu_int (pua_cons pu_int (pua_cons pu_int (pua_cons pu_int (pua_cons pu_int (pua_cons pu_int (pua_cons pu_int pua_nil))))))))) pua_nil))) (pua_cons pu_int pua_nil))))
      (puss_cons (pus_set 2 S.nd (pu_c C_law_far hr (pua_cons (pu_len M.len (PuE.o (pu_name 1))) (pua_cons (pu_c C_law_digits hr (pua_cons (pu_c C_law_cell hr (pua_cons (pu_name 0) (pua_cons pu_int pua_nil))) (pua_cons (PuF.toE (puf_lst (pua_cons pu_int (pua_cons pu_int (pua_cons pu_int (pua_cons pu_int (pua_cons pu_int (pua_cons pu_int pua_nil)))))))) pua_nil))) pua_nil))))
      (puss_cons (pus_set 3 S.nd (pu_c C_law_digits hr (pua_cons (pu_c C_law_cell hr (pua_cons (pu_name 0) (pua_cons pu_int pua_nil))) (pua_cons (PuF.toE (puf_lst (pua_cons pu_int (pua_cons pu_int (pua_cons pu_int (pua_cons pu_int pua_nil)))))) pua_nil))))
      (puss_cons (pus_set 4 S.nd (pu_c C_law_least hr (pua_cons (pu_name 2) pua_nil)))
      (puss_cons (pus_set 5 S.nd (pu_c C_law_greatest hr (pua_cons (pu_len M.len (PuE.o (pu_name 1))) (pua_cons (pu_name 2) pua_nil))))
      (puss_cons (pus_set 6 S.nd (pu_add (PuE.o (pu_name 4)) (PuE.o (pu_mod (PuE.o (pu_int1 M.int (PuE.o (pu_ix (hu_of hr) (PuE.o (pu_name 3)) pu_int)))) (PuE.o (pu_add (PuE.o (pu_sub (PuE.o (pu_name 5)) (PuE.o (pu_name 4)))) (PuE.o pu_int)))))))
      (puss_cons (pus_set 7 S.nd (pu_repr M.repr (PuE.o (pu_c C_text_with hr (pua_cons (pu_name 1) (pua_cons (pu_name 2) (pua_cons (pu_name 6) pua_nil)))))))
      (puss_cons (pus_set 8 S.nd (pu_c C_law_alphabet hr (pua_cons (pu_c C_law_digits hr (pua_cons (pu_c C_law_cell hr (pua_cons (pu_name 0) (pua_cons pu_int pua_nil))) (pua_cons (PuF.toE (puf_lst (pua_cons pu_int (pua_cons pu_int (pua_cons pu_int (pua_cons pu_int (pua_cons pu_int (pua_cons pu_int (pua_cons pu_int pua_nil))))))))) pua_nil))) (pua_cons pu_int pua_nil))))
      (puss_cons (pus_if (put_not (put_val (pu_c C_law_told hr (pua_cons (pu_name 8) (pua_cons (pu_name 2) (pua_cons (pu_name 6) (pua_cons (pu_name 4) (pua_cons (pu_c C_law_greatest hr (pua_cons (pu_len M.len (PuE.o (pu_name 8))) (pua_cons (pu_name 2) pua_nil))) pua_nil))))))))
      (puss_one (pus_ret pu_bl))
      puss_nil)
      (puss_cons (pus_for PassesOwn.never rfl (pui_e (pu_add (PuE.o (pu_c C_law_manies hr (pua_cons (pu_name 4) (pua_cons (pu_name 5) (pua_cons (pu_sl (PuE.o (pu_name 3)) (pupo_some pu_int) (pupo_some pu_int)) pua_nil))))) (PuF.o (puf_lst (pua_cons (pu_name 6) (pua_cons (pu_ix (hu_of hr) (PuE.o (pu_name 3)) pu_int) pua_nil)))))) (pug_name 9 S.nd)
      (puss_one (pus_if (put_not (put_val (pu_c C_law_told hr (pua_cons (pu_name 1) (pua_cons (pu_name 2) (pua_cons (pu_name 9) (pua_cons (pu_name 4) (pua_cons (pu_name 5) pua_nil))))))))
      (puss_one (pus_ret pu_bl))
      puss_nil)))
      (puss_cons (pus_set 10 S.nd (pu_c C_law_bad hr (pua_cons (pu_name 1) (pua_cons (pu_c C_law_digits hr (pua_cons (pu_c C_law_cell hr (pua_cons (pu_name 0) (pua_cons pu_int pua_nil))) (pua_cons (pu_add (PuF.o (puf_lst (pua_cons pu_int (pua_cons pu_int (pua_cons pu_int (pua_cons pu_int pua_nil)))))) (PuE.o (pu_mul (PuF.o (puf_lst (pua_cons pu_int pua_nil))) (PuE.o pu_int)))) pua_nil))) pua_nil))))
      (puss_cons (pus_if (PuW.t (puw_or (put_not (put_val (pu_c C_law_refused hr (pua_cons (pu_name 10) (pua_cons (pu_name 2) (pua_cons (pu_name 6) pua_nil)))))) (puw_or1 (put_not (put_val (pu_c C_law_refused hr (pua_cons (pu_name 10) (pua_cons (pu_name 2) (pua_cons (pu_add (PuE.o (pu_name 5)) (PuE.o pu_int)) pua_nil)))))))))
      (puss_one (pus_ret pu_bl))
      puss_nil)
      (puss_one (pus_ret (pu_eq (Room.units hr) (PuE.o (pu_repr M.repr (PuE.o (pu_cK0 C_text_with KB_text_with_0_count_length_alphabet hr (puk_cons (pu_name 6) (puk_cons (pu_name 2) (puk_cons (pu_name 1) puk_nil))))))) (PuE.o (pu_name 7)))))))))))))))))) w_law
end
def fn : List He.DefD := [⟨("check_alphabet", none), "check_alphabet", "check_alphabet", defArgs d_check_alphabet, defBody d_check_alphabet, defScope d_check_alphabet, [], []⟩, ⟨("order_of_text", none), "order_of_text", "order_of_text", defArgs d_order_of_text, defBody d_order_of_text, defScope d_order_of_text, [], []⟩, ⟨("greatest_count", none), "greatest_count", "greatest_count", defArgs d_greatest_count, defBody d_greatest_count, defScope d_greatest_count, [], []⟩, ⟨("least_count", none), "least_count", "least_count", defArgs d_least_count, defBody d_least_count, defScope d_least_count, [], []⟩, ⟨("first_words", none), "first_words", "first_words", defArgs d_first_words, defBody d_first_words, defScope d_first_words, [], []⟩, ⟨("words_with_total", none), "words_with_total", "words_with_total", defArgs d_words_with_total, defBody d_words_with_total, defScope d_words_with_total, [], []⟩, ⟨("text_with", none), "text_with", "text_with", defArgs d_text_with, defBody d_text_with, defScope d_text_with, [], []⟩, ⟨("_law_cell", none), "_law_cell", "_law_cell", defArgs d_law_cell, defBody d_law_cell, defScope d_law_cell, [], []⟩, ⟨("_law_digits", none), "_law_digits", "_law_digits", defArgs d_law_digits, defBody d_law_digits, defScope d_law_digits, [], []⟩, ⟨("_law_alphabet", none), "_law_alphabet", "_law_alphabet", defArgs d_law_alphabet, defBody d_law_alphabet, defScope d_law_alphabet, [], []⟩, ⟨("_law_cut", none), "_law_cut", "_law_cut", defArgs d_law_cut, defBody d_law_cut, defScope d_law_cut, [], []⟩, ⟨("_law_least", none), "_law_least", "_law_least", defArgs d_law_least, defBody d_law_least, defScope d_law_least, [], []⟩, ⟨("_law_greatest", none), "_law_greatest", "_law_greatest", defArgs d_law_greatest, defBody d_law_greatest, defScope d_law_greatest, [], []⟩, ⟨("_law_far", none), "_law_far", "_law_far", defArgs d_law_far, defBody d_law_far, defScope d_law_far, [], []⟩, ⟨("_law_manies", none), "_law_manies", "_law_manies", defArgs d_law_manies, defBody d_law_manies, defScope d_law_manies, [], []⟩, ⟨("_law_told", none), "_law_told", "_law_told", defArgs d_law_told, defBody d_law_told, defScope d_law_told, [], []⟩, ⟨("_law_is_alphabet", none), "_law_is_alphabet", "_law_is_alphabet", defArgs d_law_is_alphabet, defBody d_law_is_alphabet, defScope d_law_is_alphabet, [], []⟩, ⟨("_law_bad", none), "_law_bad", "_law_bad", defArgs d_law_bad, defBody d_law_bad, defScope d_law_bad, [], []⟩, ⟨("_law_refused", none), "_law_refused", "_law_refused", defArgs d_law_refused, defBody d_law_refused, defScope d_law_refused, [], []⟩, ⟨("law", none), "law", "law", defArgs d_law, defBody d_law, defScope d_law, [], []⟩, ⟨("BadAlphabet", some "__init__"), "__init__", "BadAlphabet.__init__", defArgs i_BadAlphabet, defBody i_BadAlphabet, defScope i_BadAlphabet, [], []⟩, ⟨("BadLetter", some "__init__"), "__init__", "BadLetter.__init__", defArgs i_BadLetter, defBody i_BadLetter, defScope i_BadLetter, [], []⟩, ⟨("BadRow", some "__init__"), "__init__", "BadRow.__init__", defArgs i_BadRow, defBody i_BadRow, defScope i_BadRow, [], []⟩, ⟨("BadTail", some "__init__"), "__init__", "BadTail.__init__", defArgs i_BadTail, defBody i_BadTail, defScope i_BadTail, [], []⟩, ⟨("BadRank", some "__init__"), "__init__", "BadRank.__init__", defArgs i_BadRank, defBody i_BadRank, defScope i_BadRank, [], []⟩, ⟨("BadIndex", some "__init__"), "__init__", "BadIndex.__init__", defArgs i_BadIndex, defBody i_BadIndex, defScope i_BadIndex, [], []⟩, ⟨("TooLarge", some "__init__"), "__init__", "TooLarge.__init__", defArgs i_TooLarge, defBody i_TooLarge, defScope i_TooLarge, [], []⟩]
def fa : List He.Fa := [.glo "check_alphabet", .glo "order_of_text", .glo "greatest_count", .glo "least_count", .glo "first_words", .glo "words_with_total", .glo "text_with", .glo "_law_cell", .glo "_law_digits", .glo "_law_alphabet", .glo "_law_cut", .glo "_law_least", .glo "_law_greatest", .glo "_law_far", .glo "_law_manies", .glo "_law_told", .glo "_law_is_alphabet", .glo "_law_bad", .glo "_law_refused", .glo "law", .free "ValueError", .free "enumerate", .free "int", .free "isinstance", .free "len", .free "max", .free "min", .free "range", .free "repr", .free "sorted", .free "str", .free "sum", .free "tuple", .str "LETTERS" "0123456789abcdefghijklmnopqrstuvwxyz", .glo "PressError"]
abbrev R : PySem.W.OpenRow := PySem.W.OpenLaw.row PySem.Challenge.rw_unpressed_k07_text_with_count
def xb (K : PySem.W.Frag) : Bool := exA errTab K (.ref (He.ga K "PressError")) && (errB errTab K && (subB errTab K && (supB errTab K (.type "ValueError") && (supB errTab K (.ref (He.ga K "PressError")) && (He.eqO (PySem.W.nsIn K mainGlobals "isqrt") (some (some (.builtin "math.isqrt"))))))))
abbrev hk : PySem.W.Hook := hookX 5 fa fn xb
def ob (s : PySem.W.SharedT) : He.AlD × Bool := obsX 5 fa fn xb (HandSHeadRun.getT s)
theorem ob_eq (s : PySem.W.SharedT) : ob s = hk.obs s.abs := obsX_eq (HandSHeadRun.getT_eq s)
def loose : List PySem.Str := (["PressError", "BadAlphabet", "BadLetter", "BadRow", "BadTail", "BadRank", "BadIndex", "TooLarge", "LETTERS", "check_alphabet", "order_of_text", "greatest_count"] : List PySem.Str) ++ (["least_count", "first_words", "words_with_total", "text_with", "_law_cell", "_law_digits", "_law_alphabet", "_law_cut", "_law_least", "_law_greatest", "_law_far", "_law_manies"] : List PySem.Str) ++ (["_law_told", "_law_is_alphabet", "_law_bad", "_law_refused"] : List PySem.Str)
theorem run (w : World) : HandSHeadRun.RunEqI R (PySem.W.view R.prog [0, 33]) hk ob 60000 loose w := by
  unfold HandSHeadRun.RunEqI
  kernel_rfl
theorem facts {P : Program} {w : World} {K : PySem.W.Frag} {h : Heap} {mg : MG} {f : Addr} (X : K.In h) (Gm : h.Ns mainGlobals mg) (hfa : mg ("law" : Str) = some (.ref f)) (c : He.SaysD fa fn K) (hx : xb K = true) :
    ∃ fd : FuncData, (∀ (s : Shared) (v : Value), BindsTo s fd ⟨[v], []⟩ [("script", v)]) ∧ ∀ base : Heap, K.In base → base.Ns mainGlobals mg → FnOk P w K mg base CX0 6 f fd ["script"] (spP K mg sp_law) := by
  have M : Fre mg := ⟨He.free_ok X Gm (c.fact 20 (f := .free "ValueError") rfl), He.free_ok X Gm (c.fact 21 (f := .free "enumerate") rfl), He.free_ok X Gm (c.fact 22 (f := .free "int") rfl), He.free_ok X Gm (c.fact 23 (f := .free "isinstance") rfl), He.free_ok X Gm (c.fact 24 (f := .free "len") rfl), He.free_ok X Gm (c.fact 25 (f := .free "max") rfl), He.free_ok X Gm (c.fact 26 (f := .free "min") rfl), He.free_ok X Gm (c.fact 27 (f := .free "range") rfl), He.free_ok X Gm (c.fact 28 (f := .free "repr") rfl), He.free_ok X Gm (c.fact 29 (f := .free "sorted") rfl), He.free_ok X Gm (c.fact 30 (f := .free "str") rfl), He.free_ok X Gm (c.fact 31 (f := .free "sum") rfl), He.free_ok X Gm (c.fact 32 (f := .free "tuple") rfl)⟩
  have G : Glo mg := ⟨He.str_ok X Gm (c.fact 33 (f := .str "LETTERS" "0123456789abcdefghijklmnopqrstuvwxyz") rfl)⟩
  unfold xb at hx
  simp only [Bool.and_eq_true] at hx
  obtain ⟨hxe_PressError, hx1, hx2, hx3, hx4_PressError, hxm_isqrt⟩ := hx
  have I_isqrt : mg "isqrt" = some (.builtin "math.isqrt") := PySem.W.mg_of X Gm (He.eqO_ok hxm_isqrt)
  have T_err := erT_of X Gm hx1
  have e_BadAlphabet := err_one X Gm hx1 (c := "BadAlphabet") (fs := ["alphabet"]) (by decide +kernel)
  have g_BadAlphabet := e_BadAlphabet.1
  have S_BadAlphabet := erS_of X Gm hx1 hx2 "BadAlphabet" (ns := ["alphabet"]) (by decide +kernel)
  have e_BadLetter := err_one X Gm hx1 (c := "BadLetter") (fs := ["index"]) (by decide +kernel)
  have g_BadLetter := e_BadLetter.1
  have S_BadLetter := erS_of X Gm hx1 hx2 "BadLetter" (ns := ["index"]) (by decide +kernel)
  have e_BadRow := err_one X Gm hx1 (c := "BadRow") (fs := ["index"]) (by decide +kernel)
  have g_BadRow := e_BadRow.1
  have S_BadRow := erS_of X Gm hx1 hx2 "BadRow" (ns := ["index"]) (by decide +kernel)
  have e_BadTail := err_one X Gm hx1 (c := "BadTail") (fs := ["tail"]) (by decide +kernel)
  have g_BadTail := e_BadTail.1
  have S_BadTail := erS_of X Gm hx1 hx2 "BadTail" (ns := ["tail"]) (by decide +kernel)
  have e_BadRank := err_one X Gm hx1 (c := "BadRank") (fs := ["rank"]) (by decide +kernel)
  have g_BadRank := e_BadRank.1
  have S_BadRank := erS_of X Gm hx1 hx2 "BadRank" (ns := ["rank"]) (by decide +kernel)
  have e_BadIndex := err_one X Gm hx1 (c := "BadIndex") (fs := ["index"]) (by decide +kernel)
  have g_BadIndex := e_BadIndex.1
  have S_BadIndex := erS_of X Gm hx1 hx2 "BadIndex" (ns := ["index"]) (by decide +kernel)
  have e_TooLarge := err_one X Gm hx1 (c := "TooLarge") (fs := ["number"]) (by decide +kernel)
  have g_TooLarge := e_TooLarge.1
  have S_TooLarge := erS_of X Gm hx1 hx2 "TooLarge" (ns := ["number"]) (by decide +kernel)
  have g_PressError := He.glo_ok X Gm (c.fact 34 (f := .glo "PressError") rfl)
  have S_PressError := erA_of X Gm hx1 hx4_PressError
  have S_ValueError := erA_of X Gm hx1 hx3
  have X_PressError := exA_of X Gm hx1 hxe_PressError
  obtain ⟨fd_BadAlphabet, F_BadAlphabet⟩ := c.def_ 20 (d := ⟨("BadAlphabet", some "__init__"), "__init__", "BadAlphabet.__init__", defArgs i_BadAlphabet, defBody i_BadAlphabet, defScope i_BadAlphabet, [], []⟩) rfl
  have BB_BadAlphabet : Binds K fd_BadAlphabet ["self", "alphabet"] [] := FunD.bindsN F_BadAlphabet fun _ _ _ _ _ _ us hl => match us, hl with | [_, _], _ => rfl
  obtain ⟨fd_order_of_text, F_order_of_text⟩ := c.def_ 1 (d := ⟨("order_of_text", none), "order_of_text", "order_of_text", defArgs d_order_of_text, defBody d_order_of_text, defScope d_order_of_text, [], []⟩) rfl
  change FnP K "order_of_text" d_order_of_text _ fd_order_of_text at F_order_of_text
  have B_order_of_text : Binds K fd_order_of_text ["text"] [] := FunD.bindsN F_order_of_text fun _ _ _ _ _ _ us hl => match us, hl with | [_], _ => rfl
  have g_order_of_text := He.glo_ok X Gm (c.fact 1 (f := .glo "order_of_text") rfl)
  have KF_order_of_text : KeyF K mg "order_of_text" _ := keyF_of F_order_of_text g_order_of_text sc_order_of_text rfl rfl (FunD.bindsA (ps := ["text"]) F_order_of_text fun _ _ _ _ _ _ us hl => match us, hl with | [_], _ => rfl) rfl rfl
  obtain ⟨fd_greatest_count, F_greatest_count⟩ := c.def_ 2 (d := ⟨("greatest_count", none), "greatest_count", "greatest_count", defArgs d_greatest_count, defBody d_greatest_count, defScope d_greatest_count, [], []⟩) rfl
  change FnP K "greatest_count" d_greatest_count _ fd_greatest_count at F_greatest_count
  have B_greatest_count : Binds K fd_greatest_count ["size", "length"] [] := FunD.bindsN F_greatest_count fun _ _ _ _ _ _ us hl => match us, hl with | [_, _], _ => rfl
  have g_greatest_count := He.glo_ok X Gm (c.fact 2 (f := .glo "greatest_count") rfl)
  obtain ⟨fd_least_count, F_least_count⟩ := c.def_ 3 (d := ⟨("least_count", none), "least_count", "least_count", defArgs d_least_count, defBody d_least_count, defScope d_least_count, [], []⟩) rfl
  change FnP K "least_count" d_least_count _ fd_least_count at F_least_count
  have B_least_count : Binds K fd_least_count ["length"] [] := FunD.bindsN F_least_count fun _ _ _ _ _ _ us hl => match us, hl with | [_], _ => rfl
  have g_least_count := He.glo_ok X Gm (c.fact 3 (f := .glo "least_count") rfl)
  obtain ⟨fd_first_words, F_first_words⟩ := c.def_ 4 (d := ⟨("first_words", none), "first_words", "first_words", defArgs d_first_words, defBody d_first_words, defScope d_first_words, [], []⟩) rfl
  change FnP K "first_words" d_first_words _ fd_first_words at F_first_words
  have B_first_words : Binds K fd_first_words ["alphabet", "count"] [] := FunD.bindsN F_first_words fun _ _ _ _ _ _ us hl => match us, hl with | [_, _], _ => rfl
  have g_first_words := He.glo_ok X Gm (c.fact 4 (f := .glo "first_words") rfl)
  obtain ⟨fd_law_cell, F_law_cell⟩ := c.def_ 7 (d := ⟨("_law_cell", none), "_law_cell", "_law_cell", defArgs d_law_cell, defBody d_law_cell, defScope d_law_cell, [], []⟩) rfl
  change FnP K "_law_cell" d_law_cell _ fd_law_cell at F_law_cell
  have B_law_cell : Binds K fd_law_cell ["script", "k"] [] := FunD.bindsN F_law_cell fun _ _ _ _ _ _ us hl => match us, hl with | [_, _], _ => rfl
  have g_law_cell := He.glo_ok X Gm (c.fact 7 (f := .glo "_law_cell") rfl)
  obtain ⟨fd_law_digits, F_law_digits⟩ := c.def_ 8 (d := ⟨("_law_digits", none), "_law_digits", "_law_digits", defArgs d_law_digits, defBody d_law_digits, defScope d_law_digits, [], []⟩) rfl
  change FnP K "_law_digits" d_law_digits _ fd_law_digits at F_law_digits
  have B_law_digits : Binds K fd_law_digits ["cell", "sizes"] [] := FunD.bindsN F_law_digits fun _ _ _ _ _ _ us hl => match us, hl with | [_, _], _ => rfl
  have g_law_digits := He.glo_ok X Gm (c.fact 8 (f := .glo "_law_digits") rfl)
  obtain ⟨fd_law_alphabet, F_law_alphabet⟩ := c.def_ 9 (d := ⟨("_law_alphabet", none), "_law_alphabet", "_law_alphabet", defArgs d_law_alphabet, defBody d_law_alphabet, defScope d_law_alphabet, [], []⟩) rfl
  change FnP K "_law_alphabet" d_law_alphabet _ fd_law_alphabet at F_law_alphabet
  have B_law_alphabet : Binds K fd_law_alphabet ["row", "upto"] [] := FunD.bindsN F_law_alphabet fun _ _ _ _ _ _ us hl => match us, hl with | [_, _], _ => rfl
  have g_law_alphabet := He.glo_ok X Gm (c.fact 9 (f := .glo "_law_alphabet") rfl)
  obtain ⟨fd_law_cut, F_law_cut⟩ := c.def_ 10 (d := ⟨("_law_cut", none), "_law_cut", "_law_cut", defArgs d_law_cut, defBody d_law_cut, defScope d_law_cut, [], []⟩) rfl
  change FnP K "_law_cut" d_law_cut _ fd_law_cut at F_law_cut
  have B_law_cut : Binds K fd_law_cut ["text"] [] := FunD.bindsN F_law_cut fun _ _ _ _ _ _ us hl => match us, hl with | [_], _ => rfl
  have g_law_cut := He.glo_ok X Gm (c.fact 10 (f := .glo "_law_cut") rfl)
  obtain ⟨fd_law_least, F_law_least⟩ := c.def_ 11 (d := ⟨("_law_least", none), "_law_least", "_law_least", defArgs d_law_least, defBody d_law_least, defScope d_law_least, [], []⟩) rfl
  change FnP K "_law_least" d_law_least _ fd_law_least at F_law_least
  have B_law_least : Binds K fd_law_least ["far"] [] := FunD.bindsN F_law_least fun _ _ _ _ _ _ us hl => match us, hl with | [_], _ => rfl
  have g_law_least := He.glo_ok X Gm (c.fact 11 (f := .glo "_law_least") rfl)
  obtain ⟨fd_law_greatest, F_law_greatest⟩ := c.def_ 12 (d := ⟨("_law_greatest", none), "_law_greatest", "_law_greatest", defArgs d_law_greatest, defBody d_law_greatest, defScope d_law_greatest, [], []⟩) rfl
  change FnP K "_law_greatest" d_law_greatest _ fd_law_greatest at F_law_greatest
  have B_law_greatest : Binds K fd_law_greatest ["base", "far"] [] := FunD.bindsN F_law_greatest fun _ _ _ _ _ _ us hl => match us, hl with | [_, _], _ => rfl
  have g_law_greatest := He.glo_ok X Gm (c.fact 12 (f := .glo "_law_greatest") rfl)
  obtain ⟨fd_law_far, F_law_far⟩ := c.def_ 13 (d := ⟨("_law_far", none), "_law_far", "_law_far", defArgs d_law_far, defBody d_law_far, defScope d_law_far, [], []⟩) rfl
  change FnP K "_law_far" d_law_far _ fd_law_far at F_law_far
  have B_law_far : Binds K fd_law_far ["base", "row"] [] := FunD.bindsN F_law_far fun _ _ _ _ _ _ us hl => match us, hl with | [_, _], _ => rfl
  have g_law_far := He.glo_ok X Gm (c.fact 13 (f := .glo "_law_far") rfl)
  obtain ⟨fd_law_manies, F_law_manies⟩ := c.def_ 14 (d := ⟨("_law_manies", none), "_law_manies", "_law_manies", defArgs d_law_manies, defBody d_law_manies, defScope d_law_manies, [], []⟩) rfl
  change FnP K "_law_manies" d_law_manies _ fd_law_manies at F_law_manies
  have B_law_manies : Binds K fd_law_manies ["least", "most", "row"] [] := FunD.bindsN F_law_manies fun _ _ _ _ _ _ us hl => match us, hl with | [_, _, _], _ => rfl
  have g_law_manies := He.glo_ok X Gm (c.fact 14 (f := .glo "_law_manies") rfl)
  obtain ⟨fd_law_is_alphabet, F_law_is_alphabet⟩ := c.def_ 16 (d := ⟨("_law_is_alphabet", none), "_law_is_alphabet", "_law_is_alphabet", defArgs d_law_is_alphabet, defBody d_law_is_alphabet, defScope d_law_is_alphabet, [], []⟩) rfl
  change FnP K "_law_is_alphabet" d_law_is_alphabet _ fd_law_is_alphabet at F_law_is_alphabet
  have B_law_is_alphabet : Binds K fd_law_is_alphabet ["word"] [] := FunD.bindsN F_law_is_alphabet fun _ _ _ _ _ _ us hl => match us, hl with | [_], _ => rfl
  have g_law_is_alphabet := He.glo_ok X Gm (c.fact 16 (f := .glo "_law_is_alphabet") rfl)
  obtain ⟨fd_law_bad, F_law_bad⟩ := c.def_ 17 (d := ⟨("_law_bad", none), "_law_bad", "_law_bad", defArgs d_law_bad, defBody d_law_bad, defScope d_law_bad, [], []⟩) rfl
  change FnP K "_law_bad" d_law_bad _ fd_law_bad at F_law_bad
  have B_law_bad : Binds K fd_law_bad ["abc", "row"] [] := FunD.bindsN F_law_bad fun _ _ _ _ _ _ us hl => match us, hl with | [_, _], _ => rfl
  have g_law_bad := He.glo_ok X Gm (c.fact 17 (f := .glo "_law_bad") rfl)
  obtain ⟨fd_words_with_total, F_words_with_total⟩ := c.def_ 5 (d := ⟨("words_with_total", none), "words_with_total", "words_with_total", defArgs d_words_with_total, defBody d_words_with_total, defScope d_words_with_total, [], []⟩) rfl
  change FnP K "words_with_total" d_words_with_total _ fd_words_with_total at F_words_with_total
  have B_words_with_total : Binds K fd_words_with_total ["alphabet", "total", "count"] [] := FunD.bindsN F_words_with_total fun _ _ _ _ _ _ us hl => match us, hl with | [_, _, _], _ => rfl
  have g_words_with_total := He.glo_ok X Gm (c.fact 5 (f := .glo "words_with_total") rfl)
  obtain ⟨fd_check_alphabet, F_check_alphabet⟩ := c.def_ 0 (d := ⟨("check_alphabet", none), "check_alphabet", "check_alphabet", defArgs d_check_alphabet, defBody d_check_alphabet, defScope d_check_alphabet, [], []⟩) rfl
  change FnP K "check_alphabet" d_check_alphabet _ fd_check_alphabet at F_check_alphabet
  have B_check_alphabet : Binds K fd_check_alphabet ["alphabet"] [] := FunD.bindsN F_check_alphabet fun _ _ _ _ _ _ us hl => match us, hl with | [_], _ => rfl
  have g_check_alphabet := He.glo_ok X Gm (c.fact 0 (f := .glo "check_alphabet") rfl)
  obtain ⟨fd_text_with, F_text_with⟩ := c.def_ 6 (d := ⟨("text_with", none), "text_with", "text_with", defArgs d_text_with, defBody d_text_with, defScope d_text_with, [], []⟩) rfl
  change FnP K "text_with" d_text_with _ fd_text_with at F_text_with
  have B_text_with : Binds K fd_text_with ["alphabet", "length", "count"] [] := FunD.bindsN F_text_with fun _ _ _ _ _ _ us hl => match us, hl with | [_, _, _], _ => rfl
  have g_text_with := He.glo_ok X Gm (c.fact 6 (f := .glo "text_with") rfl)
  obtain ⟨fd_law_told, F_law_told⟩ := c.def_ 15 (d := ⟨("_law_told", none), "_law_told", "_law_told", defArgs d_law_told, defBody d_law_told, defScope d_law_told, [], []⟩) rfl
  change FnP K "_law_told" d_law_told _ fd_law_told at F_law_told
  have B_law_told : Binds K fd_law_told ["abc", "far", "many", "least", "most"] [] := FunD.bindsN F_law_told fun _ _ _ _ _ _ us hl => match us, hl with | [_, _, _, _, _], _ => rfl
  have g_law_told := He.glo_ok X Gm (c.fact 15 (f := .glo "_law_told") rfl)
  obtain ⟨fd_law_refused, F_law_refused⟩ := c.def_ 18 (d := ⟨("_law_refused", none), "_law_refused", "_law_refused", defArgs d_law_refused, defBody d_law_refused, defScope d_law_refused, [], []⟩) rfl
  change FnP K "_law_refused" d_law_refused _ fd_law_refused at F_law_refused
  have B_law_refused : Binds K fd_law_refused ["bad", "far", "many"] [] := FunD.bindsN F_law_refused fun _ _ _ _ _ _ us hl => match us, hl with | [_, _, _], _ => rfl
  have g_law_refused := He.glo_ok X Gm (c.fact 18 (f := .glo "_law_refused") rfl)
  obtain ⟨fd_law, F_law⟩ := c.def_ 19 (d := ⟨("law", none), "law", "law", defArgs d_law, defBody d_law, defScope d_law, [], []⟩) rfl
  change FnP K "law" d_law _ fd_law at F_law
  have KB_text_with_0_count_length_alphabet : PKB K fd_text_with ["alphabet", "length", "count"] 0 ["count", "length", "alphabet"] (pickL [2, 1, 0]) := FunD.pkb F_text_with 0 ["count", "length", "alphabet"] [2, 1, 0] fun _ _ _ _ _ _ us ws l1 l2 => match us, ws, l1, l2 with | [], [_, _, _], _, _ => rfl
  have e := hfa.symm.trans (He.glo_ok X Gm (c.fact 19 (f := .glo "law") rfl))
  cases e
  have b := FunD.bindsA (ps := ["script"]) F_law fun _ _ _ _ _ _ us hl => match us, hl with | [_], _ => rfl
  refine ⟨fd_law, fun s v => b s [v] rfl, fun base _ _ => ?_⟩
  have E_BadAlphabet : ECl P w K mg base "BadAlphabet" _ _ fd_BadAlphabet ["alphabet"] := ⟨e_BadAlphabet.1, e_BadAlphabet.2, FunD.ok (N := ["self", "alphabet"]) F_BadAlphabet ⟨rfl, rfl, rfl, by decide +kernel, rfl, by decide +kernel, by decide +kernel⟩ (fun vs H Q E h => spI_len h) fun cdv A outer s H vs Q E hr h => ⟨_, pss_one (ps_ost (pv 0) (pv 1)), ini1 e_BadAlphabet.2.oex (e_BadAlphabet.2.no _ (by simp)) h⟩⟩
  have C_order_of_text : Cal P w K mg base "order_of_text" ["text"] 1 _ fd_order_of_text sp_order_of_text := ⟨ok_order_of_text F_order_of_text M, g_order_of_text, F_order_of_text.kp, B_order_of_text⟩
  have C_greatest_count : Cal P w K mg base "greatest_count" ["size", "length"] 1 _ fd_greatest_count sp_greatest_count := ⟨ok_greatest_count F_greatest_count I_isqrt, g_greatest_count, F_greatest_count.kp, B_greatest_count⟩
  have C_least_count : Cal P w K mg base "least_count" ["length"] 1 _ fd_least_count sp_least_count := ⟨ok_least_count F_least_count I_isqrt, g_least_count, F_least_count.kp, B_least_count⟩
  have C_first_words : Cal P w K mg base "first_words" ["alphabet", "count"] 1 _ fd_first_words sp_first_words := ⟨ok_first_words F_first_words M, g_first_words, F_first_words.kp, B_first_words⟩
  have C_law_cell : Cal P w K mg base "_law_cell" ["script", "k"] 1 _ fd_law_cell sp_law_cell := ⟨ok_law_cell F_law_cell M, g_law_cell, F_law_cell.kp, B_law_cell⟩
  have C_law_digits : Cal P w K mg base "_law_digits" ["cell", "sizes"] 1 _ fd_law_digits sp_law_digits := ⟨ok_law_digits F_law_digits M, g_law_digits, F_law_digits.kp, B_law_digits⟩
  have C_law_alphabet : Cal P w K mg base "_law_alphabet" ["row", "upto"] 1 _ fd_law_alphabet sp_law_alphabet := ⟨ok_law_alphabet F_law_alphabet M, g_law_alphabet, F_law_alphabet.kp, B_law_alphabet⟩
  have C_law_cut : Cal P w K mg base "_law_cut" ["text"] 1 _ fd_law_cut sp_law_cut := ⟨ok_law_cut F_law_cut M, g_law_cut, F_law_cut.kp, B_law_cut⟩
  have C_law_least : Cal P w K mg base "_law_least" ["far"] 1 _ fd_law_least sp_law_least := ⟨ok_law_least F_law_least M, g_law_least, F_law_least.kp, B_law_least⟩
  have C_law_greatest : Cal P w K mg base "_law_greatest" ["base", "far"] 1 _ fd_law_greatest sp_law_greatest := ⟨ok_law_greatest F_law_greatest M, g_law_greatest, F_law_greatest.kp, B_law_greatest⟩
  have C_law_far : Cal P w K mg base "_law_far" ["base", "row"] 1 _ fd_law_far sp_law_far := ⟨ok_law_far F_law_far M, g_law_far, F_law_far.kp, B_law_far⟩
  have C_law_manies : Cal P w K mg base "_law_manies" ["least", "most", "row"] 1 _ fd_law_manies sp_law_manies := ⟨ok_law_manies F_law_manies M, g_law_manies, F_law_manies.kp, B_law_manies⟩
  have C_law_is_alphabet : Cal P w K mg base "_law_is_alphabet" ["word"] 1 _ fd_law_is_alphabet sp_law_is_alphabet := ⟨ok_law_is_alphabet F_law_is_alphabet M, g_law_is_alphabet, F_law_is_alphabet.kp, B_law_is_alphabet⟩
  have C_law_bad : Cal P w K mg base "_law_bad" ["abc", "row"] 1 _ fd_law_bad sp_law_bad := ⟨ok_law_bad F_law_bad M, g_law_bad, F_law_bad.kp, B_law_bad⟩
  have C_words_with_total : Cal P w K mg base "words_with_total" ["alphabet", "total", "count"] 2 _ fd_words_with_total sp_words_with_total := ⟨ok_words_with_total F_words_with_total M KF_order_of_text C_first_words, g_words_with_total, F_words_with_total.kp, B_words_with_total⟩
  have CX_check_alphabet : CalX P w K mg base "check_alphabet" ["alphabet"] 3 _ fd_check_alphabet sx_check_alphabet := ⟨okX_check_alphabet F_check_alphabet M G E_BadAlphabet BB_BadAlphabet, g_check_alphabet, F_check_alphabet.kp, B_check_alphabet⟩
  have CX_text_with : CalX P w K mg base "text_with" ["alphabet", "length", "count"] 4 _ fd_text_with sx_text_with := ⟨okX_text_with F_text_with M C_least_count C_greatest_count C_words_with_total CX_check_alphabet, g_text_with, F_text_with.kp, B_text_with⟩
  have C_text_with : Cal P w K mg base "text_with" ["alphabet", "length", "count"] 4 _ fd_text_with sp_text_with := CX_text_with.nr nr_text_with
  have C_law_told : Cal P w K mg base "_law_told" ["abc", "far", "many", "least", "most"] 5 _ fd_law_told sp_law_told := ⟨ok_law_told F_law_told M C_text_with C_law_cut, g_law_told, F_law_told.kp, B_law_told⟩
  have C_law_refused : Cal P w K mg base "_law_refused" ["bad", "far", "many"] 5 _ fd_law_refused sp_law_refused := ⟨ok_law_refused F_law_refused M T_err S_BadAlphabet g_BadAlphabet S_ValueError S_BadLetter g_BadLetter S_BadIndex g_BadIndex S_BadRank g_BadRank S_BadRow g_BadRow S_BadTail g_BadTail S_TooLarge g_TooLarge g_PressError X_PressError C_law_is_alphabet CX_text_with, g_law_refused, F_law_refused.kp, B_law_refused⟩
  exact ok_law F_law M C_law_alphabet C_law_digits C_law_cell C_law_far C_law_least C_law_greatest C_text_with C_law_told C_law_manies C_law_bad C_law_refused KB_text_with_0_count_length_alphabet
end K07
open PySem PySem.W PyProof.Rows
set_option maxRecDepth 100000 in
set_option maxHeartbeats 0 in
theorem PySem.Challenge.cw_unpressed_k07_text_with_count_holds : PySem.Challenge.rw_unpressed_k07_text_with_count.Holds := by
  w_on; o_law
  refine HandSHeadRun.head_imp (r := OpenLaw.row PySem.Challenge.rw_unpressed_k07_text_with_count) (q := view (OpenLaw.row PySem.Challenge.rw_unpressed_k07_text_with_count).prog [0, 33]) (H := K07.hk) (ob := K07.ob) (M := 60000) (loose := K07.loose) (d := HandSHeadRun.topDef (OpenLaw.row PySem.Challenge.rw_unpressed_k07_text_with_count).prog 33) (kwd := []) K07.ob_eq
    K07.run (by kernel_rfl) (by kernel_rfl) (by kernel_rfl) (by rfl) (by first | assumption | decide +kernel) (by decide +kernel) ⟨rfl, rfl, rfl, rfl, rfl, by decide +kernel⟩ ?hw ?hc
  case hw => w_witness2
  case hc =>
    refine L2.walk_ofE (l := PySem.Challenge.rw_unpressed_k07_text_with_count) (n := 63) (k := 6) (x := "script") (CX := L2.CX0) rfl (by decide) (by kernel_rfl) ⟨rfl, by decide, by decide⟩ ?F (fun _ _ _ _ z => z)
    intro w mg fa h Y G hmg0
    obtain ⟨K, KX, c, hx⟩ := Y
    have hmg : mg ("law" : PySem.Str) = some (.ref fa) := by
      have e : (HandSHeadRun.topDef (OpenLaw.row PySem.Challenge.rw_unpressed_k07_text_with_count).prog 33).name = ("law" : PySem.Str) := by kernel_rfl
      rw [← e]
      exact hmg0
    obtain ⟨fd, hb, hF⟩ := K07.facts (P := (PySem.Challenge.rw_unpressed_k07_text_with_count).prog) (w := w) KX G hmg c hx
    exact ⟨K, fd, PL.spP K mg K07.sp_law, KX, hb, fun H a ns hl hO hS => PL.law_entry hS (K07.law_in ns hl), hF⟩
end
