import PyProof.Rows.All
import Wide.All
import OpenK.AllK
import Wide.FinOn
import HandS.ForMost
import HandS.Wide
import HandS.WideBits
import HandS.IsInst
import HandS.SortInts
import HandS.Deep
import HandS.Conv
import HandS.ExcInit
import HandS.NoneIn
import HandS.TupAny
import HandS.Defaults
import HandS.MakeKwOnly
import HandS.RevTup
import HandS.Rev
import HandS.MapObj
import PyProof.MaxThree
import HandS.HeadHook2
import HandS.HeadEnd
import HandS.Head0
import HandS.Head1
import HandS.Head2
import HandS.RaiseMore
import HandS.Iter
import KE.KExcIs
import HandS.MakeKw
import HandS.ExcField
import KE.KMathG
import Flt.RightSqrt
import HandS.Gcd
import PySem.Challenge.RW_unpressed_k60_told_excess
import HandS.Head3
set_option Elab.async false
section
set_option linter.all false
set_option maxRecDepth 100000
set_option maxHeartbeats 4000000
set_option autoImplicit false
/-! PL1: a layer of pure data over the hand layer. A value is plain data (D); lists and dicts that a def builds by mutation are owned cells of its slots; everything else is frozen. -/
namespace PL
open PySem PySem.Spec PyProof.Rows L2

inductive D where
  | non
  | bl (b : Bool)
  | int (i : Int)
  | str (x : Str)
  | tup (ds : List D)
  | lst (ds : List D)
  | scr (ds : List D)
  | dk (kvs : List (Key × D))
  | dt (kvs : List (List Key × D))
  | obj (C : Str) (fs : List (Str × D))
  | err (C : Str) (fs : List (Str × D))

abbrev MG := Str → Option Value

mutual
inductive Rep (K : PySem.W.Frag) (mg : MG) (G : Hp) : V → D → Prop
  | non : Rep K mg G .non .non
  | bl (b : Bool) : Rep K mg G (.bl b) (.bl b)
  | int (i : Int) : Rep K mg G (.int i) (.int i)
  | str (x : Str) : Rep K mg G (.str x) (.str x)
  | tup {a : Addr} {vs : List V} {ds : List D} : G a = some (.tup vs) → Reps K mg G vs ds → Rep K mg G (.ref a) (.tup ds)
  | lst {a : Addr} {vs : List V} {ds : List D} : G a = some (.lst vs) → Reps K mg G vs ds → Rep K mg G (.ref a) (.lst ds)
  | scr {a : Addr} {vs : List V} {ds : List D} : SqL K G a vs → Reps K mg G vs ds → Rep K mg G (.ref a) (.scr ds)
  | dk {a : Addr} {vs : List (Key × V)} {ds : List (Key × D)} : Rd G a (.dK vs) → RepKV K mg G vs ds → Rep K mg G (.ref a) (.dk ds)
  | dt {a : Addr} {vs : List (List Key × V)} {ds : List (List Key × D)} : G a = some (.dT vs) → RepTV K mg G vs ds → Rep K mg G (.ref a) (.dt ds)
  | obj {a C dx : Addr} {cls : Str} {fs : List (Str × V)} {ds : List (Str × D)} : G a = some (.ins C dx fs) → mg cls = some (.ref C) → RepF K mg G fs ds → Rep K mg G (.ref a) (.obj cls ds)
  | err {a C dx : Addr} {cls : Str} {fs : List (Str × V)} {ds : List (Str × D)} : G a = some (exo a C (some dx)) → G dx = some (exd dx fs) → mg cls = some (.ref C) → RepF K mg G fs ds → Rep K mg G (.ref a) (.err cls ds)
inductive Reps (K : PySem.W.Frag) (mg : MG) (G : Hp) : List V → List D → Prop
  | nil : Reps K mg G [] []
  | cons {v : V} {vs : List V} {d : D} {ds : List D} : Rep K mg G v d → Reps K mg G vs ds → Reps K mg G (v :: vs) (d :: ds)
inductive RepKV (K : PySem.W.Frag) (mg : MG) (G : Hp) : List (Key × V) → List (Key × D) → Prop
  | nil : RepKV K mg G [] []
  | cons {k : Key} {v : V} {vs : List (Key × V)} {d : D} {ds : List (Key × D)} : Rep K mg G v d → RepKV K mg G vs ds → RepKV K mg G ((k, v) :: vs) ((k, d) :: ds)
inductive RepTV (K : PySem.W.Frag) (mg : MG) (G : Hp) : List (List Key × V) → List (List Key × D) → Prop
  | nil : RepTV K mg G [] []
  | cons {k : List Key} {v : V} {vs : List (List Key × V)} {d : D} {ds : List (List Key × D)} : Rep K mg G v d → RepTV K mg G vs ds → RepTV K mg G ((k, v) :: vs) ((k, d) :: ds)
inductive RepF (K : PySem.W.Frag) (mg : MG) (G : Hp) : List (Str × V) → List (Str × D) → Prop
  | nil : RepF K mg G [] []
  | cons {k : Str} {v : V} {vs : List (Str × V)} {d : D} {ds : List (Str × D)} : Rep K mg G v d → RepF K mg G vs ds → RepF K mg G ((k, v) :: vs) ((k, d) :: ds)
end

theorem Same.sqT {K : PySem.W.Frag} {H H' : Hp} {a : Addr} {xs : List V} (e : Same H H') (h : SqT K H a xs) : SqT K H' a xs := by
  rcases h with (h | ⟨o, h⟩) | h
  · exact .inl (.inl (e _ _ h))
  · exact .inl (.inr ⟨o, e _ _ h⟩)
  · exact .inr h

theorem rd_same {G H : Hp} {a : Addr} {u : HO} (e : Same G H) (h : Rd G a u) : Rd H a u := by
  rcases h with h | ⟨o, h⟩
  · exact .inl (e _ _ h)
  · exact .inr ⟨o, e _ _ h⟩
section
variable {K : PySem.W.Frag} {mg : MG} {G G' : Hp}
mutual
theorem Rep.mono (e : Same G G') : ∀ {v : V} {d : D}, Rep K mg G v d → Rep K mg G' v d
  | _, _, .non => .non
  | _, _, .bl b => .bl b
  | _, _, .int i => .int i
  | _, _, .str x => .str x
  | _, _, .tup h r => .tup (e _ _ h) (Reps.mono e r)
  | _, _, .lst h r => .lst (e _ _ h) (Reps.mono e r)
  | _, _, .scr h r => .scr (e.seq h) (Reps.mono e r)
  | _, _, .dk h r => .dk (rd_same e h) (RepKV.mono e r)
  | _, _, .dt h r => .dt (e _ _ h) (RepTV.mono e r)
  | _, _, .obj h m r => .obj (e _ _ h) m (RepF.mono e r)
  | _, _, .err h h2 m r => .err (e _ _ h) (e _ _ h2) m (RepF.mono e r)
theorem Reps.mono (e : Same G G') : ∀ {v : List V} {d : List D}, Reps K mg G v d → Reps K mg G' v d
  | _, _, .nil => .nil
  | _, _, .cons h t => .cons (Rep.mono e h) (Reps.mono e t)
theorem RepKV.mono (e : Same G G') : ∀ {v : List (Key × V)} {d : List (Key × D)}, RepKV K mg G v d → RepKV K mg G' v d
  | _, _, .nil => .nil
  | _, _, .cons h t => .cons (Rep.mono e h) (RepKV.mono e t)
theorem RepTV.mono (e : Same G G') : ∀ {v : List (List Key × V)} {d : List (List Key × D)}, RepTV K mg G v d → RepTV K mg G' v d
  | _, _, .nil => .nil
  | _, _, .cons h t => .cons (Rep.mono e h) (RepTV.mono e t)
theorem RepF.mono (e : Same G G') : ∀ {v : List (Str × V)} {d : List (Str × D)}, RepF K mg G v d → RepF K mg G' v d
  | _, _, .nil => .nil
  | _, _, .cons h t => .cons (Rep.mono e h) (RepF.mono e t)
end
theorem Reps.length : ∀ {vs : List V} {ds : List D}, Reps K mg G vs ds → vs.length = ds.length
  | _, _, .nil => rfl
  | _, _, .cons _ t => congrArg (· + 1) (Reps.length t)
theorem Reps.get : ∀ {vs : List V} {ds : List D} {i : Nat} {v : V}, Reps K mg G vs ds → vs[i]? = some v → ∃ d, ds[i]? = some d ∧ Rep K mg G v d
  | _, _, _, _, .nil, e => by simp at e
  | _, _, 0, _, .cons r _, e => by simp at e; subst e; exact ⟨_, rfl, r⟩
  | _, _, i + 1, v, .cons _ t, e => by
    obtain ⟨d, h1, h2⟩ := Reps.get (i := i) (v := v) t (by simpa using e)
    exact ⟨d, by simpa using h1, h2⟩
theorem Reps.getD : ∀ {vs : List V} {ds : List D} {i : Nat} {d : D}, Reps K mg G vs ds → ds[i]? = some d → ∃ v, vs[i]? = some v ∧ Rep K mg G v d
  | _, _, _, _, .nil, e => by simp at e
  | _, _, 0, _, .cons r _, e => by simp at e; subst e; exact ⟨_, rfl, r⟩
  | _, _, i + 1, d, .cons _ t, e => by
    obtain ⟨v, h1, h2⟩ := Reps.getD (i := i) (d := d) t (by simpa using e)
    exact ⟨v, by simpa using h1, h2⟩
theorem Reps.append : ∀ {vs ws : List V} {ds es : List D}, Reps K mg G vs ds → Reps K mg G ws es → Reps K mg G (vs ++ ws) (ds ++ es)
  | _, _, _, _, .nil, h => h
  | _, _, _, _, .cons r t, h => .cons r (Reps.append t h)
theorem Reps.take : ∀ {vs : List V} {ds : List D} (n : Nat), Reps K mg G vs ds → Reps K mg G (vs.take n) (ds.take n)
  | _, _, 0, _ => by simp only [List.take_zero]; exact .nil
  | _, _, _ + 1, .nil => .nil
  | _, _, n + 1, .cons r t => .cons r (Reps.take n t)
theorem Reps.drop : ∀ {vs : List V} {ds : List D} (n : Nat), Reps K mg G vs ds → Reps K mg G (vs.drop n) (ds.drop n)
  | _, _, 0, r => r
  | _, _, _ + 1, .nil => .nil
  | _, _, n + 1, .cons _ t => Reps.drop n t
theorem Reps.set {v : V} {d : D} (r : Rep K mg G v d) : ∀ {vs : List V} {ds : List D} (i : Nat), Reps K mg G vs ds → Reps K mg G (vs.set i v) (ds.set i d)
  | _, _, _, .nil => .nil
  | _, _, 0, .cons _ t => .cons r t
  | _, _, i + 1, .cons q t => .cons q (Reps.set r i t)
theorem Reps.reverse {vs : List V} {ds : List D} (h : Reps K mg G vs ds) : Reps K mg G vs.reverse ds.reverse := by
  induction vs generalizing ds with
  | nil => cases h; exact .nil
  | cons v vs ih =>
    cases h with
    | cons r t =>
      simp only [List.reverse_cons]
      exact (ih t).append (.cons r .nil)
theorem Reps.ints : ∀ {vs : List V} {ns : List Int}, Reps K mg G vs (ns.map D.int) → vs = ns.map V.int
  | _, [], .nil => rfl
  | _, n :: ns, .cons r t => by
    cases r
    rw [Reps.ints t]; rfl
theorem Reps.strs : ∀ {vs : List V} {ns : List Str}, Reps K mg G vs (ns.map D.str) → vs = ns.map V.str
  | _, [], .nil => rfl
  | _, n :: ns, .cons r t => by
    cases r
    rw [Reps.strs t]; rfl
theorem Reps.bls : ∀ {vs : List V} {ns : List Bool}, Reps K mg G vs (ns.map D.bl) → vs = ns.map V.bl
  | _, [], .nil => rfl
  | _, n :: ns, .cons r t => by
    cases r
    rw [Reps.bls t]; rfl
theorem Reps.ofInts : ∀ (ns : List Int), Reps K mg G (ns.map V.int) (ns.map D.int)
  | [] => .nil
  | n :: ns => .cons (.int n) (Reps.ofInts ns)
theorem Reps.ofStrs : ∀ (ns : List Str), Reps K mg G (ns.map V.str) (ns.map D.str)
  | [] => .nil
  | n :: ns => .cons (.str n) (Reps.ofStrs ns)
end

/-! ### growth of the frozen part and of the whole heap -/
structure Ext (G H G' H' : Hp) : Prop where
  g : Same G G'
  h : Same H H'
  s : Same G' H'
  f : ∀ a, G a = none → G' a ≠ none → H a = none
theorem Ext.refl {G H : Hp} (s : Same G H) : Ext G H G H := ⟨Same.refl _, Same.refl _, s, fun _ e n => absurd e n⟩
theorem Ext.trans {G H G1 H1 G2 H2 : Hp} (a : Ext G H G1 H1) (b : Ext G1 H1 G2 H2) : Ext G H G2 H2 :=
  ⟨a.g.trans b.g, a.h.trans b.h, b.s, fun x e n => by
    by_cases q : G1 x = none
    · exact a.h.free (b.f x q n)
    · exact a.f x e q⟩
theorem Same.upd {H : Hp} {p : Addr} {o : HO} (n : H p = none) : Same H (L2.upd H p o) := fun b u e => by rw [upd_ne (ne_of_none e n)]; exact e
/-- a new frozen object -/
theorem Ext.new {G H : Hp} {p : Addr} {o : HO} (s : Same G H) (n : H p = none) : Ext G H (upd G p o) (upd H p o) := by
  have nG : G p = none := s.free n
  refine ⟨Same.upd nG, Same.upd n, fun b u e => ?_, fun a e q => ?_⟩
  · by_cases h : b = p
    · subst h; rw [upd_same] at e ⊢; exact e
    · rw [upd_ne h] at e ⊢; exact s _ _ e
  · by_cases h : a = p
    · subst h; exact n
    · rw [upd_ne h] at q; exact absurd e q
/-- a new object that is not frozen -/
theorem Ext.newH {G H : Hp} {p : Addr} {o : HO} (s : Same G H) (n : H p = none) : Ext G H G (upd H p o) :=
  ⟨Same.refl _, Same.upd n, s.trans (Same.upd n), fun _ e q => absurd e q⟩

/-! ### slots -/
inductive C where
  | un
  | fz (d : D)
  | ow (d : D)

inductive Top (K : PySem.W.Frag) (mg : MG) (H G : Hp) (l : Addr) : D → Prop
  | lst {vs : List V} {ds : List D} : H l = some (.lst vs) → Reps K mg G vs ds → Top K mg H G l (.lst ds)
  | dk {vs : List (Key × V)} {ds : List (Key × D)} : H l = some (.dK vs) → RepKV K mg G vs ds → Top K mg H G l (.dk ds)
  | dt {vs : List (List Key × V)} {ds : List (List Key × D)} : H l = some (.dT vs) → RepTV K mg G vs ds → Top K mg H G l (.dt ds)

section
variable {K : PySem.W.Frag} {mg : MG} {G H G' H' : Hp} {l : Addr} {d : D}
theorem Top.mono (h : Top K mg H G l d) (a : Same H H') (b : Same G G') : Top K mg H' G' l d := by
  cases h with
  | lst e r => exact .lst (a _ _ e) (r.mono b)
  | dk e r => exact .dk (a _ _ e) (r.mono b)
  | dt e r => exact .dt (a _ _ e) (r.mono b)
theorem Top.some (h : Top K mg H G l d) : ∃ o, H l = Option.some o := by
  cases h with
  | lst e r => exact ⟨_, e⟩
  | dk e r => exact ⟨_, e⟩
  | dt e r => exact ⟨_, e⟩
/-- an owned cell is frozen -/
theorem Top.freeze (h : Top K mg H G l d) (s : Same G H) (n : G l = none) : ∃ o, H l = Option.some o ∧ Rep K mg (upd G l o) (.ref l) d ∧ Same G (upd G l o) ∧ Same (upd G l o) H := by
  have sG : ∀ o, Same G (upd G l o) := fun o => Same.upd n
  have sH : ∀ o, H l = Option.some o → Same (upd G l o) H := fun o e b u q => by
    by_cases hb : b = l
    · subst hb; rw [upd_same] at q; cases q; exact e
    · rw [upd_ne hb] at q; exact s _ _ q
  cases h with
  | lst e r => exact ⟨_, e, .lst upd_same (r.mono (sG _)), sG _, sH _ e⟩
  | dk e r => exact ⟨_, e, .dk (.inl upd_same) (r.mono (sG _)), sG _, sH _ e⟩
  | dt e r => exact ⟨_, e, .dt upd_same (r.mono (sG _)), sG _, sH _ e⟩
end

/-- a value that is read at its top: frozen, or an owned cell -/
def Shal (K : PySem.W.Frag) (mg : MG) (H G : Hp) (v : V) (d : D) : Prop := Rep K mg G v d ∨ ∃ l, v = .ref l ∧ Top K mg H G l d
theorem Shal.mono {K : PySem.W.Frag} {mg : MG} {G H G' H' : Hp} {v : V} {d : D} (h : Shal K mg H G v d) (a : Same H H') (b : Same G G') : Shal K mg H' G' v d := by
  rcases h with h | ⟨l, e, t⟩
  · exact .inl (h.mono b)
  · exact .inr ⟨l, e, t.mono a b⟩
section
variable {K : PySem.W.Frag} {mg : MG} {G H : Hp} {v : V}
theorem Shal.int {i : Int} (h : Shal K mg H G v (.int i)) : v = .int i := by
  rcases h with h | ⟨l, e, t⟩
  · cases h; rfl
  · cases t
theorem Shal.bl {i : Bool} (h : Shal K mg H G v (.bl i)) : v = .bl i := by
  rcases h with h | ⟨l, e, t⟩
  · cases h; rfl
  · cases t
theorem Shal.str {i : Str} (h : Shal K mg H G v (.str i)) : v = .str i := by
  rcases h with h | ⟨l, e, t⟩
  · cases h; rfl
  · cases t
theorem Shal.non (h : Shal K mg H G v .non) : v = .non := by
  rcases h with h | ⟨l, e, t⟩
  · cases h; rfl
  · cases t
theorem Shal.lst {ds : List D} (h : Shal K mg H G v (.lst ds)) (s : Same G H) : ∃ l vs, v = .ref l ∧ H l = some (.lst vs) ∧ Reps K mg G vs ds := by
  rcases h with h | ⟨l, e, t⟩
  · cases h with
    | lst e r => exact ⟨_, _, rfl, s _ _ e, r⟩
  · cases t with
    | lst e' r => exact ⟨_, _, e, e', r⟩
theorem Shal.dk {ds : List (Key × D)} (h : Shal K mg H G v (.dk ds)) (s : Same G H) : ∃ l vs, v = .ref l ∧ Rd H l (.dK vs) ∧ RepKV K mg G vs ds := by
  rcases h with h | ⟨l, e, t⟩
  · cases h with
    | dk e r => exact ⟨_, _, rfl, rd_same s e, r⟩
  · cases t with
    | dk e' r => exact ⟨_, _, e, .inl e', r⟩
theorem Shal.dt {ds : List (List Key × D)} (h : Shal K mg H G v (.dt ds)) (s : Same G H) : ∃ l vs, v = .ref l ∧ H l = some (.dT vs) ∧ RepTV K mg G vs ds := by
  rcases h with h | ⟨l, e, t⟩
  · cases h with
    | dt e r => exact ⟨_, _, rfl, s _ _ e, r⟩
  · cases t with
    | dt e' r => exact ⟨_, _, e, e', r⟩
theorem Shal.scr {ds : List D} (h : Shal K mg H G v (.scr ds)) (s : Same G H) : ∃ l vs, v = .ref l ∧ SqL K H l vs ∧ Reps K mg G vs ds := by
  rcases h with h | ⟨l, e, t⟩
  · cases h with
    | scr e r => exact ⟨_, _, rfl, s.seq e, r⟩
  · cases t
theorem Shal.tup {ds : List D} (h : Shal K mg H G v (.tup ds)) (s : Same G H) : ∃ l vs, v = .ref l ∧ H l = some (.tup vs) ∧ Reps K mg G vs ds := by
  rcases h with h | ⟨l, e, t⟩
  · cases h with
    | tup e r => exact ⟨_, _, rfl, s _ _ e, r⟩
  · cases t
theorem Shal.err {cls : Str} {ds : List (Str × D)} (h : Shal K mg H G v (.err cls ds)) : Rep K mg G v (.err cls ds) := by
  rcases h with h | ⟨l, e, t⟩
  · exact h
  · cases t
theorem Shal.obj {cls : Str} {ds : List (Str × D)} (h : Shal K mg H G v (.obj cls ds)) : Rep K mg G v (.obj cls ds) := by
  rcases h with h | ⟨l, e, t⟩
  · exact h
  · cases t
end

def SlotOk (K : PySem.W.Frag) (mg : MG) (H G : Hp) (c : C) (o : Option (Option V)) : Prop := match c with
  | .un => True
  | .fz d => ∃ v, o = some (some v) ∧ Rep K mg G v d
  | .ow d => ∃ l, o = some (some (.ref l)) ∧ Top K mg H G l d ∧ G l = none

structure Ok (K : PySem.W.Frag) (mg : MG) (G H : Hp) (env : List C) (σ : L2.St) : Prop where
  same : Same G H
  slot : ∀ (i : Nat) (c : C), env[i]? = some c → SlotOk K mg H G c σ[i]?
  apart : ∀ (i j : Nat) (d e : D) (l : Addr), env[i]? = some (.ow d) → env[j]? = some (.ow e) → σ[i]? = some (some (.ref l)) → σ[j]? = some (some (.ref l)) → i = j
  len : env.length = σ.length
section
variable {K : PySem.W.Frag} {mg : MG} {G H G' H' : Hp} {env : List C} {σ : L2.St}
theorem SlotOk.ext {c : C} {o : Option (Option V)} (h : SlotOk K mg H G c o) (e : Ext G H G' H') : SlotOk K mg H' G' c o := by
  cases c with
  | un => trivial
  | fz d => obtain ⟨v, a, r⟩ := h; exact ⟨v, a, r.mono e.g⟩
  | ow d =>
    obtain ⟨l, a, t, n⟩ := h
    refine ⟨l, a, t.mono e.h e.g, ?_⟩
    cases q : G' l with
    | none => rfl
    | some o =>
      obtain ⟨u, hu⟩ := t.some
      have := e.f l n (by rw [q]; intro z; cases z)
      rw [hu] at this; cases this
theorem Ok.ext (h : Ok K mg G H env σ) (e : Ext G H G' H') : Ok K mg G' H' env σ :=
  ⟨e.s, fun i c q => (h.slot i c q).ext e, h.apart, h.len⟩
end

structure Rel (K : PySem.W.Frag) (mg : MG) (G0 H0 G H : Hp) (env : List C) (σ : L2.St) : Prop where
  ok : Ok K mg G H env σ
  ext : Ext G0 H0 G H
  own : ∀ (i : Nat) (d : D) (l : Addr), env[i]? = some (.ow d) → σ[i]? = some (some (.ref l)) → H0 l = none
theorem Rel.step {K : PySem.W.Frag} {mg : MG} {G0 H0 G H G' H' : Hp} {env : List C} {σ : L2.St} (h : Rel K mg G0 H0 G H env σ) (e : Ext G H G' H') : Rel K mg G0 H0 G' H' env σ :=
  ⟨h.ok.ext e, h.ext.trans e, h.own⟩

/-- slot i gets frozen data -/
theorem Rel.setFz {K : PySem.W.Frag} {mg : MG} {G0 H0 G H : Hp} {env : List C} {σ : L2.St} {i : Nat} {v : V} {d : D} (h : Rel K mg G0 H0 G H env σ) (r : Rep K mg G v d) :
    Rel K mg G0 H0 G H (env.set i (.fz d)) (σ.set i (some v)) := by
  have low : ∀ {j : Nat} {e : D}, (env.set i (.fz d))[j]? = some (.ow e) → j ≠ i ∧ env[j]? = some (.ow e) := fun {j e} q => by
    rw [List.getElem?_set] at q
    split at q
    · split at q <;> cases q
    · rename_i hij; exact ⟨Ne.symm hij, q⟩
  refine ⟨⟨h.ok.same, fun j c q => ?_, fun j k d' e' l q1 q2 s1 s2 => ?_, by simp [h.ok.len]⟩, h.ext, fun j d' l q s1 => ?_⟩
  · rw [List.getElem?_set] at q
    split at q
    · rename_i hij
      subst hij
      split at q
      · rename_i hl
        cases q
        refine ⟨v, ?_, r⟩
        rw [List.getElem?_set_self (by rw [← h.ok.len]; exact hl)]
      · cases q
    · rename_i hij
      rw [List.getElem?_set_ne hij]
      exact h.ok.slot j c q
  · obtain ⟨n1, e1⟩ := low q1
    obtain ⟨n2, e2⟩ := low q2
    rw [List.getElem?_set_ne (Ne.symm n1)] at s1
    rw [List.getElem?_set_ne (Ne.symm n2)] at s2
    exact h.ok.apart j k d' e' l e1 e2 s1 s2
  · obtain ⟨n1, e1⟩ := low q
    rw [List.getElem?_set_ne (Ne.symm n1)] at s1
    exact h.own j d' l e1 s1
/-- slot i gets a new owned cell -/
theorem Rel.setOw {K : PySem.W.Frag} {mg : MG} {G0 H0 G H : Hp} {env : List C} {σ : L2.St} {i : Nat} {l : Addr} {d : D} (h : Rel K mg G0 H0 G H env σ) (t : Top K mg H G l d) (n : G l = none) (n0 : H0 l = none)
    (new : ∀ (j : Nat) (e : D), env[j]? = some (.ow e) → σ[j]? ≠ some (some (.ref l))) :
    Rel K mg G0 H0 G H (env.set i (.ow d)) (σ.set i (some (.ref l))) := by
  have low : ∀ {j : Nat} {e : D}, (env.set i (.ow d))[j]? = some (.ow e) → j ≠ i → env[j]? = some (.ow e) := fun {j e} q hn => by
    rw [List.getElem?_set_ne (Ne.symm hn)] at q
    exact q
  refine ⟨⟨h.ok.same, fun j c q => ?_, fun j k d' e' m q1 q2 s1 s2 => ?_, by simp [h.ok.len]⟩, h.ext, fun j d' m q s1 => ?_⟩
  · rw [List.getElem?_set] at q
    split at q
    · rename_i hij
      subst hij
      split at q
      · rename_i hl
        cases q
        refine ⟨l, ?_, t, n⟩
        rw [List.getElem?_set_self (by rw [← h.ok.len]; exact hl)]
      · cases q
    · rename_i hij
      rw [List.getElem?_set_ne hij]
      exact h.ok.slot j c q
  · by_cases a1 : j = i
    · by_cases a2 : k = i
      · rw [a1, a2]
      · subst a1
        have e2 := low q2 a2
        rw [List.getElem?_set_ne (Ne.symm a2)] at s2
        rw [List.getElem?_set] at s1
        split at s1
        · split at s1
          · cases s1; exact absurd s2 (new k e' e2)
          · cases s1
        · rename_i z; exact absurd rfl z
    · have e1 := low q1 a1
      rw [List.getElem?_set_ne (Ne.symm a1)] at s1
      by_cases a2 : k = i
      · subst a2
        rw [List.getElem?_set] at s2
        split at s2
        · split at s2
          · cases s2; exact absurd s1 (new j d' e1)
          · cases s2
        · rename_i z; exact absurd rfl z
      · have e2 := low q2 a2
        rw [List.getElem?_set_ne (Ne.symm a2)] at s2
        exact h.ok.apart j k d' e' m e1 e2 s1 s2
  · by_cases a1 : j = i
    · subst a1
      rw [List.getElem?_set] at s1
      split at s1
      · split at s1
        · cases s1; exact n0
        · cases s1
      · rename_i z; exact absurd rfl z
    · have e1 := low q a1
      rw [List.getElem?_set_ne (Ne.symm a1)] at s1
      exact h.own j d' m e1 s1
/-- the cell of slot i is changed -/
theorem Rel.write {K : PySem.W.Frag} {mg : MG} {G0 H0 G H : Hp} {env : List C} {σ : L2.St} {i : Nat} {l : Addr} {d e : D} {o : HO} (h : Rel K mg G0 H0 G H env σ) (hi : env[i]? = some (.ow d)) (hl : σ[i]? = some (some (.ref l))) (n : G l = none)
    (t : Top K mg (upd H l o) G l e) : Rel K mg G0 H0 G (upd H l o) (env.set i (.ow e)) σ := by
  have n0 := h.own i d l hi hl
  have sm : Same G (upd H l o) := fun b u q => by
    have : b ≠ l := fun z => by subst z; rw [n] at q; cases q
    rw [upd_ne this]; exact h.ok.same _ _ q
  have low : ∀ {j : Nat} {f : D}, (env.set i (.ow e))[j]? = some (.ow f) → ∃ f', env[j]? = some (.ow f') := fun {j f} q => by
    rw [List.getElem?_set] at q
    split at q
    · rename_i hij; subst hij; exact ⟨d, hi⟩
    · exact ⟨f, q⟩
  refine ⟨⟨sm, fun j c q => ?_, fun j k d' e' m q1 q2 s1 s2 => ?_, by simp [h.ok.len]⟩, ⟨h.ext.g, fun b u q => ?_, sm, h.ext.f⟩, fun j d' m q s1 => ?_⟩
  · rw [List.getElem?_set] at q
    split at q
    · rename_i hij
      subst hij
      split at q
      · cases q; exact ⟨l, hl, t, n⟩
      · cases q
    · rename_i hij
      have s := h.ok.slot j c q
      cases c with
      | un => trivial
      | fz d' => exact s
      | ow d' =>
        obtain ⟨m, e1, t1, n1⟩ := s
        have ne : m ≠ l := fun z => by subst z; exact hij (h.ok.apart i j d d' m hi q hl e1)
        refine ⟨m, e1, ?_, n1⟩
        cases t1 with
        | lst a r => exact .lst (by rw [upd_ne ne]; exact a) r
        | dk a r => exact .dk (by rw [upd_ne ne]; exact a) r
        | dt a r => exact .dt (by rw [upd_ne ne]; exact a) r
  · obtain ⟨f1, z1⟩ := low q1
    obtain ⟨f2, z2⟩ := low q2
    exact h.ok.apart j k f1 f2 m z1 z2 s1 s2
  · have : b ≠ l := fun z => by subst z; rw [n0] at q; cases q
    rw [upd_ne this]; exact h.ext.h _ _ q
  · obtain ⟨f1, z1⟩ := low q
    exact h.own j f1 m z1 s1
/-- slot i's cell is frozen -/
def frz (i : Nat) (env : List C) : List C := match env[i]? with
  | some (.ow d) => env.set i (.fz d)
  | _ => env
theorem Rel.freeze {K : PySem.W.Frag} {mg : MG} {G0 H0 G H : Hp} {env : List C} {σ : L2.St} (i : Nat) (h : Rel K mg G0 H0 G H env σ) : ∃ G', Rel K mg G0 H0 G' H (frz i env) σ ∧ Same G G' := by
  unfold frz
  split
  · rename_i d hd
    obtain ⟨l, hl, t, n⟩ := h.ok.slot i _ hd
    obtain ⟨o, ho, r, s1, s2⟩ := t.freeze h.ok.same n
    have n0 := h.own i d l hd hl
    have fre : ∀ a, G a = none → a ≠ l → upd G l o a = none := fun a e ne => by rw [upd_ne ne]; exact e
    have low : ∀ {j : Nat} {e : D}, (env.set i (.fz d))[j]? = some (.ow e) → j ≠ i ∧ env[j]? = some (.ow e) := fun {j e} q => by
      rw [List.getElem?_set] at q
      split at q
      · split at q <;> cases q
      · rename_i hij; exact ⟨Ne.symm hij, q⟩
    refine ⟨upd G l o, ⟨⟨s2, fun j c q => ?_, fun j k d' e' m q1 q2 z1 z2 => h.ok.apart j k d' e' m (low q1).2 (low q2).2 z1 z2, by simp [h.ok.len]⟩, ⟨h.ext.g.trans s1, h.ext.h, s2, fun a e ne => ?_⟩, fun j d' m q z => h.own j d' m (low q).2 z⟩, s1⟩
    · rw [List.getElem?_set] at q
      split at q
      · rename_i hij
        subst hij
        split at q
        · cases q; exact ⟨_, hl, r⟩
        · cases q
      · rename_i hij
        have s := h.ok.slot j c q
        cases c with
        | un => trivial
        | fz d' => obtain ⟨v, a, b⟩ := s; exact ⟨v, a, b.mono s1⟩
        | ow d' =>
          obtain ⟨m, e1, t1, n1⟩ := s
          have ne : m ≠ l := fun z => by subst z; exact hij (h.ok.apart i j d d' m hd q hl e1)
          exact ⟨m, e1, t1.mono (Same.refl _) s1, fre m n1 ne⟩
    · by_cases hal : a = l
      · subst hal; exact n0
      · rw [upd_ne hal] at ne; exact h.ext.f a e ne
  · exact ⟨G, h, Same.refl _⟩
/-- slot i is forgotten -/
theorem Rel.forget {K : PySem.W.Frag} {mg : MG} {G0 H0 G H : Hp} {env : List C} {σ : L2.St} (i : Nat) (h : Rel K mg G0 H0 G H env σ) : Rel K mg G0 H0 G H (env.set i .un) σ := by
  have low : ∀ {j : Nat} {e : D}, (env.set i .un)[j]? = some (.ow e) → env[j]? = some (.ow e) := fun {j e} q => by
    rw [List.getElem?_set] at q
    split at q
    · split at q <;> cases q
    · exact q
  refine ⟨⟨h.ok.same, fun j c q => ?_, fun j k d' e' m q1 q2 z1 z2 => h.ok.apart j k d' e' m (low q1) (low q2) z1 z2, by simp [h.ok.len]⟩, h.ext, fun j d' m q z => h.own j d' m (low q) z⟩
  rw [List.getElem?_set] at q
  split at q
  · split at q
    · cases q; trivial
    · cases q
  · exact h.ok.slot j c q
end PL
end

section
set_option linter.all false
set_option maxRecDepth 100000
set_option maxHeartbeats 4000000
set_option autoImplicit false
/-! PL2: judgements over plain data, and expressions. -/
namespace PL
open PySem PySem.Spec PyProof.Rows L2

abbrev PTE := List C → (D → Prop) → Prop
abbrev PTT := List C → (Bool → Prop) → Prop
abbrev PTA := List C → (List D → Prop) → Prop

/-- an expression, its value frozen -/
structure PuE (X : Cx) (e : Expr) (p : PTE) : Prop where
  ex : ∃ t : TE, PE X e t ∧ ∀ (G H : Hp) (env : List C) (σ : L2.St) (P : D → Prop) (Q : VK), Ok X.K X.mg G H env σ → p env P →
    (∀ d v G' H', Ext G H G' H' → Rep X.K X.mg G' v d → P d → Q v H') → t σ H Q
/-- .. its value read at its top -/
structure PuO (X : Cx) (e : Expr) (p : PTE) : Prop where
  ex : ∃ t : TE, PE X e t ∧ ∀ (G H : Hp) (env : List C) (σ : L2.St) (P : D → Prop) (Q : VK), Ok X.K X.mg G H env σ → p env P →
    (∀ d v G' H', Ext G H G' H' → Shal X.K X.mg H' G' v d → P d → Q v H') → t σ H Q
/-- .. its value a new cell -/
structure PuF (X : Cx) (e : Expr) (p : PTE) : Prop where
  ex : ∃ t : TE, PE X e t ∧ ∀ (G H : Hp) (env : List C) (σ : L2.St) (P : D → Prop) (Q : VK), Ok X.K X.mg G H env σ → p env P →
    (∀ d l G' H', Ext G H G' H' → Top X.K X.mg H' G' l d → G' l = none → H l = none → P d → Q (.ref l) H') → t σ H Q
structure PuT (X : Cx) (e : Expr) (p : PTT) : Prop where
  ex : ∃ t : TT, PT X e t ∧ ∀ (G H : Hp) (env : List C) (σ : L2.St) (P : Bool → Prop) (Q : Bool → Hp → Prop), Ok X.K X.mg G H env σ → p env P →
    (∀ b G' H', Ext G H G' H' → P b → Q b H') → t σ H Q
structure PuW (X : Cx) (e : Expr) (p : PTT) : Prop where
  ex : ∃ t : TT, PW X e t ∧ ∀ (G H : Hp) (env : List C) (σ : L2.St) (P : Bool → Prop) (Q : Bool → Hp → Prop), Ok X.K X.mg G H env σ → p env P →
    (∀ b G' H', Ext G H G' H' → P b → Q b H') → t σ H Q
structure PuA (X : Cx) (es : List Expr) (p : PTA) : Prop where
  ex : ∃ t : TA, PA X es t ∧ ∀ (G H : Hp) (env : List C) (σ : L2.St) (P : List D → Prop) (Q : List V → Hp → Prop), Ok X.K X.mg G H env σ → p env P →
    (∀ ds vs G' H', Ext G H G' H' → Reps X.K X.mg G' vs ds → P ds → Q vs H') → t σ H Q
inductive Shals (K : PySem.W.Frag) (mg : MG) (H G : Hp) : List V → List D → Prop
  | nil : Shals K mg H G [] []
  | cons {v : V} {vs : List V} {d : D} {ds : List D} : Shal K mg H G v d → Shals K mg H G vs ds → Shals K mg H G (v :: vs) (d :: ds)
structure PuAO (X : Cx) (es : List Expr) (p : PTA) : Prop where
  ex : ∃ t : TA, PA X es t ∧ ∀ (G H : Hp) (env : List C) (σ : L2.St) (P : List D → Prop) (Q : List V → Hp → Prop), Ok X.K X.mg G H env σ → p env P →
    (∀ ds vs G' H', Ext G H G' H' → Shals X.K X.mg H' G' vs ds → P ds → Q vs H') → t σ H Q

section
variable {X : Cx} {e a b : Expr} {es : List Expr} {p pa pb : PTE} {pt pu : PTT} {ps : PTA} {pos : Pos}

theorem PuE.o (h : PuE X e p) : PuO X e p := by
  obtain ⟨t, h1, h2⟩ := h.ex
  exact ⟨t, h1, fun G H env σ P Q ok hp k => h2 G H env σ P Q ok hp fun d v G' H' x r q => k d v G' H' x (.inl r) q⟩
theorem PuF.toE (h : PuF X e p) : PuE X e p := by
  obtain ⟨t, h1, h2⟩ := h.ex
  refine ⟨t, h1, fun G H env σ P Q ok hp k => h2 G H env σ P Q ok hp fun d l G' H' x r n nH q => ?_⟩
  obtain ⟨o, ho, r', s1, s2⟩ := r.freeze x.s n
  refine k d _ (upd G' l o) H' ⟨x.g.trans s1, x.h, s2, fun a e1 ne => ?_⟩ r' q
  by_cases hal : a = l
  · subst hal; exact nH
  · rw [upd_ne hal] at ne; exact x.f a e1 ne
theorem PuF.o (h : PuF X e p) : PuO X e p := h.toE.o

/-! ### names, constants -/
def pC (d : D) : PTE := fun _ P => P d
def pN (i : Nat) : PTE := fun env P => match env[i]? with
  | some (.fz d) => P d
  | _ => False
def pNo (i : Nat) : PTE := fun env P => match env[i]? with
  | some (.fz d) => P d
  | some (.ow d) => P d
  | _ => False
theorem pu_of {t : TE} (h : PE X e t) {d : D} {v : V} (r : ∀ G, Rep X.K X.mg G v d) (ht : ∀ σ H Q, Q v H → t σ H Q) : PuE X e (pC d) :=
  ⟨t, h, fun G H env σ P Q ok hp k => ht _ _ _ (k d v G H (.refl ok.same) (r G) hp)⟩
theorem pu_int {i : Int} {j : Nat} : PuE X (.Constant (.int i) j pos) (pC (.int i)) := pu_of pe_int (fun _ => .int i) fun _ _ _ h => h
theorem pu_bl {i : Bool} {j : Nat} : PuE X (.Constant (.bool i) j pos) (pC (.bl i)) := pu_of pe_bl (fun _ => .bl i) fun _ _ _ h => h
theorem pu_non {j : Nat} : PuE X (.Constant .none j pos) (pC .non) := pu_of pe_non (fun _ => .non) fun _ _ _ h => h
theorem pu_str {i : Str} {j : Nat} : PuE X (.Constant (.str i) j pos) (pC (.str i)) := pu_of pe_str (fun _ => .str i) fun _ _ _ h => h
theorem pu_name (i : Nat) {x : Str} (hN : X.N[i]? = some x := by rfl) (hv : Vis X.env.scope x := by first | exact Or.inl rfl | exact Or.inr (Or.inl rfl) | exact Or.inr (Or.inr rfl)) (hd : (x == ("__debug__" : Str)) = false := by decide)
    (hcd : (x == ("__classdict__" : Str)) = false := by decide) : PuE X (.Name x pos) (pN i) := by
  refine ⟨tVar i, pe_var hN hv hd hcd, fun G H env σ P Q ok hp k => ?_⟩
  unfold pN at hp
  split at hp
  · rename_i d hd
    obtain ⟨v, e, r⟩ := ok.slot i _ hd
    exact ⟨v, e, k d v G H (.refl ok.same) r hp⟩
  · exact hp.elim
theorem pu_nameO (i : Nat) {x : Str} (hN : X.N[i]? = some x := by rfl) (hv : Vis X.env.scope x := by first | exact Or.inl rfl | exact Or.inr (Or.inl rfl) | exact Or.inr (Or.inr rfl)) (hd : (x == ("__debug__" : Str)) = false := by decide)
    (hcd : (x == ("__classdict__" : Str)) = false := by decide) : PuO X (.Name x pos) (pNo i) := by
  refine ⟨tVar i, pe_var hN hv hd hcd, fun G H env σ P Q ok hp k => ?_⟩
  unfold pNo at hp
  split at hp
  · rename_i d hd
    obtain ⟨v, e, r⟩ := ok.slot i _ hd
    exact ⟨v, e, k d v G H (.refl ok.same) (.inl r) hp⟩
  · rename_i d hd
    obtain ⟨l, e, r, n⟩ := ok.slot i _ hd
    exact ⟨.ref l, e, k d _ G H (.refl ok.same) (.inr ⟨l, rfl, r⟩) hp⟩
  · exact hp.elim
/-- a module's constant -/
theorem pu_glob {x : Str} {v : V} {d : D} {u : Value} (hm : X.mg x = some u) (r : RelV v u) (rd : ∀ G, Rep X.K X.mg G v d) (hg : Gl X x := by rfl) (hd : (x == ("__debug__" : Str)) = false := by decide) : PuE X (.Name x pos) (pC d) :=
  pu_of (pe_glob hg hm r hd) rd fun _ _ _ h => h

/-! ### two-place operations -/
abbrev BinP := D → D → (D → Prop) → Prop
/-- f over data is carried by r over values -/
def BinOk (X : Cx) (r : R2) (f : BinP) : Prop := ∀ (G H : Hp) (v w : V) (x y : D) (P : D → Prop) (Q : VK), Same G H → Shal X.K X.mg H G v x → Shal X.K X.mg H G w y → f x y P →
  (∀ d u G' H', Ext G H G' H' → Rep X.K X.mg G' u d → P d → Q u H') → r v w H Q
def pBin (f : BinP) (pa pb : PTE) : PTE := fun env P => pa env fun x => pb env fun y => f x y P
theorem bin_t {ta tb : TE} {r : R2} {f : BinP} (hf : BinOk X r f) {G H : Hp} {env : List C} {σ : L2.St} {P : D → Prop} {Q : VK} (ok : Ok X.K X.mg G H env σ)
    (ha : ∀ (G H : Hp) (env : List C) (σ : L2.St) (P : D → Prop) (Q : VK), Ok X.K X.mg G H env σ → pa env P → (∀ d v G' H', Ext G H G' H' → Shal X.K X.mg H' G' v d → P d → Q v H') → ta σ H Q)
    (hb : ∀ (G H : Hp) (env : List C) (σ : L2.St) (P : D → Prop) (Q : VK), Ok X.K X.mg G H env σ → pb env P → (∀ d v G' H', Ext G H G' H' → Shal X.K X.mg H' G' v d → P d → Q v H') → tb σ H Q)
    (hp : pBin f pa pb env P) (k : ∀ d v G' H', Ext G H G' H' → Rep X.K X.mg G' v d → P d → Q v H') : tOp r ta tb σ H Q := by
  refine ha G H env σ _ _ ok hp fun x v G1 H1 e1 r1 q1 => ?_
  refine hb G1 H1 env σ _ _ (ok.ext e1) q1 fun y w G2 H2 e2 r2 q2 => ?_
  exact hf G2 H2 v w x y P Q e2.s (r1.mono e2.h e2.g) r2 q2 fun d u G3 H3 e3 r3 q3 => k d u G3 H3 ((e1.trans e2).trans e3) r3 q3
theorem pu_bin {op : Operator} {r : R2} {f : BinP} (ho : OpR X (binaryOp op) r) (hf : BinOk X r f) (ha : PuO X a pa) (hb : PuO X b pb) : PuE X (.BinOp a op b pos) (pBin f pa pb) := by
  obtain ⟨ta, a1, a2⟩ := ha.ex
  obtain ⟨tb, b1, b2⟩ := hb.ex
  exact ⟨tOp r ta tb, pe_op ho a1 b1, fun G H env σ P Q ok hp k => bin_t hf ok a2 b2 hp k⟩
theorem pu_cmp {op : CmpOp} {r : R2} {f : BinP} (ho : OpR X (compareOp op) r) (hf : BinOk X r f) (ha : PuO X a pa) (hb : PuO X b pb) (hm : behindInMarks op b = false) : PuE X (.Compare a [op] [b] pos) (pBin f pa pb) := by
  obtain ⟨ta, a1, a2⟩ := ha.ex
  obtain ⟨tb, b1, b2⟩ := hb.ex
  exact ⟨tOp r ta tb, pe_cmpR ho a1 b1 hm, fun G H env σ P Q ok hp k => bin_t hf ok a2 b2 hp k⟩
/-- a value that must be a bool -/
def asB (P : Bool → Prop) : D → Prop := fun d => match d with
  | .bl b => P b
  | _ => False
def pB (p : PTE) : PTT := fun env P => p env (asB P)
theorem asB_rep {G : Hp} {v : V} {d : D} {P : Bool → Prop} (r : Rep X.K X.mg G v d) (h : asB P d) : ∃ b, v = .bl b ∧ P b := by
  unfold asB at h
  split at h
  · cases r; exact ⟨_, rfl, h⟩
  · exact h.elim
theorem put_cmp {op : CmpOp} {r : R2} {f : BinP} (ho : OpR X (compareOp op) r) (hf : BinOk X r f) (ha : PuO X a pa) (hb : PuO X b pb) (hm : behindInMarks op b = false) : PuT X (.Compare a [op] [b] pos) (pB (pBin f pa pb)) := by
  obtain ⟨ta, a1, a2⟩ := ha.ex
  obtain ⟨tb, b1, b2⟩ := hb.ex
  refine ⟨tTest (tOp r ta tb), pt_cmpR ho a1 b1 hm, fun G H env σ P Q ok hp k => bin_t hf ok a2 b2 hp fun d v G' H' x r q => ?_⟩
  obtain ⟨b, e, z⟩ := asB_rep r q
  exact ⟨b, e, k b G' H' x z⟩
/-- an expression whose value is a bool, as a test -/
theorem put_val (h : PuE X e p) (he : ∀ whole, isTrue e X.env whole = (do let v ← whole; standAt e.pos; holding [v] (truthy v)) := by intro _; rfl) : PuT X e (pB p) := by
  obtain ⟨t, h1, h2⟩ := h.ex
  refine ⟨_, pt_val h1 he, fun G H env σ P Q ok hp k => h2 G H env σ _ _ ok hp fun d v G' H' x r q => ?_⟩
  obtain ⟨b, e, z⟩ := asB_rep r q
  exact ⟨b, e, k b G' H' x z⟩

/-! ### and, or, not -/
def pAnd (p q : PTT) : PTT := fun env P => p env fun b => if b = true then q env P else P false
def pOr (p q : PTT) : PTT := fun env P => p env fun b => if b = true then P true else q env P
def pNot (p : PTT) : PTT := fun env P => p env fun b => P (!b)
theorem puw_and1 (h : PuT X a pt) : PuW X (.BoolOp .And [a] pos) pt := by
  obtain ⟨t, h1, h2⟩ := h.ex
  exact ⟨t, pw_and1 h1, h2⟩
theorem puw_or1 (h : PuT X a pt) : PuW X (.BoolOp .Or [a] pos) pt := by
  obtain ⟨t, h1, h2⟩ := h.ex
  exact ⟨t, pw_or1 h1, h2⟩
theorem puw_and {rest : List Expr} (h : PuT X a pt) (g : PuW X (.BoolOp .And (b :: rest) pos) pu) : PuW X (.BoolOp .And (a :: b :: rest) pos) (pAnd pt pu) := by
  obtain ⟨t, h1, h2⟩ := h.ex
  obtain ⟨u, g1, g2⟩ := g.ex
  refine ⟨_, pw_and h1 g1, fun G H env σ P Q ok hp k => h2 G H env σ _ _ ok hp fun c G' H' x q => ?_⟩
  cases c with
  | true => exact g2 G' H' env σ P Q (ok.ext x) q fun b G2 H2 y z => k b G2 H2 (x.trans y) z
  | false => exact k false G' H' x q
theorem puw_or {rest : List Expr} (h : PuT X a pt) (g : PuW X (.BoolOp .Or (b :: rest) pos) pu) : PuW X (.BoolOp .Or (a :: b :: rest) pos) (pOr pt pu) := by
  obtain ⟨t, h1, h2⟩ := h.ex
  obtain ⟨u, g1, g2⟩ := g.ex
  refine ⟨_, pw_or h1 g1, fun G H env σ P Q ok hp k => h2 G H env σ _ _ ok hp fun c G' H' x q => ?_⟩
  cases c with
  | false => exact g2 G' H' env σ P Q (ok.ext x) q fun b G2 H2 y z => k b G2 H2 (x.trans y) z
  | true => exact k true G' H' x q
theorem PuW.t (h : PuW X e pt) : PuT X e pt := by
  obtain ⟨t, h1, h2⟩ := h.ex
  exact ⟨t, h1.pt, h2⟩
theorem put_not (h : PuT X a pt) : PuT X (.UnaryOp .Not a pos) (pNot pt) := by
  obtain ⟨t, h1, h2⟩ := h.ex
  exact ⟨_, pt_not h1, fun G H env σ P Q ok hp k => h2 G H env σ _ _ ok hp fun c G' H' x q => k (!c) G' H' x q⟩
/-- .. as values -/
def pAndV (p q : PTE) : PTE := fun env P => p env (asB fun b => if b = true then q env P else P (.bl false))
def pOrV (p q : PTE) : PTE := fun env P => p env (asB fun b => if b = true then P (.bl true) else q env P)
def pNotV (p : PTE) : PTE := fun env P => p env (asB fun b => P (.bl (!b)))
theorem pu_one {op : BoolOp} (h : PuE X a p) : PuE X (.BoolOp op [a] pos) p := by
  obtain ⟨t, h1, h2⟩ := h.ex
  exact ⟨t, pe_one h1, h2⟩
theorem pu_and {rest : List Expr} (h : PuE X a pa) (g : PuE X (.BoolOp .And (b :: rest) pos) pb) : PuE X (.BoolOp .And (a :: b :: rest) pos) (pAndV pa pb) := by
  obtain ⟨t, h1, h2⟩ := h.ex
  obtain ⟨u, g1, g2⟩ := g.ex
  refine ⟨_, pe_and h1 g1, fun G H env σ P Q ok hp k => h2 G H env σ _ _ ok hp fun d v G' H' x r q => ?_⟩
  obtain ⟨c, e, z⟩ := asB_rep r q
  refine ⟨c, e, ?_⟩
  cases c with
  | true => exact g2 G' H' env σ P Q (ok.ext x) z fun d v G2 H2 y r2 z2 => k d v G2 H2 (x.trans y) r2 z2
  | false => exact k _ _ G' H' x (.bl false) z
theorem pu_or {rest : List Expr} (h : PuE X a pa) (g : PuE X (.BoolOp .Or (b :: rest) pos) pb) : PuE X (.BoolOp .Or (a :: b :: rest) pos) (pOrV pa pb) := by
  obtain ⟨t, h1, h2⟩ := h.ex
  obtain ⟨u, g1, g2⟩ := g.ex
  refine ⟨_, pe_or h1 g1, fun G H env σ P Q ok hp k => h2 G H env σ _ _ ok hp fun d v G' H' x r q => ?_⟩
  obtain ⟨c, e, z⟩ := asB_rep r q
  refine ⟨c, e, ?_⟩
  cases c with
  | false => exact g2 G' H' env σ P Q (ok.ext x) z fun d v G2 H2 y r2 z2 => k d v G2 H2 (x.trans y) r2 z2
  | true => exact k _ _ G' H' x (.bl true) z
theorem pu_not (h : PuE X a pa) : PuE X (.UnaryOp .Not a pos) (pNotV pa) := by
  obtain ⟨t, h1, h2⟩ := h.ex
  refine ⟨_, pe_not h1, fun G H env σ P Q ok hp k => h2 G H env σ _ _ ok hp fun d v G' H' x r q => ?_⟩
  obtain ⟨c, e, z⟩ := asB_rep r q
  exact ⟨c, e, k _ _ G' H' x (.bl _) z⟩
def pIf (p : PTT) (pa pb : PTE) : PTE := fun env P => p env fun b => if b = true then pa env P else pb env P
theorem pu_ifExp {c : Expr} (h : PuT X c pt) (ha : PuE X a pa) (hb : PuE X b pb) : PuE X (.IfExp c a b pos) (pIf pt pa pb) := by
  obtain ⟨t, h1, h2⟩ := h.ex
  obtain ⟨ta, a1, a2⟩ := ha.ex
  obtain ⟨tb, b1, b2⟩ := hb.ex
  refine ⟨_, pe_ifExp h1 a1 b1, fun G H env σ P Q ok hp k => h2 G H env σ _ _ ok hp fun c G' H' x q => ?_⟩
  cases c with
  | true => exact a2 G' H' env σ P Q (ok.ext x) q fun d v G2 H2 y r z => k d v G2 H2 (x.trans y) r z
  | false => exact b2 G' H' env σ P Q (ok.ext x) q fun d v G2 H2 y r z => k d v G2 H2 (x.trans y) r z

/-! ### the operations on data -/
def addP : BinP := fun x y P => match x, y with
  | .int i, .int j => P (.int (i + j))
  | .str i, .str j => i.length + j.length ≤ sizeLine ∧ P (.str (i ++ j))
  | .tup xs, .tup ys => xs ≠ [] ∧ xs.length + ys.length ≤ sizeLine ∧ P (.tup (xs ++ ys))
  | .lst xs, .lst ys => xs.length + ys.length ≤ sizeLine ∧ P (.lst (xs ++ ys))
  | _, _ => False
def rAddAll (K : PySem.W.Frag) : R2 := fun x y H Q => (∃ i j, x = .int i ∧ y = .int j ∧ Q (.int (i + j)) H) ∨ (∃ i j, x = .str i ∧ y = .str j ∧ i.length + j.length ≤ sizeLine ∧ Q (.str (i ++ j)) H) ∨ rCatT K x y H Q ∨ rCat x y H Q
theorem op_addAll : OpR X (binaryOp .Add) (rAddAll X.K) := OpR.or op_add (OpR.or op_add_str (OpR.or op_catT op_cat))
theorem addP_ok : BinOk X (rAddAll X.K) addP := by
  intro G H v w x y P Q s r1 r2 h k
  unfold addP at h
  split at h
  · cases r1.int; cases r2.int
    exact .inl ⟨_, _, rfl, rfl, k _ _ G H (.refl s) (.int _) h⟩
  · cases r1.str; cases r2.str
    exact .inr (.inl ⟨_, _, rfl, rfl, h.1, k _ _ G H (.refl s) (.str _) h.2⟩)
  · rename_i xs ys
    obtain ⟨l, vs, rfl, t1, q1⟩ := r1.tup s
    obtain ⟨m, ws, rfl, t2, q2⟩ := r2.tup s
    refine .inr (.inr (.inl ⟨_, _, vs, ws, rfl, rfl, SqT.of t1, SqT.of t2, fun z => ?_, ?_, fun z => ?_, fun z p hp => ?_⟩))
    · subst z; cases q1; exact h.1 rfl
    · rw [q1.length, q2.length]; exact h.2.1
    · subst z
      cases q2
      have hh := h.2.2
      rw [List.append_nil] at hh
      refine k _ _ G H (.refl s) ?_ hh
      rcases r1 with r1 | ⟨_, _, t⟩
      · exact r1
      · cases t
    · refine k _ _ _ _ (Ext.new s hp) (.tup upd_same ?_) h.2.2
      exact (q1.append q2).mono (Same.upd (s.free hp))
  · rename_i xs ys
    obtain ⟨l, vs, rfl, t1, q1⟩ := r1.lst s
    obtain ⟨m, ws, rfl, t2, q2⟩ := r2.lst s
    refine .inr (.inr (.inr ⟨_, _, vs, ws, rfl, rfl, t1, t2, ?_, fun p hp => ?_⟩))
    · rw [q1.length, q2.length]; exact h.1
    · refine k _ _ _ _ (Ext.new s hp) (.lst upd_same ?_) h.2
      exact (q1.append q2).mono (Same.upd (s.free hp))
  · exact h.elim
theorem pu_add (ha : PuO X a pa) (hb : PuO X b pb) : PuE X (.BinOp a .Add b pos) (pBin addP pa pb) := pu_bin op_addAll addP_ok ha hb

/-- ints in, under C, a value of data out -/
theorem binI {r : R2} {f : BinP} {Cd : Int → Int → Prop} {g : Int → Int → D} {gv : Int → Int → V} (hg : ∀ i j G, Rep X.K X.mg G (gv i j) (g i j)) (hr : r = rI Cd gv)
    (hf : ∀ x y P, f x y P → ∃ i j, x = .int i ∧ y = .int j ∧ Cd i j ∧ P (g i j)) : BinOk X r f := by
  subst hr
  intro G H v w x y P Q s r1 r2 h k
  obtain ⟨i, j, rfl, rfl, c, q⟩ := hf x y P h
  cases r1.int; cases r2.int
  exact ⟨i, j, rfl, rfl, c, k _ _ G H (.refl s) (hg i j G) q⟩
theorem binI0 {r : R2} {f : BinP} {g : Int → Int → D} {gv : Int → Int → V} (hg : ∀ i j G, Rep X.K X.mg G (gv i j) (g i j)) (hr : r = rI0 gv)
    (hf : ∀ x y P, f x y P → ∃ i j, x = .int i ∧ y = .int j ∧ P (g i j)) : BinOk X r f := by
  subst hr
  intro G H v w x y P Q s r1 r2 h k
  obtain ⟨i, j, rfl, rfl, q⟩ := hf x y P h
  cases r1.int; cases r2.int
  exact ⟨i, j, rfl, rfl, k _ _ G H (.refl s) (hg i j G) q⟩
def subP : BinP := fun x y P => match x, y with
  | .int i, .int j => P (.int (i - j))
  | _, _ => False
theorem pu_sub (ha : PuO X a pa) (hb : PuO X b pb) : PuE X (.BinOp a .Sub b pos) (pBin subP pa pb) :=
  pu_bin op_sub (binI0 (g := fun i j => .int (i - j)) (fun _ _ _ => .int _) rfl fun x y P h => by
    unfold subP at h; split at h
    · exact ⟨_, _, rfl, rfl, h⟩
    · exact h.elim) ha hb
/-- a text, so often -/
def repS (x : Str) (n : Nat) : Str := ⟨(List.replicate n x.cps).foldl (· ++ ·) #[]⟩
theorem repS_acc (x : Str) : ∀ (n : Nat) (a : Array Nat), ((List.replicate n x.cps).foldl (· ++ ·) a).toList = a.toList ++ (List.replicate n x.cps.toList).flatten
  | 0, a => by simp
  | n + 1, a => by
    rw [List.replicate_succ, List.foldl_cons, repS_acc x n, List.replicate_succ, List.flatten_cons, Array.toList_append, List.append_assoc]
theorem repS_tl (x : Str) (n : Nat) : (repS x n).cps.toList = (List.replicate n x.cps.toList).flatten := by
  show ((List.replicate n x.cps).foldl (· ++ ·) #[]).toList = _
  rw [repS_acc]; rfl
theorem repS_len (x : Str) (n : Nat) : (repS x n).length = x.length * n := by
  show (repS x n).cps.size = x.cps.size * n
  rw [← Array.length_toList, repS_tl]
  induction n with
  | zero => rfl
  | succ n ih => rw [List.replicate_succ, List.flatten_cons, List.length_append, ih, Nat.mul_succ, Array.length_toList]; omega
theorem repS_1 (x : Str) : repS x 1 = x := TL.ext_tl (by show (repS x 1).cps.toList = x.cps.toList; rw [repS_tl]; simp)
theorem repS_nil (x : Str) (n : Nat) (h : x.length = 0) : repS x n = x := by
  refine TL.ext_tl ?_
  have h1 : (repS x n).cps.toList.length = 0 := by
    have := repS_len x n
    rw [h, Nat.zero_mul] at this
    rw [Array.length_toList]; exact this
  have h2 : x.cps.toList.length = 0 := by rw [Array.length_toList]; exact h
  show (repS x n).cps.toList = x.cps.toList
  rw [List.length_eq_zero_iff.mp h1, List.length_eq_zero_iff.mp h2]
def rMulS : R2 := fun x y H Q => ∃ z k, x = .str z ∧ y = .int k ∧ -(2 ^ 63) ≤ k ∧ k < 2 ^ 63 ∧ z.length * k.toNat ≤ sizeLine ∧ Q (.str (repS z k.toNat)) H
theorem op_mulS : OpR X (binaryOp .Mult) rMulS := by
  intro pins s σ H x y v u Q I rx ry h
  obtain ⟨z, k, rfl, rfl, h1, h2, hz, q⟩ := h
  obtain ⟨t, rfl⟩ := rx
  obtain ⟨t', rfl⟩ := ry
  have hs : sizeLine = 16777216 := PySem.sizeLine_eq
  refine PySem.P.mul_str (by rw [decide_eq_false (by omega), decide_eq_false (by omega)]; rfl) (fun a b c => ?_) (fun a b => ?_) ?_
  · have hk : 0 < k := by omega
    have e : ((z.length * k.toNat : Nat) : Int) = z.length * k := by rw [Int.natCast_mul, Int.toNat_of_nonneg (by omega)]
    have d := Int.mul_ediv_add_emod (2 ^ 63 - 1) k
    have m := Int.emod_lt_of_pos (2 ^ 63 - 1) hk
    have f : ((2 ^ 63 - 1) / k + 1) * k ≤ z.length * k := Int.mul_le_mul_of_nonneg_right (by omega) (by omega)
    rw [Int.add_mul, Int.mul_comm ((2 ^ 63 - 1) / k) k] at f
    omega
  · exact decide_eq_false (by omega)
  · by_cases a : k < 1
    · rw [if_pos a]
      have e : k.toNat = 0 := by omega
      rw [e] at q
      exact ⟨by decide, .str _, H, I.tok _, ⟨_, rfl⟩, q⟩
    · rw [if_neg a]
      by_cases b : (k == 1 || z.length == 0) = true
      · rw [if_pos b]
        have e : repS z k.toNat = z := by
          rw [Bool.or_eq_true] at b
          rcases b with b | b
          · rw [show k = 1 by simpa using b]; exact repS_1 z
          · exact repS_nil z _ (by simpa using b)
        rw [e] at q
        exact ⟨.str _, H, I, ⟨_, rfl⟩, q⟩
      · rw [if_neg b]
        refine ⟨?_, .str _, H, I.tok _, ⟨_, rfl⟩, q⟩
        show (repS z k.toNat).length ≤ _
        rw [repS_len]
        exact hz
def mulP : BinP := fun x y P => match x, y with
  | .int i, .int j => CMulX i j ∧ P (.int (i * j))
  | .lst xs, .int k => -(2 ^ 63) ≤ k ∧ k < 2 ^ 63 ∧ xs.length * k.toNat ≤ sizeLine ∧ P (.lst (List.replicate k.toNat xs).flatten)
  | .str z, .int k => -(2 ^ 63) ≤ k ∧ k < 2 ^ 63 ∧ z.length * k.toNat ≤ sizeLine ∧ P (.str (repS z k.toNat))
  | _, _ => False
theorem Reps.rep {K : PySem.W.Frag} {mg : MG} {G : Hp} {vs : List V} {ds : List D} (h : Reps K mg G vs ds) : ∀ k : Nat, Reps K mg G (List.replicate k vs).flatten (List.replicate k ds).flatten
  | 0 => .nil
  | k + 1 => by
    simp only [List.replicate_succ, List.flatten_cons]
    exact h.append (Reps.rep h k)
def rMulAll : R2 := fun x y H Q => rI CMulX (fun i j => .int (i * j)) x y H Q ∨ rRep x y H Q ∨ rMulS x y H Q
theorem op_mulAll : OpR X (binaryOp .Mult) rMulAll := OpR.or op_mulX (OpR.or op_rep op_mulS)
theorem mulP_ok : BinOk X rMulAll mulP := by
  intro G H v w x y P Q s r1 r2 h k
  unfold mulP at h
  split at h
  · cases r1.int; cases r2.int
    exact .inl ⟨_, _, rfl, rfl, h.1, k _ _ G H (.refl s) (.int _) h.2⟩
  · cases r2.int
    obtain ⟨l, vs, rfl, t1, q1⟩ := r1.lst s
    refine .inr (.inl ⟨_, _, vs, rfl, rfl, t1, h.1, h.2.1, by rw [q1.length]; exact h.2.2.1, fun p hp => ?_⟩)
    exact k _ _ _ _ (Ext.new s hp) (.lst upd_same ((q1.rep _).mono (Same.upd (s.free hp)))) h.2.2.2
  · cases r1.str; cases r2.int
    exact .inr (.inr ⟨_, _, rfl, rfl, h.1, h.2.1, h.2.2.1, k _ _ G H (.refl s) (.str _) h.2.2.2⟩)
  · exact h.elim
theorem pu_mul (ha : PuO X a pa) (hb : PuO X b pb) : PuE X (.BinOp a .Mult b pos) (pBin mulP pa pb) := pu_bin op_mulAll mulP_ok ha hb
def fdivP : BinP := fun x y P => match x, y with
  | .int i, .int j => CDivW i j ∧ P (.int (i / j))
  | _, _ => False
theorem pu_fdiv (ha : PuO X a pa) (hb : PuO X b pb) : PuE X (.BinOp a .FloorDiv b pos) (pBin fdivP pa pb) :=
  pu_bin op_fdivW (binI (g := fun i j => .int (i / j)) (fun _ _ _ => .int _) rfl fun x y P h => by
    unfold fdivP at h; split at h
    · exact ⟨_, _, rfl, rfl, h.1, h.2⟩
    · exact h.elim) ha hb
def modP : BinP := fun x y P => match x, y with
  | .int i, .int j => 0 < j ∧ P (.int (i % j))
  | _, _ => False
theorem pu_mod (ha : PuO X a pa) (hb : PuO X b pb) : PuE X (.BinOp a .Mod b pos) (pBin modP pa pb) :=
  pu_bin op_mod (binI (g := fun i j => .int (i % j)) (fun _ _ _ => .int _) rfl fun x y P h => by
    unfold modP at h; split at h
    · exact ⟨_, _, rfl, rfl, h.1, h.2⟩
    · exact h.elim) ha hb
def powP : BinP := fun x y P => match x, y with
  | .int i, .int j => CPow i j ∧ P (.int (i ^ j.toNat))
  | _, _ => False
theorem pu_pow (ha : PuO X a pa) (hb : PuO X b pb) : PuE X (.BinOp a .Pow b pos) (pBin powP pa pb) :=
  pu_bin op_pow (binI (g := fun i j => .int (i ^ j.toNat)) (fun _ _ _ => .int _) rfl fun x y P h => by
    unfold powP at h; split at h
    · exact ⟨_, _, rfl, rfl, h.1, h.2⟩
    · exact h.elim) ha hb
def negP (p : PTE) : PTE := fun env P => p env fun x => match x with
  | .int i => P (.int (-i))
  | _ => False
theorem pu_neg (ha : PuO X a pa) : PuE X (.UnaryOp .USub a pos) (negP pa) := by
  obtain ⟨t, h1, h2⟩ := ha.ex
  refine ⟨_, pe_un un_neg h1, fun G H env σ P Q ok hp k => h2 G H env σ _ _ ok hp fun d v G' H' x r q => ?_⟩
  split at q
  · cases r.int
    exact ⟨_, rfl, k _ _ G' H' x (.int _) q⟩
  · exact q.elim

/-! ### comparisons -/
def ltP : BinP := fun x y P => match x, y with
  | .int i, .int j => P (.bl (decide (i < j)))
  | .str i, .str j => P (.bl (decide (i.cps.toList < j.cps.toList)))
  | _, _ => False
def leP : BinP := fun x y P => match x, y with
  | .int i, .int j => P (.bl (decide (i ≤ j)))
  | .str i, .str j => P (.bl (!decide (j.cps.toList < i.cps.toList)))
  | _, _ => False
def gtP : BinP := fun x y P => match x, y with
  | .int i, .int j => P (.bl (decide (j < i)))
  | .str i, .str j => P (.bl (decide (j.cps.toList < i.cps.toList)))
  | _, _ => False
def geP : BinP := fun x y P => match x, y with
  | .int i, .int j => P (.bl (decide (j ≤ i)))
  | .str i, .str j => P (.bl (!decide (i.cps.toList < j.cps.toList)))
  | _, _ => False
def rCmp2 (f : Int → Int → Bool) (g : Str → Str → Bool) : R2 := fun x y H Q => rI0 (fun i j => .bl (f i j)) x y H Q ∨ ∃ i j, x = .str i ∧ y = .str j ∧ Q (.bl (g i j)) H
theorem cmp2_ok {f : Int → Int → Bool} {g : Str → Str → Bool} {h : BinP} (hh : ∀ x y P, h x y P → (∃ i j, x = .int i ∧ y = .int j ∧ P (.bl (f i j))) ∨ ∃ i j, x = .str i ∧ y = .str j ∧ P (.bl (g i j))) : BinOk X (rCmp2 f g) h := by
  intro G H v w x y P Q s r1 r2 z k
  rcases hh x y P z with ⟨i, j, rfl, rfl, q⟩ | ⟨i, j, rfl, rfl, q⟩
  · cases r1.int; cases r2.int
    exact .inl ⟨_, _, rfl, rfl, k _ _ G H (.refl s) (.bl _) q⟩
  · cases r1.str; cases r2.str
    exact .inr ⟨_, _, rfl, rfl, k _ _ G H (.refl s) (.bl _) q⟩
theorem op_ltAll : OpR X (compareOp .Lt) (rCmp2 (fun i j => decide (i < j)) fun i j => decide (i.cps.toList < j.cps.toList)) := OpR.or op_lt op_lt_str
theorem op_leAll : OpR X (compareOp .LtE) (rCmp2 (fun i j => decide (i ≤ j)) fun i j => !decide (j.cps.toList < i.cps.toList)) := OpR.or op_le op_le_str
theorem op_gtAll : OpR X (compareOp .Gt) (rCmp2 (fun i j => decide (j < i)) fun i j => decide (j.cps.toList < i.cps.toList)) := OpR.or op_gt op_gt_str
theorem op_geAll : OpR X (compareOp .GtE) (rCmp2 (fun i j => decide (j ≤ i)) fun i j => !decide (i.cps.toList < j.cps.toList)) := OpR.or op_ge op_ge_str
theorem ltP_ok : BinOk X (rCmp2 (fun i j => decide (i < j)) fun i j => decide (i.cps.toList < j.cps.toList)) ltP := cmp2_ok fun x y P h => by
  unfold ltP at h; split at h
  · exact .inl ⟨_, _, rfl, rfl, h⟩
  · exact .inr ⟨_, _, rfl, rfl, h⟩
  · exact h.elim
theorem leP_ok : BinOk X (rCmp2 (fun i j => decide (i ≤ j)) fun i j => !decide (j.cps.toList < i.cps.toList)) leP := cmp2_ok fun x y P h => by
  unfold leP at h; split at h
  · exact .inl ⟨_, _, rfl, rfl, h⟩
  · exact .inr ⟨_, _, rfl, rfl, h⟩
  · exact h.elim
theorem gtP_ok : BinOk X (rCmp2 (fun i j => decide (j < i)) fun i j => decide (j.cps.toList < i.cps.toList)) gtP := cmp2_ok fun x y P h => by
  unfold gtP at h; split at h
  · exact .inl ⟨_, _, rfl, rfl, h⟩
  · exact .inr ⟨_, _, rfl, rfl, h⟩
  · exact h.elim
theorem geP_ok : BinOk X (rCmp2 (fun i j => decide (j ≤ i)) fun i j => !decide (i.cps.toList < j.cps.toList)) geP := cmp2_ok fun x y P h => by
  unfold geP at h; split at h
  · exact .inl ⟨_, _, rfl, rfl, h⟩
  · exact .inr ⟨_, _, rfl, rfl, h⟩
  · exact h.elim

/-! ### == of data -/
mutual
def toPy : D → PyData
  | .non => .none
  | .bl b => .bool b
  | .int i => .int i
  | .str x => .str x
  | .tup ds => .tuple (toPys ds)
  | .lst ds => .list (toPys ds)
  | .scr ds => .list (toPys ds)
  | .dk _ => .none
  | .dt _ => .none
  | .obj _ _ => .none
  | .err _ _ => .none
def toPys : List D → List PyData
  | [] => []
  | d :: ds => toPy d :: toPys ds
end
mutual
/-- no dict, no object within -/
def flat : D → Bool
  | .non => true
  | .bl _ => true
  | .int _ => true
  | .str _ => true
  | .tup ds => flats ds
  | .lst ds => flats ds
  | .scr ds => flats ds
  | .dk _ => false
  | .dt _ => false
  | .obj _ _ => false
  | .err _ _ => false
def flats : List D → Bool
  | [] => true
  | d :: ds => flat d && flats ds
end
end
section
variable {K : PySem.W.Frag} {mg : MG} {G H : Hp}
mutual
theorem Rep.dp (s : Same G H) : ∀ {v : V} {d : D}, Rep K mg G v d → flat d = true → Dp K H v (toPy d)
  | _, _, .non, _ => .non
  | _, _, .bl b, _ => .bl b
  | _, _, .int i, _ => .int i
  | _, _, .str x, _ => .str x
  | _, _, .tup h r, f => .tup (SqT.of (s _ _ h)) (Reps.dp s r f)
  | _, _, .lst h r, f => .lst (SqL.of (s _ _ h)) (Reps.dp s r f)
  | _, _, .scr h r, f => .lst (s.seq h) (Reps.dp s r f)
  | _, _, .dk h r, f => nomatch (show false = true from f)
  | _, _, .dt h r, f => nomatch (show false = true from f)
  | _, _, .obj h m r, f => nomatch (show false = true from f)
  | _, _, .err h _ m r, f => nomatch (show false = true from f)
theorem Reps.dp (s : Same G H) : ∀ {v : List V} {d : List D}, Reps K mg G v d → flats d = true → DpAll K H v (toPys d)
  | _, _, .nil, _ => .nil
  | _, _, .cons h t, f =>
    have f' := Bool.and_eq_true_iff.mp (show (flat _ && flats _) = true from f)
    .cons (Rep.dp s h f'.1) (Reps.dp s t f'.2)
end
theorem Shal.dp {v : V} {d : D} (h : Shal K mg H G v d) (s : Same G H) (f : flat d = true) : Dp K H v (toPy d) := by
  rcases h with h | ⟨l, rfl, t⟩
  · exact h.dp s f
  · cases t with
    | lst e r => exact .lst (SqL.of e) (r.dp s f)
    | dk e r => exact nomatch (show false = true from f)
    | dt e r => exact nomatch (show false = true from f)
end
section
variable {X : Cx} {e a b : Expr} {pa pb : PTE} {pos : Pos}
def cmpOk (d : D) : Bool := flat d && SeqAt.shaped (toPy d)
def rEqAll (K : PySem.W.Frag) : R2 := fun x y H Q => rEq x y H Q ∨ rEqD K x y H Q
def rNeAll (K : PySem.W.Frag) : R2 := fun x y H Q => rNe x y H Q ∨ rNeD K x y H Q
theorem op_eqAll (hu : X.A.units + 64 < cLine) : OpR X (compareOp .Eq) (rEqAll X.K) := OpR.or op_eq (op_eqD hu)
theorem op_neAll (hu : X.A.units + 64 < cLine) : OpR X (compareOp .NotEq) (rNeAll X.K) := OpR.or op_ne (op_neD hu)
def eqP : BinP := fun x y P => match x, y with
  | .int i, .int j => P (.bl (decide (i = j)))
  | .str i, .str j => P (.bl (decide (i = j)))
  | .bl i, .bl j => P (.bl (decide (i = j)))
  | x, y => cmpOk x = true ∧ cmpOk y = true ∧ P (.bl (PyData.eqv (toPy x) (toPy y)))
def neP : BinP := fun x y P => match x, y with
  | .int i, .int j => P (.bl (!decide (i = j)))
  | .str i, .str j => P (.bl (!decide (i = j)))
  | .bl i, .bl j => P (.bl (!decide (i = j)))
  | x, y => cmpOk x = true ∧ cmpOk y = true ∧ P (.bl (!PyData.eqv (toPy x) (toPy y)))
theorem cmpOk_iff {d : D} (h : cmpOk d = true) : flat d = true ∧ SeqAt.shaped (toPy d) = true := Bool.and_eq_true_iff.mp h
theorem vint_dec (i j : Int) : decide (V.int i = V.int j) = decide (i = j) := by
  by_cases h : i = j
  · subst h; simp
  · rw [decide_eq_false h, decide_eq_false fun e => h (V.int.inj e)]
theorem vstr_dec (i j : Str) : decide (V.str i = V.str j) = decide (i = j) := by
  by_cases h : i = j
  · subst h; simp
  · rw [decide_eq_false h, decide_eq_false fun e => h (V.str.inj e)]
theorem vbl_dec (i j : Bool) : decide (V.bl i = V.bl j) = decide (i = j) := by
  by_cases h : i = j
  · subst h; simp
  · rw [decide_eq_false h, decide_eq_false fun e => h (V.bl.inj e)]
theorem eqP_ok : BinOk X (rEqAll X.K) eqP := by
  intro G H v w x y P Q s r1 r2 h k
  unfold eqP at h
  split at h
  · cases r1.int; cases r2.int
    exact .inl ⟨rfl, by rw [vint_dec]; exact k _ _ G H (.refl s) (.bl _) h⟩
  · cases r1.str; cases r2.str
    exact .inl ⟨rfl, by rw [vstr_dec]; exact k _ _ G H (.refl s) (.bl _) h⟩
  · cases r1.bl; cases r2.bl
    exact .inl ⟨rfl, by rw [vbl_dec]; exact k _ _ G H (.refl s) (.bl _) h⟩
  · obtain ⟨h1, h2, h⟩ := h
    obtain ⟨f1, s1⟩ := cmpOk_iff h1
    obtain ⟨f2, s2⟩ := cmpOk_iff h2
    exact .inr ⟨_, _, r1.dp s f1, r2.dp s f2, s1, s2, k _ _ G H (.refl s) (.bl _) h⟩
theorem neP_ok : BinOk X (rNeAll X.K) neP := by
  intro G H v w x y P Q s r1 r2 h k
  unfold neP at h
  split at h
  · cases r1.int; cases r2.int
    exact .inl ⟨rfl, by rw [vint_dec]; exact k _ _ G H (.refl s) (.bl _) h⟩
  · cases r1.str; cases r2.str
    exact .inl ⟨rfl, by rw [vstr_dec]; exact k _ _ G H (.refl s) (.bl _) h⟩
  · cases r1.bl; cases r2.bl
    exact .inl ⟨rfl, by rw [vbl_dec]; exact k _ _ G H (.refl s) (.bl _) h⟩
  · obtain ⟨h1, h2, h⟩ := h
    obtain ⟨f1, s1⟩ := cmpOk_iff h1
    obtain ⟨f2, s2⟩ := cmpOk_iff h2
    exact .inr ⟨_, _, r1.dp s f1, r2.dp s f2, s1, s2, k _ _ G H (.refl s) (.bl _) h⟩
end
end PL
end

section
set_option linter.all false
set_option maxRecDepth 100000
set_option maxHeartbeats 4000000
set_option autoImplicit false
/-! PL3: statements, loops, comprehensions, calls, a def's promise. -/
namespace PL
open PySem PySem.Spec PyProof.Rows L2

structure PEnds where
  nx : List C → Prop
  rt : D → Prop
  bk : List C → Prop := fun _ => False
  ct : List C → Prop := fun _ => False
  ro : D → Prop := fun _ => False
abbrev PTS := PEnds → List C → Prop

structure EndsOk (K : PySem.W.Frag) (mg : MG) (G0 H0 : Hp) (PD : PEnds) (E : Ends) : Prop where
  nx : ∀ G H env σ, Rel K mg G0 H0 G H env σ → PD.nx env → E.nx σ H
  bk : ∀ G H env σ, Rel K mg G0 H0 G H env σ → PD.bk env → E.bk σ H
  ct : ∀ G H env σ, Rel K mg G0 H0 G H env σ → PD.ct env → E.ct σ H
  rt : ∀ G H d v, Ext G0 H0 G H → Rep K mg G v d → PD.rt d → E.rt v H
  ro : ∀ G H d l, Ext G0 H0 G H → Top K mg H G l d → G l = none → H0 l = none → PD.ro d → E.rt (.ref l) H

structure PuS (X : Cx) (st : Stmt) (p : PTS) : Prop where
  ex : ∃ t : TS, PS X st t ∧ ∀ (G0 H0 G H : Hp) (env : List C) (σ : L2.St) (PD : PEnds) (E : Ends), Rel X.K X.mg G0 H0 G H env σ → EndsOk X.K X.mg G0 H0 PD E → p PD env → t E σ H
structure PuSs (X : Cx) (st : List Stmt) (p : PTS) : Prop where
  ex : ∃ t : TS, PSs X st t ∧ ∀ (G0 H0 G H : Hp) (env : List C) (σ : L2.St) (PD : PEnds) (E : Ends), Rel X.K X.mg G0 H0 G H env σ → EndsOk X.K X.mg G0 H0 PD E → p PD env → t E σ H

section
variable {X : Cx} {st : Stmt} {rest : List Stmt} {e a b : Expr} {p q : PTS} {pe pa pb : PTE} {pt : PTT} {pos : Pos}
def pNext : PTS := fun PD env => PD.nx env
def pSeq (p q : PTS) : PTS := fun PD env => p { PD with nx := q PD } env
theorem puss_nil : PuSs X [] pNext := ⟨_, pss_nil, fun _ _ _ _ _ _ _ _ r e h => e.nx _ _ _ _ r h⟩
theorem puss_cons (h : PuS X st p) (g : PuSs X rest q) : PuSs X (st :: rest) (pSeq p q) := by
  obtain ⟨t, h1, h2⟩ := h.ex
  obtain ⟨u, g1, g2⟩ := g.ex
  refine ⟨_, pss_cons h1 g1, fun G0 H0 G H env σ PD E r ok hp => ?_⟩
  exact h2 G0 H0 G H env σ { PD with nx := q PD } { E with nx := u E } r ⟨fun G1 H1 env1 σ1 r1 z => g2 G0 H0 G1 H1 env1 σ1 PD E r1 ok z, ok.bk, ok.ct, ok.rt, ok.ro⟩ hp
theorem puss_one (h : PuS X st p) : PuSs X [st] p := by
  obtain ⟨t, h1, h2⟩ := h.ex
  exact ⟨_, pss_one h1, h2⟩
/-- ahead of a statement a cell is frozen, a slot is forgotten -/
def pFrz (i : Nat) (p : PTS) : PTS := fun PD env => p PD (frz i env)
def pUn (i : Nat) (p : PTS) : PTS := fun PD env => p PD (env.set i .un)
theorem pus_frz (i : Nat) (h : PuS X st p) : PuS X st (pFrz i p) := by
  obtain ⟨t, h1, h2⟩ := h.ex
  refine ⟨t, h1, fun G0 H0 G H env σ PD E r ok hp => ?_⟩
  obtain ⟨G', r', _⟩ := r.freeze i
  exact h2 G0 H0 G' H _ σ PD E r' ok hp
theorem puss_frz (i : Nat) (h : PuSs X rest p) : PuSs X rest (pFrz i p) := by
  obtain ⟨t, h1, h2⟩ := h.ex
  refine ⟨t, h1, fun G0 H0 G H env σ PD E r ok hp => ?_⟩
  obtain ⟨G', r', _⟩ := r.freeze i
  exact h2 G0 H0 G' H _ σ PD E r' ok hp
theorem pus_un (i : Nat) (h : PuS X st p) : PuS X st (pUn i p) := by
  obtain ⟨t, h1, h2⟩ := h.ex
  exact ⟨t, h1, fun G0 H0 G H env σ PD E r ok hp => h2 G0 H0 G H _ σ PD E (r.forget i) ok hp⟩
theorem puss_un (i : Nat) (h : PuSs X rest p) : PuSs X rest (pUn i p) := by
  obtain ⟨t, h1, h2⟩ := h.ex
  exact ⟨t, h1, fun G0 H0 G H env σ PD E r ok hp => h2 G0 H0 G H _ σ PD E (r.forget i) ok hp⟩

theorem pus_pass : PuS X (.Pass pos) pNext := ⟨_, ps_pass, fun _ _ _ _ _ _ _ _ r e h => e.nx _ _ _ _ r h⟩
theorem pus_doc {x : Str} {j : Nat} {pos' : Pos} : PuS X (.Expr (.Constant (.str x) j pos) pos') pNext := ⟨_, ps_doc, fun _ _ _ _ _ _ _ _ r e h => e.nx _ _ _ _ r h⟩
def pBrk : PTS := fun PD env => PD.bk env
def pCnt : PTS := fun PD env => PD.ct env
theorem pus_break : PuS X (.Break pos) pBrk := ⟨_, ps_break, fun _ _ _ _ _ _ _ _ r e h => e.bk _ _ _ _ r h⟩
theorem pus_continue : PuS X (.Continue pos) pCnt := ⟨_, ps_continue, fun _ _ _ _ _ _ _ _ r e h => e.ct _ _ _ _ r h⟩
def pRet (pe : PTE) : PTS := fun PD env => pe env PD.rt
theorem pus_ret (h : PuE X e pe) : PuS X (.Return (some e) pos) (pRet pe) := by
  obtain ⟨t, h1, h2⟩ := h.ex
  exact ⟨_, ps_ret h1, fun G0 H0 G H env σ PD E r ok hp => h2 G H env σ _ _ r.ok hp fun d v G' H' x rp z => ok.rt G' H' d v (r.ext.trans x) rp z⟩
def pRetN : PTS := fun PD env => PD.rt .non
theorem pus_retN : PuS X (.Return none pos) pRetN := ⟨_, ps_retN, fun _ _ _ _ _ _ _ _ r e h => e.rt _ _ _ _ r.ext .non h⟩
def pDrop (pe : PTE) : PTS := fun PD env => pe env fun _ => PD.nx env
theorem pus_expr (h : PuE X e pe) (hs : swapsWith e none pos.line X.env = pure false := by rfl) : PuS X (.Expr e pos) (pDrop pe) := by
  obtain ⟨t, h1, h2⟩ := h.ex
  exact ⟨_, ps_expr h1 hs, fun G0 H0 G H env σ PD E r ok hp => h2 G H env σ _ _ r.ok hp fun d v G' H' x rp z => ok.nx G' H' env σ (r.step x) z⟩
def pIfS (pt : PTT) (p q : PTS) : PTS := fun PD env => pt env fun b => if b = true then p PD env else q PD env
theorem pus_if {c : Expr} {sa sb : List Stmt} (hc : PuT X c pt) (ha : PuSs X sa p) (hb : PuSs X sb q) : PuS X (.If c sa sb pos) (pIfS pt p q) := by
  obtain ⟨t, h1, h2⟩ := hc.ex
  obtain ⟨ta, a1, a2⟩ := ha.ex
  obtain ⟨tb, b1, b2⟩ := hb.ex
  refine ⟨_, ps_if h1 a1 b1, fun G0 H0 G H env σ PD E r ok hp => h2 G H env σ _ _ r.ok hp fun c G' H' x z => ?_⟩
  cases c with
  | true => exact a2 G0 H0 G' H' env σ PD E (r.step x) ok z
  | false => exact b2 G0 H0 G' H' env σ PD E (r.step x) ok z
/-- code that is not reached -/
def pNever : PTS := fun _ _ => False
theorem pus_never : PuS X st pNever := ⟨_, ps_never, fun _ _ _ _ _ _ _ _ _ _ h => h.elim⟩

/-! ### stores -/
def pSet (i : Nat) (pe : PTE) : PTS := fun PD env => pe env fun d => PD.nx (env.set i (.fz d))
def pSetO (i : Nat) (pe : PTE) : PTS := fun PD env => pe env fun d => PD.nx (env.set i (.ow d))
theorem pus_set (i : Nat) {x : Str} {pos' : Pos} (hN : X.N.Nodup) (he : PuE X e pe) (hi : X.N[i]? = some x := by rfl) (hx : Loc X.env.scope x := by first | exact Or.inl rfl | exact Or.inr rfl)
    (hs : swapsWith e (some (.Name x pos')) pos.line X.env = pure false := by rfl) (hf : X.fn x = true ∨ X.env.scope.names.lookup x = some .local := by first | exact .inl rfl | exact .inr rfl) :
    PuS X (.Assign [.Name x pos'] e pos) (pSet i pe) := by
  obtain ⟨t, h1, h2⟩ := he.ex
  refine ⟨_, ps_set hN hi hx h1 hs hf, fun G0 H0 G H env σ PD E r ok hp => h2 G H env σ _ _ r.ok hp fun d v G' H' x rp z => ?_⟩
  exact ok.nx G' H' _ _ ((r.step x).setFz rp) z
theorem setOw_of {K : PySem.W.Frag} {mg : MG} {G0 H0 G H G' H' : Hp} {env : List C} {σ : L2.St} (i : Nat) {l : Addr} {d : D} (r : Rel K mg G0 H0 G H env σ) (x : Ext G H G' H') (t : Top K mg H' G' l d) (n : G' l = none) (nH : H l = none) :
    Rel K mg G0 H0 G' H' (env.set i (.ow d)) (σ.set i (some (.ref l))) := by
  refine (r.step x).setOw t n (r.ext.h.free nH) fun j e q s => ?_
  obtain ⟨m, e1, t1, n1⟩ := r.ok.slot j _ q
  rw [e1] at s
  cases s
  obtain ⟨o, ho⟩ := t1.some
  rw [nH] at ho; cases ho
theorem pus_setO (i : Nat) {x : Str} {pos' : Pos} (hN : X.N.Nodup) (he : PuF X e pe) (hi : X.N[i]? = some x := by rfl) (hx : Loc X.env.scope x := by first | exact Or.inl rfl | exact Or.inr rfl)
    (hs : swapsWith e (some (.Name x pos')) pos.line X.env = pure false := by rfl) (hf : X.fn x = true ∨ X.env.scope.names.lookup x = some .local := by first | exact .inl rfl | exact .inr rfl) :
    PuS X (.Assign [.Name x pos'] e pos) (pSetO i pe) := by
  obtain ⟨t, h1, h2⟩ := he.ex
  refine ⟨_, ps_set hN hi hx h1 hs hf, fun G0 H0 G H env σ PD E r ok hp => h2 G H env σ _ _ r.ok hp fun d l G' H' x rp n nH z => ?_⟩
  exact ok.nx G' H' _ _ (setOw_of i r x rp n nH) z

/-! ### targets -/
abbrev PTG := D → List C → (List C → Prop) → Prop
def Off (is : List Nat) (σ σ' : L2.St) : Prop := σ'.length = σ.length ∧ ∀ j : Nat, j ∉ is → (σ'[j]? : Option (Option V)) = σ[j]?
theorem Off.refl (is : List Nat) (σ : L2.St) : Off is σ σ := ⟨rfl, fun _ _ => rfl⟩
theorem Off.trans {is js : List Nat} {σ σ1 σ2 : L2.St} (a : Off is σ σ1) (b : Off js σ1 σ2) : Off (is ++ js) σ σ2 :=
  ⟨b.1.trans a.1, fun j h => by rw [List.mem_append, not_or] at h; exact (b.2 j h.2).trans (a.2 j h.1)⟩
theorem Off.set (i : Nat) (σ : L2.St) (v : Option V) : Off [i] σ (σ.set i v) := ⟨by simp, fun j h => by
  have : i ≠ j := fun e => h (by simp [e])
  rw [List.getElem?_set_ne this]⟩
structure PuG (X : Cx) (tg : Expr) (g : PTG) (is : List Nat) : Prop where
  ex : ∃ t : TG, PG X tg t ∧ ∀ (G0 H0 G H : Hp) (env : List C) (σ : L2.St) (d : D) (v : V) (P : List C → Prop) (Q : L2.St → Hp → Prop), Rel X.K X.mg G0 H0 G H env σ → Rep X.K X.mg G v d → g d env P →
    (∀ env' σ', Rel X.K X.mg G0 H0 G H env' σ' → Off is σ σ' → P env' → Q σ' H) → t v σ H Q
def pgN (i : Nat) : PTG := fun d env P => P (env.set i (.fz d))
theorem pug_name (i : Nat) {x : Str} (hN : X.N.Nodup) (hi : X.N[i]? = some x := by rfl) (hx : Loc X.env.scope x := by first | exact Or.inl rfl | exact Or.inr rfl)
    (hf : X.fn x = true ∨ X.env.scope.names.lookup x = some .local := by first | exact .inl rfl | exact .inr rfl) : PuG X (.Name x pos) (pgN i) [i] :=
  ⟨_, pg_name hN hi hx hf, fun G0 H0 G H env σ d v P Q r rp hp k => k _ _ (r.setFz rp) (Off.set i σ _) hp⟩
/-- targets in a row -/
abbrev PTGs := List D → List C → (List C → Prop) → Prop
structure PuGs (X : Cx) (ts : List Expr) (g : PTGs) (is : List Nat) : Prop where
  ex : ∃ t : TGs, PGs X ts t ∧ ∀ (G0 H0 G H : Hp) (env : List C) (σ : L2.St) (ds : List D) (vs : List V) (P : List C → Prop) (Q : L2.St → Hp → Prop), Rel X.K X.mg G0 H0 G H env σ → Reps X.K X.mg G vs ds → g ds env P →
    (∀ env' σ', Rel X.K X.mg G0 H0 G H env' σ' → Off is σ σ' → P env' → Q σ' H) → t vs σ H Q
def pgsNil : PTGs := fun ds env P => match ds with
  | [] => P env
  | _ => False
def pgsCons (g : PTG) (h : PTGs) : PTGs := fun ds env P => match ds with
  | d :: r => g d env fun env' => h r env' P
  | [] => False
theorem pugs_nil : PuGs X [] pgsNil [] := by
  refine ⟨_, pgs_nil, fun G0 H0 G H env σ ds vs P Q r rp hp k => ?_⟩
  unfold pgsNil at hp
  split at hp
  · cases rp; exact ⟨rfl, k _ _ r (Off.refl _ _) hp⟩
  · exact hp.elim
theorem pugs_cons {ts : List Expr} {g : PTG} {h : PTGs} {is js : List Nat} (h1 : PuG X e g is) (h2 : PuGs X ts h js) (hs : (assignEach (e :: ts) X.env).map (·.2) = assign e X.env :: (assignEach ts X.env).map (·.2) := by rfl) : PuGs X (e :: ts) (pgsCons g h) (is ++ js) := by
  obtain ⟨t, a1, a2⟩ := h1.ex
  obtain ⟨u, b1, b2⟩ := h2.ex
  refine ⟨_, pgs_cons a1 b1 hs, fun G0 H0 G H env σ ds vs P Q r rp hp k => ?_⟩
  unfold pgsCons at hp
  split at hp
  · cases rp with
    | cons r1 r2 => exact ⟨_, _, rfl, a2 G0 H0 G H env σ _ _ _ _ r r1 hp fun env' σ' r' o' q => b2 G0 H0 G H env' σ' _ _ P Q r' r2 q fun env2 σ2 r3 o3 q3 => k env2 σ2 r3 (o'.trans o3) q3⟩
  · exact hp.elim
theorem PG.or {tg : Expr} {g1 g2 : TG} (h1 : PG X tg g1) (h2 : PG X tg g2) : PG X tg (fun v σ H Q => g1 v σ H Q ∨ g2 v σ H Q) :=
  ⟨fun pins s σ H v u Q I r hw => hw.elim (h1.run pins s σ H v u Q I r) (h2.run pins s σ H v u Q I r)⟩
def pgTup (n : Nat) (h : PTGs) : PTG := fun d env P => match d with
  | .tup ds => ds.length = n ∧ h ds env P
  | .lst ds => ds.length = n ∧ h ds env P
  | _ => False
theorem pug_tup {ts : List Expr} {k n : Nat} {h : PTGs} {is : List Nat} (hc : X.calm = true) (hh : PuGs X ts h is) (hn : (assignEach ts X.env).length = n := by rfl) (hst : (assignEach ts X.env).findIdx? (·.1) = none := by rfl) : PuG X (.Tuple ts k pos) (pgTup n h) is := by
  obtain ⟨t, a1, a2⟩ := hh.ex
  refine ⟨_, PG.or (pg_tup hc a1 hn hst) (pg_unl hc a1 hn hst), fun G0 H0 G H env σ d v P Q r rp hp kk => ?_⟩
  unfold pgTup at hp
  split at hp
  · cases rp with
    | tup s rs => exact .inl ⟨_, _, rfl, SqT.of (r.ok.same _ _ s), by rw [rs.length]; exact hp.1, a2 G0 H0 G H env σ _ _ P Q r rs hp.2 kk⟩
  · cases rp with
    | lst s rs => exact .inr ⟨_, _, rfl, SqL.of (r.ok.same _ _ s), by rw [rs.length]; exact hp.1, a2 G0 H0 G H env σ _ _ P Q r rs hp.2 kk⟩
  · exact hp.elim
def pAsg (pe : PTE) (g : PTG) : PTS := fun PD env => pe env fun d => g d env PD.nx
theorem pus_asg {tg : Expr} {g : PTG} {is : List Nat} (he : PuE X e pe) (hg : PuG X tg g is) (hs : swapsWithSole [tg] e pos.line X.env = pure false := by rfl) (hw : swappedStores [tg] e X.env = pure none := by rfl)
    (h1 : (assignEach [tg] X.env).map (·.2) = [assign tg X.env] := by rfl) : PuS X (.Assign [tg] e pos) (pAsg pe g) := by
  obtain ⟨t, a1, a2⟩ := he.ex
  obtain ⟨u, b1, b2⟩ := hg.ex
  refine ⟨_, ps_asg a1 b1 hs hw h1, fun G0 H0 G H env σ PD E r ok hp => a2 G H env σ _ _ r.ok hp fun d v G' H' x rp z => ?_⟩
  exact b2 G0 H0 G' H' env σ d v PD.nx E.nx (r.step x) rp z fun env' σ' r' _ q => ok.nx G' H' env' σ' r' q

/-! ### what is walked -/
structure Sq where
  n : Nat
  ob : Nat → D → Prop
/-- J walks S, over the frozen part G -/
structure Walks (K : PySem.W.Frag) (mg : MG) (G : Hp) (S : Sq) (J : It) : Prop where
  go : ∀ i G1 H1, Same G G1 → Same G1 H1 → i < S.n → J.go i H1
  yld : ∀ i G1 H1 x H', Same G G1 → Same G1 H1 → i < S.n → J.yld i H1 x H' → ∃ G' d, Ext G1 H1 G' H' ∧ Rep K mg G' x d ∧ S.ob i d
  stop : ∀ G1 H1, Same G G1 → Same G1 H1 → J.stop S.n H1
abbrev PTI := List C → (Sq → Prop) → Prop
structure PuI (X : Cx) (tg iter : Expr) (p : PTI) : Prop where
  ex : ∃ w : TI, PI X tg iter w ∧ ∀ (G H : Hp) (env : List C) (σ : L2.St) (P : Sq → Prop) (R : It → Hp → Prop), Ok X.K X.mg G H env σ → p env P →
    (∀ S J G' H', Ext G H G' H' → Walks X.K X.mg G' S J → P S → R J H') → w σ H R
theorem PI.or {tg iter : Expr} {w1 w2 : TI} (h1 : PI X tg iter w1) (h2 : PI X tg iter w2) : PI X tg iter (fun σ H R => w1 σ H R ∨ w2 σ H R) :=
  ⟨fun pins s σ H R I h => h.elim (h1.run pins s σ H R I) (h2.run pins s σ H R I)⟩
/-- the items of a list or tuple; the signs of a text -/
def sqL (ds : List D) : Sq := ⟨ds.length, fun i d => ds[i]? = some d⟩
def sqR (lo : Int) (n : Nat) : Sq := ⟨n, fun i d => d = .int (lo + i)⟩
def sqC (lo c : Int) (n : Nat) : Sq := ⟨n, fun i d => d = .int (lo + i * c)⟩
def signs (x : Str) : List D := x.cps.toList.map fun c => .str ⟨#[c]⟩
def itP (P : Sq → Prop) : D → Prop := fun d => match d with
  | .lst ds => P (sqL ds)
  | .tup ds => P (sqL ds)
  | .scr ds => P (sqL ds)
  | .str x => P (sqL (signs x))
  | _ => False
def piE (pe : PTE) : PTI := fun env P => pe env (itP P)
theorem walks_list {K : PySem.W.Frag} {mg : MG} {G : Hp} {a : Addr} {vs : List V} {ds : List D} (h : SqL K G a vs) (r : Reps K mg G vs ds) : Walks K mg G (sqL ds) (Itl K a) where
  go i G1 H1 s1 s2 hi := by
    have : i < vs.length := by rw [r.length]; exact hi
    exact ⟨vs, vs[i], (s1.trans s2).seq h, by simp [this]⟩
  yld i G1 H1 x H' s1 s2 hi y := by
    obtain ⟨rfl, y⟩ := y
    obtain ⟨d, e, q⟩ := r.get (y vs ((s1.trans s2).seq h))
    exact ⟨G1, d, .refl s2, q.mono s1, e⟩
  stop G1 H1 s1 s2 := ⟨vs, (s1.trans s2).seq h, by rw [r.length]; exact Nat.le_refl _⟩
theorem walks_tup {K : PySem.W.Frag} {mg : MG} {G : Hp} {a : Addr} {vs : List V} {ds : List D} (h : SqT K G a vs) (r : Reps K mg G vs ds) : Walks K mg G (sqL ds) (Itt K a) where
  go i G1 H1 s1 s2 hi := by
    have : i < vs.length := by rw [r.length]; exact hi
    exact ⟨vs, vs[i], Same.sqT (s1.trans s2) h, by simp [this]⟩
  yld i G1 H1 x H' s1 s2 hi y := by
    obtain ⟨rfl, y⟩ := y
    obtain ⟨d, e, q⟩ := r.get (y vs (Same.sqT (s1.trans s2) h))
    exact ⟨G1, d, .refl s2, q.mono s1, e⟩
  stop G1 H1 s1 s2 := ⟨vs, Same.sqT (s1.trans s2) h, by rw [r.length]; exact Nat.le_refl _⟩
theorem walks_range {K : PySem.W.Frag} {mg : MG} {G : Hp} (lo : Int) (n : Nat) : Walks K mg G (sqR lo n) (Itr lo n) where
  go i G1 H1 s1 s2 hi := hi
  yld i G1 H1 x H' s1 s2 hi y := by
    obtain ⟨rfl, rfl⟩ := y
    exact ⟨G1, _, .refl s2, .int _, rfl⟩
  stop G1 H1 s1 s2 := Nat.le_refl _
theorem walks_rangeC {K : PySem.W.Frag} {mg : MG} {G : Hp} (lo c : Int) (n : Nat) : Walks K mg G (sqC lo c n) (Itc lo c n) where
  go i G1 H1 s1 s2 hi := hi
  yld i G1 H1 x H' s1 s2 hi y := by
    obtain ⟨rfl, rfl⟩ := y
    exact ⟨G1, _, .refl s2, .int _, rfl⟩
  stop G1 H1 s1 s2 := Nat.le_refl _
theorem walks_str {K : PySem.W.Frag} {mg : MG} {G : Hp} (x : Str) : Walks K mg G (sqL (signs x)) (Its x) where
  go i G1 H1 s1 s2 hi := by
    have : i < (signs x).length := hi
    show i < x.cps.size
    simpa [signs] using this
  yld i G1 H1 v H' s1 s2 hi y := by
    obtain ⟨rfl, c, e, rfl⟩ := y
    refine ⟨G1, _, .refl s2, .str _, ?_⟩
    show (signs x)[i]? = _
    unfold signs
    rw [List.getElem?_map, Array.getElem?_toList, e]; rfl
  stop G1 H1 s1 s2 := by
    show x.cps.size ≤ (signs x).length
    simp [signs]
def iAny (K : PySem.W.Frag) (tl : TE) : TI := fun σ H R => tl σ H fun x H1 => (∃ a, x = .ref a ∧ (∃ xs, SqL K H1 a xs) ∧ R (Itl K a) H1) ∨ (∃ a, x = .ref a ∧ (∃ xs, SqT K H1 a xs) ∧ R (Itt K a) H1) ∨ ∃ y, x = .str y ∧ R (Its y) H1
theorem pi_any {tg l : Expr} {tl : TE} (hl : PE X l tl) : PI X tg l (iAny X.K tl) := by
  refine ⟨fun pins s σ H R I h => ?_⟩
  refine thn (hl.run pins s σ H _ I h) fun v s1 ⟨x, H1, I1, r1, q1⟩ => ?_
  rcases q1 with ⟨a, e, ⟨xs, hq⟩, q⟩ | ⟨a, e, ⟨xs, hq⟩, q⟩ | ⟨y, ex, q⟩
  · subst e
    cases r1
    obtain ⟨its, rv, p, hz⟩ := I1.list hq
    refine wpAny_pyIter_list p.isList ?_
    refine ⟨s1.heap.objs.size, [s1.heap.objs.size], _, _, H1, rfl, I1.kept (t' := s1.toks) fun b o e => Heap.get?_push_of_some _ e, turn_list a _, ⟨_, Heap.get?_push_size _ rfl, rfl, rfl⟩, fun b hb => ?_, q⟩
    have e : b = s1.heap.objs.size := by simpa using hb
    subst e
    exact I1.fpOk (Nat.le_refl _) (I1.hok.fresh (Nat.le_refl _))
  · subst e
    cases r1
    obtain ⟨its, rv, p, hz⟩ := I1.tuple hq
    refine wpAny_pyIter_tuple (show s1.heap.IsTuple a its.toArray from p) ?_
    refine ⟨s1.heap.objs.size, [s1.heap.objs.size], _, _, H1, rfl, I1.kept (t' := s1.toks) fun b o e => Heap.get?_push_of_some _ e, turn_tuple a _, ⟨_, Heap.get?_push_size _ rfl, rfl, rfl⟩, fun b hb => ?_, q⟩
    have e : b = s1.heap.objs.size := by simpa using hb
    subst e
    exact I1.fpOk (Nat.le_refl _) (I1.hok.fresh (Nat.le_refl _))
  · subst ex
    obtain ⟨t, rfl⟩ := r1
    cases ha : y.cps.all (· < 128)
    · exact wpAny_pyIter_wide ha (pi_one (tk := s1.toks) I1 _ (turn_str _ y t "str_iterator" (.inr rfl)) ⟨_, Heap.get?_push_size _ rfl, rfl, rfl⟩ q)
    · exact wpAny_pyIter_ascii ha (pi_one (tk := s1.toks) I1 _ (turn_str _ y t "str_ascii_iterator" (.inl rfl)) ⟨_, Heap.get?_push_size _ rfl, rfl, rfl⟩ q)
theorem pui_e {tg : Expr} (h : PuE X e pe) : PuI X tg e (piE pe) := by
  obtain ⟨t, h1, h2⟩ := h.ex
  refine ⟨_, pi_any h1, fun G H env σ P R ok hp k => h2 G H env σ _ _ ok hp fun d v G' H' x r q => ?_⟩
  unfold itP at q
  split at q
  · cases r with
    | lst e rs => exact .inl ⟨_, rfl, ⟨_, SqL.of (x.s _ _ e)⟩, k _ _ G' H' x (walks_list (SqL.of e) rs) q⟩
  · cases r with
    | tup e rs => exact .inr (.inl ⟨_, rfl, ⟨_, SqT.of (x.s _ _ e)⟩, k _ _ G' H' x (walks_tup (SqT.of e) rs) q⟩)
  · cases r with
    | scr e rs => exact .inl ⟨_, rfl, ⟨_, x.s.seq e⟩, k _ _ G' H' x (walks_list e rs) q⟩
  · cases r
    exact .inr (.inr ⟨_, rfl, k _ _ G' H' x (walks_str _) q⟩)
  · exact q.elim
/-- range: up to 2 ^ 62 -/
def inR (i : Int) : Prop := -(2 ^ 62) ≤ i ∧ i < 2 ^ 62
def rg1 (P : Sq → Prop) : D → Prop := fun d => match d with
  | .int j => inR j ∧ P (sqR 0 j.toNat)
  | _ => False
def piR1 (pa : PTE) : PTI := fun env P => pa env (rg1 P)
def rg2 (P : Sq → Prop) : D → D → Prop := fun d f => match d, f with
  | .int i, .int j => (inR i ∧ inR j) ∧ P (sqR i (j - i).toNat)
  | _, _ => False
def piR2 (pa pb : PTE) : PTI := fun env P => pa env fun d => pb env fun f => rg2 P d f
theorem pui_r1 {tg : Expr} {p' : Pos} (hm : X.mg "range" = none) (h : PuE X a pa) (hg : Gl X "range" := by rfl) (hs1 : starEach [a] X.env = [(false, eval a X.env)] := by rfl) : PuI X tg (.Call (.Name "range" p') [a] [] pos) (piR1 pa) := by
  obtain ⟨t, h1, h2⟩ := h.ex
  refine ⟨_, pi_range1 hg hm (pa_cons h1 pa_nil hs1) hs1, fun G H env σ P R ok hp k => h2 G H env σ _ _ ok hp fun d v G' H' x r q => ?_⟩
  unfold rg1 at q
  split at q
  · cases r
    exact ⟨_, rfl, q.1.1, q.1.2, k _ _ G' H' x (walks_range 0 _) q.2⟩
  · exact q.elim
theorem pui_r2 {tg : Expr} {p' : Pos} (hm : X.mg "range" = none) (h : PuE X a pa) (h' : PuE X b pb) (hg : Gl X "range" := by rfl) (hs : starEach [a, b] X.env = [(false, eval a X.env), (false, eval b X.env)] := by rfl)
    (hs2 : starEach [b] X.env = [(false, eval b X.env)] := by rfl) : PuI X tg (.Call (.Name "range" p') [a, b] [] pos) (piR2 pa pb) := by
  obtain ⟨t, h1, h2⟩ := h.ex
  obtain ⟨u, g1, g2⟩ := h'.ex
  refine ⟨_, pi_range2 hg hm (pa_cons h1 (pa_cons g1 pa_nil hs2) (by rw [hs, hs2])) hs hs2, fun G H env σ P R ok hp k => h2 G H env σ _ _ ok hp fun d v G' H' x r q => ?_⟩
  refine g2 G' H' env σ _ _ (ok.ext x) q fun f w G2 H2 y r2 q2 => ?_
  unfold rg2 at q2
  split at q2
  · cases r; cases r2
    obtain ⟨⟨⟨a1, a2⟩, a3, a4⟩, q2⟩ := q2
    exact ⟨_, _, rfl, ⟨a1, a2, a3, a4⟩, k _ _ G2 H2 (x.trans y) (walks_range _ _) q2⟩
  · exact q2.elim

/-! ### for -/
/-- W: what holds ahead of turn k -/
def forP (S : Sq) (g : PTG) (body : PTS) : PTS := fun PD env => ∃ W : Nat → List C → Prop, W 0 env ∧
  (∀ k d env, k < S.n → S.ob k d → W k env → g d env fun env' => body { nx := W (k + 1), ct := W (k + 1), bk := PD.nx, rt := PD.rt } env') ∧ ∀ env, W S.n env → PD.nx env
def pFor (pi : PTI) (g : PTG) (body : PTS) : PTS := fun PD env => pi env fun S => forP S g body PD env
theorem for_at {S : Sq} {J : It} {g : PTG} {pb : PTS} {tgt : TG} {tb : TS} {is : List Nat} {G0 H0 G1 H1 : Hp} {env : List C} {σ : L2.St} {PD : PEnds} {E : Ends}
    (g2 : ∀ (G0 H0 G H : Hp) (env : List C) (σ : L2.St) (d : D) (v : V) (P : List C → Prop) (Q : L2.St → Hp → Prop), Rel X.K X.mg G0 H0 G H env σ → Rep X.K X.mg G v d → g d env P →
      (∀ env' σ', Rel X.K X.mg G0 H0 G H env' σ' → Off is σ σ' → P env' → Q σ' H) → tgt v σ H Q)
    (b2 : ∀ (G0 H0 G H : Hp) (env : List C) (σ : L2.St) (PD : PEnds) (E : Ends), Rel X.K X.mg G0 H0 G H env σ → EndsOk X.K X.mg G0 H0 PD E → pb PD env → tb E σ H)
    (r : Rel X.K X.mg G0 H0 G1 H1 env σ) (ok : EndsOk X.K X.mg G0 H0 PD E) (wk : Walks X.K X.mg G1 S J) (hp : forP S g pb PD env) :
    ∃ W : Nat → Nat → L2.St → Hp → Prop, (∃ m, W 0 m σ H1) ∧ ∀ i m σ H, W i m σ H → (J.stop i H ∧ E.nx σ H) ∨ (J.go i H ∧ ∃ N : L2.St → Hp → Prop, (∀ σ' H', N σ' H' → ∃ m', m' < m ∧ W (i + 1) m' σ' H') ∧
      ∀ x H', J.yld i H x H' → tgt x σ H' fun σ2 H2 => tb { E with nx := N, ct := N, bk := E.nx } σ2 H2) := by
  obtain ⟨W, w0, step, fin⟩ := hp
  refine ⟨fun i m σ H => m = S.n - i ∧ i ≤ S.n ∧ ∃ G env, Rel X.K X.mg G0 H0 G H env σ ∧ Same G1 G ∧ W i env, ⟨S.n, by simp, Nat.zero_le _, G1, env, r, Same.refl _, w0⟩, ?_⟩
  rintro i m σ2 H2 ⟨rfl, hi, G2, env2, r2, s2, w2⟩
  by_cases hlt : i < S.n
  · refine .inr ⟨wk.go i G2 H2 s2 r2.ok.same hlt, fun σ' H' => ∃ G' env', Rel X.K X.mg G0 H0 G' H' env' σ' ∧ Same G1 G' ∧ W (i + 1) env', fun σ' H' ⟨G', env', r', s', w'⟩ => ⟨S.n - (i + 1), by omega, rfl, hlt, G', env', r', s', w'⟩, fun xv H3 y => ?_⟩
    obtain ⟨G3, d, x3, rp, ob⟩ := wk.yld i G2 H2 xv H3 s2 r2.ok.same hlt y
    refine g2 G0 H0 G3 H3 env2 σ2 d xv _ _ (r2.step x3) rp (step i d env2 hlt ob w2) fun env4 σ4 r4 _ q4 => ?_
    -- the frozen part stays: the entry is moved up to G3
    have base : Rel X.K X.mg G3 H0 G3 H3 env4 σ4 := ⟨r4.ok, ⟨Same.refl _, r4.ext.h, r4.ext.s, fun _ e n => absurd e n⟩, r4.own⟩
    refine b2 G3 H0 G3 H3 env4 σ4 _ _ base ⟨?_, ?_, ?_, ?_, fun _ _ _ _ _ _ _ _ (z : False) => z.elim⟩ q4
    · intro G5 H5 env5 σ5 r5 w5
      exact ⟨G5, env5, ⟨r5.ok, ⟨r4.ext.g.trans r5.ext.g, r5.ext.h, r5.ext.s, fun a e n => by
        by_cases z : G3 a = none
        · exact r5.ext.f a z n
        · exact r4.ext.f a e z⟩, r5.own⟩, (s2.trans x3.g).trans r5.ext.g, w5⟩
    · intro G5 H5 env5 σ5 r5 w5
      exact ok.nx G5 H5 env5 σ5 ⟨r5.ok, ⟨r4.ext.g.trans r5.ext.g, r5.ext.h, r5.ext.s, fun a e n => by
        by_cases z : G3 a = none
        · exact r5.ext.f a z n
        · exact r4.ext.f a e z⟩, r5.own⟩ w5
    · intro G5 H5 env5 σ5 r5 w5
      exact ⟨G5, env5, ⟨r5.ok, ⟨r4.ext.g.trans r5.ext.g, r5.ext.h, r5.ext.s, fun a e n => by
        by_cases z : G3 a = none
        · exact r5.ext.f a z n
        · exact r4.ext.f a e z⟩, r5.own⟩, (s2.trans x3.g).trans r5.ext.g, w5⟩
    · intro G5 H5 d5 v5 x5 rp5 q5
      exact ok.rt G5 H5 d5 v5 ⟨r4.ext.g.trans x5.g, x5.h, x5.s, fun a e n => by
        by_cases z : G3 a = none
        · exact x5.f a z n
        · exact r4.ext.f a e z⟩ rp5 q5
  · have e : i = S.n := by omega
    subst e
    exact .inl ⟨wk.stop G2 H2 s2 r2.ok.same, ok.nx G2 H2 env2 σ2 r2 (fin env2 w2)⟩
theorem pus_for {tg iter : Expr} {body : List Stmt} {pi : PTI} {g : PTG} {is : List Nat} {pb : PTS} (hp : PassesOwn (model X.prog X.w) X.A X.env X.xe) (hc : X.calm = true) (hi : PuI X tg iter pi) (hg : PuG X tg g is) (hb : PuSs X body pb)
    (hs : ∀ x, foldedSetIterable iter X.env x = pure x := by intro _; rfl) : PuS X (.For tg iter body [] pos) (pFor pi g pb) := by
  obtain ⟨w, i1, i2⟩ := hi.ex
  obtain ⟨tgt, g1, g2⟩ := hg.ex
  obtain ⟨tb, b1, b2⟩ := hb.ex
  exact ⟨_, ps_for hp hc i1 g1 b1 hs, fun G0 H0 G H env σ PD E r ok hp => i2 G H env σ _ _ r.ok hp fun S J G1 H1 x wk z => for_at g2 b2 (r.step x) ok wk z⟩

/-! ### while -/
def pWhile (pt : PTT) (body : PTS) : PTS := fun PD env => ∃ W : Nat → List C → Prop, (∃ m, W m env) ∧ ∀ m env, W m env →
  pt env fun b => if b = true then body { nx := fun e => ∃ m', m' < m ∧ W m' e, ct := fun e => ∃ m', m' < m ∧ W m' e, bk := PD.nx, rt := PD.rt } env else PD.nx env
theorem pus_while {c : Expr} {body : List Stmt} {pb : PTS} (hp : PassesOwn (model X.prog X.w) X.A X.env X.xe) (hc : PuT X c pt) (hb : PuSs X body pb) : PuS X (.While c body [] pos) (pWhile pt pb) := by
  obtain ⟨t, c1, c2⟩ := hc.ex
  obtain ⟨tb, b1, b2⟩ := hb.ex
  refine ⟨_, ps_while hp c1 b1, fun G0 H0 G H env σ PD E r ok ⟨W, ⟨m0, w0⟩, step⟩ => ?_⟩
  refine ⟨fun m σ H => ∃ G env, Rel X.K X.mg G0 H0 G H env σ ∧ W m env, ⟨m0, G, env, r, w0⟩, ?_⟩
  rintro m σ2 H2 ⟨G2, env2, r2, w2⟩
  refine c2 G2 H2 env2 σ2 _ _ r2.ok (step m env2 w2) fun b G3 H3 x q => ?_
  cases b with
  | false => exact ok.nx G3 H3 env2 σ2 (r2.step x) q
  | true =>
    refine ⟨fun σ' H' => ∃ G' env', Rel X.K X.mg G0 H0 G' H' env' σ' ∧ ∃ m', m' < m ∧ W m' env', fun σ' H' ⟨G', env', r', m', hm, w'⟩ => ⟨m', hm, G', env', r', w'⟩, ?_⟩
    rw [if_pos rfl] at q
    refine b2 G0 H0 G3 H3 env2 σ2 { nx := fun e => ∃ m', m' < m ∧ W m' e, ct := fun e => ∃ m', m' < m ∧ W m' e, bk := PD.nx, rt := PD.rt } _ (r2.step x) ⟨fun G' H' env' σ' r' w' => ⟨G', env', r', w'⟩, fun G' H' env' σ' r' w' => ok.nx G' H' env' σ' r' w', fun G' H' env' σ' r' w' => ⟨G', env', r', w'⟩, ok.rt, fun _ _ _ _ _ _ _ _ z => z.elim⟩ q
end
end PL
end

section
set_option linter.all false
set_option maxRecDepth 100000
set_option maxHeartbeats 4000000
set_option autoImplicit false
/-! PL4: argument lists, displays, subscripts, slices, comprehensions, calls, a def's promise. -/
namespace PL
open PySem PySem.Spec PyProof.Rows L2

section
variable {X : Cx} {e a b : Expr} {es : List Expr} {pe pa pb : PTE} {ps : PTA} {pos : Pos}
def paNil : PTA := fun _ P => P []
def paCons (p : PTE) (q : PTA) : PTA := fun env P => p env fun d => q env fun ds => P (d :: ds)
theorem pua_nil : PuA X [] paNil := ⟨_, pa_nil, fun G H env σ P Q ok hp k => k [] [] G H (.refl ok.same) .nil hp⟩
theorem pua_cons (h : PuE X e pe) (g : PuA X es ps) (hs : starEach (e :: es) X.env = (false, eval e X.env) :: starEach es X.env := by rfl) : PuA X (e :: es) (paCons pe ps) := by
  obtain ⟨t, h1, h2⟩ := h.ex
  obtain ⟨u, g1, g2⟩ := g.ex
  refine ⟨_, pa_cons h1 g1 hs, fun G H env σ P Q ok hp k => h2 G H env σ _ _ ok hp fun d v G' H' x r q => ?_⟩
  exact g2 G' H' env σ _ _ (ok.ext x) q fun ds vs G2 H2 y rs q2 => k (d :: ds) (v :: vs) G2 H2 (x.trans y) (.cons (r.mono y.g) rs) q2
theorem Shals.mono {K : PySem.W.Frag} {mg : MG} {G G' H H' : Hp} (a : Same H H') (b : Same G G') : ∀ {vs : List V} {ds : List D}, Shals K mg H G vs ds → Shals K mg H' G' vs ds
  | _, _, .nil => .nil
  | _, _, .cons r t => .cons (r.mono a b) (Shals.mono a b t)
theorem puao_nil : PuAO X [] paNil := ⟨_, pa_nil, fun G H env σ P Q ok hp k => k [] [] G H (.refl ok.same) .nil hp⟩
theorem puao_cons (h : PuO X e pe) (g : PuAO X es ps) (hs : starEach (e :: es) X.env = (false, eval e X.env) :: starEach es X.env := by rfl) : PuAO X (e :: es) (paCons pe ps) := by
  obtain ⟨t, h1, h2⟩ := h.ex
  obtain ⟨u, g1, g2⟩ := g.ex
  refine ⟨_, pa_cons h1 g1 hs, fun G H env σ P Q ok hp k => h2 G H env σ _ _ ok hp fun d v G' H' x r q => ?_⟩
  exact g2 G' H' env σ _ _ (ok.ext x) q fun ds vs G2 H2 y rs q2 => k (d :: ds) (v :: vs) G2 H2 (x.trans y) (.cons (r.mono y.h y.g) rs) q2

/-! ### displays -/
def pLst (ps : PTA) : PTE := fun env P => ps env fun ds => ds.length ≤ sizeLine ∧ P (.lst ds)
def pTup (ps : PTA) : PTE := fun env P => ps env fun ds => ds.length ≤ sizeLine ∧ P (.tup ds)
theorem puf_lst (h : PuA X es ps) : PuF X (.List es pos) (pLst ps) := by
  obtain ⟨t, h1, h2⟩ := h.ex
  refine ⟨_, pe_lst h1, fun G H env σ P Q ok hp k => h2 G H env σ _ _ ok hp fun ds vs G' H' x r q => ⟨by rw [r.length]; exact q.1, fun p hn => ?_⟩⟩
  exact k _ p G' _ (x.trans (Ext.newH x.s hn)) (.lst upd_same r) (x.s.free hn) (x.h.free hn) q.2
theorem pu_tup {j : Nat} (h : PuA X es ps) : PuE X (.Tuple es j pos) (pTup ps) := by
  obtain ⟨t, h1, h2⟩ := h.ex
  refine ⟨_, pe_tup h1, fun G H env σ P Q ok hp k => h2 G H env σ _ _ ok hp fun ds vs G' H' x r q => ⟨by rw [r.length]; exact q.1, fun p hn => ?_⟩⟩
  exact k _ _ _ _ (x.trans (Ext.new x.s hn)) (.tup upd_same (r.mono (Same.upd (x.s.free hn)))) q.2

/-! ### dicts over data -/
def lookD {κ : Type} [DecidableEq κ] (kvs : List (κ × D)) (k : κ) : Option D := (kvs.find? fun kv => decide (kv.1 = k)).map (·.2)
def putD {κ : Type} [DecidableEq κ] (kvs : List (κ × D)) (k : κ) (v : D) : List (κ × D) :=
  if (kvs.any fun kv => decide (kv.1 = k)) then kvs.map fun kv => if kv.1 = k then (kv.1, v) else kv else kvs ++ [(k, v)]
/-- two tables with the same keys, their values related -/
inductive Rel2 {κ : Type} (R : V → D → Prop) : List (κ × V) → List (κ × D) → Prop
  | nil : Rel2 R [] []
  | cons {k : κ} {v : V} {d : D} {vs : List (κ × V)} {ds : List (κ × D)} : R v d → Rel2 R vs ds → Rel2 R ((k, v) :: vs) ((k, d) :: ds)
end
section
variable {κ : Type} [DecidableEq κ] {R : V → D → Prop}
theorem Rel2.length : ∀ {vs : List (κ × V)} {ds : List (κ × D)}, Rel2 R vs ds → vs.length = ds.length
  | _, _, .nil => rfl
  | _, _, .cons _ t => congrArg (· + 1) t.length
theorem Rel2.look {k : κ} : ∀ {vs : List (κ × V)} {ds : List (κ × D)}, Rel2 R vs ds → (valV vs k = none ∧ lookD ds k = none) ∨ ∃ v d, valV vs k = some v ∧ lookD ds k = some d ∧ R v d
  | _, _, .nil => .inl ⟨rfl, rfl⟩
  | _, _, .cons (k := j) (v := v) (d := d) (vs := vs) (ds := ds) r t => by
    by_cases h : j = k
    · exact .inr ⟨v, d, by simp [valV, List.find?_cons, h], by simp [lookD, List.find?_cons, h], r⟩
    · rcases Rel2.look (k := k) t with ⟨a, b⟩ | ⟨v', d', a, b, c⟩
      · exact .inl ⟨by rw [valV_neg (p := (j, v)) h]; exact a, by simpa [lookD, List.find?_cons, h] using b⟩
      · exact .inr ⟨v', d', by rw [valV_neg (p := (j, v)) h]; exact a, by simpa [lookD, List.find?_cons, h] using b, c⟩
theorem Rel2.any {k : κ} : ∀ {vs : List (κ × V)} {ds : List (κ × D)}, Rel2 R vs ds → (vs.any fun kv => decide (kv.1 = k)) = ds.any fun kv => decide (kv.1 = k)
  | _, _, .nil => rfl
  | _, _, .cons _ t => by simp only [List.any_cons, t.any]
theorem Rel2.map {k : κ} {v : V} {d : D} (r : R v d) : ∀ {vs : List (κ × V)} {ds : List (κ × D)}, Rel2 R vs ds → Rel2 R (vs.map fun kv => if kv.1 = k then (kv.1, v) else kv) (ds.map fun kv => if kv.1 = k then (kv.1, d) else kv)
  | _, _, .nil => .nil
  | _, _, .cons (k := j) q t => by
    simp only [List.map_cons]
    by_cases h : j = k
    · simp only [h, if_true]; exact .cons r (t.map r)
    · simp only [h, if_false]; exact .cons q (t.map r)
theorem Rel2.snoc {k : κ} {v : V} {d : D} (r : R v d) : ∀ {vs : List (κ × V)} {ds : List (κ × D)}, Rel2 R vs ds → Rel2 R (vs ++ [(k, v)]) (ds ++ [(k, d)])
  | _, _, .nil => .cons r .nil
  | _, _, .cons q t => .cons q (t.snoc r)
theorem Rel2.put {k : κ} {v : V} {d : D} (r : R v d) {vs : List (κ × V)} {ds : List (κ × D)} (h : Rel2 R vs ds) : Rel2 R (putK vs k v) (putD ds k d) := by
  unfold putK putD
  rw [h.any]
  split
  · exact h.map r
  · exact h.snoc r
end
section
variable {K : PySem.W.Frag} {mg : MG} {G H : Hp}
theorem RepKV.rel : ∀ {vs : List (Key × V)} {ds : List (Key × D)}, RepKV K mg G vs ds → Rel2 (Rep K mg G) vs ds
  | _, _, .nil => .nil
  | _, _, .cons r t => .cons r (RepKV.rel t)
theorem RepKV.of : ∀ {vs : List (Key × V)} {ds : List (Key × D)}, Rel2 (Rep K mg G) vs ds → RepKV K mg G vs ds
  | _, _, .nil => .nil
  | _, _, .cons r t => .cons r (RepKV.of t)
theorem RepTV.rel : ∀ {vs : List (List Key × V)} {ds : List (List Key × D)}, RepTV K mg G vs ds → Rel2 (Rep K mg G) vs ds
  | _, _, .nil => .nil
  | _, _, .cons r t => .cons r (RepTV.rel t)
theorem RepTV.of : ∀ {vs : List (List Key × V)} {ds : List (List Key × D)}, Rel2 (Rep K mg G) vs ds → RepTV K mg G vs ds
  | _, _, .nil => .nil
  | _, _, .cons r t => .cons r (RepTV.of t)
end
def keyOf : D → Option Key
  | .int i => some (.inl i)
  | .str x => some (.inr x)
  | _ => none
def keysOf : List D → Option (List Key)
  | [] => some []
  | d :: ds => (keyOf d).bind fun k => (keysOf ds).map fun ks => k :: ks
def tkeyOf : D → Option (List Key)
  | .tup ds => keysOf ds
  | _ => none
section
variable {K : PySem.W.Frag} {mg : MG} {G H : Hp}
theorem Rep.key {v : V} {d : D} {k : Key} (r : Rep K mg G v d) (h : keyOf d = some k) : v = kV k := by
  cases r with
  | int i => cases h; rfl
  | str x => cases h; rfl
  | non => cases h
  | bl _ => cases h
  | tup _ _ => cases h
  | lst _ _ => cases h
  | scr _ _ => cases h
  | dk _ _ => cases h
  | dt _ _ => cases h
  | obj _ _ _ => cases h
  | err _ _ _ _ => cases h
theorem Reps.keys : ∀ {vs : List V} {ds : List D} {ks : List Key}, Reps K mg G vs ds → keysOf ds = some ks → vs = ks.map kV
  | _, _, ks, .nil, h => by cases h; rfl
  | _, _, ks, .cons (d := d) (ds := ds) r t, h => by
    unfold keysOf at h
    cases e : keyOf d with
    | none => rw [e] at h; cases h
    | some k =>
      rw [e] at h
      cases e2 : keysOf ds with
      | none => simp [e2] at h
      | some ks' =>
        simp [e2] at h
        subst h
        rw [r.key e, Reps.keys t e2]; rfl
/-- what the table d holds at the key y -/
def getP (d y : D) : Option (Option D) := match d with
  | .dk kvs => (keyOf y).map fun k => lookD kvs k
  | .dt kvs => (tkeyOf y).map fun k => lookD kvs k
  | _ => none
theorem Shal.dget {v w : V} {d y : D} {o : Option D} (s : Same G H) (r : Shal K mg H G v d) (ry : Rep K mg G w y) (h : getP d y = some o) :
    ∃ a, v = .ref a ∧ ((o = none ∧ DGet H a w none) ∨ ∃ z u, o = some z ∧ DGet H a w (some u) ∧ Rep K mg G u z) := by
  unfold getP at h
  split at h
  · rename_i kvs
    cases e : keyOf y with
    | none => rw [e] at h; cases h
    | some k =>
      rw [e] at h; cases h
      obtain ⟨l, vs, rfl, hl, rs⟩ := r.dk s
      have ek := ry.key e
      subst ek
      have g : DGet H l (kV k) (valV vs k) := .inl ⟨vs, k, hl, rfl, rfl⟩
      refine ⟨l, rfl, ?_⟩
      rcases rs.rel.look (k := k) with ⟨a, b⟩ | ⟨u, z, a, b, c⟩
      · rw [a] at g; exact .inl ⟨b, g⟩
      · rw [a] at g; exact .inr ⟨z, u, b, g, c⟩
  · rename_i kvs
    cases e : tkeyOf y with
    | none => rw [e] at h; cases h
    | some k =>
      rw [e] at h; cases h
      obtain ⟨l, vs, rfl, hl, rs⟩ := r.dt s
      cases ry with
      | tup hb rb =>
        have ek := rb.keys e
        subst ek
        have g := DGet.t (k := k) hl (s _ _ hb)
        refine ⟨l, rfl, ?_⟩
        rcases rs.rel.look (k := k) with ⟨a, b⟩ | ⟨u, z, a, b, c⟩
        · rw [a] at g; exact .inl ⟨b, g⟩
        · rw [a] at g; exact .inr ⟨z, u, b, g, c⟩
      | non => cases e
      | bl _ => cases e
      | int _ => cases e
      | str _ => cases e
      | lst _ _ => cases e
      | scr _ _ => cases e
      | dk _ _ => cases e
      | dt _ _ => cases e
      | obj _ _ _ => cases e
      | err _ _ _ _ => cases e
  · cases h
end

section
variable {X : Cx} {e a b : Expr} {es : List Expr} {pe pa pb : PTE} {ps : PTA} {pos : Pos}
/-! ### subscripts -/
theorem ix_dict (hu : X.A.units + 1 < cLine) : IxR X (fun x y H Q => ∃ a v, x = .ref a ∧ DGet H a y (some v) ∧ Q v H) := by
  intro value slice pins s σ H x y v u Q I rx ry h hs
  obtain ⟨a, z, rfl, g, q⟩ := h
  obtain rfl : v = Value.ref a := rx
  exact tail_any (dict_typeIs I g) PySem.F.slot_dict_getitem.lookup (d_getItem hu I g ry fun w' s3 I3 rw' => ⟨z, H, I3, rw', q⟩) hs
def rIxAll (K : PySem.W.Frag) : R2 := fun x y H Q => rIx K x y H Q ∨ ∃ a v, x = .ref a ∧ DGet H a y (some v) ∧ Q v H
theorem ix_all (hu : X.A.units + 1 < cLine) : IxR X (rIxAll X.K) := IxR.or ix_seq (ix_dict hu)
def ixP : D → D → (D → Prop) → Prop := fun x y P => match x, y with
  | .lst ds, .int i => ∃ d, atI ds i = some d ∧ P d
  | .tup ds, .int i => ∃ d, atI ds i = some d ∧ P d
  | .scr ds, .int i => ∃ d, atI ds i = some d ∧ P d
  | .str z, .int i => z.length ≤ sizeLine ∧ ∃ c, atI z.cps.toList i = some c ∧ P (.str ⟨#[c]⟩)
  | d, y => ∃ z, getP d y = some (some z) ∧ P z
theorem atI_rep {K : PySem.W.Frag} {mg : MG} {G : Hp} {vs : List V} {ds : List D} {i : Int} {d : D} (r : Reps K mg G vs ds) (h : atI ds i = some d) : ∃ v, atI vs i = some v ∧ Rep K mg G v d := by
  unfold atI at h ⊢
  rw [r.length]
  cases e : ixN ds.length i with
  | none => rw [e] at h; cases h
  | some j => rw [e] at h; exact r.getD h
theorem ixP_ok {G H : Hp} {v w : V} {x y : D} {P : D → Prop} {Q : VK} (s : Same G H) (r1 : Shal X.K X.mg H G v x) (r2 : Rep X.K X.mg G w y) (h : ixP x y P)
    (k : ∀ d u G' H', Ext G H G' H' → Rep X.K X.mg G' u d → P d → Q u H') : rIxAll X.K v w H Q := by
  unfold ixP at h
  split at h
  · obtain ⟨d, e, h⟩ := h
    cases r2
    obtain ⟨l, vs, rfl, hl, rs⟩ := r1.lst s
    obtain ⟨u, eu, ru⟩ := atI_rep rs e
    exact .inl (.inl ⟨l, vs, _, u, rfl, rfl, SqL.of hl, eu, k _ _ G H (.refl s) ru h⟩)
  · obtain ⟨d, e, h⟩ := h
    cases r2
    obtain ⟨l, vs, rfl, hl, rs⟩ := r1.tup s
    obtain ⟨u, eu, ru⟩ := atI_rep rs e
    exact .inl (.inr (.inl ⟨l, vs, _, u, rfl, rfl, SqT.of hl, eu, k _ _ G H (.refl s) ru h⟩))
  · obtain ⟨d, e, h⟩ := h
    cases r2
    obtain ⟨l, vs, rfl, hl, rs⟩ := r1.scr s
    obtain ⟨u, eu, ru⟩ := atI_rep rs e
    exact .inl (.inl ⟨l, vs, _, u, rfl, rfl, hl, eu, k _ _ G H (.refl s) ru h⟩)
  · obtain ⟨hz, c, e, h⟩ := h
    cases r2
    cases r1.str
    exact .inl (.inr (.inr ⟨_, _, c, rfl, rfl, hz, e, k _ _ G H (.refl s) (.str _) h⟩))
  · obtain ⟨z, e, h⟩ := h
    obtain ⟨l, rfl, q⟩ := r1.dget s r2 e
    rcases q with ⟨q, _⟩ | ⟨z', u, q, g, ru⟩
    · cases q
    · cases q
      exact .inr ⟨l, u, rfl, g, k _ _ G H (.refl s) ru h⟩
def pIx (pa pb : PTE) : PTE := fun env P => pa env fun x => pb env fun y => ixP x y P
theorem pu_ix (hu : X.A.units + 1 < cLine) (ha : PuO X a pa) (hb : PuE X b pb) (hs : PlainIx b := by exact fun _ _ => rfl) : PuE X (.Subscript a b pos) (pIx pa pb) := by
  obtain ⟨t, a1, a2⟩ := ha.ex
  obtain ⟨u, b1, b2⟩ := hb.ex
  refine ⟨_, pe_ix (ix_all hu) a1 b1 hs, fun G H env σ P Q ok hp k => ?_⟩
  refine a2 G H env σ _ _ ok hp fun x v G1 H1 e1 r1 q1 => ?_
  refine b2 G1 H1 env σ _ _ (ok.ext e1) q1 fun y w G2 H2 e2 r2 q2 => ?_
  exact ixP_ok e2.s (r1.mono e2.h e2.g) r2 q2 fun d u G3 H3 e3 r3 q3 => k d u G3 H3 ((e1.trans e2).trans e3) r3 q3

/-! ### slices -/
abbrev PTO := List C → (Option Int → Prop) → Prop
structure PuPO (X : Cx) (e : Option Expr) (p : PTO) : Prop where
  ex : ∃ t : TO, PO X e t ∧ ∀ (G H : Hp) (env : List C) (σ : L2.St) (P : Option Int → Prop) (Q : Option Int → Hp → Prop), Ok X.K X.mg G H env σ → p env P → (∀ i G' H', Ext G H G' H' → P i → Q i H') → t σ H Q
def poNone : PTO := fun _ P => P none
def poSome (p : PTE) : PTO := fun env P => p env fun d => match d with
  | .int i => P (some i)
  | _ => False
theorem pupo_none : PuPO X none poNone := ⟨_, po_none, fun G H env σ P Q ok hp k => k none G H (.refl ok.same) hp⟩
theorem pupo_some (h : PuE X e pe) : PuPO X (some e) (poSome pe) := by
  obtain ⟨t, h1, h2⟩ := h.ex
  refine ⟨_, po_some h1, fun G H env σ P Q ok hp k => h2 G H env σ _ _ ok hp fun d v G' H' x r q => ?_⟩
  split at q
  · cases r; exact ⟨_, rfl, k _ G' H' x q⟩
  · exact q.elim
def cutD (xs : List D) (lo hi : Option Int) : List D := (xs.drop (HT.sIx xs.length 0 lo)).take (HT.sIx xs.length xs.length hi - HT.sIx xs.length 0 lo)
theorem Reps.cut {K : PySem.W.Frag} {mg : MG} {G : Hp} {vs : List V} {ds : List D} (r : Reps K mg G vs ds) (lo hi : Option Int) : Reps K mg G (cutV vs lo hi) (cutD ds lo hi) := by
  unfold cutV cutD
  rw [r.length]
  exact (r.drop _).take _
theorem cutD_whole {xs : List D} {lo hi : Option Int} (h : HT.sIx xs.length 0 lo = 0 ∧ HT.sIx xs.length xs.length hi = xs.length) : cutD xs lo hi = xs := by
  unfold cutD
  rw [h.1, h.2]; simp
def rSlAll (K : PySem.W.Frag) : V → Option Int → Option Int → Hp → VK → Prop := fun x lo hi H Q => rSlL K x lo hi H Q ∨ rSlS x lo hi H Q ∨ rSlA K x lo hi H Q
theorem sl_all : SlR X (rSlAll X.K) := SlR.or sl_list (SlR.or sl_str sl_tupA)
def slP (x : D) (lo hi : Option Int) (P : D → Prop) : Prop := match x with
  | .lst ds => P (.lst (cutD ds lo hi))
  | .scr ds => P (.lst (cutD ds lo hi))
  | .tup ds => P (.tup (cutD ds lo hi))
  | .str z => z.length ≤ sizeLine ∧ P (.str (cutS z lo hi))
  | _ => False
def pSl (pa : PTE) (pl ph : PTO) : PTE := fun env P => pa env fun x => pl env fun lo => ph env fun hi => slP x lo hi P
theorem pu_sl {lo hi : Option Expr} {pl ph : PTO} {p2 : Pos} (ha : PuO X a pa) (hl : PuPO X lo pl) (hh : PuPO X hi ph) : PuE X (.Subscript a (.Slice lo hi none p2) pos) (pSl pa pl ph) := by
  obtain ⟨t, a1, a2⟩ := ha.ex
  obtain ⟨u, b1, b2⟩ := hl.ex
  obtain ⟨w, c1, c2⟩ := hh.ex
  refine ⟨_, pe_slice sl_all a1 b1 c1, fun G H env σ P Q ok hp k => ?_⟩
  refine a2 G H env σ _ _ ok hp fun x v G1 H1 e1 r1 q1 => ?_
  refine b2 G1 H1 env σ _ _ (ok.ext e1) q1 fun l G2 H2 e2 q2 => ?_
  refine c2 G2 H2 env σ _ _ ((ok.ext e1).ext e2) q2 fun r G3 H3 e3 q3 => ?_
  have r3 := (r1.mono e2.h e2.g).mono e3.h e3.g
  have k' : ∀ d u G' H', Ext G3 H3 G' H' → Rep X.K X.mg G' u d → P d → Q u H' := fun d u G' H' x => k d u G' H' (((e1.trans e2).trans e3).trans x)
  unfold slP at q3
  split at q3
  · obtain ⟨m, vs, rfl, hl, rs⟩ := r3.lst e3.s
    exact .inl ⟨m, vs, rfl, SqL.of hl, fun p hn => k' _ _ _ _ (Ext.new e3.s hn) (.lst upd_same ((rs.cut l r).mono (Same.upd (e3.s.free hn)))) q3⟩
  · obtain ⟨m, vs, rfl, hl, rs⟩ := r3.scr e3.s
    exact .inl ⟨m, vs, rfl, hl, fun p hn => k' _ _ _ _ (Ext.new e3.s hn) (.lst upd_same ((rs.cut l r).mono (Same.upd (e3.s.free hn)))) q3⟩
  · rename_i ds
    have hv : Rep X.K X.mg G3 v (.tup ds) := by
      rcases r3 with r3 | ⟨_, _, t⟩
      · exact r3
      · cases t
    obtain ⟨m, vs, rfl, hl, rs⟩ := r3.tup e3.s
    refine .inr (.inr ⟨m, vs, rfl, SqT.of hl, fun z => ?_, fun z p hn => k' _ _ _ _ (Ext.new e3.s hn) (.tup upd_same ((rs.cut l r).mono (Same.upd (e3.s.free hn)))) q3⟩)
    rw [rs.length] at z
    rw [cutD_whole z] at q3
    exact k' _ _ _ _ (.refl e3.s) hv q3
  · cases r3.str
    exact .inr (.inl ⟨_, rfl, q3.1, k' _ _ _ _ (.refl e3.s) (.str _) q3.2⟩)
  · exact q3.elim
/-- a list's slice, a new cell -/
def slPL (x : D) (lo hi : Option Int) (P : D → Prop) : Prop := match x with
  | .lst ds => P (.lst (cutD ds lo hi))
  | .scr ds => P (.lst (cutD ds lo hi))
  | _ => False
def pSlL (pa : PTE) (pl ph : PTO) : PTE := fun env P => pa env fun x => pl env fun lo => ph env fun hi => slPL x lo hi P
theorem puf_sl {lo hi : Option Expr} {pl ph : PTO} {p2 : Pos} (ha : PuO X a pa) (hl : PuPO X lo pl) (hh : PuPO X hi ph) : PuF X (.Subscript a (.Slice lo hi none p2) pos) (pSlL pa pl ph) := by
  obtain ⟨t, a1, a2⟩ := ha.ex
  obtain ⟨u, b1, b2⟩ := hl.ex
  obtain ⟨w, c1, c2⟩ := hh.ex
  refine ⟨_, pe_slice sl_list a1 b1 c1, fun G H env σ P Q ok hp k => ?_⟩
  refine a2 G H env σ _ _ ok hp fun x v G1 H1 e1 r1 q1 => ?_
  refine b2 G1 H1 env σ _ _ (ok.ext e1) q1 fun l G2 H2 e2 q2 => ?_
  refine c2 G2 H2 env σ _ _ ((ok.ext e1).ext e2) q2 fun r G3 H3 e3 q3 => ?_
  have r3 := (r1.mono e2.h e2.g).mono e3.h e3.g
  have x3 := (e1.trans e2).trans e3
  unfold slPL at q3
  split at q3
  · obtain ⟨m, vs, rfl, hl, rs⟩ := r3.lst e3.s
    exact ⟨m, vs, rfl, SqL.of hl, fun p hn => k _ p G3 _ (x3.trans (Ext.newH e3.s hn)) (.lst upd_same (rs.cut l r)) (e3.s.free hn) (x3.h.free hn) q3⟩
  · obtain ⟨m, vs, rfl, hl, rs⟩ := r3.scr e3.s
    exact ⟨m, vs, rfl, hl, fun p hn => k _ p G3 _ (x3.trans (Ext.newH e3.s hn)) (.lst upd_same (rs.cut l r)) (e3.s.free hn) (x3.h.free hn) q3⟩
  · exact q3.elim

/-! ### a cell changed: x.append(e), x[i] = e -/
def pApp (i : Nat) (pe : PTE) : PTS := fun PD env => match env[i]? with
  | some (.ow (.lst ds)) => pe env fun d => ds.length < sizeLine ∧ PD.nx (env.set i (.ow (.lst (ds ++ [d]))))
  | _ => False
theorem pus_app (i : Nat) {x : Str} {apos npos p1 : Pos} (he : PuE X e pe)
    (hs : ∀ t, PE X e t → PS X (.Expr (.Call (.Attribute (.Name x npos) "append" apos) [e] [] p1) pos) (tDrop (tBM X.K "list" rAppend (tVar i) (tCons t tNil))) := by exact fun t h => ps_expr (pe_bm PySem.F.plainAttrs_list PySem.F.slot_list_append PySem.F.type_list_append mt_append (pv _) (pa_cons h pa_nil))) :
    PuS X (.Expr (.Call (.Attribute (.Name x npos) "append" apos) [e] [] p1) pos) (pApp i pe) := by
  obtain ⟨t, h1, h2⟩ := he.ex
  refine ⟨_, hs t h1, fun G0 H0 G H env σ PD E r ok hp => ?_⟩
  unfold pApp at hp
  split at hp
  · rename_i ds hi
    obtain ⟨l, hl, tp, n⟩ := r.ok.slot i _ hi
    cases tp with
    | lst hH rs =>
      refine ⟨.ref l, hl, .inl ⟨rfl, _, SqL.of hH⟩, h2 G H env σ _ _ r.ok hp fun d v G' H' x rp z => ?_⟩
      have r' := r.step x
      obtain ⟨l', hl', tp', n'⟩ := r'.ok.slot i _ hi
      rw [hl] at hl'
      cases hl'
      cases tp' with
      | lst hH' rs' =>
        refine ⟨l, _, v, rfl, rfl, hH', by rw [rs'.length]; exact z.1, ?_⟩
        exact ok.nx G' _ _ σ (r'.write hi hl n' (.lst upd_same (rs'.append (.cons rp .nil)))) z.2
  · exact hp.elim
def rSetAll : V → V → V → Hp → (Hp → Prop) → Prop := fun o i v H Q => rSetL o i v H Q ∨ ∃ a H', o = .ref a ∧ DPut H a i v H' ∧ Q H'
theorem set_all (hu : X.A.units + 1 < cLine) : PSet X rSetAll := by
  intro pins s σ H o i v ov iv u Q I ro ri rv h
  rcases h with h | ⟨a, H', rfl, g, q⟩
  · exact set_list pins s σ H o i v ov iv u Q I ro ri rv h
  · obtain rfl : ov = Value.ref a := ro
    exact d_setItem hu I g ri rv fun s4 I4 => ⟨H', I4, q⟩
def setP (d y v : D) (P : D → Prop) : Prop := match d with
  | .lst ds => ∃ k j, y = .int k ∧ ixN ds.length k = some j ∧ P (.lst (ds.set j v))
  | .dk kvs => ∃ k, keyOf y = some k ∧ kvs.length < sizeLine ∧ P (.dk (putD kvs k v))
  | .dt kvs => ∃ k, tkeyOf y = some k ∧ kvs.length < sizeLine ∧ P (.dt (putD kvs k v))
  | _ => False
def pSetI (i : Nat) (pk pe : PTE) : PTS := fun PD env => match env[i]? with
  | some (.ow d) => pe env fun v => pk env fun y => setP d y v fun d' => PD.nx (env.set i (.ow d'))
  | _ => False
theorem pus_setI (i : Nat) {x : Str} {npos tpos : Pos} (hu : X.A.units + 1 < cLine) (hk : PuE X a pa) (he : PuE X e pe)
    (hs : ∀ t u, PE X e t → PE X a u → PS X (.Assign [.Subscript (.Name x npos) a tpos] e pos) (tAsg t (gSub (tVar i) u rSetAll))) :
    PuS X (.Assign [.Subscript (.Name x npos) a tpos] e pos) (pSetI i pa pe) := by
  obtain ⟨t, h1, h2⟩ := he.ex
  obtain ⟨u, g1, g2⟩ := hk.ex
  refine ⟨_, hs t u h1 g1, fun G0 H0 G H env σ PD E r ok hp => ?_⟩
  unfold pSetI at hp
  split at hp
  · rename_i d hi
    refine h2 G H env σ _ _ r.ok hp fun v vv G1 H1 x1 rv z1 => ?_
    obtain ⟨l, hl, tp, n⟩ := (r.step x1).ok.slot i _ hi
    refine ⟨.ref l, hl, g2 G1 H1 env σ _ _ (r.step x1).ok z1 fun y yv G2 H2 x2 ry z2 => ?_⟩
    have r' := (r.step x1).step x2
    have rv' := rv.mono x2.g
    obtain ⟨l', hl', tp', n'⟩ := r'.ok.slot i _ hi
    rw [hl] at hl'
    cases hl'
    unfold setP at z2
    split at z2
    · obtain ⟨k, j, rfl, e1, z2⟩ := z2
      cases ry
      cases tp' with
      | lst hH rs => exact .inl ⟨l, _, k, j, rfl, rfl, hH, by rw [rs.length]; exact e1, ok.nx G2 _ _ σ (r'.write hi hl n' (.lst upd_same (rs.set rv' j))) z2⟩
    · obtain ⟨k, e1, e2, z2⟩ := z2
      cases tp' with
      | dk hH rs =>
        have ek := ry.key e1
        subst ek
        exact .inr ⟨l, _, rfl, .inl ⟨_, k, hH, rfl, by rw [rs.rel.length]; exact e2, rfl⟩, ok.nx G2 _ _ σ (r'.write hi hl n' (.dk upd_same (RepKV.of (rs.rel.put rv')))) z2⟩
    · obtain ⟨k, e1, e2, z2⟩ := z2
      cases tp' with
      | dt hH rs =>
        cases ry with
        | tup hb rb =>
          have ek := rb.keys e1
          subst ek
          exact .inr ⟨l, _, rfl, .inr ⟨_, k, _, hH, rfl, x2.s _ _ hb, by rw [rs.rel.length]; exact e2, rfl⟩, ok.nx G2 _ _ σ (r'.write hi hl n' (.dt upd_same (RepTV.of (rs.rel.put rv')))) z2⟩
        | non => cases e1
        | bl _ => cases e1
        | int _ => cases e1
        | str _ => cases e1
        | lst _ _ => cases e1
        | scr _ _ => cases e1
        | dk _ _ => cases e1
        | dt _ _ => cases e1
        | obj _ _ _ => cases e1
        | err _ _ _ _ => cases e1
    · exact z2.elim
  · exact hp.elim

/-! ### borrowed cells: an expression whose value is no object may read cells as values -/
def scalar : D → Bool
  | .non => true
  | .bl _ => true
  | .int _ => true
  | .str _ => true
  | _ => false
theorem Rep.scal {K : PySem.W.Frag} {mg : MG} {G G' : Hp} {v : V} {d : D} (r : Rep K mg G v d) (h : scalar d = true) : Rep K mg G' v d := by
  cases r with
  | non => exact .non
  | bl b => exact .bl b
  | int i => exact .int i
  | str x => exact .str x
  | tup _ _ => cases h
  | lst _ _ => cases h
  | scr _ _ => cases h
  | dk _ _ => cases h
  | dt _ _ => cases h
  | obj _ _ _ => cases h
  | err _ _ _ _ => cases h
theorem Ok.freeze {K : PySem.W.Frag} {mg : MG} {G H : Hp} {env : List C} {σ : L2.St} (i : Nat) (h : Ok K mg G H env σ) : ∃ G', Ok K mg G' H (frz i env) σ ∧ Same G G' := by
  have r : Rel K mg G G G H env σ := ⟨h, ⟨Same.refl _, h.same, h.same, fun _ e n => absurd e n⟩, fun j d l q s => by
    obtain ⟨m, e1, _, n⟩ := h.slot j _ q
    rw [e1] at s; cases s; exact n⟩
  obtain ⟨G', r', s⟩ := r.freeze i
  exact ⟨G', r'.ok, s⟩
def frzs : List Nat → List C → List C
  | [], env => env
  | i :: is, env => frzs is (frz i env)
theorem Ok.freezes {K : PySem.W.Frag} {mg : MG} {H : Hp} {σ : L2.St} : ∀ (is : List Nat) {G : Hp} {env : List C}, Ok K mg G H env σ → ∃ G', Ok K mg G' H (frzs is env) σ ∧ Same G G'
  | [], G, _, h => ⟨G, h, Same.refl _⟩
  | i :: is, G, env, h => by
    obtain ⟨G1, h1, s1⟩ := h.freeze i
    obtain ⟨G2, h2, s2⟩ := Ok.freezes is h1
    exact ⟨G2, h2, s1.trans s2⟩
def pBor (is : List Nat) (p : PTE) : PTE := fun env P => p (frzs is env) fun d => scalar d = true ∧ P d
theorem pu_bor (is : List Nat) (h : PuE X e pe) : PuE X e (pBor is pe) := by
  obtain ⟨t, h1, h2⟩ := h.ex
  refine ⟨t, h1, fun G H env σ P Q ok hp k => ?_⟩
  obtain ⟨G1, ok1, s1⟩ := ok.freezes is
  refine h2 G1 H _ σ _ _ ok1 hp fun d v G' H' x r q => ?_
  exact k d v G H' ⟨Same.refl _, x.h, ok.same.trans x.h, fun _ e n => absurd e n⟩ (r.scal q.1) q.2
def pBorT (is : List Nat) (p : PTT) : PTT := fun env P => p (frzs is env) P
theorem put_bor {pt : PTT} (is : List Nat) (h : PuT X e pt) : PuT X e (pBorT is pt) := by
  obtain ⟨t, h1, h2⟩ := h.ex
  refine ⟨t, h1, fun G H env σ P Q ok hp k => ?_⟩
  obtain ⟨G1, ok1, s1⟩ := ok.freezes is
  exact h2 G1 H _ σ _ _ ok1 hp fun b G' H' x q => k b G H' ⟨Same.refl _, x.h, ok.same.trans x.h, fun _ e n => absurd e n⟩ q

/-! ### a def's promise, its call -/
abbrev PSp := List D → (D → Prop) → Prop
def spP (K : PySem.W.Frag) (mg : MG) (f : PSp) : Sp := fun vs H Q _ => ∃ (G : Hp) (ds : List D) (P : D → Prop), Same G H ∧ Reps K mg G vs ds ∧ f ds P ∧
  ∀ d v G' H', Ext G H G' H' → Rep K mg G' v d → P d → Q v H'
def pCall (f : PSp) (ps : PTA) : PTE := fun env P => ps env fun ds => f ds P
theorem pu_call {k : Nat} {f : Addr} {fd : FuncData} {ns : List Str} {sp : PSp} {x : Str} {p' : Pos} (F : FnOk X.prog X.w X.K X.mg X.base CX0 k f fd ns (spP X.K X.mg sp)) (hr : Room k X.A) (hm : X.mg x = some (.ref f)) (hk : PySem.W.keepIn X.K (.ref f) = true)
    (hb : Binds X.K fd ns []) (h : PuA X (e :: es) ps) (hg : Gl X x := by rfl) (hdb : (x == ("__debug__" : Str)) = false := by decide) (he : starEach (e :: es) X.env = (false, eval e X.env) :: starEach es X.env := by rfl) (hpl : (backTo pos (starEach es X.env)).any (·.1) = false := by rfl) :
    PuE X (.Call (.Name x p') (e :: es) [] pos) (pCall sp ps) := by
  obtain ⟨t, h1, h2⟩ := h.ex
  refine ⟨_, pe_call F hr hg hm hk hb (dvs := []) .nil pass0 h1 hdb he hpl, fun G H env σ P Q ok hp kk => h2 G H env σ _ _ ok hp fun ds vs G' H' x r q => ?_⟩
  rw [List.append_nil]
  exact ⟨G', ds, P, x.s, r, q, fun d v G2 H2 y r2 q2 => kk d v G2 H2 (x.trans y) r2 q2⟩
theorem pu_call0 {k : Nat} {f : Addr} {fd : FuncData} {ns : List Str} {sp : PSp} {x : Str} {p' : Pos} (F : FnOk X.prog X.w X.K X.mg X.base CX0 k f fd ns (spP X.K X.mg sp)) (hr : Room k X.A) (hm : X.mg x = some (.ref f)) (hk : PySem.W.keepIn X.K (.ref f) = true)
    (hb : Binds X.K fd ns []) (hg : Gl X x := by rfl) (hdb : (x == ("__debug__" : Str)) = false := by decide) :
    PuE X (.Call (.Name x p') [] [] pos) (pCall sp paNil) := by
  refine ⟨_, pe_call0 F hr hg hm hk hb (dvs := []) .nil pass0 hdb, fun G H env σ P Q ok hp kk => ?_⟩
  exact ⟨G, [], P, ok.same, .nil, hp, fun d v G2 H2 y r2 q2 => kk d v G2 H2 y r2 q2⟩
/-- keywords: their values from the left -/
structure PuK (X : Cx) (kws : List Keyword) (p : PTA) : Prop where
  ex : ∃ t : TA, PK X kws t ∧ ∀ (G H : Hp) (env : List C) (σ : L2.St) (P : List D → Prop) (Q : List V → Hp → Prop), Ok X.K X.mg G H env σ → p env P →
    (∀ ds vs G' H', Ext G H G' H' → Reps X.K X.mg G' vs ds → P ds → Q vs H') → t σ H Q
theorem puk_nil : PuK X [] paNil := ⟨_, pk_nil, fun G H env σ P Q ok hp k => k [] [] G H (.refl ok.same) .nil hp⟩
theorem puk_cons {kws : List Keyword} {nm : Option Str} {kpos : Pos} (h : PuE X e pe) (g : PuK X kws ps) : PuK X (⟨nm, e, kpos⟩ :: kws) (paCons pe ps) := by
  obtain ⟨t, h1, h2⟩ := h.ex
  obtain ⟨u, g1, g2⟩ := g.ex
  refine ⟨_, pk_cons h1 g1, fun G H env σ P Q ok hp k => h2 G H env σ _ _ ok hp fun d v G' H' x r q => ?_⟩
  exact g2 G' H' env σ _ _ (ok.ext x) q fun ds vs G2 H2 y rs q2 => k (d :: ds) (v :: vs) G2 H2 (x.trans y) (.cons (r.mono y.g) rs) q2
theorem pe_callN0 {CX : CXT} {k : Nat} {f : Addr} {fd : FuncData} {ps ks : List Str} {sp : Sp} {E : XK} {x : Str} {p pos : Pos} {kws : List Keyword} {tk : TA} {g : List Value → List Value → List Value} {gV : List V → List V → List V}
    (F : FnOk X.prog X.w X.K X.mg X.base CX k f fd ps sp) (hr : Room k X.A) (hg : Gl X x) (hm : X.mg x = some (.ref f)) (hk : PySem.W.keepIn X.K (.ref f) = true) (hb : KBn X.K fd ps 0 ks g gV) (hx : Passes CX X E) (hkw : PK X kws tk)
    (hall : (backToKw pos (keywordEach kws X.env)).all (·.1.isSome) = true := by rfl) (hks : (backToKw pos (keywordEach kws X.env)).filterMap (·.1) = ks := by rfl) (hdb : (x == ("__debug__" : Str)) = false := by decide)
    (hpl : ((backTo pos (starEach [] X.env)).any (·.1) || (backToKw pos (keywordEach kws X.env)).any (·.1.isNone)) = false := by rfl) :
    PE X (.Call (.Name x p) [] kws pos) (tCallN 0 ks.length sp gV E tNil tk) := by
  refine ⟨fun pins s σ H Q I h => ?_⟩
  refine wpAny_Call_Name_kw (ld_glob I hg hm ?_ hdb)
  refine PySem.W.callWith_KW0 (h₀ := X.base) I.ok.mod.kin hk hall ?_ hpl
  refine thn (hkw.run pos pins s σ H _ I h) fun ws s2 ⟨zs, H2, I2, rz, l1, l2, q2⟩ => ⟨I2.kIn, ?_⟩
  rw [hks]
  exact run_fnN (us := []) (vs := []) F hr hb hx I2 .nil rz rfl l2 q2
/-- the parameters in order, each from the positional values or the keywords -/
structure PKB (K : PySem.W.Frag) (fd : FuncData) (ps : List Str) (n : Nat) (ks : List Str) (gD : List D → List D → List D) : Prop where
  ex : ∃ g gV, KBn K fd ps n ks g gV ∧ ∀ (mg : MG) (G : Hp) (vs zs : List V) (ds es : List D), Reps K mg G vs ds → Reps K mg G zs es → vs.length = n → zs.length = ks.length → Reps K mg G (gV vs zs) (gD ds es)
def pCallK (f : PSp) (n m : Nat) (gD : List D → List D → List D) (ps qs : PTA) : PTE := fun env P => ps env fun ds => qs env fun es => ds.length = n ∧ es.length = m ∧ f (gD ds es) P
theorem pu_callK {k n m : Nat} {f : Addr} {fd : FuncData} {ns ks : List Str} {sp : PSp} {x : Str} {p' : Pos} {kws : List Keyword} {qs : PTA} {gD : List D → List D → List D} (F : FnOk X.prog X.w X.K X.mg X.base CX0 k f fd ns (spP X.K X.mg sp)) (hr : Room k X.A) (hm : X.mg x = some (.ref f)) (hk : PySem.W.keepIn X.K (.ref f) = true)
    (hb : PKB X.K fd ns n ks gD) (hml : ks.length = m) (h : PuA X (e :: es) ps) (hkw : PuK X kws qs) (hg : Gl X x := by rfl) (hall : (backToKw pos (keywordEach kws X.env)).all (·.1.isSome) = true := by rfl) (hks : (backToKw pos (keywordEach kws X.env)).filterMap (·.1) = ks := by rfl)
    (hdb : (x == ("__debug__" : Str)) = false := by decide) (he : starEach (e :: es) X.env = (false, eval e X.env) :: starEach es X.env := by rfl)
    (hpl : ((backTo pos (starEach (e :: es) X.env)).any (·.1) || (backToKw pos (keywordEach kws X.env)).any (·.1.isNone)) = false := by rfl) :
    PuE X (.Call (.Name x p') (e :: es) kws pos) (pCallK sp n m gD ps qs) := by
  subst hml
  obtain ⟨t, h1, h2⟩ := h.ex
  obtain ⟨u, g1, g2⟩ := hkw.ex
  obtain ⟨g, gV, kb, kr⟩ := hb.ex
  refine ⟨_, pe_callN F hr hg hm hk kb pass0 h1 g1 hall hks hdb he hpl, fun G H env σ P Q ok hp kk => h2 G H env σ _ _ ok hp fun ds vs G' H' x r q => ?_⟩
  refine g2 G' H' env σ _ _ (ok.ext x) q fun es zs G2 H2 y rz q2 => ?_
  have r2 := r.mono y.g
  refine ⟨r2.length.trans q2.1, rz.length.trans q2.2.1, G2, _, P, y.s, kr _ _ _ _ _ _ r2 rz (r2.length.trans q2.1) (rz.length.trans q2.2.1), q2.2.2, fun d v G3 H3 z r3 q3 => kk d v G3 H3 ((x.trans y).trans z) r3 q3⟩
theorem pu_callK0 {k m : Nat} {f : Addr} {fd : FuncData} {ns ks : List Str} {sp : PSp} {x : Str} {p' : Pos} {kws : List Keyword} {qs : PTA} {gD : List D → List D → List D} (F : FnOk X.prog X.w X.K X.mg X.base CX0 k f fd ns (spP X.K X.mg sp)) (hr : Room k X.A) (hm : X.mg x = some (.ref f)) (hk : PySem.W.keepIn X.K (.ref f) = true)
    (hb : PKB X.K fd ns 0 ks gD) (hml : ks.length = m) (hkw : PuK X kws qs) (hg : Gl X x := by rfl) (hall : (backToKw pos (keywordEach kws X.env)).all (·.1.isSome) = true := by rfl) (hks : (backToKw pos (keywordEach kws X.env)).filterMap (·.1) = ks := by rfl)
    (hdb : (x == ("__debug__" : Str)) = false := by decide) (hpl : ((backTo pos (starEach [] X.env)).any (·.1) || (backToKw pos (keywordEach kws X.env)).any (·.1.isNone)) = false := by rfl) :
    PuE X (.Call (.Name x p') [] kws pos) (pCallK sp 0 m gD paNil qs) := by
  subst hml
  obtain ⟨u, g1, g2⟩ := hkw.ex
  obtain ⟨g, gV, kb, kr⟩ := hb.ex
  refine ⟨_, pe_callN0 F hr hg hm hk kb pass0 g1 hall hks hdb hpl, fun G H env σ P Q ok hp kk => g2 G H env σ _ _ ok hp fun es zs G2 H2 y rz q2 => ?_⟩
  refine ⟨rfl, rz.length.trans q2.2.1, G2, _, P, y.s, kr _ _ _ _ _ _ .nil rz rfl (rz.length.trans q2.2.1), q2.2.2, fun d v G3 H3 z r3 q3 => kk d v G3 H3 (y.trans z) r3 q3⟩
end

/-- the entry's slots -/
def startC (N : List Str) (ds : List D) : List C := ds.map .fz ++ List.replicate (N.length - ds.length) .un
theorem start_ok {K : PySem.W.Frag} {mg : MG} {G H : Hp} {N : List Str} {vs : List V} {ds : List D} (s : Same G H) (r : Reps K mg G vs ds) : Ok K mg G H (startC N ds) (L2.start N vs) := by
  have hl := r.length
  refine ⟨s, fun i c q => ?_, fun i j d e l q => ?_, by simp [startC, L2.start, hl]⟩
  · by_cases hi : i < ds.length
    · unfold startC at q
      rw [List.getElem?_append_left (by simpa using hi), List.getElem?_map] at q
      cases e : ds[i]? with
      | none => rw [e] at q; cases q
      | some d =>
        rw [e] at q; cases q
        obtain ⟨v, ev, rv⟩ := r.getD e
        refine ⟨v, ?_, rv⟩
        unfold L2.start
        rw [List.getElem?_append_left (by simpa [hl] using hi), List.getElem?_map, ev]; rfl
    · unfold startC at q
      rw [List.getElem?_append_right (by simpa using hi), List.getElem?_replicate] at q
      split at q
      · cases q; trivial
      · cases q
  · have : ∀ (k : Nat) (f : D), (startC N ds)[k]? ≠ some (.ow f) := fun k f z => by
      unfold startC at z
      by_cases hk : k < ds.length
      · rw [List.getElem?_append_left (by simpa using hk), List.getElem?_map] at z
        cases e : ds[k]? with
        | none => rw [e] at z; cases z
        | some d => rw [e] at z; cases z
      · rw [List.getElem?_append_right (by simpa using hk), List.getElem?_replicate] at z
        split at z <;> cases z
    exact absurd q (this i d)
/-- THE RULE for a def over data -/
theorem pfn {P : Program} {w : World} {K : PySem.W.Frag} {mg : MG} {base : Heap} {x qual : Str} {st : Stmt} {f : Addr} {fd : FuncData} {N ns : List Str} {k : Nat} {sp : PSp} (F : Fun K x qual st f fd) (S : FnScope N ns (defScope st)) (hlen : ∀ ds P, sp ds P → ds.length = ns.length)
    (hbody : ∀ (cdv : Value) (A : Around) (outer : List Env) (s : Shared) (H : Hp) (E : XK), Room k (A.deeper (envOfC qual (defScope st) s.heap.objs.size f cdv)) →
      ∃ p : PTS, PuSs (cxOf CX0 P w K mg base N qual (defScope st) f cdv A outer s H E).nox (defBody st) p ∧ ∀ ds Q, sp ds Q → p { nx := fun _ => Q .non, rt := Q } (startC N ds)) : FnOk P w K mg base CX0 (k + 1) f fd ns (spP K mg sp) := by
  refine F.ok S (fun vs H Q E h => ?_) (fun cdv A outer s H vs Q E hr h => ?_)
  · obtain ⟨G, ds, P', _, r, q, _⟩ := h
    rw [r.length]; exact hlen ds P' q
  · obtain ⟨G, ds, P', sm, r, q, kk⟩ := h
    obtain ⟨p, pb, hp⟩ := hbody cdv A outer s H E hr
    obtain ⟨t, t1, t2⟩ := pb.ex
    refine ⟨t, t1, t2 G H G H _ _ { nx := fun _ => P' .non, rt := P' } _ ⟨start_ok sm r, .refl sm, fun i d l q => ?_⟩ ⟨?_, ?_, ?_, ?_, fun _ _ _ _ _ _ _ _ z => z.elim⟩ (hp ds P' q)⟩
    · intro s1
      obtain ⟨m, e1, _, n⟩ := (start_ok (N := N) sm r).slot i _ q
      exfalso
      unfold startC at q
      by_cases hk : i < ds.length
      · rw [List.getElem?_append_left (by simpa using hk), List.getElem?_map] at q
        cases e : ds[i]? with
        | none => rw [e] at q; cases q
        | some d => rw [e] at q; cases q
      · rw [List.getElem?_append_right (by simpa using hk), List.getElem?_replicate] at q
        split at q <;> cases q
    · intro G' H' env σ r' z
      exact kk .non .non G' H' r'.ext .non z
    · intro G' H' env σ r' z; exact z
    · intro G' H' env σ r' z; exact z
    · intro G' H' d v x rp z
      exact kk d v G' H' x rp z
end PL
end

section
set_option linter.all false
set_option maxRecDepth 100000
set_option maxHeartbeats 4000000
set_option autoImplicit false
/-! PL5: list comprehensions over data. -/
namespace PL
open PySem PySem.Spec PyProof.Rows L2

/-- the tests of a clause -/
structure PuTs (X : Cx) (ifs : List Expr) (p : PTT) : Prop where
  ex : ∃ t : TT, PTs X ifs t ∧ ∀ (G H : Hp) (env : List C) (σ : L2.St) (P : Bool → Prop) (Q : Bool → Hp → Prop), Ok X.K X.mg G H env σ → p env P →
    (∀ b G' H', Ext G H G' H' → P b → Q b H') → t σ H Q
def pYes : PTT := fun _ P => P true
section
variable {X : Cx} {e : Expr} {pt : PTT}
theorem puts_nil : PuTs X [] pYes := ⟨_, pts_nil, fun G H env σ P Q ok hp k => k true G H (.refl ok.same) hp⟩
theorem puts_one (h : PuT X e pt) : PuTs X [e] pt := by
  obtain ⟨t, h1, h2⟩ := h.ex
  exact ⟨t, pts_one h1, h2⟩
end

def wipeC (env : List C) : List Nat → List C
  | [] => env
  | v :: vs => (wipeC env vs).set v .un
theorem Ok.un {K : PySem.W.Frag} {mg : MG} {G H : Hp} {env : List C} {σ : L2.St} (h : Ok K mg G H env σ) (i : Nat) : Ok K mg G H (env.set i .un) (σ.set i none) := by
  have low : ∀ {j : Nat} {e : D}, (env.set i .un)[j]? = some (.ow e) → j ≠ i ∧ env[j]? = some (.ow e) := fun {j e} q => by
    rw [List.getElem?_set] at q
    split at q
    · split at q <;> cases q
    · rename_i hij; exact ⟨Ne.symm hij, q⟩
  refine ⟨h.same, fun j c q => ?_, fun j k d e l q1 q2 z1 z2 => ?_, by simp [h.len]⟩
  · rw [List.getElem?_set] at q
    split at q
    · split at q
      · cases q; trivial
      · cases q
    · rename_i hij
      rw [List.getElem?_set_ne hij]
      exact h.slot j c q
  · obtain ⟨n1, e1⟩ := low q1
    obtain ⟨n2, e2⟩ := low q2
    rw [List.getElem?_set_ne (Ne.symm n1)] at z1
    rw [List.getElem?_set_ne (Ne.symm n2)] at z2
    exact h.apart j k d e l e1 e2 z1 z2
theorem Ok.wipe {K : PySem.W.Frag} {mg : MG} {G H : Hp} {env : List C} {σ : L2.St} (h : Ok K mg G H env σ) : ∀ vs : List Nat, Ok K mg G H (wipeC env vs) (wipe σ vs)
  | [] => h
  | v :: vs => (h.wipe vs).un v
theorem wipe_off {is : List Nat} {σ σ' : L2.St} (o : Off is σ σ') {vs : List Nat} (h : ∀ i ∈ is, i ∈ vs) : wipe σ' vs = wipe σ vs := by
  have key : ∀ (τ : L2.St) (j : Nat), (wipe τ vs)[j]? = if j ∈ vs ∧ j < τ.length then some none else τ[j]? := by
    intro τ j
    clear h
    induction vs with
    | nil => simp [wipe]
    | cons v vs ih =>
      unfold wipe
      rw [List.getElem?_set]
      by_cases hv : v = j
      · subst hv
        rw [wipe_length]
        by_cases hl : v < τ.length
        · simp [hl]
        · simp [hl]
      · rw [if_neg hv, ih]
        have : (j ∈ v :: vs) ↔ j ∈ vs := by simp [Ne.symm hv]
        simp only [this]
  apply List.ext_getElem?
  intro j
  rw [key, key, o.1]
  by_cases hj : j ∈ vs
  · by_cases hl : j < σ.length
    · simp [hj, hl]
    · rw [if_neg (fun z => hl z.2), if_neg (fun z => hl z.2), List.getElem?_eq_none (by rw [o.1]; omega), List.getElem?_eq_none (by omega)]
  · rw [if_neg (fun z => hj z.1), if_neg (fun z => hj z.1)]
    exact o.2 j fun z => hj (h j z)

/-- what a list comprehension makes: W by the turn and the items made so far -/
def pLc (pi : PTI) (vs : List Nat) (g : PTG) (pt : PTT) (pe : PTE) : PTE := fun env P => pi env fun S => ∃ W : Nat → List D → Prop, W 0 [] ∧
  (∀ k d acc, k < S.n → S.ob k d → W k acc → g d (wipeC env vs) fun env2 => pt env2 fun b => if b = true then pe env2 fun y => acc.length < sizeLine ∧ W (k + 1) (acc ++ [y]) else W (k + 1) acc) ∧
  ∀ acc, W S.n acc → P (.lst acc)
section
variable {X : Cx} {elt tg iter : Expr} {ifs : List Expr} {scope : Scope} {own : List (Str × Nat)} {pos : Pos} {pi : PTI} {g : PTG} {is : List Nat} {pt : PTT} {pe : PTE}
abbrev BlkG (X : Cx) (scope : Scope) (tg : Expr) (g : PTG) (is : List Nat) : Prop := ∀ (s : Shared) (H : Hp) (C : Addr) (cl : List (Str × Addr)) (fp : List Addr), PuG (X.blk s H scope (compEnvC scope cl C X.env) fp) tg g is
abbrev BlkT (X : Cx) (scope : Scope) (ifs : List Expr) (pt : PTT) : Prop := ∀ (s : Shared) (H : Hp) (C : Addr) (cl : List (Str × Addr)) (fp : List Addr), PuTs (X.blk s H scope (compEnvC scope cl C X.env) fp) ifs pt
abbrev BlkE (X : Cx) (scope : Scope) (elt : Expr) (pe : PTE) : Prop := ∀ (s : Shared) (H : Hp) (C : Addr) (cl : List (Str × Addr)) (fp : List Addr), PuE (X.blk s H scope (compEnvC scope cl C X.env) fp) elt pe
/-- the readings that serve every block -/
def allG (X : Cx) (scope : Scope) (tg : Expr) : TG := fun v σ H Q => ∀ (s : Shared) (H0 : Hp) (C : Addr) (cl : List (Str × Addr)) (fp : List Addr), ∃ t : TG, PG (X.blk s H0 scope (compEnvC scope cl C X.env) fp) tg t ∧ t v σ H Q
def allT (X : Cx) (scope : Scope) (ifs : List Expr) : TT := fun σ H Q => ∀ (s : Shared) (H0 : Hp) (C : Addr) (cl : List (Str × Addr)) (fp : List Addr), ∃ t : TT, PTs (X.blk s H0 scope (compEnvC scope cl C X.env) fp) ifs t ∧ t σ H Q
def allE (X : Cx) (scope : Scope) (elt : Expr) : TE := fun σ H Q => ∀ (s : Shared) (H0 : Hp) (C : Addr) (cl : List (Str × Addr)) (fp : List Addr), ∃ t : TE, PE (X.blk s H0 scope (compEnvC scope cl C X.env) fp) elt t ∧ t σ H Q
theorem allG_ok (s : Shared) (H : Hp) (C : Addr) (cl : List (Str × Addr)) (fp : List Addr) : PG (X.blk s H scope (compEnvC scope cl C X.env) fp) tg (allG X scope tg) :=
  ⟨fun pins s1 σ H1 v u Q I r h => let ⟨_, h1, h2⟩ := h s H C cl fp; h1.run pins s1 σ H1 v u Q I r h2⟩
theorem allT_ok (s : Shared) (H : Hp) (C : Addr) (cl : List (Str × Addr)) (fp : List Addr) : PTs (X.blk s H scope (compEnvC scope cl C X.env) fp) ifs (allT X scope ifs) :=
  ⟨fun pins s1 σ H1 Q I h => let ⟨_, h1, h2⟩ := h s H C cl fp; h1.run pins s1 σ H1 Q I h2⟩
theorem allE_ok (s : Shared) (H : Hp) (C : Addr) (cl : List (Str × Addr)) (fp : List Addr) : PE (X.blk s H scope (compEnvC scope cl C X.env) fp) elt (allE X scope elt) :=
  ⟨fun pins s1 σ H1 Q I h => let ⟨_, h1, h2⟩ := h s H C cl fp; h1.run pins s1 σ H1 Q I h2⟩
theorem lc_reads (hi : PuI X tg iter pi) (hg : BlkG X scope tg g is) (ht : BlkT X scope ifs pt) (he : BlkE X scope elt pe) (vs : List Nat) (hv : ∀ i ∈ is, i ∈ vs) :
    ∃ w : TI, PI X tg iter w ∧ ∀ (G H : Hp) (env : List C) (σ : L2.St) (P : D → Prop) (Q : VK), Ok X.K X.mg G H env σ → pLc pi vs g pt pe env P →
    (∀ d l G' H', Ext G H G' H' → Top X.K X.mg H' G' l d → G' l = none → H l = none → P d → Q (.ref l) H') → tLc w (allG X scope tg) (allT X scope ifs) (allE X scope elt) vs σ H Q := by
  obtain ⟨w, w1, w2⟩ := hi.ex
  refine ⟨w, w1, fun G H env σ P Q ok hp k => ?_⟩
  refine w2 G H env σ _ _ ok hp fun S J G1 H1 x1 wk ⟨W, w0, step, fin⟩ dd hD => ?_
  have nG1 : G1 dd = none := x1.s.free hD
  have ok1 := ok.ext x1
  have nown : ∀ (i : Nat) (d : D), env[i]? = some (.ow d) → ∀ l, σ[i]? = some (some (.ref l)) → l ≠ dd := fun i d q l hl z => by
    obtain ⟨m, e1, t1, _⟩ := ok1.slot i _ q
    rw [hl] at e1
    cases e1
    obtain ⟨o, ho⟩ := t1.some
    rw [z, hD] at ho; cases ho
  -- the state behind a turn
  have turn : ∀ (G2 H2 : Hp) (o : HO), Ok X.K X.mg G2 H2 env σ → Same G1 G2 → G2 dd = none → Same H1 H2 → (∀ a, G1 a = none → G2 a ≠ none → H1 a = none) → Ok X.K X.mg G2 (upd H2 dd o) env σ := fun G2 H2 o ok2 s2 n2 _ _ => by
    refine ⟨fun b u e => ?_, fun i c q => ?_, ok2.apart, ok2.len⟩
    · have : b ≠ dd := fun z => by subst z; rw [n2] at e; cases e
      rw [upd_ne this]; exact ok2.same _ _ e
    · have s := ok2.slot i c q
      cases c with
      | un => trivial
      | fz d => exact s
      | ow d =>
        obtain ⟨l, e1, t1, n1⟩ := s
        have ne := nown i d q l e1
        refine ⟨l, e1, ?_, n1⟩
        cases t1 with
        | lst a r => exact .lst (by rw [upd_ne ne]; exact a) r
        | dk a r => exact .dk (by rw [upd_ne ne]; exact a) r
        | dt a r => exact .dt (by rw [upd_ne ne]; exact a) r
  refine ⟨fun i m H' => m = S.n - i ∧ i ≤ S.n ∧ ∃ G' acc ys, Ok X.K X.mg G' H' env σ ∧ Same G1 G' ∧ Same H1 H' ∧ (∀ a, G1 a = none → G' a ≠ none → H1 a = none) ∧ G' dd = none ∧ H' dd = some (.lst ys) ∧ Reps X.K X.mg G' ys acc ∧ W i acc,
    ⟨S.n, by simp, Nat.zero_le _, G1, [], [], turn G1 H1 _ ok1 (Same.refl _) nG1 (Same.refl _) (fun _ e n => absurd e n), Same.refl _, Same.upd hD, fun _ e n => absurd e n, nG1, upd_same, .nil, w0⟩, ?_⟩
  rintro i m H2 ⟨rfl, hi, G2, acc, ys, ok2, s2, sH2, f2, n2, hd2, ra, w2'⟩
  by_cases hlt : i < S.n
  · refine .inr ⟨wk.go i G2 H2 s2 ok2.same hlt, fun H' => ∃ G' acc ys, Ok X.K X.mg G' H' env σ ∧ Same G1 G' ∧ Same H1 H' ∧ (∀ a, G1 a = none → G' a ≠ none → H1 a = none) ∧ G' dd = none ∧ H' dd = some (.lst ys) ∧ Reps X.K X.mg G' ys acc ∧ W (i + 1) acc, fun H' q => ⟨S.n - (i + 1), by omega, rfl, hlt, q⟩, fun xv H3 y => ?_⟩
    obtain ⟨G3, d, x3, rp, ob⟩ := wk.yld i G2 H2 xv H3 s2 ok2.same hlt y
    have ok3 := ok2.ext x3
    have okw := ok3.wipe vs
    have st := step i d acc hlt ob w2'
    have nd : ∀ {G' H' : Hp}, Ext G2 H2 G' H' → G' dd = none := fun {G' H'} x => by
      cases q : G' dd with
      | none => rfl
      | some o => 
        have := x.f dd n2 (by rw [q]; intro z; cases z)
        rw [hd2] at this; cases this
    intro sB HB CB clB fpB
    obtain ⟨tg', tg1, tg2⟩ := (hg sB HB CB clB fpB).ex
    refine ⟨tg', tg1, ?_⟩
    have rel : Rel X.K X.mg G3 G3 G3 H3 (wipeC env vs) (wipe σ vs) := ⟨okw, ⟨Same.refl _, okw.same, okw.same, fun _ e n => absurd e n⟩, fun j d' l q s => by
      obtain ⟨m, e1, _, n⟩ := okw.slot j _ q
      rw [e1] at s; cases s; exact n⟩
    refine tg2 G3 G3 G3 H3 _ _ d xv _ _ rel rp st fun env4 σ4 r4 o4 q4 => ⟨wipe_off o4 hv |>.trans ?_, ?_⟩
    · -- wiping twice
      have : ∀ vs' : List Nat, (∀ i ∈ vs', i ∈ vs) → wipe (wipe σ vs) vs = wipe σ vs := fun _ _ => by
        apply List.ext_getElem?
        intro j
        have key : ∀ (us : List Nat) (τ : L2.St) (j : Nat), (wipe τ us)[j]? = if j ∈ us ∧ j < τ.length then some none else τ[j]? := by
          intro us τ j
          induction us with
          | nil => simp [wipe]
          | cons v us ih =>
            unfold wipe
            rw [List.getElem?_set]
            by_cases hv : v = j
            · subst hv
              rw [wipe_length]
              by_cases hl : v < τ.length
              · simp [hl]
              · simp [hl]
            · rw [if_neg hv, ih]
              have : (j ∈ v :: us) ↔ j ∈ us := by simp [Ne.symm hv]
              simp only [this]
        rw [key, key, wipe_length]
        split <;> simp_all
      exact this vs fun _ h => h
    · intro sT HT CT clT fpT
      obtain ⟨tt', tt1, tt2⟩ := (ht sT HT CT clT fpT).ex
      refine ⟨tt', tt1, tt2 G3 H3 env4 σ4 _ _ r4.ok q4 fun b G5 H5 x5 q5 => ?_⟩
      have chain5 : Ext G2 H2 G5 H5 := x3.trans x5
      cases b with
      | false =>
        simp only [Bool.false_eq_true, if_false] at q5 ⊢
        refine ⟨G5, acc, ys, ok2.ext chain5, s2.trans chain5.g, sH2.trans chain5.h, fun a e n => ?_, nd chain5, chain5.h _ _ hd2, ra.mono chain5.g, q5⟩
        by_cases z : G2 a = none
        · exact sH2.free (chain5.f a z n)
        · exact f2 a e z
      | true =>
        simp only [if_true] at q5 ⊢
        intro sE HE CE clE fpE
        obtain ⟨te', te1, te2⟩ := (he sE HE CE clE fpE).ex
        refine ⟨te', te1, te2 G5 H5 env4 σ4 _ _ (r4.ok.ext x5) q5 fun yd yv G6 H6 x6 ry q6 => ?_⟩
        have chain6 : Ext G2 H2 G6 H6 := chain5.trans x6
        have ok6 := ok2.ext chain6
        have n6 := nd chain6
        have f6 : ∀ a, G1 a = none → G6 a ≠ none → H1 a = none := fun a e n => by
          by_cases z : G2 a = none
          · exact sH2.free (chain6.f a z n)
          · exact f2 a e z
        refine ⟨ys, chain6.h _ _ hd2, by rw [ra.length]; exact q6.1, G6, acc ++ [yd], ys ++ [yv], turn G6 H6 _ ok6 (s2.trans chain6.g) n6 (sH2.trans chain6.h) f6, s2.trans chain6.g, fun b u e => ?_, f6, n6, upd_same, (ra.mono chain6.g).append (.cons ry .nil), q6.2⟩
        have : b ≠ dd := fun z => by subst z; rw [hD] at e; cases e
        rw [upd_ne this]; exact chain6.h _ _ (sH2 _ _ e)
  · have e : i = S.n := by omega
    subst e
    refine .inl ⟨wk.stop G2 H2 s2 ok2.same, k (.lst acc) dd G2 H2 ⟨x1.g.trans s2, x1.h.trans sH2, ok2.same, fun a e n => ?_⟩ (.lst hd2 ra) n2 (x1.h.free hD) (fin acc w2')⟩
    by_cases z : G1 a = none
    · exact x1.h.free (f2 a z n)
    · exact x1.f a e z
theorem puf_lc {vs : List Nat} (hc : X.calm = true) (hN : X.N.Nodup) (hi : PuI X tg iter pi) (ok : BlkOk X.N X.env.scope scope own) (hg : BlkG X scope tg g is) (ht : BlkT X scope ifs pt) (he : BlkE X scope elt pe)
    (hvs : own.map (·.2) = vs := by rfl) (hv : ∀ i ∈ is, i ∈ vs := by decide) (hs : ∀ x, foldedSetIterable iter X.env x = pure x := by intro _; rfl) : PuF X (.ListComp elt [⟨tg, iter, ifs, 0⟩] scope pos) (pLc pi vs g pt pe) := by
  subst hvs
  obtain ⟨w, w1, w2⟩ := lc_reads hi hg ht he (own.map (·.2)) hv
  exact ⟨_, pe_lc hc hN w1 ok allG_ok allT_ok allE_ok hs, w2⟩
/-- y = [..] -/
theorem pus_setLc (i : Nat) {vs : List Nat} {y : Str} {py spos : Pos} (hc : X.calm = true) (hN : X.N.Nodup) (hi : PuI X tg iter pi) (ok : BlkOk X.N X.env.scope scope own) (hg : BlkG X scope tg g is) (ht : BlkT X scope ifs pt) (he : BlkE X scope elt pe)
    (hy : X.N[i]? = some y := by rfl) (hyl : X.env.scope.names.lookup y = some .local := by rfl)
    (hsw : swapsWith (.ListComp elt [⟨tg, iter, ifs, 0⟩] scope pos) (some (.Name y py)) spos.line X.env = pure true := by exact sw_true rfl rfl rfl (by decide +kernel))
    (hvs : own.map (·.2) = vs := by rfl) (hv : ∀ i ∈ is, i ∈ vs := by decide) (hs : ∀ x, foldedSetIterable iter X.env x = pure x := by intro _; rfl) :
    PuS X (.Assign [.Name y py] (.ListComp elt [⟨tg, iter, ifs, 0⟩] scope pos) spos) (pSetO i (pLc pi vs g pt pe)) := by
  subst hvs
  obtain ⟨w, w1, w2⟩ := lc_reads hi hg ht he (own.map (·.2)) hv
  refine ⟨_, ps_setLc hc hN hy hyl hsw w1 ok allG_ok allT_ok allE_ok hs, fun G0 H0 G H env σ PD E r okE hp => ?_⟩
  refine w2 G H env σ _ _ r.ok hp fun d l G' H' x rp n nH z => ?_
  exact okE.nx G' H' _ _ (setOw_of i r x rp n nH) z
end
end PL
end

section
set_option linter.all false
set_option maxRecDepth 100000
set_option maxHeartbeats 4000000
set_option autoImplicit false
/-! PL6: built-ins over data. -/
namespace PL
open PySem PySem.Spec PyProof.Rows L2

/-- a call by values, carried by a function of data -/
def CallOk (X : Cx) (r : List V → Hp → VK → Prop) (f : PSp) : Prop := ∀ (G H : Hp) (vs : List V) (ds : List D) (P : D → Prop) (Q : VK), Same G H → Shals X.K X.mg H G vs ds → f ds P →
  (∀ d u G' H', Ext G H G' H' → Rep X.K X.mg G' u d → P d → Q u H') → r vs H Q
/-- .. that makes a new cell -/
def CallFOk (X : Cx) (r : List V → Hp → VK → Prop) (f : PSp) : Prop := ∀ (G H : Hp) (vs : List V) (ds : List D) (P : D → Prop) (Q : VK), Same G H → Shals X.K X.mg H G vs ds → f ds P →
  (∀ d l G' H', Ext G H G' H' → Top X.K X.mg H' G' l d → G' l = none → H l = none → P d → Q (.ref l) H') → r vs H Q
section
variable {X : Cx} {e a b : Expr} {es : List Expr} {pe pa pb : PTE} {ps : PTA} {pos p' : Pos} {x : Str} {id : String} {r : List V → Hp → VK → Prop} {f : PSp}
theorem pu_bi (hc : CallR X (.builtin id) r) (hf : CallOk X r f) (hm : X.mg x = none) (h : PuAO X (e :: es) ps) (hg : Gl X x := by rfl) (hv : bootBuiltins x = some (.builtin id) := by decide +kernel) (hn : x ≠ "__name__" := by decide) (hdb : (x == ("__debug__" : Str)) = false := by decide)
    (he : starEach (e :: es) X.env = (false, eval e X.env) :: starEach es X.env := by rfl) (hpl : (backTo pos (starEach es X.env)).any (·.1) = false := by rfl) : PuE X (.Call (.Name x p') (e :: es) [] pos) (pCall f ps) := by
  obtain ⟨t, h1, h2⟩ := h.ex
  refine ⟨_, pe_callB hc hg hm hv h1 hn hdb he hpl, fun G H env σ P Q ok hp k => h2 G H env σ _ _ ok hp fun ds vs G' H' y rs q => ?_⟩
  exact hf G' H' vs ds P Q y.s rs q fun d u G2 H2 z r2 q2 => k d u G2 H2 (y.trans z) r2 q2
theorem pu_ty {T : String} (hc : CallR X (.type T) r) (hf : CallOk X r f) (hm : X.mg x = none) (h : PuAO X (e :: es) ps) (hg : Gl X x := by rfl) (hv : bootBuiltins x = some (.type T) := by decide +kernel) (hn : x ≠ "__name__" := by decide) (hdb : (x == ("__debug__" : Str)) = false := by decide)
    (he : starEach (e :: es) X.env = (false, eval e X.env) :: starEach es X.env := by rfl) (hpl : (backTo pos (starEach es X.env)).any (·.1) = false := by rfl) : PuE X (.Call (.Name x p') (e :: es) [] pos) (pCall f ps) := by
  obtain ⟨t, h1, h2⟩ := h.ex
  refine ⟨_, pe_callTy hc hg hm hv h1 hn hdb he hpl, fun G H env σ P Q ok hp k => h2 G H env σ _ _ ok hp fun ds vs G' H' y rs q => ?_⟩
  exact hf G' H' vs ds P Q y.s rs q fun d u G2 H2 z r2 q2 => k d u G2 H2 (y.trans z) r2 q2
theorem puf_bi (hc : CallR X (.builtin id) r) (hf : CallFOk X r f) (hm : X.mg x = none) (h : PuAO X (e :: es) ps) (hg : Gl X x := by rfl) (hv : bootBuiltins x = some (.builtin id) := by decide +kernel) (hn : x ≠ "__name__" := by decide) (hdb : (x == ("__debug__" : Str)) = false := by decide)
    (he : starEach (e :: es) X.env = (false, eval e X.env) :: starEach es X.env := by rfl) (hpl : (backTo pos (starEach es X.env)).any (·.1) = false := by rfl) : PuF X (.Call (.Name x p') (e :: es) [] pos) (pCall f ps) := by
  obtain ⟨t, h1, h2⟩ := h.ex
  refine ⟨_, pe_callB hc hg hm hv h1 hn hdb he hpl, fun G H env σ P Q ok hp k => h2 G H env σ _ _ ok hp fun ds vs G' H' y rs q => ?_⟩
  exact hf G' H' vs ds P Q y.s rs q fun d l G2 H2 z r2 n1 n2 q2 => k d l G2 H2 (y.trans z) r2 n1 (y.h.free n2) q2
theorem puf_ty {T : String} (hc : CallR X (.type T) r) (hf : CallFOk X r f) (hm : X.mg x = none) (h : PuAO X (e :: es) ps) (hg : Gl X x := by rfl) (hv : bootBuiltins x = some (.type T) := by decide +kernel) (hn : x ≠ "__name__" := by decide) (hdb : (x == ("__debug__" : Str)) = false := by decide)
    (he : starEach (e :: es) X.env = (false, eval e X.env) :: starEach es X.env := by rfl) (hpl : (backTo pos (starEach es X.env)).any (·.1) = false := by rfl) : PuF X (.Call (.Name x p') (e :: es) [] pos) (pCall f ps) := by
  obtain ⟨t, h1, h2⟩ := h.ex
  refine ⟨_, pe_callTy hc hg hm hv h1 hn hdb he hpl, fun G H env σ P Q ok hp k => h2 G H env σ _ _ ok hp fun ds vs G' H' y rs q => ?_⟩
  exact hf G' H' vs ds P Q y.s rs q fun d l G2 H2 z r2 n1 n2 q2 => k d l G2 H2 (y.trans z) r2 n1 (y.h.free n2) q2

/-! ### len -/
def lenP : PSp := fun ds P => match ds with
  | [.lst xs] => P (.int xs.length)
  | [.tup xs] => P (.int xs.length)
  | [.scr xs] => P (.int xs.length)
  | [.str z] => z.length ≤ sizeLine ∧ P (.int z.length)
  | [.dk kvs] => P (.int kvs.length)
  | _ => False
theorem one_shal {K : PySem.W.Frag} {mg : MG} {G H : Hp} {vs : List V} {d : D} (h : Shals K mg H G vs [d]) : ∃ v, vs = [v] ∧ Shal K mg H G v d := by
  cases h with
  | cons r t => cases t; exact ⟨_, rfl, r⟩
theorem two_shal {K : PySem.W.Frag} {mg : MG} {G H : Hp} {vs : List V} {d f : D} (h : Shals K mg H G vs [d, f]) : ∃ v w, vs = [v, w] ∧ Shal K mg H G v d ∧ Shal K mg H G w f := by
  cases h with
  | cons r t =>
    obtain ⟨w, rfl, r2⟩ := one_shal t
    exact ⟨_, _, rfl, r, r2⟩
theorem three_shal {K : PySem.W.Frag} {mg : MG} {G H : Hp} {vs : List V} {d f g : D} (h : Shals K mg H G vs [d, f, g]) : ∃ v w u, vs = [v, w, u] ∧ Shal K mg H G v d ∧ Shal K mg H G w f ∧ Shal K mg H G u g := by
  cases h with
  | cons r t =>
    obtain ⟨w, u, rfl, r2, r3⟩ := two_shal t
    exact ⟨_, _, _, rfl, r, r2, r3⟩
def rLenAll (K : PySem.W.Frag) : List V → Hp → VK → Prop := fun xs H Q => (∃ x n, xs = [x] ∧ LenV K x H n ∧ Q (.int n) H) ∨ ∃ a kvs, xs = [V.ref a] ∧ Rd H a (.dK kvs) ∧ Q (.int kvs.length) H
theorem call_lenRd : CallR X (.builtin "len") (fun xs H Q => ∃ a kvs, xs = [V.ref a] ∧ Rd H a (.dK kvs) ∧ Q (.int kvs.length) H) := by
  intro pins s σ H xs us Q I r ⟨a, kvs, e, ha, q⟩
  subst e
  obtain ⟨u, rfl, ru⟩ := vals1 r
  cases ru
  refine d_len I ha fun t s' J => ⟨.int kvs.length, H, J, ⟨t, rfl⟩, q⟩
theorem cr_len : CallR X (.builtin "len") (rLenAll X.K) := CallR.or call_len call_lenRd
theorem lenP_ok : CallOk X (rLenAll X.K) lenP := by
  intro G H vs ds P Q s rs h k
  unfold lenP at h
  split at h
  · obtain ⟨v, rfl, r⟩ := one_shal rs
    obtain ⟨l, ws, rfl, hl, rr⟩ := r.lst s
    exact .inl ⟨_, _, rfl, .inl ⟨ws, SqL.of hl, rfl⟩, k _ _ G H (.refl s) (by rw [rr.length]; exact .int _) h⟩
  · obtain ⟨v, rfl, r⟩ := one_shal rs
    obtain ⟨l, ws, rfl, hl, rr⟩ := r.tup s
    exact .inl ⟨_, _, rfl, .inr ⟨ws, SqT.of hl, rfl⟩, k _ _ G H (.refl s) (by rw [rr.length]; exact .int _) h⟩
  · obtain ⟨v, rfl, r⟩ := one_shal rs
    obtain ⟨l, ws, rfl, hl, rr⟩ := r.scr s
    exact .inl ⟨_, _, rfl, .inl ⟨ws, hl, rfl⟩, k _ _ G H (.refl s) (by rw [rr.length]; exact .int _) h⟩
  · obtain ⟨v, rfl, r⟩ := one_shal rs
    cases r.str
    exact .inl ⟨_, _, rfl, ⟨h.1, rfl⟩, k _ _ G H (.refl s) (.int _) h.2⟩
  · obtain ⟨v, rfl, r⟩ := one_shal rs
    obtain ⟨l, ws, rfl, hl, rr⟩ := r.dk s
    exact .inr ⟨l, ws, rfl, hl, k _ _ G H (.refl s) (by rw [rr.rel.length]; exact .int _) h⟩
  · exact h.elim
theorem pu_len (hm : X.mg "len" = none) (h : PuO X a pa) (hs : starEach [a] X.env = (false, eval a X.env) :: starEach [] X.env := by rfl) (hg : Gl X "len" := by rfl) : PuE X (.Call (.Name "len" p') [a] [] pos) (pCall lenP (paCons pa paNil)) :=
  pu_bi cr_len lenP_ok hm (puao_cons h puao_nil hs) hg (by decide +kernel) (by decide) (by decide) hs rfl

/-! ### int, min, max, sum -/
def intP : PSp := fun ds P => match ds with
  | [.int i] => P (.int i)
  | [.bl k] => P (.int (if k then 1 else 0))
  | _ => False
theorem intP_ok : CallOk X (fun xs H Q => (∃ i, xs = [.int i] ∧ Q (.int i) H) ∨ ∃ k, xs = [.bl k] ∧ Q (.int (if k then 1 else 0)) H) intP := by
  intro G H vs ds P Q s rs h k
  unfold intP at h
  split at h
  · obtain ⟨v, rfl, r⟩ := one_shal rs
    cases r.int
    exact .inl ⟨_, rfl, k _ _ G H (.refl s) (.int _) h⟩
  · obtain ⟨v, rfl, r⟩ := one_shal rs
    cases r.bl
    exact .inr ⟨_, rfl, k _ _ G H (.refl s) (.int _) h⟩
  · exact h.elim
theorem pu_int1 (hm : X.mg "int" = none) (h : PuO X a pa) (hs : starEach [a] X.env = (false, eval a X.env) :: starEach [] X.env := by rfl) (hg : Gl X "int" := by rfl) : PuE X (.Call (.Name "int" p') [a] [] pos) (pCall intP (paCons pa paNil)) :=
  pu_ty call_int1 intP_ok hm (puao_cons h puao_nil hs) hg (by decide +kernel) (by decide) (by decide) hs rfl

theorem call_max3 (hc : X.calm = true) : CallR X (.builtin "max") (fun xs H Q => ∃ i j k, xs = [.int i, .int j, .int k] ∧ Q (.int (max (max i j) k)) H) := by
  intro pins s σ H xs us Q I r h
  obtain ⟨i, j, k, rfl, q⟩ := h
  cases r with
  | cons r1 r => cases r with
    | cons r2 r => cases r with
      | cons r3 r =>
        cases r
        obtain ⟨t1, rfl⟩ := r1
        obtain ⟨t2, rfl⟩ := r2
        obtain ⟨t3, rfl⟩ := r3
        refine max_three_ints (I.ok.hd hc) fun h' tk kk => ⟨_, H, I.kept kk, ?_, q⟩
        by_cases h1 : j > i
        · rw [if_pos h1]
          by_cases h2 : k > j
          · rw [if_pos h2]; exact ⟨_, by rw [show max (max i j) k = k by omega]⟩
          · rw [if_neg h2]; exact ⟨_, by rw [show max (max i j) k = j by omega]⟩
        · rw [if_neg h1]
          by_cases h2 : k > i
          · rw [if_pos h2]; exact ⟨_, by rw [show max (max i j) k = k by omega]⟩
          · rw [if_neg h2]; exact ⟨_, by rw [show max (max i j) k = i by omega]⟩
theorem call_min3 (hc : X.calm = true) : CallR X (.builtin "min") (fun xs H Q => ∃ i j k, xs = [.int i, .int j, .int k] ∧ Q (.int (min (min i j) k)) H) := by
  intro pins s σ H xs us Q I r h
  obtain ⟨i, j, k, rfl, q⟩ := h
  cases r with
  | cons r1 r => cases r with
    | cons r2 r => cases r with
      | cons r3 r =>
        cases r
        obtain ⟨t1, rfl⟩ := r1
        obtain ⟨t2, rfl⟩ := r2
        obtain ⟨t3, rfl⟩ := r3
        refine min_three_ints (I.ok.hd hc) fun h' tk kk => ⟨_, H, I.kept kk, ?_, q⟩
        by_cases h1 : j < i
        · rw [if_pos h1]
          by_cases h2 : k < j
          · rw [if_pos h2]; exact ⟨_, by rw [show min (min i j) k = k by omega]⟩
          · rw [if_neg h2]; exact ⟨_, by rw [show min (min i j) k = j by omega]⟩
        · rw [if_neg h1]
          by_cases h2 : k < i
          · rw [if_pos h2]; exact ⟨_, by rw [show min (min i j) k = k by omega]⟩
          · rw [if_neg h2]; exact ⟨_, by rw [show min (min i j) k = i by omega]⟩
def intsOf : List D → Option (List Int)
  | [] => some []
  | .int i :: ds => (intsOf ds).map (i :: ·)
  | _ :: _ => none
theorem intsOf_eq : ∀ {ds : List D} {ns : List Int}, intsOf ds = some ns → ds = ns.map D.int
  | [], ns, h => by cases h; rfl
  | .int i :: ds, ns, h => by
    unfold intsOf at h
    cases e : intsOf ds with
    | none => rw [e] at h; cases h
    | some ms => rw [e] at h; cases h; rw [intsOf_eq e]; rfl
  | .non :: ds, ns, h => by cases h
  | .bl _ :: ds, ns, h => by cases h
  | .str _ :: ds, ns, h => by cases h
  | .tup _ :: ds, ns, h => by cases h
  | .lst _ :: ds, ns, h => by cases h
  | .scr _ :: ds, ns, h => by cases h
  | .dk _ :: ds, ns, h => by cases h
  | .dt _ :: ds, ns, h => by cases h
  | .obj _ _ :: ds, ns, h => by cases h
  | .err _ _ :: ds, ns, h => by cases h
theorem intsOf_map (ns : List Int) : intsOf (ns.map D.int) = some ns := by
  induction ns with
  | nil => rfl
  | cons n ns ih => simp [intsOf, ih]
theorem reps_ints {K : PySem.W.Frag} {mg : MG} {G : Hp} {vs : List V} {ds : List D} {ns : List Int} (r : Reps K mg G vs ds) (h : intsOf ds = some ns) : vs = ns.map V.int := by
  rw [intsOf_eq h] at r; exact r.ints
/-- the items of a list, tuple or the script -/
def lstOf : D → Option (List D)
  | .lst ds => some ds
  | .scr ds => some ds
  | _ => none
theorem Shal.sql {K : PySem.W.Frag} {mg : MG} {G H : Hp} {v : V} {d : D} {ds : List D} (h : Shal K mg H G v d) (s : Same G H) (e : lstOf d = some ds) : ∃ l vs, v = .ref l ∧ SqL K H l vs ∧ Reps K mg G vs ds := by
  cases d with
  | lst ds' =>
    cases e
    obtain ⟨l, vs, a, b, c⟩ := h.lst s
    exact ⟨l, vs, a, SqL.of b, c⟩
  | scr ds' => cases e; exact h.scr s
  | non => cases e
  | bl _ => cases e
  | int _ => cases e
  | str _ => cases e
  | tup _ => cases e
  | dk _ => cases e
  | dt _ => cases e
  | obj _ _ => cases e
  | err _ _ => cases e
def maxP : PSp := fun ds P => match ds with
  | [.int i, .int j] => P (.int (max i j))
  | [.int i, .int j, .int k] => P (.int (max (max i j) k))
  | [d] => ∃ xs ns, lstOf d = some xs ∧ intsOf xs = some ns ∧ 0 < ns.length ∧ ∀ m, m ∈ ns → (∀ y, y ∈ ns → y ≤ m) → P (.int m)
  | _ => False
def minP : PSp := fun ds P => match ds with
  | [.int i, .int j] => P (.int (min i j))
  | [.int i, .int j, .int k] => P (.int (min (min i j) k))
  | [d] => ∃ xs ns, lstOf d = some xs ∧ intsOf xs = some ns ∧ 0 < ns.length ∧ ∀ m, m ∈ ns → (∀ y, y ∈ ns → m ≤ y) → P (.int m)
  | _ => False
def rMaxAll (K : PySem.W.Frag) : List V → Hp → VK → Prop := fun xs H Q => (∃ i j, xs = [.int i, .int j] ∧ Q (.int (if j > i then j else i)) H) ∨ (∃ i j k, xs = [.int i, .int j, .int k] ∧ Q (.int (max (max i j) k)) H) ∨ rMax K xs H Q
def rMinAll (K : PySem.W.Frag) : List V → Hp → VK → Prop := fun xs H Q => (∃ i j, xs = [.int i, .int j] ∧ Q (.int (if j < i then j else i)) H) ∨ (∃ i j k, xs = [.int i, .int j, .int k] ∧ Q (.int (min (min i j) k)) H) ∨ rMin K xs H Q
theorem maxP_ok : CallOk X (rMaxAll X.K) maxP := by
  intro G H vs ds P Q s rs h k
  unfold maxP at h
  split at h
  · rename_i i j
    obtain ⟨v, w, rfl, r1, r2⟩ := two_shal rs
    cases r1.int; cases r2.int
    refine .inl ⟨_, _, rfl, ?_⟩
    rw [show (if j > i then j else i) = max i j by omega]
    exact k _ _ G H (.refl s) (.int _) h
  · obtain ⟨v, w, u, rfl, r1, r2, r3⟩ := three_shal rs
    cases r1.int; cases r2.int; cases r3.int
    exact .inr (.inl ⟨_, _, _, rfl, k _ _ G H (.refl s) (.int _) h⟩)
  · obtain ⟨xs, ns, e1, e2, e3, h⟩ := h
    obtain ⟨v, rfl, r⟩ := one_shal rs
    obtain ⟨l, ws, rfl, hl, rr⟩ := r.sql s e1
    have ew := reps_ints rr e2
    subst ew
    exact .inr (.inr ⟨l, ns, rfl, hl, e3, fun m hm hle => k _ _ G H (.refl s) (.int _) (h m hm hle)⟩)
  · exact h.elim
theorem minP_ok : CallOk X (rMinAll X.K) minP := by
  intro G H vs ds P Q s rs h k
  unfold minP at h
  split at h
  · rename_i i j
    obtain ⟨v, w, rfl, r1, r2⟩ := two_shal rs
    cases r1.int; cases r2.int
    refine .inl ⟨_, _, rfl, ?_⟩
    rw [show (if j < i then j else i) = min i j by omega]
    exact k _ _ G H (.refl s) (.int _) h
  · obtain ⟨v, w, u, rfl, r1, r2, r3⟩ := three_shal rs
    cases r1.int; cases r2.int; cases r3.int
    exact .inr (.inl ⟨_, _, _, rfl, k _ _ G H (.refl s) (.int _) h⟩)
  · obtain ⟨xs, ns, e1, e2, e3, h⟩ := h
    obtain ⟨v, rfl, r⟩ := one_shal rs
    obtain ⟨l, ws, rfl, hl, rr⟩ := r.sql s e1
    have ew := reps_ints rr e2
    subst ew
    exact .inr (.inr ⟨l, ns, rfl, hl, e3, fun m hm hle => k _ _ G H (.refl s) (.int _) (h m hm hle)⟩)
  · exact h.elim
theorem cr_maxAll (hc : X.calm = true) : CallR X (.builtin "max") (rMaxAll X.K) := CallR.or (call_max2 hc) (CallR.or (call_max3 hc) (cr_max hc))
theorem cr_minAll (hc : X.calm = true) : CallR X (.builtin "min") (rMinAll X.K) := CallR.or (call_min2 hc) (CallR.or (call_min3 hc) (cr_min hc))
theorem pu_max (hc : X.calm = true) (hm : X.mg "max" = none) (h : PuAO X (e :: es) ps) (hg : Gl X "max" := by rfl) (he : starEach (e :: es) X.env = (false, eval e X.env) :: starEach es X.env := by rfl) (hpl : (backTo pos (starEach es X.env)).any (·.1) = false := by rfl) :
    PuE X (.Call (.Name "max" p') (e :: es) [] pos) (pCall maxP ps) := pu_bi (cr_maxAll hc) maxP_ok hm h hg (by decide +kernel) (by decide) (by decide) he hpl
theorem pu_min (hc : X.calm = true) (hm : X.mg "min" = none) (h : PuAO X (e :: es) ps) (hg : Gl X "min" := by rfl) (he : starEach (e :: es) X.env = (false, eval e X.env) :: starEach es X.env := by rfl) (hpl : (backTo pos (starEach es X.env)).any (·.1) = false := by rfl) :
    PuE X (.Call (.Name "min" p') (e :: es) [] pos) (pCall minP ps) := pu_bi (cr_minAll hc) minP_ok hm h hg (by decide +kernel) (by decide) (by decide) he hpl
def sumP : PSp := fun ds P => match ds with
  | [d] => ∃ xs ns, lstOf d = some xs ∧ intsOf xs = some ns ∧ P (.int ns.sum)
  | _ => False
theorem sumP_ok : CallOk X (rSum X.K) sumP := by
  intro G H vs ds P Q s rs h k
  unfold sumP at h
  split at h
  · obtain ⟨xs, ns, e1, e2, h⟩ := h
    obtain ⟨v, rfl, r⟩ := one_shal rs
    obtain ⟨l, ws, rfl, hl, rr⟩ := r.sql s e1
    have ew := reps_ints rr e2
    subst ew
    exact ⟨l, ns, rfl, hl, k _ _ G H (.refl s) (.int _) h⟩
  · exact h.elim
theorem pu_sum (hc : X.calm = true) (hm : X.mg "sum" = none) (h : PuO X a pa) (hs : starEach [a] X.env = (false, eval a X.env) :: starEach [] X.env := by rfl) (hg : Gl X "sum" := by rfl) : PuE X (.Call (.Name "sum" p') [a] [] pos) (pCall sumP (paCons pa paNil)) :=
  pu_bi (cr_sum hc) sumP_ok hm (puao_cons h puao_nil hs) hg (by decide +kernel) (by decide) (by decide) hs rfl

/-! ### list, tuple, sorted -/
def itemsOf : D → Option (List D)
  | .lst ds => some ds
  | .scr ds => some ds
  | .tup ds => some ds
  | _ => none
def listP : PSp := fun ds P => match ds with
  | [d] => ∃ xs, itemsOf d = some xs ∧ P (.lst xs)
  | _ => False
theorem Shal.items {K : PySem.W.Frag} {mg : MG} {G H : Hp} {v : V} {d : D} {ds : List D} (h : Shal K mg H G v d) (s : Same G H) (e : itemsOf d = some ds) : ∃ l vs, v = .ref l ∧ (SqL K H l vs ∨ SqT K H l vs) ∧ Reps K mg G vs ds := by
  cases d with
  | lst ds' =>
    cases e
    obtain ⟨l, vs, a, b, c⟩ := h.lst s
    exact ⟨l, vs, a, .inl (SqL.of b), c⟩
  | scr ds' =>
    cases e
    obtain ⟨l, vs, a, b, c⟩ := h.scr s
    exact ⟨l, vs, a, .inl b, c⟩
  | tup ds' =>
    cases e
    obtain ⟨l, vs, a, b, c⟩ := h.tup s
    exact ⟨l, vs, a, .inr (SqT.of b), c⟩
  | non => cases e
  | bl _ => cases e
  | int _ => cases e
  | str _ => cases e
  | dk _ => cases e
  | dt _ => cases e
  | obj _ _ => cases e
  | err _ _ => cases e
theorem listP_ok : CallFOk X (fun xs H Q => ∃ p ys, xs = [.ref p] ∧ (SqL X.K H p ys ∨ SqT X.K H p ys) ∧ ∀ l, H l = none → Q (.ref l) (upd H l (.lst ys))) listP := by
  intro G H vs ds P Q s rs h k
  unfold listP at h
  split at h
  · obtain ⟨xs, e1, h⟩ := h
    obtain ⟨v, rfl, r⟩ := one_shal rs
    obtain ⟨l, ws, rfl, hl, rr⟩ := r.items s e1
    exact ⟨l, ws, rfl, hl, fun p hn => k _ p G _ (Ext.newH s hn) (.lst upd_same rr) (s.free hn) hn h⟩
  · exact h.elim
theorem puf_list (hm : X.mg "list" = none) (h : PuO X a pa) (hs : starEach [a] X.env = (false, eval a X.env) :: starEach [] X.env := by rfl) (hg : Gl X "list" := by rfl) : PuF X (.Call (.Name "list" p') [a] [] pos) (pCall listP (paCons pa paNil)) :=
  puf_ty call_list_of listP_ok hm (puao_cons h puao_nil hs) hg (by decide +kernel) (by decide) (by decide) hs rfl
def tupleP : PSp := fun ds P => match ds with
  | [d] => ∃ xs, itemsOf d = some xs ∧ P (.tup xs)
  | _ => False
theorem tupleP_ok : CallOk X (fun xs H Q => ∃ p ys, xs = [.ref p] ∧ ((SqL X.K H p ys ∧ ∀ l, H l = none → Q (.ref l) (upd H l (.tup ys))) ∨ (SqT X.K H p ys ∧ Q (.ref p) H))) tupleP := by
  intro G H vs ds P Q s rs h k
  unfold tupleP at h
  split at h
  · rename_i d
    obtain ⟨xs, e1, h⟩ := h
    obtain ⟨v, rfl, r⟩ := one_shal rs
    cases d with
    | tup ds' =>
      cases e1
      obtain ⟨l, ws, rfl, hl, rr⟩ := r.tup s
      refine ⟨l, ws, rfl, .inr ⟨SqT.of hl, k _ _ G H (.refl s) ?_ h⟩⟩
      rcases r with r | ⟨_, _, t⟩
      · exact r
      · cases t
    | lst ds' =>
      cases e1
      obtain ⟨l, ws, rfl, hl, rr⟩ := r.lst s
      exact ⟨l, ws, rfl, .inl ⟨SqL.of hl, fun p hn => k _ _ _ _ (Ext.new s hn) (.tup upd_same (rr.mono (Same.upd (s.free hn)))) h⟩⟩
    | scr ds' =>
      cases e1
      obtain ⟨l, ws, rfl, hl, rr⟩ := r.scr s
      exact ⟨l, ws, rfl, .inl ⟨hl, fun p hn => k _ _ _ _ (Ext.new s hn) (.tup upd_same (rr.mono (Same.upd (s.free hn)))) h⟩⟩
    | non => cases e1
    | bl _ => cases e1
    | int _ => cases e1
    | str _ => cases e1
    | dk _ => cases e1
    | dt _ => cases e1
    | obj _ _ => cases e1
    | err _ _ => cases e1
  · exact h.elim
theorem pu_tuple (hm : X.mg "tuple" = none) (h : PuO X a pa) (hs : starEach [a] X.env = (false, eval a X.env) :: starEach [] X.env := by rfl) (hg : Gl X "tuple" := by rfl) : PuE X (.Call (.Name "tuple" p') [a] [] pos) (pCall tupleP (paCons pa paNil)) :=
  pu_ty call_tuple_of tupleP_ok hm (puao_cons h puao_nil hs) hg (by decide +kernel) (by decide) (by decide) hs rfl
/-- list(range(..)) -/
def lr1 (P : D → Prop) : D → Prop := fun d => match d with
  | .int n => RgOk 0 n ∧ P (.lst ((List.range n.toNat).map fun (i : Nat) => D.int (i : Int)))
  | _ => False
def pLr1 (pa : PTE) : PTE := fun env P => pa env (lr1 P)
theorem rg_reps {K : PySem.W.Frag} {mg : MG} {G : Hp} (a b : Int) : Reps K mg G (rgV a b) ((List.range (b - a).toNat).map fun (i : Nat) => D.int (a + (i : Int))) := by
  unfold rgV
  generalize (b - a).toNat = n
  have : ∀ l : List Nat, Reps K mg G (l.map fun (i : Nat) => V.int (a + (i : Int))) (l.map fun (i : Nat) => D.int (a + (i : Int))) := by
    intro l
    induction l with
    | nil => exact .nil
    | cons x l ih => exact .cons (.int _) ih
  exact this _
theorem puf_lr1 {p2 pos2 : Pos} (hc : X.calm = true) (hm : X.mg "list" = none) (hm2 : X.mg "range" = none) (h : PuE X a pa) (hg : Gl X "list" := by rfl) (hg2 : Gl X "range" := by rfl) (na : starEach [a] X.env = (false, eval a X.env) :: starEach [] X.env := by rfl)
    (na2 : starEach [.Call (.Name "range" p2) [a] [] pos2] X.env = (false, eval (.Call (.Name "range" p2) [a] [] pos2) X.env) :: starEach [] X.env := by rfl) :
    PuF X (.Call (.Name "list" p') [.Call (.Name "range" p2) [a] [] pos2] [] pos) (pLr1 pa) := by
  obtain ⟨t, h1, h2⟩ := h.ex
  refine ⟨_, pe_listRg hc hg hm (prg_1 hg2 hm2 h1 na) na2, fun G H env σ P Q ok hp k => h2 G H env σ _ _ ok hp fun d v G' H' x r q => ?_⟩
  unfold lr1 at q
  split at q
  · rename_i n
    cases r
    refine ⟨n, rfl, q.1, fun p hn => k _ p G' _ (x.trans (Ext.newH x.s hn)) (.lst upd_same ?_) (x.s.free hn) (x.h.free hn) q.2⟩
    have := rg_reps (K := X.K) (mg := X.mg) (G := G') 0 n
    simpa using this
  · exact q.elim
def lr2 (P : D → Prop) : D → D → Prop := fun d f => match d, f with
  | .int m, .int n => RgOk m n ∧ P (.lst ((List.range (n - m).toNat).map fun (i : Nat) => D.int (m + (i : Int))))
  | _, _ => False
def pLr2 (pa pb : PTE) : PTE := fun env P => pa env fun d => pb env fun f => lr2 P d f
theorem puf_lr2 {p2 pos2 : Pos} (hc : X.calm = true) (hm : X.mg "list" = none) (hm2 : X.mg "range" = none) (h : PuE X a pa) (h' : PuE X b pb) (hg : Gl X "list" := by rfl) (hg2 : Gl X "range" := by rfl) (na : starEach [a, b] X.env = (false, eval a X.env) :: starEach [b] X.env := by rfl)
    (nb : starEach [b] X.env = (false, eval b X.env) :: starEach [] X.env := by rfl) (hp : (backTo pos2 (starEach [b] X.env)).any (·.1) = false := by rfl)
    (na2 : starEach [.Call (.Name "range" p2) [a, b] [] pos2] X.env = (false, eval (.Call (.Name "range" p2) [a, b] [] pos2) X.env) :: starEach [] X.env := by rfl) :
    PuF X (.Call (.Name "list" p') [.Call (.Name "range" p2) [a, b] [] pos2] [] pos) (pLr2 pa pb) := by
  obtain ⟨t, h1, h2⟩ := h.ex
  obtain ⟨u, g1, g2⟩ := h'.ex
  refine ⟨_, pe_listRg hc hg hm (prg_2 hg2 hm2 h1 g1 na nb hp) na2, fun G H env σ P Q ok hp k => h2 G H env σ _ _ ok hp fun d v G' H' x r q => ?_⟩
  refine g2 G' H' env σ _ _ (ok.ext x) q fun f w G2 H2 y r2 q2 => ?_
  unfold lr2 at q2
  split at q2
  · rename_i m n
    cases r; cases r2
    exact ⟨m, n, rfl, rfl, q2.1, fun p hn => k _ p G2 _ ((x.trans y).trans (Ext.newH y.s hn)) (.lst upd_same (rg_reps m n)) (y.s.free hn) ((x.trans y).h.free hn) q2.2⟩
  · exact q2.elim
def strsOf : List D → Option (List Str)
  | [] => some []
  | .str i :: ds => (strsOf ds).map (i :: ·)
  | _ :: _ => none
theorem strsOf_eq : ∀ {ds : List D} {ns : List Str}, strsOf ds = some ns → ds = ns.map D.str
  | [], ns, h => by cases h; rfl
  | .str i :: ds, ns, h => by
    unfold strsOf at h
    cases e : strsOf ds with
    | none => rw [e] at h; cases h
    | some ms => rw [e] at h; cases h; rw [strsOf_eq e]; rfl
  | .non :: ds, ns, h => by cases h
  | .bl _ :: ds, ns, h => by cases h
  | .int _ :: ds, ns, h => by cases h
  | .tup _ :: ds, ns, h => by cases h
  | .lst _ :: ds, ns, h => by cases h
  | .scr _ :: ds, ns, h => by cases h
  | .dk _ :: ds, ns, h => by cases h
  | .dt _ :: ds, ns, h => by cases h
  | .obj _ _ :: ds, ns, h => by cases h
  | .err _ _ :: ds, ns, h => by cases h
theorem strsOf_map (ns : List Str) : strsOf (ns.map D.str) = some ns := by
  induction ns with
  | nil => rfl
  | cons n ns ih => simp [strsOf, ih]
theorem reps_strs {K : PySem.W.Frag} {mg : MG} {G : Hp} {vs : List V} {ds : List D} {ns : List Str} (r : Reps K mg G vs ds) (h : strsOf ds = some ns) : vs = ns.map V.str := by
  rw [strsOf_eq h] at r; exact r.strs
def sortIP : PSp := fun ds P => match ds with
  | [d] => ∃ xs, lstOf d = some xs ∧ ((∃ ns, intsOf xs = some ns ∧ ∀ ms : List Int, ms.Perm ns → ms.Pairwise (· ≤ ·) → P (.lst (ms.map D.int))) ∨
      ∃ zs, strsOf xs = some zs ∧ zs.length < 64 ∧ ∀ ys : List Str, ys.Perm zs → sortedS ys = true → P (.lst (ys.map D.str)))
  | _ => False
theorem sortIP_ok : CallFOk X (fun xs H Q => rSortedI X.K xs H Q ∨ rSortedS X.K xs H Q) sortIP := by
  intro G H vs ds P Q s rs h k
  unfold sortIP at h
  split at h
  · obtain ⟨xs, e1, h⟩ := h
    obtain ⟨v, rfl, r⟩ := one_shal rs
    obtain ⟨l, ws, rfl, hl, rr⟩ := r.sql s e1
    rcases h with ⟨ns, e2, h⟩ | ⟨zs, e2, h64, h⟩
    · have ew := reps_ints rr e2
      subst ew
      exact .inl ⟨l, ns, rfl, hl, fun ms p h1 h2 hn => k _ p G _ (Ext.newH s hn) (.lst upd_same (Reps.ofInts ms)) (s.free hn) hn (h ms h1 h2)⟩
    · have ew := reps_strs rr e2
      subst ew
      exact .inr ⟨l, zs, rfl, hl, h64, fun ys p h1 h2 hn => k _ p G _ (Ext.newH s hn) (.lst upd_same (Reps.ofStrs ys)) (s.free hn) hn (h ys h1 h2)⟩
  · exact h.elim
theorem puf_sortI (hm : X.mg "sorted" = none) (h : PuO X a pa) (hs : starEach [a] X.env = (false, eval a X.env) :: starEach [] X.env := by rfl) (hg : Gl X "sorted" := by rfl) : PuF X (.Call (.Name "sorted" p') [a] [] pos) (pCall sortIP (paCons pa paNil)) :=
  puf_bi (CallR.or cr_sortedI cr_sortedS) sortIP_ok hm (puao_cons h puao_nil hs) hg (by decide +kernel) (by decide) (by decide) hs rfl

/-! ### in -/
def hasP (x : D) (ys : List D) : Bool := (toPys ys).any fun z => PyData.eqv z (toPy x)
def inP (neg : Bool) : BinP := fun x y P => match y with
  | .lst ys => cmpOk x = true ∧ cmpOk (.lst ys) = true ∧ P (.bl (hasP x ys != neg))
  | .str b => ∃ a, x = .str a ∧ P (.bl ((!(Builtin.Str.occurrences b a 0 b.length 1).isEmpty) != neg))
  | d => ∃ o, getP d x = some o ∧ P (.bl (o.isSome != neg))
def rInAll (K : PySem.W.Frag) (neg : Bool) : R2 := fun x y H Q => (∃ d ds, Dp K H x d ∧ Dp K H y (.list ds) ∧ SeqAt.shaped d = true ∧ SeqAt.shaped (.list ds) = true ∧ Q (.bl ((ds.any fun z => PyData.eqv z d) != neg)) H) ∨
  (∃ i j, x = .str i ∧ y = .str j ∧ Q (.bl ((!(Builtin.Str.occurrences j i 0 j.length 1).isEmpty) != neg)) H) ∨ ∃ a o, y = .ref a ∧ DGet H a x o ∧ Q (.bl (o.isSome != neg)) H
theorem op_inAll (hu : X.A.units + 65 < cLine) : OpR X (compareOp .In) (rInAll X.K false) := by
  intro pins s σ H x y v u Q I rx ry h
  rcases h with ⟨d, ds, h1, h2, h3, h4, q⟩ | ⟨i, j, h1, h2, q⟩ | ⟨a, o, rfl, g, q⟩
  · exact op_inD hu pins s σ H x y v u Q I rx ry ⟨d, ds, h1, h2, h3, h4, by simpa using q⟩
  · exact op_in_str pins s σ H x y v u Q I rx ry ⟨i, j, h1, h2, by simpa using q⟩
  · obtain rfl : u = Value.ref a := ry
    exact d_in (by omega) I g rx fun s3 I3 => ⟨.bl o.isSome, H, I3, rfl, by simpa using q⟩
theorem op_notInAll (hu : X.A.units + 65 < cLine) : OpR X (compareOp .NotIn) (rInAll X.K true) := by
  intro pins s σ H x y v u Q I rx ry h
  rcases h with ⟨d, ds, h1, h2, h3, h4, q⟩ | ⟨i, j, h1, h2, q⟩ | ⟨a, o, rfl, g, q⟩
  · exact op_notInD hu pins s σ H x y v u Q I rx ry ⟨d, ds, h1, h2, h3, h4, by simpa using q⟩
  · exact L2.op_notIn_str pins s σ H x y v u Q I rx ry ⟨i, j, h1, h2, by simpa using q⟩
  · obtain rfl : u = Value.ref a := ry
    exact d_notIn (by omega) I g rx fun s3 I3 => ⟨.bl (!o.isSome), H, I3, rfl, by simpa using q⟩
/-- the left side of «in» a table must be frozen -/
def BinEO (X : Cx) (r : R2) (f : BinP) : Prop := ∀ (G H : Hp) (v w : V) (x y : D) (P : D → Prop) (Q : VK), Same G H → Rep X.K X.mg G v x → Shal X.K X.mg H G w y → f x y P →
  (∀ d u G' H', Ext G H G' H' → Rep X.K X.mg G' u d → P d → Q u H') → r v w H Q
theorem inP_ok (neg : Bool) : BinEO X (rInAll X.K neg) (inP neg) := by
  intro G H v w x y P Q s r1 r2 h k
  unfold inP at h
  split at h
  · rename_i ys
    obtain ⟨f1, s1⟩ := cmpOk_iff h.1
    obtain ⟨f2, s2⟩ := cmpOk_iff h.2.1
    exact .inl ⟨_, _, r1.dp s f1, r2.dp s f2, s1, s2, k _ _ G H (.refl s) (.bl _) h.2.2⟩
  · obtain ⟨a, rfl, h⟩ := h
    cases r1
    cases r2.str
    exact .inr (.inl ⟨_, _, rfl, rfl, k _ _ G H (.refl s) (.bl _) h⟩)
  · obtain ⟨o, e, h⟩ := h
    obtain ⟨l, rfl, q⟩ := r2.dget s r1 e
    rcases q with ⟨rfl, g⟩ | ⟨z, u, rfl, g, _⟩
    · exact .inr (.inr ⟨l, none, rfl, g, k _ _ G H (.refl s) (.bl _) h⟩)
    · exact .inr (.inr ⟨l, some u, rfl, g, k _ _ G H (.refl s) (.bl _) h⟩)
theorem binEO_t {ta tb : TE} {r : R2} {f : BinP} (hf : BinEO X r f) {G H : Hp} {env : List C} {σ : L2.St} {P : D → Prop} {Q : VK} (ok : Ok X.K X.mg G H env σ)
    (ha : ∀ (G H : Hp) (env : List C) (σ : L2.St) (P : D → Prop) (Q : VK), Ok X.K X.mg G H env σ → pa env P → (∀ d v G' H', Ext G H G' H' → Rep X.K X.mg G' v d → P d → Q v H') → ta σ H Q)
    (hb : ∀ (G H : Hp) (env : List C) (σ : L2.St) (P : D → Prop) (Q : VK), Ok X.K X.mg G H env σ → pb env P → (∀ d v G' H', Ext G H G' H' → Shal X.K X.mg H' G' v d → P d → Q v H') → tb σ H Q)
    (hp : pBin f pa pb env P) (k : ∀ d v G' H', Ext G H G' H' → Rep X.K X.mg G' v d → P d → Q v H') : tOp r ta tb σ H Q := by
  refine ha G H env σ _ _ ok hp fun x v G1 H1 e1 r1 q1 => ?_
  refine hb G1 H1 env σ _ _ (ok.ext e1) q1 fun y w G2 H2 e2 r2 q2 => ?_
  exact hf G2 H2 v w x y P Q e2.s (r1.mono e2.g) r2 q2 fun d u G3 H3 e3 r3 q3 => k d u G3 H3 ((e1.trans e2).trans e3) r3 q3
theorem put_in (hu : X.A.units + 65 < cLine) (ha : PuE X a pa) (hb : PuO X b pb) (hm : behindInMarks .In b = false := by rfl) : PuT X (.Compare a [.In] [b] pos) (pB (pBin (inP false) pa pb)) := by
  obtain ⟨ta, a1, a2⟩ := ha.ex
  obtain ⟨tb, b1, b2⟩ := hb.ex
  refine ⟨_, pt_cmpR (op_inAll hu) a1 b1 hm, fun G H env σ P Q ok hp k => binEO_t (inP_ok false) ok a2 b2 hp fun d v G' H' x r q => ?_⟩
  obtain ⟨b, e, z⟩ := asB_rep r q
  exact ⟨b, e, k b G' H' x z⟩
theorem put_notIn (hu : X.A.units + 65 < cLine) (ha : PuE X a pa) (hb : PuO X b pb) (hm : behindInMarks .NotIn b = false := by rfl) : PuT X (.Compare a [.NotIn] [b] pos) (pB (pBin (inP true) pa pb)) := by
  obtain ⟨ta, a1, a2⟩ := ha.ex
  obtain ⟨tb, b1, b2⟩ := hb.ex
  refine ⟨_, pt_cmpR (op_notInAll hu) a1 b1 hm, fun G H env σ P Q ok hp k => binEO_t (inP_ok true) ok a2 b2 hp fun d v G' H' x r q => ?_⟩
  obtain ⟨b, e, z⟩ := asB_rep r q
  exact ⟨b, e, k b G' H' x z⟩
theorem pu_in (hu : X.A.units + 65 < cLine) (ha : PuE X a pa) (hb : PuO X b pb) (hm : behindInMarks .In b = false := by rfl) : PuE X (.Compare a [.In] [b] pos) (pBin (inP false) pa pb) := by
  obtain ⟨ta, a1, a2⟩ := ha.ex
  obtain ⟨tb, b1, b2⟩ := hb.ex
  exact ⟨_, pe_cmpR (op_inAll hu) a1 b1 hm, fun G H env σ P Q ok hp k => binEO_t (inP_ok false) ok a2 b2 hp k⟩
theorem pu_notIn (hu : X.A.units + 65 < cLine) (ha : PuE X a pa) (hb : PuO X b pb) (hm : behindInMarks .NotIn b = false := by rfl) : PuE X (.Compare a [.NotIn] [b] pos) (pBin (inP true) pa pb) := by
  obtain ⟨ta, a1, a2⟩ := ha.ex
  obtain ⟨tb, b1, b2⟩ := hb.ex
  exact ⟨_, pe_cmpR (op_notInAll hu) a1 b1 hm, fun G H env σ P Q ok hp k => binEO_t (inP_ok true) ok a2 b2 hp k⟩

/-! ### the comparisons, as tests and as values -/
theorem put_eq (hu : X.A.units + 64 < cLine) (ha : PuO X a pa) (hb : PuO X b pb) : PuT X (.Compare a [.Eq] [b] pos) (pB (pBin eqP pa pb)) := put_cmp (op_eqAll hu) eqP_ok ha hb (nomark _)
theorem put_ne (hu : X.A.units + 64 < cLine) (ha : PuO X a pa) (hb : PuO X b pb) : PuT X (.Compare a [.NotEq] [b] pos) (pB (pBin neP pa pb)) := put_cmp (op_neAll hu) neP_ok ha hb (nomark _)
theorem put_lt (ha : PuO X a pa) (hb : PuO X b pb) : PuT X (.Compare a [.Lt] [b] pos) (pB (pBin ltP pa pb)) := put_cmp op_ltAll ltP_ok ha hb (nomark _)
theorem put_le (ha : PuO X a pa) (hb : PuO X b pb) : PuT X (.Compare a [.LtE] [b] pos) (pB (pBin leP pa pb)) := put_cmp op_leAll leP_ok ha hb (nomark _)
theorem put_gt (ha : PuO X a pa) (hb : PuO X b pb) : PuT X (.Compare a [.Gt] [b] pos) (pB (pBin gtP pa pb)) := put_cmp op_gtAll gtP_ok ha hb (nomark _)
theorem put_ge (ha : PuO X a pa) (hb : PuO X b pb) : PuT X (.Compare a [.GtE] [b] pos) (pB (pBin geP pa pb)) := put_cmp op_geAll geP_ok ha hb (nomark _)
theorem pu_eq (hu : X.A.units + 64 < cLine) (ha : PuO X a pa) (hb : PuO X b pb) : PuE X (.Compare a [.Eq] [b] pos) (pBin eqP pa pb) := pu_cmp (op_eqAll hu) eqP_ok ha hb (nomark _)
theorem pu_ne (hu : X.A.units + 64 < cLine) (ha : PuO X a pa) (hb : PuO X b pb) : PuE X (.Compare a [.NotEq] [b] pos) (pBin neP pa pb) := pu_cmp (op_neAll hu) neP_ok ha hb (nomark _)
theorem pu_lt (ha : PuO X a pa) (hb : PuO X b pb) : PuE X (.Compare a [.Lt] [b] pos) (pBin ltP pa pb) := pu_cmp op_ltAll ltP_ok ha hb (nomark _)
theorem pu_le (ha : PuO X a pa) (hb : PuO X b pb) : PuE X (.Compare a [.LtE] [b] pos) (pBin leP pa pb) := pu_cmp op_leAll leP_ok ha hb (nomark _)
theorem pu_gt (ha : PuO X a pa) (hb : PuO X b pb) : PuE X (.Compare a [.Gt] [b] pos) (pBin gtP pa pb) := pu_cmp op_gtAll gtP_ok ha hb (nomark _)
theorem pu_ge (ha : PuO X a pa) (hb : PuO X b pb) : PuE X (.Compare a [.GtE] [b] pos) (pBin geP pa pb) := pu_cmp op_geAll geP_ok ha hb (nomark _)
/-- is None -/
def isNon : D → Bool
  | .non => true
  | _ => false
def isNP (neg : Bool) (p : PTE) : PTE := fun env P => p env fun d => P (.bl (isNon d != neg))
theorem Rep.isN {K : PySem.W.Frag} {mg : MG} {G : Hp} {v : V} {d : D} (r : Rep K mg G v d) : decide (v = .non) = isNon d := by
  cases r <;> rfl
theorem pu_isN {j : Nat} {pos' : Pos} (ha : PuE X a pa) : PuE X (.Compare a [.Is] [.Constant .none j pos'] pos) (isNP false pa) := by
  obtain ⟨t, h1, h2⟩ := ha.ex
  refine ⟨_, pe_cmp (pc_isN h1) rfl, fun G H env σ P Q ok hp k => h2 G H env σ _ _ ok hp fun d v G' H' x r q => ?_⟩
  have : V.bl (decide (v = .non)) = V.bl (isNon d != false) := by rw [r.isN, Bool.bne_false]
  rw [this]
  exact k _ _ G' H' x (.bl _) q
theorem pu_notN {j : Nat} {pos' : Pos} (ha : PuE X a pa) : PuE X (.Compare a [.IsNot] [.Constant .none j pos'] pos) (isNP true pa) := by
  obtain ⟨t, h1, h2⟩ := ha.ex
  refine ⟨_, pe_cmp (pc_notN h1) rfl, fun G H env σ P Q ok hp k => h2 G H env σ _ _ ok hp fun d v G' H' x r q => ?_⟩
  have : V.bl (!decide (v = .non)) = V.bl (isNon d != true) := by rw [r.isN, Bool.bne_true]
  rw [this]
  exact k _ _ G' H' x (.bl _) q
theorem put_isN {j : Nat} {pos' : Pos} (ha : PuE X a pa) : PuT X (.Compare a [.Is] [.Constant .none j pos'] pos) (pB (isNP false pa)) := by
  obtain ⟨t, h1, h2⟩ := ha.ex
  refine ⟨_, pt_cmp (pc_isN h1) rfl, fun G H env σ P Q ok hp k => h2 G H env σ _ _ ok hp fun d v G' H' x r q => ?_⟩
  have : decide (v = .non) = (isNon d != false) := by rw [r.isN, Bool.bne_false]
  exact ⟨_, rfl, by rw [this]; exact k _ G' H' x q⟩
theorem put_notN {j : Nat} {pos' : Pos} (ha : PuE X a pa) : PuT X (.Compare a [.IsNot] [.Constant .none j pos'] pos) (pB (isNP true pa)) := by
  obtain ⟨t, h1, h2⟩ := ha.ex
  refine ⟨_, pt_cmp (pc_notN h1) rfl, fun G H env σ P Q ok hp k => h2 G H env σ _ _ ok hp fun d v G' H' x r q => ?_⟩
  have : (!decide (v = .non)) = (isNon d != true) := by rw [r.isN, Bool.bne_true]
  exact ⟨_, rfl, by rw [this]; exact k _ G' H' x q⟩

/-! ### isinstance of a built-in type -/
def tyName : D → Option String
  | .non => some "NoneType"
  | .bl _ => some "bool"
  | .int _ => some "int"
  | .str _ => some "str"
  | .tup _ => some "tuple"
  | .lst _ => some "list"
  | .scr _ => none
  | .dk _ => some "dict"
  | .dt _ => some "dict"
  | .obj _ _ => none
  | .err _ _ => none
theorem Rep.tyx {K : PySem.W.Frag} {mg : MG} {G H : Hp} {v : V} {d : D} {n : String} (r : Shal K mg H G v d) (s : Same G H) (h : tyName d = some n) : TyX K H v (.type n) := by
  cases d with
  | non => cases h; cases r.non; exact .base .non
  | bl b => cases h; cases r.bl; exact .base (.bl b)
  | int i => cases h; cases r.int; exact .base (.int i)
  | str x => cases h; cases r.str; exact .base (.str x)
  | tup ds => cases h; obtain ⟨l, vs, rfl, e, _⟩ := r.tup s; exact .base (.tup e)
  | lst ds => cases h; obtain ⟨l, vs, rfl, e, _⟩ := r.lst s; exact .base (.lst e)
  | scr ds => cases h
  | dk ds =>
    cases h
    obtain ⟨l, vs, rfl, e, _⟩ := r.dk s
    rcases e with e | ⟨o, e⟩
    · exact .base (.dK e)
    · exact .fDict e
  | dt ds => cases h; obtain ⟨l, vs, rfl, e, _⟩ := r.dt s; exact .base (.dT e)
  | obj _ _ => cases h
  | err _ _ => cases h
def isiP (T : String) (p : PTE) : PTE := fun env P => p env fun d => ∃ n b, tyName d = some n ∧ kitB n T = some b ∧ P (.bl b)
theorem pu_isi {T : Str} {n : String} {p2 : Pos} (hm : X.mg "isinstance" = none) (hmT : X.mg T = none) (ha : PuO X a pa) (hv : bootBuiltins T = some (.type n) := by decide +kernel) (hg : Gl X "isinstance" := by rfl) (hgT : Gl X T := by rfl)
    (hs : starEach [a, .Name T p2] X.env = (false, eval a X.env) :: starEach [.Name T p2] X.env := by rfl) (hs2 : starEach [.Name T p2] X.env = (false, eval (.Name T p2) X.env) :: starEach [] X.env := by rfl) (hpl : (backTo pos (starEach [.Name T p2] X.env)).any (·.1) = false := by rfl)
    (hn : T ≠ "__name__" := by decide) (hd : (T == ("__debug__" : Str)) = false := by decide) : PuE X (.Call (.Name "isinstance" p') [a, .Name T p2] [] pos) (isiP n pa) := by
  obtain ⟨t, h1, h2⟩ := ha.ex
  refine ⟨_, pe_callB call_isi hg hm (by decide +kernel) (pa_cons h1 (pa_cons (pe_bltn (v := .ty n) hgT hmT hv rfl hn hd) pa_nil hs2) hs) (by decide) (by decide) hs hpl, fun G H env σ P Q ok hp k => h2 G H env σ _ _ ok hp fun d v G' H' x r q => ?_⟩
  obtain ⟨m, b, e1, e2, q⟩ := q
  exact ⟨v, .ty n, .type m, .type n, b, rfl, .ty n, Rep.tyx r x.s e1, kit_ty e2, k _ _ G' H' x (.bl b) q⟩

/-! ### text methods -/
/-- a receiver that must be a text, before the argument is read -/
def asS (P : Str → Prop) : D → Prop := fun d => match d with
  | .str z => P z
  | _ => False
theorem asS_rep {G : Hp} {v : V} {d : D} {P : Str → Prop} (r : Rep X.K X.mg G v d) (h : asS P d) : ∃ z, v = .str z ∧ P z := by
  unfold asS at h
  split at h
  · cases r; exact ⟨_, rfl, h⟩
  · exact h.elim
def joinP (z : Str) (y : D) (P : D → Prop) : Prop := ∃ xs ys, itemsOf y = some xs ∧ strsOf xs = some ys ∧ (ys.map (·.length)).sum + ys.length * z.length ≤ 16777216 ∧ P (.str (Txt.join z ys))
def pJoin (pa pb : PTE) : PTE := fun env P => pa env (asS fun z => pb env fun y => joinP z y P)
theorem pu_join {apos : Pos} (ho : PuE X a pa) (he : PuO X b pb) (hs : starEach [b] X.env = [(false, eval b X.env)] := by rfl) (hbase : attributeBase a "join" X.env (eval a X.env) = eval a X.env := by rfl) (hline : (apos.endLine == pos.line) = true := by rfl) :
    PuE X (.Call (.Attribute a "join" apos) [b] [] pos) (pJoin pa pb) := by
  obtain ⟨t, h1, h2⟩ := ho.ex
  obtain ⟨u, g1, g2⟩ := he.ex
  refine ⟨_, pe_join h1 g1 hs hbase hline, fun G H env σ P Q ok hp k => h2 G H env σ _ _ ok hp fun x v G1 H1 e1 r1 q1 => ?_⟩
  obtain ⟨z, rfl, q1⟩ := asS_rep r1 q1
  refine ⟨⟨z, rfl⟩, g2 G1 H1 env σ _ _ (ok.ext e1) q1 fun y w G2 H2 e2 r2 q2 => ?_⟩
  obtain ⟨xs, ys, i1, i2, hz, q2⟩ := q2
  obtain ⟨l, ws, rfl, hl, rr⟩ := r2.items e2.s i1
  have ew := reps_strs rr i2
  subst ew
  exact ⟨z, l, ys, rfl, rfl, hl, hz, k _ _ G2 H2 (e1.trans e2) (.str _) q2⟩
def pBits (pa : PTE) : PTE := fun env P => pa env fun x => match x with
  | .int i => P (.int (Builtin.Int.intBits i : Nat))
  | _ => False
theorem pu_bits {apos : Pos} (ho : PuE X a pa) (hbase : attributeBase a "bit_length" X.env (eval a X.env) = eval a X.env := by rfl) (hline : (apos.endLine == pos.line) = true := by rfl) : PuE X (.Call (.Attribute a "bit_length" apos) [] [] pos) (pBits pa) := by
  obtain ⟨t, h1, h2⟩ := ho.ex
  refine ⟨_, pe_bits h1 hbase hline, fun G H env σ P Q ok hp k => h2 G H env σ _ _ ok hp fun d v G' H' x r q => ?_⟩
  split at q
  · cases r; exact ⟨_, rfl, k _ _ G' H' x (.int _) q⟩
  · exact q.elim
end

/-! ### sep.join(reversed(list)) -/
section
open MpR RT
variable {prog : Program} {w : World} {A : Around} {E : Value → Shared → Prop} {s : Shared}
theorem join_rev {x : Str} {t : Tok} {ys : List Str} {it l : Addr} {items : Array Value} {Q : Value → Shared → Prop} (hh : A.handled = none) (hit : s.heap.IsRevIter it l ((items.size : Int) - 1)) (hl : s.heap.IsList l items) (hne : l ≠ it) (hn : items.size ≤ sizeLine)
    (hP : ∀ acc : Array Value, ItemsOf (fun i v => items[items.size - 1 - i]? = some v) acc items.size → StrsAre acc.toList ys) (hok : (ys.map (·.length)).sum + ys.length * x.length ≤ 16777216)
    (hq : ∀ (h' : Heap) (k : Nat) (t' : Tok), (∀ b o, b ≠ it → s.heap.get? b = some o → h'.get? b = some o) → Q (.str (Txt.join x ys) t') { s with heap := h', toks := k }) :
    wpAny (model prog w) A (call (.builtin "str.join") [.str x t, .ref it]) Q E s := by
  refine wpAny_call (codeAny_call_builtin F.slot_str_join.plain F.entry_str_join (F.slot_str_join.check _ _ _ _ _ _ _ _ (typeIs_str _ _ _) (F.args_str_join_2 _ _) ?_))
  rw [join_tree_other]
  refine wpAny_bind (wpAny_typeOf hit.typeIs ?_)
  show wpAny _ A.in1 ((pyIter (.ref it)).tryCatch _ >>= fun it => collect it >>= fun items => joinTail x items) _ _ s
  refine wpAny_bind (wpAny_tryCatch (wpAny_pyIter_revIter hit ?_))
  refine wpAny_bind (collect_rev (A := A.in1) hh hit hl hne hn fun h' tk acc hk hacc => ?_)
  obtain ⟨l', hl', ht⟩ := strsAre_values (hP acc hacc)
  subst ht
  rw [hl']
  have hok' := joinOk_of hok
  unfold JoinOk at hok'
  rw [Bool.not_eq_true'] at hok'
  have g : Gives (joinTail x (strValues l')) (joinMade x l') := by
    have g0 := gives_joinTail x l' hok'
    cases l' with
    | nil => exact g0
    | cons p r => cases r with
      | nil => exact g0
      | cons q r' => exact g0
  exact g prog w A (wants Q E) _ (post_join l' ⟨joinFit_length hok', fun t' k => hq h' k t' hk⟩)
end
section
variable {X : Cx} {a b : Expr} {pa pb : PTE} {pos : Pos}
def tJoinRev (K : PySem.W.Frag) (to te : TE) : TE := fun σ H Q => to σ H fun x H1 => (∃ a, x = .str a) ∧ te σ H1 fun y H2 => ∃ (a : Str) (p : Addr) (ys : List Str), x = .str a ∧ y = .ref p ∧ SqL K H2 p (ys.map V.str) ∧
  (ys.map (·.length)).sum + ys.length * a.length ≤ 16777216 ∧ Q (.str (Txt.join a ys.reverse)) H2
theorem pe_joinRev {to te : TE} {apos p2 pos2 : Pos} (hc : X.calm = true) (ho : PE X a to) (he : PE X b te) (hm : X.mg "reversed" = none) (hg : Gl X "reversed" := by rfl) (hs : starEach [b] X.env = (false, eval b X.env) :: starEach [] X.env := by rfl)
    (hs1 : starEach [.Call (.Name "reversed" p2) [b] [] pos2] X.env = [(false, eval (.Call (.Name "reversed" p2) [b] [] pos2) X.env)] := by rfl)
    (hbase : attributeBase a "join" X.env (eval a X.env) = eval a X.env := by rfl) (hline : (apos.endLine == pos.line) = true := by rfl) :
    PE X (.Call (.Attribute a "join" apos) [.Call (.Name "reversed" p2) [b] [] pos2] [] pos) (tJoinRev X.K to te) := by
  refine ⟨fun pins s σ H Q I h => ?_⟩
  refine PySem.Call_method1 hbase hs1 hline (thn (ho.run pins s σ H _ I h) fun v s1 ⟨x, H1, I1, r1, q1⟩ => ?_)
  obtain ⟨⟨z, rfl⟩, q1⟩ := q1
  obtain ⟨t, rfl⟩ := _root_.id r1
  refine ⟨"str", _, F.plainAttrs_str, F.slot_str_join, F.type_str_join, typeIs_str _ _ _, (fun _ e => nomatch e), Calls.callWith_builtin rfl (Calls.evalArgs_plain (Calls.spliced_cons ?_))⟩
  refine Call_ (ld_blt I1 hg hm PyProof.Rows.boot_reversed (PyProof.Rows.callWith_type1 (args_cons (thn (he.run pins s1 σ H1 _ I1 q1) fun u s2 ⟨y, H2, I2, r2, q2⟩ => args_nil ?_) hs) hs rfl))
  obtain ⟨z', p, ys, ez, ey, hq, hz, q⟩ := q2
  cases ez
  subst ey
  obtain rfl : u = Value.ref p := r2
  obtain ⟨its, rv, pl, hsz⟩ := I2.list hq
  have hlen : its.length = ys.length := by have := rv.length; simpa using this.symm
  refine call_reversed_list pl.isList ?_
  have k0 : ∀ b o, s2.heap.get? b = some o → (s2.heap.push (revObj p ((its.toArray.size : Int) - 1))).get? b = some o := fun b o e => Heap.get?_push_of_some _ e
  have I3 : Inv X pins σ H2 { s2 with heap := s2.heap.push (revObj p ((its.toArray.size : Int) - 1)) } := I2.kept (t' := s2.toks) k0
  obtain ⟨f0, f1, f2, f3, f4, f5⟩ := I2.fpOk (H' := H2) (b := s2.heap.objs.size) (Nat.le_refl _) (I2.hok.fresh (Nat.le_refl _))
  have hl := pl.isList
  obtain ⟨ol, hol, _⟩ := id hl
  have hne : p ≠ s2.heap.objs.size := Nat.ne_of_lt (Heap.lt_size hol)
  refine Calls.spliced_nil (join_rev (s := { s2 with heap := s2.heap.push (revObj p ((its.toArray.size : Int) - 1)) }) (ys := ys.reverse) (I2.ok.hd hc) ⟨_, Heap.get?_push_size _ rfl, rfl, rfl⟩ (hl.push _) hne (by rw [List.size_toArray, ← rv.length]; exact hsz) (fun acc hacc => ?_) ?_ fun h' k t' hk => ?_)
  · have q := RT.vals_rev rv hacc
    rw [← List.map_reverse] at q
    exact strs_of_vals q
  · rw [List.map_reverse, List.sum_reverse, List.length_reverse]; exact hz
  · exact ⟨.str _, H2, I3.turned (t' := k) (fun b o hb e => hk b o hb e) f0 f1 f3 f4 f5, ⟨t', rfl⟩, q⟩
def joinRP (z : Str) (y : D) (P : D → Prop) : Prop := ∃ xs ys, lstOf y = some xs ∧ strsOf xs = some ys ∧ (ys.map (·.length)).sum + ys.length * z.length ≤ 16777216 ∧ P (.str (Txt.join z ys.reverse))
def pJoinR (pa pb : PTE) : PTE := fun env P => pa env (asS fun z => pb env fun y => joinRP z y P)
theorem pu_joinRev {apos p2 pos2 : Pos} (hc : X.calm = true) (ho : PuE X a pa) (he : PuO X b pb) (hm : X.mg "reversed" = none) (hg : Gl X "reversed" := by rfl) (hs : starEach [b] X.env = (false, eval b X.env) :: starEach [] X.env := by rfl)
    (hs1 : starEach [.Call (.Name "reversed" p2) [b] [] pos2] X.env = [(false, eval (.Call (.Name "reversed" p2) [b] [] pos2) X.env)] := by rfl)
    (hbase : attributeBase a "join" X.env (eval a X.env) = eval a X.env := by rfl) (hline : (apos.endLine == pos.line) = true := by rfl) :
    PuE X (.Call (.Attribute a "join" apos) [.Call (.Name "reversed" p2) [b] [] pos2] [] pos) (pJoinR pa pb) := by
  obtain ⟨t, h1, h2⟩ := ho.ex
  obtain ⟨u, g1, g2⟩ := he.ex
  refine ⟨_, pe_joinRev hc h1 g1 hm hg hs hs1 hbase hline, fun G H env σ P Q ok hp k => h2 G H env σ _ _ ok hp fun x v G1 H1 e1 r1 q1 => ?_⟩
  obtain ⟨z, rfl, q1⟩ := asS_rep r1 q1
  refine ⟨⟨z, rfl⟩, g2 G1 H1 env σ _ _ (ok.ext e1) q1 fun y w G2 H2 e2 r2 q2 => ?_⟩
  obtain ⟨xs, ys, i1, i2, hz, q2⟩ := q2
  obtain ⟨l, ws, rfl, hl, rr⟩ := r2.sql e2.s i1
  have ew := reps_strs rr i2
  subst ew
  exact ⟨z, l, ys, rfl, rfl, hl, hz, k _ _ G2 H2 (e1.trans e2) (.str _) q2⟩
end
end PL
end

section
set_option linter.all false
set_option maxRecDepth 100000
set_option maxHeartbeats 4000000
set_option autoImplicit false
/-! PL7: defs by their place in the text, callees, keywords, chains. -/
namespace PL
open PySem PySem.Spec PyProof.Rows L2

/-- a def of the text, without defaults -/
abbrev FnP (K : PySem.W.Frag) (x : Str) (st : Stmt) (f : Addr) (fd : FuncData) : Prop := FunD K x x (defArgs st) (defBody st) (defScope st) [] [] f fd
/-- THE RULE for a def over data -/
theorem pfnD {P : Program} {w : World} {K : PySem.W.Frag} {mg : MG} {base : Heap} {x : Str} {st : Stmt} {f : Addr} {fd : FuncData} {N ns : List Str} {k : Nat} {sp : PSp} {p : PTS} (F : FnP K x st f fd) (S : FnScope N ns (defScope st)) (hlen : ∀ ds P, sp ds P → ds.length = ns.length)
    (hbody : ∀ (cdv : Value) (A : Around) (outer : List Env) (s : Shared) (H : Hp) (E : XK), Room k (A.deeper (envOfC x (defScope st) s.heap.objs.size f cdv)) →
      PuSs (cxOf CX0 P w K mg base N x (defScope st) f cdv A outer s H E).nox (defBody st) p) (hp : ∀ ds Q, sp ds Q → p { nx := fun _ => Q .non, rt := Q } (startC N ds)) : FnOk P w K mg base CX0 (k + 1) f fd ns (spP K mg sp) := by
  refine FunD.ok F S (fun vs H Q E h => ?_) (fun cdv A outer s H vs Q E hr h => ?_)
  · obtain ⟨G, ds, P', _, r, q, _⟩ := h
    rw [r.length]; exact hlen ds P' q
  · obtain ⟨G, ds, P', sm, r, q, kk⟩ := h
    obtain ⟨t, t1, t2⟩ := (hbody cdv A outer s H E hr).ex
    refine ⟨t, t1.nox, t2 G H G H _ _ { nx := fun _ => P' .non, rt := P' } _ ⟨start_ok sm r, .refl sm, fun i d l q => ?_⟩ ⟨?_, ?_, ?_, ?_, fun _ _ _ _ _ _ _ _ z => z.elim⟩ (hp ds P' q)⟩
    · intro s1
      exfalso
      unfold startC at q
      by_cases hk : i < ds.length
      · rw [List.getElem?_append_left (by simpa using hk), List.getElem?_map] at q
        cases e : ds[i]? with
        | none => rw [e] at q; cases q
        | some d => rw [e] at q; cases q
      · rw [List.getElem?_append_right (by simpa using hk), List.getElem?_replicate] at q
        split at q <;> cases q
    · intro G' H' env σ r' z
      exact kk .non .non G' H' r'.ext .non z
    · intro G' H' env σ r' z; exact z
    · intro G' H' env σ r' z; exact z
    · intro G' H' d v x rp z
      exact kk d v G' H' x rp z

/-- a def that may be called -/
structure Cal (P : Program) (w : World) (K : PySem.W.Frag) (mg : MG) (base : Heap) (x : Str) (ns : List Str) (k : Nat) (f : Addr) (fd : FuncData) (sp : PSp) : Prop where
  ok : FnOk P w K mg base CX0 k f fd ns (spP K mg sp)
  mg : mg x = some (.ref f)
  kp : PySem.W.keepIn K (.ref f) = true
  b : Binds K fd ns []
theorem Room.u65 {k : Nat} {A : Around} (r : Room k A) : A.units + 65 < cLine := by have := r.un; omega
section
variable {X : Cx} {e a b c : Expr} {es : List Expr} {pa pb pc : PTE} {ps : PTA} {pos p' : Pos}
theorem pu_c {x : Str} {ns : List Str} {k k' : Nat} {f : Addr} {fd : FuncData} {sp : PSp} (C : Cal X.prog X.w X.K X.mg X.base x ns k f fd sp) (hr : Room k' X.A) (h : PuA X (e :: es) ps) (hk : k ≤ k' := by decide) (hg : Gl X x := by rfl)
    (hdb : (x == ("__debug__" : Str)) = false := by decide) (he : starEach (e :: es) X.env = (false, eval e X.env) :: starEach es X.env := by rfl) (hpl : (backTo pos (starEach es X.env)).any (·.1) = false := by rfl) :
    PuE X (.Call (.Name x p') (e :: es) [] pos) (pCall sp ps) := pu_call C.ok (hr.mono hk) C.mg C.kp C.b h hg hdb he hpl
theorem pu_c0 {x : Str} {ns : List Str} {k k' : Nat} {f : Addr} {fd : FuncData} {sp : PSp} (C : Cal X.prog X.w X.K X.mg X.base x ns k f fd sp) (hr : Room k' X.A) (hk : k ≤ k' := by decide) (hg : Gl X x := by rfl)
    (hdb : (x == ("__debug__" : Str)) = false := by decide) : PuE X (.Call (.Name x p') [] [] pos) (pCall sp paNil) := pu_call0 C.ok (hr.mono hk) C.mg C.kp C.b hg hdb
theorem pu_cK {x : Str} {ns ks : List Str} {n m k k' : Nat} {f : Addr} {fd : FuncData} {sp : PSp} {kws : List Keyword} {qs : PTA} {gD : List D → List D → List D} (C : Cal X.prog X.w X.K X.mg X.base x ns k f fd sp) (hb : PKB X.K fd ns n ks gD) (hr : Room k' X.A) (h : PuA X (e :: es) ps) (hkw : PuK X kws qs) (hml : ks.length = m := by rfl) (hk : k ≤ k' := by decide) (hg : Gl X x := by rfl)
    (hall : (backToKw pos (keywordEach kws X.env)).all (·.1.isSome) = true := by rfl) (hks : (backToKw pos (keywordEach kws X.env)).filterMap (·.1) = ks := by rfl)
    (hdb : (x == ("__debug__" : Str)) = false := by decide) (he : starEach (e :: es) X.env = (false, eval e X.env) :: starEach es X.env := by rfl)
    (hpl : ((backTo pos (starEach (e :: es) X.env)).any (·.1) || (backToKw pos (keywordEach kws X.env)).any (·.1.isNone)) = false := by rfl) :
    PuE X (.Call (.Name x p') (e :: es) kws pos) (pCallK sp n m gD ps qs) := pu_callK C.ok (hr.mono hk) C.mg C.kp hb hml h hkw hg hall hks hdb he hpl
theorem pu_cK0 {x : Str} {ns ks : List Str} {m k k' : Nat} {f : Addr} {fd : FuncData} {sp : PSp} {kws : List Keyword} {qs : PTA} {gD : List D → List D → List D} (C : Cal X.prog X.w X.K X.mg X.base x ns k f fd sp) (hb : PKB X.K fd ns 0 ks gD) (hr : Room k' X.A) (hkw : PuK X kws qs) (hml : ks.length = m := by rfl) (hk : k ≤ k' := by decide) (hg : Gl X x := by rfl)
    (hall : (backToKw pos (keywordEach kws X.env)).all (·.1.isSome) = true := by rfl) (hks : (backToKw pos (keywordEach kws X.env)).filterMap (·.1) = ks := by rfl)
    (hdb : (x == ("__debug__" : Str)) = false := by decide) (hpl : ((backTo pos (starEach [] X.env)).any (·.1) || (backToKw pos (keywordEach kws X.env)).any (·.1.isNone)) = false := by rfl) :
    PuE X (.Call (.Name x p') [] kws pos) (pCallK sp 0 m gD paNil qs) := pu_callK0 C.ok (hr.mono hk) C.mg C.kp hb hml hkw hg hall hks hdb hpl

/-! ### a < b < c -/
def pChainT (f g : BinP) (pa pb pc : PTE) : PTT := fun env P => pa env fun x => pb env fun y => f x y (asB fun k => if k = true then pc env fun z => g y z (asB P) else P false)
theorem put_chain {op op' : CmpOp} {r r' : R2} {f g : BinP} (ho : OpR X (compareOp op) r) (hf : BinOk X r f) (ho' : OpR X (compareOp op') r') (hg : BinOk X r' g) (ha : PuO X a pa) (hb : PuO X b pb) (hc : PuO X c pc)
    (hm : lastMarks [op, op'] [b, c] = false := by with_unfolding_all rfl) : PuT X (.Compare a [op, op'] [b, c] pos) (pChainT f g pa pb pc) := by
  obtain ⟨ta, a1, a2⟩ := ha.ex
  obtain ⟨tb, b1, b2⟩ := hb.ex
  obtain ⟨tc, c1, c2⟩ := hc.ex
  refine ⟨_, pt_chain ho ho' a1 b1 c1 hm, fun G H env σ P Q ok hp k => ?_⟩
  refine a2 G H env σ _ _ ok hp fun x v G1 H1 e1 r1 q1 => ?_
  refine b2 G1 H1 env σ _ _ (ok.ext e1) q1 fun y w G2 H2 e2 r2 q2 => ?_
  refine hf G2 H2 v w x y _ _ e2.s (r1.mono e2.h e2.g) r2 q2 fun d u G3 H3 e3 r3 q3 => ?_
  obtain ⟨kk, rfl, z⟩ := asB_rep r3 q3
  refine ⟨kk, rfl, ?_⟩
  cases kk with
  | false => exact ⟨false, rfl, k false G3 H3 ((e1.trans e2).trans e3) z⟩
  | true =>
    refine c2 G3 H3 env σ _ _ (((ok.ext e1).ext e2).ext e3) z fun z' u G4 H4 e4 r4 q4 => ?_
    refine hg G4 H4 w u y z' _ _ e4.s ((r2.mono e3.h e3.g).mono e4.h e4.g) r4 q4 fun d u2 G5 H5 e5 r5 q5 => ?_
    obtain ⟨b5, rfl, z5⟩ := asB_rep r5 q5
    exact ⟨b5, rfl, k b5 G5 H5 ((((e1.trans e2).trans e3).trans e4).trans e5) z5⟩

/-! ### new lists by + and * -/
def catP : BinP := fun x y P => match x, y with
  | .lst xs, .lst ys => xs.length + ys.length ≤ sizeLine ∧ P (.lst (xs ++ ys))
  | _, _ => False
theorem puf_cat (ha : PuO X a pa) (hb : PuO X b pb) : PuF X (.BinOp a .Add b pos) (pBin catP pa pb) := by
  obtain ⟨ta, a1, a2⟩ := ha.ex
  obtain ⟨tb, b1, b2⟩ := hb.ex
  refine ⟨_, pe_op op_cat a1 b1, fun G H env σ P Q ok hp k => ?_⟩
  refine a2 G H env σ _ _ ok hp fun x v G1 H1 e1 r1 q1 => ?_
  refine b2 G1 H1 env σ _ _ (ok.ext e1) q1 fun y w G2 H2 e2 r2 q2 => ?_
  have r1' := r1.mono e2.h e2.g
  unfold catP at q2
  split at q2
  · obtain ⟨l, vs, rfl, t1, s1⟩ := r1'.lst e2.s
    obtain ⟨m, ws, rfl, t2, s2⟩ := r2.lst e2.s
    exact ⟨_, _, vs, ws, rfl, rfl, t1, t2, by rw [s1.length, s2.length]; exact q2.1, fun p hn => k _ p G2 _ ((e1.trans e2).trans (Ext.newH e2.s hn)) (.lst upd_same (s1.append s2)) (e2.s.free hn) ((e1.trans e2).h.free hn) q2.2⟩
  · exact q2.elim
def repP : BinP := fun x y P => match x, y with
  | .lst xs, .int k => -(2 ^ 63) ≤ k ∧ k < 2 ^ 63 ∧ xs.length * k.toNat ≤ sizeLine ∧ P (.lst (List.replicate k.toNat xs).flatten)
  | _, _ => False
theorem puf_rep (ha : PuO X a pa) (hb : PuO X b pb) : PuF X (.BinOp a .Mult b pos) (pBin repP pa pb) := by
  obtain ⟨ta, a1, a2⟩ := ha.ex
  obtain ⟨tb, b1, b2⟩ := hb.ex
  refine ⟨_, pe_op op_rep a1 b1, fun G H env σ P Q ok hp k => ?_⟩
  refine a2 G H env σ _ _ ok hp fun x v G1 H1 e1 r1 q1 => ?_
  refine b2 G1 H1 env σ _ _ (ok.ext e1) q1 fun y w G2 H2 e2 r2 q2 => ?_
  have r1' := r1.mono e2.h e2.g
  unfold repP at q2
  split at q2
  · obtain ⟨l, vs, rfl, t1, s1⟩ := r1'.lst e2.s
    cases r2.int
    exact ⟨_, _, vs, rfl, rfl, t1, q2.1, q2.2.1, by rw [s1.length]; exact q2.2.2.1, fun p hn => k _ p G2 _ ((e1.trans e2).trans (Ext.newH e2.s hn)) (.lst upd_same (s1.rep _)) (e2.s.free hn) ((e1.trans e2).h.free hn) q2.2.2.2⟩
  · exact q2.elim
/-- {} -/
def pDk : PTE := fun _ P => P (.dk [])
def pDt : PTE := fun _ P => P (.dt [])
theorem puf_dk : PuF X (.Dict [] [] pos) pDk := ⟨_, pe_dnewK, fun G H env σ P Q ok hp k p hn => k _ p G _ (Ext.newH ok.same hn) (.dk upd_same .nil) (ok.same.free hn) hn hp⟩
theorem puf_dt : PuF X (.Dict [] [] pos) pDt := ⟨_, pe_dnewT, fun G H env σ P Q ok hp k p hn => k _ p G _ (Ext.newH ok.same hn) (.dt upd_same .nil) (ok.same.free hn) hn hp⟩
end

/-! ### keywords by places -/
def pickL {α : Type} (pick : List Nat) (us ws : List α) : List α := pick.filterMap fun i => (us ++ ws)[i]?
theorem Vals.pick {vs : List V} {us : List Value} (r : Vals vs us) : ∀ pick : List Nat, Vals (pick.filterMap fun i => vs[i]?) (pick.filterMap fun i => us[i]?)
  | [] => .nil
  | i :: is => by
    rw [List.filterMap_cons, List.filterMap_cons]
    cases e : vs[i]? with
    | none =>
      rw [r.none_of e]
      exact Vals.pick r is
    | some v =>
      obtain ⟨u, e2, q⟩ := r.get e
      rw [e2]
      exact .cons q (Vals.pick r is)
theorem Reps.pick {K : PySem.W.Frag} {mg : MG} {G : Hp} {vs : List V} {ds : List D} (r : Reps K mg G vs ds) : ∀ pick : List Nat, Reps K mg G (pick.filterMap fun i => vs[i]?) (pick.filterMap fun i => ds[i]?)
  | [] => .nil
  | i :: is => by
    rw [List.filterMap_cons, List.filterMap_cons]
    cases e : vs[i]? with
    | none =>
      have : ds[i]? = none := by
        rw [List.getElem?_eq_none_iff] at e ⊢
        rw [← r.length]; exact e
      rw [this]
      exact Reps.pick r is
    | some v =>
      obtain ⟨d, e2, q⟩ := r.get e
      rw [e2]
      exact .cons q (Reps.pick r is)
theorem FunD.pkb {K : PySem.W.Frag} {x qual : Str} {params : Arguments} {body : List Stmt} {scope : Scope} {f : Addr} {fd : FuncData} {ns : List Str} (F : FunD K x qual params body scope [] [] f fd) (n : Nat) (ks : List Str) (pick : List Nat)
    (h : ∀ (kV doc pm : Value) (an : Option Addr) (cdv ct : Value) (us ws : List Value), us.length = n → ws.length = ks.length → bindArgs (PySem.W.fnOf x qual params body scope .none kV doc pm an cdv ct) ⟨us, ks.zip ws⟩ = pure (ns.zip (pickL pick us ws))) :
    PKB K fd ns n ks (pickL pick) := by
  obtain ⟨oc, od, dV, kV, doc, pm, an, cdv, ct, osl, rfl, lk, hcd, hD, hK⟩ := F.ex
  rcases hD with ⟨_, rfl⟩ | ⟨e, _⟩
  · refine ⟨pickL pick, pickL pick, ⟨fun s us ws _ l1 l2 => .of_eq (h kV doc pm an cdv ct us ws l1 l2), fun r1 r2 => Vals.pick (r1.append r2) pick⟩, fun mg G vs zs ds es r1 r2 _ _ => Reps.pick (r1.append r2) pick⟩
  · exact absurd rfl e
end PL
end

section
set_option linter.all false
set_option maxRecDepth 100000
set_option maxHeartbeats 4000000
set_option autoImplicit false
/-! PL8: the law's entry, a module's texts. -/
namespace PL
open PySem PySem.Spec PyProof.Rows L2
theorem law_entry {K : PySem.W.Frag} {mg : MG} {sp : PSp} {H : Hp} {a : Addr} {ns : List Int} {E : XK} (hS : SqL K H a (ns.map V.int)) (h : sp [.scr (ns.map D.int)] fun d => d = .bl true) : spP K mg sp [.ref a] H (fun v _ => v = .bl true) E :=
  ⟨H, _, _, Same.refl _, .cons (.scr hS (Reps.ofInts ns)) .nil, h, fun d v G' H' _ r e => by subst e; cases r; rfl⟩
section
variable {X : Cx} {pos : Pos}
theorem pu_gstr {x z : Str} (h : ∃ t, X.mg x = some (.str z t)) (hg : Gl X x := by rfl) (hd : (x == ("__debug__" : Str)) = false := by decide) : PuE X (.Name x pos) (pC (.str z)) := by
  obtain ⟨t, h⟩ := h
  exact pu_glob (v := .str z) h ⟨t, rfl⟩ (fun _ => .str z) hg hd
end
end PL
end

section
set_option linter.all false
set_option maxRecDepth 100000
set_option maxHeartbeats 4000000
set_option autoImplicit false
/-! PL9: reading a body over data. -/
namespace PL
open PySem PySem.Spec PyProof.Rows L2

theorem for_r {lo : Int} {n : Nat} {g : PTG} {body : PTS} {PD : PEnds} {env : List C} (W : Nat → List C → Prop) (h0 : W 0 env)
    (hs : ∀ (k : Nat) (env : List C), k < n → W k env → g (.int (lo + k)) env fun e => body { nx := W (k + 1), ct := W (k + 1), bk := PD.nx, rt := PD.rt } e) (hd : ∀ env, W n env → PD.nx env) : forP (sqR lo n) g body PD env :=
  ⟨W, h0, fun k d env hk ob w => by cases ob; exact hs k env hk w, hd⟩
theorem for_l {ds : List D} {g : PTG} {body : PTS} {PD : PEnds} {env : List C} (W : Nat → List C → Prop) (h0 : W 0 env)
    (hs : ∀ (k : Nat) (d : D) (env : List C), ds[k]? = some d → W k env → g d env fun e => body { nx := W (k + 1), ct := W (k + 1), bk := PD.nx, rt := PD.rt } e) (hd : ∀ env, W ds.length env → PD.nx env) : forP (sqL ds) g body PD env :=
  ⟨W, h0, fun k d env _ ob w => hs k d env ob w, hd⟩
/-- over a list of data that stand for things of a type -/
theorem for_m {α : Type} {f : α → D} {xs : List α} {g : PTG} {body : PTS} {PD : PEnds} {env : List C} (W : Nat → List C → Prop) (h0 : W 0 env)
    (hs : ∀ (k : Nat) (x : α) (env : List C), xs[k]? = some x → W k env → g (f x) env fun e => body { nx := W (k + 1), ct := W (k + 1), bk := PD.nx, rt := PD.rt } e) (hd : ∀ env, W xs.length env → PD.nx env) : forP (sqL (xs.map f)) g body PD env :=
  for_l W h0 (fun k d env hk w => by
    rw [List.getElem?_map] at hk
    cases e : xs[k]? with
    | none => rw [e] at hk; cases hk
    | some x => rw [e] at hk; cases hk; exact hs k x env e w) (fun env w => hd env (by simpa using w))
/-- a comprehension's body, folded (pLc over S) -/
def LcP (S : Sq) (vs : List Nat) (g : PTG) (pt : PTT) (pe : PTE) (env : List C) (P : D → Prop) : Prop := ∃ W : Nat → List D → Prop, W 0 [] ∧
  (∀ k d acc, k < S.n → S.ob k d → W k acc → g d (wipeC env vs) fun env2 => pt env2 fun b => if b = true then pe env2 fun y => acc.length < sizeLine ∧ W (k + 1) (acc ++ [y]) else W (k + 1) acc) ∧
  ∀ acc, W S.n acc → P (.lst acc)
theorem pLc_eq (pi : PTI) (vs : List Nat) (g : PTG) (pt : PTT) (pe : PTE) (env : List C) (P : D → Prop) : pLc pi vs g pt pe env P = pi env fun S => LcP S vs g pt pe env P := rfl
/-- one more item -/
structure Snoc (f : Nat → D) (k : Nat) (y : D) : Prop where
  e : y = f k
/-- over a range: item k is f k -/
theorem lc_r {lo : Int} {n : Nat} {vs : List Nat} {g : PTG} {pt : PTT} {pe : PTE} {env : List C} {P : D → Prop} (f : Nat → D) (hn : n ≤ sizeLine)
    (hs : ∀ (k : Nat) (R : D → Prop), k < n → R (f k) → g (.int (lo + k)) (wipeC env vs) fun env2 => pt env2 fun b => if b = true then pe env2 R else False)
    (hg : ∀ d e (A B : List C → Prop), (∀ x, A x → B x) → g d e A → g d e B) (hpt : ∀ e (A B : Bool → Prop), (∀ b, A b → B b) → pt e A → pt e B)
    (hd : P (.lst ((List.range n).map f))) : LcP (sqR lo n) vs g pt pe env P := by
  refine ⟨fun k acc => acc = (List.range k).map f, rfl, ?_, ?_⟩
  · rintro k d acc hk ob rfl
    cases ob
    have hk : k < n := hk
    refine hg _ _ _ _ (fun x hx => ?_) (hs k (fun y => ((List.range k).map f).length < sizeLine ∧ ((List.range k).map f ++ [y]) = (List.range (k + 1)).map f) hk ⟨by simp; omega, ?_⟩)
    · refine hpt _ _ _ (fun b hb => ?_) hx
      split at hb
      · rename_i h; subst h; rw [if_pos rfl]; exact hb
      · exact hb.elim
    · rw [List.range_succ, List.map_append]; rfl
  · rintro acc rfl; exact hd
theorem lc_l {ds : List D} {vs : List Nat} {g : PTG} {pt : PTT} {pe : PTE} {env : List C} {P : D → Prop} (f : D → D) (hn : ds.length ≤ sizeLine)
    (hs : ∀ (k : Nat) (d : D) (R : D → Prop), ds[k]? = some d → R (f d) → g d (wipeC env vs) fun env2 => pt env2 fun b => if b = true then pe env2 R else False)
    (hg : ∀ d e (A B : List C → Prop), (∀ x, A x → B x) → g d e A → g d e B) (hpt : ∀ e (A B : Bool → Prop), (∀ b, A b → B b) → pt e A → pt e B)
    (hd : P (.lst (ds.map f))) : LcP (sqL ds) vs g pt pe env P := by
  refine ⟨fun k acc => acc = (ds.take k).map f, by simp, ?_, ?_⟩
  · rintro k d acc hk ob rfl
    have hk : k < ds.length := hk
    have ob : ds[k]? = some d := ob
    refine hg _ _ _ _ (fun x hx => ?_) (hs k d (fun y => ((ds.take k).map f).length < sizeLine ∧ ((ds.take k).map f ++ [y]) = (ds.take (k + 1)).map f) ob ⟨by simp; omega, ?_⟩)
    · refine hpt _ _ _ (fun b hb => ?_) hx
      split at hb
      · rename_i h; subst h; rw [if_pos rfl]; exact hb
      · exact hb.elim
    · rw [List.take_add_one, ob, List.map_append]; rfl
  · rintro acc rfl
    show P (.lst ((ds.take ds.length).map f))
    rw [List.take_length]; exact hd
theorem pgN_mono (i : Nat) : ∀ d e (A B : List C → Prop), (∀ x, A x → B x) → pgN i d e A → pgN i d e B := fun _ _ _ _ h => h _
theorem pYes_mono : ∀ e (A B : Bool → Prop), (∀ b, A b → B b) → pYes e A → pYes e B := fun _ _ _ h => h _

/-! ### == of lists of ints, of texts -/
theorem flats_ints (ns : List Int) : flats (ns.map D.int) = true := by
  induction ns with
  | nil => rfl
  | cons n ns ih => exact ih
theorem toPys_ints (ns : List Int) : toPys (ns.map D.int) = ns.map PyData.int := by
  induction ns with
  | nil => rfl
  | cons n ns ih => show PyData.int n :: toPys (ns.map D.int) = _; rw [ih]; rfl
theorem lay_ints (ns : List Int) : PyData.canLayAll0 (ns.map PyData.int) = true := by
  induction ns with
  | nil => rfl
  | cons n ns ih => show (PyData.canLay0 (.int n) && PyData.canLayAll0 (ns.map PyData.int)) = true; rw [ih]; rfl
theorem depth_ints (ns : List Int) : PyData.depthAll (ns.map PyData.int) ≤ 1 := by
  induction ns with
  | nil => simp [PyData.depthAll]
  | cons n ns ih =>
    simp only [List.map_cons, PyData.depthAll, PyData.depth]
    omega
theorem cmpOk_ints (ns : List Int) : cmpOk (.lst (ns.map D.int)) = true := by
  have h1 : flat (.lst (ns.map D.int)) = true := flats_ints ns
  have h2 : SeqAt.shaped (toPy (.lst (ns.map D.int))) = true := by
    show (PyData.canLay0 (.list (toPys (ns.map D.int))) && decide (PyData.depth (.list (toPys (ns.map D.int))) ≤ 64)) = true
    rw [toPys_ints, Bool.and_eq_true]
    have := depth_ints ns
    exact ⟨lay_ints ns, decide_eq_true (by simp only [PyData.depth]; omega)⟩
  unfold cmpOk
  rw [h1, h2]; rfl
theorem eqv_ints (ns ms : List Int) : PyData.eqvAll (ns.map PyData.int) (ms.map PyData.int) = decide (ns = ms) := by
  induction ns generalizing ms with
  | nil => cases ms <;> simp [PyData.eqvAll]
  | cons n ns ih =>
    cases ms with
    | nil => simp [PyData.eqvAll]
    | cons m ms =>
      simp only [List.map_cons, PyData.eqvAll, PyData.eqv, ih]
      by_cases h : n = m
      · subst h; simp
      · simp [h]
theorem cmpOk_int (n : Int) : cmpOk (.int n) = true := rfl
/-- n in a list of ints -/
theorem hasP_ints (n : Int) (ns : List Int) : hasP (.int n) (ns.map D.int) = decide (n ∈ ns) := by
  unfold hasP
  rw [toPys_ints, List.any_map]
  show (ns.any fun z => PyData.eqv (.int z) (.int n)) = _
  simp only [PyData.eqv]
  induction ns with
  | nil => rfl
  | cons m ns ih =>
    rw [List.any_cons, ih]
    by_cases h : m = n
    · subst h; simp
    · have : ¬ n = m := fun e => h e.symm
      have hb : (m == n) = false := by simpa using h
      rw [hb]
      simp [this]
end PL
end

section
set_option linter.all false
set_option maxRecDepth 100000
set_option maxHeartbeats 4000000
set_option autoImplicit false
/-! PL10: plain facts the bodies lean on. -/
namespace PL
open PySem PySem.Spec PyProof.Rows L2

theorem rowE (r : List Int) (x : Int) : r.map D.int ++ [D.int x] = (r ++ [x]).map D.int := by rw [List.map_append]; rfl
theorem rowS (r : List Str) (x : Str) : r.map D.str ++ [D.str x] = (r ++ [x]).map D.str := by rw [List.map_append]; rfl
/-- each figure below its size -/
inductive Digs : List Int → List Int → Prop
  | nil : Digs [] []
  | cons {r s : Int} {rs ss : List Int} (h0 : 0 ≤ r) (h1 : r < s) (t : Digs rs ss) : Digs (r :: rs) (s :: ss)
theorem Digs.length {rs ss : List Int} (h : Digs rs ss) : rs.length = ss.length := by
  induction h with
  | nil => rfl
  | cons _ _ _ ih => simp [ih]
theorem Digs.of : ∀ {rs ss : List Int}, rs.length = ss.length → (∀ (i : Nat) (r s : Int), rs[i]? = some r → ss[i]? = some s → 0 ≤ r ∧ r < s) → Digs rs ss
  | [], [], _, _ => .nil
  | [], _ :: _, h, _ => by simp at h
  | _ :: _, [], h, _ => by simp at h
  | r :: rs, s :: ss, h, k => .cons (k 0 r s rfl rfl).1 (k 0 r s rfl rfl).2 (Digs.of (by simpa using h) fun i x y hx hy => k (i + 1) x y hx hy)
theorem Digs.at {rs ss : List Int} (h : Digs rs ss) : ∀ {i : Nat} {r s : Int}, rs[i]? = some r → ss[i]? = some s → 0 ≤ r ∧ r < s := by
  induction h with
  | nil => intro i r s hr; cases hr
  | cons h0 h1 _ ih =>
    intro i r s hr hs
    cases i with
    | zero => cases hr; cases hs; exact ⟨h0, h1⟩
    | succ i => exact ih hr hs
/-- the items so far -/
def DigsK (k : Nat) (rs ss : List Int) : Prop := rs.length = k ∧ ∀ (i : Nat) (r s : Int), rs[i]? = some r → ss[i]? = some s → 0 ≤ r ∧ r < s
theorem DigsK.nil (ss : List Int) : DigsK 0 [] ss := ⟨rfl, fun i r s h => by cases h⟩
theorem DigsK.snoc {k : Nat} {rs ss : List Int} {r s : Int} (h : DigsK k rs ss) (hs : ss[k]? = some s) (h0 : 0 ≤ r) (h1 : r < s) : DigsK (k + 1) (rs ++ [r]) ss := by
  refine ⟨by simp [h.1], fun i r' s' hr hs' => ?_⟩
  by_cases hi : i < rs.length
  · rw [List.getElem?_append_left hi] at hr
    exact h.2 i r' s' hr hs'
  · have hlt : i < (rs ++ [r]).length := (List.getElem?_eq_some_iff.mp hr).1
    rw [List.length_append, List.length_singleton] at hlt
    have e : i = k := by have := h.1; omega
    subst e
    rw [hs] at hs'; cases hs'
    rw [show i = rs.length from h.1.symm, List.getElem?_concat_length] at hr
    cases hr
    exact ⟨h0, h1⟩
theorem DigsK.done {rs ss : List Int} (h : DigsK ss.length rs ss) : Digs rs ss := Digs.of h.1 h.2
theorem atI_map {α β : Type} (f : α → β) {xs : List α} {j : Nat} {x : α} (h : xs[j]? = some x) : atI (xs.map f) (j : Int) = some (f x) := atI_nat (by rw [List.getElem?_map, h]; rfl)
theorem atI_mapI {α β : Type} (f : α → β) {xs : List α} {i : Int} (h0 : 0 ≤ i) (h1 : i < xs.length) : ∃ x, x ∈ xs ∧ xs[i.toNat]? = some x ∧ atI (xs.map f) i = some (f x) := by
  obtain ⟨j, rfl⟩ := Int.eq_ofNat_of_zero_le h0
  have hj : j < xs.length := by omega
  refine ⟨xs[j], List.getElem_mem hj, ?_, atI_map f (List.getElem?_eq_getElem hj)⟩
  simp [hj]
/-- 2 ^ k, cast -/
theorem cdivw {i j : Int} (a : Nat) (h0 : 0 < j) (h : j < 2 ^ a) (ha : a ≤ 8999) : CDivW i j := by
  refine ⟨h0, ?_⟩
  have e : j.natAbs ≠ 0 := by omega
  have hp : ((2 : Int) ^ a) = ((2 ^ a : Nat) : Int) := by simp
  have hl : j.natAbs < 2 ^ a := by omega
  have := (Nat.log2_lt e).mpr hl
  omega
theorem natAbs_lt_pow {j : Int} {a : Nat} (h0 : 0 ≤ j) (h : j < 2 ^ a) : j.natAbs < 2 ^ a := by
  have hp : ((2 : Int) ^ a) = ((2 ^ a : Nat) : Int) := by simp
  omega
theorem cmul_pow {i j : Int} (a b : Nat) (h0 : 0 ≤ i) (h : i < 2 ^ a) (h1 : 0 ≤ j) (h2 : j < 2 ^ b) (ha : a + b ≤ 134217728) : CMulX i j := mulx_ok (natAbs_lt_pow h0 h) (natAbs_lt_pow h1 h2) ha
theorem cpow18 : CPow 10 18 := by unfold CPow; decide
/-- of n options, the bits -/
def lw (m : Int) : Nat := Builtin.Int.intBits (m - 1)
theorem lw_le {m : Int} {w : Nat} (h : 1 ≤ m) : lw m ≤ w ↔ m ≤ 2 ^ w := by
  unfold lw
  have hp : ((2 : Int) ^ w) = ((2 ^ w : Nat) : Int) := by simp
  constructor
  · intro e
    have h2 : (m - 1).natAbs < 2 ^ w := by
      unfold Builtin.Int.intBits at e
      split at e
      · rename_i z
        have : m - 1 = 0 := by simpa using z
        rw [this]; simp [Nat.two_pow_pos]
      · rename_i z
        have z : m - 1 ≠ 0 := by simpa using z
        exact (Nat.log2_lt (by omega)).mp (by omega)
    omega
  · intro e
    exact intBits_le (by omega)

/-! ### a number as a text of w bits -/
def bitC (n : Int) : Nat := if n % 2 = 1 then 49 else 48
def numL (n : Int) : Nat → List Nat
  | 0 => []
  | w + 1 => numL (n / 2) w ++ [bitC n]
def numS (n : Int) (w : Nat) : Str := ⟨(numL n w).toArray⟩
theorem numL_len (w : Nat) : ∀ n : Int, (numL n w).length = w := by
  induction w with
  | zero => intro n; rfl
  | succ w ih => intro n; simp [numL, ih]
theorem numS_len (n : Int) (w : Nat) : (numS n w).length = w := by
  show (numL n w).toArray.size = w
  simp [numL_len]
theorem numS_tl (n : Int) (w : Nat) : (numS n w).cps.toList = numL n w := by simp [numS]
def valL (xs : List Nat) : Int := xs.foldl (fun v c => v * 2 + if c = 49 then 1 else 0) 0
theorem valL_snoc (xs : List Nat) (c : Nat) : valL (xs ++ [c]) = valL xs * 2 + if c = 49 then 1 else 0 := by simp [valL, List.foldl_append]
theorem numL_bits (w : Nat) : ∀ (n : Int) (c : Nat), c ∈ numL n w → c = 48 ∨ c = 49 := by
  induction w with
  | zero => intro n c h; cases h
  | succ w ih =>
    intro n c h
    simp only [numL, List.mem_append, List.mem_singleton] at h
    rcases h with h | h
    · exact ih _ _ h
    · subst h; unfold bitC; split <;> simp
theorem valL_num (w : Nat) : ∀ n : Int, 0 ≤ n → n < 2 ^ w → valL (numL n w) = n := by
  induction w with
  | zero => intro n h0 h; simp at h; have : n = 0 := by omega
            subst this; rfl
  | succ w ih =>
    intro n h0 h
    have h' : n / 2 < 2 ^ w := by rw [Int.pow_succ] at h; omega
    simp only [numL, valL_snoc, ih (n / 2) (by omega) h', bitC]
    split
    · rw [if_pos rfl]; omega
    · rw [if_neg (by decide)]; omega
theorem lex_app {a b c d : List Nat} (h : a < b) (e : a.length = b.length) : a ++ c < b ++ d := by
  induction a generalizing b with
  | nil => cases b with
    | nil => exact absurd h (by simp)
    | cons y b => simp at e
  | cons x a ih => cases b with
    | nil => simp at e
    | cons y b =>
      rw [List.cons_lt_cons_iff] at h
      rw [List.cons_append, List.cons_append, List.cons_lt_cons_iff]
      rcases h with h | ⟨h1, h2⟩
      · exact .inl h
      · exact .inr ⟨h1, ih h2 (by simpa using e)⟩
theorem lex_same {a c d : List Nat} (h : c < d) : a ++ c < a ++ d := by
  induction a with
  | nil => exact h
  | cons x a ih => rw [List.cons_append, List.cons_append, List.cons_lt_cons_iff]; exact .inr ⟨rfl, ih⟩
theorem numL_lt (w : Nat) : ∀ n m : Int, 0 ≤ n → n < m → m < 2 ^ w → numL n w < numL m w := by
  induction w with
  | zero => intro n m h0 h1 h2; simp at h2; omega
  | succ w ih =>
    intro n m h0 h1 h2
    simp only [numL]
    by_cases e : n / 2 = m / 2
    · rw [e]
      apply lex_same
      have a : n % 2 = 0 := by omega
      have b : m % 2 = 1 := by omega
      rw [List.cons_lt_cons_iff]
      left
      simp [bitC, a, b]
    · refine lex_app (ih _ _ (by omega) (by omega) ?_) (by rw [numL_len, numL_len])
      rw [Int.pow_succ] at h2; omega
/-- texts of one sign each -/
theorem join_signs (cs : List Nat) : Txt.join (Str.ofString "") (cs.map fun c => (⟨#[c]⟩ : Str)) = ⟨cs.toArray⟩ := by
  rw [TL.join_eq]
  apply TL.ext_tl
  rw [TL.tl_join]
  show TL.joinL [] _ = cs
  induction cs with
  | nil => rfl
  | cons c cs ih =>
    cases cs with
    | nil => rfl
    | cons d cs => 
      show [c] ++ ([] ++ TL.joinL [] _) = _
      rw [show ((d :: cs).map fun c => (⟨#[c]⟩ : Str)).map TL.tl = TL.tl (⟨#[d]⟩ : Str) :: (cs.map fun c => (⟨#[c]⟩ : Str)).map TL.tl from rfl] at ih
      rw [ih]; rfl
/-- the figures, lowest first -/
def lowL (n : Int) : Nat → List Nat
  | 0 => []
  | k + 1 => lowL n k ++ [bitC (n / 2 ^ k)]
theorem lowL_len (n : Int) (k : Nat) : (lowL n k).length = k := by
  induction k with
  | zero => rfl
  | succ k ih => simp [lowL, ih]
theorem lowL_cons (n : Int) (k : Nat) : lowL n (k + 1) = bitC n :: lowL (n / 2) k := by
  induction k with
  | zero => simp [lowL]
  | succ k ih =>
    rw [lowL, ih, lowL]
    have e : n / 2 / 2 ^ k = n / 2 ^ (k + 1) := by
      rw [Int.ediv_ediv_of_nonneg (by omega), Int.pow_succ, Int.mul_comm]
    rw [e]; rfl
theorem lowL_rev (w : Nat) : ∀ n : Int, (lowL n w).reverse = numL n w := by
  induction w with
  | zero => intro n; rfl
  | succ w ih => intro n; rw [lowL_cons, List.reverse_cons, ih]; rfl
/-- over a list of things: item x gives f' x -/
theorem lc_m {α : Type} {f : α → D} {xs : List α} {vs : List Nat} {g : PTG} {pt : PTT} {pe : PTE} {env : List C} {P : D → Prop} (W : Nat → List D → Prop) (h0 : W 0 [])
    (hs : ∀ (k : Nat) (x : α) (acc : List D), xs[k]? = some x → W k acc → g (f x) (wipeC env vs) fun env2 => pt env2 fun b => if b = true then pe env2 fun y => acc.length < sizeLine ∧ W (k + 1) (acc ++ [y]) else W (k + 1) acc)
    (hd : ∀ acc, W xs.length acc → P (.lst acc)) : LcP (sqL (xs.map f)) vs g pt pe env P := by
  refine ⟨W, h0, fun k d acc _ ob w => ?_, fun acc w => hd acc (by have : W (xs.map f).length acc := w; rwa [List.length_map] at this)⟩
  have ob : (xs.map f)[k]? = some d := ob
  rw [List.getElem?_map] at ob
  cases e : xs[k]? with
  | none => rw [e] at ob; cases ob
  | some x => rw [e] at ob; cases ob; exact hs k x acc e w
theorem lc_n {lo : Int} {n : Nat} {vs : List Nat} {g : PTG} {pt : PTT} {pe : PTE} {env : List C} {P : D → Prop} (W : Nat → List D → Prop) (h0 : W 0 [])
    (hs : ∀ (k : Nat) (acc : List D), k < n → W k acc → g (.int (lo + k)) (wipeC env vs) fun env2 => pt env2 fun b => if b = true then pe env2 fun y => acc.length < sizeLine ∧ W (k + 1) (acc ++ [y]) else W (k + 1) acc)
    (hd : ∀ acc, W n acc → P (.lst acc)) : LcP (sqR lo n) vs g pt pe env P :=
  ⟨W, h0, fun k d acc hk ob w => by cases ob; exact hs k acc hk w, hd⟩
theorem pow2_le {a b : Nat} (h : a ≤ b) : (2 : Int) ^ a ≤ 2 ^ b := by
  have e1 : ((2 : Int) ^ a) = ((2 ^ a : Nat) : Int) := by simp
  have e2 : ((2 : Int) ^ b) = ((2 ^ b : Nat) : Int) := by simp
  have := Nat.pow_le_pow_right (n := 2) (by decide) h
  omega
theorem ipow_le {c d : Int} {a b : Nat} (h0 : 1 ≤ c) (hc : c ≤ d) (h : a ≤ b) : c ^ a ≤ d ^ b := by
  obtain ⟨c, rfl⟩ := Int.eq_ofNat_of_zero_le (show 0 ≤ c by omega)
  obtain ⟨d, rfl⟩ := Int.eq_ofNat_of_zero_le (show 0 ≤ d by omega)
  have e1 : ((c : Int) ^ a) = ((c ^ a : Nat) : Int) := by simp
  have e2 : ((d : Int) ^ b) = ((d ^ b : Nat) : Int) := by simp
  have h1 := Nat.pow_le_pow_left (show c ≤ d by omega) a
  have h2 := Nat.pow_le_pow_right (n := d) (show 0 < d by omega) h
  omega
theorem ipow_pos {c : Int} {a : Nat} (h0 : 1 ≤ c) : 1 ≤ c ^ a := by
  have := ipow_le (c := c) (d := c) (a := 0) (b := a) h0 (Int.le_refl _) (Nat.zero_le _)
  rwa [Int.pow_zero] at this
theorem take_snoc {α : Type} {xs : List α} {k : Nat} {x : α} (h : xs[k]? = some x) : xs.take (k + 1) = xs.take k ++ [x] := by rw [List.take_add_one, h]; rfl
theorem valL_bd (xs : List Nat) : ∀ (k : Nat) (v : Int), 0 ≤ v → v < 2 ^ k → 0 ≤ xs.foldl (fun v c => v * 2 + if c = 49 then 1 else 0) v ∧ xs.foldl (fun (v : Int) c => v * 2 + if c = 49 then 1 else 0) v < 2 ^ (k + xs.length) := by
  induction xs with
  | nil => intro k v h0 h1; exact ⟨h0, h1⟩
  | cons c xs ih =>
    intro k v h0 h1
    have e : (2 : Int) ^ (k + 1) = 2 ^ k * 2 := Int.pow_succ _ _
    have := ih (k + 1) (v * 2 + if c = 49 then 1 else 0) (by split <;> omega) (by split <;> omega)
    rw [List.length_cons, show k + (xs.length + 1) = k + 1 + xs.length by omega]
    exact this
theorem valL_lt (xs : List Nat) : 0 ≤ valL xs ∧ valL xs < 2 ^ xs.length := by
  have := valL_bd xs 0 0 (by decide) (by decide)
  rwa [Nat.zero_add] at this
theorem sum_ones {α : Type} (f : α → Str) (h : ∀ a, (f a).length = 1) (xs : List α) : ((xs.map f).map (·.length)).sum = xs.length := by
  induction xs with
  | nil => rfl
  | cons x xs ih => simp only [List.map_cons, List.sum_cons, ih, h, List.length_cons]; omega
theorem halves (n : Int) (k : Nat) : n / 2 ^ k / 2 = n / 2 ^ (k + 1) := by
  have : (0 : Int) ≤ 2 ^ k := by have := pow2_le (Nat.zero_le k); rw [Int.pow_zero] at this; omega
  rw [Int.ediv_ediv_of_nonneg this, Int.pow_succ]
theorem pairwise_lt {ms : List Int} (h : ms.Pairwise (· ≤ ·)) (hn : ms.Nodup) : ms.Pairwise (· < ·) := by
  induction ms with
  | nil => exact .nil
  | cons m ms ih =>
    rw [List.pairwise_cons] at h
    rw [List.nodup_cons] at hn
    rw [List.pairwise_cons]
    refine ⟨fun x hx => ?_, ih h.2 hn.2⟩
    have h1 := h.1 x hx
    have h2 : x ≠ m := fun e => hn.1 (e ▸ hx)
    omega
theorem range_lt (n : Nat) : ((List.range n).map fun (i : Nat) => (i : Int)).Pairwise (· < ·) := by
  rw [List.pairwise_map]
  exact List.pairwise_lt_range.imp (fun h => by omega)
theorem sizes_ok {l : List Int} (h : ∀ s ∈ l, 0 < s ∧ s ≤ 1000000000000) : ∀ s ∈ l, 0 < s ∧ s < 2 ^ 1000 := fun s hs => by
  have := pow2_le (a := 50) (b := 1000) (by decide)
  have := h s hs
  omega
theorem str_0 : Str.ofString "0" = ⟨#[48]⟩ := by decide +kernel
theorem str_1 : Str.ofString "1" = ⟨#[49]⟩ := by decide +kernel
theorem str_e : Str.ofString "" = ⟨#[]⟩ := by decide +kernel
theorem sgn1 {c d : Nat} : ((⟨#[c]⟩ : Str) = ⟨#[d]⟩) = (c = d) := by simp
end PL
end

section
set_option linter.all false
set_option maxRecDepth 100000
set_option maxHeartbeats 4000000
set_option autoImplicit false
/-! PL11: the readings at known data, one equation each (printed by a small program of ours). -/
namespace PL
open PySem PySem.Spec PyProof.Rows L2
theorem isiE {d : D} {n T : String} {b : Bool} {P : D → Prop} (h1 : tyName d = some n) (h2 : kitB n T = some b) : (∃ n b, tyName d = some n ∧ kitB n T = some b ∧ P (.bl b)) = P (.bl b) := by
  refine propext ⟨fun ⟨m, c, e1, e2, p⟩ => ?_, fun p => ⟨_, _, h1, h2, p⟩⟩
  rw [h1] at e1; cases e1
  rw [h2] at e2; cases e2
  exact p
theorem ixE {ds : List D} {i : Int} {x : D} {P : D → Prop} (h : atI ds i = some x) : (∃ d, atI ds i = some d ∧ P d) = P x := by rw [h]; exact propext ⟨fun ⟨d, e, p⟩ => by cases e; exact p, fun p => ⟨x, rfl, p⟩⟩
theorem ixE_0 {x0 : D} {l : List D} {P : D → Prop} : (∃ d, atI (x0 :: l) 0 = some d ∧ P d) = P x0 := ixE (atI_nat (j := 0) rfl)
theorem ixE_1 {x0 x1 : D} {l : List D} {P : D → Prop} : (∃ d, atI (x0 :: x1 :: l) 1 = some d ∧ P d) = P x1 := ixE (atI_nat (j := 1) rfl)
theorem ixE_2 {x0 x1 x2 : D} {l : List D} {P : D → Prop} : (∃ d, atI (x0 :: x1 :: x2 :: l) 2 = some d ∧ P d) = P x2 := ixE (atI_nat (j := 2) rfl)
theorem ixE_3 {x0 x1 x2 x3 : D} {l : List D} {P : D → Prop} : (∃ d, atI (x0 :: x1 :: x2 :: x3 :: l) 3 = some d ∧ P d) = P x3 := ixE (atI_nat (j := 3) rfl)
theorem ixE_4 {x0 x1 x2 x3 x4 : D} {l : List D} {P : D → Prop} : (∃ d, atI (x0 :: x1 :: x2 :: x3 :: x4 :: l) 4 = some d ∧ P d) = P x4 := ixE (atI_nat (j := 4) rfl)
theorem ixE_5 {x0 x1 x2 x3 x4 x5 : D} {l : List D} {P : D → Prop} : (∃ d, atI (x0 :: x1 :: x2 :: x3 :: x4 :: x5 :: l) 5 = some d ∧ P d) = P x5 := ixE (atI_nat (j := 5) rfl)
theorem ixE_6 {x0 x1 x2 x3 x4 x5 x6 : D} {l : List D} {P : D → Prop} : (∃ d, atI (x0 :: x1 :: x2 :: x3 :: x4 :: x5 :: x6 :: l) 6 = some d ∧ P d) = P x6 := ixE (atI_nat (j := 6) rfl)
theorem ixE_7 {x0 x1 x2 x3 x4 x5 x6 x7 : D} {l : List D} {P : D → Prop} : (∃ d, atI (x0 :: x1 :: x2 :: x3 :: x4 :: x5 :: x6 :: x7 :: l) 7 = some d ∧ P d) = P x7 := ixE (atI_nat (j := 7) rfl)
theorem ixE_8 {x0 x1 x2 x3 x4 x5 x6 x7 x8 : D} {l : List D} {P : D → Prop} : (∃ d, atI (x0 :: x1 :: x2 :: x3 :: x4 :: x5 :: x6 :: x7 :: x8 :: l) 8 = some d ∧ P d) = P x8 := ixE (atI_nat (j := 8) rfl)
def isiD (T : String) (d : D) (P : D → Prop) : Prop := ∃ n b, tyName d = some n ∧ kitB n T = some b ∧ P (.bl b)
theorem inP_l {neg : Bool} {x : D} {ys : List D} {P : D → Prop} : inP neg x (.lst ys) P = (cmpOk x = true ∧ cmpOk (.lst ys) = true ∧ P (.bl (hasP x ys != neg))) := rfl
theorem isiP_eq {T : String} {p : PTE} {env : List C} {P : D → Prop} : isiP T p env P = p env fun d => isiD T d P := rfl
theorem addP_i {P : D → Prop} {i j : Int} : addP (.int i) (.int j) P = (P (.int (i + j))) := rfl
theorem addP_s {P : D → Prop} {i j : Str} : addP (.str i) (.str j) P = (i.length + j.length ≤ sizeLine ∧ P (.str (i ++ j))) := rfl
theorem addP_t {P : D → Prop} {i j : List D} : addP (.tup i) (.tup j) P = (i ≠ [] ∧ i.length + j.length ≤ sizeLine ∧ P (.tup (i ++ j))) := rfl
theorem addP_l {P : D → Prop} {i j : List D} : addP (.lst i) (.lst j) P = (i.length + j.length ≤ sizeLine ∧ P (.lst (i ++ j))) := rfl
theorem catP_l {P : D → Prop} {i j : List D} : catP (.lst i) (.lst j) P = (i.length + j.length ≤ sizeLine ∧ P (.lst (i ++ j))) := rfl
theorem subP_i {P : D → Prop} {i j : Int} : subP (.int i) (.int j) P = (P (.int (i - j))) := rfl
theorem mulP_i {P : D → Prop} {i j : Int} : mulP (.int i) (.int j) P = (CMulX i j ∧ P (.int (i * j))) := rfl
theorem mulP_l {P : D → Prop} {i : List D} {j : Int} : mulP (.lst i) (.int j) P = (-(2 ^ 63) ≤ j ∧ j < 2 ^ 63 ∧ i.length * j.toNat ≤ sizeLine ∧ P (.lst (List.replicate j.toNat i).flatten)) := rfl
theorem mulP_s {P : D → Prop} {i : Str} {j : Int} : mulP (.str i) (.int j) P = (-(2 ^ 63) ≤ j ∧ j < 2 ^ 63 ∧ i.length * j.toNat ≤ sizeLine ∧ P (.str (repS i j.toNat))) := rfl
theorem repP_l {P : D → Prop} {i : List D} {j : Int} : repP (.lst i) (.int j) P = (-(2 ^ 63) ≤ j ∧ j < 2 ^ 63 ∧ i.length * j.toNat ≤ sizeLine ∧ P (.lst (List.replicate j.toNat i).flatten)) := rfl
theorem fdivP_i {P : D → Prop} {i j : Int} : fdivP (.int i) (.int j) P = (CDivW i j ∧ P (.int (i / j))) := rfl
theorem modP_i {P : D → Prop} {i j : Int} : modP (.int i) (.int j) P = (0 < j ∧ P (.int (i % j))) := rfl
theorem powP_i {P : D → Prop} {i j : Int} : powP (.int i) (.int j) P = (CPow i j ∧ P (.int (i ^ j.toNat))) := rfl
theorem ltP_i {P : D → Prop} {i j : Int} : ltP (.int i) (.int j) P = (P (.bl (decide (i < j)))) := rfl
theorem ltP_s {P : D → Prop} {i j : Str} : ltP (.str i) (.str j) P = (P (.bl (decide (i.cps.toList < j.cps.toList)))) := rfl
theorem gtP_i {P : D → Prop} {i j : Int} : gtP (.int i) (.int j) P = (P (.bl (decide (j < i)))) := rfl
theorem gtP_s {P : D → Prop} {i j : Str} : gtP (.str i) (.str j) P = (P (.bl (decide (j.cps.toList < i.cps.toList)))) := rfl
theorem leP_i {P : D → Prop} {i j : Int} : leP (.int i) (.int j) P = (P (.bl (decide (i ≤ j)))) := rfl
theorem leP_s {P : D → Prop} {i j : Str} : leP (.str i) (.str j) P = (P (.bl (!decide (j.cps.toList < i.cps.toList)))) := rfl
theorem geP_i {P : D → Prop} {i j : Int} : geP (.int i) (.int j) P = (P (.bl (decide (j ≤ i)))) := rfl
theorem geP_s {P : D → Prop} {i j : Str} : geP (.str i) (.str j) P = (P (.bl (!decide (i.cps.toList < j.cps.toList)))) := rfl
theorem eqP_int {P : D → Prop} {i j : Int} : eqP (.int i) (.int j) P = (P (.bl (decide (i = j)))) := rfl
theorem eqP_str {P : D → Prop} {i j : Str} : eqP (.str i) (.str j) P = (P (.bl (decide (i = j)))) := rfl
theorem eqP_bl {P : D → Prop} {i j : Bool} : eqP (.bl i) (.bl j) P = (P (.bl (decide (i = j)))) := rfl
theorem eqP_lst_lst {P : D → Prop} {i j : List D} : eqP (.lst i) (.lst j) P = (cmpOk (.lst i) = true ∧ cmpOk (.lst j) = true ∧ P (.bl (PyData.eqv (toPy (.lst i)) (toPy (.lst j))))) := rfl
theorem eqP_tup_tup {P : D → Prop} {i j : List D} : eqP (.tup i) (.tup j) P = (cmpOk (.tup i) = true ∧ cmpOk (.tup j) = true ∧ P (.bl (PyData.eqv (toPy (.tup i)) (toPy (.tup j))))) := rfl
theorem eqP_lst_tup {P : D → Prop} {i j : List D} : eqP (.lst i) (.tup j) P = (cmpOk (.lst i) = true ∧ cmpOk (.tup j) = true ∧ P (.bl (PyData.eqv (toPy (.lst i)) (toPy (.tup j))))) := rfl
theorem eqP_tup_lst {P : D → Prop} {i j : List D} : eqP (.tup i) (.lst j) P = (cmpOk (.tup i) = true ∧ cmpOk (.lst j) = true ∧ P (.bl (PyData.eqv (toPy (.tup i)) (toPy (.lst j))))) := rfl
theorem neP_int {P : D → Prop} {i j : Int} : neP (.int i) (.int j) P = (P (.bl (!decide (i = j)))) := rfl
theorem neP_str {P : D → Prop} {i j : Str} : neP (.str i) (.str j) P = (P (.bl (!decide (i = j)))) := rfl
theorem neP_bl {P : D → Prop} {i j : Bool} : neP (.bl i) (.bl j) P = (P (.bl (!decide (i = j)))) := rfl
theorem neP_lst_lst {P : D → Prop} {i j : List D} : neP (.lst i) (.lst j) P = (cmpOk (.lst i) = true ∧ cmpOk (.lst j) = true ∧ P (.bl (!PyData.eqv (toPy (.lst i)) (toPy (.lst j))))) := rfl
theorem neP_tup_tup {P : D → Prop} {i j : List D} : neP (.tup i) (.tup j) P = (cmpOk (.tup i) = true ∧ cmpOk (.tup j) = true ∧ P (.bl (!PyData.eqv (toPy (.tup i)) (toPy (.tup j))))) := rfl
theorem neP_lst_tup {P : D → Prop} {i j : List D} : neP (.lst i) (.tup j) P = (cmpOk (.lst i) = true ∧ cmpOk (.tup j) = true ∧ P (.bl (!PyData.eqv (toPy (.lst i)) (toPy (.tup j))))) := rfl
theorem neP_tup_lst {P : D → Prop} {i j : List D} : neP (.tup i) (.lst j) P = (cmpOk (.tup i) = true ∧ cmpOk (.lst j) = true ∧ P (.bl (!PyData.eqv (toPy (.tup i)) (toPy (.lst j))))) := rfl
theorem asB_b {P : Bool → Prop} {b : Bool} : asB P (.bl b) = (P b) := rfl
theorem asS_s {P : Str → Prop} {b : Str} : asS P (.str b) = (P b) := rfl
theorem lenP_lst {P : D → Prop} {xs : List D} : lenP [.lst xs] P = (P (.int (xs.length : Nat))) := rfl
theorem itP_lst {P : Sq → Prop} {xs : List D} : itP P (.lst xs) = (P (sqL xs)) := rfl
theorem ixP_lst {P : D → Prop} {xs : List D} {i : Int} : ixP (.lst xs) (.int i) P = (∃ d, atI xs i = some d ∧ P d) := rfl
theorem listP_lst_ {P : D → Prop} {xs : List D} : listP [.lst xs] P = (∃ ys, itemsOf (.lst xs) = some ys ∧ P (.lst ys)) := rfl
theorem tupleP_lst_ {P : D → Prop} {xs : List D} : tupleP [.lst xs] P = (∃ ys, itemsOf (.lst xs) = some ys ∧ P (.tup ys)) := rfl
theorem sumP_lst_ {P : D → Prop} {xs : List D} : sumP [.lst xs] P = (∃ ys ns, lstOf (.lst xs) = some ys ∧ intsOf ys = some ns ∧ P (.int ns.sum)) := rfl
theorem maxP_lst_ {P : D → Prop} {xs : List D} : maxP [.lst xs] P = (∃ ys ns, lstOf (.lst xs) = some ys ∧ intsOf ys = some ns ∧ 0 < ns.length ∧ ∀ m, m ∈ ns → (∀ y, y ∈ ns → y ≤ m) → P (.int m)) := rfl
theorem minP_lst_ {P : D → Prop} {xs : List D} : minP [.lst xs] P = (∃ ys ns, lstOf (.lst xs) = some ys ∧ intsOf ys = some ns ∧ 0 < ns.length ∧ ∀ m, m ∈ ns → (∀ y, y ∈ ns → m ≤ y) → P (.int m)) := rfl
theorem lenP_tup {P : D → Prop} {xs : List D} : lenP [.tup xs] P = (P (.int (xs.length : Nat))) := rfl
theorem itP_tup {P : Sq → Prop} {xs : List D} : itP P (.tup xs) = (P (sqL xs)) := rfl
theorem ixP_tup {P : D → Prop} {xs : List D} {i : Int} : ixP (.tup xs) (.int i) P = (∃ d, atI xs i = some d ∧ P d) := rfl
theorem listP_tup_ {P : D → Prop} {xs : List D} : listP [.tup xs] P = (∃ ys, itemsOf (.tup xs) = some ys ∧ P (.lst ys)) := rfl
theorem tupleP_tup_ {P : D → Prop} {xs : List D} : tupleP [.tup xs] P = (∃ ys, itemsOf (.tup xs) = some ys ∧ P (.tup ys)) := rfl
theorem sumP_tup_ {P : D → Prop} {xs : List D} : sumP [.tup xs] P = (∃ ys ns, lstOf (.tup xs) = some ys ∧ intsOf ys = some ns ∧ P (.int ns.sum)) := rfl
theorem maxP_tup_ {P : D → Prop} {xs : List D} : maxP [.tup xs] P = (∃ ys ns, lstOf (.tup xs) = some ys ∧ intsOf ys = some ns ∧ 0 < ns.length ∧ ∀ m, m ∈ ns → (∀ y, y ∈ ns → y ≤ m) → P (.int m)) := rfl
theorem minP_tup_ {P : D → Prop} {xs : List D} : minP [.tup xs] P = (∃ ys ns, lstOf (.tup xs) = some ys ∧ intsOf ys = some ns ∧ 0 < ns.length ∧ ∀ m, m ∈ ns → (∀ y, y ∈ ns → m ≤ y) → P (.int m)) := rfl
theorem lenP_scr {P : D → Prop} {xs : List D} : lenP [.scr xs] P = (P (.int (xs.length : Nat))) := rfl
theorem itP_scr {P : Sq → Prop} {xs : List D} : itP P (.scr xs) = (P (sqL xs)) := rfl
theorem ixP_scr {P : D → Prop} {xs : List D} {i : Int} : ixP (.scr xs) (.int i) P = (∃ d, atI xs i = some d ∧ P d) := rfl
theorem listP_scr_ {P : D → Prop} {xs : List D} : listP [.scr xs] P = (∃ ys, itemsOf (.scr xs) = some ys ∧ P (.lst ys)) := rfl
theorem tupleP_scr_ {P : D → Prop} {xs : List D} : tupleP [.scr xs] P = (∃ ys, itemsOf (.scr xs) = some ys ∧ P (.tup ys)) := rfl
theorem sumP_scr_ {P : D → Prop} {xs : List D} : sumP [.scr xs] P = (∃ ys ns, lstOf (.scr xs) = some ys ∧ intsOf ys = some ns ∧ P (.int ns.sum)) := rfl
theorem maxP_scr_ {P : D → Prop} {xs : List D} : maxP [.scr xs] P = (∃ ys ns, lstOf (.scr xs) = some ys ∧ intsOf ys = some ns ∧ 0 < ns.length ∧ ∀ m, m ∈ ns → (∀ y, y ∈ ns → y ≤ m) → P (.int m)) := rfl
theorem minP_scr_ {P : D → Prop} {xs : List D} : minP [.scr xs] P = (∃ ys ns, lstOf (.scr xs) = some ys ∧ intsOf ys = some ns ∧ 0 < ns.length ∧ ∀ m, m ∈ ns → (∀ y, y ∈ ns → m ≤ y) → P (.int m)) := rfl
theorem lenP_str {P : D → Prop} {z : Str} : lenP [.str z] P = (z.length ≤ sizeLine ∧ P (.int (z.length : Nat))) := rfl
theorem lenP_dk {P : D → Prop} {z : List (Key × D)} : lenP [.dk z] P = (P (.int (z.length : Nat))) := rfl
theorem itP_str {P : Sq → Prop} {xs : Str} : itP P (.str xs) = (P (sqL (signs xs))) := rfl
theorem ixP_str {P : D → Prop} {z : Str} {i : Int} : ixP (.str z) (.int i) P = (z.length ≤ sizeLine ∧ ∃ c, atI z.cps.toList i = some c ∧ P (.str ⟨#[c]⟩)) := rfl
theorem intP_i {P : D → Prop} {i : Int} : intP [.int i] P = (P (.int i)) := rfl
theorem intP_b {P : D → Prop} {k : Bool} : intP [.bl k] P = (P (.int (if k then 1 else 0))) := rfl
theorem rg1_i {P : Sq → Prop} {i : Int} : rg1 P (.int i) = (PL.inR i ∧ P (sqR 0 i.toNat)) := rfl
theorem rg2_i {P : Sq → Prop} {i j : Int} : rg2 P (.int i) (.int j) = ((PL.inR i ∧ PL.inR j) ∧ P (sqR i (j - i).toNat)) := rfl
theorem lr1_i {P : D → Prop} {n : Int} : lr1 P (.int n) = (RgOk 0 n ∧ P (.lst ((List.range n.toNat).map fun (i : Nat) => D.int (i : Int)))) := rfl
theorem lr2_i {P : D → Prop} {m n : Int} : lr2 P (.int m) (.int n) = (RgOk m n ∧ P (.lst ((List.range (n - m).toNat).map fun (i : Nat) => D.int (m + (i : Int))))) := rfl
theorem maxP_2 {P : D → Prop} {i j : Int} : maxP [.int i, .int j] P = (P (.int (max i j))) := rfl
theorem maxP_3 {P : D → Prop} {i j k : Int} : maxP [.int i, .int j, .int k] P = (P (.int (max (max i j) k))) := rfl
theorem minP_2 {P : D → Prop} {i j : Int} : minP [.int i, .int j] P = (P (.int (min i j))) := rfl
theorem minP_3 {P : D → Prop} {i j k : Int} : minP [.int i, .int j, .int k] P = (P (.int (min (min i j) k))) := rfl
theorem slP_lst {P : D → Prop} {ds : List D} {lo hi : Option Int} : slP (.lst ds) lo hi P = (P (.lst (cutD ds lo hi))) := rfl
theorem slP_tup {P : D → Prop} {ds : List D} {lo hi : Option Int} : slP (.tup ds) lo hi P = (P (.tup (cutD ds lo hi))) := rfl
theorem slP_str {P : D → Prop} {ds : Str} {lo hi : Option Int} : slP (.str ds) lo hi P = (ds.length ≤ sizeLine ∧ P (.str (cutS ds lo hi))) := rfl
theorem slPL_lst {P : D → Prop} {ds : List D} {lo hi : Option Int} : slPL (.lst ds) lo hi P = (P (.lst (cutD ds lo hi))) := rfl
theorem pgTup_l {n : Nat} {h : PTGs} {ds : List D} {env : List C} {P : List C → Prop} : pgTup n h (.lst ds) env P = (ds.length = n ∧ h ds env P) := rfl
theorem pgsCons_c {g : PTG} {h : PTGs} {d : D} {r : List D} {env : List C} {P : List C → Prop} : pgsCons g h (d :: r) env P = (g d env fun env' => h r env' P) := rfl
theorem pgsNil_n {env : List C} {P : List C → Prop} : pgsNil [] env P = P env := rfl
theorem pgTup_t {n : Nat} {h : PTGs} {ds : List D} {env : List C} {P : List C → Prop} : pgTup n h (.tup ds) env P = (ds.length = n ∧ h ds env P) := rfl
theorem isi_non_int {P : D → Prop} : isiD "int" (.non : D) P = P (.bl false) := isiE rfl (by decide)
theorem isi_non_bool {P : D → Prop} : isiD "bool" (.non : D) P = P (.bl false) := isiE rfl (by decide)
theorem isi_non_str {P : D → Prop} : isiD "str" (.non : D) P = P (.bl false) := isiE rfl (by decide)
theorem isi_non_list {P : D → Prop} : isiD "list" (.non : D) P = P (.bl false) := isiE rfl (by decide)
theorem isi_non_tuple {P : D → Prop} : isiD "tuple" (.non : D) P = P (.bl false) := isiE rfl (by decide)
theorem isi_bl_int {P : D → Prop} {z : Bool} : isiD "int" (.bl z) P = P (.bl true) := isiE rfl (by decide)
theorem isi_bl_bool {P : D → Prop} {z : Bool} : isiD "bool" (.bl z) P = P (.bl true) := isiE rfl (by decide)
theorem isi_bl_str {P : D → Prop} {z : Bool} : isiD "str" (.bl z) P = P (.bl false) := isiE rfl (by decide)
theorem isi_bl_list {P : D → Prop} {z : Bool} : isiD "list" (.bl z) P = P (.bl false) := isiE rfl (by decide)
theorem isi_bl_tuple {P : D → Prop} {z : Bool} : isiD "tuple" (.bl z) P = P (.bl false) := isiE rfl (by decide)
theorem isi_int_int {P : D → Prop} {z : Int} : isiD "int" (.int z) P = P (.bl true) := isiE rfl (by decide)
theorem isi_int_bool {P : D → Prop} {z : Int} : isiD "bool" (.int z) P = P (.bl false) := isiE rfl (by decide)
theorem isi_int_str {P : D → Prop} {z : Int} : isiD "str" (.int z) P = P (.bl false) := isiE rfl (by decide)
theorem isi_int_list {P : D → Prop} {z : Int} : isiD "list" (.int z) P = P (.bl false) := isiE rfl (by decide)
theorem isi_int_tuple {P : D → Prop} {z : Int} : isiD "tuple" (.int z) P = P (.bl false) := isiE rfl (by decide)
theorem isi_str_int {P : D → Prop} {z : Str} : isiD "int" (.str z) P = P (.bl false) := isiE rfl (by decide)
theorem isi_str_bool {P : D → Prop} {z : Str} : isiD "bool" (.str z) P = P (.bl false) := isiE rfl (by decide)
theorem isi_str_str {P : D → Prop} {z : Str} : isiD "str" (.str z) P = P (.bl true) := isiE rfl (by decide)
theorem isi_str_list {P : D → Prop} {z : Str} : isiD "list" (.str z) P = P (.bl false) := isiE rfl (by decide)
theorem isi_str_tuple {P : D → Prop} {z : Str} : isiD "tuple" (.str z) P = P (.bl false) := isiE rfl (by decide)
theorem isi_tup_int {P : D → Prop} {z : List D} : isiD "int" (.tup z) P = P (.bl false) := isiE rfl (by decide)
theorem isi_tup_bool {P : D → Prop} {z : List D} : isiD "bool" (.tup z) P = P (.bl false) := isiE rfl (by decide)
theorem isi_tup_str {P : D → Prop} {z : List D} : isiD "str" (.tup z) P = P (.bl false) := isiE rfl (by decide)
theorem isi_tup_list {P : D → Prop} {z : List D} : isiD "list" (.tup z) P = P (.bl false) := isiE rfl (by decide)
theorem isi_tup_tuple {P : D → Prop} {z : List D} : isiD "tuple" (.tup z) P = P (.bl true) := isiE rfl (by decide)
theorem isi_lst_int {P : D → Prop} {z : List D} : isiD "int" (.lst z) P = P (.bl false) := isiE rfl (by decide)
theorem isi_lst_bool {P : D → Prop} {z : List D} : isiD "bool" (.lst z) P = P (.bl false) := isiE rfl (by decide)
theorem isi_lst_str {P : D → Prop} {z : List D} : isiD "str" (.lst z) P = P (.bl false) := isiE rfl (by decide)
theorem isi_lst_list {P : D → Prop} {z : List D} : isiD "list" (.lst z) P = P (.bl true) := isiE rfl (by decide)
theorem isi_lst_tuple {P : D → Prop} {z : List D} : isiD "tuple" (.lst z) P = P (.bl false) := isiE rfl (by decide)
theorem joinRP_l {z : Str} {xs : List Str} {P : D → Prop} : joinRP z (.lst (xs.map D.str)) P = ((xs.map (·.length)).sum + xs.length * z.length ≤ 16777216 ∧ P (.str (Txt.join z xs.reverse))) := by
  refine propext ⟨fun ⟨a, b, h1, h2, h⟩ => ?_, fun h => ⟨_, _, rfl, strsOf_map xs, h⟩⟩
  cases h1
  rw [strsOf_map] at h2; cases h2
  exact h
end PL
end

section
set_option linter.all false
set_option maxRecDepth 100000
set_option maxHeartbeats 4000000
set_option autoImplicit false
/-! PL12: repr of a number. -/
namespace PL
open PySem PySem.Spec PyProof.Rows L2
section
variable {X : Cx} {e a b : Expr} {pa pb : PTE} {pos p' : Pos}
def reprP : PSp := fun ds P => match ds with
  | [.int i] => i.natAbs.log2 < 1920 ∧ P (.str (toString i))
  | _ => False
theorem reprP_ok : CallOk X (fun xs H Q => ∃ i, xs = [.int i] ∧ i.natAbs.log2 < 1920 ∧ Q (.str (toString i)) H) reprP := by
  intro G H vs ds P Q s rs h k
  unfold reprP at h
  split at h
  · obtain ⟨v, rfl, r⟩ := one_shal rs
    cases r.int
    exact ⟨_, rfl, h.1, k _ _ G H (.refl s) (.str _) h.2⟩
  · exact h.elim
theorem pu_repr (hm : X.mg "repr" = none) (h : PuO X a pa) (hs : starEach [a] X.env = (false, eval a X.env) :: starEach [] X.env := by rfl) (hg : Gl X "repr" := by rfl) : PuE X (.Call (.Name "repr" p') [a] [] pos) (pCall reprP (paCons pa paNil)) :=
  pu_bi SkE.call_repr_int reprP_ok hm (puao_cons h puao_nil hs) hg (by decide +kernel) (by decide) (by decide) hs rfl
theorem reprP_i {P : D → Prop} {i : Int} : reprP [.int i] P = (i.natAbs.log2 < 1920 ∧ P (.str (toString i))) := rfl
theorem reprb {i : Int} (a : Nat) (h0 : 0 ≤ i) (h : i < 2 ^ a) (ha : a ≤ 1919) : i.natAbs.log2 < 1920 := by
  by_cases e : i.natAbs = 0
  · rw [e]; decide
  · have := (Nat.log2_lt e).mpr (natAbs_lt_pow h0 h)
    omega
/-- a statement behind which the ways meet again: J holds there -/
def pJn (p : PTS) : PTS := fun PD env => ∃ J : List C → Prop, p { PD with nx := J } env ∧ ∀ e, J e → PD.nx e
theorem pus_jn {st : Stmt} {p : PTS} (h : PuS X st p) : PuS X st (pJn p) := by
  obtain ⟨t, h1, h2⟩ := h.ex
  refine ⟨t, h1, fun G0 H0 G H env σ PD E r ok ⟨J, hp, hj⟩ => ?_⟩
  exact h2 G0 H0 G H env σ { PD with nx := J } E r ⟨fun G1 H1 env1 σ1 r1 z => ok.nx G1 H1 env1 σ1 r1 (hj env1 z), ok.bk, ok.ct, ok.rt, ok.ro⟩ hp
theorem jn {p : PTS} {PD : PEnds} {env : List C} (J : List C → Prop) (h1 : p { PD with nx := J } env) (h2 : ∀ e, J e → PD.nx e) : pJn p PD env := ⟨J, h1, h2⟩
theorem setP_i {ds : List D} {i : Int} {v : D} {P : D → Prop} : setP (.lst ds) (.int i) v P = ∃ j, ixN ds.length i = some j ∧ P (.lst (ds.set j v)) :=
  propext ⟨fun ⟨k, j, e, h1, h2⟩ => by cases e; exact ⟨j, h1, h2⟩, fun ⟨j, h1, h2⟩ => ⟨_, j, rfl, h1, h2⟩⟩
theorem ixN_nat {n j : Nat} (h : j < n) : ixN n (j : Int) = some j := by
  unfold ixN
  rw [if_pos (by omega), if_pos (by omega)]; simp
theorem ixN_int {n : Nat} {i : Int} (h0 : 0 ≤ i) (h : i < n) : ixN n i = some i.toNat := by
  unfold ixN
  rw [if_pos h0, if_pos h]
theorem cutD_map {α : Type} (f : α → D) (xs : List α) (a b : Nat) (h : b ≤ xs.length) : cutD (xs.map f) (some (a : Int)) (some (b : Int)) = ((xs.drop a).take (b - a)).map f := by
  unfold cutD
  rw [HT.sIx_nat, HT.sIx_nat, List.length_map, Nat.min_eq_left h, List.map_take, List.map_drop]
  by_cases ha : a ≤ xs.length
  · rw [Nat.min_eq_left ha]
  · rw [Nat.min_eq_right (by omega), List.drop_of_length_le (by simp), List.drop_of_length_le (by simp; omega)]; simp
theorem cutD_from {α : Type} (f : α → D) (xs : List α) (a : Nat) : cutD (xs.map f) (some (a : Int)) none = (xs.drop a).map f := by
  unfold cutD
  rw [HT.sIx_nat, HT.sIx_none, List.length_map, List.map_drop]
  by_cases ha : a ≤ xs.length
  · rw [Nat.min_eq_left ha, List.take_of_length_le (by simp)]
  · rw [Nat.min_eq_right (by omega), List.drop_of_length_le (by simp), List.drop_of_length_le (by simp; omega)]; simp
theorem cutD_to {α : Type} (f : α → D) (xs : List α) (b : Nat) (h : b ≤ xs.length) : cutD (xs.map f) none (some (b : Int)) = (xs.take b).map f := by
  unfold cutD
  rw [HT.sIx_nat, HT.sIx_none, List.length_map, Nat.min_eq_left h, List.drop_zero, Nat.sub_zero, List.map_take]
theorem take4 {α : Type} {xs : List α} {a : Nat} {p q r s : α} (h0 : xs[a]? = some p) (h1 : xs[a + 1]? = some q) (h2 : xs[a + 2]? = some r) (h3 : xs[a + 3]? = some s) : (xs.drop a).take 4 = [p, q, r, s] := by
  apply List.ext_getElem?
  intro i
  rw [List.getElem?_take]
  match i with
  | 0 => rw [if_pos (by decide), List.getElem?_drop]; exact h0
  | 1 => rw [if_pos (by decide), List.getElem?_drop]; exact h1
  | 2 => rw [if_pos (by decide), List.getElem?_drop]; exact h2
  | 3 => rw [if_pos (by decide), List.getElem?_drop]; exact h3
  | i + 4 => rw [if_neg (by omega)]; rfl
theorem Digs.get {rs ss : List Int} (h : Digs rs ss) {i : Nat} {s : Int} (hs : ss[i]? = some s) : ∃ x, rs[i]? = some x ∧ 0 ≤ x ∧ x < s := by
  have hi : i < rs.length := by rw [h.length]; exact (List.getElem?_eq_some_iff.mp hs).1
  exact ⟨_, List.getElem?_eq_getElem hi, h.at (List.getElem?_eq_getElem hi) hs⟩
theorem atI_int {α β : Type} (f : α → β) {xs : List α} {i : Int} {x : α} (j : Nat) (e : i = (j : Int)) (h : xs[j]? = some x) : atI (xs.map f) i = some (f x) := by
  subst e; exact atI_map f h
end
end PL
end

section
set_option linter.all false
set_option maxRecDepth 100000
set_option maxHeartbeats 4000000
set_option autoImplicit false
/-! PL13: divmod, dict.get, list.reverse, loops over a dict (locked), calls that give a new cell. -/
namespace PL
open PySem PySem.Spec PyProof.Rows L2
section
variable {X : Cx} {e a b c : Expr} {es : List Expr} {pe pa pb pc : PTE} {ps : PTA} {pos p' : Pos}
/-! ### divmod -/
def divmodP : PSp := fun ds P => match ds with
  | [.int i, .int j] => CDiv i j ∧ P (.tup [.int (i / j), .int (i % j)])
  | _ => False
theorem divmodP_ok : CallOk X (fun xs H Q => ∃ i j, xs = [.int i, .int j] ∧ CDiv i j ∧ ∀ p, H p = none → Q (.ref p) (upd H p (.tup [.int (i / j), .int (i % j)]))) divmodP := by
  intro G H vs ds P Q s rs h k
  unfold divmodP at h
  split at h
  · obtain ⟨v, w, rfl, r, r2⟩ := two_shal rs
    cases r.int
    cases r2.int
    exact ⟨_, _, rfl, h.1, fun p hn => k _ _ _ _ (Ext.new s hn) (.tup upd_same (.cons (.int _) (.cons (.int _) .nil))) h.2⟩
  · exact h.elim
theorem pu_divmod (hm : X.mg "divmod" = none) (h : PuAO X [a, b] ps) (hs : starEach [a, b] X.env = (false, eval a X.env) :: starEach [b] X.env := by rfl) (hpl : (backTo pos (starEach [b] X.env)).any (·.1) = false := by rfl) (hg : Gl X "divmod" := by rfl) :
    PuE X (.Call (.Name "divmod" p') [a, b] [] pos) (pCall divmodP ps) := pu_bi call_divmod divmodP_ok hm h hg (by decide +kernel) (by decide) (by decide) hs hpl
theorem divmodP_i {P : D → Prop} {i j : Int} : divmodP [.int i, .int j] P = (CDiv i j ∧ P (.tup [.int (i / j), .int (i % j)])) := rfl

/-! ### d.get(k, x) -/
def isDk : D → Bool
  | .dk _ => true
  | .dt _ => true
  | _ => false
theorem Shal.isD {K : PySem.W.Frag} {mg : MG} {G H : Hp} {v : V} {d : D} (r : Shal K mg H G v d) (s : Same G H) (h : isDk d = true) : ∃ l, v = .ref l ∧ IsD H l := by
  cases d with
  | dk ds => obtain ⟨l, vs, rfl, e, _⟩ := r.dk s; exact ⟨l, rfl, .inl ⟨vs, e⟩⟩
  | dt ds => obtain ⟨l, vs, rfl, e, _⟩ := r.dt s; exact ⟨l, rfl, .inr ⟨vs, .inl e⟩⟩
  | _ => cases h
def getDP (x y z : D) (P : D → Prop) : Prop := ∃ o, getP x y = some o ∧ P (o.getD z)
def pGet (pa pb pc : PTE) : PTE := fun env P => pa env fun x => isDk x = true ∧ pb env fun y => pc env fun z => getDP x y z P
theorem pu_get {apos : Pos} (hu : X.A.units + 1 < cLine) (ho : PuO X a pa) (he : PuE X b pb) (hf : PuE X c pc) (m : M2 X a "get" apos b c pos := by exact ⟨rfl, rfl, rfl, rfl⟩) :
    PuE X (.Call (.Attribute a "get" apos) [b, c] [] pos) (pGet pa pb pc) := by
  obtain ⟨ta, a1, a2⟩ := ho.ex
  obtain ⟨tb, b1, b2⟩ := he.ex
  obtain ⟨tc, c1, c2⟩ := hf.ex
  refine ⟨_, pe_dget2 hu a1 b1 c1 m, fun G H env σ P Q ok hp k => ?_⟩
  refine a2 G H env σ _ _ ok hp fun x v G1 H1 e1 r1 q1 => ?_
  obtain ⟨l, rfl, d1⟩ := r1.isD e1.s q1.1
  refine ⟨l, rfl, d1, b2 G1 H1 env σ _ _ (ok.ext e1) q1.2 fun y w G2 H2 e2 r2 q2 => ?_⟩
  refine c2 G2 H2 env σ _ _ ((ok.ext e1).ext e2) q2 fun z u G3 H3 e3 r3 q3 => ?_
  obtain ⟨o, e4, q4⟩ := q3
  obtain ⟨l', el, g⟩ := Shal.dget e3.s ((r1.mono e2.h e2.g).mono e3.h e3.g) (r2.mono e3.g) e4
  cases el
  have x3 := (e1.trans e2).trans e3
  rcases g with ⟨rfl, g⟩ | ⟨z', u', rfl, g, r4⟩
  · exact ⟨none, g, k _ _ G3 H3 x3 r3 q4⟩
  · exact ⟨some u', g, k _ _ G3 H3 x3 r4 q4⟩

/-! ### x.reverse() -/
def pRevS (i : Nat) : PTS := fun PD env => match env[i]? with
  | some (.ow (.lst ds)) => PD.nx (env.set i (.ow (.lst ds.reverse)))
  | _ => False
theorem pus_rev (i : Nat) {x : Str} {apos npos p1 : Pos}
    (hs : PS X (.Expr (.Call (.Attribute (.Name x npos) "reverse" apos) [] [] p1) pos) (tDrop (tBM0 X.K "list" rReverse (tVar i))) := by exact ps_expr (pe_bm0 PySem.F.plainAttrs_list PySem.F.slot_list_reverse PySem.F.type_list_reverse mt_reverse (pv _))) :
    PuS X (.Expr (.Call (.Attribute (.Name x npos) "reverse" apos) [] [] p1) pos) (pRevS i) := by
  refine ⟨_, hs, fun G0 H0 G H env σ PD E r ok hp => ?_⟩
  unfold pRevS at hp
  split at hp
  · rename_i ds hi
    obtain ⟨l, hl, tp, n⟩ := r.ok.slot i _ hi
    cases tp with
    | lst hH rs =>
      refine ⟨.ref l, hl, .inl ⟨rfl, _, SqL.of hH⟩, l, _, rfl, rfl, hH, ?_⟩
      exact ok.nx G _ _ σ (r.write hi hl n (.lst upd_same rs.reverse)) hp
  · exact hp.elim
end

/-! ### a dict that is walked is locked -/
section
variable {K : PySem.W.Frag} {mg : MG} {G H G' H' : Hp} {l : Addr} {od : Obj} {us : List (Key × V)}
theorem unl {a : Addr} {o : HO} (e : G l = some (.frz od (.dK us))) (h : G a = some o) (d : o ≠ .frz od (.dK us)) : upd G l (.dK us) a = some o := by
  by_cases z : a = l
  · subst z; rw [e] at h; cases h; exact absurd rfl d
  · rw [upd_ne z]; exact h
mutual
theorem Rep.unl (e : G l = some (.frz od (.dK us))) : ∀ {v : V} {d : D}, Rep K mg G v d → Rep K mg (upd G l (.dK us)) v d
  | _, _, .non => .non
  | _, _, .bl b => .bl b
  | _, _, .int i => .int i
  | _, _, .str x => .str x
  | _, _, .tup h r => .tup (PL.unl e h (fun z => nomatch z)) (Reps.unl e r)
  | _, _, .lst h r => .lst (PL.unl e h (fun z => nomatch z)) (Reps.unl e r)
  | _, _, .scr h r => .scr (by
      rcases h with (h | ⟨o, h⟩) | h
      · exact .inl (.inl (PL.unl e h (fun z => nomatch z)))
      · exact .inl (.inr ⟨o, PL.unl e h (fun z => nomatch z)⟩)
      · exact .inr h) (Reps.unl e r)
  | _, _, .dk (a := a) h r => .dk (by
      rcases h with h | ⟨o, h⟩
      · exact .inl (PL.unl e h (fun z => nomatch z))
      · by_cases z : a = l
        · subst z; rw [e] at h; cases h; exact .inl upd_same
        · exact .inr ⟨o, by rw [upd_ne z]; exact h⟩) (RepKV.unl e r)
  | _, _, .dt h r => .dt (PL.unl e h (fun z => nomatch z)) (RepTV.unl e r)
  | _, _, .obj h m r => .obj (PL.unl e h (fun z => nomatch z)) m (RepF.unl e r)
  | _, _, .err h h2 m r => .err (PL.unl e h exo_frz) (PL.unl e h2 (fun z => by
      have z' : HO.ext _ = HO.frz _ _ := z
      cases z')) m (RepF.unl e r)
theorem Reps.unl (e : G l = some (.frz od (.dK us))) : ∀ {v : List V} {d : List D}, Reps K mg G v d → Reps K mg (upd G l (.dK us)) v d
  | _, _, .nil => .nil
  | _, _, .cons h t => .cons (Rep.unl e h) (Reps.unl e t)
theorem RepKV.unl (e : G l = some (.frz od (.dK us))) : ∀ {v : List (Key × V)} {d : List (Key × D)}, RepKV K mg G v d → RepKV K mg (upd G l (.dK us)) v d
  | _, _, .nil => .nil
  | _, _, .cons h t => .cons (Rep.unl e h) (RepKV.unl e t)
theorem RepTV.unl (e : G l = some (.frz od (.dK us))) : ∀ {v : List (List Key × V)} {d : List (List Key × D)}, RepTV K mg G v d → RepTV K mg (upd G l (.dK us)) v d
  | _, _, .nil => .nil
  | _, _, .cons h t => .cons (Rep.unl e h) (RepTV.unl e t)
theorem RepF.unl (e : G l = some (.frz od (.dK us))) : ∀ {v : List (Str × V)} {d : List (Str × D)}, RepF K mg G v d → RepF K mg (upd G l (.dK us)) v d
  | _, _, .nil => .nil
  | _, _, .cons h t => .cons (Rep.unl e h) (RepF.unl e t)
end
theorem Rel.lock {G0 H0 : Hp} {env : List C} {σ : L2.St} {i : Nat} {kvs : List (Key × D)} (r : Rel K mg G0 H0 G H env σ) (hi : env[i]? = some (.ow (.dk kvs))) (hl : σ[i]? = some (some (.ref l))) (hH : H l = some (.dK us)) (rs : RepKV K mg G us kvs) (n : G l = none) (od : Obj) :
    Rel K mg (upd G l (.frz od (.dK us))) H0 (upd G l (.frz od (.dK us))) (upd H l (.frz od (.dK us))) (env.set i (.fz (.dk kvs))) σ := by
  have n0 := r.own i _ l hi hl
  have sG : Same G (upd G l (.frz od (.dK us))) := Same.upd n
  have sH : Same (upd G l (.frz od (.dK us))) (upd H l (.frz od (.dK us))) := fun b u e => by
    by_cases z : b = l
    · subst z; rw [upd_same] at e ⊢; exact e
    · rw [upd_ne z] at e ⊢; exact r.ok.same _ _ e
  have low : ∀ {j : Nat} {e : D}, (env.set i (.fz (.dk kvs)))[j]? = some (.ow e) → j ≠ i ∧ env[j]? = some (.ow e) := fun {j e} q => by
    rw [List.getElem?_set] at q
    split at q
    · split at q <;> cases q
    · rename_i hij; exact ⟨Ne.symm hij, q⟩
  refine ⟨⟨sH, fun j c q => ?_, fun j k d' e' m q1 q2 z1 z2 => r.ok.apart j k d' e' m (low q1).2 (low q2).2 z1 z2, by simp [r.ok.len]⟩, ⟨Same.refl _, fun b u e => ?_, sH, fun _ e ne => absurd e ne⟩, fun j d' m q z => r.own j d' m (low q).2 z⟩
  · rw [List.getElem?_set] at q
    split at q
    · rename_i hij
      subst hij
      split at q
      · cases q; exact ⟨_, hl, .dk (.inr ⟨od, upd_same⟩) (rs.mono sG)⟩
      · cases q
    · rename_i hij
      have s := r.ok.slot j c q
      cases c with
      | un => trivial
      | fz d' => obtain ⟨v, a, b⟩ := s; exact ⟨v, a, b.mono sG⟩
      | ow d' =>
        obtain ⟨m, e1, t1, n1⟩ := s
        have ne : m ≠ l := fun z => by subst z; exact hij (r.ok.apart i j _ d' m hi q hl e1)
        refine ⟨m, e1, ?_, by rw [upd_ne ne]; exact n1⟩
        cases t1 with
        | lst a r => exact .lst (by rw [upd_ne ne]; exact a) (r.mono sG)
        | dk a r => exact .dk (by rw [upd_ne ne]; exact a) (r.mono sG)
        | dt a r => exact .dt (by rw [upd_ne ne]; exact a) (r.mono sG)
  · have : b ≠ l := fun z => by subst z; rw [n0] at e; cases e
    rw [upd_ne this]; exact r.ext.h _ _ e
theorem Ext.unlock {G0 H0 G1 H1 : Hp} (x : Ext G0 H0 G H) (n : G l = none) (n0 : H0 l = none) (y : Ext (upd G l (.frz od (.dK us))) H0 G1 H1) :
    G1 l = some (.frz od (.dK us)) ∧ H1 l = some (.frz od (.dK us)) ∧ Ext G0 H0 (upd G1 l (.dK us)) (upd H1 l (.dK us)) := by
  have g1 : G1 l = some (.frz od (.dK us)) := y.g _ _ upd_same
  have h1 := y.s _ _ g1
  have nG0 : G0 l = none := x.g.free n
  refine ⟨g1, h1, fun b u e => ?_, fun b u e => ?_, fun b u e => ?_, fun b e ne => ?_⟩
  · have z : b ≠ l := fun z => by subst z; rw [nG0] at e; cases e
    rw [upd_ne z]
    exact y.g _ _ (by rw [upd_ne z]; exact x.g _ _ e)
  · have z : b ≠ l := fun z => by subst z; rw [n0] at e; cases e
    rw [upd_ne z]
    exact y.h _ _ e
  · by_cases z : b = l
    · subst z; rw [upd_same] at e ⊢; exact e
    · rw [upd_ne z] at e ⊢; exact y.s _ _ e
  · by_cases z : b = l
    · subst z; exact n0
    · rw [upd_ne z] at ne
      by_cases q : G b = none
      · exact y.f b (by rw [upd_ne z]; exact q) ne
      · exact x.f b e q
theorem Rel.unlock {G0 H0 G1 H1 : Hp} {env' : List C} {σ' : L2.St} (x : Ext G0 H0 G H) (n : G l = none) (n0 : H0 l = none) (r' : Rel K mg (upd G l (.frz od (.dK us))) H0 G1 H1 env' σ') :
    H1 l = some (.frz od (.dK us)) ∧ Rel K mg G0 H0 (upd G1 l (.dK us)) (upd H1 l (.dK us)) env' σ' := by
  obtain ⟨g1, h1, y⟩ := x.unlock n n0 r'.ext
  refine ⟨h1, ⟨⟨y.s, fun j c q => ?_, r'.ok.apart, r'.ok.len⟩, y, r'.own⟩⟩
  have s := r'.ok.slot j c q
  cases c with
  | un => trivial
  | fz d' => obtain ⟨v, a, b⟩ := s; exact ⟨v, a, b.unl g1⟩
  | ow d' =>
    obtain ⟨m, e1, t1, n1⟩ := s
    have ne : m ≠ l := fun z => by subst z; rw [g1] at n1; cases n1
    refine ⟨m, e1, ?_, by rw [upd_ne ne]; exact n1⟩
    cases t1 with
    | lst a r => exact .lst (by rw [upd_ne ne]; exact a) (r.unl g1)
    | dk a r => exact .dk (by rw [upd_ne ne]; exact a) (r.unl g1)
    | dt a r => exact .dt (by rw [upd_ne ne]; exact a) (r.unl g1)
end
def keyD : Key → D
  | .inl i => .int i
  | .inr x => .str x
def keysD (kvs : List (Key × D)) : List D := kvs.map fun p => keyD p.1
def valsD (kvs : List (Key × D)) : List D := kvs.map (·.2)
theorem rep_key {K : PySem.W.Frag} {mg : MG} {G : Hp} (k : Key) : Rep K mg G (kV k) (keyD k) := by
  cases k with
  | inl i => exact .int i
  | inr x => exact .str x
theorem RepKV.get {K : PySem.W.Frag} {mg : MG} {G : Hp} : ∀ {vs : List (Key × V)} {ds : List (Key × D)} {i : Nat} {p : Key × V}, RepKV K mg G vs ds → vs[i]? = some p → ∃ d, ds[i]? = some (p.1, d) ∧ Rep K mg G p.2 d
  | _, _, _, _, .nil, e => by simp at e
  | _, _, 0, _, .cons r _, e => by simp at e; subst e; exact ⟨_, rfl, r⟩
  | _, _, i + 1, p, .cons _ t, e => by
    obtain ⟨d, h1, h2⟩ := RepKV.get (i := i) (p := p) t (by simpa using e)
    exact ⟨d, by simpa using h1, h2⟩
theorem RepKV.len {K : PySem.W.Frag} {mg : MG} {G : Hp} : ∀ {vs : List (Key × V)} {ds : List (Key × D)}, RepKV K mg G vs ds → vs.length = ds.length
  | _, _, .nil => rfl
  | _, _, .cons _ t => congrArg (· + 1) (RepKV.len t)
section
variable {K : PySem.W.Frag} {mg : MG} {G : Hp} {l : Addr} {od : Obj} {us : List (Key × V)} {kvs : List (Key × D)}
theorem walks_keys (h : G l = some (.frz od (.dK us))) (r : RepKV K mg G us kvs) : Walks K mg G (sqL (keysD kvs)) (Itk l od us) where
  go i G1 H1 s1 s2 hi := ⟨s2 _ _ (s1 _ _ h), by rw [r.len]; simpa [sqL, keysD] using hi⟩
  yld i G1 H1 x H' s1 s2 hi y := by
    obtain ⟨rfl, k, v, e, rfl⟩ := y
    obtain ⟨d, e2, q⟩ := r.get e
    refine ⟨G1, keyD k, .refl s2, rep_key k, ?_⟩
    show (keysD kvs)[i]? = _
    unfold keysD
    rw [List.getElem?_map, e2]; rfl
  stop G1 H1 s1 s2 := ⟨s2 _ _ (s1 _ _ h), by rw [r.len]; simp [sqL, keysD]⟩
theorem walks_vals (h : G l = some (.frz od (.dK us))) (r : RepKV K mg G us kvs) : Walks K mg G (sqL (valsD kvs)) (Itd l od us) where
  go i G1 H1 s1 s2 hi := ⟨s2 _ _ (s1 _ _ h), by rw [r.len]; simpa [sqL, valsD] using hi⟩
  yld i G1 H1 x H' s1 s2 hi y := by
    obtain ⟨rfl, k, e⟩ := y
    obtain ⟨d, e2, q⟩ := r.get e
    refine ⟨G1, d, .refl s2, q.mono s1, ?_⟩
    show (valsD kvs)[i]? = _
    unfold valsD
    rw [List.getElem?_map, e2]; rfl
  stop G1 H1 s1 s2 := ⟨s2 _ _ (s1 _ _ h), by rw [r.len]; simp [sqL, valsD]⟩
end
def pForD (i : Nat) (m : List (Key × D) → List D) (g : PTG) (body : PTS) : PTS := fun PD env => match env[i]? with
  | some (.ow (.dk kvs)) => forP (sqL (m kvs)) g body PD (env.set i (.fz (.dk kvs)))
  | _ => False
section
variable {X : Cx} {tg iter : Expr} {body : List Stmt} {g : PTG} {is : List Nat} {pb : PTS} {pos : Pos}
theorem pus_forD (i : Nat) {m : List (Key × D) → List D} {w : TI} {J : Addr → Obj → List (Key × V) → It} (hp : PassesOwn (model X.prog X.w) X.A X.env X.xe) (hc : X.calm = true) (i1 : PI X tg iter w)
    (hw : ∀ (σ : L2.St) (H : Hp) (l : Addr) (od : Obj) (us : List (Key × V)) (R : It → Hp → Prop), σ[i]? = some (some (.ref l)) → H l = some (.frz od (.dK us)) → R (J l od us) H → w σ H R)
    (hk : ∀ (G : Hp) (l : Addr) (od : Obj) (us : List (Key × V)) (kvs : List (Key × D)), G l = some (.frz od (.dK us)) → RepKV X.K X.mg G us kvs → Walks X.K X.mg G (sqL (m kvs)) (J l od us))
    (hg : PuG X tg g is) (hb : PuSs X body pb) (hs : ∀ x, foldedSetIterable iter X.env x = pure x := by intro _; rfl) : PuS X (.For tg iter body [] pos) (pForD i m g pb) := by
  obtain ⟨tgt, g1, g2⟩ := hg.ex
  obtain ⟨tb, b1, b2⟩ := hb.ex
  refine ⟨_, ps_lock (ps_for hp hc i1 g1 b1 hs), fun G0 H0 G H env σ PD E r ok h => ?_⟩
  unfold pForD at h
  split at h
  · rename_i kvs hi
    obtain ⟨l, hl, t, n⟩ := r.ok.slot i _ hi
    have n0 := r.own i _ l hi hl
    cases t with
    | dk hH rs =>
      refine ⟨l, _, hH, trivial, fun od => hw σ _ l od _ _ hl upd_same ?_⟩
      refine for_at g2 b2 (r.lock hi hl hH rs n od) ?_ (hk _ l od _ kvs upd_same (rs.mono (Same.upd n))) h
      refine ⟨?_, ?_, ?_, ?_, ?_⟩
      · intro G' H' env' σ' r' z
        obtain ⟨h1, r2⟩ := Rel.unlock r.ext n n0 r'
        exact ⟨h1, ok.nx _ _ _ _ r2 z⟩
      · intro G' H' env' σ' r' z
        obtain ⟨h1, r2⟩ := Rel.unlock r.ext n n0 r'
        exact ⟨h1, ok.bk _ _ _ _ r2 z⟩
      · intro G' H' env' σ' r' z
        obtain ⟨h1, r2⟩ := Rel.unlock r.ext n n0 r'
        exact ⟨h1, ok.ct _ _ _ _ r2 z⟩
      · intro G' H' d v x rp z
        obtain ⟨g1, h1, y⟩ := r.ext.unlock n n0 x
        exact ⟨h1, ok.rt _ _ d v y (rp.unl g1) z⟩
      · intro G' H' d m x t nm nm0 z
        obtain ⟨g1, h1, y⟩ := r.ext.unlock n n0 x
        have ne : m ≠ l := fun z => by subst z; rw [g1] at nm; cases nm
        refine ⟨h1, ok.ro _ _ d m y ?_ (by rw [upd_ne ne]; exact nm) nm0 z⟩
        cases t with
        | lst a r => exact .lst (by rw [upd_ne ne]; exact a) (r.unl g1)
        | dk a r => exact .dk (by rw [upd_ne ne]; exact a) (r.unl g1)
        | dt a r => exact .dt (by rw [upd_ne ne]; exact a) (r.unl g1)
  · exact h.elim
theorem pus_forK (i : Nat) {x : Str} {p2 : Pos} (hp : PassesOwn (model X.prog X.w) X.A X.env X.xe) (hc : X.calm = true) (hv : PE X (.Name x p2) (tVar i)) (hg : PuG X tg g is) (hb : PuSs X body pb) (hs : ∀ z, foldedSetIterable (.Name x p2) X.env z = pure z := by intro _; rfl) :
    PuS X (.For tg (.Name x p2) body [] pos) (pForD i keysD g pb) :=
  pus_forD i hp hc (pi_keys hv) (fun σ H l od us R h1 h2 h3 => ⟨.ref l, h1, l, od, rfl, .inl ⟨us, h2, h3⟩⟩) (fun G l od us kvs h r => walks_keys h r) hg hb hs
theorem pus_forV (i : Nat) {x : Str} {p2 apos cpos : Pos} (hp : PassesOwn (model X.prog X.w) X.A X.env X.xe) (hc : X.calm = true) (hv : PE X (.Name x p2) (tVar i)) (hg : PuG X tg g is) (hb : PuSs X body pb)
    (hbase : attributeBase (.Name x p2) "values" X.env (eval (.Name x p2) X.env) = eval (.Name x p2) X.env := by rfl) (hline : (apos.endLine == cpos.line) = true := by rfl)
    (hs : ∀ z, foldedSetIterable (.Call (.Attribute (.Name x p2) "values" apos) [] [] cpos) X.env z = pure z := by intro _; rfl) :
    PuS X (.For tg (.Call (.Attribute (.Name x p2) "values" apos) [] [] cpos) body [] pos) (pForD i valsD g pb) :=
  pus_forD i hp hc (pi_values hv hbase hline) (fun σ H l od us R h1 h2 h3 => ⟨.ref l, h1, l, od, us, rfl, h2, h3⟩) (fun G l od us kvs h r => walks_vals h r) hg hb hs

/-! ### a def that gives a new cell -/
def spO (K : PySem.W.Frag) (mg : MG) (f : PSp) : Sp := fun vs H Q _ => ∃ (G : Hp) (ds : List D) (P : D → Prop), Same G H ∧ Reps K mg G vs ds ∧ f ds P ∧
  ∀ d l G' H', Ext G H G' H' → Top K mg H' G' l d → G' l = none → H l = none → P d → Q (.ref l) H'
def pRetO (pe : PTE) : PTS := fun PD env => pe env PD.ro
theorem pus_retO {e : Expr} {pe : PTE} (h : PuF X e pe) : PuS X (.Return (some e) pos) (pRetO pe) := by
  obtain ⟨t, h1, h2⟩ := h.ex
  exact ⟨_, ps_ret h1, fun G0 H0 G H env σ PD E r ok hp => h2 G H env σ _ _ r.ok hp fun d l G' H' x rp n nH z => ok.ro G' H' d l (r.ext.trans x) rp n (r.ext.h.free nH) z⟩
def pRetON (i : Nat) : PTS := fun PD env => match env[i]? with
  | some (.ow d) => PD.ro d
  | _ => False
theorem pus_retON (i : Nat) {x : Str} {p2 : Pos} (hv : PE X (.Name x p2) (tVar i)) : PuS X (.Return (some (.Name x p2)) pos) (pRetON i) := by
  refine ⟨_, ps_ret hv, fun G0 H0 G H env σ PD E r ok hp => ?_⟩
  unfold pRetON at hp
  split at hp
  · rename_i d hi
    obtain ⟨l, hl, t, n⟩ := r.ok.slot i _ hi
    exact ⟨.ref l, hl, ok.ro G H d l r.ext t n (r.own i d l hi hl) hp⟩
  · exact hp.elim
theorem pfnO {P : Program} {w : World} {K : PySem.W.Frag} {mg : MG} {base : Heap} {x : Str} {st : Stmt} {f : Addr} {fd : FuncData} {N ns : List Str} {k : Nat} {sp : PSp} {p : PTS} (F : FnP K x st f fd) (S : FnScope N ns (defScope st)) (hlen : ∀ ds P, sp ds P → ds.length = ns.length)
    (hbody : ∀ (cdv : Value) (A : Around) (outer : List Env) (s : Shared) (H : Hp) (E : XK), Room k (A.deeper (envOfC x (defScope st) s.heap.objs.size f cdv)) →
      PuSs (cxOf CX0 P w K mg base N x (defScope st) f cdv A outer s H E).nox (defBody st) p) (hp : ∀ ds Q, sp ds Q → p { nx := fun _ => False, rt := fun _ => False, ro := Q } (startC N ds)) : FnOk P w K mg base CX0 (k + 1) f fd ns (spO K mg sp) := by
  refine FunD.ok F S (fun vs H Q E h => ?_) (fun cdv A outer s H vs Q E hr h => ?_)
  · obtain ⟨G, ds, P', _, r, q, _⟩ := h
    rw [r.length]; exact hlen ds P' q
  · obtain ⟨G, ds, P', sm, r, q, kk⟩ := h
    obtain ⟨t, t1, t2⟩ := (hbody cdv A outer s H E hr).ex
    refine ⟨t, t1.nox, t2 G H G H _ _ { nx := fun _ => False, rt := fun _ => False, ro := P' } _ ⟨start_ok sm r, .refl sm, fun i d l q => ?_⟩ ⟨fun _ _ _ _ _ z => z.elim, ?_, ?_, fun _ _ _ _ _ _ z => z.elim, ?_⟩ (hp ds P' q)⟩
    · intro s1
      exfalso
      unfold startC at q
      by_cases hk : i < ds.length
      · rw [List.getElem?_append_left (by simpa using hk), List.getElem?_map] at q
        cases e : ds[i]? with
        | none => rw [e] at q; cases q
        | some d => rw [e] at q; cases q
      · rw [List.getElem?_append_right (by simpa using hk), List.getElem?_replicate] at q
        split at q <;> cases q
    · intro G' H' env σ r' z; exact z
    · intro G' H' env σ r' z; exact z
    · intro G' H' d l x t n n0 z
      exact kk d l G' H' x t n n0 z
structure CalO (P : Program) (w : World) (K : PySem.W.Frag) (mg : MG) (base : Heap) (x : Str) (ns : List Str) (k : Nat) (f : Addr) (fd : FuncData) (sp : PSp) : Prop where
  ok : FnOk P w K mg base CX0 k f fd ns (spO K mg sp)
  mg : mg x = some (.ref f)
  kp : PySem.W.keepIn K (.ref f) = true
  b : Binds K fd ns []
theorem puf_c {x : Str} {ns : List Str} {k k' : Nat} {f : Addr} {fd : FuncData} {sp : PSp} {e : Expr} {es : List Expr} {ps : PTA} {p' : Pos} (C : CalO X.prog X.w X.K X.mg X.base x ns k f fd sp) (hr : Room k' X.A) (h : PuA X (e :: es) ps) (hk : k ≤ k' := by decide) (hg : Gl X x := by rfl)
    (hdb : (x == ("__debug__" : Str)) = false := by decide) (he : starEach (e :: es) X.env = (false, eval e X.env) :: starEach es X.env := by rfl) (hpl : (backTo pos (starEach es X.env)).any (·.1) = false := by rfl) :
    PuF X (.Call (.Name x p') (e :: es) [] pos) (pCall sp ps) := by
  obtain ⟨t, h1, h2⟩ := h.ex
  refine ⟨_, pe_call C.ok (hr.mono hk) hg C.mg C.kp C.b (dvs := []) .nil pass0 h1 hdb he hpl, fun G H env σ P Q ok hp kk => h2 G H env σ _ _ ok hp fun ds vs G' H' x r q => ?_⟩
  rw [List.append_nil]
  exact ⟨G', ds, P, x.s, r, q, fun d l G2 H2 y t n nH q2 => kk d l G2 H2 (x.trans y) t n (x.h.free nH) q2⟩
end
theorem forD_k {i : Nat} {m : List (Key × D) → List D} {g : PTG} {body : PTS} {PD : PEnds} {env : List C} {kvs : List (Key × D)} (hi : env[i]? = some (.ow (.dk kvs))) (h : forP (sqL (m kvs)) g body PD (env.set i (.fz (.dk kvs)))) : pForD i m g body PD env := by
  unfold pForD
  rw [hi]; exact h
end PL
end

section
set_option linter.all false
set_option maxRecDepth 100000
set_option maxHeartbeats 4000000
set_option autoImplicit false
/-! PL14: errors of the program's own classes as data: made (by places, by names), a field read, isinstance. -/
namespace PL
section
open PySem PySem.W PySem.Calls PyProof.Rows PySem.Spec PySem.HandSPX
variable {prog : Program} {w : World} {A : Around} {E : Value → Shared → Prop} {R : Result → Shared → Prop} {h : Heap} {g : Array GenState} {d : Drawn} {t : Nat} {os : OsState}
variable {nm q : Str} {C N : Addr} {bs bm : List Value} {hdct : Bool} {sn : List Str} {sub : List Value} {ab : Bool} {col : Option Bool} {dd : Option Addr} {k0 k1 k2 k3 k5 : Option Value}
/-- ValueError.__new__ takes any keywords -/
theorem new_seen {M : Model} (hT : ∀ Y : String, bm.contains (.type Y) = veTail.contains (.type Y)) {us : List Value} {kw : List (Str × Value)} {Q : Unit → Shared → Prop}
    (hC : h.get? C = some (excClassObj nm q C N bs bm hdct sn sub ab col dd k0 k1 k2 k3 k5 "ValueError.__new__")) (hq : Q () ⟨h, g, d, t, os⟩) : wpAny M A (checkBuiltinCall "ValueError.__new__" ⟨.ref C :: us, kw⟩) Q E ⟨h, g, d, t, os⟩ := by
  have FV := F.excBase_ValueError
  have inB : (Value.ref C :: bm).contains (.type "ValueError") = true := by rw [List.contains_cons, hT, FV.hasB, Bool.or_true]
  have star := FV.noStar
  simp only [checkBuiltinCall, FV.newKind, FV.newSplit, FV.newRow]
  repeat
    first
      | refine wpAny_loadPart_at hC ?_
      | (refine wpAny_isSubtype_exc hC ?_
         rw [inB])
      | refine wpAny_staticBase_exc hC ?_
      | refine wpAny_madeBy_exc hC ?_
      | simp only [bne_self_eq_false, Bool.false_eq_true, if_false]
      | wp_step
  exact hq
theorem new_made (hT : ∀ Y : String, bm.contains (.type Y) = veTail.contains (.type Y)) {us : List Value} {kw : List (Str × Value)}
    (hC : h.get? C = some (excClassObj nm q C N bs bm hdct sn sub ab col dd k0 k1 k2 k3 k5 "ValueError.__new__")) (hz : us.length ≤ sizeLine)
    (hq : R (.ok (.ret (.ref (h.objs.size + 1)))) ⟨(h.push (W.kdv_tup us)).push (excO C h.objs.size), g, d, t, os⟩) : codeAny (model prog w) A (.builtin "ValueError.__new__" ⟨.ref C :: us, kw⟩) R ⟨h, g, d, t, os⟩ := by
  have FV := F.excBase_ValueError
  have ends := FV.ends
  have inB : (Value.ref C :: bm).contains (.type "ValueError") = true := by rw [List.contains_cons, hT, FV.hasB, Bool.or_true]
  have noA : (Value.ref C :: bm).contains (.type "AttributeError") = false := by
    rw [List.contains_cons, hT, FV.noAttr]; rfl
  have noN : (Value.ref C :: bm).contains (.type "NameError") = false := by
    rw [List.contains_cons, hT, FV.noName]; rfl
  refine codeAny_builtinAt FV.entry ?_
  unfold Builtin.«BaseException.__new__»
  refine PySem.wpAt_bind ?_
  show PySem.wpAt _ _ _ (stack >>= _) _ _ _
  refine PySem.wpAt_bind (PySem.wpAt_stack fun p below => PySem.wpAt_of_wpAny ?_)
  wp_walk
  refine PySem.wpAt_of_wpAny ?_
  rw [FV.owner]
  repeat
    first
      | with_reducible refine wpAny_madeHere_exc FV.canon hC ?_
      | with_reducible refine wpAny_loadPart_at hC ?_
      | (with_reducible refine wpAny_isSubtype_exc hC ?_
         first
           | rw [inB]
           | rw [noA]
           | rw [noN])
      | wp_step
  show R _ _
  rw [Heap.size_push]
  exact hq
theorem cls_call (hT : ∀ Y : String, bm.contains (.type Y) = veTail.contains (.type Y)) {us : List Value} {kw : List (Str × Value)} {f : Addr} {Q : Fin → Shared → Prop}
    (hC : h.get? C = some (excClassObj nm q C N bs bm hdct sn sub ab col dd k0 k1 k2 k3 k5 "ValueError.__new__")) (hz : us.length ≤ sizeLine)
    (hi : W.Looks (model prog w) h (typeLookup (.ref C) "__init__") (some (.ref f))) (hb : ∀ self, W.Looks (model prog w) h (bindSpecial (.ref f) self) (.ref f, [self]))
    (hq : codeAny (model prog w) A (.call (.ref f) ⟨.ref (h.objs.size + 1) :: us, kw⟩) (fun r s' => match r with
        | .ok (.ret v) => v = .none ∧ Q (.done (.ret (.ref (h.objs.size + 1)))) s'
        | .ok _ => False
        | .error e => E e s') ⟨(h.push (W.kdv_tup us)).push (excO C h.objs.size), g, d, t, os⟩) : wpAny (model prog w) A (Builtin.«type.__call__» ⟨.ref C :: us, kw⟩) Q E ⟨h, g, d, t, os⟩ := by
  repeat
    first
      | with_reducible refine wpAny_loadPart_at hC ?_
      | with_reducible refine wpAny_madeBy_exc hC ?_
      | wp_step
  refine codeAny_call_builtin_code (Code.quiet_builtin _ F.excBase_ValueError.quiet) (new_seen hT hC ?_)
  refine new_made hT hC hz ?_
  show wpAny _ _ _ _ _ _
  have kp : ∀ b o, h.get? b = some o → ((h.push (W.kdv_tup us)).push (excO C h.objs.size)).get? b = some o := fun b o e => Heap.get?_push_of_some _ (Heap.get?_push_of_some _ e)
  have hC2 := kp _ _ hC
  have hN : ((h.push (W.kdv_tup us)).push (excO C h.objs.size)).get? (h.objs.size + 1) = some (excO C h.objs.size) := by heap_get
  have inC : (Value.ref C :: bm).contains (.ref C) = true := by simp
  have i1 := hi.keeps kp
  have b1 := (hb (.ref (h.objs.size + 1))).keeps kp
  unfold isInstance
  repeat
    first
      | with_reducible refine wpAny_loadPart_at hN ?_
      | (with_reducible refine wpAny_isSubtype_exc hC2 ?_
         rw [inC])
      | wp_step
  show wpAny _ _ (typeLookup (.ref C) _) _ _ _
  refine i1.at ?_
  refine wpAny_holding (wpAny_bind (b1.at ?_))
  refine wpAny_bind (wpAny_call (codeAny_mono hq fun r s' z => ?_))
  rcases r with e | (v | _ | _ | _) <;> first | exact z | exact z.elim | skip
  obtain ⟨rfl, z⟩ := z
  first
    | exact wpAny_pure (wpAny_pure z)
    | (wp_walk; exact z)
/-- a class of errors is called, by places and by names -/
theorem cls_made (hT : ∀ Y : String, bm.contains (.type Y) = veTail.contains (.type Y)) {us : List Value} {kw : List (Str × Value)} {f : Addr}
    (hC : h.get? C = some (excClassObj nm q C N bs bm hdct sn sub ab col dd k0 k1 k2 k3 k5 "ValueError.__new__")) (hz : us.length ≤ sizeLine)
    (hi : W.Looks (model prog w) h (typeLookup (.ref C) "__init__") (some (.ref f))) (hb : ∀ self, W.Looks (model prog w) h (bindSpecial (.ref f) self) (.ref f, [self]))
    (hq : codeAny (model prog w) (A.under (.builtin "type.__call__" ⟨.ref C :: us, kw⟩)) (.call (.ref f) ⟨.ref (h.objs.size + 1) :: us, kw⟩) (W.InitBack (h.objs.size + 1) R)
      ⟨(h.push (W.kdv_tup us)).push (excO C h.objs.size), g, d, t, os⟩) : codeAny (model prog w) A (.call (.ref C) ⟨us, kw⟩) R ⟨h, g, d, t, os⟩ := by
  have f1 := tc_lookup
  have f2 := tc_bind (.ref C)
  have hTy : (⟨h, g, d, t, os⟩ : Shared).TypeIs (.ref C) "type" := ⟨_, hC, rfl⟩
  refine codeAny_of_tree ?_
  show wpAny _ _ (callAny (.ref C) _) _ _ _
  repeat
    any_goals
      first
        | assumption
        | with_reducible refine wpAny_loadPart_at hC ?_
        | wp_step
  refine ⟨rfl, ?_⟩
  refine codeAny_call_builtin_at (Code.quiet_builtin _ (by decide +kernel)) entry_typeCall (wpAny_check_type_call_sub hC (cls_call hT hC hz hi hb ?_))
  refine codeAny_mono hq fun r s' z => ?_
  rcases r with e | (v | _ | _ | _) <;> exact z
end
end PL
end

section
set_option linter.all false
set_option maxRecDepth 100000
set_option maxHeartbeats 4000000
set_option autoImplicit false
/-! PL15: errors as data: what is looked at of their classes, __init__, the call of a class, a field, isinstance; a head with one more look. -/
namespace PL
open PySem PySem.Spec PyProof.Rows L2

/-! ### what is looked at of a class of errors -/
def oexB (K : PySem.W.Frag) (C : Addr) : Bool := match K.lookup C with
  | some ⟨.type "type", _, .cls cd, sl⟩ => (match cd.mro, sl.toList with
    | .ref D :: bm, [_, _, _, _, some (.builtin n), _] => D == C && (n == "ValueError.__new__" && (!cd.hasDel && (cd.hasDict && PySem.HandSPX.refsVE bm)))
    | _, _ => false)
  | _ => false
theorem oexB_ok {K : PySem.W.Frag} {C : Addr} (q : oexB K C = true) : ∃ nm q N bs bm sn sub ab col dd k0 k1 k2 k3 k5, K.lookup C = some (excClassObj nm q C N bs bm true sn sub ab col dd k0 k1 k2 k3 k5 "ValueError.__new__") ∧ PySem.HandSPX.refsVE bm = true := by
  unfold oexB at q
  split at q
  · rename_i dd cd sl ho
    split at q
    · rename_i D bm k0 k1 k2 k3 n k5 hm hs
      simp only [Bool.and_eq_true, beq_iff_eq, Bool.not_eq_true'] at q
      obtain ⟨rfl, rfl, hdel, hdict, hbm⟩ := q
      obtain ⟨nm, bs, mro, ns, qn, hd, sn, sub, ab, col, del⟩ := cd
      dsimp only at hm hdel hdict
      subst hm hdel hdict
      obtain rfl : sl = #[k0, k1, k2, k3, some (.builtin "ValueError.__new__"), k5] := by
        obtain ⟨l⟩ := sl
        simp only at hs
        rw [hs]
      exact ⟨nm, qn, ns, bs, bm, sn, sub, ab, col, dd, k0, k1, k2, k3, k5, ho, hbm⟩
    · cases q
  · cases q
/-- a class of errors whose __init__ stores the fields fs -/
structure ErC (K : PySem.W.Frag) (C f : Addr) (fs : List Str) : Prop where
  oex : OexC K C
  xf : XfC K C
  cl : PySem.W.findIn K (.ref C) "__class__" = some (some (.builtin "object.__class__"))
  hn : PySem.W.specialIn K (.builtin "object.__class__") "__get__" = some (some (.builtin "getset_descriptor.__get__"))
  ht : PySem.W.takesIn K (.builtin "object.__class__") = some true
  hm : PySem.W.mroIn K C (.type "object") = some true
  ini : PySem.W.findIn K (.ref C) "__init__" = some (some (.ref f))
  tI : PySem.W.typeIn K (.ref f) = some (.type "function")
  no : ∀ x ∈ fs, PySem.W.findIn K (.ref C) x = some none
def ercB (K : PySem.W.Frag) (C f : Addr) (fs : List Str) : Bool := oexB K C && (He.eqO (PySem.W.findIn K (.ref C) "__setattr__") (some (some (.builtin "object.__setattr__"))) && (decide (PySem.W.subIn K (.ref C) (.type "BaseException") = some true) &&
  (decide (PySem.W.typeIn K (.ref C) = some (.type "type")) && (PySem.W.keepIn K (.ref C) && (xfB K C && (He.eqO (PySem.W.findIn K (.ref C) "__class__") (some (some (.builtin "object.__class__"))) &&
  (He.eqO (PySem.W.specialIn K (.builtin "object.__class__") "__get__") (some (some (.builtin "getset_descriptor.__get__"))) && (decide (PySem.W.takesIn K (.builtin "object.__class__") = some true) && (decide (PySem.W.mroIn K C (.type "object") = some true) &&
  (He.eqO (PySem.W.findIn K (.ref C) "__init__") (some (some (.ref f))) && (decide (PySem.W.typeIn K (.ref f) = some (.type "function")) && fs.all fun x => He.eqO (PySem.W.findIn K (.ref C) x) (some none))))))))))))
theorem ercB_ok {K : PySem.W.Frag} {C f : Addr} {fs : List Str} (h : ercB K C f fs = true) : ErC K C f fs := by
  unfold ercB at h
  simp only [Bool.and_eq_true] at h
  obtain ⟨h1, h2, h3, h4, h5, h6, h7, h8, h9, h10, h11, h12, h13⟩ := h
  exact ⟨⟨oexB_ok h1, He.eqO_ok h2, of_decide_eq_true h3, of_decide_eq_true h4, h5⟩, xfB_ok h6, He.eqO_ok h7, He.eqO_ok h8, of_decide_eq_true h9, of_decide_eq_true h10, He.eqO_ok h11, of_decide_eq_true h12, fun x hx => He.eqO_ok (List.all_eq_true.mp h13 x hx)⟩

/-! ### __init__ -/
def flds (fs : List Str) (ys : List V) : List (Str × V) := (fs.zip ys).reverse
def spI (C : Addr) (fs : List Str) : Sp := fun vs H Q _ => ∃ (a : Addr) (ys : List V), vs = .ref a :: ys ∧ ys.length = fs.length ∧ H a = some (exo a C none) ∧
  ∀ d, H d = none → d ≠ a → Q .non (upd (upd H d (exd d (flds fs ys))) a (exo a C (some d)))
theorem spI_len {C : Addr} {fs : List Str} {vs : List V} {H : Hp} {Q : VK} {E : XK} (h : spI C fs vs H Q E) : vs.length = fs.length + 1 := by
  obtain ⟨a, ys, rfl, l, _⟩ := h
  rw [List.length_cons, l]
theorem ini1 {K : PySem.W.Frag} {C : Addr} {x : Str} {vs : List V} {H : Hp} {Q : VK} {E : XK} (T : OexC K C) (no : PySem.W.findIn K (.ref C) x = some none) (h : spI C [x] vs H Q E) :
    tOst K x (tVar 0) (tVar 1) { nx := fun _ H' => Q .non H', rt := Q } (start ["self", x] vs) H := by
  obtain ⟨a, ys, rfl, l, ha, q⟩ := h
  match ys, l with
  | [y], _ => exact ⟨y, rfl, .ref a, rfl, a, C, rfl, T, no, .inl ⟨ha, fun d n ne => q d n ne⟩⟩
theorem upd_swap {H : Hp} {d a : Addr} {o1 o2 o3 : HO} (ne : d ≠ a) : upd (upd (upd H d o1) a o2) d o3 = upd (upd H d o3) a o2 := by
  funext b
  by_cases h1 : b = d
  · subst h1; rw [upd_same, upd_ne ne, upd_same]
  · rw [upd_ne h1]
    by_cases h2 : b = a
    · subst h2; rw [upd_same, upd_same]
    · rw [upd_ne h2, upd_ne h2, upd_ne h1, upd_ne h1]
theorem ini2 {K : PySem.W.Frag} {C : Addr} {x z : Str} {vs : List V} {H : Hp} {Q : VK} {E : XK} (T : OexC K C) (no : ∀ y ∈ [x, z], PySem.W.findIn K (.ref C) y = some none) (h : spI C [x, z] vs H Q E) :
    tOst K x (tVar 0) (tVar 1) { nx := fun σ H => tOst K z (tVar 0) (tVar 2) { nx := fun _ H' => Q .non H', rt := Q } σ H, rt := Q } (start ["self", x, z] vs) H := by
  obtain ⟨a, ys, rfl, l, ha, q⟩ := h
  match ys, l with
  | [y, w], _ =>
    refine ⟨y, rfl, .ref a, rfl, a, C, rfl, T, no x (by simp), .inl ⟨ha, fun d n ne => ?_⟩⟩
    refine ⟨w, rfl, .ref a, rfl, a, C, rfl, T, no z (by simp), .inr ⟨d, [(x, y)], upd_same, by rw [upd_ne ne, upd_same], by simp, ?_⟩⟩
    show Q .non _
    rw [upd_swap ne]
    exact q d n ne

/-! ### the call of a class of errors -/
/-- n values, m keywords; pk: the places of __init__'s further parameters among them -/
def tMkE (C : Addr) (n m : Nat) (sp : Sp) (g : List V → List V → List V) (t tk : TA) : TE := fun σ H Q => t σ H fun vs H1 => tk σ H1 fun zs H2 => vs.length = n ∧ zs.length = m ∧ vs.length ≤ 1000 ∧
  ∀ a, H2 a = none → sp (.ref a :: g vs zs) (upd H2 a (exo a C none)) (fun v H3 => v = .non ∧ Q (.ref a) H3) fun _ _ _ => False
/-- how __init__'s parameters are bound -/
def IniB (K : PySem.W.Frag) (fd : FuncData) (ps : List Str) (n : Nat) (ks : List Str) (pk : List Nat) : Prop :=
  ∀ (s : Shared) (u : Value) (us ws : List Value), K.In s.heap → us.length = n → ws.length = ks.length → BindsTo s fd ⟨u :: us, ks.zip ws⟩ (ps.zip (u :: pickL pk us ws))
section
variable {X : Cx} {CX : CXT} {k n : Nat} {f C : Addr} {fd : FuncData} {ps ks fs : List Str} {sp : Sp} {x : Str} {p pos : Pos} {e : Expr} {es : List Expr} {kws : List Keyword} {t tk : TA} {pk : List Nat}
theorem run_mkE {pins : List (Addr × Obj)} {σ : L2.St} {H : Hp} {s : Shared} {Q : VK} {us ws : List Value} {vs zs : List V} (T : ErC X.K C f fs) (F : FnOk X.prog X.w X.K X.mg X.base CX k f fd ps sp) (hr : Room (k + 1) X.A) (hb : IniB X.K fd ps n ks pk) (hx : Passes CX X fun _ _ _ => False)
    (I : Inv X pins σ H s) (r : Vals vs us) (rz : Vals zs ws) (l1 : vs.length = n) (l2 : zs.length = ks.length) (l3 : vs.length ≤ 1000)
    (h : ∀ a, H a = none → sp (.ref a :: pickL pk vs zs) (upd H a (exo a C none)) (fun v H3 => v = .non ∧ Q (.ref a) H3) fun _ _ _ => False) :
    wpAny (model X.prog X.w) X.A (call (.ref C) us (ks.zip ws)) (EP X pins σ Q) X.xe s := by
  obtain ⟨nm, q, N, bs, bm, sn, sub, ab, col, dd, k0, k1, k2, k3, k5, hC, hbm⟩ := T.oex.cls
  obtain ⟨hp, g, dr, tok, os⟩ := s
  have up : hp.objs.size ≤ hp.objs.size + 1 := Nat.le_succ _
  have hq := h (hp.objs.size + 1) (I.hok.fresh up)
  have kk : ∀ b o, hp.get? b = some o → ((hp.push (PySem.W.kdv_tup us)).push (PySem.HandSPX.excO C hp.objs.size)).get? b = some o := fun b o z => Heap.get?_push_of_some _ (Heap.get?_push_of_some _ z)
  have hN : ((hp.push (PySem.W.kdv_tup us)).push (PySem.HandSPX.excO C hp.objs.size)).get? (hp.objs.size + 1) = some (PySem.HandSPX.excO C hp.objs.size) := by heap_get
  have I2 := I.laid (t' := tok) (a := hp.objs.size + 1) (o := exo (hp.objs.size + 1) C none) (h' := (hp.push (PySem.W.kdv_tup us)).push (PySem.HandSPX.excO C hp.objs.size)) kk up (exo_ok hN)
  have r2 : Vals (V.ref (hp.objs.size + 1) :: pickL pk vs zs) (Value.ref (hp.objs.size + 1) :: pickL pk us ws) := .cons rfl (Vals.pick (r.append rz) pk)
  have hu : us.length ≤ sizeLine := by
    rw [← Paired.length r, sizeLine_eq]; omega
  refine wpAny_call (cls_made (fun Y => PySem.HandSPX.refsVE_contains Y bm hbm) (I.kIn _ _ hC) hu (PySem.W.looks_findIn I.kIn T.ini) (fun self => PySem.W.bind_fn I.kIn self T.tI) ?_)
  refine codeAny_mono (F.run _ X.stack _ _ ⟨Value.ref (hp.objs.size + 1) :: us, ks.zip ws⟩ (Value.ref (hp.objs.size + 1) :: pickL pk us ws) _ _ (fun _ _ _ => False) (hr.make C us (ks.zip ws)) (I2.env0.make C us (ks.zip ws))
    (hb _ _ us ws I2.kIn (r.length.symm.trans l1) (rz.length.symm.trans l2)) r2 hq) fun res s' hq' => ?_
  cases res with
  | error er => exact hx pins σ _ _ er s' I2 hq'
  | ok fl =>
    cases fl with
    | ret u =>
      obtain ⟨v, H', I3, rv, ev, q3⟩ := I2.after hq'
      subst ev
      exact ⟨rv, ⟨V.ref (hp.objs.size + 1), H', I3, rfl, q3⟩⟩
    | next => exact False.elim hq'
    | brk => exact False.elim hq'
    | cont => exact False.elim hq'
theorem pe_mkE (T : ErC X.K C f fs) (F : FnOk X.prog X.w X.K X.mg X.base CX k f fd ps sp) (hr : Room (k + 1) X.A) (hg : Gl X x) (hm : X.mg x = some (.ref C)) (hb : IniB X.K fd ps n [] pk) (hx : Passes CX X fun _ _ _ => False) (ha : PA X (e :: es) t)
    (hdb : (x == ("__debug__" : Str)) = false := by decide) (he : starEach (e :: es) X.env = (false, eval e X.env) :: starEach es X.env := by rfl) (hpl : (backTo pos (starEach es X.env)).any (·.1) = false := by rfl) :
    PE X (.Call (.Name x p) (e :: es) [] pos) (tMkE C n 0 sp (pickL pk) t tNil) := by
  refine ⟨fun pins s σ H Q I h => ?_⟩
  refine wpAny_Call_Name_kw (ld_glob I hg hm ?_ hdb)
  refine PySem.W.callWith_K (h₀ := X.base) I.ok.mod.kin T.oex.kC (thn (ha.run pos pins s σ H _ I h) fun us s1 ⟨vs, H1, I1, r, l1, l2, l3, q⟩ => ⟨I1.kIn, ?_⟩) he hpl
  exact run_mkE (ks := []) (ws := []) (zs := []) T F hr hb hx I1 r .nil l1 rfl l3 q
theorem pe_mkEK (T : ErC X.K C f fs) (F : FnOk X.prog X.w X.K X.mg X.base CX k f fd ps sp) (hr : Room (k + 1) X.A) (hg : Gl X x) (hm : X.mg x = some (.ref C)) (hb : IniB X.K fd ps 0 ks pk) (hx : Passes CX X fun _ _ _ => False) (hkw : PK X kws tk)
    (hall : (backToKw pos (keywordEach kws X.env)).all (·.1.isSome) = true := by rfl) (hks : (backToKw pos (keywordEach kws X.env)).filterMap (·.1) = ks := by rfl) (hdb : (x == ("__debug__" : Str)) = false := by decide)
    (hpl : ((backTo pos (starEach [] X.env)).any (·.1) || (backToKw pos (keywordEach kws X.env)).any (·.1.isNone)) = false := by rfl) :
    PE X (.Call (.Name x p) [] kws pos) (tMkE C 0 ks.length sp (pickL pk) tNil tk) := by
  refine ⟨fun pins s σ H Q I h => ?_⟩
  refine wpAny_Call_Name_kw (ld_glob I hg hm ?_ hdb)
  refine PySem.W.callWith_KW0 (h₀ := X.base) I.ok.mod.kin T.oex.kC hall ?_ hpl
  refine thn (hkw.run pos pins s σ H _ I h) fun ws s2 ⟨zs, H2, I2, rz, l1, l2, l3, q2⟩ => ⟨I2.kIn, ?_⟩
  rw [hks]
  exact run_mkE (us := []) (vs := []) T F hr hb hx I2 .nil rz rfl l2 (by simp) q2
end
theorem ini_b {K : PySem.W.Frag} {x qual : Str} {params : Arguments} {body : List Stmt} {scope : Scope} {f : Addr} {fd : FuncData} {ns : List Str} (F : FunD K x qual params body scope [] [] f fd) (n : Nat) (ks : List Str) (pk : List Nat)
    (h : ∀ (kV doc pm : Value) (an : Option Addr) (cdv ct : Value) (u : Value) (us ws : List Value), us.length = n → ws.length = ks.length → bindArgs (PySem.W.fnOf x qual params body scope .none kV doc pm an cdv ct) ⟨u :: us, ks.zip ws⟩ = pure (ns.zip (u :: pickL pk us ws))) :
    IniB K fd ns n ks pk := by
  obtain ⟨oc, od, dV, kV, doc, pm, an, cdv, ct, osl, rfl, lk, hcd, hD, hK⟩ := F.ex
  rcases hD with ⟨_, rfl⟩ | ⟨e, _⟩
  · exact fun s u us ws _ l1 l2 => .of_eq (h kV doc pm an cdv ct u us ws l1 l2)
  · exact absurd rfl e

/-! ### over data -/
def fldsD (fs : List Str) (ds : List D) : List (Str × D) := (fs.zip ds).reverse
theorem RepF.append {K : PySem.W.Frag} {mg : MG} {G : Hp} : ∀ {vs ws : List (Str × V)} {ds es : List (Str × D)}, RepF K mg G vs ds → RepF K mg G ws es → RepF K mg G (vs ++ ws) (ds ++ es)
  | _, _, _, _, .nil, h => h
  | _, _, _, _, .cons r t, h => .cons r (RepF.append t h)
theorem repF_flds {K : PySem.W.Frag} {mg : MG} {G : Hp} : ∀ {fs : List Str} {ys : List V} {ds : List D}, Reps K mg G ys ds → RepF K mg G (flds fs ys) (fldsD fs ds)
  | [], _, _, _ => .nil
  | _ :: _, _, _, .nil => .nil
  | f :: fs, y :: ys, d :: ds, .cons r t => by
    unfold flds fldsD
    rw [List.zip_cons_cons, List.zip_cons_cons, List.reverse_cons, List.reverse_cons]
    exact (repF_flds t).append (.cons r .nil)
theorem lookD_put {f g : Str} {y : D} {fs : List (Str × D)} : ((f, y) :: fs).lookup g = if g = f then some y else fs.lookup g := by
  by_cases h : g = f
  · subst h
    rw [List.lookup_cons_self, if_pos rfl]
  · have e : (g == f) = false := by simpa using h
    rw [if_neg h, List.lookup_cons, e]
theorem RepF.look {K : PySem.W.Frag} {mg : MG} {G : Hp} {x : Str} : ∀ {vs : List (Str × V)} {ds : List (Str × D)} {d : D}, RepF K mg G vs ds → ds.lookup x = some d → ∃ v, vs.lookup x = some v ∧ Rep K mg G v d
  | _, _, _, .nil, e => by cases e
  | _, _, _, .cons (k := k) r t, e => by
    rw [lookup_put]
    rw [lookD_put] at e
    by_cases h : x = k
    · rw [if_pos h] at e ⊢
      cases e
      exact ⟨_, rfl, r⟩
    · rw [if_neg h] at e ⊢
      exact RepF.look t e
theorem ext_err {G H : Hp} {a d C : Addr} {fs : List (Str × V)} (s : Same G H) (na : H a = none) (nd : H d = none) (ne : d ≠ a) :
    Ext G H (upd (upd G d (exd d fs)) a (exo a C (some d))) (upd (upd (upd H a (exo a C none)) d (exd d fs)) a (exo a C (some d))) := by
  have x1 := Ext.new (o := exd d fs) s nd
  have x2 := Ext.new (o := exo a C (some d)) x1.s (p := a) (by rw [upd_ne (Ne.symm ne)]; exact na)
  have e : upd (upd (upd H a (exo a C none)) d (exd d fs)) a (exo a C (some d)) = upd (upd H d (exd d fs)) a (exo a C (some d)) := by
    funext b
    by_cases h1 : b = a
    · subst h1; rw [upd_same, upd_same]
    · rw [upd_ne h1, upd_ne h1]
      by_cases h2 : b = d
      · subst h2; rw [upd_same, upd_same]
      · rw [upd_ne h2, upd_ne h2, upd_ne h1]
  rw [e]
  exact x1.trans x2
/-- the classes of errors that are known, with their fields -/
abbrev ETab := List (Str × List Str)
structure ErT (K : PySem.W.Frag) (mg : MG) (tab : ETab) : Prop where
  ex : ∀ c fs, tab.lookup c = some fs → ∃ C f, mg c = some (.ref C) ∧ ErC K C f fs
def pMkE (cls : Str) (fs : List Str) (pk : List Nat) (n m : Nat) (ps qs : PTA) : PTE := fun env P => ps env fun ds => qs env fun es => ds.length = n ∧ es.length = m ∧ ds.length ≤ 1000 ∧ (pickL pk ds es).length = fs.length ∧ P (.err cls (fldsD fs (pickL pk ds es)))
section
variable {X : Cx} {k n : Nat} {f Cc : Addr} {fd : FuncData} {ks fs : List Str} {cls : Str} {p pos : Pos} {e : Expr} {es : List Expr} {kws : List Keyword} {pe : PTE} {ps qs : PTA} {pk : List Nat}
theorem mkE_reads {t tk : TA} {m : Nat} (hm : X.mg cls = some (.ref Cc))
    (h2 : ∀ (G H : Hp) (env : List C) (σ : L2.St) (P : List D → Prop) (Q : List V → Hp → Prop), Ok X.K X.mg G H env σ → ps env P → (∀ ds vs G' H', Ext G H G' H' → Reps X.K X.mg G' vs ds → P ds → Q vs H') → t σ H Q)
    (g2 : ∀ (G H : Hp) (env : List C) (σ : L2.St) (P : List D → Prop) (Q : List V → Hp → Prop), Ok X.K X.mg G H env σ → qs env P → (∀ ds vs G' H', Ext G H G' H' → Reps X.K X.mg G' vs ds → P ds → Q vs H') → tk σ H Q)
    (G H : Hp) (env : List C) (σ : L2.St) (P : D → Prop) (Q : VK) (ok : Ok X.K X.mg G H env σ) (hp : pMkE cls fs pk n m ps qs env P) (kk : ∀ d v G' H', Ext G H G' H' → Rep X.K X.mg G' v d → P d → Q v H') :
    tMkE Cc n m (spI Cc fs) (pickL pk) t tk σ H Q := by
  refine h2 G H env σ _ _ ok hp fun ds vs G1 H1 x1 r1 q1 => ?_
  refine g2 G1 H1 env σ _ _ (ok.ext x1) q1 fun es zs G2 H2 x2 r2 ⟨l1, l2, l3, l4, q⟩ => ?_
  have r1' := r1.mono x2.g
  have rp : Reps X.K X.mg G2 (pickL pk vs zs) (pickL pk ds es) := Reps.pick (r1'.append r2) pk
  refine ⟨r1'.length.trans l1, r2.length.trans l2, by rw [r1'.length]; exact l3, fun a na => ⟨a, _, rfl, by rw [rp.length]; exact l4, upd_same, fun d nd ne => ⟨rfl, ?_⟩⟩⟩
  rw [upd_ne ne] at nd
  have x3 := ext_err (C := Cc) (fs := flds fs (pickL pk vs zs)) x2.s na nd ne
  refine kk _ _ _ _ ((x1.trans x2).trans x3) (.err upd_same (by rw [upd_ne ne, upd_same]) hm ?_) q
  exact (repF_flds rp).mono x3.g
theorem pu_mkE (T : ErC X.K Cc f fs) (hm : X.mg cls = some (.ref Cc)) (F : FnOk X.prog X.w X.K X.mg X.base CX0 1 f fd ("self" :: fs) (spI Cc fs)) (hb : IniB X.K fd ("self" :: fs) n [] pk) (hr : Room (k + 2) X.A) (h : PuA X (e :: es) ps) (hg : Gl X cls := by rfl)
    (hdb : (cls == ("__debug__" : Str)) = false := by decide) (he : starEach (e :: es) X.env = (false, eval e X.env) :: starEach es X.env := by rfl) (hpl : (backTo pos (starEach es X.env)).any (·.1) = false := by rfl) :
    PuE X (.Call (.Name cls p) (e :: es) [] pos) (pMkE cls fs pk n 0 ps paNil) := by
  obtain ⟨t, h1, h2⟩ := h.ex
  exact ⟨_, pe_mkE T F (hr.mono (by omega)) hg hm hb pass0 h1 hdb he hpl, mkE_reads hm h2 fun G H env σ P Q ok hp k => k [] [] G H (.refl ok.same) .nil hp⟩
theorem pu_mkEK {m : Nat} (T : ErC X.K Cc f fs) (hm : X.mg cls = some (.ref Cc)) (F : FnOk X.prog X.w X.K X.mg X.base CX0 1 f fd ("self" :: fs) (spI Cc fs)) (hb : IniB X.K fd ("self" :: fs) 0 ks pk) (hr : Room (k + 2) X.A) (hkw : PuK X kws qs) (hml : ks.length = m := by rfl) (hg : Gl X cls := by rfl)
    (hall : (backToKw pos (keywordEach kws X.env)).all (·.1.isSome) = true := by rfl) (hks : (backToKw pos (keywordEach kws X.env)).filterMap (·.1) = ks := by rfl) (hdb : (cls == ("__debug__" : Str)) = false := by decide)
    (hpl : ((backTo pos (starEach [] X.env)).any (·.1) || (backToKw pos (keywordEach kws X.env)).any (·.1.isNone)) = false := by rfl) :
    PuE X (.Call (.Name cls p) [] kws pos) (pMkE cls fs pk 0 m paNil qs) := by
  subst hml
  obtain ⟨u, g1, g2⟩ := hkw.ex
  exact ⟨_, pe_mkEK T F (hr.mono (by omega)) hg hm hb pass0 g1 hall hks hdb hpl, mkE_reads hm (fun G H env σ P Q ok hp k => k [] [] G H (.refl ok.same) .nil hp) g2⟩

/-! ### a field -/
def tErF (K : PySem.W.Frag) (x : Str) (te : TE) : TE := fun σ H Q => te σ H fun y H1 => ∃ (a C f dx : Addr) (ns : List Str) (fs : List (Str × V)) (v : V), y = .ref a ∧ ErC K C f ns ∧ x ∈ ns ∧ H1 a = some (exo a C (some dx)) ∧ H1 dx = some (exd dx fs) ∧ fs.lookup x = some v ∧ Q v H1
theorem pe_erF {x : Str} {te : TE} (he : PE X e te) (hb : attributeBase e x X.env (eval e X.env) = eval e X.env := by rfl) : PE X (.Attribute e x pos) (tErF X.K x te) := by
  refine ⟨fun pins s σ H Q I h => ?_⟩
  refine attr_of hb (thn (he.run pins s σ H _ I h) fun u s1 hh => ?_)
  obtain ⟨y, H1, I1, ry, a, C, f, dx, ns, fs, v, ey, T, hn, ea, ed, l, q⟩ := hh
  subst ey
  obtain rfl : u = Value.ref a := ry
  obtain ⟨t1, ho⟩ := exo_at I1.hok ea
  obtain ⟨mA, hns, rel⟩ := exd_at I1.hok ed
  obtain ⟨od, hod, hl⟩ := lookIn_ns hns
  obtain ⟨w, hw, rw'⟩ := RelO.some_of (v := v) (o := mA x) (by rw [← l]; exact rel x)
  have J : PySem.W.InstAt s1.heap a _ C (some od) := ⟨ho, rfl, rfl, hod⟩
  exact HandSPX.exc_get I1.kIn J T.xf.ga T.xf.gg T.xf.exC (PySem.W.findObj_own T.xf.hdC (T.no x hn) rfl (by rw [hl, hw])) (handed_of rw') ⟨v, H1, I1.tok _, rw', q⟩
def pErF (tab : ETab) (x : Str) (p : PTE) : PTE := fun env P => p env fun d => ∃ c ns fs v, d = .err c fs ∧ tab.lookup c = some ns ∧ x ∈ ns ∧ fs.lookup x = some v ∧ P v
theorem pu_erF {tab : ETab} {x : Str} (T : ErT X.K X.mg tab) (he : PuE X e pe) (hb : attributeBase e x X.env (eval e X.env) = eval e X.env := by rfl) : PuE X (.Attribute e x pos) (pErF tab x pe) := by
  obtain ⟨t, h1, h2⟩ := he.ex
  refine ⟨_, pe_erF h1 hb, fun G H env σ P Q ok hp k => h2 G H env σ _ _ ok hp fun d v G' H' y r q => ?_⟩
  obtain ⟨c, ns, fs, w, rfl, hc, hx, hl, q⟩ := q
  cases r with
  | err ea ed em rf =>
    obtain ⟨C', f', em', T'⟩ := T.ex c ns hc
    rw [em] at em'
    cases em'
    obtain ⟨v', l', r'⟩ := rf.look hl
    exact ⟨_, _, f', _, ns, _, v', rfl, T', hx, y.s _ _ ea, y.s _ _ ed, l', k w v' G' H' y r' q⟩

/-! ### isinstance -/
def rIsEr (K : PySem.W.Frag) : List V → Hp → VK → Prop := fun xs H Q => ∃ (a C f dx : Addr) (ns : List Str) (c : V) (u : Value) (b : Bool), xs = [.ref a, c] ∧ ClsV c u ∧ ErC K C f ns ∧ H a = some (exo a C (some dx)) ∧ (∃ fs, H dx = some (exd dx fs)) ∧ PySem.W.kitOne K (.ref C) u = some b ∧ Q (.bl b) H
theorem call_isEr : CallR X (.builtin "isinstance") (rIsEr X.K) := by
  intro pins s σ H xs us Q I r h
  obtain ⟨a, C, f, dx, ns, c, u, b, rfl, kc, T, ea, ⟨fs, ed⟩, e, q⟩ := h
  obtain ⟨u1, u2, rfl, r1, r2⟩ := vals2 r
  have e2 := kc.eq r2
  subst e2
  cases (show u1 = Value.ref a from r1)
  obtain ⟨t1, ho⟩ := exo_at I.hok ea
  obtain ⟨mA, hns, rel⟩ := exd_at I.hok ed
  obtain ⟨od, hod, hl⟩ := lookIn_ns hns
  have J : PySem.W.InstAt s.heap a _ C (some od) := ⟨ho, rfl, rfl, hod⟩
  obtain ⟨nm, q', N, bs, bm, sn, sub, ab, col, dd, k0, k1, k2, k3, k5, hC, hbm⟩ := T.oex.cls
  have hcl : (PySem.W.clsIn X.K C).isSome = true := by
    unfold PySem.W.clsIn
    rw [hC]; rfl
  exact PySem.W.kia_one (PySem.W.kitx_exc hcl T.xf.ga T.xf.gg T.xf.exC T.cl T.hn T.ht T.hm) I.kIn J e (fun z => nomatch z) fun tk => ⟨.bl b, H, I.kept (t' := tk) fun _ _ z => z, rfl, q⟩
/-- which of the known classes belong to a class (or not) -/
abbrev STab := Str → Option Bool
structure ErS (K : PySem.W.Frag) (mg : MG) (sub : STab) (u : Value) : Prop where
  ex : ∀ c b, sub c = some b → ∃ C f ns, mg c = some (.ref C) ∧ ErC K C f ns ∧ PySem.W.kitOne K (.ref C) u = some b
def pIsE (sub : STab) (p : PTE) : PTE := fun env P => p env fun d => ∃ c fs b, d = .err c fs ∧ sub c = some b ∧ P (.bl b)
theorem isE_reads {sub : STab} {c : V} {u : Value} {G H : Hp} {v : V} {d : D} {P : D → Prop} {Q : VK} (S : ErS X.K X.mg sub u) (kc : ClsV c u) (s : Same G H) (r : Rep X.K X.mg G v d) (h : ∃ c fs b, d = .err c fs ∧ sub c = some b ∧ P (.bl b))
    (k : ∀ b, P (.bl b) → Q (.bl b) H) : rIsEr X.K [v, c] H Q := by
  obtain ⟨cn, fs, b, rfl, hs, q⟩ := h
  cases r with
  | err ea ed em rf =>
    obtain ⟨C', f', ns, em', T', e⟩ := S.ex cn b hs
    rw [em] at em'
    cases em'
    exact ⟨_, _, f', _, ns, c, u, b, rfl, kc, T', s _ _ ea, ⟨_, s _ _ ed⟩, e, k b q⟩
theorem pu_isE {sub : STab} {T : Str} {CT : Addr} {p2 p' : Pos} (S : ErS X.K X.mg sub (.ref CT)) (hT : X.mg T = some (.ref CT)) (hm : X.mg "isinstance" = none) (he : PuE X e pe) (hg : Gl X "isinstance" := by rfl) (hgT : Gl X T := by rfl)
    (hs : starEach [e, .Name T p2] X.env = (false, eval e X.env) :: starEach [.Name T p2] X.env := by rfl) (hs2 : starEach [.Name T p2] X.env = (false, eval (.Name T p2) X.env) :: starEach [] X.env := by rfl) (hpl : (backTo pos (starEach [.Name T p2] X.env)).any (·.1) = false := by rfl)
    (hd : (T == ("__debug__" : Str)) = false := by decide) : PuE X (.Call (.Name "isinstance" p') [e, .Name T p2] [] pos) (pIsE sub pe) := by
  obtain ⟨t, h1, h2⟩ := he.ex
  refine ⟨_, pe_callB call_isEr hg hm (by decide +kernel) (pa_cons h1 (pa_cons (pe_glob (v := .ref CT) hgT hT rfl hd) pa_nil hs2) hs) (by decide) (by decide) hs hpl, fun G H env σ P Q ok hp k => h2 G H env σ _ _ ok hp fun d v G' H' x r q => ?_⟩
  exact isE_reads S (.own CT) x.s r q fun b z => k _ _ G' H' x (.bl b) z
theorem pu_isEB {sub : STab} {T : Str} {n : String} {p2 p' : Pos} (S : ErS X.K X.mg sub (.type n)) (hm : X.mg "isinstance" = none) (hmT : X.mg T = none) (he : PuE X e pe) (hv : bootBuiltins T = some (.type n) := by decide +kernel) (hg : Gl X "isinstance" := by rfl) (hgT : Gl X T := by rfl)
    (hs : starEach [e, .Name T p2] X.env = (false, eval e X.env) :: starEach [.Name T p2] X.env := by rfl) (hs2 : starEach [.Name T p2] X.env = (false, eval (.Name T p2) X.env) :: starEach [] X.env := by rfl) (hpl : (backTo pos (starEach [.Name T p2] X.env)).any (·.1) = false := by rfl)
    (hn : T ≠ "__name__" := by decide) (hd : (T == ("__debug__" : Str)) = false := by decide) : PuE X (.Call (.Name "isinstance" p') [e, .Name T p2] [] pos) (pIsE sub pe) := by
  obtain ⟨t, h1, h2⟩ := he.ex
  refine ⟨_, pe_callB call_isEr hg hm (by decide +kernel) (pa_cons h1 (pa_cons (pe_bltn (v := .ty n) hgT hmT hv rfl hn hd) pa_nil hs2) hs) (by decide) (by decide) hs hpl, fun G H env σ P Q ok hp k => h2 G H env σ _ _ ok hp fun d v G' H' x r q => ?_⟩
  exact isE_reads S (.ty n) x.s r q fun b z => k _ _ G' H' x (.bl b) z
end

/-! ### a head with one more look -/
open He in
def hookX (n : Nat) (fa : List Fa) (fn : List DefD) (xb : PySem.W.Frag → Bool) : PySem.W.Hook where
  α := AlD × Bool
  obs := fun s => (obsDG n fa fn s.heap.get?, xb (frG s.heap.get? (asD s.heap.get? n)))
  val := fun _ => (valD fn, true)
  says := fun _ h => ∃ K : PySem.W.Frag, K.In h ∧ SaysD fa fn K ∧ xb K = true
  of := fun _ _ e => ⟨_, frG_in, (Prod.mk.inj e).1, (Prod.mk.inj e).2⟩
  keeps := fun _ _ _ ⟨K, hK, c⟩ k => ⟨K, PySem.W.Frag.In.keeps hK k, c⟩
open He in
def obsX (n : Nat) (fa : List Fa) (fn : List DefD) (xb : PySem.W.Frag → Bool) (g : Addr → Option Obj) : AlD × Bool := (obsDG n fa fn g, xb (frG g (asD g n)))
open He in
theorem obsX_eq {n : Nat} {fa : List Fa} {fn : List DefD} {xb : PySem.W.Frag → Bool} {g : Addr → Option Obj} {s : Shared} (h : ∀ a, g a = s.heap.get? a) : obsX n fa fn xb g = (hookX n fa fn xb).obs s := by
  have e : g = s.heap.get? := funext h
  rw [e] <;> rfl

/-! ### what a program's head gives of its errors -/
def subOf (tab : ETab) (T : Str) : STab := fun c => if (tab.lookup c).isSome = true then some (decide (c = T)) else none
def subAll (tab : ETab) : STab := fun c => if (tab.lookup c).isSome = true then some true else none
def errB (tab : ETab) (K : PySem.W.Frag) : Bool := tab.all fun p => (He.Fa.glo p.1).ok K && ercB K (He.ga K p.1) (He.ma K (He.ga K p.1) "__init__") p.2
def subB (tab : ETab) (K : PySem.W.Frag) : Bool := tab.all fun p => tab.all fun q => decide (PySem.W.kitOne K (.ref (He.ga K p.1)) (.ref (He.ga K q.1)) = some (decide (p.1 = q.1)))
def supB (tab : ETab) (K : PySem.W.Frag) (u : Value) : Bool := tab.all fun p => decide (PySem.W.kitOne K (.ref (He.ga K p.1)) u = some true)
theorem mem_of_look {tab : ETab} {c : Str} {fs : List Str} (h : tab.lookup c = some fs) : (c, fs) ∈ tab := by
  induction tab with
  | nil => cases h
  | cons p r ih =>
    obtain ⟨k, v⟩ := p
    by_cases e : c = k
    · subst e
      rw [List.lookup_cons_self] at h
      cases h
      exact List.mem_cons_self
    · have hb : (c == k) = false := by simpa using e
      rw [List.lookup_cons, hb] at h
      exact List.mem_cons_of_mem _ (ih h)
section
variable {tab : ETab} {K : PySem.W.Frag} {h : Heap} {mg : MG}
theorem err_one (X : K.In h) (G : h.Ns mainGlobals mg) (b : errB tab K = true) {c : Str} {fs : List Str} (hc : tab.lookup c = some fs) : mg c = some (.ref (He.ga K c)) ∧ ErC K (He.ga K c) (He.ma K (He.ga K c) "__init__") fs := by
  have z := List.all_eq_true.mp b _ (mem_of_look hc)
  rw [Bool.and_eq_true] at z
  exact ⟨He.glo_ok X G z.1, ercB_ok z.2⟩
theorem erT_of (X : K.In h) (G : h.Ns mainGlobals mg) (b : errB tab K = true) : ErT K mg tab := ⟨fun c fs hc => ⟨_, _, err_one X G b hc⟩⟩
theorem erS_of (X : K.In h) (G : h.Ns mainGlobals mg) (b : errB tab K = true) (b2 : subB tab K = true) (T : Str) {ns : List Str} (hT : tab.lookup T = some ns) : ErS K mg (subOf tab T) (.ref (He.ga K T)) := ⟨fun c v e => by
  unfold subOf at e
  split at e
  · rename_i hs
    cases e
    obtain ⟨fs, hf⟩ := Option.isSome_iff_exists.mp hs
    obtain ⟨h1, h2⟩ := err_one X G b hf
    have z := List.all_eq_true.mp (List.all_eq_true.mp b2 _ (mem_of_look hf)) _ (mem_of_look hT)
    exact ⟨_, _, fs, h1, h2, of_decide_eq_true z⟩
  · cases e⟩
theorem erA_of {u : Value} (X : K.In h) (G : h.Ns mainGlobals mg) (b : errB tab K = true) (b2 : supB tab K u = true) : ErS K mg (subAll tab) u := ⟨fun c v e => by
  unfold subAll at e
  split at e
  · rename_i hs
    cases e
    obtain ⟨fs, hf⟩ := Option.isSome_iff_exists.mp hs
    obtain ⟨h1, h2⟩ := err_one X G b hf
    exact ⟨_, _, fs, h1, h2, of_decide_eq_true (List.all_eq_true.mp b2 _ (mem_of_look hf))⟩
  · cases e⟩
end
/-- a class of errors that may be called -/
structure ECl (P : Program) (w : World) (K : PySem.W.Frag) (mg : MG) (base : Heap) (cls : Str) (C f : Addr) (fd : FuncData) (fs : List Str) : Prop where
  gm : mg cls = some (.ref C)
  er : ErC K C f fs
  ok : FnOk P w K mg base CX0 1 f fd ("self" :: fs) (spI C fs)
section
variable {X : Cx} {k n : Nat} {f Cc : Addr} {fd : FuncData} {ks fs : List Str} {cls : Str} {p pos : Pos} {e : Expr} {es : List Expr} {kws : List Keyword} {ps qs : PTA} {pk : List Nat}
theorem pu_er (E : ECl X.prog X.w X.K X.mg X.base cls Cc f fd fs) (hb : IniB X.K fd ("self" :: fs) n [] pk) (hr : Room k X.A) (h : PuA X (e :: es) ps) (hk : 2 ≤ k := by decide) (hg : Gl X cls := by rfl)
    (hdb : (cls == ("__debug__" : Str)) = false := by decide) (he : starEach (e :: es) X.env = (false, eval e X.env) :: starEach es X.env := by rfl) (hpl : (backTo pos (starEach es X.env)).any (·.1) = false := by rfl) :
    PuE X (.Call (.Name cls p) (e :: es) [] pos) (pMkE cls fs pk n 0 ps paNil) := pu_mkE (k := 0) E.er E.gm E.ok hb (hr.mono hk) h hg hdb he hpl
theorem pu_erK {m : Nat} (E : ECl X.prog X.w X.K X.mg X.base cls Cc f fd fs) (hb : IniB X.K fd ("self" :: fs) 0 ks pk) (hr : Room k X.A) (hkw : PuK X kws qs) (hml : ks.length = m := by rfl) (hk : 2 ≤ k := by decide) (hg : Gl X cls := by rfl)
    (hall : (backToKw pos (keywordEach kws X.env)).all (·.1.isSome) = true := by rfl) (hks : (backToKw pos (keywordEach kws X.env)).filterMap (·.1) = ks := by rfl) (hdb : (cls == ("__debug__" : Str)) = false := by decide)
    (hpl : ((backTo pos (starEach [] X.env)).any (·.1) || (backToKw pos (keywordEach kws X.env)).any (·.1.isNone)) = false := by rfl) :
    PuE X (.Call (.Name cls p) [] kws pos) (pMkE cls fs pk 0 m paNil qs) := pu_mkEK (k := 0) E.er E.gm E.ok hb (hr.mono hk) hkw hml hg hall hks hdb hpl
end
/-- __init__ of one field, of two -/
theorem init1 {P : Program} {w : World} {K : PySem.W.Frag} {mg : MG} {base : Heap} {qual : Str} {params : Arguments} {body : List Stmt} {scope : Scope} {C f : Addr} {fd : FuncData} {x : Str} (F : FunD K "__init__" qual params body scope [] [] f fd) (S : FnScope (["self", x] : List Str) (["self", x] : List Str) scope) (T : ErC K C f [x])
    (hb : ∀ X : Cx, X.K = K → X.N = (["self", x] : List Str) → X.env.scope = scope → PSs X body (tOst K x (tVar 0) (tVar 1))) : FnOk P w K mg base CX0 1 f fd ["self", x] (spI C [x]) :=
  FunD.ok F S (fun vs H Q E h => spI_len h) fun cdv A outer s H vs Q E hr h => ⟨_, hb _ rfl rfl rfl, ini1 T.oex (T.no x (by simp)) h⟩
theorem init2 {P : Program} {w : World} {K : PySem.W.Frag} {mg : MG} {base : Heap} {qual : Str} {params : Arguments} {body : List Stmt} {scope : Scope} {C f : Addr} {fd : FuncData} {x z : Str} (F : FunD K "__init__" qual params body scope [] [] f fd) (S : FnScope (["self", x, z] : List Str) (["self", x, z] : List Str) scope) (T : ErC K C f [x, z])
    (hb : ∀ X : Cx, X.K = K → X.N = (["self", x, z] : List Str) → X.env.scope = scope → PSs X body (tSeq (tOst K x (tVar 0) (tVar 1)) (tOst K z (tVar 0) (tVar 2)))) : FnOk P w K mg base CX0 1 f fd ["self", x, z] (spI C [x, z]) :=
  FunD.ok F S (fun vs H Q E h => spI_len h) fun cdv A outer s H vs Q E hr h => ⟨_, hb _ rfl rfl rfl, ini2 T.oex T.no h⟩
/-- a def of which nothing is asked -/
theorem never_ok {P : Program} {w : World} {K : PySem.W.Frag} {mg : MG} {base : Heap} {k : Nat} {f : Addr} {fd : FuncData} {ps : List Str} : FnOk P w K mg base CX0 k f fd ps (spP K mg fun _ _ => False) :=
  ⟨fun vs H Q E h => by
    obtain ⟨_, _, _, _, _, z, _⟩ := h
    exact z.elim, fun A outer s H args us vs Q E hr e0 hb r h => by
    obtain ⟨_, _, _, _, _, z, _⟩ := h
    exact z.elim⟩
end PL
end

section
set_option linter.all false
set_option maxRecDepth 100000
set_option maxHeartbeats 4000000
set_option autoImplicit false
/-! PL16: isqrt; repr of lists, for a law's own def (nothing is being shown when a law is called). -/
namespace PL
open PySem PySem.Spec PyProof.Rows L2
section
variable {X : Cx} {e a : Expr} {pa : PTE} {pos p' : Pos}
/-! ### isqrt -/
theorem cr_isqrt : CallR X (.builtin "math.isqrt") (fun xs H Q => ∃ i : Int, xs = [.int i] ∧ 0 ≤ i ∧ i < 2 ^ 2000 ∧ Q (.int ((Float64.isqrt i.toNat : Nat) : Int)) H) := by
  intro pins s σ H xs us Q I r ⟨i, ex, h0, h1, q⟩
  subst ex
  obtain ⟨u, rfl, t, rfl⟩ := vals1 r
  have hl : i.toNat.log2 < 2000 := by
    by_cases z : i.toNat = 0
    · rw [z]; decide
    · rw [Nat.log2_lt z]
      have e : ((2 ^ 2000 : Nat) : Int) = 2 ^ 2000 := by simp
      omega
  exact call_function_meets PySem.W.MGF.kind_isqrt PySem.W.MGF.plain_isqrt PySem.W.MGF.entry_isqrt (PySem.W.MGF.args_isqrt _) (PySem.W.mg_run_isqrt i t (by omega) (by omega) (by omega)).meets ⟨.int _, H, I.tok _, ⟨_, rfl⟩, q⟩
def isqrtP : PSp := fun ds P => match ds with
  | [.int i] => 0 ≤ i ∧ i < 2 ^ 2000 ∧ ∀ r : Int, 0 ≤ r → r * r ≤ i → i < (r + 1) * (r + 1) → P (.int r)
  | _ => False
theorem isqrtP_i {P : D → Prop} {i : Int} : isqrtP [.int i] P = (0 ≤ i ∧ i < 2 ^ 2000 ∧ ∀ r : Int, 0 ≤ r → r * r ≤ i → i < (r + 1) * (r + 1) → P (.int r)) := rfl
theorem isqrtP_ok : CallOk X (fun xs H Q => ∃ i : Int, xs = [.int i] ∧ 0 ≤ i ∧ i < 2 ^ 2000 ∧ Q (.int ((Float64.isqrt i.toNat : Nat) : Int)) H) isqrtP := by
  intro G H vs ds P Q s rs h k
  unfold isqrtP at h
  split at h
  · rename_i i
    obtain ⟨v, rfl, r⟩ := one_shal rs
    cases r.int
    obtain ⟨h0, h1, h⟩ := h
    have key : P (.int ((Float64.isqrt i.toNat : Nat) : Int)) := by
      obtain ⟨s1, s2⟩ := Float64.isqrt_spec i.toNat
      generalize Float64.isqrt i.toNat = n at *
      refine h n (by omega) ?_ ?_
      · have e : ((n * n : Nat) : Int) = (n : Int) * n := Int.natCast_mul n n
        omega
      · have e : (((n + 1) * (n + 1) : Nat) : Int) = ((n : Int) + 1) * ((n : Int) + 1) := by rw [Int.natCast_mul]; rfl
        omega
    exact ⟨_, rfl, h0, h1, k _ _ G H (.refl s) (.int _) key⟩
  · exact h.elim
theorem pu_isqrt {x : Str} (hm : X.mg x = some (.builtin "math.isqrt")) (h : PuO X a pa) (hg : Gl X x := by rfl) (hdb : (x == ("__debug__" : Str)) = false := by decide) (hs : starEach [a] X.env = (false, eval a X.env) :: starEach [] X.env := by rfl) :
    PuE X (.Call (.Name x p') [a] [] pos) (pCall isqrtP (paCons pa paNil)) := by
  obtain ⟨t, h1, h2⟩ := (puao_cons h puao_nil hs).ex
  refine ⟨_, pe_callBfun cr_isqrt hg hm h1 hdb hs rfl, fun G H env σ P Q ok hp k => h2 G H env σ _ _ ok hp fun ds vs G' H' y rs q => ?_⟩
  exact isqrtP_ok G' H' vs ds P Q y.s rs q fun d u G2 H2 z r2 q2 => k d u G2 H2 (y.trans z) r2 q2

/-! ### repr of flat data -/
def rRep (K : PySem.W.Frag) : List V → Hp → VK → Prop := fun xs H Q => ∃ (a : Addr) (d : PyData), xs = [.ref a] ∧ Dp K H (.ref a) d ∧ d.showable = true ∧ d.hasDict = false ∧ d.depth ≤ 64 ∧ d.shown.length ≤ sizeLine ∧ Q (.str d.shown) H
theorem cr_rep (hg : X.A.guards = some []) (hu : X.A.units + 65 < cLine) : CallR X (.builtin "repr") (rRep X.K) := by
  intro pins s σ H xs us Q I r ⟨a, d, ex, hd, hs, hn, hdp, hz, q⟩
  subst ex
  obtain ⟨u, rfl, ru⟩ := vals1 r
  obtain ⟨as, rd⟩ := Dp.reads I d (.ref a) u hd ru
  obtain rfl : u = Value.ref a := ru
  exact repr_of_reads' rd hs (PyData.noDict_hsm hn) hg (by omega) (fun _ _ e => e) (fun h' w tk hk => ⟨.str _, H, I.kept hk, ⟨_, rfl⟩, q⟩) hz
def reprLP : PSp := fun ds P => match ds with
  | [.lst xs] => flats xs = true ∧ (toPy (.lst xs)).showable = true ∧ (toPy (.lst xs)).hasDict = false ∧ (toPy (.lst xs)).depth ≤ 64 ∧ (toPy (.lst xs)).shown.length ≤ sizeLine ∧ P (.str (toPy (.lst xs)).shown)
  | _ => False
theorem reprLP_l {P : D → Prop} {xs : List D} : reprLP [.lst xs] P = (flats xs = true ∧ (toPy (.lst xs)).showable = true ∧ (toPy (.lst xs)).hasDict = false ∧ (toPy (.lst xs)).depth ≤ 64 ∧ (toPy (.lst xs)).shown.length ≤ sizeLine ∧ P (.str (toPy (.lst xs)).shown)) := rfl
theorem reprLP_ok : CallOk X (rRep X.K) reprLP := by
  intro G H vs ds P Q s rs h k
  unfold reprLP at h
  split at h
  · rename_i xs
    obtain ⟨v, rfl, r⟩ := one_shal rs
    obtain ⟨h1, h2, h3, h4, h5, h6⟩ := h
    have hd := r.dp s (d := .lst xs) h1
    obtain ⟨l, ws, rfl, _, _⟩ := r.lst s
    exact ⟨l, _, rfl, hd, h2, h3, h4, h5, k _ _ G H (.refl s) (.str _) h6⟩
  · exact h.elim
theorem pu_reprL (hg : X.A.guards = some []) {k : Nat} (hr : Room k X.A) (hm : X.mg "repr" = none) (h : PuO X a pa) (hs : starEach [a] X.env = (false, eval a X.env) :: starEach [] X.env := by rfl) (hgl : Gl X "repr" := by rfl) : PuE X (.Call (.Name "repr" p') [a] [] pos) (pCall reprLP (paCons pa paNil)) :=
  pu_bi (cr_rep hg (Room.u65 hr)) reprLP_ok hm (puao_cons h puao_nil hs) hgl (by decide +kernel) (by decide) (by decide) hs rfl
end

/-! ### a def that is called where nothing is being shown -/
structure FnG (P : Program) (w : World) (K : PySem.W.Frag) (mg : MG) (base : Heap) (k : Nat) (f : Addr) (fd : FuncData) (ps : List Str) (sp : Sp) : Prop where
  go : ∀ (A : Around) (outer : List Env) (s : Shared) (H : Hp) (args : Args) (us : List Value) (vs : List V) (Q : VK) (E : XK), Room k A → A.guards = some [] → Env0 P w K mg base A outer s H → BindsTo s fd args (ps.zip us) → Vals vs us → sp vs H Q E →
    codeAny (model P w) A (.call (.ref f) args) (CR CX0 outer P w H s Q E) s
theorem pfnG {P : Program} {w : World} {K : PySem.W.Frag} {mg : MG} {base : Heap} {x : Str} {st : Stmt} {f : Addr} {fd : FuncData} {N ns : List Str} {k : Nat} {sp : PSp} {p : PTS} (F : FnP K x st f fd) (S : FnScope N ns (defScope st)) (hlen : ∀ ds P, sp ds P → ds.length = ns.length)
    (hbody : ∀ (cdv : Value) (A : Around) (outer : List Env) (s : Shared) (H : Hp) (E : XK), Room k (A.deeper (envOfC x (defScope st) s.heap.objs.size f cdv)) → A.guards = some [] →
      PuSs (cxOf CX0 P w K mg base N x (defScope st) f cdv A outer s H E).nox (defBody st) p) (hp : ∀ ds Q, sp ds Q → p { nx := fun _ => Q .non, rt := Q } (startC N ds)) : FnG P w K mg base (k + 1) f fd ns (spP K mg sp) := by
  constructor
  intro A outer s H args us vs Q E hr hgd e0 hb r hsp
  obtain ⟨oc, od, dV, kV, doc, pm, an, cdv, ct, osl, rfl, lk, hcd, _, _⟩ := F.ex
  obtain ⟨G, ds, P', sm, rr, q, kk⟩ := hsp
  have hl : vs.length = ns.length := by rw [rr.length]; exact hlen ds P' q
  have into : ∀ b o, base.get? b = some o → s.heap.get? b = some o := fun b o e => (e0.bs b o e).1
  have KX : K.In s.heap := e0.mod.kin.keeps into
  have params : ∀ y ∈ ns.zip us, (defScope st).names.lookup y.1 = some .local ∨ ((defScope st).names.lookup y.1 = some .cell ∧ ((cellsFrom (s.heap.objs.size + 1) (defScope st).names []).lookup y.1).isSome = true) := by
    rintro ⟨n, v⟩ hy
    rcases S.par n (List.of_mem_zip hy).1 with h | h
    · exact .inl h
    · exact .inr ⟨h, PySem.W.cellsFrom_some _ _ _ (.inl h)⟩
  refine codeAny_call_function hr.depth (KX _ _ lk) rfl S.co S.gen rfl (PySem.W.codeRec_of KX hcd) (hb _ _ _ _ ?_)
  refine wpAny_newFunctionEnv_cells S.kind params fun env he s1 x1 => ?_
  subst he
  refine ⟨(e0.mod.nolimit.keeps into).keeps x1.toInCall.keep, codeAny_func ?_⟩
  obtain ⟨t, t1, t2⟩ := (hbody cdv A outer s H E (hr.deeper _) hgd).ex
  have I := inv_start (CX := CX0) (E := E) S hr.hd e0 hl r x1
  have hq := t2 G H G H _ _ { nx := fun _ => P' .non, rt := P' } { nx := fun _ H' => Q .non H', rt := Q } ⟨start_ok (N := N) sm rr, .refl sm, fun i d l z => by
    intro s1
    exfalso
    unfold startC at z
    by_cases hk : i < ds.length
    · rw [List.getElem?_append_left (by simpa using hk), List.getElem?_map] at z
      cases e : ds[i]? with
      | none => rw [e] at z; cases z
      | some d => rw [e] at z; cases z
    · rw [List.getElem?_append_right (by simpa using hk), List.getElem?_replicate] at z
      split at z <;> cases z⟩
    ⟨fun G' H' env σ r' z => kk .non .non G' H' r'.ext .non z, fun G' H' env σ r' z => z, fun G' H' env σ r' z => z, fun G' H' d v y rp z => kk d v G' H' y rp z, fun _ _ _ _ _ _ _ _ z => z.elim⟩ (hp ds P' q)
  refine wpAny_mono (t1.nox.run [] s1 (start N vs) H _ I hq) (fun fl s' hs => ?_) fun e s' hs => hs
  cases fl with
  | ret u =>
    obtain ⟨v, σ', H', J, rv, z⟩ := hs
    exact ⟨v, H', J.os, J.bare, J.base, J.hok, rv, z⟩
  | next =>
    obtain ⟨σ', H', J, z⟩ := hs
    exact ⟨V.non, H', J.os, J.bare, J.base, J.hok, rfl, z⟩
  | brk =>
    obtain ⟨_, _, _, z⟩ := hs
    exact z.elim
  | cont =>
    obtain ⟨_, _, _, z⟩ := hs
    exact z.elim
/-- the same of a promise that holds anywhere -/
theorem FnG.of {P : Program} {w : World} {K : PySem.W.Frag} {mg : MG} {base : Heap} {k : Nat} {f : Addr} {fd : FuncData} {ps : List Str} {sp : Sp} (F : FnOk P w K mg base CX0 k f fd ps sp) : FnG P w K mg base k f fd ps sp :=
  ⟨fun A outer s H args us vs Q E hr _ e0 hb r h => F.run A outer s H args us vs Q E hr e0 hb r h⟩
/-- what is tracked of the heap ahead of a law: its script alone, if it is no object of the module -/
def hpOf (K : PySem.W.Frag) (a : Addr) (o : Obj) (ns : List Int) : Hp := fun b => if b = a ∧ K.lookup a = none then some (.frz o (.lst (ns.map V.int))) else none
section
variable {K : PySem.W.Frag} {a : Addr} {o : Obj} {ns : List Int}
theorem hpOf_some {b : Addr} {u : HO} (e : hpOf K a o ns b = some u) : b = a ∧ K.lookup a = none ∧ u = .frz o (.lst (ns.map V.int)) := by
  unfold hpOf at e
  split at e
  · rename_i h
    cases e
    exact ⟨h.1, h.2, rfl⟩
  · cases e
theorem hpOf_only : Only (hpOf K a o ns) := fun b => by
  cases e : hpOf K a o ns b with
  | none => exact .inl rfl
  | some u =>
    obtain ⟨_, _, rfl⟩ := hpOf_some e
    exact .inr ⟨_, _, rfl⟩
end
theorem law_g {P : Program} {w : World} {K : PySem.W.Frag} {mg mb : MG} {k : Nat} {fa a : Addr} {fd : FuncData} {x : Str} {sp : Sp} {s1 : Shared} {vs : List Value} {ns : List Int} (KX : K.In s1.heap) (hns : s1.heap.Ns mainGlobals mg) (hb : s1.heap.Ns builtinsNs mb)
    (hbb : ∀ y : Str, y ≠ "__name__" → mb y = bootBuiltins y) (hlim : s1.heap.NoLimit) (hg : s1.gens = #[]) (ha : s1.heap.get? a = some { cls := .type "list", data := .seq vs.toArray }) (hi : IntsAre vs ns) (hl : ns.length ≤ sizeLine) (hr : Room k callerA)
    (F : ∀ base : Heap, K.In base → base.Ns mainGlobals mg → FnG P w K mg base k fa fd [x] sp) (hbind : ∀ (s : Shared) (u : Value), BindsTo s fd ⟨[u], []⟩ [(x, u)])
    (hsp : ∀ H : Hp, Only H → SqL K H a (ns.map V.int) → sp [.ref a] H (fun v _ => v = .bl true) fun _ _ _ => False) :
    codeAny (model P w) callerA (.call (.ref fa) ⟨[.ref a], []⟩) (fun r s' => r = .ok (.ret (.bool true)) ∧ OldK s1.heap s'.heap ∧ s'.os = s1.os ∧ AllBare s'.gens) s1 := by
  have rv := vals_ints hi
  have lv := hi.length
  -- the objects that are not tracked
  have keepN : ∀ {b : Addr} {u : Obj}, s1.heap.get? b = some u → hpOf K a { cls := .type "list", data := .seq vs.toArray } ns b = none → (hidT s1.heap (hpOf K a { cls := .type "list", data := .seq vs.toArray } ns)).get? b = some u := fun e n => hidT_get e n
  have dictN : ∀ {b : Addr} {u : Obj} {es : Array DictEntry} {ep : Nat}, s1.heap.get? b = some u → u.data = .dict es ep → hpOf K a { cls := .type "list", data := .seq vs.toArray } ns b = none := fun {b u es ep} e d => by
    cases q : hpOf K a { cls := .type "list", data := .seq vs.toArray } ns b with
    | none => rfl
    | some z =>
      obtain ⟨rfl, _, _⟩ := hpOf_some q
      rw [ha] at e
      cases e
      have d' : Data.seq vs.toArray _ = Data.dict es ep := d
      cases d'
  have nsN : ∀ {b : Addr} {m : MG}, s1.heap.Ns b m → (hidT s1.heap (hpOf K a { cls := .type "list", data := .seq vs.toArray } ns)).Ns b m := fun ⟨u, es, ep, e, d, r⟩ => ⟨u, es, ep, keepN e (dictN e d), d, r⟩
  have kN : K.In (hidT s1.heap (hpOf K a { cls := .type "list", data := .seq vs.toArray } ns)) := fun b u e => keepN (KX b u e) (by
    cases q : hpOf K a { cls := .type "list", data := .seq vs.toArray } ns b with
    | none => rfl
    | some z =>
      obtain ⟨rfl, n, _⟩ := hpOf_some q
      rw [n] at e
      cases e)
  have hok : HOk P w (hpOf K a { cls := .type "list", data := .seq vs.toArray } ns) s1.heap := fun b u e => by
    obtain ⟨rfl, _, rfl⟩ := hpOf_some e
    exact ⟨ha, by rw [List.length_map]; exact hl, vs, _, rv, ha⟩
  have hS : SqL K (hpOf K a { cls := .type "list", data := .seq vs.toArray } ns) a (ns.map V.int) := by
    cases hk : K.lookup a with
    | none => exact .inl (.inr ⟨_, if_pos ⟨rfl, hk⟩⟩)
    | some u =>
      have e := KX a u hk
      rw [ha] at e
      cases e
      exact .inr ⟨_, vs.toArray, _, hk, rfl, rfl, rfl, by rw [List.size_toArray, lv]; exact hl, by simpa using rv⟩
  have e0 : Env0 P w K mg (hidT s1.heap (hpOf K a { cls := .type "list", data := .seq vs.toArray } ns)) callerA [] s1 (hpOf K a { cls := .type "list", data := .seq vs.toArray } ns) :=
    ⟨rfl, ⟨kN, nsN hns, ⟨mb, nsN hb, hbb⟩, hlim.elim fun mc h => ⟨mc, nsN h.1, h.2⟩⟩, fun b u e => of_hidT e, Nat.le_of_eq (hidT_size _ _), trivial, fun b hb => absurd (show b ∈ ([] : List Addr) from hb) (by simp), hok, .of_eq hg⟩
  refine codeAny_mono ((F _ kN (nsN hns)).go callerA [] s1 _ ⟨[.ref a], []⟩ [.ref a] [.ref a] _ _ hr rfl e0 (hbind s1 (.ref a)) (.cons rfl .nil) (hsp _ hpOf_only hS)) fun r s' z => ?_
  cases r with
  | error e => exact False.elim z
  | ok fl =>
    cases fl with
    | next => exact False.elim z
    | brk => exact False.elim z
    | cont => exact False.elim z
    | ret u =>
      obtain ⟨v, H', os, bare, un, hok2, rv2, ev⟩ := z
      have ev : v = .bl true := ev
      subst ev
      obtain rfl : u = Value.bool true := rv2
      refine ⟨rfl, OldK.of_keep fun b y e => ?_, os, bare⟩
      cases q : hpOf K a { cls := .type "list", data := .seq vs.toArray } ns b with
      | none => exact un.keep b y e q (fun z => absurd (show b ∈ ([] : List Addr) from z) (by simp)) (by simp)
      | some t =>
        obtain ⟨_, _, rfl⟩ := hpOf_some q
        obtain ⟨e1, _⟩ := hok b _ q
        obtain ⟨e2, _⟩ := hok2 b _ (un.frzs b _ _ q)
        rw [e] at e1
        cases e1
        exact e2
/-- a law's end, its def called where nothing is being shown -/
theorem walk_g {l : PySem.W.OpenLaw} {n k : Nat} {q : Program} {loose : List Str} {XP : MG → Heap → Prop} {YP : World → Heap → Prop} {d : DefRec} {x : Str} (hn : l.most = some n) (hn2 : n ≤ sizeLine) (hdf : d.params.defaults = []) (hr : Room k callerA)
    (F : ∀ (w : World) (mg : MG) (fa : Addr) (h : Heap), YP w h → h.Ns mainGlobals mg → mg d.name = some (.ref fa) → ∃ (K : PySem.W.Frag) (fd : FuncData) (sp : Sp), K.In h ∧ (∀ (s : Shared) (u : Value), BindsTo s fd ⟨[u], []⟩ [(x, u)]) ∧
      (∀ (H : Hp) (a : Addr) (ns : List Int), ns.length ≤ n → Only H → SqL K H a (ns.map V.int) → sp [.ref a] H (fun v _ => v = .bl true) fun _ _ _ => False) ∧ ∀ base : Heap, K.In base → base.Ns mainGlobals mg → FnG l.prog w K mg base k fa fd [x] sp) :
    PySem.W.WalkO q loose XP YP l.row.toRowW d [] (fun f vs => PySem.call f vs) := by
  refine Att.attach_call hn hdf ?_
  intro w s0 s1 mg mb fa o pm cd doc a vs ns G Y ho hd hcd hmg hobj hints hlen hgens
  obtain ⟨K, fd, sp, KX, bnd, hsp, hF⟩ := F w mg fa _ Y G.T.g hmg
  exact law_g KX G.T.g G.T.b G.T.builtins G.T.nolimit hgens hobj hints (Nat.le_trans hlen hn2) hr hF bnd fun H hO hS => hsp H a ns hlen hO hS
end PL
end

section
set_option linter.all false
set_option maxRecDepth 100000
set_option maxHeartbeats 4000000
set_option autoImplicit false
/-! PL17: dict displays, x.extend(new list). -/
namespace PL
open PySem PySem.Spec PyProof.Rows L2
section
variable {X : Cx} {e a b c k v : Expr} {es : List Expr} {ks : List (Option Expr)} {vs : List Expr} {pe pa pb pk pv : PTE} {ps : PTA} {pos p' : Pos}
/-! ### dict displays -/
def pPairs : List (PTE × PTE) → List C → (List (D × D) → Prop) → Prop
  | [], _, P => P []
  | (pk, pv) :: r, env, P => pk env fun x => pv env fun y => pPairs r env fun ps => P ((x, y) :: ps)
def keysP : List (D × D) → Option (List (Key × D))
  | [] => some []
  | (x, y) :: r => (keyOf x).bind fun k => (keysP r).map fun ks => (k, y) :: ks
def mergeD (kvs more : List (Key × D)) : List (Key × D) := more.foldl (fun acc kv => putD acc kv.1 kv.2) kvs
def pDisp (pps : List (PTE × PTE)) : PTE := fun env P => pPairs pps env fun ps => match keysP ps with
  | some kvs => kvs.length ≤ 15 ∧ P (.dk (mergeD [] kvs))
  | none => False
inductive RepPs (K : PySem.W.Frag) (mg : MG) (G : Hp) : List (V × V) → List (D × D) → Prop
  | nil : RepPs K mg G [] []
  | cons {x y : V} {d f : D} {xs : List (V × V)} {ds : List (D × D)} : Rep K mg G x d → Rep K mg G y f → RepPs K mg G xs ds → RepPs K mg G ((x, y) :: xs) ((d, f) :: ds)
theorem RepPs.mono {K : PySem.W.Frag} {mg : MG} {G G' : Hp} (s : Same G G') : ∀ {xs : List (V × V)} {ds : List (D × D)}, RepPs K mg G xs ds → RepPs K mg G' xs ds
  | _, _, .nil => .nil
  | _, _, .cons a b t => .cons (a.mono s) (b.mono s) (RepPs.mono s t)
theorem RepPs.keys {K : PySem.W.Frag} {mg : MG} {G : Hp} : ∀ {xs : List (V × V)} {ds : List (D × D)} {kvs : List (Key × D)}, RepPs K mg G xs ds → keysP ds = some kvs →
    ∃ us : List (Key × V), xs = us.map (fun kv => (kV kv.1, kv.2)) ∧ us.length = kvs.length ∧ Rel2 (Rep K mg G) us kvs
  | _, _, _, .nil, h => by cases h; exact ⟨[], rfl, rfl, .nil⟩
  | _, _, kvs, .cons (d := d) (f := f) (ds := ds) a b t, h => by
    unfold keysP at h
    cases e : keyOf d with
    | none => rw [e] at h; cases h
    | some k =>
      rw [e] at h
      cases e2 : keysP ds with
      | none => rw [e2] at h; cases h
      | some ms =>
        rw [e2] at h
        cases h
        obtain ⟨us, rfl, l, r⟩ := RepPs.keys t e2
        have ek := a.key e
        subst ek
        exact ⟨(k, _) :: us, rfl, by simp [l], .cons b r⟩
theorem Rel2.merge {R : V → D → Prop} : ∀ {more : List (Key × V)} {ms : List (Key × D)} {kvs : List (Key × V)} {ds : List (Key × D)}, Rel2 R more ms → Rel2 R kvs ds → Rel2 R (mergeK kvs more) (mergeD ds ms)
  | _, _, _, _, .nil, h => h
  | _, _, _, _, .cons (k := k) r t, h => by
    have q := Rel2.merge t (Rel2.put (k := k) r h)
    exact q
/-- the pairs of a display -/
structure PuPs (X : Cx) (pos : Pos) (ks : List (Option Expr)) (vs : List Expr) (pps : List (PTE × PTE)) : Prop where
  ex : ∃ trs : List (TE × TE), PPs X pos ks vs trs ∧ ∀ (G H : Hp) (env : List C) (σ : L2.St) (P : List (D × D) → Prop) (Q : List (V × V) → Hp → Prop), Ok X.K X.mg G H env σ → pPairs pps env P →
    (∀ ds xs G' H', Ext G H G' H' → RepPs X.K X.mg G' xs ds → P ds → Q xs H') → tPairs trs σ H Q
theorem pups_nil : PuPs X pos [] [] [] := ⟨[], pps_nil, fun G H env σ P Q ok hp k => k _ _ G H (.refl ok.same) .nil hp⟩
theorem pups_cons {pps : List (PTE × PTE)} (hk : PuE X k pk) (hv : PuE X v pv) (hr : PuPs X pos ks vs pps) : PuPs X pos (some k :: ks) (v :: vs) ((pk, pv) :: pps) := by
  obtain ⟨t, a1, a2⟩ := hk.ex
  obtain ⟨u, b1, b2⟩ := hv.ex
  obtain ⟨w, c1, c2⟩ := hr.ex
  refine ⟨(t, u) :: w, pps_cons a1 b1 c1, fun G H env σ P Q ok hp kk => ?_⟩
  refine a2 G H env σ _ _ ok hp fun x xv G1 H1 e1 r1 q1 => ?_
  refine b2 G1 H1 env σ _ _ (ok.ext e1) q1 fun y yv G2 H2 e2 r2 q2 => ?_
  refine c2 G2 H2 env σ _ _ ((ok.ext e1).ext e2) q2 fun ds xs G3 H3 e3 r3 q3 => ?_
  exact kk _ _ G3 H3 ((e1.trans e2).trans e3) (.cons (r1.mono (e2.g.trans e3.g)) (r2.mono e3.g) r3) q3
theorem puf_disp {pps : List (PTE × PTE)} (h : PuPs X pos ks vs pps) (hall : ks.all (·.isSome) = true := by rfl) (hl : ks.length = vs.length := by rfl) (h0 : ks ≠ [] := by exact fun q => by cases q) (h15 : ks.length ≤ 15 := by decide) :
    PuF X (.Dict ks vs pos) (pDisp pps) := by
  obtain ⟨t, a1, a2⟩ := h.ex
  refine ⟨_, pe_disp a1 hall hl h0 h15, fun G H env σ P Q ok hp k p hn => ?_⟩
  refine a2 G _ env σ _ _ (ok.ext (Ext.newH ok.same hn)) hp fun ds xs G' H' x r q => ?_
  refine ⟨x.h _ _ upd_same, ?_⟩
  split at q
  · rename_i kvs ek
    obtain ⟨us, rfl, l, rr⟩ := r.keys ek
    have nG : G' p = none := by
      by_cases z : G' p = none
      · exact z
      · have := x.f p (ok.same.free hn) z
        rw [upd_same] at this
        cases this
    have y := (Ext.newH (o := .dK []) ok.same hn).trans x
    refine ⟨us, rfl, by rw [l]; exact q.1, k _ p G' _ ⟨y.g, fun b u e => ?_, fun b u e => ?_, y.f⟩ (.dk upd_same (RepKV.of (Rel2.merge rr .nil))) nG hn q.2⟩
    · rw [upd_ne (ne_of_none e hn)]; exact y.h _ _ e
    · rw [upd_ne (ne_of_none e nG)]; exact y.s _ _ e
  · exact q.elim

/-! ### x.extend(a new list) -/
def pExt (i : Nat) (pe : PTE) : PTS := fun PD env => match env[i]? with
  | some (.ow (.lst ds)) => pe env fun d => match d with
    | .lst es => ds.length + es.length ≤ sizeLine ∧ PD.nx (env.set i (.ow (.lst (ds ++ es))))
    | _ => False
  | _ => False
theorem pus_extend (i : Nat) {x : Str} {apos npos p1 : Pos} (he : PuF X e pe)
    (hs : ∀ t, PE X e t → PS X (.Expr (.Call (.Attribute (.Name x npos) "extend" apos) [e] [] p1) pos) (tDrop (tBM X.K "list" rExtend (tVar i) (tCons t tNil))) := by exact fun t h => ps_expr (pe_bm PySem.F.plainAttrs_list PySem.F.slot_list_extend PySem.F.type_list_extend mt_extend (L2.pv _) (pa_cons h pa_nil))) :
    PuS X (.Expr (.Call (.Attribute (.Name x npos) "extend" apos) [e] [] p1) pos) (pExt i pe) := by
  obtain ⟨t, h1, h2⟩ := he.ex
  refine ⟨_, hs t h1, fun G0 H0 G H env σ PD E r ok hp => ?_⟩
  unfold pExt at hp
  split at hp
  · rename_i ds hi
    obtain ⟨l, hl, tp, n⟩ := r.ok.slot i _ hi
    cases tp with
    | lst hH rs =>
      refine ⟨.ref l, hl, .inl ⟨rfl, _, SqL.of hH⟩, h2 G H env σ _ _ r.ok hp fun d b G' H' x tb nb _ z => ?_⟩
      split at z
      · cases tb with
        | lst hB rb =>
          have r' := r.step x
          obtain ⟨l', hl', tp', n'⟩ := r'.ok.slot i _ hi
          rw [hl] at hl'
          cases hl'
          cases tp' with
          | lst hH' rs' =>
            refine ⟨l, b, _, _, rfl, rfl, hH', hB, by rw [rs'.length, rb.length]; exact z.1, ?_⟩
            exact ok.nx G' _ _ σ (r'.write hi hl n' (.lst upd_same (rs'.append rb))) z.2
      · exact z.elim
  · exact hp.elim
end
end PL
end

section
set_option linter.all false
set_option maxRecDepth 100000
set_option autoImplicit false
/-! The bodies of law_k60_told_excess's defs over plain data; printed by gen.py. -/
namespace K60
open PySem PySem.Spec PyProof.Rows L2 PL
-- slots: 0 size, 1 length, 2 count, 3 left, 4 letters, 5 texts
def b_greatest_count : PTS :=
  (pSeq (pIfS (pB (pBin eqP (pN 0) (pC (.int 1))))
    (pSeq (pSet 2 (pCall isqrtP (paCons (pBin mulP (pC (.int 2)) (pN 1)) paNil)))
    (pSeq (pIfS (pB (pBin gtP (pBin mulP (pN 2) (pBin addP (pN 2) (pC (.int 1)))) (pBin mulP (pC (.int 2)) (pN 1))))
    (pSet 2 (pBin subP (pN 2) (pC (.int 1))))
    pNext)
    (pRet (pN 2))))
    pNext)
    (pSeq (pSet 2 (pC (.int 0)))
    (pSeq (pSet 3 (pN 1))
    (pSeq (pSet 4 (pC (.int 1)))
    (pSeq (pSet 5 (pN 0))
    (pSeq (pWhile (pB (pBin leP (pBin mulP (pN 5) (pN 4)) (pN 3)))
    (pSeq (pSet 2 (pBin addP (pN 2) (pN 5)))
    (pSeq (pSet 3 (pBin subP (pN 3) (pBin mulP (pN 5) (pN 4))))
    (pSeq (pSet 4 (pBin addP (pN 4) (pC (.int 1))))
    (pSet 5 (pBin mulP (pN 5) (pN 0)))))))
    (pRet (pBin addP (pN 2) (pBin fdivP (pN 3) (pN 4))))))))))
-- slots: 0 options
def b_width : PTS :=
  (pRet (pBits (pBin subP (pN 0) (pC (.int 1)))))
-- slots: 0 size, 1 count, 2 numbers, 3 total, 4 powers, 5 narrow
def b_pressed_length (sp_width : PSp) : PTS :=
  (pSeq (pSet 2 (pBin addP (pN 1) (pC (.int 1))))
    (pSeq (pSet 3 (pCall sp_width (paCons (pN 2) paNil)))
    (pSeq (pIfS (pB (pBin eqP (pN 0) (pC (.int 1))))
    (pRet (pBin addP (pN 3) (pN 2)))
    pNext)
    (pSeq (pSet 4 (pC (.int 1)))
    (pSeq (pSet 5 (pC (.int 0)))
    (pSeq (pWhile (pB (pBin ltP (pN 5) (pN 2)))
    (pSeq (pSet 3 (pBin subP (pBin addP (pN 3) (pN 2)) (pN 5)))
    (pSeq (pSet 4 (pBin mulP (pN 4) (pC (.int 2))))
    (pSet 5 (pBin fdivP (pBin subP (pN 4) (pC (.int 2))) (pBin subP (pN 0) (pC (.int 1))))))))
    (pRet (pN 3))))))))
-- slots: 0 count, 1 room, 2 shortest, 3 total, 4 left, 5 here, 6 length, 7 taken
def b_level_total : PTS :=
  (pSeq (pSet 3 (pC (.int 0)))
    (pSeq (pSet 4 (pN 0))
    (pSeq (pSet 5 (pN 1))
    (pSeq (pSet 6 (pN 2))
    (pSeq (pWhile (pB (pBin gtP (pN 4) (pC (.int 0))))
    (pSeq (pSet 7 (pCall minP (paCons (pN 4) (paCons (pN 5) paNil))))
    (pSeq (pSet 3 (pBin addP (pN 3) (pBin mulP (pN 7) (pN 6))))
    (pSeq (pSet 4 (pBin subP (pN 4) (pN 7)))
    (pSeq (pSet 5 (pBin mulP (pN 5) (pC (.int 2))))
    (pSet 6 (pBin addP (pN 6) (pC (.int 1)))))))))
    (pRet (pN 3)))))))
-- slots: 0 standings, 1 count, 2 silent
def b_floor_bits (sp_level_total : PSp) : PTS :=
  (pSeq (pSet 2 (pBin fdivP (pBin mulP (pN 0) (pBin subP (pN 0) (pC (.int 1)))) (pC (.int 2))))
    (pRet (pCall sp_level_total (paCons (pCall maxP (paCons (pC (.int 0)) (paCons (pBin subP (pN 1) (pN 2)) paNil))) (paCons (pBin mulP (pBin mulP (pC (.int 2)) (pN 0)) (pN 0)) (paCons (pC (.int 1)) paNil))))))
-- slots: 0 size, 1 standings, 2 count
def b_excess (sp_pressed_length : PSp) (sp_floor_bits : PSp) : PTS :=
  (pRet (pBin subP (pCall sp_pressed_length (paCons (pN 0) (paCons (pN 2) paNil))) (pCall sp_floor_bits (paCons (pN 1) (paCons (pN 2) paNil)))))
-- slots: 0 size, 1 standings, 2 count, 3 letter_bits, 4 standing_bits, 5 log
def b_told_excess (sp_width : PSp) : PTS :=
  (pSeq (pSet 3 (pCall sp_width (paCons (pN 0) paNil)))
    (pSeq (pSet 4 (pCall sp_width (paCons (pN 1) paNil)))
    (pSeq (pSet 5 (pBin subP (pBits (pBin addP (pN 2) (pC (.int 1)))) (pC (.int 1))))
    (pRet (pBin addP (pBin addP (pBin addP (pBin mulP (pN 2) (pBin addP (pBin addP (pN 3) (pC (.int 1))) (pBin mulP (pC (.int 2)) (pN 4)))) (pN 3)) (pC (.int 2))) (pBin mulP (pC (.int 2)) (pN 5)))))))
-- slots: 0 size, 1 standings, 2 length
def b_worst_excess (sp_excess : PSp) (sp_greatest_count : PSp) : PTS :=
  (pRet (pCall sp_excess (paCons (pN 0) (paCons (pN 1) (paCons (pCall sp_greatest_count (paCons (pN 0) (paCons (pN 2) paNil))) paNil)))))
-- slots: 0 value
def b_law_whole : PTS :=
  (pRet (pAndV (isiP "int" (pN 0)) (pNotV (isiP "bool" (pN 0)))))
-- slots: 0 script, 1 k, 2 seed, 3 cell
def b_law_cell : PTS :=
  (pSeq (pIfS (pB (pBin ltP (pN 1) (pCall lenP (paCons (pN 0) paNil))))
    (pRet (pIx (pN 0) (pN 1)))
    pNext)
    (pSeq (pSet 2 (pC (.int 17)))
    (pSeq (pFor (piE (pN 0)) (pgN 3)
    (pSet 2 (pBin modP (pCall intP (paCons (pBin addP (pBin mulP (pN 2) (pC (.int 31))) (pBin modP (pCall intP (paCons (pN 3) paNil)) (pC (.int 1000003)))) paNil)) (pC (.int 1000003)))))
    (pRet (pBin modP (pCall intP (paCons (pBin mulP (pBin mulP (pBin addP (pN 2) (pC (.int 7))) (pBin addP (pN 1) (pC (.int 3)))) (pC (.int 69621))) paNil)) (pC (.int 2147483647)))))))
-- slots: 0 text, 1 pieces!, 2 number!, 3 rows!, 4 word, 5 letter
def b_law_cut : PTS :=
  (pSeq (pSetO 1 (pLst (paCons (pC (.str "")) paNil)))
    (pSeq (pSetO 2 (pDisp [((pC (.str "")), (pC (.int 0)))]))
    (pSeq (pSetO 3 (pLst paNil))
    (pSeq (pSet 4 (pC (.str "")))
    (pSeq (pFor (piE (pN 0)) (pgN 5)
    (pIfS (pB (pBin (inP false) (pBin addP (pN 4) (pN 5)) (pNo 2)))
    (pSet 4 (pBin addP (pN 4) (pN 5)))
    (pSeq (pApp 3 (pTup (paCons (pIx (pNo 2) (pN 4)) (paCons (pN 5) paNil))))
    (pSeq (pSetI 2 (pBin addP (pN 4) (pN 5)) (pCall lenP (paCons (pNo 1) paNil)))
    (pSeq (pApp 1 (pBin addP (pN 4) (pN 5)))
    (pSet 4 (pC (.str ""))))))))
    (pFrz 1 (pRet (pLst (paCons (pCall tupleP (paCons (pNo 3) paNil)) (paCons (pIx (pNo 2) (pN 4)) (paCons (pN 1) paNil)))))))))))
-- slots: 0 options, 1 wide, 2 top, 3 k
def b_law_width : PTS :=
  (pSeq (pSet 1 (pC (.int 0)))
    (pSeq (pSet 2 (pC (.int 1)))
    (pSeq (pFor (piR1 (pC (.int 400))) (pgN 3)
    (pSeq (pIfS (pB (pBin geP (pN 2) (pN 0)))
    pBrk
    pNext)
    (pSeq (pSet 2 (pBin mulP (pN 2) (pC (.int 2))))
    (pSet 1 (pBin addP (pN 1) (pC (.int 1)))))))
    (pRet (pN 1)))))
-- slots: 0 n
def b_law_log (sp_law_width : PSp) : PTS :=
  (pRet (pBin subP (pCall sp_law_width (paCons (pBin addP (pN 0) (pC (.int 1))) paNil)) (pC (.int 1))))
-- slots: 0 cell, 1 tops, 2 row!, 3 rest, 4 top, 5 seed, 6 k, 7 twice
def b_law_digits : PTS :=
  (pSeq (pSetO 2 (pLst paNil))
    (pSeq (pSet 3 (pCall intP (paCons (pN 0) paNil)))
    (pSeq (pIfS (pB (pBin geP (pN 3) (pBin powP (pC (.int 10)) (pC (.int 18)))))
    (pSeq (pSet 3 (pBin subP (pN 3) (pBin powP (pC (.int 10)) (pC (.int 18)))))
    (pSeq (pFor (piE (pN 1)) (pgN 4)
    (pSeq (pApp 2 (pBin modP (pCall intP (paCons (pN 3) paNil)) (pN 4)))
    (pSet 3 (pBin fdivP (pCall intP (paCons (pN 3) paNil)) (pN 4)))))
    (pFrz 2 (pRet (pN 2)))))
    pNext)
    (pSeq (pSet 5 (pBin modP (pCall intP (paCons (pN 3) paNil)) (pC (.int 2147483629))))
    (pSeq (pFor (piR1 (pCall lenP (paCons (pN 1) paNil))) (pgN 6)
    (pSeq (pSet 5 (pBin modP (pCall intP (paCons (pBin addP (pBin addP (pBin mulP (pN 5) (pC (.int 48271))) (pBin mulP (pC (.int 974711)) (pN 6))) (pC (.int 12345))) paNil)) (pC (.int 2147483647))))
    (pSeq (pSet 7 (pBin modP (pCall intP (paCons (pBin mulP (pN 5) (pBin addP (pBin fdivP (pN 5) (pC (.int 65537))) (pC (.int 3)))) paNil)) (pC (.int 2147483629))))
    (pApp 2 (pBin modP (pBin fdivP (pN 7) (pC (.int 19))) (pIx (pN 1) (pN 6)))))))
    (pFrz 2 (pRet (pN 2))))))))
-- slots: 0 states, 1 many, 2 total, 3 left, 4 here, 5 wide
def b_law_filled : PTS :=
  (pSeq (pSet 2 (pC (.int 0)))
    (pSeq (pSet 3 (pBin subP (pN 1) (pBin fdivP (pBin mulP (pN 0) (pBin subP (pN 0) (pC (.int 1)))) (pC (.int 2)))))
    (pSeq (pSet 4 (pBin mulP (pN 0) (pN 0)))
    (pSeq (pFor (piR2 (pC (.int 1)) (pC (.int 600))) (pgN 5)
    (pSeq (pIfS (pB (pBin leP (pN 3) (pC (.int 0))))
    pBrk
    pNext)
    (pSeq (pSet 4 (pBin mulP (pN 4) (pC (.int 2))))
    (pSeq (pSet 2 (pBin addP (pN 2) (pBin mulP (pN 5) (pCall minP (paCons (pN 3) (paCons (pN 4) paNil))))))
    (pSet 3 (pBin subP (pN 3) (pN 4)))))))
    (pRet (pN 2))))))
-- slots: 0 letters, 1 states, 2 many, 3 letter, 4 state
def b_law_told (sp_law_width : PSp) (sp_law_log : PSp) : PTS :=
  (pSeq (pSet 3 (pCall sp_law_width (paCons (pN 0) paNil)))
    (pSeq (pSet 4 (pCall sp_law_width (paCons (pN 1) paNil)))
    (pRet (pBin addP (pBin addP (pBin addP (pBin mulP (pN 2) (pBin addP (pBin addP (pN 3) (pC (.int 1))) (pBin mulP (pC (.int 2)) (pN 4)))) (pN 3)) (pC (.int 2))) (pBin mulP (pC (.int 2)) (pCall sp_law_log (paCons (pBin addP (pN 2) (pC (.int 1))) paNil)))))))
-- slots: 0 letters, 1 many, 2 total, 3 top, 4 wide, 5 fits
def b_law_long_block (sp_law_width : PSp) : PTS :=
  (pSeq (pSet 2 (pCall sp_law_width (paCons (pBin addP (pN 1) (pC (.int 1))) paNil)))
    (pSeq (pSet 3 (pC (.int 1)))
    (pSeq (pFor (piR1 (pC (.int 400))) (pgN 4)
    (pSeq (pSet 5 (pC (.int 0)))
    (pSeq (pIfS (pB (pBin gtP (pN 0) (pC (.int 1))))
    (pSet 5 (pBin fdivP (pCall maxP (paCons (pC (.int 0)) (paCons (pBin subP (pN 3) (pC (.int 2))) paNil))) (pBin subP (pN 0) (pC (.int 1)))))
    (pIfS (pB (pBin gtP (pN 3) (pC (.int 1))))
    (pSet 5 (pBin addP (pN 1) (pC (.int 1))))
    pNext))
    (pSeq (pIfS (pB (pBin gtP (pN 5) (pN 1)))
    pBrk
    pNext)
    (pSeq (pSet 2 (pBin subP (pBin addP (pBin addP (pN 2) (pN 1)) (pC (.int 1))) (pN 5)))
    (pSet 3 (pBin mulP (pN 3) (pC (.int 2)))))))))
    (pRet (pN 2)))))
-- slots: 0 letters, 1 states, 2 many
def b_law_gap (sp_law_long_block : PSp) (sp_law_filled : PSp) : PTS :=
  (pRet (pBin subP (pCall sp_law_long_block (paCons (pN 0) (paCons (pN 2) paNil))) (pCall sp_law_filled (paCons (pN 1) (paCons (pN 2) paNil)))))
-- slots: 0 letters, 1 most, 2 many, 3 step, 4 turn, 5 left, 6 here, 7 wide
def b_law_greatest : PTS :=
  (pSeq (pSet 2 (pC (.int 0)))
    (pSeq (pIfS (pB (pBin eqP (pN 0) (pC (.int 1))))
    (pSeq (pSet 3 (pBin powP (pC (.int 2)) (pC (.int 60))))
    (pSeq (pFor (piR1 (pC (.int 61))) (pgN 4)
    (pSeq (pIfS (pB (pBin leP (pBin fdivP (pBin mulP (pBin addP (pN 2) (pN 3)) (pBin addP (pBin addP (pN 2) (pN 3)) (pC (.int 1)))) (pC (.int 2))) (pN 1)))
    (pSet 2 (pBin addP (pN 2) (pN 3)))
    pNext)
    (pSet 3 (pBin fdivP (pN 3) (pC (.int 2))))))
    (pRet (pN 2))))
    pNext)
    (pSeq (pSet 5 (pN 1))
    (pSeq (pSet 6 (pC (.int 1)))
    (pSeq (pFor (piR2 (pC (.int 1)) (pC (.int 200))) (pgN 7)
    (pSeq (pSet 6 (pBin mulP (pN 6) (pN 0)))
    (pSeq (pIfS (pB (pBin gtP (pBin mulP (pN 6) (pN 7)) (pN 5)))
    (pRet (pBin addP (pN 2) (pBin fdivP (pN 5) (pN 7))))
    pNext)
    (pSeq (pSet 2 (pBin addP (pN 2) (pN 6)))
    (pSet 5 (pBin subP (pN 5) (pBin mulP (pN 6) (pN 7))))))))
    (pRet (pN 2)))))))
-- slots: 0 letters, 1 many, 2 total, 3 left, 4 here, 5 wide
def b_law_shortest : PTS :=
  (pSeq (pIfS (pB (pBin eqP (pN 0) (pC (.int 1))))
    (pRet (pBin fdivP (pBin mulP (pN 1) (pBin addP (pN 1) (pC (.int 1)))) (pC (.int 2))))
    pNext)
    (pSeq (pSet 2 (pC (.int 0)))
    (pSeq (pSet 3 (pN 1))
    (pSeq (pSet 4 (pC (.int 1)))
    (pSeq (pFor (piR2 (pC (.int 1)) (pC (.int 200))) (pgN 5)
    (pSeq (pSet 4 (pBin mulP (pN 4) (pN 0)))
    (pSeq (pSet 2 (pBin addP (pN 2) (pBin mulP (pN 5) (pCall minP (paCons (pN 3) (paCons (pN 4) paNil))))))
    (pSeq (pSet 3 (pBin subP (pN 3) (pCall minP (paCons (pN 3) (paCons (pN 4) paNil)))))
    (pIfS (pB (pBin eqP (pN 3) (pC (.int 0))))
    pBrk
    pNext)))))
    (pRet (pN 2)))))))
-- slots: 0 letters, 1 many
def b_law_least : PTS :=
  (pSeq (pFor (piR1 (pC (.int 402))) (pgN 1)
    (pIfS (pB (pBin geP (pBin mulP (pN 1) (pBin addP (pN 1) (pC (.int 3)))) (pBin mulP (pC (.int 2)) (pN 0))))
    (pRet (pN 1))
    pNext))
    (pRet (pC (.int 402))))
-- slots: 0 alphabet, 1 letters, 2 texts, 3 turn, 4 longer!, 5 text, 6 letter
def b_law_all_texts : PTS :=
  (pSeq (pSet 2 (pLst (paCons (pC (.str "")) paNil)))
    (pSeq (pFor (piR1 (pN 1)) (pgN 3)
    (pSeq (pSetO 4 (pLst paNil))
    (pSeq (pFor (piE (pN 2)) (pgN 5)
    (pExt 4 (pLc (piE (pN 0)) [6] (pgN 6) pYes (pBin addP (pN 5) (pN 6)))))
    (pSet 2 (pCall listP (paCons (pNo 4) paNil))))))
    (pRet (pN 2))))
-- slots: 0 parts, 1 many, 2 top, 3 number, 4 part
def b_law_big : PTS :=
  (pSeq (pSet 3 (pC (.int 0)))
    (pSeq (pFor (piE (pSl (pN 0) poNone (poSome (pN 1)))) (pgN 4)
    (pSet 3 (pBin addP (pBin mulP (pN 3) (pC (.int 100000000))) (pN 4))))
    (pRet (pBin modP (pCall intP (paCons (pN 3) paNil)) (pBin addP (pN 2) (pC (.int 1)))))))
-- slots: 0 row, 1 top, 2 turn
def b_law_asked (sp_law_big : PSp) : PTS :=
  (pSeq (pIfS (pB (pBin ltP (pIx (pN 0) (pC (.int 0))) (pC (.int 3))))
    (pRet (pBin modP (pCall intP (paCons (pIx (pN 0) (pC (.int 4))) paNil)) (pC (.int 201))))
    pNext)
    (pSeq (pIfS (pB (pBin ltP (pIx (pN 0) (pC (.int 0))) (pC (.int 5))))
    (pSeq (pSet 1 (pC (.int 1)))
    (pSeq (pFor (piR1 (pIx (pN 0) (pC (.int 1)))) (pgN 2)
    (pSet 1 (pBin mulP (pN 1) (pC (.int 2)))))
    (pRet (pCall maxP (paCons (pC (.int 0)) (paCons (pBin subP (pBin addP (pN 1) (pIx (pN 0) (pC (.int 2)))) (pC (.int 2))) paNil))))))
    pNext)
    (pRet (pCall sp_law_big (paCons (pSl (pN 0) (poSome (pC (.int 4))) (poSome (pC (.int 8)))) (paCons (pBin addP (pC (.int 1)) (pIx (pN 0) (pC (.int 3)))) (paCons (pBin powP (pC (.int 10)) (pC (.int 30))) paNil)))))))
-- slots: 0 letters, 1 states, 2 many, 3 gap, 4 told
def b_law_numbers_hold (sp_excess : PSp) (sp_told_excess : PSp) (sp_law_whole : PSp) (sp_law_gap : PSp) (sp_law_told : PSp) : PTS :=
  (pSeq (pSet 3 (pCall sp_excess (paCons (pN 0) (paCons (pN 1) (paCons (pN 2) paNil)))))
    (pSeq (pSet 4 (pCall sp_told_excess (paCons (pN 0) (paCons (pN 1) (paCons (pN 2) paNil)))))
    (pSeq (pJn (pIfS (pOr (pNot (pB (pCall sp_law_whole (paCons (pN 3) paNil)))) (pB (pBin neP (pN 3) (pCall sp_law_gap (paCons (pN 0) (paCons (pN 1) (paCons (pN 2) paNil)))))))
    (pRet (pC (.bl false)))
    pNext))
    (pSeq (pIfS (pB (pBin neP (pCallK sp_excess 0 3 (pickL [2, 1, 0]) paNil (paCons (pN 2) (paCons (pN 1) (paCons (pN 0) paNil)))) (pN 3)))
    (pRet (pC (.bl false)))
    pNext)
    (pSeq (pIfS (pB (pBin neP (pCallK sp_told_excess 0 3 (pickL [1, 0, 2]) paNil (paCons (pN 1) (paCons (pN 0) (paCons (pN 2) paNil)))) (pN 4)))
    (pRet (pC (.bl false)))
    pNext)
    (pRet (pAndV (pCall sp_law_whole (paCons (pN 4) paNil)) (pAndV (pBin eqP (pN 4) (pCall sp_law_told (paCons (pN 0) (paCons (pN 1) (paCons (pN 2) paNil))))) (pBin leP (pN 3) (pN 4))))))))))
-- slots: 0 letters, 1 states, 2 long, 3 due, 4 actual
def b_law_worst_holds (sp_worst_excess : PSp) (sp_law_whole : PSp) : PTS :=
  (pSeq (pSet 4 (pCall sp_worst_excess (paCons (pN 0) (paCons (pN 1) (paCons (pN 2) paNil)))))
    (pRet (pAndV (pCall sp_law_whole (paCons (pN 4) paNil)) (pAndV (pBin eqP (pN 4) (pN 3)) (pBin eqP (pCallK sp_worst_excess 0 3 (pickL [1, 2, 0]) paNil (paCons (pN 2) (paCons (pN 0) (paCons (pN 1) paNil)))) (pN 3))))))
-- slots: 0 letters, 1 states, 2 row, 3 short, 4 gaps, 5 pieces, 6 text, 7 many
def b_law_small_hold (sp_law_all_texts : PSp) (sp_law_gap : PSp) (sp_law_cut : PSp) (sp_law_worst_holds : PSp) (sp_law_least : PSp) (sp_law_greatest : PSp) : PTS :=
  (pSeq (pSet 3 (pBin modP (pCall intP (paCons (pIx (pN 2) (pC (.int 0))) paNil)) (pBin addP (pC (.int 1)) (pIx (pLst (paCons (pC (.int 40)) (paCons (pC (.int 7)) (paCons (pC (.int 4)) (paCons (pC (.int 3)) (paCons (pC (.int 3)) (paCons (pC (.int 2)) paNil))))))) (pBin subP (pN 0) (pC (.int 1)))))))
    (pSeq (pSetO 4 (pLc (piE (pCall sp_law_all_texts (paCons (pSl (pC (.str "abcdef")) poNone (poSome (pN 0))) (paCons (pN 3) paNil)))) [6] (pgN 6) pYes (pCall sp_law_gap (paCons (pN 0) (paCons (pN 1) (paCons (pCall lenP (paCons (pIx (pCall sp_law_cut (paCons (pN 6) paNil)) (pC (.int 0))) paNil)) paNil))))))
    (pFrz 4 (pSeq (pIfS (pNot (pB (pCall sp_law_worst_holds (paCons (pN 0) (paCons (pN 1) (paCons (pN 3) (paCons (pCall maxP (paCons (pN 4) paNil)) paNil)))))))
    (pRet (pC (.bl false)))
    pNext)
    (pSeq (pSet 5 (pLr2 (pCall sp_law_least (paCons (pIx (pN 2) (pC (.int 1))) paNil)) (pBin addP (pCall sp_law_greatest (paCons (pN 0) (paCons (pIx (pN 2) (pC (.int 1))) paNil))) (pC (.int 1)))))
    (pRet (pCall sp_law_worst_holds (paCons (pN 0) (paCons (pN 1) (paCons (pIx (pN 2) (pC (.int 1))) (paCons (pCall maxP (paCons (pLc (piE (pN 5)) [7] (pgN 7) pYes (pCall sp_law_gap (paCons (pN 0) (paCons (pN 1) (paCons (pN 7) paNil))))) paNil)) paNil)))))))))))
-- slots: 0 letters, 1 states, 2 row, 3 kind, 4 many, 5 total, 6 long, 7 near
def b_law_great_hold (sp_law_big : PSp) (sp_law_shortest : PSp) (sp_law_worst_holds : PSp) (sp_law_gap : PSp) (sp_law_greatest : PSp) : PTS :=
  (pSeq (pSet 4 (pCall sp_law_big (paCons (pSl (pN 2) poNone (poSome (pC (.int 2)))) (paCons (pBin addP (pC (.int 1)) (pBin modP (pCall intP (paCons (pN 3) paNil)) (pC (.int 2)))) (paCons (pBin powP (pC (.int 10)) (pC (.int 14))) paNil)))))
    (pSeq (pSet 5 (pCall sp_law_shortest (paCons (pN 0) (paCons (pN 4) paNil))))
    (pSeq (pSet 6 (pCall sp_law_big (paCons (pSl (pN 2) (poSome (pC (.int 2))) (poSome (pC (.int 6)))) (paCons (pBin addP (pC (.int 1)) (pBin modP (pCall intP (paCons (pN 3) paNil)) (pC (.int 4)))) (paCons (pBin powP (pC (.int 10)) (pC (.int 30))) paNil)))))
    (pSeq (pFor (piE (pLst (paCons (pBin subP (pN 5) (pC (.int 1))) (paCons (pN 5) (paCons (pBin addP (pN 5) (pC (.int 1))) (paCons (pN 6) paNil)))))) (pgN 7)
    (pIfS (pAnd (pB (pBin geP (pN 7) (pC (.int 0)))) (pNot (pB (pCall sp_law_worst_holds (paCons (pN 0) (paCons (pN 1) (paCons (pN 7) (paCons (pCall sp_law_gap (paCons (pN 0) (paCons (pN 1) (paCons (pCall sp_law_greatest (paCons (pN 0) (paCons (pN 7) paNil))) paNil)))) paNil))))))))
    (pRet (pC (.bl false)))
    pNext))
    (pRet (pC (.bl true)))))))
-- slots: 0 script, 1 row, 2 letters, 3 states, 4 many, 5 more, 6 kept, 7 far
def b_law (sp_law_digits : PSp) (sp_law_cell : PSp) (sp_law_asked : PSp) (sp_law_big : PSp) (sp_excess : PSp) (sp_told_excess : PSp) (sp_law_numbers_hold : PSp) (sp_law_small_hold : PSp) (sp_law_great_hold : PSp) : PTS :=
  (pSeq (pSet 1 (pCall sp_law_digits (paCons (pCall sp_law_cell (paCons (pN 0) (paCons (pC (.int 0)) paNil))) (paCons (pBin addP (pLst (paCons (pC (.int 6)) (paCons (pC (.int 6)) (paCons (pC (.int 3600)) (paCons (pC (.int 2)) (paCons (pC (.int 8)) (paCons (pC (.int 100)) (paCons (pC (.int 4)) (paCons (pC (.int 4)) paNil))))))))) (pBin mulP (pLst (paCons (pC (.int 100000000)) paNil)) (pC (.int 8)))) paNil))))
    (pSeq (pSet 2 (pBin addP (pC (.int 1)) (pIx (pN 1) (pC (.int 0)))))
    (pSeq (pSet 3 (pBin addP (pC (.int 1)) (pIx (pN 1) (pC (.int 2)))))
    (pSeq (pJn (pIfS (pB (pBin ltP (pIx (pN 1) (pC (.int 1))) (pC (.int 4))))
    (pSet 3 (pBin addP (pC (.int 1)) (pBin modP (pCall intP (paCons (pIx (pN 1) (pC (.int 2))) paNil)) (pC (.int 7)))))
    pNext))
    (pSeq (pSet 4 (pCall sp_law_asked (paCons (pSl (pN 1) (poSome (pC (.int 4))) (poSome (pC (.int 12)))) paNil)))
    (pSeq (pSet 5 (pBin addP (pN 4) (pC (.int 1))))
    (pSeq (pJn (pIfS (pB (pBin eqP (pIx (pN 1) (pC (.int 3))) (pC (.int 1))))
    (pSet 5 (pCall minP (paCons (pBin powP (pC (.int 10)) (pC (.int 30))) (paCons (pBin addP (pBin addP (pN 4) (pC (.int 1))) (pCall sp_law_big (paCons (pSl (pN 1) (poSome (pC (.int 12))) (poSome (pC (.int 16)))) (paCons (pBin addP (pC (.int 1)) (pIx (pN 1) (pC (.int 7)))) (paCons (pBin powP (pC (.int 10)) (pC (.int 30))) paNil))))) paNil))))
    pNext))
    (pSeq (pSet 6 (pCall reprLP (paCons (pLst (paCons (pCall sp_excess (paCons (pN 2) (paCons (pN 3) (paCons (pN 4) paNil)))) (paCons (pCall sp_told_excess (paCons (pN 2) (paCons (pN 3) (paCons (pN 4) paNil)))) paNil))) paNil)))
    (pSeq (pIfS (pNot (pB (pCall sp_law_numbers_hold (paCons (pN 2) (paCons (pN 3) (paCons (pN 4) paNil))))))
    (pRet (pC (.bl false)))
    pNext)
    (pSeq (pJn (pIfS (pChainT ltP leP (pN 4) (pN 5) (pBin powP (pC (.int 10)) (pC (.int 30))))
    (pSeq (pIfS (pNot (pB (pCall sp_law_numbers_hold (paCons (pN 2) (paCons (pN 3) (paCons (pN 5) paNil))))))
    (pRet (pC (.bl false)))
    pNext)
    (pIfS (pAnd (pB (pBin gtP (pN 2) (pC (.int 1)))) (pB (pBin leP (pCall sp_excess (paCons (pN 2) (paCons (pN 3) (paCons (pN 5) paNil)))) (pCall sp_excess (paCons (pN 2) (paCons (pN 3) (paCons (pN 4) paNil)))))))
    (pRet (pC (.bl false)))
    pNext))
    pNext))
    (pSeq (pSet 7 (pCall sp_law_digits (paCons (pCall sp_law_cell (paCons (pN 0) (paCons (pC (.int 1)) paNil))) (paCons (pBin addP (pLst (paCons (pC (.int 41)) (paCons (pC (.int 401)) (paCons (pC (.int 4)) paNil)))) (pBin mulP (pLst (paCons (pC (.int 100000000)) paNil)) (pC (.int 6)))) paNil))))
    (pSeq (pIfS (pNot (pB (pCall sp_law_small_hold (paCons (pN 2) (paCons (pN 3) (paCons (pSl (pN 7) poNone (poSome (pC (.int 2)))) paNil))))))
    (pRet (pC (.bl false)))
    pNext)
    (pSeq (pIfS (pNot (pB (pCall sp_law_great_hold (paCons (pN 2) (paCons (pN 3) (paCons (pSl (pN 7) (poSome (pC (.int 3))) (poSome (pC (.int 9)))) (paCons (pIx (pN 7) (pC (.int 2))) paNil)))))))
    (pRet (pC (.bl false)))
    pNext)
    (pRet (pBin eqP (pCall reprLP (paCons (pLst (paCons (pCall sp_excess (paCons (pN 2) (paCons (pN 3) (paCons (pN 4) paNil)))) (paCons (pCall sp_told_excess (paCons (pN 2) (paCons (pN 3) (paCons (pN 4) paNil)))) paNil))) paNil)) (pN 6))))))))))))))))
end K60
end

section
set_option linter.all false
set_option maxRecDepth 100000
set_option maxHeartbeats 4000000
set_option autoImplicit false
/-! LV: levels of rooms and the cheapest filling (plain law). -/
namespace PL
open PySem PySem.Spec PyProof.Rows L2
def S : Nat → (Nat → Int) → Int
  | 0, _ => 0
  | n + 1, f => S n f + f n
theorem S_congr {n : Nat} {f g : Nat → Int} (h : ∀ k, k < n → f k = g k) : S n f = S n g := by
  induction n with
  | zero => rfl
  | succ n ih => rw [S, S, ih fun k hk => h k (by omega), h n (by omega)]
theorem S_add (n : Nat) (f g : Nat → Int) : S n (fun k => f k + g k) = S n f + S n g := by
  induction n with
  | zero => rfl
  | succ n ih => simp only [S, ih]; omega
theorem S_zero (n : Nat) : S n (fun _ => 0) = 0 := by
  induction n with
  | zero => rfl
  | succ n ih => simp only [S, ih]; rfl
theorem S_comm (n m : Nat) (f : Nat → Nat → Int) : S n (fun k => S m (f k)) = S m (fun j => S n fun k => f k j) := by
  induction n with
  | zero => simp only [S, S_zero]
  | succ n ih => simp only [S, ih, S_add]
theorem S_le {n : Nat} {f g : Nat → Int} (h : ∀ k, k < n → f k ≤ g k) : S n f ≤ S n g := by
  induction n with
  | zero => exact Int.le_refl _
  | succ n ih =>
    have := ih fun k hk => h k (by omega)
    have := h n (by omega)
    simp only [S]; omega
theorem S_eq {n : Nat} {f g : Nat → Int} (h : ∀ k, k < n → f k ≤ g k) (e : S n f = S n g) : ∀ k, k < n → f k = g k := by
  induction n with
  | zero => intro k hk; omega
  | succ n ih =>
    have h1 := S_le fun k (hk : k < n) => h k (by omega)
    have h2 := h n (by omega)
    simp only [S] at e
    intro k hk
    by_cases hkn : k = n
    · subst hkn; omega
    · exact ih (fun k hk => h k (by omega)) (by omega) k (by omega)
theorem S_nonneg {n : Nat} {f : Nat → Int} (h : ∀ k, k < n → 0 ≤ f k) : 0 ≤ S n f := by
  have := S_le (n := n) (f := fun _ => 0) h
  rwa [S_zero] at this
theorem S_steps (J L : Nat) (u : Int) : S J (fun j => if j + 1 ≤ L then u else 0) = (min L J : Nat) * u := by
  induction J with
  | zero => simp [S]
  | succ J ih =>
    simp only [S, ih]
    by_cases h : J + 1 ≤ L
    · rw [if_pos h, show min L J = J by omega, show min L (J + 1) = J + 1 by omega]
      rw [Int.natCast_add, Int.add_mul]; simp
    · rw [if_neg h, show min L J = L by omega, show min L (J + 1) = L by omega]; omega

/-! ### any choice of uses -/
section
variable (n : Nat) (L : Nat → Nat) (u r : Nat → Int)
def above (j : Nat) : Int := S n fun k => if j ≤ L k then u k else 0
def below (j : Nat) : Int := S n fun k => if L k < j then u k else 0
theorem above_below (j : Nat) : above n L u j + below n L u j = S n u := by
  unfold above below
  rw [← S_add]
  refine S_congr fun k _ => ?_
  by_cases h : j ≤ L k
  · rw [if_pos h, if_neg (by omega)]; omega
  · rw [if_neg h, if_pos (by omega)]; omega
theorem used_eq (J : Nat) (hJ : ∀ k, k < n → L k ≤ J) : S n (fun k => (L k : Int) * u k) = S J fun j => above n L u (j + 1) := by
  unfold above
  rw [← S_comm]
  refine S_congr fun k hk => ?_
  rw [S_steps, Nat.min_eq_left (hJ k hk)]
def Tight : Prop := ∀ i k, i < n → k < n → u i < r i → 0 < u k → L k ≤ L i
theorem choice (J : Nat) (hJ : ∀ k, k < n → L k ≤ J) (h0 : ∀ k, k < n → 0 ≤ u k) (h1 : ∀ k, k < n → u k ≤ r k) :
    S J (fun j => max 0 (S n u - below n L r (j + 1))) ≤ S n (fun k => (L k : Int) * u k) ∧
    (S J (fun j => max 0 (S n u - below n L r (j + 1))) = S n (fun k => (L k : Int) * u k) ↔ Tight n L u r) := by
  rw [used_eq n L u J hJ]
  have ha : ∀ j, 0 ≤ above n L u j := fun j => S_nonneg fun k hk => by
    show 0 ≤ if j ≤ L k then u k else 0
    split
    · exact h0 k hk
    · exact Int.le_refl _
  have hb : ∀ j, below n L u j ≤ below n L r j := fun j => S_le fun k hk => by
    show (if L k < j then u k else 0) ≤ if L k < j then r k else 0
    split
    · exact h1 k hk
    · exact Int.le_refl _
  have hle : ∀ j, j < J → max 0 (S n u - below n L r (j + 1)) ≤ above n L u (j + 1) := fun j _ => by
    have := above_below n L u (j + 1)
    have := ha (j + 1)
    have := hb (j + 1)
    omega
  refine ⟨S_le hle, fun e => ?_, fun t => S_congr fun j hj => ?_⟩
  · have he := S_eq hle e
    intro i k hi hk hui huk
    by_cases hL : L k ≤ L i
    · exact hL
    · exfalso
      obtain ⟨j, hj⟩ : ∃ j, L k = j + 1 := ⟨L k - 1, by omega⟩
      have hjJ : j < J := by have := hJ k hk; omega
      have h2 := he j hjJ
      have h3 := above_below n L u (j + 1)
      have h4 : 0 < above n L u (j + 1) := by
        have h5 : ∀ m, m < n → 0 ≤ if j + 1 ≤ L m then u m else 0 := fun m hm => by
          split
          · exact h0 m hm
          · exact Int.le_refl _
        by_cases h6 : 0 < above n L u (j + 1)
        · exact h6
        · have h7 : S n (fun _ => 0) = S n fun m => if j + 1 ≤ L m then u m else 0 := by
            have := ha (j + 1)
            rw [S_zero]
            show 0 = above n L u (j + 1)
            omega
          have h8 := S_eq h5 h7 k hk
          rw [if_pos (by omega)] at h8
          omega
      have h9 : below n L u (j + 1) = below n L r (j + 1) := by omega
      have h10 := S_eq (fun m hm => (by split
                                        · exact h1 m hm
                                        · exact Int.le_refl _ : (if L m < j + 1 then u m else 0) ≤ if L m < j + 1 then r m else 0)) h9 i hi
      rw [if_pos (by omega), if_pos (by omega)] at h10
      omega
  · have h3 := above_below n L u (j + 1)
    have h4 := ha (j + 1)
    have h5 := hb (j + 1)
    by_cases h6 : above n L u (j + 1) = 0
    · omega
    · have h7 : below n L u (j + 1) = below n L r (j + 1) := by
        refine S_congr fun m hm => ?_
        by_cases hm2 : L m < j + 1
        · rw [if_pos hm2, if_pos hm2]
          by_cases hlt : u m < r m
          · exfalso
            apply h6
            unfold above
            refine (S_congr fun k hk => ?_).trans (S_zero n)
            split
            · by_cases hk2 : 0 < u k
              · have := t m k hm hk hlt hk2
                omega
              · have := h0 k hk
                omega
            · rfl
          · have := h1 m hm
            omega
        · rw [if_neg hm2, if_neg hm2]
      omega
end
/-! ### rooms that double -/
def E (J : Nat) (N h : Int) : Int := S J fun j => max 0 (N - h * (2 ^ (j + 1) - 1))
theorem p2 (j : Nat) : (2 : Int) ^ (j + 1) = 2 * 2 ^ j := by rw [Int.pow_succ, Int.mul_comm]
theorem p1 (j : Nat) : 1 ≤ (2 : Int) ^ j := ipow_pos (by decide)
theorem geo_mono {h : Int} (h0 : 0 ≤ h) {i j : Nat} (hij : i ≤ j) : h * (2 ^ i - 1) ≤ h * (2 ^ j - 1) := Int.mul_le_mul_of_nonneg_left (by have := pow2_le hij; omega) h0
theorem E_more {J : Nat} {N h : Int} (h0 : 0 ≤ h) (hN : N ≤ h * (2 ^ (J + 1) - 1)) : ∀ d, E (J + d) N h = E J N h
  | 0 => rfl
  | d + 1 => by
    have ih := E_more h0 hN d
    show E (J + d) N h + max 0 (N - h * (2 ^ (J + d + 1) - 1)) = _
    have := geo_mono h0 (show J + 1 ≤ J + d + 1 by omega)
    rw [ih]; omega
def G (N h : Int) : Int := E N.toNat N h
theorem G_eq {J : Nat} {N h : Int} (h1 : 1 ≤ h) (h0 : 0 ≤ N) (hN : N ≤ h * (2 ^ (J + 1) - 1)) : E J N h = G N h := by
  have h2 : N ≤ h * (2 ^ (N.toNat + 1) - 1) := by
    have a : N.toNat < 2 ^ N.toNat := Nat.lt_two_pow_self
    have e : ((2 : Int) ^ N.toNat) = ((2 ^ N.toNat : Nat) : Int) := by simp
    have b := p2 N.toNat
    have c : 1 * ((2 : Int) ^ (N.toNat + 1) - 1) ≤ h * (2 ^ (N.toNat + 1) - 1) := Int.mul_le_mul_of_nonneg_right h1 (by omega)
    omega
  unfold G
  by_cases hJ : J ≤ N.toNat
  · obtain ⟨d, hd⟩ := Nat.exists_eq_add_of_le hJ
    rw [hd, E_more (by omega) hN]
  · obtain ⟨d, hd⟩ := Nat.exists_eq_add_of_le (show N.toNat ≤ J by omega)
    rw [hd, E_more (by omega) h2]
theorem S_geo (h : Int) (n : Nat) : S n (fun k => h * 2 ^ k) = h * (2 ^ n - 1) := by
  induction n with
  | zero => simp [S]
  | succ n ih => rw [S, ih, p2]; grind
theorem S_cut (n j : Nat) (hj : j ≤ n) (f : Nat → Int) : S n (fun k => if k < j then f k else 0) = S j f := by
  induction n with
  | zero => have : j = 0 := by omega
            subst this; rfl
  | succ n ih =>
    rw [S]
    by_cases h : j ≤ n
    · rw [ih h, if_neg (by omega)]; omega
    · have : j = n + 1 := by omega
      subst this
      rw [if_pos (by omega), S]
      congr 1
      exact S_congr fun k hk => by rw [if_pos (by omega)]
/-- the state of the filling at level i -/
def leftAt (N h : Int) (i : Nat) : Int := max 0 (N - h * (2 ^ i - 1))
theorem left_0 {N h : Int} (h0 : 0 ≤ N) : leftAt N h 0 = N := by simp [leftAt]; omega
theorem left_s {N h : Int} (h0 : 0 ≤ h) (i : Nat) : leftAt N h (i + 1) = leftAt N h i - min (leftAt N h i) (h * 2 ^ i) := by
  have a := p1 i
  have b : 0 ≤ h * 2 ^ i := Int.mul_nonneg h0 (by omega)
  have e : h * (2 ^ (i + 1) - 1) = h * (2 ^ i - 1) + h * 2 ^ i := by rw [p2]; grind
  unfold leftAt
  rw [e]; omega
theorem E_s (N h : Int) (i : Nat) : E (i + 1) N h = E i N h + leftAt N h (i + 1) := rfl
theorem total_s (s n l l' E i : Int) : s * (n - l) + E - i * l + (l - l') * (s + i) = s * (n - l') + (E + l') - (i + 1) * l' := by grind
theorem E_done {N h : Int} {i : Nat} (h1 : 1 ≤ h) (h0 : 0 ≤ N) (hl : leftAt N h i = 0) : E i N h = G N h := by
  refine G_eq h1 h0 ?_
  have := geo_mono (show 0 ≤ h by omega) (show i ≤ i + 1 by omega)
  unfold leftAt at hl
  omega
/-! ### lists -/
def g0 (U : List Int) (k : Nat) : Int := U[k]?.getD 0
theorem S_snoc_lt (U : List Int) (x : Int) (n : Nat) (h : n ≤ U.length) : S n (g0 (U ++ [x])) = S n (g0 U) := S_congr fun k hk => by
  unfold g0
  rw [List.getElem?_append_left (by omega)]
theorem sum_S (U : List Int) : U.sum = S U.length (g0 U) := by
  have key : ∀ k, k ≤ U.length → (U.take k).sum = S k (g0 U) := by
    intro k
    induction k with
    | zero => intro _; rfl
    | succ k ih =>
      intro hk
      have e : U[k]? = some U[k] := List.getElem?_eq_getElem (by omega)
      rw [take_snoc e, List.sum_append, ih (by omega), S]
      simp [g0, e]
  have := key U.length (Nat.le_refl _)
  rwa [List.take_length] at this
theorem sum_map_S (n : Nat) (f : Nat → Int) : ((List.range n).map f).sum = S n f := by
  induction n with
  | zero => rfl
  | succ n ih => rw [List.range_succ, List.map_append, List.sum_append, ih]; simp [S]
theorem g0_mem {U : List Int} {k : Nat} (h : k < U.length) : U[k]? = some (g0 U k) := by simp [g0, h]
theorem g0_set {U : List Int} {j k : Nat} {v : Int} (h : j < U.length) : g0 (U.set j v) k = if j = k then v else g0 U k := by
  unfold g0
  rw [List.getElem?_set]
  split
  · rename_i e; subst e; first | rfl | (rw [if_pos h]; rfl)
  · rfl
theorem g0_snoc {U : List Int} {x : Int} {k : Nat} : g0 (U ++ [x]) k = if k < U.length then g0 U k else if k = U.length then x else 0 := by
  unfold g0
  split
  · rename_i h; rw [List.getElem?_append_left h]
  · rename_i h
    rw [List.getElem?_append_right (by omega)]
    split
    · rename_i e; subst e; simp
    · rw [List.getElem?_eq_none (by simp; omega)]; rfl
theorem g0_map {n k : Nat} (f : Nat → Int) (h : k < n) : g0 ((List.range n).map f) k = f k := by simp [g0, h]
/-! ### thirty-one words -/
theorem words_sum (few : Int) (h1 : 1 ≤ few) (h9 : few ≤ 9) : ∀ n : Nat, (n : Int) ≤ 31 * few → S n (fun k => (Nat.log2 (((k : Int) / few).toNat + 1) : Nat)) = E 4 n few
  | 0, _ => by
    simp [S, E]; omega
  | n + 1, h => by
    rw [S, words_sum few h1 h9 n (by omega)]
    have q0 : 0 ≤ (n : Int) / few := Int.ediv_nonneg (by omega) (by omega)
    have q1 := Int.mul_ediv_add_emod n few
    have q2 := Int.emod_nonneg n (show few ≠ 0 by omega)
    have q3 := Int.emod_lt_of_pos n (show 0 < few by omega)
    have q4 : (n : Int) / few < 31 := by
      by_cases hh : 31 ≤ (n : Int) / few
      · have := Int.mul_le_mul_of_nonneg_left hh (show 0 ≤ few by omega)
        omega
      · omega
    generalize hq : (n : Int) / few = q at *
    obtain ⟨q, rfl⟩ := Int.eq_ofNat_of_zero_le q0
    have hq : q < 31 := by omega
    have e : E 4 ((n + 1 : Nat) : Int) few - E 4 n few = (if few * 1 ≤ n then 1 else 0) + (if few * 3 ≤ n then 1 else 0) + (if few * 7 ≤ n then 1 else 0) + (if few * 15 ≤ n then 1 else 0) := by
      simp only [E, S, Int.natCast_add]
      have e1 : (2 : Int) ^ (0 + 1) - 1 = 1 := by decide
      have e2 : (2 : Int) ^ (1 + 1) - 1 = 3 := by decide
      have e3 : (2 : Int) ^ (2 + 1) - 1 = 7 := by decide
      have e4 : (2 : Int) ^ (3 + 1) - 1 = 15 := by decide
      rw [e1, e2, e3, e4]
      repeat' split
      all_goals omega
    have key : ∀ q : Nat, q < 31 → (Nat.log2 (((q : Int)).toNat + 1) : Nat) = (if 1 ≤ q then 1 else 0) + (if 3 ≤ q then 1 else 0) + (if 7 ≤ q then 1 else 0) + (if 15 ≤ q then 1 else 0) := by decide
    have hm : ∀ c : Nat, ((few * c ≤ n) ↔ c ≤ q) := by
      intro c
      constructor
      · intro hc
        by_cases hcq : c ≤ q
        · exact hcq
        · have := Int.mul_le_mul_of_nonneg_left (show ((q : Int) + 1) ≤ c by omega) (show 0 ≤ few by omega)
          rw [Int.mul_add] at this
          omega
      · intro hc
        have := Int.mul_le_mul_of_nonneg_left (show (c : Int) ≤ q by omega) (show 0 ≤ few by omega)
        omega
    have m1 := hm 1
    have m3 := hm 3
    have m7 := hm 7
    have m15 := hm 15
    have kq := key q hq
    have e' : E 4 ((n + 1 : Nat) : Int) few = E 4 n few + ((Nat.log2 (((q : Int)).toNat + 1) : Nat) : Int) := by
      rw [kq]
      simp only [show ((1 : Nat) : Int) = 1 from rfl, show ((3 : Nat) : Int) = 3 from rfl, show ((7 : Nat) : Int) = 7 from rfl, show ((15 : Nat) : Int) = 15 from rfl] at m1 m3 m7 m15
      simp only [m1, m3, m7, m15] at e
      repeat' split at e
      all_goals (repeat' split)
      all_goals omega
    rw [e']
theorem words_below (few : Int) : ∀ j, j < 4 → below 31 (fun k => Nat.log2 (k + 1)) (fun _ => few) (j + 1) = few * (2 ^ (j + 1) - 1) := by
  intro j hj
  have key : ∀ n, S n (fun k => if Nat.log2 (k + 1) < j + 1 then few else 0) = few * ((List.range n).countP fun k => decide (Nat.log2 (k + 1) < j + 1) : Nat) := by
    intro n
    induction n with
    | zero => simp [S]
    | succ n ih =>
      rw [S, ih, List.range_succ, List.countP_append]
      by_cases h : Nat.log2 (n + 1) < j + 1
      · simp [h, Int.mul_add]
      · simp [h]
  unfold below
  rw [key]
  have : ∀ j, j < 4 → (((List.range 31).countP fun k => decide (Nat.log2 (k + 1) < j + 1) : Nat) : Int) = 2 ^ (j + 1) - 1 := by decide
  rw [this j hj]
theorem E_bd {J : Nat} {N h : Int} (h0 : 0 ≤ h) (N0 : 0 ≤ N) : 0 ≤ E J N h ∧ E J N h ≤ J * N := by
  have a : S J (fun _ => N) = J * N := by
    induction J with
    | zero => simp [S]
    | succ J ih => rw [S, ih, Int.natCast_add, Int.add_mul]; simp
  refine ⟨S_nonneg fun j _ => by omega, ?_⟩
  rw [← a]
  refine S_le fun j _ => ?_
  have := p1 (j + 1)
  have : 0 ≤ h * (2 ^ (j + 1) - 1) := Int.mul_nonneg h0 (by omega)
  omega
theorem G_bd {N h : Int} (a : Nat) (N0 : 0 ≤ N) (N1 : N < 2 ^ a) (h1 : 1 ≤ h) : 0 ≤ G N h ∧ G N h ≤ a * N := by
  have e : E a N h = G N h := by
    refine G_eq h1 N0 ?_
    have := p1 a
    have := p2 a
    have : 1 * ((2 : Int) ^ (a + 1) - 1) ≤ h * (2 ^ (a + 1) - 1) := Int.mul_le_mul_of_nonneg_right h1 (by omega)
    omega
  rw [← e]
  exact E_bd (by omega) N0
theorem S_const (n : Nat) (c : Int) : S n (fun _ => c) = n * c := by
  induction n with
  | zero => simp [S]
  | succ n ih => rw [S, ih, Int.natCast_add, Int.add_mul]; simp
def wordL (k : Nat) : Nat := Nat.log2 (k + 1)
theorem wordL_le : ∀ k, k < 31 → wordL k ≤ 4 := by decide
/-- equal rooms for the thirty-one words -/
theorem choice_words {few : Int} {us : List Int} (f1 : 1 ≤ few) (hl : us.length = 31) (h0 : ∀ k, k < 31 → 0 ≤ g0 us k ∧ g0 us k ≤ few) :
    G us.sum few ≤ S 31 (fun k => (wordL k : Int) * g0 us k) ∧ (G us.sum few = S 31 (fun k => (wordL k : Int) * g0 us k) ↔ Tight 31 wordL (g0 us) fun _ => few) := by
  have hs : us.sum = S 31 (g0 us) := by rw [sum_S, hl]
  have n0 : 0 ≤ us.sum := hs ▸ S_nonneg fun k hk => (h0 k hk).1
  have n1 : us.sum ≤ 31 * few := by
    rw [hs]
    have := S_le (n := 31) (g := fun _ => few) fun k hk => (h0 k hk).2
    rwa [S_const] at this
  have e : G us.sum few = S 4 fun j => max 0 (S 31 (g0 us) - below 31 wordL (fun _ => few) (j + 1)) := by
    rw [← G_eq (J := 4) f1 n0 (by have : (2 : Int) ^ (4 + 1) - 1 = 31 := by decide
                                  rw [this]; omega), hs]
    exact S_congr fun j hj => by rw [show below 31 wordL (fun _ => few) (j + 1) = few * (2 ^ (j + 1) - 1) from words_below few j hj]
  rw [e]
  exact choice 31 wordL (g0 us) (fun _ => few) 4 wordL_le (fun k hk => (h0 k hk).1) (fun k hk => (h0 k hk).2)
/-- rooms that double -/
theorem choice_rooms {o : Int} {n : Nat} {us : List Int} (o1 : 1 ≤ o) (n1 : 1 ≤ n) (hl : us.length = n) (h0 : ∀ k, k < n → 0 ≤ g0 us k ∧ g0 us k ≤ o * 2 ^ k) :
    0 ≤ us.sum ∧ us.sum ≤ o * (2 ^ n - 1) ∧ G us.sum o ≤ S n (fun k => (k : Int) * g0 us k) ∧ (G us.sum o = S n (fun k => (k : Int) * g0 us k) ↔ Tight n id (g0 us) fun k => o * 2 ^ k) := by
  have hs : us.sum = S n (g0 us) := by rw [sum_S, hl]
  have n0 : 0 ≤ us.sum := hs ▸ S_nonneg fun k hk => (h0 k hk).1
  have n2 : us.sum ≤ o * (2 ^ n - 1) := by
    rw [hs, ← S_geo]
    exact S_le fun k hk => (h0 k hk).2
  refine ⟨n0, n2, ?_⟩
  have e : G us.sum o = S (n - 1) fun j => max 0 (S n (g0 us) - below n id (fun k => o * 2 ^ k) (j + 1)) := by
    rw [← G_eq (J := n - 1) o1 n0 (by rw [Nat.sub_add_cancel n1]; exact n2), hs]
    refine S_congr fun j hj => ?_
    have : below n id (fun k => o * 2 ^ k) (j + 1) = o * (2 ^ (j + 1) - 1) := by
      unfold below
      show S n (fun k => if k < j + 1 then o * 2 ^ k else 0) = _
      rw [S_cut n (j + 1) (by omega), S_geo]
    rw [this]
  rw [e]
  exact choice n id (g0 us) (fun k => o * 2 ^ k) (n - 1) (fun k hk => by show k ≤ n - 1; omega) (fun k hk => (h0 k hk).1) (fun k hk => (h0 k hk).2)
/-- the widest used word is no longer than the shortest with a free place -/
theorem tight_words {few gap lng : Int} {us : List Int} (g1 : gap = 5 ∨ ∃ i, i < 31 ∧ g0 us i < few ∧ gap = wordL i) (g2 : gap ≤ 5) (g3 : ∀ i, i < 31 → g0 us i < few → gap ≤ wordL i)
    (l1 : lng = 0 ∨ ∃ i, i < 31 ∧ 0 < g0 us i ∧ lng = wordL i) (l2 : 0 ≤ lng) (l3 : ∀ i, i < 31 → 0 < g0 us i → (wordL i : Int) ≤ lng) : lng ≤ gap ↔ Tight 31 wordL (g0 us) fun _ => few := by
  constructor
  · intro h i k hi hk h1 h2
    have a := g3 i hi h1
    have b := l3 k hk h2
    omega
  · intro t
    rcases g1 with rfl | ⟨i, i1, i2, rfl⟩
    · rcases l1 with rfl | ⟨k, k1, k2, rfl⟩
      · omega
      · have := wordL_le k k1; omega
    · rcases l1 with rfl | ⟨k, k1, k2, rfl⟩
      · omega
      · have := t i k i1 k1 i2 k2; omega
end PL
end

section
set_option linter.all false
set_option maxRecDepth 100000
set_option maxHeartbeats 4000000
set_option autoImplicit false
/-! LV2: levels behind silent places (plain law). -/
namespace PL
open PySem PySem.Spec PyProof.Rows L2
def sil (s : Int) : Int := s * (s - 1) / 2
def FB (s c : Int) : Int := max 0 (c - sil s) + G (max 0 (c - sil s)) (2 * s * s)
theorem S_front (J : Nat) (f : Nat → Int) : S (J + 1) f = f 0 + S J fun j => f (j + 1) := by
  induction J with
  | zero => simp [S]
  | succ J ih => rw [S, ih, S]; omega
theorem sil_bd {s : Int} (h : 1 ≤ s) : 0 ≤ s * (s - 1) ∧ 0 ≤ sil s ∧ sil s ≤ s * s ∧ 1 ≤ s * s := by
  have a : 0 ≤ s * (s - 1) := Int.mul_nonneg (by omega) (by omega)
  have b : s * (s - 1) = s * s - s := by grind
  have c : s * 1 ≤ s * s := Int.mul_le_mul_of_nonneg_left h (by omega)
  unfold sil
  omega
theorem two_sq (s : Int) : 2 * s * s = 2 * (s * s) := by grind
/-- the bound behind silent places, as one sum -/
theorem FB_sum {N sl h : Int} {m : Nat} (h1 : 1 ≤ h) (B : Nat → Int) (hB : ∀ j, j < m + 1 → B j = sl + h * (2 ^ j - 1)) (hN : N - sl ≤ h * (2 ^ (m + 1) - 1)) :
    S (m + 1) (fun j => max 0 (N - B j)) = max 0 (N - sl) + G (max 0 (N - sl)) h := by
  rw [S_front]
  have e0 : B 0 = sl := by rw [hB 0 (by omega), Int.pow_zero]; omega
  rw [e0]
  congr 1
  have z : 0 ≤ h * (2 ^ (m + 1) - 1) := Int.mul_nonneg (by omega) (by have := p1 (m + 1); omega)
  rw [← G_eq (J := m) h1 (by omega) (by omega)]
  refine S_congr fun j hj => ?_
  rw [hB (j + 1) (by omega)]
  have : 0 ≤ h * (2 ^ (j + 1) - 1) := Int.mul_nonneg (by omega) (by have := p1 (j + 1); omega)
  omega
def room2 (s : Int) (k : Nat) : Int := if k = 0 then sil s else 2 * s * s * 2 ^ (k - 1)
theorem S_room2 (s : Int) (j : Nat) : S (j + 1) (room2 s) = sil s + 2 * s * s * (2 ^ j - 1) := by
  induction j with
  | zero => simp [S, room2]
  | succ j ih => rw [S, ih, p2]; simp only [room2, Nat.add_sub_cancel]; rw [if_neg (by omega)]; grind
theorem choice_rooms2 {s : Int} {m : Nat} {us : List Int} (s1 : 1 ≤ s) (m1 : 1 ≤ m) (hl : us.length = m + 1) (h0 : ∀ k, k < m + 1 → 0 ≤ g0 us k ∧ g0 us k ≤ room2 s k) :
    0 ≤ us.sum ∧ us.sum ≤ sil s + 2 * s * s * (2 ^ m - 1) ∧ FB s us.sum ≤ S (m + 1) (fun k => (k : Int) * g0 us k) ∧ (FB s us.sum = S (m + 1) (fun k => (k : Int) * g0 us k) ↔ Tight (m + 1) id (g0 us) (room2 s)) := by
  have hs : us.sum = S (m + 1) (g0 us) := by rw [sum_S, hl]
  have n0 : 0 ≤ us.sum := hs ▸ S_nonneg fun k hk => (h0 k hk).1
  have n2 : us.sum ≤ sil s + 2 * s * s * (2 ^ m - 1) := by
    rw [hs, ← S_room2]
    exact S_le fun k hk => (h0 k hk).2
  have hp : 1 ≤ 2 * s * s := by have := sil_bd s1; rw [two_sq]; omega
  refine ⟨n0, n2, ?_⟩
  obtain ⟨i, rfl⟩ : ∃ i, m = i + 1 := ⟨m - 1, by omega⟩
  have e : FB s us.sum = S (i + 1) fun j => max 0 (S (i + 1 + 1) (g0 us) - below (i + 1 + 1) id (room2 s) (j + 1)) := by
    rw [← hs]
    refine (FB_sum (sl := sil s) hp (fun j => below (i + 1 + 1) id (room2 s) (j + 1)) (fun j hj => ?_) (by omega)).symm
    show S (i + 1 + 1) (fun k => if k < j + 1 then room2 s k else 0) = _
    rw [S_cut (i + 1 + 1) (j + 1) (by omega), S_room2]
  rw [e]
  exact choice (i + 1 + 1) id (g0 us) (room2 s) (i + 1) (fun k hk => by show k ≤ i + 1; omega) (fun k hk => (h0 k hk).1) (fun k hk => (h0 k hk).2)
/-! thirty-one words, the first with silent places -/
def roomW (s : Int) (k : Nat) : Int := if k = 0 then sil s else s * s
theorem S_delta (n : Nat) (d : Int) : S (n + 1) (fun k => if k = 0 then d else 0) = d := by
  rw [S_front, if_pos rfl, S_congr (g := fun _ => 0) fun j _ => if_neg (by omega), S_zero]; omega
theorem S_roomW (n : Nat) (s : Int) (p : Nat → Bool) (p0 : p 0 = true) : S (n + 1) (fun k => if p k = true then roomW s k else 0) = S (n + 1) (fun k => if p k = true then s * s else 0) + (sil s - s * s) := by
  rw [← S_delta n (sil s - s * s), ← S_add]
  refine S_congr fun k hk => ?_
  unfold roomW
  by_cases h : k = 0
  · subst h; rw [if_pos p0, if_pos rfl, if_pos p0, if_pos rfl]; omega
  · rw [if_neg h, if_neg h]; split <;> omega
theorem words_below2 (s : Int) (j : Nat) (hj : j < 4) : below 31 wordL (roomW s) (j + 1) = sil s + 2 * s * s * (2 ^ j - 1) := by
  have a := words_below (s * s) j hj
  have b := S_roomW 30 s (fun k => decide (wordL k < j + 1)) (decide_eq_true (show wordL 0 < j + 1 from Nat.lt_of_le_of_lt (show wordL 0 ≤ 0 by decide) (Nat.succ_pos j)))
  simp only [decide_eq_true_eq] at b
  have a' : S (30 + 1) (fun k => if wordL k < j + 1 then s * s else 0) = s * s * (2 ^ (j + 1) - 1) := a
  unfold below
  show S (30 + 1) _ = _
  rw [b, a', p2]; grind
theorem choice_words2 {s : Int} {us : List Int} (s1 : 1 ≤ s) (hl : us.length = 31) (h0 : ∀ k, k < 31 → 0 ≤ g0 us k ∧ g0 us k ≤ roomW s k) :
    0 ≤ us.sum ∧ us.sum ≤ sil s + 30 * (s * s) ∧ FB s us.sum ≤ S 31 (fun k => (wordL k : Int) * g0 us k) ∧ (FB s us.sum = S 31 (fun k => (wordL k : Int) * g0 us k) ↔ Tight 31 wordL (g0 us) (roomW s)) := by
  have hs : us.sum = S 31 (g0 us) := by rw [sum_S, hl]
  have n0 : 0 ≤ us.sum := hs ▸ S_nonneg fun k hk => (h0 k hk).1
  have n2 : us.sum ≤ sil s + 30 * (s * s) := by
    rw [hs]
    refine Int.le_trans (S_le fun k hk => (h0 k hk).2) ?_
    have := S_roomW 30 s (fun _ => true) rfl
    simp only [if_true] at this
    show S (30 + 1) (roomW s) ≤ _
    rw [this, S_const]; omega
  have hp : 1 ≤ 2 * s * s := by have := sil_bd s1; rw [two_sq]; omega
  refine ⟨n0, n2, ?_⟩
  have e : FB s us.sum = S 4 fun j => max 0 (S 31 (g0 us) - below 31 wordL (roomW s) (j + 1)) := by
    rw [← hs]
    refine (FB_sum (sl := sil s) (m := 3) hp (fun j => below 31 wordL (roomW s) (j + 1)) (fun j hj => words_below2 s j hj) ?_).symm
    have : (2 : Int) ^ (3 + 1) - 1 = 15 := by decide
    rw [this, two_sq]; omega
  rw [e]
  exact choice 31 wordL (g0 us) (roomW s) 4 wordL_le (fun k hk => (h0 k hk).1) (fun k hk => (h0 k hk).2)
theorem words_sum2 (c : Int) (h1 : 1 ≤ c) : ∀ n : Nat, (n : Int) ≤ 30 * c → S n (fun k => ((wordL (1 + ((k : Int) / c).toNat) : Nat) : Int)) = n + E 3 n (2 * c)
  | 0, _ => by
    simp [S, E]; omega
  | n + 1, h => by
    rw [S, words_sum2 c h1 n (by omega)]
    have q0 : 0 ≤ (n : Int) / c := Int.ediv_nonneg (by omega) (by omega)
    have q1 := Int.mul_ediv_add_emod n c
    have q2 := Int.emod_nonneg n (show c ≠ 0 by omega)
    have q3 := Int.emod_lt_of_pos n (show 0 < c by omega)
    have q4 : (n : Int) / c < 30 := Int.ediv_lt_of_lt_mul (by omega) (by omega)
    generalize hq : (n : Int) / c = q at *
    obtain ⟨q, rfl⟩ := Int.eq_ofNat_of_zero_le q0
    have hq : q < 30 := by omega
    have e : E 3 ((n + 1 : Nat) : Int) (2 * c) - E 3 n (2 * c) = (if c * 2 ≤ n then 1 else 0) + (if c * 6 ≤ n then 1 else 0) + (if c * 14 ≤ n then 1 else 0) := by
      simp only [E, S, Int.natCast_add]
      have e1 : (2 : Int) ^ (0 + 1) - 1 = 1 := by decide
      have e2 : (2 : Int) ^ (1 + 1) - 1 = 3 := by decide
      have e3 : (2 : Int) ^ (2 + 1) - 1 = 7 := by decide
      rw [e1, e2, e3]
      repeat' split
      all_goals omega
    have key : ∀ q : Nat, q < 30 → ((wordL (1 + ((q : Int)).toNat) : Nat) : Int) = 1 + (if 2 ≤ q then 1 else 0) + (if 6 ≤ q then 1 else 0) + (if 14 ≤ q then 1 else 0) := by decide
    have hm : ∀ d : Nat, ((c * d ≤ n) ↔ d ≤ q) := by
      intro d
      constructor
      · intro hc
        by_cases hcq : d ≤ q
        · exact hcq
        · have := Int.mul_le_mul_of_nonneg_left (show ((q : Int) + 1) ≤ d by omega) (show 0 ≤ c by omega)
          rw [Int.mul_add] at this
          omega
      · intro hc
        have := Int.mul_le_mul_of_nonneg_left (show (d : Int) ≤ q by omega) (show 0 ≤ c by omega)
        omega
    have m2 := hm 2
    have m6 := hm 6
    have m14 := hm 14
    have kq := key q hq
    have e' : ((n + 1 : Nat) : Int) + E 3 ((n + 1 : Nat) : Int) (2 * c) = n + E 3 n (2 * c) + ((wordL (1 + ((q : Int)).toNat) : Nat) : Int) := by
      rw [kq]
      simp only [show ((2 : Nat) : Int) = 2 from rfl, show ((6 : Nat) : Int) = 6 from rfl, show ((14 : Nat) : Int) = 14 from rfl] at m2 m6 m14
      simp only [m2, m6, m14] at e
      repeat' split at e
      all_goals (repeat' split)
      all_goals omega
    rw [e']
theorem words_FB {s : Int} (s1 : 1 ≤ s) {N : Int} (hN : N ≤ sil s + 30 * (s * s)) : S (max 0 (N - sil s)).toNat (fun k => ((wordL (1 + ((k : Int) / (s * s)).toNat) : Nat) : Int)) = FB s N := by
  have h := sil_bd s1
  obtain ⟨l, hl⟩ := Int.eq_ofNat_of_zero_le (show 0 ≤ max 0 (N - sil s) by omega)
  unfold FB
  rw [hl, two_sq, ← G_eq (J := 3) (by omega) (by omega) (by have : (2 : Int) ^ (3 + 1) - 1 = 15 := by decide
                                                            rw [this]; omega)]
  exact words_sum2 (s * s) h.2.2.2 l (by omega)
theorem tight_words2 {gap lng : Int} {us : List Int} {r : Nat → Int} (g1 : gap = 5 ∨ ∃ i, i < 31 ∧ g0 us i < r i ∧ gap = wordL i) (g2 : gap ≤ 5) (g3 : ∀ i, i < 31 → g0 us i < r i → gap ≤ wordL i)
    (l1 : lng = 0 ∨ ∃ i, i < 31 ∧ 0 < g0 us i ∧ lng = wordL i) (l2 : 0 ≤ lng) (l3 : ∀ i, i < 31 → 0 < g0 us i → (wordL i : Int) ≤ lng) : lng ≤ gap ↔ Tight 31 wordL (g0 us) r := by
  constructor
  · intro h i k hi hk h1 h2
    have a := g3 i hi h1
    have b := l3 k hk h2
    omega
  · intro t
    rcases g1 with rfl | ⟨i, i1, i2, rfl⟩
    · rcases l1 with rfl | ⟨k, k1, k2, rfl⟩
      · omega
      · have := wordL_le k k1; omega
    · rcases l1 with rfl | ⟨k, k1, k2, rfl⟩
      · omega
      · have := t i k i1 k1 i2 k2; omega
end PL
end

section
set_option autoImplicit false
set_option linter.all false
/-! WC: the letters of the shortest texts (k06): the i-th text in order has ln b i letters, n of them have tot b n together. -/
namespace WC
/-- how many texts have 1 to w letters -/
def cum (b : Nat) : Nat → Nat
  | 0 => 0
  | w + 1 => cum b w + b ^ (w + 1)
theorem cum_lt {b : Nat} (hb : 1 ≤ b) (w : Nat) : cum b w < cum b (w + 1) := by
  have : 0 < b ^ (w + 1) := Nat.pow_pos hb
  show cum b w < cum b w + b ^ (w + 1)
  omega
theorem cum_mono {b : Nat} (hb : 1 ≤ b) {v w : Nat} (h : v ≤ w) : cum b v ≤ cum b w := by
  induction w with
  | zero => have : v = 0 := by omega
            subst this; exact Nat.le_refl _
  | succ w ih =>
    by_cases e : v = w + 1
    · subst e; exact Nat.le_refl _
    · exact Nat.le_trans (ih (by omega)) (Nat.le_of_lt (cum_lt hb w))
theorem le_cum {b : Nat} (hb : 1 ≤ b) (w : Nat) : w ≤ cum b w := by
  induction w with
  | zero => exact Nat.le_refl _
  | succ w ih => have := cum_lt hb w; omega
theorem cum_step (b w : Nat) : cum b (w + 1) = b * (1 + cum b w) := by
  induction w with
  | zero => show 0 + b ^ 1 = b * (1 + 0); rw [Nat.pow_one]; omega
  | succ w ih =>
    show cum b (w + 1) + b ^ (w + 2) = b * (1 + (cum b w + b ^ (w + 1)))
    rw [ih, Nat.pow_succ b (w + 1), Nat.mul_comm (b ^ (w + 1)) b]
    simp only [Nat.mul_add]
    omega
theorem pow_le_cum (b w : Nat) (h : 1 ≤ w) : b ^ w ≤ cum b w := by
  obtain ⟨v, rfl⟩ : ∃ v, w = v + 1 := ⟨w - 1, by omega⟩
  show b ^ (v + 1) ≤ cum b v + b ^ (v + 1)
  omega
/-- the least w with k <= cum b w -/
def Ln (b k w : Nat) : Prop := k ≤ cum b w ∧ ∀ v, v < w → cum b v < k
theorem Ln.uniq {b k v w : Nat} (h1 : Ln b k v) (h2 : Ln b k w) : v = w := by
  by_cases a : v < w
  · have := h2.2 v a; have := h1.1; omega
  · by_cases c : w < v
    · have := h1.2 w c; have := h2.1; omega
    · omega
def lnF (b k : Nat) : Nat → Nat → Nat
  | 0, w => w
  | f + 1, w => if k ≤ cum b w then w else lnF b k f (w + 1)
theorem lnF_ok {b k : Nat} : ∀ f w, (∀ v, v < w → cum b v < k) → k ≤ cum b (w + f) → Ln b k (lnF b k f w)
  | 0, w, h1, h2 => ⟨h2, h1⟩
  | f + 1, w, h1, h2 => by
    unfold lnF
    split
    · rename_i h; exact ⟨h, h1⟩
    · rename_i h
      refine lnF_ok f (w + 1) (fun v hv => ?_) (by rw [show w + 1 + f = w + (f + 1) by omega]; exact h2)
      by_cases e : v = w
      · subst e; omega
      · exact h1 v (by omega)
def ln (b k : Nat) : Nat := lnF b k k 0
theorem ln_ok {b : Nat} (hb : 1 ≤ b) (k : Nat) : Ln b k (ln b k) := lnF_ok k 0 (fun v hv => by omega) (by rw [Nat.zero_add]; exact le_cum hb k)
theorem ln_eq {b k w : Nat} (hb : 1 ≤ b) (h : Ln b k w) : ln b k = w := (ln_ok hb k).uniq h
theorem ln_at {b k w : Nat} (hb : 1 ≤ b) (h1 : cum b w < k) (h2 : k ≤ cum b (w + 1)) : ln b k = w + 1 :=
  ln_eq hb ⟨h2, fun v hv => Nat.lt_of_le_of_lt (cum_mono hb (show v ≤ w by omega)) h1⟩
theorem ln_zero {b : Nat} (hb : 1 ≤ b) : ln b 0 = 0 := ln_eq hb ⟨Nat.zero_le _, fun v hv => by omega⟩
theorem ln_pos {b k : Nat} (hb : 1 ≤ b) (hk : 1 ≤ k) : 1 ≤ ln b k := by
  by_cases h : ln b k = 0
  · have := (ln_ok hb k).1
    rw [h] at this
    have : cum b 0 = 0 := rfl
    omega
  · omega
theorem ln_ge {b k w : Nat} (hb : 1 ≤ b) (h : cum b w < k) : w + 1 ≤ ln b k := by
  by_cases c : w < ln b k
  · exact c
  · have := (ln_ok hb k).1
    have := cum_mono hb (show ln b k ≤ w by omega)
    omega
theorem ln_child {b : Nat} (hb : 1 ≤ b) (a j : Nat) (hj : j < b) : ln b (b * a + 1 + j) = ln b a + 1 := by
  obtain ⟨h1, h2⟩ := ln_ok hb a
  refine ln_eq hb ⟨?_, fun v hv => ?_⟩
  · rw [cum_step]
    have := Nat.mul_le_mul_left b h1
    rw [Nat.mul_add]
    omega
  · cases v with
    | zero => show 0 < _; omega
    | succ v =>
      rw [cum_step, Nat.mul_add]
      have h3 := h2 v (by omega)
      have := Nat.mul_le_mul_left b (show cum b v + 1 ≤ a from h3)
      rw [Nat.mul_add] at this
      omega
theorem cum_one (w : Nat) : cum 1 w = w := by
  induction w with
  | zero => rfl
  | succ w ih => show cum 1 w + 1 ^ (w + 1) = w + 1; rw [ih, Nat.one_pow]
theorem ln_one (k : Nat) : ln 1 k = k := ln_eq (Nat.le_refl _) ⟨by rw [cum_one]; exact Nat.le_refl _, fun v hv => by rw [cum_one]; exact hv⟩
theorem cum_base {b : Nat} (hb : 1 ≤ b) (w : Nat) : w ≤ cum b w := le_cum hb w
theorem ln_le {b : Nat} (hb : 1 ≤ b) (k : Nat) : ln b k ≤ k := by
  by_cases h : ln b k ≤ k
  · exact h
  · have := (ln_ok hb k).2 k (by omega)
    have := le_cum hb k
    omega
/-- the letters of the first n texts -/
def tot (b : Nat) : Nat → Nat
  | 0 => 0
  | n + 1 => tot b n + ln b (n + 1)
theorem tot_lt {b : Nat} (hb : 1 ≤ b) (n : Nat) : tot b n < tot b (n + 1) := by
  have := ln_pos hb (show 1 ≤ n + 1 by omega)
  show tot b n < tot b n + ln b (n + 1)
  omega
theorem tot_mono {b : Nat} (hb : 1 ≤ b) {m n : Nat} (h : m ≤ n) : tot b m ≤ tot b n := by
  induction n with
  | zero => have : m = 0 := by omega
            subst this; exact Nat.le_refl _
  | succ n ih =>
    by_cases e : m = n + 1
    · subst e; exact Nat.le_refl _
    · exact Nat.le_trans (ih (by omega)) (Nat.le_of_lt (tot_lt hb n))
theorem le_tot {b : Nat} (hb : 1 ≤ b) (n : Nat) : n ≤ tot b n := by
  induction n with
  | zero => exact Nat.le_refl _
  | succ n ih => have := tot_lt hb n; omega
/-- r more texts of w + 1 letters -/
theorem tot_more {b : Nat} (hb : 1 ≤ b) {w m : Nat} (h0 : cum b w ≤ m) : ∀ r, m + r ≤ cum b (w + 1) → tot b (m + r) = tot b m + (w + 1) * r
  | 0, _ => by simp
  | r + 1, h => by
    have ih := tot_more hb h0 r (by omega)
    show tot b (m + r) + ln b (m + r + 1) = _
    rw [ih, ln_at hb (w := w) (by omega) (by omega), Nat.mul_add]
    omega
theorem tot_one (n : Nat) : 2 * tot 1 n = n * (n + 1) := by
  induction n with
  | zero => rfl
  | succ n ih =>
    show 2 * (tot 1 n + ln 1 (n + 1)) = _
    rw [Nat.mul_add, ih, ln_one]
    simp only [Nat.mul_add, Nat.add_mul]
    omega
theorem tot_le_one {b : Nat} (hb : 1 ≤ b) (n : Nat) : tot b n ≤ tot 1 n := by
  induction n with
  | zero => exact Nat.le_refl _
  | succ n ih =>
    show tot b n + ln b (n + 1) ≤ tot 1 n + ln 1 (n + 1)
    have := ln_le hb (n + 1)
    rw [ln_one]
    omega
/-- the greatest count for a length -/
def Gs (b L n : Nat) : Prop := tot b n ≤ L ∧ L < tot b (n + 1)
theorem Gs.uniq {b L m n : Nat} (hb : 1 ≤ b) (h1 : Gs b L m) (h2 : Gs b L n) : m = n := by
  by_cases a : m < n
  · have := tot_mono hb (show m + 1 ≤ n from a); have := h1.2; have := h2.1; omega
  · by_cases c : n < m
    · have := tot_mono hb (show n + 1 ≤ m from c); have := h2.2; have := h1.1; omega
    · omega
theorem Gs.at_ {b n : Nat} (hb : 1 ≤ b) : Gs b (tot b n) n := ⟨Nat.le_refl _, tot_lt hb n⟩
theorem Gs.pred {b n : Nat} (hb : 1 ≤ b) (h : 1 ≤ tot b n) : Gs b (tot b n - 1) (n - 1) := by
  cases n with
  | zero => have : tot b 0 = 0 := rfl
            omega
  | succ n =>
    have := tot_lt hb n
    exact ⟨by show tot b n ≤ _; omega, by show _ < tot b (n + 1); omega⟩
theorem Gs.le {b L n : Nat} (hb : 1 ≤ b) (h : Gs b L n) : n ≤ L := Nat.le_trans (le_tot hb n) h.1
theorem Gs.mono {b L m n : Nat} (hb : 1 ≤ b) (h1 : Gs 1 L m) (h : Gs b L n) : m ≤ n := by
  by_cases c : n < m
  · have a1 := tot_mono (Nat.le_refl 1) (show n + 1 ≤ m from c)
    have a2 := tot_le_one hb (n + 1)
    have := h1.1; have := h.2
    omega
  · omega
/-- the last part: as many texts of w + 1 letters as the letters left make -/
theorem Gs.of {b L w : Nat} (hb : 1 ≤ b) (h1 : tot b (cum b w) ≤ L) (h2 : L - tot b (cum b w) < b ^ (w + 1) * (w + 1)) : Gs b L (cum b w + (L - tot b (cum b w)) / (w + 1)) := by
  have hq : (L - tot b (cum b w)) / (w + 1) < b ^ (w + 1) := by
    rw [Nat.div_lt_iff_lt_mul (by omega)]; exact h2
  have hc : cum b (w + 1) = cum b w + b ^ (w + 1) := rfl
  have e1 := tot_more hb (Nat.le_refl (cum b w)) ((L - tot b (cum b w)) / (w + 1)) (by omega)
  have e2 := tot_more hb (Nat.le_refl (cum b w)) ((L - tot b (cum b w)) / (w + 1) + 1) (by omega)
  have d1 := Nat.div_mul_le_self (L - tot b (cum b w)) (w + 1)
  have d2 := Nat.lt_div_mul_add (a := L - tot b (cum b w)) (show 0 < w + 1 by omega)
  rw [Nat.mul_comm] at d1 d2
  refine ⟨?_, ?_⟩
  · rw [e1]; omega
  · rw [Nat.add_assoc, e2, Nat.mul_add]; omega
theorem bound {b L n d : Nat} (hb : 1 ≤ b) (h : Gs b L n) (hd : 1 ≤ d) : n ≤ L / d + cum b (d - 1) := by
  by_cases c : n ≤ cum b (d - 1)
  · exact Nat.le_trans c (Nat.le_add_left _ _)
  · have key : ∀ r, d * r ≤ tot b (cum b (d - 1) + r) := by
      intro r
      induction r with
      | zero => simp
      | succ r ih =>
        show _ ≤ tot b (cum b (d - 1) + r) + ln b (cum b (d - 1) + r + 1)
        have := ln_ge hb (w := d - 1) (k := cum b (d - 1) + r + 1) (by omega)
        rw [Nat.mul_add]
        omega
    have k1 := key (n - cum b (d - 1))
    rw [show cum b (d - 1) + (n - cum b (d - 1)) = n by omega] at k1
    have := h.1
    have : n - cum b (d - 1) ≤ L / d := by
      rw [Nat.le_div_iff_mul_le (by omega), Nat.mul_comm]; omega
    omega
/-- the least count is the greatest count of one letter -/
theorem least_gs {L n : Nat} (h1 : 2 * L ≤ n * (n + 3)) (h2 : n = 0 ∨ (n - 1) * (n + 2) < 2 * L) : Gs 1 L n := by
  have t1 := tot_one n
  have t2 := tot_one (n + 1)
  have e1 : n * (n + 3) = n * (n + 1) + 2 * n := by simp only [Nat.mul_add]; omega
  have e2 : (n + 1) * (n + 1 + 1) = n * (n + 1) + 2 * n + 2 := by simp only [Nat.mul_add, Nat.add_mul]; omega
  refine ⟨?_, by omega⟩
  rcases h2 with h2 | h2
  · subst h2; exact Nat.zero_le _
  · obtain ⟨m, rfl⟩ : ∃ m, n = m + 1 := by
      refine ⟨n - 1, ?_⟩
      by_cases z : n = 0
      · subst z; simp at h2 h1; omega
      · omega
    have e3 : (m + 1 - 1) * (m + 1 + 2) + 2 = (m + 1) * (m + 1 + 1) := by
      rw [Nat.add_sub_cancel]
      simp only [Nat.mul_add, Nat.add_mul]; omega
    omega
theorem list_sum (b : Nat) (hb : 1 ≤ b) : ∀ n, ((List.range (n + 1)).map (ln b)).sum = tot b n
  | 0 => by
    show ln b 0 + 0 = 0
    rw [ln_zero hb]
  | n + 1 => by
    rw [List.range_succ, List.map_append, List.sum_append, list_sum b hb n]
    show tot b n + (ln b (n + 1) + 0) = tot b n + ln b (n + 1)
    omega
theorem cum_big {b : Nat} (hb : 2 ≤ b) (w : Nat) (h : 1 ≤ w) : 2 ^ w ≤ cum b w := Nat.le_trans (Nat.pow_le_pow_left hb w) (pow_le_cum b w h)
end WC
end

section
set_option linter.all false
set_option maxRecDepth 100000
set_option maxHeartbeats 4000000
set_option autoImplicit false
/-! EX: the excess of a block over the floor (k60, plain law). -/
namespace PL
open PySem PySem.Spec PyProof.Rows L2 WC
def nar (s : Int) (j : Nat) : Int := max 0 (2 ^ j - 2) / (s - 1)
def PB (s n : Int) : Int := lw (n + 1) + if s = 1 then n + 1 else S 400 fun j => max 0 (n + 1 - nar s j)
def XS (s t n : Int) : Int := PB s n - FB t n
def TO (s t n : Int) : Int := n * (lw s + 1 + 2 * lw t) + lw s + 2 + 2 * (lw (n + 2) - 1)
theorem S_split (a b : Nat) (f : Nat → Int) : S (a + b) f = S a f + S b fun j => f (a + j) := by
  induction b with
  | zero => simp [S]
  | succ b ih =>
    show S (a + b) f + f (a + b) = _
    rw [ih]
    show _ = S a f + (S b (fun j => f (a + j)) + f (a + b))
    omega
theorem S_tail {f : Nat → Int} {i N : Nat} (hi : i ≤ N) (h : ∀ j, i ≤ j → j < N → f j = 0) : S N f = S i f := by
  rw [← S_cut N i hi f]
  refine S_congr fun k hk => ?_
  by_cases c : k < i
  · rw [if_pos c]
  · rw [if_neg c, h k (by omega) hk]
theorem lw_mono {m n : Int} (h1 : 1 ≤ m) (h : m ≤ n) : lw m ≤ lw n := by
  rw [lw_le h1]
  have := (lw_le (m := n) (w := lw n) (by omega)).mp (Nat.le_refl _)
  omega
theorem lw_at {m : Int} (h : 1 ≤ m) : m ≤ 2 ^ lw m := (lw_le h).mp (Nat.le_refl _)
theorem lw_pos {m : Int} (h : 2 ≤ m) : 1 ≤ lw m := by
  by_cases c : lw m ≤ 0
  · have := (lw_le (m := m) (w := 0) (by omega)).mp c
    rw [Int.pow_zero] at this
    omega
  · omega
theorem nar_le {s : Int} (hs : 2 ≤ s) (j : Nat) : nar s j ≤ max 0 (2 ^ j - 2) := Int.ediv_le_self _ (by omega)
theorem nar_0 (s : Int) : nar s 0 = 0 := by
  unfold nar
  rw [Int.pow_zero, show max (0 : Int) (1 - 2) = 0 by decide, Int.zero_ediv]
theorem nar_nonneg {s : Int} (hs : 2 ≤ s) (j : Nat) : 0 ≤ nar s j := Int.ediv_nonneg (by omega) (by omega)
theorem nar_mono {s : Int} (hs : 2 ≤ s) {i j : Nat} (h : i ≤ j) : nar s i ≤ nar s j := by
  refine Int.ediv_le_ediv (by omega) ?_
  have := pow2_le h
  omega
theorem nar_ge {s v : Int} {j : Nat} (hs : 2 ≤ s) (h : v * (s - 1) ≤ 2 ^ j - 2) : v ≤ nar s j := by
  unfold nar
  rw [Int.le_ediv_iff_mul_le (by omega)]
  omega
theorem nar_small {s n : Int} {i : Nat} (hs : 2 ≤ s) (h6 : s ≤ 6) (n0 : 0 ≤ n) (hn : n < 2 ^ 200) (h : nar s i < n + 1) : i < 300 := by
  by_cases c : i < 300
  · exact c
  · exfalso
    have a : n + 1 ≤ nar s 300 := by
      refine nar_ge hs ?_
      have e : (n + 1) * (s - 1) ≤ (n + 1) * 5 := Int.mul_le_mul_of_nonneg_left (by omega) (by omega)
      have e2 : (2 : Int) ^ 300 = 2 ^ 200 * 2 ^ 100 := by rw [← Int.pow_add]
      have e3 : (2 : Int) ^ 4 ≤ 2 ^ 100 := pow2_le (by decide)
      have e4 : (2 : Int) ^ 200 * 2 ^ 4 ≤ 2 ^ 200 * 2 ^ 100 := Int.mul_le_mul_of_nonneg_left e3 (by have := p1 200; omega)
      have := p1 200
      omega
    have := nar_mono hs (show 300 ≤ i by omega)
    omega
/-- the floor as one sum -/
theorem FB_S {t n : Int} {m : Nat} (ht : 1 ≤ t) (hn : n ≤ 2 ^ m) : FB t n = S (m + 1) fun j => max 0 (n - (sil t + 2 * t * t * (2 ^ j - 1))) := by
  have b := sil_bd ht
  refine (FB_sum (by rw [two_sq]; omega) (fun j => sil t + 2 * t * t * (2 ^ j - 1)) (fun j _ => rfl) ?_).symm
  have e : 1 * ((2 : Int) ^ (m + 1) - 1) ≤ 2 * t * t * (2 ^ (m + 1) - 1) := Int.mul_le_mul_of_nonneg_right (by rw [two_sq]; omega) (by have := p1 (m + 1); omega)
  have := p2 m
  have := p1 m
  omega
theorem FB_nonneg {t n : Int} (ht : 1 ≤ t) : 0 ≤ FB t n := by
  have b := sil_bd ht
  unfold FB
  have e : 0 ≤ max 0 (n - sil t) := by omega
  have a := (E_bd (J := (max 0 (n - sil t)).toNat) (N := max 0 (n - sil t)) (h := 2 * t * t) (by rw [two_sq]; omega) e).1
  show 0 ≤ _ + E _ _ _
  omega
theorem XS_lt {s t n m : Int} (hs : 2 ≤ s) (ht : 1 ≤ t) (n0 : 0 ≤ n) (hm : m ≤ 2 ^ 200) (h : n < m) : XS s t n < XS s t m := by
  have b := sil_bd ht
  have q : (2 : Int) ^ 200 ≤ 2 ^ 398 := pow2_le (by decide)
  have lm := lw_mono (show 1 ≤ n + 1 by omega) (show n + 1 ≤ m + 1 by omega)
  unfold XS PB
  rw [if_neg (by omega), if_neg (by omega), FB_S (m := 398) ht (by omega), FB_S (m := 398) ht (by omega)]
  rw [S_front 399 (fun j => max 0 (n + 1 - nar s j)), S_front 399 (fun j => max 0 (m + 1 - nar s j)), nar_0]
  have key : S 399 (fun j => max 0 (n + 1 - nar s (j + 1)) + max 0 (m - (sil t + 2 * t * t * (2 ^ j - 1)))) ≤ S 399 (fun j => max 0 (m + 1 - nar s (j + 1)) + max 0 (n - (sil t + 2 * t * t * (2 ^ j - 1)))) := by
    refine S_le fun j _ => ?_
    have a := nar_le hs (j + 1)
    have e : 1 * ((2 : Int) ^ j - 1) ≤ t * t * (2 ^ j - 1) := Int.mul_le_mul_of_nonneg_right b.2.2.2 (by have := p1 j; omega)
    have e2 : 2 * t * t * ((2 : Int) ^ j - 1) = 2 * (t * t * (2 ^ j - 1)) := by grind
    have := p2 j
    have := p1 j
    rw [e2]
    omega
  rw [S_add, S_add] at key
  have e3 : (398 : Nat) + 1 = 399 := rfl
  rw [e3]
  omega
theorem XS_le {s t n m : Int} (hs : 2 ≤ s) (ht : 1 ≤ t) (n0 : 0 ≤ n) (hm : m ≤ 2 ^ 200) (h : n ≤ m) : XS s t n ≤ XS s t m := by
  by_cases e : n = m
  · subst e; exact Int.le_refl _
  · exact Int.le_of_lt (XS_lt hs ht n0 hm (by omega))
theorem XS_told {s t n : Int} (hs : 1 ≤ s) (h6 : s ≤ 6) (ht : 1 ≤ t) (h3 : t ≤ 4096) (n0 : 0 ≤ n) (hn : n < 2 ^ 200) : XS s t n ≤ TO s t n := by
  have fb := FB_nonneg (n := n) ht
  have b := sil_bd ht
  have l1 := lw_mono (show 1 ≤ n + 1 by omega) (show n + 1 ≤ n + 2 by omega)
  have l2 := lw_pos (show 2 ≤ n + 2 by omega)
  have ls : lw s ≤ 3 := (lw_le hs).mpr (by have : (2 : Int) ^ 3 = 8 := by decide
                                           omega)
  have lt : lw t ≤ 12 := (lw_le ht).mpr (by have : (2 : Int) ^ 12 = 4096 := by decide
                                            omega)
  have as := lw_at hs
  have at_ := lw_at ht
  unfold XS PB TO
  by_cases c : s = 1
  · subst c
    rw [if_pos rfl]
    have z : (lw 1 : Nat) = 0 := by
      have := (lw_le (m := 1) (w := 0) (by decide)).mpr (by decide)
      omega
    rw [z]
    have : 0 ≤ n * (2 * (lw t : Int)) := Int.mul_nonneg n0 (by omega)
    have e : n * (((0 : Nat) : Int) + 1 + 2 * (lw t : Int)) = n + n * (2 * (lw t : Int)) := by grind
    rw [e]
    omega
  · rw [if_neg c]
    have s2 : 2 ≤ s := by omega
    obtain ⟨r, hr⟩ : ∃ r, 400 = (lw s + 1 + 2 * lw t) + (r + 1) := ⟨399 - (lw s + 1 + 2 * lw t), by omega⟩
    have r3 : 300 ≤ r := by omega
    have q : (2 : Int) ^ 200 ≤ 2 ^ r := pow2_le (by omega)
    rw [hr, S_split, S_split (lw s + 1), FB_S (m := r) ht (by omega)]
    have k1 : S (lw s + 1) (fun j => max 0 (n + 1 - nar s j)) ≤ (lw s + 1 : Nat) * (n + 1) := by
      rw [← S_const]
      refine S_le fun j _ => ?_
      have := nar_nonneg s2 j
      omega
    have k2 : S (2 * lw t) (fun j => max 0 (n + 1 - nar s (lw s + 1 + j))) ≤ (2 * lw t : Nat) * n := by
      rw [← S_const]
      refine S_le fun j _ => ?_
      have : 1 ≤ nar s (lw s + 1 + j) := by
        refine nar_ge s2 ?_
        have e : (2 : Int) ^ (lw s + 1) ≤ 2 ^ (lw s + 1 + j) := pow2_le (by omega)
        have := p2 (lw s)
        omega
      omega
    have k3 : S (r + 1) (fun j => max 0 (n + 1 - nar s (lw s + 1 + 2 * lw t + j))) ≤ S (r + 1) fun j => max 0 (n - (sil t + 2 * t * t * (2 ^ j - 1))) := by
      refine S_le fun j _ => ?_
      have : sil t + 2 * t * t * (2 ^ j - 1) + 1 ≤ nar s (lw s + 1 + 2 * lw t + j) := by
        refine nar_ge s2 ?_
        have e1 : (2 : Int) ^ (lw s + 1 + 2 * lw t + j) = 2 ^ lw s * (2 * (2 ^ lw t * 2 ^ lw t) * 2 ^ j) := by
          rw [Int.pow_add, Int.pow_add, Int.pow_succ, show 2 * lw t = lw t + lw t by omega, Int.pow_add]
          grind
        have pj := p1 j
        have pt := p1 (lw t)
        have e2 : t * t ≤ 2 ^ lw t * 2 ^ lw t := Int.mul_le_mul at_ at_ (by omega) (by omega)
        have e3 : 2 * (t * t) * 2 ^ j ≤ 2 * (2 ^ lw t * 2 ^ lw t) * 2 ^ j := Int.mul_le_mul_of_nonneg_right (by omega) (by omega)
        have e4 : 1 * (2 : Int) ^ j ≤ t * t * 2 ^ j := Int.mul_le_mul_of_nonneg_right b.2.2.2 (by omega)
        have e5 : s * (2 * (t * t) * 2 ^ j) ≤ 2 ^ lw s * (2 * (2 ^ lw t * 2 ^ lw t) * 2 ^ j) := by
          refine Int.mul_le_mul as e3 ?_ ?_
          · have : 2 * (t * t) * 2 ^ j = 2 * (t * t * 2 ^ j) := by grind
            omega
          · have := p1 (lw s); omega
        have e6 : (sil t + 2 * t * t * (2 ^ j - 1) + 1) * (s - 1) ≤ (2 * (t * t) * 2 ^ j) * (s - 1) := by
          refine Int.mul_le_mul_of_nonneg_right ?_ (by omega)
          have : 2 * t * t * ((2 : Int) ^ j - 1) = 2 * (t * t) * 2 ^ j - 2 * (t * t) := by grind
          omega
        have e7 : (2 * (t * t) * 2 ^ j) * (s - 1) = s * (2 * (t * t) * 2 ^ j) - 2 * (t * t * 2 ^ j) := by grind
        rw [e1]
        omega
      omega
    have e8 : n * (((lw s : Nat) : Int) + 1 + 2 * (lw t : Int)) = n * (lw s + 1) + n * (2 * lw t) := by grind
    have e9 : ((lw s + 1 : Nat) : Int) * (n + 1) = n * (lw s + 1) + lw s + 1 := by
      rw [Int.natCast_add]; grind
    have e10 : ((2 * lw t : Nat) : Int) * n = n * (2 * lw t) := by
      rw [Int.natCast_mul]; grind
    rw [e9] at k1
    rw [e10] at k2
    rw [e8]
    generalize S (r + 1) (fun j => max 0 (n - (sil t + 2 * t * t * (2 ^ j - 1)))) = F at *
    omega
/-! bounds -/
theorem PB_bd {s n : Int} (hs : 1 ≤ s) (n0 : 0 ≤ n) (hn : n < 2 ^ 200) : 0 ≤ PB s n ∧ PB s n < 2 ^ 300 := by
  have l : lw (n + 1) ≤ 200 := (lw_le (by omega)).mpr (by omega)
  have q : (2 : Int) ^ 210 = 2 ^ 10 * 2 ^ 200 := by rw [← Int.pow_add]
  have q2 : (2 : Int) ^ 210 ≤ 2 ^ 300 := pow2_le (by decide)
  have q3 : (2 : Int) ^ 10 = 1024 := by decide
  have q4 : (2 : Int) ^ 10 ≤ 2 ^ 200 := pow2_le (by decide)
  unfold PB
  by_cases c : s = 1
  · rw [if_pos c]; omega
  · rw [if_neg c]
    have a : 0 ≤ S 400 fun j => max 0 (n + 1 - nar s j) := S_nonneg fun j _ => by omega
    have b : (S 400 fun j => max 0 (n + 1 - nar s j)) ≤ (400 : Nat) * (n + 1) := by
      rw [← S_const]
      refine S_le fun j _ => ?_
      have := nar_nonneg (s := s) (by omega) j
      omega
    omega
theorem FB_bd {t n : Int} (ht : 1 ≤ t) (n0 : 0 ≤ n) (hn : n < 2 ^ 200) : 0 ≤ FB t n ∧ FB t n < 2 ^ 300 := by
  refine ⟨FB_nonneg ht, ?_⟩
  have b := sil_bd ht
  have q : (2 : Int) ^ 210 = 2 ^ 10 * 2 ^ 200 := by rw [← Int.pow_add]
  have q2 : (2 : Int) ^ 210 ≤ 2 ^ 300 := pow2_le (by decide)
  have q3 : (2 : Int) ^ 10 = 1024 := by decide
  rw [FB_S (m := 200) ht (by omega)]
  have k : S (200 + 1) (fun j => max 0 (n - (sil t + 2 * t * t * (2 ^ j - 1)))) ≤ (200 + 1 : Nat) * n := by
    rw [← S_const]
    refine S_le fun j _ => ?_
    have : 0 ≤ 2 * t * t * ((2 : Int) ^ j - 1) := Int.mul_nonneg (by rw [two_sq]; omega) (by have := p1 j; omega)
    omega
  omega
end PL
end

section
set_option linter.all false
set_option maxRecDepth 100000
set_option maxHeartbeats 4000000
set_option autoImplicit false
/-! CT: texts as lists of code points, the cut of a text (plain law). -/
namespace PL
open PySem PySem.Spec PyProof.Rows L2
abbrev Wd := List Nat
def T (w : Wd) : Str := ⟨w.toArray⟩
def TD (w : Wd) : D := .str (T w)
theorem T_inj {a b : Wd} (h : T a = T b) : a = b := by
  have : a.toArray = b.toArray := congrArg Str.cps h
  simpa using this
theorem T_app (a b : Wd) : T a ++ T b = T (a ++ b) := by
  show (⟨a.toArray ++ b.toArray⟩ : Str) = ⟨(a ++ b).toArray⟩
  simp
theorem T_len (a : Wd) : (T a).length = a.length := rfl
theorem signs_T (a : Wd) : signs (T a) = a.map fun c => TD [c] := rfl
theorem T_nil : T [] = "" := rfl
/-- all texts with k letters -/
def allN (al : Wd) : Nat → List Wd
  | 0 => [[]]
  | k + 1 => (allN al k).flatMap fun t => al.map fun c => t ++ [c]
theorem allN_len (al : Wd) : ∀ k, (allN al k).length = al.length ^ k
  | 0 => rfl
  | k + 1 => by
    show ((allN al k).flatMap fun t => al.map fun c => t ++ [c]).length = _
    rw [List.length_flatMap]
    have : (List.map (fun t => (al.map fun c => t ++ [c]).length) (allN al k)) = List.replicate (allN al k).length al.length := by
      rw [List.eq_replicate_iff]
      refine ⟨by simp, fun b hb => ?_⟩
      obtain ⟨t, _, rfl⟩ := List.mem_map.mp hb
      simp
    rw [this, List.sum_replicate_nat, allN_len al k, Nat.pow_succ]
theorem allN_mem {al : Wd} : ∀ {k : Nat} {t : Wd}, t ∈ allN al k → t.length = k
  | 0, t, h => by
    have : t = [] := by simpa [allN] using h
    subst this; rfl
  | k + 1, t, h => by
    obtain ⟨u, hu, ht⟩ := List.mem_flatMap.mp h
    obtain ⟨c, _, rfl⟩ := List.mem_map.mp ht
    rw [List.length_append, allN_mem hu]; rfl
/-! the numbers of the pieces -/
def nmF : Nat → List Wd → List (Key × D)
  | _, [] => []
  | i, p :: ps => (Sum.inr (T p), D.int (i : Nat)) :: nmF (i + 1) ps
def nmD (ps : List Wd) : List (Key × D) := nmF 0 ps
theorem nmF_len : ∀ (ps : List Wd) (i : Nat), (nmF i ps).length = ps.length
  | [], _ => rfl
  | p :: ps, i => congrArg (· + 1) (nmF_len ps (i + 1))
theorem lookF (w : Wd) : ∀ (ps : List Wd) (i : Nat), lookD (nmF i ps) (Sum.inr (T w) : Key) = if w ∈ ps then some (D.int ((i + ps.idxOf w : Nat) : Int)) else none
  | [], i => rfl
  | p :: ps, i => by
    unfold lookD nmF
    rw [List.find?_cons]
    by_cases h : p = w
    · subst h
      rw [show decide ((Sum.inr (T p) : Key) = Sum.inr (T p)) = true from decide_eq_true rfl]
      simp [List.idxOf_cons_self]
    · rw [show decide ((Sum.inr (T p) : Key) = Sum.inr (T w)) = false from decide_eq_false fun e => h (T_inj (Sum.inr.inj e))]
      show lookD (nmF (i + 1) ps) _ = _
      rw [lookF w ps (i + 1)]
      by_cases hm : w ∈ ps
      · have e : (p :: ps).idxOf w = ps.idxOf w + 1 := by
          rw [List.idxOf_cons]
          have : (p == w) = false := beq_eq_false_iff_ne.mpr h
          rw [this]; rfl
        rw [if_pos hm, if_pos (List.mem_cons_of_mem _ hm), e, show i + 1 + ps.idxOf w = i + (ps.idxOf w + 1) by omega]
      · have : ¬ w ∈ p :: ps := fun q => by
          rcases List.mem_cons.mp q with q | q
          · exact h q.symm
          · exact hm q
        rw [if_neg hm, if_neg this]
theorem look_nm (ps : List Wd) (w : Wd) : lookD (nmD ps) (Sum.inr (T w) : Key) = if w ∈ ps then some (D.int (ps.idxOf w : Nat)) else none := by
  unfold nmD
  rw [lookF, Nat.zero_add]
theorem nmF_snoc (w : Wd) : ∀ (ps : List Wd) (i : Nat), nmF i (ps ++ [w]) = nmF i ps ++ [(Sum.inr (T w), D.int ((i + ps.length : Nat) : Int))]
  | [], i => rfl
  | p :: ps, i => by
    show (_ :: nmF (i + 1) (ps ++ [w])) = _ :: (nmF (i + 1) ps ++ _)
    rw [nmF_snoc w ps (i + 1), List.length_cons, show i + 1 + ps.length = i + (ps.length + 1) by omega]
theorem put_nm {ps : List Wd} {w : Wd} (h : w ∉ ps) : putD (nmD ps) (Sum.inr (T w) : Key) (D.int (ps.length : Nat)) = nmD (ps ++ [w]) := by
  have a : ((nmD ps).any fun kv => decide (kv.1 = (Sum.inr (T w) : Key))) = false := by
    have e := look_nm ps w
    rw [if_neg h] at e
    unfold lookD at e
    rw [Option.map_eq_none_iff, List.find?_eq_none] at e
    rw [List.any_eq_false]
    exact e
  unfold putD
  rw [a]
  show nmD ps ++ [_] = _
  unfold nmD
  rw [nmF_snoc, Nat.zero_add]
theorem inP_nm {neg : Bool} {ps : List Wd} {w : Wd} {P : D → Prop} (h : P (.bl (decide (w ∈ ps) != neg))) : inP neg (.str (T w)) (.dk (nmD ps)) P := by
  refine ⟨_, rfl, ?_⟩
  have e : (lookD (nmD ps) (Sum.inr (T w) : Key)).isSome = decide (w ∈ ps) := by
    rw [look_nm]
    by_cases c : w ∈ ps
    · rw [if_pos c, decide_eq_true c]; rfl
    · rw [if_neg c, decide_eq_false c]; rfl
  show P (.bl ((lookD (nmD ps) (Sum.inr (T w) : Key)).isSome != neg))
  rw [e]
  exact h
theorem ixP_nm {ps : List Wd} {w : Wd} {P : D → Prop} (hm : w ∈ ps) (h : P (.int (ps.idxOf w : Nat))) : ixP (.dk (nmD ps)) (.str (T w)) P := by
  refine ⟨_, ?_, h⟩
  show some (lookD (nmD ps) (Sum.inr (T w) : Key)) = _
  rw [look_nm, if_pos hm]
theorem setP_nm {ps : List Wd} {w : Wd} {P : D → Prop} (hm : w ∉ ps) (hl : ps.length < sizeLine) (h : P (.dk (nmD (ps ++ [w])))) : setP (.dk (nmD ps)) (.str (T w)) (.int (ps.length : Nat)) P := by
  refine ⟨_, rfl, ?_, ?_⟩
  · show (nmF 0 ps).length < _
    rw [nmF_len]; exact hl
  · rw [put_nm hm]; exact h
/-! the cut -/
structure CS where
  ps : List Wd
  rows : List (Nat × Nat)
  w : Wd
def CS.ini : CS := ⟨[[]], [], []⟩
def CS.step (s : CS) (c : Nat) : CS := if s.w ++ [c] ∈ s.ps then { s with w := s.w ++ [c] } else ⟨s.ps ++ [s.w ++ [c]], s.rows ++ [(s.ps.idxOf s.w, c)], []⟩
def cutC (t : Wd) : CS := t.foldl CS.step .ini
/-- a row of a cut -/
def rowD (r : Nat × Nat) : D := .tup [.int (r.1 : Nat), TD [r.2]]
structure CS.Ok (s : CS) (k : Nat) : Prop where
  nil : [] ∈ s.ps
  w : s.w ∈ s.ps
  len : s.rows.length + 1 = s.ps.length
  le : s.ps.length ≤ k + 1
  wl : s.w.length ≤ k
theorem CS.Ok.ini : CS.Ok .ini 0 := ⟨List.mem_singleton.mpr rfl, List.mem_singleton.mpr rfl, rfl, Nat.le_refl _, Nat.le_refl _⟩
theorem CS.Ok.step {s : CS} {k : Nat} (h : s.Ok k) (c : Nat) : (s.step c).Ok (k + 1) := by
  have := h.len; have := h.le; have := h.wl
  unfold CS.step
  by_cases e : s.w ++ [c] ∈ s.ps
  · rw [if_pos e]
    exact ⟨h.nil, e, h.len, by show s.ps.length ≤ _; omega, by show (s.w ++ [c]).length ≤ _; rw [List.length_append]; exact Nat.succ_le_succ h.wl⟩
  · rw [if_neg e]
    refine ⟨List.mem_append_left _ h.nil, List.mem_append_left _ h.nil, ?_, ?_, Nat.zero_le _⟩
    · show (s.rows ++ [_]).length + 1 = (s.ps ++ [_]).length
      rw [List.length_append, List.length_append]; simp; omega
    · show (s.ps ++ [_]).length ≤ _
      rw [List.length_append]; simp; omega
theorem cutC_snoc (t : Wd) (c : Nat) : cutC (t ++ [c]) = (cutC t).step c := by
  unfold cutC
  rw [List.foldl_append]; rfl
theorem takeC {α : Type} {t : List α} {k : Nat} {c : α} (h : t[k]? = some c) : t.take (k + 1) = t.take k ++ [c] := by
  rw [List.take_add_one, h]; rfl
theorem cutC_ok (t : Wd) : (cutC t).Ok t.length := by
  have : ∀ k, k ≤ t.length → (cutC (t.take k)).Ok k := by
    intro k
    induction k with
    | zero => intro _; exact CS.Ok.ini
    | succ k ih =>
      intro hk
      obtain ⟨c, hc⟩ : ∃ c, t[k]? = some c := ⟨_, List.getElem?_eq_getElem (by omega)⟩
      rw [takeC hc, cutC_snoc]
      exact (ih (by omega)).step c
  have h := this t.length (Nat.le_refl _)
  rwa [List.take_length] at h
end PL
end

section
set_option linter.all false
set_option maxRecDepth 100000
set_option maxHeartbeats 1000000
set_option exponentiation.threshold 4000
set_option autoImplicit false
namespace K60
open PySem PySem.Spec PyProof.Rows L2 PL WC

def sp_law : PSp := fun ds P => ∃ ns : List Int, ds = [.scr (ns.map D.int)] ∧ ns.length ≤ 63 ∧ P (.bl true)
theorem law_in (ns : List Int) (h : ns.length ≤ 63) : sp_law [.scr (ns.map D.int)] (fun d => d = .bl true) := ⟨ns, rfl, h, rfl⟩
theorem len_law : ∀ ds P, sp_law ds P → ds.length = 1 := by rintro _ _ ⟨ns, rfl, _⟩; rfl
def sp_law_whole : PSp := fun ds P => ∃ n : Int, ds = [.int n] ∧ P (.bl true)
theorem len_law_whole : ∀ ds P, sp_law_whole ds P → ds.length = 1 := by rintro _ _ ⟨n, rfl, _⟩; rfl
theorem w_law_whole : ∀ ds Q, sp_law_whole ds Q → b_law_whole { nx := fun _ => Q .non, rt := Q } (startC ["value"] ds) := by
  rintro _ Q ⟨n, rfl, h⟩
  unfold b_law_whole
  (try simp only [PL.pSeq, PL.pNext, PL.pSet, PL.pSetO, PL.pRet, PL.pRetN, PL.pIfS, PL.pFor, PL.pWhile, PL.pBrk, PL.pCnt, PL.pDrop, PL.pApp, PL.pAsg, PL.pgN, PL.pFrz, PL.frz, PL.pC, PL.pN, PL.pNo, PL.pBin, PL.negP, PL.pB, PL.pAnd, PL.pOr, PL.pNot, PL.pAndV, PL.pOrV, PL.pNotV, PL.pIf, PL.paNil, PL.paCons, PL.pLst, PL.pTup, PL.pIx, PL.pSl, PL.poNone, PL.poSome, PL.pCall, PL.pCallK, PL.piR1, PL.piR2, PL.piE, PL.pBits, PL.isiP_eq, PL.pLr1, PL.pJoinR, PL.pJoin, PL.pLc_eq, PL.pYes, PL.wipeC, PL.pBor, PL.pBorT, PL.frzs, PL.pSetI, PL.pChainT, PL.isNP, PL.addP_i, PL.addP_s, PL.addP_t, PL.addP_l, PL.catP_l, PL.subP_i, PL.mulP_i, PL.mulP_l, PL.repP_l, PL.mulP_s, PL.fdivP_i, PL.modP_i, PL.powP_i, PL.ltP_i, PL.ltP_s, PL.gtP_i, PL.gtP_s, PL.leP_i, PL.leP_s, PL.geP_i, PL.geP_s, PL.eqP_int, PL.eqP_str, PL.eqP_bl, PL.eqP_lst_lst, PL.eqP_tup_tup, PL.eqP_lst_tup, PL.eqP_tup_lst, PL.neP_int, PL.neP_str, PL.neP_bl, PL.neP_lst_lst, PL.neP_tup_tup, PL.neP_lst_tup, PL.neP_tup_lst, PL.asB_b, PL.asS_s, PL.lenP_lst, PL.itP_lst, PL.ixP_lst, PL.listP_lst_, PL.tupleP_lst_, PL.sumP_lst_, PL.maxP_lst_, PL.minP_lst_, PL.lenP_tup, PL.itP_tup, PL.ixP_tup, PL.listP_tup_, PL.tupleP_tup_, PL.sumP_tup_, PL.maxP_tup_, PL.minP_tup_, PL.lenP_scr, PL.itP_scr, PL.ixP_scr, PL.listP_scr_, PL.tupleP_scr_, PL.sumP_scr_, PL.maxP_scr_, PL.minP_scr_, PL.lenP_str, PL.lenP_dk, PL.itP_str, PL.ixP_str, PL.intP_i, PL.intP_b, PL.rg1_i, PL.rg2_i, PL.lr1_i, PL.lr2_i, PL.maxP_2, PL.maxP_3, PL.minP_2, PL.minP_3, PL.slP_lst, PL.slP_tup, PL.slP_str, PL.slPL_lst, PL.pgTup_t, PL.pgTup_l, PL.pgsCons_c, PL.pgsNil_n, PL.joinRP_l, PL.reprP_i, PL.setP_i, PL.ixE_0, PL.ixE_1, PL.ixE_2, PL.ixE_3, PL.ixE_4, PL.ixE_5, PL.ixE_6, PL.ixE_7, PL.ixE_8, PL.isqrtP_i, PL.reprLP_l, PL.pMkE, PL.pErF, PL.pIsE, PL.pRevS, PL.pRetO, PL.pRetON, PL.divmodP_i, PL.pGet, PL.isi_non_int, PL.isi_non_bool, PL.isi_non_str, PL.isi_non_list, PL.isi_non_tuple, PL.isi_bl_int, PL.isi_bl_bool, PL.isi_bl_str, PL.isi_bl_list, PL.isi_bl_tuple, PL.isi_int_int, PL.isi_int_bool, PL.isi_int_str, PL.isi_int_list, PL.isi_int_tuple, PL.isi_str_int, PL.isi_str_bool, PL.isi_str_str, PL.isi_str_list, PL.isi_str_tuple, PL.isi_tup_int, PL.isi_tup_bool, PL.isi_tup_str, PL.isi_tup_list, PL.isi_tup_tuple, PL.isi_lst_int, PL.isi_lst_bool, PL.isi_lst_str, PL.isi_lst_list, PL.isi_lst_tuple, PL.pickL, List.filterMap_cons, List.filterMap_nil, true_and, decide_true, decide_false, eq_self, Int.zero_add, decide_eq_true_eq, PL.rowE, PL.rowS, PL.startC, List.length_map, List.map_cons, List.map_nil, List.length_cons, List.length_nil, List.append_nil, List.nil_append, List.cons_append, List.replicate_succ, List.replicate_zero, List.set_cons_zero, List.set_cons_succ, List.getElem?_cons_zero, List.getElem?_cons_succ, Nat.reduceAdd, Nat.reduceSub, if_true, Bool.not_true, Bool.not_false, Bool.false_eq_true, if_false])
  exact h
theorem sp_law_whole_eq {n : Int} {P : D → Prop} : sp_law_whole [.int n] P = P (.bl true) := propext ⟨fun ⟨m, e, h⟩ => h, fun h => ⟨n, rfl, h⟩⟩
def sp_law_cell : PSp := fun ds P => ∃ (ns : List Int) (k : Int), ds = [.scr (ns.map D.int), .int k] ∧ ns.length ≤ 63 ∧ 0 ≤ k ∧ k ≤ 1000000 ∧ ∀ z : Int, P (.int z)
theorem len_law_cell : ∀ ds P, sp_law_cell ds P → ds.length = 2 := by rintro _ _ ⟨ns, n, rfl, _⟩; rfl
theorem w_law_cell : ∀ ds Q, sp_law_cell ds Q → b_law_cell { nx := fun _ => Q .non, rt := Q } (startC ["script", "k", "seed", "cell"] ds) := by
  rintro _ Q ⟨ns, k, rfl, hn, h0, hk, h⟩
  unfold b_law_cell
  (try simp only [PL.pSeq, PL.pNext, PL.pSet, PL.pSetO, PL.pRet, PL.pRetN, PL.pIfS, PL.pFor, PL.pWhile, PL.pBrk, PL.pCnt, PL.pDrop, PL.pApp, PL.pAsg, PL.pgN, PL.pFrz, PL.frz, PL.pC, PL.pN, PL.pNo, PL.pBin, PL.negP, PL.pB, PL.pAnd, PL.pOr, PL.pNot, PL.pAndV, PL.pOrV, PL.pNotV, PL.pIf, PL.paNil, PL.paCons, PL.pLst, PL.pTup, PL.pIx, PL.pSl, PL.poNone, PL.poSome, PL.pCall, PL.pCallK, PL.piR1, PL.piR2, PL.piE, PL.pBits, PL.isiP_eq, PL.pLr1, PL.pJoinR, PL.pJoin, PL.pLc_eq, PL.pYes, PL.wipeC, PL.pBor, PL.pBorT, PL.frzs, PL.pSetI, PL.pChainT, PL.isNP, PL.addP_i, PL.addP_s, PL.addP_t, PL.addP_l, PL.catP_l, PL.subP_i, PL.mulP_i, PL.mulP_l, PL.repP_l, PL.mulP_s, PL.fdivP_i, PL.modP_i, PL.powP_i, PL.ltP_i, PL.ltP_s, PL.gtP_i, PL.gtP_s, PL.leP_i, PL.leP_s, PL.geP_i, PL.geP_s, PL.eqP_int, PL.eqP_str, PL.eqP_bl, PL.eqP_lst_lst, PL.eqP_tup_tup, PL.eqP_lst_tup, PL.eqP_tup_lst, PL.neP_int, PL.neP_str, PL.neP_bl, PL.neP_lst_lst, PL.neP_tup_tup, PL.neP_lst_tup, PL.neP_tup_lst, PL.asB_b, PL.asS_s, PL.lenP_lst, PL.itP_lst, PL.ixP_lst, PL.listP_lst_, PL.tupleP_lst_, PL.sumP_lst_, PL.maxP_lst_, PL.minP_lst_, PL.lenP_tup, PL.itP_tup, PL.ixP_tup, PL.listP_tup_, PL.tupleP_tup_, PL.sumP_tup_, PL.maxP_tup_, PL.minP_tup_, PL.lenP_scr, PL.itP_scr, PL.ixP_scr, PL.listP_scr_, PL.tupleP_scr_, PL.sumP_scr_, PL.maxP_scr_, PL.minP_scr_, PL.lenP_str, PL.lenP_dk, PL.itP_str, PL.ixP_str, PL.intP_i, PL.intP_b, PL.rg1_i, PL.rg2_i, PL.lr1_i, PL.lr2_i, PL.maxP_2, PL.maxP_3, PL.minP_2, PL.minP_3, PL.slP_lst, PL.slP_tup, PL.slP_str, PL.slPL_lst, PL.pgTup_t, PL.pgTup_l, PL.pgsCons_c, PL.pgsNil_n, PL.joinRP_l, PL.reprP_i, PL.setP_i, PL.ixE_0, PL.ixE_1, PL.ixE_2, PL.ixE_3, PL.ixE_4, PL.ixE_5, PL.ixE_6, PL.ixE_7, PL.ixE_8, PL.isqrtP_i, PL.reprLP_l, PL.pMkE, PL.pErF, PL.pIsE, PL.pRevS, PL.pRetO, PL.pRetON, PL.divmodP_i, PL.pGet, PL.isi_non_int, PL.isi_non_bool, PL.isi_non_str, PL.isi_non_list, PL.isi_non_tuple, PL.isi_bl_int, PL.isi_bl_bool, PL.isi_bl_str, PL.isi_bl_list, PL.isi_bl_tuple, PL.isi_int_int, PL.isi_int_bool, PL.isi_int_str, PL.isi_int_list, PL.isi_int_tuple, PL.isi_str_int, PL.isi_str_bool, PL.isi_str_str, PL.isi_str_list, PL.isi_str_tuple, PL.isi_tup_int, PL.isi_tup_bool, PL.isi_tup_str, PL.isi_tup_list, PL.isi_tup_tuple, PL.isi_lst_int, PL.isi_lst_bool, PL.isi_lst_str, PL.isi_lst_list, PL.isi_lst_tuple, PL.pickL, List.filterMap_cons, List.filterMap_nil, true_and, decide_true, decide_false, eq_self, Int.zero_add, decide_eq_true_eq, PL.rowE, PL.rowS, PL.startC, List.length_map, List.map_cons, List.map_nil, List.length_cons, List.length_nil, List.append_nil, List.nil_append, List.cons_append, List.replicate_succ, List.replicate_zero, List.set_cons_zero, List.set_cons_succ, List.getElem?_cons_zero, List.getElem?_cons_succ, Nat.reduceAdd, Nat.reduceSub, if_true, Bool.not_true, Bool.not_false, Bool.false_eq_true, if_false])
  split
  · rename_i hl
    obtain ⟨x, _, _, e⟩ := atI_mapI D.int h0 hl
    exact ⟨_, e, h _⟩
  · refine for_m (W := fun i env => ∃ (s : Int) (x : C), 0 ≤ s ∧ s < 1000003 ∧ env = [C.fz (.scr (ns.map D.int)), C.fz (.int k), C.fz (.int s), x]) ⟨17, _, by decide, by decide, rfl⟩ ?_ ?_
    · rintro i n env - ⟨s, x, s0, s1, rfl⟩
      (try simp only [PL.pSeq, PL.pNext, PL.pSet, PL.pSetO, PL.pRet, PL.pRetN, PL.pIfS, PL.pFor, PL.pWhile, PL.pBrk, PL.pCnt, PL.pDrop, PL.pApp, PL.pAsg, PL.pgN, PL.pFrz, PL.frz, PL.pC, PL.pN, PL.pNo, PL.pBin, PL.negP, PL.pB, PL.pAnd, PL.pOr, PL.pNot, PL.pAndV, PL.pOrV, PL.pNotV, PL.pIf, PL.paNil, PL.paCons, PL.pLst, PL.pTup, PL.pIx, PL.pSl, PL.poNone, PL.poSome, PL.pCall, PL.pCallK, PL.piR1, PL.piR2, PL.piE, PL.pBits, PL.isiP_eq, PL.pLr1, PL.pJoinR, PL.pJoin, PL.pLc_eq, PL.pYes, PL.wipeC, PL.pBor, PL.pBorT, PL.frzs, PL.pSetI, PL.pChainT, PL.isNP, PL.addP_i, PL.addP_s, PL.addP_t, PL.addP_l, PL.catP_l, PL.subP_i, PL.mulP_i, PL.mulP_l, PL.repP_l, PL.mulP_s, PL.fdivP_i, PL.modP_i, PL.powP_i, PL.ltP_i, PL.ltP_s, PL.gtP_i, PL.gtP_s, PL.leP_i, PL.leP_s, PL.geP_i, PL.geP_s, PL.eqP_int, PL.eqP_str, PL.eqP_bl, PL.eqP_lst_lst, PL.eqP_tup_tup, PL.eqP_lst_tup, PL.eqP_tup_lst, PL.neP_int, PL.neP_str, PL.neP_bl, PL.neP_lst_lst, PL.neP_tup_tup, PL.neP_lst_tup, PL.neP_tup_lst, PL.asB_b, PL.asS_s, PL.lenP_lst, PL.itP_lst, PL.ixP_lst, PL.listP_lst_, PL.tupleP_lst_, PL.sumP_lst_, PL.maxP_lst_, PL.minP_lst_, PL.lenP_tup, PL.itP_tup, PL.ixP_tup, PL.listP_tup_, PL.tupleP_tup_, PL.sumP_tup_, PL.maxP_tup_, PL.minP_tup_, PL.lenP_scr, PL.itP_scr, PL.ixP_scr, PL.listP_scr_, PL.tupleP_scr_, PL.sumP_scr_, PL.maxP_scr_, PL.minP_scr_, PL.lenP_str, PL.lenP_dk, PL.itP_str, PL.ixP_str, PL.intP_i, PL.intP_b, PL.rg1_i, PL.rg2_i, PL.lr1_i, PL.lr2_i, PL.maxP_2, PL.maxP_3, PL.minP_2, PL.minP_3, PL.slP_lst, PL.slP_tup, PL.slP_str, PL.slPL_lst, PL.pgTup_t, PL.pgTup_l, PL.pgsCons_c, PL.pgsNil_n, PL.joinRP_l, PL.reprP_i, PL.setP_i, PL.ixE_0, PL.ixE_1, PL.ixE_2, PL.ixE_3, PL.ixE_4, PL.ixE_5, PL.ixE_6, PL.ixE_7, PL.ixE_8, PL.isqrtP_i, PL.reprLP_l, PL.pMkE, PL.pErF, PL.pIsE, PL.pRevS, PL.pRetO, PL.pRetON, PL.divmodP_i, PL.pGet, PL.isi_non_int, PL.isi_non_bool, PL.isi_non_str, PL.isi_non_list, PL.isi_non_tuple, PL.isi_bl_int, PL.isi_bl_bool, PL.isi_bl_str, PL.isi_bl_list, PL.isi_bl_tuple, PL.isi_int_int, PL.isi_int_bool, PL.isi_int_str, PL.isi_int_list, PL.isi_int_tuple, PL.isi_str_int, PL.isi_str_bool, PL.isi_str_str, PL.isi_str_list, PL.isi_str_tuple, PL.isi_tup_int, PL.isi_tup_bool, PL.isi_tup_str, PL.isi_tup_list, PL.isi_tup_tuple, PL.isi_lst_int, PL.isi_lst_bool, PL.isi_lst_str, PL.isi_lst_list, PL.isi_lst_tuple, PL.pickL, List.filterMap_cons, List.filterMap_nil, true_and, decide_true, decide_false, eq_self, Int.zero_add, decide_eq_true_eq, PL.rowE, PL.rowS, PL.startC, List.length_map, List.map_cons, List.map_nil, List.length_cons, List.length_nil, List.append_nil, List.nil_append, List.cons_append, List.replicate_succ, List.replicate_zero, List.set_cons_zero, List.set_cons_succ, List.getElem?_cons_zero, List.getElem?_cons_succ, Nat.reduceAdd, Nat.reduceSub, if_true, Bool.not_true, Bool.not_false, Bool.false_eq_true, if_false])
      refine ⟨mulx_ok (a := 20) (b := 5) (by omega) (by decide) (by decide), by decide, by decide, _, _, ?_, ?_, rfl⟩
      · exact Int.emod_nonneg _ (by decide)
      · exact Int.emod_lt_of_pos _ (by decide)
    · rintro env ⟨s, x, s0, s1, rfl⟩
      (try simp only [PL.pSeq, PL.pNext, PL.pSet, PL.pSetO, PL.pRet, PL.pRetN, PL.pIfS, PL.pFor, PL.pWhile, PL.pBrk, PL.pCnt, PL.pDrop, PL.pApp, PL.pAsg, PL.pgN, PL.pFrz, PL.frz, PL.pC, PL.pN, PL.pNo, PL.pBin, PL.negP, PL.pB, PL.pAnd, PL.pOr, PL.pNot, PL.pAndV, PL.pOrV, PL.pNotV, PL.pIf, PL.paNil, PL.paCons, PL.pLst, PL.pTup, PL.pIx, PL.pSl, PL.poNone, PL.poSome, PL.pCall, PL.pCallK, PL.piR1, PL.piR2, PL.piE, PL.pBits, PL.isiP_eq, PL.pLr1, PL.pJoinR, PL.pJoin, PL.pLc_eq, PL.pYes, PL.wipeC, PL.pBor, PL.pBorT, PL.frzs, PL.pSetI, PL.pChainT, PL.isNP, PL.addP_i, PL.addP_s, PL.addP_t, PL.addP_l, PL.catP_l, PL.subP_i, PL.mulP_i, PL.mulP_l, PL.repP_l, PL.mulP_s, PL.fdivP_i, PL.modP_i, PL.powP_i, PL.ltP_i, PL.ltP_s, PL.gtP_i, PL.gtP_s, PL.leP_i, PL.leP_s, PL.geP_i, PL.geP_s, PL.eqP_int, PL.eqP_str, PL.eqP_bl, PL.eqP_lst_lst, PL.eqP_tup_tup, PL.eqP_lst_tup, PL.eqP_tup_lst, PL.neP_int, PL.neP_str, PL.neP_bl, PL.neP_lst_lst, PL.neP_tup_tup, PL.neP_lst_tup, PL.neP_tup_lst, PL.asB_b, PL.asS_s, PL.lenP_lst, PL.itP_lst, PL.ixP_lst, PL.listP_lst_, PL.tupleP_lst_, PL.sumP_lst_, PL.maxP_lst_, PL.minP_lst_, PL.lenP_tup, PL.itP_tup, PL.ixP_tup, PL.listP_tup_, PL.tupleP_tup_, PL.sumP_tup_, PL.maxP_tup_, PL.minP_tup_, PL.lenP_scr, PL.itP_scr, PL.ixP_scr, PL.listP_scr_, PL.tupleP_scr_, PL.sumP_scr_, PL.maxP_scr_, PL.minP_scr_, PL.lenP_str, PL.lenP_dk, PL.itP_str, PL.ixP_str, PL.intP_i, PL.intP_b, PL.rg1_i, PL.rg2_i, PL.lr1_i, PL.lr2_i, PL.maxP_2, PL.maxP_3, PL.minP_2, PL.minP_3, PL.slP_lst, PL.slP_tup, PL.slP_str, PL.slPL_lst, PL.pgTup_t, PL.pgTup_l, PL.pgsCons_c, PL.pgsNil_n, PL.joinRP_l, PL.reprP_i, PL.setP_i, PL.ixE_0, PL.ixE_1, PL.ixE_2, PL.ixE_3, PL.ixE_4, PL.ixE_5, PL.ixE_6, PL.ixE_7, PL.ixE_8, PL.isqrtP_i, PL.reprLP_l, PL.pMkE, PL.pErF, PL.pIsE, PL.pRevS, PL.pRetO, PL.pRetON, PL.divmodP_i, PL.pGet, PL.isi_non_int, PL.isi_non_bool, PL.isi_non_str, PL.isi_non_list, PL.isi_non_tuple, PL.isi_bl_int, PL.isi_bl_bool, PL.isi_bl_str, PL.isi_bl_list, PL.isi_bl_tuple, PL.isi_int_int, PL.isi_int_bool, PL.isi_int_str, PL.isi_int_list, PL.isi_int_tuple, PL.isi_str_int, PL.isi_str_bool, PL.isi_str_str, PL.isi_str_list, PL.isi_str_tuple, PL.isi_tup_int, PL.isi_tup_bool, PL.isi_tup_str, PL.isi_tup_list, PL.isi_tup_tuple, PL.isi_lst_int, PL.isi_lst_bool, PL.isi_lst_str, PL.isi_lst_list, PL.isi_lst_tuple, PL.pickL, List.filterMap_cons, List.filterMap_nil, true_and, decide_true, decide_false, eq_self, Int.zero_add, decide_eq_true_eq, PL.rowE, PL.rowS, PL.startC, List.length_map, List.map_cons, List.map_nil, List.length_cons, List.length_nil, List.append_nil, List.nil_append, List.cons_append, List.replicate_succ, List.replicate_zero, List.set_cons_zero, List.set_cons_succ, List.getElem?_cons_zero, List.getElem?_cons_succ, Nat.reduceAdd, Nat.reduceSub, if_true, Bool.not_true, Bool.not_false, Bool.false_eq_true, if_false])
      have h1 : 0 ≤ (s + 7) * (k + 3) := Int.mul_nonneg (by omega) (by omega)
      have h2 : (s + 7) * (k + 3) ≤ 1000009 * 1000003 := Int.mul_le_mul (by omega) (by omega) (by omega) (by omega)
      exact ⟨mulx_ok (a := 20) (b := 20) (by omega) (by omega) (by decide), mulx_ok (a := 41) (b := 20) (by omega) (by decide) (by decide), by decide, h _⟩
def sp_law_digits : PSp := fun ds P => ∃ (c : Int) (sizes : List Int), ds = [.int c, .lst (sizes.map D.int)] ∧ sizes.length ≤ 10000 ∧ (∀ s ∈ sizes, 0 < s ∧ s < 2 ^ 1000) ∧
  ∀ row : List Int, Digs row sizes → P (.lst (row.map D.int))
theorem len_law_digits : ∀ ds P, sp_law_digits ds P → ds.length = 2 := by rintro _ _ ⟨ns, n, rfl, _⟩; rfl
theorem w_law_digits : ∀ ds Q, sp_law_digits ds Q → b_law_digits { nx := fun _ => Q .non, rt := Q } (startC ["cell", "tops", "row", "rest", "top", "seed", "k", "twice"] ds) := by
  rintro _ Q ⟨c, sizes, rfl, hl, hs, h⟩
  unfold b_law_digits
  (try simp only [PL.pSeq, PL.pNext, PL.pSet, PL.pSetO, PL.pRet, PL.pRetN, PL.pIfS, PL.pFor, PL.pWhile, PL.pBrk, PL.pCnt, PL.pDrop, PL.pApp, PL.pAsg, PL.pgN, PL.pFrz, PL.frz, PL.pC, PL.pN, PL.pNo, PL.pBin, PL.negP, PL.pB, PL.pAnd, PL.pOr, PL.pNot, PL.pAndV, PL.pOrV, PL.pNotV, PL.pIf, PL.paNil, PL.paCons, PL.pLst, PL.pTup, PL.pIx, PL.pSl, PL.poNone, PL.poSome, PL.pCall, PL.pCallK, PL.piR1, PL.piR2, PL.piE, PL.pBits, PL.isiP_eq, PL.pLr1, PL.pJoinR, PL.pJoin, PL.pLc_eq, PL.pYes, PL.wipeC, PL.pBor, PL.pBorT, PL.frzs, PL.pSetI, PL.pChainT, PL.isNP, PL.addP_i, PL.addP_s, PL.addP_t, PL.addP_l, PL.catP_l, PL.subP_i, PL.mulP_i, PL.mulP_l, PL.repP_l, PL.mulP_s, PL.fdivP_i, PL.modP_i, PL.powP_i, PL.ltP_i, PL.ltP_s, PL.gtP_i, PL.gtP_s, PL.leP_i, PL.leP_s, PL.geP_i, PL.geP_s, PL.eqP_int, PL.eqP_str, PL.eqP_bl, PL.eqP_lst_lst, PL.eqP_tup_tup, PL.eqP_lst_tup, PL.eqP_tup_lst, PL.neP_int, PL.neP_str, PL.neP_bl, PL.neP_lst_lst, PL.neP_tup_tup, PL.neP_lst_tup, PL.neP_tup_lst, PL.asB_b, PL.asS_s, PL.lenP_lst, PL.itP_lst, PL.ixP_lst, PL.listP_lst_, PL.tupleP_lst_, PL.sumP_lst_, PL.maxP_lst_, PL.minP_lst_, PL.lenP_tup, PL.itP_tup, PL.ixP_tup, PL.listP_tup_, PL.tupleP_tup_, PL.sumP_tup_, PL.maxP_tup_, PL.minP_tup_, PL.lenP_scr, PL.itP_scr, PL.ixP_scr, PL.listP_scr_, PL.tupleP_scr_, PL.sumP_scr_, PL.maxP_scr_, PL.minP_scr_, PL.lenP_str, PL.lenP_dk, PL.itP_str, PL.ixP_str, PL.intP_i, PL.intP_b, PL.rg1_i, PL.rg2_i, PL.lr1_i, PL.lr2_i, PL.maxP_2, PL.maxP_3, PL.minP_2, PL.minP_3, PL.slP_lst, PL.slP_tup, PL.slP_str, PL.slPL_lst, PL.pgTup_t, PL.pgTup_l, PL.pgsCons_c, PL.pgsNil_n, PL.joinRP_l, PL.reprP_i, PL.setP_i, PL.ixE_0, PL.ixE_1, PL.ixE_2, PL.ixE_3, PL.ixE_4, PL.ixE_5, PL.ixE_6, PL.ixE_7, PL.ixE_8, PL.isqrtP_i, PL.reprLP_l, PL.pMkE, PL.pErF, PL.pIsE, PL.pRevS, PL.pRetO, PL.pRetON, PL.divmodP_i, PL.pGet, PL.isi_non_int, PL.isi_non_bool, PL.isi_non_str, PL.isi_non_list, PL.isi_non_tuple, PL.isi_bl_int, PL.isi_bl_bool, PL.isi_bl_str, PL.isi_bl_list, PL.isi_bl_tuple, PL.isi_int_int, PL.isi_int_bool, PL.isi_int_str, PL.isi_int_list, PL.isi_int_tuple, PL.isi_str_int, PL.isi_str_bool, PL.isi_str_str, PL.isi_str_list, PL.isi_str_tuple, PL.isi_tup_int, PL.isi_tup_bool, PL.isi_tup_str, PL.isi_tup_list, PL.isi_tup_tuple, PL.isi_lst_int, PL.isi_lst_bool, PL.isi_lst_str, PL.isi_lst_list, PL.isi_lst_tuple, PL.pickL, List.filterMap_cons, List.filterMap_nil, true_and, decide_true, decide_false, eq_self, Int.zero_add, decide_eq_true_eq, PL.rowE, PL.rowS, PL.startC, List.length_map, List.map_cons, List.map_nil, List.length_cons, List.length_nil, List.append_nil, List.nil_append, List.cons_append, List.replicate_succ, List.replicate_zero, List.set_cons_zero, List.set_cons_succ, List.getElem?_cons_zero, List.getElem?_cons_succ, Nat.reduceAdd, Nat.reduceSub, if_true, Bool.not_true, Bool.not_false, Bool.false_eq_true, if_false])
  refine ⟨by decide, cpow18, ?_⟩
  have hsz : sizeLine = 16777216 := PySem.sizeLine_eq
  split
  · refine ⟨cpow18, ?_⟩
    refine for_m (W := fun i env => ∃ (row : List Int) (r : Int) (x y z w : C), DigsK i row sizes ∧ env = [C.fz (.int c), C.fz (.lst (sizes.map D.int)), C.ow (.lst (row.map D.int)), C.fz (.int r), x, y, z, w]) ⟨[], _, _, _, _, _, DigsK.nil _, rfl⟩ ?_ ?_
    · rintro k s env hk ⟨row, r, x, y, z, w, hd, rfl⟩
      have hm := hs s (List.mem_of_getElem? hk)
      have hkl : k < sizes.length := (List.getElem?_eq_some_iff.mp hk).1
      (try simp only [PL.pSeq, PL.pNext, PL.pSet, PL.pSetO, PL.pRet, PL.pRetN, PL.pIfS, PL.pFor, PL.pWhile, PL.pBrk, PL.pCnt, PL.pDrop, PL.pApp, PL.pAsg, PL.pgN, PL.pFrz, PL.frz, PL.pC, PL.pN, PL.pNo, PL.pBin, PL.negP, PL.pB, PL.pAnd, PL.pOr, PL.pNot, PL.pAndV, PL.pOrV, PL.pNotV, PL.pIf, PL.paNil, PL.paCons, PL.pLst, PL.pTup, PL.pIx, PL.pSl, PL.poNone, PL.poSome, PL.pCall, PL.pCallK, PL.piR1, PL.piR2, PL.piE, PL.pBits, PL.isiP_eq, PL.pLr1, PL.pJoinR, PL.pJoin, PL.pLc_eq, PL.pYes, PL.wipeC, PL.pBor, PL.pBorT, PL.frzs, PL.pSetI, PL.pChainT, PL.isNP, PL.addP_i, PL.addP_s, PL.addP_t, PL.addP_l, PL.catP_l, PL.subP_i, PL.mulP_i, PL.mulP_l, PL.repP_l, PL.mulP_s, PL.fdivP_i, PL.modP_i, PL.powP_i, PL.ltP_i, PL.ltP_s, PL.gtP_i, PL.gtP_s, PL.leP_i, PL.leP_s, PL.geP_i, PL.geP_s, PL.eqP_int, PL.eqP_str, PL.eqP_bl, PL.eqP_lst_lst, PL.eqP_tup_tup, PL.eqP_lst_tup, PL.eqP_tup_lst, PL.neP_int, PL.neP_str, PL.neP_bl, PL.neP_lst_lst, PL.neP_tup_tup, PL.neP_lst_tup, PL.neP_tup_lst, PL.asB_b, PL.asS_s, PL.lenP_lst, PL.itP_lst, PL.ixP_lst, PL.listP_lst_, PL.tupleP_lst_, PL.sumP_lst_, PL.maxP_lst_, PL.minP_lst_, PL.lenP_tup, PL.itP_tup, PL.ixP_tup, PL.listP_tup_, PL.tupleP_tup_, PL.sumP_tup_, PL.maxP_tup_, PL.minP_tup_, PL.lenP_scr, PL.itP_scr, PL.ixP_scr, PL.listP_scr_, PL.tupleP_scr_, PL.sumP_scr_, PL.maxP_scr_, PL.minP_scr_, PL.lenP_str, PL.lenP_dk, PL.itP_str, PL.ixP_str, PL.intP_i, PL.intP_b, PL.rg1_i, PL.rg2_i, PL.lr1_i, PL.lr2_i, PL.maxP_2, PL.maxP_3, PL.minP_2, PL.minP_3, PL.slP_lst, PL.slP_tup, PL.slP_str, PL.slPL_lst, PL.pgTup_t, PL.pgTup_l, PL.pgsCons_c, PL.pgsNil_n, PL.joinRP_l, PL.reprP_i, PL.setP_i, PL.ixE_0, PL.ixE_1, PL.ixE_2, PL.ixE_3, PL.ixE_4, PL.ixE_5, PL.ixE_6, PL.ixE_7, PL.ixE_8, PL.isqrtP_i, PL.reprLP_l, PL.pMkE, PL.pErF, PL.pIsE, PL.pRevS, PL.pRetO, PL.pRetON, PL.divmodP_i, PL.pGet, PL.isi_non_int, PL.isi_non_bool, PL.isi_non_str, PL.isi_non_list, PL.isi_non_tuple, PL.isi_bl_int, PL.isi_bl_bool, PL.isi_bl_str, PL.isi_bl_list, PL.isi_bl_tuple, PL.isi_int_int, PL.isi_int_bool, PL.isi_int_str, PL.isi_int_list, PL.isi_int_tuple, PL.isi_str_int, PL.isi_str_bool, PL.isi_str_str, PL.isi_str_list, PL.isi_str_tuple, PL.isi_tup_int, PL.isi_tup_bool, PL.isi_tup_str, PL.isi_tup_list, PL.isi_tup_tuple, PL.isi_lst_int, PL.isi_lst_bool, PL.isi_lst_str, PL.isi_lst_list, PL.isi_lst_tuple, PL.pickL, List.filterMap_cons, List.filterMap_nil, true_and, decide_true, decide_false, eq_self, Int.zero_add, decide_eq_true_eq, PL.rowE, PL.rowS, PL.startC, List.length_map, List.map_cons, List.map_nil, List.length_cons, List.length_nil, List.append_nil, List.nil_append, List.cons_append, List.replicate_succ, List.replicate_zero, List.set_cons_zero, List.set_cons_succ, List.getElem?_cons_zero, List.getElem?_cons_succ, Nat.reduceAdd, Nat.reduceSub, if_true, Bool.not_true, Bool.not_false, Bool.false_eq_true, if_false])
      have := hd.1
      refine ⟨hm.1, by omega, cdivw 1000 hm.1 hm.2 (by decide), row ++ [r % s], _, _, _, _, _, hd.snoc hk (Int.emod_nonneg _ (by omega)) (Int.emod_lt_of_pos _ hm.1), rfl⟩
    · rintro env ⟨row, r, x, y, z, w, hd, rfl⟩
      (try simp only [PL.pSeq, PL.pNext, PL.pSet, PL.pSetO, PL.pRet, PL.pRetN, PL.pIfS, PL.pFor, PL.pWhile, PL.pBrk, PL.pCnt, PL.pDrop, PL.pApp, PL.pAsg, PL.pgN, PL.pFrz, PL.frz, PL.pC, PL.pN, PL.pNo, PL.pBin, PL.negP, PL.pB, PL.pAnd, PL.pOr, PL.pNot, PL.pAndV, PL.pOrV, PL.pNotV, PL.pIf, PL.paNil, PL.paCons, PL.pLst, PL.pTup, PL.pIx, PL.pSl, PL.poNone, PL.poSome, PL.pCall, PL.pCallK, PL.piR1, PL.piR2, PL.piE, PL.pBits, PL.isiP_eq, PL.pLr1, PL.pJoinR, PL.pJoin, PL.pLc_eq, PL.pYes, PL.wipeC, PL.pBor, PL.pBorT, PL.frzs, PL.pSetI, PL.pChainT, PL.isNP, PL.addP_i, PL.addP_s, PL.addP_t, PL.addP_l, PL.catP_l, PL.subP_i, PL.mulP_i, PL.mulP_l, PL.repP_l, PL.mulP_s, PL.fdivP_i, PL.modP_i, PL.powP_i, PL.ltP_i, PL.ltP_s, PL.gtP_i, PL.gtP_s, PL.leP_i, PL.leP_s, PL.geP_i, PL.geP_s, PL.eqP_int, PL.eqP_str, PL.eqP_bl, PL.eqP_lst_lst, PL.eqP_tup_tup, PL.eqP_lst_tup, PL.eqP_tup_lst, PL.neP_int, PL.neP_str, PL.neP_bl, PL.neP_lst_lst, PL.neP_tup_tup, PL.neP_lst_tup, PL.neP_tup_lst, PL.asB_b, PL.asS_s, PL.lenP_lst, PL.itP_lst, PL.ixP_lst, PL.listP_lst_, PL.tupleP_lst_, PL.sumP_lst_, PL.maxP_lst_, PL.minP_lst_, PL.lenP_tup, PL.itP_tup, PL.ixP_tup, PL.listP_tup_, PL.tupleP_tup_, PL.sumP_tup_, PL.maxP_tup_, PL.minP_tup_, PL.lenP_scr, PL.itP_scr, PL.ixP_scr, PL.listP_scr_, PL.tupleP_scr_, PL.sumP_scr_, PL.maxP_scr_, PL.minP_scr_, PL.lenP_str, PL.lenP_dk, PL.itP_str, PL.ixP_str, PL.intP_i, PL.intP_b, PL.rg1_i, PL.rg2_i, PL.lr1_i, PL.lr2_i, PL.maxP_2, PL.maxP_3, PL.minP_2, PL.minP_3, PL.slP_lst, PL.slP_tup, PL.slP_str, PL.slPL_lst, PL.pgTup_t, PL.pgTup_l, PL.pgsCons_c, PL.pgsNil_n, PL.joinRP_l, PL.reprP_i, PL.setP_i, PL.ixE_0, PL.ixE_1, PL.ixE_2, PL.ixE_3, PL.ixE_4, PL.ixE_5, PL.ixE_6, PL.ixE_7, PL.ixE_8, PL.isqrtP_i, PL.reprLP_l, PL.pMkE, PL.pErF, PL.pIsE, PL.pRevS, PL.pRetO, PL.pRetON, PL.divmodP_i, PL.pGet, PL.isi_non_int, PL.isi_non_bool, PL.isi_non_str, PL.isi_non_list, PL.isi_non_tuple, PL.isi_bl_int, PL.isi_bl_bool, PL.isi_bl_str, PL.isi_bl_list, PL.isi_bl_tuple, PL.isi_int_int, PL.isi_int_bool, PL.isi_int_str, PL.isi_int_list, PL.isi_int_tuple, PL.isi_str_int, PL.isi_str_bool, PL.isi_str_str, PL.isi_str_list, PL.isi_str_tuple, PL.isi_tup_int, PL.isi_tup_bool, PL.isi_tup_str, PL.isi_tup_list, PL.isi_tup_tuple, PL.isi_lst_int, PL.isi_lst_bool, PL.isi_lst_str, PL.isi_lst_list, PL.isi_lst_tuple, PL.pickL, List.filterMap_cons, List.filterMap_nil, true_and, decide_true, decide_false, eq_self, Int.zero_add, decide_eq_true_eq, PL.rowE, PL.rowS, PL.startC, List.length_map, List.map_cons, List.map_nil, List.length_cons, List.length_nil, List.append_nil, List.nil_append, List.cons_append, List.replicate_succ, List.replicate_zero, List.set_cons_zero, List.set_cons_succ, List.getElem?_cons_zero, List.getElem?_cons_succ, Nat.reduceAdd, Nat.reduceSub, if_true, Bool.not_true, Bool.not_false, Bool.false_eq_true, if_false])
      exact h _ hd.done
  · refine ⟨by decide, ⟨by omega, by omega⟩, ?_⟩
    refine for_r (W := fun i env => ∃ (row : List Int) (s : Int) (x y z : C), DigsK i row sizes ∧ 0 ≤ s ∧ s < 2147483647 ∧ env = [C.fz (.int c), C.fz (.lst (sizes.map D.int)), C.ow (.lst (row.map D.int)), C.fz (.int c), x, C.fz (.int s), y, z]) ⟨[], _, _, _, _, DigsK.nil _, Int.emod_nonneg _ (by decide), Int.lt_trans (Int.emod_lt_of_pos _ (by decide)) (by decide), rfl⟩ ?_ ?_
    · rintro k env hk ⟨row, s, x, y, z, hd, s0, s1, rfl⟩
      have hk : k < sizes.length := hk
      obtain ⟨t, ht⟩ : ∃ t, sizes[k]? = some t := ⟨_, List.getElem?_eq_getElem hk⟩
      have hm := hs t (List.mem_of_getElem? ht)
      (try simp only [PL.pSeq, PL.pNext, PL.pSet, PL.pSetO, PL.pRet, PL.pRetN, PL.pIfS, PL.pFor, PL.pWhile, PL.pBrk, PL.pCnt, PL.pDrop, PL.pApp, PL.pAsg, PL.pgN, PL.pFrz, PL.frz, PL.pC, PL.pN, PL.pNo, PL.pBin, PL.negP, PL.pB, PL.pAnd, PL.pOr, PL.pNot, PL.pAndV, PL.pOrV, PL.pNotV, PL.pIf, PL.paNil, PL.paCons, PL.pLst, PL.pTup, PL.pIx, PL.pSl, PL.poNone, PL.poSome, PL.pCall, PL.pCallK, PL.piR1, PL.piR2, PL.piE, PL.pBits, PL.isiP_eq, PL.pLr1, PL.pJoinR, PL.pJoin, PL.pLc_eq, PL.pYes, PL.wipeC, PL.pBor, PL.pBorT, PL.frzs, PL.pSetI, PL.pChainT, PL.isNP, PL.addP_i, PL.addP_s, PL.addP_t, PL.addP_l, PL.catP_l, PL.subP_i, PL.mulP_i, PL.mulP_l, PL.repP_l, PL.mulP_s, PL.fdivP_i, PL.modP_i, PL.powP_i, PL.ltP_i, PL.ltP_s, PL.gtP_i, PL.gtP_s, PL.leP_i, PL.leP_s, PL.geP_i, PL.geP_s, PL.eqP_int, PL.eqP_str, PL.eqP_bl, PL.eqP_lst_lst, PL.eqP_tup_tup, PL.eqP_lst_tup, PL.eqP_tup_lst, PL.neP_int, PL.neP_str, PL.neP_bl, PL.neP_lst_lst, PL.neP_tup_tup, PL.neP_lst_tup, PL.neP_tup_lst, PL.asB_b, PL.asS_s, PL.lenP_lst, PL.itP_lst, PL.ixP_lst, PL.listP_lst_, PL.tupleP_lst_, PL.sumP_lst_, PL.maxP_lst_, PL.minP_lst_, PL.lenP_tup, PL.itP_tup, PL.ixP_tup, PL.listP_tup_, PL.tupleP_tup_, PL.sumP_tup_, PL.maxP_tup_, PL.minP_tup_, PL.lenP_scr, PL.itP_scr, PL.ixP_scr, PL.listP_scr_, PL.tupleP_scr_, PL.sumP_scr_, PL.maxP_scr_, PL.minP_scr_, PL.lenP_str, PL.lenP_dk, PL.itP_str, PL.ixP_str, PL.intP_i, PL.intP_b, PL.rg1_i, PL.rg2_i, PL.lr1_i, PL.lr2_i, PL.maxP_2, PL.maxP_3, PL.minP_2, PL.minP_3, PL.slP_lst, PL.slP_tup, PL.slP_str, PL.slPL_lst, PL.pgTup_t, PL.pgTup_l, PL.pgsCons_c, PL.pgsNil_n, PL.joinRP_l, PL.reprP_i, PL.setP_i, PL.ixE_0, PL.ixE_1, PL.ixE_2, PL.ixE_3, PL.ixE_4, PL.ixE_5, PL.ixE_6, PL.ixE_7, PL.ixE_8, PL.isqrtP_i, PL.reprLP_l, PL.pMkE, PL.pErF, PL.pIsE, PL.pRevS, PL.pRetO, PL.pRetON, PL.divmodP_i, PL.pGet, PL.isi_non_int, PL.isi_non_bool, PL.isi_non_str, PL.isi_non_list, PL.isi_non_tuple, PL.isi_bl_int, PL.isi_bl_bool, PL.isi_bl_str, PL.isi_bl_list, PL.isi_bl_tuple, PL.isi_int_int, PL.isi_int_bool, PL.isi_int_str, PL.isi_int_list, PL.isi_int_tuple, PL.isi_str_int, PL.isi_str_bool, PL.isi_str_str, PL.isi_str_list, PL.isi_str_tuple, PL.isi_tup_int, PL.isi_tup_bool, PL.isi_tup_str, PL.isi_tup_list, PL.isi_tup_tuple, PL.isi_lst_int, PL.isi_lst_bool, PL.isi_lst_str, PL.isi_lst_list, PL.isi_lst_tuple, PL.pickL, List.filterMap_cons, List.filterMap_nil, true_and, decide_true, decide_false, eq_self, Int.zero_add, decide_eq_true_eq, PL.rowE, PL.rowS, PL.startC, List.length_map, List.map_cons, List.map_nil, List.length_cons, List.length_nil, List.append_nil, List.nil_append, List.cons_append, List.replicate_succ, List.replicate_zero, List.set_cons_zero, List.set_cons_succ, List.getElem?_cons_zero, List.getElem?_cons_succ, Nat.reduceAdd, Nat.reduceSub, if_true, Bool.not_true, Bool.not_false, Bool.false_eq_true, if_false])
      have := hd.1
      have d0 := Int.emod_nonneg (s * 48271 + 974711 * (k : Int) + 12345) (show (2147483647 : Int) ≠ 0 by decide)
      have d1 := Int.emod_lt_of_pos (s * 48271 + 974711 * (k : Int) + 12345) (show (0 : Int) < 2147483647 by decide)
      refine ⟨mulx_ok (a := 31) (b := 16) (by omega) (by decide) (by decide), mulx_ok (a := 20) (b := 14) (by decide) (by omega) (by decide), by decide, cdivw 20 (by decide) (by decide) (by decide), ?_, by decide, cdivw 20 (by decide) (by decide) (by decide), ?_⟩
      · exact mulx_ok (a := 31) (b := 31) (by omega) (by omega) (by decide)
      · refine ⟨D.int t, atI_map D.int ht, ?_⟩
        (try simp only [PL.pSeq, PL.pNext, PL.pSet, PL.pSetO, PL.pRet, PL.pRetN, PL.pIfS, PL.pFor, PL.pWhile, PL.pBrk, PL.pCnt, PL.pDrop, PL.pApp, PL.pAsg, PL.pgN, PL.pFrz, PL.frz, PL.pC, PL.pN, PL.pNo, PL.pBin, PL.negP, PL.pB, PL.pAnd, PL.pOr, PL.pNot, PL.pAndV, PL.pOrV, PL.pNotV, PL.pIf, PL.paNil, PL.paCons, PL.pLst, PL.pTup, PL.pIx, PL.pSl, PL.poNone, PL.poSome, PL.pCall, PL.pCallK, PL.piR1, PL.piR2, PL.piE, PL.pBits, PL.isiP_eq, PL.pLr1, PL.pJoinR, PL.pJoin, PL.pLc_eq, PL.pYes, PL.wipeC, PL.pBor, PL.pBorT, PL.frzs, PL.pSetI, PL.pChainT, PL.isNP, PL.addP_i, PL.addP_s, PL.addP_t, PL.addP_l, PL.catP_l, PL.subP_i, PL.mulP_i, PL.mulP_l, PL.repP_l, PL.mulP_s, PL.fdivP_i, PL.modP_i, PL.powP_i, PL.ltP_i, PL.ltP_s, PL.gtP_i, PL.gtP_s, PL.leP_i, PL.leP_s, PL.geP_i, PL.geP_s, PL.eqP_int, PL.eqP_str, PL.eqP_bl, PL.eqP_lst_lst, PL.eqP_tup_tup, PL.eqP_lst_tup, PL.eqP_tup_lst, PL.neP_int, PL.neP_str, PL.neP_bl, PL.neP_lst_lst, PL.neP_tup_tup, PL.neP_lst_tup, PL.neP_tup_lst, PL.asB_b, PL.asS_s, PL.lenP_lst, PL.itP_lst, PL.ixP_lst, PL.listP_lst_, PL.tupleP_lst_, PL.sumP_lst_, PL.maxP_lst_, PL.minP_lst_, PL.lenP_tup, PL.itP_tup, PL.ixP_tup, PL.listP_tup_, PL.tupleP_tup_, PL.sumP_tup_, PL.maxP_tup_, PL.minP_tup_, PL.lenP_scr, PL.itP_scr, PL.ixP_scr, PL.listP_scr_, PL.tupleP_scr_, PL.sumP_scr_, PL.maxP_scr_, PL.minP_scr_, PL.lenP_str, PL.lenP_dk, PL.itP_str, PL.ixP_str, PL.intP_i, PL.intP_b, PL.rg1_i, PL.rg2_i, PL.lr1_i, PL.lr2_i, PL.maxP_2, PL.maxP_3, PL.minP_2, PL.minP_3, PL.slP_lst, PL.slP_tup, PL.slP_str, PL.slPL_lst, PL.pgTup_t, PL.pgTup_l, PL.pgsCons_c, PL.pgsNil_n, PL.joinRP_l, PL.reprP_i, PL.setP_i, PL.ixE_0, PL.ixE_1, PL.ixE_2, PL.ixE_3, PL.ixE_4, PL.ixE_5, PL.ixE_6, PL.ixE_7, PL.ixE_8, PL.isqrtP_i, PL.reprLP_l, PL.pMkE, PL.pErF, PL.pIsE, PL.pRevS, PL.pRetO, PL.pRetON, PL.divmodP_i, PL.pGet, PL.isi_non_int, PL.isi_non_bool, PL.isi_non_str, PL.isi_non_list, PL.isi_non_tuple, PL.isi_bl_int, PL.isi_bl_bool, PL.isi_bl_str, PL.isi_bl_list, PL.isi_bl_tuple, PL.isi_int_int, PL.isi_int_bool, PL.isi_int_str, PL.isi_int_list, PL.isi_int_tuple, PL.isi_str_int, PL.isi_str_bool, PL.isi_str_str, PL.isi_str_list, PL.isi_str_tuple, PL.isi_tup_int, PL.isi_tup_bool, PL.isi_tup_str, PL.isi_tup_list, PL.isi_tup_tuple, PL.isi_lst_int, PL.isi_lst_bool, PL.isi_lst_str, PL.isi_lst_list, PL.isi_lst_tuple, PL.pickL, List.filterMap_cons, List.filterMap_nil, true_and, decide_true, decide_false, eq_self, Int.zero_add, decide_eq_true_eq, PL.rowE, PL.rowS, PL.startC, List.length_map, List.map_cons, List.map_nil, List.length_cons, List.length_nil, List.append_nil, List.nil_append, List.cons_append, List.replicate_succ, List.replicate_zero, List.set_cons_zero, List.set_cons_succ, List.getElem?_cons_zero, List.getElem?_cons_succ, Nat.reduceAdd, Nat.reduceSub, if_true, Bool.not_true, Bool.not_false, Bool.false_eq_true, if_false])
        exact ⟨hm.1, by omega, row ++ [_], _, _, _, _, hd.snoc ht (Int.emod_nonneg _ (by omega)) (Int.emod_lt_of_pos _ hm.1), d0, d1, rfl⟩
    · rintro env ⟨row, s, x, y, z, hd, s0, s1, rfl⟩
      (try simp only [PL.pSeq, PL.pNext, PL.pSet, PL.pSetO, PL.pRet, PL.pRetN, PL.pIfS, PL.pFor, PL.pWhile, PL.pBrk, PL.pCnt, PL.pDrop, PL.pApp, PL.pAsg, PL.pgN, PL.pFrz, PL.frz, PL.pC, PL.pN, PL.pNo, PL.pBin, PL.negP, PL.pB, PL.pAnd, PL.pOr, PL.pNot, PL.pAndV, PL.pOrV, PL.pNotV, PL.pIf, PL.paNil, PL.paCons, PL.pLst, PL.pTup, PL.pIx, PL.pSl, PL.poNone, PL.poSome, PL.pCall, PL.pCallK, PL.piR1, PL.piR2, PL.piE, PL.pBits, PL.isiP_eq, PL.pLr1, PL.pJoinR, PL.pJoin, PL.pLc_eq, PL.pYes, PL.wipeC, PL.pBor, PL.pBorT, PL.frzs, PL.pSetI, PL.pChainT, PL.isNP, PL.addP_i, PL.addP_s, PL.addP_t, PL.addP_l, PL.catP_l, PL.subP_i, PL.mulP_i, PL.mulP_l, PL.repP_l, PL.mulP_s, PL.fdivP_i, PL.modP_i, PL.powP_i, PL.ltP_i, PL.ltP_s, PL.gtP_i, PL.gtP_s, PL.leP_i, PL.leP_s, PL.geP_i, PL.geP_s, PL.eqP_int, PL.eqP_str, PL.eqP_bl, PL.eqP_lst_lst, PL.eqP_tup_tup, PL.eqP_lst_tup, PL.eqP_tup_lst, PL.neP_int, PL.neP_str, PL.neP_bl, PL.neP_lst_lst, PL.neP_tup_tup, PL.neP_lst_tup, PL.neP_tup_lst, PL.asB_b, PL.asS_s, PL.lenP_lst, PL.itP_lst, PL.ixP_lst, PL.listP_lst_, PL.tupleP_lst_, PL.sumP_lst_, PL.maxP_lst_, PL.minP_lst_, PL.lenP_tup, PL.itP_tup, PL.ixP_tup, PL.listP_tup_, PL.tupleP_tup_, PL.sumP_tup_, PL.maxP_tup_, PL.minP_tup_, PL.lenP_scr, PL.itP_scr, PL.ixP_scr, PL.listP_scr_, PL.tupleP_scr_, PL.sumP_scr_, PL.maxP_scr_, PL.minP_scr_, PL.lenP_str, PL.lenP_dk, PL.itP_str, PL.ixP_str, PL.intP_i, PL.intP_b, PL.rg1_i, PL.rg2_i, PL.lr1_i, PL.lr2_i, PL.maxP_2, PL.maxP_3, PL.minP_2, PL.minP_3, PL.slP_lst, PL.slP_tup, PL.slP_str, PL.slPL_lst, PL.pgTup_t, PL.pgTup_l, PL.pgsCons_c, PL.pgsNil_n, PL.joinRP_l, PL.reprP_i, PL.setP_i, PL.ixE_0, PL.ixE_1, PL.ixE_2, PL.ixE_3, PL.ixE_4, PL.ixE_5, PL.ixE_6, PL.ixE_7, PL.ixE_8, PL.isqrtP_i, PL.reprLP_l, PL.pMkE, PL.pErF, PL.pIsE, PL.pRevS, PL.pRetO, PL.pRetON, PL.divmodP_i, PL.pGet, PL.isi_non_int, PL.isi_non_bool, PL.isi_non_str, PL.isi_non_list, PL.isi_non_tuple, PL.isi_bl_int, PL.isi_bl_bool, PL.isi_bl_str, PL.isi_bl_list, PL.isi_bl_tuple, PL.isi_int_int, PL.isi_int_bool, PL.isi_int_str, PL.isi_int_list, PL.isi_int_tuple, PL.isi_str_int, PL.isi_str_bool, PL.isi_str_str, PL.isi_str_list, PL.isi_str_tuple, PL.isi_tup_int, PL.isi_tup_bool, PL.isi_tup_str, PL.isi_tup_list, PL.isi_tup_tuple, PL.isi_lst_int, PL.isi_lst_bool, PL.isi_lst_str, PL.isi_lst_list, PL.isi_lst_tuple, PL.pickL, List.filterMap_cons, List.filterMap_nil, true_and, decide_true, decide_false, eq_self, Int.zero_add, decide_eq_true_eq, PL.rowE, PL.rowS, PL.startC, List.length_map, List.map_cons, List.map_nil, List.length_cons, List.length_nil, List.append_nil, List.nil_append, List.cons_append, List.replicate_succ, List.replicate_zero, List.set_cons_zero, List.set_cons_succ, List.getElem?_cons_zero, List.getElem?_cons_succ, Nat.reduceAdd, Nat.reduceSub, if_true, Bool.not_true, Bool.not_false, Bool.false_eq_true, if_false])
      exact h _ hd.done
def sp_level_total : PSp := fun ds P => ∃ N h s : Int, ds = [.int N, .int h, .int s] ∧ 0 ≤ N ∧ N < 2 ^ 200 ∧ 1 ≤ h ∧ h < 2 ^ 150 ∧ 0 ≤ s ∧ s ≤ 1 ∧ P (.int (s * N + G N h))
theorem len_level_total : ∀ ds P, sp_level_total ds P → ds.length = 3 := by rintro _ _ ⟨n, h, s, rfl, _⟩; rfl
theorem w_level_total : ∀ ds Q, sp_level_total ds Q → b_level_total { nx := fun _ => Q .non, rt := Q } (startC ["count", "room", "shortest", "total", "left", "here", "length", "taken"] ds) := by
  rintro _ Q ⟨N, h, s, rfl, N0, N1, h0, h1, s0, s1, q⟩
  unfold b_level_total
  (try simp only [PL.pSeq, PL.pNext, PL.pSet, PL.pSetO, PL.pRet, PL.pRetN, PL.pIfS, PL.pFor, PL.pWhile, PL.pBrk, PL.pCnt, PL.pDrop, PL.pApp, PL.pAsg, PL.pgN, PL.pFrz, PL.frz, PL.pC, PL.pN, PL.pNo, PL.pBin, PL.negP, PL.pB, PL.pAnd, PL.pOr, PL.pNot, PL.pAndV, PL.pOrV, PL.pNotV, PL.pIf, PL.paNil, PL.paCons, PL.pLst, PL.pTup, PL.pIx, PL.pSl, PL.poNone, PL.poSome, PL.pCall, PL.pCallK, PL.piR1, PL.piR2, PL.piE, PL.pBits, PL.isiP_eq, PL.pLr1, PL.pJoinR, PL.pJoin, PL.pLc_eq, PL.pYes, PL.wipeC, PL.pBor, PL.pBorT, PL.frzs, PL.pSetI, PL.pChainT, PL.isNP, PL.addP_i, PL.addP_s, PL.addP_t, PL.addP_l, PL.catP_l, PL.subP_i, PL.mulP_i, PL.mulP_l, PL.repP_l, PL.mulP_s, PL.fdivP_i, PL.modP_i, PL.powP_i, PL.ltP_i, PL.ltP_s, PL.gtP_i, PL.gtP_s, PL.leP_i, PL.leP_s, PL.geP_i, PL.geP_s, PL.eqP_int, PL.eqP_str, PL.eqP_bl, PL.eqP_lst_lst, PL.eqP_tup_tup, PL.eqP_lst_tup, PL.eqP_tup_lst, PL.neP_int, PL.neP_str, PL.neP_bl, PL.neP_lst_lst, PL.neP_tup_tup, PL.neP_lst_tup, PL.neP_tup_lst, PL.asB_b, PL.asS_s, PL.lenP_lst, PL.itP_lst, PL.ixP_lst, PL.listP_lst_, PL.tupleP_lst_, PL.sumP_lst_, PL.maxP_lst_, PL.minP_lst_, PL.lenP_tup, PL.itP_tup, PL.ixP_tup, PL.listP_tup_, PL.tupleP_tup_, PL.sumP_tup_, PL.maxP_tup_, PL.minP_tup_, PL.lenP_scr, PL.itP_scr, PL.ixP_scr, PL.listP_scr_, PL.tupleP_scr_, PL.sumP_scr_, PL.maxP_scr_, PL.minP_scr_, PL.lenP_str, PL.lenP_dk, PL.itP_str, PL.ixP_str, PL.intP_i, PL.intP_b, PL.rg1_i, PL.rg2_i, PL.lr1_i, PL.lr2_i, PL.maxP_2, PL.maxP_3, PL.minP_2, PL.minP_3, PL.slP_lst, PL.slP_tup, PL.slP_str, PL.slPL_lst, PL.pgTup_t, PL.pgTup_l, PL.pgsCons_c, PL.pgsNil_n, PL.joinRP_l, PL.reprP_i, PL.setP_i, PL.ixE_0, PL.ixE_1, PL.ixE_2, PL.ixE_3, PL.ixE_4, PL.ixE_5, PL.ixE_6, PL.ixE_7, PL.ixE_8, PL.isqrtP_i, PL.reprLP_l, PL.pMkE, PL.pErF, PL.pIsE, PL.pRevS, PL.pRetO, PL.pRetON, PL.divmodP_i, PL.pGet, PL.isi_non_int, PL.isi_non_bool, PL.isi_non_str, PL.isi_non_list, PL.isi_non_tuple, PL.isi_bl_int, PL.isi_bl_bool, PL.isi_bl_str, PL.isi_bl_list, PL.isi_bl_tuple, PL.isi_int_int, PL.isi_int_bool, PL.isi_int_str, PL.isi_int_list, PL.isi_int_tuple, PL.isi_str_int, PL.isi_str_bool, PL.isi_str_str, PL.isi_str_list, PL.isi_str_tuple, PL.isi_tup_int, PL.isi_tup_bool, PL.isi_tup_str, PL.isi_tup_list, PL.isi_tup_tuple, PL.isi_lst_int, PL.isi_lst_bool, PL.isi_lst_str, PL.isi_lst_list, PL.isi_lst_tuple, PL.pickL, List.filterMap_cons, List.filterMap_nil, true_and, decide_true, decide_false, eq_self, Int.zero_add, decide_eq_true_eq, PL.rowE, PL.rowS, PL.startC, List.length_map, List.map_cons, List.map_nil, List.length_cons, List.length_nil, List.append_nil, List.nil_append, List.cons_append, List.replicate_succ, List.replicate_zero, List.set_cons_zero, List.set_cons_succ, List.getElem?_cons_zero, List.getElem?_cons_succ, Nat.reduceAdd, Nat.reduceSub, if_true, Bool.not_true, Bool.not_false, Bool.false_eq_true, if_false])
  refine ⟨fun m env => ∃ (i : Nat) (x : C), m = (leftAt N h i).toNat ∧ env = [C.fz (.int N), C.fz (.int h), C.fz (.int s), C.fz (.int (s * (N - leftAt N h i) + E i N h - i * leftAt N h i)), C.fz (.int (leftAt N h i)), C.fz (.int (h * 2 ^ i)), C.fz (.int (s + i)), x], ⟨_, 0, .un, rfl, ?_⟩, ?_⟩
  · rw [left_0 N0]; simp [E, S]
  · rintro m env ⟨i, x, rfl, rfl⟩
    (try simp only [PL.pSeq, PL.pNext, PL.pSet, PL.pSetO, PL.pRet, PL.pRetN, PL.pIfS, PL.pFor, PL.pWhile, PL.pBrk, PL.pCnt, PL.pDrop, PL.pApp, PL.pAsg, PL.pgN, PL.pFrz, PL.frz, PL.pC, PL.pN, PL.pNo, PL.pBin, PL.negP, PL.pB, PL.pAnd, PL.pOr, PL.pNot, PL.pAndV, PL.pOrV, PL.pNotV, PL.pIf, PL.paNil, PL.paCons, PL.pLst, PL.pTup, PL.pIx, PL.pSl, PL.poNone, PL.poSome, PL.pCall, PL.pCallK, PL.piR1, PL.piR2, PL.piE, PL.pBits, PL.isiP_eq, PL.pLr1, PL.pJoinR, PL.pJoin, PL.pLc_eq, PL.pYes, PL.wipeC, PL.pBor, PL.pBorT, PL.frzs, PL.pSetI, PL.pChainT, PL.isNP, PL.addP_i, PL.addP_s, PL.addP_t, PL.addP_l, PL.catP_l, PL.subP_i, PL.mulP_i, PL.mulP_l, PL.repP_l, PL.mulP_s, PL.fdivP_i, PL.modP_i, PL.powP_i, PL.ltP_i, PL.ltP_s, PL.gtP_i, PL.gtP_s, PL.leP_i, PL.leP_s, PL.geP_i, PL.geP_s, PL.eqP_int, PL.eqP_str, PL.eqP_bl, PL.eqP_lst_lst, PL.eqP_tup_tup, PL.eqP_lst_tup, PL.eqP_tup_lst, PL.neP_int, PL.neP_str, PL.neP_bl, PL.neP_lst_lst, PL.neP_tup_tup, PL.neP_lst_tup, PL.neP_tup_lst, PL.asB_b, PL.asS_s, PL.lenP_lst, PL.itP_lst, PL.ixP_lst, PL.listP_lst_, PL.tupleP_lst_, PL.sumP_lst_, PL.maxP_lst_, PL.minP_lst_, PL.lenP_tup, PL.itP_tup, PL.ixP_tup, PL.listP_tup_, PL.tupleP_tup_, PL.sumP_tup_, PL.maxP_tup_, PL.minP_tup_, PL.lenP_scr, PL.itP_scr, PL.ixP_scr, PL.listP_scr_, PL.tupleP_scr_, PL.sumP_scr_, PL.maxP_scr_, PL.minP_scr_, PL.lenP_str, PL.lenP_dk, PL.itP_str, PL.ixP_str, PL.intP_i, PL.intP_b, PL.rg1_i, PL.rg2_i, PL.lr1_i, PL.lr2_i, PL.maxP_2, PL.maxP_3, PL.minP_2, PL.minP_3, PL.slP_lst, PL.slP_tup, PL.slP_str, PL.slPL_lst, PL.pgTup_t, PL.pgTup_l, PL.pgsCons_c, PL.pgsNil_n, PL.joinRP_l, PL.reprP_i, PL.setP_i, PL.ixE_0, PL.ixE_1, PL.ixE_2, PL.ixE_3, PL.ixE_4, PL.ixE_5, PL.ixE_6, PL.ixE_7, PL.ixE_8, PL.isqrtP_i, PL.reprLP_l, PL.pMkE, PL.pErF, PL.pIsE, PL.pRevS, PL.pRetO, PL.pRetON, PL.divmodP_i, PL.pGet, PL.isi_non_int, PL.isi_non_bool, PL.isi_non_str, PL.isi_non_list, PL.isi_non_tuple, PL.isi_bl_int, PL.isi_bl_bool, PL.isi_bl_str, PL.isi_bl_list, PL.isi_bl_tuple, PL.isi_int_int, PL.isi_int_bool, PL.isi_int_str, PL.isi_int_list, PL.isi_int_tuple, PL.isi_str_int, PL.isi_str_bool, PL.isi_str_str, PL.isi_str_list, PL.isi_str_tuple, PL.isi_tup_int, PL.isi_tup_bool, PL.isi_tup_str, PL.isi_tup_list, PL.isi_tup_tuple, PL.isi_lst_int, PL.isi_lst_bool, PL.isi_lst_str, PL.isi_lst_list, PL.isi_lst_tuple, PL.pickL, List.filterMap_cons, List.filterMap_nil, true_and, decide_true, decide_false, eq_self, Int.zero_add, decide_eq_true_eq, PL.rowE, PL.rowS, PL.startC, List.length_map, List.map_cons, List.map_nil, List.length_cons, List.length_nil, List.append_nil, List.nil_append, List.cons_append, List.replicate_succ, List.replicate_zero, List.set_cons_zero, List.set_cons_succ, List.getElem?_cons_zero, List.getElem?_cons_succ, Nat.reduceAdd, Nat.reduceSub, if_true, Bool.not_true, Bool.not_false, Bool.false_eq_true, if_false])
    split
    · rename_i hl
      have a := p1 i
      have hp : 0 ≤ h * 2 ^ i := Int.mul_nonneg (by omega) (by omega)
      have hi : 1 * ((2 : Int) ^ i - 1) ≤ h * (2 ^ i - 1) := Int.mul_le_mul_of_nonneg_right h0 (by omega)
      have hN : h * (2 ^ i - 1) < N := by unfold leftAt at hl; omega
      have he : h * (2 ^ i - 1) = h * 2 ^ i - h := by grind
      have hii : (i : Int) < 2 ^ i := by
        have b : i < 2 ^ i := Nat.lt_two_pow_self
        have e : ((2 : Int) ^ i) = ((2 ^ i : Nat) : Int) := by simp
        omega
      have q1 : (2 : Int) ^ 201 = 2 * 2 ^ 200 := p2 200
      have q2 : (2 : Int) ^ 150 ≤ 2 ^ 200 := pow2_le (by decide)
      have q3 : (2 : Int) ^ 2 ≤ 2 ^ 150 := pow2_le (by decide)
      have hl2 : leftAt N h i ≤ N := by unfold leftAt; omega
      have hs := left_s (N := N) (h := h) (by omega) i
      have hh : 1 ≤ h * 2 ^ i := by
        have := Int.mul_le_mul_of_nonneg_right h0 (show 0 ≤ (2 : Int) ^ i by omega)
        omega
      refine ⟨cmul_pow 200 201 (by omega) (by omega) (by omega) (by omega) (by decide), cmul_pow 201 2 hp (by omega) (by decide) (by decide) (by decide), _, ?_, i + 1, C.fz (.int (min (leftAt N h i) (h * 2 ^ i))), rfl, ?_⟩
      · have : leftAt N h (i + 1) < leftAt N h i := by omega
        omega
      · have e1 : leftAt N h i - min (leftAt N h i) (h * 2 ^ i) = leftAt N h (i + 1) := hs.symm
        have e2 : min (leftAt N h i) (h * 2 ^ i) = leftAt N h i - leftAt N h (i + 1) := by omega
        rw [e1, e2, E_s, total_s, p2]
        rw [show h * 2 ^ i * 2 = h * (2 * 2 ^ i) by grind, show s + (i : Int) + 1 = s + ((i + 1 : Nat) : Int) by omega, show ((i : Int) + 1) = ((i + 1 : Nat) : Int) by omega]
    · rename_i hl
      have e : leftAt N h i = 0 := by unfold leftAt at *; omega
      rw [e, E_done h0 N0 e, Int.sub_zero, Int.mul_zero, Int.sub_zero]
      exact q
theorem sq_lt {s : Int} (h0 : 1 ≤ s) (h1 : s < 2 ^ 13) : s * s < 2 ^ 26 := by
  have : s * s ≤ (2 ^ 13 - 1) * (2 ^ 13 - 1) := Int.mul_le_mul (by omega) (by omega) (by omega) (by omega)
  have : ((2 : Int) ^ 13 - 1) * (2 ^ 13 - 1) < 2 ^ 26 := by decide
  omega
def sp_floor_bits : PSp := fun ds P => ∃ s N : Int, ds = [.int s, .int N] ∧ 0 ≤ N ∧ N < 2 ^ 200 ∧ 1 ≤ s ∧ s < 2 ^ 13 ∧ P (.int (FB s N))
theorem len_floor_bits : ∀ ds P, sp_floor_bits ds P → ds.length = 2 := by rintro _ _ ⟨n, h, rfl, _⟩; rfl
theorem w_floor_bits : ∀ ds Q, sp_floor_bits ds Q → b_floor_bits sp_level_total { nx := fun _ => Q .non, rt := Q } (startC ["standings", "count", "silent"] ds) := by
  rintro _ Q ⟨s, N, rfl, N0, N1, h0, h1, q⟩
  unfold b_floor_bits
  (try simp only [PL.pSeq, PL.pNext, PL.pSet, PL.pSetO, PL.pRet, PL.pRetN, PL.pIfS, PL.pFor, PL.pWhile, PL.pBrk, PL.pCnt, PL.pDrop, PL.pApp, PL.pAsg, PL.pgN, PL.pFrz, PL.frz, PL.pC, PL.pN, PL.pNo, PL.pBin, PL.negP, PL.pB, PL.pAnd, PL.pOr, PL.pNot, PL.pAndV, PL.pOrV, PL.pNotV, PL.pIf, PL.paNil, PL.paCons, PL.pLst, PL.pTup, PL.pIx, PL.pSl, PL.poNone, PL.poSome, PL.pCall, PL.pCallK, PL.piR1, PL.piR2, PL.piE, PL.pBits, PL.isiP_eq, PL.pLr1, PL.pJoinR, PL.pJoin, PL.pLc_eq, PL.pYes, PL.wipeC, PL.pBor, PL.pBorT, PL.frzs, PL.pSetI, PL.pChainT, PL.isNP, PL.addP_i, PL.addP_s, PL.addP_t, PL.addP_l, PL.catP_l, PL.subP_i, PL.mulP_i, PL.mulP_l, PL.repP_l, PL.mulP_s, PL.fdivP_i, PL.modP_i, PL.powP_i, PL.ltP_i, PL.ltP_s, PL.gtP_i, PL.gtP_s, PL.leP_i, PL.leP_s, PL.geP_i, PL.geP_s, PL.eqP_int, PL.eqP_str, PL.eqP_bl, PL.eqP_lst_lst, PL.eqP_tup_tup, PL.eqP_lst_tup, PL.eqP_tup_lst, PL.neP_int, PL.neP_str, PL.neP_bl, PL.neP_lst_lst, PL.neP_tup_tup, PL.neP_lst_tup, PL.neP_tup_lst, PL.asB_b, PL.asS_s, PL.lenP_lst, PL.itP_lst, PL.ixP_lst, PL.listP_lst_, PL.tupleP_lst_, PL.sumP_lst_, PL.maxP_lst_, PL.minP_lst_, PL.lenP_tup, PL.itP_tup, PL.ixP_tup, PL.listP_tup_, PL.tupleP_tup_, PL.sumP_tup_, PL.maxP_tup_, PL.minP_tup_, PL.lenP_scr, PL.itP_scr, PL.ixP_scr, PL.listP_scr_, PL.tupleP_scr_, PL.sumP_scr_, PL.maxP_scr_, PL.minP_scr_, PL.lenP_str, PL.lenP_dk, PL.itP_str, PL.ixP_str, PL.intP_i, PL.intP_b, PL.rg1_i, PL.rg2_i, PL.lr1_i, PL.lr2_i, PL.maxP_2, PL.maxP_3, PL.minP_2, PL.minP_3, PL.slP_lst, PL.slP_tup, PL.slP_str, PL.slPL_lst, PL.pgTup_t, PL.pgTup_l, PL.pgsCons_c, PL.pgsNil_n, PL.joinRP_l, PL.reprP_i, PL.setP_i, PL.ixE_0, PL.ixE_1, PL.ixE_2, PL.ixE_3, PL.ixE_4, PL.ixE_5, PL.ixE_6, PL.ixE_7, PL.ixE_8, PL.isqrtP_i, PL.reprLP_l, PL.pMkE, PL.pErF, PL.pIsE, PL.pRevS, PL.pRetO, PL.pRetON, PL.divmodP_i, PL.pGet, PL.isi_non_int, PL.isi_non_bool, PL.isi_non_str, PL.isi_non_list, PL.isi_non_tuple, PL.isi_bl_int, PL.isi_bl_bool, PL.isi_bl_str, PL.isi_bl_list, PL.isi_bl_tuple, PL.isi_int_int, PL.isi_int_bool, PL.isi_int_str, PL.isi_int_list, PL.isi_int_tuple, PL.isi_str_int, PL.isi_str_bool, PL.isi_str_str, PL.isi_str_list, PL.isi_str_tuple, PL.isi_tup_int, PL.isi_tup_bool, PL.isi_tup_str, PL.isi_tup_list, PL.isi_tup_tuple, PL.isi_lst_int, PL.isi_lst_bool, PL.isi_lst_str, PL.isi_lst_list, PL.isi_lst_tuple, PL.pickL, List.filterMap_cons, List.filterMap_nil, true_and, decide_true, decide_false, eq_self, Int.zero_add, decide_eq_true_eq, PL.rowE, PL.rowS, PL.startC, List.length_map, List.map_cons, List.map_nil, List.length_cons, List.length_nil, List.append_nil, List.nil_append, List.cons_append, List.replicate_succ, List.replicate_zero, List.set_cons_zero, List.set_cons_succ, List.getElem?_cons_zero, List.getElem?_cons_succ, Nat.reduceAdd, Nat.reduceSub, if_true, Bool.not_true, Bool.not_false, Bool.false_eq_true, if_false])
  have b := sil_bd h0
  have b2 := sq_lt h0 h1
  have q1 : (2 : Int) ^ 27 ≤ 2 ^ 150 := pow2_le (by decide)
  refine ⟨mulx_ok (a := 13) (b := 13) (by omega) (by omega) (by decide), cdivw 2 (by decide) (by decide) (by decide), mulx_ok (a := 2) (b := 13) (by decide) (by omega) (by decide), mulx_ok (a := 14) (b := 13) (by omega) (by omega) (by decide), ?_⟩
  refine ⟨_, _, _, rfl, by omega, ?_, by rw [two_sq]; omega, by rw [two_sq]; omega, by decide, by decide, ?_⟩
  · have : 0 ≤ s * (s - 1) / 2 := b.2.1
    omega
  · rw [Int.one_mul]
    exact q
def sp_law_filled : PSp := fun ds P => ∃ s N : Int, ds = [.int s, .int N] ∧ 0 ≤ N ∧ N < 2 ^ 200 ∧ 1 ≤ s ∧ s < 2 ^ 13 ∧ P (.int (FB s N))
theorem len_law_filled : ∀ ds P, sp_law_filled ds P → ds.length = 2 := by rintro _ _ ⟨n, h, rfl, _⟩; rfl
theorem w_law_filled : ∀ ds Q, sp_law_filled ds Q → b_law_filled { nx := fun _ => Q .non, rt := Q } (startC ["states", "many", "total", "left", "here", "wide"] ds) := by
  rintro _ Q ⟨s, M, rfl, M0, M1, s0, s1, q⟩
  unfold b_law_filled
  (try simp only [PL.pSeq, PL.pNext, PL.pSet, PL.pSetO, PL.pRet, PL.pRetN, PL.pIfS, PL.pFor, PL.pWhile, PL.pBrk, PL.pCnt, PL.pDrop, PL.pApp, PL.pAsg, PL.pgN, PL.pFrz, PL.frz, PL.pC, PL.pN, PL.pNo, PL.pBin, PL.negP, PL.pB, PL.pAnd, PL.pOr, PL.pNot, PL.pAndV, PL.pOrV, PL.pNotV, PL.pIf, PL.paNil, PL.paCons, PL.pLst, PL.pTup, PL.pIx, PL.pSl, PL.poNone, PL.poSome, PL.pCall, PL.pCallK, PL.piR1, PL.piR2, PL.piE, PL.pBits, PL.isiP_eq, PL.pLr1, PL.pJoinR, PL.pJoin, PL.pLc_eq, PL.pYes, PL.wipeC, PL.pBor, PL.pBorT, PL.frzs, PL.pSetI, PL.pChainT, PL.isNP, PL.addP_i, PL.addP_s, PL.addP_t, PL.addP_l, PL.catP_l, PL.subP_i, PL.mulP_i, PL.mulP_l, PL.repP_l, PL.mulP_s, PL.fdivP_i, PL.modP_i, PL.powP_i, PL.ltP_i, PL.ltP_s, PL.gtP_i, PL.gtP_s, PL.leP_i, PL.leP_s, PL.geP_i, PL.geP_s, PL.eqP_int, PL.eqP_str, PL.eqP_bl, PL.eqP_lst_lst, PL.eqP_tup_tup, PL.eqP_lst_tup, PL.eqP_tup_lst, PL.neP_int, PL.neP_str, PL.neP_bl, PL.neP_lst_lst, PL.neP_tup_tup, PL.neP_lst_tup, PL.neP_tup_lst, PL.asB_b, PL.asS_s, PL.lenP_lst, PL.itP_lst, PL.ixP_lst, PL.listP_lst_, PL.tupleP_lst_, PL.sumP_lst_, PL.maxP_lst_, PL.minP_lst_, PL.lenP_tup, PL.itP_tup, PL.ixP_tup, PL.listP_tup_, PL.tupleP_tup_, PL.sumP_tup_, PL.maxP_tup_, PL.minP_tup_, PL.lenP_scr, PL.itP_scr, PL.ixP_scr, PL.listP_scr_, PL.tupleP_scr_, PL.sumP_scr_, PL.maxP_scr_, PL.minP_scr_, PL.lenP_str, PL.lenP_dk, PL.itP_str, PL.ixP_str, PL.intP_i, PL.intP_b, PL.rg1_i, PL.rg2_i, PL.lr1_i, PL.lr2_i, PL.maxP_2, PL.maxP_3, PL.minP_2, PL.minP_3, PL.slP_lst, PL.slP_tup, PL.slP_str, PL.slPL_lst, PL.pgTup_t, PL.pgTup_l, PL.pgsCons_c, PL.pgsNil_n, PL.joinRP_l, PL.reprP_i, PL.setP_i, PL.ixE_0, PL.ixE_1, PL.ixE_2, PL.ixE_3, PL.ixE_4, PL.ixE_5, PL.ixE_6, PL.ixE_7, PL.ixE_8, PL.isqrtP_i, PL.reprLP_l, PL.pMkE, PL.pErF, PL.pIsE, PL.pRevS, PL.pRetO, PL.pRetON, PL.divmodP_i, PL.pGet, PL.isi_non_int, PL.isi_non_bool, PL.isi_non_str, PL.isi_non_list, PL.isi_non_tuple, PL.isi_bl_int, PL.isi_bl_bool, PL.isi_bl_str, PL.isi_bl_list, PL.isi_bl_tuple, PL.isi_int_int, PL.isi_int_bool, PL.isi_int_str, PL.isi_int_list, PL.isi_int_tuple, PL.isi_str_int, PL.isi_str_bool, PL.isi_str_str, PL.isi_str_list, PL.isi_str_tuple, PL.isi_tup_int, PL.isi_tup_bool, PL.isi_tup_str, PL.isi_tup_list, PL.isi_tup_tuple, PL.isi_lst_int, PL.isi_lst_bool, PL.isi_lst_str, PL.isi_lst_list, PL.isi_lst_tuple, PL.pickL, List.filterMap_cons, List.filterMap_nil, true_and, decide_true, decide_false, eq_self, Int.zero_add, decide_eq_true_eq, PL.rowE, PL.rowS, PL.startC, List.length_map, List.map_cons, List.map_nil, List.length_cons, List.length_nil, List.append_nil, List.nil_append, List.cons_append, List.replicate_succ, List.replicate_zero, List.set_cons_zero, List.set_cons_succ, List.getElem?_cons_zero, List.getElem?_cons_succ, Nat.reduceAdd, Nat.reduceSub, if_true, Bool.not_true, Bool.not_false, Bool.false_eq_true, if_false])
  have b := sil_bd s0
  have b2 := sq_lt s0 s1
  refine ⟨mulx_ok (a := 13) (b := 13) (by omega) (by omega) (by decide), cdivw 2 (by decide) (by decide) (by decide), mulx_ok (a := 13) (b := 13) (by omega) (by omega) (by decide), ⟨⟨by decide, by decide⟩, by decide, by decide⟩, ?_⟩
  have q1 : (2 : Int) ^ 201 = 2 * 2 ^ 200 := p2 200
  have q2 : (2 : Int) ^ 27 ≤ 2 ^ 200 := pow2_le (by decide)
  generalize hN : max 0 (M - sil s) = N
  generalize hh : 2 * s * s = h
  have h1 : 1 ≤ h := by rw [← hh, two_sq]; omega
  have h2 : h = 2 * (s * s) := by rw [← hh, two_sq]
  have N0 : 0 ≤ N := by omega
  have q' : Q (.int (N + G N h)) := by rw [← hN, ← hh]; exact q
  refine for_r (W := fun i env => ∃ (x : C) (l : Int), max 0 l = leftAt N h i ∧ env = [C.fz (.int s), C.fz (.int M), C.fz (.int (1 * (N - leftAt N h i) + E i N h - i * leftAt N h i)), C.fz (.int l), C.fz (.int (s * s * 2 ^ i)), x]) ⟨.un, M - sil s, by rw [left_0 N0, hN], by rw [left_0 N0]; simp [E, S, sil]⟩ ?_ ?_
  · rintro i env hk ⟨x, l, hl, rfl⟩
    (try simp only [PL.pSeq, PL.pNext, PL.pSet, PL.pSetO, PL.pRet, PL.pRetN, PL.pIfS, PL.pFor, PL.pWhile, PL.pBrk, PL.pCnt, PL.pDrop, PL.pApp, PL.pAsg, PL.pgN, PL.pFrz, PL.frz, PL.pC, PL.pN, PL.pNo, PL.pBin, PL.negP, PL.pB, PL.pAnd, PL.pOr, PL.pNot, PL.pAndV, PL.pOrV, PL.pNotV, PL.pIf, PL.paNil, PL.paCons, PL.pLst, PL.pTup, PL.pIx, PL.pSl, PL.poNone, PL.poSome, PL.pCall, PL.pCallK, PL.piR1, PL.piR2, PL.piE, PL.pBits, PL.isiP_eq, PL.pLr1, PL.pJoinR, PL.pJoin, PL.pLc_eq, PL.pYes, PL.wipeC, PL.pBor, PL.pBorT, PL.frzs, PL.pSetI, PL.pChainT, PL.isNP, PL.addP_i, PL.addP_s, PL.addP_t, PL.addP_l, PL.catP_l, PL.subP_i, PL.mulP_i, PL.mulP_l, PL.repP_l, PL.mulP_s, PL.fdivP_i, PL.modP_i, PL.powP_i, PL.ltP_i, PL.ltP_s, PL.gtP_i, PL.gtP_s, PL.leP_i, PL.leP_s, PL.geP_i, PL.geP_s, PL.eqP_int, PL.eqP_str, PL.eqP_bl, PL.eqP_lst_lst, PL.eqP_tup_tup, PL.eqP_lst_tup, PL.eqP_tup_lst, PL.neP_int, PL.neP_str, PL.neP_bl, PL.neP_lst_lst, PL.neP_tup_tup, PL.neP_lst_tup, PL.neP_tup_lst, PL.asB_b, PL.asS_s, PL.lenP_lst, PL.itP_lst, PL.ixP_lst, PL.listP_lst_, PL.tupleP_lst_, PL.sumP_lst_, PL.maxP_lst_, PL.minP_lst_, PL.lenP_tup, PL.itP_tup, PL.ixP_tup, PL.listP_tup_, PL.tupleP_tup_, PL.sumP_tup_, PL.maxP_tup_, PL.minP_tup_, PL.lenP_scr, PL.itP_scr, PL.ixP_scr, PL.listP_scr_, PL.tupleP_scr_, PL.sumP_scr_, PL.maxP_scr_, PL.minP_scr_, PL.lenP_str, PL.lenP_dk, PL.itP_str, PL.ixP_str, PL.intP_i, PL.intP_b, PL.rg1_i, PL.rg2_i, PL.lr1_i, PL.lr2_i, PL.maxP_2, PL.maxP_3, PL.minP_2, PL.minP_3, PL.slP_lst, PL.slP_tup, PL.slP_str, PL.slPL_lst, PL.pgTup_t, PL.pgTup_l, PL.pgsCons_c, PL.pgsNil_n, PL.joinRP_l, PL.reprP_i, PL.setP_i, PL.ixE_0, PL.ixE_1, PL.ixE_2, PL.ixE_3, PL.ixE_4, PL.ixE_5, PL.ixE_6, PL.ixE_7, PL.ixE_8, PL.isqrtP_i, PL.reprLP_l, PL.pMkE, PL.pErF, PL.pIsE, PL.pRevS, PL.pRetO, PL.pRetON, PL.divmodP_i, PL.pGet, PL.isi_non_int, PL.isi_non_bool, PL.isi_non_str, PL.isi_non_list, PL.isi_non_tuple, PL.isi_bl_int, PL.isi_bl_bool, PL.isi_bl_str, PL.isi_bl_list, PL.isi_bl_tuple, PL.isi_int_int, PL.isi_int_bool, PL.isi_int_str, PL.isi_int_list, PL.isi_int_tuple, PL.isi_str_int, PL.isi_str_bool, PL.isi_str_str, PL.isi_str_list, PL.isi_str_tuple, PL.isi_tup_int, PL.isi_tup_bool, PL.isi_tup_str, PL.isi_tup_list, PL.isi_tup_tuple, PL.isi_lst_int, PL.isi_lst_bool, PL.isi_lst_str, PL.isi_lst_list, PL.isi_lst_tuple, PL.pickL, List.filterMap_cons, List.filterMap_nil, true_and, decide_true, decide_false, eq_self, Int.zero_add, decide_eq_true_eq, PL.rowE, PL.rowS, PL.startC, List.length_map, List.map_cons, List.map_nil, List.length_cons, List.length_nil, List.append_nil, List.nil_append, List.cons_append, List.replicate_succ, List.replicate_zero, List.set_cons_zero, List.set_cons_succ, List.getElem?_cons_zero, List.getElem?_cons_succ, Nat.reduceAdd, Nat.reduceSub, if_true, Bool.not_true, Bool.not_false, Bool.false_eq_true, if_false])
    split
    · have e : leftAt N h i = 0 := by omega
      rw [e, E_done h1 N0 e, Int.mul_zero, Int.sub_zero, Int.sub_zero, Int.one_mul]
      exact q'
    · have hk : i < 599 := hk
      have a := p1 i
      have hp : 0 ≤ h * 2 ^ i := Int.mul_nonneg (by omega) (by omega)
      have hi : 1 * ((2 : Int) ^ i - 1) ≤ h * (2 ^ i - 1) := Int.mul_le_mul_of_nonneg_right h1 (by omega)
      have hN2 : h * (2 ^ i - 1) < N := by unfold leftAt at hl; omega
      have he : h * (2 ^ i - 1) = h * 2 ^ i - h := by grind
      have hl2 : leftAt N h i ≤ N := by unfold leftAt; omega
      have hs := left_s (N := N) (h := h) (by omega) i
      have hll : l = leftAt N h i := by omega
      subst hll
      have e0 : s * s * 2 ^ i * 2 = h * 2 ^ i := by rw [h2]; grind
      have e00 : 0 ≤ s * s * 2 ^ i := by omega
      rw [e0]
      refine ⟨cmul_pow 201 2 e00 (by omega) (by decide) (by decide) (by decide), cmul_pow 10 200 (by omega) (by omega) (by omega) (by omega) (by decide), C.fz (.int (1 + i)), leftAt N h i - h * 2 ^ i, by omega, ?_⟩
      have e2 : min (leftAt N h i) (h * 2 ^ i) = leftAt N h i - leftAt N h (i + 1) := by omega
      have e3 := total_s 1 N (leftAt N h i) (leftAt N h (i + 1)) (E i N h) i
      rw [e2, E_s, show ((i + 1 : Nat) : Int) = (i : Int) + 1 by omega, ← e3, Int.mul_comm (1 + (i : Int)) (leftAt N h i - leftAt N h (i + 1)), show s * s * 2 ^ (i + 1) = h * 2 ^ i by rw [p2, h2]; grind]
  · rintro env ⟨x, l, hl, rfl⟩
    (try simp only [PL.pSeq, PL.pNext, PL.pSet, PL.pSetO, PL.pRet, PL.pRetN, PL.pIfS, PL.pFor, PL.pWhile, PL.pBrk, PL.pCnt, PL.pDrop, PL.pApp, PL.pAsg, PL.pgN, PL.pFrz, PL.frz, PL.pC, PL.pN, PL.pNo, PL.pBin, PL.negP, PL.pB, PL.pAnd, PL.pOr, PL.pNot, PL.pAndV, PL.pOrV, PL.pNotV, PL.pIf, PL.paNil, PL.paCons, PL.pLst, PL.pTup, PL.pIx, PL.pSl, PL.poNone, PL.poSome, PL.pCall, PL.pCallK, PL.piR1, PL.piR2, PL.piE, PL.pBits, PL.isiP_eq, PL.pLr1, PL.pJoinR, PL.pJoin, PL.pLc_eq, PL.pYes, PL.wipeC, PL.pBor, PL.pBorT, PL.frzs, PL.pSetI, PL.pChainT, PL.isNP, PL.addP_i, PL.addP_s, PL.addP_t, PL.addP_l, PL.catP_l, PL.subP_i, PL.mulP_i, PL.mulP_l, PL.repP_l, PL.mulP_s, PL.fdivP_i, PL.modP_i, PL.powP_i, PL.ltP_i, PL.ltP_s, PL.gtP_i, PL.gtP_s, PL.leP_i, PL.leP_s, PL.geP_i, PL.geP_s, PL.eqP_int, PL.eqP_str, PL.eqP_bl, PL.eqP_lst_lst, PL.eqP_tup_tup, PL.eqP_lst_tup, PL.eqP_tup_lst, PL.neP_int, PL.neP_str, PL.neP_bl, PL.neP_lst_lst, PL.neP_tup_tup, PL.neP_lst_tup, PL.neP_tup_lst, PL.asB_b, PL.asS_s, PL.lenP_lst, PL.itP_lst, PL.ixP_lst, PL.listP_lst_, PL.tupleP_lst_, PL.sumP_lst_, PL.maxP_lst_, PL.minP_lst_, PL.lenP_tup, PL.itP_tup, PL.ixP_tup, PL.listP_tup_, PL.tupleP_tup_, PL.sumP_tup_, PL.maxP_tup_, PL.minP_tup_, PL.lenP_scr, PL.itP_scr, PL.ixP_scr, PL.listP_scr_, PL.tupleP_scr_, PL.sumP_scr_, PL.maxP_scr_, PL.minP_scr_, PL.lenP_str, PL.lenP_dk, PL.itP_str, PL.ixP_str, PL.intP_i, PL.intP_b, PL.rg1_i, PL.rg2_i, PL.lr1_i, PL.lr2_i, PL.maxP_2, PL.maxP_3, PL.minP_2, PL.minP_3, PL.slP_lst, PL.slP_tup, PL.slP_str, PL.slPL_lst, PL.pgTup_t, PL.pgTup_l, PL.pgsCons_c, PL.pgsNil_n, PL.joinRP_l, PL.reprP_i, PL.setP_i, PL.ixE_0, PL.ixE_1, PL.ixE_2, PL.ixE_3, PL.ixE_4, PL.ixE_5, PL.ixE_6, PL.ixE_7, PL.ixE_8, PL.isqrtP_i, PL.reprLP_l, PL.pMkE, PL.pErF, PL.pIsE, PL.pRevS, PL.pRetO, PL.pRetON, PL.divmodP_i, PL.pGet, PL.isi_non_int, PL.isi_non_bool, PL.isi_non_str, PL.isi_non_list, PL.isi_non_tuple, PL.isi_bl_int, PL.isi_bl_bool, PL.isi_bl_str, PL.isi_bl_list, PL.isi_bl_tuple, PL.isi_int_int, PL.isi_int_bool, PL.isi_int_str, PL.isi_int_list, PL.isi_int_tuple, PL.isi_str_int, PL.isi_str_bool, PL.isi_str_str, PL.isi_str_list, PL.isi_str_tuple, PL.isi_tup_int, PL.isi_tup_bool, PL.isi_tup_str, PL.isi_tup_list, PL.isi_tup_tuple, PL.isi_lst_int, PL.isi_lst_bool, PL.isi_lst_str, PL.isi_lst_list, PL.isi_lst_tuple, PL.pickL, List.filterMap_cons, List.filterMap_nil, true_and, decide_true, decide_false, eq_self, Int.zero_add, decide_eq_true_eq, PL.rowE, PL.rowS, PL.startC, List.length_map, List.map_cons, List.map_nil, List.length_cons, List.length_nil, List.append_nil, List.nil_append, List.cons_append, List.replicate_succ, List.replicate_zero, List.set_cons_zero, List.set_cons_succ, List.getElem?_cons_zero, List.getElem?_cons_succ, Nat.reduceAdd, Nat.reduceSub, if_true, Bool.not_true, Bool.not_false, Bool.false_eq_true, if_false])
    have e : leftAt N h 599 = 0 := by
      have hi : 1 * ((2 : Int) ^ 599 - 1) ≤ h * (2 ^ 599 - 1) := Int.mul_le_mul_of_nonneg_right h1 (by have := p1 599; omega)
      have q4 : (2 : Int) ^ 201 ≤ 2 ^ 599 := pow2_le (by decide)
      unfold leftAt
      omega
    show Q (D.int (1 * (N - leftAt N h 599) + E 599 N h - 599 * leftAt N h 599))
    rw [e, E_done h1 N0 e, Int.mul_zero, Int.sub_zero, Int.sub_zero, Int.one_mul]
    exact q'
def N (p : Nat) : D := .int (p : Int)
def N' (p : Nat) : C := .fz (.int (p : Int))
theorem cm {a b : Nat} (ha : a < 2 ^ 600) (hb : b < 2 ^ 600) : CMulX (a : Int) (b : Int) := mulx_ok (a := 600) (b := 600) (by simpa using ha) (by simpa using hb) (by decide)
theorem nm (a b : Nat) : (a : Int) * (b : Int) = ((a * b : Nat) : Int) := (Int.natCast_mul a b).symm
theorem na (a b : Nat) : (a : Int) + (b : Int) = ((a + b : Nat) : Int) := (Int.natCast_add a b).symm
theorem n1 (a : Nat) : (a : Int) + 1 = ((a + 1 : Nat) : Int) := rfl
theorem n2 (a : Nat) : (a : Int) + 2 = ((a + 2 : Nat) : Int) := rfl
theorem n3 (a : Nat) : (a : Int) + 3 = ((a + 3 : Nat) : Int) := rfl
theorem n2m (a : Nat) : 2 * (a : Int) = ((2 * a : Nat) : Int) := (Int.natCast_mul 2 a).symm
theorem cm2 {a : Nat} (ha : a < 2 ^ 600) : CMulX 2 (a : Int) := mulx_ok (a := 2) (b := 600) (by decide) (by simpa using ha) (by decide)
theorem p30 : (10 : Int) ^ (Int.toNat 30) = 1000000000000000000000000000000 := by decide
theorem p15 : (10 : Int) ^ (Int.toNat 15) = 1000000000000000 := by decide
theorem cp30 : CPow 10 30 := by unfold CPow; decide
theorem cp15 : CPow 10 15 := by unfold CPow; decide
theorem half (x t : Nat) (h : 2 * t = x) : ((x : Nat) : Int) / 2 = (t : Int) := by omega
/-- the powers of a base that is reached -/
theorem pw_bd {b w n : Nat} (hb : 1 ≤ b) (h6 : b ≤ 6) (h : cum b w ≤ n) (hn : n < 2 ^ 200) : b ^ (w + 1) < 2 ^ 210 := by
  rw [Nat.pow_succ]
  by_cases hw : w = 0
  · subst hw
    rw [Nat.pow_zero, Nat.one_mul]
    have e : (2 : Nat) ^ 210 = 2 ^ 10 * 2 ^ 200 := by rw [← Nat.pow_add]
    have : 0 < (2 : Nat) ^ 200 := Nat.pow_pos (by decide)
    omega
  · have h2 := pow_le_cum b w (by omega)
    have h3 : b ^ w * b ≤ 2 ^ 200 * 6 := Nat.mul_le_mul (by omega) h6
    have e : (2 : Nat) ^ 210 = 2 ^ 10 * 2 ^ 200 := by rw [← Nat.pow_add]
    omega
theorem w_bd {b w n : Nat} (hb : 1 ≤ b) (h : cum b w ≤ n) : w ≤ n := Nat.le_trans (le_cum hb w) h
theorem big2 : (2 : Nat) ^ 200 < 2 ^ 210 ∧ (2 : Nat) ^ 210 < 2 ^ 600 ∧ (2 : Nat) ^ 110 < 2 ^ 200 ∧ (2 : Nat) ^ 100 < 2 ^ 110 ∧ 1000000000000000000000000000001 < (2 : Nat) ^ 100 := by decide
theorem up1 {n : Nat} (h : n < 2 ^ 200) : n + 3 < 2 ^ 600 := by
  have := big2
  have : (2 : Nat) ^ 210 = 2 ^ 10 * 2 ^ 200 := by rw [← Nat.pow_add]
  omega
def sp_greatest_count : PSp := fun ds P => ∃ b L : Nat, ds = [N b, N L] ∧ 1 ≤ b ∧ b ≤ 6 ∧ L < 2 ^ 100 ∧ ∀ n, Gs b L n → P (N n)
theorem len_greatest_count : ∀ ds P, sp_greatest_count ds P → ds.length = 2 := by rintro _ _ ⟨_, n, rfl, _⟩; rfl
theorem sq_nat {r : Int} {L : Nat} (r0 : 0 ≤ r) (h1 : r * r ≤ ((2 * L : Nat) : Int)) (h2 : ((2 * L : Nat) : Int) < (r + 1) * (r + 1)) : ∃ m : Nat, r = (m : Int) ∧ m * m ≤ 2 * L ∧ 2 * L < (m + 1) * (m + 1) := by
  obtain ⟨m, rfl⟩ := Int.eq_ofNat_of_zero_le r0
  refine ⟨m, rfl, ?_, ?_⟩
  · rw [nm] at h1; omega
  · rw [n1, nm] at h2; omega
theorem m_le {m L : Nat} (h : m * m ≤ 2 * L) : m ≤ 2 * L := by
  cases m with
  | zero => omega
  | succ m =>
    have : (m + 1) * 1 ≤ (m + 1) * (m + 1) := Nat.mul_le_mul_left _ (by omega)
    omega
theorem w_greatest_count : ∀ ds Q, sp_greatest_count ds Q → b_greatest_count { nx := fun _ => Q .non, rt := Q } (startC ["size", "length", "count", "left", "letters", "texts"] ds) := by
  rintro _ Q ⟨b, L, rfl, b1, b6, hL, q⟩
  have bg := big2
  simp only [PL.startC, List.map_cons, List.map_nil, List.length_cons, List.length_nil, Nat.reduceAdd, Nat.reduceSub, List.replicate_succ, List.replicate_zero, List.cons_append, List.nil_append, List.append_nil]
  unfold b_greatest_count
  simp only [show N b = D.int (b : Int) from rfl, show N L = D.int (L : Int) from rfl]
  (try simp only [PL.pSeq, PL.pNext, PL.pSet, PL.pSetO, PL.pRet, PL.pRetN, PL.pIfS, PL.pFor, PL.pWhile, PL.pBrk, PL.pCnt, PL.pDrop, PL.pApp, PL.pAsg, PL.pgN, PL.pFrz, PL.frz, PL.pC, PL.pN, PL.pNo, PL.pBin, PL.negP, PL.pB, PL.pAnd, PL.pOr, PL.pNot, PL.pAndV, PL.pOrV, PL.pNotV, PL.pIf, PL.paNil, PL.paCons, PL.pLst, PL.pTup, PL.pIx, PL.pSl, PL.poNone, PL.poSome, PL.pCall, PL.pCallK, PL.piR1, PL.piR2, PL.piE, PL.pBits, PL.isiP_eq, PL.pLr1, PL.pJoinR, PL.pJoin, PL.pLc_eq, PL.pYes, PL.wipeC, PL.pBor, PL.pBorT, PL.frzs, PL.pSetI, PL.pChainT, PL.isNP, PL.addP_i, PL.addP_s, PL.addP_t, PL.addP_l, PL.catP_l, PL.subP_i, PL.mulP_i, PL.mulP_l, PL.repP_l, PL.mulP_s, PL.fdivP_i, PL.modP_i, PL.powP_i, PL.ltP_i, PL.ltP_s, PL.gtP_i, PL.gtP_s, PL.leP_i, PL.leP_s, PL.geP_i, PL.geP_s, PL.eqP_int, PL.eqP_str, PL.eqP_bl, PL.eqP_lst_lst, PL.eqP_tup_tup, PL.eqP_lst_tup, PL.eqP_tup_lst, PL.neP_int, PL.neP_str, PL.neP_bl, PL.neP_lst_lst, PL.neP_tup_tup, PL.neP_lst_tup, PL.neP_tup_lst, PL.asB_b, PL.asS_s, PL.lenP_lst, PL.itP_lst, PL.ixP_lst, PL.listP_lst_, PL.tupleP_lst_, PL.sumP_lst_, PL.maxP_lst_, PL.minP_lst_, PL.lenP_tup, PL.itP_tup, PL.ixP_tup, PL.listP_tup_, PL.tupleP_tup_, PL.sumP_tup_, PL.maxP_tup_, PL.minP_tup_, PL.lenP_scr, PL.itP_scr, PL.ixP_scr, PL.listP_scr_, PL.tupleP_scr_, PL.sumP_scr_, PL.maxP_scr_, PL.minP_scr_, PL.lenP_str, PL.lenP_dk, PL.itP_str, PL.ixP_str, PL.intP_i, PL.intP_b, PL.rg1_i, PL.rg2_i, PL.lr1_i, PL.lr2_i, PL.maxP_2, PL.maxP_3, PL.minP_2, PL.minP_3, PL.slP_lst, PL.slP_tup, PL.slP_str, PL.slPL_lst, PL.pgTup_t, PL.pgTup_l, PL.pgsCons_c, PL.pgsNil_n, PL.joinRP_l, PL.reprP_i, PL.setP_i, PL.ixE_0, PL.ixE_1, PL.ixE_2, PL.ixE_3, PL.ixE_4, PL.ixE_5, PL.ixE_6, PL.ixE_7, PL.ixE_8, PL.isqrtP_i, PL.reprLP_l, PL.pMkE, PL.pErF, PL.pIsE, PL.pRevS, PL.pRetO, PL.pRetON, PL.divmodP_i, PL.pGet, PL.isi_non_int, PL.isi_non_bool, PL.isi_non_str, PL.isi_non_list, PL.isi_non_tuple, PL.isi_bl_int, PL.isi_bl_bool, PL.isi_bl_str, PL.isi_bl_list, PL.isi_bl_tuple, PL.isi_int_int, PL.isi_int_bool, PL.isi_int_str, PL.isi_int_list, PL.isi_int_tuple, PL.isi_str_int, PL.isi_str_bool, PL.isi_str_str, PL.isi_str_list, PL.isi_str_tuple, PL.isi_tup_int, PL.isi_tup_bool, PL.isi_tup_str, PL.isi_tup_list, PL.isi_tup_tuple, PL.isi_lst_int, PL.isi_lst_bool, PL.isi_lst_str, PL.isi_lst_list, PL.isi_lst_tuple, PL.pickL, List.filterMap_cons, List.filterMap_nil, true_and, decide_true, decide_false, eq_self, Int.zero_add, decide_eq_true_eq, PL.rowE, PL.rowS, PL.startC, List.length_map, List.map_cons, List.map_nil, List.length_cons, List.length_nil, List.append_nil, List.nil_append, List.cons_append, List.replicate_succ, List.replicate_zero, List.set_cons_zero, List.set_cons_succ, List.getElem?_cons_zero, List.getElem?_cons_succ, Nat.reduceAdd, Nat.reduceSub, if_true, Bool.not_true, Bool.not_false, Bool.false_eq_true, if_false])
  split
  · rename_i e
    obtain rfl : b = 1 := by omega
    refine ⟨cm2 (by omega), ?_⟩
    rw [n2m]
    refine ⟨by omega, ?_, fun r r0 r1 r2 => ?_⟩
    · have h2 : (2 * L : Nat) < 2 ^ 600 := by omega
      have e : ((2 ^ 600 : Nat) : Int) = 2 ^ 600 := by simp
      have : (2 : Int) ^ 600 ≤ 2 ^ 2000 := pow2_le (by decide)
      omega
    · obtain ⟨m, rfl, m1, m2⟩ := sq_nat r0 r1 r2
      have ml := m_le m1
      have tm := tot_one m
      have tm1 := tot_one (m + 1)
      have e1 : (m + 1) * (m + 1) = m * m + 2 * m + 1 := by simp only [Nat.mul_add, Nat.add_mul]; omega
      have e2 : m * (m + 1) = m * m + m := by simp only [Nat.mul_add]; omega
      have e3 : (m + 1) * (m + 1 + 1) = m * m + 3 * m + 2 := by simp only [Nat.mul_add, Nat.add_mul]; omega
      (try simp only [PL.pSeq, PL.pNext, PL.pSet, PL.pSetO, PL.pRet, PL.pRetN, PL.pIfS, PL.pFor, PL.pWhile, PL.pBrk, PL.pCnt, PL.pDrop, PL.pApp, PL.pAsg, PL.pgN, PL.pFrz, PL.frz, PL.pC, PL.pN, PL.pNo, PL.pBin, PL.negP, PL.pB, PL.pAnd, PL.pOr, PL.pNot, PL.pAndV, PL.pOrV, PL.pNotV, PL.pIf, PL.paNil, PL.paCons, PL.pLst, PL.pTup, PL.pIx, PL.pSl, PL.poNone, PL.poSome, PL.pCall, PL.pCallK, PL.piR1, PL.piR2, PL.piE, PL.pBits, PL.isiP_eq, PL.pLr1, PL.pJoinR, PL.pJoin, PL.pLc_eq, PL.pYes, PL.wipeC, PL.pBor, PL.pBorT, PL.frzs, PL.pSetI, PL.pChainT, PL.isNP, PL.addP_i, PL.addP_s, PL.addP_t, PL.addP_l, PL.catP_l, PL.subP_i, PL.mulP_i, PL.mulP_l, PL.repP_l, PL.mulP_s, PL.fdivP_i, PL.modP_i, PL.powP_i, PL.ltP_i, PL.ltP_s, PL.gtP_i, PL.gtP_s, PL.leP_i, PL.leP_s, PL.geP_i, PL.geP_s, PL.eqP_int, PL.eqP_str, PL.eqP_bl, PL.eqP_lst_lst, PL.eqP_tup_tup, PL.eqP_lst_tup, PL.eqP_tup_lst, PL.neP_int, PL.neP_str, PL.neP_bl, PL.neP_lst_lst, PL.neP_tup_tup, PL.neP_lst_tup, PL.neP_tup_lst, PL.asB_b, PL.asS_s, PL.lenP_lst, PL.itP_lst, PL.ixP_lst, PL.listP_lst_, PL.tupleP_lst_, PL.sumP_lst_, PL.maxP_lst_, PL.minP_lst_, PL.lenP_tup, PL.itP_tup, PL.ixP_tup, PL.listP_tup_, PL.tupleP_tup_, PL.sumP_tup_, PL.maxP_tup_, PL.minP_tup_, PL.lenP_scr, PL.itP_scr, PL.ixP_scr, PL.listP_scr_, PL.tupleP_scr_, PL.sumP_scr_, PL.maxP_scr_, PL.minP_scr_, PL.lenP_str, PL.lenP_dk, PL.itP_str, PL.ixP_str, PL.intP_i, PL.intP_b, PL.rg1_i, PL.rg2_i, PL.lr1_i, PL.lr2_i, PL.maxP_2, PL.maxP_3, PL.minP_2, PL.minP_3, PL.slP_lst, PL.slP_tup, PL.slP_str, PL.slPL_lst, PL.pgTup_t, PL.pgTup_l, PL.pgsCons_c, PL.pgsNil_n, PL.joinRP_l, PL.reprP_i, PL.setP_i, PL.ixE_0, PL.ixE_1, PL.ixE_2, PL.ixE_3, PL.ixE_4, PL.ixE_5, PL.ixE_6, PL.ixE_7, PL.ixE_8, PL.isqrtP_i, PL.reprLP_l, PL.pMkE, PL.pErF, PL.pIsE, PL.pRevS, PL.pRetO, PL.pRetON, PL.divmodP_i, PL.pGet, PL.isi_non_int, PL.isi_non_bool, PL.isi_non_str, PL.isi_non_list, PL.isi_non_tuple, PL.isi_bl_int, PL.isi_bl_bool, PL.isi_bl_str, PL.isi_bl_list, PL.isi_bl_tuple, PL.isi_int_int, PL.isi_int_bool, PL.isi_int_str, PL.isi_int_list, PL.isi_int_tuple, PL.isi_str_int, PL.isi_str_bool, PL.isi_str_str, PL.isi_str_list, PL.isi_str_tuple, PL.isi_tup_int, PL.isi_tup_bool, PL.isi_tup_str, PL.isi_tup_list, PL.isi_tup_tuple, PL.isi_lst_int, PL.isi_lst_bool, PL.isi_lst_str, PL.isi_lst_list, PL.isi_lst_tuple, PL.pickL, List.filterMap_cons, List.filterMap_nil, true_and, decide_true, decide_false, eq_self, Int.zero_add, decide_eq_true_eq, PL.rowE, PL.rowS, PL.startC, List.length_map, List.map_cons, List.map_nil, List.length_cons, List.length_nil, List.append_nil, List.nil_append, List.cons_append, List.replicate_succ, List.replicate_zero, List.set_cons_zero, List.set_cons_succ, List.getElem?_cons_zero, List.getElem?_cons_succ, Nat.reduceAdd, Nat.reduceSub, if_true, Bool.not_true, Bool.not_false, Bool.false_eq_true, if_false])
      rw [n1, nm]
      refine ⟨cm (by omega) (by omega), cm2 (by omega), ?_⟩
      split
      · rename_i hg
        obtain ⟨j, rfl⟩ : ∃ j, m = j + 1 := ⟨m - 1, by
          have : m ≠ 0 := fun z => by subst z; omega
          omega⟩
        have tj := tot_one j
        have e4 : (j + 1) * (j + 1) = j * (j + 1) + (j + 1) := by rw [Nat.add_mul, Nat.one_mul]
        rw [show (((j + 1 : Nat) : Int) - 1) = (j : Int) by omega]
        exact q j ⟨by omega, by omega⟩
      · rename_i hg
        exact q m ⟨by omega, by omega⟩
  · refine ⟨fun m env => ∃ (w : Nat), tot b (cum b w) ≤ L ∧ m = L - tot b (cum b w) ∧ env = [N' b, N' L, N' (cum b w), N' (L - tot b (cum b w)), N' (w + 1), N' (b ^ (w + 1))], ⟨_, 0, Nat.zero_le _, rfl, ?_⟩, ?_⟩
    · unfold N'
      rw [Nat.pow_one]; rfl
    · rintro m env ⟨w, ht, rfl, rfl⟩
      have hc : cum b w ≤ L := Nat.le_trans (le_tot b1 _) ht
      have hp := pw_bd b1 b6 hc (by omega)
      have hw := w_bd b1 hc
      unfold N'
      (try simp only [PL.pSeq, PL.pNext, PL.pSet, PL.pSetO, PL.pRet, PL.pRetN, PL.pIfS, PL.pFor, PL.pWhile, PL.pBrk, PL.pCnt, PL.pDrop, PL.pApp, PL.pAsg, PL.pgN, PL.pFrz, PL.frz, PL.pC, PL.pN, PL.pNo, PL.pBin, PL.negP, PL.pB, PL.pAnd, PL.pOr, PL.pNot, PL.pAndV, PL.pOrV, PL.pNotV, PL.pIf, PL.paNil, PL.paCons, PL.pLst, PL.pTup, PL.pIx, PL.pSl, PL.poNone, PL.poSome, PL.pCall, PL.pCallK, PL.piR1, PL.piR2, PL.piE, PL.pBits, PL.isiP_eq, PL.pLr1, PL.pJoinR, PL.pJoin, PL.pLc_eq, PL.pYes, PL.wipeC, PL.pBor, PL.pBorT, PL.frzs, PL.pSetI, PL.pChainT, PL.isNP, PL.addP_i, PL.addP_s, PL.addP_t, PL.addP_l, PL.catP_l, PL.subP_i, PL.mulP_i, PL.mulP_l, PL.repP_l, PL.mulP_s, PL.fdivP_i, PL.modP_i, PL.powP_i, PL.ltP_i, PL.ltP_s, PL.gtP_i, PL.gtP_s, PL.leP_i, PL.leP_s, PL.geP_i, PL.geP_s, PL.eqP_int, PL.eqP_str, PL.eqP_bl, PL.eqP_lst_lst, PL.eqP_tup_tup, PL.eqP_lst_tup, PL.eqP_tup_lst, PL.neP_int, PL.neP_str, PL.neP_bl, PL.neP_lst_lst, PL.neP_tup_tup, PL.neP_lst_tup, PL.neP_tup_lst, PL.asB_b, PL.asS_s, PL.lenP_lst, PL.itP_lst, PL.ixP_lst, PL.listP_lst_, PL.tupleP_lst_, PL.sumP_lst_, PL.maxP_lst_, PL.minP_lst_, PL.lenP_tup, PL.itP_tup, PL.ixP_tup, PL.listP_tup_, PL.tupleP_tup_, PL.sumP_tup_, PL.maxP_tup_, PL.minP_tup_, PL.lenP_scr, PL.itP_scr, PL.ixP_scr, PL.listP_scr_, PL.tupleP_scr_, PL.sumP_scr_, PL.maxP_scr_, PL.minP_scr_, PL.lenP_str, PL.lenP_dk, PL.itP_str, PL.ixP_str, PL.intP_i, PL.intP_b, PL.rg1_i, PL.rg2_i, PL.lr1_i, PL.lr2_i, PL.maxP_2, PL.maxP_3, PL.minP_2, PL.minP_3, PL.slP_lst, PL.slP_tup, PL.slP_str, PL.slPL_lst, PL.pgTup_t, PL.pgTup_l, PL.pgsCons_c, PL.pgsNil_n, PL.joinRP_l, PL.reprP_i, PL.setP_i, PL.ixE_0, PL.ixE_1, PL.ixE_2, PL.ixE_3, PL.ixE_4, PL.ixE_5, PL.ixE_6, PL.ixE_7, PL.ixE_8, PL.isqrtP_i, PL.reprLP_l, PL.pMkE, PL.pErF, PL.pIsE, PL.pRevS, PL.pRetO, PL.pRetON, PL.divmodP_i, PL.pGet, PL.isi_non_int, PL.isi_non_bool, PL.isi_non_str, PL.isi_non_list, PL.isi_non_tuple, PL.isi_bl_int, PL.isi_bl_bool, PL.isi_bl_str, PL.isi_bl_list, PL.isi_bl_tuple, PL.isi_int_int, PL.isi_int_bool, PL.isi_int_str, PL.isi_int_list, PL.isi_int_tuple, PL.isi_str_int, PL.isi_str_bool, PL.isi_str_str, PL.isi_str_list, PL.isi_str_tuple, PL.isi_tup_int, PL.isi_tup_bool, PL.isi_tup_str, PL.isi_tup_list, PL.isi_tup_tuple, PL.isi_lst_int, PL.isi_lst_bool, PL.isi_lst_str, PL.isi_lst_list, PL.isi_lst_tuple, PL.pickL, List.filterMap_cons, List.filterMap_nil, true_and, decide_true, decide_false, eq_self, Int.zero_add, decide_eq_true_eq, PL.rowE, PL.rowS, PL.startC, List.length_map, List.map_cons, List.map_nil, List.length_cons, List.length_nil, List.append_nil, List.nil_append, List.cons_append, List.replicate_succ, List.replicate_zero, List.set_cons_zero, List.set_cons_succ, List.getElem?_cons_zero, List.getElem?_cons_succ, Nat.reduceAdd, Nat.reduceSub, if_true, Bool.not_true, Bool.not_false, Bool.false_eq_true, if_false])
      rw [nm]
      refine ⟨cm (by omega) (by omega), ?_⟩
      split
      · rename_i hl
        have hm := tot_more b1 (Nat.le_refl (cum b w)) (b ^ (w + 1)) (Nat.le_refl _)
        have hs : cum b (w + 1) = cum b w + b ^ (w + 1) := rfl
        rw [Nat.mul_comm (w + 1)] at hm
        rw [← hs] at hm
        have hpos : 1 ≤ b ^ (w + 1) * (w + 1) := Nat.mul_pos (Nat.pow_pos b1) (by omega)
        rw [nm]
        refine ⟨cm (by omega) (by omega), cm (by omega) (by omega), _, ?_, w + 1, ?_, rfl, ?_⟩
        · omega
        · omega
        · rw [na, n1, show ((L - tot b (cum b w) : Nat) : Int) - ((b ^ (w + 1) * (w + 1) : Nat) : Int) = ((L - tot b (cum b (w + 1)) : Nat) : Int) by omega, ← Nat.pow_succ]
          rfl
      · rename_i hl
        refine ⟨cdivw 250 (by omega) ?_ (by decide), ?_⟩
        · have : (w + 1 : Nat) < 2 ^ 210 := by omega
          have e : ((2 ^ 210 : Nat) : Int) = 2 ^ 210 := by simp
          have : (2 : Int) ^ 210 ≤ 2 ^ 250 := pow2_le (by decide)
          omega
        · rw [show ((L - tot b (cum b w) : Nat) : Int) / ((w + 1 : Nat) : Int) = (((L - tot b (cum b w)) / (w + 1) : Nat) : Int) from rfl, na]
          exact q _ (Gs.of b1 ht (by omega))
def Ls (L n : Nat) : Prop := 2 * L ≤ n * (n + 3) ∧ (n = 0 ∨ (n - 1) * (n + 2) < 2 * L)
theorem gs_ex {b : Nat} (hb : 1 ≤ b) (L : Nat) : ∃ n, Gs b L n := by
  have key : ∀ k, tot b k ≤ L → ∀ f, L < tot b (k + f) → ∃ n, Gs b L n := by
    intro k hk f
    induction f generalizing k with
    | zero => intro h; rw [Nat.add_zero] at h; omega
    | succ f ih =>
      intro h
      by_cases c : L < tot b (k + 1)
      · exact ⟨k, hk, c⟩
      · exact ih (k + 1) (by omega) (by rw [show k + 1 + f = k + (f + 1) by omega]; exact h)
  have := le_tot hb (L + 1)
  exact key 0 (Nat.zero_le _) (L + 1) (by rw [Nat.zero_add]; omega)
theorem ls_gs {L n : Nat} (h : Ls L n) : Gs 1 L n := least_gs h.1 h.2
theorem whole_N {n : Nat} {P : D → Prop} : sp_law_whole [N n] P = P (.bl true) := sp_law_whole_eq
theorem big27 {v x : Int} {k : Nat} (v0 : 0 ≤ v) (v1 : v < 2 ^ (27 * k)) (x1 : x < 100000000) : v * 100000000 + x < 2 ^ (27 * (k + 1)) := by
  have e : (2 : Int) ^ (27 * (k + 1)) = 2 ^ (27 * k) * 2 ^ 27 := by rw [← Int.pow_add]; rfl
  have e2 : (2 : Int) ^ 27 = 134217728 := by decide
  rw [e, e2]; omega
/-! widths, blocks -/
def sp_width : PSp := fun ds P => ∃ n : Int, ds = [.int n] ∧ P (.int (lw n : Nat))
theorem len_width : ∀ ds P, sp_width ds P → ds.length = 1 := by rintro _ _ ⟨n, rfl, _⟩; rfl
theorem w_width : ∀ ds Q, sp_width ds Q → b_width { nx := fun _ => Q .non, rt := Q } (startC ["options"] ds) := by
  rintro _ Q ⟨n, rfl, h⟩
  unfold b_width
  (try simp only [PL.pSeq, PL.pNext, PL.pSet, PL.pSetO, PL.pRet, PL.pRetN, PL.pIfS, PL.pFor, PL.pWhile, PL.pBrk, PL.pCnt, PL.pDrop, PL.pApp, PL.pAsg, PL.pgN, PL.pFrz, PL.frz, PL.pC, PL.pN, PL.pNo, PL.pBin, PL.negP, PL.pB, PL.pAnd, PL.pOr, PL.pNot, PL.pAndV, PL.pOrV, PL.pNotV, PL.pIf, PL.paNil, PL.paCons, PL.pLst, PL.pTup, PL.pIx, PL.pSl, PL.poNone, PL.poSome, PL.pCall, PL.pCallK, PL.piR1, PL.piR2, PL.piE, PL.pBits, PL.isiP_eq, PL.pLr1, PL.pJoinR, PL.pJoin, PL.pLc_eq, PL.pYes, PL.wipeC, PL.pBor, PL.pBorT, PL.frzs, PL.pSetI, PL.pChainT, PL.isNP, PL.addP_i, PL.addP_s, PL.addP_t, PL.addP_l, PL.catP_l, PL.subP_i, PL.mulP_i, PL.mulP_l, PL.repP_l, PL.mulP_s, PL.fdivP_i, PL.modP_i, PL.powP_i, PL.ltP_i, PL.ltP_s, PL.gtP_i, PL.gtP_s, PL.leP_i, PL.leP_s, PL.geP_i, PL.geP_s, PL.eqP_int, PL.eqP_str, PL.eqP_bl, PL.eqP_lst_lst, PL.eqP_tup_tup, PL.eqP_lst_tup, PL.eqP_tup_lst, PL.neP_int, PL.neP_str, PL.neP_bl, PL.neP_lst_lst, PL.neP_tup_tup, PL.neP_lst_tup, PL.neP_tup_lst, PL.asB_b, PL.asS_s, PL.lenP_lst, PL.itP_lst, PL.ixP_lst, PL.listP_lst_, PL.tupleP_lst_, PL.sumP_lst_, PL.maxP_lst_, PL.minP_lst_, PL.lenP_tup, PL.itP_tup, PL.ixP_tup, PL.listP_tup_, PL.tupleP_tup_, PL.sumP_tup_, PL.maxP_tup_, PL.minP_tup_, PL.lenP_scr, PL.itP_scr, PL.ixP_scr, PL.listP_scr_, PL.tupleP_scr_, PL.sumP_scr_, PL.maxP_scr_, PL.minP_scr_, PL.lenP_str, PL.lenP_dk, PL.itP_str, PL.ixP_str, PL.intP_i, PL.intP_b, PL.rg1_i, PL.rg2_i, PL.lr1_i, PL.lr2_i, PL.maxP_2, PL.maxP_3, PL.minP_2, PL.minP_3, PL.slP_lst, PL.slP_tup, PL.slP_str, PL.slPL_lst, PL.pgTup_t, PL.pgTup_l, PL.pgsCons_c, PL.pgsNil_n, PL.joinRP_l, PL.reprP_i, PL.setP_i, PL.ixE_0, PL.ixE_1, PL.ixE_2, PL.ixE_3, PL.ixE_4, PL.ixE_5, PL.ixE_6, PL.ixE_7, PL.ixE_8, PL.isqrtP_i, PL.reprLP_l, PL.pMkE, PL.pErF, PL.pIsE, PL.pRevS, PL.pRetO, PL.pRetON, PL.divmodP_i, PL.pGet, PL.isi_non_int, PL.isi_non_bool, PL.isi_non_str, PL.isi_non_list, PL.isi_non_tuple, PL.isi_bl_int, PL.isi_bl_bool, PL.isi_bl_str, PL.isi_bl_list, PL.isi_bl_tuple, PL.isi_int_int, PL.isi_int_bool, PL.isi_int_str, PL.isi_int_list, PL.isi_int_tuple, PL.isi_str_int, PL.isi_str_bool, PL.isi_str_str, PL.isi_str_list, PL.isi_str_tuple, PL.isi_tup_int, PL.isi_tup_bool, PL.isi_tup_str, PL.isi_tup_list, PL.isi_tup_tuple, PL.isi_lst_int, PL.isi_lst_bool, PL.isi_lst_str, PL.isi_lst_list, PL.isi_lst_tuple, PL.pickL, List.filterMap_cons, List.filterMap_nil, true_and, decide_true, decide_false, eq_self, Int.zero_add, decide_eq_true_eq, PL.rowE, PL.rowS, PL.startC, List.length_map, List.map_cons, List.map_nil, List.length_cons, List.length_nil, List.append_nil, List.nil_append, List.cons_append, List.replicate_succ, List.replicate_zero, List.set_cons_zero, List.set_cons_succ, List.getElem?_cons_zero, List.getElem?_cons_succ, Nat.reduceAdd, Nat.reduceSub, if_true, Bool.not_true, Bool.not_false, Bool.false_eq_true, if_false])
  exact h
theorem sp_width_eq {n : Int} {P : D → Prop} : sp_width [.int n] P = P (.int (lw n : Nat)) := propext ⟨fun ⟨m, e, h⟩ => by cases e; exact h, fun h => ⟨n, rfl, h⟩⟩
def sp_law_width : PSp := fun ds P => ∃ n : Int, ds = [.int n] ∧ 1 ≤ n ∧ n ≤ 2 ^ 400 ∧ P (.int (lw n : Nat))
theorem len_law_width : ∀ ds P, sp_law_width ds P → ds.length = 1 := by rintro _ _ ⟨n, rfl, _⟩; rfl
theorem w_law_width : ∀ ds Q, sp_law_width ds Q → b_law_width { nx := fun _ => Q .non, rt := Q } (startC ["options", "wide", "top", "k"] ds) := by
  rintro _ Q ⟨n, rfl, h0, h1, h⟩
  unfold b_law_width
  (try simp only [PL.pSeq, PL.pNext, PL.pSet, PL.pSetO, PL.pRet, PL.pRetN, PL.pIfS, PL.pFor, PL.pWhile, PL.pBrk, PL.pCnt, PL.pDrop, PL.pApp, PL.pAsg, PL.pgN, PL.pFrz, PL.frz, PL.pC, PL.pN, PL.pNo, PL.pBin, PL.negP, PL.pB, PL.pAnd, PL.pOr, PL.pNot, PL.pAndV, PL.pOrV, PL.pNotV, PL.pIf, PL.paNil, PL.paCons, PL.pLst, PL.pTup, PL.pIx, PL.pSl, PL.poNone, PL.poSome, PL.pCall, PL.pCallK, PL.piR1, PL.piR2, PL.piE, PL.pBits, PL.isiP_eq, PL.pLr1, PL.pJoinR, PL.pJoin, PL.pLc_eq, PL.pYes, PL.wipeC, PL.pBor, PL.pBorT, PL.frzs, PL.pSetI, PL.pChainT, PL.isNP, PL.addP_i, PL.addP_s, PL.addP_t, PL.addP_l, PL.catP_l, PL.subP_i, PL.mulP_i, PL.mulP_l, PL.repP_l, PL.mulP_s, PL.fdivP_i, PL.modP_i, PL.powP_i, PL.ltP_i, PL.ltP_s, PL.gtP_i, PL.gtP_s, PL.leP_i, PL.leP_s, PL.geP_i, PL.geP_s, PL.eqP_int, PL.eqP_str, PL.eqP_bl, PL.eqP_lst_lst, PL.eqP_tup_tup, PL.eqP_lst_tup, PL.eqP_tup_lst, PL.neP_int, PL.neP_str, PL.neP_bl, PL.neP_lst_lst, PL.neP_tup_tup, PL.neP_lst_tup, PL.neP_tup_lst, PL.asB_b, PL.asS_s, PL.lenP_lst, PL.itP_lst, PL.ixP_lst, PL.listP_lst_, PL.tupleP_lst_, PL.sumP_lst_, PL.maxP_lst_, PL.minP_lst_, PL.lenP_tup, PL.itP_tup, PL.ixP_tup, PL.listP_tup_, PL.tupleP_tup_, PL.sumP_tup_, PL.maxP_tup_, PL.minP_tup_, PL.lenP_scr, PL.itP_scr, PL.ixP_scr, PL.listP_scr_, PL.tupleP_scr_, PL.sumP_scr_, PL.maxP_scr_, PL.minP_scr_, PL.lenP_str, PL.lenP_dk, PL.itP_str, PL.ixP_str, PL.intP_i, PL.intP_b, PL.rg1_i, PL.rg2_i, PL.lr1_i, PL.lr2_i, PL.maxP_2, PL.maxP_3, PL.minP_2, PL.minP_3, PL.slP_lst, PL.slP_tup, PL.slP_str, PL.slPL_lst, PL.pgTup_t, PL.pgTup_l, PL.pgsCons_c, PL.pgsNil_n, PL.joinRP_l, PL.reprP_i, PL.setP_i, PL.ixE_0, PL.ixE_1, PL.ixE_2, PL.ixE_3, PL.ixE_4, PL.ixE_5, PL.ixE_6, PL.ixE_7, PL.ixE_8, PL.isqrtP_i, PL.reprLP_l, PL.pMkE, PL.pErF, PL.pIsE, PL.pRevS, PL.pRetO, PL.pRetON, PL.divmodP_i, PL.pGet, PL.isi_non_int, PL.isi_non_bool, PL.isi_non_str, PL.isi_non_list, PL.isi_non_tuple, PL.isi_bl_int, PL.isi_bl_bool, PL.isi_bl_str, PL.isi_bl_list, PL.isi_bl_tuple, PL.isi_int_int, PL.isi_int_bool, PL.isi_int_str, PL.isi_int_list, PL.isi_int_tuple, PL.isi_str_int, PL.isi_str_bool, PL.isi_str_str, PL.isi_str_list, PL.isi_str_tuple, PL.isi_tup_int, PL.isi_tup_bool, PL.isi_tup_str, PL.isi_tup_list, PL.isi_tup_tuple, PL.isi_lst_int, PL.isi_lst_bool, PL.isi_lst_str, PL.isi_lst_list, PL.isi_lst_tuple, PL.pickL, List.filterMap_cons, List.filterMap_nil, true_and, decide_true, decide_false, eq_self, Int.zero_add, decide_eq_true_eq, PL.rowE, PL.rowS, PL.startC, List.length_map, List.map_cons, List.map_nil, List.length_cons, List.length_nil, List.append_nil, List.nil_append, List.cons_append, List.replicate_succ, List.replicate_zero, List.set_cons_zero, List.set_cons_succ, List.getElem?_cons_zero, List.getElem?_cons_succ, Nat.reduceAdd, Nat.reduceSub, if_true, Bool.not_true, Bool.not_false, Bool.false_eq_true, if_false])
  have hw := (lw_le (w := 400) h0).mpr h1
  have key : ∀ k, k ≤ lw n → (2 : Int) ^ k ≥ n → lw n = k := fun k hk h2 => by have := (lw_le (w := k) h0).mpr h2; omega
  refine ⟨⟨by decide, by decide⟩, ?_⟩
  refine for_r (W := fun i env => i ≤ lw n ∧ ∃ (x : C), env = [C.fz (.int n), C.fz (.int i), C.fz (.int (2 ^ i)), x]) ⟨by omega, .un, by rw [Int.pow_zero]; rfl⟩ ?_ ?_
  · rintro k env hk ⟨hi, x, rfl⟩
    (try simp only [PL.pSeq, PL.pNext, PL.pSet, PL.pSetO, PL.pRet, PL.pRetN, PL.pIfS, PL.pFor, PL.pWhile, PL.pBrk, PL.pCnt, PL.pDrop, PL.pApp, PL.pAsg, PL.pgN, PL.pFrz, PL.frz, PL.pC, PL.pN, PL.pNo, PL.pBin, PL.negP, PL.pB, PL.pAnd, PL.pOr, PL.pNot, PL.pAndV, PL.pOrV, PL.pNotV, PL.pIf, PL.paNil, PL.paCons, PL.pLst, PL.pTup, PL.pIx, PL.pSl, PL.poNone, PL.poSome, PL.pCall, PL.pCallK, PL.piR1, PL.piR2, PL.piE, PL.pBits, PL.isiP_eq, PL.pLr1, PL.pJoinR, PL.pJoin, PL.pLc_eq, PL.pYes, PL.wipeC, PL.pBor, PL.pBorT, PL.frzs, PL.pSetI, PL.pChainT, PL.isNP, PL.addP_i, PL.addP_s, PL.addP_t, PL.addP_l, PL.catP_l, PL.subP_i, PL.mulP_i, PL.mulP_l, PL.repP_l, PL.mulP_s, PL.fdivP_i, PL.modP_i, PL.powP_i, PL.ltP_i, PL.ltP_s, PL.gtP_i, PL.gtP_s, PL.leP_i, PL.leP_s, PL.geP_i, PL.geP_s, PL.eqP_int, PL.eqP_str, PL.eqP_bl, PL.eqP_lst_lst, PL.eqP_tup_tup, PL.eqP_lst_tup, PL.eqP_tup_lst, PL.neP_int, PL.neP_str, PL.neP_bl, PL.neP_lst_lst, PL.neP_tup_tup, PL.neP_lst_tup, PL.neP_tup_lst, PL.asB_b, PL.asS_s, PL.lenP_lst, PL.itP_lst, PL.ixP_lst, PL.listP_lst_, PL.tupleP_lst_, PL.sumP_lst_, PL.maxP_lst_, PL.minP_lst_, PL.lenP_tup, PL.itP_tup, PL.ixP_tup, PL.listP_tup_, PL.tupleP_tup_, PL.sumP_tup_, PL.maxP_tup_, PL.minP_tup_, PL.lenP_scr, PL.itP_scr, PL.ixP_scr, PL.listP_scr_, PL.tupleP_scr_, PL.sumP_scr_, PL.maxP_scr_, PL.minP_scr_, PL.lenP_str, PL.lenP_dk, PL.itP_str, PL.ixP_str, PL.intP_i, PL.intP_b, PL.rg1_i, PL.rg2_i, PL.lr1_i, PL.lr2_i, PL.maxP_2, PL.maxP_3, PL.minP_2, PL.minP_3, PL.slP_lst, PL.slP_tup, PL.slP_str, PL.slPL_lst, PL.pgTup_t, PL.pgTup_l, PL.pgsCons_c, PL.pgsNil_n, PL.joinRP_l, PL.reprP_i, PL.setP_i, PL.ixE_0, PL.ixE_1, PL.ixE_2, PL.ixE_3, PL.ixE_4, PL.ixE_5, PL.ixE_6, PL.ixE_7, PL.ixE_8, PL.isqrtP_i, PL.reprLP_l, PL.pMkE, PL.pErF, PL.pIsE, PL.pRevS, PL.pRetO, PL.pRetON, PL.divmodP_i, PL.pGet, PL.isi_non_int, PL.isi_non_bool, PL.isi_non_str, PL.isi_non_list, PL.isi_non_tuple, PL.isi_bl_int, PL.isi_bl_bool, PL.isi_bl_str, PL.isi_bl_list, PL.isi_bl_tuple, PL.isi_int_int, PL.isi_int_bool, PL.isi_int_str, PL.isi_int_list, PL.isi_int_tuple, PL.isi_str_int, PL.isi_str_bool, PL.isi_str_str, PL.isi_str_list, PL.isi_str_tuple, PL.isi_tup_int, PL.isi_tup_bool, PL.isi_tup_str, PL.isi_tup_list, PL.isi_tup_tuple, PL.isi_lst_int, PL.isi_lst_bool, PL.isi_lst_str, PL.isi_lst_list, PL.isi_lst_tuple, PL.pickL, List.filterMap_cons, List.filterMap_nil, true_and, decide_true, decide_false, eq_self, Int.zero_add, decide_eq_true_eq, PL.rowE, PL.rowS, PL.startC, List.length_map, List.map_cons, List.map_nil, List.length_cons, List.length_nil, List.append_nil, List.nil_append, List.cons_append, List.replicate_succ, List.replicate_zero, List.set_cons_zero, List.set_cons_succ, List.getElem?_cons_zero, List.getElem?_cons_succ, Nat.reduceAdd, Nat.reduceSub, if_true, Bool.not_true, Bool.not_false, Bool.false_eq_true, if_false])
    split
    · rename_i hd
      rw [← key k hi hd]
      exact h
    · rename_i hd
      rw [← Int.pow_succ]
      have hk : k < 400 := hk
      refine ⟨mulx_ok (a := k + 1) (b := 2) ?_ (by decide) (by omega), ?_, _, rfl⟩
      · rw [Int.natAbs_pow]; exact Nat.pow_lt_pow_right (by decide) (by omega)
      · have : ¬ lw n ≤ k := fun e => hd ((lw_le h0).mp e)
        omega
  · rintro env ⟨hi, x, rfl⟩
    (try simp only [PL.pSeq, PL.pNext, PL.pSet, PL.pSetO, PL.pRet, PL.pRetN, PL.pIfS, PL.pFor, PL.pWhile, PL.pBrk, PL.pCnt, PL.pDrop, PL.pApp, PL.pAsg, PL.pgN, PL.pFrz, PL.frz, PL.pC, PL.pN, PL.pNo, PL.pBin, PL.negP, PL.pB, PL.pAnd, PL.pOr, PL.pNot, PL.pAndV, PL.pOrV, PL.pNotV, PL.pIf, PL.paNil, PL.paCons, PL.pLst, PL.pTup, PL.pIx, PL.pSl, PL.poNone, PL.poSome, PL.pCall, PL.pCallK, PL.piR1, PL.piR2, PL.piE, PL.pBits, PL.isiP_eq, PL.pLr1, PL.pJoinR, PL.pJoin, PL.pLc_eq, PL.pYes, PL.wipeC, PL.pBor, PL.pBorT, PL.frzs, PL.pSetI, PL.pChainT, PL.isNP, PL.addP_i, PL.addP_s, PL.addP_t, PL.addP_l, PL.catP_l, PL.subP_i, PL.mulP_i, PL.mulP_l, PL.repP_l, PL.mulP_s, PL.fdivP_i, PL.modP_i, PL.powP_i, PL.ltP_i, PL.ltP_s, PL.gtP_i, PL.gtP_s, PL.leP_i, PL.leP_s, PL.geP_i, PL.geP_s, PL.eqP_int, PL.eqP_str, PL.eqP_bl, PL.eqP_lst_lst, PL.eqP_tup_tup, PL.eqP_lst_tup, PL.eqP_tup_lst, PL.neP_int, PL.neP_str, PL.neP_bl, PL.neP_lst_lst, PL.neP_tup_tup, PL.neP_lst_tup, PL.neP_tup_lst, PL.asB_b, PL.asS_s, PL.lenP_lst, PL.itP_lst, PL.ixP_lst, PL.listP_lst_, PL.tupleP_lst_, PL.sumP_lst_, PL.maxP_lst_, PL.minP_lst_, PL.lenP_tup, PL.itP_tup, PL.ixP_tup, PL.listP_tup_, PL.tupleP_tup_, PL.sumP_tup_, PL.maxP_tup_, PL.minP_tup_, PL.lenP_scr, PL.itP_scr, PL.ixP_scr, PL.listP_scr_, PL.tupleP_scr_, PL.sumP_scr_, PL.maxP_scr_, PL.minP_scr_, PL.lenP_str, PL.lenP_dk, PL.itP_str, PL.ixP_str, PL.intP_i, PL.intP_b, PL.rg1_i, PL.rg2_i, PL.lr1_i, PL.lr2_i, PL.maxP_2, PL.maxP_3, PL.minP_2, PL.minP_3, PL.slP_lst, PL.slP_tup, PL.slP_str, PL.slPL_lst, PL.pgTup_t, PL.pgTup_l, PL.pgsCons_c, PL.pgsNil_n, PL.joinRP_l, PL.reprP_i, PL.setP_i, PL.ixE_0, PL.ixE_1, PL.ixE_2, PL.ixE_3, PL.ixE_4, PL.ixE_5, PL.ixE_6, PL.ixE_7, PL.ixE_8, PL.isqrtP_i, PL.reprLP_l, PL.pMkE, PL.pErF, PL.pIsE, PL.pRevS, PL.pRetO, PL.pRetON, PL.divmodP_i, PL.pGet, PL.isi_non_int, PL.isi_non_bool, PL.isi_non_str, PL.isi_non_list, PL.isi_non_tuple, PL.isi_bl_int, PL.isi_bl_bool, PL.isi_bl_str, PL.isi_bl_list, PL.isi_bl_tuple, PL.isi_int_int, PL.isi_int_bool, PL.isi_int_str, PL.isi_int_list, PL.isi_int_tuple, PL.isi_str_int, PL.isi_str_bool, PL.isi_str_str, PL.isi_str_list, PL.isi_str_tuple, PL.isi_tup_int, PL.isi_tup_bool, PL.isi_tup_str, PL.isi_tup_list, PL.isi_tup_tuple, PL.isi_lst_int, PL.isi_lst_bool, PL.isi_lst_str, PL.isi_lst_list, PL.isi_lst_tuple, PL.pickL, List.filterMap_cons, List.filterMap_nil, true_and, decide_true, decide_false, eq_self, Int.zero_add, decide_eq_true_eq, PL.rowE, PL.rowS, PL.startC, List.length_map, List.map_cons, List.map_nil, List.length_cons, List.length_nil, List.append_nil, List.nil_append, List.cons_append, List.replicate_succ, List.replicate_zero, List.set_cons_zero, List.set_cons_succ, List.getElem?_cons_zero, List.getElem?_cons_succ, Nat.reduceAdd, Nat.reduceSub, if_true, Bool.not_true, Bool.not_false, Bool.false_eq_true, if_false])
    have hi : 400 ≤ lw n := by simpa using hi
    have e : lw n = 400 := by omega
    rw [e] at h
    exact h
def sp_law_log : PSp := fun ds P => ∃ n : Int, ds = [.int n] ∧ 1 ≤ n ∧ n ≤ 2 ^ 390 ∧ P (.int ((lw (n + 1) : Nat) - 1 : Int))
theorem len_law_log : ∀ ds P, sp_law_log ds P → ds.length = 1 := by rintro _ _ ⟨n, rfl, _⟩; rfl
theorem w_law_log : ∀ ds Q, sp_law_log ds Q → b_law_log sp_law_width { nx := fun _ => Q .non, rt := Q } (startC ["n"] ds) := by
  rintro _ Q ⟨n, rfl, h0, h1, h⟩
  unfold b_law_log
  (try simp only [PL.pSeq, PL.pNext, PL.pSet, PL.pSetO, PL.pRet, PL.pRetN, PL.pIfS, PL.pFor, PL.pWhile, PL.pBrk, PL.pCnt, PL.pDrop, PL.pApp, PL.pAsg, PL.pgN, PL.pFrz, PL.frz, PL.pC, PL.pN, PL.pNo, PL.pBin, PL.negP, PL.pB, PL.pAnd, PL.pOr, PL.pNot, PL.pAndV, PL.pOrV, PL.pNotV, PL.pIf, PL.paNil, PL.paCons, PL.pLst, PL.pTup, PL.pIx, PL.pSl, PL.poNone, PL.poSome, PL.pCall, PL.pCallK, PL.piR1, PL.piR2, PL.piE, PL.pBits, PL.isiP_eq, PL.pLr1, PL.pJoinR, PL.pJoin, PL.pLc_eq, PL.pYes, PL.wipeC, PL.pBor, PL.pBorT, PL.frzs, PL.pSetI, PL.pChainT, PL.isNP, PL.addP_i, PL.addP_s, PL.addP_t, PL.addP_l, PL.catP_l, PL.subP_i, PL.mulP_i, PL.mulP_l, PL.repP_l, PL.mulP_s, PL.fdivP_i, PL.modP_i, PL.powP_i, PL.ltP_i, PL.ltP_s, PL.gtP_i, PL.gtP_s, PL.leP_i, PL.leP_s, PL.geP_i, PL.geP_s, PL.eqP_int, PL.eqP_str, PL.eqP_bl, PL.eqP_lst_lst, PL.eqP_tup_tup, PL.eqP_lst_tup, PL.eqP_tup_lst, PL.neP_int, PL.neP_str, PL.neP_bl, PL.neP_lst_lst, PL.neP_tup_tup, PL.neP_lst_tup, PL.neP_tup_lst, PL.asB_b, PL.asS_s, PL.lenP_lst, PL.itP_lst, PL.ixP_lst, PL.listP_lst_, PL.tupleP_lst_, PL.sumP_lst_, PL.maxP_lst_, PL.minP_lst_, PL.lenP_tup, PL.itP_tup, PL.ixP_tup, PL.listP_tup_, PL.tupleP_tup_, PL.sumP_tup_, PL.maxP_tup_, PL.minP_tup_, PL.lenP_scr, PL.itP_scr, PL.ixP_scr, PL.listP_scr_, PL.tupleP_scr_, PL.sumP_scr_, PL.maxP_scr_, PL.minP_scr_, PL.lenP_str, PL.lenP_dk, PL.itP_str, PL.ixP_str, PL.intP_i, PL.intP_b, PL.rg1_i, PL.rg2_i, PL.lr1_i, PL.lr2_i, PL.maxP_2, PL.maxP_3, PL.minP_2, PL.minP_3, PL.slP_lst, PL.slP_tup, PL.slP_str, PL.slPL_lst, PL.pgTup_t, PL.pgTup_l, PL.pgsCons_c, PL.pgsNil_n, PL.joinRP_l, PL.reprP_i, PL.setP_i, PL.ixE_0, PL.ixE_1, PL.ixE_2, PL.ixE_3, PL.ixE_4, PL.ixE_5, PL.ixE_6, PL.ixE_7, PL.ixE_8, PL.isqrtP_i, PL.reprLP_l, PL.pMkE, PL.pErF, PL.pIsE, PL.pRevS, PL.pRetO, PL.pRetON, PL.divmodP_i, PL.pGet, PL.isi_non_int, PL.isi_non_bool, PL.isi_non_str, PL.isi_non_list, PL.isi_non_tuple, PL.isi_bl_int, PL.isi_bl_bool, PL.isi_bl_str, PL.isi_bl_list, PL.isi_bl_tuple, PL.isi_int_int, PL.isi_int_bool, PL.isi_int_str, PL.isi_int_list, PL.isi_int_tuple, PL.isi_str_int, PL.isi_str_bool, PL.isi_str_str, PL.isi_str_list, PL.isi_str_tuple, PL.isi_tup_int, PL.isi_tup_bool, PL.isi_tup_str, PL.isi_tup_list, PL.isi_tup_tuple, PL.isi_lst_int, PL.isi_lst_bool, PL.isi_lst_str, PL.isi_lst_list, PL.isi_lst_tuple, PL.pickL, List.filterMap_cons, List.filterMap_nil, true_and, decide_true, decide_false, eq_self, Int.zero_add, decide_eq_true_eq, PL.rowE, PL.rowS, PL.startC, List.length_map, List.map_cons, List.map_nil, List.length_cons, List.length_nil, List.append_nil, List.nil_append, List.cons_append, List.replicate_succ, List.replicate_zero, List.set_cons_zero, List.set_cons_succ, List.getElem?_cons_zero, List.getElem?_cons_succ, Nat.reduceAdd, Nat.reduceSub, if_true, Bool.not_true, Bool.not_false, Bool.false_eq_true, if_false])
  have q : (2 : Int) ^ 391 ≤ 2 ^ 400 := pow2_le (by decide)
  have q2 : (2 : Int) ^ 391 = 2 * 2 ^ 390 := p2 390
  have := p1 390
  refine ⟨_, rfl, by omega, by omega, ?_⟩
  (try simp only [PL.pSeq, PL.pNext, PL.pSet, PL.pSetO, PL.pRet, PL.pRetN, PL.pIfS, PL.pFor, PL.pWhile, PL.pBrk, PL.pCnt, PL.pDrop, PL.pApp, PL.pAsg, PL.pgN, PL.pFrz, PL.frz, PL.pC, PL.pN, PL.pNo, PL.pBin, PL.negP, PL.pB, PL.pAnd, PL.pOr, PL.pNot, PL.pAndV, PL.pOrV, PL.pNotV, PL.pIf, PL.paNil, PL.paCons, PL.pLst, PL.pTup, PL.pIx, PL.pSl, PL.poNone, PL.poSome, PL.pCall, PL.pCallK, PL.piR1, PL.piR2, PL.piE, PL.pBits, PL.isiP_eq, PL.pLr1, PL.pJoinR, PL.pJoin, PL.pLc_eq, PL.pYes, PL.wipeC, PL.pBor, PL.pBorT, PL.frzs, PL.pSetI, PL.pChainT, PL.isNP, PL.addP_i, PL.addP_s, PL.addP_t, PL.addP_l, PL.catP_l, PL.subP_i, PL.mulP_i, PL.mulP_l, PL.repP_l, PL.mulP_s, PL.fdivP_i, PL.modP_i, PL.powP_i, PL.ltP_i, PL.ltP_s, PL.gtP_i, PL.gtP_s, PL.leP_i, PL.leP_s, PL.geP_i, PL.geP_s, PL.eqP_int, PL.eqP_str, PL.eqP_bl, PL.eqP_lst_lst, PL.eqP_tup_tup, PL.eqP_lst_tup, PL.eqP_tup_lst, PL.neP_int, PL.neP_str, PL.neP_bl, PL.neP_lst_lst, PL.neP_tup_tup, PL.neP_lst_tup, PL.neP_tup_lst, PL.asB_b, PL.asS_s, PL.lenP_lst, PL.itP_lst, PL.ixP_lst, PL.listP_lst_, PL.tupleP_lst_, PL.sumP_lst_, PL.maxP_lst_, PL.minP_lst_, PL.lenP_tup, PL.itP_tup, PL.ixP_tup, PL.listP_tup_, PL.tupleP_tup_, PL.sumP_tup_, PL.maxP_tup_, PL.minP_tup_, PL.lenP_scr, PL.itP_scr, PL.ixP_scr, PL.listP_scr_, PL.tupleP_scr_, PL.sumP_scr_, PL.maxP_scr_, PL.minP_scr_, PL.lenP_str, PL.lenP_dk, PL.itP_str, PL.ixP_str, PL.intP_i, PL.intP_b, PL.rg1_i, PL.rg2_i, PL.lr1_i, PL.lr2_i, PL.maxP_2, PL.maxP_3, PL.minP_2, PL.minP_3, PL.slP_lst, PL.slP_tup, PL.slP_str, PL.slPL_lst, PL.pgTup_t, PL.pgTup_l, PL.pgsCons_c, PL.pgsNil_n, PL.joinRP_l, PL.reprP_i, PL.setP_i, PL.ixE_0, PL.ixE_1, PL.ixE_2, PL.ixE_3, PL.ixE_4, PL.ixE_5, PL.ixE_6, PL.ixE_7, PL.ixE_8, PL.isqrtP_i, PL.reprLP_l, PL.pMkE, PL.pErF, PL.pIsE, PL.pRevS, PL.pRetO, PL.pRetON, PL.divmodP_i, PL.pGet, PL.isi_non_int, PL.isi_non_bool, PL.isi_non_str, PL.isi_non_list, PL.isi_non_tuple, PL.isi_bl_int, PL.isi_bl_bool, PL.isi_bl_str, PL.isi_bl_list, PL.isi_bl_tuple, PL.isi_int_int, PL.isi_int_bool, PL.isi_int_str, PL.isi_int_list, PL.isi_int_tuple, PL.isi_str_int, PL.isi_str_bool, PL.isi_str_str, PL.isi_str_list, PL.isi_str_tuple, PL.isi_tup_int, PL.isi_tup_bool, PL.isi_tup_str, PL.isi_tup_list, PL.isi_tup_tuple, PL.isi_lst_int, PL.isi_lst_bool, PL.isi_lst_str, PL.isi_lst_list, PL.isi_lst_tuple, PL.pickL, List.filterMap_cons, List.filterMap_nil, true_and, decide_true, decide_false, eq_self, Int.zero_add, decide_eq_true_eq, PL.rowE, PL.rowS, PL.startC, List.length_map, List.map_cons, List.map_nil, List.length_cons, List.length_nil, List.append_nil, List.nil_append, List.cons_append, List.replicate_succ, List.replicate_zero, List.set_cons_zero, List.set_cons_succ, List.getElem?_cons_zero, List.getElem?_cons_succ, Nat.reduceAdd, Nat.reduceSub, if_true, Bool.not_true, Bool.not_false, Bool.false_eq_true, if_false])
  exact h
/-- arguments in their bounds -/
structure RB (s t n : Int) : Prop where
  s1 : 1 ≤ s
  s6 : s ≤ 6
  t1 : 1 ≤ t
  t3 : t ≤ 3600
  n0 : 0 ≤ n
  n1 : n < 2 ^ 190
theorem up190 {n : Int} (h : n < 2 ^ 190) : n + 2 < 2 ^ 200 ∧ n + 2 ≤ 2 ^ 390 ∧ (2 : Int) ^ 190 < 2 ^ 200 := by
  have q : (2 : Int) ^ 200 ≤ 2 ^ 390 := pow2_le (by decide)
  have q2 : (2 : Int) ^ 191 = 2 * 2 ^ 190 := p2 190
  have q3 : (2 : Int) ^ 191 ≤ 2 ^ 200 := pow2_le (by decide)
  have q4 : (2 : Int) ^ 2 ≤ 2 ^ 190 := pow2_le (by decide)
  omega
theorem lw_small {m : Int} {w : Nat} (h1 : 1 ≤ m) (h : m ≤ 2 ^ w) : lw m ≤ w := (lw_le h1).mpr h
def sp_told_excess : PSp := fun ds P => ∃ s t n : Int, ds = [.int s, .int t, .int n] ∧ RB s t n ∧ P (.int (TO s t n))
theorem len_told_excess : ∀ ds P, sp_told_excess ds P → ds.length = 3 := by rintro _ _ ⟨_, _, n, rfl, _⟩; rfl
theorem told_bd {s t n : Int} (b : RB s t n) : lw s ≤ 3 ∧ lw t ≤ 12 ∧ lw (n + 2) ≤ 200 ∧ 1 ≤ lw (n + 2) := by
  have u := up190 b.n1
  have := b.s1; have := b.s6; have := b.t1; have := b.t3; have := b.n0
  have q3 : (2 : Int) ^ 3 = 8 := by decide
  have q12 : (2 : Int) ^ 12 = 4096 := by decide
  exact ⟨lw_small b.s1 (by omega), lw_small b.t1 (by omega), lw_small (by omega) (by omega), lw_pos (by omega)⟩
theorem w_told_excess : ∀ ds Q, sp_told_excess ds Q → b_told_excess sp_width { nx := fun _ => Q .non, rt := Q } (startC ["size", "standings", "count", "letter_bits", "standing_bits", "log"] ds) := by
  rintro _ Q ⟨s, t, n, rfl, b, q⟩
  simp only [PL.startC, List.map_cons, List.map_nil, List.length_cons, List.length_nil, Nat.reduceAdd, Nat.reduceSub, List.replicate_succ, List.replicate_zero, List.cons_append, List.nil_append, List.append_nil]
  unfold b_told_excess
  (try simp only [PL.pSeq, PL.pNext, PL.pSet, PL.pSetO, PL.pRet, PL.pRetN, PL.pIfS, PL.pFor, PL.pWhile, PL.pBrk, PL.pCnt, PL.pDrop, PL.pApp, PL.pAsg, PL.pgN, PL.pFrz, PL.frz, PL.pC, PL.pN, PL.pNo, PL.pBin, PL.negP, PL.pB, PL.pAnd, PL.pOr, PL.pNot, PL.pAndV, PL.pOrV, PL.pNotV, PL.pIf, PL.paNil, PL.paCons, PL.pLst, PL.pTup, PL.pIx, PL.pSl, PL.poNone, PL.poSome, PL.pCall, PL.pCallK, PL.piR1, PL.piR2, PL.piE, PL.pBits, PL.isiP_eq, PL.pLr1, PL.pJoinR, PL.pJoin, PL.pLc_eq, PL.pYes, PL.wipeC, PL.pBor, PL.pBorT, PL.frzs, PL.pSetI, PL.pChainT, PL.isNP, PL.addP_i, PL.addP_s, PL.addP_t, PL.addP_l, PL.catP_l, PL.subP_i, PL.mulP_i, PL.mulP_l, PL.repP_l, PL.mulP_s, PL.fdivP_i, PL.modP_i, PL.powP_i, PL.ltP_i, PL.ltP_s, PL.gtP_i, PL.gtP_s, PL.leP_i, PL.leP_s, PL.geP_i, PL.geP_s, PL.eqP_int, PL.eqP_str, PL.eqP_bl, PL.eqP_lst_lst, PL.eqP_tup_tup, PL.eqP_lst_tup, PL.eqP_tup_lst, PL.neP_int, PL.neP_str, PL.neP_bl, PL.neP_lst_lst, PL.neP_tup_tup, PL.neP_lst_tup, PL.neP_tup_lst, PL.asB_b, PL.asS_s, PL.lenP_lst, PL.itP_lst, PL.ixP_lst, PL.listP_lst_, PL.tupleP_lst_, PL.sumP_lst_, PL.maxP_lst_, PL.minP_lst_, PL.lenP_tup, PL.itP_tup, PL.ixP_tup, PL.listP_tup_, PL.tupleP_tup_, PL.sumP_tup_, PL.maxP_tup_, PL.minP_tup_, PL.lenP_scr, PL.itP_scr, PL.ixP_scr, PL.listP_scr_, PL.tupleP_scr_, PL.sumP_scr_, PL.maxP_scr_, PL.minP_scr_, PL.lenP_str, PL.lenP_dk, PL.itP_str, PL.ixP_str, PL.intP_i, PL.intP_b, PL.rg1_i, PL.rg2_i, PL.lr1_i, PL.lr2_i, PL.maxP_2, PL.maxP_3, PL.minP_2, PL.minP_3, PL.slP_lst, PL.slP_tup, PL.slP_str, PL.slPL_lst, PL.pgTup_t, PL.pgTup_l, PL.pgsCons_c, PL.pgsNil_n, PL.joinRP_l, PL.reprP_i, PL.setP_i, PL.ixE_0, PL.ixE_1, PL.ixE_2, PL.ixE_3, PL.ixE_4, PL.ixE_5, PL.ixE_6, PL.ixE_7, PL.ixE_8, PL.isqrtP_i, PL.reprLP_l, PL.pMkE, PL.pErF, PL.pIsE, PL.pRevS, PL.pRetO, PL.pRetON, PL.divmodP_i, PL.pGet, PL.isi_non_int, PL.isi_non_bool, PL.isi_non_str, PL.isi_non_list, PL.isi_non_tuple, PL.isi_bl_int, PL.isi_bl_bool, PL.isi_bl_str, PL.isi_bl_list, PL.isi_bl_tuple, PL.isi_int_int, PL.isi_int_bool, PL.isi_int_str, PL.isi_int_list, PL.isi_int_tuple, PL.isi_str_int, PL.isi_str_bool, PL.isi_str_str, PL.isi_str_list, PL.isi_str_tuple, PL.isi_tup_int, PL.isi_tup_bool, PL.isi_tup_str, PL.isi_tup_list, PL.isi_tup_tuple, PL.isi_lst_int, PL.isi_lst_bool, PL.isi_lst_str, PL.isi_lst_list, PL.isi_lst_tuple, PL.pickL, List.filterMap_cons, List.filterMap_nil, true_and, decide_true, decide_false, eq_self, Int.zero_add, decide_eq_true_eq, PL.rowE, PL.rowS, PL.startC, List.length_map, List.map_cons, List.map_nil, List.length_cons, List.length_nil, List.append_nil, List.nil_append, List.cons_append, List.replicate_succ, List.replicate_zero, List.set_cons_zero, List.set_cons_succ, List.getElem?_cons_zero, List.getElem?_cons_succ, Nat.reduceAdd, Nat.reduceSub, if_true, Bool.not_true, Bool.not_false, Bool.false_eq_true, if_false, sp_width_eq])
  obtain ⟨l1, l2, l3, l4⟩ := told_bd b
  have u := up190 b.n1
  have n0 := b.n0
  have q10 : (2 : Int) ^ 10 = 1024 := by decide
  rw [show Builtin.Int.intBits (n + 1) = lw (n + 2) by unfold lw; congr 1; omega]
  exact ⟨cmul_pow 10 10 (by omega) (by omega) (by omega) (by omega) (by decide), cmul_pow 200 10 (by omega) (by omega) (by omega) (by omega) (by decide), cmul_pow 10 10 (by omega) (by omega) (by omega) (by omega) (by decide), q⟩
def sp_law_told : PSp := sp_told_excess
theorem len_law_told : ∀ ds P, sp_law_told ds P → ds.length = 3 := by rintro _ _ ⟨_, _, n, rfl, _⟩; rfl
theorem w_law_told : ∀ ds Q, sp_law_told ds Q → b_law_told sp_law_width sp_law_log { nx := fun _ => Q .non, rt := Q } (startC ["letters", "states", "many", "letter", "state"] ds) := by
  rintro _ Q ⟨s, t, n, rfl, b, q⟩
  simp only [PL.startC, List.map_cons, List.map_nil, List.length_cons, List.length_nil, Nat.reduceAdd, Nat.reduceSub, List.replicate_succ, List.replicate_zero, List.cons_append, List.nil_append, List.append_nil]
  unfold b_law_told
  (try simp only [PL.pSeq, PL.pNext, PL.pSet, PL.pSetO, PL.pRet, PL.pRetN, PL.pIfS, PL.pFor, PL.pWhile, PL.pBrk, PL.pCnt, PL.pDrop, PL.pApp, PL.pAsg, PL.pgN, PL.pFrz, PL.frz, PL.pC, PL.pN, PL.pNo, PL.pBin, PL.negP, PL.pB, PL.pAnd, PL.pOr, PL.pNot, PL.pAndV, PL.pOrV, PL.pNotV, PL.pIf, PL.paNil, PL.paCons, PL.pLst, PL.pTup, PL.pIx, PL.pSl, PL.poNone, PL.poSome, PL.pCall, PL.pCallK, PL.piR1, PL.piR2, PL.piE, PL.pBits, PL.isiP_eq, PL.pLr1, PL.pJoinR, PL.pJoin, PL.pLc_eq, PL.pYes, PL.wipeC, PL.pBor, PL.pBorT, PL.frzs, PL.pSetI, PL.pChainT, PL.isNP, PL.addP_i, PL.addP_s, PL.addP_t, PL.addP_l, PL.catP_l, PL.subP_i, PL.mulP_i, PL.mulP_l, PL.repP_l, PL.mulP_s, PL.fdivP_i, PL.modP_i, PL.powP_i, PL.ltP_i, PL.ltP_s, PL.gtP_i, PL.gtP_s, PL.leP_i, PL.leP_s, PL.geP_i, PL.geP_s, PL.eqP_int, PL.eqP_str, PL.eqP_bl, PL.eqP_lst_lst, PL.eqP_tup_tup, PL.eqP_lst_tup, PL.eqP_tup_lst, PL.neP_int, PL.neP_str, PL.neP_bl, PL.neP_lst_lst, PL.neP_tup_tup, PL.neP_lst_tup, PL.neP_tup_lst, PL.asB_b, PL.asS_s, PL.lenP_lst, PL.itP_lst, PL.ixP_lst, PL.listP_lst_, PL.tupleP_lst_, PL.sumP_lst_, PL.maxP_lst_, PL.minP_lst_, PL.lenP_tup, PL.itP_tup, PL.ixP_tup, PL.listP_tup_, PL.tupleP_tup_, PL.sumP_tup_, PL.maxP_tup_, PL.minP_tup_, PL.lenP_scr, PL.itP_scr, PL.ixP_scr, PL.listP_scr_, PL.tupleP_scr_, PL.sumP_scr_, PL.maxP_scr_, PL.minP_scr_, PL.lenP_str, PL.lenP_dk, PL.itP_str, PL.ixP_str, PL.intP_i, PL.intP_b, PL.rg1_i, PL.rg2_i, PL.lr1_i, PL.lr2_i, PL.maxP_2, PL.maxP_3, PL.minP_2, PL.minP_3, PL.slP_lst, PL.slP_tup, PL.slP_str, PL.slPL_lst, PL.pgTup_t, PL.pgTup_l, PL.pgsCons_c, PL.pgsNil_n, PL.joinRP_l, PL.reprP_i, PL.setP_i, PL.ixE_0, PL.ixE_1, PL.ixE_2, PL.ixE_3, PL.ixE_4, PL.ixE_5, PL.ixE_6, PL.ixE_7, PL.ixE_8, PL.isqrtP_i, PL.reprLP_l, PL.pMkE, PL.pErF, PL.pIsE, PL.pRevS, PL.pRetO, PL.pRetON, PL.divmodP_i, PL.pGet, PL.isi_non_int, PL.isi_non_bool, PL.isi_non_str, PL.isi_non_list, PL.isi_non_tuple, PL.isi_bl_int, PL.isi_bl_bool, PL.isi_bl_str, PL.isi_bl_list, PL.isi_bl_tuple, PL.isi_int_int, PL.isi_int_bool, PL.isi_int_str, PL.isi_int_list, PL.isi_int_tuple, PL.isi_str_int, PL.isi_str_bool, PL.isi_str_str, PL.isi_str_list, PL.isi_str_tuple, PL.isi_tup_int, PL.isi_tup_bool, PL.isi_tup_str, PL.isi_tup_list, PL.isi_tup_tuple, PL.isi_lst_int, PL.isi_lst_bool, PL.isi_lst_str, PL.isi_lst_list, PL.isi_lst_tuple, PL.pickL, List.filterMap_cons, List.filterMap_nil, true_and, decide_true, decide_false, eq_self, Int.zero_add, decide_eq_true_eq, PL.rowE, PL.rowS, PL.startC, List.length_map, List.map_cons, List.map_nil, List.length_cons, List.length_nil, List.append_nil, List.nil_append, List.cons_append, List.replicate_succ, List.replicate_zero, List.set_cons_zero, List.set_cons_succ, List.getElem?_cons_zero, List.getElem?_cons_succ, Nat.reduceAdd, Nat.reduceSub, if_true, Bool.not_true, Bool.not_false, Bool.false_eq_true, if_false])
  obtain ⟨l1, l2, l3, l4⟩ := told_bd b
  have u := up190 b.n1
  have n0 := b.n0
  have s1 := b.s1; have s6 := b.s6; have t1 := b.t1; have t3 := b.t3
  have q10 : (2 : Int) ^ 10 = 1024 := by decide
  have q11 : (2 : Int) ^ 13 ≤ 2 ^ 400 := pow2_le (by decide)
  have q13 : (2 : Int) ^ 13 = 8192 := by decide
  refine ⟨s, rfl, s1, by omega, ?_⟩
  (try simp only [PL.pSeq, PL.pNext, PL.pSet, PL.pSetO, PL.pRet, PL.pRetN, PL.pIfS, PL.pFor, PL.pWhile, PL.pBrk, PL.pCnt, PL.pDrop, PL.pApp, PL.pAsg, PL.pgN, PL.pFrz, PL.frz, PL.pC, PL.pN, PL.pNo, PL.pBin, PL.negP, PL.pB, PL.pAnd, PL.pOr, PL.pNot, PL.pAndV, PL.pOrV, PL.pNotV, PL.pIf, PL.paNil, PL.paCons, PL.pLst, PL.pTup, PL.pIx, PL.pSl, PL.poNone, PL.poSome, PL.pCall, PL.pCallK, PL.piR1, PL.piR2, PL.piE, PL.pBits, PL.isiP_eq, PL.pLr1, PL.pJoinR, PL.pJoin, PL.pLc_eq, PL.pYes, PL.wipeC, PL.pBor, PL.pBorT, PL.frzs, PL.pSetI, PL.pChainT, PL.isNP, PL.addP_i, PL.addP_s, PL.addP_t, PL.addP_l, PL.catP_l, PL.subP_i, PL.mulP_i, PL.mulP_l, PL.repP_l, PL.mulP_s, PL.fdivP_i, PL.modP_i, PL.powP_i, PL.ltP_i, PL.ltP_s, PL.gtP_i, PL.gtP_s, PL.leP_i, PL.leP_s, PL.geP_i, PL.geP_s, PL.eqP_int, PL.eqP_str, PL.eqP_bl, PL.eqP_lst_lst, PL.eqP_tup_tup, PL.eqP_lst_tup, PL.eqP_tup_lst, PL.neP_int, PL.neP_str, PL.neP_bl, PL.neP_lst_lst, PL.neP_tup_tup, PL.neP_lst_tup, PL.neP_tup_lst, PL.asB_b, PL.asS_s, PL.lenP_lst, PL.itP_lst, PL.ixP_lst, PL.listP_lst_, PL.tupleP_lst_, PL.sumP_lst_, PL.maxP_lst_, PL.minP_lst_, PL.lenP_tup, PL.itP_tup, PL.ixP_tup, PL.listP_tup_, PL.tupleP_tup_, PL.sumP_tup_, PL.maxP_tup_, PL.minP_tup_, PL.lenP_scr, PL.itP_scr, PL.ixP_scr, PL.listP_scr_, PL.tupleP_scr_, PL.sumP_scr_, PL.maxP_scr_, PL.minP_scr_, PL.lenP_str, PL.lenP_dk, PL.itP_str, PL.ixP_str, PL.intP_i, PL.intP_b, PL.rg1_i, PL.rg2_i, PL.lr1_i, PL.lr2_i, PL.maxP_2, PL.maxP_3, PL.minP_2, PL.minP_3, PL.slP_lst, PL.slP_tup, PL.slP_str, PL.slPL_lst, PL.pgTup_t, PL.pgTup_l, PL.pgsCons_c, PL.pgsNil_n, PL.joinRP_l, PL.reprP_i, PL.setP_i, PL.ixE_0, PL.ixE_1, PL.ixE_2, PL.ixE_3, PL.ixE_4, PL.ixE_5, PL.ixE_6, PL.ixE_7, PL.ixE_8, PL.isqrtP_i, PL.reprLP_l, PL.pMkE, PL.pErF, PL.pIsE, PL.pRevS, PL.pRetO, PL.pRetON, PL.divmodP_i, PL.pGet, PL.isi_non_int, PL.isi_non_bool, PL.isi_non_str, PL.isi_non_list, PL.isi_non_tuple, PL.isi_bl_int, PL.isi_bl_bool, PL.isi_bl_str, PL.isi_bl_list, PL.isi_bl_tuple, PL.isi_int_int, PL.isi_int_bool, PL.isi_int_str, PL.isi_int_list, PL.isi_int_tuple, PL.isi_str_int, PL.isi_str_bool, PL.isi_str_str, PL.isi_str_list, PL.isi_str_tuple, PL.isi_tup_int, PL.isi_tup_bool, PL.isi_tup_str, PL.isi_tup_list, PL.isi_tup_tuple, PL.isi_lst_int, PL.isi_lst_bool, PL.isi_lst_str, PL.isi_lst_list, PL.isi_lst_tuple, PL.pickL, List.filterMap_cons, List.filterMap_nil, true_and, decide_true, decide_false, eq_self, Int.zero_add, decide_eq_true_eq, PL.rowE, PL.rowS, PL.startC, List.length_map, List.map_cons, List.map_nil, List.length_cons, List.length_nil, List.append_nil, List.nil_append, List.cons_append, List.replicate_succ, List.replicate_zero, List.set_cons_zero, List.set_cons_succ, List.getElem?_cons_zero, List.getElem?_cons_succ, Nat.reduceAdd, Nat.reduceSub, if_true, Bool.not_true, Bool.not_false, Bool.false_eq_true, if_false])
  refine ⟨t, rfl, t1, by omega, ?_⟩
  (try simp only [PL.pSeq, PL.pNext, PL.pSet, PL.pSetO, PL.pRet, PL.pRetN, PL.pIfS, PL.pFor, PL.pWhile, PL.pBrk, PL.pCnt, PL.pDrop, PL.pApp, PL.pAsg, PL.pgN, PL.pFrz, PL.frz, PL.pC, PL.pN, PL.pNo, PL.pBin, PL.negP, PL.pB, PL.pAnd, PL.pOr, PL.pNot, PL.pAndV, PL.pOrV, PL.pNotV, PL.pIf, PL.paNil, PL.paCons, PL.pLst, PL.pTup, PL.pIx, PL.pSl, PL.poNone, PL.poSome, PL.pCall, PL.pCallK, PL.piR1, PL.piR2, PL.piE, PL.pBits, PL.isiP_eq, PL.pLr1, PL.pJoinR, PL.pJoin, PL.pLc_eq, PL.pYes, PL.wipeC, PL.pBor, PL.pBorT, PL.frzs, PL.pSetI, PL.pChainT, PL.isNP, PL.addP_i, PL.addP_s, PL.addP_t, PL.addP_l, PL.catP_l, PL.subP_i, PL.mulP_i, PL.mulP_l, PL.repP_l, PL.mulP_s, PL.fdivP_i, PL.modP_i, PL.powP_i, PL.ltP_i, PL.ltP_s, PL.gtP_i, PL.gtP_s, PL.leP_i, PL.leP_s, PL.geP_i, PL.geP_s, PL.eqP_int, PL.eqP_str, PL.eqP_bl, PL.eqP_lst_lst, PL.eqP_tup_tup, PL.eqP_lst_tup, PL.eqP_tup_lst, PL.neP_int, PL.neP_str, PL.neP_bl, PL.neP_lst_lst, PL.neP_tup_tup, PL.neP_lst_tup, PL.neP_tup_lst, PL.asB_b, PL.asS_s, PL.lenP_lst, PL.itP_lst, PL.ixP_lst, PL.listP_lst_, PL.tupleP_lst_, PL.sumP_lst_, PL.maxP_lst_, PL.minP_lst_, PL.lenP_tup, PL.itP_tup, PL.ixP_tup, PL.listP_tup_, PL.tupleP_tup_, PL.sumP_tup_, PL.maxP_tup_, PL.minP_tup_, PL.lenP_scr, PL.itP_scr, PL.ixP_scr, PL.listP_scr_, PL.tupleP_scr_, PL.sumP_scr_, PL.maxP_scr_, PL.minP_scr_, PL.lenP_str, PL.lenP_dk, PL.itP_str, PL.ixP_str, PL.intP_i, PL.intP_b, PL.rg1_i, PL.rg2_i, PL.lr1_i, PL.lr2_i, PL.maxP_2, PL.maxP_3, PL.minP_2, PL.minP_3, PL.slP_lst, PL.slP_tup, PL.slP_str, PL.slPL_lst, PL.pgTup_t, PL.pgTup_l, PL.pgsCons_c, PL.pgsNil_n, PL.joinRP_l, PL.reprP_i, PL.setP_i, PL.ixE_0, PL.ixE_1, PL.ixE_2, PL.ixE_3, PL.ixE_4, PL.ixE_5, PL.ixE_6, PL.ixE_7, PL.ixE_8, PL.isqrtP_i, PL.reprLP_l, PL.pMkE, PL.pErF, PL.pIsE, PL.pRevS, PL.pRetO, PL.pRetON, PL.divmodP_i, PL.pGet, PL.isi_non_int, PL.isi_non_bool, PL.isi_non_str, PL.isi_non_list, PL.isi_non_tuple, PL.isi_bl_int, PL.isi_bl_bool, PL.isi_bl_str, PL.isi_bl_list, PL.isi_bl_tuple, PL.isi_int_int, PL.isi_int_bool, PL.isi_int_str, PL.isi_int_list, PL.isi_int_tuple, PL.isi_str_int, PL.isi_str_bool, PL.isi_str_str, PL.isi_str_list, PL.isi_str_tuple, PL.isi_tup_int, PL.isi_tup_bool, PL.isi_tup_str, PL.isi_tup_list, PL.isi_tup_tuple, PL.isi_lst_int, PL.isi_lst_bool, PL.isi_lst_str, PL.isi_lst_list, PL.isi_lst_tuple, PL.pickL, List.filterMap_cons, List.filterMap_nil, true_and, decide_true, decide_false, eq_self, Int.zero_add, decide_eq_true_eq, PL.rowE, PL.rowS, PL.startC, List.length_map, List.map_cons, List.map_nil, List.length_cons, List.length_nil, List.append_nil, List.nil_append, List.cons_append, List.replicate_succ, List.replicate_zero, List.set_cons_zero, List.set_cons_succ, List.getElem?_cons_zero, List.getElem?_cons_succ, Nat.reduceAdd, Nat.reduceSub, if_true, Bool.not_true, Bool.not_false, Bool.false_eq_true, if_false])
  refine ⟨cmul_pow 10 10 (by omega) (by omega) (by omega) (by omega) (by decide), cmul_pow 200 10 (by omega) (by omega) (by omega) (by omega) (by decide), n + 1, rfl, by omega, by omega, ?_⟩
  (try simp only [PL.pSeq, PL.pNext, PL.pSet, PL.pSetO, PL.pRet, PL.pRetN, PL.pIfS, PL.pFor, PL.pWhile, PL.pBrk, PL.pCnt, PL.pDrop, PL.pApp, PL.pAsg, PL.pgN, PL.pFrz, PL.frz, PL.pC, PL.pN, PL.pNo, PL.pBin, PL.negP, PL.pB, PL.pAnd, PL.pOr, PL.pNot, PL.pAndV, PL.pOrV, PL.pNotV, PL.pIf, PL.paNil, PL.paCons, PL.pLst, PL.pTup, PL.pIx, PL.pSl, PL.poNone, PL.poSome, PL.pCall, PL.pCallK, PL.piR1, PL.piR2, PL.piE, PL.pBits, PL.isiP_eq, PL.pLr1, PL.pJoinR, PL.pJoin, PL.pLc_eq, PL.pYes, PL.wipeC, PL.pBor, PL.pBorT, PL.frzs, PL.pSetI, PL.pChainT, PL.isNP, PL.addP_i, PL.addP_s, PL.addP_t, PL.addP_l, PL.catP_l, PL.subP_i, PL.mulP_i, PL.mulP_l, PL.repP_l, PL.mulP_s, PL.fdivP_i, PL.modP_i, PL.powP_i, PL.ltP_i, PL.ltP_s, PL.gtP_i, PL.gtP_s, PL.leP_i, PL.leP_s, PL.geP_i, PL.geP_s, PL.eqP_int, PL.eqP_str, PL.eqP_bl, PL.eqP_lst_lst, PL.eqP_tup_tup, PL.eqP_lst_tup, PL.eqP_tup_lst, PL.neP_int, PL.neP_str, PL.neP_bl, PL.neP_lst_lst, PL.neP_tup_tup, PL.neP_lst_tup, PL.neP_tup_lst, PL.asB_b, PL.asS_s, PL.lenP_lst, PL.itP_lst, PL.ixP_lst, PL.listP_lst_, PL.tupleP_lst_, PL.sumP_lst_, PL.maxP_lst_, PL.minP_lst_, PL.lenP_tup, PL.itP_tup, PL.ixP_tup, PL.listP_tup_, PL.tupleP_tup_, PL.sumP_tup_, PL.maxP_tup_, PL.minP_tup_, PL.lenP_scr, PL.itP_scr, PL.ixP_scr, PL.listP_scr_, PL.tupleP_scr_, PL.sumP_scr_, PL.maxP_scr_, PL.minP_scr_, PL.lenP_str, PL.lenP_dk, PL.itP_str, PL.ixP_str, PL.intP_i, PL.intP_b, PL.rg1_i, PL.rg2_i, PL.lr1_i, PL.lr2_i, PL.maxP_2, PL.maxP_3, PL.minP_2, PL.minP_3, PL.slP_lst, PL.slP_tup, PL.slP_str, PL.slPL_lst, PL.pgTup_t, PL.pgTup_l, PL.pgsCons_c, PL.pgsNil_n, PL.joinRP_l, PL.reprP_i, PL.setP_i, PL.ixE_0, PL.ixE_1, PL.ixE_2, PL.ixE_3, PL.ixE_4, PL.ixE_5, PL.ixE_6, PL.ixE_7, PL.ixE_8, PL.isqrtP_i, PL.reprLP_l, PL.pMkE, PL.pErF, PL.pIsE, PL.pRevS, PL.pRetO, PL.pRetON, PL.divmodP_i, PL.pGet, PL.isi_non_int, PL.isi_non_bool, PL.isi_non_str, PL.isi_non_list, PL.isi_non_tuple, PL.isi_bl_int, PL.isi_bl_bool, PL.isi_bl_str, PL.isi_bl_list, PL.isi_bl_tuple, PL.isi_int_int, PL.isi_int_bool, PL.isi_int_str, PL.isi_int_list, PL.isi_int_tuple, PL.isi_str_int, PL.isi_str_bool, PL.isi_str_str, PL.isi_str_list, PL.isi_str_tuple, PL.isi_tup_int, PL.isi_tup_bool, PL.isi_tup_str, PL.isi_tup_list, PL.isi_tup_tuple, PL.isi_lst_int, PL.isi_lst_bool, PL.isi_lst_str, PL.isi_lst_list, PL.isi_lst_tuple, PL.pickL, List.filterMap_cons, List.filterMap_nil, true_and, decide_true, decide_false, eq_self, Int.zero_add, decide_eq_true_eq, PL.rowE, PL.rowS, PL.startC, List.length_map, List.map_cons, List.map_nil, List.length_cons, List.length_nil, List.append_nil, List.nil_append, List.cons_append, List.replicate_succ, List.replicate_zero, List.set_cons_zero, List.set_cons_succ, List.getElem?_cons_zero, List.getElem?_cons_succ, Nat.reduceAdd, Nat.reduceSub, if_true, Bool.not_true, Bool.not_false, Bool.false_eq_true, if_false])
  rw [show n + 1 + 1 = n + 2 by omega]
  exact ⟨cmul_pow 10 10 (by omega) (by omega) (by omega) (by omega) (by decide), q⟩
def sp_pressed_length : PSp := fun ds P => ∃ s n : Int, ds = [.int s, .int n] ∧ RB s 1 n ∧ P (.int (PB s n))
theorem len_pressed_length : ∀ ds P, sp_pressed_length ds P → ds.length = 2 := by rintro _ _ ⟨_, n, rfl, _⟩; rfl
def nf (s n : Int) : Nat → Int := fun j => max 0 (n + 1 - nar s j)
theorem PB_one (n : Int) : PB 1 n = lw (n + 1) + (n + 1) := by unfold PB; rw [if_pos rfl]
theorem PB_at {s n : Int} {i : Nat} (s2 : 2 ≤ s) (hi : i ≤ 400) (h : n + 1 ≤ nar s i) : PB s n = lw (n + 1) + S i (nf s n) := by
  unfold PB
  rw [if_neg (by omega)]
  have e : S 400 (nf s n) = S i (nf s n) := S_tail hi fun j h1 _ => by
    have := nar_mono s2 h1
    show max 0 (n + 1 - nar s j) = 0
    omega
  rw [← e]; rfl
theorem nar_eq {s : Int} (i : Nat) : (2 ^ (i + 1) - 2) / (s - 1) = nar s (i + 1) := by
  unfold nar
  have := p2 i
  have := p1 i
  rw [show max (0 : Int) (2 ^ (i + 1) - 2) = 2 ^ (i + 1) - 2 by omega]
theorem w_pressed_length : ∀ ds Q, sp_pressed_length ds Q → b_pressed_length sp_width { nx := fun _ => Q .non, rt := Q } (startC ["size", "count", "numbers", "total", "powers", "narrow"] ds) := by
  rintro _ Q ⟨s, n, rfl, b, q⟩
  have s1 := b.s1; have s6 := b.s6; have n0 := b.n0; have u := up190 b.n1
  simp only [PL.startC, List.map_cons, List.map_nil, List.length_cons, List.length_nil, Nat.reduceAdd, Nat.reduceSub, List.replicate_succ, List.replicate_zero, List.cons_append, List.nil_append, List.append_nil]
  unfold b_pressed_length
  (try simp only [PL.pSeq, PL.pNext, PL.pSet, PL.pSetO, PL.pRet, PL.pRetN, PL.pIfS, PL.pFor, PL.pWhile, PL.pBrk, PL.pCnt, PL.pDrop, PL.pApp, PL.pAsg, PL.pgN, PL.pFrz, PL.frz, PL.pC, PL.pN, PL.pNo, PL.pBin, PL.negP, PL.pB, PL.pAnd, PL.pOr, PL.pNot, PL.pAndV, PL.pOrV, PL.pNotV, PL.pIf, PL.paNil, PL.paCons, PL.pLst, PL.pTup, PL.pIx, PL.pSl, PL.poNone, PL.poSome, PL.pCall, PL.pCallK, PL.piR1, PL.piR2, PL.piE, PL.pBits, PL.isiP_eq, PL.pLr1, PL.pJoinR, PL.pJoin, PL.pLc_eq, PL.pYes, PL.wipeC, PL.pBor, PL.pBorT, PL.frzs, PL.pSetI, PL.pChainT, PL.isNP, PL.addP_i, PL.addP_s, PL.addP_t, PL.addP_l, PL.catP_l, PL.subP_i, PL.mulP_i, PL.mulP_l, PL.repP_l, PL.mulP_s, PL.fdivP_i, PL.modP_i, PL.powP_i, PL.ltP_i, PL.ltP_s, PL.gtP_i, PL.gtP_s, PL.leP_i, PL.leP_s, PL.geP_i, PL.geP_s, PL.eqP_int, PL.eqP_str, PL.eqP_bl, PL.eqP_lst_lst, PL.eqP_tup_tup, PL.eqP_lst_tup, PL.eqP_tup_lst, PL.neP_int, PL.neP_str, PL.neP_bl, PL.neP_lst_lst, PL.neP_tup_tup, PL.neP_lst_tup, PL.neP_tup_lst, PL.asB_b, PL.asS_s, PL.lenP_lst, PL.itP_lst, PL.ixP_lst, PL.listP_lst_, PL.tupleP_lst_, PL.sumP_lst_, PL.maxP_lst_, PL.minP_lst_, PL.lenP_tup, PL.itP_tup, PL.ixP_tup, PL.listP_tup_, PL.tupleP_tup_, PL.sumP_tup_, PL.maxP_tup_, PL.minP_tup_, PL.lenP_scr, PL.itP_scr, PL.ixP_scr, PL.listP_scr_, PL.tupleP_scr_, PL.sumP_scr_, PL.maxP_scr_, PL.minP_scr_, PL.lenP_str, PL.lenP_dk, PL.itP_str, PL.ixP_str, PL.intP_i, PL.intP_b, PL.rg1_i, PL.rg2_i, PL.lr1_i, PL.lr2_i, PL.maxP_2, PL.maxP_3, PL.minP_2, PL.minP_3, PL.slP_lst, PL.slP_tup, PL.slP_str, PL.slPL_lst, PL.pgTup_t, PL.pgTup_l, PL.pgsCons_c, PL.pgsNil_n, PL.joinRP_l, PL.reprP_i, PL.setP_i, PL.ixE_0, PL.ixE_1, PL.ixE_2, PL.ixE_3, PL.ixE_4, PL.ixE_5, PL.ixE_6, PL.ixE_7, PL.ixE_8, PL.isqrtP_i, PL.reprLP_l, PL.pMkE, PL.pErF, PL.pIsE, PL.pRevS, PL.pRetO, PL.pRetON, PL.divmodP_i, PL.pGet, PL.isi_non_int, PL.isi_non_bool, PL.isi_non_str, PL.isi_non_list, PL.isi_non_tuple, PL.isi_bl_int, PL.isi_bl_bool, PL.isi_bl_str, PL.isi_bl_list, PL.isi_bl_tuple, PL.isi_int_int, PL.isi_int_bool, PL.isi_int_str, PL.isi_int_list, PL.isi_int_tuple, PL.isi_str_int, PL.isi_str_bool, PL.isi_str_str, PL.isi_str_list, PL.isi_str_tuple, PL.isi_tup_int, PL.isi_tup_bool, PL.isi_tup_str, PL.isi_tup_list, PL.isi_tup_tuple, PL.isi_lst_int, PL.isi_lst_bool, PL.isi_lst_str, PL.isi_lst_list, PL.isi_lst_tuple, PL.pickL, List.filterMap_cons, List.filterMap_nil, true_and, decide_true, decide_false, eq_self, Int.zero_add, decide_eq_true_eq, PL.rowE, PL.rowS, PL.startC, List.length_map, List.map_cons, List.map_nil, List.length_cons, List.length_nil, List.append_nil, List.nil_append, List.cons_append, List.replicate_succ, List.replicate_zero, List.set_cons_zero, List.set_cons_succ, List.getElem?_cons_zero, List.getElem?_cons_succ, Nat.reduceAdd, Nat.reduceSub, if_true, Bool.not_true, Bool.not_false, Bool.false_eq_true, if_false, sp_width_eq])
  split
  · rename_i e
    subst e
    rw [PB_one] at q
    exact q
  · rename_i e
    have s2 : 2 ≤ s := by omega
    refine ⟨fun m env => ∃ i : Nat, m = 400 - i ∧ i ≤ 400 ∧ env = [C.fz (.int s), C.fz (.int n), C.fz (.int (n + 1)), C.fz (.int (lw (n + 1) + S i (nf s n))), C.fz (.int (2 ^ i)), C.fz (.int (nar s i))], ⟨_, 0, rfl, by decide, ?_⟩, ?_⟩
    · rw [nar_0]; simp [S]
    · rintro m env ⟨i, rfl, i4, rfl⟩
      (try simp only [PL.pSeq, PL.pNext, PL.pSet, PL.pSetO, PL.pRet, PL.pRetN, PL.pIfS, PL.pFor, PL.pWhile, PL.pBrk, PL.pCnt, PL.pDrop, PL.pApp, PL.pAsg, PL.pgN, PL.pFrz, PL.frz, PL.pC, PL.pN, PL.pNo, PL.pBin, PL.negP, PL.pB, PL.pAnd, PL.pOr, PL.pNot, PL.pAndV, PL.pOrV, PL.pNotV, PL.pIf, PL.paNil, PL.paCons, PL.pLst, PL.pTup, PL.pIx, PL.pSl, PL.poNone, PL.poSome, PL.pCall, PL.pCallK, PL.piR1, PL.piR2, PL.piE, PL.pBits, PL.isiP_eq, PL.pLr1, PL.pJoinR, PL.pJoin, PL.pLc_eq, PL.pYes, PL.wipeC, PL.pBor, PL.pBorT, PL.frzs, PL.pSetI, PL.pChainT, PL.isNP, PL.addP_i, PL.addP_s, PL.addP_t, PL.addP_l, PL.catP_l, PL.subP_i, PL.mulP_i, PL.mulP_l, PL.repP_l, PL.mulP_s, PL.fdivP_i, PL.modP_i, PL.powP_i, PL.ltP_i, PL.ltP_s, PL.gtP_i, PL.gtP_s, PL.leP_i, PL.leP_s, PL.geP_i, PL.geP_s, PL.eqP_int, PL.eqP_str, PL.eqP_bl, PL.eqP_lst_lst, PL.eqP_tup_tup, PL.eqP_lst_tup, PL.eqP_tup_lst, PL.neP_int, PL.neP_str, PL.neP_bl, PL.neP_lst_lst, PL.neP_tup_tup, PL.neP_lst_tup, PL.neP_tup_lst, PL.asB_b, PL.asS_s, PL.lenP_lst, PL.itP_lst, PL.ixP_lst, PL.listP_lst_, PL.tupleP_lst_, PL.sumP_lst_, PL.maxP_lst_, PL.minP_lst_, PL.lenP_tup, PL.itP_tup, PL.ixP_tup, PL.listP_tup_, PL.tupleP_tup_, PL.sumP_tup_, PL.maxP_tup_, PL.minP_tup_, PL.lenP_scr, PL.itP_scr, PL.ixP_scr, PL.listP_scr_, PL.tupleP_scr_, PL.sumP_scr_, PL.maxP_scr_, PL.minP_scr_, PL.lenP_str, PL.lenP_dk, PL.itP_str, PL.ixP_str, PL.intP_i, PL.intP_b, PL.rg1_i, PL.rg2_i, PL.lr1_i, PL.lr2_i, PL.maxP_2, PL.maxP_3, PL.minP_2, PL.minP_3, PL.slP_lst, PL.slP_tup, PL.slP_str, PL.slPL_lst, PL.pgTup_t, PL.pgTup_l, PL.pgsCons_c, PL.pgsNil_n, PL.joinRP_l, PL.reprP_i, PL.setP_i, PL.ixE_0, PL.ixE_1, PL.ixE_2, PL.ixE_3, PL.ixE_4, PL.ixE_5, PL.ixE_6, PL.ixE_7, PL.ixE_8, PL.isqrtP_i, PL.reprLP_l, PL.pMkE, PL.pErF, PL.pIsE, PL.pRevS, PL.pRetO, PL.pRetON, PL.divmodP_i, PL.pGet, PL.isi_non_int, PL.isi_non_bool, PL.isi_non_str, PL.isi_non_list, PL.isi_non_tuple, PL.isi_bl_int, PL.isi_bl_bool, PL.isi_bl_str, PL.isi_bl_list, PL.isi_bl_tuple, PL.isi_int_int, PL.isi_int_bool, PL.isi_int_str, PL.isi_int_list, PL.isi_int_tuple, PL.isi_str_int, PL.isi_str_bool, PL.isi_str_str, PL.isi_str_list, PL.isi_str_tuple, PL.isi_tup_int, PL.isi_tup_bool, PL.isi_tup_str, PL.isi_tup_list, PL.isi_tup_tuple, PL.isi_lst_int, PL.isi_lst_bool, PL.isi_lst_str, PL.isi_lst_list, PL.isi_lst_tuple, PL.pickL, List.filterMap_cons, List.filterMap_nil, true_and, decide_true, decide_false, eq_self, Int.zero_add, decide_eq_true_eq, PL.rowE, PL.rowS, PL.startC, List.length_map, List.map_cons, List.map_nil, List.length_cons, List.length_nil, List.append_nil, List.nil_append, List.cons_append, List.replicate_succ, List.replicate_zero, List.set_cons_zero, List.set_cons_succ, List.getElem?_cons_zero, List.getElem?_cons_succ, Nat.reduceAdd, Nat.reduceSub, if_true, Bool.not_true, Bool.not_false, Bool.false_eq_true, if_false])
      split
      · rename_i hl
        have hi := nar_small s2 s6 n0 (by omega) hl
        have p := p1 i
        rw [← Int.pow_succ, nar_eq]
        refine ⟨cmul_pow (i + 1) 2 (by omega) (by have := p2 i; omega) (by decide) (by decide) (by omega), cdivw 10 (by omega) (by omega) (by decide), _, ?_, i + 1, rfl, by omega, ?_⟩
        · omega
        · rw [show S (i + 1) (nf s n) = S i (nf s n) + (n + 1 - nar s i) by
            show S i (nf s n) + max 0 (n + 1 - nar s i) = _
            omega]
          rw [show (lw (n + 1) : Int) + S i (nf s n) + (n + 1) - nar s i = lw (n + 1) + (S i (nf s n) + (n + 1 - nar s i)) by omega]
      · rename_i hl
        rw [← PB_at s2 i4 (by omega)]
        exact q
def sp_law_long_block : PSp := sp_pressed_length
theorem len_law_long_block : ∀ ds P, sp_law_long_block ds P → ds.length = 2 := by rintro _ _ ⟨_, n, rfl, _⟩; rfl
theorem nar_law (s : Int) (i : Nat) : max 0 (2 ^ i - 2) / (s - 1) = nar s i := rfl
theorem w_law_long_block : ∀ ds Q, sp_law_long_block ds Q → b_law_long_block sp_law_width { nx := fun _ => Q .non, rt := Q } (startC ["letters", "many", "total", "top", "wide", "fits"] ds) := by
  rintro _ Q ⟨s, n, rfl, b, q⟩
  have s1 := b.s1; have s6 := b.s6; have n0 := b.n0; have u := up190 b.n1
  have q4 : (2 : Int) ^ 390 ≤ 2 ^ 400 := pow2_le (by decide)
  simp only [PL.startC, List.map_cons, List.map_nil, List.length_cons, List.length_nil, Nat.reduceAdd, Nat.reduceSub, List.replicate_succ, List.replicate_zero, List.cons_append, List.nil_append, List.append_nil]
  unfold b_law_long_block
  (try simp only [PL.pSeq, PL.pNext, PL.pSet, PL.pSetO, PL.pRet, PL.pRetN, PL.pIfS, PL.pFor, PL.pWhile, PL.pBrk, PL.pCnt, PL.pDrop, PL.pApp, PL.pAsg, PL.pgN, PL.pFrz, PL.frz, PL.pC, PL.pN, PL.pNo, PL.pBin, PL.negP, PL.pB, PL.pAnd, PL.pOr, PL.pNot, PL.pAndV, PL.pOrV, PL.pNotV, PL.pIf, PL.paNil, PL.paCons, PL.pLst, PL.pTup, PL.pIx, PL.pSl, PL.poNone, PL.poSome, PL.pCall, PL.pCallK, PL.piR1, PL.piR2, PL.piE, PL.pBits, PL.isiP_eq, PL.pLr1, PL.pJoinR, PL.pJoin, PL.pLc_eq, PL.pYes, PL.wipeC, PL.pBor, PL.pBorT, PL.frzs, PL.pSetI, PL.pChainT, PL.isNP, PL.addP_i, PL.addP_s, PL.addP_t, PL.addP_l, PL.catP_l, PL.subP_i, PL.mulP_i, PL.mulP_l, PL.repP_l, PL.mulP_s, PL.fdivP_i, PL.modP_i, PL.powP_i, PL.ltP_i, PL.ltP_s, PL.gtP_i, PL.gtP_s, PL.leP_i, PL.leP_s, PL.geP_i, PL.geP_s, PL.eqP_int, PL.eqP_str, PL.eqP_bl, PL.eqP_lst_lst, PL.eqP_tup_tup, PL.eqP_lst_tup, PL.eqP_tup_lst, PL.neP_int, PL.neP_str, PL.neP_bl, PL.neP_lst_lst, PL.neP_tup_tup, PL.neP_lst_tup, PL.neP_tup_lst, PL.asB_b, PL.asS_s, PL.lenP_lst, PL.itP_lst, PL.ixP_lst, PL.listP_lst_, PL.tupleP_lst_, PL.sumP_lst_, PL.maxP_lst_, PL.minP_lst_, PL.lenP_tup, PL.itP_tup, PL.ixP_tup, PL.listP_tup_, PL.tupleP_tup_, PL.sumP_tup_, PL.maxP_tup_, PL.minP_tup_, PL.lenP_scr, PL.itP_scr, PL.ixP_scr, PL.listP_scr_, PL.tupleP_scr_, PL.sumP_scr_, PL.maxP_scr_, PL.minP_scr_, PL.lenP_str, PL.lenP_dk, PL.itP_str, PL.ixP_str, PL.intP_i, PL.intP_b, PL.rg1_i, PL.rg2_i, PL.lr1_i, PL.lr2_i, PL.maxP_2, PL.maxP_3, PL.minP_2, PL.minP_3, PL.slP_lst, PL.slP_tup, PL.slP_str, PL.slPL_lst, PL.pgTup_t, PL.pgTup_l, PL.pgsCons_c, PL.pgsNil_n, PL.joinRP_l, PL.reprP_i, PL.setP_i, PL.ixE_0, PL.ixE_1, PL.ixE_2, PL.ixE_3, PL.ixE_4, PL.ixE_5, PL.ixE_6, PL.ixE_7, PL.ixE_8, PL.isqrtP_i, PL.reprLP_l, PL.pMkE, PL.pErF, PL.pIsE, PL.pRevS, PL.pRetO, PL.pRetON, PL.divmodP_i, PL.pGet, PL.isi_non_int, PL.isi_non_bool, PL.isi_non_str, PL.isi_non_list, PL.isi_non_tuple, PL.isi_bl_int, PL.isi_bl_bool, PL.isi_bl_str, PL.isi_bl_list, PL.isi_bl_tuple, PL.isi_int_int, PL.isi_int_bool, PL.isi_int_str, PL.isi_int_list, PL.isi_int_tuple, PL.isi_str_int, PL.isi_str_bool, PL.isi_str_str, PL.isi_str_list, PL.isi_str_tuple, PL.isi_tup_int, PL.isi_tup_bool, PL.isi_tup_str, PL.isi_tup_list, PL.isi_tup_tuple, PL.isi_lst_int, PL.isi_lst_bool, PL.isi_lst_str, PL.isi_lst_list, PL.isi_lst_tuple, PL.pickL, List.filterMap_cons, List.filterMap_nil, true_and, decide_true, decide_false, eq_self, Int.zero_add, decide_eq_true_eq, PL.rowE, PL.rowS, PL.startC, List.length_map, List.map_cons, List.map_nil, List.length_cons, List.length_nil, List.append_nil, List.nil_append, List.cons_append, List.replicate_succ, List.replicate_zero, List.set_cons_zero, List.set_cons_succ, List.getElem?_cons_zero, List.getElem?_cons_succ, Nat.reduceAdd, Nat.reduceSub, if_true, Bool.not_true, Bool.not_false, Bool.false_eq_true, if_false])
  refine ⟨n + 1, rfl, by omega, by omega, ?_⟩
  (try simp only [PL.pSeq, PL.pNext, PL.pSet, PL.pSetO, PL.pRet, PL.pRetN, PL.pIfS, PL.pFor, PL.pWhile, PL.pBrk, PL.pCnt, PL.pDrop, PL.pApp, PL.pAsg, PL.pgN, PL.pFrz, PL.frz, PL.pC, PL.pN, PL.pNo, PL.pBin, PL.negP, PL.pB, PL.pAnd, PL.pOr, PL.pNot, PL.pAndV, PL.pOrV, PL.pNotV, PL.pIf, PL.paNil, PL.paCons, PL.pLst, PL.pTup, PL.pIx, PL.pSl, PL.poNone, PL.poSome, PL.pCall, PL.pCallK, PL.piR1, PL.piR2, PL.piE, PL.pBits, PL.isiP_eq, PL.pLr1, PL.pJoinR, PL.pJoin, PL.pLc_eq, PL.pYes, PL.wipeC, PL.pBor, PL.pBorT, PL.frzs, PL.pSetI, PL.pChainT, PL.isNP, PL.addP_i, PL.addP_s, PL.addP_t, PL.addP_l, PL.catP_l, PL.subP_i, PL.mulP_i, PL.mulP_l, PL.repP_l, PL.mulP_s, PL.fdivP_i, PL.modP_i, PL.powP_i, PL.ltP_i, PL.ltP_s, PL.gtP_i, PL.gtP_s, PL.leP_i, PL.leP_s, PL.geP_i, PL.geP_s, PL.eqP_int, PL.eqP_str, PL.eqP_bl, PL.eqP_lst_lst, PL.eqP_tup_tup, PL.eqP_lst_tup, PL.eqP_tup_lst, PL.neP_int, PL.neP_str, PL.neP_bl, PL.neP_lst_lst, PL.neP_tup_tup, PL.neP_lst_tup, PL.neP_tup_lst, PL.asB_b, PL.asS_s, PL.lenP_lst, PL.itP_lst, PL.ixP_lst, PL.listP_lst_, PL.tupleP_lst_, PL.sumP_lst_, PL.maxP_lst_, PL.minP_lst_, PL.lenP_tup, PL.itP_tup, PL.ixP_tup, PL.listP_tup_, PL.tupleP_tup_, PL.sumP_tup_, PL.maxP_tup_, PL.minP_tup_, PL.lenP_scr, PL.itP_scr, PL.ixP_scr, PL.listP_scr_, PL.tupleP_scr_, PL.sumP_scr_, PL.maxP_scr_, PL.minP_scr_, PL.lenP_str, PL.lenP_dk, PL.itP_str, PL.ixP_str, PL.intP_i, PL.intP_b, PL.rg1_i, PL.rg2_i, PL.lr1_i, PL.lr2_i, PL.maxP_2, PL.maxP_3, PL.minP_2, PL.minP_3, PL.slP_lst, PL.slP_tup, PL.slP_str, PL.slPL_lst, PL.pgTup_t, PL.pgTup_l, PL.pgsCons_c, PL.pgsNil_n, PL.joinRP_l, PL.reprP_i, PL.setP_i, PL.ixE_0, PL.ixE_1, PL.ixE_2, PL.ixE_3, PL.ixE_4, PL.ixE_5, PL.ixE_6, PL.ixE_7, PL.ixE_8, PL.isqrtP_i, PL.reprLP_l, PL.pMkE, PL.pErF, PL.pIsE, PL.pRevS, PL.pRetO, PL.pRetON, PL.divmodP_i, PL.pGet, PL.isi_non_int, PL.isi_non_bool, PL.isi_non_str, PL.isi_non_list, PL.isi_non_tuple, PL.isi_bl_int, PL.isi_bl_bool, PL.isi_bl_str, PL.isi_bl_list, PL.isi_bl_tuple, PL.isi_int_int, PL.isi_int_bool, PL.isi_int_str, PL.isi_int_list, PL.isi_int_tuple, PL.isi_str_int, PL.isi_str_bool, PL.isi_str_str, PL.isi_str_list, PL.isi_str_tuple, PL.isi_tup_int, PL.isi_tup_bool, PL.isi_tup_str, PL.isi_tup_list, PL.isi_tup_tuple, PL.isi_lst_int, PL.isi_lst_bool, PL.isi_lst_str, PL.isi_lst_list, PL.isi_lst_tuple, PL.pickL, List.filterMap_cons, List.filterMap_nil, true_and, decide_true, decide_false, eq_self, Int.zero_add, decide_eq_true_eq, PL.rowE, PL.rowS, PL.startC, List.length_map, List.map_cons, List.map_nil, List.length_cons, List.length_nil, List.append_nil, List.nil_append, List.cons_append, List.replicate_succ, List.replicate_zero, List.set_cons_zero, List.set_cons_succ, List.getElem?_cons_zero, List.getElem?_cons_succ, Nat.reduceAdd, Nat.reduceSub, if_true, Bool.not_true, Bool.not_false, Bool.false_eq_true, if_false])
  refine ⟨⟨by decide, by decide⟩, ?_⟩
  by_cases e : s = 1
  · subst e
    refine for_r (W := fun i env => i ≤ 1 ∧ ∃ x y : C, env = [C.fz (.int 1), C.fz (.int n), C.fz (.int (lw (n + 1) + i * (n + 1))), C.fz (.int (2 ^ i)), x, y]) ⟨by omega, .un, .un, by simp⟩ ?_ ?_
    · rintro i env hi ⟨i1, x, y, rfl⟩
      (try simp only [PL.pSeq, PL.pNext, PL.pSet, PL.pSetO, PL.pRet, PL.pRetN, PL.pIfS, PL.pFor, PL.pWhile, PL.pBrk, PL.pCnt, PL.pDrop, PL.pApp, PL.pAsg, PL.pgN, PL.pFrz, PL.frz, PL.pC, PL.pN, PL.pNo, PL.pBin, PL.negP, PL.pB, PL.pAnd, PL.pOr, PL.pNot, PL.pAndV, PL.pOrV, PL.pNotV, PL.pIf, PL.paNil, PL.paCons, PL.pLst, PL.pTup, PL.pIx, PL.pSl, PL.poNone, PL.poSome, PL.pCall, PL.pCallK, PL.piR1, PL.piR2, PL.piE, PL.pBits, PL.isiP_eq, PL.pLr1, PL.pJoinR, PL.pJoin, PL.pLc_eq, PL.pYes, PL.wipeC, PL.pBor, PL.pBorT, PL.frzs, PL.pSetI, PL.pChainT, PL.isNP, PL.addP_i, PL.addP_s, PL.addP_t, PL.addP_l, PL.catP_l, PL.subP_i, PL.mulP_i, PL.mulP_l, PL.repP_l, PL.mulP_s, PL.fdivP_i, PL.modP_i, PL.powP_i, PL.ltP_i, PL.ltP_s, PL.gtP_i, PL.gtP_s, PL.leP_i, PL.leP_s, PL.geP_i, PL.geP_s, PL.eqP_int, PL.eqP_str, PL.eqP_bl, PL.eqP_lst_lst, PL.eqP_tup_tup, PL.eqP_lst_tup, PL.eqP_tup_lst, PL.neP_int, PL.neP_str, PL.neP_bl, PL.neP_lst_lst, PL.neP_tup_tup, PL.neP_lst_tup, PL.neP_tup_lst, PL.asB_b, PL.asS_s, PL.lenP_lst, PL.itP_lst, PL.ixP_lst, PL.listP_lst_, PL.tupleP_lst_, PL.sumP_lst_, PL.maxP_lst_, PL.minP_lst_, PL.lenP_tup, PL.itP_tup, PL.ixP_tup, PL.listP_tup_, PL.tupleP_tup_, PL.sumP_tup_, PL.maxP_tup_, PL.minP_tup_, PL.lenP_scr, PL.itP_scr, PL.ixP_scr, PL.listP_scr_, PL.tupleP_scr_, PL.sumP_scr_, PL.maxP_scr_, PL.minP_scr_, PL.lenP_str, PL.lenP_dk, PL.itP_str, PL.ixP_str, PL.intP_i, PL.intP_b, PL.rg1_i, PL.rg2_i, PL.lr1_i, PL.lr2_i, PL.maxP_2, PL.maxP_3, PL.minP_2, PL.minP_3, PL.slP_lst, PL.slP_tup, PL.slP_str, PL.slPL_lst, PL.pgTup_t, PL.pgTup_l, PL.pgsCons_c, PL.pgsNil_n, PL.joinRP_l, PL.reprP_i, PL.setP_i, PL.ixE_0, PL.ixE_1, PL.ixE_2, PL.ixE_3, PL.ixE_4, PL.ixE_5, PL.ixE_6, PL.ixE_7, PL.ixE_8, PL.isqrtP_i, PL.reprLP_l, PL.pMkE, PL.pErF, PL.pIsE, PL.pRevS, PL.pRetO, PL.pRetON, PL.divmodP_i, PL.pGet, PL.isi_non_int, PL.isi_non_bool, PL.isi_non_str, PL.isi_non_list, PL.isi_non_tuple, PL.isi_bl_int, PL.isi_bl_bool, PL.isi_bl_str, PL.isi_bl_list, PL.isi_bl_tuple, PL.isi_int_int, PL.isi_int_bool, PL.isi_int_str, PL.isi_int_list, PL.isi_int_tuple, PL.isi_str_int, PL.isi_str_bool, PL.isi_str_str, PL.isi_str_list, PL.isi_str_tuple, PL.isi_tup_int, PL.isi_tup_bool, PL.isi_tup_str, PL.isi_tup_list, PL.isi_tup_tuple, PL.isi_lst_int, PL.isi_lst_bool, PL.isi_lst_str, PL.isi_lst_list, PL.isi_lst_tuple, PL.pickL, List.filterMap_cons, List.filterMap_nil, true_and, decide_true, decide_false, eq_self, Int.zero_add, decide_eq_true_eq, PL.rowE, PL.rowS, PL.startC, List.length_map, List.map_cons, List.map_nil, List.length_cons, List.length_nil, List.append_nil, List.nil_append, List.cons_append, List.replicate_succ, List.replicate_zero, List.set_cons_zero, List.set_cons_succ, List.getElem?_cons_zero, List.getElem?_cons_succ, Nat.reduceAdd, Nat.reduceSub, if_true, Bool.not_true, Bool.not_false, Bool.false_eq_true, if_false])
      rw [if_neg (by decide)]
      have : i = 0 ∨ i = 1 := by omega
      rcases this with rfl | rfl
      · rw [if_neg (by decide)]
        rw [if_neg (by omega)]
        refine ⟨mulx_ok (a := 3) (b := 3) (by decide) (by decide) (by decide), by decide, C.fz (.int ((0 : Nat) : Int)), C.fz (.int 0), ?_⟩
        rw [show (lw (n + 1) : Int) + ((0 : Nat) : Int) * (n + 1) + n + 1 - 0 = lw (n + 1) + ((0 + 1 : Nat) : Int) * (n + 1) by simp; omega]
        rfl
      · rw [if_pos (by decide)]
        rw [if_pos (by omega)]
        refine ?_
        rw [PB_one] at q; simpa using q
    · rintro env ⟨i1, _⟩
      have : 400 ≤ 1 := i1
      omega
  · have s2 : 2 ≤ s := by omega
    refine for_r (W := fun i env => ∃ x y : C, env = [C.fz (.int s), C.fz (.int n), C.fz (.int (lw (n + 1) + S i (nf s n))), C.fz (.int (2 ^ i)), x, y]) ⟨.un, .un, by simp [S]⟩ ?_ ?_
    · rintro i env hi ⟨x, y, rfl⟩
      have hi : i < 400 := hi
      (try simp only [PL.pSeq, PL.pNext, PL.pSet, PL.pSetO, PL.pRet, PL.pRetN, PL.pIfS, PL.pFor, PL.pWhile, PL.pBrk, PL.pCnt, PL.pDrop, PL.pApp, PL.pAsg, PL.pgN, PL.pFrz, PL.frz, PL.pC, PL.pN, PL.pNo, PL.pBin, PL.negP, PL.pB, PL.pAnd, PL.pOr, PL.pNot, PL.pAndV, PL.pOrV, PL.pNotV, PL.pIf, PL.paNil, PL.paCons, PL.pLst, PL.pTup, PL.pIx, PL.pSl, PL.poNone, PL.poSome, PL.pCall, PL.pCallK, PL.piR1, PL.piR2, PL.piE, PL.pBits, PL.isiP_eq, PL.pLr1, PL.pJoinR, PL.pJoin, PL.pLc_eq, PL.pYes, PL.wipeC, PL.pBor, PL.pBorT, PL.frzs, PL.pSetI, PL.pChainT, PL.isNP, PL.addP_i, PL.addP_s, PL.addP_t, PL.addP_l, PL.catP_l, PL.subP_i, PL.mulP_i, PL.mulP_l, PL.repP_l, PL.mulP_s, PL.fdivP_i, PL.modP_i, PL.powP_i, PL.ltP_i, PL.ltP_s, PL.gtP_i, PL.gtP_s, PL.leP_i, PL.leP_s, PL.geP_i, PL.geP_s, PL.eqP_int, PL.eqP_str, PL.eqP_bl, PL.eqP_lst_lst, PL.eqP_tup_tup, PL.eqP_lst_tup, PL.eqP_tup_lst, PL.neP_int, PL.neP_str, PL.neP_bl, PL.neP_lst_lst, PL.neP_tup_tup, PL.neP_lst_tup, PL.neP_tup_lst, PL.asB_b, PL.asS_s, PL.lenP_lst, PL.itP_lst, PL.ixP_lst, PL.listP_lst_, PL.tupleP_lst_, PL.sumP_lst_, PL.maxP_lst_, PL.minP_lst_, PL.lenP_tup, PL.itP_tup, PL.ixP_tup, PL.listP_tup_, PL.tupleP_tup_, PL.sumP_tup_, PL.maxP_tup_, PL.minP_tup_, PL.lenP_scr, PL.itP_scr, PL.ixP_scr, PL.listP_scr_, PL.tupleP_scr_, PL.sumP_scr_, PL.maxP_scr_, PL.minP_scr_, PL.lenP_str, PL.lenP_dk, PL.itP_str, PL.ixP_str, PL.intP_i, PL.intP_b, PL.rg1_i, PL.rg2_i, PL.lr1_i, PL.lr2_i, PL.maxP_2, PL.maxP_3, PL.minP_2, PL.minP_3, PL.slP_lst, PL.slP_tup, PL.slP_str, PL.slPL_lst, PL.pgTup_t, PL.pgTup_l, PL.pgsCons_c, PL.pgsNil_n, PL.joinRP_l, PL.reprP_i, PL.setP_i, PL.ixE_0, PL.ixE_1, PL.ixE_2, PL.ixE_3, PL.ixE_4, PL.ixE_5, PL.ixE_6, PL.ixE_7, PL.ixE_8, PL.isqrtP_i, PL.reprLP_l, PL.pMkE, PL.pErF, PL.pIsE, PL.pRevS, PL.pRetO, PL.pRetON, PL.divmodP_i, PL.pGet, PL.isi_non_int, PL.isi_non_bool, PL.isi_non_str, PL.isi_non_list, PL.isi_non_tuple, PL.isi_bl_int, PL.isi_bl_bool, PL.isi_bl_str, PL.isi_bl_list, PL.isi_bl_tuple, PL.isi_int_int, PL.isi_int_bool, PL.isi_int_str, PL.isi_int_list, PL.isi_int_tuple, PL.isi_str_int, PL.isi_str_bool, PL.isi_str_str, PL.isi_str_list, PL.isi_str_tuple, PL.isi_tup_int, PL.isi_tup_bool, PL.isi_tup_str, PL.isi_tup_list, PL.isi_tup_tuple, PL.isi_lst_int, PL.isi_lst_bool, PL.isi_lst_str, PL.isi_lst_list, PL.isi_lst_tuple, PL.pickL, List.filterMap_cons, List.filterMap_nil, true_and, decide_true, decide_false, eq_self, Int.zero_add, decide_eq_true_eq, PL.rowE, PL.rowS, PL.startC, List.length_map, List.map_cons, List.map_nil, List.length_cons, List.length_nil, List.append_nil, List.nil_append, List.cons_append, List.replicate_succ, List.replicate_zero, List.set_cons_zero, List.set_cons_succ, List.getElem?_cons_zero, List.getElem?_cons_succ, Nat.reduceAdd, Nat.reduceSub, if_true, Bool.not_true, Bool.not_false, Bool.false_eq_true, if_false])
      rw [if_pos (by omega)]
      refine ⟨cdivw 10 (by omega) (by omega) (by decide), ?_⟩
      rw [nar_law]
      split
      · rename_i hl
        refine ?_
        rw [PB_at (i := i) s2 (by omega) (by omega)] at q; exact q
      · rename_i hl
        have p := p1 i
        rw [← Int.pow_succ]
        refine ⟨cmul_pow (i + 1) 2 (by omega) (by have := p2 i; omega) (by decide) (by decide) (by omega), C.fz (.int (i : Nat)), C.fz (.int (nar s i)), ?_⟩
        rw [show S (i + 1) (nf s n) = S i (nf s n) + (n + 1 - nar s i) by
          show S i (nf s n) + max 0 (n + 1 - nar s i) = _
          omega]
        rw [show (lw (n + 1) : Int) + S i (nf s n) + n + 1 - nar s i = lw (n + 1) + (S i (nf s n) + (n + 1 - nar s i)) by omega]
    · rintro env ⟨x, y, rfl⟩
      (try simp only [PL.pSeq, PL.pNext, PL.pSet, PL.pSetO, PL.pRet, PL.pRetN, PL.pIfS, PL.pFor, PL.pWhile, PL.pBrk, PL.pCnt, PL.pDrop, PL.pApp, PL.pAsg, PL.pgN, PL.pFrz, PL.frz, PL.pC, PL.pN, PL.pNo, PL.pBin, PL.negP, PL.pB, PL.pAnd, PL.pOr, PL.pNot, PL.pAndV, PL.pOrV, PL.pNotV, PL.pIf, PL.paNil, PL.paCons, PL.pLst, PL.pTup, PL.pIx, PL.pSl, PL.poNone, PL.poSome, PL.pCall, PL.pCallK, PL.piR1, PL.piR2, PL.piE, PL.pBits, PL.isiP_eq, PL.pLr1, PL.pJoinR, PL.pJoin, PL.pLc_eq, PL.pYes, PL.wipeC, PL.pBor, PL.pBorT, PL.frzs, PL.pSetI, PL.pChainT, PL.isNP, PL.addP_i, PL.addP_s, PL.addP_t, PL.addP_l, PL.catP_l, PL.subP_i, PL.mulP_i, PL.mulP_l, PL.repP_l, PL.mulP_s, PL.fdivP_i, PL.modP_i, PL.powP_i, PL.ltP_i, PL.ltP_s, PL.gtP_i, PL.gtP_s, PL.leP_i, PL.leP_s, PL.geP_i, PL.geP_s, PL.eqP_int, PL.eqP_str, PL.eqP_bl, PL.eqP_lst_lst, PL.eqP_tup_tup, PL.eqP_lst_tup, PL.eqP_tup_lst, PL.neP_int, PL.neP_str, PL.neP_bl, PL.neP_lst_lst, PL.neP_tup_tup, PL.neP_lst_tup, PL.neP_tup_lst, PL.asB_b, PL.asS_s, PL.lenP_lst, PL.itP_lst, PL.ixP_lst, PL.listP_lst_, PL.tupleP_lst_, PL.sumP_lst_, PL.maxP_lst_, PL.minP_lst_, PL.lenP_tup, PL.itP_tup, PL.ixP_tup, PL.listP_tup_, PL.tupleP_tup_, PL.sumP_tup_, PL.maxP_tup_, PL.minP_tup_, PL.lenP_scr, PL.itP_scr, PL.ixP_scr, PL.listP_scr_, PL.tupleP_scr_, PL.sumP_scr_, PL.maxP_scr_, PL.minP_scr_, PL.lenP_str, PL.lenP_dk, PL.itP_str, PL.ixP_str, PL.intP_i, PL.intP_b, PL.rg1_i, PL.rg2_i, PL.lr1_i, PL.lr2_i, PL.maxP_2, PL.maxP_3, PL.minP_2, PL.minP_3, PL.slP_lst, PL.slP_tup, PL.slP_str, PL.slPL_lst, PL.pgTup_t, PL.pgTup_l, PL.pgsCons_c, PL.pgsNil_n, PL.joinRP_l, PL.reprP_i, PL.setP_i, PL.ixE_0, PL.ixE_1, PL.ixE_2, PL.ixE_3, PL.ixE_4, PL.ixE_5, PL.ixE_6, PL.ixE_7, PL.ixE_8, PL.isqrtP_i, PL.reprLP_l, PL.pMkE, PL.pErF, PL.pIsE, PL.pRevS, PL.pRetO, PL.pRetON, PL.divmodP_i, PL.pGet, PL.isi_non_int, PL.isi_non_bool, PL.isi_non_str, PL.isi_non_list, PL.isi_non_tuple, PL.isi_bl_int, PL.isi_bl_bool, PL.isi_bl_str, PL.isi_bl_list, PL.isi_bl_tuple, PL.isi_int_int, PL.isi_int_bool, PL.isi_int_str, PL.isi_int_list, PL.isi_int_tuple, PL.isi_str_int, PL.isi_str_bool, PL.isi_str_str, PL.isi_str_list, PL.isi_str_tuple, PL.isi_tup_int, PL.isi_tup_bool, PL.isi_tup_str, PL.isi_tup_list, PL.isi_tup_tuple, PL.isi_lst_int, PL.isi_lst_bool, PL.isi_lst_str, PL.isi_lst_list, PL.isi_lst_tuple, PL.pickL, List.filterMap_cons, List.filterMap_nil, true_and, decide_true, decide_false, eq_self, Int.zero_add, decide_eq_true_eq, PL.rowE, PL.rowS, PL.startC, List.length_map, List.map_cons, List.map_nil, List.length_cons, List.length_nil, List.append_nil, List.nil_append, List.cons_append, List.replicate_succ, List.replicate_zero, List.set_cons_zero, List.set_cons_succ, List.getElem?_cons_zero, List.getElem?_cons_succ, Nat.reduceAdd, Nat.reduceSub, if_true, Bool.not_true, Bool.not_false, Bool.false_eq_true, if_false])
      unfold PB at q
      rw [if_neg e] at q; exact q
def sp_excess : PSp := fun ds P => ∃ s t n : Int, ds = [.int s, .int t, .int n] ∧ RB s t n ∧ P (.int (XS s t n))
theorem len_excess : ∀ ds P, sp_excess ds P → ds.length = 3 := by rintro _ _ ⟨_, _, n, rfl, _⟩; rfl
theorem RB.one {s t n : Int} (b : RB s t n) : RB s 1 n := ⟨b.s1, b.s6, by decide, by decide, b.n0, b.n1⟩
theorem w_excess : ∀ ds Q, sp_excess ds Q → b_excess sp_pressed_length sp_floor_bits { nx := fun _ => Q .non, rt := Q } (startC ["size", "standings", "count"] ds) := by
  rintro _ Q ⟨s, t, n, rfl, b, q⟩
  have u := up190 b.n1
  have := b.t3
  simp only [PL.startC, List.map_cons, List.map_nil, List.length_cons, List.length_nil, Nat.reduceAdd, Nat.reduceSub, List.replicate_succ, List.replicate_zero, List.cons_append, List.nil_append, List.append_nil]
  unfold b_excess
  (try simp only [PL.pSeq, PL.pNext, PL.pSet, PL.pSetO, PL.pRet, PL.pRetN, PL.pIfS, PL.pFor, PL.pWhile, PL.pBrk, PL.pCnt, PL.pDrop, PL.pApp, PL.pAsg, PL.pgN, PL.pFrz, PL.frz, PL.pC, PL.pN, PL.pNo, PL.pBin, PL.negP, PL.pB, PL.pAnd, PL.pOr, PL.pNot, PL.pAndV, PL.pOrV, PL.pNotV, PL.pIf, PL.paNil, PL.paCons, PL.pLst, PL.pTup, PL.pIx, PL.pSl, PL.poNone, PL.poSome, PL.pCall, PL.pCallK, PL.piR1, PL.piR2, PL.piE, PL.pBits, PL.isiP_eq, PL.pLr1, PL.pJoinR, PL.pJoin, PL.pLc_eq, PL.pYes, PL.wipeC, PL.pBor, PL.pBorT, PL.frzs, PL.pSetI, PL.pChainT, PL.isNP, PL.addP_i, PL.addP_s, PL.addP_t, PL.addP_l, PL.catP_l, PL.subP_i, PL.mulP_i, PL.mulP_l, PL.repP_l, PL.mulP_s, PL.fdivP_i, PL.modP_i, PL.powP_i, PL.ltP_i, PL.ltP_s, PL.gtP_i, PL.gtP_s, PL.leP_i, PL.leP_s, PL.geP_i, PL.geP_s, PL.eqP_int, PL.eqP_str, PL.eqP_bl, PL.eqP_lst_lst, PL.eqP_tup_tup, PL.eqP_lst_tup, PL.eqP_tup_lst, PL.neP_int, PL.neP_str, PL.neP_bl, PL.neP_lst_lst, PL.neP_tup_tup, PL.neP_lst_tup, PL.neP_tup_lst, PL.asB_b, PL.asS_s, PL.lenP_lst, PL.itP_lst, PL.ixP_lst, PL.listP_lst_, PL.tupleP_lst_, PL.sumP_lst_, PL.maxP_lst_, PL.minP_lst_, PL.lenP_tup, PL.itP_tup, PL.ixP_tup, PL.listP_tup_, PL.tupleP_tup_, PL.sumP_tup_, PL.maxP_tup_, PL.minP_tup_, PL.lenP_scr, PL.itP_scr, PL.ixP_scr, PL.listP_scr_, PL.tupleP_scr_, PL.sumP_scr_, PL.maxP_scr_, PL.minP_scr_, PL.lenP_str, PL.lenP_dk, PL.itP_str, PL.ixP_str, PL.intP_i, PL.intP_b, PL.rg1_i, PL.rg2_i, PL.lr1_i, PL.lr2_i, PL.maxP_2, PL.maxP_3, PL.minP_2, PL.minP_3, PL.slP_lst, PL.slP_tup, PL.slP_str, PL.slPL_lst, PL.pgTup_t, PL.pgTup_l, PL.pgsCons_c, PL.pgsNil_n, PL.joinRP_l, PL.reprP_i, PL.setP_i, PL.ixE_0, PL.ixE_1, PL.ixE_2, PL.ixE_3, PL.ixE_4, PL.ixE_5, PL.ixE_6, PL.ixE_7, PL.ixE_8, PL.isqrtP_i, PL.reprLP_l, PL.pMkE, PL.pErF, PL.pIsE, PL.pRevS, PL.pRetO, PL.pRetON, PL.divmodP_i, PL.pGet, PL.isi_non_int, PL.isi_non_bool, PL.isi_non_str, PL.isi_non_list, PL.isi_non_tuple, PL.isi_bl_int, PL.isi_bl_bool, PL.isi_bl_str, PL.isi_bl_list, PL.isi_bl_tuple, PL.isi_int_int, PL.isi_int_bool, PL.isi_int_str, PL.isi_int_list, PL.isi_int_tuple, PL.isi_str_int, PL.isi_str_bool, PL.isi_str_str, PL.isi_str_list, PL.isi_str_tuple, PL.isi_tup_int, PL.isi_tup_bool, PL.isi_tup_str, PL.isi_tup_list, PL.isi_tup_tuple, PL.isi_lst_int, PL.isi_lst_bool, PL.isi_lst_str, PL.isi_lst_list, PL.isi_lst_tuple, PL.pickL, List.filterMap_cons, List.filterMap_nil, true_and, decide_true, decide_false, eq_self, Int.zero_add, decide_eq_true_eq, PL.rowE, PL.rowS, PL.startC, List.length_map, List.map_cons, List.map_nil, List.length_cons, List.length_nil, List.append_nil, List.nil_append, List.cons_append, List.replicate_succ, List.replicate_zero, List.set_cons_zero, List.set_cons_succ, List.getElem?_cons_zero, List.getElem?_cons_succ, Nat.reduceAdd, Nat.reduceSub, if_true, Bool.not_true, Bool.not_false, Bool.false_eq_true, if_false])
  refine ⟨s, n, rfl, b.one, t, n, rfl, b.n0, by omega, b.t1, by omega, ?_⟩
  (try simp only [PL.pSeq, PL.pNext, PL.pSet, PL.pSetO, PL.pRet, PL.pRetN, PL.pIfS, PL.pFor, PL.pWhile, PL.pBrk, PL.pCnt, PL.pDrop, PL.pApp, PL.pAsg, PL.pgN, PL.pFrz, PL.frz, PL.pC, PL.pN, PL.pNo, PL.pBin, PL.negP, PL.pB, PL.pAnd, PL.pOr, PL.pNot, PL.pAndV, PL.pOrV, PL.pNotV, PL.pIf, PL.paNil, PL.paCons, PL.pLst, PL.pTup, PL.pIx, PL.pSl, PL.poNone, PL.poSome, PL.pCall, PL.pCallK, PL.piR1, PL.piR2, PL.piE, PL.pBits, PL.isiP_eq, PL.pLr1, PL.pJoinR, PL.pJoin, PL.pLc_eq, PL.pYes, PL.wipeC, PL.pBor, PL.pBorT, PL.frzs, PL.pSetI, PL.pChainT, PL.isNP, PL.addP_i, PL.addP_s, PL.addP_t, PL.addP_l, PL.catP_l, PL.subP_i, PL.mulP_i, PL.mulP_l, PL.repP_l, PL.mulP_s, PL.fdivP_i, PL.modP_i, PL.powP_i, PL.ltP_i, PL.ltP_s, PL.gtP_i, PL.gtP_s, PL.leP_i, PL.leP_s, PL.geP_i, PL.geP_s, PL.eqP_int, PL.eqP_str, PL.eqP_bl, PL.eqP_lst_lst, PL.eqP_tup_tup, PL.eqP_lst_tup, PL.eqP_tup_lst, PL.neP_int, PL.neP_str, PL.neP_bl, PL.neP_lst_lst, PL.neP_tup_tup, PL.neP_lst_tup, PL.neP_tup_lst, PL.asB_b, PL.asS_s, PL.lenP_lst, PL.itP_lst, PL.ixP_lst, PL.listP_lst_, PL.tupleP_lst_, PL.sumP_lst_, PL.maxP_lst_, PL.minP_lst_, PL.lenP_tup, PL.itP_tup, PL.ixP_tup, PL.listP_tup_, PL.tupleP_tup_, PL.sumP_tup_, PL.maxP_tup_, PL.minP_tup_, PL.lenP_scr, PL.itP_scr, PL.ixP_scr, PL.listP_scr_, PL.tupleP_scr_, PL.sumP_scr_, PL.maxP_scr_, PL.minP_scr_, PL.lenP_str, PL.lenP_dk, PL.itP_str, PL.ixP_str, PL.intP_i, PL.intP_b, PL.rg1_i, PL.rg2_i, PL.lr1_i, PL.lr2_i, PL.maxP_2, PL.maxP_3, PL.minP_2, PL.minP_3, PL.slP_lst, PL.slP_tup, PL.slP_str, PL.slPL_lst, PL.pgTup_t, PL.pgTup_l, PL.pgsCons_c, PL.pgsNil_n, PL.joinRP_l, PL.reprP_i, PL.setP_i, PL.ixE_0, PL.ixE_1, PL.ixE_2, PL.ixE_3, PL.ixE_4, PL.ixE_5, PL.ixE_6, PL.ixE_7, PL.ixE_8, PL.isqrtP_i, PL.reprLP_l, PL.pMkE, PL.pErF, PL.pIsE, PL.pRevS, PL.pRetO, PL.pRetON, PL.divmodP_i, PL.pGet, PL.isi_non_int, PL.isi_non_bool, PL.isi_non_str, PL.isi_non_list, PL.isi_non_tuple, PL.isi_bl_int, PL.isi_bl_bool, PL.isi_bl_str, PL.isi_bl_list, PL.isi_bl_tuple, PL.isi_int_int, PL.isi_int_bool, PL.isi_int_str, PL.isi_int_list, PL.isi_int_tuple, PL.isi_str_int, PL.isi_str_bool, PL.isi_str_str, PL.isi_str_list, PL.isi_str_tuple, PL.isi_tup_int, PL.isi_tup_bool, PL.isi_tup_str, PL.isi_tup_list, PL.isi_tup_tuple, PL.isi_lst_int, PL.isi_lst_bool, PL.isi_lst_str, PL.isi_lst_list, PL.isi_lst_tuple, PL.pickL, List.filterMap_cons, List.filterMap_nil, true_and, decide_true, decide_false, eq_self, Int.zero_add, decide_eq_true_eq, PL.rowE, PL.rowS, PL.startC, List.length_map, List.map_cons, List.map_nil, List.length_cons, List.length_nil, List.append_nil, List.nil_append, List.cons_append, List.replicate_succ, List.replicate_zero, List.set_cons_zero, List.set_cons_succ, List.getElem?_cons_zero, List.getElem?_cons_succ, Nat.reduceAdd, Nat.reduceSub, if_true, Bool.not_true, Bool.not_false, Bool.false_eq_true, if_false])
  exact q
def sp_law_gap : PSp := sp_excess
theorem len_law_gap : ∀ ds P, sp_law_gap ds P → ds.length = 3 := by rintro _ _ ⟨_, _, n, rfl, _⟩; rfl
theorem w_law_gap : ∀ ds Q, sp_law_gap ds Q → b_law_gap sp_law_long_block sp_law_filled { nx := fun _ => Q .non, rt := Q } (startC ["letters", "states", "many"] ds) := by
  rintro _ Q ⟨s, t, n, rfl, b, q⟩
  have u := up190 b.n1
  have := b.t3
  simp only [PL.startC, List.map_cons, List.map_nil, List.length_cons, List.length_nil, Nat.reduceAdd, Nat.reduceSub, List.replicate_succ, List.replicate_zero, List.cons_append, List.nil_append, List.append_nil]
  unfold b_law_gap
  (try simp only [PL.pSeq, PL.pNext, PL.pSet, PL.pSetO, PL.pRet, PL.pRetN, PL.pIfS, PL.pFor, PL.pWhile, PL.pBrk, PL.pCnt, PL.pDrop, PL.pApp, PL.pAsg, PL.pgN, PL.pFrz, PL.frz, PL.pC, PL.pN, PL.pNo, PL.pBin, PL.negP, PL.pB, PL.pAnd, PL.pOr, PL.pNot, PL.pAndV, PL.pOrV, PL.pNotV, PL.pIf, PL.paNil, PL.paCons, PL.pLst, PL.pTup, PL.pIx, PL.pSl, PL.poNone, PL.poSome, PL.pCall, PL.pCallK, PL.piR1, PL.piR2, PL.piE, PL.pBits, PL.isiP_eq, PL.pLr1, PL.pJoinR, PL.pJoin, PL.pLc_eq, PL.pYes, PL.wipeC, PL.pBor, PL.pBorT, PL.frzs, PL.pSetI, PL.pChainT, PL.isNP, PL.addP_i, PL.addP_s, PL.addP_t, PL.addP_l, PL.catP_l, PL.subP_i, PL.mulP_i, PL.mulP_l, PL.repP_l, PL.mulP_s, PL.fdivP_i, PL.modP_i, PL.powP_i, PL.ltP_i, PL.ltP_s, PL.gtP_i, PL.gtP_s, PL.leP_i, PL.leP_s, PL.geP_i, PL.geP_s, PL.eqP_int, PL.eqP_str, PL.eqP_bl, PL.eqP_lst_lst, PL.eqP_tup_tup, PL.eqP_lst_tup, PL.eqP_tup_lst, PL.neP_int, PL.neP_str, PL.neP_bl, PL.neP_lst_lst, PL.neP_tup_tup, PL.neP_lst_tup, PL.neP_tup_lst, PL.asB_b, PL.asS_s, PL.lenP_lst, PL.itP_lst, PL.ixP_lst, PL.listP_lst_, PL.tupleP_lst_, PL.sumP_lst_, PL.maxP_lst_, PL.minP_lst_, PL.lenP_tup, PL.itP_tup, PL.ixP_tup, PL.listP_tup_, PL.tupleP_tup_, PL.sumP_tup_, PL.maxP_tup_, PL.minP_tup_, PL.lenP_scr, PL.itP_scr, PL.ixP_scr, PL.listP_scr_, PL.tupleP_scr_, PL.sumP_scr_, PL.maxP_scr_, PL.minP_scr_, PL.lenP_str, PL.lenP_dk, PL.itP_str, PL.ixP_str, PL.intP_i, PL.intP_b, PL.rg1_i, PL.rg2_i, PL.lr1_i, PL.lr2_i, PL.maxP_2, PL.maxP_3, PL.minP_2, PL.minP_3, PL.slP_lst, PL.slP_tup, PL.slP_str, PL.slPL_lst, PL.pgTup_t, PL.pgTup_l, PL.pgsCons_c, PL.pgsNil_n, PL.joinRP_l, PL.reprP_i, PL.setP_i, PL.ixE_0, PL.ixE_1, PL.ixE_2, PL.ixE_3, PL.ixE_4, PL.ixE_5, PL.ixE_6, PL.ixE_7, PL.ixE_8, PL.isqrtP_i, PL.reprLP_l, PL.pMkE, PL.pErF, PL.pIsE, PL.pRevS, PL.pRetO, PL.pRetON, PL.divmodP_i, PL.pGet, PL.isi_non_int, PL.isi_non_bool, PL.isi_non_str, PL.isi_non_list, PL.isi_non_tuple, PL.isi_bl_int, PL.isi_bl_bool, PL.isi_bl_str, PL.isi_bl_list, PL.isi_bl_tuple, PL.isi_int_int, PL.isi_int_bool, PL.isi_int_str, PL.isi_int_list, PL.isi_int_tuple, PL.isi_str_int, PL.isi_str_bool, PL.isi_str_str, PL.isi_str_list, PL.isi_str_tuple, PL.isi_tup_int, PL.isi_tup_bool, PL.isi_tup_str, PL.isi_tup_list, PL.isi_tup_tuple, PL.isi_lst_int, PL.isi_lst_bool, PL.isi_lst_str, PL.isi_lst_list, PL.isi_lst_tuple, PL.pickL, List.filterMap_cons, List.filterMap_nil, true_and, decide_true, decide_false, eq_self, Int.zero_add, decide_eq_true_eq, PL.rowE, PL.rowS, PL.startC, List.length_map, List.map_cons, List.map_nil, List.length_cons, List.length_nil, List.append_nil, List.nil_append, List.cons_append, List.replicate_succ, List.replicate_zero, List.set_cons_zero, List.set_cons_succ, List.getElem?_cons_zero, List.getElem?_cons_succ, Nat.reduceAdd, Nat.reduceSub, if_true, Bool.not_true, Bool.not_false, Bool.false_eq_true, if_false])
  refine ⟨s, n, rfl, b.one, t, n, rfl, b.n0, by omega, b.t1, by omega, ?_⟩
  (try simp only [PL.pSeq, PL.pNext, PL.pSet, PL.pSetO, PL.pRet, PL.pRetN, PL.pIfS, PL.pFor, PL.pWhile, PL.pBrk, PL.pCnt, PL.pDrop, PL.pApp, PL.pAsg, PL.pgN, PL.pFrz, PL.frz, PL.pC, PL.pN, PL.pNo, PL.pBin, PL.negP, PL.pB, PL.pAnd, PL.pOr, PL.pNot, PL.pAndV, PL.pOrV, PL.pNotV, PL.pIf, PL.paNil, PL.paCons, PL.pLst, PL.pTup, PL.pIx, PL.pSl, PL.poNone, PL.poSome, PL.pCall, PL.pCallK, PL.piR1, PL.piR2, PL.piE, PL.pBits, PL.isiP_eq, PL.pLr1, PL.pJoinR, PL.pJoin, PL.pLc_eq, PL.pYes, PL.wipeC, PL.pBor, PL.pBorT, PL.frzs, PL.pSetI, PL.pChainT, PL.isNP, PL.addP_i, PL.addP_s, PL.addP_t, PL.addP_l, PL.catP_l, PL.subP_i, PL.mulP_i, PL.mulP_l, PL.repP_l, PL.mulP_s, PL.fdivP_i, PL.modP_i, PL.powP_i, PL.ltP_i, PL.ltP_s, PL.gtP_i, PL.gtP_s, PL.leP_i, PL.leP_s, PL.geP_i, PL.geP_s, PL.eqP_int, PL.eqP_str, PL.eqP_bl, PL.eqP_lst_lst, PL.eqP_tup_tup, PL.eqP_lst_tup, PL.eqP_tup_lst, PL.neP_int, PL.neP_str, PL.neP_bl, PL.neP_lst_lst, PL.neP_tup_tup, PL.neP_lst_tup, PL.neP_tup_lst, PL.asB_b, PL.asS_s, PL.lenP_lst, PL.itP_lst, PL.ixP_lst, PL.listP_lst_, PL.tupleP_lst_, PL.sumP_lst_, PL.maxP_lst_, PL.minP_lst_, PL.lenP_tup, PL.itP_tup, PL.ixP_tup, PL.listP_tup_, PL.tupleP_tup_, PL.sumP_tup_, PL.maxP_tup_, PL.minP_tup_, PL.lenP_scr, PL.itP_scr, PL.ixP_scr, PL.listP_scr_, PL.tupleP_scr_, PL.sumP_scr_, PL.maxP_scr_, PL.minP_scr_, PL.lenP_str, PL.lenP_dk, PL.itP_str, PL.ixP_str, PL.intP_i, PL.intP_b, PL.rg1_i, PL.rg2_i, PL.lr1_i, PL.lr2_i, PL.maxP_2, PL.maxP_3, PL.minP_2, PL.minP_3, PL.slP_lst, PL.slP_tup, PL.slP_str, PL.slPL_lst, PL.pgTup_t, PL.pgTup_l, PL.pgsCons_c, PL.pgsNil_n, PL.joinRP_l, PL.reprP_i, PL.setP_i, PL.ixE_0, PL.ixE_1, PL.ixE_2, PL.ixE_3, PL.ixE_4, PL.ixE_5, PL.ixE_6, PL.ixE_7, PL.ixE_8, PL.isqrtP_i, PL.reprLP_l, PL.pMkE, PL.pErF, PL.pIsE, PL.pRevS, PL.pRetO, PL.pRetON, PL.divmodP_i, PL.pGet, PL.isi_non_int, PL.isi_non_bool, PL.isi_non_str, PL.isi_non_list, PL.isi_non_tuple, PL.isi_bl_int, PL.isi_bl_bool, PL.isi_bl_str, PL.isi_bl_list, PL.isi_bl_tuple, PL.isi_int_int, PL.isi_int_bool, PL.isi_int_str, PL.isi_int_list, PL.isi_int_tuple, PL.isi_str_int, PL.isi_str_bool, PL.isi_str_str, PL.isi_str_list, PL.isi_str_tuple, PL.isi_tup_int, PL.isi_tup_bool, PL.isi_tup_str, PL.isi_tup_list, PL.isi_tup_tuple, PL.isi_lst_int, PL.isi_lst_bool, PL.isi_lst_str, PL.isi_lst_list, PL.isi_lst_tuple, PL.pickL, List.filterMap_cons, List.filterMap_nil, true_and, decide_true, decide_false, eq_self, Int.zero_add, decide_eq_true_eq, PL.rowE, PL.rowS, PL.startC, List.length_map, List.map_cons, List.map_nil, List.length_cons, List.length_nil, List.append_nil, List.nil_append, List.cons_append, List.replicate_succ, List.replicate_zero, List.set_cons_zero, List.set_cons_succ, List.getElem?_cons_zero, List.getElem?_cons_succ, Nat.reduceAdd, Nat.reduceSub, if_true, Bool.not_true, Bool.not_false, Bool.false_eq_true, if_false])
  exact q
def sp_law_numbers_hold : PSp := fun ds P => ∃ s t n : Int, ds = [.int s, .int t, .int n] ∧ RB s t n ∧ P (.bl true)
theorem len_law_numbers_hold : ∀ ds P, sp_law_numbers_hold ds P → ds.length = 3 := by rintro _ _ ⟨_, _, n, rfl, _⟩; rfl
theorem w_law_numbers_hold : ∀ ds Q, sp_law_numbers_hold ds Q → b_law_numbers_hold sp_excess sp_told_excess sp_law_whole sp_law_gap sp_law_told { nx := fun _ => Q .non, rt := Q } (startC ["letters", "states", "many", "gap", "told"] ds) := by
  rintro _ Q ⟨s, t, n, rfl, b, q⟩
  have u := up190 b.n1
  have t3 := b.t3
  have le := XS_told b.s1 b.s6 b.t1 (by omega) b.n0 (by omega : n < 2 ^ 200)
  simp only [PL.startC, List.map_cons, List.map_nil, List.length_cons, List.length_nil, Nat.reduceAdd, Nat.reduceSub, List.replicate_succ, List.replicate_zero, List.cons_append, List.nil_append, List.append_nil]
  unfold b_law_numbers_hold
  (try simp only [PL.pSeq, PL.pNext, PL.pSet, PL.pSetO, PL.pRet, PL.pRetN, PL.pIfS, PL.pFor, PL.pWhile, PL.pBrk, PL.pCnt, PL.pDrop, PL.pApp, PL.pAsg, PL.pgN, PL.pFrz, PL.frz, PL.pC, PL.pN, PL.pNo, PL.pBin, PL.negP, PL.pB, PL.pAnd, PL.pOr, PL.pNot, PL.pAndV, PL.pOrV, PL.pNotV, PL.pIf, PL.paNil, PL.paCons, PL.pLst, PL.pTup, PL.pIx, PL.pSl, PL.poNone, PL.poSome, PL.pCall, PL.pCallK, PL.piR1, PL.piR2, PL.piE, PL.pBits, PL.isiP_eq, PL.pLr1, PL.pJoinR, PL.pJoin, PL.pLc_eq, PL.pYes, PL.wipeC, PL.pBor, PL.pBorT, PL.frzs, PL.pSetI, PL.pChainT, PL.isNP, PL.addP_i, PL.addP_s, PL.addP_t, PL.addP_l, PL.catP_l, PL.subP_i, PL.mulP_i, PL.mulP_l, PL.repP_l, PL.mulP_s, PL.fdivP_i, PL.modP_i, PL.powP_i, PL.ltP_i, PL.ltP_s, PL.gtP_i, PL.gtP_s, PL.leP_i, PL.leP_s, PL.geP_i, PL.geP_s, PL.eqP_int, PL.eqP_str, PL.eqP_bl, PL.eqP_lst_lst, PL.eqP_tup_tup, PL.eqP_lst_tup, PL.eqP_tup_lst, PL.neP_int, PL.neP_str, PL.neP_bl, PL.neP_lst_lst, PL.neP_tup_tup, PL.neP_lst_tup, PL.neP_tup_lst, PL.asB_b, PL.asS_s, PL.lenP_lst, PL.itP_lst, PL.ixP_lst, PL.listP_lst_, PL.tupleP_lst_, PL.sumP_lst_, PL.maxP_lst_, PL.minP_lst_, PL.lenP_tup, PL.itP_tup, PL.ixP_tup, PL.listP_tup_, PL.tupleP_tup_, PL.sumP_tup_, PL.maxP_tup_, PL.minP_tup_, PL.lenP_scr, PL.itP_scr, PL.ixP_scr, PL.listP_scr_, PL.tupleP_scr_, PL.sumP_scr_, PL.maxP_scr_, PL.minP_scr_, PL.lenP_str, PL.lenP_dk, PL.itP_str, PL.ixP_str, PL.intP_i, PL.intP_b, PL.rg1_i, PL.rg2_i, PL.lr1_i, PL.lr2_i, PL.maxP_2, PL.maxP_3, PL.minP_2, PL.minP_3, PL.slP_lst, PL.slP_tup, PL.slP_str, PL.slPL_lst, PL.pgTup_t, PL.pgTup_l, PL.pgsCons_c, PL.pgsNil_n, PL.joinRP_l, PL.reprP_i, PL.setP_i, PL.ixE_0, PL.ixE_1, PL.ixE_2, PL.ixE_3, PL.ixE_4, PL.ixE_5, PL.ixE_6, PL.ixE_7, PL.ixE_8, PL.isqrtP_i, PL.reprLP_l, PL.pMkE, PL.pErF, PL.pIsE, PL.pRevS, PL.pRetO, PL.pRetON, PL.divmodP_i, PL.pGet, PL.isi_non_int, PL.isi_non_bool, PL.isi_non_str, PL.isi_non_list, PL.isi_non_tuple, PL.isi_bl_int, PL.isi_bl_bool, PL.isi_bl_str, PL.isi_bl_list, PL.isi_bl_tuple, PL.isi_int_int, PL.isi_int_bool, PL.isi_int_str, PL.isi_int_list, PL.isi_int_tuple, PL.isi_str_int, PL.isi_str_bool, PL.isi_str_str, PL.isi_str_list, PL.isi_str_tuple, PL.isi_tup_int, PL.isi_tup_bool, PL.isi_tup_str, PL.isi_tup_list, PL.isi_tup_tuple, PL.isi_lst_int, PL.isi_lst_bool, PL.isi_lst_str, PL.isi_lst_list, PL.isi_lst_tuple, PL.pickL, List.filterMap_cons, List.filterMap_nil, true_and, decide_true, decide_false, eq_self, Int.zero_add, decide_eq_true_eq, PL.rowE, PL.rowS, PL.startC, List.length_map, List.map_cons, List.map_nil, List.length_cons, List.length_nil, List.append_nil, List.nil_append, List.cons_append, List.replicate_succ, List.replicate_zero, List.set_cons_zero, List.set_cons_succ, List.getElem?_cons_zero, List.getElem?_cons_succ, Nat.reduceAdd, Nat.reduceSub, if_true, Bool.not_true, Bool.not_false, Bool.false_eq_true, if_false])
  refine ⟨s, t, n, rfl, b, ?_⟩
  refine ⟨s, t, n, rfl, b, ?_⟩
  refine jn (fun e => e = [C.fz (.int s), C.fz (.int t), C.fz (.int n), C.fz (.int (XS s t n)), C.fz (.int (TO s t n))]) ?_ ?_
  · (try simp only [PL.pSeq, PL.pNext, PL.pSet, PL.pSetO, PL.pRet, PL.pRetN, PL.pIfS, PL.pFor, PL.pWhile, PL.pBrk, PL.pCnt, PL.pDrop, PL.pApp, PL.pAsg, PL.pgN, PL.pFrz, PL.frz, PL.pC, PL.pN, PL.pNo, PL.pBin, PL.negP, PL.pB, PL.pAnd, PL.pOr, PL.pNot, PL.pAndV, PL.pOrV, PL.pNotV, PL.pIf, PL.paNil, PL.paCons, PL.pLst, PL.pTup, PL.pIx, PL.pSl, PL.poNone, PL.poSome, PL.pCall, PL.pCallK, PL.piR1, PL.piR2, PL.piE, PL.pBits, PL.isiP_eq, PL.pLr1, PL.pJoinR, PL.pJoin, PL.pLc_eq, PL.pYes, PL.wipeC, PL.pBor, PL.pBorT, PL.frzs, PL.pSetI, PL.pChainT, PL.isNP, PL.addP_i, PL.addP_s, PL.addP_t, PL.addP_l, PL.catP_l, PL.subP_i, PL.mulP_i, PL.mulP_l, PL.repP_l, PL.mulP_s, PL.fdivP_i, PL.modP_i, PL.powP_i, PL.ltP_i, PL.ltP_s, PL.gtP_i, PL.gtP_s, PL.leP_i, PL.leP_s, PL.geP_i, PL.geP_s, PL.eqP_int, PL.eqP_str, PL.eqP_bl, PL.eqP_lst_lst, PL.eqP_tup_tup, PL.eqP_lst_tup, PL.eqP_tup_lst, PL.neP_int, PL.neP_str, PL.neP_bl, PL.neP_lst_lst, PL.neP_tup_tup, PL.neP_lst_tup, PL.neP_tup_lst, PL.asB_b, PL.asS_s, PL.lenP_lst, PL.itP_lst, PL.ixP_lst, PL.listP_lst_, PL.tupleP_lst_, PL.sumP_lst_, PL.maxP_lst_, PL.minP_lst_, PL.lenP_tup, PL.itP_tup, PL.ixP_tup, PL.listP_tup_, PL.tupleP_tup_, PL.sumP_tup_, PL.maxP_tup_, PL.minP_tup_, PL.lenP_scr, PL.itP_scr, PL.ixP_scr, PL.listP_scr_, PL.tupleP_scr_, PL.sumP_scr_, PL.maxP_scr_, PL.minP_scr_, PL.lenP_str, PL.lenP_dk, PL.itP_str, PL.ixP_str, PL.intP_i, PL.intP_b, PL.rg1_i, PL.rg2_i, PL.lr1_i, PL.lr2_i, PL.maxP_2, PL.maxP_3, PL.minP_2, PL.minP_3, PL.slP_lst, PL.slP_tup, PL.slP_str, PL.slPL_lst, PL.pgTup_t, PL.pgTup_l, PL.pgsCons_c, PL.pgsNil_n, PL.joinRP_l, PL.reprP_i, PL.setP_i, PL.ixE_0, PL.ixE_1, PL.ixE_2, PL.ixE_3, PL.ixE_4, PL.ixE_5, PL.ixE_6, PL.ixE_7, PL.ixE_8, PL.isqrtP_i, PL.reprLP_l, PL.pMkE, PL.pErF, PL.pIsE, PL.pRevS, PL.pRetO, PL.pRetON, PL.divmodP_i, PL.pGet, PL.isi_non_int, PL.isi_non_bool, PL.isi_non_str, PL.isi_non_list, PL.isi_non_tuple, PL.isi_bl_int, PL.isi_bl_bool, PL.isi_bl_str, PL.isi_bl_list, PL.isi_bl_tuple, PL.isi_int_int, PL.isi_int_bool, PL.isi_int_str, PL.isi_int_list, PL.isi_int_tuple, PL.isi_str_int, PL.isi_str_bool, PL.isi_str_str, PL.isi_str_list, PL.isi_str_tuple, PL.isi_tup_int, PL.isi_tup_bool, PL.isi_tup_str, PL.isi_tup_list, PL.isi_tup_tuple, PL.isi_lst_int, PL.isi_lst_bool, PL.isi_lst_str, PL.isi_lst_list, PL.isi_lst_tuple, PL.pickL, List.filterMap_cons, List.filterMap_nil, true_and, decide_true, decide_false, eq_self, Int.zero_add, decide_eq_true_eq, PL.rowE, PL.rowS, PL.startC, List.length_map, List.map_cons, List.map_nil, List.length_cons, List.length_nil, List.append_nil, List.nil_append, List.cons_append, List.replicate_succ, List.replicate_zero, List.set_cons_zero, List.set_cons_succ, List.getElem?_cons_zero, List.getElem?_cons_succ, Nat.reduceAdd, Nat.reduceSub, if_true, Bool.not_true, Bool.not_false, Bool.false_eq_true, if_false, sp_law_whole_eq])
    refine ⟨s, t, n, rfl, b, ?_⟩
    (try simp only [PL.pSeq, PL.pNext, PL.pSet, PL.pSetO, PL.pRet, PL.pRetN, PL.pIfS, PL.pFor, PL.pWhile, PL.pBrk, PL.pCnt, PL.pDrop, PL.pApp, PL.pAsg, PL.pgN, PL.pFrz, PL.frz, PL.pC, PL.pN, PL.pNo, PL.pBin, PL.negP, PL.pB, PL.pAnd, PL.pOr, PL.pNot, PL.pAndV, PL.pOrV, PL.pNotV, PL.pIf, PL.paNil, PL.paCons, PL.pLst, PL.pTup, PL.pIx, PL.pSl, PL.poNone, PL.poSome, PL.pCall, PL.pCallK, PL.piR1, PL.piR2, PL.piE, PL.pBits, PL.isiP_eq, PL.pLr1, PL.pJoinR, PL.pJoin, PL.pLc_eq, PL.pYes, PL.wipeC, PL.pBor, PL.pBorT, PL.frzs, PL.pSetI, PL.pChainT, PL.isNP, PL.addP_i, PL.addP_s, PL.addP_t, PL.addP_l, PL.catP_l, PL.subP_i, PL.mulP_i, PL.mulP_l, PL.repP_l, PL.mulP_s, PL.fdivP_i, PL.modP_i, PL.powP_i, PL.ltP_i, PL.ltP_s, PL.gtP_i, PL.gtP_s, PL.leP_i, PL.leP_s, PL.geP_i, PL.geP_s, PL.eqP_int, PL.eqP_str, PL.eqP_bl, PL.eqP_lst_lst, PL.eqP_tup_tup, PL.eqP_lst_tup, PL.eqP_tup_lst, PL.neP_int, PL.neP_str, PL.neP_bl, PL.neP_lst_lst, PL.neP_tup_tup, PL.neP_lst_tup, PL.neP_tup_lst, PL.asB_b, PL.asS_s, PL.lenP_lst, PL.itP_lst, PL.ixP_lst, PL.listP_lst_, PL.tupleP_lst_, PL.sumP_lst_, PL.maxP_lst_, PL.minP_lst_, PL.lenP_tup, PL.itP_tup, PL.ixP_tup, PL.listP_tup_, PL.tupleP_tup_, PL.sumP_tup_, PL.maxP_tup_, PL.minP_tup_, PL.lenP_scr, PL.itP_scr, PL.ixP_scr, PL.listP_scr_, PL.tupleP_scr_, PL.sumP_scr_, PL.maxP_scr_, PL.minP_scr_, PL.lenP_str, PL.lenP_dk, PL.itP_str, PL.ixP_str, PL.intP_i, PL.intP_b, PL.rg1_i, PL.rg2_i, PL.lr1_i, PL.lr2_i, PL.maxP_2, PL.maxP_3, PL.minP_2, PL.minP_3, PL.slP_lst, PL.slP_tup, PL.slP_str, PL.slPL_lst, PL.pgTup_t, PL.pgTup_l, PL.pgsCons_c, PL.pgsNil_n, PL.joinRP_l, PL.reprP_i, PL.setP_i, PL.ixE_0, PL.ixE_1, PL.ixE_2, PL.ixE_3, PL.ixE_4, PL.ixE_5, PL.ixE_6, PL.ixE_7, PL.ixE_8, PL.isqrtP_i, PL.reprLP_l, PL.pMkE, PL.pErF, PL.pIsE, PL.pRevS, PL.pRetO, PL.pRetON, PL.divmodP_i, PL.pGet, PL.isi_non_int, PL.isi_non_bool, PL.isi_non_str, PL.isi_non_list, PL.isi_non_tuple, PL.isi_bl_int, PL.isi_bl_bool, PL.isi_bl_str, PL.isi_bl_list, PL.isi_bl_tuple, PL.isi_int_int, PL.isi_int_bool, PL.isi_int_str, PL.isi_int_list, PL.isi_int_tuple, PL.isi_str_int, PL.isi_str_bool, PL.isi_str_str, PL.isi_str_list, PL.isi_str_tuple, PL.isi_tup_int, PL.isi_tup_bool, PL.isi_tup_str, PL.isi_tup_list, PL.isi_tup_tuple, PL.isi_lst_int, PL.isi_lst_bool, PL.isi_lst_str, PL.isi_lst_list, PL.isi_lst_tuple, PL.pickL, List.filterMap_cons, List.filterMap_nil, true_and, decide_true, decide_false, eq_self, Int.zero_add, decide_eq_true_eq, PL.rowE, PL.rowS, PL.startC, List.length_map, List.map_cons, List.map_nil, List.length_cons, List.length_nil, List.append_nil, List.nil_append, List.cons_append, List.replicate_succ, List.replicate_zero, List.set_cons_zero, List.set_cons_succ, List.getElem?_cons_zero, List.getElem?_cons_succ, Nat.reduceAdd, Nat.reduceSub, if_true, Bool.not_true, Bool.not_false, Bool.false_eq_true, if_false])
  rintro _ rfl
  (try simp only [PL.pSeq, PL.pNext, PL.pSet, PL.pSetO, PL.pRet, PL.pRetN, PL.pIfS, PL.pFor, PL.pWhile, PL.pBrk, PL.pCnt, PL.pDrop, PL.pApp, PL.pAsg, PL.pgN, PL.pFrz, PL.frz, PL.pC, PL.pN, PL.pNo, PL.pBin, PL.negP, PL.pB, PL.pAnd, PL.pOr, PL.pNot, PL.pAndV, PL.pOrV, PL.pNotV, PL.pIf, PL.paNil, PL.paCons, PL.pLst, PL.pTup, PL.pIx, PL.pSl, PL.poNone, PL.poSome, PL.pCall, PL.pCallK, PL.piR1, PL.piR2, PL.piE, PL.pBits, PL.isiP_eq, PL.pLr1, PL.pJoinR, PL.pJoin, PL.pLc_eq, PL.pYes, PL.wipeC, PL.pBor, PL.pBorT, PL.frzs, PL.pSetI, PL.pChainT, PL.isNP, PL.addP_i, PL.addP_s, PL.addP_t, PL.addP_l, PL.catP_l, PL.subP_i, PL.mulP_i, PL.mulP_l, PL.repP_l, PL.mulP_s, PL.fdivP_i, PL.modP_i, PL.powP_i, PL.ltP_i, PL.ltP_s, PL.gtP_i, PL.gtP_s, PL.leP_i, PL.leP_s, PL.geP_i, PL.geP_s, PL.eqP_int, PL.eqP_str, PL.eqP_bl, PL.eqP_lst_lst, PL.eqP_tup_tup, PL.eqP_lst_tup, PL.eqP_tup_lst, PL.neP_int, PL.neP_str, PL.neP_bl, PL.neP_lst_lst, PL.neP_tup_tup, PL.neP_lst_tup, PL.neP_tup_lst, PL.asB_b, PL.asS_s, PL.lenP_lst, PL.itP_lst, PL.ixP_lst, PL.listP_lst_, PL.tupleP_lst_, PL.sumP_lst_, PL.maxP_lst_, PL.minP_lst_, PL.lenP_tup, PL.itP_tup, PL.ixP_tup, PL.listP_tup_, PL.tupleP_tup_, PL.sumP_tup_, PL.maxP_tup_, PL.minP_tup_, PL.lenP_scr, PL.itP_scr, PL.ixP_scr, PL.listP_scr_, PL.tupleP_scr_, PL.sumP_scr_, PL.maxP_scr_, PL.minP_scr_, PL.lenP_str, PL.lenP_dk, PL.itP_str, PL.ixP_str, PL.intP_i, PL.intP_b, PL.rg1_i, PL.rg2_i, PL.lr1_i, PL.lr2_i, PL.maxP_2, PL.maxP_3, PL.minP_2, PL.minP_3, PL.slP_lst, PL.slP_tup, PL.slP_str, PL.slPL_lst, PL.pgTup_t, PL.pgTup_l, PL.pgsCons_c, PL.pgsNil_n, PL.joinRP_l, PL.reprP_i, PL.setP_i, PL.ixE_0, PL.ixE_1, PL.ixE_2, PL.ixE_3, PL.ixE_4, PL.ixE_5, PL.ixE_6, PL.ixE_7, PL.ixE_8, PL.isqrtP_i, PL.reprLP_l, PL.pMkE, PL.pErF, PL.pIsE, PL.pRevS, PL.pRetO, PL.pRetON, PL.divmodP_i, PL.pGet, PL.isi_non_int, PL.isi_non_bool, PL.isi_non_str, PL.isi_non_list, PL.isi_non_tuple, PL.isi_bl_int, PL.isi_bl_bool, PL.isi_bl_str, PL.isi_bl_list, PL.isi_bl_tuple, PL.isi_int_int, PL.isi_int_bool, PL.isi_int_str, PL.isi_int_list, PL.isi_int_tuple, PL.isi_str_int, PL.isi_str_bool, PL.isi_str_str, PL.isi_str_list, PL.isi_str_tuple, PL.isi_tup_int, PL.isi_tup_bool, PL.isi_tup_str, PL.isi_tup_list, PL.isi_tup_tuple, PL.isi_lst_int, PL.isi_lst_bool, PL.isi_lst_str, PL.isi_lst_list, PL.isi_lst_tuple, PL.pickL, List.filterMap_cons, List.filterMap_nil, true_and, decide_true, decide_false, eq_self, Int.zero_add, decide_eq_true_eq, PL.rowE, PL.rowS, PL.startC, List.length_map, List.map_cons, List.map_nil, List.length_cons, List.length_nil, List.append_nil, List.nil_append, List.cons_append, List.replicate_succ, List.replicate_zero, List.set_cons_zero, List.set_cons_succ, List.getElem?_cons_zero, List.getElem?_cons_succ, Nat.reduceAdd, Nat.reduceSub, if_true, Bool.not_true, Bool.not_false, Bool.false_eq_true, if_false])
  refine ⟨s, t, n, rfl, b, ?_⟩
  (try simp only [PL.pSeq, PL.pNext, PL.pSet, PL.pSetO, PL.pRet, PL.pRetN, PL.pIfS, PL.pFor, PL.pWhile, PL.pBrk, PL.pCnt, PL.pDrop, PL.pApp, PL.pAsg, PL.pgN, PL.pFrz, PL.frz, PL.pC, PL.pN, PL.pNo, PL.pBin, PL.negP, PL.pB, PL.pAnd, PL.pOr, PL.pNot, PL.pAndV, PL.pOrV, PL.pNotV, PL.pIf, PL.paNil, PL.paCons, PL.pLst, PL.pTup, PL.pIx, PL.pSl, PL.poNone, PL.poSome, PL.pCall, PL.pCallK, PL.piR1, PL.piR2, PL.piE, PL.pBits, PL.isiP_eq, PL.pLr1, PL.pJoinR, PL.pJoin, PL.pLc_eq, PL.pYes, PL.wipeC, PL.pBor, PL.pBorT, PL.frzs, PL.pSetI, PL.pChainT, PL.isNP, PL.addP_i, PL.addP_s, PL.addP_t, PL.addP_l, PL.catP_l, PL.subP_i, PL.mulP_i, PL.mulP_l, PL.repP_l, PL.mulP_s, PL.fdivP_i, PL.modP_i, PL.powP_i, PL.ltP_i, PL.ltP_s, PL.gtP_i, PL.gtP_s, PL.leP_i, PL.leP_s, PL.geP_i, PL.geP_s, PL.eqP_int, PL.eqP_str, PL.eqP_bl, PL.eqP_lst_lst, PL.eqP_tup_tup, PL.eqP_lst_tup, PL.eqP_tup_lst, PL.neP_int, PL.neP_str, PL.neP_bl, PL.neP_lst_lst, PL.neP_tup_tup, PL.neP_lst_tup, PL.neP_tup_lst, PL.asB_b, PL.asS_s, PL.lenP_lst, PL.itP_lst, PL.ixP_lst, PL.listP_lst_, PL.tupleP_lst_, PL.sumP_lst_, PL.maxP_lst_, PL.minP_lst_, PL.lenP_tup, PL.itP_tup, PL.ixP_tup, PL.listP_tup_, PL.tupleP_tup_, PL.sumP_tup_, PL.maxP_tup_, PL.minP_tup_, PL.lenP_scr, PL.itP_scr, PL.ixP_scr, PL.listP_scr_, PL.tupleP_scr_, PL.sumP_scr_, PL.maxP_scr_, PL.minP_scr_, PL.lenP_str, PL.lenP_dk, PL.itP_str, PL.ixP_str, PL.intP_i, PL.intP_b, PL.rg1_i, PL.rg2_i, PL.lr1_i, PL.lr2_i, PL.maxP_2, PL.maxP_3, PL.minP_2, PL.minP_3, PL.slP_lst, PL.slP_tup, PL.slP_str, PL.slPL_lst, PL.pgTup_t, PL.pgTup_l, PL.pgsCons_c, PL.pgsNil_n, PL.joinRP_l, PL.reprP_i, PL.setP_i, PL.ixE_0, PL.ixE_1, PL.ixE_2, PL.ixE_3, PL.ixE_4, PL.ixE_5, PL.ixE_6, PL.ixE_7, PL.ixE_8, PL.isqrtP_i, PL.reprLP_l, PL.pMkE, PL.pErF, PL.pIsE, PL.pRevS, PL.pRetO, PL.pRetON, PL.divmodP_i, PL.pGet, PL.isi_non_int, PL.isi_non_bool, PL.isi_non_str, PL.isi_non_list, PL.isi_non_tuple, PL.isi_bl_int, PL.isi_bl_bool, PL.isi_bl_str, PL.isi_bl_list, PL.isi_bl_tuple, PL.isi_int_int, PL.isi_int_bool, PL.isi_int_str, PL.isi_int_list, PL.isi_int_tuple, PL.isi_str_int, PL.isi_str_bool, PL.isi_str_str, PL.isi_str_list, PL.isi_str_tuple, PL.isi_tup_int, PL.isi_tup_bool, PL.isi_tup_str, PL.isi_tup_list, PL.isi_tup_tuple, PL.isi_lst_int, PL.isi_lst_bool, PL.isi_lst_str, PL.isi_lst_list, PL.isi_lst_tuple, PL.pickL, List.filterMap_cons, List.filterMap_nil, true_and, decide_true, decide_false, eq_self, Int.zero_add, decide_eq_true_eq, PL.rowE, PL.rowS, PL.startC, List.length_map, List.map_cons, List.map_nil, List.length_cons, List.length_nil, List.append_nil, List.nil_append, List.cons_append, List.replicate_succ, List.replicate_zero, List.set_cons_zero, List.set_cons_succ, List.getElem?_cons_zero, List.getElem?_cons_succ, Nat.reduceAdd, Nat.reduceSub, if_true, Bool.not_true, Bool.not_false, Bool.false_eq_true, if_false])
  refine ⟨s, t, n, rfl, b, ?_⟩
  (try simp only [PL.pSeq, PL.pNext, PL.pSet, PL.pSetO, PL.pRet, PL.pRetN, PL.pIfS, PL.pFor, PL.pWhile, PL.pBrk, PL.pCnt, PL.pDrop, PL.pApp, PL.pAsg, PL.pgN, PL.pFrz, PL.frz, PL.pC, PL.pN, PL.pNo, PL.pBin, PL.negP, PL.pB, PL.pAnd, PL.pOr, PL.pNot, PL.pAndV, PL.pOrV, PL.pNotV, PL.pIf, PL.paNil, PL.paCons, PL.pLst, PL.pTup, PL.pIx, PL.pSl, PL.poNone, PL.poSome, PL.pCall, PL.pCallK, PL.piR1, PL.piR2, PL.piE, PL.pBits, PL.isiP_eq, PL.pLr1, PL.pJoinR, PL.pJoin, PL.pLc_eq, PL.pYes, PL.wipeC, PL.pBor, PL.pBorT, PL.frzs, PL.pSetI, PL.pChainT, PL.isNP, PL.addP_i, PL.addP_s, PL.addP_t, PL.addP_l, PL.catP_l, PL.subP_i, PL.mulP_i, PL.mulP_l, PL.repP_l, PL.mulP_s, PL.fdivP_i, PL.modP_i, PL.powP_i, PL.ltP_i, PL.ltP_s, PL.gtP_i, PL.gtP_s, PL.leP_i, PL.leP_s, PL.geP_i, PL.geP_s, PL.eqP_int, PL.eqP_str, PL.eqP_bl, PL.eqP_lst_lst, PL.eqP_tup_tup, PL.eqP_lst_tup, PL.eqP_tup_lst, PL.neP_int, PL.neP_str, PL.neP_bl, PL.neP_lst_lst, PL.neP_tup_tup, PL.neP_lst_tup, PL.neP_tup_lst, PL.asB_b, PL.asS_s, PL.lenP_lst, PL.itP_lst, PL.ixP_lst, PL.listP_lst_, PL.tupleP_lst_, PL.sumP_lst_, PL.maxP_lst_, PL.minP_lst_, PL.lenP_tup, PL.itP_tup, PL.ixP_tup, PL.listP_tup_, PL.tupleP_tup_, PL.sumP_tup_, PL.maxP_tup_, PL.minP_tup_, PL.lenP_scr, PL.itP_scr, PL.ixP_scr, PL.listP_scr_, PL.tupleP_scr_, PL.sumP_scr_, PL.maxP_scr_, PL.minP_scr_, PL.lenP_str, PL.lenP_dk, PL.itP_str, PL.ixP_str, PL.intP_i, PL.intP_b, PL.rg1_i, PL.rg2_i, PL.lr1_i, PL.lr2_i, PL.maxP_2, PL.maxP_3, PL.minP_2, PL.minP_3, PL.slP_lst, PL.slP_tup, PL.slP_str, PL.slPL_lst, PL.pgTup_t, PL.pgTup_l, PL.pgsCons_c, PL.pgsNil_n, PL.joinRP_l, PL.reprP_i, PL.setP_i, PL.ixE_0, PL.ixE_1, PL.ixE_2, PL.ixE_3, PL.ixE_4, PL.ixE_5, PL.ixE_6, PL.ixE_7, PL.ixE_8, PL.isqrtP_i, PL.reprLP_l, PL.pMkE, PL.pErF, PL.pIsE, PL.pRevS, PL.pRetO, PL.pRetON, PL.divmodP_i, PL.pGet, PL.isi_non_int, PL.isi_non_bool, PL.isi_non_str, PL.isi_non_list, PL.isi_non_tuple, PL.isi_bl_int, PL.isi_bl_bool, PL.isi_bl_str, PL.isi_bl_list, PL.isi_bl_tuple, PL.isi_int_int, PL.isi_int_bool, PL.isi_int_str, PL.isi_int_list, PL.isi_int_tuple, PL.isi_str_int, PL.isi_str_bool, PL.isi_str_str, PL.isi_str_list, PL.isi_str_tuple, PL.isi_tup_int, PL.isi_tup_bool, PL.isi_tup_str, PL.isi_tup_list, PL.isi_tup_tuple, PL.isi_lst_int, PL.isi_lst_bool, PL.isi_lst_str, PL.isi_lst_list, PL.isi_lst_tuple, PL.pickL, List.filterMap_cons, List.filterMap_nil, true_and, decide_true, decide_false, eq_self, Int.zero_add, decide_eq_true_eq, PL.rowE, PL.rowS, PL.startC, List.length_map, List.map_cons, List.map_nil, List.length_cons, List.length_nil, List.append_nil, List.nil_append, List.cons_append, List.replicate_succ, List.replicate_zero, List.set_cons_zero, List.set_cons_succ, List.getElem?_cons_zero, List.getElem?_cons_succ, Nat.reduceAdd, Nat.reduceSub, if_true, Bool.not_true, Bool.not_false, Bool.false_eq_true, if_false, sp_law_whole_eq])
  refine ⟨s, t, n, rfl, b, ?_⟩
  (try simp only [PL.pSeq, PL.pNext, PL.pSet, PL.pSetO, PL.pRet, PL.pRetN, PL.pIfS, PL.pFor, PL.pWhile, PL.pBrk, PL.pCnt, PL.pDrop, PL.pApp, PL.pAsg, PL.pgN, PL.pFrz, PL.frz, PL.pC, PL.pN, PL.pNo, PL.pBin, PL.negP, PL.pB, PL.pAnd, PL.pOr, PL.pNot, PL.pAndV, PL.pOrV, PL.pNotV, PL.pIf, PL.paNil, PL.paCons, PL.pLst, PL.pTup, PL.pIx, PL.pSl, PL.poNone, PL.poSome, PL.pCall, PL.pCallK, PL.piR1, PL.piR2, PL.piE, PL.pBits, PL.isiP_eq, PL.pLr1, PL.pJoinR, PL.pJoin, PL.pLc_eq, PL.pYes, PL.wipeC, PL.pBor, PL.pBorT, PL.frzs, PL.pSetI, PL.pChainT, PL.isNP, PL.addP_i, PL.addP_s, PL.addP_t, PL.addP_l, PL.catP_l, PL.subP_i, PL.mulP_i, PL.mulP_l, PL.repP_l, PL.mulP_s, PL.fdivP_i, PL.modP_i, PL.powP_i, PL.ltP_i, PL.ltP_s, PL.gtP_i, PL.gtP_s, PL.leP_i, PL.leP_s, PL.geP_i, PL.geP_s, PL.eqP_int, PL.eqP_str, PL.eqP_bl, PL.eqP_lst_lst, PL.eqP_tup_tup, PL.eqP_lst_tup, PL.eqP_tup_lst, PL.neP_int, PL.neP_str, PL.neP_bl, PL.neP_lst_lst, PL.neP_tup_tup, PL.neP_lst_tup, PL.neP_tup_lst, PL.asB_b, PL.asS_s, PL.lenP_lst, PL.itP_lst, PL.ixP_lst, PL.listP_lst_, PL.tupleP_lst_, PL.sumP_lst_, PL.maxP_lst_, PL.minP_lst_, PL.lenP_tup, PL.itP_tup, PL.ixP_tup, PL.listP_tup_, PL.tupleP_tup_, PL.sumP_tup_, PL.maxP_tup_, PL.minP_tup_, PL.lenP_scr, PL.itP_scr, PL.ixP_scr, PL.listP_scr_, PL.tupleP_scr_, PL.sumP_scr_, PL.maxP_scr_, PL.minP_scr_, PL.lenP_str, PL.lenP_dk, PL.itP_str, PL.ixP_str, PL.intP_i, PL.intP_b, PL.rg1_i, PL.rg2_i, PL.lr1_i, PL.lr2_i, PL.maxP_2, PL.maxP_3, PL.minP_2, PL.minP_3, PL.slP_lst, PL.slP_tup, PL.slP_str, PL.slPL_lst, PL.pgTup_t, PL.pgTup_l, PL.pgsCons_c, PL.pgsNil_n, PL.joinRP_l, PL.reprP_i, PL.setP_i, PL.ixE_0, PL.ixE_1, PL.ixE_2, PL.ixE_3, PL.ixE_4, PL.ixE_5, PL.ixE_6, PL.ixE_7, PL.ixE_8, PL.isqrtP_i, PL.reprLP_l, PL.pMkE, PL.pErF, PL.pIsE, PL.pRevS, PL.pRetO, PL.pRetON, PL.divmodP_i, PL.pGet, PL.isi_non_int, PL.isi_non_bool, PL.isi_non_str, PL.isi_non_list, PL.isi_non_tuple, PL.isi_bl_int, PL.isi_bl_bool, PL.isi_bl_str, PL.isi_bl_list, PL.isi_bl_tuple, PL.isi_int_int, PL.isi_int_bool, PL.isi_int_str, PL.isi_int_list, PL.isi_int_tuple, PL.isi_str_int, PL.isi_str_bool, PL.isi_str_str, PL.isi_str_list, PL.isi_str_tuple, PL.isi_tup_int, PL.isi_tup_bool, PL.isi_tup_str, PL.isi_tup_list, PL.isi_tup_tuple, PL.isi_lst_int, PL.isi_lst_bool, PL.isi_lst_str, PL.isi_lst_list, PL.isi_lst_tuple, PL.pickL, List.filterMap_cons, List.filterMap_nil, true_and, decide_true, decide_false, eq_self, Int.zero_add, decide_eq_true_eq, PL.rowE, PL.rowS, PL.startC, List.length_map, List.map_cons, List.map_nil, List.length_cons, List.length_nil, List.append_nil, List.nil_append, List.cons_append, List.replicate_succ, List.replicate_zero, List.set_cons_zero, List.set_cons_succ, List.getElem?_cons_zero, List.getElem?_cons_succ, Nat.reduceAdd, Nat.reduceSub, if_true, Bool.not_true, Bool.not_false, Bool.false_eq_true, if_false])
  rw [decide_eq_true le]
  exact q
theorem pws (b w : Nat) : b ^ w * b = b ^ (w + 1) := (Nat.pow_succ b w).symm
/-! counts of pieces -/
def sp_law_greatest : PSp := fun ds P => ∃ b L : Nat, ds = [N b, N L] ∧ 1 ≤ b ∧ b ≤ 6 ∧ L < 2 ^ 110 ∧ ∀ n, Gs b L n → P (N n)
theorem len_law_greatest : ∀ ds P, sp_law_greatest ds P → ds.length = 2 := by rintro _ _ ⟨_, n, rfl, _⟩; rfl
theorem bin_step {i : Nat} (hi : i < 61) : 2 ^ (61 - i) / 2 = 2 ^ (61 - (i + 1)) ∧ 2 ^ (61 - i) / 2 / 2 = 2 ^ (61 - (i + 1)) / 2 ∧ 2 ^ (61 - i) = 2 * 2 ^ (61 - (i + 1)) := by
  have e : 2 ^ (61 - i) = 2 * 2 ^ (61 - (i + 1)) := by
    rw [show 61 - i = 61 - (i + 1) + 1 by omega, Nat.pow_succ]; omega
  rw [e]; omega
theorem w_law_greatest : ∀ ds Q, sp_law_greatest ds Q → b_law_greatest { nx := fun _ => Q .non, rt := Q } (startC ["letters", "most", "many", "step", "turn", "left", "here", "wide"] ds) := by
  rintro _ Q ⟨b, L, rfl, b1, b6, hL, q⟩
  have bg := big2
  simp only [PL.startC, List.map_cons, List.map_nil, List.length_cons, List.length_nil, Nat.reduceAdd, Nat.reduceSub, List.replicate_succ, List.replicate_zero, List.cons_append, List.nil_append, List.append_nil]
  unfold b_law_greatest
  simp only [show N b = D.int (b : Int) from rfl, show N L = D.int (L : Int) from rfl]
  (try simp only [PL.pSeq, PL.pNext, PL.pSet, PL.pSetO, PL.pRet, PL.pRetN, PL.pIfS, PL.pFor, PL.pWhile, PL.pBrk, PL.pCnt, PL.pDrop, PL.pApp, PL.pAsg, PL.pgN, PL.pFrz, PL.frz, PL.pC, PL.pN, PL.pNo, PL.pBin, PL.negP, PL.pB, PL.pAnd, PL.pOr, PL.pNot, PL.pAndV, PL.pOrV, PL.pNotV, PL.pIf, PL.paNil, PL.paCons, PL.pLst, PL.pTup, PL.pIx, PL.pSl, PL.poNone, PL.poSome, PL.pCall, PL.pCallK, PL.piR1, PL.piR2, PL.piE, PL.pBits, PL.isiP_eq, PL.pLr1, PL.pJoinR, PL.pJoin, PL.pLc_eq, PL.pYes, PL.wipeC, PL.pBor, PL.pBorT, PL.frzs, PL.pSetI, PL.pChainT, PL.isNP, PL.addP_i, PL.addP_s, PL.addP_t, PL.addP_l, PL.catP_l, PL.subP_i, PL.mulP_i, PL.mulP_l, PL.repP_l, PL.mulP_s, PL.fdivP_i, PL.modP_i, PL.powP_i, PL.ltP_i, PL.ltP_s, PL.gtP_i, PL.gtP_s, PL.leP_i, PL.leP_s, PL.geP_i, PL.geP_s, PL.eqP_int, PL.eqP_str, PL.eqP_bl, PL.eqP_lst_lst, PL.eqP_tup_tup, PL.eqP_lst_tup, PL.eqP_tup_lst, PL.neP_int, PL.neP_str, PL.neP_bl, PL.neP_lst_lst, PL.neP_tup_tup, PL.neP_lst_tup, PL.neP_tup_lst, PL.asB_b, PL.asS_s, PL.lenP_lst, PL.itP_lst, PL.ixP_lst, PL.listP_lst_, PL.tupleP_lst_, PL.sumP_lst_, PL.maxP_lst_, PL.minP_lst_, PL.lenP_tup, PL.itP_tup, PL.ixP_tup, PL.listP_tup_, PL.tupleP_tup_, PL.sumP_tup_, PL.maxP_tup_, PL.minP_tup_, PL.lenP_scr, PL.itP_scr, PL.ixP_scr, PL.listP_scr_, PL.tupleP_scr_, PL.sumP_scr_, PL.maxP_scr_, PL.minP_scr_, PL.lenP_str, PL.lenP_dk, PL.itP_str, PL.ixP_str, PL.intP_i, PL.intP_b, PL.rg1_i, PL.rg2_i, PL.lr1_i, PL.lr2_i, PL.maxP_2, PL.maxP_3, PL.minP_2, PL.minP_3, PL.slP_lst, PL.slP_tup, PL.slP_str, PL.slPL_lst, PL.pgTup_t, PL.pgTup_l, PL.pgsCons_c, PL.pgsNil_n, PL.joinRP_l, PL.reprP_i, PL.setP_i, PL.ixE_0, PL.ixE_1, PL.ixE_2, PL.ixE_3, PL.ixE_4, PL.ixE_5, PL.ixE_6, PL.ixE_7, PL.ixE_8, PL.isqrtP_i, PL.reprLP_l, PL.pMkE, PL.pErF, PL.pIsE, PL.pRevS, PL.pRetO, PL.pRetON, PL.divmodP_i, PL.pGet, PL.isi_non_int, PL.isi_non_bool, PL.isi_non_str, PL.isi_non_list, PL.isi_non_tuple, PL.isi_bl_int, PL.isi_bl_bool, PL.isi_bl_str, PL.isi_bl_list, PL.isi_bl_tuple, PL.isi_int_int, PL.isi_int_bool, PL.isi_int_str, PL.isi_int_list, PL.isi_int_tuple, PL.isi_str_int, PL.isi_str_bool, PL.isi_str_str, PL.isi_str_list, PL.isi_str_tuple, PL.isi_tup_int, PL.isi_tup_bool, PL.isi_tup_str, PL.isi_tup_list, PL.isi_tup_tuple, PL.isi_lst_int, PL.isi_lst_bool, PL.isi_lst_str, PL.isi_lst_list, PL.isi_lst_tuple, PL.pickL, List.filterMap_cons, List.filterMap_nil, true_and, decide_true, decide_false, eq_self, Int.zero_add, decide_eq_true_eq, PL.rowE, PL.rowS, PL.startC, List.length_map, List.map_cons, List.map_nil, List.length_cons, List.length_nil, List.append_nil, List.nil_append, List.cons_append, List.replicate_succ, List.replicate_zero, List.set_cons_zero, List.set_cons_succ, List.getElem?_cons_zero, List.getElem?_cons_succ, Nat.reduceAdd, Nat.reduceSub, if_true, Bool.not_true, Bool.not_false, Bool.false_eq_true, if_false])
  split
  · rename_i e
    obtain rfl : b = 1 := by omega
    refine ⟨by unfold CPow; decide, ⟨by decide, by decide⟩, ?_⟩
    refine for_r (W := fun i env => ∃ (m : Nat) (x : C), tot 1 m ≤ L ∧ L < tot 1 (m + 2 ^ (61 - i)) ∧ env = [N' 1, N' L, N' m, N' (2 ^ (61 - i) / 2), x, .un, .un, .un]) ⟨0, .un, Nat.zero_le _, ?_, ?_⟩ ?_ ?_
    · have t1 := tot_one (0 + 2 ^ (61 - 0))
      have h1 : (0 + 2 ^ (61 - 0)) * (0 + 2 ^ (61 - 0) + 1) > 2 * 2 ^ 110 := by decide
      omega
    · have : (2 : Int) ^ (Int.toNat 60) = ((2 ^ (61 - 0) / 2 : Nat) : Int) := by decide
      rw [this]; rfl
    · rintro i env hi ⟨m, x, h1, h2, rfl⟩
      have hi : i < 61 := hi
      have hm := le_tot (Nat.le_refl 1) m
      obtain ⟨e1, e2, e3⟩ := bin_step hi
      have hst : 2 ^ (61 - i) ≤ 2 ^ 61 := Nat.pow_le_pow_right (by decide) (by omega)
      have q61 : (2 : Nat) ^ 61 < 2 ^ 100 := by decide
      unfold N'
      (try simp only [PL.pSeq, PL.pNext, PL.pSet, PL.pSetO, PL.pRet, PL.pRetN, PL.pIfS, PL.pFor, PL.pWhile, PL.pBrk, PL.pCnt, PL.pDrop, PL.pApp, PL.pAsg, PL.pgN, PL.pFrz, PL.frz, PL.pC, PL.pN, PL.pNo, PL.pBin, PL.negP, PL.pB, PL.pAnd, PL.pOr, PL.pNot, PL.pAndV, PL.pOrV, PL.pNotV, PL.pIf, PL.paNil, PL.paCons, PL.pLst, PL.pTup, PL.pIx, PL.pSl, PL.poNone, PL.poSome, PL.pCall, PL.pCallK, PL.piR1, PL.piR2, PL.piE, PL.pBits, PL.isiP_eq, PL.pLr1, PL.pJoinR, PL.pJoin, PL.pLc_eq, PL.pYes, PL.wipeC, PL.pBor, PL.pBorT, PL.frzs, PL.pSetI, PL.pChainT, PL.isNP, PL.addP_i, PL.addP_s, PL.addP_t, PL.addP_l, PL.catP_l, PL.subP_i, PL.mulP_i, PL.mulP_l, PL.repP_l, PL.mulP_s, PL.fdivP_i, PL.modP_i, PL.powP_i, PL.ltP_i, PL.ltP_s, PL.gtP_i, PL.gtP_s, PL.leP_i, PL.leP_s, PL.geP_i, PL.geP_s, PL.eqP_int, PL.eqP_str, PL.eqP_bl, PL.eqP_lst_lst, PL.eqP_tup_tup, PL.eqP_lst_tup, PL.eqP_tup_lst, PL.neP_int, PL.neP_str, PL.neP_bl, PL.neP_lst_lst, PL.neP_tup_tup, PL.neP_lst_tup, PL.neP_tup_lst, PL.asB_b, PL.asS_s, PL.lenP_lst, PL.itP_lst, PL.ixP_lst, PL.listP_lst_, PL.tupleP_lst_, PL.sumP_lst_, PL.maxP_lst_, PL.minP_lst_, PL.lenP_tup, PL.itP_tup, PL.ixP_tup, PL.listP_tup_, PL.tupleP_tup_, PL.sumP_tup_, PL.maxP_tup_, PL.minP_tup_, PL.lenP_scr, PL.itP_scr, PL.ixP_scr, PL.listP_scr_, PL.tupleP_scr_, PL.sumP_scr_, PL.maxP_scr_, PL.minP_scr_, PL.lenP_str, PL.lenP_dk, PL.itP_str, PL.ixP_str, PL.intP_i, PL.intP_b, PL.rg1_i, PL.rg2_i, PL.lr1_i, PL.lr2_i, PL.maxP_2, PL.maxP_3, PL.minP_2, PL.minP_3, PL.slP_lst, PL.slP_tup, PL.slP_str, PL.slPL_lst, PL.pgTup_t, PL.pgTup_l, PL.pgsCons_c, PL.pgsNil_n, PL.joinRP_l, PL.reprP_i, PL.setP_i, PL.ixE_0, PL.ixE_1, PL.ixE_2, PL.ixE_3, PL.ixE_4, PL.ixE_5, PL.ixE_6, PL.ixE_7, PL.ixE_8, PL.isqrtP_i, PL.reprLP_l, PL.pMkE, PL.pErF, PL.pIsE, PL.pRevS, PL.pRetO, PL.pRetON, PL.divmodP_i, PL.pGet, PL.isi_non_int, PL.isi_non_bool, PL.isi_non_str, PL.isi_non_list, PL.isi_non_tuple, PL.isi_bl_int, PL.isi_bl_bool, PL.isi_bl_str, PL.isi_bl_list, PL.isi_bl_tuple, PL.isi_int_int, PL.isi_int_bool, PL.isi_int_str, PL.isi_int_list, PL.isi_int_tuple, PL.isi_str_int, PL.isi_str_bool, PL.isi_str_str, PL.isi_str_list, PL.isi_str_tuple, PL.isi_tup_int, PL.isi_tup_bool, PL.isi_tup_str, PL.isi_tup_list, PL.isi_tup_tuple, PL.isi_lst_int, PL.isi_lst_bool, PL.isi_lst_str, PL.isi_lst_list, PL.isi_lst_tuple, PL.pickL, List.filterMap_cons, List.filterMap_nil, true_and, decide_true, decide_false, eq_self, Int.zero_add, decide_eq_true_eq, PL.rowE, PL.rowS, PL.startC, List.length_map, List.map_cons, List.map_nil, List.length_cons, List.length_nil, List.append_nil, List.nil_append, List.cons_append, List.replicate_succ, List.replicate_zero, List.set_cons_zero, List.set_cons_succ, List.getElem?_cons_zero, List.getElem?_cons_succ, Nat.reduceAdd, Nat.reduceSub, if_true, Bool.not_true, Bool.not_false, Bool.false_eq_true, if_false])
      generalize hs : 2 ^ (61 - i) / 2 = st at *
      have t1 := tot_one (m + st)
      rw [na, n1, nm]
      refine ⟨cm (by omega) (by omega), cdivw 2 (by decide) (by decide) (by decide), ?_⟩
      rw [half _ (tot 1 (m + st)) t1]
      rw [show ((st : Nat) : Int) / 2 = ((st / 2 : Nat) : Int) from rfl, e2]
      split
      · rename_i hl
        refine ⟨cdivw 2 (by decide) (by decide) (by decide), m + st, _, by omega, ?_, rfl⟩
        rw [show m + st + 2 ^ (61 - (i + 1)) = m + 2 ^ (61 - i) by omega]
        exact h2
      · rename_i hl
        refine ⟨cdivw 2 (by decide) (by decide) (by decide), m, _, h1, ?_, rfl⟩
        rw [← e1]
        omega
    · rintro env ⟨m, x, h1, h2, rfl⟩
      unfold N'
      (try simp only [PL.pSeq, PL.pNext, PL.pSet, PL.pSetO, PL.pRet, PL.pRetN, PL.pIfS, PL.pFor, PL.pWhile, PL.pBrk, PL.pCnt, PL.pDrop, PL.pApp, PL.pAsg, PL.pgN, PL.pFrz, PL.frz, PL.pC, PL.pN, PL.pNo, PL.pBin, PL.negP, PL.pB, PL.pAnd, PL.pOr, PL.pNot, PL.pAndV, PL.pOrV, PL.pNotV, PL.pIf, PL.paNil, PL.paCons, PL.pLst, PL.pTup, PL.pIx, PL.pSl, PL.poNone, PL.poSome, PL.pCall, PL.pCallK, PL.piR1, PL.piR2, PL.piE, PL.pBits, PL.isiP_eq, PL.pLr1, PL.pJoinR, PL.pJoin, PL.pLc_eq, PL.pYes, PL.wipeC, PL.pBor, PL.pBorT, PL.frzs, PL.pSetI, PL.pChainT, PL.isNP, PL.addP_i, PL.addP_s, PL.addP_t, PL.addP_l, PL.catP_l, PL.subP_i, PL.mulP_i, PL.mulP_l, PL.repP_l, PL.mulP_s, PL.fdivP_i, PL.modP_i, PL.powP_i, PL.ltP_i, PL.ltP_s, PL.gtP_i, PL.gtP_s, PL.leP_i, PL.leP_s, PL.geP_i, PL.geP_s, PL.eqP_int, PL.eqP_str, PL.eqP_bl, PL.eqP_lst_lst, PL.eqP_tup_tup, PL.eqP_lst_tup, PL.eqP_tup_lst, PL.neP_int, PL.neP_str, PL.neP_bl, PL.neP_lst_lst, PL.neP_tup_tup, PL.neP_lst_tup, PL.neP_tup_lst, PL.asB_b, PL.asS_s, PL.lenP_lst, PL.itP_lst, PL.ixP_lst, PL.listP_lst_, PL.tupleP_lst_, PL.sumP_lst_, PL.maxP_lst_, PL.minP_lst_, PL.lenP_tup, PL.itP_tup, PL.ixP_tup, PL.listP_tup_, PL.tupleP_tup_, PL.sumP_tup_, PL.maxP_tup_, PL.minP_tup_, PL.lenP_scr, PL.itP_scr, PL.ixP_scr, PL.listP_scr_, PL.tupleP_scr_, PL.sumP_scr_, PL.maxP_scr_, PL.minP_scr_, PL.lenP_str, PL.lenP_dk, PL.itP_str, PL.ixP_str, PL.intP_i, PL.intP_b, PL.rg1_i, PL.rg2_i, PL.lr1_i, PL.lr2_i, PL.maxP_2, PL.maxP_3, PL.minP_2, PL.minP_3, PL.slP_lst, PL.slP_tup, PL.slP_str, PL.slPL_lst, PL.pgTup_t, PL.pgTup_l, PL.pgsCons_c, PL.pgsNil_n, PL.joinRP_l, PL.reprP_i, PL.setP_i, PL.ixE_0, PL.ixE_1, PL.ixE_2, PL.ixE_3, PL.ixE_4, PL.ixE_5, PL.ixE_6, PL.ixE_7, PL.ixE_8, PL.isqrtP_i, PL.reprLP_l, PL.pMkE, PL.pErF, PL.pIsE, PL.pRevS, PL.pRetO, PL.pRetON, PL.divmodP_i, PL.pGet, PL.isi_non_int, PL.isi_non_bool, PL.isi_non_str, PL.isi_non_list, PL.isi_non_tuple, PL.isi_bl_int, PL.isi_bl_bool, PL.isi_bl_str, PL.isi_bl_list, PL.isi_bl_tuple, PL.isi_int_int, PL.isi_int_bool, PL.isi_int_str, PL.isi_int_list, PL.isi_int_tuple, PL.isi_str_int, PL.isi_str_bool, PL.isi_str_str, PL.isi_str_list, PL.isi_str_tuple, PL.isi_tup_int, PL.isi_tup_bool, PL.isi_tup_str, PL.isi_tup_list, PL.isi_tup_tuple, PL.isi_lst_int, PL.isi_lst_bool, PL.isi_lst_str, PL.isi_lst_list, PL.isi_lst_tuple, PL.pickL, List.filterMap_cons, List.filterMap_nil, true_and, decide_true, decide_false, eq_self, Int.zero_add, decide_eq_true_eq, PL.rowE, PL.rowS, PL.startC, List.length_map, List.map_cons, List.map_nil, List.length_cons, List.length_nil, List.append_nil, List.nil_append, List.cons_append, List.replicate_succ, List.replicate_zero, List.set_cons_zero, List.set_cons_succ, List.getElem?_cons_zero, List.getElem?_cons_succ, Nat.reduceAdd, Nat.reduceSub, if_true, Bool.not_true, Bool.not_false, Bool.false_eq_true, if_false])
      exact q m ⟨h1, h2⟩
  · rename_i hb1
    have b2 : 2 ≤ b := by omega
    refine ⟨⟨⟨by decide, by decide⟩, by decide, by decide⟩, ?_⟩
    refine for_r (W := fun w env => ∃ x : C, tot b (cum b w) ≤ L ∧ env = [N' b, N' L, N' (cum b w), .un, .un, N' (L - tot b (cum b w)), N' (b ^ w), x]) ⟨.un, Nat.zero_le _, rfl⟩ ?_ ?_
    · rintro w env hw ⟨x, ht, rfl⟩
      have hw9 : w < 199 := hw
      have hc : cum b w ≤ L := Nat.le_trans (le_tot b1 _) ht
      have hp := pw_bd b1 b6 hc (by omega)
      have hw := w_bd b1 hc
      have hpw : b ^ w < 2 ^ 210 := Nat.lt_of_le_of_lt (Nat.pow_le_pow_right b1 (Nat.le_succ w)) hp
      unfold N'
      (try simp only [PL.pSeq, PL.pNext, PL.pSet, PL.pSetO, PL.pRet, PL.pRetN, PL.pIfS, PL.pFor, PL.pWhile, PL.pBrk, PL.pCnt, PL.pDrop, PL.pApp, PL.pAsg, PL.pgN, PL.pFrz, PL.frz, PL.pC, PL.pN, PL.pNo, PL.pBin, PL.negP, PL.pB, PL.pAnd, PL.pOr, PL.pNot, PL.pAndV, PL.pOrV, PL.pNotV, PL.pIf, PL.paNil, PL.paCons, PL.pLst, PL.pTup, PL.pIx, PL.pSl, PL.poNone, PL.poSome, PL.pCall, PL.pCallK, PL.piR1, PL.piR2, PL.piE, PL.pBits, PL.isiP_eq, PL.pLr1, PL.pJoinR, PL.pJoin, PL.pLc_eq, PL.pYes, PL.wipeC, PL.pBor, PL.pBorT, PL.frzs, PL.pSetI, PL.pChainT, PL.isNP, PL.addP_i, PL.addP_s, PL.addP_t, PL.addP_l, PL.catP_l, PL.subP_i, PL.mulP_i, PL.mulP_l, PL.repP_l, PL.mulP_s, PL.fdivP_i, PL.modP_i, PL.powP_i, PL.ltP_i, PL.ltP_s, PL.gtP_i, PL.gtP_s, PL.leP_i, PL.leP_s, PL.geP_i, PL.geP_s, PL.eqP_int, PL.eqP_str, PL.eqP_bl, PL.eqP_lst_lst, PL.eqP_tup_tup, PL.eqP_lst_tup, PL.eqP_tup_lst, PL.neP_int, PL.neP_str, PL.neP_bl, PL.neP_lst_lst, PL.neP_tup_tup, PL.neP_lst_tup, PL.neP_tup_lst, PL.asB_b, PL.asS_s, PL.lenP_lst, PL.itP_lst, PL.ixP_lst, PL.listP_lst_, PL.tupleP_lst_, PL.sumP_lst_, PL.maxP_lst_, PL.minP_lst_, PL.lenP_tup, PL.itP_tup, PL.ixP_tup, PL.listP_tup_, PL.tupleP_tup_, PL.sumP_tup_, PL.maxP_tup_, PL.minP_tup_, PL.lenP_scr, PL.itP_scr, PL.ixP_scr, PL.listP_scr_, PL.tupleP_scr_, PL.sumP_scr_, PL.maxP_scr_, PL.minP_scr_, PL.lenP_str, PL.lenP_dk, PL.itP_str, PL.ixP_str, PL.intP_i, PL.intP_b, PL.rg1_i, PL.rg2_i, PL.lr1_i, PL.lr2_i, PL.maxP_2, PL.maxP_3, PL.minP_2, PL.minP_3, PL.slP_lst, PL.slP_tup, PL.slP_str, PL.slPL_lst, PL.pgTup_t, PL.pgTup_l, PL.pgsCons_c, PL.pgsNil_n, PL.joinRP_l, PL.reprP_i, PL.setP_i, PL.ixE_0, PL.ixE_1, PL.ixE_2, PL.ixE_3, PL.ixE_4, PL.ixE_5, PL.ixE_6, PL.ixE_7, PL.ixE_8, PL.isqrtP_i, PL.reprLP_l, PL.pMkE, PL.pErF, PL.pIsE, PL.pRevS, PL.pRetO, PL.pRetON, PL.divmodP_i, PL.pGet, PL.isi_non_int, PL.isi_non_bool, PL.isi_non_str, PL.isi_non_list, PL.isi_non_tuple, PL.isi_bl_int, PL.isi_bl_bool, PL.isi_bl_str, PL.isi_bl_list, PL.isi_bl_tuple, PL.isi_int_int, PL.isi_int_bool, PL.isi_int_str, PL.isi_int_list, PL.isi_int_tuple, PL.isi_str_int, PL.isi_str_bool, PL.isi_str_str, PL.isi_str_list, PL.isi_str_tuple, PL.isi_tup_int, PL.isi_tup_bool, PL.isi_tup_str, PL.isi_tup_list, PL.isi_tup_tuple, PL.isi_lst_int, PL.isi_lst_bool, PL.isi_lst_str, PL.isi_lst_list, PL.isi_lst_tuple, PL.pickL, List.filterMap_cons, List.filterMap_nil, true_and, decide_true, decide_false, eq_self, Int.zero_add, decide_eq_true_eq, PL.rowE, PL.rowS, PL.startC, List.length_map, List.map_cons, List.map_nil, List.length_cons, List.length_nil, List.append_nil, List.nil_append, List.cons_append, List.replicate_succ, List.replicate_zero, List.set_cons_zero, List.set_cons_succ, List.getElem?_cons_zero, List.getElem?_cons_succ, Nat.reduceAdd, Nat.reduceSub, if_true, Bool.not_true, Bool.not_false, Bool.false_eq_true, if_false])
      rw [show (1 : Int) + (w : Int) = ((w + 1 : Nat) : Int) by omega, nm, pws, nm]
      refine ⟨cm (by omega) (by omega), cm (by omega) (by omega), ?_⟩
      split
      · rename_i hl
        refine ⟨cdivw 250 (by omega) ?_ (by decide), ?_⟩
        · have : (w + 1 : Nat) < 2 ^ 210 := by omega
          have e : ((2 ^ 210 : Nat) : Int) = 2 ^ 210 := by simp
          have : (2 : Int) ^ 210 ≤ 2 ^ 250 := pow2_le (by decide)
          omega
        · rw [show ((L - tot b (cum b w) : Nat) : Int) / ((w + 1 : Nat) : Int) = (((L - tot b (cum b w)) / (w + 1) : Nat) : Int) from rfl, na]
          exact q _ (Gs.of b1 ht (by omega))
      · rename_i hl
        have hm := tot_more b1 (Nat.le_refl (cum b w)) (b ^ (w + 1)) (Nat.le_refl _)
        have hs : cum b (w + 1) = cum b w + b ^ (w + 1) := rfl
        rw [Nat.mul_comm (w + 1)] at hm
        rw [← hs] at hm
        refine ⟨cm (by omega) (by omega), C.fz (.int ((w + 1 : Nat) : Int)), ?_, ?_⟩
        · omega
        · rw [na, show ((L - tot b (cum b w) : Nat) : Int) - ((b ^ (w + 1) * (w + 1) : Nat) : Int) = ((L - tot b (cum b (w + 1)) : Nat) : Int) by omega]
          rfl
    · rintro env ⟨x, ht, rfl⟩
      exfalso
      have ht : tot b (cum b 199) ≤ L := ht
      have h1 := cum_big b2 199 (by decide)
      have h2 := le_tot b1 (cum b 199)
      have h3 : (2 : Nat) ^ 110 < 2 ^ 199 := by decide
      omega
def sp_law_shortest : PSp := fun ds P => ∃ b n : Nat, ds = [N b, N n] ∧ 1 ≤ b ∧ b ≤ 6 ∧ n < 2 ^ 110 ∧ P (N (tot b n))
theorem len_law_shortest : ∀ ds P, sp_law_shortest ds P → ds.length = 2 := by rintro _ _ ⟨_, n, rfl, _⟩; rfl
theorem w_law_shortest : ∀ ds Q, sp_law_shortest ds Q → b_law_shortest { nx := fun _ => Q .non, rt := Q } (startC ["letters", "many", "total", "left", "here", "wide"] ds) := by
  rintro _ Q ⟨b, n, rfl, b1, b6, hn, q⟩
  have bg := big2
  simp only [PL.startC, List.map_cons, List.map_nil, List.length_cons, List.length_nil, Nat.reduceAdd, Nat.reduceSub, List.replicate_succ, List.replicate_zero, List.cons_append, List.nil_append, List.append_nil]
  unfold b_law_shortest
  simp only [show N b = D.int (b : Int) from rfl, show N n = D.int (n : Int) from rfl]
  (try simp only [PL.pSeq, PL.pNext, PL.pSet, PL.pSetO, PL.pRet, PL.pRetN, PL.pIfS, PL.pFor, PL.pWhile, PL.pBrk, PL.pCnt, PL.pDrop, PL.pApp, PL.pAsg, PL.pgN, PL.pFrz, PL.frz, PL.pC, PL.pN, PL.pNo, PL.pBin, PL.negP, PL.pB, PL.pAnd, PL.pOr, PL.pNot, PL.pAndV, PL.pOrV, PL.pNotV, PL.pIf, PL.paNil, PL.paCons, PL.pLst, PL.pTup, PL.pIx, PL.pSl, PL.poNone, PL.poSome, PL.pCall, PL.pCallK, PL.piR1, PL.piR2, PL.piE, PL.pBits, PL.isiP_eq, PL.pLr1, PL.pJoinR, PL.pJoin, PL.pLc_eq, PL.pYes, PL.wipeC, PL.pBor, PL.pBorT, PL.frzs, PL.pSetI, PL.pChainT, PL.isNP, PL.addP_i, PL.addP_s, PL.addP_t, PL.addP_l, PL.catP_l, PL.subP_i, PL.mulP_i, PL.mulP_l, PL.repP_l, PL.mulP_s, PL.fdivP_i, PL.modP_i, PL.powP_i, PL.ltP_i, PL.ltP_s, PL.gtP_i, PL.gtP_s, PL.leP_i, PL.leP_s, PL.geP_i, PL.geP_s, PL.eqP_int, PL.eqP_str, PL.eqP_bl, PL.eqP_lst_lst, PL.eqP_tup_tup, PL.eqP_lst_tup, PL.eqP_tup_lst, PL.neP_int, PL.neP_str, PL.neP_bl, PL.neP_lst_lst, PL.neP_tup_tup, PL.neP_lst_tup, PL.neP_tup_lst, PL.asB_b, PL.asS_s, PL.lenP_lst, PL.itP_lst, PL.ixP_lst, PL.listP_lst_, PL.tupleP_lst_, PL.sumP_lst_, PL.maxP_lst_, PL.minP_lst_, PL.lenP_tup, PL.itP_tup, PL.ixP_tup, PL.listP_tup_, PL.tupleP_tup_, PL.sumP_tup_, PL.maxP_tup_, PL.minP_tup_, PL.lenP_scr, PL.itP_scr, PL.ixP_scr, PL.listP_scr_, PL.tupleP_scr_, PL.sumP_scr_, PL.maxP_scr_, PL.minP_scr_, PL.lenP_str, PL.lenP_dk, PL.itP_str, PL.ixP_str, PL.intP_i, PL.intP_b, PL.rg1_i, PL.rg2_i, PL.lr1_i, PL.lr2_i, PL.maxP_2, PL.maxP_3, PL.minP_2, PL.minP_3, PL.slP_lst, PL.slP_tup, PL.slP_str, PL.slPL_lst, PL.pgTup_t, PL.pgTup_l, PL.pgsCons_c, PL.pgsNil_n, PL.joinRP_l, PL.reprP_i, PL.setP_i, PL.ixE_0, PL.ixE_1, PL.ixE_2, PL.ixE_3, PL.ixE_4, PL.ixE_5, PL.ixE_6, PL.ixE_7, PL.ixE_8, PL.isqrtP_i, PL.reprLP_l, PL.pMkE, PL.pErF, PL.pIsE, PL.pRevS, PL.pRetO, PL.pRetON, PL.divmodP_i, PL.pGet, PL.isi_non_int, PL.isi_non_bool, PL.isi_non_str, PL.isi_non_list, PL.isi_non_tuple, PL.isi_bl_int, PL.isi_bl_bool, PL.isi_bl_str, PL.isi_bl_list, PL.isi_bl_tuple, PL.isi_int_int, PL.isi_int_bool, PL.isi_int_str, PL.isi_int_list, PL.isi_int_tuple, PL.isi_str_int, PL.isi_str_bool, PL.isi_str_str, PL.isi_str_list, PL.isi_str_tuple, PL.isi_tup_int, PL.isi_tup_bool, PL.isi_tup_str, PL.isi_tup_list, PL.isi_tup_tuple, PL.isi_lst_int, PL.isi_lst_bool, PL.isi_lst_str, PL.isi_lst_list, PL.isi_lst_tuple, PL.pickL, List.filterMap_cons, List.filterMap_nil, true_and, decide_true, decide_false, eq_self, Int.zero_add, decide_eq_true_eq, PL.rowE, PL.rowS, PL.startC, List.length_map, List.map_cons, List.map_nil, List.length_cons, List.length_nil, List.append_nil, List.nil_append, List.cons_append, List.replicate_succ, List.replicate_zero, List.set_cons_zero, List.set_cons_succ, List.getElem?_cons_zero, List.getElem?_cons_succ, Nat.reduceAdd, Nat.reduceSub, if_true, Bool.not_true, Bool.not_false, Bool.false_eq_true, if_false])
  split
  · rename_i e
    obtain rfl : b = 1 := by omega
    rw [n1, nm]
    refine ⟨cm (by omega) (by omega), cdivw 2 (by decide) (by decide) (by decide), ?_⟩
    rw [half _ (tot 1 n) (tot_one n)]
    exact q
  · rename_i hb1
    have b2 : 2 ≤ b := by omega
    refine ⟨⟨⟨by decide, by decide⟩, by decide, by decide⟩, ?_⟩
    refine for_r (W := fun w env => ∃ (k : Nat) (x : C), (w = 0 ∨ cum b w < n) ∧ k = min n (cum b w) ∧ env = [N' b, N' n, N' (tot b k), N' (n - k), N' (b ^ w), x]) ⟨0, .un, .inl rfl, by simp [cum], rfl⟩ ?_ ?_
    · rintro w env hw ⟨k, x, hlt, hk, rfl⟩
      have hw : w < 199 := hw
      have hcn : cum b w ≤ n := by
        rcases hlt with rfl | h
        · exact Nat.zero_le _
        · omega
      have hk2 : k = cum b w := by omega
      have hp := pw_bd b1 b6 hcn (by omega)
      have hpw : b ^ w < 2 ^ 210 := Nat.lt_of_le_of_lt (Nat.pow_le_pow_right b1 (Nat.le_succ w)) hp
      have hs : cum b (w + 1) = cum b w + b ^ (w + 1) := rfl
      have hm := tot_more b1 (w := w) (m := k) (by omega) (min (n - k) (b ^ (w + 1))) (by omega)
      unfold N'
      (try simp only [PL.pSeq, PL.pNext, PL.pSet, PL.pSetO, PL.pRet, PL.pRetN, PL.pIfS, PL.pFor, PL.pWhile, PL.pBrk, PL.pCnt, PL.pDrop, PL.pApp, PL.pAsg, PL.pgN, PL.pFrz, PL.frz, PL.pC, PL.pN, PL.pNo, PL.pBin, PL.negP, PL.pB, PL.pAnd, PL.pOr, PL.pNot, PL.pAndV, PL.pOrV, PL.pNotV, PL.pIf, PL.paNil, PL.paCons, PL.pLst, PL.pTup, PL.pIx, PL.pSl, PL.poNone, PL.poSome, PL.pCall, PL.pCallK, PL.piR1, PL.piR2, PL.piE, PL.pBits, PL.isiP_eq, PL.pLr1, PL.pJoinR, PL.pJoin, PL.pLc_eq, PL.pYes, PL.wipeC, PL.pBor, PL.pBorT, PL.frzs, PL.pSetI, PL.pChainT, PL.isNP, PL.addP_i, PL.addP_s, PL.addP_t, PL.addP_l, PL.catP_l, PL.subP_i, PL.mulP_i, PL.mulP_l, PL.repP_l, PL.mulP_s, PL.fdivP_i, PL.modP_i, PL.powP_i, PL.ltP_i, PL.ltP_s, PL.gtP_i, PL.gtP_s, PL.leP_i, PL.leP_s, PL.geP_i, PL.geP_s, PL.eqP_int, PL.eqP_str, PL.eqP_bl, PL.eqP_lst_lst, PL.eqP_tup_tup, PL.eqP_lst_tup, PL.eqP_tup_lst, PL.neP_int, PL.neP_str, PL.neP_bl, PL.neP_lst_lst, PL.neP_tup_tup, PL.neP_lst_tup, PL.neP_tup_lst, PL.asB_b, PL.asS_s, PL.lenP_lst, PL.itP_lst, PL.ixP_lst, PL.listP_lst_, PL.tupleP_lst_, PL.sumP_lst_, PL.maxP_lst_, PL.minP_lst_, PL.lenP_tup, PL.itP_tup, PL.ixP_tup, PL.listP_tup_, PL.tupleP_tup_, PL.sumP_tup_, PL.maxP_tup_, PL.minP_tup_, PL.lenP_scr, PL.itP_scr, PL.ixP_scr, PL.listP_scr_, PL.tupleP_scr_, PL.sumP_scr_, PL.maxP_scr_, PL.minP_scr_, PL.lenP_str, PL.lenP_dk, PL.itP_str, PL.ixP_str, PL.intP_i, PL.intP_b, PL.rg1_i, PL.rg2_i, PL.lr1_i, PL.lr2_i, PL.maxP_2, PL.maxP_3, PL.minP_2, PL.minP_3, PL.slP_lst, PL.slP_tup, PL.slP_str, PL.slPL_lst, PL.pgTup_t, PL.pgTup_l, PL.pgsCons_c, PL.pgsNil_n, PL.joinRP_l, PL.reprP_i, PL.setP_i, PL.ixE_0, PL.ixE_1, PL.ixE_2, PL.ixE_3, PL.ixE_4, PL.ixE_5, PL.ixE_6, PL.ixE_7, PL.ixE_8, PL.isqrtP_i, PL.reprLP_l, PL.pMkE, PL.pErF, PL.pIsE, PL.pRevS, PL.pRetO, PL.pRetON, PL.divmodP_i, PL.pGet, PL.isi_non_int, PL.isi_non_bool, PL.isi_non_str, PL.isi_non_list, PL.isi_non_tuple, PL.isi_bl_int, PL.isi_bl_bool, PL.isi_bl_str, PL.isi_bl_list, PL.isi_bl_tuple, PL.isi_int_int, PL.isi_int_bool, PL.isi_int_str, PL.isi_int_list, PL.isi_int_tuple, PL.isi_str_int, PL.isi_str_bool, PL.isi_str_str, PL.isi_str_list, PL.isi_str_tuple, PL.isi_tup_int, PL.isi_tup_bool, PL.isi_tup_str, PL.isi_tup_list, PL.isi_tup_tuple, PL.isi_lst_int, PL.isi_lst_bool, PL.isi_lst_str, PL.isi_lst_list, PL.isi_lst_tuple, PL.pickL, List.filterMap_cons, List.filterMap_nil, true_and, decide_true, decide_false, eq_self, Int.zero_add, decide_eq_true_eq, PL.rowE, PL.rowS, PL.startC, List.length_map, List.map_cons, List.map_nil, List.length_cons, List.length_nil, List.append_nil, List.nil_append, List.cons_append, List.replicate_succ, List.replicate_zero, List.set_cons_zero, List.set_cons_succ, List.getElem?_cons_zero, List.getElem?_cons_succ, Nat.reduceAdd, Nat.reduceSub, if_true, Bool.not_true, Bool.not_false, Bool.false_eq_true, if_false])
      rw [nm, pws]
      have hmin : (min ((n - k : Nat) : Int) ((b ^ (w + 1) : Nat) : Int)) = ((min (n - k) (b ^ (w + 1)) : Nat) : Int) := by omega
      rw [hmin, show (1 : Int) + (w : Int) = ((w + 1 : Nat) : Int) by omega, nm]
      have e1 : min n (cum b (w + 1)) = k + min (n - k) (b ^ (w + 1)) := by omega
      have eL : ((n - k : Nat) : Int) - ((min (n - k) (b ^ (w + 1)) : Nat) : Int) = ((n - min n (cum b (w + 1)) : Nat) : Int) := by omega
      rw [na, ← hm, ← e1, eL]
      refine ⟨cm (by omega) (by omega), cm (by omega) (by omega), ?_⟩
      split
      · rename_i hl
        rw [show min n (cum b (w + 1)) = n by omega]
        exact q
      · rename_i hl
        exact ⟨_, _, .inr (by omega), rfl, rfl⟩
    · rintro env ⟨k, x, hlt, hk, rfl⟩
      exfalso
      have hlt : 199 = 0 ∨ cum b 199 < n := hlt
      have h1 := cum_big b2 199 (by decide)
      have h3 : (2 : Nat) ^ 110 < 2 ^ 199 := by decide
      omega
def sp_law_least : PSp := fun ds P => ∃ L : Nat, ds = [N L] ∧ L ≤ 400 ∧ ∀ n, n ≤ 401 → Ls L n → P (N n)
theorem len_law_least : ∀ ds P, sp_law_least ds P → ds.length = 1 := by rintro _ _ ⟨n, rfl, _⟩; rfl
theorem w_law_least : ∀ ds Q, sp_law_least ds Q → b_law_least { nx := fun _ => Q .non, rt := Q } (startC ["letters", "many"] ds) := by
  rintro _ Q ⟨L, rfl, hL, q⟩
  simp only [PL.startC, List.map_cons, List.map_nil, List.length_cons, List.length_nil, Nat.reduceAdd, Nat.reduceSub, List.replicate_succ, List.replicate_zero, List.cons_append, List.nil_append, List.append_nil]
  unfold b_law_least
  simp only [show N L = D.int (L : Int) from rfl]
  (try simp only [PL.pSeq, PL.pNext, PL.pSet, PL.pSetO, PL.pRet, PL.pRetN, PL.pIfS, PL.pFor, PL.pWhile, PL.pBrk, PL.pCnt, PL.pDrop, PL.pApp, PL.pAsg, PL.pgN, PL.pFrz, PL.frz, PL.pC, PL.pN, PL.pNo, PL.pBin, PL.negP, PL.pB, PL.pAnd, PL.pOr, PL.pNot, PL.pAndV, PL.pOrV, PL.pNotV, PL.pIf, PL.paNil, PL.paCons, PL.pLst, PL.pTup, PL.pIx, PL.pSl, PL.poNone, PL.poSome, PL.pCall, PL.pCallK, PL.piR1, PL.piR2, PL.piE, PL.pBits, PL.isiP_eq, PL.pLr1, PL.pJoinR, PL.pJoin, PL.pLc_eq, PL.pYes, PL.wipeC, PL.pBor, PL.pBorT, PL.frzs, PL.pSetI, PL.pChainT, PL.isNP, PL.addP_i, PL.addP_s, PL.addP_t, PL.addP_l, PL.catP_l, PL.subP_i, PL.mulP_i, PL.mulP_l, PL.repP_l, PL.mulP_s, PL.fdivP_i, PL.modP_i, PL.powP_i, PL.ltP_i, PL.ltP_s, PL.gtP_i, PL.gtP_s, PL.leP_i, PL.leP_s, PL.geP_i, PL.geP_s, PL.eqP_int, PL.eqP_str, PL.eqP_bl, PL.eqP_lst_lst, PL.eqP_tup_tup, PL.eqP_lst_tup, PL.eqP_tup_lst, PL.neP_int, PL.neP_str, PL.neP_bl, PL.neP_lst_lst, PL.neP_tup_tup, PL.neP_lst_tup, PL.neP_tup_lst, PL.asB_b, PL.asS_s, PL.lenP_lst, PL.itP_lst, PL.ixP_lst, PL.listP_lst_, PL.tupleP_lst_, PL.sumP_lst_, PL.maxP_lst_, PL.minP_lst_, PL.lenP_tup, PL.itP_tup, PL.ixP_tup, PL.listP_tup_, PL.tupleP_tup_, PL.sumP_tup_, PL.maxP_tup_, PL.minP_tup_, PL.lenP_scr, PL.itP_scr, PL.ixP_scr, PL.listP_scr_, PL.tupleP_scr_, PL.sumP_scr_, PL.maxP_scr_, PL.minP_scr_, PL.lenP_str, PL.lenP_dk, PL.itP_str, PL.ixP_str, PL.intP_i, PL.intP_b, PL.rg1_i, PL.rg2_i, PL.lr1_i, PL.lr2_i, PL.maxP_2, PL.maxP_3, PL.minP_2, PL.minP_3, PL.slP_lst, PL.slP_tup, PL.slP_str, PL.slPL_lst, PL.pgTup_t, PL.pgTup_l, PL.pgsCons_c, PL.pgsNil_n, PL.joinRP_l, PL.reprP_i, PL.setP_i, PL.ixE_0, PL.ixE_1, PL.ixE_2, PL.ixE_3, PL.ixE_4, PL.ixE_5, PL.ixE_6, PL.ixE_7, PL.ixE_8, PL.isqrtP_i, PL.reprLP_l, PL.pMkE, PL.pErF, PL.pIsE, PL.pRevS, PL.pRetO, PL.pRetON, PL.divmodP_i, PL.pGet, PL.isi_non_int, PL.isi_non_bool, PL.isi_non_str, PL.isi_non_list, PL.isi_non_tuple, PL.isi_bl_int, PL.isi_bl_bool, PL.isi_bl_str, PL.isi_bl_list, PL.isi_bl_tuple, PL.isi_int_int, PL.isi_int_bool, PL.isi_int_str, PL.isi_int_list, PL.isi_int_tuple, PL.isi_str_int, PL.isi_str_bool, PL.isi_str_str, PL.isi_str_list, PL.isi_str_tuple, PL.isi_tup_int, PL.isi_tup_bool, PL.isi_tup_str, PL.isi_tup_list, PL.isi_tup_tuple, PL.isi_lst_int, PL.isi_lst_bool, PL.isi_lst_str, PL.isi_lst_list, PL.isi_lst_tuple, PL.pickL, List.filterMap_cons, List.filterMap_nil, true_and, decide_true, decide_false, eq_self, Int.zero_add, decide_eq_true_eq, PL.rowE, PL.rowS, PL.startC, List.length_map, List.map_cons, List.map_nil, List.length_cons, List.length_nil, List.append_nil, List.nil_append, List.cons_append, List.replicate_succ, List.replicate_zero, List.set_cons_zero, List.set_cons_succ, List.getElem?_cons_zero, List.getElem?_cons_succ, Nat.reduceAdd, Nat.reduceSub, if_true, Bool.not_true, Bool.not_false, Bool.false_eq_true, if_false])
  refine ⟨⟨by decide, by decide⟩, ?_⟩
  refine for_r (W := fun i env => ∃ x : C, (∀ j, j < i → j * (j + 3) < 2 * L) ∧ env = [N' L, x]) ⟨.un, fun j h => by omega, rfl⟩ ?_ ?_
  · rintro i env hi ⟨x, hj, rfl⟩
    have hi : i < 402 := hi
    unfold N'
    (try simp only [PL.pSeq, PL.pNext, PL.pSet, PL.pSetO, PL.pRet, PL.pRetN, PL.pIfS, PL.pFor, PL.pWhile, PL.pBrk, PL.pCnt, PL.pDrop, PL.pApp, PL.pAsg, PL.pgN, PL.pFrz, PL.frz, PL.pC, PL.pN, PL.pNo, PL.pBin, PL.negP, PL.pB, PL.pAnd, PL.pOr, PL.pNot, PL.pAndV, PL.pOrV, PL.pNotV, PL.pIf, PL.paNil, PL.paCons, PL.pLst, PL.pTup, PL.pIx, PL.pSl, PL.poNone, PL.poSome, PL.pCall, PL.pCallK, PL.piR1, PL.piR2, PL.piE, PL.pBits, PL.isiP_eq, PL.pLr1, PL.pJoinR, PL.pJoin, PL.pLc_eq, PL.pYes, PL.wipeC, PL.pBor, PL.pBorT, PL.frzs, PL.pSetI, PL.pChainT, PL.isNP, PL.addP_i, PL.addP_s, PL.addP_t, PL.addP_l, PL.catP_l, PL.subP_i, PL.mulP_i, PL.mulP_l, PL.repP_l, PL.mulP_s, PL.fdivP_i, PL.modP_i, PL.powP_i, PL.ltP_i, PL.ltP_s, PL.gtP_i, PL.gtP_s, PL.leP_i, PL.leP_s, PL.geP_i, PL.geP_s, PL.eqP_int, PL.eqP_str, PL.eqP_bl, PL.eqP_lst_lst, PL.eqP_tup_tup, PL.eqP_lst_tup, PL.eqP_tup_lst, PL.neP_int, PL.neP_str, PL.neP_bl, PL.neP_lst_lst, PL.neP_tup_tup, PL.neP_lst_tup, PL.neP_tup_lst, PL.asB_b, PL.asS_s, PL.lenP_lst, PL.itP_lst, PL.ixP_lst, PL.listP_lst_, PL.tupleP_lst_, PL.sumP_lst_, PL.maxP_lst_, PL.minP_lst_, PL.lenP_tup, PL.itP_tup, PL.ixP_tup, PL.listP_tup_, PL.tupleP_tup_, PL.sumP_tup_, PL.maxP_tup_, PL.minP_tup_, PL.lenP_scr, PL.itP_scr, PL.ixP_scr, PL.listP_scr_, PL.tupleP_scr_, PL.sumP_scr_, PL.maxP_scr_, PL.minP_scr_, PL.lenP_str, PL.lenP_dk, PL.itP_str, PL.ixP_str, PL.intP_i, PL.intP_b, PL.rg1_i, PL.rg2_i, PL.lr1_i, PL.lr2_i, PL.maxP_2, PL.maxP_3, PL.minP_2, PL.minP_3, PL.slP_lst, PL.slP_tup, PL.slP_str, PL.slPL_lst, PL.pgTup_t, PL.pgTup_l, PL.pgsCons_c, PL.pgsNil_n, PL.joinRP_l, PL.reprP_i, PL.setP_i, PL.ixE_0, PL.ixE_1, PL.ixE_2, PL.ixE_3, PL.ixE_4, PL.ixE_5, PL.ixE_6, PL.ixE_7, PL.ixE_8, PL.isqrtP_i, PL.reprLP_l, PL.pMkE, PL.pErF, PL.pIsE, PL.pRevS, PL.pRetO, PL.pRetON, PL.divmodP_i, PL.pGet, PL.isi_non_int, PL.isi_non_bool, PL.isi_non_str, PL.isi_non_list, PL.isi_non_tuple, PL.isi_bl_int, PL.isi_bl_bool, PL.isi_bl_str, PL.isi_bl_list, PL.isi_bl_tuple, PL.isi_int_int, PL.isi_int_bool, PL.isi_int_str, PL.isi_int_list, PL.isi_int_tuple, PL.isi_str_int, PL.isi_str_bool, PL.isi_str_str, PL.isi_str_list, PL.isi_str_tuple, PL.isi_tup_int, PL.isi_tup_bool, PL.isi_tup_str, PL.isi_tup_list, PL.isi_tup_tuple, PL.isi_lst_int, PL.isi_lst_bool, PL.isi_lst_str, PL.isi_lst_list, PL.isi_lst_tuple, PL.pickL, List.filterMap_cons, List.filterMap_nil, true_and, decide_true, decide_false, eq_self, Int.zero_add, decide_eq_true_eq, PL.rowE, PL.rowS, PL.startC, List.length_map, List.map_cons, List.map_nil, List.length_cons, List.length_nil, List.append_nil, List.nil_append, List.cons_append, List.replicate_succ, List.replicate_zero, List.set_cons_zero, List.set_cons_succ, List.getElem?_cons_zero, List.getElem?_cons_succ, Nat.reduceAdd, Nat.reduceSub, if_true, Bool.not_true, Bool.not_false, Bool.false_eq_true, if_false])
    have b1 : (i : Nat) < 2 ^ 600 := Nat.lt_of_lt_of_le (show i < 2 ^ 10 by omega) (Nat.pow_le_pow_right (by decide) (by decide))
    have b2 : (i + 3 : Nat) < 2 ^ 600 := Nat.lt_of_lt_of_le (show i + 3 < 2 ^ 10 by omega) (Nat.pow_le_pow_right (by decide) (by decide))
    have b3 : (L : Nat) < 2 ^ 600 := Nat.lt_of_lt_of_le (show L < 2 ^ 10 by omega) (Nat.pow_le_pow_right (by decide) (by decide))
    rw [n3, nm, n2m]
    refine ⟨cm b1 b2, cm2 b3, ?_⟩
    split
    · rename_i hg
      refine q i (by omega) ⟨by omega, ?_⟩
      by_cases z : i = 0
      · exact .inl z
      · right
        have := hj (i - 1) (by omega)
        rwa [show i - 1 + 3 = i + 2 by omega] at this
    · rename_i hg
      refine ⟨_, fun j hlt => ?_, rfl⟩
      by_cases c : j = i
      · subst c; omega
      · exact hj j (by omega)
  · rintro env ⟨x, hj, rfl⟩
    exfalso
    have := hj 401 (by decide)
    omega
/-! texts -/
def sp_law_all_texts : PSp := fun ds P => ∃ (al : Wd) (k : Nat), ds = [TD al, N k] ∧ 1 ≤ al.length ∧ al.length ≤ 6 ∧ k ≤ 40 ∧ al.length ^ k ≤ 1000 ∧ P (.lst ((allN al k).map TD))
theorem len_law_all_texts : ∀ ds P, sp_law_all_texts ds P → ds.length = 2 := by rintro _ _ ⟨_, n, rfl, _⟩; rfl
theorem w_law_all_texts : ∀ ds Q, sp_law_all_texts ds Q → b_law_all_texts { nx := fun _ => Q .non, rt := Q } (startC ["alphabet", "letters", "texts", "turn", "longer", "text", "letter"] ds) := by
  rintro _ Q ⟨al, k, rfl, a1, a6, hk, hp, q⟩
  have hz : sizeLine = 16777216 := PySem.sizeLine_eq
  simp only [PL.startC, List.map_cons, List.map_nil, List.length_cons, List.length_nil, Nat.reduceAdd, Nat.reduceSub, List.replicate_succ, List.replicate_zero, List.cons_append, List.nil_append, List.append_nil]
  unfold b_law_all_texts
  simp only [show N k = D.int (k : Int) from rfl, show TD al = D.str (T al) from rfl]
  (try simp only [PL.pSeq, PL.pNext, PL.pSet, PL.pSetO, PL.pRet, PL.pRetN, PL.pIfS, PL.pFor, PL.pWhile, PL.pBrk, PL.pCnt, PL.pDrop, PL.pApp, PL.pAsg, PL.pgN, PL.pFrz, PL.frz, PL.pC, PL.pN, PL.pNo, PL.pBin, PL.negP, PL.pB, PL.pAnd, PL.pOr, PL.pNot, PL.pAndV, PL.pOrV, PL.pNotV, PL.pIf, PL.paNil, PL.paCons, PL.pLst, PL.pTup, PL.pIx, PL.pSl, PL.poNone, PL.poSome, PL.pCall, PL.pCallK, PL.piR1, PL.piR2, PL.piE, PL.pBits, PL.isiP_eq, PL.pLr1, PL.pJoinR, PL.pJoin, PL.pLc_eq, PL.pYes, PL.wipeC, PL.pBor, PL.pBorT, PL.frzs, PL.pSetI, PL.pChainT, PL.isNP, PL.addP_i, PL.addP_s, PL.addP_t, PL.addP_l, PL.catP_l, PL.subP_i, PL.mulP_i, PL.mulP_l, PL.repP_l, PL.mulP_s, PL.fdivP_i, PL.modP_i, PL.powP_i, PL.ltP_i, PL.ltP_s, PL.gtP_i, PL.gtP_s, PL.leP_i, PL.leP_s, PL.geP_i, PL.geP_s, PL.eqP_int, PL.eqP_str, PL.eqP_bl, PL.eqP_lst_lst, PL.eqP_tup_tup, PL.eqP_lst_tup, PL.eqP_tup_lst, PL.neP_int, PL.neP_str, PL.neP_bl, PL.neP_lst_lst, PL.neP_tup_tup, PL.neP_lst_tup, PL.neP_tup_lst, PL.asB_b, PL.asS_s, PL.lenP_lst, PL.itP_lst, PL.ixP_lst, PL.listP_lst_, PL.tupleP_lst_, PL.sumP_lst_, PL.maxP_lst_, PL.minP_lst_, PL.lenP_tup, PL.itP_tup, PL.ixP_tup, PL.listP_tup_, PL.tupleP_tup_, PL.sumP_tup_, PL.maxP_tup_, PL.minP_tup_, PL.lenP_scr, PL.itP_scr, PL.ixP_scr, PL.listP_scr_, PL.tupleP_scr_, PL.sumP_scr_, PL.maxP_scr_, PL.minP_scr_, PL.lenP_str, PL.lenP_dk, PL.itP_str, PL.ixP_str, PL.intP_i, PL.intP_b, PL.rg1_i, PL.rg2_i, PL.lr1_i, PL.lr2_i, PL.maxP_2, PL.maxP_3, PL.minP_2, PL.minP_3, PL.slP_lst, PL.slP_tup, PL.slP_str, PL.slPL_lst, PL.pgTup_t, PL.pgTup_l, PL.pgsCons_c, PL.pgsNil_n, PL.joinRP_l, PL.reprP_i, PL.setP_i, PL.ixE_0, PL.ixE_1, PL.ixE_2, PL.ixE_3, PL.ixE_4, PL.ixE_5, PL.ixE_6, PL.ixE_7, PL.ixE_8, PL.isqrtP_i, PL.reprLP_l, PL.pMkE, PL.pErF, PL.pIsE, PL.pRevS, PL.pRetO, PL.pRetON, PL.divmodP_i, PL.pGet, PL.isi_non_int, PL.isi_non_bool, PL.isi_non_str, PL.isi_non_list, PL.isi_non_tuple, PL.isi_bl_int, PL.isi_bl_bool, PL.isi_bl_str, PL.isi_bl_list, PL.isi_bl_tuple, PL.isi_int_int, PL.isi_int_bool, PL.isi_int_str, PL.isi_int_list, PL.isi_int_tuple, PL.isi_str_int, PL.isi_str_bool, PL.isi_str_str, PL.isi_str_list, PL.isi_str_tuple, PL.isi_tup_int, PL.isi_tup_bool, PL.isi_tup_str, PL.isi_tup_list, PL.isi_tup_tuple, PL.isi_lst_int, PL.isi_lst_bool, PL.isi_lst_str, PL.isi_lst_list, PL.isi_lst_tuple, PL.pickL, List.filterMap_cons, List.filterMap_nil, true_and, decide_true, decide_false, eq_self, Int.zero_add, decide_eq_true_eq, PL.rowE, PL.rowS, PL.startC, List.length_map, List.map_cons, List.map_nil, List.length_cons, List.length_nil, List.append_nil, List.nil_append, List.cons_append, List.replicate_succ, List.replicate_zero, List.set_cons_zero, List.set_cons_succ, List.getElem?_cons_zero, List.getElem?_cons_succ, Nat.reduceAdd, Nat.reduceSub, if_true, Bool.not_true, Bool.not_false, Bool.false_eq_true, if_false])
  refine ⟨by omega, ⟨by omega, by omega⟩, ?_⟩
  refine for_r (W := fun i env => ∃ x y z w : C, env = [C.fz (TD al), N' k, C.fz (.lst ((allN al i).map TD)), x, y, z, w]) ⟨.un, .un, .un, .un, rfl⟩ ?_ ?_
  · rintro i env hi ⟨x, y, z, w, rfl⟩
    have hi : i < k := by simpa using hi
    have hpi : al.length ^ i ≤ 1000 := Nat.le_trans (Nat.pow_le_pow_right a1 (by omega)) hp
    (try simp only [PL.pSeq, PL.pNext, PL.pSet, PL.pSetO, PL.pRet, PL.pRetN, PL.pIfS, PL.pFor, PL.pWhile, PL.pBrk, PL.pCnt, PL.pDrop, PL.pApp, PL.pAsg, PL.pgN, PL.pFrz, PL.frz, PL.pC, PL.pN, PL.pNo, PL.pBin, PL.negP, PL.pB, PL.pAnd, PL.pOr, PL.pNot, PL.pAndV, PL.pOrV, PL.pNotV, PL.pIf, PL.paNil, PL.paCons, PL.pLst, PL.pTup, PL.pIx, PL.pSl, PL.poNone, PL.poSome, PL.pCall, PL.pCallK, PL.piR1, PL.piR2, PL.piE, PL.pBits, PL.isiP_eq, PL.pLr1, PL.pJoinR, PL.pJoin, PL.pLc_eq, PL.pYes, PL.wipeC, PL.pBor, PL.pBorT, PL.frzs, PL.pSetI, PL.pChainT, PL.isNP, PL.addP_i, PL.addP_s, PL.addP_t, PL.addP_l, PL.catP_l, PL.subP_i, PL.mulP_i, PL.mulP_l, PL.repP_l, PL.mulP_s, PL.fdivP_i, PL.modP_i, PL.powP_i, PL.ltP_i, PL.ltP_s, PL.gtP_i, PL.gtP_s, PL.leP_i, PL.leP_s, PL.geP_i, PL.geP_s, PL.eqP_int, PL.eqP_str, PL.eqP_bl, PL.eqP_lst_lst, PL.eqP_tup_tup, PL.eqP_lst_tup, PL.eqP_tup_lst, PL.neP_int, PL.neP_str, PL.neP_bl, PL.neP_lst_lst, PL.neP_tup_tup, PL.neP_lst_tup, PL.neP_tup_lst, PL.asB_b, PL.asS_s, PL.lenP_lst, PL.itP_lst, PL.ixP_lst, PL.listP_lst_, PL.tupleP_lst_, PL.sumP_lst_, PL.maxP_lst_, PL.minP_lst_, PL.lenP_tup, PL.itP_tup, PL.ixP_tup, PL.listP_tup_, PL.tupleP_tup_, PL.sumP_tup_, PL.maxP_tup_, PL.minP_tup_, PL.lenP_scr, PL.itP_scr, PL.ixP_scr, PL.listP_scr_, PL.tupleP_scr_, PL.sumP_scr_, PL.maxP_scr_, PL.minP_scr_, PL.lenP_str, PL.lenP_dk, PL.itP_str, PL.ixP_str, PL.intP_i, PL.intP_b, PL.rg1_i, PL.rg2_i, PL.lr1_i, PL.lr2_i, PL.maxP_2, PL.maxP_3, PL.minP_2, PL.minP_3, PL.slP_lst, PL.slP_tup, PL.slP_str, PL.slPL_lst, PL.pgTup_t, PL.pgTup_l, PL.pgsCons_c, PL.pgsNil_n, PL.joinRP_l, PL.reprP_i, PL.setP_i, PL.ixE_0, PL.ixE_1, PL.ixE_2, PL.ixE_3, PL.ixE_4, PL.ixE_5, PL.ixE_6, PL.ixE_7, PL.ixE_8, PL.isqrtP_i, PL.reprLP_l, PL.pMkE, PL.pErF, PL.pIsE, PL.pRevS, PL.pRetO, PL.pRetON, PL.divmodP_i, PL.pGet, PL.isi_non_int, PL.isi_non_bool, PL.isi_non_str, PL.isi_non_list, PL.isi_non_tuple, PL.isi_bl_int, PL.isi_bl_bool, PL.isi_bl_str, PL.isi_bl_list, PL.isi_bl_tuple, PL.isi_int_int, PL.isi_int_bool, PL.isi_int_str, PL.isi_int_list, PL.isi_int_tuple, PL.isi_str_int, PL.isi_str_bool, PL.isi_str_str, PL.isi_str_list, PL.isi_str_tuple, PL.isi_tup_int, PL.isi_tup_bool, PL.isi_tup_str, PL.isi_tup_list, PL.isi_tup_tuple, PL.isi_lst_int, PL.isi_lst_bool, PL.isi_lst_str, PL.isi_lst_list, PL.isi_lst_tuple, PL.pickL, List.filterMap_cons, List.filterMap_nil, true_and, decide_true, decide_false, eq_self, Int.zero_add, decide_eq_true_eq, PL.rowE, PL.rowS, PL.startC, List.length_map, List.map_cons, List.map_nil, List.length_cons, List.length_nil, List.append_nil, List.nil_append, List.cons_append, List.replicate_succ, List.replicate_zero, List.set_cons_zero, List.set_cons_succ, List.getElem?_cons_zero, List.getElem?_cons_succ, Nat.reduceAdd, Nat.reduceSub, if_true, Bool.not_true, Bool.not_false, Bool.false_eq_true, if_false])
    refine ⟨by omega, ?_⟩
    refine for_m (W := fun j env => ∃ z w : C, env = [C.fz (TD al), N' k, C.fz (.lst ((allN al i).map TD)), C.fz (.int i), C.ow (.lst ((((allN al i).take j).flatMap fun t => al.map fun c => t ++ [c]).map TD)), z, w]) ⟨_, _, rfl⟩ ?_ ?_
    · rintro j t env hj ⟨z, w, rfl⟩
      have hjl : j < (allN al i).length := (List.getElem?_eq_some_iff.mp hj).1
      have hl := allN_mem (List.mem_of_getElem? hj)
      rw [allN_len] at hjl
      (try simp only [PL.pSeq, PL.pNext, PL.pSet, PL.pSetO, PL.pRet, PL.pRetN, PL.pIfS, PL.pFor, PL.pWhile, PL.pBrk, PL.pCnt, PL.pDrop, PL.pApp, PL.pAsg, PL.pgN, PL.pFrz, PL.frz, PL.pC, PL.pN, PL.pNo, PL.pBin, PL.negP, PL.pB, PL.pAnd, PL.pOr, PL.pNot, PL.pAndV, PL.pOrV, PL.pNotV, PL.pIf, PL.paNil, PL.paCons, PL.pLst, PL.pTup, PL.pIx, PL.pSl, PL.poNone, PL.poSome, PL.pCall, PL.pCallK, PL.piR1, PL.piR2, PL.piE, PL.pBits, PL.isiP_eq, PL.pLr1, PL.pJoinR, PL.pJoin, PL.pLc_eq, PL.pYes, PL.wipeC, PL.pBor, PL.pBorT, PL.frzs, PL.pSetI, PL.pChainT, PL.isNP, PL.addP_i, PL.addP_s, PL.addP_t, PL.addP_l, PL.catP_l, PL.subP_i, PL.mulP_i, PL.mulP_l, PL.repP_l, PL.mulP_s, PL.fdivP_i, PL.modP_i, PL.powP_i, PL.ltP_i, PL.ltP_s, PL.gtP_i, PL.gtP_s, PL.leP_i, PL.leP_s, PL.geP_i, PL.geP_s, PL.eqP_int, PL.eqP_str, PL.eqP_bl, PL.eqP_lst_lst, PL.eqP_tup_tup, PL.eqP_lst_tup, PL.eqP_tup_lst, PL.neP_int, PL.neP_str, PL.neP_bl, PL.neP_lst_lst, PL.neP_tup_tup, PL.neP_lst_tup, PL.neP_tup_lst, PL.asB_b, PL.asS_s, PL.lenP_lst, PL.itP_lst, PL.ixP_lst, PL.listP_lst_, PL.tupleP_lst_, PL.sumP_lst_, PL.maxP_lst_, PL.minP_lst_, PL.lenP_tup, PL.itP_tup, PL.ixP_tup, PL.listP_tup_, PL.tupleP_tup_, PL.sumP_tup_, PL.maxP_tup_, PL.minP_tup_, PL.lenP_scr, PL.itP_scr, PL.ixP_scr, PL.listP_scr_, PL.tupleP_scr_, PL.sumP_scr_, PL.maxP_scr_, PL.minP_scr_, PL.lenP_str, PL.lenP_dk, PL.itP_str, PL.ixP_str, PL.intP_i, PL.intP_b, PL.rg1_i, PL.rg2_i, PL.lr1_i, PL.lr2_i, PL.maxP_2, PL.maxP_3, PL.minP_2, PL.minP_3, PL.slP_lst, PL.slP_tup, PL.slP_str, PL.slPL_lst, PL.pgTup_t, PL.pgTup_l, PL.pgsCons_c, PL.pgsNil_n, PL.joinRP_l, PL.reprP_i, PL.setP_i, PL.ixE_0, PL.ixE_1, PL.ixE_2, PL.ixE_3, PL.ixE_4, PL.ixE_5, PL.ixE_6, PL.ixE_7, PL.ixE_8, PL.isqrtP_i, PL.reprLP_l, PL.pMkE, PL.pErF, PL.pIsE, PL.pRevS, PL.pRetO, PL.pRetON, PL.divmodP_i, PL.pGet, PL.isi_non_int, PL.isi_non_bool, PL.isi_non_str, PL.isi_non_list, PL.isi_non_tuple, PL.isi_bl_int, PL.isi_bl_bool, PL.isi_bl_str, PL.isi_bl_list, PL.isi_bl_tuple, PL.isi_int_int, PL.isi_int_bool, PL.isi_int_str, PL.isi_int_list, PL.isi_int_tuple, PL.isi_str_int, PL.isi_str_bool, PL.isi_str_str, PL.isi_str_list, PL.isi_str_tuple, PL.isi_tup_int, PL.isi_tup_bool, PL.isi_tup_str, PL.isi_tup_list, PL.isi_tup_tuple, PL.isi_lst_int, PL.isi_lst_bool, PL.isi_lst_str, PL.isi_lst_list, PL.isi_lst_tuple, PL.pickL, List.filterMap_cons, List.filterMap_nil, true_and, decide_true, decide_false, eq_self, Int.zero_add, decide_eq_true_eq, PL.rowE, PL.rowS, PL.startC, List.length_map, List.map_cons, List.map_nil, List.length_cons, List.length_nil, List.append_nil, List.nil_append, List.cons_append, List.replicate_succ, List.replicate_zero, List.set_cons_zero, List.set_cons_succ, List.getElem?_cons_zero, List.getElem?_cons_succ, Nat.reduceAdd, Nat.reduceSub, if_true, Bool.not_true, Bool.not_false, Bool.false_eq_true, if_false])
      simp only [pExt, TD]
      (try simp only [PL.pSeq, PL.pNext, PL.pSet, PL.pSetO, PL.pRet, PL.pRetN, PL.pIfS, PL.pFor, PL.pWhile, PL.pBrk, PL.pCnt, PL.pDrop, PL.pApp, PL.pAsg, PL.pgN, PL.pFrz, PL.frz, PL.pC, PL.pN, PL.pNo, PL.pBin, PL.negP, PL.pB, PL.pAnd, PL.pOr, PL.pNot, PL.pAndV, PL.pOrV, PL.pNotV, PL.pIf, PL.paNil, PL.paCons, PL.pLst, PL.pTup, PL.pIx, PL.pSl, PL.poNone, PL.poSome, PL.pCall, PL.pCallK, PL.piR1, PL.piR2, PL.piE, PL.pBits, PL.isiP_eq, PL.pLr1, PL.pJoinR, PL.pJoin, PL.pLc_eq, PL.pYes, PL.wipeC, PL.pBor, PL.pBorT, PL.frzs, PL.pSetI, PL.pChainT, PL.isNP, PL.addP_i, PL.addP_s, PL.addP_t, PL.addP_l, PL.catP_l, PL.subP_i, PL.mulP_i, PL.mulP_l, PL.repP_l, PL.mulP_s, PL.fdivP_i, PL.modP_i, PL.powP_i, PL.ltP_i, PL.ltP_s, PL.gtP_i, PL.gtP_s, PL.leP_i, PL.leP_s, PL.geP_i, PL.geP_s, PL.eqP_int, PL.eqP_str, PL.eqP_bl, PL.eqP_lst_lst, PL.eqP_tup_tup, PL.eqP_lst_tup, PL.eqP_tup_lst, PL.neP_int, PL.neP_str, PL.neP_bl, PL.neP_lst_lst, PL.neP_tup_tup, PL.neP_lst_tup, PL.neP_tup_lst, PL.asB_b, PL.asS_s, PL.lenP_lst, PL.itP_lst, PL.ixP_lst, PL.listP_lst_, PL.tupleP_lst_, PL.sumP_lst_, PL.maxP_lst_, PL.minP_lst_, PL.lenP_tup, PL.itP_tup, PL.ixP_tup, PL.listP_tup_, PL.tupleP_tup_, PL.sumP_tup_, PL.maxP_tup_, PL.minP_tup_, PL.lenP_scr, PL.itP_scr, PL.ixP_scr, PL.listP_scr_, PL.tupleP_scr_, PL.sumP_scr_, PL.maxP_scr_, PL.minP_scr_, PL.lenP_str, PL.lenP_dk, PL.itP_str, PL.ixP_str, PL.intP_i, PL.intP_b, PL.rg1_i, PL.rg2_i, PL.lr1_i, PL.lr2_i, PL.maxP_2, PL.maxP_3, PL.minP_2, PL.minP_3, PL.slP_lst, PL.slP_tup, PL.slP_str, PL.slPL_lst, PL.pgTup_t, PL.pgTup_l, PL.pgsCons_c, PL.pgsNil_n, PL.joinRP_l, PL.reprP_i, PL.setP_i, PL.ixE_0, PL.ixE_1, PL.ixE_2, PL.ixE_3, PL.ixE_4, PL.ixE_5, PL.ixE_6, PL.ixE_7, PL.ixE_8, PL.isqrtP_i, PL.reprLP_l, PL.pMkE, PL.pErF, PL.pIsE, PL.pRevS, PL.pRetO, PL.pRetON, PL.divmodP_i, PL.pGet, PL.isi_non_int, PL.isi_non_bool, PL.isi_non_str, PL.isi_non_list, PL.isi_non_tuple, PL.isi_bl_int, PL.isi_bl_bool, PL.isi_bl_str, PL.isi_bl_list, PL.isi_bl_tuple, PL.isi_int_int, PL.isi_int_bool, PL.isi_int_str, PL.isi_int_list, PL.isi_int_tuple, PL.isi_str_int, PL.isi_str_bool, PL.isi_str_str, PL.isi_str_list, PL.isi_str_tuple, PL.isi_tup_int, PL.isi_tup_bool, PL.isi_tup_str, PL.isi_tup_list, PL.isi_tup_tuple, PL.isi_lst_int, PL.isi_lst_bool, PL.isi_lst_str, PL.isi_lst_list, PL.isi_lst_tuple, PL.pickL, List.filterMap_cons, List.filterMap_nil, true_and, decide_true, decide_false, eq_self, Int.zero_add, decide_eq_true_eq, PL.rowE, PL.rowS, PL.startC, List.length_map, List.map_cons, List.map_nil, List.length_cons, List.length_nil, List.append_nil, List.nil_append, List.cons_append, List.replicate_succ, List.replicate_zero, List.set_cons_zero, List.set_cons_succ, List.getElem?_cons_zero, List.getElem?_cons_succ, Nat.reduceAdd, Nat.reduceSub, if_true, Bool.not_true, Bool.not_false, Bool.false_eq_true, if_false])
      rw [signs_T]
      refine lc_m (W := fun k acc => acc = (al.take k).map fun c => TD (t ++ [c])) rfl ?_ ?_
      · rintro k2 c acc hc rfl
        have hcl : k2 < al.length := (List.getElem?_eq_some_iff.mp hc).1
        simp only [TD]
        (try simp only [PL.pSeq, PL.pNext, PL.pSet, PL.pSetO, PL.pRet, PL.pRetN, PL.pIfS, PL.pFor, PL.pWhile, PL.pBrk, PL.pCnt, PL.pDrop, PL.pApp, PL.pAsg, PL.pgN, PL.pFrz, PL.frz, PL.pC, PL.pN, PL.pNo, PL.pBin, PL.negP, PL.pB, PL.pAnd, PL.pOr, PL.pNot, PL.pAndV, PL.pOrV, PL.pNotV, PL.pIf, PL.paNil, PL.paCons, PL.pLst, PL.pTup, PL.pIx, PL.pSl, PL.poNone, PL.poSome, PL.pCall, PL.pCallK, PL.piR1, PL.piR2, PL.piE, PL.pBits, PL.isiP_eq, PL.pLr1, PL.pJoinR, PL.pJoin, PL.pLc_eq, PL.pYes, PL.wipeC, PL.pBor, PL.pBorT, PL.frzs, PL.pSetI, PL.pChainT, PL.isNP, PL.addP_i, PL.addP_s, PL.addP_t, PL.addP_l, PL.catP_l, PL.subP_i, PL.mulP_i, PL.mulP_l, PL.repP_l, PL.mulP_s, PL.fdivP_i, PL.modP_i, PL.powP_i, PL.ltP_i, PL.ltP_s, PL.gtP_i, PL.gtP_s, PL.leP_i, PL.leP_s, PL.geP_i, PL.geP_s, PL.eqP_int, PL.eqP_str, PL.eqP_bl, PL.eqP_lst_lst, PL.eqP_tup_tup, PL.eqP_lst_tup, PL.eqP_tup_lst, PL.neP_int, PL.neP_str, PL.neP_bl, PL.neP_lst_lst, PL.neP_tup_tup, PL.neP_lst_tup, PL.neP_tup_lst, PL.asB_b, PL.asS_s, PL.lenP_lst, PL.itP_lst, PL.ixP_lst, PL.listP_lst_, PL.tupleP_lst_, PL.sumP_lst_, PL.maxP_lst_, PL.minP_lst_, PL.lenP_tup, PL.itP_tup, PL.ixP_tup, PL.listP_tup_, PL.tupleP_tup_, PL.sumP_tup_, PL.maxP_tup_, PL.minP_tup_, PL.lenP_scr, PL.itP_scr, PL.ixP_scr, PL.listP_scr_, PL.tupleP_scr_, PL.sumP_scr_, PL.maxP_scr_, PL.minP_scr_, PL.lenP_str, PL.lenP_dk, PL.itP_str, PL.ixP_str, PL.intP_i, PL.intP_b, PL.rg1_i, PL.rg2_i, PL.lr1_i, PL.lr2_i, PL.maxP_2, PL.maxP_3, PL.minP_2, PL.minP_3, PL.slP_lst, PL.slP_tup, PL.slP_str, PL.slPL_lst, PL.pgTup_t, PL.pgTup_l, PL.pgsCons_c, PL.pgsNil_n, PL.joinRP_l, PL.reprP_i, PL.setP_i, PL.ixE_0, PL.ixE_1, PL.ixE_2, PL.ixE_3, PL.ixE_4, PL.ixE_5, PL.ixE_6, PL.ixE_7, PL.ixE_8, PL.isqrtP_i, PL.reprLP_l, PL.pMkE, PL.pErF, PL.pIsE, PL.pRevS, PL.pRetO, PL.pRetON, PL.divmodP_i, PL.pGet, PL.isi_non_int, PL.isi_non_bool, PL.isi_non_str, PL.isi_non_list, PL.isi_non_tuple, PL.isi_bl_int, PL.isi_bl_bool, PL.isi_bl_str, PL.isi_bl_list, PL.isi_bl_tuple, PL.isi_int_int, PL.isi_int_bool, PL.isi_int_str, PL.isi_int_list, PL.isi_int_tuple, PL.isi_str_int, PL.isi_str_bool, PL.isi_str_str, PL.isi_str_list, PL.isi_str_tuple, PL.isi_tup_int, PL.isi_tup_bool, PL.isi_tup_str, PL.isi_tup_list, PL.isi_tup_tuple, PL.isi_lst_int, PL.isi_lst_bool, PL.isi_lst_str, PL.isi_lst_list, PL.isi_lst_tuple, PL.pickL, List.filterMap_cons, List.filterMap_nil, true_and, decide_true, decide_false, eq_self, Int.zero_add, decide_eq_true_eq, PL.rowE, PL.rowS, PL.startC, List.length_map, List.map_cons, List.map_nil, List.length_cons, List.length_nil, List.append_nil, List.nil_append, List.cons_append, List.replicate_succ, List.replicate_zero, List.set_cons_zero, List.set_cons_succ, List.getElem?_cons_zero, List.getElem?_cons_succ, Nat.reduceAdd, Nat.reduceSub, if_true, Bool.not_true, Bool.not_false, Bool.false_eq_true, if_false])
        rw [T_app, T_len, T_len]
        refine ⟨by rw [hl]; simp; omega, by simp; omega, ?_⟩
        rw [takeC hc, List.map_append]; rfl
      · rintro acc rfl
        rw [List.take_length]
        have ef : ((allN al i).take (j + 1)).flatMap (fun t => al.map fun c => t ++ [c]) = ((allN al i).take j).flatMap (fun t => al.map fun c => t ++ [c]) ++ al.map fun c => t ++ [c] := by
          rw [takeC hj, List.flatMap_append]; simp
        have hfl : (((allN al i).take j).flatMap (fun t => al.map fun c => t ++ [c])).length ≤ 6 * 1000 := by
          rw [List.length_flatMap]
          have : (List.map (fun t => (al.map fun c => t ++ [c]).length) ((allN al i).take j)) = List.replicate ((allN al i).take j).length al.length := by
            rw [List.eq_replicate_iff]
            refine ⟨by simp, fun b hb => ?_⟩
            obtain ⟨t, _, rfl⟩ := List.mem_map.mp hb
            simp
          rw [this, List.sum_replicate_nat, List.length_take, allN_len]
          have : min j (al.length ^ i) * al.length ≤ 1000 * 6 := Nat.mul_le_mul (by omega) a6
          omega
        refine ⟨by simp only [List.length_map]; omega, ?_⟩
        refine ⟨C.fz (TD t), w, ?_⟩
        rw [ef, List.map_append, List.map_map]
        rfl
    · rintro env ⟨z, w, rfl⟩
      rw [List.take_length]
      (try simp only [PL.pSeq, PL.pNext, PL.pSet, PL.pSetO, PL.pRet, PL.pRetN, PL.pIfS, PL.pFor, PL.pWhile, PL.pBrk, PL.pCnt, PL.pDrop, PL.pApp, PL.pAsg, PL.pgN, PL.pFrz, PL.frz, PL.pC, PL.pN, PL.pNo, PL.pBin, PL.negP, PL.pB, PL.pAnd, PL.pOr, PL.pNot, PL.pAndV, PL.pOrV, PL.pNotV, PL.pIf, PL.paNil, PL.paCons, PL.pLst, PL.pTup, PL.pIx, PL.pSl, PL.poNone, PL.poSome, PL.pCall, PL.pCallK, PL.piR1, PL.piR2, PL.piE, PL.pBits, PL.isiP_eq, PL.pLr1, PL.pJoinR, PL.pJoin, PL.pLc_eq, PL.pYes, PL.wipeC, PL.pBor, PL.pBorT, PL.frzs, PL.pSetI, PL.pChainT, PL.isNP, PL.addP_i, PL.addP_s, PL.addP_t, PL.addP_l, PL.catP_l, PL.subP_i, PL.mulP_i, PL.mulP_l, PL.repP_l, PL.mulP_s, PL.fdivP_i, PL.modP_i, PL.powP_i, PL.ltP_i, PL.ltP_s, PL.gtP_i, PL.gtP_s, PL.leP_i, PL.leP_s, PL.geP_i, PL.geP_s, PL.eqP_int, PL.eqP_str, PL.eqP_bl, PL.eqP_lst_lst, PL.eqP_tup_tup, PL.eqP_lst_tup, PL.eqP_tup_lst, PL.neP_int, PL.neP_str, PL.neP_bl, PL.neP_lst_lst, PL.neP_tup_tup, PL.neP_lst_tup, PL.neP_tup_lst, PL.asB_b, PL.asS_s, PL.lenP_lst, PL.itP_lst, PL.ixP_lst, PL.listP_lst_, PL.tupleP_lst_, PL.sumP_lst_, PL.maxP_lst_, PL.minP_lst_, PL.lenP_tup, PL.itP_tup, PL.ixP_tup, PL.listP_tup_, PL.tupleP_tup_, PL.sumP_tup_, PL.maxP_tup_, PL.minP_tup_, PL.lenP_scr, PL.itP_scr, PL.ixP_scr, PL.listP_scr_, PL.tupleP_scr_, PL.sumP_scr_, PL.maxP_scr_, PL.minP_scr_, PL.lenP_str, PL.lenP_dk, PL.itP_str, PL.ixP_str, PL.intP_i, PL.intP_b, PL.rg1_i, PL.rg2_i, PL.lr1_i, PL.lr2_i, PL.maxP_2, PL.maxP_3, PL.minP_2, PL.minP_3, PL.slP_lst, PL.slP_tup, PL.slP_str, PL.slPL_lst, PL.pgTup_t, PL.pgTup_l, PL.pgsCons_c, PL.pgsNil_n, PL.joinRP_l, PL.reprP_i, PL.setP_i, PL.ixE_0, PL.ixE_1, PL.ixE_2, PL.ixE_3, PL.ixE_4, PL.ixE_5, PL.ixE_6, PL.ixE_7, PL.ixE_8, PL.isqrtP_i, PL.reprLP_l, PL.pMkE, PL.pErF, PL.pIsE, PL.pRevS, PL.pRetO, PL.pRetON, PL.divmodP_i, PL.pGet, PL.isi_non_int, PL.isi_non_bool, PL.isi_non_str, PL.isi_non_list, PL.isi_non_tuple, PL.isi_bl_int, PL.isi_bl_bool, PL.isi_bl_str, PL.isi_bl_list, PL.isi_bl_tuple, PL.isi_int_int, PL.isi_int_bool, PL.isi_int_str, PL.isi_int_list, PL.isi_int_tuple, PL.isi_str_int, PL.isi_str_bool, PL.isi_str_str, PL.isi_str_list, PL.isi_str_tuple, PL.isi_tup_int, PL.isi_tup_bool, PL.isi_tup_str, PL.isi_tup_list, PL.isi_tup_tuple, PL.isi_lst_int, PL.isi_lst_bool, PL.isi_lst_str, PL.isi_lst_list, PL.isi_lst_tuple, PL.pickL, List.filterMap_cons, List.filterMap_nil, true_and, decide_true, decide_false, eq_self, Int.zero_add, decide_eq_true_eq, PL.rowE, PL.rowS, PL.startC, List.length_map, List.map_cons, List.map_nil, List.length_cons, List.length_nil, List.append_nil, List.nil_append, List.cons_append, List.replicate_succ, List.replicate_zero, List.set_cons_zero, List.set_cons_succ, List.getElem?_cons_zero, List.getElem?_cons_succ, Nat.reduceAdd, Nat.reduceSub, if_true, Bool.not_true, Bool.not_false, Bool.false_eq_true, if_false])
      refine ⟨_, rfl, ?_⟩
      exact ⟨_, _, _, _, rfl⟩
  · rintro env ⟨x, y, z, w, rfl⟩
    (try simp only [PL.pSeq, PL.pNext, PL.pSet, PL.pSetO, PL.pRet, PL.pRetN, PL.pIfS, PL.pFor, PL.pWhile, PL.pBrk, PL.pCnt, PL.pDrop, PL.pApp, PL.pAsg, PL.pgN, PL.pFrz, PL.frz, PL.pC, PL.pN, PL.pNo, PL.pBin, PL.negP, PL.pB, PL.pAnd, PL.pOr, PL.pNot, PL.pAndV, PL.pOrV, PL.pNotV, PL.pIf, PL.paNil, PL.paCons, PL.pLst, PL.pTup, PL.pIx, PL.pSl, PL.poNone, PL.poSome, PL.pCall, PL.pCallK, PL.piR1, PL.piR2, PL.piE, PL.pBits, PL.isiP_eq, PL.pLr1, PL.pJoinR, PL.pJoin, PL.pLc_eq, PL.pYes, PL.wipeC, PL.pBor, PL.pBorT, PL.frzs, PL.pSetI, PL.pChainT, PL.isNP, PL.addP_i, PL.addP_s, PL.addP_t, PL.addP_l, PL.catP_l, PL.subP_i, PL.mulP_i, PL.mulP_l, PL.repP_l, PL.mulP_s, PL.fdivP_i, PL.modP_i, PL.powP_i, PL.ltP_i, PL.ltP_s, PL.gtP_i, PL.gtP_s, PL.leP_i, PL.leP_s, PL.geP_i, PL.geP_s, PL.eqP_int, PL.eqP_str, PL.eqP_bl, PL.eqP_lst_lst, PL.eqP_tup_tup, PL.eqP_lst_tup, PL.eqP_tup_lst, PL.neP_int, PL.neP_str, PL.neP_bl, PL.neP_lst_lst, PL.neP_tup_tup, PL.neP_lst_tup, PL.neP_tup_lst, PL.asB_b, PL.asS_s, PL.lenP_lst, PL.itP_lst, PL.ixP_lst, PL.listP_lst_, PL.tupleP_lst_, PL.sumP_lst_, PL.maxP_lst_, PL.minP_lst_, PL.lenP_tup, PL.itP_tup, PL.ixP_tup, PL.listP_tup_, PL.tupleP_tup_, PL.sumP_tup_, PL.maxP_tup_, PL.minP_tup_, PL.lenP_scr, PL.itP_scr, PL.ixP_scr, PL.listP_scr_, PL.tupleP_scr_, PL.sumP_scr_, PL.maxP_scr_, PL.minP_scr_, PL.lenP_str, PL.lenP_dk, PL.itP_str, PL.ixP_str, PL.intP_i, PL.intP_b, PL.rg1_i, PL.rg2_i, PL.lr1_i, PL.lr2_i, PL.maxP_2, PL.maxP_3, PL.minP_2, PL.minP_3, PL.slP_lst, PL.slP_tup, PL.slP_str, PL.slPL_lst, PL.pgTup_t, PL.pgTup_l, PL.pgsCons_c, PL.pgsNil_n, PL.joinRP_l, PL.reprP_i, PL.setP_i, PL.ixE_0, PL.ixE_1, PL.ixE_2, PL.ixE_3, PL.ixE_4, PL.ixE_5, PL.ixE_6, PL.ixE_7, PL.ixE_8, PL.isqrtP_i, PL.reprLP_l, PL.pMkE, PL.pErF, PL.pIsE, PL.pRevS, PL.pRetO, PL.pRetON, PL.divmodP_i, PL.pGet, PL.isi_non_int, PL.isi_non_bool, PL.isi_non_str, PL.isi_non_list, PL.isi_non_tuple, PL.isi_bl_int, PL.isi_bl_bool, PL.isi_bl_str, PL.isi_bl_list, PL.isi_bl_tuple, PL.isi_int_int, PL.isi_int_bool, PL.isi_int_str, PL.isi_int_list, PL.isi_int_tuple, PL.isi_str_int, PL.isi_str_bool, PL.isi_str_str, PL.isi_str_list, PL.isi_str_tuple, PL.isi_tup_int, PL.isi_tup_bool, PL.isi_tup_str, PL.isi_tup_list, PL.isi_tup_tuple, PL.isi_lst_int, PL.isi_lst_bool, PL.isi_lst_str, PL.isi_lst_list, PL.isi_lst_tuple, PL.pickL, List.filterMap_cons, List.filterMap_nil, true_and, decide_true, decide_false, eq_self, Int.zero_add, decide_eq_true_eq, PL.rowE, PL.rowS, PL.startC, List.length_map, List.map_cons, List.map_nil, List.length_cons, List.length_nil, List.append_nil, List.nil_append, List.cons_append, List.replicate_succ, List.replicate_zero, List.set_cons_zero, List.set_cons_succ, List.getElem?_cons_zero, List.getElem?_cons_succ, Nat.reduceAdd, Nat.reduceSub, if_true, Bool.not_true, Bool.not_false, Bool.false_eq_true, if_false])
    exact q
def cutD3 (s : CS) : D := .lst [.tup (s.rows.map rowD), .int (s.ps.idxOf s.w : Nat), .lst (s.ps.map TD)]
def sp_law_cut : PSp := fun ds P => ∃ t : Wd, ds = [TD t] ∧ t.length ≤ 1000 ∧ P (cutD3 (cutC t))
theorem len_law_cut : ∀ ds P, sp_law_cut ds P → ds.length = 1 := by rintro _ _ ⟨n, rfl, _⟩; rfl
theorem w_law_cut : ∀ ds Q, sp_law_cut ds Q → b_law_cut { nx := fun _ => Q .non, rt := Q } (startC ["text", "pieces", "number", "rows", "word", "letter"] ds) := by
  rintro _ Q ⟨t, rfl, ht, q⟩
  have hz : sizeLine = 16777216 := PySem.sizeLine_eq
  simp only [PL.startC, List.map_cons, List.map_nil, List.length_cons, List.length_nil, Nat.reduceAdd, Nat.reduceSub, List.replicate_succ, List.replicate_zero, List.cons_append, List.nil_append, List.append_nil]
  unfold b_law_cut
  simp only [show TD t = D.str (T t) from rfl]
  (try simp only [PL.pSeq, PL.pNext, PL.pSet, PL.pSetO, PL.pRet, PL.pRetN, PL.pIfS, PL.pFor, PL.pWhile, PL.pBrk, PL.pCnt, PL.pDrop, PL.pApp, PL.pAsg, PL.pgN, PL.pFrz, PL.frz, PL.pC, PL.pN, PL.pNo, PL.pBin, PL.negP, PL.pB, PL.pAnd, PL.pOr, PL.pNot, PL.pAndV, PL.pOrV, PL.pNotV, PL.pIf, PL.paNil, PL.paCons, PL.pLst, PL.pTup, PL.pIx, PL.pSl, PL.poNone, PL.poSome, PL.pCall, PL.pCallK, PL.piR1, PL.piR2, PL.piE, PL.pBits, PL.isiP_eq, PL.pLr1, PL.pJoinR, PL.pJoin, PL.pLc_eq, PL.pYes, PL.wipeC, PL.pBor, PL.pBorT, PL.frzs, PL.pSetI, PL.pChainT, PL.isNP, PL.addP_i, PL.addP_s, PL.addP_t, PL.addP_l, PL.catP_l, PL.subP_i, PL.mulP_i, PL.mulP_l, PL.repP_l, PL.mulP_s, PL.fdivP_i, PL.modP_i, PL.powP_i, PL.ltP_i, PL.ltP_s, PL.gtP_i, PL.gtP_s, PL.leP_i, PL.leP_s, PL.geP_i, PL.geP_s, PL.eqP_int, PL.eqP_str, PL.eqP_bl, PL.eqP_lst_lst, PL.eqP_tup_tup, PL.eqP_lst_tup, PL.eqP_tup_lst, PL.neP_int, PL.neP_str, PL.neP_bl, PL.neP_lst_lst, PL.neP_tup_tup, PL.neP_lst_tup, PL.neP_tup_lst, PL.asB_b, PL.asS_s, PL.lenP_lst, PL.itP_lst, PL.ixP_lst, PL.listP_lst_, PL.tupleP_lst_, PL.sumP_lst_, PL.maxP_lst_, PL.minP_lst_, PL.lenP_tup, PL.itP_tup, PL.ixP_tup, PL.listP_tup_, PL.tupleP_tup_, PL.sumP_tup_, PL.maxP_tup_, PL.minP_tup_, PL.lenP_scr, PL.itP_scr, PL.ixP_scr, PL.listP_scr_, PL.tupleP_scr_, PL.sumP_scr_, PL.maxP_scr_, PL.minP_scr_, PL.lenP_str, PL.lenP_dk, PL.itP_str, PL.ixP_str, PL.intP_i, PL.intP_b, PL.rg1_i, PL.rg2_i, PL.lr1_i, PL.lr2_i, PL.maxP_2, PL.maxP_3, PL.minP_2, PL.minP_3, PL.slP_lst, PL.slP_tup, PL.slP_str, PL.slPL_lst, PL.pgTup_t, PL.pgTup_l, PL.pgsCons_c, PL.pgsNil_n, PL.joinRP_l, PL.reprP_i, PL.setP_i, PL.ixE_0, PL.ixE_1, PL.ixE_2, PL.ixE_3, PL.ixE_4, PL.ixE_5, PL.ixE_6, PL.ixE_7, PL.ixE_8, PL.isqrtP_i, PL.reprLP_l, PL.pMkE, PL.pErF, PL.pIsE, PL.pRevS, PL.pRetO, PL.pRetON, PL.divmodP_i, PL.pGet, PL.isi_non_int, PL.isi_non_bool, PL.isi_non_str, PL.isi_non_list, PL.isi_non_tuple, PL.isi_bl_int, PL.isi_bl_bool, PL.isi_bl_str, PL.isi_bl_list, PL.isi_bl_tuple, PL.isi_int_int, PL.isi_int_bool, PL.isi_int_str, PL.isi_int_list, PL.isi_int_tuple, PL.isi_str_int, PL.isi_str_bool, PL.isi_str_str, PL.isi_str_list, PL.isi_str_tuple, PL.isi_tup_int, PL.isi_tup_bool, PL.isi_tup_str, PL.isi_tup_list, PL.isi_tup_tuple, PL.isi_lst_int, PL.isi_lst_bool, PL.isi_lst_str, PL.isi_lst_list, PL.isi_lst_tuple, PL.pickL, List.filterMap_cons, List.filterMap_nil, true_and, decide_true, decide_false, eq_self, Int.zero_add, decide_eq_true_eq, PL.rowE, PL.rowS, PL.startC, List.length_map, List.map_cons, List.map_nil, List.length_cons, List.length_nil, List.append_nil, List.nil_append, List.cons_append, List.replicate_succ, List.replicate_zero, List.set_cons_zero, List.set_cons_succ, List.getElem?_cons_zero, List.getElem?_cons_succ, Nat.reduceAdd, Nat.reduceSub, if_true, Bool.not_true, Bool.not_false, Bool.false_eq_true, if_false])
  simp only [pDisp, pPairs, keysP, keyOf, Option.bind, Option.map, mergeD, List.foldl]
  (try simp only [PL.pSeq, PL.pNext, PL.pSet, PL.pSetO, PL.pRet, PL.pRetN, PL.pIfS, PL.pFor, PL.pWhile, PL.pBrk, PL.pCnt, PL.pDrop, PL.pApp, PL.pAsg, PL.pgN, PL.pFrz, PL.frz, PL.pC, PL.pN, PL.pNo, PL.pBin, PL.negP, PL.pB, PL.pAnd, PL.pOr, PL.pNot, PL.pAndV, PL.pOrV, PL.pNotV, PL.pIf, PL.paNil, PL.paCons, PL.pLst, PL.pTup, PL.pIx, PL.pSl, PL.poNone, PL.poSome, PL.pCall, PL.pCallK, PL.piR1, PL.piR2, PL.piE, PL.pBits, PL.isiP_eq, PL.pLr1, PL.pJoinR, PL.pJoin, PL.pLc_eq, PL.pYes, PL.wipeC, PL.pBor, PL.pBorT, PL.frzs, PL.pSetI, PL.pChainT, PL.isNP, PL.addP_i, PL.addP_s, PL.addP_t, PL.addP_l, PL.catP_l, PL.subP_i, PL.mulP_i, PL.mulP_l, PL.repP_l, PL.mulP_s, PL.fdivP_i, PL.modP_i, PL.powP_i, PL.ltP_i, PL.ltP_s, PL.gtP_i, PL.gtP_s, PL.leP_i, PL.leP_s, PL.geP_i, PL.geP_s, PL.eqP_int, PL.eqP_str, PL.eqP_bl, PL.eqP_lst_lst, PL.eqP_tup_tup, PL.eqP_lst_tup, PL.eqP_tup_lst, PL.neP_int, PL.neP_str, PL.neP_bl, PL.neP_lst_lst, PL.neP_tup_tup, PL.neP_lst_tup, PL.neP_tup_lst, PL.asB_b, PL.asS_s, PL.lenP_lst, PL.itP_lst, PL.ixP_lst, PL.listP_lst_, PL.tupleP_lst_, PL.sumP_lst_, PL.maxP_lst_, PL.minP_lst_, PL.lenP_tup, PL.itP_tup, PL.ixP_tup, PL.listP_tup_, PL.tupleP_tup_, PL.sumP_tup_, PL.maxP_tup_, PL.minP_tup_, PL.lenP_scr, PL.itP_scr, PL.ixP_scr, PL.listP_scr_, PL.tupleP_scr_, PL.sumP_scr_, PL.maxP_scr_, PL.minP_scr_, PL.lenP_str, PL.lenP_dk, PL.itP_str, PL.ixP_str, PL.intP_i, PL.intP_b, PL.rg1_i, PL.rg2_i, PL.lr1_i, PL.lr2_i, PL.maxP_2, PL.maxP_3, PL.minP_2, PL.minP_3, PL.slP_lst, PL.slP_tup, PL.slP_str, PL.slPL_lst, PL.pgTup_t, PL.pgTup_l, PL.pgsCons_c, PL.pgsNil_n, PL.joinRP_l, PL.reprP_i, PL.setP_i, PL.ixE_0, PL.ixE_1, PL.ixE_2, PL.ixE_3, PL.ixE_4, PL.ixE_5, PL.ixE_6, PL.ixE_7, PL.ixE_8, PL.isqrtP_i, PL.reprLP_l, PL.pMkE, PL.pErF, PL.pIsE, PL.pRevS, PL.pRetO, PL.pRetON, PL.divmodP_i, PL.pGet, PL.isi_non_int, PL.isi_non_bool, PL.isi_non_str, PL.isi_non_list, PL.isi_non_tuple, PL.isi_bl_int, PL.isi_bl_bool, PL.isi_bl_str, PL.isi_bl_list, PL.isi_bl_tuple, PL.isi_int_int, PL.isi_int_bool, PL.isi_int_str, PL.isi_int_list, PL.isi_int_tuple, PL.isi_str_int, PL.isi_str_bool, PL.isi_str_str, PL.isi_str_list, PL.isi_str_tuple, PL.isi_tup_int, PL.isi_tup_bool, PL.isi_tup_str, PL.isi_tup_list, PL.isi_tup_tuple, PL.isi_lst_int, PL.isi_lst_bool, PL.isi_lst_str, PL.isi_lst_list, PL.isi_lst_tuple, PL.pickL, List.filterMap_cons, List.filterMap_nil, true_and, decide_true, decide_false, eq_self, Int.zero_add, decide_eq_true_eq, PL.rowE, PL.rowS, PL.startC, List.length_map, List.map_cons, List.map_nil, List.length_cons, List.length_nil, List.append_nil, List.nil_append, List.cons_append, List.replicate_succ, List.replicate_zero, List.set_cons_zero, List.set_cons_succ, List.getElem?_cons_zero, List.getElem?_cons_succ, Nat.reduceAdd, Nat.reduceSub, if_true, Bool.not_true, Bool.not_false, Bool.false_eq_true, if_false])
  rw [signs_T]
  refine ⟨by omega, by decide, by omega, ?_⟩
  refine for_m (W := fun i env => ∃ (s : CS) (x : C), s = cutC (t.take i) ∧ s.Ok i ∧ env = [C.fz (TD t), C.ow (.lst (s.ps.map TD)), C.ow (.dk (nmD s.ps)), C.ow (.lst (s.rows.map rowD)), C.fz (TD s.w), x]) ⟨.ini, .un, rfl, .ini, rfl⟩ ?_ ?_
  · rintro i c env hc ⟨s, x, hs, ok, rfl⟩
    have hi : i < t.length := (List.getElem?_eq_some_iff.mp hc).1
    have o1 := ok.len; have o2 := ok.le; have o3 := ok.wl
    have es : s.step c = cutC (t.take (i + 1)) := by rw [takeC hc, cutC_snoc, ← hs]
    have ok' := ok.step c
    simp only [TD]
    (try simp only [PL.pSeq, PL.pNext, PL.pSet, PL.pSetO, PL.pRet, PL.pRetN, PL.pIfS, PL.pFor, PL.pWhile, PL.pBrk, PL.pCnt, PL.pDrop, PL.pApp, PL.pAsg, PL.pgN, PL.pFrz, PL.frz, PL.pC, PL.pN, PL.pNo, PL.pBin, PL.negP, PL.pB, PL.pAnd, PL.pOr, PL.pNot, PL.pAndV, PL.pOrV, PL.pNotV, PL.pIf, PL.paNil, PL.paCons, PL.pLst, PL.pTup, PL.pIx, PL.pSl, PL.poNone, PL.poSome, PL.pCall, PL.pCallK, PL.piR1, PL.piR2, PL.piE, PL.pBits, PL.isiP_eq, PL.pLr1, PL.pJoinR, PL.pJoin, PL.pLc_eq, PL.pYes, PL.wipeC, PL.pBor, PL.pBorT, PL.frzs, PL.pSetI, PL.pChainT, PL.isNP, PL.addP_i, PL.addP_s, PL.addP_t, PL.addP_l, PL.catP_l, PL.subP_i, PL.mulP_i, PL.mulP_l, PL.repP_l, PL.mulP_s, PL.fdivP_i, PL.modP_i, PL.powP_i, PL.ltP_i, PL.ltP_s, PL.gtP_i, PL.gtP_s, PL.leP_i, PL.leP_s, PL.geP_i, PL.geP_s, PL.eqP_int, PL.eqP_str, PL.eqP_bl, PL.eqP_lst_lst, PL.eqP_tup_tup, PL.eqP_lst_tup, PL.eqP_tup_lst, PL.neP_int, PL.neP_str, PL.neP_bl, PL.neP_lst_lst, PL.neP_tup_tup, PL.neP_lst_tup, PL.neP_tup_lst, PL.asB_b, PL.asS_s, PL.lenP_lst, PL.itP_lst, PL.ixP_lst, PL.listP_lst_, PL.tupleP_lst_, PL.sumP_lst_, PL.maxP_lst_, PL.minP_lst_, PL.lenP_tup, PL.itP_tup, PL.ixP_tup, PL.listP_tup_, PL.tupleP_tup_, PL.sumP_tup_, PL.maxP_tup_, PL.minP_tup_, PL.lenP_scr, PL.itP_scr, PL.ixP_scr, PL.listP_scr_, PL.tupleP_scr_, PL.sumP_scr_, PL.maxP_scr_, PL.minP_scr_, PL.lenP_str, PL.lenP_dk, PL.itP_str, PL.ixP_str, PL.intP_i, PL.intP_b, PL.rg1_i, PL.rg2_i, PL.lr1_i, PL.lr2_i, PL.maxP_2, PL.maxP_3, PL.minP_2, PL.minP_3, PL.slP_lst, PL.slP_tup, PL.slP_str, PL.slPL_lst, PL.pgTup_t, PL.pgTup_l, PL.pgsCons_c, PL.pgsNil_n, PL.joinRP_l, PL.reprP_i, PL.setP_i, PL.ixE_0, PL.ixE_1, PL.ixE_2, PL.ixE_3, PL.ixE_4, PL.ixE_5, PL.ixE_6, PL.ixE_7, PL.ixE_8, PL.isqrtP_i, PL.reprLP_l, PL.pMkE, PL.pErF, PL.pIsE, PL.pRevS, PL.pRetO, PL.pRetON, PL.divmodP_i, PL.pGet, PL.isi_non_int, PL.isi_non_bool, PL.isi_non_str, PL.isi_non_list, PL.isi_non_tuple, PL.isi_bl_int, PL.isi_bl_bool, PL.isi_bl_str, PL.isi_bl_list, PL.isi_bl_tuple, PL.isi_int_int, PL.isi_int_bool, PL.isi_int_str, PL.isi_int_list, PL.isi_int_tuple, PL.isi_str_int, PL.isi_str_bool, PL.isi_str_str, PL.isi_str_list, PL.isi_str_tuple, PL.isi_tup_int, PL.isi_tup_bool, PL.isi_tup_str, PL.isi_tup_list, PL.isi_tup_tuple, PL.isi_lst_int, PL.isi_lst_bool, PL.isi_lst_str, PL.isi_lst_list, PL.isi_lst_tuple, PL.pickL, List.filterMap_cons, List.filterMap_nil, true_and, decide_true, decide_false, eq_self, Int.zero_add, decide_eq_true_eq, PL.rowE, PL.rowS, PL.startC, List.length_map, List.map_cons, List.map_nil, List.length_cons, List.length_nil, List.append_nil, List.nil_append, List.cons_append, List.replicate_succ, List.replicate_zero, List.set_cons_zero, List.set_cons_succ, List.getElem?_cons_zero, List.getElem?_cons_succ, Nat.reduceAdd, Nat.reduceSub, if_true, Bool.not_true, Bool.not_false, Bool.false_eq_true, if_false])
    rw [T_app, T_len, T_len]
    refine ⟨by simp only [List.length_cons, List.length_nil]; omega, inP_nm ?_⟩
    (try simp only [PL.pSeq, PL.pNext, PL.pSet, PL.pSetO, PL.pRet, PL.pRetN, PL.pIfS, PL.pFor, PL.pWhile, PL.pBrk, PL.pCnt, PL.pDrop, PL.pApp, PL.pAsg, PL.pgN, PL.pFrz, PL.frz, PL.pC, PL.pN, PL.pNo, PL.pBin, PL.negP, PL.pB, PL.pAnd, PL.pOr, PL.pNot, PL.pAndV, PL.pOrV, PL.pNotV, PL.pIf, PL.paNil, PL.paCons, PL.pLst, PL.pTup, PL.pIx, PL.pSl, PL.poNone, PL.poSome, PL.pCall, PL.pCallK, PL.piR1, PL.piR2, PL.piE, PL.pBits, PL.isiP_eq, PL.pLr1, PL.pJoinR, PL.pJoin, PL.pLc_eq, PL.pYes, PL.wipeC, PL.pBor, PL.pBorT, PL.frzs, PL.pSetI, PL.pChainT, PL.isNP, PL.addP_i, PL.addP_s, PL.addP_t, PL.addP_l, PL.catP_l, PL.subP_i, PL.mulP_i, PL.mulP_l, PL.repP_l, PL.mulP_s, PL.fdivP_i, PL.modP_i, PL.powP_i, PL.ltP_i, PL.ltP_s, PL.gtP_i, PL.gtP_s, PL.leP_i, PL.leP_s, PL.geP_i, PL.geP_s, PL.eqP_int, PL.eqP_str, PL.eqP_bl, PL.eqP_lst_lst, PL.eqP_tup_tup, PL.eqP_lst_tup, PL.eqP_tup_lst, PL.neP_int, PL.neP_str, PL.neP_bl, PL.neP_lst_lst, PL.neP_tup_tup, PL.neP_lst_tup, PL.neP_tup_lst, PL.asB_b, PL.asS_s, PL.lenP_lst, PL.itP_lst, PL.ixP_lst, PL.listP_lst_, PL.tupleP_lst_, PL.sumP_lst_, PL.maxP_lst_, PL.minP_lst_, PL.lenP_tup, PL.itP_tup, PL.ixP_tup, PL.listP_tup_, PL.tupleP_tup_, PL.sumP_tup_, PL.maxP_tup_, PL.minP_tup_, PL.lenP_scr, PL.itP_scr, PL.ixP_scr, PL.listP_scr_, PL.tupleP_scr_, PL.sumP_scr_, PL.maxP_scr_, PL.minP_scr_, PL.lenP_str, PL.lenP_dk, PL.itP_str, PL.ixP_str, PL.intP_i, PL.intP_b, PL.rg1_i, PL.rg2_i, PL.lr1_i, PL.lr2_i, PL.maxP_2, PL.maxP_3, PL.minP_2, PL.minP_3, PL.slP_lst, PL.slP_tup, PL.slP_str, PL.slPL_lst, PL.pgTup_t, PL.pgTup_l, PL.pgsCons_c, PL.pgsNil_n, PL.joinRP_l, PL.reprP_i, PL.setP_i, PL.ixE_0, PL.ixE_1, PL.ixE_2, PL.ixE_3, PL.ixE_4, PL.ixE_5, PL.ixE_6, PL.ixE_7, PL.ixE_8, PL.isqrtP_i, PL.reprLP_l, PL.pMkE, PL.pErF, PL.pIsE, PL.pRevS, PL.pRetO, PL.pRetON, PL.divmodP_i, PL.pGet, PL.isi_non_int, PL.isi_non_bool, PL.isi_non_str, PL.isi_non_list, PL.isi_non_tuple, PL.isi_bl_int, PL.isi_bl_bool, PL.isi_bl_str, PL.isi_bl_list, PL.isi_bl_tuple, PL.isi_int_int, PL.isi_int_bool, PL.isi_int_str, PL.isi_int_list, PL.isi_int_tuple, PL.isi_str_int, PL.isi_str_bool, PL.isi_str_str, PL.isi_str_list, PL.isi_str_tuple, PL.isi_tup_int, PL.isi_tup_bool, PL.isi_tup_str, PL.isi_tup_list, PL.isi_tup_tuple, PL.isi_lst_int, PL.isi_lst_bool, PL.isi_lst_str, PL.isi_lst_list, PL.isi_lst_tuple, PL.pickL, List.filterMap_cons, List.filterMap_nil, true_and, decide_true, decide_false, eq_self, Int.zero_add, decide_eq_true_eq, PL.rowE, PL.rowS, PL.startC, List.length_map, List.map_cons, List.map_nil, List.length_cons, List.length_nil, List.append_nil, List.nil_append, List.cons_append, List.replicate_succ, List.replicate_zero, List.set_cons_zero, List.set_cons_succ, List.getElem?_cons_zero, List.getElem?_cons_succ, Nat.reduceAdd, Nat.reduceSub, if_true, Bool.not_true, Bool.not_false, Bool.false_eq_true, if_false])
    by_cases e : s.w ++ [c] ∈ s.ps
    · simp only [decide_eq_true e]
      (try simp only [PL.pSeq, PL.pNext, PL.pSet, PL.pSetO, PL.pRet, PL.pRetN, PL.pIfS, PL.pFor, PL.pWhile, PL.pBrk, PL.pCnt, PL.pDrop, PL.pApp, PL.pAsg, PL.pgN, PL.pFrz, PL.frz, PL.pC, PL.pN, PL.pNo, PL.pBin, PL.negP, PL.pB, PL.pAnd, PL.pOr, PL.pNot, PL.pAndV, PL.pOrV, PL.pNotV, PL.pIf, PL.paNil, PL.paCons, PL.pLst, PL.pTup, PL.pIx, PL.pSl, PL.poNone, PL.poSome, PL.pCall, PL.pCallK, PL.piR1, PL.piR2, PL.piE, PL.pBits, PL.isiP_eq, PL.pLr1, PL.pJoinR, PL.pJoin, PL.pLc_eq, PL.pYes, PL.wipeC, PL.pBor, PL.pBorT, PL.frzs, PL.pSetI, PL.pChainT, PL.isNP, PL.addP_i, PL.addP_s, PL.addP_t, PL.addP_l, PL.catP_l, PL.subP_i, PL.mulP_i, PL.mulP_l, PL.repP_l, PL.mulP_s, PL.fdivP_i, PL.modP_i, PL.powP_i, PL.ltP_i, PL.ltP_s, PL.gtP_i, PL.gtP_s, PL.leP_i, PL.leP_s, PL.geP_i, PL.geP_s, PL.eqP_int, PL.eqP_str, PL.eqP_bl, PL.eqP_lst_lst, PL.eqP_tup_tup, PL.eqP_lst_tup, PL.eqP_tup_lst, PL.neP_int, PL.neP_str, PL.neP_bl, PL.neP_lst_lst, PL.neP_tup_tup, PL.neP_lst_tup, PL.neP_tup_lst, PL.asB_b, PL.asS_s, PL.lenP_lst, PL.itP_lst, PL.ixP_lst, PL.listP_lst_, PL.tupleP_lst_, PL.sumP_lst_, PL.maxP_lst_, PL.minP_lst_, PL.lenP_tup, PL.itP_tup, PL.ixP_tup, PL.listP_tup_, PL.tupleP_tup_, PL.sumP_tup_, PL.maxP_tup_, PL.minP_tup_, PL.lenP_scr, PL.itP_scr, PL.ixP_scr, PL.listP_scr_, PL.tupleP_scr_, PL.sumP_scr_, PL.maxP_scr_, PL.minP_scr_, PL.lenP_str, PL.lenP_dk, PL.itP_str, PL.ixP_str, PL.intP_i, PL.intP_b, PL.rg1_i, PL.rg2_i, PL.lr1_i, PL.lr2_i, PL.maxP_2, PL.maxP_3, PL.minP_2, PL.minP_3, PL.slP_lst, PL.slP_tup, PL.slP_str, PL.slPL_lst, PL.pgTup_t, PL.pgTup_l, PL.pgsCons_c, PL.pgsNil_n, PL.joinRP_l, PL.reprP_i, PL.setP_i, PL.ixE_0, PL.ixE_1, PL.ixE_2, PL.ixE_3, PL.ixE_4, PL.ixE_5, PL.ixE_6, PL.ixE_7, PL.ixE_8, PL.isqrtP_i, PL.reprLP_l, PL.pMkE, PL.pErF, PL.pIsE, PL.pRevS, PL.pRetO, PL.pRetON, PL.divmodP_i, PL.pGet, PL.isi_non_int, PL.isi_non_bool, PL.isi_non_str, PL.isi_non_list, PL.isi_non_tuple, PL.isi_bl_int, PL.isi_bl_bool, PL.isi_bl_str, PL.isi_bl_list, PL.isi_bl_tuple, PL.isi_int_int, PL.isi_int_bool, PL.isi_int_str, PL.isi_int_list, PL.isi_int_tuple, PL.isi_str_int, PL.isi_str_bool, PL.isi_str_str, PL.isi_str_list, PL.isi_str_tuple, PL.isi_tup_int, PL.isi_tup_bool, PL.isi_tup_str, PL.isi_tup_list, PL.isi_tup_tuple, PL.isi_lst_int, PL.isi_lst_bool, PL.isi_lst_str, PL.isi_lst_list, PL.isi_lst_tuple, PL.pickL, List.filterMap_cons, List.filterMap_nil, true_and, decide_true, decide_false, eq_self, Int.zero_add, decide_eq_true_eq, PL.rowE, PL.rowS, PL.startC, List.length_map, List.map_cons, List.map_nil, List.length_cons, List.length_nil, List.append_nil, List.nil_append, List.cons_append, List.replicate_succ, List.replicate_zero, List.set_cons_zero, List.set_cons_succ, List.getElem?_cons_zero, List.getElem?_cons_succ, Nat.reduceAdd, Nat.reduceSub, if_true, Bool.not_true, Bool.not_false, Bool.false_eq_true, if_false])
      refine ⟨by omega, s.step c, C.fz (.str (T [c])), es, ok', ?_⟩
      unfold CS.step
      rw [if_pos e]
    · simp only [decide_eq_false e]
      (try simp only [PL.pSeq, PL.pNext, PL.pSet, PL.pSetO, PL.pRet, PL.pRetN, PL.pIfS, PL.pFor, PL.pWhile, PL.pBrk, PL.pCnt, PL.pDrop, PL.pApp, PL.pAsg, PL.pgN, PL.pFrz, PL.frz, PL.pC, PL.pN, PL.pNo, PL.pBin, PL.negP, PL.pB, PL.pAnd, PL.pOr, PL.pNot, PL.pAndV, PL.pOrV, PL.pNotV, PL.pIf, PL.paNil, PL.paCons, PL.pLst, PL.pTup, PL.pIx, PL.pSl, PL.poNone, PL.poSome, PL.pCall, PL.pCallK, PL.piR1, PL.piR2, PL.piE, PL.pBits, PL.isiP_eq, PL.pLr1, PL.pJoinR, PL.pJoin, PL.pLc_eq, PL.pYes, PL.wipeC, PL.pBor, PL.pBorT, PL.frzs, PL.pSetI, PL.pChainT, PL.isNP, PL.addP_i, PL.addP_s, PL.addP_t, PL.addP_l, PL.catP_l, PL.subP_i, PL.mulP_i, PL.mulP_l, PL.repP_l, PL.mulP_s, PL.fdivP_i, PL.modP_i, PL.powP_i, PL.ltP_i, PL.ltP_s, PL.gtP_i, PL.gtP_s, PL.leP_i, PL.leP_s, PL.geP_i, PL.geP_s, PL.eqP_int, PL.eqP_str, PL.eqP_bl, PL.eqP_lst_lst, PL.eqP_tup_tup, PL.eqP_lst_tup, PL.eqP_tup_lst, PL.neP_int, PL.neP_str, PL.neP_bl, PL.neP_lst_lst, PL.neP_tup_tup, PL.neP_lst_tup, PL.neP_tup_lst, PL.asB_b, PL.asS_s, PL.lenP_lst, PL.itP_lst, PL.ixP_lst, PL.listP_lst_, PL.tupleP_lst_, PL.sumP_lst_, PL.maxP_lst_, PL.minP_lst_, PL.lenP_tup, PL.itP_tup, PL.ixP_tup, PL.listP_tup_, PL.tupleP_tup_, PL.sumP_tup_, PL.maxP_tup_, PL.minP_tup_, PL.lenP_scr, PL.itP_scr, PL.ixP_scr, PL.listP_scr_, PL.tupleP_scr_, PL.sumP_scr_, PL.maxP_scr_, PL.minP_scr_, PL.lenP_str, PL.lenP_dk, PL.itP_str, PL.ixP_str, PL.intP_i, PL.intP_b, PL.rg1_i, PL.rg2_i, PL.lr1_i, PL.lr2_i, PL.maxP_2, PL.maxP_3, PL.minP_2, PL.minP_3, PL.slP_lst, PL.slP_tup, PL.slP_str, PL.slPL_lst, PL.pgTup_t, PL.pgTup_l, PL.pgsCons_c, PL.pgsNil_n, PL.joinRP_l, PL.reprP_i, PL.setP_i, PL.ixE_0, PL.ixE_1, PL.ixE_2, PL.ixE_3, PL.ixE_4, PL.ixE_5, PL.ixE_6, PL.ixE_7, PL.ixE_8, PL.isqrtP_i, PL.reprLP_l, PL.pMkE, PL.pErF, PL.pIsE, PL.pRevS, PL.pRetO, PL.pRetON, PL.divmodP_i, PL.pGet, PL.isi_non_int, PL.isi_non_bool, PL.isi_non_str, PL.isi_non_list, PL.isi_non_tuple, PL.isi_bl_int, PL.isi_bl_bool, PL.isi_bl_str, PL.isi_bl_list, PL.isi_bl_tuple, PL.isi_int_int, PL.isi_int_bool, PL.isi_int_str, PL.isi_int_list, PL.isi_int_tuple, PL.isi_str_int, PL.isi_str_bool, PL.isi_str_str, PL.isi_str_list, PL.isi_str_tuple, PL.isi_tup_int, PL.isi_tup_bool, PL.isi_tup_str, PL.isi_tup_list, PL.isi_tup_tuple, PL.isi_lst_int, PL.isi_lst_bool, PL.isi_lst_str, PL.isi_lst_list, PL.isi_lst_tuple, PL.pickL, List.filterMap_cons, List.filterMap_nil, true_and, decide_true, decide_false, eq_self, Int.zero_add, decide_eq_true_eq, PL.rowE, PL.rowS, PL.startC, List.length_map, List.map_cons, List.map_nil, List.length_cons, List.length_nil, List.append_nil, List.nil_append, List.cons_append, List.replicate_succ, List.replicate_zero, List.set_cons_zero, List.set_cons_succ, List.getElem?_cons_zero, List.getElem?_cons_succ, Nat.reduceAdd, Nat.reduceSub, if_true, Bool.not_true, Bool.not_false, Bool.false_eq_true, if_false])
      refine ixP_nm ok.w ?_
      refine ⟨by omega, by omega, by omega, setP_nm e (by omega) ⟨by omega, by omega, s.step c, C.fz (.str (T [c])), es, ok', ?_⟩⟩
      unfold CS.step
      rw [if_neg e, List.map_append, List.map_append]; rfl
  · rintro env ⟨s, x, hs, ok, rfl⟩
    rw [List.take_length] at hs
    simp only [TD]
    (try simp only [PL.pSeq, PL.pNext, PL.pSet, PL.pSetO, PL.pRet, PL.pRetN, PL.pIfS, PL.pFor, PL.pWhile, PL.pBrk, PL.pCnt, PL.pDrop, PL.pApp, PL.pAsg, PL.pgN, PL.pFrz, PL.frz, PL.pC, PL.pN, PL.pNo, PL.pBin, PL.negP, PL.pB, PL.pAnd, PL.pOr, PL.pNot, PL.pAndV, PL.pOrV, PL.pNotV, PL.pIf, PL.paNil, PL.paCons, PL.pLst, PL.pTup, PL.pIx, PL.pSl, PL.poNone, PL.poSome, PL.pCall, PL.pCallK, PL.piR1, PL.piR2, PL.piE, PL.pBits, PL.isiP_eq, PL.pLr1, PL.pJoinR, PL.pJoin, PL.pLc_eq, PL.pYes, PL.wipeC, PL.pBor, PL.pBorT, PL.frzs, PL.pSetI, PL.pChainT, PL.isNP, PL.addP_i, PL.addP_s, PL.addP_t, PL.addP_l, PL.catP_l, PL.subP_i, PL.mulP_i, PL.mulP_l, PL.repP_l, PL.mulP_s, PL.fdivP_i, PL.modP_i, PL.powP_i, PL.ltP_i, PL.ltP_s, PL.gtP_i, PL.gtP_s, PL.leP_i, PL.leP_s, PL.geP_i, PL.geP_s, PL.eqP_int, PL.eqP_str, PL.eqP_bl, PL.eqP_lst_lst, PL.eqP_tup_tup, PL.eqP_lst_tup, PL.eqP_tup_lst, PL.neP_int, PL.neP_str, PL.neP_bl, PL.neP_lst_lst, PL.neP_tup_tup, PL.neP_lst_tup, PL.neP_tup_lst, PL.asB_b, PL.asS_s, PL.lenP_lst, PL.itP_lst, PL.ixP_lst, PL.listP_lst_, PL.tupleP_lst_, PL.sumP_lst_, PL.maxP_lst_, PL.minP_lst_, PL.lenP_tup, PL.itP_tup, PL.ixP_tup, PL.listP_tup_, PL.tupleP_tup_, PL.sumP_tup_, PL.maxP_tup_, PL.minP_tup_, PL.lenP_scr, PL.itP_scr, PL.ixP_scr, PL.listP_scr_, PL.tupleP_scr_, PL.sumP_scr_, PL.maxP_scr_, PL.minP_scr_, PL.lenP_str, PL.lenP_dk, PL.itP_str, PL.ixP_str, PL.intP_i, PL.intP_b, PL.rg1_i, PL.rg2_i, PL.lr1_i, PL.lr2_i, PL.maxP_2, PL.maxP_3, PL.minP_2, PL.minP_3, PL.slP_lst, PL.slP_tup, PL.slP_str, PL.slPL_lst, PL.pgTup_t, PL.pgTup_l, PL.pgsCons_c, PL.pgsNil_n, PL.joinRP_l, PL.reprP_i, PL.setP_i, PL.ixE_0, PL.ixE_1, PL.ixE_2, PL.ixE_3, PL.ixE_4, PL.ixE_5, PL.ixE_6, PL.ixE_7, PL.ixE_8, PL.isqrtP_i, PL.reprLP_l, PL.pMkE, PL.pErF, PL.pIsE, PL.pRevS, PL.pRetO, PL.pRetON, PL.divmodP_i, PL.pGet, PL.isi_non_int, PL.isi_non_bool, PL.isi_non_str, PL.isi_non_list, PL.isi_non_tuple, PL.isi_bl_int, PL.isi_bl_bool, PL.isi_bl_str, PL.isi_bl_list, PL.isi_bl_tuple, PL.isi_int_int, PL.isi_int_bool, PL.isi_int_str, PL.isi_int_list, PL.isi_int_tuple, PL.isi_str_int, PL.isi_str_bool, PL.isi_str_str, PL.isi_str_list, PL.isi_str_tuple, PL.isi_tup_int, PL.isi_tup_bool, PL.isi_tup_str, PL.isi_tup_list, PL.isi_tup_tuple, PL.isi_lst_int, PL.isi_lst_bool, PL.isi_lst_str, PL.isi_lst_list, PL.isi_lst_tuple, PL.pickL, List.filterMap_cons, List.filterMap_nil, true_and, decide_true, decide_false, eq_self, Int.zero_add, decide_eq_true_eq, PL.rowE, PL.rowS, PL.startC, List.length_map, List.map_cons, List.map_nil, List.length_cons, List.length_nil, List.append_nil, List.nil_append, List.cons_append, List.replicate_succ, List.replicate_zero, List.set_cons_zero, List.set_cons_succ, List.getElem?_cons_zero, List.getElem?_cons_succ, Nat.reduceAdd, Nat.reduceSub, if_true, Bool.not_true, Bool.not_false, Bool.false_eq_true, if_false])
    refine ⟨_, rfl, ixP_nm ok.w ?_⟩
    subst hs
    exact ⟨by omega, q⟩
/-! numbers of a script -/
theorem dg_drop : ∀ (a : Nat) {rs ss : List Int}, Digs rs ss → Digs (rs.drop a) (ss.drop a)
  | 0, _, _, h => h
  | _ + 1, _, _, .nil => .nil
  | a + 1, _, _, .cons _ _ t => dg_drop a t
theorem dg_take : ∀ (a : Nat) {rs ss : List Int}, Digs rs ss → Digs (rs.take a) (ss.take a)
  | 0, _, _, _ => .nil
  | _ + 1, _, _, .nil => .nil
  | a + 1, _, _, .cons h0 h1 t => .cons h0 h1 (dg_take a t)
theorem dg_in8 {rs : List Int} {k : Nat} (h : Digs rs (List.replicate k 100000000)) : rs.length = k ∧ ∀ x ∈ rs, 0 ≤ x ∧ x < 100000000 := by
  have hl := h.length
  rw [List.length_replicate] at hl
  refine ⟨hl, fun x hx => ?_⟩
  obtain ⟨i, hi, rfl⟩ := List.mem_iff_getElem.mp hx
  exact h.at (List.getElem?_eq_getElem hi) (by rw [List.getElem?_replicate, if_pos (by omega)])
def sp_law_big : PSp := fun ds P => ∃ (xs : List Int) (k : Nat) (top : Int), ds = [.lst (xs.map D.int), N k, .int top] ∧ k ≤ xs.length ∧ xs.length ≤ 8 ∧ (∀ x ∈ xs, 0 ≤ x ∧ x < 100000000) ∧ 0 ≤ top ∧ top < 2 ^ 150 ∧ ∀ z : Int, 0 ≤ z → z ≤ top → P (.int z)
theorem len_law_big : ∀ ds P, sp_law_big ds P → ds.length = 3 := by rintro _ _ ⟨_, _, n, rfl, _⟩; rfl
theorem w_law_big : ∀ ds Q, sp_law_big ds Q → b_law_big { nx := fun _ => Q .non, rt := Q } (startC ["parts", "many", "top", "number", "part"] ds) := by
  rintro _ Q ⟨xs, k, top, rfl, hk, hl, hx, t0, t1, q⟩
  simp only [PL.startC, List.map_cons, List.map_nil, List.length_cons, List.length_nil, Nat.reduceAdd, Nat.reduceSub, List.replicate_succ, List.replicate_zero, List.cons_append, List.nil_append, List.append_nil]
  unfold b_law_big
  simp only [show N k = D.int (k : Int) from rfl]
  (try simp only [PL.pSeq, PL.pNext, PL.pSet, PL.pSetO, PL.pRet, PL.pRetN, PL.pIfS, PL.pFor, PL.pWhile, PL.pBrk, PL.pCnt, PL.pDrop, PL.pApp, PL.pAsg, PL.pgN, PL.pFrz, PL.frz, PL.pC, PL.pN, PL.pNo, PL.pBin, PL.negP, PL.pB, PL.pAnd, PL.pOr, PL.pNot, PL.pAndV, PL.pOrV, PL.pNotV, PL.pIf, PL.paNil, PL.paCons, PL.pLst, PL.pTup, PL.pIx, PL.pSl, PL.poNone, PL.poSome, PL.pCall, PL.pCallK, PL.piR1, PL.piR2, PL.piE, PL.pBits, PL.isiP_eq, PL.pLr1, PL.pJoinR, PL.pJoin, PL.pLc_eq, PL.pYes, PL.wipeC, PL.pBor, PL.pBorT, PL.frzs, PL.pSetI, PL.pChainT, PL.isNP, PL.addP_i, PL.addP_s, PL.addP_t, PL.addP_l, PL.catP_l, PL.subP_i, PL.mulP_i, PL.mulP_l, PL.repP_l, PL.mulP_s, PL.fdivP_i, PL.modP_i, PL.powP_i, PL.ltP_i, PL.ltP_s, PL.gtP_i, PL.gtP_s, PL.leP_i, PL.leP_s, PL.geP_i, PL.geP_s, PL.eqP_int, PL.eqP_str, PL.eqP_bl, PL.eqP_lst_lst, PL.eqP_tup_tup, PL.eqP_lst_tup, PL.eqP_tup_lst, PL.neP_int, PL.neP_str, PL.neP_bl, PL.neP_lst_lst, PL.neP_tup_tup, PL.neP_lst_tup, PL.neP_tup_lst, PL.asB_b, PL.asS_s, PL.lenP_lst, PL.itP_lst, PL.ixP_lst, PL.listP_lst_, PL.tupleP_lst_, PL.sumP_lst_, PL.maxP_lst_, PL.minP_lst_, PL.lenP_tup, PL.itP_tup, PL.ixP_tup, PL.listP_tup_, PL.tupleP_tup_, PL.sumP_tup_, PL.maxP_tup_, PL.minP_tup_, PL.lenP_scr, PL.itP_scr, PL.ixP_scr, PL.listP_scr_, PL.tupleP_scr_, PL.sumP_scr_, PL.maxP_scr_, PL.minP_scr_, PL.lenP_str, PL.lenP_dk, PL.itP_str, PL.ixP_str, PL.intP_i, PL.intP_b, PL.rg1_i, PL.rg2_i, PL.lr1_i, PL.lr2_i, PL.maxP_2, PL.maxP_3, PL.minP_2, PL.minP_3, PL.slP_lst, PL.slP_tup, PL.slP_str, PL.slPL_lst, PL.pgTup_t, PL.pgTup_l, PL.pgsCons_c, PL.pgsNil_n, PL.joinRP_l, PL.reprP_i, PL.setP_i, PL.ixE_0, PL.ixE_1, PL.ixE_2, PL.ixE_3, PL.ixE_4, PL.ixE_5, PL.ixE_6, PL.ixE_7, PL.ixE_8, PL.isqrtP_i, PL.reprLP_l, PL.pMkE, PL.pErF, PL.pIsE, PL.pRevS, PL.pRetO, PL.pRetON, PL.divmodP_i, PL.pGet, PL.isi_non_int, PL.isi_non_bool, PL.isi_non_str, PL.isi_non_list, PL.isi_non_tuple, PL.isi_bl_int, PL.isi_bl_bool, PL.isi_bl_str, PL.isi_bl_list, PL.isi_bl_tuple, PL.isi_int_int, PL.isi_int_bool, PL.isi_int_str, PL.isi_int_list, PL.isi_int_tuple, PL.isi_str_int, PL.isi_str_bool, PL.isi_str_str, PL.isi_str_list, PL.isi_str_tuple, PL.isi_tup_int, PL.isi_tup_bool, PL.isi_tup_str, PL.isi_tup_list, PL.isi_tup_tuple, PL.isi_lst_int, PL.isi_lst_bool, PL.isi_lst_str, PL.isi_lst_list, PL.isi_lst_tuple, PL.pickL, List.filterMap_cons, List.filterMap_nil, true_and, decide_true, decide_false, eq_self, Int.zero_add, decide_eq_true_eq, PL.rowE, PL.rowS, PL.startC, List.length_map, List.map_cons, List.map_nil, List.length_cons, List.length_nil, List.append_nil, List.nil_append, List.cons_append, List.replicate_succ, List.replicate_zero, List.set_cons_zero, List.set_cons_succ, List.getElem?_cons_zero, List.getElem?_cons_succ, Nat.reduceAdd, Nat.reduceSub, if_true, Bool.not_true, Bool.not_false, Bool.false_eq_true, if_false])
  rw [cutD_to D.int xs k hk]
  refine for_m (W := fun i env => ∃ (v : Int) (y : C), 0 ≤ v ∧ v < 2 ^ (27 * i) ∧ env = [C.fz (.lst (xs.map D.int)), N' k, C.fz (.int top), C.fz (.int v), y]) ⟨0, .un, by decide, by decide, rfl⟩ ?_ ?_
  · rintro i x env hi ⟨v, y, v0, v1, rfl⟩
    have hxm : x ∈ xs := List.mem_of_mem_take (List.mem_of_getElem? hi)
    have hb := hx x hxm
    have hi8 : i < 8 := by
      have := (List.getElem?_eq_some_iff.mp hi).1
      rw [List.length_take] at this
      omega
    (try simp only [PL.pSeq, PL.pNext, PL.pSet, PL.pSetO, PL.pRet, PL.pRetN, PL.pIfS, PL.pFor, PL.pWhile, PL.pBrk, PL.pCnt, PL.pDrop, PL.pApp, PL.pAsg, PL.pgN, PL.pFrz, PL.frz, PL.pC, PL.pN, PL.pNo, PL.pBin, PL.negP, PL.pB, PL.pAnd, PL.pOr, PL.pNot, PL.pAndV, PL.pOrV, PL.pNotV, PL.pIf, PL.paNil, PL.paCons, PL.pLst, PL.pTup, PL.pIx, PL.pSl, PL.poNone, PL.poSome, PL.pCall, PL.pCallK, PL.piR1, PL.piR2, PL.piE, PL.pBits, PL.isiP_eq, PL.pLr1, PL.pJoinR, PL.pJoin, PL.pLc_eq, PL.pYes, PL.wipeC, PL.pBor, PL.pBorT, PL.frzs, PL.pSetI, PL.pChainT, PL.isNP, PL.addP_i, PL.addP_s, PL.addP_t, PL.addP_l, PL.catP_l, PL.subP_i, PL.mulP_i, PL.mulP_l, PL.repP_l, PL.mulP_s, PL.fdivP_i, PL.modP_i, PL.powP_i, PL.ltP_i, PL.ltP_s, PL.gtP_i, PL.gtP_s, PL.leP_i, PL.leP_s, PL.geP_i, PL.geP_s, PL.eqP_int, PL.eqP_str, PL.eqP_bl, PL.eqP_lst_lst, PL.eqP_tup_tup, PL.eqP_lst_tup, PL.eqP_tup_lst, PL.neP_int, PL.neP_str, PL.neP_bl, PL.neP_lst_lst, PL.neP_tup_tup, PL.neP_lst_tup, PL.neP_tup_lst, PL.asB_b, PL.asS_s, PL.lenP_lst, PL.itP_lst, PL.ixP_lst, PL.listP_lst_, PL.tupleP_lst_, PL.sumP_lst_, PL.maxP_lst_, PL.minP_lst_, PL.lenP_tup, PL.itP_tup, PL.ixP_tup, PL.listP_tup_, PL.tupleP_tup_, PL.sumP_tup_, PL.maxP_tup_, PL.minP_tup_, PL.lenP_scr, PL.itP_scr, PL.ixP_scr, PL.listP_scr_, PL.tupleP_scr_, PL.sumP_scr_, PL.maxP_scr_, PL.minP_scr_, PL.lenP_str, PL.lenP_dk, PL.itP_str, PL.ixP_str, PL.intP_i, PL.intP_b, PL.rg1_i, PL.rg2_i, PL.lr1_i, PL.lr2_i, PL.maxP_2, PL.maxP_3, PL.minP_2, PL.minP_3, PL.slP_lst, PL.slP_tup, PL.slP_str, PL.slPL_lst, PL.pgTup_t, PL.pgTup_l, PL.pgsCons_c, PL.pgsNil_n, PL.joinRP_l, PL.reprP_i, PL.setP_i, PL.ixE_0, PL.ixE_1, PL.ixE_2, PL.ixE_3, PL.ixE_4, PL.ixE_5, PL.ixE_6, PL.ixE_7, PL.ixE_8, PL.isqrtP_i, PL.reprLP_l, PL.pMkE, PL.pErF, PL.pIsE, PL.pRevS, PL.pRetO, PL.pRetON, PL.divmodP_i, PL.pGet, PL.isi_non_int, PL.isi_non_bool, PL.isi_non_str, PL.isi_non_list, PL.isi_non_tuple, PL.isi_bl_int, PL.isi_bl_bool, PL.isi_bl_str, PL.isi_bl_list, PL.isi_bl_tuple, PL.isi_int_int, PL.isi_int_bool, PL.isi_int_str, PL.isi_int_list, PL.isi_int_tuple, PL.isi_str_int, PL.isi_str_bool, PL.isi_str_str, PL.isi_str_list, PL.isi_str_tuple, PL.isi_tup_int, PL.isi_tup_bool, PL.isi_tup_str, PL.isi_tup_list, PL.isi_tup_tuple, PL.isi_lst_int, PL.isi_lst_bool, PL.isi_lst_str, PL.isi_lst_list, PL.isi_lst_tuple, PL.pickL, List.filterMap_cons, List.filterMap_nil, true_and, decide_true, decide_false, eq_self, Int.zero_add, decide_eq_true_eq, PL.rowE, PL.rowS, PL.startC, List.length_map, List.map_cons, List.map_nil, List.length_cons, List.length_nil, List.append_nil, List.nil_append, List.cons_append, List.replicate_succ, List.replicate_zero, List.set_cons_zero, List.set_cons_succ, List.getElem?_cons_zero, List.getElem?_cons_succ, Nat.reduceAdd, Nat.reduceSub, if_true, Bool.not_true, Bool.not_false, Bool.false_eq_true, if_false])
    exact ⟨cmul_pow (27 * i) 27 v0 v1 (by decide) (by decide) (by omega), _, _, by omega, big27 v0 v1 hb.2, rfl⟩
  · rintro env ⟨v, y, v0, v1, rfl⟩
    (try simp only [PL.pSeq, PL.pNext, PL.pSet, PL.pSetO, PL.pRet, PL.pRetN, PL.pIfS, PL.pFor, PL.pWhile, PL.pBrk, PL.pCnt, PL.pDrop, PL.pApp, PL.pAsg, PL.pgN, PL.pFrz, PL.frz, PL.pC, PL.pN, PL.pNo, PL.pBin, PL.negP, PL.pB, PL.pAnd, PL.pOr, PL.pNot, PL.pAndV, PL.pOrV, PL.pNotV, PL.pIf, PL.paNil, PL.paCons, PL.pLst, PL.pTup, PL.pIx, PL.pSl, PL.poNone, PL.poSome, PL.pCall, PL.pCallK, PL.piR1, PL.piR2, PL.piE, PL.pBits, PL.isiP_eq, PL.pLr1, PL.pJoinR, PL.pJoin, PL.pLc_eq, PL.pYes, PL.wipeC, PL.pBor, PL.pBorT, PL.frzs, PL.pSetI, PL.pChainT, PL.isNP, PL.addP_i, PL.addP_s, PL.addP_t, PL.addP_l, PL.catP_l, PL.subP_i, PL.mulP_i, PL.mulP_l, PL.repP_l, PL.mulP_s, PL.fdivP_i, PL.modP_i, PL.powP_i, PL.ltP_i, PL.ltP_s, PL.gtP_i, PL.gtP_s, PL.leP_i, PL.leP_s, PL.geP_i, PL.geP_s, PL.eqP_int, PL.eqP_str, PL.eqP_bl, PL.eqP_lst_lst, PL.eqP_tup_tup, PL.eqP_lst_tup, PL.eqP_tup_lst, PL.neP_int, PL.neP_str, PL.neP_bl, PL.neP_lst_lst, PL.neP_tup_tup, PL.neP_lst_tup, PL.neP_tup_lst, PL.asB_b, PL.asS_s, PL.lenP_lst, PL.itP_lst, PL.ixP_lst, PL.listP_lst_, PL.tupleP_lst_, PL.sumP_lst_, PL.maxP_lst_, PL.minP_lst_, PL.lenP_tup, PL.itP_tup, PL.ixP_tup, PL.listP_tup_, PL.tupleP_tup_, PL.sumP_tup_, PL.maxP_tup_, PL.minP_tup_, PL.lenP_scr, PL.itP_scr, PL.ixP_scr, PL.listP_scr_, PL.tupleP_scr_, PL.sumP_scr_, PL.maxP_scr_, PL.minP_scr_, PL.lenP_str, PL.lenP_dk, PL.itP_str, PL.ixP_str, PL.intP_i, PL.intP_b, PL.rg1_i, PL.rg2_i, PL.lr1_i, PL.lr2_i, PL.maxP_2, PL.maxP_3, PL.minP_2, PL.minP_3, PL.slP_lst, PL.slP_tup, PL.slP_str, PL.slPL_lst, PL.pgTup_t, PL.pgTup_l, PL.pgsCons_c, PL.pgsNil_n, PL.joinRP_l, PL.reprP_i, PL.setP_i, PL.ixE_0, PL.ixE_1, PL.ixE_2, PL.ixE_3, PL.ixE_4, PL.ixE_5, PL.ixE_6, PL.ixE_7, PL.ixE_8, PL.isqrtP_i, PL.reprLP_l, PL.pMkE, PL.pErF, PL.pIsE, PL.pRevS, PL.pRetO, PL.pRetON, PL.divmodP_i, PL.pGet, PL.isi_non_int, PL.isi_non_bool, PL.isi_non_str, PL.isi_non_list, PL.isi_non_tuple, PL.isi_bl_int, PL.isi_bl_bool, PL.isi_bl_str, PL.isi_bl_list, PL.isi_bl_tuple, PL.isi_int_int, PL.isi_int_bool, PL.isi_int_str, PL.isi_int_list, PL.isi_int_tuple, PL.isi_str_int, PL.isi_str_bool, PL.isi_str_str, PL.isi_str_list, PL.isi_str_tuple, PL.isi_tup_int, PL.isi_tup_bool, PL.isi_tup_str, PL.isi_tup_list, PL.isi_tup_tuple, PL.isi_lst_int, PL.isi_lst_bool, PL.isi_lst_str, PL.isi_lst_list, PL.isi_lst_tuple, PL.pickL, List.filterMap_cons, List.filterMap_nil, true_and, decide_true, decide_false, eq_self, Int.zero_add, decide_eq_true_eq, PL.rowE, PL.rowS, PL.startC, List.length_map, List.map_cons, List.map_nil, List.length_cons, List.length_nil, List.append_nil, List.nil_append, List.cons_append, List.replicate_succ, List.replicate_zero, List.set_cons_zero, List.set_cons_succ, List.getElem?_cons_zero, List.getElem?_cons_succ, Nat.reduceAdd, Nat.reduceSub, if_true, Bool.not_true, Bool.not_false, Bool.false_eq_true, if_false])
    have q2 : (2 : Int) ^ 151 = 2 * 2 ^ 150 := p2 150
    refine ⟨by omega, q _ (Int.emod_nonneg _ (by omega)) ?_⟩
    have := Int.emod_lt_of_pos v (show 0 < top + 1 by omega)
    omega
theorem t30 : (1000000000000000000000000000000 : Int) < 2 ^ 150 ∧ (1000000000000000000000000000000 : Int) + 2 < 2 ^ 190 := by decide
def szQ : List Int := [8, 100, 4, 4] ++ List.replicate 4 100000000
def sp_law_asked : PSp := fun ds P => ∃ row : List Int, ds = [.lst (row.map D.int)] ∧ Digs row szQ ∧ ∀ z : Int, 0 ≤ z → z ≤ 1000000000000000000000000000000 → P (.int z)
theorem len_law_asked : ∀ ds P, sp_law_asked ds P → ds.length = 1 := by rintro _ _ ⟨n, rfl, _⟩; rfl
theorem w_law_asked : ∀ ds Q, sp_law_asked ds Q → b_law_asked sp_law_big { nx := fun _ => Q .non, rt := Q } (startC ["row", "top", "turn"] ds) := by
  rintro _ Q ⟨row, rfl, hr, q⟩
  obtain ⟨r0, e0, z0, z1⟩ := hr.get (i := 0) rfl
  obtain ⟨r1, e1, a0, a1⟩ := hr.get (i := 1) rfl
  obtain ⟨r2, e2, b0, b1⟩ := hr.get (i := 2) rfl
  obtain ⟨r3, e3, c0, c1⟩ := hr.get (i := 3) rfl
  obtain ⟨r4, e4, d0, d1⟩ := hr.get (i := 4) rfl
  simp only [PL.startC, List.map_cons, List.map_nil, List.length_cons, List.length_nil, Nat.reduceAdd, Nat.reduceSub, List.replicate_succ, List.replicate_zero, List.cons_append, List.nil_append, List.append_nil]
  unfold b_law_asked
  (try simp only [PL.pSeq, PL.pNext, PL.pSet, PL.pSetO, PL.pRet, PL.pRetN, PL.pIfS, PL.pFor, PL.pWhile, PL.pBrk, PL.pCnt, PL.pDrop, PL.pApp, PL.pAsg, PL.pgN, PL.pFrz, PL.frz, PL.pC, PL.pN, PL.pNo, PL.pBin, PL.negP, PL.pB, PL.pAnd, PL.pOr, PL.pNot, PL.pAndV, PL.pOrV, PL.pNotV, PL.pIf, PL.paNil, PL.paCons, PL.pLst, PL.pTup, PL.pIx, PL.pSl, PL.poNone, PL.poSome, PL.pCall, PL.pCallK, PL.piR1, PL.piR2, PL.piE, PL.pBits, PL.isiP_eq, PL.pLr1, PL.pJoinR, PL.pJoin, PL.pLc_eq, PL.pYes, PL.wipeC, PL.pBor, PL.pBorT, PL.frzs, PL.pSetI, PL.pChainT, PL.isNP, PL.addP_i, PL.addP_s, PL.addP_t, PL.addP_l, PL.catP_l, PL.subP_i, PL.mulP_i, PL.mulP_l, PL.repP_l, PL.mulP_s, PL.fdivP_i, PL.modP_i, PL.powP_i, PL.ltP_i, PL.ltP_s, PL.gtP_i, PL.gtP_s, PL.leP_i, PL.leP_s, PL.geP_i, PL.geP_s, PL.eqP_int, PL.eqP_str, PL.eqP_bl, PL.eqP_lst_lst, PL.eqP_tup_tup, PL.eqP_lst_tup, PL.eqP_tup_lst, PL.neP_int, PL.neP_str, PL.neP_bl, PL.neP_lst_lst, PL.neP_tup_tup, PL.neP_lst_tup, PL.neP_tup_lst, PL.asB_b, PL.asS_s, PL.lenP_lst, PL.itP_lst, PL.ixP_lst, PL.listP_lst_, PL.tupleP_lst_, PL.sumP_lst_, PL.maxP_lst_, PL.minP_lst_, PL.lenP_tup, PL.itP_tup, PL.ixP_tup, PL.listP_tup_, PL.tupleP_tup_, PL.sumP_tup_, PL.maxP_tup_, PL.minP_tup_, PL.lenP_scr, PL.itP_scr, PL.ixP_scr, PL.listP_scr_, PL.tupleP_scr_, PL.sumP_scr_, PL.maxP_scr_, PL.minP_scr_, PL.lenP_str, PL.lenP_dk, PL.itP_str, PL.ixP_str, PL.intP_i, PL.intP_b, PL.rg1_i, PL.rg2_i, PL.lr1_i, PL.lr2_i, PL.maxP_2, PL.maxP_3, PL.minP_2, PL.minP_3, PL.slP_lst, PL.slP_tup, PL.slP_str, PL.slPL_lst, PL.pgTup_t, PL.pgTup_l, PL.pgsCons_c, PL.pgsNil_n, PL.joinRP_l, PL.reprP_i, PL.setP_i, PL.ixE_0, PL.ixE_1, PL.ixE_2, PL.ixE_3, PL.ixE_4, PL.ixE_5, PL.ixE_6, PL.ixE_7, PL.ixE_8, PL.isqrtP_i, PL.reprLP_l, PL.pMkE, PL.pErF, PL.pIsE, PL.pRevS, PL.pRetO, PL.pRetON, PL.divmodP_i, PL.pGet, PL.isi_non_int, PL.isi_non_bool, PL.isi_non_str, PL.isi_non_list, PL.isi_non_tuple, PL.isi_bl_int, PL.isi_bl_bool, PL.isi_bl_str, PL.isi_bl_list, PL.isi_bl_tuple, PL.isi_int_int, PL.isi_int_bool, PL.isi_int_str, PL.isi_int_list, PL.isi_int_tuple, PL.isi_str_int, PL.isi_str_bool, PL.isi_str_str, PL.isi_str_list, PL.isi_str_tuple, PL.isi_tup_int, PL.isi_tup_bool, PL.isi_tup_str, PL.isi_tup_list, PL.isi_tup_tuple, PL.isi_lst_int, PL.isi_lst_bool, PL.isi_lst_str, PL.isi_lst_list, PL.isi_lst_tuple, PL.pickL, List.filterMap_cons, List.filterMap_nil, true_and, decide_true, decide_false, eq_self, Int.zero_add, decide_eq_true_eq, PL.rowE, PL.rowS, PL.startC, List.length_map, List.map_cons, List.map_nil, List.length_cons, List.length_nil, List.append_nil, List.nil_append, List.cons_append, List.replicate_succ, List.replicate_zero, List.set_cons_zero, List.set_cons_succ, List.getElem?_cons_zero, List.getElem?_cons_succ, Nat.reduceAdd, Nat.reduceSub, if_true, Bool.not_true, Bool.not_false, Bool.false_eq_true, if_false, p30])
  refine ⟨_, atI_int D.int 0 rfl e0, ?_⟩
  (try simp only [PL.pSeq, PL.pNext, PL.pSet, PL.pSetO, PL.pRet, PL.pRetN, PL.pIfS, PL.pFor, PL.pWhile, PL.pBrk, PL.pCnt, PL.pDrop, PL.pApp, PL.pAsg, PL.pgN, PL.pFrz, PL.frz, PL.pC, PL.pN, PL.pNo, PL.pBin, PL.negP, PL.pB, PL.pAnd, PL.pOr, PL.pNot, PL.pAndV, PL.pOrV, PL.pNotV, PL.pIf, PL.paNil, PL.paCons, PL.pLst, PL.pTup, PL.pIx, PL.pSl, PL.poNone, PL.poSome, PL.pCall, PL.pCallK, PL.piR1, PL.piR2, PL.piE, PL.pBits, PL.isiP_eq, PL.pLr1, PL.pJoinR, PL.pJoin, PL.pLc_eq, PL.pYes, PL.wipeC, PL.pBor, PL.pBorT, PL.frzs, PL.pSetI, PL.pChainT, PL.isNP, PL.addP_i, PL.addP_s, PL.addP_t, PL.addP_l, PL.catP_l, PL.subP_i, PL.mulP_i, PL.mulP_l, PL.repP_l, PL.mulP_s, PL.fdivP_i, PL.modP_i, PL.powP_i, PL.ltP_i, PL.ltP_s, PL.gtP_i, PL.gtP_s, PL.leP_i, PL.leP_s, PL.geP_i, PL.geP_s, PL.eqP_int, PL.eqP_str, PL.eqP_bl, PL.eqP_lst_lst, PL.eqP_tup_tup, PL.eqP_lst_tup, PL.eqP_tup_lst, PL.neP_int, PL.neP_str, PL.neP_bl, PL.neP_lst_lst, PL.neP_tup_tup, PL.neP_lst_tup, PL.neP_tup_lst, PL.asB_b, PL.asS_s, PL.lenP_lst, PL.itP_lst, PL.ixP_lst, PL.listP_lst_, PL.tupleP_lst_, PL.sumP_lst_, PL.maxP_lst_, PL.minP_lst_, PL.lenP_tup, PL.itP_tup, PL.ixP_tup, PL.listP_tup_, PL.tupleP_tup_, PL.sumP_tup_, PL.maxP_tup_, PL.minP_tup_, PL.lenP_scr, PL.itP_scr, PL.ixP_scr, PL.listP_scr_, PL.tupleP_scr_, PL.sumP_scr_, PL.maxP_scr_, PL.minP_scr_, PL.lenP_str, PL.lenP_dk, PL.itP_str, PL.ixP_str, PL.intP_i, PL.intP_b, PL.rg1_i, PL.rg2_i, PL.lr1_i, PL.lr2_i, PL.maxP_2, PL.maxP_3, PL.minP_2, PL.minP_3, PL.slP_lst, PL.slP_tup, PL.slP_str, PL.slPL_lst, PL.pgTup_t, PL.pgTup_l, PL.pgsCons_c, PL.pgsNil_n, PL.joinRP_l, PL.reprP_i, PL.setP_i, PL.ixE_0, PL.ixE_1, PL.ixE_2, PL.ixE_3, PL.ixE_4, PL.ixE_5, PL.ixE_6, PL.ixE_7, PL.ixE_8, PL.isqrtP_i, PL.reprLP_l, PL.pMkE, PL.pErF, PL.pIsE, PL.pRevS, PL.pRetO, PL.pRetON, PL.divmodP_i, PL.pGet, PL.isi_non_int, PL.isi_non_bool, PL.isi_non_str, PL.isi_non_list, PL.isi_non_tuple, PL.isi_bl_int, PL.isi_bl_bool, PL.isi_bl_str, PL.isi_bl_list, PL.isi_bl_tuple, PL.isi_int_int, PL.isi_int_bool, PL.isi_int_str, PL.isi_int_list, PL.isi_int_tuple, PL.isi_str_int, PL.isi_str_bool, PL.isi_str_str, PL.isi_str_list, PL.isi_str_tuple, PL.isi_tup_int, PL.isi_tup_bool, PL.isi_tup_str, PL.isi_tup_list, PL.isi_tup_tuple, PL.isi_lst_int, PL.isi_lst_bool, PL.isi_lst_str, PL.isi_lst_list, PL.isi_lst_tuple, PL.pickL, List.filterMap_cons, List.filterMap_nil, true_and, decide_true, decide_false, eq_self, Int.zero_add, decide_eq_true_eq, PL.rowE, PL.rowS, PL.startC, List.length_map, List.map_cons, List.map_nil, List.length_cons, List.length_nil, List.append_nil, List.nil_append, List.cons_append, List.replicate_succ, List.replicate_zero, List.set_cons_zero, List.set_cons_succ, List.getElem?_cons_zero, List.getElem?_cons_succ, Nat.reduceAdd, Nat.reduceSub, if_true, Bool.not_true, Bool.not_false, Bool.false_eq_true, if_false])
  split
  · refine ⟨_, atI_int D.int 4 rfl e4, ?_⟩
    (try simp only [PL.pSeq, PL.pNext, PL.pSet, PL.pSetO, PL.pRet, PL.pRetN, PL.pIfS, PL.pFor, PL.pWhile, PL.pBrk, PL.pCnt, PL.pDrop, PL.pApp, PL.pAsg, PL.pgN, PL.pFrz, PL.frz, PL.pC, PL.pN, PL.pNo, PL.pBin, PL.negP, PL.pB, PL.pAnd, PL.pOr, PL.pNot, PL.pAndV, PL.pOrV, PL.pNotV, PL.pIf, PL.paNil, PL.paCons, PL.pLst, PL.pTup, PL.pIx, PL.pSl, PL.poNone, PL.poSome, PL.pCall, PL.pCallK, PL.piR1, PL.piR2, PL.piE, PL.pBits, PL.isiP_eq, PL.pLr1, PL.pJoinR, PL.pJoin, PL.pLc_eq, PL.pYes, PL.wipeC, PL.pBor, PL.pBorT, PL.frzs, PL.pSetI, PL.pChainT, PL.isNP, PL.addP_i, PL.addP_s, PL.addP_t, PL.addP_l, PL.catP_l, PL.subP_i, PL.mulP_i, PL.mulP_l, PL.repP_l, PL.mulP_s, PL.fdivP_i, PL.modP_i, PL.powP_i, PL.ltP_i, PL.ltP_s, PL.gtP_i, PL.gtP_s, PL.leP_i, PL.leP_s, PL.geP_i, PL.geP_s, PL.eqP_int, PL.eqP_str, PL.eqP_bl, PL.eqP_lst_lst, PL.eqP_tup_tup, PL.eqP_lst_tup, PL.eqP_tup_lst, PL.neP_int, PL.neP_str, PL.neP_bl, PL.neP_lst_lst, PL.neP_tup_tup, PL.neP_lst_tup, PL.neP_tup_lst, PL.asB_b, PL.asS_s, PL.lenP_lst, PL.itP_lst, PL.ixP_lst, PL.listP_lst_, PL.tupleP_lst_, PL.sumP_lst_, PL.maxP_lst_, PL.minP_lst_, PL.lenP_tup, PL.itP_tup, PL.ixP_tup, PL.listP_tup_, PL.tupleP_tup_, PL.sumP_tup_, PL.maxP_tup_, PL.minP_tup_, PL.lenP_scr, PL.itP_scr, PL.ixP_scr, PL.listP_scr_, PL.tupleP_scr_, PL.sumP_scr_, PL.maxP_scr_, PL.minP_scr_, PL.lenP_str, PL.lenP_dk, PL.itP_str, PL.ixP_str, PL.intP_i, PL.intP_b, PL.rg1_i, PL.rg2_i, PL.lr1_i, PL.lr2_i, PL.maxP_2, PL.maxP_3, PL.minP_2, PL.minP_3, PL.slP_lst, PL.slP_tup, PL.slP_str, PL.slPL_lst, PL.pgTup_t, PL.pgTup_l, PL.pgsCons_c, PL.pgsNil_n, PL.joinRP_l, PL.reprP_i, PL.setP_i, PL.ixE_0, PL.ixE_1, PL.ixE_2, PL.ixE_3, PL.ixE_4, PL.ixE_5, PL.ixE_6, PL.ixE_7, PL.ixE_8, PL.isqrtP_i, PL.reprLP_l, PL.pMkE, PL.pErF, PL.pIsE, PL.pRevS, PL.pRetO, PL.pRetON, PL.divmodP_i, PL.pGet, PL.isi_non_int, PL.isi_non_bool, PL.isi_non_str, PL.isi_non_list, PL.isi_non_tuple, PL.isi_bl_int, PL.isi_bl_bool, PL.isi_bl_str, PL.isi_bl_list, PL.isi_bl_tuple, PL.isi_int_int, PL.isi_int_bool, PL.isi_int_str, PL.isi_int_list, PL.isi_int_tuple, PL.isi_str_int, PL.isi_str_bool, PL.isi_str_str, PL.isi_str_list, PL.isi_str_tuple, PL.isi_tup_int, PL.isi_tup_bool, PL.isi_tup_str, PL.isi_tup_list, PL.isi_tup_tuple, PL.isi_lst_int, PL.isi_lst_bool, PL.isi_lst_str, PL.isi_lst_list, PL.isi_lst_tuple, PL.pickL, List.filterMap_cons, List.filterMap_nil, true_and, decide_true, decide_false, eq_self, Int.zero_add, decide_eq_true_eq, PL.rowE, PL.rowS, PL.startC, List.length_map, List.map_cons, List.map_nil, List.length_cons, List.length_nil, List.append_nil, List.nil_append, List.cons_append, List.replicate_succ, List.replicate_zero, List.set_cons_zero, List.set_cons_succ, List.getElem?_cons_zero, List.getElem?_cons_succ, Nat.reduceAdd, Nat.reduceSub, if_true, Bool.not_true, Bool.not_false, Bool.false_eq_true, if_false])
    exact ⟨by decide, q _ (by omega) (by omega)⟩
  · refine ⟨_, atI_int D.int 0 rfl e0, ?_⟩
    (try simp only [PL.pSeq, PL.pNext, PL.pSet, PL.pSetO, PL.pRet, PL.pRetN, PL.pIfS, PL.pFor, PL.pWhile, PL.pBrk, PL.pCnt, PL.pDrop, PL.pApp, PL.pAsg, PL.pgN, PL.pFrz, PL.frz, PL.pC, PL.pN, PL.pNo, PL.pBin, PL.negP, PL.pB, PL.pAnd, PL.pOr, PL.pNot, PL.pAndV, PL.pOrV, PL.pNotV, PL.pIf, PL.paNil, PL.paCons, PL.pLst, PL.pTup, PL.pIx, PL.pSl, PL.poNone, PL.poSome, PL.pCall, PL.pCallK, PL.piR1, PL.piR2, PL.piE, PL.pBits, PL.isiP_eq, PL.pLr1, PL.pJoinR, PL.pJoin, PL.pLc_eq, PL.pYes, PL.wipeC, PL.pBor, PL.pBorT, PL.frzs, PL.pSetI, PL.pChainT, PL.isNP, PL.addP_i, PL.addP_s, PL.addP_t, PL.addP_l, PL.catP_l, PL.subP_i, PL.mulP_i, PL.mulP_l, PL.repP_l, PL.mulP_s, PL.fdivP_i, PL.modP_i, PL.powP_i, PL.ltP_i, PL.ltP_s, PL.gtP_i, PL.gtP_s, PL.leP_i, PL.leP_s, PL.geP_i, PL.geP_s, PL.eqP_int, PL.eqP_str, PL.eqP_bl, PL.eqP_lst_lst, PL.eqP_tup_tup, PL.eqP_lst_tup, PL.eqP_tup_lst, PL.neP_int, PL.neP_str, PL.neP_bl, PL.neP_lst_lst, PL.neP_tup_tup, PL.neP_lst_tup, PL.neP_tup_lst, PL.asB_b, PL.asS_s, PL.lenP_lst, PL.itP_lst, PL.ixP_lst, PL.listP_lst_, PL.tupleP_lst_, PL.sumP_lst_, PL.maxP_lst_, PL.minP_lst_, PL.lenP_tup, PL.itP_tup, PL.ixP_tup, PL.listP_tup_, PL.tupleP_tup_, PL.sumP_tup_, PL.maxP_tup_, PL.minP_tup_, PL.lenP_scr, PL.itP_scr, PL.ixP_scr, PL.listP_scr_, PL.tupleP_scr_, PL.sumP_scr_, PL.maxP_scr_, PL.minP_scr_, PL.lenP_str, PL.lenP_dk, PL.itP_str, PL.ixP_str, PL.intP_i, PL.intP_b, PL.rg1_i, PL.rg2_i, PL.lr1_i, PL.lr2_i, PL.maxP_2, PL.maxP_3, PL.minP_2, PL.minP_3, PL.slP_lst, PL.slP_tup, PL.slP_str, PL.slPL_lst, PL.pgTup_t, PL.pgTup_l, PL.pgsCons_c, PL.pgsNil_n, PL.joinRP_l, PL.reprP_i, PL.setP_i, PL.ixE_0, PL.ixE_1, PL.ixE_2, PL.ixE_3, PL.ixE_4, PL.ixE_5, PL.ixE_6, PL.ixE_7, PL.ixE_8, PL.isqrtP_i, PL.reprLP_l, PL.pMkE, PL.pErF, PL.pIsE, PL.pRevS, PL.pRetO, PL.pRetON, PL.divmodP_i, PL.pGet, PL.isi_non_int, PL.isi_non_bool, PL.isi_non_str, PL.isi_non_list, PL.isi_non_tuple, PL.isi_bl_int, PL.isi_bl_bool, PL.isi_bl_str, PL.isi_bl_list, PL.isi_bl_tuple, PL.isi_int_int, PL.isi_int_bool, PL.isi_int_str, PL.isi_int_list, PL.isi_int_tuple, PL.isi_str_int, PL.isi_str_bool, PL.isi_str_str, PL.isi_str_list, PL.isi_str_tuple, PL.isi_tup_int, PL.isi_tup_bool, PL.isi_tup_str, PL.isi_tup_list, PL.isi_tup_tuple, PL.isi_lst_int, PL.isi_lst_bool, PL.isi_lst_str, PL.isi_lst_list, PL.isi_lst_tuple, PL.pickL, List.filterMap_cons, List.filterMap_nil, true_and, decide_true, decide_false, eq_self, Int.zero_add, decide_eq_true_eq, PL.rowE, PL.rowS, PL.startC, List.length_map, List.map_cons, List.map_nil, List.length_cons, List.length_nil, List.append_nil, List.nil_append, List.cons_append, List.replicate_succ, List.replicate_zero, List.set_cons_zero, List.set_cons_succ, List.getElem?_cons_zero, List.getElem?_cons_succ, Nat.reduceAdd, Nat.reduceSub, if_true, Bool.not_true, Bool.not_false, Bool.false_eq_true, if_false])
    split
    · refine ⟨_, atI_int D.int 1 rfl e1, ?_⟩
      (try simp only [PL.pSeq, PL.pNext, PL.pSet, PL.pSetO, PL.pRet, PL.pRetN, PL.pIfS, PL.pFor, PL.pWhile, PL.pBrk, PL.pCnt, PL.pDrop, PL.pApp, PL.pAsg, PL.pgN, PL.pFrz, PL.frz, PL.pC, PL.pN, PL.pNo, PL.pBin, PL.negP, PL.pB, PL.pAnd, PL.pOr, PL.pNot, PL.pAndV, PL.pOrV, PL.pNotV, PL.pIf, PL.paNil, PL.paCons, PL.pLst, PL.pTup, PL.pIx, PL.pSl, PL.poNone, PL.poSome, PL.pCall, PL.pCallK, PL.piR1, PL.piR2, PL.piE, PL.pBits, PL.isiP_eq, PL.pLr1, PL.pJoinR, PL.pJoin, PL.pLc_eq, PL.pYes, PL.wipeC, PL.pBor, PL.pBorT, PL.frzs, PL.pSetI, PL.pChainT, PL.isNP, PL.addP_i, PL.addP_s, PL.addP_t, PL.addP_l, PL.catP_l, PL.subP_i, PL.mulP_i, PL.mulP_l, PL.repP_l, PL.mulP_s, PL.fdivP_i, PL.modP_i, PL.powP_i, PL.ltP_i, PL.ltP_s, PL.gtP_i, PL.gtP_s, PL.leP_i, PL.leP_s, PL.geP_i, PL.geP_s, PL.eqP_int, PL.eqP_str, PL.eqP_bl, PL.eqP_lst_lst, PL.eqP_tup_tup, PL.eqP_lst_tup, PL.eqP_tup_lst, PL.neP_int, PL.neP_str, PL.neP_bl, PL.neP_lst_lst, PL.neP_tup_tup, PL.neP_lst_tup, PL.neP_tup_lst, PL.asB_b, PL.asS_s, PL.lenP_lst, PL.itP_lst, PL.ixP_lst, PL.listP_lst_, PL.tupleP_lst_, PL.sumP_lst_, PL.maxP_lst_, PL.minP_lst_, PL.lenP_tup, PL.itP_tup, PL.ixP_tup, PL.listP_tup_, PL.tupleP_tup_, PL.sumP_tup_, PL.maxP_tup_, PL.minP_tup_, PL.lenP_scr, PL.itP_scr, PL.ixP_scr, PL.listP_scr_, PL.tupleP_scr_, PL.sumP_scr_, PL.maxP_scr_, PL.minP_scr_, PL.lenP_str, PL.lenP_dk, PL.itP_str, PL.ixP_str, PL.intP_i, PL.intP_b, PL.rg1_i, PL.rg2_i, PL.lr1_i, PL.lr2_i, PL.maxP_2, PL.maxP_3, PL.minP_2, PL.minP_3, PL.slP_lst, PL.slP_tup, PL.slP_str, PL.slPL_lst, PL.pgTup_t, PL.pgTup_l, PL.pgsCons_c, PL.pgsNil_n, PL.joinRP_l, PL.reprP_i, PL.setP_i, PL.ixE_0, PL.ixE_1, PL.ixE_2, PL.ixE_3, PL.ixE_4, PL.ixE_5, PL.ixE_6, PL.ixE_7, PL.ixE_8, PL.isqrtP_i, PL.reprLP_l, PL.pMkE, PL.pErF, PL.pIsE, PL.pRevS, PL.pRetO, PL.pRetON, PL.divmodP_i, PL.pGet, PL.isi_non_int, PL.isi_non_bool, PL.isi_non_str, PL.isi_non_list, PL.isi_non_tuple, PL.isi_bl_int, PL.isi_bl_bool, PL.isi_bl_str, PL.isi_bl_list, PL.isi_bl_tuple, PL.isi_int_int, PL.isi_int_bool, PL.isi_int_str, PL.isi_int_list, PL.isi_int_tuple, PL.isi_str_int, PL.isi_str_bool, PL.isi_str_str, PL.isi_str_list, PL.isi_str_tuple, PL.isi_tup_int, PL.isi_tup_bool, PL.isi_tup_str, PL.isi_tup_list, PL.isi_tup_tuple, PL.isi_lst_int, PL.isi_lst_bool, PL.isi_lst_str, PL.isi_lst_list, PL.isi_lst_tuple, PL.pickL, List.filterMap_cons, List.filterMap_nil, true_and, decide_true, decide_false, eq_self, Int.zero_add, decide_eq_true_eq, PL.rowE, PL.rowS, PL.startC, List.length_map, List.map_cons, List.map_nil, List.length_cons, List.length_nil, List.append_nil, List.nil_append, List.cons_append, List.replicate_succ, List.replicate_zero, List.set_cons_zero, List.set_cons_succ, List.getElem?_cons_zero, List.getElem?_cons_succ, Nat.reduceAdd, Nat.reduceSub, if_true, Bool.not_true, Bool.not_false, Bool.false_eq_true, if_false])
      refine ⟨⟨by omega, by omega⟩, ?_⟩
      refine for_r (W := fun i env => ∃ y : C, env = [C.fz (.lst (row.map D.int)), C.fz (.int (2 ^ i)), y]) ⟨.un, rfl⟩ ?_ ?_
      · rintro i env hi ⟨y, rfl⟩
        (try simp only [PL.pSeq, PL.pNext, PL.pSet, PL.pSetO, PL.pRet, PL.pRetN, PL.pIfS, PL.pFor, PL.pWhile, PL.pBrk, PL.pCnt, PL.pDrop, PL.pApp, PL.pAsg, PL.pgN, PL.pFrz, PL.frz, PL.pC, PL.pN, PL.pNo, PL.pBin, PL.negP, PL.pB, PL.pAnd, PL.pOr, PL.pNot, PL.pAndV, PL.pOrV, PL.pNotV, PL.pIf, PL.paNil, PL.paCons, PL.pLst, PL.pTup, PL.pIx, PL.pSl, PL.poNone, PL.poSome, PL.pCall, PL.pCallK, PL.piR1, PL.piR2, PL.piE, PL.pBits, PL.isiP_eq, PL.pLr1, PL.pJoinR, PL.pJoin, PL.pLc_eq, PL.pYes, PL.wipeC, PL.pBor, PL.pBorT, PL.frzs, PL.pSetI, PL.pChainT, PL.isNP, PL.addP_i, PL.addP_s, PL.addP_t, PL.addP_l, PL.catP_l, PL.subP_i, PL.mulP_i, PL.mulP_l, PL.repP_l, PL.mulP_s, PL.fdivP_i, PL.modP_i, PL.powP_i, PL.ltP_i, PL.ltP_s, PL.gtP_i, PL.gtP_s, PL.leP_i, PL.leP_s, PL.geP_i, PL.geP_s, PL.eqP_int, PL.eqP_str, PL.eqP_bl, PL.eqP_lst_lst, PL.eqP_tup_tup, PL.eqP_lst_tup, PL.eqP_tup_lst, PL.neP_int, PL.neP_str, PL.neP_bl, PL.neP_lst_lst, PL.neP_tup_tup, PL.neP_lst_tup, PL.neP_tup_lst, PL.asB_b, PL.asS_s, PL.lenP_lst, PL.itP_lst, PL.ixP_lst, PL.listP_lst_, PL.tupleP_lst_, PL.sumP_lst_, PL.maxP_lst_, PL.minP_lst_, PL.lenP_tup, PL.itP_tup, PL.ixP_tup, PL.listP_tup_, PL.tupleP_tup_, PL.sumP_tup_, PL.maxP_tup_, PL.minP_tup_, PL.lenP_scr, PL.itP_scr, PL.ixP_scr, PL.listP_scr_, PL.tupleP_scr_, PL.sumP_scr_, PL.maxP_scr_, PL.minP_scr_, PL.lenP_str, PL.lenP_dk, PL.itP_str, PL.ixP_str, PL.intP_i, PL.intP_b, PL.rg1_i, PL.rg2_i, PL.lr1_i, PL.lr2_i, PL.maxP_2, PL.maxP_3, PL.minP_2, PL.minP_3, PL.slP_lst, PL.slP_tup, PL.slP_str, PL.slPL_lst, PL.pgTup_t, PL.pgTup_l, PL.pgsCons_c, PL.pgsNil_n, PL.joinRP_l, PL.reprP_i, PL.setP_i, PL.ixE_0, PL.ixE_1, PL.ixE_2, PL.ixE_3, PL.ixE_4, PL.ixE_5, PL.ixE_6, PL.ixE_7, PL.ixE_8, PL.isqrtP_i, PL.reprLP_l, PL.pMkE, PL.pErF, PL.pIsE, PL.pRevS, PL.pRetO, PL.pRetON, PL.divmodP_i, PL.pGet, PL.isi_non_int, PL.isi_non_bool, PL.isi_non_str, PL.isi_non_list, PL.isi_non_tuple, PL.isi_bl_int, PL.isi_bl_bool, PL.isi_bl_str, PL.isi_bl_list, PL.isi_bl_tuple, PL.isi_int_int, PL.isi_int_bool, PL.isi_int_str, PL.isi_int_list, PL.isi_int_tuple, PL.isi_str_int, PL.isi_str_bool, PL.isi_str_str, PL.isi_str_list, PL.isi_str_tuple, PL.isi_tup_int, PL.isi_tup_bool, PL.isi_tup_str, PL.isi_tup_list, PL.isi_tup_tuple, PL.isi_lst_int, PL.isi_lst_bool, PL.isi_lst_str, PL.isi_lst_list, PL.isi_lst_tuple, PL.pickL, List.filterMap_cons, List.filterMap_nil, true_and, decide_true, decide_false, eq_self, Int.zero_add, decide_eq_true_eq, PL.rowE, PL.rowS, PL.startC, List.length_map, List.map_cons, List.map_nil, List.length_cons, List.length_nil, List.append_nil, List.nil_append, List.cons_append, List.replicate_succ, List.replicate_zero, List.set_cons_zero, List.set_cons_succ, List.getElem?_cons_zero, List.getElem?_cons_succ, Nat.reduceAdd, Nat.reduceSub, if_true, Bool.not_true, Bool.not_false, Bool.false_eq_true, if_false])
        rw [← Int.pow_succ]
        have p := p1 i
        exact ⟨cmul_pow (i + 1) 2 (by omega) (by have := p2 i; omega) (by decide) (by decide) (by omega), _, rfl⟩
      · rintro env ⟨y, rfl⟩
        (try simp only [PL.pSeq, PL.pNext, PL.pSet, PL.pSetO, PL.pRet, PL.pRetN, PL.pIfS, PL.pFor, PL.pWhile, PL.pBrk, PL.pCnt, PL.pDrop, PL.pApp, PL.pAsg, PL.pgN, PL.pFrz, PL.frz, PL.pC, PL.pN, PL.pNo, PL.pBin, PL.negP, PL.pB, PL.pAnd, PL.pOr, PL.pNot, PL.pAndV, PL.pOrV, PL.pNotV, PL.pIf, PL.paNil, PL.paCons, PL.pLst, PL.pTup, PL.pIx, PL.pSl, PL.poNone, PL.poSome, PL.pCall, PL.pCallK, PL.piR1, PL.piR2, PL.piE, PL.pBits, PL.isiP_eq, PL.pLr1, PL.pJoinR, PL.pJoin, PL.pLc_eq, PL.pYes, PL.wipeC, PL.pBor, PL.pBorT, PL.frzs, PL.pSetI, PL.pChainT, PL.isNP, PL.addP_i, PL.addP_s, PL.addP_t, PL.addP_l, PL.catP_l, PL.subP_i, PL.mulP_i, PL.mulP_l, PL.repP_l, PL.mulP_s, PL.fdivP_i, PL.modP_i, PL.powP_i, PL.ltP_i, PL.ltP_s, PL.gtP_i, PL.gtP_s, PL.leP_i, PL.leP_s, PL.geP_i, PL.geP_s, PL.eqP_int, PL.eqP_str, PL.eqP_bl, PL.eqP_lst_lst, PL.eqP_tup_tup, PL.eqP_lst_tup, PL.eqP_tup_lst, PL.neP_int, PL.neP_str, PL.neP_bl, PL.neP_lst_lst, PL.neP_tup_tup, PL.neP_lst_tup, PL.neP_tup_lst, PL.asB_b, PL.asS_s, PL.lenP_lst, PL.itP_lst, PL.ixP_lst, PL.listP_lst_, PL.tupleP_lst_, PL.sumP_lst_, PL.maxP_lst_, PL.minP_lst_, PL.lenP_tup, PL.itP_tup, PL.ixP_tup, PL.listP_tup_, PL.tupleP_tup_, PL.sumP_tup_, PL.maxP_tup_, PL.minP_tup_, PL.lenP_scr, PL.itP_scr, PL.ixP_scr, PL.listP_scr_, PL.tupleP_scr_, PL.sumP_scr_, PL.maxP_scr_, PL.minP_scr_, PL.lenP_str, PL.lenP_dk, PL.itP_str, PL.ixP_str, PL.intP_i, PL.intP_b, PL.rg1_i, PL.rg2_i, PL.lr1_i, PL.lr2_i, PL.maxP_2, PL.maxP_3, PL.minP_2, PL.minP_3, PL.slP_lst, PL.slP_tup, PL.slP_str, PL.slPL_lst, PL.pgTup_t, PL.pgTup_l, PL.pgsCons_c, PL.pgsNil_n, PL.joinRP_l, PL.reprP_i, PL.setP_i, PL.ixE_0, PL.ixE_1, PL.ixE_2, PL.ixE_3, PL.ixE_4, PL.ixE_5, PL.ixE_6, PL.ixE_7, PL.ixE_8, PL.isqrtP_i, PL.reprLP_l, PL.pMkE, PL.pErF, PL.pIsE, PL.pRevS, PL.pRetO, PL.pRetON, PL.divmodP_i, PL.pGet, PL.isi_non_int, PL.isi_non_bool, PL.isi_non_str, PL.isi_non_list, PL.isi_non_tuple, PL.isi_bl_int, PL.isi_bl_bool, PL.isi_bl_str, PL.isi_bl_list, PL.isi_bl_tuple, PL.isi_int_int, PL.isi_int_bool, PL.isi_int_str, PL.isi_int_list, PL.isi_int_tuple, PL.isi_str_int, PL.isi_str_bool, PL.isi_str_str, PL.isi_str_list, PL.isi_str_tuple, PL.isi_tup_int, PL.isi_tup_bool, PL.isi_tup_str, PL.isi_tup_list, PL.isi_tup_tuple, PL.isi_lst_int, PL.isi_lst_bool, PL.isi_lst_str, PL.isi_lst_list, PL.isi_lst_tuple, PL.pickL, List.filterMap_cons, List.filterMap_nil, true_and, decide_true, decide_false, eq_self, Int.zero_add, decide_eq_true_eq, PL.rowE, PL.rowS, PL.startC, List.length_map, List.map_cons, List.map_nil, List.length_cons, List.length_nil, List.append_nil, List.nil_append, List.cons_append, List.replicate_succ, List.replicate_zero, List.set_cons_zero, List.set_cons_succ, List.getElem?_cons_zero, List.getElem?_cons_succ, Nat.reduceAdd, Nat.reduceSub, if_true, Bool.not_true, Bool.not_false, Bool.false_eq_true, if_false])
        refine ⟨_, atI_int D.int 2 rfl e2, ?_⟩
        (try simp only [PL.pSeq, PL.pNext, PL.pSet, PL.pSetO, PL.pRet, PL.pRetN, PL.pIfS, PL.pFor, PL.pWhile, PL.pBrk, PL.pCnt, PL.pDrop, PL.pApp, PL.pAsg, PL.pgN, PL.pFrz, PL.frz, PL.pC, PL.pN, PL.pNo, PL.pBin, PL.negP, PL.pB, PL.pAnd, PL.pOr, PL.pNot, PL.pAndV, PL.pOrV, PL.pNotV, PL.pIf, PL.paNil, PL.paCons, PL.pLst, PL.pTup, PL.pIx, PL.pSl, PL.poNone, PL.poSome, PL.pCall, PL.pCallK, PL.piR1, PL.piR2, PL.piE, PL.pBits, PL.isiP_eq, PL.pLr1, PL.pJoinR, PL.pJoin, PL.pLc_eq, PL.pYes, PL.wipeC, PL.pBor, PL.pBorT, PL.frzs, PL.pSetI, PL.pChainT, PL.isNP, PL.addP_i, PL.addP_s, PL.addP_t, PL.addP_l, PL.catP_l, PL.subP_i, PL.mulP_i, PL.mulP_l, PL.repP_l, PL.mulP_s, PL.fdivP_i, PL.modP_i, PL.powP_i, PL.ltP_i, PL.ltP_s, PL.gtP_i, PL.gtP_s, PL.leP_i, PL.leP_s, PL.geP_i, PL.geP_s, PL.eqP_int, PL.eqP_str, PL.eqP_bl, PL.eqP_lst_lst, PL.eqP_tup_tup, PL.eqP_lst_tup, PL.eqP_tup_lst, PL.neP_int, PL.neP_str, PL.neP_bl, PL.neP_lst_lst, PL.neP_tup_tup, PL.neP_lst_tup, PL.neP_tup_lst, PL.asB_b, PL.asS_s, PL.lenP_lst, PL.itP_lst, PL.ixP_lst, PL.listP_lst_, PL.tupleP_lst_, PL.sumP_lst_, PL.maxP_lst_, PL.minP_lst_, PL.lenP_tup, PL.itP_tup, PL.ixP_tup, PL.listP_tup_, PL.tupleP_tup_, PL.sumP_tup_, PL.maxP_tup_, PL.minP_tup_, PL.lenP_scr, PL.itP_scr, PL.ixP_scr, PL.listP_scr_, PL.tupleP_scr_, PL.sumP_scr_, PL.maxP_scr_, PL.minP_scr_, PL.lenP_str, PL.lenP_dk, PL.itP_str, PL.ixP_str, PL.intP_i, PL.intP_b, PL.rg1_i, PL.rg2_i, PL.lr1_i, PL.lr2_i, PL.maxP_2, PL.maxP_3, PL.minP_2, PL.minP_3, PL.slP_lst, PL.slP_tup, PL.slP_str, PL.slPL_lst, PL.pgTup_t, PL.pgTup_l, PL.pgsCons_c, PL.pgsNil_n, PL.joinRP_l, PL.reprP_i, PL.setP_i, PL.ixE_0, PL.ixE_1, PL.ixE_2, PL.ixE_3, PL.ixE_4, PL.ixE_5, PL.ixE_6, PL.ixE_7, PL.ixE_8, PL.isqrtP_i, PL.reprLP_l, PL.pMkE, PL.pErF, PL.pIsE, PL.pRevS, PL.pRetO, PL.pRetON, PL.divmodP_i, PL.pGet, PL.isi_non_int, PL.isi_non_bool, PL.isi_non_str, PL.isi_non_list, PL.isi_non_tuple, PL.isi_bl_int, PL.isi_bl_bool, PL.isi_bl_str, PL.isi_bl_list, PL.isi_bl_tuple, PL.isi_int_int, PL.isi_int_bool, PL.isi_int_str, PL.isi_int_list, PL.isi_int_tuple, PL.isi_str_int, PL.isi_str_bool, PL.isi_str_str, PL.isi_str_list, PL.isi_str_tuple, PL.isi_tup_int, PL.isi_tup_bool, PL.isi_tup_str, PL.isi_tup_list, PL.isi_tup_tuple, PL.isi_lst_int, PL.isi_lst_bool, PL.isi_lst_str, PL.isi_lst_list, PL.isi_lst_tuple, PL.pickL, List.filterMap_cons, List.filterMap_nil, true_and, decide_true, decide_false, eq_self, Int.zero_add, decide_eq_true_eq, PL.rowE, PL.rowS, PL.startC, List.length_map, List.map_cons, List.map_nil, List.length_cons, List.length_nil, List.append_nil, List.nil_append, List.cons_append, List.replicate_succ, List.replicate_zero, List.set_cons_zero, List.set_cons_succ, List.getElem?_cons_zero, List.getElem?_cons_succ, Nat.reduceAdd, Nat.reduceSub, if_true, Bool.not_true, Bool.not_false, Bool.false_eq_true, if_false])
        have h1 : (2 : Int) ^ r1.toNat ≤ 2 ^ 99 := pow2_le (by omega)
        have h2 : (2 : Int) ^ 99 + 4 ≤ 1000000000000000000000000000000 := by decide
        exact q _ (by omega) (by omega)
    · have h8 : Digs ((row.drop 4).take 4) (List.replicate 4 100000000) := dg_take 4 (dg_drop 4 hr)
      have hl : row.length = 8 := hr.length
      rw [show cutD (row.map D.int) (some 4) (some 8) = ((row.drop 4).take 4).map D.int from cutD_map D.int row 4 8 (by omega)]
      refine ⟨_, atI_int D.int 3 rfl e3, ?_⟩
      (try simp only [PL.pSeq, PL.pNext, PL.pSet, PL.pSetO, PL.pRet, PL.pRetN, PL.pIfS, PL.pFor, PL.pWhile, PL.pBrk, PL.pCnt, PL.pDrop, PL.pApp, PL.pAsg, PL.pgN, PL.pFrz, PL.frz, PL.pC, PL.pN, PL.pNo, PL.pBin, PL.negP, PL.pB, PL.pAnd, PL.pOr, PL.pNot, PL.pAndV, PL.pOrV, PL.pNotV, PL.pIf, PL.paNil, PL.paCons, PL.pLst, PL.pTup, PL.pIx, PL.pSl, PL.poNone, PL.poSome, PL.pCall, PL.pCallK, PL.piR1, PL.piR2, PL.piE, PL.pBits, PL.isiP_eq, PL.pLr1, PL.pJoinR, PL.pJoin, PL.pLc_eq, PL.pYes, PL.wipeC, PL.pBor, PL.pBorT, PL.frzs, PL.pSetI, PL.pChainT, PL.isNP, PL.addP_i, PL.addP_s, PL.addP_t, PL.addP_l, PL.catP_l, PL.subP_i, PL.mulP_i, PL.mulP_l, PL.repP_l, PL.mulP_s, PL.fdivP_i, PL.modP_i, PL.powP_i, PL.ltP_i, PL.ltP_s, PL.gtP_i, PL.gtP_s, PL.leP_i, PL.leP_s, PL.geP_i, PL.geP_s, PL.eqP_int, PL.eqP_str, PL.eqP_bl, PL.eqP_lst_lst, PL.eqP_tup_tup, PL.eqP_lst_tup, PL.eqP_tup_lst, PL.neP_int, PL.neP_str, PL.neP_bl, PL.neP_lst_lst, PL.neP_tup_tup, PL.neP_lst_tup, PL.neP_tup_lst, PL.asB_b, PL.asS_s, PL.lenP_lst, PL.itP_lst, PL.ixP_lst, PL.listP_lst_, PL.tupleP_lst_, PL.sumP_lst_, PL.maxP_lst_, PL.minP_lst_, PL.lenP_tup, PL.itP_tup, PL.ixP_tup, PL.listP_tup_, PL.tupleP_tup_, PL.sumP_tup_, PL.maxP_tup_, PL.minP_tup_, PL.lenP_scr, PL.itP_scr, PL.ixP_scr, PL.listP_scr_, PL.tupleP_scr_, PL.sumP_scr_, PL.maxP_scr_, PL.minP_scr_, PL.lenP_str, PL.lenP_dk, PL.itP_str, PL.ixP_str, PL.intP_i, PL.intP_b, PL.rg1_i, PL.rg2_i, PL.lr1_i, PL.lr2_i, PL.maxP_2, PL.maxP_3, PL.minP_2, PL.minP_3, PL.slP_lst, PL.slP_tup, PL.slP_str, PL.slPL_lst, PL.pgTup_t, PL.pgTup_l, PL.pgsCons_c, PL.pgsNil_n, PL.joinRP_l, PL.reprP_i, PL.setP_i, PL.ixE_0, PL.ixE_1, PL.ixE_2, PL.ixE_3, PL.ixE_4, PL.ixE_5, PL.ixE_6, PL.ixE_7, PL.ixE_8, PL.isqrtP_i, PL.reprLP_l, PL.pMkE, PL.pErF, PL.pIsE, PL.pRevS, PL.pRetO, PL.pRetON, PL.divmodP_i, PL.pGet, PL.isi_non_int, PL.isi_non_bool, PL.isi_non_str, PL.isi_non_list, PL.isi_non_tuple, PL.isi_bl_int, PL.isi_bl_bool, PL.isi_bl_str, PL.isi_bl_list, PL.isi_bl_tuple, PL.isi_int_int, PL.isi_int_bool, PL.isi_int_str, PL.isi_int_list, PL.isi_int_tuple, PL.isi_str_int, PL.isi_str_bool, PL.isi_str_str, PL.isi_str_list, PL.isi_str_tuple, PL.isi_tup_int, PL.isi_tup_bool, PL.isi_tup_str, PL.isi_tup_list, PL.isi_tup_tuple, PL.isi_lst_int, PL.isi_lst_bool, PL.isi_lst_str, PL.isi_lst_list, PL.isi_lst_tuple, PL.pickL, List.filterMap_cons, List.filterMap_nil, true_and, decide_true, decide_false, eq_self, Int.zero_add, decide_eq_true_eq, PL.rowE, PL.rowS, PL.startC, List.length_map, List.map_cons, List.map_nil, List.length_cons, List.length_nil, List.append_nil, List.nil_append, List.cons_append, List.replicate_succ, List.replicate_zero, List.set_cons_zero, List.set_cons_succ, List.getElem?_cons_zero, List.getElem?_cons_succ, Nat.reduceAdd, Nat.reduceSub, if_true, Bool.not_true, Bool.not_false, Bool.false_eq_true, if_false, p30])
      refine ⟨cp30, ?_⟩
      refine ⟨(row.drop 4).take 4, (1 + r3).toNat, 1000000000000000000000000000000, ?_, by rw [(dg_in8 h8).1]; omega, by rw [(dg_in8 h8).1]; decide, (dg_in8 h8).2, by decide, t30.1, q⟩
      unfold N
      rw [show (((1 + r3).toNat : Nat) : Int) = 1 + r3 by omega]
/-! the questions -/
def sp_worst_excess : PSp := fun ds P => ∃ (b L g : Nat) (t : Int), ds = [N b, .int t, N L] ∧ 1 ≤ b ∧ b ≤ 6 ∧ 1 ≤ t ∧ t ≤ 3600 ∧ L < 2 ^ 100 ∧ Gs b L g ∧ P (.int (XS b t g))
theorem len_worst_excess : ∀ ds P, sp_worst_excess ds P → ds.length = 3 := by rintro _ _ ⟨_, _, _, n, rfl, _⟩; rfl
theorem rb_of {b L g : Nat} {t : Int} (b1 : 1 ≤ b) (b6 : b ≤ 6) (t1 : 1 ≤ t) (t3 : t ≤ 3600) (hL : L < 2 ^ 110) (hg : Gs b L g) : RB b t g := by
  have h := hg.le b1
  have e : ((2 ^ 110 : Nat) : Int) = 2 ^ 110 := by simp
  have q : (2 : Int) ^ 110 ≤ 2 ^ 190 := pow2_le (by decide)
  exact ⟨by omega, by omega, t1, t3, by omega, by omega⟩
theorem q101 : (2 : Nat) ^ 100 < 2 ^ 110 := by decide
theorem w_worst_excess : ∀ ds Q, sp_worst_excess ds Q → b_worst_excess sp_excess sp_greatest_count { nx := fun _ => Q .non, rt := Q } (startC ["size", "standings", "length"] ds) := by
  rintro _ Q ⟨b, L, g, t, rfl, b1, b6, t1, t3, hL, hg, q⟩
  have q1 := q101
  simp only [PL.startC, List.map_cons, List.map_nil, List.length_cons, List.length_nil, Nat.reduceAdd, Nat.reduceSub, List.replicate_succ, List.replicate_zero, List.cons_append, List.nil_append, List.append_nil]
  unfold b_worst_excess
  (try simp only [PL.pSeq, PL.pNext, PL.pSet, PL.pSetO, PL.pRet, PL.pRetN, PL.pIfS, PL.pFor, PL.pWhile, PL.pBrk, PL.pCnt, PL.pDrop, PL.pApp, PL.pAsg, PL.pgN, PL.pFrz, PL.frz, PL.pC, PL.pN, PL.pNo, PL.pBin, PL.negP, PL.pB, PL.pAnd, PL.pOr, PL.pNot, PL.pAndV, PL.pOrV, PL.pNotV, PL.pIf, PL.paNil, PL.paCons, PL.pLst, PL.pTup, PL.pIx, PL.pSl, PL.poNone, PL.poSome, PL.pCall, PL.pCallK, PL.piR1, PL.piR2, PL.piE, PL.pBits, PL.isiP_eq, PL.pLr1, PL.pJoinR, PL.pJoin, PL.pLc_eq, PL.pYes, PL.wipeC, PL.pBor, PL.pBorT, PL.frzs, PL.pSetI, PL.pChainT, PL.isNP, PL.addP_i, PL.addP_s, PL.addP_t, PL.addP_l, PL.catP_l, PL.subP_i, PL.mulP_i, PL.mulP_l, PL.repP_l, PL.mulP_s, PL.fdivP_i, PL.modP_i, PL.powP_i, PL.ltP_i, PL.ltP_s, PL.gtP_i, PL.gtP_s, PL.leP_i, PL.leP_s, PL.geP_i, PL.geP_s, PL.eqP_int, PL.eqP_str, PL.eqP_bl, PL.eqP_lst_lst, PL.eqP_tup_tup, PL.eqP_lst_tup, PL.eqP_tup_lst, PL.neP_int, PL.neP_str, PL.neP_bl, PL.neP_lst_lst, PL.neP_tup_tup, PL.neP_lst_tup, PL.neP_tup_lst, PL.asB_b, PL.asS_s, PL.lenP_lst, PL.itP_lst, PL.ixP_lst, PL.listP_lst_, PL.tupleP_lst_, PL.sumP_lst_, PL.maxP_lst_, PL.minP_lst_, PL.lenP_tup, PL.itP_tup, PL.ixP_tup, PL.listP_tup_, PL.tupleP_tup_, PL.sumP_tup_, PL.maxP_tup_, PL.minP_tup_, PL.lenP_scr, PL.itP_scr, PL.ixP_scr, PL.listP_scr_, PL.tupleP_scr_, PL.sumP_scr_, PL.maxP_scr_, PL.minP_scr_, PL.lenP_str, PL.lenP_dk, PL.itP_str, PL.ixP_str, PL.intP_i, PL.intP_b, PL.rg1_i, PL.rg2_i, PL.lr1_i, PL.lr2_i, PL.maxP_2, PL.maxP_3, PL.minP_2, PL.minP_3, PL.slP_lst, PL.slP_tup, PL.slP_str, PL.slPL_lst, PL.pgTup_t, PL.pgTup_l, PL.pgsCons_c, PL.pgsNil_n, PL.joinRP_l, PL.reprP_i, PL.setP_i, PL.ixE_0, PL.ixE_1, PL.ixE_2, PL.ixE_3, PL.ixE_4, PL.ixE_5, PL.ixE_6, PL.ixE_7, PL.ixE_8, PL.isqrtP_i, PL.reprLP_l, PL.pMkE, PL.pErF, PL.pIsE, PL.pRevS, PL.pRetO, PL.pRetON, PL.divmodP_i, PL.pGet, PL.isi_non_int, PL.isi_non_bool, PL.isi_non_str, PL.isi_non_list, PL.isi_non_tuple, PL.isi_bl_int, PL.isi_bl_bool, PL.isi_bl_str, PL.isi_bl_list, PL.isi_bl_tuple, PL.isi_int_int, PL.isi_int_bool, PL.isi_int_str, PL.isi_int_list, PL.isi_int_tuple, PL.isi_str_int, PL.isi_str_bool, PL.isi_str_str, PL.isi_str_list, PL.isi_str_tuple, PL.isi_tup_int, PL.isi_tup_bool, PL.isi_tup_str, PL.isi_tup_list, PL.isi_tup_tuple, PL.isi_lst_int, PL.isi_lst_bool, PL.isi_lst_str, PL.isi_lst_list, PL.isi_lst_tuple, PL.pickL, List.filterMap_cons, List.filterMap_nil, true_and, decide_true, decide_false, eq_self, Int.zero_add, decide_eq_true_eq, PL.rowE, PL.rowS, PL.startC, List.length_map, List.map_cons, List.map_nil, List.length_cons, List.length_nil, List.append_nil, List.nil_append, List.cons_append, List.replicate_succ, List.replicate_zero, List.set_cons_zero, List.set_cons_succ, List.getElem?_cons_zero, List.getElem?_cons_succ, Nat.reduceAdd, Nat.reduceSub, if_true, Bool.not_true, Bool.not_false, Bool.false_eq_true, if_false])
  refine ⟨b, L, rfl, b1, b6, by omega, fun m hm => ?_⟩
  obtain rfl := hm.uniq b1 hg
  exact ⟨b, t, m, rfl, rb_of b1 b6 t1 t3 (by omega) hg, q⟩
def sp_law_worst_holds : PSp := fun ds P => ∃ (b L g : Nat) (t : Int), ds = [N b, .int t, N L, .int (XS b t g)] ∧ 1 ≤ b ∧ b ≤ 6 ∧ 1 ≤ t ∧ t ≤ 3600 ∧ L < 2 ^ 100 ∧ Gs b L g ∧ P (.bl true)
theorem len_law_worst_holds : ∀ ds P, sp_law_worst_holds ds P → ds.length = 4 := by rintro _ _ ⟨_, _, _, n, rfl, _⟩; rfl
theorem w_law_worst_holds : ∀ ds Q, sp_law_worst_holds ds Q → b_law_worst_holds sp_worst_excess sp_law_whole { nx := fun _ => Q .non, rt := Q } (startC ["letters", "states", "long", "due", "actual"] ds) := by
  rintro _ Q ⟨b, L, g, t, rfl, b1, b6, t1, t3, hL, hg, q⟩
  simp only [PL.startC, List.map_cons, List.map_nil, List.length_cons, List.length_nil, Nat.reduceAdd, Nat.reduceSub, List.replicate_succ, List.replicate_zero, List.cons_append, List.nil_append, List.append_nil]
  unfold b_law_worst_holds
  (try simp only [PL.pSeq, PL.pNext, PL.pSet, PL.pSetO, PL.pRet, PL.pRetN, PL.pIfS, PL.pFor, PL.pWhile, PL.pBrk, PL.pCnt, PL.pDrop, PL.pApp, PL.pAsg, PL.pgN, PL.pFrz, PL.frz, PL.pC, PL.pN, PL.pNo, PL.pBin, PL.negP, PL.pB, PL.pAnd, PL.pOr, PL.pNot, PL.pAndV, PL.pOrV, PL.pNotV, PL.pIf, PL.paNil, PL.paCons, PL.pLst, PL.pTup, PL.pIx, PL.pSl, PL.poNone, PL.poSome, PL.pCall, PL.pCallK, PL.piR1, PL.piR2, PL.piE, PL.pBits, PL.isiP_eq, PL.pLr1, PL.pJoinR, PL.pJoin, PL.pLc_eq, PL.pYes, PL.wipeC, PL.pBor, PL.pBorT, PL.frzs, PL.pSetI, PL.pChainT, PL.isNP, PL.addP_i, PL.addP_s, PL.addP_t, PL.addP_l, PL.catP_l, PL.subP_i, PL.mulP_i, PL.mulP_l, PL.repP_l, PL.mulP_s, PL.fdivP_i, PL.modP_i, PL.powP_i, PL.ltP_i, PL.ltP_s, PL.gtP_i, PL.gtP_s, PL.leP_i, PL.leP_s, PL.geP_i, PL.geP_s, PL.eqP_int, PL.eqP_str, PL.eqP_bl, PL.eqP_lst_lst, PL.eqP_tup_tup, PL.eqP_lst_tup, PL.eqP_tup_lst, PL.neP_int, PL.neP_str, PL.neP_bl, PL.neP_lst_lst, PL.neP_tup_tup, PL.neP_lst_tup, PL.neP_tup_lst, PL.asB_b, PL.asS_s, PL.lenP_lst, PL.itP_lst, PL.ixP_lst, PL.listP_lst_, PL.tupleP_lst_, PL.sumP_lst_, PL.maxP_lst_, PL.minP_lst_, PL.lenP_tup, PL.itP_tup, PL.ixP_tup, PL.listP_tup_, PL.tupleP_tup_, PL.sumP_tup_, PL.maxP_tup_, PL.minP_tup_, PL.lenP_scr, PL.itP_scr, PL.ixP_scr, PL.listP_scr_, PL.tupleP_scr_, PL.sumP_scr_, PL.maxP_scr_, PL.minP_scr_, PL.lenP_str, PL.lenP_dk, PL.itP_str, PL.ixP_str, PL.intP_i, PL.intP_b, PL.rg1_i, PL.rg2_i, PL.lr1_i, PL.lr2_i, PL.maxP_2, PL.maxP_3, PL.minP_2, PL.minP_3, PL.slP_lst, PL.slP_tup, PL.slP_str, PL.slPL_lst, PL.pgTup_t, PL.pgTup_l, PL.pgsCons_c, PL.pgsNil_n, PL.joinRP_l, PL.reprP_i, PL.setP_i, PL.ixE_0, PL.ixE_1, PL.ixE_2, PL.ixE_3, PL.ixE_4, PL.ixE_5, PL.ixE_6, PL.ixE_7, PL.ixE_8, PL.isqrtP_i, PL.reprLP_l, PL.pMkE, PL.pErF, PL.pIsE, PL.pRevS, PL.pRetO, PL.pRetON, PL.divmodP_i, PL.pGet, PL.isi_non_int, PL.isi_non_bool, PL.isi_non_str, PL.isi_non_list, PL.isi_non_tuple, PL.isi_bl_int, PL.isi_bl_bool, PL.isi_bl_str, PL.isi_bl_list, PL.isi_bl_tuple, PL.isi_int_int, PL.isi_int_bool, PL.isi_int_str, PL.isi_int_list, PL.isi_int_tuple, PL.isi_str_int, PL.isi_str_bool, PL.isi_str_str, PL.isi_str_list, PL.isi_str_tuple, PL.isi_tup_int, PL.isi_tup_bool, PL.isi_tup_str, PL.isi_tup_list, PL.isi_tup_tuple, PL.isi_lst_int, PL.isi_lst_bool, PL.isi_lst_str, PL.isi_lst_list, PL.isi_lst_tuple, PL.pickL, List.filterMap_cons, List.filterMap_nil, true_and, decide_true, decide_false, eq_self, Int.zero_add, decide_eq_true_eq, PL.rowE, PL.rowS, PL.startC, List.length_map, List.map_cons, List.map_nil, List.length_cons, List.length_nil, List.append_nil, List.nil_append, List.cons_append, List.replicate_succ, List.replicate_zero, List.set_cons_zero, List.set_cons_succ, List.getElem?_cons_zero, List.getElem?_cons_succ, Nat.reduceAdd, Nat.reduceSub, if_true, Bool.not_true, Bool.not_false, Bool.false_eq_true, if_false])
  refine ⟨b, L, g, t, rfl, b1, b6, t1, t3, hL, hg, ?_⟩
  (try simp only [PL.pSeq, PL.pNext, PL.pSet, PL.pSetO, PL.pRet, PL.pRetN, PL.pIfS, PL.pFor, PL.pWhile, PL.pBrk, PL.pCnt, PL.pDrop, PL.pApp, PL.pAsg, PL.pgN, PL.pFrz, PL.frz, PL.pC, PL.pN, PL.pNo, PL.pBin, PL.negP, PL.pB, PL.pAnd, PL.pOr, PL.pNot, PL.pAndV, PL.pOrV, PL.pNotV, PL.pIf, PL.paNil, PL.paCons, PL.pLst, PL.pTup, PL.pIx, PL.pSl, PL.poNone, PL.poSome, PL.pCall, PL.pCallK, PL.piR1, PL.piR2, PL.piE, PL.pBits, PL.isiP_eq, PL.pLr1, PL.pJoinR, PL.pJoin, PL.pLc_eq, PL.pYes, PL.wipeC, PL.pBor, PL.pBorT, PL.frzs, PL.pSetI, PL.pChainT, PL.isNP, PL.addP_i, PL.addP_s, PL.addP_t, PL.addP_l, PL.catP_l, PL.subP_i, PL.mulP_i, PL.mulP_l, PL.repP_l, PL.mulP_s, PL.fdivP_i, PL.modP_i, PL.powP_i, PL.ltP_i, PL.ltP_s, PL.gtP_i, PL.gtP_s, PL.leP_i, PL.leP_s, PL.geP_i, PL.geP_s, PL.eqP_int, PL.eqP_str, PL.eqP_bl, PL.eqP_lst_lst, PL.eqP_tup_tup, PL.eqP_lst_tup, PL.eqP_tup_lst, PL.neP_int, PL.neP_str, PL.neP_bl, PL.neP_lst_lst, PL.neP_tup_tup, PL.neP_lst_tup, PL.neP_tup_lst, PL.asB_b, PL.asS_s, PL.lenP_lst, PL.itP_lst, PL.ixP_lst, PL.listP_lst_, PL.tupleP_lst_, PL.sumP_lst_, PL.maxP_lst_, PL.minP_lst_, PL.lenP_tup, PL.itP_tup, PL.ixP_tup, PL.listP_tup_, PL.tupleP_tup_, PL.sumP_tup_, PL.maxP_tup_, PL.minP_tup_, PL.lenP_scr, PL.itP_scr, PL.ixP_scr, PL.listP_scr_, PL.tupleP_scr_, PL.sumP_scr_, PL.maxP_scr_, PL.minP_scr_, PL.lenP_str, PL.lenP_dk, PL.itP_str, PL.ixP_str, PL.intP_i, PL.intP_b, PL.rg1_i, PL.rg2_i, PL.lr1_i, PL.lr2_i, PL.maxP_2, PL.maxP_3, PL.minP_2, PL.minP_3, PL.slP_lst, PL.slP_tup, PL.slP_str, PL.slPL_lst, PL.pgTup_t, PL.pgTup_l, PL.pgsCons_c, PL.pgsNil_n, PL.joinRP_l, PL.reprP_i, PL.setP_i, PL.ixE_0, PL.ixE_1, PL.ixE_2, PL.ixE_3, PL.ixE_4, PL.ixE_5, PL.ixE_6, PL.ixE_7, PL.ixE_8, PL.isqrtP_i, PL.reprLP_l, PL.pMkE, PL.pErF, PL.pIsE, PL.pRevS, PL.pRetO, PL.pRetON, PL.divmodP_i, PL.pGet, PL.isi_non_int, PL.isi_non_bool, PL.isi_non_str, PL.isi_non_list, PL.isi_non_tuple, PL.isi_bl_int, PL.isi_bl_bool, PL.isi_bl_str, PL.isi_bl_list, PL.isi_bl_tuple, PL.isi_int_int, PL.isi_int_bool, PL.isi_int_str, PL.isi_int_list, PL.isi_int_tuple, PL.isi_str_int, PL.isi_str_bool, PL.isi_str_str, PL.isi_str_list, PL.isi_str_tuple, PL.isi_tup_int, PL.isi_tup_bool, PL.isi_tup_str, PL.isi_tup_list, PL.isi_tup_tuple, PL.isi_lst_int, PL.isi_lst_bool, PL.isi_lst_str, PL.isi_lst_list, PL.isi_lst_tuple, PL.pickL, List.filterMap_cons, List.filterMap_nil, true_and, decide_true, decide_false, eq_self, Int.zero_add, decide_eq_true_eq, PL.rowE, PL.rowS, PL.startC, List.length_map, List.map_cons, List.map_nil, List.length_cons, List.length_nil, List.append_nil, List.nil_append, List.cons_append, List.replicate_succ, List.replicate_zero, List.set_cons_zero, List.set_cons_succ, List.getElem?_cons_zero, List.getElem?_cons_succ, Nat.reduceAdd, Nat.reduceSub, if_true, Bool.not_true, Bool.not_false, Bool.false_eq_true, if_false, sp_law_whole_eq])
  refine ⟨b, L, g, t, rfl, b1, b6, t1, t3, hL, hg, ?_⟩
  (try simp only [PL.pSeq, PL.pNext, PL.pSet, PL.pSetO, PL.pRet, PL.pRetN, PL.pIfS, PL.pFor, PL.pWhile, PL.pBrk, PL.pCnt, PL.pDrop, PL.pApp, PL.pAsg, PL.pgN, PL.pFrz, PL.frz, PL.pC, PL.pN, PL.pNo, PL.pBin, PL.negP, PL.pB, PL.pAnd, PL.pOr, PL.pNot, PL.pAndV, PL.pOrV, PL.pNotV, PL.pIf, PL.paNil, PL.paCons, PL.pLst, PL.pTup, PL.pIx, PL.pSl, PL.poNone, PL.poSome, PL.pCall, PL.pCallK, PL.piR1, PL.piR2, PL.piE, PL.pBits, PL.isiP_eq, PL.pLr1, PL.pJoinR, PL.pJoin, PL.pLc_eq, PL.pYes, PL.wipeC, PL.pBor, PL.pBorT, PL.frzs, PL.pSetI, PL.pChainT, PL.isNP, PL.addP_i, PL.addP_s, PL.addP_t, PL.addP_l, PL.catP_l, PL.subP_i, PL.mulP_i, PL.mulP_l, PL.repP_l, PL.mulP_s, PL.fdivP_i, PL.modP_i, PL.powP_i, PL.ltP_i, PL.ltP_s, PL.gtP_i, PL.gtP_s, PL.leP_i, PL.leP_s, PL.geP_i, PL.geP_s, PL.eqP_int, PL.eqP_str, PL.eqP_bl, PL.eqP_lst_lst, PL.eqP_tup_tup, PL.eqP_lst_tup, PL.eqP_tup_lst, PL.neP_int, PL.neP_str, PL.neP_bl, PL.neP_lst_lst, PL.neP_tup_tup, PL.neP_lst_tup, PL.neP_tup_lst, PL.asB_b, PL.asS_s, PL.lenP_lst, PL.itP_lst, PL.ixP_lst, PL.listP_lst_, PL.tupleP_lst_, PL.sumP_lst_, PL.maxP_lst_, PL.minP_lst_, PL.lenP_tup, PL.itP_tup, PL.ixP_tup, PL.listP_tup_, PL.tupleP_tup_, PL.sumP_tup_, PL.maxP_tup_, PL.minP_tup_, PL.lenP_scr, PL.itP_scr, PL.ixP_scr, PL.listP_scr_, PL.tupleP_scr_, PL.sumP_scr_, PL.maxP_scr_, PL.minP_scr_, PL.lenP_str, PL.lenP_dk, PL.itP_str, PL.ixP_str, PL.intP_i, PL.intP_b, PL.rg1_i, PL.rg2_i, PL.lr1_i, PL.lr2_i, PL.maxP_2, PL.maxP_3, PL.minP_2, PL.minP_3, PL.slP_lst, PL.slP_tup, PL.slP_str, PL.slPL_lst, PL.pgTup_t, PL.pgTup_l, PL.pgsCons_c, PL.pgsNil_n, PL.joinRP_l, PL.reprP_i, PL.setP_i, PL.ixE_0, PL.ixE_1, PL.ixE_2, PL.ixE_3, PL.ixE_4, PL.ixE_5, PL.ixE_6, PL.ixE_7, PL.ixE_8, PL.isqrtP_i, PL.reprLP_l, PL.pMkE, PL.pErF, PL.pIsE, PL.pRevS, PL.pRetO, PL.pRetON, PL.divmodP_i, PL.pGet, PL.isi_non_int, PL.isi_non_bool, PL.isi_non_str, PL.isi_non_list, PL.isi_non_tuple, PL.isi_bl_int, PL.isi_bl_bool, PL.isi_bl_str, PL.isi_bl_list, PL.isi_bl_tuple, PL.isi_int_int, PL.isi_int_bool, PL.isi_int_str, PL.isi_int_list, PL.isi_int_tuple, PL.isi_str_int, PL.isi_str_bool, PL.isi_str_str, PL.isi_str_list, PL.isi_str_tuple, PL.isi_tup_int, PL.isi_tup_bool, PL.isi_tup_str, PL.isi_tup_list, PL.isi_tup_tuple, PL.isi_lst_int, PL.isi_lst_bool, PL.isi_lst_str, PL.isi_lst_list, PL.isi_lst_tuple, PL.pickL, List.filterMap_cons, List.filterMap_nil, true_and, decide_true, decide_false, eq_self, Int.zero_add, decide_eq_true_eq, PL.rowE, PL.rowS, PL.startC, List.length_map, List.map_cons, List.map_nil, List.length_cons, List.length_nil, List.append_nil, List.nil_append, List.cons_append, List.replicate_succ, List.replicate_zero, List.set_cons_zero, List.set_cons_succ, List.getElem?_cons_zero, List.getElem?_cons_succ, Nat.reduceAdd, Nat.reduceSub, if_true, Bool.not_true, Bool.not_false, Bool.false_eq_true, if_false])
  exact q
/-! small texts -/
def mx : Nat → Nat
  | 1 => 40
  | 2 => 7
  | 3 => 4
  | 4 => 3
  | 5 => 3
  | _ => 2
def al6 : Wd := [97, 98, 99, 100, 101, 102]
def cuts (b k : Nat) : List Nat := (allN (al6.take b) k).map fun t => (cutC t).rows.length
def gB (b k : Nat) : Nat := (cuts b k).foldl max 0
def okB (b k : Nat) : Bool := (cuts b k).all (fun c => decide (c ≤ gB b k)) && (cuts b k).contains (gB b k) && decide (tot b (gB b k) ≤ k) && decide (k < tot b (gB b k + 1)) && (decide (2 ≤ b) || (cuts b k).all (fun c => decide (c = gB b k))) && decide ((al6.take b).length ^ k ≤ 1000)
theorem all_okB : ([1, 2, 3, 4, 5, 6].all fun b => (List.range (mx b + 1)).all fun k => okB b k) = true := by decide +kernel
theorem okB_at {b k : Nat} (b1 : 1 ≤ b) (b6 : b ≤ 6) (hk : k ≤ mx b) : (∀ c ∈ cuts b k, c ≤ gB b k) ∧ gB b k ∈ cuts b k ∧ Gs b k (gB b k) ∧ (2 ≤ b ∨ ∀ c ∈ cuts b k, c = gB b k) ∧ (al6.take b).length ^ k ≤ 1000 := by
  have h := List.all_eq_true.mp all_okB b (by
    have : b = 1 ∨ b = 2 ∨ b = 3 ∨ b = 4 ∨ b = 5 ∨ b = 6 := by omega
    rcases this with rfl | rfl | rfl | rfl | rfl | rfl <;> decide)
  have h := List.all_eq_true.mp h k (List.mem_range.mpr (by omega))
  unfold okB at h
  simp only [Bool.and_eq_true, Bool.or_eq_true, decide_eq_true_eq, List.all_eq_true, List.contains_iff_mem] at h
  obtain ⟨⟨⟨⟨⟨h1, h2⟩, h3⟩, h4⟩, h5⟩, h6⟩ := h
  exact ⟨h1, h2, ⟨h3, h4⟩, h5, h6⟩
theorem max_of {ns : List Int} {v m : Int} (hv : v ∈ ns) (hle : ∀ y ∈ ns, y ≤ v) (hm : m ∈ ns) (hmx : ∀ y, y ∈ ns → y ≤ m) : m = v := by
  have := hle m hm
  have := hmx v hv
  omega
theorem mx_le {b : Nat} (b1 : 1 ≤ b) (b6 : b ≤ 6) : mx b ≤ 40 ∧ 1 ≤ mx b := by
  have : b = 1 ∨ b = 2 ∨ b = 3 ∨ b = 4 ∨ b = 5 ∨ b = 6 := by omega
  rcases this with rfl | rfl | rfl | rfl | rfl | rfl <;> decide
theorem mx_at {b : Nat} (b1 : 1 ≤ b) (b6 : b ≤ 6) : atI [D.int 40, .int 7, .int 4, .int 3, .int 3, .int 2] ((b : Int) - 1) = some (.int (mx b : Nat)) := by
  have : b = 1 ∨ b = 2 ∨ b = 3 ∨ b = 4 ∨ b = 5 ∨ b = 6 := by omega
  rcases this with rfl | rfl | rfl | rfl | rfl | rfl <;> rfl
theorem al_at {b : Nat} (b1 : 1 ≤ b) (b6 : b ≤ 6) : cutS "abcdef" none (some (b : Int)) = T (al6.take b) := by
  have : b = 1 ∨ b = 2 ∨ b = 3 ∨ b = 4 ∨ b = 5 ∨ b = 6 := by omega
  rcases this with rfl | rfl | rfl | rfl | rfl | rfl <;> decide +kernel
def sp_law_small_hold : PSp := fun ds P => ∃ (b : Nat) (t r0 r1 : Int), ds = [N b, .int t, .lst [.int r0, .int r1]] ∧ 1 ≤ b ∧ b ≤ 6 ∧ 1 ≤ t ∧ t ≤ 3600 ∧ 0 ≤ r1 ∧ r1 ≤ 400 ∧ P (.bl true)
theorem len_law_small_hold : ∀ ds P, sp_law_small_hold ds P → ds.length = 3 := by rintro _ _ ⟨_, _, _, n, rfl, _⟩; rfl
theorem w_law_small_hold : ∀ ds Q, sp_law_small_hold ds Q → b_law_small_hold sp_law_all_texts sp_law_gap sp_law_cut sp_law_worst_holds sp_law_least sp_law_greatest { nx := fun _ => Q .non, rt := Q } (startC ["letters", "states", "row", "short", "gaps", "pieces", "text", "many"] ds) := by
  rintro _ Q ⟨b, t, r0, r1, rfl, b1, b6, t1, t3, a0, a1, q⟩
  have hz : sizeLine = 16777216 := PySem.sizeLine_eq
  obtain ⟨m4, m1⟩ := mx_le b1 b6
  simp only [PL.startC, List.map_cons, List.map_nil, List.length_cons, List.length_nil, Nat.reduceAdd, Nat.reduceSub, List.replicate_succ, List.replicate_zero, List.cons_append, List.nil_append, List.append_nil]
  unfold b_law_small_hold
  simp only [show N b = D.int (b : Int) from rfl]
  (try simp only [PL.pSeq, PL.pNext, PL.pSet, PL.pSetO, PL.pRet, PL.pRetN, PL.pIfS, PL.pFor, PL.pWhile, PL.pBrk, PL.pCnt, PL.pDrop, PL.pApp, PL.pAsg, PL.pgN, PL.pFrz, PL.frz, PL.pC, PL.pN, PL.pNo, PL.pBin, PL.negP, PL.pB, PL.pAnd, PL.pOr, PL.pNot, PL.pAndV, PL.pOrV, PL.pNotV, PL.pIf, PL.paNil, PL.paCons, PL.pLst, PL.pTup, PL.pIx, PL.pSl, PL.poNone, PL.poSome, PL.pCall, PL.pCallK, PL.piR1, PL.piR2, PL.piE, PL.pBits, PL.isiP_eq, PL.pLr1, PL.pJoinR, PL.pJoin, PL.pLc_eq, PL.pYes, PL.wipeC, PL.pBor, PL.pBorT, PL.frzs, PL.pSetI, PL.pChainT, PL.isNP, PL.addP_i, PL.addP_s, PL.addP_t, PL.addP_l, PL.catP_l, PL.subP_i, PL.mulP_i, PL.mulP_l, PL.repP_l, PL.mulP_s, PL.fdivP_i, PL.modP_i, PL.powP_i, PL.ltP_i, PL.ltP_s, PL.gtP_i, PL.gtP_s, PL.leP_i, PL.leP_s, PL.geP_i, PL.geP_s, PL.eqP_int, PL.eqP_str, PL.eqP_bl, PL.eqP_lst_lst, PL.eqP_tup_tup, PL.eqP_lst_tup, PL.eqP_tup_lst, PL.neP_int, PL.neP_str, PL.neP_bl, PL.neP_lst_lst, PL.neP_tup_tup, PL.neP_lst_tup, PL.neP_tup_lst, PL.asB_b, PL.asS_s, PL.lenP_lst, PL.itP_lst, PL.ixP_lst, PL.listP_lst_, PL.tupleP_lst_, PL.sumP_lst_, PL.maxP_lst_, PL.minP_lst_, PL.lenP_tup, PL.itP_tup, PL.ixP_tup, PL.listP_tup_, PL.tupleP_tup_, PL.sumP_tup_, PL.maxP_tup_, PL.minP_tup_, PL.lenP_scr, PL.itP_scr, PL.ixP_scr, PL.listP_scr_, PL.tupleP_scr_, PL.sumP_scr_, PL.maxP_scr_, PL.minP_scr_, PL.lenP_str, PL.lenP_dk, PL.itP_str, PL.ixP_str, PL.intP_i, PL.intP_b, PL.rg1_i, PL.rg2_i, PL.lr1_i, PL.lr2_i, PL.maxP_2, PL.maxP_3, PL.minP_2, PL.minP_3, PL.slP_lst, PL.slP_tup, PL.slP_str, PL.slPL_lst, PL.pgTup_t, PL.pgTup_l, PL.pgsCons_c, PL.pgsNil_n, PL.joinRP_l, PL.reprP_i, PL.setP_i, PL.ixE_0, PL.ixE_1, PL.ixE_2, PL.ixE_3, PL.ixE_4, PL.ixE_5, PL.ixE_6, PL.ixE_7, PL.ixE_8, PL.isqrtP_i, PL.reprLP_l, PL.pMkE, PL.pErF, PL.pIsE, PL.pRevS, PL.pRetO, PL.pRetON, PL.divmodP_i, PL.pGet, PL.isi_non_int, PL.isi_non_bool, PL.isi_non_str, PL.isi_non_list, PL.isi_non_tuple, PL.isi_bl_int, PL.isi_bl_bool, PL.isi_bl_str, PL.isi_bl_list, PL.isi_bl_tuple, PL.isi_int_int, PL.isi_int_bool, PL.isi_int_str, PL.isi_int_list, PL.isi_int_tuple, PL.isi_str_int, PL.isi_str_bool, PL.isi_str_str, PL.isi_str_list, PL.isi_str_tuple, PL.isi_tup_int, PL.isi_tup_bool, PL.isi_tup_str, PL.isi_tup_list, PL.isi_tup_tuple, PL.isi_lst_int, PL.isi_lst_bool, PL.isi_lst_str, PL.isi_lst_list, PL.isi_lst_tuple, PL.pickL, List.filterMap_cons, List.filterMap_nil, true_and, decide_true, decide_false, eq_self, Int.zero_add, decide_eq_true_eq, PL.rowE, PL.rowS, PL.startC, List.length_map, List.map_cons, List.map_nil, List.length_cons, List.length_nil, List.append_nil, List.nil_append, List.cons_append, List.replicate_succ, List.replicate_zero, List.set_cons_zero, List.set_cons_succ, List.getElem?_cons_zero, List.getElem?_cons_succ, Nat.reduceAdd, Nat.reduceSub, if_true, Bool.not_true, Bool.not_false, Bool.false_eq_true, if_false])
  refine ⟨by omega, _, mx_at b1 b6, ?_⟩
  (try simp only [PL.pSeq, PL.pNext, PL.pSet, PL.pSetO, PL.pRet, PL.pRetN, PL.pIfS, PL.pFor, PL.pWhile, PL.pBrk, PL.pCnt, PL.pDrop, PL.pApp, PL.pAsg, PL.pgN, PL.pFrz, PL.frz, PL.pC, PL.pN, PL.pNo, PL.pBin, PL.negP, PL.pB, PL.pAnd, PL.pOr, PL.pNot, PL.pAndV, PL.pOrV, PL.pNotV, PL.pIf, PL.paNil, PL.paCons, PL.pLst, PL.pTup, PL.pIx, PL.pSl, PL.poNone, PL.poSome, PL.pCall, PL.pCallK, PL.piR1, PL.piR2, PL.piE, PL.pBits, PL.isiP_eq, PL.pLr1, PL.pJoinR, PL.pJoin, PL.pLc_eq, PL.pYes, PL.wipeC, PL.pBor, PL.pBorT, PL.frzs, PL.pSetI, PL.pChainT, PL.isNP, PL.addP_i, PL.addP_s, PL.addP_t, PL.addP_l, PL.catP_l, PL.subP_i, PL.mulP_i, PL.mulP_l, PL.repP_l, PL.mulP_s, PL.fdivP_i, PL.modP_i, PL.powP_i, PL.ltP_i, PL.ltP_s, PL.gtP_i, PL.gtP_s, PL.leP_i, PL.leP_s, PL.geP_i, PL.geP_s, PL.eqP_int, PL.eqP_str, PL.eqP_bl, PL.eqP_lst_lst, PL.eqP_tup_tup, PL.eqP_lst_tup, PL.eqP_tup_lst, PL.neP_int, PL.neP_str, PL.neP_bl, PL.neP_lst_lst, PL.neP_tup_tup, PL.neP_lst_tup, PL.neP_tup_lst, PL.asB_b, PL.asS_s, PL.lenP_lst, PL.itP_lst, PL.ixP_lst, PL.listP_lst_, PL.tupleP_lst_, PL.sumP_lst_, PL.maxP_lst_, PL.minP_lst_, PL.lenP_tup, PL.itP_tup, PL.ixP_tup, PL.listP_tup_, PL.tupleP_tup_, PL.sumP_tup_, PL.maxP_tup_, PL.minP_tup_, PL.lenP_scr, PL.itP_scr, PL.ixP_scr, PL.listP_scr_, PL.tupleP_scr_, PL.sumP_scr_, PL.maxP_scr_, PL.minP_scr_, PL.lenP_str, PL.lenP_dk, PL.itP_str, PL.ixP_str, PL.intP_i, PL.intP_b, PL.rg1_i, PL.rg2_i, PL.lr1_i, PL.lr2_i, PL.maxP_2, PL.maxP_3, PL.minP_2, PL.minP_3, PL.slP_lst, PL.slP_tup, PL.slP_str, PL.slPL_lst, PL.pgTup_t, PL.pgTup_l, PL.pgsCons_c, PL.pgsNil_n, PL.joinRP_l, PL.reprP_i, PL.setP_i, PL.ixE_0, PL.ixE_1, PL.ixE_2, PL.ixE_3, PL.ixE_4, PL.ixE_5, PL.ixE_6, PL.ixE_7, PL.ixE_8, PL.isqrtP_i, PL.reprLP_l, PL.pMkE, PL.pErF, PL.pIsE, PL.pRevS, PL.pRetO, PL.pRetON, PL.divmodP_i, PL.pGet, PL.isi_non_int, PL.isi_non_bool, PL.isi_non_str, PL.isi_non_list, PL.isi_non_tuple, PL.isi_bl_int, PL.isi_bl_bool, PL.isi_bl_str, PL.isi_bl_list, PL.isi_bl_tuple, PL.isi_int_int, PL.isi_int_bool, PL.isi_int_str, PL.isi_int_list, PL.isi_int_tuple, PL.isi_str_int, PL.isi_str_bool, PL.isi_str_str, PL.isi_str_list, PL.isi_str_tuple, PL.isi_tup_int, PL.isi_tup_bool, PL.isi_tup_str, PL.isi_tup_list, PL.isi_tup_tuple, PL.isi_lst_int, PL.isi_lst_bool, PL.isi_lst_str, PL.isi_lst_list, PL.isi_lst_tuple, PL.pickL, List.filterMap_cons, List.filterMap_nil, true_and, decide_true, decide_false, eq_self, Int.zero_add, decide_eq_true_eq, PL.rowE, PL.rowS, PL.startC, List.length_map, List.map_cons, List.map_nil, List.length_cons, List.length_nil, List.append_nil, List.nil_append, List.cons_append, List.replicate_succ, List.replicate_zero, List.set_cons_zero, List.set_cons_succ, List.getElem?_cons_zero, List.getElem?_cons_succ, Nat.reduceAdd, Nat.reduceSub, if_true, Bool.not_true, Bool.not_false, Bool.false_eq_true, if_false])
  refine ⟨by omega, ?_⟩
  obtain ⟨k, hk⟩ := Int.eq_ofNat_of_zero_le (Int.emod_nonneg r0 (show (1 : Int) + (mx b : Nat) ≠ 0 by omega))
  have hlt := Int.emod_lt_of_pos r0 (show 0 < (1 : Int) + (mx b : Nat) by omega)
  rw [hk] at hlt ⊢
  obtain ⟨o1, o2, o3, o4, o5⟩ := okB_at b1 b6 (show k ≤ mx b by omega)
  refine ⟨by decide, ?_⟩
  rw [al_at b1 b6]
  refine ⟨al6.take b, k, rfl, by rw [List.length_take]; show 1 ≤ min b 6; omega, by rw [List.length_take]; show min b 6 ≤ 6; omega, by omega, o5, ?_⟩
  (try simp only [PL.pSeq, PL.pNext, PL.pSet, PL.pSetO, PL.pRet, PL.pRetN, PL.pIfS, PL.pFor, PL.pWhile, PL.pBrk, PL.pCnt, PL.pDrop, PL.pApp, PL.pAsg, PL.pgN, PL.pFrz, PL.frz, PL.pC, PL.pN, PL.pNo, PL.pBin, PL.negP, PL.pB, PL.pAnd, PL.pOr, PL.pNot, PL.pAndV, PL.pOrV, PL.pNotV, PL.pIf, PL.paNil, PL.paCons, PL.pLst, PL.pTup, PL.pIx, PL.pSl, PL.poNone, PL.poSome, PL.pCall, PL.pCallK, PL.piR1, PL.piR2, PL.piE, PL.pBits, PL.isiP_eq, PL.pLr1, PL.pJoinR, PL.pJoin, PL.pLc_eq, PL.pYes, PL.wipeC, PL.pBor, PL.pBorT, PL.frzs, PL.pSetI, PL.pChainT, PL.isNP, PL.addP_i, PL.addP_s, PL.addP_t, PL.addP_l, PL.catP_l, PL.subP_i, PL.mulP_i, PL.mulP_l, PL.repP_l, PL.mulP_s, PL.fdivP_i, PL.modP_i, PL.powP_i, PL.ltP_i, PL.ltP_s, PL.gtP_i, PL.gtP_s, PL.leP_i, PL.leP_s, PL.geP_i, PL.geP_s, PL.eqP_int, PL.eqP_str, PL.eqP_bl, PL.eqP_lst_lst, PL.eqP_tup_tup, PL.eqP_lst_tup, PL.eqP_tup_lst, PL.neP_int, PL.neP_str, PL.neP_bl, PL.neP_lst_lst, PL.neP_tup_tup, PL.neP_lst_tup, PL.neP_tup_lst, PL.asB_b, PL.asS_s, PL.lenP_lst, PL.itP_lst, PL.ixP_lst, PL.listP_lst_, PL.tupleP_lst_, PL.sumP_lst_, PL.maxP_lst_, PL.minP_lst_, PL.lenP_tup, PL.itP_tup, PL.ixP_tup, PL.listP_tup_, PL.tupleP_tup_, PL.sumP_tup_, PL.maxP_tup_, PL.minP_tup_, PL.lenP_scr, PL.itP_scr, PL.ixP_scr, PL.listP_scr_, PL.tupleP_scr_, PL.sumP_scr_, PL.maxP_scr_, PL.minP_scr_, PL.lenP_str, PL.lenP_dk, PL.itP_str, PL.ixP_str, PL.intP_i, PL.intP_b, PL.rg1_i, PL.rg2_i, PL.lr1_i, PL.lr2_i, PL.maxP_2, PL.maxP_3, PL.minP_2, PL.minP_3, PL.slP_lst, PL.slP_tup, PL.slP_str, PL.slPL_lst, PL.pgTup_t, PL.pgTup_l, PL.pgsCons_c, PL.pgsNil_n, PL.joinRP_l, PL.reprP_i, PL.setP_i, PL.ixE_0, PL.ixE_1, PL.ixE_2, PL.ixE_3, PL.ixE_4, PL.ixE_5, PL.ixE_6, PL.ixE_7, PL.ixE_8, PL.isqrtP_i, PL.reprLP_l, PL.pMkE, PL.pErF, PL.pIsE, PL.pRevS, PL.pRetO, PL.pRetON, PL.divmodP_i, PL.pGet, PL.isi_non_int, PL.isi_non_bool, PL.isi_non_str, PL.isi_non_list, PL.isi_non_tuple, PL.isi_bl_int, PL.isi_bl_bool, PL.isi_bl_str, PL.isi_bl_list, PL.isi_bl_tuple, PL.isi_int_int, PL.isi_int_bool, PL.isi_int_str, PL.isi_int_list, PL.isi_int_tuple, PL.isi_str_int, PL.isi_str_bool, PL.isi_str_str, PL.isi_str_list, PL.isi_str_tuple, PL.isi_tup_int, PL.isi_tup_bool, PL.isi_tup_str, PL.isi_tup_list, PL.isi_tup_tuple, PL.isi_lst_int, PL.isi_lst_bool, PL.isi_lst_str, PL.isi_lst_list, PL.isi_lst_tuple, PL.pickL, List.filterMap_cons, List.filterMap_nil, true_and, decide_true, decide_false, eq_self, Int.zero_add, decide_eq_true_eq, PL.rowE, PL.rowS, PL.startC, List.length_map, List.map_cons, List.map_nil, List.length_cons, List.length_nil, List.append_nil, List.nil_append, List.cons_append, List.replicate_succ, List.replicate_zero, List.set_cons_zero, List.set_cons_succ, List.getElem?_cons_zero, List.getElem?_cons_succ, Nat.reduceAdd, Nat.reduceSub, if_true, Bool.not_true, Bool.not_false, Bool.false_eq_true, if_false])
  refine lc_m (W := fun i acc => acc = ((cuts b k).take i).map fun c => D.int (XS b t (c : Nat))) rfl ?_ ?_
  · rintro i u acc hu rfl
    have hm := List.mem_of_getElem? hu
    have hul := allN_mem hm
    (try simp only [PL.pSeq, PL.pNext, PL.pSet, PL.pSetO, PL.pRet, PL.pRetN, PL.pIfS, PL.pFor, PL.pWhile, PL.pBrk, PL.pCnt, PL.pDrop, PL.pApp, PL.pAsg, PL.pgN, PL.pFrz, PL.frz, PL.pC, PL.pN, PL.pNo, PL.pBin, PL.negP, PL.pB, PL.pAnd, PL.pOr, PL.pNot, PL.pAndV, PL.pOrV, PL.pNotV, PL.pIf, PL.paNil, PL.paCons, PL.pLst, PL.pTup, PL.pIx, PL.pSl, PL.poNone, PL.poSome, PL.pCall, PL.pCallK, PL.piR1, PL.piR2, PL.piE, PL.pBits, PL.isiP_eq, PL.pLr1, PL.pJoinR, PL.pJoin, PL.pLc_eq, PL.pYes, PL.wipeC, PL.pBor, PL.pBorT, PL.frzs, PL.pSetI, PL.pChainT, PL.isNP, PL.addP_i, PL.addP_s, PL.addP_t, PL.addP_l, PL.catP_l, PL.subP_i, PL.mulP_i, PL.mulP_l, PL.repP_l, PL.mulP_s, PL.fdivP_i, PL.modP_i, PL.powP_i, PL.ltP_i, PL.ltP_s, PL.gtP_i, PL.gtP_s, PL.leP_i, PL.leP_s, PL.geP_i, PL.geP_s, PL.eqP_int, PL.eqP_str, PL.eqP_bl, PL.eqP_lst_lst, PL.eqP_tup_tup, PL.eqP_lst_tup, PL.eqP_tup_lst, PL.neP_int, PL.neP_str, PL.neP_bl, PL.neP_lst_lst, PL.neP_tup_tup, PL.neP_lst_tup, PL.neP_tup_lst, PL.asB_b, PL.asS_s, PL.lenP_lst, PL.itP_lst, PL.ixP_lst, PL.listP_lst_, PL.tupleP_lst_, PL.sumP_lst_, PL.maxP_lst_, PL.minP_lst_, PL.lenP_tup, PL.itP_tup, PL.ixP_tup, PL.listP_tup_, PL.tupleP_tup_, PL.sumP_tup_, PL.maxP_tup_, PL.minP_tup_, PL.lenP_scr, PL.itP_scr, PL.ixP_scr, PL.listP_scr_, PL.tupleP_scr_, PL.sumP_scr_, PL.maxP_scr_, PL.minP_scr_, PL.lenP_str, PL.lenP_dk, PL.itP_str, PL.ixP_str, PL.intP_i, PL.intP_b, PL.rg1_i, PL.rg2_i, PL.lr1_i, PL.lr2_i, PL.maxP_2, PL.maxP_3, PL.minP_2, PL.minP_3, PL.slP_lst, PL.slP_tup, PL.slP_str, PL.slPL_lst, PL.pgTup_t, PL.pgTup_l, PL.pgsCons_c, PL.pgsNil_n, PL.joinRP_l, PL.reprP_i, PL.setP_i, PL.ixE_0, PL.ixE_1, PL.ixE_2, PL.ixE_3, PL.ixE_4, PL.ixE_5, PL.ixE_6, PL.ixE_7, PL.ixE_8, PL.isqrtP_i, PL.reprLP_l, PL.pMkE, PL.pErF, PL.pIsE, PL.pRevS, PL.pRetO, PL.pRetON, PL.divmodP_i, PL.pGet, PL.isi_non_int, PL.isi_non_bool, PL.isi_non_str, PL.isi_non_list, PL.isi_non_tuple, PL.isi_bl_int, PL.isi_bl_bool, PL.isi_bl_str, PL.isi_bl_list, PL.isi_bl_tuple, PL.isi_int_int, PL.isi_int_bool, PL.isi_int_str, PL.isi_int_list, PL.isi_int_tuple, PL.isi_str_int, PL.isi_str_bool, PL.isi_str_str, PL.isi_str_list, PL.isi_str_tuple, PL.isi_tup_int, PL.isi_tup_bool, PL.isi_tup_str, PL.isi_tup_list, PL.isi_tup_tuple, PL.isi_lst_int, PL.isi_lst_bool, PL.isi_lst_str, PL.isi_lst_list, PL.isi_lst_tuple, PL.pickL, List.filterMap_cons, List.filterMap_nil, true_and, decide_true, decide_false, eq_self, Int.zero_add, decide_eq_true_eq, PL.rowE, PL.rowS, PL.startC, List.length_map, List.map_cons, List.map_nil, List.length_cons, List.length_nil, List.append_nil, List.nil_append, List.cons_append, List.replicate_succ, List.replicate_zero, List.set_cons_zero, List.set_cons_succ, List.getElem?_cons_zero, List.getElem?_cons_succ, Nat.reduceAdd, Nat.reduceSub, if_true, Bool.not_true, Bool.not_false, Bool.false_eq_true, if_false])
    refine ⟨u, rfl, by omega, ?_⟩
    unfold cutD3
    (try simp only [PL.pSeq, PL.pNext, PL.pSet, PL.pSetO, PL.pRet, PL.pRetN, PL.pIfS, PL.pFor, PL.pWhile, PL.pBrk, PL.pCnt, PL.pDrop, PL.pApp, PL.pAsg, PL.pgN, PL.pFrz, PL.frz, PL.pC, PL.pN, PL.pNo, PL.pBin, PL.negP, PL.pB, PL.pAnd, PL.pOr, PL.pNot, PL.pAndV, PL.pOrV, PL.pNotV, PL.pIf, PL.paNil, PL.paCons, PL.pLst, PL.pTup, PL.pIx, PL.pSl, PL.poNone, PL.poSome, PL.pCall, PL.pCallK, PL.piR1, PL.piR2, PL.piE, PL.pBits, PL.isiP_eq, PL.pLr1, PL.pJoinR, PL.pJoin, PL.pLc_eq, PL.pYes, PL.wipeC, PL.pBor, PL.pBorT, PL.frzs, PL.pSetI, PL.pChainT, PL.isNP, PL.addP_i, PL.addP_s, PL.addP_t, PL.addP_l, PL.catP_l, PL.subP_i, PL.mulP_i, PL.mulP_l, PL.repP_l, PL.mulP_s, PL.fdivP_i, PL.modP_i, PL.powP_i, PL.ltP_i, PL.ltP_s, PL.gtP_i, PL.gtP_s, PL.leP_i, PL.leP_s, PL.geP_i, PL.geP_s, PL.eqP_int, PL.eqP_str, PL.eqP_bl, PL.eqP_lst_lst, PL.eqP_tup_tup, PL.eqP_lst_tup, PL.eqP_tup_lst, PL.neP_int, PL.neP_str, PL.neP_bl, PL.neP_lst_lst, PL.neP_tup_tup, PL.neP_lst_tup, PL.neP_tup_lst, PL.asB_b, PL.asS_s, PL.lenP_lst, PL.itP_lst, PL.ixP_lst, PL.listP_lst_, PL.tupleP_lst_, PL.sumP_lst_, PL.maxP_lst_, PL.minP_lst_, PL.lenP_tup, PL.itP_tup, PL.ixP_tup, PL.listP_tup_, PL.tupleP_tup_, PL.sumP_tup_, PL.maxP_tup_, PL.minP_tup_, PL.lenP_scr, PL.itP_scr, PL.ixP_scr, PL.listP_scr_, PL.tupleP_scr_, PL.sumP_scr_, PL.maxP_scr_, PL.minP_scr_, PL.lenP_str, PL.lenP_dk, PL.itP_str, PL.ixP_str, PL.intP_i, PL.intP_b, PL.rg1_i, PL.rg2_i, PL.lr1_i, PL.lr2_i, PL.maxP_2, PL.maxP_3, PL.minP_2, PL.minP_3, PL.slP_lst, PL.slP_tup, PL.slP_str, PL.slPL_lst, PL.pgTup_t, PL.pgTup_l, PL.pgsCons_c, PL.pgsNil_n, PL.joinRP_l, PL.reprP_i, PL.setP_i, PL.ixE_0, PL.ixE_1, PL.ixE_2, PL.ixE_3, PL.ixE_4, PL.ixE_5, PL.ixE_6, PL.ixE_7, PL.ixE_8, PL.isqrtP_i, PL.reprLP_l, PL.pMkE, PL.pErF, PL.pIsE, PL.pRevS, PL.pRetO, PL.pRetON, PL.divmodP_i, PL.pGet, PL.isi_non_int, PL.isi_non_bool, PL.isi_non_str, PL.isi_non_list, PL.isi_non_tuple, PL.isi_bl_int, PL.isi_bl_bool, PL.isi_bl_str, PL.isi_bl_list, PL.isi_bl_tuple, PL.isi_int_int, PL.isi_int_bool, PL.isi_int_str, PL.isi_int_list, PL.isi_int_tuple, PL.isi_str_int, PL.isi_str_bool, PL.isi_str_str, PL.isi_str_list, PL.isi_str_tuple, PL.isi_tup_int, PL.isi_tup_bool, PL.isi_tup_str, PL.isi_tup_list, PL.isi_tup_tuple, PL.isi_lst_int, PL.isi_lst_bool, PL.isi_lst_str, PL.isi_lst_list, PL.isi_lst_tuple, PL.pickL, List.filterMap_cons, List.filterMap_nil, true_and, decide_true, decide_false, eq_self, Int.zero_add, decide_eq_true_eq, PL.rowE, PL.rowS, PL.startC, List.length_map, List.map_cons, List.map_nil, List.length_cons, List.length_nil, List.append_nil, List.nil_append, List.cons_append, List.replicate_succ, List.replicate_zero, List.set_cons_zero, List.set_cons_succ, List.getElem?_cons_zero, List.getElem?_cons_succ, Nat.reduceAdd, Nat.reduceSub, if_true, Bool.not_true, Bool.not_false, Bool.false_eq_true, if_false])
    have hcu : (cuts b k)[i]? = some (cutC u).rows.length := by
      show ((allN (al6.take b) k).map _)[i]? = _
      rw [List.getElem?_map, hu]; rfl
    have hcl : (cutC u).rows.length ≤ gB b k := o1 _ (List.mem_of_getElem? hcu)
    have rg := rb_of b1 b6 t1 t3 (show k < 2 ^ 110 by omega) o3
    refine ⟨b, t, ((cutC u).rows.length : Nat), rfl, ⟨rg.s1, rg.s6, t1, t3, by omega, by have := rg.n1; omega⟩, ?_⟩
    refine ⟨?_, ?_⟩
    · have : (cuts b k).length ≤ 1000 := by unfold cuts; rw [List.length_map, allN_len]; exact o5
      rw [List.length_take]; omega
    · rw [takeC hcu, List.map_append]; rfl
  · rintro acc rfl
    have rg := rb_of b1 b6 t1 t3 (show k < 2 ^ 110 by omega) o3
    have up := up190 rg.n1
    have e : (allN (al6.take b) k).length = (cuts b k).length := by unfold cuts; rw [List.length_map]
    rw [e, List.take_length]
    (try simp only [PL.pSeq, PL.pNext, PL.pSet, PL.pSetO, PL.pRet, PL.pRetN, PL.pIfS, PL.pFor, PL.pWhile, PL.pBrk, PL.pCnt, PL.pDrop, PL.pApp, PL.pAsg, PL.pgN, PL.pFrz, PL.frz, PL.pC, PL.pN, PL.pNo, PL.pBin, PL.negP, PL.pB, PL.pAnd, PL.pOr, PL.pNot, PL.pAndV, PL.pOrV, PL.pNotV, PL.pIf, PL.paNil, PL.paCons, PL.pLst, PL.pTup, PL.pIx, PL.pSl, PL.poNone, PL.poSome, PL.pCall, PL.pCallK, PL.piR1, PL.piR2, PL.piE, PL.pBits, PL.isiP_eq, PL.pLr1, PL.pJoinR, PL.pJoin, PL.pLc_eq, PL.pYes, PL.wipeC, PL.pBor, PL.pBorT, PL.frzs, PL.pSetI, PL.pChainT, PL.isNP, PL.addP_i, PL.addP_s, PL.addP_t, PL.addP_l, PL.catP_l, PL.subP_i, PL.mulP_i, PL.mulP_l, PL.repP_l, PL.mulP_s, PL.fdivP_i, PL.modP_i, PL.powP_i, PL.ltP_i, PL.ltP_s, PL.gtP_i, PL.gtP_s, PL.leP_i, PL.leP_s, PL.geP_i, PL.geP_s, PL.eqP_int, PL.eqP_str, PL.eqP_bl, PL.eqP_lst_lst, PL.eqP_tup_tup, PL.eqP_lst_tup, PL.eqP_tup_lst, PL.neP_int, PL.neP_str, PL.neP_bl, PL.neP_lst_lst, PL.neP_tup_tup, PL.neP_lst_tup, PL.neP_tup_lst, PL.asB_b, PL.asS_s, PL.lenP_lst, PL.itP_lst, PL.ixP_lst, PL.listP_lst_, PL.tupleP_lst_, PL.sumP_lst_, PL.maxP_lst_, PL.minP_lst_, PL.lenP_tup, PL.itP_tup, PL.ixP_tup, PL.listP_tup_, PL.tupleP_tup_, PL.sumP_tup_, PL.maxP_tup_, PL.minP_tup_, PL.lenP_scr, PL.itP_scr, PL.ixP_scr, PL.listP_scr_, PL.tupleP_scr_, PL.sumP_scr_, PL.maxP_scr_, PL.minP_scr_, PL.lenP_str, PL.lenP_dk, PL.itP_str, PL.ixP_str, PL.intP_i, PL.intP_b, PL.rg1_i, PL.rg2_i, PL.lr1_i, PL.lr2_i, PL.maxP_2, PL.maxP_3, PL.minP_2, PL.minP_3, PL.slP_lst, PL.slP_tup, PL.slP_str, PL.slPL_lst, PL.pgTup_t, PL.pgTup_l, PL.pgsCons_c, PL.pgsNil_n, PL.joinRP_l, PL.reprP_i, PL.setP_i, PL.ixE_0, PL.ixE_1, PL.ixE_2, PL.ixE_3, PL.ixE_4, PL.ixE_5, PL.ixE_6, PL.ixE_7, PL.ixE_8, PL.isqrtP_i, PL.reprLP_l, PL.pMkE, PL.pErF, PL.pIsE, PL.pRevS, PL.pRetO, PL.pRetON, PL.divmodP_i, PL.pGet, PL.isi_non_int, PL.isi_non_bool, PL.isi_non_str, PL.isi_non_list, PL.isi_non_tuple, PL.isi_bl_int, PL.isi_bl_bool, PL.isi_bl_str, PL.isi_bl_list, PL.isi_bl_tuple, PL.isi_int_int, PL.isi_int_bool, PL.isi_int_str, PL.isi_int_list, PL.isi_int_tuple, PL.isi_str_int, PL.isi_str_bool, PL.isi_str_str, PL.isi_str_list, PL.isi_str_tuple, PL.isi_tup_int, PL.isi_tup_bool, PL.isi_tup_str, PL.isi_tup_list, PL.isi_tup_tuple, PL.isi_lst_int, PL.isi_lst_bool, PL.isi_lst_str, PL.isi_lst_list, PL.isi_lst_tuple, PL.pickL, List.filterMap_cons, List.filterMap_nil, true_and, decide_true, decide_false, eq_self, Int.zero_add, decide_eq_true_eq, PL.rowE, PL.rowS, PL.startC, List.length_map, List.map_cons, List.map_nil, List.length_cons, List.length_nil, List.append_nil, List.nil_append, List.cons_append, List.replicate_succ, List.replicate_zero, List.set_cons_zero, List.set_cons_succ, List.getElem?_cons_zero, List.getElem?_cons_succ, Nat.reduceAdd, Nat.reduceSub, if_true, Bool.not_true, Bool.not_false, Bool.false_eq_true, if_false])
    have em : (cuts b k).map (fun c => D.int (XS b t (c : Nat))) = ((cuts b k).map fun c => XS b t (c : Nat)).map D.int := by rw [List.map_map]; rfl
    refine ⟨_, (cuts b k).map fun c => XS b t (c : Nat), rfl, by rw [em, intsOf_map], ?_, fun m hm hmx => ?_⟩
    · rw [List.length_map]; exact List.length_pos_of_mem o2
    obtain rfl : m = XS b t (gB b k : Nat) := by
      refine max_of (List.mem_map.mpr ⟨_, o2, rfl⟩) (fun y hy => ?_) hm hmx
      obtain ⟨c, hc, rfl⟩ := List.mem_map.mp hy
      rcases o4 with b2 | o4
      · exact XS_le (by omega) t1 (by omega) (by omega) (by have := o1 c hc; omega)
      · rw [o4 c hc]; exact Int.le_refl _
    refine ⟨b, k, gB b k, t, rfl, b1, b6, t1, t3, by omega, o3, ?_⟩
    (try simp only [PL.pSeq, PL.pNext, PL.pSet, PL.pSetO, PL.pRet, PL.pRetN, PL.pIfS, PL.pFor, PL.pWhile, PL.pBrk, PL.pCnt, PL.pDrop, PL.pApp, PL.pAsg, PL.pgN, PL.pFrz, PL.frz, PL.pC, PL.pN, PL.pNo, PL.pBin, PL.negP, PL.pB, PL.pAnd, PL.pOr, PL.pNot, PL.pAndV, PL.pOrV, PL.pNotV, PL.pIf, PL.paNil, PL.paCons, PL.pLst, PL.pTup, PL.pIx, PL.pSl, PL.poNone, PL.poSome, PL.pCall, PL.pCallK, PL.piR1, PL.piR2, PL.piE, PL.pBits, PL.isiP_eq, PL.pLr1, PL.pJoinR, PL.pJoin, PL.pLc_eq, PL.pYes, PL.wipeC, PL.pBor, PL.pBorT, PL.frzs, PL.pSetI, PL.pChainT, PL.isNP, PL.addP_i, PL.addP_s, PL.addP_t, PL.addP_l, PL.catP_l, PL.subP_i, PL.mulP_i, PL.mulP_l, PL.repP_l, PL.mulP_s, PL.fdivP_i, PL.modP_i, PL.powP_i, PL.ltP_i, PL.ltP_s, PL.gtP_i, PL.gtP_s, PL.leP_i, PL.leP_s, PL.geP_i, PL.geP_s, PL.eqP_int, PL.eqP_str, PL.eqP_bl, PL.eqP_lst_lst, PL.eqP_tup_tup, PL.eqP_lst_tup, PL.eqP_tup_lst, PL.neP_int, PL.neP_str, PL.neP_bl, PL.neP_lst_lst, PL.neP_tup_tup, PL.neP_lst_tup, PL.neP_tup_lst, PL.asB_b, PL.asS_s, PL.lenP_lst, PL.itP_lst, PL.ixP_lst, PL.listP_lst_, PL.tupleP_lst_, PL.sumP_lst_, PL.maxP_lst_, PL.minP_lst_, PL.lenP_tup, PL.itP_tup, PL.ixP_tup, PL.listP_tup_, PL.tupleP_tup_, PL.sumP_tup_, PL.maxP_tup_, PL.minP_tup_, PL.lenP_scr, PL.itP_scr, PL.ixP_scr, PL.listP_scr_, PL.tupleP_scr_, PL.sumP_scr_, PL.maxP_scr_, PL.minP_scr_, PL.lenP_str, PL.lenP_dk, PL.itP_str, PL.ixP_str, PL.intP_i, PL.intP_b, PL.rg1_i, PL.rg2_i, PL.lr1_i, PL.lr2_i, PL.maxP_2, PL.maxP_3, PL.minP_2, PL.minP_3, PL.slP_lst, PL.slP_tup, PL.slP_str, PL.slPL_lst, PL.pgTup_t, PL.pgTup_l, PL.pgsCons_c, PL.pgsNil_n, PL.joinRP_l, PL.reprP_i, PL.setP_i, PL.ixE_0, PL.ixE_1, PL.ixE_2, PL.ixE_3, PL.ixE_4, PL.ixE_5, PL.ixE_6, PL.ixE_7, PL.ixE_8, PL.isqrtP_i, PL.reprLP_l, PL.pMkE, PL.pErF, PL.pIsE, PL.pRevS, PL.pRetO, PL.pRetON, PL.divmodP_i, PL.pGet, PL.isi_non_int, PL.isi_non_bool, PL.isi_non_str, PL.isi_non_list, PL.isi_non_tuple, PL.isi_bl_int, PL.isi_bl_bool, PL.isi_bl_str, PL.isi_bl_list, PL.isi_bl_tuple, PL.isi_int_int, PL.isi_int_bool, PL.isi_int_str, PL.isi_int_list, PL.isi_int_tuple, PL.isi_str_int, PL.isi_str_bool, PL.isi_str_str, PL.isi_str_list, PL.isi_str_tuple, PL.isi_tup_int, PL.isi_tup_bool, PL.isi_tup_str, PL.isi_tup_list, PL.isi_tup_tuple, PL.isi_lst_int, PL.isi_lst_bool, PL.isi_lst_str, PL.isi_lst_list, PL.isi_lst_tuple, PL.pickL, List.filterMap_cons, List.filterMap_nil, true_and, decide_true, decide_false, eq_self, Int.zero_add, decide_eq_true_eq, PL.rowE, PL.rowS, PL.startC, List.length_map, List.map_cons, List.map_nil, List.length_cons, List.length_nil, List.append_nil, List.nil_append, List.cons_append, List.replicate_succ, List.replicate_zero, List.set_cons_zero, List.set_cons_succ, List.getElem?_cons_zero, List.getElem?_cons_succ, Nat.reduceAdd, Nat.reduceSub, if_true, Bool.not_true, Bool.not_false, Bool.false_eq_true, if_false])
    obtain ⟨L, rfl⟩ := Int.eq_ofNat_of_zero_le a0
    refine ⟨_, rfl, L, rfl, by omega, fun l hl9 hl => ?_⟩
    simp only [show N l = D.int (l : Int) from rfl]
    (try simp only [PL.pSeq, PL.pNext, PL.pSet, PL.pSetO, PL.pRet, PL.pRetN, PL.pIfS, PL.pFor, PL.pWhile, PL.pBrk, PL.pCnt, PL.pDrop, PL.pApp, PL.pAsg, PL.pgN, PL.pFrz, PL.frz, PL.pC, PL.pN, PL.pNo, PL.pBin, PL.negP, PL.pB, PL.pAnd, PL.pOr, PL.pNot, PL.pAndV, PL.pOrV, PL.pNotV, PL.pIf, PL.paNil, PL.paCons, PL.pLst, PL.pTup, PL.pIx, PL.pSl, PL.poNone, PL.poSome, PL.pCall, PL.pCallK, PL.piR1, PL.piR2, PL.piE, PL.pBits, PL.isiP_eq, PL.pLr1, PL.pJoinR, PL.pJoin, PL.pLc_eq, PL.pYes, PL.wipeC, PL.pBor, PL.pBorT, PL.frzs, PL.pSetI, PL.pChainT, PL.isNP, PL.addP_i, PL.addP_s, PL.addP_t, PL.addP_l, PL.catP_l, PL.subP_i, PL.mulP_i, PL.mulP_l, PL.repP_l, PL.mulP_s, PL.fdivP_i, PL.modP_i, PL.powP_i, PL.ltP_i, PL.ltP_s, PL.gtP_i, PL.gtP_s, PL.leP_i, PL.leP_s, PL.geP_i, PL.geP_s, PL.eqP_int, PL.eqP_str, PL.eqP_bl, PL.eqP_lst_lst, PL.eqP_tup_tup, PL.eqP_lst_tup, PL.eqP_tup_lst, PL.neP_int, PL.neP_str, PL.neP_bl, PL.neP_lst_lst, PL.neP_tup_tup, PL.neP_lst_tup, PL.neP_tup_lst, PL.asB_b, PL.asS_s, PL.lenP_lst, PL.itP_lst, PL.ixP_lst, PL.listP_lst_, PL.tupleP_lst_, PL.sumP_lst_, PL.maxP_lst_, PL.minP_lst_, PL.lenP_tup, PL.itP_tup, PL.ixP_tup, PL.listP_tup_, PL.tupleP_tup_, PL.sumP_tup_, PL.maxP_tup_, PL.minP_tup_, PL.lenP_scr, PL.itP_scr, PL.ixP_scr, PL.listP_scr_, PL.tupleP_scr_, PL.sumP_scr_, PL.maxP_scr_, PL.minP_scr_, PL.lenP_str, PL.lenP_dk, PL.itP_str, PL.ixP_str, PL.intP_i, PL.intP_b, PL.rg1_i, PL.rg2_i, PL.lr1_i, PL.lr2_i, PL.maxP_2, PL.maxP_3, PL.minP_2, PL.minP_3, PL.slP_lst, PL.slP_tup, PL.slP_str, PL.slPL_lst, PL.pgTup_t, PL.pgTup_l, PL.pgsCons_c, PL.pgsNil_n, PL.joinRP_l, PL.reprP_i, PL.setP_i, PL.ixE_0, PL.ixE_1, PL.ixE_2, PL.ixE_3, PL.ixE_4, PL.ixE_5, PL.ixE_6, PL.ixE_7, PL.ixE_8, PL.isqrtP_i, PL.reprLP_l, PL.pMkE, PL.pErF, PL.pIsE, PL.pRevS, PL.pRetO, PL.pRetON, PL.divmodP_i, PL.pGet, PL.isi_non_int, PL.isi_non_bool, PL.isi_non_str, PL.isi_non_list, PL.isi_non_tuple, PL.isi_bl_int, PL.isi_bl_bool, PL.isi_bl_str, PL.isi_bl_list, PL.isi_bl_tuple, PL.isi_int_int, PL.isi_int_bool, PL.isi_int_str, PL.isi_int_list, PL.isi_int_tuple, PL.isi_str_int, PL.isi_str_bool, PL.isi_str_str, PL.isi_str_list, PL.isi_str_tuple, PL.isi_tup_int, PL.isi_tup_bool, PL.isi_tup_str, PL.isi_tup_list, PL.isi_tup_tuple, PL.isi_lst_int, PL.isi_lst_bool, PL.isi_lst_str, PL.isi_lst_list, PL.isi_lst_tuple, PL.pickL, List.filterMap_cons, List.filterMap_nil, true_and, decide_true, decide_false, eq_self, Int.zero_add, decide_eq_true_eq, PL.rowE, PL.rowS, PL.startC, List.length_map, List.map_cons, List.map_nil, List.length_cons, List.length_nil, List.append_nil, List.nil_append, List.cons_append, List.replicate_succ, List.replicate_zero, List.set_cons_zero, List.set_cons_succ, List.getElem?_cons_zero, List.getElem?_cons_succ, Nat.reduceAdd, Nat.reduceSub, if_true, Bool.not_true, Bool.not_false, Bool.false_eq_true, if_false])
    refine ⟨b, L, rfl, b1, b6, by omega, fun g hg => ?_⟩
    simp only [show N g = D.int (g : Int) from rfl]
    (try simp only [PL.pSeq, PL.pNext, PL.pSet, PL.pSetO, PL.pRet, PL.pRetN, PL.pIfS, PL.pFor, PL.pWhile, PL.pBrk, PL.pCnt, PL.pDrop, PL.pApp, PL.pAsg, PL.pgN, PL.pFrz, PL.frz, PL.pC, PL.pN, PL.pNo, PL.pBin, PL.negP, PL.pB, PL.pAnd, PL.pOr, PL.pNot, PL.pAndV, PL.pOrV, PL.pNotV, PL.pIf, PL.paNil, PL.paCons, PL.pLst, PL.pTup, PL.pIx, PL.pSl, PL.poNone, PL.poSome, PL.pCall, PL.pCallK, PL.piR1, PL.piR2, PL.piE, PL.pBits, PL.isiP_eq, PL.pLr1, PL.pJoinR, PL.pJoin, PL.pLc_eq, PL.pYes, PL.wipeC, PL.pBor, PL.pBorT, PL.frzs, PL.pSetI, PL.pChainT, PL.isNP, PL.addP_i, PL.addP_s, PL.addP_t, PL.addP_l, PL.catP_l, PL.subP_i, PL.mulP_i, PL.mulP_l, PL.repP_l, PL.mulP_s, PL.fdivP_i, PL.modP_i, PL.powP_i, PL.ltP_i, PL.ltP_s, PL.gtP_i, PL.gtP_s, PL.leP_i, PL.leP_s, PL.geP_i, PL.geP_s, PL.eqP_int, PL.eqP_str, PL.eqP_bl, PL.eqP_lst_lst, PL.eqP_tup_tup, PL.eqP_lst_tup, PL.eqP_tup_lst, PL.neP_int, PL.neP_str, PL.neP_bl, PL.neP_lst_lst, PL.neP_tup_tup, PL.neP_lst_tup, PL.neP_tup_lst, PL.asB_b, PL.asS_s, PL.lenP_lst, PL.itP_lst, PL.ixP_lst, PL.listP_lst_, PL.tupleP_lst_, PL.sumP_lst_, PL.maxP_lst_, PL.minP_lst_, PL.lenP_tup, PL.itP_tup, PL.ixP_tup, PL.listP_tup_, PL.tupleP_tup_, PL.sumP_tup_, PL.maxP_tup_, PL.minP_tup_, PL.lenP_scr, PL.itP_scr, PL.ixP_scr, PL.listP_scr_, PL.tupleP_scr_, PL.sumP_scr_, PL.maxP_scr_, PL.minP_scr_, PL.lenP_str, PL.lenP_dk, PL.itP_str, PL.ixP_str, PL.intP_i, PL.intP_b, PL.rg1_i, PL.rg2_i, PL.lr1_i, PL.lr2_i, PL.maxP_2, PL.maxP_3, PL.minP_2, PL.minP_3, PL.slP_lst, PL.slP_tup, PL.slP_str, PL.slPL_lst, PL.pgTup_t, PL.pgTup_l, PL.pgsCons_c, PL.pgsNil_n, PL.joinRP_l, PL.reprP_i, PL.setP_i, PL.ixE_0, PL.ixE_1, PL.ixE_2, PL.ixE_3, PL.ixE_4, PL.ixE_5, PL.ixE_6, PL.ixE_7, PL.ixE_8, PL.isqrtP_i, PL.reprLP_l, PL.pMkE, PL.pErF, PL.pIsE, PL.pRevS, PL.pRetO, PL.pRetON, PL.divmodP_i, PL.pGet, PL.isi_non_int, PL.isi_non_bool, PL.isi_non_str, PL.isi_non_list, PL.isi_non_tuple, PL.isi_bl_int, PL.isi_bl_bool, PL.isi_bl_str, PL.isi_bl_list, PL.isi_bl_tuple, PL.isi_int_int, PL.isi_int_bool, PL.isi_int_str, PL.isi_int_list, PL.isi_int_tuple, PL.isi_str_int, PL.isi_str_bool, PL.isi_str_str, PL.isi_str_list, PL.isi_str_tuple, PL.isi_tup_int, PL.isi_tup_bool, PL.isi_tup_str, PL.isi_tup_list, PL.isi_tup_tuple, PL.isi_lst_int, PL.isi_lst_bool, PL.isi_lst_str, PL.isi_lst_list, PL.isi_lst_tuple, PL.pickL, List.filterMap_cons, List.filterMap_nil, true_and, decide_true, decide_false, eq_self, Int.zero_add, decide_eq_true_eq, PL.rowE, PL.rowS, PL.startC, List.length_map, List.map_cons, List.map_nil, List.length_cons, List.length_nil, List.append_nil, List.nil_append, List.cons_append, List.replicate_succ, List.replicate_zero, List.set_cons_zero, List.set_cons_succ, List.getElem?_cons_zero, List.getElem?_cons_succ, Nat.reduceAdd, Nat.reduceSub, if_true, Bool.not_true, Bool.not_false, Bool.false_eq_true, if_false])
    have gl := (ls_gs hl).mono b1 hg
    have gL := hg.le b1
    have rg := rb_of b1 b6 t1 t3 (show L < 2 ^ 110 by omega) hg
    have up := up190 rg.n1
    have en : ((g : Int) + 1 - (l : Int)).toNat = g + 1 - l := by omega
    rw [en]
    refine ⟨⟨by omega, by omega, by omega⟩, ?_⟩
    refine lc_m (f := fun (i : Nat) => D.int ((l : Int) + (i : Int))) (W := fun i acc => acc = ((List.range i).map fun j : Nat => XS b t ((l : Int) + (j : Int))).map D.int) rfl ?_ ?_
    · rintro i j acc hj rfl
      have hj2 := List.getElem?_eq_some_iff.mp hj
      obtain ⟨hil, rfl⟩ := hj2
      rw [List.length_range] at hil
      rw [List.getElem_range]
      (try simp only [PL.pSeq, PL.pNext, PL.pSet, PL.pSetO, PL.pRet, PL.pRetN, PL.pIfS, PL.pFor, PL.pWhile, PL.pBrk, PL.pCnt, PL.pDrop, PL.pApp, PL.pAsg, PL.pgN, PL.pFrz, PL.frz, PL.pC, PL.pN, PL.pNo, PL.pBin, PL.negP, PL.pB, PL.pAnd, PL.pOr, PL.pNot, PL.pAndV, PL.pOrV, PL.pNotV, PL.pIf, PL.paNil, PL.paCons, PL.pLst, PL.pTup, PL.pIx, PL.pSl, PL.poNone, PL.poSome, PL.pCall, PL.pCallK, PL.piR1, PL.piR2, PL.piE, PL.pBits, PL.isiP_eq, PL.pLr1, PL.pJoinR, PL.pJoin, PL.pLc_eq, PL.pYes, PL.wipeC, PL.pBor, PL.pBorT, PL.frzs, PL.pSetI, PL.pChainT, PL.isNP, PL.addP_i, PL.addP_s, PL.addP_t, PL.addP_l, PL.catP_l, PL.subP_i, PL.mulP_i, PL.mulP_l, PL.repP_l, PL.mulP_s, PL.fdivP_i, PL.modP_i, PL.powP_i, PL.ltP_i, PL.ltP_s, PL.gtP_i, PL.gtP_s, PL.leP_i, PL.leP_s, PL.geP_i, PL.geP_s, PL.eqP_int, PL.eqP_str, PL.eqP_bl, PL.eqP_lst_lst, PL.eqP_tup_tup, PL.eqP_lst_tup, PL.eqP_tup_lst, PL.neP_int, PL.neP_str, PL.neP_bl, PL.neP_lst_lst, PL.neP_tup_tup, PL.neP_lst_tup, PL.neP_tup_lst, PL.asB_b, PL.asS_s, PL.lenP_lst, PL.itP_lst, PL.ixP_lst, PL.listP_lst_, PL.tupleP_lst_, PL.sumP_lst_, PL.maxP_lst_, PL.minP_lst_, PL.lenP_tup, PL.itP_tup, PL.ixP_tup, PL.listP_tup_, PL.tupleP_tup_, PL.sumP_tup_, PL.maxP_tup_, PL.minP_tup_, PL.lenP_scr, PL.itP_scr, PL.ixP_scr, PL.listP_scr_, PL.tupleP_scr_, PL.sumP_scr_, PL.maxP_scr_, PL.minP_scr_, PL.lenP_str, PL.lenP_dk, PL.itP_str, PL.ixP_str, PL.intP_i, PL.intP_b, PL.rg1_i, PL.rg2_i, PL.lr1_i, PL.lr2_i, PL.maxP_2, PL.maxP_3, PL.minP_2, PL.minP_3, PL.slP_lst, PL.slP_tup, PL.slP_str, PL.slPL_lst, PL.pgTup_t, PL.pgTup_l, PL.pgsCons_c, PL.pgsNil_n, PL.joinRP_l, PL.reprP_i, PL.setP_i, PL.ixE_0, PL.ixE_1, PL.ixE_2, PL.ixE_3, PL.ixE_4, PL.ixE_5, PL.ixE_6, PL.ixE_7, PL.ixE_8, PL.isqrtP_i, PL.reprLP_l, PL.pMkE, PL.pErF, PL.pIsE, PL.pRevS, PL.pRetO, PL.pRetON, PL.divmodP_i, PL.pGet, PL.isi_non_int, PL.isi_non_bool, PL.isi_non_str, PL.isi_non_list, PL.isi_non_tuple, PL.isi_bl_int, PL.isi_bl_bool, PL.isi_bl_str, PL.isi_bl_list, PL.isi_bl_tuple, PL.isi_int_int, PL.isi_int_bool, PL.isi_int_str, PL.isi_int_list, PL.isi_int_tuple, PL.isi_str_int, PL.isi_str_bool, PL.isi_str_str, PL.isi_str_list, PL.isi_str_tuple, PL.isi_tup_int, PL.isi_tup_bool, PL.isi_tup_str, PL.isi_tup_list, PL.isi_tup_tuple, PL.isi_lst_int, PL.isi_lst_bool, PL.isi_lst_str, PL.isi_lst_list, PL.isi_lst_tuple, PL.pickL, List.filterMap_cons, List.filterMap_nil, true_and, decide_true, decide_false, eq_self, Int.zero_add, decide_eq_true_eq, PL.rowE, PL.rowS, PL.startC, List.length_map, List.map_cons, List.map_nil, List.length_cons, List.length_nil, List.append_nil, List.nil_append, List.cons_append, List.replicate_succ, List.replicate_zero, List.set_cons_zero, List.set_cons_succ, List.getElem?_cons_zero, List.getElem?_cons_succ, Nat.reduceAdd, Nat.reduceSub, if_true, Bool.not_true, Bool.not_false, Bool.false_eq_true, if_false])
      refine ⟨b, t, (l : Int) + (i : Int), rfl, ⟨rg.s1, rg.s6, t1, t3, by omega, by have := rg.n1; omega⟩, ?_⟩
      refine ⟨by simp only [List.length_map, List.length_range]; omega, ?_⟩
      rw [List.range_succ, List.map_append, List.map_append]; rfl
    · rintro acc rfl
      rw [List.length_range]
      (try simp only [PL.pSeq, PL.pNext, PL.pSet, PL.pSetO, PL.pRet, PL.pRetN, PL.pIfS, PL.pFor, PL.pWhile, PL.pBrk, PL.pCnt, PL.pDrop, PL.pApp, PL.pAsg, PL.pgN, PL.pFrz, PL.frz, PL.pC, PL.pN, PL.pNo, PL.pBin, PL.negP, PL.pB, PL.pAnd, PL.pOr, PL.pNot, PL.pAndV, PL.pOrV, PL.pNotV, PL.pIf, PL.paNil, PL.paCons, PL.pLst, PL.pTup, PL.pIx, PL.pSl, PL.poNone, PL.poSome, PL.pCall, PL.pCallK, PL.piR1, PL.piR2, PL.piE, PL.pBits, PL.isiP_eq, PL.pLr1, PL.pJoinR, PL.pJoin, PL.pLc_eq, PL.pYes, PL.wipeC, PL.pBor, PL.pBorT, PL.frzs, PL.pSetI, PL.pChainT, PL.isNP, PL.addP_i, PL.addP_s, PL.addP_t, PL.addP_l, PL.catP_l, PL.subP_i, PL.mulP_i, PL.mulP_l, PL.repP_l, PL.mulP_s, PL.fdivP_i, PL.modP_i, PL.powP_i, PL.ltP_i, PL.ltP_s, PL.gtP_i, PL.gtP_s, PL.leP_i, PL.leP_s, PL.geP_i, PL.geP_s, PL.eqP_int, PL.eqP_str, PL.eqP_bl, PL.eqP_lst_lst, PL.eqP_tup_tup, PL.eqP_lst_tup, PL.eqP_tup_lst, PL.neP_int, PL.neP_str, PL.neP_bl, PL.neP_lst_lst, PL.neP_tup_tup, PL.neP_lst_tup, PL.neP_tup_lst, PL.asB_b, PL.asS_s, PL.lenP_lst, PL.itP_lst, PL.ixP_lst, PL.listP_lst_, PL.tupleP_lst_, PL.sumP_lst_, PL.maxP_lst_, PL.minP_lst_, PL.lenP_tup, PL.itP_tup, PL.ixP_tup, PL.listP_tup_, PL.tupleP_tup_, PL.sumP_tup_, PL.maxP_tup_, PL.minP_tup_, PL.lenP_scr, PL.itP_scr, PL.ixP_scr, PL.listP_scr_, PL.tupleP_scr_, PL.sumP_scr_, PL.maxP_scr_, PL.minP_scr_, PL.lenP_str, PL.lenP_dk, PL.itP_str, PL.ixP_str, PL.intP_i, PL.intP_b, PL.rg1_i, PL.rg2_i, PL.lr1_i, PL.lr2_i, PL.maxP_2, PL.maxP_3, PL.minP_2, PL.minP_3, PL.slP_lst, PL.slP_tup, PL.slP_str, PL.slPL_lst, PL.pgTup_t, PL.pgTup_l, PL.pgsCons_c, PL.pgsNil_n, PL.joinRP_l, PL.reprP_i, PL.setP_i, PL.ixE_0, PL.ixE_1, PL.ixE_2, PL.ixE_3, PL.ixE_4, PL.ixE_5, PL.ixE_6, PL.ixE_7, PL.ixE_8, PL.isqrtP_i, PL.reprLP_l, PL.pMkE, PL.pErF, PL.pIsE, PL.pRevS, PL.pRetO, PL.pRetON, PL.divmodP_i, PL.pGet, PL.isi_non_int, PL.isi_non_bool, PL.isi_non_str, PL.isi_non_list, PL.isi_non_tuple, PL.isi_bl_int, PL.isi_bl_bool, PL.isi_bl_str, PL.isi_bl_list, PL.isi_bl_tuple, PL.isi_int_int, PL.isi_int_bool, PL.isi_int_str, PL.isi_int_list, PL.isi_int_tuple, PL.isi_str_int, PL.isi_str_bool, PL.isi_str_str, PL.isi_str_list, PL.isi_str_tuple, PL.isi_tup_int, PL.isi_tup_bool, PL.isi_tup_str, PL.isi_tup_list, PL.isi_tup_tuple, PL.isi_lst_int, PL.isi_lst_bool, PL.isi_lst_str, PL.isi_lst_list, PL.isi_lst_tuple, PL.pickL, List.filterMap_cons, List.filterMap_nil, true_and, decide_true, decide_false, eq_self, Int.zero_add, decide_eq_true_eq, PL.rowE, PL.rowS, PL.startC, List.length_map, List.map_cons, List.map_nil, List.length_cons, List.length_nil, List.append_nil, List.nil_append, List.cons_append, List.replicate_succ, List.replicate_zero, List.set_cons_zero, List.set_cons_succ, List.getElem?_cons_zero, List.getElem?_cons_succ, Nat.reduceAdd, Nat.reduceSub, if_true, Bool.not_true, Bool.not_false, Bool.false_eq_true, if_false])
      refine ⟨_, _, rfl, intsOf_map _, by rw [List.length_map, List.length_range]; omega, fun m hm hmx => ?_⟩
      obtain rfl : m = XS b t g := by
        refine max_of (List.mem_map.mpr ⟨g - l, List.mem_range.mpr (by omega), ?_⟩) (fun y hy => ?_) hm hmx
        · rw [show (l : Int) + ((g - l : Nat) : Int) = (g : Int) by omega]
        · obtain ⟨c, hc, rfl⟩ := List.mem_map.mp hy
          have hc := List.mem_range.mp hc
          by_cases b2 : 2 ≤ b
          · exact XS_le (by omega) t1 (by omega) (by omega) (by omega)
          · obtain rfl : b = 1 := by omega
            have := (ls_gs hl).uniq (Nat.le_refl 1) hg
            rw [show (l : Int) + (c : Int) = (g : Int) by omega]
            exact Int.le_refl _
      exact ⟨b, L, g, t, rfl, b1, b6, t1, t3, by omega, hg, q⟩
def sp_law_great_hold : PSp := fun ds P => ∃ (b : Nat) (t kind : Int) (xs : List Int), ds = [N b, .int t, .lst (xs.map D.int), .int kind] ∧ 1 ≤ b ∧ b ≤ 6 ∧ 1 ≤ t ∧ t ≤ 3600 ∧ xs.length = 6 ∧ (∀ x ∈ xs, 0 ≤ x ∧ x < 100000000) ∧ P (.bl true)
theorem len_law_great_hold : ∀ ds P, sp_law_great_hold ds P → ds.length = 4 := by rintro _ _ ⟨_, _, _, n, rfl, _⟩; rfl
theorem p14 : (10 : Int) ^ (Int.toNat 14) = 100000000000000 := by decide
theorem cp14 : CPow 10 14 := by unfold CPow; decide
theorem w_law_great_hold : ∀ ds Q, sp_law_great_hold ds Q → b_law_great_hold sp_law_big sp_law_shortest sp_law_worst_holds sp_law_gap sp_law_greatest { nx := fun _ => Q .non, rt := Q } (startC ["letters", "states", "row", "kind", "many", "total", "long", "near"] ds) := by
  rintro _ Q ⟨b, t, kind, xs, rfl, b1, b6, t1, t3, xl, hx, q⟩
  have hz : sizeLine = 16777216 := PySem.sizeLine_eq
  have bg := big2
  simp only [PL.startC, List.map_cons, List.map_nil, List.length_cons, List.length_nil, Nat.reduceAdd, Nat.reduceSub, List.replicate_succ, List.replicate_zero, List.cons_append, List.nil_append, List.append_nil]
  unfold b_law_great_hold
  simp only [show N b = D.int (b : Int) from rfl]
  (try simp only [PL.pSeq, PL.pNext, PL.pSet, PL.pSetO, PL.pRet, PL.pRetN, PL.pIfS, PL.pFor, PL.pWhile, PL.pBrk, PL.pCnt, PL.pDrop, PL.pApp, PL.pAsg, PL.pgN, PL.pFrz, PL.frz, PL.pC, PL.pN, PL.pNo, PL.pBin, PL.negP, PL.pB, PL.pAnd, PL.pOr, PL.pNot, PL.pAndV, PL.pOrV, PL.pNotV, PL.pIf, PL.paNil, PL.paCons, PL.pLst, PL.pTup, PL.pIx, PL.pSl, PL.poNone, PL.poSome, PL.pCall, PL.pCallK, PL.piR1, PL.piR2, PL.piE, PL.pBits, PL.isiP_eq, PL.pLr1, PL.pJoinR, PL.pJoin, PL.pLc_eq, PL.pYes, PL.wipeC, PL.pBor, PL.pBorT, PL.frzs, PL.pSetI, PL.pChainT, PL.isNP, PL.addP_i, PL.addP_s, PL.addP_t, PL.addP_l, PL.catP_l, PL.subP_i, PL.mulP_i, PL.mulP_l, PL.repP_l, PL.mulP_s, PL.fdivP_i, PL.modP_i, PL.powP_i, PL.ltP_i, PL.ltP_s, PL.gtP_i, PL.gtP_s, PL.leP_i, PL.leP_s, PL.geP_i, PL.geP_s, PL.eqP_int, PL.eqP_str, PL.eqP_bl, PL.eqP_lst_lst, PL.eqP_tup_tup, PL.eqP_lst_tup, PL.eqP_tup_lst, PL.neP_int, PL.neP_str, PL.neP_bl, PL.neP_lst_lst, PL.neP_tup_tup, PL.neP_lst_tup, PL.neP_tup_lst, PL.asB_b, PL.asS_s, PL.lenP_lst, PL.itP_lst, PL.ixP_lst, PL.listP_lst_, PL.tupleP_lst_, PL.sumP_lst_, PL.maxP_lst_, PL.minP_lst_, PL.lenP_tup, PL.itP_tup, PL.ixP_tup, PL.listP_tup_, PL.tupleP_tup_, PL.sumP_tup_, PL.maxP_tup_, PL.minP_tup_, PL.lenP_scr, PL.itP_scr, PL.ixP_scr, PL.listP_scr_, PL.tupleP_scr_, PL.sumP_scr_, PL.maxP_scr_, PL.minP_scr_, PL.lenP_str, PL.lenP_dk, PL.itP_str, PL.ixP_str, PL.intP_i, PL.intP_b, PL.rg1_i, PL.rg2_i, PL.lr1_i, PL.lr2_i, PL.maxP_2, PL.maxP_3, PL.minP_2, PL.minP_3, PL.slP_lst, PL.slP_tup, PL.slP_str, PL.slPL_lst, PL.pgTup_t, PL.pgTup_l, PL.pgsCons_c, PL.pgsNil_n, PL.joinRP_l, PL.reprP_i, PL.setP_i, PL.ixE_0, PL.ixE_1, PL.ixE_2, PL.ixE_3, PL.ixE_4, PL.ixE_5, PL.ixE_6, PL.ixE_7, PL.ixE_8, PL.isqrtP_i, PL.reprLP_l, PL.pMkE, PL.pErF, PL.pIsE, PL.pRevS, PL.pRetO, PL.pRetON, PL.divmodP_i, PL.pGet, PL.isi_non_int, PL.isi_non_bool, PL.isi_non_str, PL.isi_non_list, PL.isi_non_tuple, PL.isi_bl_int, PL.isi_bl_bool, PL.isi_bl_str, PL.isi_bl_list, PL.isi_bl_tuple, PL.isi_int_int, PL.isi_int_bool, PL.isi_int_str, PL.isi_int_list, PL.isi_int_tuple, PL.isi_str_int, PL.isi_str_bool, PL.isi_str_str, PL.isi_str_list, PL.isi_str_tuple, PL.isi_tup_int, PL.isi_tup_bool, PL.isi_tup_str, PL.isi_tup_list, PL.isi_tup_tuple, PL.isi_lst_int, PL.isi_lst_bool, PL.isi_lst_str, PL.isi_lst_list, PL.isi_lst_tuple, PL.pickL, List.filterMap_cons, List.filterMap_nil, true_and, decide_true, decide_false, eq_self, Int.zero_add, decide_eq_true_eq, PL.rowE, PL.rowS, PL.startC, List.length_map, List.map_cons, List.map_nil, List.length_cons, List.length_nil, List.append_nil, List.nil_append, List.cons_append, List.replicate_succ, List.replicate_zero, List.set_cons_zero, List.set_cons_succ, List.getElem?_cons_zero, List.getElem?_cons_succ, Nat.reduceAdd, Nat.reduceSub, if_true, Bool.not_true, Bool.not_false, Bool.false_eq_true, if_false, p14, p30])
  rw [show cutD (xs.map D.int) none (some 2) = (xs.take 2).map D.int from cutD_to D.int xs 2 (by omega), show cutD (xs.map D.int) (some 2) (some 6) = ((xs.drop 2).take 4).map D.int from cutD_map D.int xs 2 6 (by omega)]
  have k0 := Int.emod_nonneg kind (show (2 : Int) ≠ 0 by decide)
  have k1 := Int.emod_lt_of_pos kind (show (0 : Int) < 2 by decide)
  have j0 := Int.emod_nonneg kind (show (4 : Int) ≠ 0 by decide)
  have j1 := Int.emod_lt_of_pos kind (show (0 : Int) < 4 by decide)
  refine ⟨by decide, cp14, ?_⟩
  refine ⟨xs.take 2, (1 + kind % 2).toNat, 100000000000000, ?_, by rw [List.length_take]; omega, by rw [List.length_take]; omega, fun x h => hx x (List.mem_of_mem_take h), by decide, by decide, fun z z0 z1 => ?_⟩
  · unfold N
    rw [show (((1 + kind % 2).toNat : Nat) : Int) = 1 + kind % 2 by omega]
  obtain ⟨n, rfl⟩ := Int.eq_ofNat_of_zero_le z0
  refine ⟨b, n, rfl, b1, b6, by omega, ?_⟩
  have tl := tot_le_one b1 n
  have to := tot_one n
  have tn : n * (n + 1) ≤ 100000000000000 * 100000000000001 := Nat.mul_le_mul (by omega) (by omega)
  simp only [show N (tot b n) = D.int ((tot b n : Nat) : Int) from rfl]
  refine ⟨by decide, cp30, ?_⟩
  refine ⟨(xs.drop 2).take 4, (1 + kind % 4).toNat, 1000000000000000000000000000000, ?_, by rw [List.length_take, List.length_drop]; omega, by rw [List.length_take, List.length_drop]; omega, fun x h => hx x (List.mem_of_mem_drop (List.mem_of_mem_take h)), by decide, t30.1, fun z z0 z1 => ?_⟩
  · unfold N
    rw [show (((1 + kind % 4).toNat : Nat) : Int) = 1 + kind % 4 by omega]
  (try simp only [PL.pSeq, PL.pNext, PL.pSet, PL.pSetO, PL.pRet, PL.pRetN, PL.pIfS, PL.pFor, PL.pWhile, PL.pBrk, PL.pCnt, PL.pDrop, PL.pApp, PL.pAsg, PL.pgN, PL.pFrz, PL.frz, PL.pC, PL.pN, PL.pNo, PL.pBin, PL.negP, PL.pB, PL.pAnd, PL.pOr, PL.pNot, PL.pAndV, PL.pOrV, PL.pNotV, PL.pIf, PL.paNil, PL.paCons, PL.pLst, PL.pTup, PL.pIx, PL.pSl, PL.poNone, PL.poSome, PL.pCall, PL.pCallK, PL.piR1, PL.piR2, PL.piE, PL.pBits, PL.isiP_eq, PL.pLr1, PL.pJoinR, PL.pJoin, PL.pLc_eq, PL.pYes, PL.wipeC, PL.pBor, PL.pBorT, PL.frzs, PL.pSetI, PL.pChainT, PL.isNP, PL.addP_i, PL.addP_s, PL.addP_t, PL.addP_l, PL.catP_l, PL.subP_i, PL.mulP_i, PL.mulP_l, PL.repP_l, PL.mulP_s, PL.fdivP_i, PL.modP_i, PL.powP_i, PL.ltP_i, PL.ltP_s, PL.gtP_i, PL.gtP_s, PL.leP_i, PL.leP_s, PL.geP_i, PL.geP_s, PL.eqP_int, PL.eqP_str, PL.eqP_bl, PL.eqP_lst_lst, PL.eqP_tup_tup, PL.eqP_lst_tup, PL.eqP_tup_lst, PL.neP_int, PL.neP_str, PL.neP_bl, PL.neP_lst_lst, PL.neP_tup_tup, PL.neP_lst_tup, PL.neP_tup_lst, PL.asB_b, PL.asS_s, PL.lenP_lst, PL.itP_lst, PL.ixP_lst, PL.listP_lst_, PL.tupleP_lst_, PL.sumP_lst_, PL.maxP_lst_, PL.minP_lst_, PL.lenP_tup, PL.itP_tup, PL.ixP_tup, PL.listP_tup_, PL.tupleP_tup_, PL.sumP_tup_, PL.maxP_tup_, PL.minP_tup_, PL.lenP_scr, PL.itP_scr, PL.ixP_scr, PL.listP_scr_, PL.tupleP_scr_, PL.sumP_scr_, PL.maxP_scr_, PL.minP_scr_, PL.lenP_str, PL.lenP_dk, PL.itP_str, PL.ixP_str, PL.intP_i, PL.intP_b, PL.rg1_i, PL.rg2_i, PL.lr1_i, PL.lr2_i, PL.maxP_2, PL.maxP_3, PL.minP_2, PL.minP_3, PL.slP_lst, PL.slP_tup, PL.slP_str, PL.slPL_lst, PL.pgTup_t, PL.pgTup_l, PL.pgsCons_c, PL.pgsNil_n, PL.joinRP_l, PL.reprP_i, PL.setP_i, PL.ixE_0, PL.ixE_1, PL.ixE_2, PL.ixE_3, PL.ixE_4, PL.ixE_5, PL.ixE_6, PL.ixE_7, PL.ixE_8, PL.isqrtP_i, PL.reprLP_l, PL.pMkE, PL.pErF, PL.pIsE, PL.pRevS, PL.pRetO, PL.pRetON, PL.divmodP_i, PL.pGet, PL.isi_non_int, PL.isi_non_bool, PL.isi_non_str, PL.isi_non_list, PL.isi_non_tuple, PL.isi_bl_int, PL.isi_bl_bool, PL.isi_bl_str, PL.isi_bl_list, PL.isi_bl_tuple, PL.isi_int_int, PL.isi_int_bool, PL.isi_int_str, PL.isi_int_list, PL.isi_int_tuple, PL.isi_str_int, PL.isi_str_bool, PL.isi_str_str, PL.isi_str_list, PL.isi_str_tuple, PL.isi_tup_int, PL.isi_tup_bool, PL.isi_tup_str, PL.isi_tup_list, PL.isi_tup_tuple, PL.isi_lst_int, PL.isi_lst_bool, PL.isi_lst_str, PL.isi_lst_list, PL.isi_lst_tuple, PL.pickL, List.filterMap_cons, List.filterMap_nil, true_and, decide_true, decide_false, eq_self, Int.zero_add, decide_eq_true_eq, PL.rowE, PL.rowS, PL.startC, List.length_map, List.map_cons, List.map_nil, List.length_cons, List.length_nil, List.append_nil, List.nil_append, List.cons_append, List.replicate_succ, List.replicate_zero, List.set_cons_zero, List.set_cons_succ, List.getElem?_cons_zero, List.getElem?_cons_succ, Nat.reduceAdd, Nat.reduceSub, if_true, Bool.not_true, Bool.not_false, Bool.false_eq_true, if_false])
  refine ⟨by omega, ?_⟩
  refine for_m (f := D.int) (xs := [((tot b n : Nat) : Int) - 1, ((tot b n : Nat) : Int), ((tot b n : Nat) : Int) + 1, z]) (W := fun i env => ∃ y : C, env = [N' b, C.fz (.int t), C.fz (.lst (xs.map D.int)), C.fz (.int kind), N' n, N' (tot b n), C.fz (.int z), y]) ⟨.un, rfl⟩ ?_ ?_
  · rintro i x env hi ⟨y, rfl⟩
    have hx : x ≤ 1000000000000000000000000000000 := by
      have hm := List.mem_of_getElem? hi
      simp only [List.mem_cons, List.not_mem_nil, or_false] at hm
      rcases hm with rfl | rfl | rfl | rfl <;> omega
    unfold N'
    (try simp only [PL.pSeq, PL.pNext, PL.pSet, PL.pSetO, PL.pRet, PL.pRetN, PL.pIfS, PL.pFor, PL.pWhile, PL.pBrk, PL.pCnt, PL.pDrop, PL.pApp, PL.pAsg, PL.pgN, PL.pFrz, PL.frz, PL.pC, PL.pN, PL.pNo, PL.pBin, PL.negP, PL.pB, PL.pAnd, PL.pOr, PL.pNot, PL.pAndV, PL.pOrV, PL.pNotV, PL.pIf, PL.paNil, PL.paCons, PL.pLst, PL.pTup, PL.pIx, PL.pSl, PL.poNone, PL.poSome, PL.pCall, PL.pCallK, PL.piR1, PL.piR2, PL.piE, PL.pBits, PL.isiP_eq, PL.pLr1, PL.pJoinR, PL.pJoin, PL.pLc_eq, PL.pYes, PL.wipeC, PL.pBor, PL.pBorT, PL.frzs, PL.pSetI, PL.pChainT, PL.isNP, PL.addP_i, PL.addP_s, PL.addP_t, PL.addP_l, PL.catP_l, PL.subP_i, PL.mulP_i, PL.mulP_l, PL.repP_l, PL.mulP_s, PL.fdivP_i, PL.modP_i, PL.powP_i, PL.ltP_i, PL.ltP_s, PL.gtP_i, PL.gtP_s, PL.leP_i, PL.leP_s, PL.geP_i, PL.geP_s, PL.eqP_int, PL.eqP_str, PL.eqP_bl, PL.eqP_lst_lst, PL.eqP_tup_tup, PL.eqP_lst_tup, PL.eqP_tup_lst, PL.neP_int, PL.neP_str, PL.neP_bl, PL.neP_lst_lst, PL.neP_tup_tup, PL.neP_lst_tup, PL.neP_tup_lst, PL.asB_b, PL.asS_s, PL.lenP_lst, PL.itP_lst, PL.ixP_lst, PL.listP_lst_, PL.tupleP_lst_, PL.sumP_lst_, PL.maxP_lst_, PL.minP_lst_, PL.lenP_tup, PL.itP_tup, PL.ixP_tup, PL.listP_tup_, PL.tupleP_tup_, PL.sumP_tup_, PL.maxP_tup_, PL.minP_tup_, PL.lenP_scr, PL.itP_scr, PL.ixP_scr, PL.listP_scr_, PL.tupleP_scr_, PL.sumP_scr_, PL.maxP_scr_, PL.minP_scr_, PL.lenP_str, PL.lenP_dk, PL.itP_str, PL.ixP_str, PL.intP_i, PL.intP_b, PL.rg1_i, PL.rg2_i, PL.lr1_i, PL.lr2_i, PL.maxP_2, PL.maxP_3, PL.minP_2, PL.minP_3, PL.slP_lst, PL.slP_tup, PL.slP_str, PL.slPL_lst, PL.pgTup_t, PL.pgTup_l, PL.pgsCons_c, PL.pgsNil_n, PL.joinRP_l, PL.reprP_i, PL.setP_i, PL.ixE_0, PL.ixE_1, PL.ixE_2, PL.ixE_3, PL.ixE_4, PL.ixE_5, PL.ixE_6, PL.ixE_7, PL.ixE_8, PL.isqrtP_i, PL.reprLP_l, PL.pMkE, PL.pErF, PL.pIsE, PL.pRevS, PL.pRetO, PL.pRetON, PL.divmodP_i, PL.pGet, PL.isi_non_int, PL.isi_non_bool, PL.isi_non_str, PL.isi_non_list, PL.isi_non_tuple, PL.isi_bl_int, PL.isi_bl_bool, PL.isi_bl_str, PL.isi_bl_list, PL.isi_bl_tuple, PL.isi_int_int, PL.isi_int_bool, PL.isi_int_str, PL.isi_int_list, PL.isi_int_tuple, PL.isi_str_int, PL.isi_str_bool, PL.isi_str_str, PL.isi_str_list, PL.isi_str_tuple, PL.isi_tup_int, PL.isi_tup_bool, PL.isi_tup_str, PL.isi_tup_list, PL.isi_tup_tuple, PL.isi_lst_int, PL.isi_lst_bool, PL.isi_lst_str, PL.isi_lst_list, PL.isi_lst_tuple, PL.pickL, List.filterMap_cons, List.filterMap_nil, true_and, decide_true, decide_false, eq_self, Int.zero_add, decide_eq_true_eq, PL.rowE, PL.rowS, PL.startC, List.length_map, List.map_cons, List.map_nil, List.length_cons, List.length_nil, List.append_nil, List.nil_append, List.cons_append, List.replicate_succ, List.replicate_zero, List.set_cons_zero, List.set_cons_succ, List.getElem?_cons_zero, List.getElem?_cons_succ, Nat.reduceAdd, Nat.reduceSub, if_true, Bool.not_true, Bool.not_false, Bool.false_eq_true, if_false])
    split
    · rename_i h0
      obtain ⟨L, rfl⟩ := Int.eq_ofNat_of_zero_le h0
      refine ⟨b, L, rfl, b1, b6, by omega, fun g hg => ?_⟩
      refine ⟨b, t, g, rfl, rb_of b1 b6 t1 t3 (by omega) hg, ?_⟩
      refine ⟨b, L, g, t, rfl, b1, b6, t1, t3, by omega, hg, ?_⟩
      (try simp only [PL.pSeq, PL.pNext, PL.pSet, PL.pSetO, PL.pRet, PL.pRetN, PL.pIfS, PL.pFor, PL.pWhile, PL.pBrk, PL.pCnt, PL.pDrop, PL.pApp, PL.pAsg, PL.pgN, PL.pFrz, PL.frz, PL.pC, PL.pN, PL.pNo, PL.pBin, PL.negP, PL.pB, PL.pAnd, PL.pOr, PL.pNot, PL.pAndV, PL.pOrV, PL.pNotV, PL.pIf, PL.paNil, PL.paCons, PL.pLst, PL.pTup, PL.pIx, PL.pSl, PL.poNone, PL.poSome, PL.pCall, PL.pCallK, PL.piR1, PL.piR2, PL.piE, PL.pBits, PL.isiP_eq, PL.pLr1, PL.pJoinR, PL.pJoin, PL.pLc_eq, PL.pYes, PL.wipeC, PL.pBor, PL.pBorT, PL.frzs, PL.pSetI, PL.pChainT, PL.isNP, PL.addP_i, PL.addP_s, PL.addP_t, PL.addP_l, PL.catP_l, PL.subP_i, PL.mulP_i, PL.mulP_l, PL.repP_l, PL.mulP_s, PL.fdivP_i, PL.modP_i, PL.powP_i, PL.ltP_i, PL.ltP_s, PL.gtP_i, PL.gtP_s, PL.leP_i, PL.leP_s, PL.geP_i, PL.geP_s, PL.eqP_int, PL.eqP_str, PL.eqP_bl, PL.eqP_lst_lst, PL.eqP_tup_tup, PL.eqP_lst_tup, PL.eqP_tup_lst, PL.neP_int, PL.neP_str, PL.neP_bl, PL.neP_lst_lst, PL.neP_tup_tup, PL.neP_lst_tup, PL.neP_tup_lst, PL.asB_b, PL.asS_s, PL.lenP_lst, PL.itP_lst, PL.ixP_lst, PL.listP_lst_, PL.tupleP_lst_, PL.sumP_lst_, PL.maxP_lst_, PL.minP_lst_, PL.lenP_tup, PL.itP_tup, PL.ixP_tup, PL.listP_tup_, PL.tupleP_tup_, PL.sumP_tup_, PL.maxP_tup_, PL.minP_tup_, PL.lenP_scr, PL.itP_scr, PL.ixP_scr, PL.listP_scr_, PL.tupleP_scr_, PL.sumP_scr_, PL.maxP_scr_, PL.minP_scr_, PL.lenP_str, PL.lenP_dk, PL.itP_str, PL.ixP_str, PL.intP_i, PL.intP_b, PL.rg1_i, PL.rg2_i, PL.lr1_i, PL.lr2_i, PL.maxP_2, PL.maxP_3, PL.minP_2, PL.minP_3, PL.slP_lst, PL.slP_tup, PL.slP_str, PL.slPL_lst, PL.pgTup_t, PL.pgTup_l, PL.pgsCons_c, PL.pgsNil_n, PL.joinRP_l, PL.reprP_i, PL.setP_i, PL.ixE_0, PL.ixE_1, PL.ixE_2, PL.ixE_3, PL.ixE_4, PL.ixE_5, PL.ixE_6, PL.ixE_7, PL.ixE_8, PL.isqrtP_i, PL.reprLP_l, PL.pMkE, PL.pErF, PL.pIsE, PL.pRevS, PL.pRetO, PL.pRetON, PL.divmodP_i, PL.pGet, PL.isi_non_int, PL.isi_non_bool, PL.isi_non_str, PL.isi_non_list, PL.isi_non_tuple, PL.isi_bl_int, PL.isi_bl_bool, PL.isi_bl_str, PL.isi_bl_list, PL.isi_bl_tuple, PL.isi_int_int, PL.isi_int_bool, PL.isi_int_str, PL.isi_int_list, PL.isi_int_tuple, PL.isi_str_int, PL.isi_str_bool, PL.isi_str_str, PL.isi_str_list, PL.isi_str_tuple, PL.isi_tup_int, PL.isi_tup_bool, PL.isi_tup_str, PL.isi_tup_list, PL.isi_tup_tuple, PL.isi_lst_int, PL.isi_lst_bool, PL.isi_lst_str, PL.isi_lst_list, PL.isi_lst_tuple, PL.pickL, List.filterMap_cons, List.filterMap_nil, true_and, decide_true, decide_false, eq_self, Int.zero_add, decide_eq_true_eq, PL.rowE, PL.rowS, PL.startC, List.length_map, List.map_cons, List.map_nil, List.length_cons, List.length_nil, List.append_nil, List.nil_append, List.cons_append, List.replicate_succ, List.replicate_zero, List.set_cons_zero, List.set_cons_succ, List.getElem?_cons_zero, List.getElem?_cons_succ, Nat.reduceAdd, Nat.reduceSub, if_true, Bool.not_true, Bool.not_false, Bool.false_eq_true, if_false])
      exact ⟨_, rfl⟩
    · exact ⟨_, rfl⟩
  · rintro env ⟨y, rfl⟩
    (try simp only [PL.pSeq, PL.pNext, PL.pSet, PL.pSetO, PL.pRet, PL.pRetN, PL.pIfS, PL.pFor, PL.pWhile, PL.pBrk, PL.pCnt, PL.pDrop, PL.pApp, PL.pAsg, PL.pgN, PL.pFrz, PL.frz, PL.pC, PL.pN, PL.pNo, PL.pBin, PL.negP, PL.pB, PL.pAnd, PL.pOr, PL.pNot, PL.pAndV, PL.pOrV, PL.pNotV, PL.pIf, PL.paNil, PL.paCons, PL.pLst, PL.pTup, PL.pIx, PL.pSl, PL.poNone, PL.poSome, PL.pCall, PL.pCallK, PL.piR1, PL.piR2, PL.piE, PL.pBits, PL.isiP_eq, PL.pLr1, PL.pJoinR, PL.pJoin, PL.pLc_eq, PL.pYes, PL.wipeC, PL.pBor, PL.pBorT, PL.frzs, PL.pSetI, PL.pChainT, PL.isNP, PL.addP_i, PL.addP_s, PL.addP_t, PL.addP_l, PL.catP_l, PL.subP_i, PL.mulP_i, PL.mulP_l, PL.repP_l, PL.mulP_s, PL.fdivP_i, PL.modP_i, PL.powP_i, PL.ltP_i, PL.ltP_s, PL.gtP_i, PL.gtP_s, PL.leP_i, PL.leP_s, PL.geP_i, PL.geP_s, PL.eqP_int, PL.eqP_str, PL.eqP_bl, PL.eqP_lst_lst, PL.eqP_tup_tup, PL.eqP_lst_tup, PL.eqP_tup_lst, PL.neP_int, PL.neP_str, PL.neP_bl, PL.neP_lst_lst, PL.neP_tup_tup, PL.neP_lst_tup, PL.neP_tup_lst, PL.asB_b, PL.asS_s, PL.lenP_lst, PL.itP_lst, PL.ixP_lst, PL.listP_lst_, PL.tupleP_lst_, PL.sumP_lst_, PL.maxP_lst_, PL.minP_lst_, PL.lenP_tup, PL.itP_tup, PL.ixP_tup, PL.listP_tup_, PL.tupleP_tup_, PL.sumP_tup_, PL.maxP_tup_, PL.minP_tup_, PL.lenP_scr, PL.itP_scr, PL.ixP_scr, PL.listP_scr_, PL.tupleP_scr_, PL.sumP_scr_, PL.maxP_scr_, PL.minP_scr_, PL.lenP_str, PL.lenP_dk, PL.itP_str, PL.ixP_str, PL.intP_i, PL.intP_b, PL.rg1_i, PL.rg2_i, PL.lr1_i, PL.lr2_i, PL.maxP_2, PL.maxP_3, PL.minP_2, PL.minP_3, PL.slP_lst, PL.slP_tup, PL.slP_str, PL.slPL_lst, PL.pgTup_t, PL.pgTup_l, PL.pgsCons_c, PL.pgsNil_n, PL.joinRP_l, PL.reprP_i, PL.setP_i, PL.ixE_0, PL.ixE_1, PL.ixE_2, PL.ixE_3, PL.ixE_4, PL.ixE_5, PL.ixE_6, PL.ixE_7, PL.ixE_8, PL.isqrtP_i, PL.reprLP_l, PL.pMkE, PL.pErF, PL.pIsE, PL.pRevS, PL.pRetO, PL.pRetON, PL.divmodP_i, PL.pGet, PL.isi_non_int, PL.isi_non_bool, PL.isi_non_str, PL.isi_non_list, PL.isi_non_tuple, PL.isi_bl_int, PL.isi_bl_bool, PL.isi_bl_str, PL.isi_bl_list, PL.isi_bl_tuple, PL.isi_int_int, PL.isi_int_bool, PL.isi_int_str, PL.isi_int_list, PL.isi_int_tuple, PL.isi_str_int, PL.isi_str_bool, PL.isi_str_str, PL.isi_str_list, PL.isi_str_tuple, PL.isi_tup_int, PL.isi_tup_bool, PL.isi_tup_str, PL.isi_tup_list, PL.isi_tup_tuple, PL.isi_lst_int, PL.isi_lst_bool, PL.isi_lst_str, PL.isi_lst_list, PL.isi_lst_tuple, PL.pickL, List.filterMap_cons, List.filterMap_nil, true_and, decide_true, decide_false, eq_self, Int.zero_add, decide_eq_true_eq, PL.rowE, PL.rowS, PL.startC, List.length_map, List.map_cons, List.map_nil, List.length_cons, List.length_nil, List.append_nil, List.nil_append, List.cons_append, List.replicate_succ, List.replicate_zero, List.set_cons_zero, List.set_cons_succ, List.getElem?_cons_zero, List.getElem?_cons_succ, Nat.reduceAdd, Nat.reduceSub, if_true, Bool.not_true, Bool.not_false, Bool.false_eq_true, if_false])
    exact q
/-! the law -/
def szR : List Int := [6, 6, 3600, 2, 8, 100, 4, 4] ++ List.replicate 8 100000000
def szF : List Int := [41, 401, 4] ++ List.replicate 6 100000000
theorem log_of {a : Int} {n : Nat} (h : a.natAbs < 2 ^ n) (hn : n ≤ 1900) : a.natAbs.log2 < 1920 := by
  by_cases z : a.natAbs = 0
  · rw [z]; decide
  · have := (Nat.log2_lt z).mpr h
    omega
theorem rep2 {a b : Int} {n : Nat} (hn : n ≤ 1900) (ha : a.natAbs < 2 ^ n) (hb : b.natAbs < 2 ^ n) {R : Prop} (h : R) : flats [D.int a, .int b] = true ∧ (toPy (.lst [D.int a, .int b])).showable = true ∧ (toPy (.lst [D.int a, .int b])).hasDict = false ∧ (toPy (.lst [D.int a, .int b])).depth ≤ 64 ∧ (toPy (.lst [D.int a, .int b])).shown.length ≤ sizeLine ∧ R := by
  have la := log_of ha hn
  have lb := log_of hb hn
  have hz : sizeLine = 16777216 := PySem.sizeLine_eq
  have e : toPy (.lst [D.int a, .int b]) = .list [.int a, .int b] := rfl
  rw [e]
  refine ⟨rfl, ?_, rfl, by simp only [PyData.depth, PyData.depthAll]; decide, ?_, h⟩
  · show (decide ((a : Int).natAbs.log2 < 1920) && (decide ((b : Int).natAbs.log2 < 1920) && true)) = true
    rw [decide_eq_true la, decide_eq_true lb]; rfl
  · have t1 := int_text_len_1921 la
    have t2 := int_text_len_1921 lb
    show (listText [Str.ofString (toString (a : Int)), Str.ofString (toString (b : Int))]).length ≤ sizeLine
    unfold listText textFrom textFrom textFrom
    have z1 : (Str.ofString "[").length = 1 := by decide +kernel
    have z2 : (Str.ofString "]").length = 1 := by decide +kernel
    have z3 : (Str.ofString ", ").length = 2 := by decide +kernel
    have z4 : (Str.ofString "").length = 0 := by decide +kernel
    simp only [Str.length_append, Nat.lt_irrefl, if_false, Nat.zero_add, Nat.succ_pos, if_true, gt_iff_lt, z1, z2, z3, z4]
    omega
theorem to_bd {s t n : Int} (b : RB s t n) : 0 ≤ PL.TO s t n ∧ PL.TO s t n < 2 ^ 300 := by
  obtain ⟨l1, l2, l3, l4⟩ := told_bd b
  have u := up190 b.n1
  have n0 := b.n0
  have h0 : 0 ≤ n * ((lw s : Int) + 1 + 2 * lw t) := Int.mul_nonneg n0 (by omega)
  have h1 : n * ((lw s : Int) + 1 + 2 * lw t) ≤ n * 28 := Int.mul_le_mul_of_nonneg_left (by omega) n0
  have q : (2 : Int) ^ 210 = 2 ^ 10 * 2 ^ 200 := by rw [← Int.pow_add]
  have q2 : (2 : Int) ^ 210 ≤ 2 ^ 300 := pow2_le (by decide)
  have q3 : (2 : Int) ^ 10 = 1024 := by decide
  have q4 : (2 : Int) ^ 10 ≤ 2 ^ 200 := pow2_le (by decide)
  unfold PL.TO
  omega
theorem xs_bd {s t n : Int} (b : RB s t n) : (XS s t n).natAbs < 2 ^ 300 ∧ (PL.TO s t n).natAbs < 2 ^ 300 := by
  have u := up190 b.n1
  have h1 := PB_bd b.s1 b.n0 (by omega : n < 2 ^ 200)
  have h2 := FB_bd b.t1 b.n0 (by omega : n < 2 ^ 200)
  have h3 := to_bd b
  have e : ((2 ^ 300 : Nat) : Int) = 2 ^ 300 := by simp
  unfold XS
  omega
theorem w_law : ∀ ds Q, sp_law ds Q → b_law sp_law_digits sp_law_cell sp_law_asked sp_law_big sp_excess sp_told_excess sp_law_numbers_hold sp_law_small_hold sp_law_great_hold { nx := fun _ => Q .non, rt := Q } (startC ["script", "row", "letters", "states", "many", "more", "kept", "far"] ds) := by
  rintro _ Q ⟨ns, rfl, hn, h⟩
  have hz : sizeLine = 16777216 := PySem.sizeLine_eq
  have bg := t30
  simp only [PL.startC, List.map_cons, List.map_nil, List.length_cons, List.length_nil, Nat.reduceAdd, Nat.reduceSub, List.replicate_succ, List.replicate_zero, List.cons_append, List.nil_append, List.append_nil]
  unfold b_law
  (try simp only [PL.pSeq, PL.pNext, PL.pSet, PL.pSetO, PL.pRet, PL.pRetN, PL.pIfS, PL.pFor, PL.pWhile, PL.pBrk, PL.pCnt, PL.pDrop, PL.pApp, PL.pAsg, PL.pgN, PL.pFrz, PL.frz, PL.pC, PL.pN, PL.pNo, PL.pBin, PL.negP, PL.pB, PL.pAnd, PL.pOr, PL.pNot, PL.pAndV, PL.pOrV, PL.pNotV, PL.pIf, PL.paNil, PL.paCons, PL.pLst, PL.pTup, PL.pIx, PL.pSl, PL.poNone, PL.poSome, PL.pCall, PL.pCallK, PL.piR1, PL.piR2, PL.piE, PL.pBits, PL.isiP_eq, PL.pLr1, PL.pJoinR, PL.pJoin, PL.pLc_eq, PL.pYes, PL.wipeC, PL.pBor, PL.pBorT, PL.frzs, PL.pSetI, PL.pChainT, PL.isNP, PL.addP_i, PL.addP_s, PL.addP_t, PL.addP_l, PL.catP_l, PL.subP_i, PL.mulP_i, PL.mulP_l, PL.repP_l, PL.mulP_s, PL.fdivP_i, PL.modP_i, PL.powP_i, PL.ltP_i, PL.ltP_s, PL.gtP_i, PL.gtP_s, PL.leP_i, PL.leP_s, PL.geP_i, PL.geP_s, PL.eqP_int, PL.eqP_str, PL.eqP_bl, PL.eqP_lst_lst, PL.eqP_tup_tup, PL.eqP_lst_tup, PL.eqP_tup_lst, PL.neP_int, PL.neP_str, PL.neP_bl, PL.neP_lst_lst, PL.neP_tup_tup, PL.neP_lst_tup, PL.neP_tup_lst, PL.asB_b, PL.asS_s, PL.lenP_lst, PL.itP_lst, PL.ixP_lst, PL.listP_lst_, PL.tupleP_lst_, PL.sumP_lst_, PL.maxP_lst_, PL.minP_lst_, PL.lenP_tup, PL.itP_tup, PL.ixP_tup, PL.listP_tup_, PL.tupleP_tup_, PL.sumP_tup_, PL.maxP_tup_, PL.minP_tup_, PL.lenP_scr, PL.itP_scr, PL.ixP_scr, PL.listP_scr_, PL.tupleP_scr_, PL.sumP_scr_, PL.maxP_scr_, PL.minP_scr_, PL.lenP_str, PL.lenP_dk, PL.itP_str, PL.ixP_str, PL.intP_i, PL.intP_b, PL.rg1_i, PL.rg2_i, PL.lr1_i, PL.lr2_i, PL.maxP_2, PL.maxP_3, PL.minP_2, PL.minP_3, PL.slP_lst, PL.slP_tup, PL.slP_str, PL.slPL_lst, PL.pgTup_t, PL.pgTup_l, PL.pgsCons_c, PL.pgsNil_n, PL.joinRP_l, PL.reprP_i, PL.setP_i, PL.ixE_0, PL.ixE_1, PL.ixE_2, PL.ixE_3, PL.ixE_4, PL.ixE_5, PL.ixE_6, PL.ixE_7, PL.ixE_8, PL.isqrtP_i, PL.reprLP_l, PL.pMkE, PL.pErF, PL.pIsE, PL.pRevS, PL.pRetO, PL.pRetON, PL.divmodP_i, PL.pGet, PL.isi_non_int, PL.isi_non_bool, PL.isi_non_str, PL.isi_non_list, PL.isi_non_tuple, PL.isi_bl_int, PL.isi_bl_bool, PL.isi_bl_str, PL.isi_bl_list, PL.isi_bl_tuple, PL.isi_int_int, PL.isi_int_bool, PL.isi_int_str, PL.isi_int_list, PL.isi_int_tuple, PL.isi_str_int, PL.isi_str_bool, PL.isi_str_str, PL.isi_str_list, PL.isi_str_tuple, PL.isi_tup_int, PL.isi_tup_bool, PL.isi_tup_str, PL.isi_tup_list, PL.isi_tup_tuple, PL.isi_lst_int, PL.isi_lst_bool, PL.isi_lst_str, PL.isi_lst_list, PL.isi_lst_tuple, PL.pickL, List.filterMap_cons, List.filterMap_nil, true_and, decide_true, decide_false, eq_self, Int.zero_add, decide_eq_true_eq, PL.rowE, PL.rowS, PL.startC, List.length_map, List.map_cons, List.map_nil, List.length_cons, List.length_nil, List.append_nil, List.nil_append, List.cons_append, List.replicate_succ, List.replicate_zero, List.set_cons_zero, List.set_cons_succ, List.getElem?_cons_zero, List.getElem?_cons_succ, Nat.reduceAdd, Nat.reduceSub, if_true, Bool.not_true, Bool.not_false, Bool.false_eq_true, if_false, p30])
  refine ⟨ns, 0, rfl, hn, by decide, by decide, fun c0 => ?_⟩
  refine ⟨by omega, by omega, by decide, by decide, by decide, by decide, ?_⟩
  refine ⟨c0, szR, rfl, by decide, sizes_ok (by decide), fun row hr => ?_⟩
  obtain ⟨r0, e0, z0, z1⟩ := hr.get (i := 0) rfl
  obtain ⟨r1, e1, a0, a1⟩ := hr.get (i := 1) rfl
  obtain ⟨r2, e2, b0, b1⟩ := hr.get (i := 2) rfl
  obtain ⟨r3, e3, c0', c1⟩ := hr.get (i := 3) rfl
  obtain ⟨r7, e7, d0, d1⟩ := hr.get (i := 7) rfl
  have rl : row.length = 16 := hr.length
  (try simp only [PL.pSeq, PL.pNext, PL.pSet, PL.pSetO, PL.pRet, PL.pRetN, PL.pIfS, PL.pFor, PL.pWhile, PL.pBrk, PL.pCnt, PL.pDrop, PL.pApp, PL.pAsg, PL.pgN, PL.pFrz, PL.frz, PL.pC, PL.pN, PL.pNo, PL.pBin, PL.negP, PL.pB, PL.pAnd, PL.pOr, PL.pNot, PL.pAndV, PL.pOrV, PL.pNotV, PL.pIf, PL.paNil, PL.paCons, PL.pLst, PL.pTup, PL.pIx, PL.pSl, PL.poNone, PL.poSome, PL.pCall, PL.pCallK, PL.piR1, PL.piR2, PL.piE, PL.pBits, PL.isiP_eq, PL.pLr1, PL.pJoinR, PL.pJoin, PL.pLc_eq, PL.pYes, PL.wipeC, PL.pBor, PL.pBorT, PL.frzs, PL.pSetI, PL.pChainT, PL.isNP, PL.addP_i, PL.addP_s, PL.addP_t, PL.addP_l, PL.catP_l, PL.subP_i, PL.mulP_i, PL.mulP_l, PL.repP_l, PL.mulP_s, PL.fdivP_i, PL.modP_i, PL.powP_i, PL.ltP_i, PL.ltP_s, PL.gtP_i, PL.gtP_s, PL.leP_i, PL.leP_s, PL.geP_i, PL.geP_s, PL.eqP_int, PL.eqP_str, PL.eqP_bl, PL.eqP_lst_lst, PL.eqP_tup_tup, PL.eqP_lst_tup, PL.eqP_tup_lst, PL.neP_int, PL.neP_str, PL.neP_bl, PL.neP_lst_lst, PL.neP_tup_tup, PL.neP_lst_tup, PL.neP_tup_lst, PL.asB_b, PL.asS_s, PL.lenP_lst, PL.itP_lst, PL.ixP_lst, PL.listP_lst_, PL.tupleP_lst_, PL.sumP_lst_, PL.maxP_lst_, PL.minP_lst_, PL.lenP_tup, PL.itP_tup, PL.ixP_tup, PL.listP_tup_, PL.tupleP_tup_, PL.sumP_tup_, PL.maxP_tup_, PL.minP_tup_, PL.lenP_scr, PL.itP_scr, PL.ixP_scr, PL.listP_scr_, PL.tupleP_scr_, PL.sumP_scr_, PL.maxP_scr_, PL.minP_scr_, PL.lenP_str, PL.lenP_dk, PL.itP_str, PL.ixP_str, PL.intP_i, PL.intP_b, PL.rg1_i, PL.rg2_i, PL.lr1_i, PL.lr2_i, PL.maxP_2, PL.maxP_3, PL.minP_2, PL.minP_3, PL.slP_lst, PL.slP_tup, PL.slP_str, PL.slPL_lst, PL.pgTup_t, PL.pgTup_l, PL.pgsCons_c, PL.pgsNil_n, PL.joinRP_l, PL.reprP_i, PL.setP_i, PL.ixE_0, PL.ixE_1, PL.ixE_2, PL.ixE_3, PL.ixE_4, PL.ixE_5, PL.ixE_6, PL.ixE_7, PL.ixE_8, PL.isqrtP_i, PL.reprLP_l, PL.pMkE, PL.pErF, PL.pIsE, PL.pRevS, PL.pRetO, PL.pRetON, PL.divmodP_i, PL.pGet, PL.isi_non_int, PL.isi_non_bool, PL.isi_non_str, PL.isi_non_list, PL.isi_non_tuple, PL.isi_bl_int, PL.isi_bl_bool, PL.isi_bl_str, PL.isi_bl_list, PL.isi_bl_tuple, PL.isi_int_int, PL.isi_int_bool, PL.isi_int_str, PL.isi_int_list, PL.isi_int_tuple, PL.isi_str_int, PL.isi_str_bool, PL.isi_str_str, PL.isi_str_list, PL.isi_str_tuple, PL.isi_tup_int, PL.isi_tup_bool, PL.isi_tup_str, PL.isi_tup_list, PL.isi_tup_tuple, PL.isi_lst_int, PL.isi_lst_bool, PL.isi_lst_str, PL.isi_lst_list, PL.isi_lst_tuple, PL.pickL, List.filterMap_cons, List.filterMap_nil, true_and, decide_true, decide_false, eq_self, Int.zero_add, decide_eq_true_eq, PL.rowE, PL.rowS, PL.startC, List.length_map, List.map_cons, List.map_nil, List.length_cons, List.length_nil, List.append_nil, List.nil_append, List.cons_append, List.replicate_succ, List.replicate_zero, List.set_cons_zero, List.set_cons_succ, List.getElem?_cons_zero, List.getElem?_cons_succ, Nat.reduceAdd, Nat.reduceSub, if_true, Bool.not_true, Bool.not_false, Bool.false_eq_true, if_false])
  refine ⟨_, atI_int D.int 0 rfl e0, ?_⟩
  (try simp only [PL.pSeq, PL.pNext, PL.pSet, PL.pSetO, PL.pRet, PL.pRetN, PL.pIfS, PL.pFor, PL.pWhile, PL.pBrk, PL.pCnt, PL.pDrop, PL.pApp, PL.pAsg, PL.pgN, PL.pFrz, PL.frz, PL.pC, PL.pN, PL.pNo, PL.pBin, PL.negP, PL.pB, PL.pAnd, PL.pOr, PL.pNot, PL.pAndV, PL.pOrV, PL.pNotV, PL.pIf, PL.paNil, PL.paCons, PL.pLst, PL.pTup, PL.pIx, PL.pSl, PL.poNone, PL.poSome, PL.pCall, PL.pCallK, PL.piR1, PL.piR2, PL.piE, PL.pBits, PL.isiP_eq, PL.pLr1, PL.pJoinR, PL.pJoin, PL.pLc_eq, PL.pYes, PL.wipeC, PL.pBor, PL.pBorT, PL.frzs, PL.pSetI, PL.pChainT, PL.isNP, PL.addP_i, PL.addP_s, PL.addP_t, PL.addP_l, PL.catP_l, PL.subP_i, PL.mulP_i, PL.mulP_l, PL.repP_l, PL.mulP_s, PL.fdivP_i, PL.modP_i, PL.powP_i, PL.ltP_i, PL.ltP_s, PL.gtP_i, PL.gtP_s, PL.leP_i, PL.leP_s, PL.geP_i, PL.geP_s, PL.eqP_int, PL.eqP_str, PL.eqP_bl, PL.eqP_lst_lst, PL.eqP_tup_tup, PL.eqP_lst_tup, PL.eqP_tup_lst, PL.neP_int, PL.neP_str, PL.neP_bl, PL.neP_lst_lst, PL.neP_tup_tup, PL.neP_lst_tup, PL.neP_tup_lst, PL.asB_b, PL.asS_s, PL.lenP_lst, PL.itP_lst, PL.ixP_lst, PL.listP_lst_, PL.tupleP_lst_, PL.sumP_lst_, PL.maxP_lst_, PL.minP_lst_, PL.lenP_tup, PL.itP_tup, PL.ixP_tup, PL.listP_tup_, PL.tupleP_tup_, PL.sumP_tup_, PL.maxP_tup_, PL.minP_tup_, PL.lenP_scr, PL.itP_scr, PL.ixP_scr, PL.listP_scr_, PL.tupleP_scr_, PL.sumP_scr_, PL.maxP_scr_, PL.minP_scr_, PL.lenP_str, PL.lenP_dk, PL.itP_str, PL.ixP_str, PL.intP_i, PL.intP_b, PL.rg1_i, PL.rg2_i, PL.lr1_i, PL.lr2_i, PL.maxP_2, PL.maxP_3, PL.minP_2, PL.minP_3, PL.slP_lst, PL.slP_tup, PL.slP_str, PL.slPL_lst, PL.pgTup_t, PL.pgTup_l, PL.pgsCons_c, PL.pgsNil_n, PL.joinRP_l, PL.reprP_i, PL.setP_i, PL.ixE_0, PL.ixE_1, PL.ixE_2, PL.ixE_3, PL.ixE_4, PL.ixE_5, PL.ixE_6, PL.ixE_7, PL.ixE_8, PL.isqrtP_i, PL.reprLP_l, PL.pMkE, PL.pErF, PL.pIsE, PL.pRevS, PL.pRetO, PL.pRetON, PL.divmodP_i, PL.pGet, PL.isi_non_int, PL.isi_non_bool, PL.isi_non_str, PL.isi_non_list, PL.isi_non_tuple, PL.isi_bl_int, PL.isi_bl_bool, PL.isi_bl_str, PL.isi_bl_list, PL.isi_bl_tuple, PL.isi_int_int, PL.isi_int_bool, PL.isi_int_str, PL.isi_int_list, PL.isi_int_tuple, PL.isi_str_int, PL.isi_str_bool, PL.isi_str_str, PL.isi_str_list, PL.isi_str_tuple, PL.isi_tup_int, PL.isi_tup_bool, PL.isi_tup_str, PL.isi_tup_list, PL.isi_tup_tuple, PL.isi_lst_int, PL.isi_lst_bool, PL.isi_lst_str, PL.isi_lst_list, PL.isi_lst_tuple, PL.pickL, List.filterMap_cons, List.filterMap_nil, true_and, decide_true, decide_false, eq_self, Int.zero_add, decide_eq_true_eq, PL.rowE, PL.rowS, PL.startC, List.length_map, List.map_cons, List.map_nil, List.length_cons, List.length_nil, List.append_nil, List.nil_append, List.cons_append, List.replicate_succ, List.replicate_zero, List.set_cons_zero, List.set_cons_succ, List.getElem?_cons_zero, List.getElem?_cons_succ, Nat.reduceAdd, Nat.reduceSub, if_true, Bool.not_true, Bool.not_false, Bool.false_eq_true, if_false])
  refine ⟨_, atI_int D.int 2 rfl e2, ?_⟩
  (try simp only [PL.pSeq, PL.pNext, PL.pSet, PL.pSetO, PL.pRet, PL.pRetN, PL.pIfS, PL.pFor, PL.pWhile, PL.pBrk, PL.pCnt, PL.pDrop, PL.pApp, PL.pAsg, PL.pgN, PL.pFrz, PL.frz, PL.pC, PL.pN, PL.pNo, PL.pBin, PL.negP, PL.pB, PL.pAnd, PL.pOr, PL.pNot, PL.pAndV, PL.pOrV, PL.pNotV, PL.pIf, PL.paNil, PL.paCons, PL.pLst, PL.pTup, PL.pIx, PL.pSl, PL.poNone, PL.poSome, PL.pCall, PL.pCallK, PL.piR1, PL.piR2, PL.piE, PL.pBits, PL.isiP_eq, PL.pLr1, PL.pJoinR, PL.pJoin, PL.pLc_eq, PL.pYes, PL.wipeC, PL.pBor, PL.pBorT, PL.frzs, PL.pSetI, PL.pChainT, PL.isNP, PL.addP_i, PL.addP_s, PL.addP_t, PL.addP_l, PL.catP_l, PL.subP_i, PL.mulP_i, PL.mulP_l, PL.repP_l, PL.mulP_s, PL.fdivP_i, PL.modP_i, PL.powP_i, PL.ltP_i, PL.ltP_s, PL.gtP_i, PL.gtP_s, PL.leP_i, PL.leP_s, PL.geP_i, PL.geP_s, PL.eqP_int, PL.eqP_str, PL.eqP_bl, PL.eqP_lst_lst, PL.eqP_tup_tup, PL.eqP_lst_tup, PL.eqP_tup_lst, PL.neP_int, PL.neP_str, PL.neP_bl, PL.neP_lst_lst, PL.neP_tup_tup, PL.neP_lst_tup, PL.neP_tup_lst, PL.asB_b, PL.asS_s, PL.lenP_lst, PL.itP_lst, PL.ixP_lst, PL.listP_lst_, PL.tupleP_lst_, PL.sumP_lst_, PL.maxP_lst_, PL.minP_lst_, PL.lenP_tup, PL.itP_tup, PL.ixP_tup, PL.listP_tup_, PL.tupleP_tup_, PL.sumP_tup_, PL.maxP_tup_, PL.minP_tup_, PL.lenP_scr, PL.itP_scr, PL.ixP_scr, PL.listP_scr_, PL.tupleP_scr_, PL.sumP_scr_, PL.maxP_scr_, PL.minP_scr_, PL.lenP_str, PL.lenP_dk, PL.itP_str, PL.ixP_str, PL.intP_i, PL.intP_b, PL.rg1_i, PL.rg2_i, PL.lr1_i, PL.lr2_i, PL.maxP_2, PL.maxP_3, PL.minP_2, PL.minP_3, PL.slP_lst, PL.slP_tup, PL.slP_str, PL.slPL_lst, PL.pgTup_t, PL.pgTup_l, PL.pgsCons_c, PL.pgsNil_n, PL.joinRP_l, PL.reprP_i, PL.setP_i, PL.ixE_0, PL.ixE_1, PL.ixE_2, PL.ixE_3, PL.ixE_4, PL.ixE_5, PL.ixE_6, PL.ixE_7, PL.ixE_8, PL.isqrtP_i, PL.reprLP_l, PL.pMkE, PL.pErF, PL.pIsE, PL.pRevS, PL.pRetO, PL.pRetON, PL.divmodP_i, PL.pGet, PL.isi_non_int, PL.isi_non_bool, PL.isi_non_str, PL.isi_non_list, PL.isi_non_tuple, PL.isi_bl_int, PL.isi_bl_bool, PL.isi_bl_str, PL.isi_bl_list, PL.isi_bl_tuple, PL.isi_int_int, PL.isi_int_bool, PL.isi_int_str, PL.isi_int_list, PL.isi_int_tuple, PL.isi_str_int, PL.isi_str_bool, PL.isi_str_str, PL.isi_str_list, PL.isi_str_tuple, PL.isi_tup_int, PL.isi_tup_bool, PL.isi_tup_str, PL.isi_tup_list, PL.isi_tup_tuple, PL.isi_lst_int, PL.isi_lst_bool, PL.isi_lst_str, PL.isi_lst_list, PL.isi_lst_tuple, PL.pickL, List.filterMap_cons, List.filterMap_nil, true_and, decide_true, decide_false, eq_self, Int.zero_add, decide_eq_true_eq, PL.rowE, PL.rowS, PL.startC, List.length_map, List.map_cons, List.map_nil, List.length_cons, List.length_nil, List.append_nil, List.nil_append, List.cons_append, List.replicate_succ, List.replicate_zero, List.set_cons_zero, List.set_cons_succ, List.getElem?_cons_zero, List.getElem?_cons_succ, Nat.reduceAdd, Nat.reduceSub, if_true, Bool.not_true, Bool.not_false, Bool.false_eq_true, if_false])
  obtain ⟨b, hb⟩ := Int.eq_ofNat_of_zero_le (show 0 ≤ 1 + r0 by omega)
  rw [hb]
  have b1' : 1 ≤ b := by omega
  have b6 : b ≤ 6 := by omega
  refine jn (fun e => ∃ t : Int, 1 ≤ t ∧ t ≤ 3600 ∧ e = [C.fz (.scr (ns.map D.int)), C.fz (.lst (row.map D.int)), N' b, C.fz (.int t), .un, .un, .un, .un]) ?_ ?_
  · (try simp only [PL.pSeq, PL.pNext, PL.pSet, PL.pSetO, PL.pRet, PL.pRetN, PL.pIfS, PL.pFor, PL.pWhile, PL.pBrk, PL.pCnt, PL.pDrop, PL.pApp, PL.pAsg, PL.pgN, PL.pFrz, PL.frz, PL.pC, PL.pN, PL.pNo, PL.pBin, PL.negP, PL.pB, PL.pAnd, PL.pOr, PL.pNot, PL.pAndV, PL.pOrV, PL.pNotV, PL.pIf, PL.paNil, PL.paCons, PL.pLst, PL.pTup, PL.pIx, PL.pSl, PL.poNone, PL.poSome, PL.pCall, PL.pCallK, PL.piR1, PL.piR2, PL.piE, PL.pBits, PL.isiP_eq, PL.pLr1, PL.pJoinR, PL.pJoin, PL.pLc_eq, PL.pYes, PL.wipeC, PL.pBor, PL.pBorT, PL.frzs, PL.pSetI, PL.pChainT, PL.isNP, PL.addP_i, PL.addP_s, PL.addP_t, PL.addP_l, PL.catP_l, PL.subP_i, PL.mulP_i, PL.mulP_l, PL.repP_l, PL.mulP_s, PL.fdivP_i, PL.modP_i, PL.powP_i, PL.ltP_i, PL.ltP_s, PL.gtP_i, PL.gtP_s, PL.leP_i, PL.leP_s, PL.geP_i, PL.geP_s, PL.eqP_int, PL.eqP_str, PL.eqP_bl, PL.eqP_lst_lst, PL.eqP_tup_tup, PL.eqP_lst_tup, PL.eqP_tup_lst, PL.neP_int, PL.neP_str, PL.neP_bl, PL.neP_lst_lst, PL.neP_tup_tup, PL.neP_lst_tup, PL.neP_tup_lst, PL.asB_b, PL.asS_s, PL.lenP_lst, PL.itP_lst, PL.ixP_lst, PL.listP_lst_, PL.tupleP_lst_, PL.sumP_lst_, PL.maxP_lst_, PL.minP_lst_, PL.lenP_tup, PL.itP_tup, PL.ixP_tup, PL.listP_tup_, PL.tupleP_tup_, PL.sumP_tup_, PL.maxP_tup_, PL.minP_tup_, PL.lenP_scr, PL.itP_scr, PL.ixP_scr, PL.listP_scr_, PL.tupleP_scr_, PL.sumP_scr_, PL.maxP_scr_, PL.minP_scr_, PL.lenP_str, PL.lenP_dk, PL.itP_str, PL.ixP_str, PL.intP_i, PL.intP_b, PL.rg1_i, PL.rg2_i, PL.lr1_i, PL.lr2_i, PL.maxP_2, PL.maxP_3, PL.minP_2, PL.minP_3, PL.slP_lst, PL.slP_tup, PL.slP_str, PL.slPL_lst, PL.pgTup_t, PL.pgTup_l, PL.pgsCons_c, PL.pgsNil_n, PL.joinRP_l, PL.reprP_i, PL.setP_i, PL.ixE_0, PL.ixE_1, PL.ixE_2, PL.ixE_3, PL.ixE_4, PL.ixE_5, PL.ixE_6, PL.ixE_7, PL.ixE_8, PL.isqrtP_i, PL.reprLP_l, PL.pMkE, PL.pErF, PL.pIsE, PL.pRevS, PL.pRetO, PL.pRetON, PL.divmodP_i, PL.pGet, PL.isi_non_int, PL.isi_non_bool, PL.isi_non_str, PL.isi_non_list, PL.isi_non_tuple, PL.isi_bl_int, PL.isi_bl_bool, PL.isi_bl_str, PL.isi_bl_list, PL.isi_bl_tuple, PL.isi_int_int, PL.isi_int_bool, PL.isi_int_str, PL.isi_int_list, PL.isi_int_tuple, PL.isi_str_int, PL.isi_str_bool, PL.isi_str_str, PL.isi_str_list, PL.isi_str_tuple, PL.isi_tup_int, PL.isi_tup_bool, PL.isi_tup_str, PL.isi_tup_list, PL.isi_tup_tuple, PL.isi_lst_int, PL.isi_lst_bool, PL.isi_lst_str, PL.isi_lst_list, PL.isi_lst_tuple, PL.pickL, List.filterMap_cons, List.filterMap_nil, true_and, decide_true, decide_false, eq_self, Int.zero_add, decide_eq_true_eq, PL.rowE, PL.rowS, PL.startC, List.length_map, List.map_cons, List.map_nil, List.length_cons, List.length_nil, List.append_nil, List.nil_append, List.cons_append, List.replicate_succ, List.replicate_zero, List.set_cons_zero, List.set_cons_succ, List.getElem?_cons_zero, List.getElem?_cons_succ, Nat.reduceAdd, Nat.reduceSub, if_true, Bool.not_true, Bool.not_false, Bool.false_eq_true, if_false])
    refine ⟨_, atI_int D.int 1 rfl e1, ?_⟩
    (try simp only [PL.pSeq, PL.pNext, PL.pSet, PL.pSetO, PL.pRet, PL.pRetN, PL.pIfS, PL.pFor, PL.pWhile, PL.pBrk, PL.pCnt, PL.pDrop, PL.pApp, PL.pAsg, PL.pgN, PL.pFrz, PL.frz, PL.pC, PL.pN, PL.pNo, PL.pBin, PL.negP, PL.pB, PL.pAnd, PL.pOr, PL.pNot, PL.pAndV, PL.pOrV, PL.pNotV, PL.pIf, PL.paNil, PL.paCons, PL.pLst, PL.pTup, PL.pIx, PL.pSl, PL.poNone, PL.poSome, PL.pCall, PL.pCallK, PL.piR1, PL.piR2, PL.piE, PL.pBits, PL.isiP_eq, PL.pLr1, PL.pJoinR, PL.pJoin, PL.pLc_eq, PL.pYes, PL.wipeC, PL.pBor, PL.pBorT, PL.frzs, PL.pSetI, PL.pChainT, PL.isNP, PL.addP_i, PL.addP_s, PL.addP_t, PL.addP_l, PL.catP_l, PL.subP_i, PL.mulP_i, PL.mulP_l, PL.repP_l, PL.mulP_s, PL.fdivP_i, PL.modP_i, PL.powP_i, PL.ltP_i, PL.ltP_s, PL.gtP_i, PL.gtP_s, PL.leP_i, PL.leP_s, PL.geP_i, PL.geP_s, PL.eqP_int, PL.eqP_str, PL.eqP_bl, PL.eqP_lst_lst, PL.eqP_tup_tup, PL.eqP_lst_tup, PL.eqP_tup_lst, PL.neP_int, PL.neP_str, PL.neP_bl, PL.neP_lst_lst, PL.neP_tup_tup, PL.neP_lst_tup, PL.neP_tup_lst, PL.asB_b, PL.asS_s, PL.lenP_lst, PL.itP_lst, PL.ixP_lst, PL.listP_lst_, PL.tupleP_lst_, PL.sumP_lst_, PL.maxP_lst_, PL.minP_lst_, PL.lenP_tup, PL.itP_tup, PL.ixP_tup, PL.listP_tup_, PL.tupleP_tup_, PL.sumP_tup_, PL.maxP_tup_, PL.minP_tup_, PL.lenP_scr, PL.itP_scr, PL.ixP_scr, PL.listP_scr_, PL.tupleP_scr_, PL.sumP_scr_, PL.maxP_scr_, PL.minP_scr_, PL.lenP_str, PL.lenP_dk, PL.itP_str, PL.ixP_str, PL.intP_i, PL.intP_b, PL.rg1_i, PL.rg2_i, PL.lr1_i, PL.lr2_i, PL.maxP_2, PL.maxP_3, PL.minP_2, PL.minP_3, PL.slP_lst, PL.slP_tup, PL.slP_str, PL.slPL_lst, PL.pgTup_t, PL.pgTup_l, PL.pgsCons_c, PL.pgsNil_n, PL.joinRP_l, PL.reprP_i, PL.setP_i, PL.ixE_0, PL.ixE_1, PL.ixE_2, PL.ixE_3, PL.ixE_4, PL.ixE_5, PL.ixE_6, PL.ixE_7, PL.ixE_8, PL.isqrtP_i, PL.reprLP_l, PL.pMkE, PL.pErF, PL.pIsE, PL.pRevS, PL.pRetO, PL.pRetON, PL.divmodP_i, PL.pGet, PL.isi_non_int, PL.isi_non_bool, PL.isi_non_str, PL.isi_non_list, PL.isi_non_tuple, PL.isi_bl_int, PL.isi_bl_bool, PL.isi_bl_str, PL.isi_bl_list, PL.isi_bl_tuple, PL.isi_int_int, PL.isi_int_bool, PL.isi_int_str, PL.isi_int_list, PL.isi_int_tuple, PL.isi_str_int, PL.isi_str_bool, PL.isi_str_str, PL.isi_str_list, PL.isi_str_tuple, PL.isi_tup_int, PL.isi_tup_bool, PL.isi_tup_str, PL.isi_tup_list, PL.isi_tup_tuple, PL.isi_lst_int, PL.isi_lst_bool, PL.isi_lst_str, PL.isi_lst_list, PL.isi_lst_tuple, PL.pickL, List.filterMap_cons, List.filterMap_nil, true_and, decide_true, decide_false, eq_self, Int.zero_add, decide_eq_true_eq, PL.rowE, PL.rowS, PL.startC, List.length_map, List.map_cons, List.map_nil, List.length_cons, List.length_nil, List.append_nil, List.nil_append, List.cons_append, List.replicate_succ, List.replicate_zero, List.set_cons_zero, List.set_cons_succ, List.getElem?_cons_zero, List.getElem?_cons_succ, Nat.reduceAdd, Nat.reduceSub, if_true, Bool.not_true, Bool.not_false, Bool.false_eq_true, if_false])
    split
    · refine ⟨_, atI_int D.int 2 rfl e2, ?_⟩
      (try simp only [PL.pSeq, PL.pNext, PL.pSet, PL.pSetO, PL.pRet, PL.pRetN, PL.pIfS, PL.pFor, PL.pWhile, PL.pBrk, PL.pCnt, PL.pDrop, PL.pApp, PL.pAsg, PL.pgN, PL.pFrz, PL.frz, PL.pC, PL.pN, PL.pNo, PL.pBin, PL.negP, PL.pB, PL.pAnd, PL.pOr, PL.pNot, PL.pAndV, PL.pOrV, PL.pNotV, PL.pIf, PL.paNil, PL.paCons, PL.pLst, PL.pTup, PL.pIx, PL.pSl, PL.poNone, PL.poSome, PL.pCall, PL.pCallK, PL.piR1, PL.piR2, PL.piE, PL.pBits, PL.isiP_eq, PL.pLr1, PL.pJoinR, PL.pJoin, PL.pLc_eq, PL.pYes, PL.wipeC, PL.pBor, PL.pBorT, PL.frzs, PL.pSetI, PL.pChainT, PL.isNP, PL.addP_i, PL.addP_s, PL.addP_t, PL.addP_l, PL.catP_l, PL.subP_i, PL.mulP_i, PL.mulP_l, PL.repP_l, PL.mulP_s, PL.fdivP_i, PL.modP_i, PL.powP_i, PL.ltP_i, PL.ltP_s, PL.gtP_i, PL.gtP_s, PL.leP_i, PL.leP_s, PL.geP_i, PL.geP_s, PL.eqP_int, PL.eqP_str, PL.eqP_bl, PL.eqP_lst_lst, PL.eqP_tup_tup, PL.eqP_lst_tup, PL.eqP_tup_lst, PL.neP_int, PL.neP_str, PL.neP_bl, PL.neP_lst_lst, PL.neP_tup_tup, PL.neP_lst_tup, PL.neP_tup_lst, PL.asB_b, PL.asS_s, PL.lenP_lst, PL.itP_lst, PL.ixP_lst, PL.listP_lst_, PL.tupleP_lst_, PL.sumP_lst_, PL.maxP_lst_, PL.minP_lst_, PL.lenP_tup, PL.itP_tup, PL.ixP_tup, PL.listP_tup_, PL.tupleP_tup_, PL.sumP_tup_, PL.maxP_tup_, PL.minP_tup_, PL.lenP_scr, PL.itP_scr, PL.ixP_scr, PL.listP_scr_, PL.tupleP_scr_, PL.sumP_scr_, PL.maxP_scr_, PL.minP_scr_, PL.lenP_str, PL.lenP_dk, PL.itP_str, PL.ixP_str, PL.intP_i, PL.intP_b, PL.rg1_i, PL.rg2_i, PL.lr1_i, PL.lr2_i, PL.maxP_2, PL.maxP_3, PL.minP_2, PL.minP_3, PL.slP_lst, PL.slP_tup, PL.slP_str, PL.slPL_lst, PL.pgTup_t, PL.pgTup_l, PL.pgsCons_c, PL.pgsNil_n, PL.joinRP_l, PL.reprP_i, PL.setP_i, PL.ixE_0, PL.ixE_1, PL.ixE_2, PL.ixE_3, PL.ixE_4, PL.ixE_5, PL.ixE_6, PL.ixE_7, PL.ixE_8, PL.isqrtP_i, PL.reprLP_l, PL.pMkE, PL.pErF, PL.pIsE, PL.pRevS, PL.pRetO, PL.pRetON, PL.divmodP_i, PL.pGet, PL.isi_non_int, PL.isi_non_bool, PL.isi_non_str, PL.isi_non_list, PL.isi_non_tuple, PL.isi_bl_int, PL.isi_bl_bool, PL.isi_bl_str, PL.isi_bl_list, PL.isi_bl_tuple, PL.isi_int_int, PL.isi_int_bool, PL.isi_int_str, PL.isi_int_list, PL.isi_int_tuple, PL.isi_str_int, PL.isi_str_bool, PL.isi_str_str, PL.isi_str_list, PL.isi_str_tuple, PL.isi_tup_int, PL.isi_tup_bool, PL.isi_tup_str, PL.isi_tup_list, PL.isi_tup_tuple, PL.isi_lst_int, PL.isi_lst_bool, PL.isi_lst_str, PL.isi_lst_list, PL.isi_lst_tuple, PL.pickL, List.filterMap_cons, List.filterMap_nil, true_and, decide_true, decide_false, eq_self, Int.zero_add, decide_eq_true_eq, PL.rowE, PL.rowS, PL.startC, List.length_map, List.map_cons, List.map_nil, List.length_cons, List.length_nil, List.append_nil, List.nil_append, List.cons_append, List.replicate_succ, List.replicate_zero, List.set_cons_zero, List.set_cons_succ, List.getElem?_cons_zero, List.getElem?_cons_succ, Nat.reduceAdd, Nat.reduceSub, if_true, Bool.not_true, Bool.not_false, Bool.false_eq_true, if_false])
      have m0 := Int.emod_nonneg r2 (show (7 : Int) ≠ 0 by decide)
      have m1 := Int.emod_lt_of_pos r2 (show (0 : Int) < 7 by decide)
      exact ⟨by decide, _, by omega, by omega, rfl⟩
    · exact ⟨_, by omega, by omega, rfl⟩
  rintro _ ⟨t, t1, t3, rfl⟩
  unfold N'
  (try simp only [PL.pSeq, PL.pNext, PL.pSet, PL.pSetO, PL.pRet, PL.pRetN, PL.pIfS, PL.pFor, PL.pWhile, PL.pBrk, PL.pCnt, PL.pDrop, PL.pApp, PL.pAsg, PL.pgN, PL.pFrz, PL.frz, PL.pC, PL.pN, PL.pNo, PL.pBin, PL.negP, PL.pB, PL.pAnd, PL.pOr, PL.pNot, PL.pAndV, PL.pOrV, PL.pNotV, PL.pIf, PL.paNil, PL.paCons, PL.pLst, PL.pTup, PL.pIx, PL.pSl, PL.poNone, PL.poSome, PL.pCall, PL.pCallK, PL.piR1, PL.piR2, PL.piE, PL.pBits, PL.isiP_eq, PL.pLr1, PL.pJoinR, PL.pJoin, PL.pLc_eq, PL.pYes, PL.wipeC, PL.pBor, PL.pBorT, PL.frzs, PL.pSetI, PL.pChainT, PL.isNP, PL.addP_i, PL.addP_s, PL.addP_t, PL.addP_l, PL.catP_l, PL.subP_i, PL.mulP_i, PL.mulP_l, PL.repP_l, PL.mulP_s, PL.fdivP_i, PL.modP_i, PL.powP_i, PL.ltP_i, PL.ltP_s, PL.gtP_i, PL.gtP_s, PL.leP_i, PL.leP_s, PL.geP_i, PL.geP_s, PL.eqP_int, PL.eqP_str, PL.eqP_bl, PL.eqP_lst_lst, PL.eqP_tup_tup, PL.eqP_lst_tup, PL.eqP_tup_lst, PL.neP_int, PL.neP_str, PL.neP_bl, PL.neP_lst_lst, PL.neP_tup_tup, PL.neP_lst_tup, PL.neP_tup_lst, PL.asB_b, PL.asS_s, PL.lenP_lst, PL.itP_lst, PL.ixP_lst, PL.listP_lst_, PL.tupleP_lst_, PL.sumP_lst_, PL.maxP_lst_, PL.minP_lst_, PL.lenP_tup, PL.itP_tup, PL.ixP_tup, PL.listP_tup_, PL.tupleP_tup_, PL.sumP_tup_, PL.maxP_tup_, PL.minP_tup_, PL.lenP_scr, PL.itP_scr, PL.ixP_scr, PL.listP_scr_, PL.tupleP_scr_, PL.sumP_scr_, PL.maxP_scr_, PL.minP_scr_, PL.lenP_str, PL.lenP_dk, PL.itP_str, PL.ixP_str, PL.intP_i, PL.intP_b, PL.rg1_i, PL.rg2_i, PL.lr1_i, PL.lr2_i, PL.maxP_2, PL.maxP_3, PL.minP_2, PL.minP_3, PL.slP_lst, PL.slP_tup, PL.slP_str, PL.slPL_lst, PL.pgTup_t, PL.pgTup_l, PL.pgsCons_c, PL.pgsNil_n, PL.joinRP_l, PL.reprP_i, PL.setP_i, PL.ixE_0, PL.ixE_1, PL.ixE_2, PL.ixE_3, PL.ixE_4, PL.ixE_5, PL.ixE_6, PL.ixE_7, PL.ixE_8, PL.isqrtP_i, PL.reprLP_l, PL.pMkE, PL.pErF, PL.pIsE, PL.pRevS, PL.pRetO, PL.pRetON, PL.divmodP_i, PL.pGet, PL.isi_non_int, PL.isi_non_bool, PL.isi_non_str, PL.isi_non_list, PL.isi_non_tuple, PL.isi_bl_int, PL.isi_bl_bool, PL.isi_bl_str, PL.isi_bl_list, PL.isi_bl_tuple, PL.isi_int_int, PL.isi_int_bool, PL.isi_int_str, PL.isi_int_list, PL.isi_int_tuple, PL.isi_str_int, PL.isi_str_bool, PL.isi_str_str, PL.isi_str_list, PL.isi_str_tuple, PL.isi_tup_int, PL.isi_tup_bool, PL.isi_tup_str, PL.isi_tup_list, PL.isi_tup_tuple, PL.isi_lst_int, PL.isi_lst_bool, PL.isi_lst_str, PL.isi_lst_list, PL.isi_lst_tuple, PL.pickL, List.filterMap_cons, List.filterMap_nil, true_and, decide_true, decide_false, eq_self, Int.zero_add, decide_eq_true_eq, PL.rowE, PL.rowS, PL.startC, List.length_map, List.map_cons, List.map_nil, List.length_cons, List.length_nil, List.append_nil, List.nil_append, List.cons_append, List.replicate_succ, List.replicate_zero, List.set_cons_zero, List.set_cons_succ, List.getElem?_cons_zero, List.getElem?_cons_succ, Nat.reduceAdd, Nat.reduceSub, if_true, Bool.not_true, Bool.not_false, Bool.false_eq_true, if_false])
  rw [show cutD (row.map D.int) (some 4) (some 12) = ((row.drop 4).take 8).map D.int from cutD_map D.int row 4 12 (by omega)]
  have hq : Digs ((row.drop 4).take 8) szQ := dg_take 8 (dg_drop 4 hr)
  refine ⟨_, rfl, hq, fun many m0 m1 => ?_⟩
  have rb : ∀ n : Int, 0 ≤ n → n ≤ 1000000000000000000000000000000 → RB b t n := fun n h0 h1 => ⟨by omega, by omega, t1, t3, h0, by omega⟩
  have rbm := rb many m0 m1
  (try simp only [PL.pSeq, PL.pNext, PL.pSet, PL.pSetO, PL.pRet, PL.pRetN, PL.pIfS, PL.pFor, PL.pWhile, PL.pBrk, PL.pCnt, PL.pDrop, PL.pApp, PL.pAsg, PL.pgN, PL.pFrz, PL.frz, PL.pC, PL.pN, PL.pNo, PL.pBin, PL.negP, PL.pB, PL.pAnd, PL.pOr, PL.pNot, PL.pAndV, PL.pOrV, PL.pNotV, PL.pIf, PL.paNil, PL.paCons, PL.pLst, PL.pTup, PL.pIx, PL.pSl, PL.poNone, PL.poSome, PL.pCall, PL.pCallK, PL.piR1, PL.piR2, PL.piE, PL.pBits, PL.isiP_eq, PL.pLr1, PL.pJoinR, PL.pJoin, PL.pLc_eq, PL.pYes, PL.wipeC, PL.pBor, PL.pBorT, PL.frzs, PL.pSetI, PL.pChainT, PL.isNP, PL.addP_i, PL.addP_s, PL.addP_t, PL.addP_l, PL.catP_l, PL.subP_i, PL.mulP_i, PL.mulP_l, PL.repP_l, PL.mulP_s, PL.fdivP_i, PL.modP_i, PL.powP_i, PL.ltP_i, PL.ltP_s, PL.gtP_i, PL.gtP_s, PL.leP_i, PL.leP_s, PL.geP_i, PL.geP_s, PL.eqP_int, PL.eqP_str, PL.eqP_bl, PL.eqP_lst_lst, PL.eqP_tup_tup, PL.eqP_lst_tup, PL.eqP_tup_lst, PL.neP_int, PL.neP_str, PL.neP_bl, PL.neP_lst_lst, PL.neP_tup_tup, PL.neP_lst_tup, PL.neP_tup_lst, PL.asB_b, PL.asS_s, PL.lenP_lst, PL.itP_lst, PL.ixP_lst, PL.listP_lst_, PL.tupleP_lst_, PL.sumP_lst_, PL.maxP_lst_, PL.minP_lst_, PL.lenP_tup, PL.itP_tup, PL.ixP_tup, PL.listP_tup_, PL.tupleP_tup_, PL.sumP_tup_, PL.maxP_tup_, PL.minP_tup_, PL.lenP_scr, PL.itP_scr, PL.ixP_scr, PL.listP_scr_, PL.tupleP_scr_, PL.sumP_scr_, PL.maxP_scr_, PL.minP_scr_, PL.lenP_str, PL.lenP_dk, PL.itP_str, PL.ixP_str, PL.intP_i, PL.intP_b, PL.rg1_i, PL.rg2_i, PL.lr1_i, PL.lr2_i, PL.maxP_2, PL.maxP_3, PL.minP_2, PL.minP_3, PL.slP_lst, PL.slP_tup, PL.slP_str, PL.slPL_lst, PL.pgTup_t, PL.pgTup_l, PL.pgsCons_c, PL.pgsNil_n, PL.joinRP_l, PL.reprP_i, PL.setP_i, PL.ixE_0, PL.ixE_1, PL.ixE_2, PL.ixE_3, PL.ixE_4, PL.ixE_5, PL.ixE_6, PL.ixE_7, PL.ixE_8, PL.isqrtP_i, PL.reprLP_l, PL.pMkE, PL.pErF, PL.pIsE, PL.pRevS, PL.pRetO, PL.pRetON, PL.divmodP_i, PL.pGet, PL.isi_non_int, PL.isi_non_bool, PL.isi_non_str, PL.isi_non_list, PL.isi_non_tuple, PL.isi_bl_int, PL.isi_bl_bool, PL.isi_bl_str, PL.isi_bl_list, PL.isi_bl_tuple, PL.isi_int_int, PL.isi_int_bool, PL.isi_int_str, PL.isi_int_list, PL.isi_int_tuple, PL.isi_str_int, PL.isi_str_bool, PL.isi_str_str, PL.isi_str_list, PL.isi_str_tuple, PL.isi_tup_int, PL.isi_tup_bool, PL.isi_tup_str, PL.isi_tup_list, PL.isi_tup_tuple, PL.isi_lst_int, PL.isi_lst_bool, PL.isi_lst_str, PL.isi_lst_list, PL.isi_lst_tuple, PL.pickL, List.filterMap_cons, List.filterMap_nil, true_and, decide_true, decide_false, eq_self, Int.zero_add, decide_eq_true_eq, PL.rowE, PL.rowS, PL.startC, List.length_map, List.map_cons, List.map_nil, List.length_cons, List.length_nil, List.append_nil, List.nil_append, List.cons_append, List.replicate_succ, List.replicate_zero, List.set_cons_zero, List.set_cons_succ, List.getElem?_cons_zero, List.getElem?_cons_succ, Nat.reduceAdd, Nat.reduceSub, if_true, Bool.not_true, Bool.not_false, Bool.false_eq_true, if_false])
  refine jn (fun e => ∃ more : Int, e = [C.fz (.scr (ns.map D.int)), C.fz (.lst (row.map D.int)), N' b, C.fz (.int t), C.fz (.int many), C.fz (.int more), .un, .un]) ?_ ?_
  · (try simp only [PL.pSeq, PL.pNext, PL.pSet, PL.pSetO, PL.pRet, PL.pRetN, PL.pIfS, PL.pFor, PL.pWhile, PL.pBrk, PL.pCnt, PL.pDrop, PL.pApp, PL.pAsg, PL.pgN, PL.pFrz, PL.frz, PL.pC, PL.pN, PL.pNo, PL.pBin, PL.negP, PL.pB, PL.pAnd, PL.pOr, PL.pNot, PL.pAndV, PL.pOrV, PL.pNotV, PL.pIf, PL.paNil, PL.paCons, PL.pLst, PL.pTup, PL.pIx, PL.pSl, PL.poNone, PL.poSome, PL.pCall, PL.pCallK, PL.piR1, PL.piR2, PL.piE, PL.pBits, PL.isiP_eq, PL.pLr1, PL.pJoinR, PL.pJoin, PL.pLc_eq, PL.pYes, PL.wipeC, PL.pBor, PL.pBorT, PL.frzs, PL.pSetI, PL.pChainT, PL.isNP, PL.addP_i, PL.addP_s, PL.addP_t, PL.addP_l, PL.catP_l, PL.subP_i, PL.mulP_i, PL.mulP_l, PL.repP_l, PL.mulP_s, PL.fdivP_i, PL.modP_i, PL.powP_i, PL.ltP_i, PL.ltP_s, PL.gtP_i, PL.gtP_s, PL.leP_i, PL.leP_s, PL.geP_i, PL.geP_s, PL.eqP_int, PL.eqP_str, PL.eqP_bl, PL.eqP_lst_lst, PL.eqP_tup_tup, PL.eqP_lst_tup, PL.eqP_tup_lst, PL.neP_int, PL.neP_str, PL.neP_bl, PL.neP_lst_lst, PL.neP_tup_tup, PL.neP_lst_tup, PL.neP_tup_lst, PL.asB_b, PL.asS_s, PL.lenP_lst, PL.itP_lst, PL.ixP_lst, PL.listP_lst_, PL.tupleP_lst_, PL.sumP_lst_, PL.maxP_lst_, PL.minP_lst_, PL.lenP_tup, PL.itP_tup, PL.ixP_tup, PL.listP_tup_, PL.tupleP_tup_, PL.sumP_tup_, PL.maxP_tup_, PL.minP_tup_, PL.lenP_scr, PL.itP_scr, PL.ixP_scr, PL.listP_scr_, PL.tupleP_scr_, PL.sumP_scr_, PL.maxP_scr_, PL.minP_scr_, PL.lenP_str, PL.lenP_dk, PL.itP_str, PL.ixP_str, PL.intP_i, PL.intP_b, PL.rg1_i, PL.rg2_i, PL.lr1_i, PL.lr2_i, PL.maxP_2, PL.maxP_3, PL.minP_2, PL.minP_3, PL.slP_lst, PL.slP_tup, PL.slP_str, PL.slPL_lst, PL.pgTup_t, PL.pgTup_l, PL.pgsCons_c, PL.pgsNil_n, PL.joinRP_l, PL.reprP_i, PL.setP_i, PL.ixE_0, PL.ixE_1, PL.ixE_2, PL.ixE_3, PL.ixE_4, PL.ixE_5, PL.ixE_6, PL.ixE_7, PL.ixE_8, PL.isqrtP_i, PL.reprLP_l, PL.pMkE, PL.pErF, PL.pIsE, PL.pRevS, PL.pRetO, PL.pRetON, PL.divmodP_i, PL.pGet, PL.isi_non_int, PL.isi_non_bool, PL.isi_non_str, PL.isi_non_list, PL.isi_non_tuple, PL.isi_bl_int, PL.isi_bl_bool, PL.isi_bl_str, PL.isi_bl_list, PL.isi_bl_tuple, PL.isi_int_int, PL.isi_int_bool, PL.isi_int_str, PL.isi_int_list, PL.isi_int_tuple, PL.isi_str_int, PL.isi_str_bool, PL.isi_str_str, PL.isi_str_list, PL.isi_str_tuple, PL.isi_tup_int, PL.isi_tup_bool, PL.isi_tup_str, PL.isi_tup_list, PL.isi_tup_tuple, PL.isi_lst_int, PL.isi_lst_bool, PL.isi_lst_str, PL.isi_lst_list, PL.isi_lst_tuple, PL.pickL, List.filterMap_cons, List.filterMap_nil, true_and, decide_true, decide_false, eq_self, Int.zero_add, decide_eq_true_eq, PL.rowE, PL.rowS, PL.startC, List.length_map, List.map_cons, List.map_nil, List.length_cons, List.length_nil, List.append_nil, List.nil_append, List.cons_append, List.replicate_succ, List.replicate_zero, List.set_cons_zero, List.set_cons_succ, List.getElem?_cons_zero, List.getElem?_cons_succ, Nat.reduceAdd, Nat.reduceSub, if_true, Bool.not_true, Bool.not_false, Bool.false_eq_true, if_false, p30])
    refine ⟨_, atI_int D.int 3 rfl e3, ?_⟩
    (try simp only [PL.pSeq, PL.pNext, PL.pSet, PL.pSetO, PL.pRet, PL.pRetN, PL.pIfS, PL.pFor, PL.pWhile, PL.pBrk, PL.pCnt, PL.pDrop, PL.pApp, PL.pAsg, PL.pgN, PL.pFrz, PL.frz, PL.pC, PL.pN, PL.pNo, PL.pBin, PL.negP, PL.pB, PL.pAnd, PL.pOr, PL.pNot, PL.pAndV, PL.pOrV, PL.pNotV, PL.pIf, PL.paNil, PL.paCons, PL.pLst, PL.pTup, PL.pIx, PL.pSl, PL.poNone, PL.poSome, PL.pCall, PL.pCallK, PL.piR1, PL.piR2, PL.piE, PL.pBits, PL.isiP_eq, PL.pLr1, PL.pJoinR, PL.pJoin, PL.pLc_eq, PL.pYes, PL.wipeC, PL.pBor, PL.pBorT, PL.frzs, PL.pSetI, PL.pChainT, PL.isNP, PL.addP_i, PL.addP_s, PL.addP_t, PL.addP_l, PL.catP_l, PL.subP_i, PL.mulP_i, PL.mulP_l, PL.repP_l, PL.mulP_s, PL.fdivP_i, PL.modP_i, PL.powP_i, PL.ltP_i, PL.ltP_s, PL.gtP_i, PL.gtP_s, PL.leP_i, PL.leP_s, PL.geP_i, PL.geP_s, PL.eqP_int, PL.eqP_str, PL.eqP_bl, PL.eqP_lst_lst, PL.eqP_tup_tup, PL.eqP_lst_tup, PL.eqP_tup_lst, PL.neP_int, PL.neP_str, PL.neP_bl, PL.neP_lst_lst, PL.neP_tup_tup, PL.neP_lst_tup, PL.neP_tup_lst, PL.asB_b, PL.asS_s, PL.lenP_lst, PL.itP_lst, PL.ixP_lst, PL.listP_lst_, PL.tupleP_lst_, PL.sumP_lst_, PL.maxP_lst_, PL.minP_lst_, PL.lenP_tup, PL.itP_tup, PL.ixP_tup, PL.listP_tup_, PL.tupleP_tup_, PL.sumP_tup_, PL.maxP_tup_, PL.minP_tup_, PL.lenP_scr, PL.itP_scr, PL.ixP_scr, PL.listP_scr_, PL.tupleP_scr_, PL.sumP_scr_, PL.maxP_scr_, PL.minP_scr_, PL.lenP_str, PL.lenP_dk, PL.itP_str, PL.ixP_str, PL.intP_i, PL.intP_b, PL.rg1_i, PL.rg2_i, PL.lr1_i, PL.lr2_i, PL.maxP_2, PL.maxP_3, PL.minP_2, PL.minP_3, PL.slP_lst, PL.slP_tup, PL.slP_str, PL.slPL_lst, PL.pgTup_t, PL.pgTup_l, PL.pgsCons_c, PL.pgsNil_n, PL.joinRP_l, PL.reprP_i, PL.setP_i, PL.ixE_0, PL.ixE_1, PL.ixE_2, PL.ixE_3, PL.ixE_4, PL.ixE_5, PL.ixE_6, PL.ixE_7, PL.ixE_8, PL.isqrtP_i, PL.reprLP_l, PL.pMkE, PL.pErF, PL.pIsE, PL.pRevS, PL.pRetO, PL.pRetON, PL.divmodP_i, PL.pGet, PL.isi_non_int, PL.isi_non_bool, PL.isi_non_str, PL.isi_non_list, PL.isi_non_tuple, PL.isi_bl_int, PL.isi_bl_bool, PL.isi_bl_str, PL.isi_bl_list, PL.isi_bl_tuple, PL.isi_int_int, PL.isi_int_bool, PL.isi_int_str, PL.isi_int_list, PL.isi_int_tuple, PL.isi_str_int, PL.isi_str_bool, PL.isi_str_str, PL.isi_str_list, PL.isi_str_tuple, PL.isi_tup_int, PL.isi_tup_bool, PL.isi_tup_str, PL.isi_tup_list, PL.isi_tup_tuple, PL.isi_lst_int, PL.isi_lst_bool, PL.isi_lst_str, PL.isi_lst_list, PL.isi_lst_tuple, PL.pickL, List.filterMap_cons, List.filterMap_nil, true_and, decide_true, decide_false, eq_self, Int.zero_add, decide_eq_true_eq, PL.rowE, PL.rowS, PL.startC, List.length_map, List.map_cons, List.map_nil, List.length_cons, List.length_nil, List.append_nil, List.nil_append, List.cons_append, List.replicate_succ, List.replicate_zero, List.set_cons_zero, List.set_cons_succ, List.getElem?_cons_zero, List.getElem?_cons_succ, Nat.reduceAdd, Nat.reduceSub, if_true, Bool.not_true, Bool.not_false, Bool.false_eq_true, if_false, p30])
    split
    · refine ⟨cp30, ?_⟩
      rw [show cutD (row.map D.int) (some 12) (some 16) = ((row.drop 12).take 4).map D.int from cutD_map D.int row 12 16 (by omega)]
      have h8 : Digs ((row.drop 12).take 4) (List.replicate 4 100000000) := dg_take 4 (dg_drop 12 hr)
      refine ⟨_, atI_int D.int 7 rfl e7, ?_⟩
      (try simp only [PL.pSeq, PL.pNext, PL.pSet, PL.pSetO, PL.pRet, PL.pRetN, PL.pIfS, PL.pFor, PL.pWhile, PL.pBrk, PL.pCnt, PL.pDrop, PL.pApp, PL.pAsg, PL.pgN, PL.pFrz, PL.frz, PL.pC, PL.pN, PL.pNo, PL.pBin, PL.negP, PL.pB, PL.pAnd, PL.pOr, PL.pNot, PL.pAndV, PL.pOrV, PL.pNotV, PL.pIf, PL.paNil, PL.paCons, PL.pLst, PL.pTup, PL.pIx, PL.pSl, PL.poNone, PL.poSome, PL.pCall, PL.pCallK, PL.piR1, PL.piR2, PL.piE, PL.pBits, PL.isiP_eq, PL.pLr1, PL.pJoinR, PL.pJoin, PL.pLc_eq, PL.pYes, PL.wipeC, PL.pBor, PL.pBorT, PL.frzs, PL.pSetI, PL.pChainT, PL.isNP, PL.addP_i, PL.addP_s, PL.addP_t, PL.addP_l, PL.catP_l, PL.subP_i, PL.mulP_i, PL.mulP_l, PL.repP_l, PL.mulP_s, PL.fdivP_i, PL.modP_i, PL.powP_i, PL.ltP_i, PL.ltP_s, PL.gtP_i, PL.gtP_s, PL.leP_i, PL.leP_s, PL.geP_i, PL.geP_s, PL.eqP_int, PL.eqP_str, PL.eqP_bl, PL.eqP_lst_lst, PL.eqP_tup_tup, PL.eqP_lst_tup, PL.eqP_tup_lst, PL.neP_int, PL.neP_str, PL.neP_bl, PL.neP_lst_lst, PL.neP_tup_tup, PL.neP_lst_tup, PL.neP_tup_lst, PL.asB_b, PL.asS_s, PL.lenP_lst, PL.itP_lst, PL.ixP_lst, PL.listP_lst_, PL.tupleP_lst_, PL.sumP_lst_, PL.maxP_lst_, PL.minP_lst_, PL.lenP_tup, PL.itP_tup, PL.ixP_tup, PL.listP_tup_, PL.tupleP_tup_, PL.sumP_tup_, PL.maxP_tup_, PL.minP_tup_, PL.lenP_scr, PL.itP_scr, PL.ixP_scr, PL.listP_scr_, PL.tupleP_scr_, PL.sumP_scr_, PL.maxP_scr_, PL.minP_scr_, PL.lenP_str, PL.lenP_dk, PL.itP_str, PL.ixP_str, PL.intP_i, PL.intP_b, PL.rg1_i, PL.rg2_i, PL.lr1_i, PL.lr2_i, PL.maxP_2, PL.maxP_3, PL.minP_2, PL.minP_3, PL.slP_lst, PL.slP_tup, PL.slP_str, PL.slPL_lst, PL.pgTup_t, PL.pgTup_l, PL.pgsCons_c, PL.pgsNil_n, PL.joinRP_l, PL.reprP_i, PL.setP_i, PL.ixE_0, PL.ixE_1, PL.ixE_2, PL.ixE_3, PL.ixE_4, PL.ixE_5, PL.ixE_6, PL.ixE_7, PL.ixE_8, PL.isqrtP_i, PL.reprLP_l, PL.pMkE, PL.pErF, PL.pIsE, PL.pRevS, PL.pRetO, PL.pRetON, PL.divmodP_i, PL.pGet, PL.isi_non_int, PL.isi_non_bool, PL.isi_non_str, PL.isi_non_list, PL.isi_non_tuple, PL.isi_bl_int, PL.isi_bl_bool, PL.isi_bl_str, PL.isi_bl_list, PL.isi_bl_tuple, PL.isi_int_int, PL.isi_int_bool, PL.isi_int_str, PL.isi_int_list, PL.isi_int_tuple, PL.isi_str_int, PL.isi_str_bool, PL.isi_str_str, PL.isi_str_list, PL.isi_str_tuple, PL.isi_tup_int, PL.isi_tup_bool, PL.isi_tup_str, PL.isi_tup_list, PL.isi_tup_tuple, PL.isi_lst_int, PL.isi_lst_bool, PL.isi_lst_str, PL.isi_lst_list, PL.isi_lst_tuple, PL.pickL, List.filterMap_cons, List.filterMap_nil, true_and, decide_true, decide_false, eq_self, Int.zero_add, decide_eq_true_eq, PL.rowE, PL.rowS, PL.startC, List.length_map, List.map_cons, List.map_nil, List.length_cons, List.length_nil, List.append_nil, List.nil_append, List.cons_append, List.replicate_succ, List.replicate_zero, List.set_cons_zero, List.set_cons_succ, List.getElem?_cons_zero, List.getElem?_cons_succ, Nat.reduceAdd, Nat.reduceSub, if_true, Bool.not_true, Bool.not_false, Bool.false_eq_true, if_false, p30])
      refine ⟨cp30, ?_⟩
      refine ⟨(row.drop 12).take 4, (1 + r7).toNat, 1000000000000000000000000000000, ?_, by rw [(dg_in8 h8).1]; omega, by rw [(dg_in8 h8).1]; decide, (dg_in8 h8).2, by decide, t30.1, fun z z0 z1 => ?_⟩
      · unfold N
        rw [show (((1 + r7).toNat : Nat) : Int) = 1 + r7 by omega]
      · (try simp only [PL.pSeq, PL.pNext, PL.pSet, PL.pSetO, PL.pRet, PL.pRetN, PL.pIfS, PL.pFor, PL.pWhile, PL.pBrk, PL.pCnt, PL.pDrop, PL.pApp, PL.pAsg, PL.pgN, PL.pFrz, PL.frz, PL.pC, PL.pN, PL.pNo, PL.pBin, PL.negP, PL.pB, PL.pAnd, PL.pOr, PL.pNot, PL.pAndV, PL.pOrV, PL.pNotV, PL.pIf, PL.paNil, PL.paCons, PL.pLst, PL.pTup, PL.pIx, PL.pSl, PL.poNone, PL.poSome, PL.pCall, PL.pCallK, PL.piR1, PL.piR2, PL.piE, PL.pBits, PL.isiP_eq, PL.pLr1, PL.pJoinR, PL.pJoin, PL.pLc_eq, PL.pYes, PL.wipeC, PL.pBor, PL.pBorT, PL.frzs, PL.pSetI, PL.pChainT, PL.isNP, PL.addP_i, PL.addP_s, PL.addP_t, PL.addP_l, PL.catP_l, PL.subP_i, PL.mulP_i, PL.mulP_l, PL.repP_l, PL.mulP_s, PL.fdivP_i, PL.modP_i, PL.powP_i, PL.ltP_i, PL.ltP_s, PL.gtP_i, PL.gtP_s, PL.leP_i, PL.leP_s, PL.geP_i, PL.geP_s, PL.eqP_int, PL.eqP_str, PL.eqP_bl, PL.eqP_lst_lst, PL.eqP_tup_tup, PL.eqP_lst_tup, PL.eqP_tup_lst, PL.neP_int, PL.neP_str, PL.neP_bl, PL.neP_lst_lst, PL.neP_tup_tup, PL.neP_lst_tup, PL.neP_tup_lst, PL.asB_b, PL.asS_s, PL.lenP_lst, PL.itP_lst, PL.ixP_lst, PL.listP_lst_, PL.tupleP_lst_, PL.sumP_lst_, PL.maxP_lst_, PL.minP_lst_, PL.lenP_tup, PL.itP_tup, PL.ixP_tup, PL.listP_tup_, PL.tupleP_tup_, PL.sumP_tup_, PL.maxP_tup_, PL.minP_tup_, PL.lenP_scr, PL.itP_scr, PL.ixP_scr, PL.listP_scr_, PL.tupleP_scr_, PL.sumP_scr_, PL.maxP_scr_, PL.minP_scr_, PL.lenP_str, PL.lenP_dk, PL.itP_str, PL.ixP_str, PL.intP_i, PL.intP_b, PL.rg1_i, PL.rg2_i, PL.lr1_i, PL.lr2_i, PL.maxP_2, PL.maxP_3, PL.minP_2, PL.minP_3, PL.slP_lst, PL.slP_tup, PL.slP_str, PL.slPL_lst, PL.pgTup_t, PL.pgTup_l, PL.pgsCons_c, PL.pgsNil_n, PL.joinRP_l, PL.reprP_i, PL.setP_i, PL.ixE_0, PL.ixE_1, PL.ixE_2, PL.ixE_3, PL.ixE_4, PL.ixE_5, PL.ixE_6, PL.ixE_7, PL.ixE_8, PL.isqrtP_i, PL.reprLP_l, PL.pMkE, PL.pErF, PL.pIsE, PL.pRevS, PL.pRetO, PL.pRetON, PL.divmodP_i, PL.pGet, PL.isi_non_int, PL.isi_non_bool, PL.isi_non_str, PL.isi_non_list, PL.isi_non_tuple, PL.isi_bl_int, PL.isi_bl_bool, PL.isi_bl_str, PL.isi_bl_list, PL.isi_bl_tuple, PL.isi_int_int, PL.isi_int_bool, PL.isi_int_str, PL.isi_int_list, PL.isi_int_tuple, PL.isi_str_int, PL.isi_str_bool, PL.isi_str_str, PL.isi_str_list, PL.isi_str_tuple, PL.isi_tup_int, PL.isi_tup_bool, PL.isi_tup_str, PL.isi_tup_list, PL.isi_tup_tuple, PL.isi_lst_int, PL.isi_lst_bool, PL.isi_lst_str, PL.isi_lst_list, PL.isi_lst_tuple, PL.pickL, List.filterMap_cons, List.filterMap_nil, true_and, decide_true, decide_false, eq_self, Int.zero_add, decide_eq_true_eq, PL.rowE, PL.rowS, PL.startC, List.length_map, List.map_cons, List.map_nil, List.length_cons, List.length_nil, List.append_nil, List.nil_append, List.cons_append, List.replicate_succ, List.replicate_zero, List.set_cons_zero, List.set_cons_succ, List.getElem?_cons_zero, List.getElem?_cons_succ, Nat.reduceAdd, Nat.reduceSub, if_true, Bool.not_true, Bool.not_false, Bool.false_eq_true, if_false])
        exact ⟨_, rfl⟩
    · exact ⟨_, rfl⟩
  rintro _ ⟨more, rfl⟩
  unfold N'
  (try simp only [PL.pSeq, PL.pNext, PL.pSet, PL.pSetO, PL.pRet, PL.pRetN, PL.pIfS, PL.pFor, PL.pWhile, PL.pBrk, PL.pCnt, PL.pDrop, PL.pApp, PL.pAsg, PL.pgN, PL.pFrz, PL.frz, PL.pC, PL.pN, PL.pNo, PL.pBin, PL.negP, PL.pB, PL.pAnd, PL.pOr, PL.pNot, PL.pAndV, PL.pOrV, PL.pNotV, PL.pIf, PL.paNil, PL.paCons, PL.pLst, PL.pTup, PL.pIx, PL.pSl, PL.poNone, PL.poSome, PL.pCall, PL.pCallK, PL.piR1, PL.piR2, PL.piE, PL.pBits, PL.isiP_eq, PL.pLr1, PL.pJoinR, PL.pJoin, PL.pLc_eq, PL.pYes, PL.wipeC, PL.pBor, PL.pBorT, PL.frzs, PL.pSetI, PL.pChainT, PL.isNP, PL.addP_i, PL.addP_s, PL.addP_t, PL.addP_l, PL.catP_l, PL.subP_i, PL.mulP_i, PL.mulP_l, PL.repP_l, PL.mulP_s, PL.fdivP_i, PL.modP_i, PL.powP_i, PL.ltP_i, PL.ltP_s, PL.gtP_i, PL.gtP_s, PL.leP_i, PL.leP_s, PL.geP_i, PL.geP_s, PL.eqP_int, PL.eqP_str, PL.eqP_bl, PL.eqP_lst_lst, PL.eqP_tup_tup, PL.eqP_lst_tup, PL.eqP_tup_lst, PL.neP_int, PL.neP_str, PL.neP_bl, PL.neP_lst_lst, PL.neP_tup_tup, PL.neP_lst_tup, PL.neP_tup_lst, PL.asB_b, PL.asS_s, PL.lenP_lst, PL.itP_lst, PL.ixP_lst, PL.listP_lst_, PL.tupleP_lst_, PL.sumP_lst_, PL.maxP_lst_, PL.minP_lst_, PL.lenP_tup, PL.itP_tup, PL.ixP_tup, PL.listP_tup_, PL.tupleP_tup_, PL.sumP_tup_, PL.maxP_tup_, PL.minP_tup_, PL.lenP_scr, PL.itP_scr, PL.ixP_scr, PL.listP_scr_, PL.tupleP_scr_, PL.sumP_scr_, PL.maxP_scr_, PL.minP_scr_, PL.lenP_str, PL.lenP_dk, PL.itP_str, PL.ixP_str, PL.intP_i, PL.intP_b, PL.rg1_i, PL.rg2_i, PL.lr1_i, PL.lr2_i, PL.maxP_2, PL.maxP_3, PL.minP_2, PL.minP_3, PL.slP_lst, PL.slP_tup, PL.slP_str, PL.slPL_lst, PL.pgTup_t, PL.pgTup_l, PL.pgsCons_c, PL.pgsNil_n, PL.joinRP_l, PL.reprP_i, PL.setP_i, PL.ixE_0, PL.ixE_1, PL.ixE_2, PL.ixE_3, PL.ixE_4, PL.ixE_5, PL.ixE_6, PL.ixE_7, PL.ixE_8, PL.isqrtP_i, PL.reprLP_l, PL.pMkE, PL.pErF, PL.pIsE, PL.pRevS, PL.pRetO, PL.pRetON, PL.divmodP_i, PL.pGet, PL.isi_non_int, PL.isi_non_bool, PL.isi_non_str, PL.isi_non_list, PL.isi_non_tuple, PL.isi_bl_int, PL.isi_bl_bool, PL.isi_bl_str, PL.isi_bl_list, PL.isi_bl_tuple, PL.isi_int_int, PL.isi_int_bool, PL.isi_int_str, PL.isi_int_list, PL.isi_int_tuple, PL.isi_str_int, PL.isi_str_bool, PL.isi_str_str, PL.isi_str_list, PL.isi_str_tuple, PL.isi_tup_int, PL.isi_tup_bool, PL.isi_tup_str, PL.isi_tup_list, PL.isi_tup_tuple, PL.isi_lst_int, PL.isi_lst_bool, PL.isi_lst_str, PL.isi_lst_list, PL.isi_lst_tuple, PL.pickL, List.filterMap_cons, List.filterMap_nil, true_and, decide_true, decide_false, eq_self, Int.zero_add, decide_eq_true_eq, PL.rowE, PL.rowS, PL.startC, List.length_map, List.map_cons, List.map_nil, List.length_cons, List.length_nil, List.append_nil, List.nil_append, List.cons_append, List.replicate_succ, List.replicate_zero, List.set_cons_zero, List.set_cons_succ, List.getElem?_cons_zero, List.getElem?_cons_succ, Nat.reduceAdd, Nat.reduceSub, if_true, Bool.not_true, Bool.not_false, Bool.false_eq_true, if_false])
  refine ⟨b, t, many, rfl, rbm, b, t, many, rfl, rbm, ?_⟩
  (try simp only [PL.pSeq, PL.pNext, PL.pSet, PL.pSetO, PL.pRet, PL.pRetN, PL.pIfS, PL.pFor, PL.pWhile, PL.pBrk, PL.pCnt, PL.pDrop, PL.pApp, PL.pAsg, PL.pgN, PL.pFrz, PL.frz, PL.pC, PL.pN, PL.pNo, PL.pBin, PL.negP, PL.pB, PL.pAnd, PL.pOr, PL.pNot, PL.pAndV, PL.pOrV, PL.pNotV, PL.pIf, PL.paNil, PL.paCons, PL.pLst, PL.pTup, PL.pIx, PL.pSl, PL.poNone, PL.poSome, PL.pCall, PL.pCallK, PL.piR1, PL.piR2, PL.piE, PL.pBits, PL.isiP_eq, PL.pLr1, PL.pJoinR, PL.pJoin, PL.pLc_eq, PL.pYes, PL.wipeC, PL.pBor, PL.pBorT, PL.frzs, PL.pSetI, PL.pChainT, PL.isNP, PL.addP_i, PL.addP_s, PL.addP_t, PL.addP_l, PL.catP_l, PL.subP_i, PL.mulP_i, PL.mulP_l, PL.repP_l, PL.mulP_s, PL.fdivP_i, PL.modP_i, PL.powP_i, PL.ltP_i, PL.ltP_s, PL.gtP_i, PL.gtP_s, PL.leP_i, PL.leP_s, PL.geP_i, PL.geP_s, PL.eqP_int, PL.eqP_str, PL.eqP_bl, PL.eqP_lst_lst, PL.eqP_tup_tup, PL.eqP_lst_tup, PL.eqP_tup_lst, PL.neP_int, PL.neP_str, PL.neP_bl, PL.neP_lst_lst, PL.neP_tup_tup, PL.neP_lst_tup, PL.neP_tup_lst, PL.asB_b, PL.asS_s, PL.lenP_lst, PL.itP_lst, PL.ixP_lst, PL.listP_lst_, PL.tupleP_lst_, PL.sumP_lst_, PL.maxP_lst_, PL.minP_lst_, PL.lenP_tup, PL.itP_tup, PL.ixP_tup, PL.listP_tup_, PL.tupleP_tup_, PL.sumP_tup_, PL.maxP_tup_, PL.minP_tup_, PL.lenP_scr, PL.itP_scr, PL.ixP_scr, PL.listP_scr_, PL.tupleP_scr_, PL.sumP_scr_, PL.maxP_scr_, PL.minP_scr_, PL.lenP_str, PL.lenP_dk, PL.itP_str, PL.ixP_str, PL.intP_i, PL.intP_b, PL.rg1_i, PL.rg2_i, PL.lr1_i, PL.lr2_i, PL.maxP_2, PL.maxP_3, PL.minP_2, PL.minP_3, PL.slP_lst, PL.slP_tup, PL.slP_str, PL.slPL_lst, PL.pgTup_t, PL.pgTup_l, PL.pgsCons_c, PL.pgsNil_n, PL.joinRP_l, PL.reprP_i, PL.setP_i, PL.ixE_0, PL.ixE_1, PL.ixE_2, PL.ixE_3, PL.ixE_4, PL.ixE_5, PL.ixE_6, PL.ixE_7, PL.ixE_8, PL.isqrtP_i, PL.reprLP_l, PL.pMkE, PL.pErF, PL.pIsE, PL.pRevS, PL.pRetO, PL.pRetON, PL.divmodP_i, PL.pGet, PL.isi_non_int, PL.isi_non_bool, PL.isi_non_str, PL.isi_non_list, PL.isi_non_tuple, PL.isi_bl_int, PL.isi_bl_bool, PL.isi_bl_str, PL.isi_bl_list, PL.isi_bl_tuple, PL.isi_int_int, PL.isi_int_bool, PL.isi_int_str, PL.isi_int_list, PL.isi_int_tuple, PL.isi_str_int, PL.isi_str_bool, PL.isi_str_str, PL.isi_str_list, PL.isi_str_tuple, PL.isi_tup_int, PL.isi_tup_bool, PL.isi_tup_str, PL.isi_tup_list, PL.isi_tup_tuple, PL.isi_lst_int, PL.isi_lst_bool, PL.isi_lst_str, PL.isi_lst_list, PL.isi_lst_tuple, PL.pickL, List.filterMap_cons, List.filterMap_nil, true_and, decide_true, decide_false, eq_self, Int.zero_add, decide_eq_true_eq, PL.rowE, PL.rowS, PL.startC, List.length_map, List.map_cons, List.map_nil, List.length_cons, List.length_nil, List.append_nil, List.nil_append, List.cons_append, List.replicate_succ, List.replicate_zero, List.set_cons_zero, List.set_cons_succ, List.getElem?_cons_zero, List.getElem?_cons_succ, Nat.reduceAdd, Nat.reduceSub, if_true, Bool.not_true, Bool.not_false, Bool.false_eq_true, if_false])
  refine ⟨by omega, ?_⟩
  refine rep2 (n := 300) (by decide) (xs_bd rbm).1 (xs_bd rbm).2 ?_
  generalize hs : (toPy (.lst [D.int (XS b t many), D.int (PL.TO b t many)])).shown = shown
  refine ⟨b, t, many, rfl, rbm, ?_⟩
  (try simp only [PL.pSeq, PL.pNext, PL.pSet, PL.pSetO, PL.pRet, PL.pRetN, PL.pIfS, PL.pFor, PL.pWhile, PL.pBrk, PL.pCnt, PL.pDrop, PL.pApp, PL.pAsg, PL.pgN, PL.pFrz, PL.frz, PL.pC, PL.pN, PL.pNo, PL.pBin, PL.negP, PL.pB, PL.pAnd, PL.pOr, PL.pNot, PL.pAndV, PL.pOrV, PL.pNotV, PL.pIf, PL.paNil, PL.paCons, PL.pLst, PL.pTup, PL.pIx, PL.pSl, PL.poNone, PL.poSome, PL.pCall, PL.pCallK, PL.piR1, PL.piR2, PL.piE, PL.pBits, PL.isiP_eq, PL.pLr1, PL.pJoinR, PL.pJoin, PL.pLc_eq, PL.pYes, PL.wipeC, PL.pBor, PL.pBorT, PL.frzs, PL.pSetI, PL.pChainT, PL.isNP, PL.addP_i, PL.addP_s, PL.addP_t, PL.addP_l, PL.catP_l, PL.subP_i, PL.mulP_i, PL.mulP_l, PL.repP_l, PL.mulP_s, PL.fdivP_i, PL.modP_i, PL.powP_i, PL.ltP_i, PL.ltP_s, PL.gtP_i, PL.gtP_s, PL.leP_i, PL.leP_s, PL.geP_i, PL.geP_s, PL.eqP_int, PL.eqP_str, PL.eqP_bl, PL.eqP_lst_lst, PL.eqP_tup_tup, PL.eqP_lst_tup, PL.eqP_tup_lst, PL.neP_int, PL.neP_str, PL.neP_bl, PL.neP_lst_lst, PL.neP_tup_tup, PL.neP_lst_tup, PL.neP_tup_lst, PL.asB_b, PL.asS_s, PL.lenP_lst, PL.itP_lst, PL.ixP_lst, PL.listP_lst_, PL.tupleP_lst_, PL.sumP_lst_, PL.maxP_lst_, PL.minP_lst_, PL.lenP_tup, PL.itP_tup, PL.ixP_tup, PL.listP_tup_, PL.tupleP_tup_, PL.sumP_tup_, PL.maxP_tup_, PL.minP_tup_, PL.lenP_scr, PL.itP_scr, PL.ixP_scr, PL.listP_scr_, PL.tupleP_scr_, PL.sumP_scr_, PL.maxP_scr_, PL.minP_scr_, PL.lenP_str, PL.lenP_dk, PL.itP_str, PL.ixP_str, PL.intP_i, PL.intP_b, PL.rg1_i, PL.rg2_i, PL.lr1_i, PL.lr2_i, PL.maxP_2, PL.maxP_3, PL.minP_2, PL.minP_3, PL.slP_lst, PL.slP_tup, PL.slP_str, PL.slPL_lst, PL.pgTup_t, PL.pgTup_l, PL.pgsCons_c, PL.pgsNil_n, PL.joinRP_l, PL.reprP_i, PL.setP_i, PL.ixE_0, PL.ixE_1, PL.ixE_2, PL.ixE_3, PL.ixE_4, PL.ixE_5, PL.ixE_6, PL.ixE_7, PL.ixE_8, PL.isqrtP_i, PL.reprLP_l, PL.pMkE, PL.pErF, PL.pIsE, PL.pRevS, PL.pRetO, PL.pRetON, PL.divmodP_i, PL.pGet, PL.isi_non_int, PL.isi_non_bool, PL.isi_non_str, PL.isi_non_list, PL.isi_non_tuple, PL.isi_bl_int, PL.isi_bl_bool, PL.isi_bl_str, PL.isi_bl_list, PL.isi_bl_tuple, PL.isi_int_int, PL.isi_int_bool, PL.isi_int_str, PL.isi_int_list, PL.isi_int_tuple, PL.isi_str_int, PL.isi_str_bool, PL.isi_str_str, PL.isi_str_list, PL.isi_str_tuple, PL.isi_tup_int, PL.isi_tup_bool, PL.isi_tup_str, PL.isi_tup_list, PL.isi_tup_tuple, PL.isi_lst_int, PL.isi_lst_bool, PL.isi_lst_str, PL.isi_lst_list, PL.isi_lst_tuple, PL.pickL, List.filterMap_cons, List.filterMap_nil, true_and, decide_true, decide_false, eq_self, Int.zero_add, decide_eq_true_eq, PL.rowE, PL.rowS, PL.startC, List.length_map, List.map_cons, List.map_nil, List.length_cons, List.length_nil, List.append_nil, List.nil_append, List.cons_append, List.replicate_succ, List.replicate_zero, List.set_cons_zero, List.set_cons_succ, List.getElem?_cons_zero, List.getElem?_cons_succ, Nat.reduceAdd, Nat.reduceSub, if_true, Bool.not_true, Bool.not_false, Bool.false_eq_true, if_false])
  refine jn (fun e => e = [C.fz (.scr (ns.map D.int)), C.fz (.lst (row.map D.int)), N' b, C.fz (.int t), C.fz (.int many), C.fz (.int more), C.fz (.str shown), .un]) ?_ ?_
  · (try simp only [PL.pSeq, PL.pNext, PL.pSet, PL.pSetO, PL.pRet, PL.pRetN, PL.pIfS, PL.pFor, PL.pWhile, PL.pBrk, PL.pCnt, PL.pDrop, PL.pApp, PL.pAsg, PL.pgN, PL.pFrz, PL.frz, PL.pC, PL.pN, PL.pNo, PL.pBin, PL.negP, PL.pB, PL.pAnd, PL.pOr, PL.pNot, PL.pAndV, PL.pOrV, PL.pNotV, PL.pIf, PL.paNil, PL.paCons, PL.pLst, PL.pTup, PL.pIx, PL.pSl, PL.poNone, PL.poSome, PL.pCall, PL.pCallK, PL.piR1, PL.piR2, PL.piE, PL.pBits, PL.isiP_eq, PL.pLr1, PL.pJoinR, PL.pJoin, PL.pLc_eq, PL.pYes, PL.wipeC, PL.pBor, PL.pBorT, PL.frzs, PL.pSetI, PL.pChainT, PL.isNP, PL.addP_i, PL.addP_s, PL.addP_t, PL.addP_l, PL.catP_l, PL.subP_i, PL.mulP_i, PL.mulP_l, PL.repP_l, PL.mulP_s, PL.fdivP_i, PL.modP_i, PL.powP_i, PL.ltP_i, PL.ltP_s, PL.gtP_i, PL.gtP_s, PL.leP_i, PL.leP_s, PL.geP_i, PL.geP_s, PL.eqP_int, PL.eqP_str, PL.eqP_bl, PL.eqP_lst_lst, PL.eqP_tup_tup, PL.eqP_lst_tup, PL.eqP_tup_lst, PL.neP_int, PL.neP_str, PL.neP_bl, PL.neP_lst_lst, PL.neP_tup_tup, PL.neP_lst_tup, PL.neP_tup_lst, PL.asB_b, PL.asS_s, PL.lenP_lst, PL.itP_lst, PL.ixP_lst, PL.listP_lst_, PL.tupleP_lst_, PL.sumP_lst_, PL.maxP_lst_, PL.minP_lst_, PL.lenP_tup, PL.itP_tup, PL.ixP_tup, PL.listP_tup_, PL.tupleP_tup_, PL.sumP_tup_, PL.maxP_tup_, PL.minP_tup_, PL.lenP_scr, PL.itP_scr, PL.ixP_scr, PL.listP_scr_, PL.tupleP_scr_, PL.sumP_scr_, PL.maxP_scr_, PL.minP_scr_, PL.lenP_str, PL.lenP_dk, PL.itP_str, PL.ixP_str, PL.intP_i, PL.intP_b, PL.rg1_i, PL.rg2_i, PL.lr1_i, PL.lr2_i, PL.maxP_2, PL.maxP_3, PL.minP_2, PL.minP_3, PL.slP_lst, PL.slP_tup, PL.slP_str, PL.slPL_lst, PL.pgTup_t, PL.pgTup_l, PL.pgsCons_c, PL.pgsNil_n, PL.joinRP_l, PL.reprP_i, PL.setP_i, PL.ixE_0, PL.ixE_1, PL.ixE_2, PL.ixE_3, PL.ixE_4, PL.ixE_5, PL.ixE_6, PL.ixE_7, PL.ixE_8, PL.isqrtP_i, PL.reprLP_l, PL.pMkE, PL.pErF, PL.pIsE, PL.pRevS, PL.pRetO, PL.pRetON, PL.divmodP_i, PL.pGet, PL.isi_non_int, PL.isi_non_bool, PL.isi_non_str, PL.isi_non_list, PL.isi_non_tuple, PL.isi_bl_int, PL.isi_bl_bool, PL.isi_bl_str, PL.isi_bl_list, PL.isi_bl_tuple, PL.isi_int_int, PL.isi_int_bool, PL.isi_int_str, PL.isi_int_list, PL.isi_int_tuple, PL.isi_str_int, PL.isi_str_bool, PL.isi_str_str, PL.isi_str_list, PL.isi_str_tuple, PL.isi_tup_int, PL.isi_tup_bool, PL.isi_tup_str, PL.isi_tup_list, PL.isi_tup_tuple, PL.isi_lst_int, PL.isi_lst_bool, PL.isi_lst_str, PL.isi_lst_list, PL.isi_lst_tuple, PL.pickL, List.filterMap_cons, List.filterMap_nil, true_and, decide_true, decide_false, eq_self, Int.zero_add, decide_eq_true_eq, PL.rowE, PL.rowS, PL.startC, List.length_map, List.map_cons, List.map_nil, List.length_cons, List.length_nil, List.append_nil, List.nil_append, List.cons_append, List.replicate_succ, List.replicate_zero, List.set_cons_zero, List.set_cons_succ, List.getElem?_cons_zero, List.getElem?_cons_succ, Nat.reduceAdd, Nat.reduceSub, if_true, Bool.not_true, Bool.not_false, Bool.false_eq_true, if_false, p30])
    split
    · rename_i hlt
      refine ⟨cp30, ?_⟩
      split
      · rename_i hle
        have rbn := rb more (by omega) (by omega)
        refine ⟨b, t, more, rfl, rbn, ?_⟩
        (try simp only [PL.pSeq, PL.pNext, PL.pSet, PL.pSetO, PL.pRet, PL.pRetN, PL.pIfS, PL.pFor, PL.pWhile, PL.pBrk, PL.pCnt, PL.pDrop, PL.pApp, PL.pAsg, PL.pgN, PL.pFrz, PL.frz, PL.pC, PL.pN, PL.pNo, PL.pBin, PL.negP, PL.pB, PL.pAnd, PL.pOr, PL.pNot, PL.pAndV, PL.pOrV, PL.pNotV, PL.pIf, PL.paNil, PL.paCons, PL.pLst, PL.pTup, PL.pIx, PL.pSl, PL.poNone, PL.poSome, PL.pCall, PL.pCallK, PL.piR1, PL.piR2, PL.piE, PL.pBits, PL.isiP_eq, PL.pLr1, PL.pJoinR, PL.pJoin, PL.pLc_eq, PL.pYes, PL.wipeC, PL.pBor, PL.pBorT, PL.frzs, PL.pSetI, PL.pChainT, PL.isNP, PL.addP_i, PL.addP_s, PL.addP_t, PL.addP_l, PL.catP_l, PL.subP_i, PL.mulP_i, PL.mulP_l, PL.repP_l, PL.mulP_s, PL.fdivP_i, PL.modP_i, PL.powP_i, PL.ltP_i, PL.ltP_s, PL.gtP_i, PL.gtP_s, PL.leP_i, PL.leP_s, PL.geP_i, PL.geP_s, PL.eqP_int, PL.eqP_str, PL.eqP_bl, PL.eqP_lst_lst, PL.eqP_tup_tup, PL.eqP_lst_tup, PL.eqP_tup_lst, PL.neP_int, PL.neP_str, PL.neP_bl, PL.neP_lst_lst, PL.neP_tup_tup, PL.neP_lst_tup, PL.neP_tup_lst, PL.asB_b, PL.asS_s, PL.lenP_lst, PL.itP_lst, PL.ixP_lst, PL.listP_lst_, PL.tupleP_lst_, PL.sumP_lst_, PL.maxP_lst_, PL.minP_lst_, PL.lenP_tup, PL.itP_tup, PL.ixP_tup, PL.listP_tup_, PL.tupleP_tup_, PL.sumP_tup_, PL.maxP_tup_, PL.minP_tup_, PL.lenP_scr, PL.itP_scr, PL.ixP_scr, PL.listP_scr_, PL.tupleP_scr_, PL.sumP_scr_, PL.maxP_scr_, PL.minP_scr_, PL.lenP_str, PL.lenP_dk, PL.itP_str, PL.ixP_str, PL.intP_i, PL.intP_b, PL.rg1_i, PL.rg2_i, PL.lr1_i, PL.lr2_i, PL.maxP_2, PL.maxP_3, PL.minP_2, PL.minP_3, PL.slP_lst, PL.slP_tup, PL.slP_str, PL.slPL_lst, PL.pgTup_t, PL.pgTup_l, PL.pgsCons_c, PL.pgsNil_n, PL.joinRP_l, PL.reprP_i, PL.setP_i, PL.ixE_0, PL.ixE_1, PL.ixE_2, PL.ixE_3, PL.ixE_4, PL.ixE_5, PL.ixE_6, PL.ixE_7, PL.ixE_8, PL.isqrtP_i, PL.reprLP_l, PL.pMkE, PL.pErF, PL.pIsE, PL.pRevS, PL.pRetO, PL.pRetON, PL.divmodP_i, PL.pGet, PL.isi_non_int, PL.isi_non_bool, PL.isi_non_str, PL.isi_non_list, PL.isi_non_tuple, PL.isi_bl_int, PL.isi_bl_bool, PL.isi_bl_str, PL.isi_bl_list, PL.isi_bl_tuple, PL.isi_int_int, PL.isi_int_bool, PL.isi_int_str, PL.isi_int_list, PL.isi_int_tuple, PL.isi_str_int, PL.isi_str_bool, PL.isi_str_str, PL.isi_str_list, PL.isi_str_tuple, PL.isi_tup_int, PL.isi_tup_bool, PL.isi_tup_str, PL.isi_tup_list, PL.isi_tup_tuple, PL.isi_lst_int, PL.isi_lst_bool, PL.isi_lst_str, PL.isi_lst_list, PL.isi_lst_tuple, PL.pickL, List.filterMap_cons, List.filterMap_nil, true_and, decide_true, decide_false, eq_self, Int.zero_add, decide_eq_true_eq, PL.rowE, PL.rowS, PL.startC, List.length_map, List.map_cons, List.map_nil, List.length_cons, List.length_nil, List.append_nil, List.nil_append, List.cons_append, List.replicate_succ, List.replicate_zero, List.set_cons_zero, List.set_cons_succ, List.getElem?_cons_zero, List.getElem?_cons_succ, Nat.reduceAdd, Nat.reduceSub, if_true, Bool.not_true, Bool.not_false, Bool.false_eq_true, if_false])
        split
        · rename_i hb2
          refine ⟨b, t, more, rfl, rbn, b, t, many, rfl, rbm, ?_⟩
          (try simp only [PL.pSeq, PL.pNext, PL.pSet, PL.pSetO, PL.pRet, PL.pRetN, PL.pIfS, PL.pFor, PL.pWhile, PL.pBrk, PL.pCnt, PL.pDrop, PL.pApp, PL.pAsg, PL.pgN, PL.pFrz, PL.frz, PL.pC, PL.pN, PL.pNo, PL.pBin, PL.negP, PL.pB, PL.pAnd, PL.pOr, PL.pNot, PL.pAndV, PL.pOrV, PL.pNotV, PL.pIf, PL.paNil, PL.paCons, PL.pLst, PL.pTup, PL.pIx, PL.pSl, PL.poNone, PL.poSome, PL.pCall, PL.pCallK, PL.piR1, PL.piR2, PL.piE, PL.pBits, PL.isiP_eq, PL.pLr1, PL.pJoinR, PL.pJoin, PL.pLc_eq, PL.pYes, PL.wipeC, PL.pBor, PL.pBorT, PL.frzs, PL.pSetI, PL.pChainT, PL.isNP, PL.addP_i, PL.addP_s, PL.addP_t, PL.addP_l, PL.catP_l, PL.subP_i, PL.mulP_i, PL.mulP_l, PL.repP_l, PL.mulP_s, PL.fdivP_i, PL.modP_i, PL.powP_i, PL.ltP_i, PL.ltP_s, PL.gtP_i, PL.gtP_s, PL.leP_i, PL.leP_s, PL.geP_i, PL.geP_s, PL.eqP_int, PL.eqP_str, PL.eqP_bl, PL.eqP_lst_lst, PL.eqP_tup_tup, PL.eqP_lst_tup, PL.eqP_tup_lst, PL.neP_int, PL.neP_str, PL.neP_bl, PL.neP_lst_lst, PL.neP_tup_tup, PL.neP_lst_tup, PL.neP_tup_lst, PL.asB_b, PL.asS_s, PL.lenP_lst, PL.itP_lst, PL.ixP_lst, PL.listP_lst_, PL.tupleP_lst_, PL.sumP_lst_, PL.maxP_lst_, PL.minP_lst_, PL.lenP_tup, PL.itP_tup, PL.ixP_tup, PL.listP_tup_, PL.tupleP_tup_, PL.sumP_tup_, PL.maxP_tup_, PL.minP_tup_, PL.lenP_scr, PL.itP_scr, PL.ixP_scr, PL.listP_scr_, PL.tupleP_scr_, PL.sumP_scr_, PL.maxP_scr_, PL.minP_scr_, PL.lenP_str, PL.lenP_dk, PL.itP_str, PL.ixP_str, PL.intP_i, PL.intP_b, PL.rg1_i, PL.rg2_i, PL.lr1_i, PL.lr2_i, PL.maxP_2, PL.maxP_3, PL.minP_2, PL.minP_3, PL.slP_lst, PL.slP_tup, PL.slP_str, PL.slPL_lst, PL.pgTup_t, PL.pgTup_l, PL.pgsCons_c, PL.pgsNil_n, PL.joinRP_l, PL.reprP_i, PL.setP_i, PL.ixE_0, PL.ixE_1, PL.ixE_2, PL.ixE_3, PL.ixE_4, PL.ixE_5, PL.ixE_6, PL.ixE_7, PL.ixE_8, PL.isqrtP_i, PL.reprLP_l, PL.pMkE, PL.pErF, PL.pIsE, PL.pRevS, PL.pRetO, PL.pRetON, PL.divmodP_i, PL.pGet, PL.isi_non_int, PL.isi_non_bool, PL.isi_non_str, PL.isi_non_list, PL.isi_non_tuple, PL.isi_bl_int, PL.isi_bl_bool, PL.isi_bl_str, PL.isi_bl_list, PL.isi_bl_tuple, PL.isi_int_int, PL.isi_int_bool, PL.isi_int_str, PL.isi_int_list, PL.isi_int_tuple, PL.isi_str_int, PL.isi_str_bool, PL.isi_str_str, PL.isi_str_list, PL.isi_str_tuple, PL.isi_tup_int, PL.isi_tup_bool, PL.isi_tup_str, PL.isi_tup_list, PL.isi_tup_tuple, PL.isi_lst_int, PL.isi_lst_bool, PL.isi_lst_str, PL.isi_lst_list, PL.isi_lst_tuple, PL.pickL, List.filterMap_cons, List.filterMap_nil, true_and, decide_true, decide_false, eq_self, Int.zero_add, decide_eq_true_eq, PL.rowE, PL.rowS, PL.startC, List.length_map, List.map_cons, List.map_nil, List.length_cons, List.length_nil, List.append_nil, List.nil_append, List.cons_append, List.replicate_succ, List.replicate_zero, List.set_cons_zero, List.set_cons_succ, List.getElem?_cons_zero, List.getElem?_cons_succ, Nat.reduceAdd, Nat.reduceSub, if_true, Bool.not_true, Bool.not_false, Bool.false_eq_true, if_false])
          have lt := XS_lt (s := b) (t := t) (n := many) (m := more) (by omega) t1 m0 (by have := up190 rbn.n1; omega) (by omega)
          rw [if_neg (by omega)]
          rfl
        · rfl
      · rfl
    · rfl
  rintro _ rfl
  unfold N'
  (try simp only [PL.pSeq, PL.pNext, PL.pSet, PL.pSetO, PL.pRet, PL.pRetN, PL.pIfS, PL.pFor, PL.pWhile, PL.pBrk, PL.pCnt, PL.pDrop, PL.pApp, PL.pAsg, PL.pgN, PL.pFrz, PL.frz, PL.pC, PL.pN, PL.pNo, PL.pBin, PL.negP, PL.pB, PL.pAnd, PL.pOr, PL.pNot, PL.pAndV, PL.pOrV, PL.pNotV, PL.pIf, PL.paNil, PL.paCons, PL.pLst, PL.pTup, PL.pIx, PL.pSl, PL.poNone, PL.poSome, PL.pCall, PL.pCallK, PL.piR1, PL.piR2, PL.piE, PL.pBits, PL.isiP_eq, PL.pLr1, PL.pJoinR, PL.pJoin, PL.pLc_eq, PL.pYes, PL.wipeC, PL.pBor, PL.pBorT, PL.frzs, PL.pSetI, PL.pChainT, PL.isNP, PL.addP_i, PL.addP_s, PL.addP_t, PL.addP_l, PL.catP_l, PL.subP_i, PL.mulP_i, PL.mulP_l, PL.repP_l, PL.mulP_s, PL.fdivP_i, PL.modP_i, PL.powP_i, PL.ltP_i, PL.ltP_s, PL.gtP_i, PL.gtP_s, PL.leP_i, PL.leP_s, PL.geP_i, PL.geP_s, PL.eqP_int, PL.eqP_str, PL.eqP_bl, PL.eqP_lst_lst, PL.eqP_tup_tup, PL.eqP_lst_tup, PL.eqP_tup_lst, PL.neP_int, PL.neP_str, PL.neP_bl, PL.neP_lst_lst, PL.neP_tup_tup, PL.neP_lst_tup, PL.neP_tup_lst, PL.asB_b, PL.asS_s, PL.lenP_lst, PL.itP_lst, PL.ixP_lst, PL.listP_lst_, PL.tupleP_lst_, PL.sumP_lst_, PL.maxP_lst_, PL.minP_lst_, PL.lenP_tup, PL.itP_tup, PL.ixP_tup, PL.listP_tup_, PL.tupleP_tup_, PL.sumP_tup_, PL.maxP_tup_, PL.minP_tup_, PL.lenP_scr, PL.itP_scr, PL.ixP_scr, PL.listP_scr_, PL.tupleP_scr_, PL.sumP_scr_, PL.maxP_scr_, PL.minP_scr_, PL.lenP_str, PL.lenP_dk, PL.itP_str, PL.ixP_str, PL.intP_i, PL.intP_b, PL.rg1_i, PL.rg2_i, PL.lr1_i, PL.lr2_i, PL.maxP_2, PL.maxP_3, PL.minP_2, PL.minP_3, PL.slP_lst, PL.slP_tup, PL.slP_str, PL.slPL_lst, PL.pgTup_t, PL.pgTup_l, PL.pgsCons_c, PL.pgsNil_n, PL.joinRP_l, PL.reprP_i, PL.setP_i, PL.ixE_0, PL.ixE_1, PL.ixE_2, PL.ixE_3, PL.ixE_4, PL.ixE_5, PL.ixE_6, PL.ixE_7, PL.ixE_8, PL.isqrtP_i, PL.reprLP_l, PL.pMkE, PL.pErF, PL.pIsE, PL.pRevS, PL.pRetO, PL.pRetON, PL.divmodP_i, PL.pGet, PL.isi_non_int, PL.isi_non_bool, PL.isi_non_str, PL.isi_non_list, PL.isi_non_tuple, PL.isi_bl_int, PL.isi_bl_bool, PL.isi_bl_str, PL.isi_bl_list, PL.isi_bl_tuple, PL.isi_int_int, PL.isi_int_bool, PL.isi_int_str, PL.isi_int_list, PL.isi_int_tuple, PL.isi_str_int, PL.isi_str_bool, PL.isi_str_str, PL.isi_str_list, PL.isi_str_tuple, PL.isi_tup_int, PL.isi_tup_bool, PL.isi_tup_str, PL.isi_tup_list, PL.isi_tup_tuple, PL.isi_lst_int, PL.isi_lst_bool, PL.isi_lst_str, PL.isi_lst_list, PL.isi_lst_tuple, PL.pickL, List.filterMap_cons, List.filterMap_nil, true_and, decide_true, decide_false, eq_self, Int.zero_add, decide_eq_true_eq, PL.rowE, PL.rowS, PL.startC, List.length_map, List.map_cons, List.map_nil, List.length_cons, List.length_nil, List.append_nil, List.nil_append, List.cons_append, List.replicate_succ, List.replicate_zero, List.set_cons_zero, List.set_cons_succ, List.getElem?_cons_zero, List.getElem?_cons_succ, Nat.reduceAdd, Nat.reduceSub, if_true, Bool.not_true, Bool.not_false, Bool.false_eq_true, if_false])
  refine ⟨ns, 1, rfl, hn, by decide, by decide, fun c1 => ?_⟩
  refine ⟨by omega, by omega, by decide, by decide, by decide, by decide, ?_⟩
  refine ⟨c1, szF, rfl, by decide, sizes_ok (by decide), fun far hf => ?_⟩
  have fl : far.length = 9 := hf.length
  obtain ⟨f0, g0', y0, y1⟩ := hf.get (i := 0) rfl
  obtain ⟨f1, g1, x0, x1⟩ := hf.get (i := 1) rfl
  obtain ⟨f2, g2, w0, w1⟩ := hf.get (i := 2) rfl
  (try simp only [PL.pSeq, PL.pNext, PL.pSet, PL.pSetO, PL.pRet, PL.pRetN, PL.pIfS, PL.pFor, PL.pWhile, PL.pBrk, PL.pCnt, PL.pDrop, PL.pApp, PL.pAsg, PL.pgN, PL.pFrz, PL.frz, PL.pC, PL.pN, PL.pNo, PL.pBin, PL.negP, PL.pB, PL.pAnd, PL.pOr, PL.pNot, PL.pAndV, PL.pOrV, PL.pNotV, PL.pIf, PL.paNil, PL.paCons, PL.pLst, PL.pTup, PL.pIx, PL.pSl, PL.poNone, PL.poSome, PL.pCall, PL.pCallK, PL.piR1, PL.piR2, PL.piE, PL.pBits, PL.isiP_eq, PL.pLr1, PL.pJoinR, PL.pJoin, PL.pLc_eq, PL.pYes, PL.wipeC, PL.pBor, PL.pBorT, PL.frzs, PL.pSetI, PL.pChainT, PL.isNP, PL.addP_i, PL.addP_s, PL.addP_t, PL.addP_l, PL.catP_l, PL.subP_i, PL.mulP_i, PL.mulP_l, PL.repP_l, PL.mulP_s, PL.fdivP_i, PL.modP_i, PL.powP_i, PL.ltP_i, PL.ltP_s, PL.gtP_i, PL.gtP_s, PL.leP_i, PL.leP_s, PL.geP_i, PL.geP_s, PL.eqP_int, PL.eqP_str, PL.eqP_bl, PL.eqP_lst_lst, PL.eqP_tup_tup, PL.eqP_lst_tup, PL.eqP_tup_lst, PL.neP_int, PL.neP_str, PL.neP_bl, PL.neP_lst_lst, PL.neP_tup_tup, PL.neP_lst_tup, PL.neP_tup_lst, PL.asB_b, PL.asS_s, PL.lenP_lst, PL.itP_lst, PL.ixP_lst, PL.listP_lst_, PL.tupleP_lst_, PL.sumP_lst_, PL.maxP_lst_, PL.minP_lst_, PL.lenP_tup, PL.itP_tup, PL.ixP_tup, PL.listP_tup_, PL.tupleP_tup_, PL.sumP_tup_, PL.maxP_tup_, PL.minP_tup_, PL.lenP_scr, PL.itP_scr, PL.ixP_scr, PL.listP_scr_, PL.tupleP_scr_, PL.sumP_scr_, PL.maxP_scr_, PL.minP_scr_, PL.lenP_str, PL.lenP_dk, PL.itP_str, PL.ixP_str, PL.intP_i, PL.intP_b, PL.rg1_i, PL.rg2_i, PL.lr1_i, PL.lr2_i, PL.maxP_2, PL.maxP_3, PL.minP_2, PL.minP_3, PL.slP_lst, PL.slP_tup, PL.slP_str, PL.slPL_lst, PL.pgTup_t, PL.pgTup_l, PL.pgsCons_c, PL.pgsNil_n, PL.joinRP_l, PL.reprP_i, PL.setP_i, PL.ixE_0, PL.ixE_1, PL.ixE_2, PL.ixE_3, PL.ixE_4, PL.ixE_5, PL.ixE_6, PL.ixE_7, PL.ixE_8, PL.isqrtP_i, PL.reprLP_l, PL.pMkE, PL.pErF, PL.pIsE, PL.pRevS, PL.pRetO, PL.pRetON, PL.divmodP_i, PL.pGet, PL.isi_non_int, PL.isi_non_bool, PL.isi_non_str, PL.isi_non_list, PL.isi_non_tuple, PL.isi_bl_int, PL.isi_bl_bool, PL.isi_bl_str, PL.isi_bl_list, PL.isi_bl_tuple, PL.isi_int_int, PL.isi_int_bool, PL.isi_int_str, PL.isi_int_list, PL.isi_int_tuple, PL.isi_str_int, PL.isi_str_bool, PL.isi_str_str, PL.isi_str_list, PL.isi_str_tuple, PL.isi_tup_int, PL.isi_tup_bool, PL.isi_tup_str, PL.isi_tup_list, PL.isi_tup_tuple, PL.isi_lst_int, PL.isi_lst_bool, PL.isi_lst_str, PL.isi_lst_list, PL.isi_lst_tuple, PL.pickL, List.filterMap_cons, List.filterMap_nil, true_and, decide_true, decide_false, eq_self, Int.zero_add, decide_eq_true_eq, PL.rowE, PL.rowS, PL.startC, List.length_map, List.map_cons, List.map_nil, List.length_cons, List.length_nil, List.append_nil, List.nil_append, List.cons_append, List.replicate_succ, List.replicate_zero, List.set_cons_zero, List.set_cons_succ, List.getElem?_cons_zero, List.getElem?_cons_succ, Nat.reduceAdd, Nat.reduceSub, if_true, Bool.not_true, Bool.not_false, Bool.false_eq_true, if_false])
  rw [show cutD (far.map D.int) none (some 2) = (far.take 2).map D.int from cutD_to D.int far 2 (by omega), show cutD (far.map D.int) (some 3) (some 9) = ((far.drop 3).take 6).map D.int from cutD_map D.int far 3 9 (by omega)]
  have ef : far.take 2 = [f0, f1] := by
    match far, fl with
    | x :: y :: far, _ =>
      cases g0'; cases g1; rfl
  rw [ef]
  refine ⟨b, t, f0, f1, rfl, b1', b6, t1, t3, x0, by omega, ?_⟩
  (try simp only [PL.pSeq, PL.pNext, PL.pSet, PL.pSetO, PL.pRet, PL.pRetN, PL.pIfS, PL.pFor, PL.pWhile, PL.pBrk, PL.pCnt, PL.pDrop, PL.pApp, PL.pAsg, PL.pgN, PL.pFrz, PL.frz, PL.pC, PL.pN, PL.pNo, PL.pBin, PL.negP, PL.pB, PL.pAnd, PL.pOr, PL.pNot, PL.pAndV, PL.pOrV, PL.pNotV, PL.pIf, PL.paNil, PL.paCons, PL.pLst, PL.pTup, PL.pIx, PL.pSl, PL.poNone, PL.poSome, PL.pCall, PL.pCallK, PL.piR1, PL.piR2, PL.piE, PL.pBits, PL.isiP_eq, PL.pLr1, PL.pJoinR, PL.pJoin, PL.pLc_eq, PL.pYes, PL.wipeC, PL.pBor, PL.pBorT, PL.frzs, PL.pSetI, PL.pChainT, PL.isNP, PL.addP_i, PL.addP_s, PL.addP_t, PL.addP_l, PL.catP_l, PL.subP_i, PL.mulP_i, PL.mulP_l, PL.repP_l, PL.mulP_s, PL.fdivP_i, PL.modP_i, PL.powP_i, PL.ltP_i, PL.ltP_s, PL.gtP_i, PL.gtP_s, PL.leP_i, PL.leP_s, PL.geP_i, PL.geP_s, PL.eqP_int, PL.eqP_str, PL.eqP_bl, PL.eqP_lst_lst, PL.eqP_tup_tup, PL.eqP_lst_tup, PL.eqP_tup_lst, PL.neP_int, PL.neP_str, PL.neP_bl, PL.neP_lst_lst, PL.neP_tup_tup, PL.neP_lst_tup, PL.neP_tup_lst, PL.asB_b, PL.asS_s, PL.lenP_lst, PL.itP_lst, PL.ixP_lst, PL.listP_lst_, PL.tupleP_lst_, PL.sumP_lst_, PL.maxP_lst_, PL.minP_lst_, PL.lenP_tup, PL.itP_tup, PL.ixP_tup, PL.listP_tup_, PL.tupleP_tup_, PL.sumP_tup_, PL.maxP_tup_, PL.minP_tup_, PL.lenP_scr, PL.itP_scr, PL.ixP_scr, PL.listP_scr_, PL.tupleP_scr_, PL.sumP_scr_, PL.maxP_scr_, PL.minP_scr_, PL.lenP_str, PL.lenP_dk, PL.itP_str, PL.ixP_str, PL.intP_i, PL.intP_b, PL.rg1_i, PL.rg2_i, PL.lr1_i, PL.lr2_i, PL.maxP_2, PL.maxP_3, PL.minP_2, PL.minP_3, PL.slP_lst, PL.slP_tup, PL.slP_str, PL.slPL_lst, PL.pgTup_t, PL.pgTup_l, PL.pgsCons_c, PL.pgsNil_n, PL.joinRP_l, PL.reprP_i, PL.setP_i, PL.ixE_0, PL.ixE_1, PL.ixE_2, PL.ixE_3, PL.ixE_4, PL.ixE_5, PL.ixE_6, PL.ixE_7, PL.ixE_8, PL.isqrtP_i, PL.reprLP_l, PL.pMkE, PL.pErF, PL.pIsE, PL.pRevS, PL.pRetO, PL.pRetON, PL.divmodP_i, PL.pGet, PL.isi_non_int, PL.isi_non_bool, PL.isi_non_str, PL.isi_non_list, PL.isi_non_tuple, PL.isi_bl_int, PL.isi_bl_bool, PL.isi_bl_str, PL.isi_bl_list, PL.isi_bl_tuple, PL.isi_int_int, PL.isi_int_bool, PL.isi_int_str, PL.isi_int_list, PL.isi_int_tuple, PL.isi_str_int, PL.isi_str_bool, PL.isi_str_str, PL.isi_str_list, PL.isi_str_tuple, PL.isi_tup_int, PL.isi_tup_bool, PL.isi_tup_str, PL.isi_tup_list, PL.isi_tup_tuple, PL.isi_lst_int, PL.isi_lst_bool, PL.isi_lst_str, PL.isi_lst_list, PL.isi_lst_tuple, PL.pickL, List.filterMap_cons, List.filterMap_nil, true_and, decide_true, decide_false, eq_self, Int.zero_add, decide_eq_true_eq, PL.rowE, PL.rowS, PL.startC, List.length_map, List.map_cons, List.map_nil, List.length_cons, List.length_nil, List.append_nil, List.nil_append, List.cons_append, List.replicate_succ, List.replicate_zero, List.set_cons_zero, List.set_cons_succ, List.getElem?_cons_zero, List.getElem?_cons_succ, Nat.reduceAdd, Nat.reduceSub, if_true, Bool.not_true, Bool.not_false, Bool.false_eq_true, if_false])
  have h6 : Digs ((far.drop 3).take 6) (List.replicate 6 100000000) := dg_take 6 (dg_drop 3 hf)
  refine ⟨_, atI_int D.int 2 rfl g2, ?_⟩
  refine ⟨b, t, f2, (far.drop 3).take 6, rfl, b1', b6, t1, t3, (dg_in8 h6).1, (dg_in8 h6).2, ?_⟩
  (try simp only [PL.pSeq, PL.pNext, PL.pSet, PL.pSetO, PL.pRet, PL.pRetN, PL.pIfS, PL.pFor, PL.pWhile, PL.pBrk, PL.pCnt, PL.pDrop, PL.pApp, PL.pAsg, PL.pgN, PL.pFrz, PL.frz, PL.pC, PL.pN, PL.pNo, PL.pBin, PL.negP, PL.pB, PL.pAnd, PL.pOr, PL.pNot, PL.pAndV, PL.pOrV, PL.pNotV, PL.pIf, PL.paNil, PL.paCons, PL.pLst, PL.pTup, PL.pIx, PL.pSl, PL.poNone, PL.poSome, PL.pCall, PL.pCallK, PL.piR1, PL.piR2, PL.piE, PL.pBits, PL.isiP_eq, PL.pLr1, PL.pJoinR, PL.pJoin, PL.pLc_eq, PL.pYes, PL.wipeC, PL.pBor, PL.pBorT, PL.frzs, PL.pSetI, PL.pChainT, PL.isNP, PL.addP_i, PL.addP_s, PL.addP_t, PL.addP_l, PL.catP_l, PL.subP_i, PL.mulP_i, PL.mulP_l, PL.repP_l, PL.mulP_s, PL.fdivP_i, PL.modP_i, PL.powP_i, PL.ltP_i, PL.ltP_s, PL.gtP_i, PL.gtP_s, PL.leP_i, PL.leP_s, PL.geP_i, PL.geP_s, PL.eqP_int, PL.eqP_str, PL.eqP_bl, PL.eqP_lst_lst, PL.eqP_tup_tup, PL.eqP_lst_tup, PL.eqP_tup_lst, PL.neP_int, PL.neP_str, PL.neP_bl, PL.neP_lst_lst, PL.neP_tup_tup, PL.neP_lst_tup, PL.neP_tup_lst, PL.asB_b, PL.asS_s, PL.lenP_lst, PL.itP_lst, PL.ixP_lst, PL.listP_lst_, PL.tupleP_lst_, PL.sumP_lst_, PL.maxP_lst_, PL.minP_lst_, PL.lenP_tup, PL.itP_tup, PL.ixP_tup, PL.listP_tup_, PL.tupleP_tup_, PL.sumP_tup_, PL.maxP_tup_, PL.minP_tup_, PL.lenP_scr, PL.itP_scr, PL.ixP_scr, PL.listP_scr_, PL.tupleP_scr_, PL.sumP_scr_, PL.maxP_scr_, PL.minP_scr_, PL.lenP_str, PL.lenP_dk, PL.itP_str, PL.ixP_str, PL.intP_i, PL.intP_b, PL.rg1_i, PL.rg2_i, PL.lr1_i, PL.lr2_i, PL.maxP_2, PL.maxP_3, PL.minP_2, PL.minP_3, PL.slP_lst, PL.slP_tup, PL.slP_str, PL.slPL_lst, PL.pgTup_t, PL.pgTup_l, PL.pgsCons_c, PL.pgsNil_n, PL.joinRP_l, PL.reprP_i, PL.setP_i, PL.ixE_0, PL.ixE_1, PL.ixE_2, PL.ixE_3, PL.ixE_4, PL.ixE_5, PL.ixE_6, PL.ixE_7, PL.ixE_8, PL.isqrtP_i, PL.reprLP_l, PL.pMkE, PL.pErF, PL.pIsE, PL.pRevS, PL.pRetO, PL.pRetON, PL.divmodP_i, PL.pGet, PL.isi_non_int, PL.isi_non_bool, PL.isi_non_str, PL.isi_non_list, PL.isi_non_tuple, PL.isi_bl_int, PL.isi_bl_bool, PL.isi_bl_str, PL.isi_bl_list, PL.isi_bl_tuple, PL.isi_int_int, PL.isi_int_bool, PL.isi_int_str, PL.isi_int_list, PL.isi_int_tuple, PL.isi_str_int, PL.isi_str_bool, PL.isi_str_str, PL.isi_str_list, PL.isi_str_tuple, PL.isi_tup_int, PL.isi_tup_bool, PL.isi_tup_str, PL.isi_tup_list, PL.isi_tup_tuple, PL.isi_lst_int, PL.isi_lst_bool, PL.isi_lst_str, PL.isi_lst_list, PL.isi_lst_tuple, PL.pickL, List.filterMap_cons, List.filterMap_nil, true_and, decide_true, decide_false, eq_self, Int.zero_add, decide_eq_true_eq, PL.rowE, PL.rowS, PL.startC, List.length_map, List.map_cons, List.map_nil, List.length_cons, List.length_nil, List.append_nil, List.nil_append, List.cons_append, List.replicate_succ, List.replicate_zero, List.set_cons_zero, List.set_cons_succ, List.getElem?_cons_zero, List.getElem?_cons_succ, Nat.reduceAdd, Nat.reduceSub, if_true, Bool.not_true, Bool.not_false, Bool.false_eq_true, if_false])
  refine ⟨b, t, many, rfl, rbm, b, t, many, rfl, rbm, ?_⟩
  (try simp only [PL.pSeq, PL.pNext, PL.pSet, PL.pSetO, PL.pRet, PL.pRetN, PL.pIfS, PL.pFor, PL.pWhile, PL.pBrk, PL.pCnt, PL.pDrop, PL.pApp, PL.pAsg, PL.pgN, PL.pFrz, PL.frz, PL.pC, PL.pN, PL.pNo, PL.pBin, PL.negP, PL.pB, PL.pAnd, PL.pOr, PL.pNot, PL.pAndV, PL.pOrV, PL.pNotV, PL.pIf, PL.paNil, PL.paCons, PL.pLst, PL.pTup, PL.pIx, PL.pSl, PL.poNone, PL.poSome, PL.pCall, PL.pCallK, PL.piR1, PL.piR2, PL.piE, PL.pBits, PL.isiP_eq, PL.pLr1, PL.pJoinR, PL.pJoin, PL.pLc_eq, PL.pYes, PL.wipeC, PL.pBor, PL.pBorT, PL.frzs, PL.pSetI, PL.pChainT, PL.isNP, PL.addP_i, PL.addP_s, PL.addP_t, PL.addP_l, PL.catP_l, PL.subP_i, PL.mulP_i, PL.mulP_l, PL.repP_l, PL.mulP_s, PL.fdivP_i, PL.modP_i, PL.powP_i, PL.ltP_i, PL.ltP_s, PL.gtP_i, PL.gtP_s, PL.leP_i, PL.leP_s, PL.geP_i, PL.geP_s, PL.eqP_int, PL.eqP_str, PL.eqP_bl, PL.eqP_lst_lst, PL.eqP_tup_tup, PL.eqP_lst_tup, PL.eqP_tup_lst, PL.neP_int, PL.neP_str, PL.neP_bl, PL.neP_lst_lst, PL.neP_tup_tup, PL.neP_lst_tup, PL.neP_tup_lst, PL.asB_b, PL.asS_s, PL.lenP_lst, PL.itP_lst, PL.ixP_lst, PL.listP_lst_, PL.tupleP_lst_, PL.sumP_lst_, PL.maxP_lst_, PL.minP_lst_, PL.lenP_tup, PL.itP_tup, PL.ixP_tup, PL.listP_tup_, PL.tupleP_tup_, PL.sumP_tup_, PL.maxP_tup_, PL.minP_tup_, PL.lenP_scr, PL.itP_scr, PL.ixP_scr, PL.listP_scr_, PL.tupleP_scr_, PL.sumP_scr_, PL.maxP_scr_, PL.minP_scr_, PL.lenP_str, PL.lenP_dk, PL.itP_str, PL.ixP_str, PL.intP_i, PL.intP_b, PL.rg1_i, PL.rg2_i, PL.lr1_i, PL.lr2_i, PL.maxP_2, PL.maxP_3, PL.minP_2, PL.minP_3, PL.slP_lst, PL.slP_tup, PL.slP_str, PL.slPL_lst, PL.pgTup_t, PL.pgTup_l, PL.pgsCons_c, PL.pgsNil_n, PL.joinRP_l, PL.reprP_i, PL.setP_i, PL.ixE_0, PL.ixE_1, PL.ixE_2, PL.ixE_3, PL.ixE_4, PL.ixE_5, PL.ixE_6, PL.ixE_7, PL.ixE_8, PL.isqrtP_i, PL.reprLP_l, PL.pMkE, PL.pErF, PL.pIsE, PL.pRevS, PL.pRetO, PL.pRetON, PL.divmodP_i, PL.pGet, PL.isi_non_int, PL.isi_non_bool, PL.isi_non_str, PL.isi_non_list, PL.isi_non_tuple, PL.isi_bl_int, PL.isi_bl_bool, PL.isi_bl_str, PL.isi_bl_list, PL.isi_bl_tuple, PL.isi_int_int, PL.isi_int_bool, PL.isi_int_str, PL.isi_int_list, PL.isi_int_tuple, PL.isi_str_int, PL.isi_str_bool, PL.isi_str_str, PL.isi_str_list, PL.isi_str_tuple, PL.isi_tup_int, PL.isi_tup_bool, PL.isi_tup_str, PL.isi_tup_list, PL.isi_tup_tuple, PL.isi_lst_int, PL.isi_lst_bool, PL.isi_lst_str, PL.isi_lst_list, PL.isi_lst_tuple, PL.pickL, List.filterMap_cons, List.filterMap_nil, true_and, decide_true, decide_false, eq_self, Int.zero_add, decide_eq_true_eq, PL.rowE, PL.rowS, PL.startC, List.length_map, List.map_cons, List.map_nil, List.length_cons, List.length_nil, List.append_nil, List.nil_append, List.cons_append, List.replicate_succ, List.replicate_zero, List.set_cons_zero, List.set_cons_succ, List.getElem?_cons_zero, List.getElem?_cons_succ, Nat.reduceAdd, Nat.reduceSub, if_true, Bool.not_true, Bool.not_false, Bool.false_eq_true, if_false])
  refine ⟨by omega, ?_⟩
  refine rep2 (n := 300) (by decide) (xs_bd rbm).1 (xs_bd rbm).2 ?_
  rw [hs]
  (try simp only [PL.pSeq, PL.pNext, PL.pSet, PL.pSetO, PL.pRet, PL.pRetN, PL.pIfS, PL.pFor, PL.pWhile, PL.pBrk, PL.pCnt, PL.pDrop, PL.pApp, PL.pAsg, PL.pgN, PL.pFrz, PL.frz, PL.pC, PL.pN, PL.pNo, PL.pBin, PL.negP, PL.pB, PL.pAnd, PL.pOr, PL.pNot, PL.pAndV, PL.pOrV, PL.pNotV, PL.pIf, PL.paNil, PL.paCons, PL.pLst, PL.pTup, PL.pIx, PL.pSl, PL.poNone, PL.poSome, PL.pCall, PL.pCallK, PL.piR1, PL.piR2, PL.piE, PL.pBits, PL.isiP_eq, PL.pLr1, PL.pJoinR, PL.pJoin, PL.pLc_eq, PL.pYes, PL.wipeC, PL.pBor, PL.pBorT, PL.frzs, PL.pSetI, PL.pChainT, PL.isNP, PL.addP_i, PL.addP_s, PL.addP_t, PL.addP_l, PL.catP_l, PL.subP_i, PL.mulP_i, PL.mulP_l, PL.repP_l, PL.mulP_s, PL.fdivP_i, PL.modP_i, PL.powP_i, PL.ltP_i, PL.ltP_s, PL.gtP_i, PL.gtP_s, PL.leP_i, PL.leP_s, PL.geP_i, PL.geP_s, PL.eqP_int, PL.eqP_str, PL.eqP_bl, PL.eqP_lst_lst, PL.eqP_tup_tup, PL.eqP_lst_tup, PL.eqP_tup_lst, PL.neP_int, PL.neP_str, PL.neP_bl, PL.neP_lst_lst, PL.neP_tup_tup, PL.neP_lst_tup, PL.neP_tup_lst, PL.asB_b, PL.asS_s, PL.lenP_lst, PL.itP_lst, PL.ixP_lst, PL.listP_lst_, PL.tupleP_lst_, PL.sumP_lst_, PL.maxP_lst_, PL.minP_lst_, PL.lenP_tup, PL.itP_tup, PL.ixP_tup, PL.listP_tup_, PL.tupleP_tup_, PL.sumP_tup_, PL.maxP_tup_, PL.minP_tup_, PL.lenP_scr, PL.itP_scr, PL.ixP_scr, PL.listP_scr_, PL.tupleP_scr_, PL.sumP_scr_, PL.maxP_scr_, PL.minP_scr_, PL.lenP_str, PL.lenP_dk, PL.itP_str, PL.ixP_str, PL.intP_i, PL.intP_b, PL.rg1_i, PL.rg2_i, PL.lr1_i, PL.lr2_i, PL.maxP_2, PL.maxP_3, PL.minP_2, PL.minP_3, PL.slP_lst, PL.slP_tup, PL.slP_str, PL.slPL_lst, PL.pgTup_t, PL.pgTup_l, PL.pgsCons_c, PL.pgsNil_n, PL.joinRP_l, PL.reprP_i, PL.setP_i, PL.ixE_0, PL.ixE_1, PL.ixE_2, PL.ixE_3, PL.ixE_4, PL.ixE_5, PL.ixE_6, PL.ixE_7, PL.ixE_8, PL.isqrtP_i, PL.reprLP_l, PL.pMkE, PL.pErF, PL.pIsE, PL.pRevS, PL.pRetO, PL.pRetON, PL.divmodP_i, PL.pGet, PL.isi_non_int, PL.isi_non_bool, PL.isi_non_str, PL.isi_non_list, PL.isi_non_tuple, PL.isi_bl_int, PL.isi_bl_bool, PL.isi_bl_str, PL.isi_bl_list, PL.isi_bl_tuple, PL.isi_int_int, PL.isi_int_bool, PL.isi_int_str, PL.isi_int_list, PL.isi_int_tuple, PL.isi_str_int, PL.isi_str_bool, PL.isi_str_str, PL.isi_str_list, PL.isi_str_tuple, PL.isi_tup_int, PL.isi_tup_bool, PL.isi_tup_str, PL.isi_tup_list, PL.isi_tup_tuple, PL.isi_lst_int, PL.isi_lst_bool, PL.isi_lst_str, PL.isi_lst_list, PL.isi_lst_tuple, PL.pickL, List.filterMap_cons, List.filterMap_nil, true_and, decide_true, decide_false, eq_self, Int.zero_add, decide_eq_true_eq, PL.rowE, PL.rowS, PL.startC, List.length_map, List.map_cons, List.map_nil, List.length_cons, List.length_nil, List.append_nil, List.nil_append, List.cons_append, List.replicate_succ, List.replicate_zero, List.set_cons_zero, List.set_cons_succ, List.getElem?_cons_zero, List.getElem?_cons_succ, Nat.reduceAdd, Nat.reduceSub, if_true, Bool.not_true, Bool.not_false, Bool.false_eq_true, if_false])
  exact h
end K60
end

section
set_option linter.all false
set_option maxRecDepth 100000
set_option maxHeartbeats 0
/-! The walk of law_k60_told_excess; printed by gen.py. -/
namespace K60
open PySem PySem.Spec PyProof.Rows L2 PL
def top (i : Nat) : Stmt := PySem.Challenge.pw_unpressed_k60_told_excess.main.body.getD i (.Pass ⟨0, 0, 0, 0⟩)
abbrev d_greatest_count : Stmt := top 2
abbrev d_width : Stmt := top 4
abbrev d_pressed_length : Stmt := top 6
abbrev d_level_total : Stmt := top 8
abbrev d_floor_bits : Stmt := top 9
abbrev d_excess : Stmt := top 11
abbrev d_told_excess : Stmt := top 12
abbrev d_worst_excess : Stmt := top 13
abbrev d_law_whole : Stmt := top 15
abbrev d_law_cell : Stmt := top 16
abbrev d_law_cut : Stmt := top 17
abbrev d_law_width : Stmt := top 18
abbrev d_law_log : Stmt := top 19
abbrev d_law_digits : Stmt := top 20
abbrev d_law_filled : Stmt := top 21
abbrev d_law_told : Stmt := top 22
abbrev d_law_long_block : Stmt := top 23
abbrev d_law_gap : Stmt := top 24
abbrev d_law_greatest : Stmt := top 25
abbrev d_law_shortest : Stmt := top 26
abbrev d_law_least : Stmt := top 27
abbrev d_law_all_texts : Stmt := top 28
abbrev d_law_big : Stmt := top 29
abbrev d_law_asked : Stmt := top 30
abbrev d_law_numbers_hold : Stmt := top 31
abbrev d_law_worst_holds : Stmt := top 32
abbrev d_law_small_hold : Stmt := top 33
abbrev d_law_great_hold : Stmt := top 34
abbrev d_law : Stmt := top 35
structure Fre (mg : MG) : Prop where
  bool : mg "bool" = none
  int : mg "int" = none
  isinstance : mg "isinstance" = none
  len : mg "len" = none
  list : mg "list" = none
  max : mg "max" = none
  min : mg "min" = none
  range : mg "range" = none
  repr : mg "repr" = none
  tuple : mg "tuple" = none
section
variable {P : Program} {w : World} {K : PySem.W.Frag} {mg : MG} {base : Heap}
theorem sc_greatest_count : FnScope ["size", "length", "count", "left", "letters", "texts"] ["size", "length"] (defScope d_greatest_count) := ⟨rfl, rfl, rfl, by decide +kernel, rfl, by decide +kernel, by decide +kernel⟩
theorem ok_greatest_count {f : Addr} {fd : FuncData} (F : FnP K "greatest_count" d_greatest_count f fd) (I_isqrt : mg "isqrt" = some (.builtin "math.isqrt")) : FnOk P w K mg base CX0 1 f fd ["size", "length"] (spP K mg sp_greatest_count) :=
  have S := sc_greatest_count
  pfnD (p := b_greatest_count) F S len_greatest_count (fun cdv A outer s H E hr =>
    (puss_cons (pus_if (put_eq (Room.units hr) (PuE.o (pu_name 0)) (PuE.o pu_int))
      (puss_cons (pus_set 2 S.nd (pu_isqrt I_isqrt (PuE.o (pu_mul (PuE.o pu_int) (PuE.o (pu_name 1))))))
      (puss_cons (pus_if (put_gt (PuE.o (pu_mul (PuE.o (pu_name 2)) (PuE.o (pu_add (PuE.o (pu_name 2)) (PuE.o pu_int))))) (PuE.o (pu_mul (PuE.o pu_int) (PuE.o (pu_name 1)))))
      (puss_one (pus_set 2 S.nd (pu_sub (PuE.o (pu_name 2)) (PuE.o pu_int))))
      puss_nil)
      (puss_one (pus_ret (pu_name 2)))))
      puss_nil)
      (puss_cons (pus_set 2 S.nd pu_int)
      (puss_cons (pus_set 3 S.nd (pu_name 1))
      (puss_cons (pus_set 4 S.nd pu_int)
      (puss_cons (pus_set 5 S.nd (pu_name 0))
      (puss_cons (pus_while PassesOwn.never (put_le (PuE.o (pu_mul (PuE.o (pu_name 5)) (PuE.o (pu_name 4)))) (PuE.o (pu_name 3)))
      (puss_cons (pus_set 2 S.nd (pu_add (PuE.o (pu_name 2)) (PuE.o (pu_name 5))))
      (puss_cons (pus_set 3 S.nd (pu_sub (PuE.o (pu_name 3)) (PuE.o (pu_mul (PuE.o (pu_name 5)) (PuE.o (pu_name 4))))))
      (puss_cons (pus_set 4 S.nd (pu_add (PuE.o (pu_name 4)) (PuE.o pu_int)))
      (puss_one (pus_set 5 S.nd (pu_mul (PuE.o (pu_name 5)) (PuE.o (pu_name 0)))))))))
      (puss_one (pus_ret (pu_add (PuE.o (pu_name 2)) (PuE.o (pu_fdiv (PuE.o (pu_name 3)) (PuE.o (pu_name 4)))))))))))))) w_greatest_count
theorem sc_width : FnScope ["options"] ["options"] (defScope d_width) := ⟨rfl, rfl, rfl, by decide +kernel, rfl, by decide +kernel, by decide +kernel⟩
theorem ok_width {f : Addr} {fd : FuncData} (F : FnP K "width" d_width f fd) : FnOk P w K mg base CX0 1 f fd ["options"] (spP K mg sp_width) :=
  have S := sc_width
  pfnD (p := b_width) F S len_width (fun cdv A outer s H E hr =>
    (puss_one (pus_ret (pu_bits (pu_sub (PuE.o (pu_name 0)) (PuE.o pu_int)))))) w_width
theorem sc_pressed_length : FnScope ["size", "count", "numbers", "total", "powers", "narrow"] ["size", "count"] (defScope d_pressed_length) := ⟨rfl, rfl, rfl, by decide +kernel, rfl, by decide +kernel, by decide +kernel⟩
theorem ok_pressed_length {f : Addr} {fd : FuncData} (F : FnP K "pressed_length" d_pressed_length f fd) {f_width : Addr} {fd_width : FuncData} (C_width : Cal P w K mg base "width" ["options"] 1 f_width fd_width sp_width) : FnOk P w K mg base CX0 2 f fd ["size", "count"] (spP K mg sp_pressed_length) :=
  have S := sc_pressed_length
  pfnD (p := (b_pressed_length sp_width)) F S len_pressed_length (fun cdv A outer s H E hr =>
    (puss_cons (pus_set 2 S.nd (pu_add (PuE.o (pu_name 1)) (PuE.o pu_int)))
      (puss_cons (pus_set 3 S.nd (pu_c C_width hr (pua_cons (pu_name 2) pua_nil)))
      (puss_cons (pus_if (put_eq (Room.units hr) (PuE.o (pu_name 0)) (PuE.o pu_int))
      (puss_one (pus_ret (pu_add (PuE.o (pu_name 3)) (PuE.o (pu_name 2)))))
      puss_nil)
      (puss_cons (pus_set 4 S.nd pu_int)
      (puss_cons (pus_set 5 S.nd pu_int)
      (puss_cons (pus_while PassesOwn.never (put_lt (PuE.o (pu_name 5)) (PuE.o (pu_name 2)))
      (puss_cons (pus_set 3 S.nd (pu_sub (PuE.o (pu_add (PuE.o (pu_name 3)) (PuE.o (pu_name 2)))) (PuE.o (pu_name 5))))
      (puss_cons (pus_set 4 S.nd (pu_mul (PuE.o (pu_name 4)) (PuE.o pu_int)))
      (puss_one (pus_set 5 S.nd (pu_fdiv (PuE.o (pu_sub (PuE.o (pu_name 4)) (PuE.o pu_int))) (PuE.o (pu_sub (PuE.o (pu_name 0)) (PuE.o pu_int)))))))))
      (puss_one (pus_ret (pu_name 3)))))))))) w_pressed_length
theorem sc_level_total : FnScope ["count", "room", "shortest", "total", "left", "here", "length", "taken"] ["count", "room", "shortest"] (defScope d_level_total) := ⟨rfl, rfl, rfl, by decide +kernel, rfl, by decide +kernel, by decide +kernel⟩
theorem ok_level_total {f : Addr} {fd : FuncData} (F : FnP K "level_total" d_level_total f fd) (M : Fre mg) : FnOk P w K mg base CX0 1 f fd ["count", "room", "shortest"] (spP K mg sp_level_total) :=
  have S := sc_level_total
  pfnD (p := b_level_total) F S len_level_total (fun cdv A outer s H E hr =>
    (puss_cons (pus_set 3 S.nd pu_int)
      (puss_cons (pus_set 4 S.nd (pu_name 0))
      (puss_cons (pus_set 5 S.nd (pu_name 1))
      (puss_cons (pus_set 6 S.nd (pu_name 2))
      (puss_cons (pus_while PassesOwn.never (put_gt (PuE.o (pu_name 4)) (PuE.o pu_int))
      (puss_cons (pus_set 7 S.nd (pu_min rfl M.min (puao_cons (PuE.o (pu_name 4)) (puao_cons (PuE.o (pu_name 5)) puao_nil))))
      (puss_cons (pus_set 3 S.nd (pu_add (PuE.o (pu_name 3)) (PuE.o (pu_mul (PuE.o (pu_name 7)) (PuE.o (pu_name 6))))))
      (puss_cons (pus_set 4 S.nd (pu_sub (PuE.o (pu_name 4)) (PuE.o (pu_name 7))))
      (puss_cons (pus_set 5 S.nd (pu_mul (PuE.o (pu_name 5)) (PuE.o pu_int)))
      (puss_one (pus_set 6 S.nd (pu_add (PuE.o (pu_name 6)) (PuE.o pu_int)))))))))
      (puss_one (pus_ret (pu_name 3))))))))) w_level_total
theorem sc_floor_bits : FnScope ["standings", "count", "silent"] ["standings", "count"] (defScope d_floor_bits) := ⟨rfl, rfl, rfl, by decide +kernel, rfl, by decide +kernel, by decide +kernel⟩
theorem ok_floor_bits {f : Addr} {fd : FuncData} (F : FnP K "floor_bits" d_floor_bits f fd) (M : Fre mg) {f_level_total : Addr} {fd_level_total : FuncData} (C_level_total : Cal P w K mg base "level_total" ["count", "room", "shortest"] 1 f_level_total fd_level_total sp_level_total) : FnOk P w K mg base CX0 2 f fd ["standings", "count"] (spP K mg sp_floor_bits) :=
  have S := sc_floor_bits
  pfnD (p := (b_floor_bits sp_level_total)) F S len_floor_bits (fun cdv A outer s H E hr =>
    (puss_cons (pus_set 2 S.nd (pu_fdiv (PuE.o (pu_mul (PuE.o (pu_name 0)) (PuE.o (pu_sub (PuE.o (pu_name 0)) (PuE.o pu_int))))) (PuE.o pu_int)))
      (puss_one (pus_ret (pu_c C_level_total hr (pua_cons (pu_max rfl M.max (puao_cons (PuE.o pu_int) (puao_cons (PuE.o (pu_sub (PuE.o (pu_name 1)) (PuE.o (pu_name 2)))) puao_nil))) (pua_cons (pu_mul (PuE.o (pu_mul (PuE.o pu_int) (PuE.o (pu_name 0)))) (PuE.o (pu_name 0))) (pua_cons pu_int pua_nil)))))))) w_floor_bits
theorem sc_excess : FnScope ["size", "standings", "count"] ["size", "standings", "count"] (defScope d_excess) := ⟨rfl, rfl, rfl, by decide +kernel, rfl, by decide +kernel, by decide +kernel⟩
theorem ok_excess {f : Addr} {fd : FuncData} (F : FnP K "excess" d_excess f fd) {f_pressed_length : Addr} {fd_pressed_length : FuncData} (C_pressed_length : Cal P w K mg base "pressed_length" ["size", "count"] 2 f_pressed_length fd_pressed_length sp_pressed_length) {f_floor_bits : Addr} {fd_floor_bits : FuncData} (C_floor_bits : Cal P w K mg base "floor_bits" ["standings", "count"] 2 f_floor_bits fd_floor_bits sp_floor_bits) : FnOk P w K mg base CX0 3 f fd ["size", "standings", "count"] (spP K mg sp_excess) :=
  have S := sc_excess
  pfnD (p := (b_excess sp_pressed_length sp_floor_bits)) F S len_excess (fun cdv A outer s H E hr =>
    (puss_one (pus_ret (pu_sub (PuE.o (pu_c C_pressed_length hr (pua_cons (pu_name 0) (pua_cons (pu_name 2) pua_nil)))) (PuE.o (pu_c C_floor_bits hr (pua_cons (pu_name 1) (pua_cons (pu_name 2) pua_nil)))))))) w_excess
theorem sc_told_excess : FnScope ["size", "standings", "count", "letter_bits", "standing_bits", "log"] ["size", "standings", "count"] (defScope d_told_excess) := ⟨rfl, rfl, rfl, by decide +kernel, rfl, by decide +kernel, by decide +kernel⟩
theorem ok_told_excess {f : Addr} {fd : FuncData} (F : FnP K "told_excess" d_told_excess f fd) {f_width : Addr} {fd_width : FuncData} (C_width : Cal P w K mg base "width" ["options"] 1 f_width fd_width sp_width) : FnOk P w K mg base CX0 2 f fd ["size", "standings", "count"] (spP K mg sp_told_excess) :=
  have S := sc_told_excess
  pfnD (p := (b_told_excess sp_width)) F S len_told_excess (fun cdv A outer s H E hr =>
    (puss_cons (pus_set 3 S.nd (pu_c C_width hr (pua_cons (pu_name 0) pua_nil)))
      (puss_cons (pus_set 4 S.nd (pu_c C_width hr (pua_cons (pu_name 1) pua_nil)))
      (puss_cons (pus_set 5 S.nd (pu_sub (PuE.o (pu_bits (pu_add (PuE.o (pu_name 2)) (PuE.o pu_int)))) (PuE.o pu_int)))
      (puss_one (pus_ret (pu_add (PuE.o (pu_add (PuE.o (pu_add (PuE.o (pu_mul (PuE.o (pu_name 2)) (PuE.o (pu_add (PuE.o (pu_add (PuE.o (pu_name 3)) (PuE.o pu_int))) (PuE.o (pu_mul (PuE.o pu_int) (PuE.o (pu_name 4)))))))) (PuE.o (pu_name 3)))) (PuE.o pu_int))) (PuE.o (pu_mul (PuE.o pu_int) (PuE.o (pu_name 5))))))))))) w_told_excess
theorem sc_worst_excess : FnScope ["size", "standings", "length"] ["size", "standings", "length"] (defScope d_worst_excess) := ⟨rfl, rfl, rfl, by decide +kernel, rfl, by decide +kernel, by decide +kernel⟩
theorem ok_worst_excess {f : Addr} {fd : FuncData} (F : FnP K "worst_excess" d_worst_excess f fd) {f_excess : Addr} {fd_excess : FuncData} (C_excess : Cal P w K mg base "excess" ["size", "standings", "count"] 3 f_excess fd_excess sp_excess) {f_greatest_count : Addr} {fd_greatest_count : FuncData} (C_greatest_count : Cal P w K mg base "greatest_count" ["size", "length"] 1 f_greatest_count fd_greatest_count sp_greatest_count) : FnOk P w K mg base CX0 4 f fd ["size", "standings", "length"] (spP K mg sp_worst_excess) :=
  have S := sc_worst_excess
  pfnD (p := (b_worst_excess sp_excess sp_greatest_count)) F S len_worst_excess (fun cdv A outer s H E hr =>
    (puss_one (pus_ret (pu_c C_excess hr (pua_cons (pu_name 0) (pua_cons (pu_name 1) (pua_cons (pu_c C_greatest_count hr (pua_cons (pu_name 0) (pua_cons (pu_name 2) pua_nil))) pua_nil))))))) w_worst_excess
theorem sc_law_whole : FnScope ["value"] ["value"] (defScope d_law_whole) := ⟨rfl, rfl, rfl, by decide +kernel, rfl, by decide +kernel, by decide +kernel⟩
theorem ok_law_whole {f : Addr} {fd : FuncData} (F : FnP K "_law_whole" d_law_whole f fd) (M : Fre mg) : FnOk P w K mg base CX0 1 f fd ["value"] (spP K mg sp_law_whole) :=
  have S := sc_law_whole
  pfnD (p := b_law_whole) F S len_law_whole (fun cdv A outer s H E hr =>
    (puss_one (pus_ret (pu_and (pu_isi M.isinstance M.int (PuE.o (pu_name 0))) (pu_one (pu_not (pu_isi M.isinstance M.bool (PuE.o (pu_name 0))))))))) w_law_whole
theorem sc_law_cell : FnScope ["script", "k", "seed", "cell"] ["script", "k"] (defScope d_law_cell) := ⟨rfl, rfl, rfl, by decide +kernel, rfl, by decide +kernel, by decide +kernel⟩
theorem ok_law_cell {f : Addr} {fd : FuncData} (F : FnP K "_law_cell" d_law_cell f fd) (M : Fre mg) : FnOk P w K mg base CX0 1 f fd ["script", "k"] (spP K mg sp_law_cell) :=
  have S := sc_law_cell
  pfnD (p := b_law_cell) F S len_law_cell (fun cdv A outer s H E hr =>
    (puss_cons (pus_if (put_lt (PuE.o (pu_name 1)) (PuE.o (pu_len M.len (PuE.o (pu_name 0)))))
      (puss_one (pus_ret (pu_ix (hu_of hr) (PuE.o (pu_name 0)) (pu_name 1))))
      puss_nil)
      (puss_cons (pus_set 2 S.nd pu_int)
      (puss_cons (pus_for PassesOwn.never rfl (pui_e (pu_name 0)) (pug_name 3 S.nd)
      (puss_one (pus_set 2 S.nd (pu_mod (PuE.o (pu_int1 M.int (PuE.o (pu_add (PuE.o (pu_mul (PuE.o (pu_name 2)) (PuE.o pu_int))) (PuE.o (pu_mod (PuE.o (pu_int1 M.int (PuE.o (pu_name 3)))) (PuE.o pu_int))))))) (PuE.o pu_int)))))
      (puss_one (pus_ret (pu_mod (PuE.o (pu_int1 M.int (PuE.o (pu_mul (PuE.o (pu_mul (PuE.o (pu_add (PuE.o (pu_name 2)) (PuE.o pu_int))) (PuE.o (pu_add (PuE.o (pu_name 1)) (PuE.o pu_int))))) (PuE.o pu_int))))) (PuE.o pu_int)))))))) w_law_cell
theorem sc_law_cut : FnScope ["text", "pieces", "number", "rows", "word", "letter"] ["text"] (defScope d_law_cut) := ⟨rfl, rfl, rfl, by decide +kernel, rfl, by decide +kernel, by decide +kernel⟩
theorem ok_law_cut {f : Addr} {fd : FuncData} (F : FnP K "_law_cut" d_law_cut f fd) (M : Fre mg) : FnOk P w K mg base CX0 1 f fd ["text"] (spP K mg sp_law_cut) :=
  have S := sc_law_cut
  pfnD (p := b_law_cut) F S len_law_cut (fun cdv A outer s H E hr =>
    (puss_cons (pus_setO 1 S.nd (puf_lst (pua_cons pu_str pua_nil)))
      (puss_cons (pus_setO 2 S.nd (puf_disp (pups_cons pu_str pu_int pups_nil)))
      (puss_cons (pus_setO 3 S.nd (puf_lst pua_nil))
      (puss_cons (pus_set 4 S.nd pu_str)
      (puss_cons (pus_for PassesOwn.never rfl (pui_e (pu_name 0)) (pug_name 5 S.nd)
      (puss_one (pus_if (put_in (Room.u65 hr) (pu_add (PuE.o (pu_name 4)) (PuE.o (pu_name 5))) (pu_nameO 2))
      (puss_one (pus_set 4 S.nd (pu_add (PuE.o (pu_name 4)) (PuE.o (pu_name 5)))))
      (puss_cons (pus_app 3 (pu_tup (pua_cons (pu_ix (hu_of hr) (pu_nameO 2) (pu_name 4)) (pua_cons (pu_name 5) pua_nil))))
      (puss_cons (pus_setI 2 (hu_of hr) (pu_add (PuE.o (pu_name 4)) (PuE.o (pu_name 5))) (pu_len M.len (pu_nameO 1)) (fun _ _ h g => ps_asg h (pg_sub (pv _) g (set_all (hu_of hr)))))
      (puss_cons (pus_app 1 (pu_add (PuE.o (pu_name 4)) (PuE.o (pu_name 5))))
      (puss_one (pus_set 4 S.nd pu_str))))))))
      (puss_one (pus_frz 1 (pus_ret (PuF.toE (puf_lst (pua_cons (pu_tuple M.tuple (pu_nameO 3)) (pua_cons (pu_ix (hu_of hr) (pu_nameO 2) (pu_name 4)) (pua_cons (pu_name 1) pua_nil)))))))))))))) w_law_cut
theorem sc_law_width : FnScope ["options", "wide", "top", "k"] ["options"] (defScope d_law_width) := ⟨rfl, rfl, rfl, by decide +kernel, rfl, by decide +kernel, by decide +kernel⟩
theorem ok_law_width {f : Addr} {fd : FuncData} (F : FnP K "_law_width" d_law_width f fd) (M : Fre mg) : FnOk P w K mg base CX0 1 f fd ["options"] (spP K mg sp_law_width) :=
  have S := sc_law_width
  pfnD (p := b_law_width) F S len_law_width (fun cdv A outer s H E hr =>
    (puss_cons (pus_set 1 S.nd pu_int)
      (puss_cons (pus_set 2 S.nd pu_int)
      (puss_cons (pus_for PassesOwn.never rfl (pui_r1 M.range pu_int) (pug_name 3 S.nd)
      (puss_cons (pus_if (put_ge (PuE.o (pu_name 2)) (PuE.o (pu_name 0)))
      (puss_one pus_break)
      puss_nil)
      (puss_cons (pus_set 2 S.nd (pu_mul (PuE.o (pu_name 2)) (PuE.o pu_int)))
      (puss_one (pus_set 1 S.nd (pu_add (PuE.o (pu_name 1)) (PuE.o pu_int)))))))
      (puss_one (pus_ret (pu_name 1))))))) w_law_width
theorem sc_law_log : FnScope ["n"] ["n"] (defScope d_law_log) := ⟨rfl, rfl, rfl, by decide +kernel, rfl, by decide +kernel, by decide +kernel⟩
theorem ok_law_log {f : Addr} {fd : FuncData} (F : FnP K "_law_log" d_law_log f fd) {f_law_width : Addr} {fd_law_width : FuncData} (C_law_width : Cal P w K mg base "_law_width" ["options"] 1 f_law_width fd_law_width sp_law_width) : FnOk P w K mg base CX0 2 f fd ["n"] (spP K mg sp_law_log) :=
  have S := sc_law_log
  pfnD (p := (b_law_log sp_law_width)) F S len_law_log (fun cdv A outer s H E hr =>
    (puss_one (pus_ret (pu_sub (PuE.o (pu_c C_law_width hr (pua_cons (pu_add (PuE.o (pu_name 0)) (PuE.o pu_int)) pua_nil))) (PuE.o pu_int))))) w_law_log
theorem sc_law_digits : FnScope ["cell", "tops", "row", "rest", "top", "seed", "k", "twice"] ["cell", "tops"] (defScope d_law_digits) := ⟨rfl, rfl, rfl, by decide +kernel, rfl, by decide +kernel, by decide +kernel⟩
theorem ok_law_digits {f : Addr} {fd : FuncData} (F : FnP K "_law_digits" d_law_digits f fd) (M : Fre mg) : FnOk P w K mg base CX0 1 f fd ["cell", "tops"] (spP K mg sp_law_digits) :=
  have S := sc_law_digits
  pfnD (p := b_law_digits) F S len_law_digits (fun cdv A outer s H E hr =>
    (puss_cons (pus_setO 2 S.nd (puf_lst pua_nil))
      (puss_cons (pus_set 3 S.nd (pu_int1 M.int (PuE.o (pu_name 0))))
      (puss_cons (pus_if (put_ge (PuE.o (pu_name 3)) (PuE.o (pu_pow (PuE.o pu_int) (PuE.o pu_int))))
      (puss_cons (pus_set 3 S.nd (pu_sub (PuE.o (pu_name 3)) (PuE.o (pu_pow (PuE.o pu_int) (PuE.o pu_int)))))
      (puss_cons (pus_for PassesOwn.never rfl (pui_e (pu_name 1)) (pug_name 4 S.nd)
      (puss_cons (pus_app 2 (pu_mod (PuE.o (pu_int1 M.int (PuE.o (pu_name 3)))) (PuE.o (pu_name 4))))
      (puss_one (pus_set 3 S.nd (pu_fdiv (PuE.o (pu_int1 M.int (PuE.o (pu_name 3)))) (PuE.o (pu_name 4)))))))
      (puss_one (pus_frz 2 (pus_ret (pu_name 2))))))
      puss_nil)
      (puss_cons (pus_set 5 S.nd (pu_mod (PuE.o (pu_int1 M.int (PuE.o (pu_name 3)))) (PuE.o pu_int)))
      (puss_cons (pus_for PassesOwn.never rfl (pui_r1 M.range (pu_len M.len (PuE.o (pu_name 1)))) (pug_name 6 S.nd)
      (puss_cons (pus_set 5 S.nd (pu_mod (PuE.o (pu_int1 M.int (PuE.o (pu_add (PuE.o (pu_add (PuE.o (pu_mul (PuE.o (pu_name 5)) (PuE.o pu_int))) (PuE.o (pu_mul (PuE.o pu_int) (PuE.o (pu_name 6)))))) (PuE.o pu_int))))) (PuE.o pu_int)))
      (puss_cons (pus_set 7 S.nd (pu_mod (PuE.o (pu_int1 M.int (PuE.o (pu_mul (PuE.o (pu_name 5)) (PuE.o (pu_add (PuE.o (pu_fdiv (PuE.o (pu_name 5)) (PuE.o pu_int))) (PuE.o pu_int))))))) (PuE.o pu_int)))
      (puss_one (pus_app 2 (pu_mod (PuE.o (pu_fdiv (PuE.o (pu_name 7)) (PuE.o pu_int))) (PuE.o (pu_ix (hu_of hr) (PuE.o (pu_name 1)) (pu_name 6)))))))))
      (puss_one (pus_frz 2 (pus_ret (pu_name 2)))))))))) w_law_digits
theorem sc_law_filled : FnScope ["states", "many", "total", "left", "here", "wide"] ["states", "many"] (defScope d_law_filled) := ⟨rfl, rfl, rfl, by decide +kernel, rfl, by decide +kernel, by decide +kernel⟩
theorem ok_law_filled {f : Addr} {fd : FuncData} (F : FnP K "_law_filled" d_law_filled f fd) (M : Fre mg) : FnOk P w K mg base CX0 1 f fd ["states", "many"] (spP K mg sp_law_filled) :=
  have S := sc_law_filled
  pfnD (p := b_law_filled) F S len_law_filled (fun cdv A outer s H E hr =>
    (puss_cons (pus_set 2 S.nd pu_int)
      (puss_cons (pus_set 3 S.nd (pu_sub (PuE.o (pu_name 1)) (PuE.o (pu_fdiv (PuE.o (pu_mul (PuE.o (pu_name 0)) (PuE.o (pu_sub (PuE.o (pu_name 0)) (PuE.o pu_int))))) (PuE.o pu_int)))))
      (puss_cons (pus_set 4 S.nd (pu_mul (PuE.o (pu_name 0)) (PuE.o (pu_name 0))))
      (puss_cons (pus_for PassesOwn.never rfl (pui_r2 M.range pu_int pu_int) (pug_name 5 S.nd)
      (puss_cons (pus_if (put_le (PuE.o (pu_name 3)) (PuE.o pu_int))
      (puss_one pus_break)
      puss_nil)
      (puss_cons (pus_set 4 S.nd (pu_mul (PuE.o (pu_name 4)) (PuE.o pu_int)))
      (puss_cons (pus_set 2 S.nd (pu_add (PuE.o (pu_name 2)) (PuE.o (pu_mul (PuE.o (pu_name 5)) (PuE.o (pu_min rfl M.min (puao_cons (PuE.o (pu_name 3)) (puao_cons (PuE.o (pu_name 4)) puao_nil))))))))
      (puss_one (pus_set 3 S.nd (pu_sub (PuE.o (pu_name 3)) (PuE.o (pu_name 4)))))))))
      (puss_one (pus_ret (pu_name 2)))))))) w_law_filled
theorem sc_law_told : FnScope ["letters", "states", "many", "letter", "state"] ["letters", "states", "many"] (defScope d_law_told) := ⟨rfl, rfl, rfl, by decide +kernel, rfl, by decide +kernel, by decide +kernel⟩
theorem ok_law_told {f : Addr} {fd : FuncData} (F : FnP K "_law_told" d_law_told f fd) {f_law_width : Addr} {fd_law_width : FuncData} (C_law_width : Cal P w K mg base "_law_width" ["options"] 1 f_law_width fd_law_width sp_law_width) {f_law_log : Addr} {fd_law_log : FuncData} (C_law_log : Cal P w K mg base "_law_log" ["n"] 2 f_law_log fd_law_log sp_law_log) : FnOk P w K mg base CX0 3 f fd ["letters", "states", "many"] (spP K mg sp_law_told) :=
  have S := sc_law_told
  pfnD (p := (b_law_told sp_law_width sp_law_log)) F S len_law_told (fun cdv A outer s H E hr =>
    (puss_cons (pus_set 3 S.nd (pu_c C_law_width hr (pua_cons (pu_name 0) pua_nil)))
      (puss_cons (pus_set 4 S.nd (pu_c C_law_width hr (pua_cons (pu_name 1) pua_nil)))
      (puss_one (pus_ret (pu_add (PuE.o (pu_add (PuE.o (pu_add (PuE.o (pu_mul (PuE.o (pu_name 2)) (PuE.o (pu_add (PuE.o (pu_add (PuE.o (pu_name 3)) (PuE.o pu_int))) (PuE.o (pu_mul (PuE.o pu_int) (PuE.o (pu_name 4)))))))) (PuE.o (pu_name 3)))) (PuE.o pu_int))) (PuE.o (pu_mul (PuE.o pu_int) (PuE.o (pu_c C_law_log hr (pua_cons (pu_add (PuE.o (pu_name 2)) (PuE.o pu_int)) pua_nil))))))))))) w_law_told
theorem sc_law_long_block : FnScope ["letters", "many", "total", "top", "wide", "fits"] ["letters", "many"] (defScope d_law_long_block) := ⟨rfl, rfl, rfl, by decide +kernel, rfl, by decide +kernel, by decide +kernel⟩
theorem ok_law_long_block {f : Addr} {fd : FuncData} (F : FnP K "_law_long_block" d_law_long_block f fd) (M : Fre mg) {f_law_width : Addr} {fd_law_width : FuncData} (C_law_width : Cal P w K mg base "_law_width" ["options"] 1 f_law_width fd_law_width sp_law_width) : FnOk P w K mg base CX0 2 f fd ["letters", "many"] (spP K mg sp_law_long_block) :=
  have S := sc_law_long_block
  pfnD (p := (b_law_long_block sp_law_width)) F S len_law_long_block (fun cdv A outer s H E hr =>
    (puss_cons (pus_set 2 S.nd (pu_c C_law_width hr (pua_cons (pu_add (PuE.o (pu_name 1)) (PuE.o pu_int)) pua_nil)))
      (puss_cons (pus_set 3 S.nd pu_int)
      (puss_cons (pus_for PassesOwn.never rfl (pui_r1 M.range pu_int) (pug_name 4 S.nd)
      (puss_cons (pus_set 5 S.nd pu_int)
      (puss_cons (pus_if (put_gt (PuE.o (pu_name 0)) (PuE.o pu_int))
      (puss_one (pus_set 5 S.nd (pu_fdiv (PuE.o (pu_max rfl M.max (puao_cons (PuE.o pu_int) (puao_cons (PuE.o (pu_sub (PuE.o (pu_name 3)) (PuE.o pu_int))) puao_nil)))) (PuE.o (pu_sub (PuE.o (pu_name 0)) (PuE.o pu_int))))))
      (puss_one (pus_if (put_gt (PuE.o (pu_name 3)) (PuE.o pu_int))
      (puss_one (pus_set 5 S.nd (pu_add (PuE.o (pu_name 1)) (PuE.o pu_int))))
      puss_nil)))
      (puss_cons (pus_if (put_gt (PuE.o (pu_name 5)) (PuE.o (pu_name 1)))
      (puss_one pus_break)
      puss_nil)
      (puss_cons (pus_set 2 S.nd (pu_sub (PuE.o (pu_add (PuE.o (pu_add (PuE.o (pu_name 2)) (PuE.o (pu_name 1)))) (PuE.o pu_int))) (PuE.o (pu_name 5))))
      (puss_one (pus_set 3 S.nd (pu_mul (PuE.o (pu_name 3)) (PuE.o pu_int)))))))))
      (puss_one (pus_ret (pu_name 2))))))) w_law_long_block
theorem sc_law_gap : FnScope ["letters", "states", "many"] ["letters", "states", "many"] (defScope d_law_gap) := ⟨rfl, rfl, rfl, by decide +kernel, rfl, by decide +kernel, by decide +kernel⟩
theorem ok_law_gap {f : Addr} {fd : FuncData} (F : FnP K "_law_gap" d_law_gap f fd) {f_law_long_block : Addr} {fd_law_long_block : FuncData} (C_law_long_block : Cal P w K mg base "_law_long_block" ["letters", "many"] 2 f_law_long_block fd_law_long_block sp_law_long_block) {f_law_filled : Addr} {fd_law_filled : FuncData} (C_law_filled : Cal P w K mg base "_law_filled" ["states", "many"] 1 f_law_filled fd_law_filled sp_law_filled) : FnOk P w K mg base CX0 3 f fd ["letters", "states", "many"] (spP K mg sp_law_gap) :=
  have S := sc_law_gap
  pfnD (p := (b_law_gap sp_law_long_block sp_law_filled)) F S len_law_gap (fun cdv A outer s H E hr =>
    (puss_one (pus_ret (pu_sub (PuE.o (pu_c C_law_long_block hr (pua_cons (pu_name 0) (pua_cons (pu_name 2) pua_nil)))) (PuE.o (pu_c C_law_filled hr (pua_cons (pu_name 1) (pua_cons (pu_name 2) pua_nil)))))))) w_law_gap
theorem sc_law_greatest : FnScope ["letters", "most", "many", "step", "turn", "left", "here", "wide"] ["letters", "most"] (defScope d_law_greatest) := ⟨rfl, rfl, rfl, by decide +kernel, rfl, by decide +kernel, by decide +kernel⟩
theorem ok_law_greatest {f : Addr} {fd : FuncData} (F : FnP K "_law_greatest" d_law_greatest f fd) (M : Fre mg) : FnOk P w K mg base CX0 1 f fd ["letters", "most"] (spP K mg sp_law_greatest) :=
  have S := sc_law_greatest
  pfnD (p := b_law_greatest) F S len_law_greatest (fun cdv A outer s H E hr =>
    (puss_cons (pus_set 2 S.nd pu_int)
      (puss_cons (pus_if (put_eq (Room.units hr) (PuE.o (pu_name 0)) (PuE.o pu_int))
      (puss_cons (pus_set 3 S.nd (pu_pow (PuE.o pu_int) (PuE.o pu_int)))
      (puss_cons (pus_for PassesOwn.never rfl (pui_r1 M.range pu_int) (pug_name 4 S.nd)
      (puss_cons (pus_if (put_le (PuE.o (pu_fdiv (PuE.o (pu_mul (PuE.o (pu_add (PuE.o (pu_name 2)) (PuE.o (pu_name 3)))) (PuE.o (pu_add (PuE.o (pu_add (PuE.o (pu_name 2)) (PuE.o (pu_name 3)))) (PuE.o pu_int))))) (PuE.o pu_int))) (PuE.o (pu_name 1)))
      (puss_one (pus_set 2 S.nd (pu_add (PuE.o (pu_name 2)) (PuE.o (pu_name 3)))))
      puss_nil)
      (puss_one (pus_set 3 S.nd (pu_fdiv (PuE.o (pu_name 3)) (PuE.o pu_int))))))
      (puss_one (pus_ret (pu_name 2)))))
      puss_nil)
      (puss_cons (pus_set 5 S.nd (pu_name 1))
      (puss_cons (pus_set 6 S.nd pu_int)
      (puss_cons (pus_for PassesOwn.never rfl (pui_r2 M.range pu_int pu_int) (pug_name 7 S.nd)
      (puss_cons (pus_set 6 S.nd (pu_mul (PuE.o (pu_name 6)) (PuE.o (pu_name 0))))
      (puss_cons (pus_if (put_gt (PuE.o (pu_mul (PuE.o (pu_name 6)) (PuE.o (pu_name 7)))) (PuE.o (pu_name 5)))
      (puss_one (pus_ret (pu_add (PuE.o (pu_name 2)) (PuE.o (pu_fdiv (PuE.o (pu_name 5)) (PuE.o (pu_name 7)))))))
      puss_nil)
      (puss_cons (pus_set 2 S.nd (pu_add (PuE.o (pu_name 2)) (PuE.o (pu_name 6))))
      (puss_one (pus_set 5 S.nd (pu_sub (PuE.o (pu_name 5)) (PuE.o (pu_mul (PuE.o (pu_name 6)) (PuE.o (pu_name 7)))))))))))
      (puss_one (pus_ret (pu_name 2))))))))) w_law_greatest
theorem sc_law_shortest : FnScope ["letters", "many", "total", "left", "here", "wide"] ["letters", "many"] (defScope d_law_shortest) := ⟨rfl, rfl, rfl, by decide +kernel, rfl, by decide +kernel, by decide +kernel⟩
theorem ok_law_shortest {f : Addr} {fd : FuncData} (F : FnP K "_law_shortest" d_law_shortest f fd) (M : Fre mg) : FnOk P w K mg base CX0 1 f fd ["letters", "many"] (spP K mg sp_law_shortest) :=
  have S := sc_law_shortest
  pfnD (p := b_law_shortest) F S len_law_shortest (fun cdv A outer s H E hr =>
    (puss_cons (pus_if (put_eq (Room.units hr) (PuE.o (pu_name 0)) (PuE.o pu_int))
      (puss_one (pus_ret (pu_fdiv (PuE.o (pu_mul (PuE.o (pu_name 1)) (PuE.o (pu_add (PuE.o (pu_name 1)) (PuE.o pu_int))))) (PuE.o pu_int))))
      puss_nil)
      (puss_cons (pus_set 2 S.nd pu_int)
      (puss_cons (pus_set 3 S.nd (pu_name 1))
      (puss_cons (pus_set 4 S.nd pu_int)
      (puss_cons (pus_for PassesOwn.never rfl (pui_r2 M.range pu_int pu_int) (pug_name 5 S.nd)
      (puss_cons (pus_set 4 S.nd (pu_mul (PuE.o (pu_name 4)) (PuE.o (pu_name 0))))
      (puss_cons (pus_set 2 S.nd (pu_add (PuE.o (pu_name 2)) (PuE.o (pu_mul (PuE.o (pu_name 5)) (PuE.o (pu_min rfl M.min (puao_cons (PuE.o (pu_name 3)) (puao_cons (PuE.o (pu_name 4)) puao_nil))))))))
      (puss_cons (pus_set 3 S.nd (pu_sub (PuE.o (pu_name 3)) (PuE.o (pu_min rfl M.min (puao_cons (PuE.o (pu_name 3)) (puao_cons (PuE.o (pu_name 4)) puao_nil))))))
      (puss_one (pus_if (put_eq (Room.units hr) (PuE.o (pu_name 3)) (PuE.o pu_int))
      (puss_one pus_break)
      puss_nil))))))
      (puss_one (pus_ret (pu_name 2))))))))) w_law_shortest
theorem sc_law_least : FnScope ["letters", "many"] ["letters"] (defScope d_law_least) := ⟨rfl, rfl, rfl, by decide +kernel, rfl, by decide +kernel, by decide +kernel⟩
theorem ok_law_least {f : Addr} {fd : FuncData} (F : FnP K "_law_least" d_law_least f fd) (M : Fre mg) : FnOk P w K mg base CX0 1 f fd ["letters"] (spP K mg sp_law_least) :=
  have S := sc_law_least
  pfnD (p := b_law_least) F S len_law_least (fun cdv A outer s H E hr =>
    (puss_cons (pus_for PassesOwn.never rfl (pui_r1 M.range pu_int) (pug_name 1 S.nd)
      (puss_one (pus_if (put_ge (PuE.o (pu_mul (PuE.o (pu_name 1)) (PuE.o (pu_add (PuE.o (pu_name 1)) (PuE.o pu_int))))) (PuE.o (pu_mul (PuE.o pu_int) (PuE.o (pu_name 0)))))
      (puss_one (pus_ret (pu_name 1)))
      puss_nil)))
      (puss_one (pus_ret pu_int)))) w_law_least
theorem sc_law_all_texts : FnScope ["alphabet", "letters", "texts", "turn", "longer", "text", "letter"] ["alphabet", "letters"] (defScope d_law_all_texts) := ⟨rfl, rfl, rfl, by decide +kernel, rfl, by decide +kernel, by decide +kernel⟩
theorem ok_law_all_texts {f : Addr} {fd : FuncData} (F : FnP K "_law_all_texts" d_law_all_texts f fd) (M : Fre mg) : FnOk P w K mg base CX0 1 f fd ["alphabet", "letters"] (spP K mg sp_law_all_texts) :=
  have S := sc_law_all_texts
  pfnD (p := b_law_all_texts) F S len_law_all_texts (fun cdv A outer s H E hr =>
    (puss_cons (pus_set 2 S.nd (PuF.toE (puf_lst (pua_cons pu_str pua_nil))))
      (puss_cons (pus_for PassesOwn.never rfl (pui_r1 M.range (pu_name 1)) (pug_name 3 S.nd)
      (puss_cons (pus_setO 4 S.nd (puf_lst pua_nil))
      (puss_cons (pus_for PassesOwn.never rfl (pui_e (pu_name 2)) (pug_name 5 S.nd)
      (puss_one (pus_extend 4 (puf_lc rfl S.nd (pui_e (pu_name 0)) (blkOk_by (own := [("letter", 6)]) (N := ["alphabet", "letters", "texts", "turn", "longer", "text", "letter"]) (sc := defScope d_law_all_texts) (by decide +kernel)) (fun _ _ _ _ _ => (pug_name 6 S.nd)) (fun _ _ _ _ _ => puts_nil) (fun _ _ _ _ _ => (pu_add (PuE.o (pu_name 5)) (PuE.o (pu_name 6))))))))
      (puss_one (pus_set 2 S.nd (PuF.toE (puf_list M.list (pu_nameO 4))))))))
      (puss_one (pus_ret (pu_name 2)))))) w_law_all_texts
theorem sc_law_big : FnScope ["parts", "many", "top", "number", "part"] ["parts", "many", "top"] (defScope d_law_big) := ⟨rfl, rfl, rfl, by decide +kernel, rfl, by decide +kernel, by decide +kernel⟩
theorem ok_law_big {f : Addr} {fd : FuncData} (F : FnP K "_law_big" d_law_big f fd) (M : Fre mg) : FnOk P w K mg base CX0 1 f fd ["parts", "many", "top"] (spP K mg sp_law_big) :=
  have S := sc_law_big
  pfnD (p := b_law_big) F S len_law_big (fun cdv A outer s H E hr =>
    (puss_cons (pus_set 3 S.nd pu_int)
      (puss_cons (pus_for PassesOwn.never rfl (pui_e (pu_sl (PuE.o (pu_name 0)) pupo_none (pupo_some (pu_name 1)))) (pug_name 4 S.nd)
      (puss_one (pus_set 3 S.nd (pu_add (PuE.o (pu_mul (PuE.o (pu_name 3)) (PuE.o pu_int))) (PuE.o (pu_name 4))))))
      (puss_one (pus_ret (pu_mod (PuE.o (pu_int1 M.int (PuE.o (pu_name 3)))) (PuE.o (pu_add (PuE.o (pu_name 2)) (PuE.o pu_int))))))))) w_law_big
theorem sc_law_asked : FnScope ["row", "top", "turn"] ["row"] (defScope d_law_asked) := ⟨rfl, rfl, rfl, by decide +kernel, rfl, by decide +kernel, by decide +kernel⟩
theorem ok_law_asked {f : Addr} {fd : FuncData} (F : FnP K "_law_asked" d_law_asked f fd) (M : Fre mg) {f_law_big : Addr} {fd_law_big : FuncData} (C_law_big : Cal P w K mg base "_law_big" ["parts", "many", "top"] 1 f_law_big fd_law_big sp_law_big) : FnOk P w K mg base CX0 2 f fd ["row"] (spP K mg sp_law_asked) :=
  have S := sc_law_asked
  pfnD (p := (b_law_asked sp_law_big)) F S len_law_asked (fun cdv A outer s H E hr =>
    (puss_cons (pus_if (put_lt (PuE.o (pu_ix (hu_of hr) (PuE.o (pu_name 0)) pu_int)) (PuE.o pu_int))
      (puss_one (pus_ret (pu_mod (PuE.o (pu_int1 M.int (PuE.o (pu_ix (hu_of hr) (PuE.o (pu_name 0)) pu_int)))) (PuE.o pu_int))))
      puss_nil)
      (puss_cons (pus_if (put_lt (PuE.o (pu_ix (hu_of hr) (PuE.o (pu_name 0)) pu_int)) (PuE.o pu_int))
      (puss_cons (pus_set 1 S.nd pu_int)
      (puss_cons (pus_for PassesOwn.never rfl (pui_r1 M.range (pu_ix (hu_of hr) (PuE.o (pu_name 0)) pu_int)) (pug_name 2 S.nd)
      (puss_one (pus_set 1 S.nd (pu_mul (PuE.o (pu_name 1)) (PuE.o pu_int)))))
      (puss_one (pus_ret (pu_max rfl M.max (puao_cons (PuE.o pu_int) (puao_cons (PuE.o (pu_sub (PuE.o (pu_add (PuE.o (pu_name 1)) (PuE.o (pu_ix (hu_of hr) (PuE.o (pu_name 0)) pu_int)))) (PuE.o pu_int))) puao_nil)))))))
      puss_nil)
      (puss_one (pus_ret (pu_c C_law_big hr (pua_cons (pu_sl (PuE.o (pu_name 0)) (pupo_some pu_int) (pupo_some pu_int)) (pua_cons (pu_add (PuE.o pu_int) (PuE.o (pu_ix (hu_of hr) (PuE.o (pu_name 0)) pu_int))) (pua_cons (pu_pow (PuE.o pu_int) (PuE.o pu_int)) pua_nil))))))))) w_law_asked
theorem sc_law_numbers_hold : FnScope ["letters", "states", "many", "gap", "told"] ["letters", "states", "many"] (defScope d_law_numbers_hold) := ⟨rfl, rfl, rfl, by decide +kernel, rfl, by decide +kernel, by decide +kernel⟩
theorem ok_law_numbers_hold {f : Addr} {fd : FuncData} (F : FnP K "_law_numbers_hold" d_law_numbers_hold f fd) {f_excess : Addr} {fd_excess : FuncData} (C_excess : Cal P w K mg base "excess" ["size", "standings", "count"] 3 f_excess fd_excess sp_excess) {f_told_excess : Addr} {fd_told_excess : FuncData} (C_told_excess : Cal P w K mg base "told_excess" ["size", "standings", "count"] 2 f_told_excess fd_told_excess sp_told_excess) {f_law_whole : Addr} {fd_law_whole : FuncData} (C_law_whole : Cal P w K mg base "_law_whole" ["value"] 1 f_law_whole fd_law_whole sp_law_whole) {f_law_gap : Addr} {fd_law_gap : FuncData} (C_law_gap : Cal P w K mg base "_law_gap" ["letters", "states", "many"] 3 f_law_gap fd_law_gap sp_law_gap) {f_law_told : Addr} {fd_law_told : FuncData} (C_law_told : Cal P w K mg base "_law_told" ["letters", "states", "many"] 3 f_law_told fd_law_told sp_law_told) (KB_excess_0_count_standings_size : PKB K fd_excess ["size", "standings", "count"] 0 ["count", "standings", "size"] (pickL [2, 1, 0])) (KB_told_excess_0_standings_size_count : PKB K fd_told_excess ["size", "standings", "count"] 0 ["standings", "size", "count"] (pickL [1, 0, 2])) : FnOk P w K mg base CX0 4 f fd ["letters", "states", "many"] (spP K mg sp_law_numbers_hold) :=
  have S := sc_law_numbers_hold
  pfnD (p := (b_law_numbers_hold sp_excess sp_told_excess sp_law_whole sp_law_gap sp_law_told)) F S len_law_numbers_hold (fun cdv A outer s H E hr =>
    (puss_cons (pus_set 3 S.nd (pu_c C_excess hr (pua_cons (pu_name 0) (pua_cons (pu_name 1) (pua_cons (pu_name 2) pua_nil)))))
      (puss_cons (pus_set 4 S.nd (pu_c C_told_excess hr (pua_cons (pu_name 0) (pua_cons (pu_name 1) (pua_cons (pu_name 2) pua_nil)))))
      (puss_cons (pus_jn (pus_if (PuW.t (puw_or (put_not (put_val (pu_c C_law_whole hr (pua_cons (pu_name 3) pua_nil)))) (puw_or1 (put_ne (Room.units hr) (PuE.o (pu_name 3)) (PuE.o (pu_c C_law_gap hr (pua_cons (pu_name 0) (pua_cons (pu_name 1) (pua_cons (pu_name 2) pua_nil)))))))))
      (puss_one (pus_ret pu_bl))
      puss_nil))
      (puss_cons (pus_if (put_ne (Room.units hr) (PuE.o (pu_cK0 C_excess KB_excess_0_count_standings_size hr (puk_cons (pu_name 2) (puk_cons (pu_name 1) (puk_cons (pu_name 0) puk_nil))))) (PuE.o (pu_name 3)))
      (puss_one (pus_ret pu_bl))
      puss_nil)
      (puss_cons (pus_if (put_ne (Room.units hr) (PuE.o (pu_cK0 C_told_excess KB_told_excess_0_standings_size_count hr (puk_cons (pu_name 1) (puk_cons (pu_name 0) (puk_cons (pu_name 2) puk_nil))))) (PuE.o (pu_name 4)))
      (puss_one (pus_ret pu_bl))
      puss_nil)
      (puss_one (pus_ret (pu_and (pu_c C_law_whole hr (pua_cons (pu_name 4) pua_nil)) (pu_and (pu_eq (Room.units hr) (PuE.o (pu_name 4)) (PuE.o (pu_c C_law_told hr (pua_cons (pu_name 0) (pua_cons (pu_name 1) (pua_cons (pu_name 2) pua_nil)))))) (pu_one (pu_le (PuE.o (pu_name 3)) (PuE.o (pu_name 4)))))))))))))) w_law_numbers_hold
theorem sc_law_worst_holds : FnScope ["letters", "states", "long", "due", "actual"] ["letters", "states", "long", "due"] (defScope d_law_worst_holds) := ⟨rfl, rfl, rfl, by decide +kernel, rfl, by decide +kernel, by decide +kernel⟩
theorem ok_law_worst_holds {f : Addr} {fd : FuncData} (F : FnP K "_law_worst_holds" d_law_worst_holds f fd) {f_worst_excess : Addr} {fd_worst_excess : FuncData} (C_worst_excess : Cal P w K mg base "worst_excess" ["size", "standings", "length"] 4 f_worst_excess fd_worst_excess sp_worst_excess) {f_law_whole : Addr} {fd_law_whole : FuncData} (C_law_whole : Cal P w K mg base "_law_whole" ["value"] 1 f_law_whole fd_law_whole sp_law_whole) (KB_worst_excess_0_length_size_standings : PKB K fd_worst_excess ["size", "standings", "length"] 0 ["length", "size", "standings"] (pickL [1, 2, 0])) : FnOk P w K mg base CX0 5 f fd ["letters", "states", "long", "due"] (spP K mg sp_law_worst_holds) :=
  have S := sc_law_worst_holds
  pfnD (p := (b_law_worst_holds sp_worst_excess sp_law_whole)) F S len_law_worst_holds (fun cdv A outer s H E hr =>
    (puss_cons (pus_set 4 S.nd (pu_c C_worst_excess hr (pua_cons (pu_name 0) (pua_cons (pu_name 1) (pua_cons (pu_name 2) pua_nil)))))
      (puss_one (pus_ret (pu_and (pu_c C_law_whole hr (pua_cons (pu_name 4) pua_nil)) (pu_and (pu_eq (Room.units hr) (PuE.o (pu_name 4)) (PuE.o (pu_name 3))) (pu_one (pu_eq (Room.units hr) (PuE.o (pu_cK0 C_worst_excess KB_worst_excess_0_length_size_standings hr (puk_cons (pu_name 2) (puk_cons (pu_name 0) (puk_cons (pu_name 1) puk_nil))))) (PuE.o (pu_name 3)))))))))) w_law_worst_holds
theorem sc_law_small_hold : FnScope ["letters", "states", "row", "short", "gaps", "pieces", "text", "many"] ["letters", "states", "row"] (defScope d_law_small_hold) := ⟨rfl, rfl, rfl, by decide +kernel, rfl, by decide +kernel, by decide +kernel⟩
theorem ok_law_small_hold {f : Addr} {fd : FuncData} (F : FnP K "_law_small_hold" d_law_small_hold f fd) (M : Fre mg) {f_law_all_texts : Addr} {fd_law_all_texts : FuncData} (C_law_all_texts : Cal P w K mg base "_law_all_texts" ["alphabet", "letters"] 1 f_law_all_texts fd_law_all_texts sp_law_all_texts) {f_law_gap : Addr} {fd_law_gap : FuncData} (C_law_gap : Cal P w K mg base "_law_gap" ["letters", "states", "many"] 3 f_law_gap fd_law_gap sp_law_gap) {f_law_cut : Addr} {fd_law_cut : FuncData} (C_law_cut : Cal P w K mg base "_law_cut" ["text"] 1 f_law_cut fd_law_cut sp_law_cut) {f_law_worst_holds : Addr} {fd_law_worst_holds : FuncData} (C_law_worst_holds : Cal P w K mg base "_law_worst_holds" ["letters", "states", "long", "due"] 5 f_law_worst_holds fd_law_worst_holds sp_law_worst_holds) {f_law_least : Addr} {fd_law_least : FuncData} (C_law_least : Cal P w K mg base "_law_least" ["letters"] 1 f_law_least fd_law_least sp_law_least) {f_law_greatest : Addr} {fd_law_greatest : FuncData} (C_law_greatest : Cal P w K mg base "_law_greatest" ["letters", "most"] 1 f_law_greatest fd_law_greatest sp_law_greatest) : FnOk P w K mg base CX0 6 f fd ["letters", "states", "row"] (spP K mg sp_law_small_hold) :=
  have S := sc_law_small_hold
  pfnD (p := (b_law_small_hold sp_law_all_texts sp_law_gap sp_law_cut sp_law_worst_holds sp_law_least sp_law_greatest)) F S len_law_small_hold (fun cdv A outer s H E hr =>
    (puss_cons (pus_set 3 S.nd (pu_mod (PuE.o (pu_int1 M.int (PuE.o (pu_ix (hu_of hr) (PuE.o (pu_name 2)) pu_int)))) (PuE.o (pu_add (PuE.o pu_int) (PuE.o (pu_ix (hu_of hr) (PuF.o (puf_lst (pua_cons pu_int (pua_cons pu_int (pua_cons pu_int (pua_cons pu_int (pua_cons pu_int (pua_cons pu_int pua_nil)))))))) (pu_sub (PuE.o (pu_name 0)) (PuE.o pu_int))))))))
      (puss_cons (pus_setLc 4 rfl S.nd (pui_e (pu_c C_law_all_texts hr (pua_cons (pu_sl (PuE.o pu_str) pupo_none (pupo_some (pu_name 0))) (pua_cons (pu_name 3) pua_nil)))) (blkOk_by (own := [("text", 6)]) (N := ["letters", "states", "row", "short", "gaps", "pieces", "text", "many"]) (sc := defScope d_law_small_hold) (by decide +kernel)) (fun _ _ _ _ _ => (pug_name 6 S.nd)) (fun _ _ _ _ _ => puts_nil) (fun _ _ _ _ _ => (pu_c C_law_gap hr (pua_cons (pu_name 0) (pua_cons (pu_name 1) (pua_cons (pu_len M.len (PuE.o (pu_ix (hu_of hr) (PuE.o (pu_c C_law_cut hr (pua_cons (pu_name 6) pua_nil))) pu_int))) pua_nil))))))
      (puss_frz 4 (puss_cons (pus_if (put_not (put_val (pu_c C_law_worst_holds hr (pua_cons (pu_name 0) (pua_cons (pu_name 1) (pua_cons (pu_name 3) (pua_cons (pu_max rfl M.max (puao_cons (PuE.o (pu_name 4)) puao_nil)) pua_nil)))))))
      (puss_one (pus_ret pu_bl))
      puss_nil)
      (puss_cons (pus_set 5 S.nd (PuF.toE (puf_lr2 rfl M.list M.range (pu_c C_law_least hr (pua_cons (pu_ix (hu_of hr) (PuE.o (pu_name 2)) pu_int) pua_nil)) (pu_add (PuE.o (pu_c C_law_greatest hr (pua_cons (pu_name 0) (pua_cons (pu_ix (hu_of hr) (PuE.o (pu_name 2)) pu_int) pua_nil)))) (PuE.o pu_int)))))
      (puss_one (pus_ret (pu_c C_law_worst_holds hr (pua_cons (pu_name 0) (pua_cons (pu_name 1) (pua_cons (pu_ix (hu_of hr) (PuE.o (pu_name 2)) pu_int) (pua_cons (pu_max rfl M.max (puao_cons (PuF.o (puf_lc rfl S.nd (pui_e (pu_name 5)) (blkOk_by (own := [("many", 7)]) (N := ["letters", "states", "row", "short", "gaps", "pieces", "text", "many"]) (sc := defScope d_law_small_hold) (by decide +kernel)) (fun _ _ _ _ _ => (pug_name 7 S.nd)) (fun _ _ _ _ _ => puts_nil) (fun _ _ _ _ _ => (pu_c C_law_gap hr (pua_cons (pu_name 0) (pua_cons (pu_name 1) (pua_cons (pu_name 7) pua_nil))))))) puao_nil)) pua_nil))))))))))))) w_law_small_hold
theorem sc_law_great_hold : FnScope ["letters", "states", "row", "kind", "many", "total", "long", "near"] ["letters", "states", "row", "kind"] (defScope d_law_great_hold) := ⟨rfl, rfl, rfl, by decide +kernel, rfl, by decide +kernel, by decide +kernel⟩
theorem ok_law_great_hold {f : Addr} {fd : FuncData} (F : FnP K "_law_great_hold" d_law_great_hold f fd) (M : Fre mg) {f_law_big : Addr} {fd_law_big : FuncData} (C_law_big : Cal P w K mg base "_law_big" ["parts", "many", "top"] 1 f_law_big fd_law_big sp_law_big) {f_law_shortest : Addr} {fd_law_shortest : FuncData} (C_law_shortest : Cal P w K mg base "_law_shortest" ["letters", "many"] 1 f_law_shortest fd_law_shortest sp_law_shortest) {f_law_worst_holds : Addr} {fd_law_worst_holds : FuncData} (C_law_worst_holds : Cal P w K mg base "_law_worst_holds" ["letters", "states", "long", "due"] 5 f_law_worst_holds fd_law_worst_holds sp_law_worst_holds) {f_law_gap : Addr} {fd_law_gap : FuncData} (C_law_gap : Cal P w K mg base "_law_gap" ["letters", "states", "many"] 3 f_law_gap fd_law_gap sp_law_gap) {f_law_greatest : Addr} {fd_law_greatest : FuncData} (C_law_greatest : Cal P w K mg base "_law_greatest" ["letters", "most"] 1 f_law_greatest fd_law_greatest sp_law_greatest) : FnOk P w K mg base CX0 6 f fd ["letters", "states", "row", "kind"] (spP K mg sp_law_great_hold) :=
  have S := sc_law_great_hold
  pfnD (p := (b_law_great_hold sp_law_big sp_law_shortest sp_law_worst_holds sp_law_gap sp_law_greatest)) F S len_law_great_hold (fun cdv A outer s H E hr =>
    (puss_cons (pus_set 4 S.nd (pu_c C_law_big hr (pua_cons (pu_sl (PuE.o (pu_name 2)) pupo_none (pupo_some pu_int)) (pua_cons (pu_add (PuE.o pu_int) (PuE.o (pu_mod (PuE.o (pu_int1 M.int (PuE.o (pu_name 3)))) (PuE.o pu_int)))) (pua_cons (pu_pow (PuE.o pu_int) (PuE.o pu_int)) pua_nil)))))
      (puss_cons (pus_set 5 S.nd (pu_c C_law_shortest hr (pua_cons (pu_name 0) (pua_cons (pu_name 4) pua_nil))))
      (puss_cons (pus_set 6 S.nd (pu_c C_law_big hr (pua_cons (pu_sl (PuE.o (pu_name 2)) (pupo_some pu_int) (pupo_some pu_int)) (pua_cons (pu_add (PuE.o pu_int) (PuE.o (pu_mod (PuE.o (pu_int1 M.int (PuE.o (pu_name 3)))) (PuE.o pu_int)))) (pua_cons (pu_pow (PuE.o pu_int) (PuE.o pu_int)) pua_nil)))))
      (puss_cons (pus_for PassesOwn.never rfl (pui_e (PuF.toE (puf_lst (pua_cons (pu_sub (PuE.o (pu_name 5)) (PuE.o pu_int)) (pua_cons (pu_name 5) (pua_cons (pu_add (PuE.o (pu_name 5)) (PuE.o pu_int)) (pua_cons (pu_name 6) pua_nil))))))) (pug_name 7 S.nd)
      (puss_one (pus_if (PuW.t (puw_and (put_ge (PuE.o (pu_name 7)) (PuE.o pu_int)) (puw_and1 (put_not (put_val (pu_c C_law_worst_holds hr (pua_cons (pu_name 0) (pua_cons (pu_name 1) (pua_cons (pu_name 7) (pua_cons (pu_c C_law_gap hr (pua_cons (pu_name 0) (pua_cons (pu_name 1) (pua_cons (pu_c C_law_greatest hr (pua_cons (pu_name 0) (pua_cons (pu_name 7) pua_nil))) pua_nil)))) pua_nil))))))))))
      (puss_one (pus_ret pu_bl))
      puss_nil)))
      (puss_one (pus_ret pu_bl))))))) w_law_great_hold
theorem sc_law : FnScope ["script", "row", "letters", "states", "many", "more", "kept", "far"] ["script"] (defScope d_law) := ⟨rfl, rfl, rfl, by decide +kernel, rfl, by decide +kernel, by decide +kernel⟩
theorem ok_law {f : Addr} {fd : FuncData} (F : FnP K "law" d_law f fd) (M : Fre mg) {f_law_digits : Addr} {fd_law_digits : FuncData} (C_law_digits : Cal P w K mg base "_law_digits" ["cell", "tops"] 1 f_law_digits fd_law_digits sp_law_digits) {f_law_cell : Addr} {fd_law_cell : FuncData} (C_law_cell : Cal P w K mg base "_law_cell" ["script", "k"] 1 f_law_cell fd_law_cell sp_law_cell) {f_law_asked : Addr} {fd_law_asked : FuncData} (C_law_asked : Cal P w K mg base "_law_asked" ["row"] 2 f_law_asked fd_law_asked sp_law_asked) {f_law_big : Addr} {fd_law_big : FuncData} (C_law_big : Cal P w K mg base "_law_big" ["parts", "many", "top"] 1 f_law_big fd_law_big sp_law_big) {f_excess : Addr} {fd_excess : FuncData} (C_excess : Cal P w K mg base "excess" ["size", "standings", "count"] 3 f_excess fd_excess sp_excess) {f_told_excess : Addr} {fd_told_excess : FuncData} (C_told_excess : Cal P w K mg base "told_excess" ["size", "standings", "count"] 2 f_told_excess fd_told_excess sp_told_excess) {f_law_numbers_hold : Addr} {fd_law_numbers_hold : FuncData} (C_law_numbers_hold : Cal P w K mg base "_law_numbers_hold" ["letters", "states", "many"] 4 f_law_numbers_hold fd_law_numbers_hold sp_law_numbers_hold) {f_law_small_hold : Addr} {fd_law_small_hold : FuncData} (C_law_small_hold : Cal P w K mg base "_law_small_hold" ["letters", "states", "row"] 6 f_law_small_hold fd_law_small_hold sp_law_small_hold) {f_law_great_hold : Addr} {fd_law_great_hold : FuncData} (C_law_great_hold : Cal P w K mg base "_law_great_hold" ["letters", "states", "row", "kind"] 6 f_law_great_hold fd_law_great_hold sp_law_great_hold) : FnG P w K mg base 7 f fd ["script"] (spP K mg sp_law) :=
  have S := sc_law
  pfnG (p := (b_law sp_law_digits sp_law_cell sp_law_asked sp_law_big sp_excess sp_told_excess sp_law_numbers_hold sp_law_small_hold sp_law_great_hold)) F S len_law (fun cdv A outer s H E hr hgd =>
    (puss_cons (pus_set 1 S.nd (pu_c C_law_digits hr (pua_cons (pu_c C_law_cell hr (pua_cons (pu_name 0) (pua_cons pu_int pua_nil))) (pua_cons (pu_add (PuF.o (puf_lst (pua_cons pu_int (pua_cons pu_int (pua_cons pu_int (pua_cons pu_int (pua_cons pu_int (pua_cons pu_int (pua_cons pu_int (pua_cons pu_int pua_nil)))))))))) (PuE.o (pu_mul (PuF.o (puf_lst (pua_cons pu_int pua_nil))) (PuE.o pu_int)))) pua_nil))))
      (puss_cons (pus_set 2 S.nd (pu_add (PuE.o pu_int) (PuE.o (pu_ix (hu_of hr) (PuE.o (pu_name 1)) pu_int))))
      (puss_cons (pus_set 3 S.nd (pu_add (PuE.o pu_int) (PuE.o (pu_ix (hu_of hr) (PuE.o (pu_name 1)) pu_int))))
      (puss_cons (pus_jn (pus_if (put_lt (PuE.o (pu_ix (hu_of hr) (PuE.o (pu_name 1)) pu_int)) (PuE.o pu_int))
      (puss_one (pus_set 3 S.nd (pu_add (PuE.o pu_int) (PuE.o (pu_mod (PuE.o (pu_int1 M.int (PuE.o (pu_ix (hu_of hr) (PuE.o (pu_name 1)) pu_int)))) (PuE.o pu_int))))))
      puss_nil))
      (puss_cons (pus_set 4 S.nd (pu_c C_law_asked hr (pua_cons (pu_sl (PuE.o (pu_name 1)) (pupo_some pu_int) (pupo_some pu_int)) pua_nil)))
      (puss_cons (pus_set 5 S.nd (pu_add (PuE.o (pu_name 4)) (PuE.o pu_int)))
      (puss_cons (pus_jn (pus_if (put_eq (Room.units hr) (PuE.o (pu_ix (hu_of hr) (PuE.o (pu_name 1)) pu_int)) (PuE.o pu_int))
      (puss_one (pus_set 5 S.nd (pu_min rfl M.min (puao_cons (PuE.o (pu_pow (PuE.o pu_int) (PuE.o pu_int))) (puao_cons (PuE.o (pu_add (PuE.o (pu_add (PuE.o (pu_name 4)) (PuE.o pu_int))) (PuE.o (pu_c C_law_big hr (pua_cons (pu_sl (PuE.o (pu_name 1)) (pupo_some pu_int) (pupo_some pu_int)) (pua_cons (pu_add (PuE.o pu_int) (PuE.o (pu_ix (hu_of hr) (PuE.o (pu_name 1)) pu_int))) (pua_cons (pu_pow (PuE.o pu_int) (PuE.o pu_int)) pua_nil))))))) puao_nil)))))
      puss_nil))
      (puss_cons (pus_set 6 S.nd (pu_reprL hgd hr M.repr (PuF.o (puf_lst (pua_cons (pu_c C_excess hr (pua_cons (pu_name 2) (pua_cons (pu_name 3) (pua_cons (pu_name 4) pua_nil)))) (pua_cons (pu_c C_told_excess hr (pua_cons (pu_name 2) (pua_cons (pu_name 3) (pua_cons (pu_name 4) pua_nil)))) pua_nil))))))
      (puss_cons (pus_if (put_not (put_val (pu_c C_law_numbers_hold hr (pua_cons (pu_name 2) (pua_cons (pu_name 3) (pua_cons (pu_name 4) pua_nil))))))
      (puss_one (pus_ret pu_bl))
      puss_nil)
      (puss_cons (pus_jn (pus_if (put_chain op_ltAll ltP_ok op_leAll leP_ok (PuE.o (pu_name 4)) (PuE.o (pu_name 5)) (PuE.o (pu_pow (PuE.o pu_int) (PuE.o pu_int))))
      (puss_cons (pus_if (put_not (put_val (pu_c C_law_numbers_hold hr (pua_cons (pu_name 2) (pua_cons (pu_name 3) (pua_cons (pu_name 5) pua_nil))))))
      (puss_one (pus_ret pu_bl))
      puss_nil)
      (puss_one (pus_if (PuW.t (puw_and (put_gt (PuE.o (pu_name 2)) (PuE.o pu_int)) (puw_and1 (put_le (PuE.o (pu_c C_excess hr (pua_cons (pu_name 2) (pua_cons (pu_name 3) (pua_cons (pu_name 5) pua_nil))))) (PuE.o (pu_c C_excess hr (pua_cons (pu_name 2) (pua_cons (pu_name 3) (pua_cons (pu_name 4) pua_nil)))))))))
      (puss_one (pus_ret pu_bl))
      puss_nil)))
      puss_nil))
      (puss_cons (pus_set 7 S.nd (pu_c C_law_digits hr (pua_cons (pu_c C_law_cell hr (pua_cons (pu_name 0) (pua_cons pu_int pua_nil))) (pua_cons (pu_add (PuF.o (puf_lst (pua_cons pu_int (pua_cons pu_int (pua_cons pu_int pua_nil))))) (PuE.o (pu_mul (PuF.o (puf_lst (pua_cons pu_int pua_nil))) (PuE.o pu_int)))) pua_nil))))
      (puss_cons (pus_if (put_not (put_val (pu_c C_law_small_hold hr (pua_cons (pu_name 2) (pua_cons (pu_name 3) (pua_cons (pu_sl (PuE.o (pu_name 7)) pupo_none (pupo_some pu_int)) pua_nil))))))
      (puss_one (pus_ret pu_bl))
      puss_nil)
      (puss_cons (pus_if (put_not (put_val (pu_c C_law_great_hold hr (pua_cons (pu_name 2) (pua_cons (pu_name 3) (pua_cons (pu_sl (PuE.o (pu_name 7)) (pupo_some pu_int) (pupo_some pu_int)) (pua_cons (pu_ix (hu_of hr) (PuE.o (pu_name 7)) pu_int) pua_nil)))))))
      (puss_one (pus_ret pu_bl))
      puss_nil)
      (puss_one (pus_ret (pu_eq (Room.units hr) (PuE.o (pu_reprL hgd hr M.repr (PuF.o (puf_lst (pua_cons (pu_c C_excess hr (pua_cons (pu_name 2) (pua_cons (pu_name 3) (pua_cons (pu_name 4) pua_nil)))) (pua_cons (pu_c C_told_excess hr (pua_cons (pu_name 2) (pua_cons (pu_name 3) (pua_cons (pu_name 4) pua_nil)))) pua_nil)))))) (PuE.o (pu_name 6))))))))))))))))))) w_law
end
def fn : List He.DefD := [⟨("greatest_count", none), "greatest_count", "greatest_count", defArgs d_greatest_count, defBody d_greatest_count, defScope d_greatest_count, [], []⟩, ⟨("width", none), "width", "width", defArgs d_width, defBody d_width, defScope d_width, [], []⟩, ⟨("pressed_length", none), "pressed_length", "pressed_length", defArgs d_pressed_length, defBody d_pressed_length, defScope d_pressed_length, [], []⟩, ⟨("level_total", none), "level_total", "level_total", defArgs d_level_total, defBody d_level_total, defScope d_level_total, [], []⟩, ⟨("floor_bits", none), "floor_bits", "floor_bits", defArgs d_floor_bits, defBody d_floor_bits, defScope d_floor_bits, [], []⟩, ⟨("excess", none), "excess", "excess", defArgs d_excess, defBody d_excess, defScope d_excess, [], []⟩, ⟨("told_excess", none), "told_excess", "told_excess", defArgs d_told_excess, defBody d_told_excess, defScope d_told_excess, [], []⟩, ⟨("worst_excess", none), "worst_excess", "worst_excess", defArgs d_worst_excess, defBody d_worst_excess, defScope d_worst_excess, [], []⟩, ⟨("_law_whole", none), "_law_whole", "_law_whole", defArgs d_law_whole, defBody d_law_whole, defScope d_law_whole, [], []⟩, ⟨("_law_cell", none), "_law_cell", "_law_cell", defArgs d_law_cell, defBody d_law_cell, defScope d_law_cell, [], []⟩, ⟨("_law_cut", none), "_law_cut", "_law_cut", defArgs d_law_cut, defBody d_law_cut, defScope d_law_cut, [], []⟩, ⟨("_law_width", none), "_law_width", "_law_width", defArgs d_law_width, defBody d_law_width, defScope d_law_width, [], []⟩, ⟨("_law_log", none), "_law_log", "_law_log", defArgs d_law_log, defBody d_law_log, defScope d_law_log, [], []⟩, ⟨("_law_digits", none), "_law_digits", "_law_digits", defArgs d_law_digits, defBody d_law_digits, defScope d_law_digits, [], []⟩, ⟨("_law_filled", none), "_law_filled", "_law_filled", defArgs d_law_filled, defBody d_law_filled, defScope d_law_filled, [], []⟩, ⟨("_law_told", none), "_law_told", "_law_told", defArgs d_law_told, defBody d_law_told, defScope d_law_told, [], []⟩, ⟨("_law_long_block", none), "_law_long_block", "_law_long_block", defArgs d_law_long_block, defBody d_law_long_block, defScope d_law_long_block, [], []⟩, ⟨("_law_gap", none), "_law_gap", "_law_gap", defArgs d_law_gap, defBody d_law_gap, defScope d_law_gap, [], []⟩, ⟨("_law_greatest", none), "_law_greatest", "_law_greatest", defArgs d_law_greatest, defBody d_law_greatest, defScope d_law_greatest, [], []⟩, ⟨("_law_shortest", none), "_law_shortest", "_law_shortest", defArgs d_law_shortest, defBody d_law_shortest, defScope d_law_shortest, [], []⟩, ⟨("_law_least", none), "_law_least", "_law_least", defArgs d_law_least, defBody d_law_least, defScope d_law_least, [], []⟩, ⟨("_law_all_texts", none), "_law_all_texts", "_law_all_texts", defArgs d_law_all_texts, defBody d_law_all_texts, defScope d_law_all_texts, [], []⟩, ⟨("_law_big", none), "_law_big", "_law_big", defArgs d_law_big, defBody d_law_big, defScope d_law_big, [], []⟩, ⟨("_law_asked", none), "_law_asked", "_law_asked", defArgs d_law_asked, defBody d_law_asked, defScope d_law_asked, [], []⟩, ⟨("_law_numbers_hold", none), "_law_numbers_hold", "_law_numbers_hold", defArgs d_law_numbers_hold, defBody d_law_numbers_hold, defScope d_law_numbers_hold, [], []⟩, ⟨("_law_worst_holds", none), "_law_worst_holds", "_law_worst_holds", defArgs d_law_worst_holds, defBody d_law_worst_holds, defScope d_law_worst_holds, [], []⟩, ⟨("_law_small_hold", none), "_law_small_hold", "_law_small_hold", defArgs d_law_small_hold, defBody d_law_small_hold, defScope d_law_small_hold, [], []⟩, ⟨("_law_great_hold", none), "_law_great_hold", "_law_great_hold", defArgs d_law_great_hold, defBody d_law_great_hold, defScope d_law_great_hold, [], []⟩, ⟨("law", none), "law", "law", defArgs d_law, defBody d_law, defScope d_law, [], []⟩]
def fa : List He.Fa := [.glo "greatest_count", .glo "width", .glo "pressed_length", .glo "level_total", .glo "floor_bits", .glo "excess", .glo "told_excess", .glo "worst_excess", .glo "_law_whole", .glo "_law_cell", .glo "_law_cut", .glo "_law_width", .glo "_law_log", .glo "_law_digits", .glo "_law_filled", .glo "_law_told", .glo "_law_long_block", .glo "_law_gap", .glo "_law_greatest", .glo "_law_shortest", .glo "_law_least", .glo "_law_all_texts", .glo "_law_big", .glo "_law_asked", .glo "_law_numbers_hold", .glo "_law_worst_holds", .glo "_law_small_hold", .glo "_law_great_hold", .glo "law", .free "bool", .free "int", .free "isinstance", .free "len", .free "list", .free "max", .free "min", .free "range", .free "repr", .free "tuple"]
abbrev R : PySem.W.OpenRow := PySem.W.OpenLaw.row PySem.Challenge.rw_unpressed_k60_told_excess
def xb (K : PySem.W.Frag) : Bool := He.eqO (PySem.W.nsIn K mainGlobals "isqrt") (some (some (.builtin "math.isqrt")))
abbrev hk : PySem.W.Hook := hookX 4 fa fn xb
def ob (s : PySem.W.SharedT) : He.AlD × Bool := obsX 4 fa fn xb (HandSHeadRun.getT s)
theorem ob_eq (s : PySem.W.SharedT) : ob s = hk.obs s.abs := obsX_eq (HandSHeadRun.getT_eq s)
def loose : List PySem.Str := (["greatest_count", "width", "pressed_length", "level_total", "floor_bits", "excess", "told_excess", "worst_excess", "_law_whole", "_law_cell", "_law_cut", "_law_width"] : List PySem.Str) ++ (["_law_log", "_law_digits", "_law_filled", "_law_told", "_law_long_block", "_law_gap", "_law_greatest", "_law_shortest", "_law_least", "_law_all_texts", "_law_big", "_law_asked"] : List PySem.Str) ++ (["_law_numbers_hold", "_law_worst_holds", "_law_small_hold", "_law_great_hold"] : List PySem.Str)
theorem run (w : World) : HandSHeadRun.RunEqI R (PySem.W.view R.prog [0, 35]) hk ob 60000 loose w := by
  unfold HandSHeadRun.RunEqI
  kernel_rfl
theorem facts {P : Program} {w : World} {K : PySem.W.Frag} {h : Heap} {mg : MG} {f : Addr} (X : K.In h) (Gm : h.Ns mainGlobals mg) (hfa : mg ("law" : Str) = some (.ref f)) (c : He.SaysD fa fn K) (hx : xb K = true) :
    ∃ fd : FuncData, (∀ (s : Shared) (v : Value), BindsTo s fd ⟨[v], []⟩ [("script", v)]) ∧ ∀ base : Heap, K.In base → base.Ns mainGlobals mg → FnG P w K mg base 7 f fd ["script"] (spP K mg sp_law) := by
  have M : Fre mg := ⟨He.free_ok X Gm (c.fact 29 (f := .free "bool") rfl), He.free_ok X Gm (c.fact 30 (f := .free "int") rfl), He.free_ok X Gm (c.fact 31 (f := .free "isinstance") rfl), He.free_ok X Gm (c.fact 32 (f := .free "len") rfl), He.free_ok X Gm (c.fact 33 (f := .free "list") rfl), He.free_ok X Gm (c.fact 34 (f := .free "max") rfl), He.free_ok X Gm (c.fact 35 (f := .free "min") rfl), He.free_ok X Gm (c.fact 36 (f := .free "range") rfl), He.free_ok X Gm (c.fact 37 (f := .free "repr") rfl), He.free_ok X Gm (c.fact 38 (f := .free "tuple") rfl)⟩
  unfold xb at hx
  have I_isqrt : mg "isqrt" = some (.builtin "math.isqrt") := PySem.W.mg_of X Gm (He.eqO_ok hx)
  obtain ⟨fd_greatest_count, F_greatest_count⟩ := c.def_ 0 (d := ⟨("greatest_count", none), "greatest_count", "greatest_count", defArgs d_greatest_count, defBody d_greatest_count, defScope d_greatest_count, [], []⟩) rfl
  change FnP K "greatest_count" d_greatest_count _ fd_greatest_count at F_greatest_count
  have B_greatest_count : Binds K fd_greatest_count ["size", "length"] [] := FunD.bindsN F_greatest_count fun _ _ _ _ _ _ us hl => match us, hl with | [_, _], _ => rfl
  have g_greatest_count := He.glo_ok X Gm (c.fact 0 (f := .glo "greatest_count") rfl)
  obtain ⟨fd_width, F_width⟩ := c.def_ 1 (d := ⟨("width", none), "width", "width", defArgs d_width, defBody d_width, defScope d_width, [], []⟩) rfl
  change FnP K "width" d_width _ fd_width at F_width
  have B_width : Binds K fd_width ["options"] [] := FunD.bindsN F_width fun _ _ _ _ _ _ us hl => match us, hl with | [_], _ => rfl
  have g_width := He.glo_ok X Gm (c.fact 1 (f := .glo "width") rfl)
  obtain ⟨fd_level_total, F_level_total⟩ := c.def_ 3 (d := ⟨("level_total", none), "level_total", "level_total", defArgs d_level_total, defBody d_level_total, defScope d_level_total, [], []⟩) rfl
  change FnP K "level_total" d_level_total _ fd_level_total at F_level_total
  have B_level_total : Binds K fd_level_total ["count", "room", "shortest"] [] := FunD.bindsN F_level_total fun _ _ _ _ _ _ us hl => match us, hl with | [_, _, _], _ => rfl
  have g_level_total := He.glo_ok X Gm (c.fact 3 (f := .glo "level_total") rfl)
  obtain ⟨fd_law_whole, F_law_whole⟩ := c.def_ 8 (d := ⟨("_law_whole", none), "_law_whole", "_law_whole", defArgs d_law_whole, defBody d_law_whole, defScope d_law_whole, [], []⟩) rfl
  change FnP K "_law_whole" d_law_whole _ fd_law_whole at F_law_whole
  have B_law_whole : Binds K fd_law_whole ["value"] [] := FunD.bindsN F_law_whole fun _ _ _ _ _ _ us hl => match us, hl with | [_], _ => rfl
  have g_law_whole := He.glo_ok X Gm (c.fact 8 (f := .glo "_law_whole") rfl)
  obtain ⟨fd_law_cell, F_law_cell⟩ := c.def_ 9 (d := ⟨("_law_cell", none), "_law_cell", "_law_cell", defArgs d_law_cell, defBody d_law_cell, defScope d_law_cell, [], []⟩) rfl
  change FnP K "_law_cell" d_law_cell _ fd_law_cell at F_law_cell
  have B_law_cell : Binds K fd_law_cell ["script", "k"] [] := FunD.bindsN F_law_cell fun _ _ _ _ _ _ us hl => match us, hl with | [_, _], _ => rfl
  have g_law_cell := He.glo_ok X Gm (c.fact 9 (f := .glo "_law_cell") rfl)
  obtain ⟨fd_law_cut, F_law_cut⟩ := c.def_ 10 (d := ⟨("_law_cut", none), "_law_cut", "_law_cut", defArgs d_law_cut, defBody d_law_cut, defScope d_law_cut, [], []⟩) rfl
  change FnP K "_law_cut" d_law_cut _ fd_law_cut at F_law_cut
  have B_law_cut : Binds K fd_law_cut ["text"] [] := FunD.bindsN F_law_cut fun _ _ _ _ _ _ us hl => match us, hl with | [_], _ => rfl
  have g_law_cut := He.glo_ok X Gm (c.fact 10 (f := .glo "_law_cut") rfl)
  obtain ⟨fd_law_width, F_law_width⟩ := c.def_ 11 (d := ⟨("_law_width", none), "_law_width", "_law_width", defArgs d_law_width, defBody d_law_width, defScope d_law_width, [], []⟩) rfl
  change FnP K "_law_width" d_law_width _ fd_law_width at F_law_width
  have B_law_width : Binds K fd_law_width ["options"] [] := FunD.bindsN F_law_width fun _ _ _ _ _ _ us hl => match us, hl with | [_], _ => rfl
  have g_law_width := He.glo_ok X Gm (c.fact 11 (f := .glo "_law_width") rfl)
  obtain ⟨fd_law_digits, F_law_digits⟩ := c.def_ 13 (d := ⟨("_law_digits", none), "_law_digits", "_law_digits", defArgs d_law_digits, defBody d_law_digits, defScope d_law_digits, [], []⟩) rfl
  change FnP K "_law_digits" d_law_digits _ fd_law_digits at F_law_digits
  have B_law_digits : Binds K fd_law_digits ["cell", "tops"] [] := FunD.bindsN F_law_digits fun _ _ _ _ _ _ us hl => match us, hl with | [_, _], _ => rfl
  have g_law_digits := He.glo_ok X Gm (c.fact 13 (f := .glo "_law_digits") rfl)
  obtain ⟨fd_law_filled, F_law_filled⟩ := c.def_ 14 (d := ⟨("_law_filled", none), "_law_filled", "_law_filled", defArgs d_law_filled, defBody d_law_filled, defScope d_law_filled, [], []⟩) rfl
  change FnP K "_law_filled" d_law_filled _ fd_law_filled at F_law_filled
  have B_law_filled : Binds K fd_law_filled ["states", "many"] [] := FunD.bindsN F_law_filled fun _ _ _ _ _ _ us hl => match us, hl with | [_, _], _ => rfl
  have g_law_filled := He.glo_ok X Gm (c.fact 14 (f := .glo "_law_filled") rfl)
  obtain ⟨fd_law_greatest, F_law_greatest⟩ := c.def_ 18 (d := ⟨("_law_greatest", none), "_law_greatest", "_law_greatest", defArgs d_law_greatest, defBody d_law_greatest, defScope d_law_greatest, [], []⟩) rfl
  change FnP K "_law_greatest" d_law_greatest _ fd_law_greatest at F_law_greatest
  have B_law_greatest : Binds K fd_law_greatest ["letters", "most"] [] := FunD.bindsN F_law_greatest fun _ _ _ _ _ _ us hl => match us, hl with | [_, _], _ => rfl
  have g_law_greatest := He.glo_ok X Gm (c.fact 18 (f := .glo "_law_greatest") rfl)
  obtain ⟨fd_law_shortest, F_law_shortest⟩ := c.def_ 19 (d := ⟨("_law_shortest", none), "_law_shortest", "_law_shortest", defArgs d_law_shortest, defBody d_law_shortest, defScope d_law_shortest, [], []⟩) rfl
  change FnP K "_law_shortest" d_law_shortest _ fd_law_shortest at F_law_shortest
  have B_law_shortest : Binds K fd_law_shortest ["letters", "many"] [] := FunD.bindsN F_law_shortest fun _ _ _ _ _ _ us hl => match us, hl with | [_, _], _ => rfl
  have g_law_shortest := He.glo_ok X Gm (c.fact 19 (f := .glo "_law_shortest") rfl)
  obtain ⟨fd_law_least, F_law_least⟩ := c.def_ 20 (d := ⟨("_law_least", none), "_law_least", "_law_least", defArgs d_law_least, defBody d_law_least, defScope d_law_least, [], []⟩) rfl
  change FnP K "_law_least" d_law_least _ fd_law_least at F_law_least
  have B_law_least : Binds K fd_law_least ["letters"] [] := FunD.bindsN F_law_least fun _ _ _ _ _ _ us hl => match us, hl with | [_], _ => rfl
  have g_law_least := He.glo_ok X Gm (c.fact 20 (f := .glo "_law_least") rfl)
  obtain ⟨fd_law_all_texts, F_law_all_texts⟩ := c.def_ 21 (d := ⟨("_law_all_texts", none), "_law_all_texts", "_law_all_texts", defArgs d_law_all_texts, defBody d_law_all_texts, defScope d_law_all_texts, [], []⟩) rfl
  change FnP K "_law_all_texts" d_law_all_texts _ fd_law_all_texts at F_law_all_texts
  have B_law_all_texts : Binds K fd_law_all_texts ["alphabet", "letters"] [] := FunD.bindsN F_law_all_texts fun _ _ _ _ _ _ us hl => match us, hl with | [_, _], _ => rfl
  have g_law_all_texts := He.glo_ok X Gm (c.fact 21 (f := .glo "_law_all_texts") rfl)
  obtain ⟨fd_law_big, F_law_big⟩ := c.def_ 22 (d := ⟨("_law_big", none), "_law_big", "_law_big", defArgs d_law_big, defBody d_law_big, defScope d_law_big, [], []⟩) rfl
  change FnP K "_law_big" d_law_big _ fd_law_big at F_law_big
  have B_law_big : Binds K fd_law_big ["parts", "many", "top"] [] := FunD.bindsN F_law_big fun _ _ _ _ _ _ us hl => match us, hl with | [_, _, _], _ => rfl
  have g_law_big := He.glo_ok X Gm (c.fact 22 (f := .glo "_law_big") rfl)
  obtain ⟨fd_pressed_length, F_pressed_length⟩ := c.def_ 2 (d := ⟨("pressed_length", none), "pressed_length", "pressed_length", defArgs d_pressed_length, defBody d_pressed_length, defScope d_pressed_length, [], []⟩) rfl
  change FnP K "pressed_length" d_pressed_length _ fd_pressed_length at F_pressed_length
  have B_pressed_length : Binds K fd_pressed_length ["size", "count"] [] := FunD.bindsN F_pressed_length fun _ _ _ _ _ _ us hl => match us, hl with | [_, _], _ => rfl
  have g_pressed_length := He.glo_ok X Gm (c.fact 2 (f := .glo "pressed_length") rfl)
  obtain ⟨fd_floor_bits, F_floor_bits⟩ := c.def_ 4 (d := ⟨("floor_bits", none), "floor_bits", "floor_bits", defArgs d_floor_bits, defBody d_floor_bits, defScope d_floor_bits, [], []⟩) rfl
  change FnP K "floor_bits" d_floor_bits _ fd_floor_bits at F_floor_bits
  have B_floor_bits : Binds K fd_floor_bits ["standings", "count"] [] := FunD.bindsN F_floor_bits fun _ _ _ _ _ _ us hl => match us, hl with | [_, _], _ => rfl
  have g_floor_bits := He.glo_ok X Gm (c.fact 4 (f := .glo "floor_bits") rfl)
  obtain ⟨fd_told_excess, F_told_excess⟩ := c.def_ 6 (d := ⟨("told_excess", none), "told_excess", "told_excess", defArgs d_told_excess, defBody d_told_excess, defScope d_told_excess, [], []⟩) rfl
  change FnP K "told_excess" d_told_excess _ fd_told_excess at F_told_excess
  have B_told_excess : Binds K fd_told_excess ["size", "standings", "count"] [] := FunD.bindsN F_told_excess fun _ _ _ _ _ _ us hl => match us, hl with | [_, _, _], _ => rfl
  have g_told_excess := He.glo_ok X Gm (c.fact 6 (f := .glo "told_excess") rfl)
  obtain ⟨fd_law_log, F_law_log⟩ := c.def_ 12 (d := ⟨("_law_log", none), "_law_log", "_law_log", defArgs d_law_log, defBody d_law_log, defScope d_law_log, [], []⟩) rfl
  change FnP K "_law_log" d_law_log _ fd_law_log at F_law_log
  have B_law_log : Binds K fd_law_log ["n"] [] := FunD.bindsN F_law_log fun _ _ _ _ _ _ us hl => match us, hl with | [_], _ => rfl
  have g_law_log := He.glo_ok X Gm (c.fact 12 (f := .glo "_law_log") rfl)
  obtain ⟨fd_law_long_block, F_law_long_block⟩ := c.def_ 16 (d := ⟨("_law_long_block", none), "_law_long_block", "_law_long_block", defArgs d_law_long_block, defBody d_law_long_block, defScope d_law_long_block, [], []⟩) rfl
  change FnP K "_law_long_block" d_law_long_block _ fd_law_long_block at F_law_long_block
  have B_law_long_block : Binds K fd_law_long_block ["letters", "many"] [] := FunD.bindsN F_law_long_block fun _ _ _ _ _ _ us hl => match us, hl with | [_, _], _ => rfl
  have g_law_long_block := He.glo_ok X Gm (c.fact 16 (f := .glo "_law_long_block") rfl)
  obtain ⟨fd_law_asked, F_law_asked⟩ := c.def_ 23 (d := ⟨("_law_asked", none), "_law_asked", "_law_asked", defArgs d_law_asked, defBody d_law_asked, defScope d_law_asked, [], []⟩) rfl
  change FnP K "_law_asked" d_law_asked _ fd_law_asked at F_law_asked
  have B_law_asked : Binds K fd_law_asked ["row"] [] := FunD.bindsN F_law_asked fun _ _ _ _ _ _ us hl => match us, hl with | [_], _ => rfl
  have g_law_asked := He.glo_ok X Gm (c.fact 23 (f := .glo "_law_asked") rfl)
  obtain ⟨fd_excess, F_excess⟩ := c.def_ 5 (d := ⟨("excess", none), "excess", "excess", defArgs d_excess, defBody d_excess, defScope d_excess, [], []⟩) rfl
  change FnP K "excess" d_excess _ fd_excess at F_excess
  have B_excess : Binds K fd_excess ["size", "standings", "count"] [] := FunD.bindsN F_excess fun _ _ _ _ _ _ us hl => match us, hl with | [_, _, _], _ => rfl
  have g_excess := He.glo_ok X Gm (c.fact 5 (f := .glo "excess") rfl)
  obtain ⟨fd_law_told, F_law_told⟩ := c.def_ 15 (d := ⟨("_law_told", none), "_law_told", "_law_told", defArgs d_law_told, defBody d_law_told, defScope d_law_told, [], []⟩) rfl
  change FnP K "_law_told" d_law_told _ fd_law_told at F_law_told
  have B_law_told : Binds K fd_law_told ["letters", "states", "many"] [] := FunD.bindsN F_law_told fun _ _ _ _ _ _ us hl => match us, hl with | [_, _, _], _ => rfl
  have g_law_told := He.glo_ok X Gm (c.fact 15 (f := .glo "_law_told") rfl)
  obtain ⟨fd_law_gap, F_law_gap⟩ := c.def_ 17 (d := ⟨("_law_gap", none), "_law_gap", "_law_gap", defArgs d_law_gap, defBody d_law_gap, defScope d_law_gap, [], []⟩) rfl
  change FnP K "_law_gap" d_law_gap _ fd_law_gap at F_law_gap
  have B_law_gap : Binds K fd_law_gap ["letters", "states", "many"] [] := FunD.bindsN F_law_gap fun _ _ _ _ _ _ us hl => match us, hl with | [_, _, _], _ => rfl
  have g_law_gap := He.glo_ok X Gm (c.fact 17 (f := .glo "_law_gap") rfl)
  obtain ⟨fd_worst_excess, F_worst_excess⟩ := c.def_ 7 (d := ⟨("worst_excess", none), "worst_excess", "worst_excess", defArgs d_worst_excess, defBody d_worst_excess, defScope d_worst_excess, [], []⟩) rfl
  change FnP K "worst_excess" d_worst_excess _ fd_worst_excess at F_worst_excess
  have B_worst_excess : Binds K fd_worst_excess ["size", "standings", "length"] [] := FunD.bindsN F_worst_excess fun _ _ _ _ _ _ us hl => match us, hl with | [_, _, _], _ => rfl
  have g_worst_excess := He.glo_ok X Gm (c.fact 7 (f := .glo "worst_excess") rfl)
  obtain ⟨fd_law_numbers_hold, F_law_numbers_hold⟩ := c.def_ 24 (d := ⟨("_law_numbers_hold", none), "_law_numbers_hold", "_law_numbers_hold", defArgs d_law_numbers_hold, defBody d_law_numbers_hold, defScope d_law_numbers_hold, [], []⟩) rfl
  change FnP K "_law_numbers_hold" d_law_numbers_hold _ fd_law_numbers_hold at F_law_numbers_hold
  have B_law_numbers_hold : Binds K fd_law_numbers_hold ["letters", "states", "many"] [] := FunD.bindsN F_law_numbers_hold fun _ _ _ _ _ _ us hl => match us, hl with | [_, _, _], _ => rfl
  have g_law_numbers_hold := He.glo_ok X Gm (c.fact 24 (f := .glo "_law_numbers_hold") rfl)
  obtain ⟨fd_law_worst_holds, F_law_worst_holds⟩ := c.def_ 25 (d := ⟨("_law_worst_holds", none), "_law_worst_holds", "_law_worst_holds", defArgs d_law_worst_holds, defBody d_law_worst_holds, defScope d_law_worst_holds, [], []⟩) rfl
  change FnP K "_law_worst_holds" d_law_worst_holds _ fd_law_worst_holds at F_law_worst_holds
  have B_law_worst_holds : Binds K fd_law_worst_holds ["letters", "states", "long", "due"] [] := FunD.bindsN F_law_worst_holds fun _ _ _ _ _ _ us hl => match us, hl with | [_, _, _, _], _ => rfl
  have g_law_worst_holds := He.glo_ok X Gm (c.fact 25 (f := .glo "_law_worst_holds") rfl)
  obtain ⟨fd_law_small_hold, F_law_small_hold⟩ := c.def_ 26 (d := ⟨("_law_small_hold", none), "_law_small_hold", "_law_small_hold", defArgs d_law_small_hold, defBody d_law_small_hold, defScope d_law_small_hold, [], []⟩) rfl
  change FnP K "_law_small_hold" d_law_small_hold _ fd_law_small_hold at F_law_small_hold
  have B_law_small_hold : Binds K fd_law_small_hold ["letters", "states", "row"] [] := FunD.bindsN F_law_small_hold fun _ _ _ _ _ _ us hl => match us, hl with | [_, _, _], _ => rfl
  have g_law_small_hold := He.glo_ok X Gm (c.fact 26 (f := .glo "_law_small_hold") rfl)
  obtain ⟨fd_law_great_hold, F_law_great_hold⟩ := c.def_ 27 (d := ⟨("_law_great_hold", none), "_law_great_hold", "_law_great_hold", defArgs d_law_great_hold, defBody d_law_great_hold, defScope d_law_great_hold, [], []⟩) rfl
  change FnP K "_law_great_hold" d_law_great_hold _ fd_law_great_hold at F_law_great_hold
  have B_law_great_hold : Binds K fd_law_great_hold ["letters", "states", "row", "kind"] [] := FunD.bindsN F_law_great_hold fun _ _ _ _ _ _ us hl => match us, hl with | [_, _, _, _], _ => rfl
  have g_law_great_hold := He.glo_ok X Gm (c.fact 27 (f := .glo "_law_great_hold") rfl)
  obtain ⟨fd_law, F_law⟩ := c.def_ 28 (d := ⟨("law", none), "law", "law", defArgs d_law, defBody d_law, defScope d_law, [], []⟩) rfl
  change FnP K "law" d_law _ fd_law at F_law
  have KB_excess_0_count_standings_size : PKB K fd_excess ["size", "standings", "count"] 0 ["count", "standings", "size"] (pickL [2, 1, 0]) := FunD.pkb F_excess 0 ["count", "standings", "size"] [2, 1, 0] fun _ _ _ _ _ _ us ws l1 l2 => match us, ws, l1, l2 with | [], [_, _, _], _, _ => rfl
  have KB_told_excess_0_standings_size_count : PKB K fd_told_excess ["size", "standings", "count"] 0 ["standings", "size", "count"] (pickL [1, 0, 2]) := FunD.pkb F_told_excess 0 ["standings", "size", "count"] [1, 0, 2] fun _ _ _ _ _ _ us ws l1 l2 => match us, ws, l1, l2 with | [], [_, _, _], _, _ => rfl
  have KB_worst_excess_0_length_size_standings : PKB K fd_worst_excess ["size", "standings", "length"] 0 ["length", "size", "standings"] (pickL [1, 2, 0]) := FunD.pkb F_worst_excess 0 ["length", "size", "standings"] [1, 2, 0] fun _ _ _ _ _ _ us ws l1 l2 => match us, ws, l1, l2 with | [], [_, _, _], _, _ => rfl
  have e := hfa.symm.trans (He.glo_ok X Gm (c.fact 28 (f := .glo "law") rfl))
  cases e
  have b := FunD.bindsA (ps := ["script"]) F_law fun _ _ _ _ _ _ us hl => match us, hl with | [_], _ => rfl
  refine ⟨fd_law, fun s v => b s [v] rfl, fun base _ _ => ?_⟩
  have C_greatest_count : Cal P w K mg base "greatest_count" ["size", "length"] 1 _ fd_greatest_count sp_greatest_count := ⟨ok_greatest_count F_greatest_count I_isqrt, g_greatest_count, F_greatest_count.kp, B_greatest_count⟩
  have C_width : Cal P w K mg base "width" ["options"] 1 _ fd_width sp_width := ⟨ok_width F_width, g_width, F_width.kp, B_width⟩
  have C_level_total : Cal P w K mg base "level_total" ["count", "room", "shortest"] 1 _ fd_level_total sp_level_total := ⟨ok_level_total F_level_total M, g_level_total, F_level_total.kp, B_level_total⟩
  have C_law_whole : Cal P w K mg base "_law_whole" ["value"] 1 _ fd_law_whole sp_law_whole := ⟨ok_law_whole F_law_whole M, g_law_whole, F_law_whole.kp, B_law_whole⟩
  have C_law_cell : Cal P w K mg base "_law_cell" ["script", "k"] 1 _ fd_law_cell sp_law_cell := ⟨ok_law_cell F_law_cell M, g_law_cell, F_law_cell.kp, B_law_cell⟩
  have C_law_cut : Cal P w K mg base "_law_cut" ["text"] 1 _ fd_law_cut sp_law_cut := ⟨ok_law_cut F_law_cut M, g_law_cut, F_law_cut.kp, B_law_cut⟩
  have C_law_width : Cal P w K mg base "_law_width" ["options"] 1 _ fd_law_width sp_law_width := ⟨ok_law_width F_law_width M, g_law_width, F_law_width.kp, B_law_width⟩
  have C_law_digits : Cal P w K mg base "_law_digits" ["cell", "tops"] 1 _ fd_law_digits sp_law_digits := ⟨ok_law_digits F_law_digits M, g_law_digits, F_law_digits.kp, B_law_digits⟩
  have C_law_filled : Cal P w K mg base "_law_filled" ["states", "many"] 1 _ fd_law_filled sp_law_filled := ⟨ok_law_filled F_law_filled M, g_law_filled, F_law_filled.kp, B_law_filled⟩
  have C_law_greatest : Cal P w K mg base "_law_greatest" ["letters", "most"] 1 _ fd_law_greatest sp_law_greatest := ⟨ok_law_greatest F_law_greatest M, g_law_greatest, F_law_greatest.kp, B_law_greatest⟩
  have C_law_shortest : Cal P w K mg base "_law_shortest" ["letters", "many"] 1 _ fd_law_shortest sp_law_shortest := ⟨ok_law_shortest F_law_shortest M, g_law_shortest, F_law_shortest.kp, B_law_shortest⟩
  have C_law_least : Cal P w K mg base "_law_least" ["letters"] 1 _ fd_law_least sp_law_least := ⟨ok_law_least F_law_least M, g_law_least, F_law_least.kp, B_law_least⟩
  have C_law_all_texts : Cal P w K mg base "_law_all_texts" ["alphabet", "letters"] 1 _ fd_law_all_texts sp_law_all_texts := ⟨ok_law_all_texts F_law_all_texts M, g_law_all_texts, F_law_all_texts.kp, B_law_all_texts⟩
  have C_law_big : Cal P w K mg base "_law_big" ["parts", "many", "top"] 1 _ fd_law_big sp_law_big := ⟨ok_law_big F_law_big M, g_law_big, F_law_big.kp, B_law_big⟩
  have C_pressed_length : Cal P w K mg base "pressed_length" ["size", "count"] 2 _ fd_pressed_length sp_pressed_length := ⟨ok_pressed_length F_pressed_length C_width, g_pressed_length, F_pressed_length.kp, B_pressed_length⟩
  have C_floor_bits : Cal P w K mg base "floor_bits" ["standings", "count"] 2 _ fd_floor_bits sp_floor_bits := ⟨ok_floor_bits F_floor_bits M C_level_total, g_floor_bits, F_floor_bits.kp, B_floor_bits⟩
  have C_told_excess : Cal P w K mg base "told_excess" ["size", "standings", "count"] 2 _ fd_told_excess sp_told_excess := ⟨ok_told_excess F_told_excess C_width, g_told_excess, F_told_excess.kp, B_told_excess⟩
  have C_law_log : Cal P w K mg base "_law_log" ["n"] 2 _ fd_law_log sp_law_log := ⟨ok_law_log F_law_log C_law_width, g_law_log, F_law_log.kp, B_law_log⟩
  have C_law_long_block : Cal P w K mg base "_law_long_block" ["letters", "many"] 2 _ fd_law_long_block sp_law_long_block := ⟨ok_law_long_block F_law_long_block M C_law_width, g_law_long_block, F_law_long_block.kp, B_law_long_block⟩
  have C_law_asked : Cal P w K mg base "_law_asked" ["row"] 2 _ fd_law_asked sp_law_asked := ⟨ok_law_asked F_law_asked M C_law_big, g_law_asked, F_law_asked.kp, B_law_asked⟩
  have C_excess : Cal P w K mg base "excess" ["size", "standings", "count"] 3 _ fd_excess sp_excess := ⟨ok_excess F_excess C_pressed_length C_floor_bits, g_excess, F_excess.kp, B_excess⟩
  have C_law_told : Cal P w K mg base "_law_told" ["letters", "states", "many"] 3 _ fd_law_told sp_law_told := ⟨ok_law_told F_law_told C_law_width C_law_log, g_law_told, F_law_told.kp, B_law_told⟩
  have C_law_gap : Cal P w K mg base "_law_gap" ["letters", "states", "many"] 3 _ fd_law_gap sp_law_gap := ⟨ok_law_gap F_law_gap C_law_long_block C_law_filled, g_law_gap, F_law_gap.kp, B_law_gap⟩
  have C_worst_excess : Cal P w K mg base "worst_excess" ["size", "standings", "length"] 4 _ fd_worst_excess sp_worst_excess := ⟨ok_worst_excess F_worst_excess C_excess C_greatest_count, g_worst_excess, F_worst_excess.kp, B_worst_excess⟩
  have C_law_numbers_hold : Cal P w K mg base "_law_numbers_hold" ["letters", "states", "many"] 4 _ fd_law_numbers_hold sp_law_numbers_hold := ⟨ok_law_numbers_hold F_law_numbers_hold C_excess C_told_excess C_law_whole C_law_gap C_law_told KB_excess_0_count_standings_size KB_told_excess_0_standings_size_count, g_law_numbers_hold, F_law_numbers_hold.kp, B_law_numbers_hold⟩
  have C_law_worst_holds : Cal P w K mg base "_law_worst_holds" ["letters", "states", "long", "due"] 5 _ fd_law_worst_holds sp_law_worst_holds := ⟨ok_law_worst_holds F_law_worst_holds C_worst_excess C_law_whole KB_worst_excess_0_length_size_standings, g_law_worst_holds, F_law_worst_holds.kp, B_law_worst_holds⟩
  have C_law_small_hold : Cal P w K mg base "_law_small_hold" ["letters", "states", "row"] 6 _ fd_law_small_hold sp_law_small_hold := ⟨ok_law_small_hold F_law_small_hold M C_law_all_texts C_law_gap C_law_cut C_law_worst_holds C_law_least C_law_greatest, g_law_small_hold, F_law_small_hold.kp, B_law_small_hold⟩
  have C_law_great_hold : Cal P w K mg base "_law_great_hold" ["letters", "states", "row", "kind"] 6 _ fd_law_great_hold sp_law_great_hold := ⟨ok_law_great_hold F_law_great_hold M C_law_big C_law_shortest C_law_worst_holds C_law_gap C_law_greatest, g_law_great_hold, F_law_great_hold.kp, B_law_great_hold⟩
  exact ok_law F_law M C_law_digits C_law_cell C_law_asked C_law_big C_excess C_told_excess C_law_numbers_hold C_law_small_hold C_law_great_hold
end K60
open PySem PySem.W PyProof.Rows
set_option maxRecDepth 100000 in
set_option maxHeartbeats 0 in
theorem PySem.Challenge.cw_unpressed_k60_told_excess_holds : PySem.Challenge.rw_unpressed_k60_told_excess.Holds := by
  w_on; o_law
  refine HandSHeadRun.head_imp (r := OpenLaw.row PySem.Challenge.rw_unpressed_k60_told_excess) (q := view (OpenLaw.row PySem.Challenge.rw_unpressed_k60_told_excess).prog [0, 35]) (H := K60.hk) (ob := K60.ob) (M := 60000) (loose := K60.loose) (d := HandSHeadRun.topDef (OpenLaw.row PySem.Challenge.rw_unpressed_k60_told_excess).prog 35) (kwd := []) K60.ob_eq
    K60.run (by kernel_rfl) (by kernel_rfl) (by kernel_rfl) (by rfl) (by first | assumption | decide +kernel) (by decide +kernel) ⟨rfl, rfl, rfl, rfl, rfl, by decide +kernel⟩ ?hw ?hc
  case hw => w_witness2
  case hc =>
    refine PL.walk_g (l := PySem.Challenge.rw_unpressed_k60_told_excess) (n := 63) (k := 7) (x := "script") rfl (by decide) (by kernel_rfl) ⟨rfl, by decide, by decide⟩ ?F
    intro w mg fa h Y G hmg0
    obtain ⟨K, KX, c, hx⟩ := Y
    have hmg : mg ("law" : PySem.Str) = some (.ref fa) := by
      have e : (HandSHeadRun.topDef (OpenLaw.row PySem.Challenge.rw_unpressed_k60_told_excess).prog 35).name = ("law" : PySem.Str) := by kernel_rfl
      rw [← e]
      exact hmg0
    obtain ⟨fd, hb, hF⟩ := K60.facts (P := (PySem.Challenge.rw_unpressed_k60_told_excess).prog) (w := w) KX G hmg c hx
    exact ⟨K, fd, PL.spP K mg K60.sp_law, KX, hb, fun H a ns hl hO hS => PL.law_entry hS (K60.law_in ns hl), hF⟩
end
