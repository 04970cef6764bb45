import PyProof.Rows.All
import Wide.All
import OpenK.AllK
import Wide.FinOn
import HandS.Base
import HandS.Call
import HandS.List
import HandS.Comp
import HandS.Ends
import HandS.Dict
import HandS.Iter
import HandS.Walk
import HandS.Words
import HandS.WordsList
import HandS.WordsExc
import HandS.Exc
import HandS.ExcOwn
import HandS.TryOnly
import HandS.Defaults
import HandS.CallSlots
import HandS.Evl
import HandS.HeadHook1
import HandS.HeadHook2
import HandS.Lambda
import HandS.Wide
import KE.GoesZip
import KE.GoesMore
import KE.GoesEnum
import HandS.Strs
import HandS.SetFor
import HandS.TupAny
import HandS.Deep
import HandS.Conv
import HandS.Gcd
import KE.RegKMathG
import HandS.Style
import HandS.IsInst
import HandS.RevTup
import KE.KTupSum
import HandS.SortKw
import KE.SortKeyHeap
import HandS.OwnEq
import HandS.ExcSuper
import HandS.ForSpec
import KE.KExcSuper
import HandS.ExcIs
import HandS.HotCalls
import HandS.Head0
import HandS.Head1
import HandS.Head2
import HandS.Head3
import HandS.HeadHook3
import HandS.HeadHook4
import HandS.HeadWalk
import HandS.IterVal
import HandS.OwnIter
import PySem.Challenge.RW_nodearer_k67_calendar
set_option Elab.async false
set_option linter.all false
set_option maxRecDepth 100000
set_option maxHeartbeats 4000000
/-! A layer over L2: values as pure data (D), mutable objects by address (Mu). -/
namespace Nod
open PySem PySem.Spec PyProof.Rows L2
open Evl (Ex)

inductive D where
  | non | bl (b : Bool) | int (i : Int) | str (x : Str) | ty (n : String) | adr (a : Addr) | scr (ns : List Int)
  | tup (xs : List D) | ftup (xs : List D) | lst (xs : List D) | obj (C : Str) (fs : List (Str × D))

mutual
inductive Rp (K : PySem.W.Frag) (H : Hp) : V → D → Prop
  | non : Rp K H .non .non
  | bl (b : Bool) : Rp K H (.bl b) (.bl b)
  | int (i : Int) : Rp K H (.int i) (.int i)
  | str (x : Str) : Rp K H (.str x) (.str x)
  | ty (n : String) : Rp K H (.ty n) (.ty n)
  | adr (a : Addr) : Rp K H (.ref a) (.adr a)
  | scr {a : Addr} {ns : List Int} (h : SqL K H a (ns.map V.int)) : Rp K H (.ref a) (.scr ns)
  | tup {a : Addr} {vs : List V} {ds : List D} (h : H a = some (.tup vs)) (r : RpA K H vs ds) : Rp K H (.ref a) (.tup ds)
  | ftup {a : Addr} {ob : Obj} {vs : List V} {ds : List D} (h : H a = some (.frz ob (.tup vs))) (hn : ob.dict = none) (r : RpA K H vs ds) : Rp K H (.ref a) (.ftup ds)
  | lst {a : Addr} {vs : List V} {ds : List D} (h : H a = some (.lst vs)) (r : RpA K H vs ds) : Rp K H (.ref a) (.lst ds)
  | obj {a dx : Addr} {C : Str} {fs : List (Str × V)} {gs : List (Str × D)} (h : H a = some (.ins (He.ga K C) dx fs)) (r : RpF K H fs gs) : Rp K H (.ref a) (.obj C gs)
inductive RpA (K : PySem.W.Frag) (H : Hp) : List V → List D → Prop
  | nil : RpA K H [] []
  | cons {v : V} {vs : List V} {d : D} {ds : List D} (h : Rp K H v d) (t : RpA K H vs ds) : RpA K H (v :: vs) (d :: ds)
inductive RpF (K : PySem.W.Frag) (H : Hp) : List (Str × V) → List (Str × D) → Prop
  | nil : RpF K H [] []
  | cons {f : Str} {v : V} {vs : List (Str × V)} {d : D} {ds : List (Str × D)} (h : Rp K H v d) (t : RpF K H vs ds) : RpF K H ((f, v) :: vs) ((f, d) :: ds)
end

section
variable {K : PySem.W.Frag} {H H' : Hp}
theorem Rp.mono (e : Ex H H') {v : V} {d : D} (h : Rp K H v d) : Rp K H' v d := by
  refine Rp.rec (motive_1 := fun v d _ => Rp K H' v d) (motive_2 := fun vs ds _ => RpA K H' vs ds) (motive_3 := fun vs ds _ => RpF K H' vs ds) ?_ ?_ ?_ ?_ ?_ ?_ ?_ ?_ ?_ ?_ ?_ ?_ ?_ ?_ ?_ h
  · exact .non
  · exact fun b => .bl b
  · exact fun b => .int b
  · exact fun b => .str b
  · exact fun b => .ty b
  · exact fun b => .adr b
  · exact fun h => .scr (Evl.ex_l e h)
  · exact fun h _ r => .tup (e _ _ h) r
  · exact fun h hn _ r => .ftup (e _ _ h) hn r
  · exact fun h _ r => .lst (e _ _ h) r
  · exact fun h _ r => .obj (e _ _ h) r
  · exact .nil
  · exact fun _ _ h t => .cons h t
  · exact .nil
  · exact fun _ _ h t => .cons h t
theorem RpA.mono (e : Ex H H') : ∀ {vs : List V} {ds : List D}, RpA K H vs ds → RpA K H' vs ds
  | _, _, .nil => .nil
  | _, _, .cons h t => .cons (h.mono e) (t.mono e)
theorem RpF.mono (e : Ex H H') : ∀ {vs : List (Str × V)} {ds : List (Str × D)}, RpF K H vs ds → RpF K H' vs ds
  | _, _, .nil => .nil
  | _, _, .cons h t => .cons (h.mono e) (t.mono e)
theorem RpA.length : ∀ {vs : List V} {ds : List D}, RpA K H vs ds → vs.length = ds.length
  | _, _, .nil => rfl
  | _, _, .cons _ t => congrArg (· + 1) t.length
theorem RpA.get : ∀ {vs : List V} {ds : List D} {i : Nat} {d : D}, RpA K H vs ds → ds[i]? = some d → ∃ v, vs[i]? = some v ∧ Rp K H v d
  | _, _, _, _, .nil, e => by simp at e
  | _, _, 0, _, .cons h _, e => by simp at e; subst e; exact ⟨_, rfl, h⟩
  | _, _, i + 1, d, .cons _ t, e => by
    obtain ⟨v, h1, h2⟩ := RpA.get (i := i) (d := d) t (by simpa using e)
    exact ⟨v, by simpa using h1, h2⟩
theorem RpA.get' : ∀ {vs : List V} {ds : List D} {i : Nat} {v : V}, RpA K H vs ds → vs[i]? = some v → ∃ d, ds[i]? = some d ∧ Rp K H v d
  | _, _, _, _, .nil, e => by simp at e
  | _, _, 0, _, .cons h _, e => by simp at e; subst e; exact ⟨_, rfl, h⟩
  | _, _, i + 1, v, .cons _ t, e => by
    obtain ⟨d, h1, h2⟩ := RpA.get' (i := i) (v := v) t (by simpa using e)
    exact ⟨d, by simpa using h1, h2⟩
theorem RpA.append : ∀ {vs ws : List V} {ds es : List D}, RpA K H vs ds → RpA K H ws es → RpA K H (vs ++ ws) (ds ++ es)
  | _, _, _, _, .nil, s => s
  | _, _, _, _, .cons r t, s => .cons r (t.append s)
theorem RpA.take : ∀ {vs : List V} {ds : List D} (n : Nat), RpA K H vs ds → RpA K H (vs.take n) (ds.take n)
  | _, _, 0, _ => .nil
  | _, _, _ + 1, .nil => .nil
  | _, _, n + 1, .cons r t => .cons r (t.take n)
theorem RpA.drop : ∀ {vs : List V} {ds : List D} (n : Nat), RpA K H vs ds → RpA K H (vs.drop n) (ds.drop n)
  | _, _, 0, r => r
  | _, _, _ + 1, .nil => .nil
  | _, _, n + 1, .cons _ t => t.drop n
theorem RpA.set {v : V} {d : D} (r : Rp K H v d) : ∀ {vs : List V} {ds : List D} (i : Nat), RpA K H vs ds → RpA K H (vs.set i v) (ds.set i d)
  | _, _, _, .nil => .nil
  | _, _, 0, .cons _ t => .cons r t
  | _, _, i + 1, .cons q t => .cons q (t.set r i)
theorem RpA.reverse {vs : List V} {ds : List D} (h : RpA K H vs ds) : RpA K H vs.reverse ds.reverse := by
  induction vs generalizing ds with
  | nil => cases h; exact .nil
  | cons v vs ih =>
    cases h with
    | cons r t =>
      rw [List.reverse_cons, List.reverse_cons]
      exact (ih t).append (.cons r .nil)
theorem RpA.dropLast {vs : List V} {ds : List D} (h : RpA K H vs ds) : RpA K H vs.dropLast ds.dropLast := by
  rw [List.dropLast_eq_take, List.dropLast_eq_take, h.length]
  exact h.take _
theorem RpA.ints : ∀ {vs : List V} {ns : List Int}, RpA K H vs (ns.map D.int) → vs = ns.map V.int
  | _, [], .nil => rfl
  | _, n :: ns, .cons h t => by
    cases h
    rw [List.map_cons, t.ints]
theorem RpA.of_ints : ∀ (ns : List Int), RpA K H (ns.map V.int) (ns.map D.int)
  | [] => .nil
  | n :: ns => .cons (.int n) (RpA.of_ints ns)
theorem RpF.look {vs : List (Str × V)} {ds : List (Str × D)} (h : RpF K H vs ds) (f : Str) : (∀ d, ds.lookup f = some d → ∃ v, vs.lookup f = some v ∧ Rp K H v d) ∧ (ds.lookup f = none → vs.lookup f = none) := by
  induction vs generalizing ds with
  | nil => cases h; exact ⟨fun d e => by simp at e, fun _ => rfl⟩
  | cons p vs ih =>
    cases h with
    | @cons g v _ d ds r t =>
      obtain ⟨h1, h2⟩ := ih t
      by_cases c : (f == g) = true
      · refine ⟨fun e q => ?_, fun q => ?_⟩
        · simp only [List.lookup, c] at q ⊢
          cases q
          exact ⟨v, rfl, r⟩
        · simp only [List.lookup, c] at q
          cases q
      · have c' : (f == g) = false := by simpa using c
        refine ⟨fun e q => ?_, fun q => ?_⟩
        · simp only [List.lookup, c'] at q ⊢
          exact h1 e q
        · simp only [List.lookup, c'] at q ⊢
          exact h2 q
theorem RpF.length : ∀ {vs : List (Str × V)} {ds : List (Str × D)}, RpF K H vs ds → vs.length = ds.length
  | _, _, .nil => rfl
  | _, _, .cons _ t => congrArg (· + 1) t.length
end

/-- putF over data -/
def putD (f : Str) (d : D) : List (Str × D) → List (Str × D)
  | [] => [(f, d)]
  | (g, x) :: r => if g = f then (g, d) :: r else (g, x) :: putD f d r
theorem RpF.put {K : PySem.W.Frag} {H : Hp} {f : Str} {v : V} {d : D} (r : Rp K H v d) : ∀ {vs : List (Str × V)} {ds : List (Str × D)}, RpF K H vs ds → RpF K H (putF f v vs) (putD f d ds)
  | _, _, .nil => .cons r .nil
  | _, _, .cons (f := g) h t => by
    unfold putF putD
    by_cases c : g = f
    · rw [if_pos c, if_pos c]; exact .cons r t
    · rw [if_neg c, if_neg c]; exact .cons h (t.put r)

/-! ### mutable objects -/
inductive MO where
  | lst (ds : List D) | dT (kvs : List (List Key × D)) | dK (kvs : List (Key × D)) | ins (C : Str) (fs : List (Str × D)) | tab (q : Str)
abbrev Mu := Addr → Option MO
def updM (μ : Mu) (a : Addr) (o : MO) : Mu := fun b => if b = a then some o else μ b
def delM (μ : Mu) (a : Addr) : Mu := fun b => if b = a then none else μ b
theorem updM_same {μ : Mu} {a : Addr} {o : MO} : updM μ a o a = some o := by unfold updM; rw [if_pos rfl]
theorem updM_ne {μ : Mu} {a b : Addr} {o : MO} (h : b ≠ a) : updM μ a o b = μ b := by unfold updM; rw [if_neg h]
theorem updM_updM {μ : Mu} {a : Addr} {o u : MO} : updM (updM μ a o) a u = updM μ a u := by funext b; unfold updM; split <;> rfl
theorem delM_same {μ : Mu} {a : Addr} : delM μ a a = none := by unfold delM; rw [if_pos rfl]
theorem delM_ne {μ : Mu} {a b : Addr} (h : b ≠ a) : delM μ a b = μ b := by unfold delM; rw [if_neg h]
theorem delM_updM {μ : Mu} {a : Addr} {o : MO} (h : μ a = none) : delM (updM μ a o) a = μ := by
  funext b; unfold delM updM; by_cases e : b = a
  · subst e; rw [if_pos rfl, h]
  · rw [if_neg e, if_neg e]

inductive RpK {κ : Type} (K : PySem.W.Frag) (H : Hp) : List (κ × V) → List (κ × D) → Prop
  | nil : RpK K H [] []
  | cons {f : κ} {v : V} {vs : List (κ × V)} {d : D} {ds : List (κ × D)} (h : Rp K H v d) (t : RpK K H vs ds) : RpK K H ((f, v) :: vs) ((f, d) :: ds)
theorem RpK.mono {κ : Type} {K : PySem.W.Frag} {H H' : Hp} (e : Ex H H') : ∀ {vs : List (κ × V)} {ds : List (κ × D)}, RpK K H vs ds → RpK K H' vs ds
  | _, _, .nil => .nil
  | _, _, .cons h t => .cons (h.mono e) (t.mono e)
def MR (K : PySem.W.Frag) (H : Hp) : MO → HO → Prop
  | .lst ds, .lst vs => RpA K H vs ds
  | .dT ks, .dT vs => RpK K H vs ks
  | .dK ks, .dK vs => RpK K H vs ks
  | .ins C gs, .ins C' _ fs => C' = He.ga K C ∧ RpF K H fs gs
  | .tab q, .tbl ps => TriplesOk ps.toList ∧ ∀ (pos : Pos) (cv : Value), codeAmong pos ps.toList = some cv → ∃ c, cv = .ref c ∧ H c = some (LamX.CodeO c q)
  | _, _ => False
theorem MR.mono {K : PySem.W.Frag} {H H' : Hp} (e : Ex H H') {m : MO} {o : HO} (h : MR K H m o) : MR K H' m o := by
  cases m <;> cases o <;> first | exact h.elim | exact True.intro | exact RpA.mono e h | exact RpK.mono e h | exact ⟨h.1, h.2.mono e⟩ | exact ⟨h.1, fun pos cv q => by
      obtain ⟨c, e1, e2⟩ := h.2 pos cv q
      exact ⟨c, e1, e _ _ e2⟩⟩

/-! ### a heap in three parts: what stays (Hc), what is told to change (Hm), what is out of sight (Hf) -/
def ov (H Hm : Hp) : Hp := fun a => match Hm a with | some o => some o | none => H a
theorem ov_some {H Hm : Hp} {a : Addr} {o : HO} (h : Hm a = some o) : ov H Hm a = some o := by unfold ov; rw [h]
theorem ov_none {H Hm : Hp} {a : Addr} (h : Hm a = none) : ov H Hm a = H a := by unfold ov; rw [h]
def Dj (H Hm : Hp) : Prop := ∀ a o, Hm a = some o → H a = none
structure Pt (H Hc Hm Hf : Hp) : Prop where
  eq : H = ov (ov Hc Hm) Hf
  cm : Dj Hc Hm
  cf : Dj Hc Hf
  mf : Dj Hm Hf
  nt : ∀ a vs, Hf a ≠ some (.tup vs)
theorem Dj.ex {H Hm : Hp} (h : Dj H Hm) : Ex H (ov H Hm) := fun a o e => by
  cases q : Hm a with
  | none => rw [ov_none q]; exact e
  | some u => rw [h a u q] at e; cases e
theorem Pt.exc {H Hc Hm Hf : Hp} (p : Pt H Hc Hm Hf) : Ex Hc H := fun a o e => by
  rw [p.eq]
  have h1 : ov Hc Hm a = some o := p.cm.ex a o e
  cases q : Hf a with
  | none => rw [ov_none q]; exact h1
  | some u => rw [p.cf a u q] at e; cases e
theorem Pt.exm {H Hc Hm Hf : Hp} (p : Pt H Hc Hm Hf) : Ex Hm H := fun a o e => by
  rw [p.eq]
  cases q : Hf a with
  | none => rw [ov_none q]; exact ov_some e
  | some u => rw [p.mf a u q] at e; cases e
theorem Pt.free {H Hc Hm Hf : Hp} (p : Pt H Hc Hm Hf) {a : Addr} (h : H a = none) : Hc a = none ∧ Hm a = none ∧ Hf a = none := by
  rw [p.eq] at h
  cases q : Hf a with
  | some u => rw [ov_some q] at h; cases h
  | none =>
    rw [ov_none q] at h
    cases q2 : Hm a with
    | some u => rw [ov_some q2] at h; cases h
    | none => rw [ov_none q2] at h; exact ⟨h, rfl, rfl⟩
theorem Pt.newc {H Hc Hm Hf : Hp} (p : Pt H Hc Hm Hf) {a : Addr} {o : HO} (h : H a = none) (hn : ∀ ps, o ≠ .tbl ps := by exact fun _ q => nomatch q) : Pt (upd H a o) (upd Hc a o) Hm Hf := by
  obtain ⟨h1, h2, h3⟩ := p.free h
  refine ⟨?_, fun b u e => ?_, fun b u e => ?_, p.mf, p.nt⟩
  · funext b
    by_cases c : b = a
    · subst c; rw [upd_same, ov_none h3, ov_none h2, upd_same]
    · rw [upd_ne c, p.eq]
      unfold ov
      cases Hf b <;> cases Hm b <;> simp [upd_ne c]
  · have c : b ≠ a := fun q => by rw [q, h2] at e; cases e
    rw [upd_ne c]; exact p.cm b u e
  · have c : b ≠ a := fun q => by rw [q, h3] at e; cases e
    rw [upd_ne c]; exact p.cf b u e
theorem Pt.setm {H Hc Hm Hf : Hp} (p : Pt H Hc Hm Hf) {a : Addr} {o : HO} (hc : Hc a = none) (hf : Hf a = none) : Pt (upd H a o) Hc (upd Hm a o) Hf := by
  refine ⟨?_, fun b u e => ?_, p.cf, fun b u e => ?_, p.nt⟩
  · funext b
    by_cases c : b = a
    · subst c; rw [upd_same, ov_none hf, ov_some upd_same]
    · rw [upd_ne c, p.eq]
      unfold ov
      cases Hf b <;> simp [upd_ne c]
  · by_cases c : b = a
    · subst c; exact hc
    · rw [upd_ne c] at e; exact p.cm b u e
  · have c : b ≠ a := fun q => by rw [q, hf] at e; cases e
    rw [upd_ne c]; exact p.mf b u e
theorem Pt.setf {H Hc Hm Hf : Hp} (p : Pt H Hc Hm Hf) {a : Addr} {o : HO} (hc : Hc a = none) (hm : Hm a = none) (hnt : ∀ vs, o ≠ .tup vs) (hnb : ∀ vs, o ≠ .tbl vs) : Pt (upd H a o) Hc Hm (upd Hf a o) := by
  refine ⟨?_, p.cm, fun b u e => ?_, fun b u e => ?_, fun b vs e => ?_⟩
  · funext b
    by_cases c : b = a
    · subst c; rw [upd_same, ov_some upd_same]
    · rw [upd_ne c, p.eq]
      unfold ov
      rw [upd_ne c]
  · by_cases c : b = a
    · subst c; exact hc
    · rw [upd_ne c] at e; exact p.cf b u e
  · by_cases c : b = a
    · subst c; exact hm
    · rw [upd_ne c] at e; exact p.mf b u e
  · by_cases c : b = a
    · subst c; rw [upd_same] at e; exact hnt vs (Option.some.inj e)
    · rw [upd_ne c] at e; exact p.nt b vs e
def delH (H : Hp) (a : Addr) : Hp := fun b => if b = a then none else H b
theorem delH_same {H : Hp} {a : Addr} : delH H a a = none := by unfold delH; rw [if_pos rfl]
theorem delH_ne {H : Hp} {a b : Addr} (h : b ≠ a) : delH H a b = H b := by unfold delH; rw [if_neg h]
/-- a changing object becomes one that stays -/
theorem Pt.commit {H Hc Hm Hf : Hp} (p : Pt H Hc Hm Hf) {a : Addr} {o : HO} (h : Hm a = some o) (hn : ∀ ps, o ≠ .tbl ps := by exact fun _ q => nomatch q) : Pt H (upd Hc a o) (delH Hm a) Hf ∧ Ex Hc (upd Hc a o) := by
  have hc := p.cm a o h
  have hf : Hf a = none := by
    cases q : Hf a with
    | none => rfl
    | some u => rw [p.mf a u q] at h; cases h
  refine ⟨⟨?_, fun b u e => ?_, fun b u e => ?_, fun b u e => ?_, p.nt⟩, Ex.new hc⟩
  · funext b
    rw [p.eq]
    unfold ov
    by_cases c : b = a
    · subst c; rw [hf, h, delH_same, upd_same]
    · rw [upd_ne c, delH_ne c]
  · by_cases c : b = a
    · subst c; rw [delH_same] at e; cases e
    · rw [delH_ne c] at e; rw [upd_ne c]; exact p.cm b u e
  · by_cases c : b = a
    · subst c; rw [hf] at e; cases e
    · rw [upd_ne c]; exact p.cf b u e
  · by_cases c : b = a
    · subst c; exact delH_same
    · rw [delH_ne c]; exact p.mf b u e

/-- a frame's values -/
def Sg (K : PySem.W.Frag) (H : Hp) (σ : L2.St) (Γ : List (Option D)) : Prop := σ.length = Γ.length ∧ ∀ (i : Nat) (d : D), Γ[i]? = some (some d) → ∃ v, σ[i]? = some (some v) ∧ Rp K H v d
theorem Sg.mono {K : PySem.W.Frag} {H H' : Hp} {σ : L2.St} {Γ : List (Option D)} (e : Ex H H') (h : Sg K H σ Γ) : Sg K H' σ Γ := ⟨h.1, fun i d q => by
  obtain ⟨v, h1, h2⟩ := h.2 i d q
  exact ⟨v, h1, h2.mono e⟩⟩
theorem Sg.set {K : PySem.W.Frag} {H : Hp} {σ : L2.St} {Γ : List (Option D)} {v : V} {d : D} (h : Sg K H σ Γ) (r : Rp K H v d) (i : Nat) : Sg K H (σ.set i (some v)) (Γ.set i (some d)) := by
  refine ⟨by rw [List.length_set, List.length_set]; exact h.1, fun j e q => ?_⟩
  rw [List.getElem?_set] at q ⊢
  by_cases c : i = j
  · subst c
    rw [if_pos rfl] at q ⊢
    rw [← h.1] at q
    split at q
    · rename_i hl
      cases q
      exact ⟨v, by rw [if_pos hl], r⟩
    · cases q
  · rw [if_neg c] at q ⊢
    exact h.2 j e q
theorem Sg.forget {K : PySem.W.Frag} {H : Hp} {σ : L2.St} {Γ : List (Option D)} (h : Sg K H σ Γ) (i : Nat) (o : Option V) : Sg K H (σ.set i o) (Γ.set i none) := by
  refine ⟨by rw [List.length_set, List.length_set]; exact h.1, fun j e q => ?_⟩
  rw [List.getElem?_set] at q ⊢
  by_cases c : i = j
  · subst c
    rw [if_pos rfl] at q
    split at q <;> cases q
  · rw [if_neg c] at q ⊢
    exact h.2 j e q
def MuOk (K : PySem.W.Frag) (Hc Hm : Hp) (μ : Mu) : Prop := ∀ a, (μ a = none ∧ Hm a = none) ∨ ∃ m o, μ a = some m ∧ Hm a = some o ∧ MR K Hc m o
theorem MuOk.mono {K : PySem.W.Frag} {Hc Hc' Hm : Hp} {μ : Mu} (e : Ex Hc Hc') (h : MuOk K Hc Hm μ) : MuOk K Hc' Hm μ := fun a => by
  rcases h a with q | ⟨m, o, h1, h2, h3⟩
  · exact .inl q
  · exact .inr ⟨m, o, h1, h2, h3.mono e⟩
theorem MuOk.get {K : PySem.W.Frag} {Hc Hm : Hp} {μ : Mu} (h : MuOk K Hc Hm μ) {a : Addr} {m : MO} (e : μ a = some m) : ∃ o, Hm a = some o ∧ MR K Hc m o := by
  rcases h a with ⟨q, _⟩ | ⟨m', o, h1, h2, h3⟩
  · rw [q] at e; cases e
  · rw [h1] at e; cases e; exact ⟨o, h2, h3⟩
theorem MuOk.none_ {K : PySem.W.Frag} {Hc Hm : Hp} {μ : Mu} (h : MuOk K Hc Hm μ) {a : Addr} (e : Hm a = none) : μ a = none := by
  rcases h a with ⟨q, _⟩ | ⟨m', o, h1, h2, h3⟩
  · exact q
  · rw [h2] at e; cases e
theorem MuOk.upd {K : PySem.W.Frag} {Hc Hm : Hp} {μ : Mu} (h : MuOk K Hc Hm μ) {a : Addr} {m : MO} {o : HO} (r : MR K Hc m o) : MuOk K Hc (L2.upd Hm a o) (updM μ a m) := fun b => by
  by_cases c : b = a
  · subst c; exact .inr ⟨m, o, updM_same, upd_same, r⟩
  · rw [updM_ne c, upd_ne c]; exact h b
theorem MuOk.del {K : PySem.W.Frag} {Hc Hm : Hp} {μ : Mu} (h : MuOk K Hc Hm μ) {a : Addr} : MuOk K Hc (delH Hm a) (delM μ a) := fun b => by
  by_cases c : b = a
  · subst c; exact .inl ⟨delM_same, delH_same⟩
  · rw [delM_ne c, delH_ne c]; exact h b

/-- the concrete frame and heap as data -/
structure Rel (K : PySem.W.Frag) (B Hf : Hp) (σ : L2.St) (H : Hp) (Γ : List (Option D)) (μ : Mu) (Hc Hm : Hp) : Prop where
  pt : Pt H Hc Hm Hf
  ex : Ex B Hc
  sg : Sg K Hc σ Γ
  mu : MuOk K Hc Hm μ
section
variable {K : PySem.W.Frag} {B Hf : Hp} {σ : L2.St} {H : Hp} {Γ : List (Option D)} {μ : Mu} {Hc Hm : Hp}
theorem Rel.newc (r : Rel K B Hf σ H Γ μ Hc Hm) {a : Addr} {o : HO} (h : H a = none) (hn' : ∀ ps, o ≠ .tbl ps := by exact fun _ q => nomatch q) : Rel K B Hf σ (upd H a o) Γ μ (upd Hc a o) Hm ∧ Ex Hc (upd Hc a o) := by
  have hn := (r.pt.free h).1
  have e : Ex Hc (upd Hc a o) := Ex.new hn
  exact ⟨⟨r.pt.newc h hn', r.ex.trans e, r.sg.mono e, r.mu.mono e⟩, e⟩
theorem Rel.newm (r : Rel K B Hf σ H Γ μ Hc Hm) {a : Addr} {o : HO} {m : MO} (h : H a = none) (q : MR K Hc m o) : Rel K B Hf σ (upd H a o) Γ (updM μ a m) Hc (upd Hm a o) ∧ μ a = none := by
  obtain ⟨h1, h2, h3⟩ := r.pt.free h
  exact ⟨⟨r.pt.setm h1 h3, r.ex, r.sg, r.mu.upd q⟩, r.mu.none_ h2⟩
theorem Rel.setm (r : Rel K B Hf σ H Γ μ Hc Hm) {a : Addr} {o : HO} {m m0 : MO} (h : μ a = some m0) (q : MR K Hc m o) : Rel K B Hf σ (upd H a o) Γ (updM μ a m) Hc (upd Hm a o) := by
  obtain ⟨o', h1, _⟩ := r.mu.get h
  have hc := r.pt.cm a o' h1
  have hf : Hf a = none := by
    cases q : Hf a with
    | none => rfl
    | some u => rw [r.pt.mf a u q] at h1; cases h1
  exact ⟨r.pt.setm hc hf, r.ex, r.sg, r.mu.upd q⟩
theorem Rel.get (r : Rel K B Hf σ H Γ μ Hc Hm) {a : Addr} {m : MO} (h : μ a = some m) : ∃ o, H a = some o ∧ MR K Hc m o := by
  obtain ⟨o, h1, h2⟩ := r.mu.get h
  exact ⟨o, r.pt.exm a o h1, h2⟩
theorem Rel.setv (r : Rel K B Hf σ H Γ μ Hc Hm) {v : V} {d : D} (q : Rp K Hc v d) (i : Nat) : Rel K B Hf (σ.set i (some v)) H (Γ.set i (some d)) μ Hc Hm := ⟨r.pt, r.ex, r.sg.set q i, r.mu⟩
theorem Rel.frame (r : Rel K B Hf σ H Γ μ Hc Hm) {σ' : L2.St} {Γ' : List (Option D)} (h : Sg K Hc σ' Γ') : Rel K B Hf σ' H Γ' μ Hc Hm := ⟨r.pt, r.ex, h, r.mu⟩
theorem Rel.base (r : Rel K B Hf σ H Γ μ Hc Hm) {B' : Hp} (h : Ex B' Hc) : Rel K B' Hf σ H Γ μ Hc Hm := ⟨r.pt, h, r.sg, r.mu⟩
end

/-- a tuple in the heap is one that stays -/
theorem Rel.tupc {K : PySem.W.Frag} {B Hf : Hp} {σ : L2.St} {H : Hp} {Γ : List (Option D)} {μ : Mu} {Hc Hm : Hp} (r : Rel K B Hf σ H Γ μ Hc Hm) {a : Addr} {vs : List V} (h : H a = some (.tup vs)) : Hc a = some (.tup vs) := by
  rw [r.pt.eq] at h
  cases q : Hf a with
  | some u => rw [ov_some q] at h; cases h; exact (r.pt.nt a vs q).elim
  | none =>
    rw [ov_none q] at h
    cases q2 : Hm a with
    | some u =>
      rw [ov_some q2] at h; cases h
      rcases r.mu a with ⟨_, q3⟩ | ⟨m, o, _, h2, h3⟩
      · rw [q2] at q3; cases q3
      · rw [q2] at h2; cases h2
        cases m <;> exact h3.elim
    | none => rw [ov_none q2] at h; exact h

/-! ### readings over data -/
abbrev DEn := List (Option D)
abbrev DK := D → Mu → Prop
abbrev DT := DEn → Mu → DK → Prop
abbrev DTT := DEn → Mu → (Bool → Mu → Prop) → Prop
abbrev DTA := DEn → Mu → (List D → Mu → Prop) → Prop
/-- what may be raised: the class's name, the fields, the frame, the objects -/
abbrev DW := Str → List (Str × D) → DEn → Mu → Prop
structure DEnds where
  nx : DEn → Mu → Prop
  rt : DK
  bk : DEn → Mu → Prop := fun _ _ => False
  ct : DEn → Mu → Prop := fun _ _ => False
abbrev DS := DEnds → DEn → Mu → Prop

/-- what is raised, as L2 says it -/
def lowW (K : PySem.W.Frag) (B : Hp) (Φ : Hp → Prop) (W : DW) : WX := fun cls dd σ H => ∃ (n : Str) (gs : List (Str × D)) (Γ : DEn) (μ : Mu) (Hc Hm Hf : Hp) (dx : Addr) (fs : List (Str × V)),
  cls = .ref (He.ga K n) ∧ dd = some dx ∧ Hc dx = some (.xd fs) ∧ RpF K Hc fs gs ∧ Φ Hf ∧ Rel K B Hf σ H Γ μ Hc Hm ∧ W n gs Γ μ
/-- where one stands: the base, the objects out of sight, what may be raised -/
structure Lc (X : Cx) where
  B : Hp
  Φ : Hp → Prop
  W : DW
  tk : Takes X (lowW X.K B Φ W)

def LfE (K : PySem.W.Frag) (B : Hp) (Φ : Hp → Prop) (t : TE) (d : DT) : Prop := ∀ (Hf : Hp) (σ : L2.St) (H : Hp) (Γ : DEn) (μ : Mu) (Hc Hm : Hp) (Q : VK) (R : DK), Φ Hf → Rel K B Hf σ H Γ μ Hc Hm → d Γ μ R →
  (∀ v H' x μ' Hc' Hm', R x μ' → Rel K B Hf σ H' Γ μ' Hc' Hm' → Rp K Hc' v x → Ex Hc Hc' → Q v H') → t σ H Q
def LfT (K : PySem.W.Frag) (B : Hp) (Φ : Hp → Prop) (t : TT) (d : DTT) : Prop := ∀ (Hf : Hp) (σ : L2.St) (H : Hp) (Γ : DEn) (μ : Mu) (Hc Hm : Hp) (Q : Bool → Hp → Prop) (R : Bool → Mu → Prop), Φ Hf → Rel K B Hf σ H Γ μ Hc Hm → d Γ μ R →
  (∀ b H' μ' Hc' Hm', R b μ' → Rel K B Hf σ H' Γ μ' Hc' Hm' → Ex Hc Hc' → Q b H') → t σ H Q
def LfA (K : PySem.W.Frag) (B : Hp) (Φ : Hp → Prop) (t : TA) (d : DTA) : Prop := ∀ (Hf : Hp) (σ : L2.St) (H : Hp) (Γ : DEn) (μ : Mu) (Hc Hm : Hp) (Q : List V → Hp → Prop) (R : List D → Mu → Prop), Φ Hf → Rel K B Hf σ H Γ μ Hc Hm → d Γ μ R →
  (∀ vs H' xs μ' Hc' Hm', R xs μ' → Rel K B Hf σ H' Γ μ' Hc' Hm' → RpA K Hc' vs xs → Ex Hc Hc' → Q vs H') → t σ H Q
structure LEnds (K : PySem.W.Frag) (B Hf Hc : Hp) (D : Ends) (De : DEnds) : Prop where
  nx : ∀ σ' H' Γ' μ' Hc' Hm', De.nx Γ' μ' → Rel K B Hf σ' H' Γ' μ' Hc' Hm' → Ex Hc Hc' → D.nx σ' H'
  rt : ∀ v σ' H' x Γ' μ' Hc' Hm', De.rt x μ' → Rel K B Hf σ' H' Γ' μ' Hc' Hm' → Rp K Hc' v x → Ex Hc Hc' → D.rt v H'
  bk : ∀ σ' H' Γ' μ' Hc' Hm', De.bk Γ' μ' → Rel K B Hf σ' H' Γ' μ' Hc' Hm' → Ex Hc Hc' → D.bk σ' H'
  ct : ∀ σ' H' Γ' μ' Hc' Hm', De.ct Γ' μ' → Rel K B Hf σ' H' Γ' μ' Hc' Hm' → Ex Hc Hc' → D.ct σ' H'
def LfS (K : PySem.W.Frag) (B : Hp) (Φ : Hp → Prop) (t : TS) (d : DS) : Prop := ∀ (Hf : Hp) (σ : L2.St) (H : Hp) (Γ : DEn) (μ : Mu) (Hc Hm : Hp) (D : Ends) (De : DEnds), Φ Hf → Rel K B Hf σ H Γ μ Hc Hm → d De Γ μ → LEnds K B Hf Hc D De → t D σ H

def DE (X : Cx) (L : Lc X) (e : Expr) (d : DT) : Prop := ∃ t, PE X e t ∧ LfE X.K L.B L.Φ t d
def DTs (X : Cx) (L : Lc X) (e : Expr) (d : DTT) : Prop := ∃ t, PT X e t ∧ LfT X.K L.B L.Φ t d
def DWs (X : Cx) (L : Lc X) (e : Expr) (d : DTT) : Prop := ∃ t, PW X e t ∧ LfT X.K L.B L.Φ t d
def DA (X : Cx) (L : Lc X) (es : List Expr) (d : DTA) : Prop := ∃ t, PA X es t ∧ LfA X.K L.B L.Φ t d
def DSt (X : Cx) (L : Lc X) (st : Stmt) (d : DS) : Prop := ∃ t, PS X st t ∧ LfS X.K L.B L.Φ t d
def DSs (X : Cx) (L : Lc X) (sts : List Stmt) (d : DS) : Prop := ∃ t, PSs X sts t ∧ LfS X.K L.B L.Φ t d
end Nod
set_option Elab.async false
set_option linter.all false
set_option maxRecDepth 100000
set_option maxHeartbeats 4000000
namespace Nod
open PySem PySem.Spec PyProof.Rows L2
open Evl (Ex)

/-! ### expressions -/
def dC (d : D) : DT := fun _ μ R => R d μ
def dVar (i : Nat) : DT := fun Γ μ R => ∃ d, Γ[i]? = some (some d) ∧ R d μ
/-- a two-place rule over data -/
abbrev Q2 := D → D → Mu → DK → Prop
abbrev Q1 := D → Mu → DK → Prop
abbrev QA := List D → Mu → DK → Prop
def dOp (r : Q2) (a b : DT) : DT := fun Γ μ R => a Γ μ fun x μ1 => b Γ μ1 fun y μ2 => r x y μ2 R
def dUn (r : Q1) (a : DT) : DT := fun Γ μ R => a Γ μ fun x μ1 => r x μ1 R
/-- what is handed on: a value and its data -/
def Kn (K : PySem.W.Frag) (B Hf : Hp) (σ : L2.St) (Γ : DEn) (Hc : Hp) (Q : VK) (R : DK) : Prop := ∀ v H' x μ' Hc' Hm', R x μ' → Rel K B Hf σ H' Γ μ' Hc' Hm' → Rp K Hc' v x → Ex Hc Hc' → Q v H'
def L2r (K : PySem.W.Frag) (r : V → V → Hp → VK → Prop) (q : Q2) : Prop := ∀ (B Hf : Hp) (σ : L2.St) (H : Hp) (Γ : DEn) (μ : Mu) (Hc Hm : Hp) (x y : V) (dx dy : D) (Q : VK) (R : DK),
  Rel K B Hf σ H Γ μ Hc Hm → Rp K Hc x dx → Rp K Hc y dy → q dx dy μ R → Kn K B Hf σ Γ Hc Q R → r x y H Q
def L1r (K : PySem.W.Frag) (r : V → Hp → VK → Prop) (q : Q1) : Prop := ∀ (B Hf : Hp) (σ : L2.St) (H : Hp) (Γ : DEn) (μ : Mu) (Hc Hm : Hp) (x : V) (dx : D) (Q : VK) (R : DK),
  Rel K B Hf σ H Γ μ Hc Hm → Rp K Hc x dx → q dx μ R → Kn K B Hf σ Γ Hc Q R → r x H Q
def LAr (K : PySem.W.Frag) (r : List V → Hp → VK → Prop) (q : QA) : Prop := ∀ (B Hf : Hp) (σ : L2.St) (H : Hp) (Γ : DEn) (μ : Mu) (Hc Hm : Hp) (xs : List V) (ds : List D) (Q : VK) (R : DK),
  Rel K B Hf σ H Γ μ Hc Hm → RpA K Hc xs ds → q ds μ R → Kn K B Hf σ Γ Hc Q R → r xs H Q
def DOp (X : Cx) (f : Value → Value → Sem Value) (q : Q2) : Prop := ∃ r, OpR X f r ∧ L2r X.K r q
def DUn (X : Cx) (f : Value → Sem Value) (q : Q1) : Prop := ∃ r, UnR X f r ∧ L1r X.K r q
def DIx (X : Cx) (q : Q2) : Prop := ∃ r, IxR X r ∧ L2r X.K r q
def DCl (X : Cx) (f : Value) (q : QA) : Prop := ∃ r, CallR X f r ∧ LAr X.K r q
theorem Kn.id {K : PySem.W.Frag} {B Hf : Hp} {σ : L2.St} {Γ : DEn} {Hc : Hp} {Q : VK} {R : DK} (k : Kn K B Hf σ Γ Hc Q R) {v : V} {H : Hp} {x : D} {μ : Mu} {Hm : Hp} (h : R x μ) (r : Rel K B Hf σ H Γ μ Hc Hm) (p : Rp K Hc v x) : Q v H :=
  k v H x μ Hc Hm h r p (Ex.refl _)
theorem Kn.to {K : PySem.W.Frag} {B Hf : Hp} {σ : L2.St} {Γ : DEn} {Hc Hc1 : Hp} {Q : VK} {R : DK} (k : Kn K B Hf σ Γ Hc Q R) (e : Ex Hc Hc1) : Kn K B Hf σ Γ Hc1 Q R := fun v H' x μ' Hc' Hm' h r p e' => k v H' x μ' Hc' Hm' h r p (e.trans e')

section
variable {X : Cx} {L : Lc X} {a b c e : Expr} {es : List Expr} {da db dc : DT} {pos : Pos}
theorem de_var {i : Nat} {x : Str} (hN : X.N[i]? = some x := by rfl) (hv : Vis X.env.scope x := by first | exact Or.inl rfl | exact Or.inr (Or.inl rfl) | exact Or.inr (Or.inr rfl)) (hd : (x == ("__debug__" : Str)) = false := by decide)
    (hcd : (x == ("__classdict__" : Str)) = false := by decide) : DE X L (.Name x pos) (dVar i) :=
  ⟨tVar i, pe_var hN hv hd hcd, fun Hf σ H Γ μ Hc Hm Q R _ rel h k => by
    obtain ⟨d, h1, h2⟩ := h
    obtain ⟨v, h3, h4⟩ := rel.sg.2 i d h1
    exact ⟨v, h3, k v H d μ Hc Hm h2 rel h4 (Ex.refl _)⟩⟩
theorem dv (i : Nat) {x : Str} (hN : X.N[i]? = some x := by rfl) (hv : Vis X.env.scope x := by first | exact Or.inl rfl | exact Or.inr (Or.inl rfl) | exact Or.inr (Or.inr rfl)) (hd : (x == ("__debug__" : Str)) = false := by decide)
    (hcd : (x == ("__classdict__" : Str)) = false := by decide) : DE X L (.Name x pos) (dVar i) := de_var hN hv hd hcd
theorem de_const {v : V} {d : D} (h : PE X e (tC v)) (r : ∀ K H, Rp K H v d) : DE X L e (dC d) :=
  ⟨tC v, h, fun Hf σ H Γ μ Hc Hm Q R _ rel h k => k v H d μ Hc Hm h rel (r _ _) (Ex.refl _)⟩
theorem de_int {i : Int} {j : Nat} : DE X L (.Constant (.int i) j pos) (dC (.int i)) := de_const pe_int fun _ _ => .int i
theorem de_bl {i : Bool} {j : Nat} : DE X L (.Constant (.bool i) j pos) (dC (.bl i)) := de_const pe_bl fun _ _ => .bl i
theorem de_non {j : Nat} : DE X L (.Constant .none j pos) (dC .non) := de_const pe_non fun _ _ => .non
theorem de_str {x : Str} {j : Nat} : DE X L (.Constant (.str x) j pos) (dC (.str x)) := de_const pe_str fun _ _ => .str x
theorem de_gint {x : Str} {i : Int} (hg : Gl X x) (hm : ∃ t, X.mg x = some (.int i t)) (hd : (x == ("__debug__" : Str)) = false := by decide) : DE X L (.Name x pos) (dC (.int i)) := by
  obtain ⟨t, hm⟩ := hm
  exact de_const (pe_glob (v := .int i) hg hm ⟨t, rfl⟩ hd) fun _ _ => .int i
theorem de_gstr {x : Str} {i : Str} (hg : Gl X x) (hm : ∃ t, X.mg x = some (.str i t)) (hd : (x == ("__debug__" : Str)) = false := by decide) : DE X L (.Name x pos) (dC (.str i)) := by
  obtain ⟨t, hm⟩ := hm
  exact de_const (pe_glob (v := .str i) hg hm ⟨t, rfl⟩ hd) fun _ _ => .str i
theorem lfOp {K : PySem.W.Frag} {B : Hp} {Φ : Hp → Prop} {ta tb : TE} {r : V → V → Hp → VK → Prop} {q : Q2} (hr : L2r K r q) (la : LfE K B Φ ta da) (lb : LfE K B Φ tb db) : LfE K B Φ (tOp r ta tb) (dOp q da db) := fun Hf σ H Γ μ Hc Hm Q R hΦ rel h k =>
  la Hf σ H Γ μ Hc Hm _ _ hΦ rel h fun x H1 dx μ1 Hc1 Hm1 h1 rel1 rp1 ex1 => lb Hf σ H1 Γ μ1 Hc1 Hm1 _ _ hΦ rel1 h1 fun y H2 dy μ2 Hc2 Hm2 h2 rel2 rp2 ex2 =>
    hr B Hf σ H2 Γ μ2 Hc2 Hm2 x y dx dy Q R rel2 (rp1.mono ex2) rp2 h2 fun v H3 z μ3 Hc3 Hm3 h3 rel3 rp3 ex3 => k v H3 z μ3 Hc3 Hm3 h3 rel3 rp3 (ex1.trans (ex2.trans ex3))
theorem lfUn {K : PySem.W.Frag} {B : Hp} {Φ : Hp → Prop} {ta : TE} {r : V → Hp → VK → Prop} {q : Q1} (hr : L1r K r q) (la : LfE K B Φ ta da) : LfE K B Φ (tUn r ta) (dUn q da) := fun Hf σ H Γ μ Hc Hm Q R hΦ rel h k =>
  la Hf σ H Γ μ Hc Hm _ _ hΦ rel h fun x H1 dx μ1 Hc1 Hm1 h1 rel1 rp1 ex1 =>
    hr B Hf σ H1 Γ μ1 Hc1 Hm1 x dx Q R rel1 rp1 h1 fun v H3 z μ3 Hc3 Hm3 h3 rel3 rp3 ex3 => k v H3 z μ3 Hc3 Hm3 h3 rel3 rp3 (ex1.trans ex3)
theorem de_op {op : Operator} {q : Q2} (ho : DOp X (binaryOp op) q) (ha : DE X L a da) (hb : DE X L b db) : DE X L (.BinOp a op b pos) (dOp q da db) := by
  obtain ⟨r, hr, lr⟩ := ho
  obtain ⟨ta, pa, la⟩ := ha
  obtain ⟨tb, pb, lb⟩ := hb
  exact ⟨_, pe_op hr pa pb, lfOp lr la lb⟩
theorem de_un {op : UnaryOp} {q : Q1} (ho : DUn X (unaryOp op) q) (ha : DE X L a da) : DE X L (.UnaryOp op a pos) (dUn q da) := by
  obtain ⟨r, hr, lr⟩ := ho
  obtain ⟨ta, pa, la⟩ := ha
  exact ⟨_, pe_un hr pa, lfUn lr la⟩
theorem de_cmp {op : CmpOp} {q : Q2} (ho : DOp X (compareOp op) q) (ha : DE X L a da) (hb : DE X L b db) (hm : behindInMarks op b = false := by first | exact nomark _ | rfl) : DE X L (.Compare a [op] [b] pos) (dOp q da db) := by
  obtain ⟨r, hr, lr⟩ := ho
  obtain ⟨ta, pa, la⟩ := ha
  obtain ⟨tb, pb, lb⟩ := hb
  exact ⟨_, pe_cmpR hr pa pb hm, lfOp lr la lb⟩
theorem de_ix {q : Q2} (ho : DIx X q) (ha : DE X L a da) (hb : DE X L b db) (hs : PlainIx b := by exact fun _ _ => rfl) : DE X L (.Subscript a b pos) (dOp q da db) := by
  obtain ⟨r, hr, lr⟩ := ho
  obtain ⟨ta, pa, la⟩ := ha
  obtain ⟨tb, pb, lb⟩ := hb
  exact ⟨_, pe_ix hr pa pb hs, lfOp lr la lb⟩

/-! ### tests -/
def dTest (d : DT) : DTT := fun Γ μ R => d Γ μ fun x μ1 => ∃ k, x = .bl k ∧ R k μ1
theorem Rp.bl_inv {K : PySem.W.Frag} {H : Hp} {v : V} {k : Bool} (h : Rp K H v (.bl k)) : v = .bl k := by cases h; rfl
theorem Rp.int_inv {K : PySem.W.Frag} {H : Hp} {v : V} {k : Int} (h : Rp K H v (.int k)) : v = .int k := by cases h; rfl
theorem Rp.str_inv {K : PySem.W.Frag} {H : Hp} {v : V} {k : Str} (h : Rp K H v (.str k)) : v = .str k := by cases h; rfl
theorem Rp.non_inv {K : PySem.W.Frag} {H : Hp} {v : V} (h : Rp K H v .non) : v = .non := by cases h; rfl
theorem Rp.adr_inv {K : PySem.W.Frag} {H : Hp} {v : V} {a : Addr} (h : Rp K H v (.adr a)) : v = .ref a := by cases h; rfl
theorem lfTest {K : PySem.W.Frag} {B : Hp} {Φ : Hp → Prop} {ta : TE} (la : LfE K B Φ ta da) : LfT K B Φ (tTest ta) (dTest da) := fun Hf σ H Γ μ Hc Hm Q R hΦ rel h k =>
  la Hf σ H Γ μ Hc Hm _ _ hΦ rel h fun x H1 dx μ1 Hc1 Hm1 h1 rel1 rp1 ex1 => by
    obtain ⟨c, rfl, q⟩ := h1
    exact ⟨c, rp1.bl_inv, k c H1 μ1 Hc1 Hm1 q rel1 ex1⟩
theorem lfB {K : PySem.W.Frag} {B : Hp} {Φ : Hp → Prop} {ta : TE} (la : LfE K B Φ ta da) : LfT K B Φ (tB ta) (dTest da) := fun Hf σ H Γ μ Hc Hm Q R hΦ rel h k =>
  la Hf σ H Γ μ Hc Hm _ _ hΦ rel h fun x H1 dx μ1 Hc1 Hm1 h1 rel1 rp1 ex1 => by
    obtain ⟨c, rfl, q⟩ := h1
    exact ⟨c, rp1.bl_inv, k c H1 μ1 Hc1 Hm1 q rel1 ex1⟩
theorem dt_cmp {op : CmpOp} {q : Q2} (ho : DOp X (compareOp op) q) (ha : DE X L a da) (hb : DE X L b db) (hm : behindInMarks op b = false := by first | exact nomark _ | rfl) : DTs X L (.Compare a [op] [b] pos) (dTest (dOp q da db)) := by
  obtain ⟨r, hr, lr⟩ := ho
  obtain ⟨ta, pa, la⟩ := ha
  obtain ⟨tb, pb, lb⟩ := hb
  exact ⟨_, pt_cmpR hr pa pb hm, lfTest (lfOp lr la lb)⟩
theorem dt_val (h : DE X L e da) (he : ∀ whole, isTrue e X.env whole = (do let v ← whole; standAt e.pos; holding [v] (truthy v)) := by intro _; rfl) : DTs X L e (dTest da) := by
  obtain ⟨ta, pa, la⟩ := h
  exact ⟨_, pt_val pa he, lfB la⟩
def dAnd (t u : DTT) : DTT := fun Γ μ R => t Γ μ fun c μ1 => if c = true then u Γ μ1 R else R false μ1
def dOr (t u : DTT) : DTT := fun Γ μ R => t Γ μ fun c μ1 => if c = true then R true μ1 else u Γ μ1 R
def dNot (t : DTT) : DTT := fun Γ μ R => t Γ μ fun c μ1 => R (!c) μ1
variable {ta' tb' : DTT} {rest : List Expr}
theorem lfAnd {K : PySem.W.Frag} {B : Hp} {Φ : Hp → Prop} {t u : TT} (la : LfT K B Φ t ta') (lb : LfT K B Φ u tb') : LfT K B Φ (tAnd t u) (dAnd ta' tb') := fun Hf σ H Γ μ Hc Hm Q R hΦ rel h k =>
  la Hf σ H Γ μ Hc Hm _ _ hΦ rel h fun c H1 μ1 Hc1 Hm1 h1 rel1 ex1 => by
    cases c with
    | true => exact iteT (lb Hf σ H1 Γ μ1 Hc1 Hm1 _ _ hΦ rel1 (by simpa using h1) fun c' H2 μ2 Hc2 Hm2 h2 rel2 ex2 => k c' H2 μ2 Hc2 Hm2 h2 rel2 (ex1.trans ex2))
    | false => exact iteF (k false H1 μ1 Hc1 Hm1 (by simpa using h1) rel1 ex1)
theorem lfOr {K : PySem.W.Frag} {B : Hp} {Φ : Hp → Prop} {t u : TT} (la : LfT K B Φ t ta') (lb : LfT K B Φ u tb') : LfT K B Φ (tOr t u) (dOr ta' tb') := fun Hf σ H Γ μ Hc Hm Q R hΦ rel h k =>
  la Hf σ H Γ μ Hc Hm _ _ hΦ rel h fun c H1 μ1 Hc1 Hm1 h1 rel1 ex1 => by
    cases c with
    | false => exact iteF (lb Hf σ H1 Γ μ1 Hc1 Hm1 _ _ hΦ rel1 (by simpa using h1) fun c' H2 μ2 Hc2 Hm2 h2 rel2 ex2 => k c' H2 μ2 Hc2 Hm2 h2 rel2 (ex1.trans ex2))
    | true => exact iteT (k true H1 μ1 Hc1 Hm1 (by simpa using h1) rel1 ex1)
theorem dt_w (h : DWs X L e ta') : DTs X L e ta' := by
  obtain ⟨t, p, l⟩ := h
  exact ⟨t, p.pt, l⟩
theorem dw_and1 (ha : DTs X L a ta') : DWs X L (.BoolOp .And [a] pos) ta' := by
  obtain ⟨t, p, l⟩ := ha
  exact ⟨t, pw_and1 p, l⟩
theorem dw_or1 (ha : DTs X L a ta') : DWs X L (.BoolOp .Or [a] pos) ta' := by
  obtain ⟨t, p, l⟩ := ha
  exact ⟨t, pw_or1 p, l⟩
theorem dw_and (ha : DTs X L a ta') (hb : DWs X L (.BoolOp .And (b :: rest) pos) tb') : DWs X L (.BoolOp .And (a :: b :: rest) pos) (dAnd ta' tb') := by
  obtain ⟨t, p, l⟩ := ha
  obtain ⟨u, p2, l2⟩ := hb
  exact ⟨_, pw_and p p2, lfAnd l l2⟩
theorem dw_or (ha : DTs X L a ta') (hb : DWs X L (.BoolOp .Or (b :: rest) pos) tb') : DWs X L (.BoolOp .Or (a :: b :: rest) pos) (dOr ta' tb') := by
  obtain ⟨t, p, l⟩ := ha
  obtain ⟨u, p2, l2⟩ := hb
  exact ⟨_, pw_or p p2, lfOr l l2⟩
theorem dt_not (ha : DTs X L a ta') : DTs X L (.UnaryOp .Not a pos) (dNot ta') := by
  obtain ⟨t, p, l⟩ := ha
  exact ⟨_, pt_not p, fun Hf σ H Γ μ Hc Hm Q R hΦ rel h k => l Hf σ H Γ μ Hc Hm _ _ hΦ rel h fun c H1 μ1 Hc1 Hm1 h1 rel1 ex1 => k _ H1 μ1 Hc1 Hm1 h1 rel1 ex1⟩
/-! and, or, not as values (all but the last a bool) -/
def dAndV (da db : DT) : DT := fun Γ μ R => da Γ μ fun x μ1 => ∃ c, x = .bl c ∧ if c = true then db Γ μ1 R else R (.bl false) μ1
def dOrV (da db : DT) : DT := fun Γ μ R => da Γ μ fun x μ1 => ∃ c, x = .bl c ∧ if c = true then R (.bl true) μ1 else db Γ μ1 R
def dNotV (da : DT) : DT := fun Γ μ R => da Γ μ fun x μ1 => ∃ c, x = .bl c ∧ R (.bl (!c)) μ1
theorem de_one {op : BoolOp} (h : DE X L a da) : DE X L (.BoolOp op [a] pos) da := by
  obtain ⟨t, p, l⟩ := h
  exact ⟨t, pe_one p, l⟩
theorem de_and (ha : DE X L a da) (hb : DE X L (.BoolOp .And (b :: rest) pos) db) : DE X L (.BoolOp .And (a :: b :: rest) pos) (dAndV da db) := by
  obtain ⟨t, p, la⟩ := ha
  obtain ⟨u, p2, lb⟩ := hb
  refine ⟨_, pe_and p p2, fun Hf σ H Γ μ Hc Hm Q R hΦ rel h k => la Hf σ H Γ μ Hc Hm _ _ hΦ rel h fun x H1 dx μ1 Hc1 Hm1 h1 rel1 rp1 ex1 => ?_⟩
  obtain ⟨c, rfl, q⟩ := h1
  refine ⟨c, rp1.bl_inv, ?_⟩
  cases c with
  | true => exact iteT (lb Hf σ H1 Γ μ1 Hc1 Hm1 _ _ hΦ rel1 (by simpa using q) fun v H2 y μ2 Hc2 Hm2 h2 rel2 rp2 ex2 => k v H2 y μ2 Hc2 Hm2 h2 rel2 rp2 (ex1.trans ex2))
  | false => exact iteF (k _ H1 _ μ1 Hc1 Hm1 (by simpa using q) rel1 (.bl false) ex1)
theorem de_or (ha : DE X L a da) (hb : DE X L (.BoolOp .Or (b :: rest) pos) db) : DE X L (.BoolOp .Or (a :: b :: rest) pos) (dOrV da db) := by
  obtain ⟨t, p, la⟩ := ha
  obtain ⟨u, p2, lb⟩ := hb
  refine ⟨_, pe_or p p2, fun Hf σ H Γ μ Hc Hm Q R hΦ rel h k => la Hf σ H Γ μ Hc Hm _ _ hΦ rel h fun x H1 dx μ1 Hc1 Hm1 h1 rel1 rp1 ex1 => ?_⟩
  obtain ⟨c, rfl, q⟩ := h1
  refine ⟨c, rp1.bl_inv, ?_⟩
  cases c with
  | false => exact iteF (lb Hf σ H1 Γ μ1 Hc1 Hm1 _ _ hΦ rel1 (by simpa using q) fun v H2 y μ2 Hc2 Hm2 h2 rel2 rp2 ex2 => k v H2 y μ2 Hc2 Hm2 h2 rel2 rp2 (ex1.trans ex2))
  | true => exact iteT (k _ H1 _ μ1 Hc1 Hm1 (by simpa using q) rel1 (.bl true) ex1)
theorem de_not (ha : DE X L a da) : DE X L (.UnaryOp .Not a pos) (dNotV da) := by
  obtain ⟨t, p, la⟩ := ha
  refine ⟨_, pe_not p, fun Hf σ H Γ μ Hc Hm Q R hΦ rel h k => la Hf σ H Γ μ Hc Hm _ _ hΦ rel h fun x H1 dx μ1 Hc1 Hm1 h1 rel1 rp1 ex1 => ?_⟩
  obtain ⟨c, rfl, q⟩ := h1
  exact ⟨c, rp1.bl_inv, k _ H1 _ μ1 Hc1 Hm1 q rel1 (.bl _) ex1⟩
def dIf (t : DTT) (da db : DT) : DT := fun Γ μ R => t Γ μ fun c μ1 => if c = true then da Γ μ1 R else db Γ μ1 R
theorem de_ifExp (hc : DTs X L c ta') (ha : DE X L a da) (hb : DE X L b db) : DE X L (.IfExp c a b pos) (dIf ta' da db) := by
  obtain ⟨t, p, lt⟩ := hc
  obtain ⟨u, p1, la⟩ := ha
  obtain ⟨v, p2, lb⟩ := hb
  refine ⟨_, pe_ifExp p p1 p2, fun Hf σ H Γ μ Hc Hm Q R hΦ rel h k => lt Hf σ H Γ μ Hc Hm _ _ hΦ rel h fun c H1 μ1 Hc1 Hm1 h1 rel1 ex1 => ?_⟩
  cases c with
  | true => exact iteT (la Hf σ H1 Γ μ1 Hc1 Hm1 _ _ hΦ rel1 (by simpa using h1) fun v H2 y μ2 Hc2 Hm2 h2 rel2 rp2 ex2 => k v H2 y μ2 Hc2 Hm2 h2 rel2 rp2 (ex1.trans ex2))
  | false => exact iteF (lb Hf σ H1 Γ μ1 Hc1 Hm1 _ _ hΦ rel1 (by simpa using h1) fun v H2 y μ2 Hc2 Hm2 h2 rel2 rp2 ex2 => k v H2 y μ2 Hc2 Hm2 h2 rel2 rp2 (ex1.trans ex2))

/-! ### arguments, tuples, lists -/
def dNil : DTA := fun _ μ R => R [] μ
def dCons (d : DT) (r : DTA) : DTA := fun Γ μ R => d Γ μ fun x μ1 => r Γ μ1 fun xs μ2 => R (x :: xs) μ2
theorem da_nil : DA X L [] dNil := ⟨tNil, pa_nil, fun Hf σ H Γ μ Hc Hm Q R _ rel h k => k [] H [] μ Hc Hm h rel .nil (Ex.refl _)⟩
variable {dr : DTA}
theorem da_cons (ha : DE X L e da) (hr : DA X L es dr) (hs : starEach (e :: es) X.env = (false, eval e X.env) :: starEach es X.env := by rfl) : DA X L (e :: es) (dCons da dr) := by
  obtain ⟨t, p, la⟩ := ha
  obtain ⟨u, p1, lr⟩ := hr
  exact ⟨_, pa_cons p p1 hs, fun Hf σ H Γ μ Hc Hm Q R hΦ rel h k => la Hf σ H Γ μ Hc Hm _ _ hΦ rel h fun x H1 dx μ1 Hc1 Hm1 h1 rel1 rp1 ex1 =>
    lr Hf σ H1 Γ μ1 Hc1 Hm1 _ _ hΦ rel1 h1 fun xs H2 ds μ2 Hc2 Hm2 h2 rel2 rp2 ex2 => k _ H2 _ μ2 Hc2 Hm2 h2 rel2 (.cons (rp1.mono ex2) rp2) (ex1.trans ex2)⟩
def dTup (d : DTA) : DT := fun Γ μ R => d Γ μ fun xs μ1 => xs.length ≤ sizeLine ∧ R (.tup xs) μ1
/-- a list that stays | a list that will change -/
def dLst (d : DTA) : DT := fun Γ μ R => d Γ μ fun xs μ1 => xs.length ≤ sizeLine ∧ R (.lst xs) μ1
def dLstM (d : DTA) : DT := fun Γ μ R => d Γ μ fun xs μ1 => xs.length ≤ sizeLine ∧ ∀ p, μ1 p = none → R (.adr p) (updM μ1 p (.lst xs))
theorem de_tup {x1 : Nat} (h : DA X L es dr) : DE X L (.Tuple es x1 pos) (dTup dr) := by
  obtain ⟨t, p, l⟩ := h
  refine ⟨_, pe_tup p, fun Hf σ H Γ μ Hc Hm Q R hΦ rel h k => l Hf σ H Γ μ Hc Hm _ _ hΦ rel h fun xs H1 ds μ1 Hc1 Hm1 h1 rel1 rp1 ex1 => ?_⟩
  refine ⟨by rw [rp1.length]; exact h1.1, fun p hp => ?_⟩
  obtain ⟨rel2, ex2⟩ := rel1.newc (o := .tup xs) hp
  exact k _ _ _ μ1 _ _ h1.2 rel2 (.tup upd_same (rp1.mono ex2)) (ex1.trans ex2)
theorem de_lst (h : DA X L es dr) : DE X L (.List es pos) (dLst dr) := by
  obtain ⟨t, p, l⟩ := h
  refine ⟨_, pe_lst p, fun Hf σ H Γ μ Hc Hm Q R hΦ rel h k => l Hf σ H Γ μ Hc Hm _ _ hΦ rel h fun xs H1 ds μ1 Hc1 Hm1 h1 rel1 rp1 ex1 => ?_⟩
  refine ⟨by rw [rp1.length]; exact h1.1, fun p hp => ?_⟩
  obtain ⟨rel2, ex2⟩ := rel1.newc (o := .lst xs) hp
  exact k _ _ _ μ1 _ _ h1.2 rel2 (.lst upd_same (rp1.mono ex2)) (ex1.trans ex2)
theorem de_lstM (h : DA X L es dr) : DE X L (.List es pos) (dLstM dr) := by
  obtain ⟨t, p, l⟩ := h
  refine ⟨_, pe_lst p, fun Hf σ H Γ μ Hc Hm Q R hΦ rel h k => l Hf σ H Γ μ Hc Hm _ _ hΦ rel h fun xs H1 ds μ1 Hc1 Hm1 h1 rel1 rp1 ex1 => ?_⟩
  refine ⟨by rw [rp1.length]; exact h1.1, fun p hp => ?_⟩
  obtain ⟨rel2, hn⟩ := rel1.newm (o := .lst xs) (m := .lst ds) hp rp1
  exact k _ _ _ _ _ _ (h1.2 p hn) rel2 (.adr p) ex1
end

/-! ### fields -/
def fldK (C f : Str) (x : D) (μ : Mu) (R : DK) : Prop := ∃ y, R y μ ∧ ((∃ gs, x = .obj C gs ∧ gs.lookup f = some y) ∨ ∃ a gs, x = .adr a ∧ μ a = some (.ins C gs) ∧ gs.lookup f = some y)
def dFldC (C f : Str) (d : DT) : DT := fun Γ μ R => d Γ μ fun x μ1 => fldK C f x μ1 R
theorem fldK_obj {C f : Str} {gs : List (Str × D)} {y : D} {μ : Mu} {R : DK} (h : gs.lookup f = some y) : fldK C f (.obj C gs) μ R ↔ R y μ := by
  refine ⟨fun q => ?_, fun q => ⟨y, q, .inl ⟨gs, rfl, h⟩⟩⟩
  obtain ⟨z, hz, ⟨gs', e, hl⟩ | ⟨a, gs', e, _⟩⟩ := q
  · cases e
    rw [h] at hl
    cases hl
    exact hz
  · cases e
theorem fldK_adr {C f : Str} {a : Addr} {gs : List (Str × D)} {y : D} {μ : Mu} {R : DK} (h0 : μ a = some (.ins C gs)) (h : gs.lookup f = some y) : fldK C f (.adr a) μ R ↔ R y μ := by
  refine ⟨fun q => ?_, fun q => ⟨y, q, .inr ⟨a, gs, rfl, h0, h⟩⟩⟩
  obtain ⟨z, hz, ⟨gs', e, hl⟩ | ⟨a', gs', e, h1, hl⟩⟩ := q
  · cases e
  · cases e
    rw [h0] at h1
    cases h1
    rw [h] at hl
    cases hl
    exact hz
theorem de_fld {X : Cx} {L : Lc X} {e : Expr} {da : DT} {pos : Pos} {f : Str} (C : Str) (h : DE X L e da) (hc : Cls X.K (He.ga X.K C)) (hn : NoAttr X.K (He.ga X.K C) f) (hb : attributeBase e f X.env (eval e X.env) = eval e X.env := by rfl) :
    DE X L (.Attribute e f pos) (dFldC C f da) := by
  obtain ⟨t, p, l⟩ := h
  refine ⟨_, pe_fld p hb, fun Hf σ H Γ μ Hc Hm Q R hΦ rel h k => l Hf σ H Γ μ Hc Hm _ _ hΦ rel h fun x H1 dx μ1 Hc1 Hm1 h1 rel1 rp1 ex1 => ?_⟩
  obtain ⟨y, hy, ⟨gs, rfl, hl⟩ | ⟨a, gs, rfl, hm, hl⟩⟩ := h1
  · cases rp1 with
    | obj ho rf =>
      obtain ⟨v, hv, rv⟩ := (rf.look f).1 y hl
      exact ⟨_, _, _, _, v, rfl, rel1.pt.exc _ _ ho, hc, hn, hv, k v H1 y μ1 Hc1 Hm1 hy rel1 rv ex1⟩
  · have e := rp1.adr_inv
    subst e
    obtain ⟨o, ho, q⟩ := rel1.get hm
    cases o with
    | ins C' dx fs =>
      obtain ⟨rfl, rf⟩ := q
      obtain ⟨v, hv, rv⟩ := (rf.look f).1 y hl
      exact ⟨_, _, _, _, v, rfl, ho, hc, hn, hv, k v H1 y μ1 Hc1 Hm1 hy rel1 rv ex1⟩
    | _ => exact q.elim

/-! ### statements -/
def dNext : DS := fun De Γ μ => De.nx Γ μ
def dSeq (t u : DS) : DS := fun De Γ μ => t { De with nx := u De } Γ μ
def dBrk : DS := fun De Γ μ => De.bk Γ μ
def dCnt : DS := fun De Γ μ => De.ct Γ μ
def dDrop (d : DT) : DS := fun De Γ μ => d Γ μ fun _ μ1 => De.nx Γ μ1
def dRet (d : DT) : DS := fun De Γ μ => d Γ μ De.rt
def dRetN : DS := fun De _ μ => De.rt .non μ
def dIfS (c : DTT) (t u : DS) : DS := fun De Γ μ => c Γ μ fun b μ1 => if b = true then t De Γ μ1 else u De Γ μ1
def dNever : DS := fun _ _ _ => False
theorem LEnds.ex {K : PySem.W.Frag} {B Hf Hc Hc1 : Hp} {D : Ends} {De : DEnds} (l : LEnds K B Hf Hc D De) (e : Ex Hc Hc1) : LEnds K B Hf Hc1 D De :=
  ⟨fun σ' H' Γ' μ' Hc' Hm' a b c => l.nx σ' H' Γ' μ' Hc' Hm' a b (e.trans c), fun v σ' H' x Γ' μ' Hc' Hm' a b c d => l.rt v σ' H' x Γ' μ' Hc' Hm' a b c (e.trans d),
    fun σ' H' Γ' μ' Hc' Hm' a b c => l.bk σ' H' Γ' μ' Hc' Hm' a b (e.trans c), fun σ' H' Γ' μ' Hc' Hm' a b c => l.ct σ' H' Γ' μ' Hc' Hm' a b (e.trans c)⟩
section
variable {X : Cx} {L : Lc X} {st : Stmt} {sts : List Stmt} {e : Expr} {d1 d2 : DS} {de : DT} {pos : Pos}
theorem dss_nil : DSs X L [] dNext := ⟨_, pss_nil, fun Hf σ H Γ μ Hc Hm D De _ rel h l => l.nx _ _ _ _ _ _ h rel (Ex.refl _)⟩
theorem lfSeq {K : PySem.W.Frag} {B : Hp} {Φ : Hp → Prop} {t u : TS} (l1 : LfS K B Φ t d1) (l2 : LfS K B Φ u d2) : LfS K B Φ (tSeq t u) (dSeq d1 d2) := fun Hf σ H Γ μ Hc Hm D De hΦ rel h l =>
  l1 Hf σ H Γ μ Hc Hm { D with nx := u D } { De with nx := d2 De } hΦ rel h ⟨fun σ' H' Γ' μ' Hc' Hm' a b c => l2 Hf σ' H' Γ' μ' Hc' Hm' D De hΦ b a (l.ex c), l.rt, l.bk, l.ct⟩
theorem dss_cons (h1 : DSt X L st d1) (h2 : DSs X L sts d2) : DSs X L (st :: sts) (dSeq d1 d2) := by
  obtain ⟨t, p, l⟩ := h1
  obtain ⟨u, p2, l2⟩ := h2
  exact ⟨_, pss_cons p p2, lfSeq l l2⟩
theorem dss_one (h1 : DSt X L st d1) : DSs X L [st] d1 := by
  obtain ⟨t, p, l⟩ := h1
  exact ⟨_, pss_one p, l⟩
theorem dss_never : DSs X L sts dNever := ⟨_, pss_never, fun Hf σ H Γ μ Hc Hm D De _ rel h l => h.elim⟩
theorem dst_never : DSt X L st dNever := ⟨_, ps_never, fun Hf σ H Γ μ Hc Hm D De _ rel h l => h.elim⟩
theorem dst_pass : DSt X L (.Pass pos) dNext := ⟨_, ps_pass, fun Hf σ H Γ μ Hc Hm D De _ rel h l => l.nx _ _ _ _ _ _ h rel (Ex.refl _)⟩
theorem dst_break : DSt X L (.Break pos) dBrk := ⟨_, ps_break, fun Hf σ H Γ μ Hc Hm D De _ rel h l => l.bk _ _ _ _ _ _ h rel (Ex.refl _)⟩
theorem dst_continue : DSt X L (.Continue pos) dCnt := ⟨_, ps_continue, fun Hf σ H Γ μ Hc Hm D De _ rel h l => l.ct _ _ _ _ _ _ h rel (Ex.refl _)⟩
theorem dst_expr (he : DE X L e de) (hs : swapsWith e none pos.line X.env = pure false := by rfl) : DSt X L (.Expr e pos) (dDrop de) := by
  obtain ⟨t, p, l⟩ := he
  exact ⟨_, ps_expr p hs, fun Hf σ H Γ μ Hc Hm D De hΦ rel h k => l Hf σ H Γ μ Hc Hm _ _ hΦ rel h fun x H1 dx μ1 Hc1 Hm1 h1 rel1 rp1 ex1 => k.nx _ _ _ _ _ _ h1 rel1 ex1⟩
theorem dst_ret (he : DE X L e de) : DSt X L (.Return (some e) pos) (dRet de) := by
  obtain ⟨t, p, l⟩ := he
  exact ⟨_, ps_ret p, fun Hf σ H Γ μ Hc Hm D De hΦ rel h k => l Hf σ H Γ μ Hc Hm _ _ hΦ rel h fun x H1 dx μ1 Hc1 Hm1 h1 rel1 rp1 ex1 => k.rt _ _ _ _ _ _ _ _ h1 rel1 rp1 ex1⟩
theorem dst_retN : DSt X L (.Return none pos) dRetN := ⟨_, ps_retN, fun Hf σ H Γ μ Hc Hm D De hΦ rel h k => k.rt _ _ _ _ _ _ _ _ h rel .non (Ex.refl _)⟩
theorem dst_if {c : Expr} {a b : List Stmt} {dc : DTT} (hc : DTs X L c dc) (ha : DSs X L a d1) (hb : DSs X L b d2) : DSt X L (.If c a b pos) (dIfS dc d1 d2) := by
  obtain ⟨t, p, lt⟩ := hc
  obtain ⟨u, p1, la⟩ := ha
  obtain ⟨v, p2, lb⟩ := hb
  refine ⟨_, ps_if p p1 p2, fun Hf σ H Γ μ Hc Hm D De hΦ rel h k => lt Hf σ H Γ μ Hc Hm _ _ hΦ rel h fun c H1 μ1 Hc1 Hm1 h1 rel1 ex1 => ?_⟩
  cases c with
  | true => exact iteT (la Hf σ H1 Γ μ1 Hc1 Hm1 D De hΦ rel1 (by simpa using h1) (k.ex ex1))
  | false => exact iteF (lb Hf σ H1 Γ μ1 Hc1 Hm1 D De hΦ rel1 (by simpa using h1) (k.ex ex1))

/-! ### targets -/
abbrev DG := D → DEn → Mu → (DEn → Mu → Prop) → Prop
abbrev DGs := List D → DEn → Mu → (DEn → Mu → Prop) → Prop
def LfG (K : PySem.W.Frag) (B : Hp) (Φ : Hp → Prop) (g : TG) (d : DG) : Prop := ∀ (Hf : Hp) (σ : L2.St) (H : Hp) (Γ : DEn) (μ : Mu) (Hc Hm : Hp) (v : V) (x : D) (Q : L2.St → Hp → Prop) (R : DEn → Mu → Prop), Φ Hf → Rel K B Hf σ H Γ μ Hc Hm → Rp K Hc v x → d x Γ μ R →
  (∀ σ' H' Γ' μ' Hc' Hm', R Γ' μ' → Rel K B Hf σ' H' Γ' μ' Hc' Hm' → Ex Hc Hc' → Q σ' H') → g v σ H Q
def LfGs (K : PySem.W.Frag) (B : Hp) (Φ : Hp → Prop) (g : TGs) (d : DGs) : Prop := ∀ (Hf : Hp) (σ : L2.St) (H : Hp) (Γ : DEn) (μ : Mu) (Hc Hm : Hp) (v : List V) (x : List D) (Q : L2.St → Hp → Prop) (R : DEn → Mu → Prop), Φ Hf → Rel K B Hf σ H Γ μ Hc Hm → RpA K Hc v x → d x Γ μ R →
  (∀ σ' H' Γ' μ' Hc' Hm', R Γ' μ' → Rel K B Hf σ' H' Γ' μ' Hc' Hm' → Ex Hc Hc' → Q σ' H') → g v σ H Q
def DGt (X : Cx) (L : Lc X) (tg : Expr) (d : DG) : Prop := ∃ g, PG X tg g ∧ LfG X.K L.B L.Φ g d
def DGts (X : Cx) (L : Lc X) (tg : List Expr) (d : DGs) : Prop := ∃ g, PGs X tg g ∧ LfGs X.K L.B L.Φ g d
def dgName (i : Nat) : DG := fun x Γ μ R => R (Γ.set i (some x)) μ
theorem dg_name {i : Nat} {x : Str} (hN : X.N.Nodup) (hi : X.N[i]? = some x := by rfl) (hx : Loc X.env.scope x := by first | exact Or.inl rfl | exact Or.inr rfl) (hf : X.fn x = true ∨ X.env.scope.names.lookup x = some .local := by first | exact .inl rfl | exact .inr rfl) : DGt X L (.Name x pos) (dgName i) :=
  ⟨_, pg_name hN hi hx hf, fun Hf σ H Γ μ Hc Hm v x Q R _ rel rp h k => k _ _ _ _ _ _ h (rel.setv rp i) (Ex.refl _)⟩
def dgNil : DGs := fun xs Γ μ R => xs = [] ∧ R Γ μ
def dgCons (t : DG) (u : DGs) : DGs := fun xs Γ μ R => ∃ x r, xs = x :: r ∧ t x Γ μ fun Γ' μ' => u r Γ' μ' R
theorem dgs_nil : DGts X L [] dgNil := ⟨_, pgs_nil, fun Hf σ H Γ μ Hc Hm v x Q R _ rel rp h k => by
  obtain ⟨rfl, h⟩ := h
  cases rp
  exact ⟨rfl, k _ _ _ _ _ _ h rel (Ex.refl _)⟩⟩
theorem dgs_cons {es : List Expr} {g : DG} {gs : DGs} (h1 : DGt X L e g) (h2 : DGts X L es gs) (hs : (assignEach (e :: es) X.env).map (·.2) = assign e X.env :: (assignEach es X.env).map (·.2) := by rfl) : DGts X L (e :: es) (dgCons g gs) := by
  obtain ⟨t, p, l⟩ := h1
  obtain ⟨u, p2, l2⟩ := h2
  refine ⟨_, pgs_cons p p2 hs, fun Hf σ H Γ μ Hc Hm v x Q R hΦ rel rp h k => ?_⟩
  obtain ⟨y, r, rfl, h⟩ := h
  cases rp with
  | cons q t =>
    exact ⟨_, _, rfl, l Hf σ H Γ μ Hc Hm _ _ _ _ hΦ rel q h fun σ' H' Γ' μ' Hc' Hm' h' rel' ex' => l2 Hf σ' H' Γ' μ' Hc' Hm' _ _ _ _ hΦ rel' (t.mono ex') h' fun σ2 H2 Γ2 μ2 Hc2 Hm2 h2 rel2 ex2 => k _ _ _ _ _ _ h2 rel2 (ex'.trans ex2)⟩
def dgTup (n : Nat) (t : DGs) : DG := fun x Γ μ R => ∃ xs, x = .tup xs ∧ xs.length = n ∧ t xs Γ μ R
theorem dg_tup {es : List Expr} {k n : Nat} {t : DGs} (hc : X.calm = true) (h : DGts X L es t) (hn : (assignEach es X.env).length = n := by rfl) (hst : (assignEach es X.env).findIdx? (·.1) = none := by rfl) : DGt X L (.Tuple es k pos) (dgTup n t) := by
  obtain ⟨g, p, l⟩ := h
  refine ⟨_, pg_tup hc p hn hst, fun Hf σ H Γ μ Hc Hm v x Q R hΦ rel rp h k => ?_⟩
  obtain ⟨xs, rfl, hl, h⟩ := h
  cases rp with
  | tup ht ra => exact ⟨_, _, rfl, SqT.of (rel.pt.exc _ _ ht), by rw [ra.length]; exact hl, l Hf σ H Γ μ Hc Hm _ _ _ _ hΦ rel ra h k⟩
def dAsg (d : DT) (g : DG) : DS := fun De Γ μ => d Γ μ fun x μ1 => g x Γ μ1 De.nx
theorem dst_asg {tg : Expr} {g : DG} (he : DE X L e de) (hg : DGt X L tg g) (hs : swapsWithSole [tg] e pos.line X.env = pure false := by rfl) (hw : swappedStores [tg] e X.env = pure none := by rfl) (h1 : (assignEach [tg] X.env).map (·.2) = [assign tg X.env] := by rfl) : DSt X L (.Assign [tg] e pos) (dAsg de g) := by
  obtain ⟨t, p, l⟩ := he
  obtain ⟨u, p2, l2⟩ := hg
  exact ⟨_, ps_asg p p2 hs hw h1, fun Hf σ H Γ μ Hc Hm D De hΦ rel h k => l Hf σ H Γ μ Hc Hm _ _ hΦ rel h fun x H1 dx μ1 Hc1 Hm1 h1 rel1 rp1 ex1 =>
    l2 Hf σ H1 Γ μ1 Hc1 Hm1 _ _ _ _ hΦ rel1 rp1 h1 fun σ' H' Γ' μ' Hc' Hm' h' rel' ex' => k.nx _ _ _ _ _ _ h' rel' (ex1.trans ex')⟩
def dSet (i : Nat) (d : DT) : DS := fun De Γ μ => d Γ μ fun x μ1 => De.nx (Γ.set i (some x)) μ1
theorem dst_set {i : Nat} {x : Str} {pos' : Pos} (hN : X.N.Nodup) (he : DE X L e de) (hi : X.N[i]? = some x := by rfl) (hx : Loc X.env.scope x := by first | exact Or.inl rfl | exact Or.inr rfl)
    (hs : swapsWith e (some (.Name x pos')) pos.line X.env = pure false := by rfl) (hf : X.fn x = true ∨ X.env.scope.names.lookup x = some .local := by first | exact .inl rfl | exact .inr rfl) : DSt X L (.Assign [.Name x pos'] e pos) (dSet i de) := by
  obtain ⟨t, p, l⟩ := he
  exact ⟨_, ps_set hN hi hx p hs hf, fun Hf σ H Γ μ Hc Hm D De hΦ rel h k => l Hf σ H Γ μ Hc Hm _ _ hΦ rel h fun x H1 dx μ1 Hc1 Hm1 h1 rel1 rp1 ex1 =>
    k.nx _ _ _ _ _ _ h1 (rel1.setv rp1 _) ex1⟩
/-- a, b = e1, e2 -/
def dPar (i j : Nat) (d : DTA) : DS := fun De Γ μ => d Γ μ fun xs μ1 => ∃ x y, xs = [x, y] ∧ De.nx ((Γ.set i (some x)).set j (some y)) μ1
theorem dst_par {i j : Nat} {x y : Str} {a b : Expr} {da : DTA} {px py pt : Pos} {kt k2 : Nat} {pt2 : Pos} (hc : X.calm = true) (hN : X.N.Nodup) (ha : DA X L [a, b] da) (hi : X.N[i]? = some x := by rfl) (hj : X.N[j]? = some y := by rfl) (hij : i ≠ j := by decide)
    (hx : X.env.scope.names.lookup x = some .local := by rfl) (hy : X.env.scope.names.lookup y = some .local := by rfl) (hw : swappedStores [.Tuple [.Name x px, .Name y py] kt pt] (.Tuple [a, b] k2 pt2) X.env = pure (some [x, y]) := by rfl)
    (hs : swapsWithSole [.Tuple [.Name x px, .Name y py] kt pt] (.Tuple [a, b] k2 pt2) pos.line X.env = pure false := by rfl) : DSt X L (.Assign [.Tuple [.Name x px, .Name y py] kt pt] (.Tuple [a, b] k2 pt2) pos) (dPar i j da) := by
  obtain ⟨t, p, l⟩ := ha
  refine ⟨_, ps_par hc hN hi hj hij hx hy p hw hs, fun Hf σ H Γ μ Hc Hm D De hΦ rel h k => l Hf σ H Γ μ Hc Hm _ _ hΦ rel h fun xs H1 ds μ1 Hc1 Hm1 h1 rel1 rp1 ex1 => ?_⟩
  obtain ⟨u, v, rfl, h1⟩ := h1
  cases rp1 with
  | cons r1 t1 =>
    cases t1 with
    | cons r2 t2 =>
      cases t2
      exact ⟨_, _, rfl, k.nx _ _ _ _ _ _ h1 ((rel1.setv r1 _).setv r2 _) ex1⟩
/-- x += e (whole numbers) -/
def dAug (i : Nat) (f : Int → Int → Int) (d : DT) : DS := fun De Γ μ => ∃ n, Γ[i]? = some (some (.int n)) ∧ d Γ μ fun y μ1 => ∃ m, y = .int m ∧ De.nx (Γ.set i (some (.int (f n m)))) μ1
theorem lfAug {K : PySem.W.Frag} {B : Hp} {Φ : Hp → Prop} {i : Nat} {f : Int → Int → Int} {t : TE} (l : LfE K B Φ t de) : LfS K B Φ (tAug i t (ipI f)) (dAug i f de) := fun Hf σ H Γ μ Hc Hm D De hΦ rel h k => by
  obtain ⟨n, hn, h⟩ := h
  obtain ⟨v, h3, h4⟩ := rel.sg.2 i _ hn
  have e := h4.int_inv
  subst e
  refine ⟨_, h3, l Hf σ H Γ μ Hc Hm _ _ hΦ rel h fun x H1 dx μ1 Hc1 Hm1 h1 rel1 rp1 ex1 => ?_⟩
  obtain ⟨m, rfl, h1⟩ := h1
  have e := rp1.int_inv
  subst e
  exact ⟨n, m, rfl, rfl, k.nx _ _ _ _ _ _ h1 (rel1.setv (.int _) _) ex1⟩
theorem dst_aug_add {i : Nat} {x : Str} {pos' : Pos} (hN : X.N.Nodup) (he : DE X L e de) (hi : X.N[i]? = some x := by rfl) (hx : Loc X.env.scope x := by first | exact Or.inl rfl | exact Or.inr rfl)
    (hf : X.fn x = true ∨ X.env.scope.names.lookup x = some .local := by first | exact .inl rfl | exact .inr rfl) : DSt X L (.AugAssign (.Name x pos') .Add e pos) (dAug i (fun a b => a + b) de) := by
  obtain ⟨t, p, l⟩ := he
  exact ⟨_, ps_aug hN hi hx p ip_add hf, lfAug l⟩
theorem dst_aug_sub {i : Nat} {x : Str} {pos' : Pos} (hN : X.N.Nodup) (he : DE X L e de) (hi : X.N[i]? = some x := by rfl) (hx : Loc X.env.scope x := by first | exact Or.inl rfl | exact Or.inr rfl)
    (hf : X.fn x = true ∨ X.env.scope.names.lookup x = some .local := by first | exact .inl rfl | exact .inr rfl) : DSt X L (.AugAssign (.Name x pos') .Sub e pos) (dAug i (fun a b => a - b) de) := by
  obtain ⟨t, p, l⟩ := he
  exact ⟨_, ps_aug hN hi hx p ip_sub hf, lfAug l⟩
end
end Nod
set_option Elab.async false
set_option linter.all false
set_option maxRecDepth 100000
set_option maxHeartbeats 4000000
namespace Nod
open PySem PySem.Spec PyProof.Rows L2
open Evl (Ex)

/-! ### defs -/
/-- a promise over data: the arguments, the objects, what follows, what is raised -/
abbrev DX := Str → List (Str × D) → Mu → Prop
abbrev DSp := List D → Mu → DK → DX → Prop
/-- as L2 says it -/
def low (K : PySem.W.Frag) (sp : DSp) : Sp := fun vs H Q E => ∃ (Hc Hm Hf : Hp) (ds : List D) (μ : Mu) (R : DK) (RX : DX), Pt H Hc Hm Hf ∧ MuOk K Hc Hm μ ∧ RpA K Hc vs ds ∧ sp ds μ R RX ∧
  (∀ v H' d μ' Hc' Hm', R d μ' → Pt H' Hc' Hm' Hf → MuOk K Hc' Hm' μ' → Rp K Hc' v d → Ex Hc Hc' → Q v H') ∧
  (∀ n gs μ' H' Hc' Hm' dx fs, RX n gs μ' → Pt H' Hc' Hm' Hf → MuOk K Hc' Hm' μ' → Hc' dx = some (.xd fs) → RpF K Hc' fs gs → Ex Hc Hc' → E (.ref (He.ga K n)) (some dx) H')
theorem low_len {K : PySem.W.Frag} {sp : DSp} {n : Nat} (h : ∀ ds μ R RX, sp ds μ R RX → ds.length = n) : ∀ vs H Q E, low K sp vs H Q E → vs.length = n := by
  rintro vs H Q E ⟨Hc, Hm, Hf, ds, μ, R, RX, pt, mu, ra, hs, _⟩
  rw [ra.length]
  exact h _ _ _ _ hs
/-- a def that keeps a promise: dds its last defaults as data, filled in by a call -/
structure DFn (P : Program) (w : World) (K : PySem.W.Frag) (mg : Str → Option Value) (base : Heap) (k : Nat) (a : Addr) (ps : List Str) (dds : List D) (sp : DSp) : Prop where
  ex : ∃ (fd : FuncData) (dvs : List V) (ds : List Value), FnOk P w K mg base (L2.CX P w) k a fd ps (low K sp) ∧ Binds K fd ps ds ∧ Vals dvs ds ∧ ∀ H, RpA K H dvs dds
  kp : PySem.W.keepIn K (.ref a) = true

def startD (N : List Str) (ds : List D) : DEn := ds.map some ++ List.replicate (N.length - ds.length) none
theorem sg_start {K : PySem.W.Frag} {H : Hp} {N : List Str} {vs : List V} {ds : List D} (r : RpA K H vs ds) : Sg K H (L2.start N vs) (startD N ds) := by
  refine ⟨by unfold L2.start startD; simp [r.length], fun i d e => ?_⟩
  unfold startD at e
  rw [List.getElem?_append] at e
  split at e
  · rename_i hi
    rw [List.length_map] at hi
    rw [List.getElem?_map] at e
    cases q : ds[i]? with
    | none => rw [q] at e; cases e
    | some y =>
      rw [q] at e
      cases e
      obtain ⟨v, h1, h2⟩ := r.get q
      refine ⟨v, ?_, h2⟩
      unfold L2.start
      rw [List.getElem?_append, if_pos (by rw [List.length_map, r.length]; exact hi), List.getElem?_map, h1]
      rfl
  · rw [List.getElem?_replicate] at e
    split at e <;> cases e

abbrev cxD (P : Program) (w : World) (K : PySem.W.Frag) (mg : Str → Option Value) (base : Heap) (N : List Str) (qual : Str) (scope : Scope) (f : Addr) (cd : Value) (A : Around) (outer : List Env) (s : Shared) (H : Hp) (E : XK) : Cx :=
  cxOf (L2.CX P w) P w K mg base N qual scope f cd A outer s H E

section
variable {P : Program} {w : World} {K : PySem.W.Frag} {mg : Str → Option Value} {base : Heap}
/-- THE RULE for a def -/
theorem fn_data {x qual : Str} {params : Arguments} {body : List Stmt} {scope : Scope} {dvs : List V} {kws : List (Str × V)} {f : Addr} {fd : FuncData} {N ps : List Str} {k : Nat} {sp : DSp} (F : FunD K x qual params body scope dvs kws f fd) (S : FnScope N ps scope)
    (len : ∀ ds μ R RX, sp ds μ R RX → ds.length = ps.length)
    (hbody : ∀ (cdv : Value) (A : Around) (outer : List Env) (s : Shared) (H : Hp) (E : XK) (RX : DX), Room k (A.deeper (envOfC qual scope s.heap.objs.size f cdv)) →
      ∀ L : Lc (cxD P w K mg base N qual scope f cdv A outer s H E), L.W = (fun n gs _ μ => RX n gs μ) → (∀ a b, L.Φ a → L.Φ b → a = b) → ∃ d, DSs (cxD P w K mg base N qual scope f cdv A outer s H E) L body d ∧
        ∀ ds μ R, sp ds μ R RX → d { nx := fun _ μ' => R .non μ', rt := R } (startD N ds) μ) : FnOk P w K mg base (L2.CX P w) (k + 1) f fd ps (low K sp) := by
  refine F.ok S (low_len len) fun cdv A outer s H vs Q E hr hsp => ?_
  obtain ⟨Hc, Hm, Hf, ds, μ, R, RX, pt, mu, ra, hs, kq, kx⟩ := hsp
  let L : Lc (cxD P w K mg base N qual scope f cdv A outer s H E) := ⟨Hc, fun Hf' => Hf' = Hf, fun n gs _ μ => RX n gs μ, by
    refine (takes_of (X := cxD P w K mg base N qual scope f cdv A outer s H E) rfl rfl rfl rfl).imp fun cls dd σ H' hw => ?_
    obtain ⟨n, gs, Γ, μ', Hc', Hm', Hf', dx, fs, rfl, rfl, h1, h2, rfl, rel, h3⟩ := hw
    exact kx n gs μ' H' Hc' Hm' dx fs h3 rel.pt rel.mu h1 h2 rel.ex⟩
  obtain ⟨d, ⟨t, p, l⟩, hd⟩ := hbody cdv A outer s H E RX hr L rfl fun a b h1 h2 => h1.trans h2.symm
  refine ⟨t, p, l Hf _ H _ μ Hc Hm _ _ rfl ⟨pt, Ex.refl _, sg_start ra, mu⟩ (hd ds μ R hs) ⟨fun σ' H' Γ' μ' Hc' Hm' a b c => ?_, fun v σ' H' x Γ' μ' Hc' Hm' a b c e => ?_, fun σ' H' Γ' μ' Hc' Hm' a b c => a.elim, fun σ' H' Γ' μ' Hc' Hm' a b c => a.elim⟩⟩
  · exact kq .non H' .non μ' Hc' Hm' a b.pt b.mu .non c
  · exact kq v H' x μ' Hc' Hm' a b.pt b.mu c e
end

/-- the same, the code object told -/
theorem fn_dataC {P : Program} {w : World} {K : PySem.W.Frag} {mg : Str → Option Value} {base : Heap} {x qual : Str} {params : Arguments} {body : List Stmt} {scope : Scope} {dvs : List V} {kws : List (Str × V)} {f c : Addr} {fd : FuncData} {N ps : List Str} {k : Nat} {sp : DSp} (F : FunD K x qual params body scope dvs kws f fd) (hc : fd.code = .ref c) (S : FnScope N ps scope)
    (len : ∀ ds μ R RX, sp ds μ R RX → ds.length = ps.length)
    (hbody : ∀ (A : Around) (outer : List Env) (s : Shared) (H : Hp) (E : XK) (RX : DX), Room k (A.deeper (envOfC qual scope s.heap.objs.size f (.ref c))) →
      ∀ L : Lc (cxD P w K mg base N qual scope f (.ref c) A outer s H E), L.W = (fun n gs _ μ => RX n gs μ) → (∀ a b, L.Φ a → L.Φ b → a = b) → ∃ d, DSs (cxD P w K mg base N qual scope f (.ref c) A outer s H E) L body d ∧
        ∀ ds μ R, sp ds μ R RX → d { nx := fun _ μ' => R .non μ', rt := R } (startD N ds) μ) : FnOk P w K mg base (L2.CX P w) (k + 1) f fd ps (low K sp) := by
  obtain ⟨oc, od, dV, kV, doc, pm, an, cdv, ct, osl, rfl, lk, hcd, _, _⟩ := F.ex
  have e : cdv = .ref c := hc
  subst e
  refine fn_of lk hcd S (low_len len) fun A outer s H vs Q E hr hsp => ?_
  obtain ⟨Hc, Hm, Hf, ds, μ, R, RX, pt, mu, ra, hs, kq, kx⟩ := hsp
  let L : Lc (cxD P w K mg base N qual scope f (.ref c) A outer s H E) := ⟨Hc, fun Hf' => Hf' = Hf, fun n gs _ μ => RX n gs μ, by
    refine (takes_of (X := cxD P w K mg base N qual scope f (.ref c) A outer s H E) rfl rfl rfl rfl).imp fun cls dd σ H' hw => ?_
    obtain ⟨n, gs, Γ, μ', Hc', Hm', Hf', dx, fs, rfl, rfl, h1, h2, rfl, rel, h3⟩ := hw
    exact kx n gs μ' H' Hc' Hm' dx fs h3 rel.pt rel.mu h1 h2 rel.ex⟩
  obtain ⟨d, ⟨t, p, l⟩, hd⟩ := hbody A outer s H E RX hr L rfl fun a b h1 h2 => h1.trans h2.symm
  refine ⟨t, p, l Hf _ H _ μ Hc Hm _ _ rfl ⟨pt, Ex.refl _, sg_start ra, mu⟩ (hd ds μ R hs) ⟨fun σ' H' Γ' μ' Hc' Hm' a b c => ?_, fun v σ' H' x Γ' μ' Hc' Hm' a b c e => ?_, fun σ' H' Γ' μ' Hc' Hm' a b c => a.elim, fun σ' H' Γ' μ' Hc' Hm' a b c => a.elim⟩⟩
  · exact kq .non H' .non μ' Hc' Hm' a b.pt b.mu .non c
  · exact kq v H' x μ' Hc' Hm' a b.pt b.mu c e

section
variable {X : Cx} {L : Lc X} {k : Nat} {f C : Addr} {ps : List Str} {sp : DSp} {dds : List D} {x m : Str} {p pos apos : Pos} {e o : Expr} {es : List Expr} {da : DT} {d : DTA}
/-- the call's promise, and what it lets out -/
def dCall (sp : DSp) (dds : List D) (W : DW) (d : DTA) : DT := fun Γ μ R => d Γ μ fun ds μ1 => sp (ds ++ dds) μ1 R fun n gs μ' => W n gs Γ μ'
theorem lfCall {K : PySem.W.Frag} {B : Hp} {Φ : Hp → Prop} {W : DW} {t : TA} {dvs : List V} (hd : ∀ H, RpA K H dvs dds) (l : LfA K B Φ t d) : LfE K B Φ (tCallSD (low K sp) dvs (WE (lowW K B Φ W)) t) (dCall sp dds W d) := fun Hf σ H Γ μ Hc Hm Q R hΦ rel h kn =>
  l Hf σ H Γ μ Hc Hm _ _ hΦ rel h fun xs H1 ds μ1 Hc1 Hm1 h1 rel1 ra1 ex1 =>
    ⟨Hc1, Hm1, Hf, ds ++ dds, μ1, R, _, rel1.pt, rel1.mu, ra1.append (hd _), h1, fun v H' y μ' Hc' Hm' a b c e g => kn v H' y μ' Hc' Hm' a ⟨b, rel1.ex.trans g, rel1.sg.mono g, c⟩ e (ex1.trans g),
      fun n gs μ' H' Hc' Hm' dx fs a b c e g hx => ⟨n, gs, Γ, μ', Hc', Hm', Hf, dx, fs, rfl, rfl, e, g, hΦ, ⟨b, rel1.ex.trans hx, rel1.sg.mono hx, c⟩, a⟩⟩
theorem de_call (F : DFn X.prog X.w X.K X.mg X.base k f ps dds sp) (hr : Room k X.A) (hm : X.mg x = some (.ref f)) (ha : DA X L (e :: es) d) (hg : Gl X x := by rfl) (hdb : (x == ("__debug__" : Str)) = false := by decide)
    (he : starEach (e :: es) X.env = (false, eval e X.env) :: starEach es X.env := by rfl) (hpl : (backTo pos (starEach es X.env)).any (·.1) = false := by rfl) :
    DE X L (.Call (.Name x p) (e :: es) [] pos) (dCall sp dds L.W d) := by
  obtain ⟨fd, dvs, ds, F1, hb, hd, hrp⟩ := F.ex
  obtain ⟨t, pa, l⟩ := ha
  exact ⟨_, pe_callSD F1 hr hg hm F.kp hb hd (fun σ => passAt L.tk σ) pa hdb he hpl, lfCall hrp l⟩
/-- a method of an instance of C -/
def dMeth (C : Str) (m : Str) (sp : DSp) (dds : List D) (W : DW) (da : DT) (d : DTA) : DT := fun Γ μ R => da Γ μ fun x μ1 => ((∃ gs, x = .obj C gs ∧ gs.lookup m = none) ∨ ∃ a gs, x = .adr a ∧ μ1 a = some (.ins C gs) ∧ gs.lookup m = none) ∧
  d Γ μ1 fun ds μ2 => sp (x :: (ds ++ dds)) μ2 R fun n gs μ' => W n gs Γ μ'
def tMethSD (C : Addr) (m : Str) (sp : Sp) (dvs : List V) (E : L2.St → XK) (ta : TE) (t : TA) : TE := fun σ H Q => ta σ H fun x H1 => ∃ a dx fs, x = .ref a ∧ H1 a = some (.ins C dx fs) ∧ fs.lookup m = none ∧
  t σ H1 fun vs H2 => sp (x :: (vs ++ dvs)) H2 Q (E σ)
theorem pe_methSD {CX : CXT} {fd : FuncData} {spL : Sp} {dvs : List V} {ds : List Value} {E : L2.St → XK} {ta : TE} {t : TA} {pl : Sem Bool} (he : PE X o ta) (c : Cls X.K C) (hm : Meth X.K C m f) (F : FnOk X.prog X.w X.K X.mg X.base CX k f fd ps spL) (hr : Room k X.A) (hb : Binds X.K fd ps ds) (hd : Vals dvs ds)
    (hx : ∀ σ, PassesAt CX X σ (E σ)) (ha : PA X (e :: es) t)
    (hst : starEach (e :: es) X.env = (false, eval e X.env) :: starEach es X.env := by rfl) (hpl : (backTo pos (starEach es X.env)).any (·.1) = false := by rfl)
    (ht : eval (.Call (.Attribute o m apos) (e :: es) [] pos) X.env = (do
      let ov ← eval o X.env
      standAt apos.atName
      let (f, first) ← holding [ov] (getMethod ov m pl)
      callWith pos f first (backTo pos (starEach (e :: es) X.env)) (backToKw pos (keywordEach [] X.env))) := by rfl) :
    PE X (.Call (.Attribute o m apos) (e :: es) [] pos) (tMethSD C m spL dvs E ta t) := by
  refine ⟨fun pins s σ H Q I h => ?_⟩
  refine PySem.W.methodCall_KW (pl := pl) (thn (he.run pins s σ H _ I h) fun u s1 ⟨x, H1, I1, rx, a, dx, fs, ex, ea, l, q⟩ => ?_) ht
  subst ex
  obtain rfl : u = Value.ref a := rx
  refine getmeth_ok I1 ea c hm l ?_
  refine PySem.W.callWith_K (first := [.ref a]) (h₀ := X.base) I.ok.mod.kin hm.kp (thn (ha.run pos pins s1 σ H1 _ I1 q) fun us s2 ⟨vs, H2, I2, r, q2⟩ => ⟨I2.kIn, ?_⟩) hst hpl
  exact run_fnSD (us := .ref a :: us) (vs := .ref a :: vs) F hr hb hd (hx σ) I2 (.cons rfl r) q2
theorem pe_methSD0 {CX : CXT} {fd : FuncData} {spL : Sp} {dvs : List V} {ds : List Value} {E : L2.St → XK} {ta : TE} {pl : Sem Bool} (he : PE X o ta) (c : Cls X.K C) (hm : Meth X.K C m f) (F : FnOk X.prog X.w X.K X.mg X.base CX k f fd ps spL) (hr : Room k X.A) (hb : Binds X.K fd ps ds) (hd : Vals dvs ds)
    (hx : ∀ σ, PassesAt CX X σ (E σ))
    (ht : eval (.Call (.Attribute o m apos) [] [] pos) X.env = (do
      let ov ← eval o X.env
      standAt apos.atName
      let (f, first) ← holding [ov] (getMethod ov m pl)
      callWith pos f first (backTo pos (starEach [] X.env)) (backToKw pos (keywordEach [] X.env))) := by rfl) :
    PE X (.Call (.Attribute o m apos) [] [] pos) (tMethSD C m spL dvs E ta tNil) := by
  refine ⟨fun pins s σ H Q I h => ?_⟩
  refine PySem.W.methodCall_KW (pl := pl) (thn (he.run pins s σ H _ I h) fun u s1 ⟨x, H1, I1, rx, a, dx, fs, ex, ea, l, q⟩ => ?_) ht
  subst ex
  obtain rfl : u = Value.ref a := rx
  refine getmeth_ok I1 ea c hm l ?_
  refine PySem.W.callWith_K0 (first := [.ref a]) I1.kIn hm.kp ?_
  exact run_fnSD (us := [.ref a]) (vs := [.ref a]) F hr hb hd (hx σ) I1 (.cons rfl .nil) q
theorem lfMeth {K : PySem.W.Frag} {B : Hp} {Φ : Hp → Prop} {W : DW} {ta : TE} {t : TA} {dvs : List V} {C : Str} (hd : ∀ H, RpA K H dvs dds) (la : LfE K B Φ ta da) (l : LfA K B Φ t d) : LfE K B Φ (tMethSD (He.ga K C) m (low K sp) dvs (WE (lowW K B Φ W)) ta t) (dMeth C m sp dds W da d) := fun Hf σ H Γ μ Hc Hm Q R hΦ rel h kn =>
  la Hf σ H Γ μ Hc Hm _ _ hΦ rel h fun x H1 dx1 μ1 Hc1 Hm1 h1 rel1 rp1 ex1 => by
    obtain ⟨hx, h2⟩ := h1
    have fin : ∀ a dxx fs, x = V.ref a → H1 a = some (.ins (He.ga K C) dxx fs) → fs.lookup m = none → ∃ a dx fs, x = .ref a ∧ H1 a = some (.ins (He.ga K C) dx fs) ∧ fs.lookup m = none ∧
        t σ H1 fun vs H2 => low K sp (x :: (vs ++ dvs)) H2 Q (WE (lowW K B Φ W) σ) := fun a dxx fs e1 e2 e3 => by
      refine ⟨a, dxx, fs, e1, e2, e3, l Hf σ H1 Γ μ1 Hc1 Hm1 _ _ hΦ rel1 h2 fun xs H2 ds μ2 Hc2 Hm2 h2 rel2 ra2 ex2 => ?_⟩
      exact ⟨Hc2, Hm2, Hf, dx1 :: (ds ++ dds), μ2, R, _, rel2.pt, rel2.mu, .cons (rp1.mono ex2) (ra2.append (hd _)), h2, fun v H' y μ' Hc' Hm' a b c e g => kn v H' y μ' Hc' Hm' a ⟨b, rel2.ex.trans g, rel2.sg.mono g, c⟩ e ((ex1.trans ex2).trans g),
        fun n gs μ' H' Hc' Hm' dx fs a b c e g hx => ⟨n, gs, Γ, μ', Hc', Hm', Hf, dx, fs, rfl, rfl, e, g, hΦ, ⟨b, rel2.ex.trans hx, rel2.sg.mono hx, c⟩, a⟩⟩
    rcases hx with ⟨gs, rfl, hl⟩ | ⟨a, gs, rfl, hm, hl⟩
    · cases rp1 with
      | obj ho rf => exact fin _ _ _ rfl (rel1.pt.exc _ _ ho) ((rf.look m).2 hl)
    · have e := rp1.adr_inv
      subst e
      obtain ⟨o, ho, q⟩ := rel1.get hm
      cases o with
      | ins C' dx fs =>
        obtain ⟨rfl, rf⟩ := q
        exact fin _ _ _ rfl ho ((rf.look m).2 hl)
      | _ => exact q.elim
theorem de_meth {C : Str} (he : DE X L o da) (c : Cls X.K (He.ga X.K C)) (hm : Meth X.K (He.ga X.K C) m f) (F : DFn X.prog X.w X.K X.mg X.base k f ps dds sp) (hr : Room k X.A) (ha : DA X L (e :: es) d)
    (hst : starEach (e :: es) X.env = (false, eval e X.env) :: starEach es X.env := by rfl) (hpl : (backTo pos (starEach es X.env)).any (·.1) = false := by rfl) {pl : Sem Bool}
    (ht : eval (.Call (.Attribute o m apos) (e :: es) [] pos) X.env = (do
      let ov ← eval o X.env
      standAt apos.atName
      let (f, first) ← holding [ov] (getMethod ov m pl)
      callWith pos f first (backTo pos (starEach (e :: es) X.env)) (backToKw pos (keywordEach [] X.env))) := by rfl) :
    DE X L (.Call (.Attribute o m apos) (e :: es) [] pos) (dMeth C m sp dds L.W da d) := by
  obtain ⟨fd, dvs, ds, F1, hb, hd, hrp⟩ := F.ex
  obtain ⟨ta, p, la⟩ := he
  obtain ⟨t, pa, l⟩ := ha
  exact ⟨_, pe_methSD (pl := pl) p c hm F1 hr hb hd (fun σ => passAt L.tk σ) pa hst hpl ht, lfMeth hrp la l⟩
theorem de_meth0 {C : Str} (he : DE X L o da) (c : Cls X.K (He.ga X.K C)) (hm : Meth X.K (He.ga X.K C) m f) (F : DFn X.prog X.w X.K X.mg X.base k f ps dds sp) (hr : Room k X.A) {pl : Sem Bool}
    (ht : eval (.Call (.Attribute o m apos) [] [] pos) X.env = (do
      let ov ← eval o X.env
      standAt apos.atName
      let (f, first) ← holding [ov] (getMethod ov m pl)
      callWith pos f first (backTo pos (starEach [] X.env)) (backToKw pos (keywordEach [] X.env))) := by rfl) :
    DE X L (.Call (.Attribute o m apos) [] [] pos) (dMeth C m sp dds L.W da dNil) := by
  obtain ⟨fd, dvs, ds, F1, hb, hd, hrp⟩ := F.ex
  obtain ⟨ta, p, la⟩ := he
  exact ⟨_, pe_methSD0 (pl := pl) p c hm F1 hr hb hd (fun σ => passAt L.tk σ) ht, lfMeth hrp la (fun Hf σ H Γ μ Hc Hm Q R _ rel h k => k [] H [] μ Hc Hm h rel .nil (Ex.refl _))⟩
/-- C(..): the new instance is told as changing, at x -/
def dMake (C : Str) (sp : DSp) (dds : List D) (W : DW) (d : DTA) : DT := fun Γ μ R => d Γ μ fun ds μ1 => ∀ x, μ1 x = none → sp (.adr x :: (ds ++ dds)) (updM μ1 x (.ins C [])) (fun y μ2 => y = .non ∧ ∃ gs, μ2 x = some (.ins C gs) ∧ R (.obj C gs) (delM μ2 x)) fun n gs μ' => W n gs Γ μ'
def dMakeM (C : Str) (sp : DSp) (dds : List D) (W : DW) (d : DTA) : DT := fun Γ μ R => d Γ μ fun ds μ1 => ∀ x, μ1 x = none → sp (.adr x :: (ds ++ dds)) (updM μ1 x (.ins C [])) (fun y μ2 => y = .non ∧ R (.adr x) μ2) fun n gs μ' => W n gs Γ μ'
def tMakeSD (C : Addr) (sp : Sp) (dvs : List V) (E : L2.St → XK) (t : TA) : TE := fun σ H Q => t σ H fun vs H1 => ∀ x dx, H1 x = none → H1 dx = none → dx ≠ x →
  sp (.ref x :: (vs ++ dvs)) (upd (upd H1 dx (.own x)) x (.ins C dx [])) (fun v H2 => v = .non ∧ Q (.ref x) H2) (E σ)
theorem run_makeSD {CX : CXT} {fd : FuncData} {spL : Sp} {dvs : List V} {ds : List Value} {E : XK} {pins : List (Addr × Obj)} {σ : L2.St} {H : Hp} {s : Shared} {Q : VK} {us : List Value} {vs : List V} (M : Mk X.K C f) (F : FnOk X.prog X.w X.K X.mg X.base CX k f fd ps spL) (hr : Room (k + 1) X.A) (hb : Binds X.K fd ps ds) (hd : Vals dvs ds)
    (hx : PassesAt CX X σ E) (I : Inv X pins σ H s) (r : Vals vs us)
    (h : ∀ x dx, H x = none → H dx = none → dx ≠ x → spL (.ref x :: (vs ++ dvs)) (upd (upd H dx (.own x)) x (.ins C dx [])) (fun v H2 => v = .non ∧ Q (.ref x) H2) E) :
    wpAny (model X.prog X.w) X.A (call (.ref C) us) (EP X pins σ Q) X.xe s := by
  have hq := h (s.heap.objs.size + 1) s.heap.objs.size (I.hok.fresh (Nat.le_succ _)) (I.hok.fresh (Nat.le_refl _)) (Nat.ne_of_lt (Nat.lt_succ_self _))
  have I2 := Inv.made (C := C) I
  have r2 : Vals (V.ref (s.heap.objs.size + 1) :: (vs ++ dvs)) (Value.ref (s.heap.objs.size + 1) :: (us ++ ds)) := .cons rfl (r.append hd)
  have hl : (Value.ref (s.heap.objs.size + 1) :: us ++ ds).length = ps.length := by
    have e := r2.length
    rw [F.len _ _ _ _ hq] at e
    exact e.symm
  refine wpAny_call (make_map (f := f) I.kIn M.makes M.init (beq_iff_eq.mp M.fn) (codeAny_mono (F.run _ X.stack _ _ ⟨Value.ref (s.heap.objs.size + 1) :: us, []⟩ (Value.ref (s.heap.objs.size + 1) :: (us ++ ds)) _ _ E (hr.make C us [])
    (I2.env0.make C us []) (hb _ (Value.ref (s.heap.objs.size + 1) :: us) I2.kIn hl) r2 hq) fun r s' hq' => ?_))
  cases r with
  | error e => exact hx pins _ _ e s' I2 hq'
  | ok fl =>
    cases fl with
    | ret u =>
      obtain ⟨v, H', I3, rv, ev, q3⟩ := I2.after hq'
      subst ev
      exact ⟨rv, ⟨V.ref (s.heap.objs.size + 1), H', I3, rfl, q3⟩⟩
    | next => exact False.elim hq'
    | brk => exact False.elim hq'
    | cont => exact False.elim hq'
theorem pe_makeSD {CX : CXT} {fd : FuncData} {spL : Sp} {dvs : List V} {ds : List Value} {E : L2.St → XK} {t : TA} (M : Mk X.K C f) (F : FnOk X.prog X.w X.K X.mg X.base CX k f fd ps spL) (hr : Room (k + 1) X.A) (hg : Gl X x) (hm : X.mg x = some (.ref C)) (hb : Binds X.K fd ps ds) (hd : Vals dvs ds) (hx : ∀ σ, PassesAt CX X σ (E σ))
    (ha : PA X (e :: es) t) (hdb : (x == ("__debug__" : Str)) = false := by decide) (he : starEach (e :: es) X.env = (false, eval e X.env) :: starEach es X.env := by rfl) (hpl : (backTo pos (starEach es X.env)).any (·.1) = false := by rfl) :
    PE X (.Call (.Name x p) (e :: es) [] pos) (tMakeSD C spL dvs E t) := by
  refine ⟨fun pins s σ H Q I h => ?_⟩
  refine wpAny_Call_Name_kw (ld_glob I hg hm ?_ hdb)
  refine PySem.W.callWith_K (h₀ := X.base) I.ok.mod.kin M.kp (thn (ha.run pos pins s σ H _ I h) fun us s1 ⟨vs, H1, I1, r, q⟩ => ⟨I1.kIn, ?_⟩) he hpl
  exact run_makeSD M F hr hb hd (hx σ) I1 r q
theorem lfMakeM {K : PySem.W.Frag} {B : Hp} {Φ : Hp → Prop} {W : DW} {t : TA} {dvs : List V} {C : Str} (hd : ∀ H, RpA K H dvs dds) (l : LfA K B Φ t d) : LfE K B Φ (tMakeSD (He.ga K C) (low K sp) dvs (WE (lowW K B Φ W)) t) (dMakeM C sp dds W d) := fun Hf σ H Γ μ Hc Hm Q R hΦ rel h kn =>
  l Hf σ H Γ μ Hc Hm _ _ hΦ rel h fun xs H1 ds μ1 Hc1 Hm1 h1 rel1 ra1 ex1 x dx hx hdx hne => by
    obtain ⟨rel2, ex2⟩ := rel1.newc (o := .own x) hdx
    have hx2 : upd H1 dx (.own x) x = none := by rw [upd_ne (Ne.symm hne)]; exact hx
    obtain ⟨rel3, hn⟩ := rel2.newm (o := .ins (He.ga K C) dx []) (m := .ins C []) hx2 ⟨rfl, .nil⟩
    refine ⟨_, _, Hf, .adr x :: (ds ++ dds), _, _, _, rel3.pt, rel3.mu, .cons (.adr x) ((ra1.mono ex2).append (hd _)), h1 x hn, fun v H' y μ' Hc' Hm' a b c e g => ?_, fun n gs μ' H' Hc' Hm' dx fs a b c e g hx => ⟨n, gs, Γ, μ', Hc', Hm', Hf, dx, fs, rfl, rfl, e, g, hΦ, ⟨b, rel3.ex.trans hx, rel3.sg.mono hx, c⟩, a⟩⟩
    obtain ⟨rfl, a⟩ := a
    exact ⟨e.non_inv, kn _ H' _ μ' Hc' Hm' a ⟨b, rel3.ex.trans g, rel3.sg.mono g, c⟩ (.adr x) ((ex1.trans ex2).trans g)⟩
theorem lfMake {K : PySem.W.Frag} {B : Hp} {Φ : Hp → Prop} {W : DW} {t : TA} {dvs : List V} {C : Str} (hd : ∀ H, RpA K H dvs dds) (l : LfA K B Φ t d) : LfE K B Φ (tMakeSD (He.ga K C) (low K sp) dvs (WE (lowW K B Φ W)) t) (dMake C sp dds W d) := fun Hf σ H Γ μ Hc Hm Q R hΦ rel h kn =>
  l Hf σ H Γ μ Hc Hm _ _ hΦ rel h fun xs H1 ds μ1 Hc1 Hm1 h1 rel1 ra1 ex1 x dx hx hdx hne => by
    obtain ⟨rel2, ex2⟩ := rel1.newc (o := .own x) hdx
    have hx2 : upd H1 dx (.own x) x = none := by rw [upd_ne (Ne.symm hne)]; exact hx
    obtain ⟨rel3, hn⟩ := rel2.newm (o := .ins (He.ga K C) dx []) (m := .ins C []) hx2 ⟨rfl, .nil⟩
    refine ⟨_, _, Hf, .adr x :: (ds ++ dds), _, _, _, rel3.pt, rel3.mu, .cons (.adr x) ((ra1.mono ex2).append (hd _)), h1 x hn, fun v H' y μ' Hc' Hm' a b c e g => ?_, fun n gs μ' H' Hc' Hm' dx fs a b c e g hx => ⟨n, gs, Γ, μ', Hc', Hm', Hf, dx, fs, rfl, rfl, e, g, hΦ, ⟨b, rel3.ex.trans hx, rel3.sg.mono hx, c⟩, a⟩⟩
    obtain ⟨rfl, gs, hgs, a⟩ := a
    refine ⟨e.non_inv, ?_⟩
    obtain ⟨o, ho, q⟩ := c.get hgs
    cases o with
    | ins C' dx fs =>
      obtain ⟨rfl, rf⟩ := q
      obtain ⟨pt2, ex3⟩ := b.commit ho
      exact kn _ H' _ _ _ _ a ⟨pt2, (rel3.ex.trans g).trans ex3, (rel3.sg.mono g).mono ex3, c.del.mono ex3⟩ (.obj upd_same (rf.mono ex3)) (((ex1.trans ex2).trans g).trans ex3)
    | _ => exact q.elim
theorem de_make {C : Str} (M : Mk X.K (He.ga X.K C) f) (F : DFn X.prog X.w X.K X.mg X.base k f ps dds sp) (hr : Room (k + 1) X.A) (hm : X.mg x = some (.ref (He.ga X.K C))) (ha : DA X L (e :: es) d) (hg : Gl X x := by rfl) (hdb : (x == ("__debug__" : Str)) = false := by decide)
    (he : starEach (e :: es) X.env = (false, eval e X.env) :: starEach es X.env := by rfl) (hpl : (backTo pos (starEach es X.env)).any (·.1) = false := by rfl) :
    DE X L (.Call (.Name x p) (e :: es) [] pos) (dMake C sp dds L.W d) := by
  obtain ⟨fd, dvs, ds, F1, hb, hd, hrp⟩ := F.ex
  obtain ⟨t, pa, l⟩ := ha
  exact ⟨_, pe_makeSD M F1 hr hg hm hb hd (fun σ => passAt L.tk σ) pa hdb he hpl, lfMake hrp l⟩
theorem de_makeM {C : Str} (M : Mk X.K (He.ga X.K C) f) (F : DFn X.prog X.w X.K X.mg X.base k f ps dds sp) (hr : Room (k + 1) X.A) (hm : X.mg x = some (.ref (He.ga X.K C))) (ha : DA X L (e :: es) d) (hg : Gl X x := by rfl) (hdb : (x == ("__debug__" : Str)) = false := by decide)
    (he : starEach (e :: es) X.env = (false, eval e X.env) :: starEach es X.env := by rfl) (hpl : (backTo pos (starEach es X.env)).any (·.1) = false := by rfl) :
    DE X L (.Call (.Name x p) (e :: es) [] pos) (dMakeM C sp dds L.W d) := by
  obtain ⟨fd, dvs, ds, F1, hb, hd, hrp⟩ := F.ex
  obtain ⟨t, pa, l⟩ := ha
  exact ⟨_, pe_makeSD M F1 hr hg hm hb hd (fun σ => passAt L.tk σ) pa hdb he hpl, lfMakeM hrp l⟩
end

/-! ### a store to a field of a changing object -/
def dFldS (C : Str) (f : Str) (da dv : DT) : DS := fun De Γ μ => dv Γ μ fun y μ1 => da Γ μ1 fun x μ2 => ∃ a gs, x = .adr a ∧ μ2 a = some (.ins C gs) ∧ gs.length < 1000 ∧ De.nx Γ (updM μ2 a (.ins C (putD f y gs)))
theorem dst_fld {X : Cx} {L : Lc X} {o e : Expr} {da dv : DT} {f : Str} {pos pos' : Pos} (C : Str) (ha : DE X L o da) (hv : DE X L e dv) (hc : Cls X.K (He.ga X.K C)) (hn : NoAttr X.K (He.ga X.K C) f) (hs : swapsWith e (some (.Attribute o f pos')) pos.line X.env = pure false := by rfl) :
    DSt X L (.Assign [.Attribute o f pos'] e pos) (dFldS C f da dv) := by
  obtain ⟨ta, p, la⟩ := ha
  obtain ⟨tv, p2, lv⟩ := hv
  refine ⟨_, ps_fld p p2 hs, fun Hf σ H Γ μ Hc Hm D De hΦ rel h k => lv Hf σ H Γ μ Hc Hm _ _ hΦ rel h fun y H1 dy μ1 Hc1 Hm1 h1 rel1 rp1 ex1 => la Hf σ H1 Γ μ1 Hc1 Hm1 _ _ hΦ rel1 h1 fun x H2 dx μ2 Hc2 Hm2 h2 rel2 rp2 ex2 => ?_⟩
  obtain ⟨a, gs, rfl, hm, hz, hk⟩ := h2
  have e := rp2.adr_inv
  subst e
  obtain ⟨oo, ho, q⟩ := rel2.get hm
  cases oo with
  | ins C' dx fs =>
    obtain ⟨rfl, rf⟩ := q
    exact ⟨_, _, _, _, rfl, ho, hc, hn, by rw [rf.length]; exact hz, k.nx _ _ _ _ _ _ hk (rel2.setm hm ⟨rfl, rf.put (rp1.mono ex2)⟩) (ex1.trans ex2)⟩
  | _ => exact q.elim

/-! ### while -/
def dWhile (c : DTT) (tb : DS) : DS := fun De Γ μ => ∃ W : Nat → DEn → Mu → Prop, (∃ m, W m Γ μ) ∧ ∀ m Γ μ, W m Γ μ → c Γ μ fun b μ1 => if b = true then tb { De with nx := fun Γ' μ' => ∃ m', m' < m ∧ W m' Γ' μ', ct := fun Γ' μ' => ∃ m', m' < m ∧ W m' Γ' μ', bk := De.nx } Γ μ1 else De.nx Γ μ1
theorem dst_while {X : Cx} {L : Lc X} {c : Expr} {body : List Stmt} {dc : DTT} {db : DS} {pos : Pos} (hp : PassesOwn (model X.prog X.w) X.A X.env X.xe) (hc : DTs X L c dc) (hb : DSs X L body db) : DSt X L (.While c body [] pos) (dWhile dc db) := by
  obtain ⟨tc, p, lc⟩ := hc
  obtain ⟨tb, p2, lb⟩ := hb
  refine ⟨_, ps_while hp p p2, fun Hf σ H Γ μ Hc Hm D De hΦ rel h k => ?_⟩
  obtain ⟨W, ⟨m0, w0⟩, turn⟩ := h
  refine ⟨fun m σ' H' => ∃ Γ' μ' Hc' Hm', W m Γ' μ' ∧ Rel X.K L.B Hf σ' H' Γ' μ' Hc' Hm' ∧ Ex Hc Hc', ⟨m0, Γ, μ, Hc, Hm, w0, rel, Ex.refl _⟩, ?_⟩
  rintro m σ' H' ⟨Γ', μ', Hc', Hm', w', rel', ex'⟩
  refine lc Hf σ' H' Γ' μ' Hc' Hm' _ _ hΦ rel' (turn m Γ' μ' w') fun b H1 μ1 Hc1 Hm1 h1 rel1 ex1 => ?_
  cases b with
  | false => exact iteF (k.nx _ _ _ _ _ _ (by simpa using h1) rel1 (ex'.trans ex1))
  | true =>
    refine iteT ⟨fun σ2 H2 => ∃ m', m' < m ∧ ∃ Γ' μ' Hc' Hm', W m' Γ' μ' ∧ Rel X.K L.B Hf σ2 H2 Γ' μ' Hc' Hm' ∧ Ex Hc Hc', fun σ2 H2 q => q, ?_⟩
    have ex2 := ex'.trans ex1
    refine lb Hf σ' H1 Γ' μ1 Hc1 Hm1 _ _ hΦ rel1 (by simpa using h1) ⟨?_, ?_, ?_, ?_⟩
    · rintro σ3 H3 Γ3 μ3 Hc3 Hm3 ⟨m', hm, w3⟩ rel3 ex3
      exact ⟨m', hm, Γ3, μ3, Hc3, Hm3, w3, rel3, ex2.trans ex3⟩
    · exact fun v σ3 H3 x Γ3 μ3 Hc3 Hm3 a b c e => k.rt v σ3 H3 x Γ3 μ3 Hc3 Hm3 a b c (ex2.trans e)
    · exact fun σ3 H3 Γ3 μ3 Hc3 Hm3 a b c => k.nx σ3 H3 Γ3 μ3 Hc3 Hm3 a b (ex2.trans c)
    · rintro σ3 H3 Γ3 μ3 Hc3 Hm3 ⟨m', hm, w3⟩ rel3 ex3
      exact ⟨m', hm, Γ3, μ3, Hc3, Hm3, w3, rel3, ex2.trans ex3⟩
end Nod
set_option Elab.async false
set_option linter.all false
set_option maxRecDepth 100000
set_option maxHeartbeats 4000000
namespace Nod
open PySem PySem.Spec PyProof.Rows L2
open Evl (Ex)

/-! ### a list or a tuple, walked -/
/-- true: a list, false: a tuple -/
def SqX (K : PySem.W.Frag) (k : Bool) (H : Hp) (a : Addr) (xs : List V) : Prop := if k = true then SqL K H a xs else SqT K H a xs
def IsX (k : Bool) (h : Heap) (a : Addr) (its : Array Value) : Prop := if k = true then h.IsList a its else h.IsTuple a its
def ItX (k : Bool) (h : Heap) (it a : Addr) (i : Nat) : Prop := if k = true then h.IsListIter it a i else h.IsTupleIter it a i
def oX (k : Bool) (a : Addr) : Obj := if k = true then { cls := .type "list_iterator", data := .fields #[.ref a, .int 0 0] } else { cls := .type "tuple_iterator", data := .fields #[.ref a, .int 0 0] }
section
variable {X : Cx} {pins : List (Addr × Obj)} {σ : L2.St} {H : Hp} {s : Shared} {a : Addr} {xs ys : List V} {k : Bool} {h h' : Heap} {it : Addr} {i : Nat} {its : Array Value}
theorem sqx_get (I : Inv X pins σ H s) (h : SqX X.K k H a xs) : ∃ its : List Value, Vals xs its ∧ IsX k s.heap a its.toArray ∧ a < s.heap.objs.size := by
  cases k with
  | true =>
    obtain ⟨its, rv, p, _⟩ := I.list (show SqL X.K H a xs from h)
    exact ⟨its, rv, p.isList, p.lt⟩
  | false =>
    obtain ⟨its, rv, p, _⟩ := I.tuple (show SqT X.K H a xs from h)
    obtain ⟨o1, ho1, _⟩ := id p
    exact ⟨its, rv, (show s.heap.IsTuple a its.toArray from p), Heap.lt_size ho1⟩
theorem sqx_inj (I : Inv X pins σ H s) (h : SqX X.K k H a xs) (h' : SqX X.K k H a ys) : xs = ys := by
  cases k with
  | true => exact I.list_inj h h'
  | false => exact I.tuple_inj h h'
theorem itx_at (x : ItX k h it a i) (e : ∀ o, h.get? it = some o → h'.get? it = some o) : ItX k h' it a i := by
  cases k with
  | true => exact Heap.IsListIter.at x e
  | false => exact Heap.IsTupleIter.at x e
theorem itx_obj (x : ItX k h it a i) : ∃ o, h.get? it = some o ∧ ∀ v, o.data ≠ .cell v := by
  cases k with
  | true =>
    obtain ⟨o, e, _, d⟩ := (show h.IsListIter it a i from x)
    exact ⟨o, e, fun v q => by rw [d] at q; cases q⟩
  | false =>
    obtain ⟨o, e, _, d⟩ := (show h.IsTupleIter it a i from x)
    exact ⟨o, e, fun v q => by rw [d] at q; cases q⟩
theorem itx_start {h : Heap} {it a : Addr} (e : h.get? it = some (oX k a)) : ItX k h it a 0 := by
  cases k with
  | true => exact ⟨_, e, rfl, rfl⟩
  | false => exact ⟨_, e, rfl, rfl⟩
theorem begins_X (k : Bool) (a : Addr) (its : Array Value) : Begins (.ref a) (oX k a) fun h => IsX k h a its := by
  cases k with
  | true => exact begins_list a its
  | false => exact begins_tuple a its
theorem draws_X {prog : Program} {w : World} {A : Around} (hh : A.handled = none) (k : Bool) (it l : Addr) (hne : l ≠ it) (items : Array Value) :
    Draws prog w A it [it, l] items.size (fun i v => items[i]? = some v) (fun i h => ItX k h it l i ∧ IsX k h l items) := by
  cases k with
  | true => exact Draws.list hh it l hne items
  | false => exact Draws.tuple hh it l hne items
end
def iSeq (K : PySem.W.Frag) (te : TE) : TI := fun σ H R => te σ H fun x H1 => ∃ a xs, x = .ref a ∧ ((SqL K H1 a xs ∧ R (Itl K a) H1) ∨ (SqT K H1 a xs ∧ R (Itt K a) H1))
theorem pi_seq {X : Cx} {tg l : Expr} {tl : TE} (hl : PE X l tl) : PI X tg l (iSeq X.K tl) := by
  refine ⟨fun pins s σ H R I h => ?_⟩
  refine thn (hl.run pins s σ H _ I h) fun v s1 ⟨x, H1, I1, r1, q1⟩ => ?_
  obtain ⟨a, xs, e, q⟩ := q1
  subst e
  cases r1
  have fr : ∀ b ∈ [s1.heap.objs.size], FpOk X pins H1 b := fun b hb => by
    have e : b = s1.heap.objs.size := by simpa using hb
    subst e
    exact I1.fpOk (Nat.le_refl _) (I1.hok.fresh (Nat.le_refl _))
  rcases q with ⟨hq, q⟩ | ⟨hq, q⟩
  · obtain ⟨its, rv, p, hz⟩ := I1.list hq
    refine wpAny_pyIter_list p.isList ?_
    exact ⟨s1.heap.objs.size, [s1.heap.objs.size], _, _, H1, rfl, I1.kept (t' := s1.toks) fun b o e => Heap.get?_push_of_some _ e, turn_list a _, ⟨_, Heap.get?_push_size _ rfl, rfl, rfl⟩, fr, q⟩
  · obtain ⟨its, rv, p, hz⟩ := I1.tuple hq
    refine wpAny_pyIter_tuple (show s1.heap.IsTuple a its.toArray from p) ?_
    exact ⟨s1.heap.objs.size, [s1.heap.objs.size], _, _, H1, rfl, I1.kept (t' := s1.toks) fun b o e => Heap.get?_push_of_some _ e, turn_tuple a _, ⟨_, Heap.get?_push_size _ rfl, rfl, rfl⟩, fr, q⟩

/-! ### zip of two, lists or tuples -/
def ItzX (K : PySem.W.Frag) (k1 k2 : Bool) (a b : Addr) : It :=
  ⟨fun i H => ∃ (xs ys : List V) (x y : V), SqX K k1 H a xs ∧ SqX K k2 H b ys ∧ xs[i]? = some x ∧ ys[i]? = some y,
    fun i H v H' => ∃ T x y, v = .ref T ∧ H T = none ∧ H' = upd H T (.tup [x, y]) ∧ (∀ xs, SqX K k1 H a xs → xs[i]? = some x) ∧ ∀ ys, SqX K k2 H b ys → ys[i]? = some y,
    fun i H => ∃ xs ys : List V, SqX K k1 H a xs ∧ SqX K k2 H b ys ∧ i ≤ xs.length ∧ i ≤ ys.length ∧ (i = xs.length ∨ i = ys.length)⟩
theorem turn_zipX {P : Program} {w : World} {K : PySem.W.Frag} {k1 k2 : Bool} {elts : List Expr} {kk : Nat} {tpos : Pos} {a b z TI TO i1 i2 : Addr} (D : ZipSep2 z TI TO i1 i2 [i1, a] [i2, b]) :
    Turn P w K (.Tuple elts kk tpos) (ItzX K k1 k2 a b) [z, TI, TO, i1, i2] z (fun i h => IsZip h z TI TO .none ∧ IsTupOf2 h TI (.ref i1) (.ref i2) ∧ (∃ x y, IsTupOf2 h TO x y) ∧ ItX k1 h i1 a i ∧ ItX k2 h i2 b i) where
  mem := by simp
  obj := fun i h st c hc => by
    obtain ⟨hz, hTI, ⟨x, y, hTO⟩, h1, h2⟩ := st
    obtain ⟨o1, e1, d1⟩ := itx_obj h1
    obtain ⟨o2, e2, d2⟩ := itx_obj h2
    have e' : c = z ∨ c = TI ∨ c = TO ∨ c = i1 ∨ c = i2 := by simpa using hc
    rcases e' with q | q | q | q | q
    · rw [q]; exact ⟨_, hz, fun v q => nomatch q⟩
    · rw [q]; exact ⟨_, hTI, fun v q => nomatch q⟩
    · rw [q]; exact ⟨_, hTO, fun v q => nomatch q⟩
    · rw [q]; exact ⟨o1, e1, d1⟩
    · rw [q]; exact ⟨o2, e2, d2⟩
  keep := fun i h h' st k => by
    obtain ⟨hz, hTI, ⟨x, y, hTO⟩, h1, h2⟩ := st
    exact ⟨k z (by simp) _ hz, k TI (by simp) _ hTI, ⟨x, y, k TO (by simp) _ hTO⟩, itx_at h1 fun o q => k i1 (by simp) o q, itx_at h2 fun o q => k i2 (by simp) o q⟩
  item := by
    intro X hP hw hK hc i pins s σ H E I hf st hg
    subst hP hw hK
    obtain ⟨hz, hTI, ⟨x0, y0, hTO⟩, h1, h2⟩ := st
    obtain ⟨xs, ys, x, y, hqx, hqy, hx, hy⟩ := hg
    obtain ⟨its, rv, p, la⟩ := sqx_get I hqx
    obtain ⟨its2, rv2, p2, lb⟩ := sqx_get I hqy
    obtain ⟨u, hu, ru⟩ := rv.get hx
    obtain ⟨u2, hu2, ru2⟩ := rv2.get hy
    have hzl : z < s.heap.objs.size := Heap.lt_size hz
    have hh : X.A.in1.handled = none := I.ok.hd hc
    have l1 : i < its.toArray.size := by simpa using (List.getElem?_eq_some_iff.mp hu).1
    have l2 : i < its2.toArray.size := by simpa using (List.getElem?_eq_some_iff.mp hu2).1
    have nai : a ≠ i1 := fun q => by
      have q1 := (hf i1 (by simp)).1
      obtain ⟨o, eo, _⟩ := itx_obj h1
      cases k1 with
      | true =>
        have q2 : SqL X.K H a xs := hqx
        rcases q2 with (q2 | ⟨_, q2⟩) | ⟨ob, _, _, q2, _⟩
        · rw [q, q1] at q2; cases q2
        · rw [q, q1] at q2; cases q2
        · have q3 := I.kIn a ob q2
          rw [q] at q3
          have q4 := (hf i1 (by simp)).2.2.2.1
          rcases q4 with q4 | q4
          · exact I.ok.noex _ _ (I.ok.mod.kin a ob q2) (q ▸ q4)
          · exact absurd (Heap.lt_size (I.ok.mod.kin a ob q2)) (Nat.not_lt_of_le (Nat.le_trans I.ok.bsz (q ▸ q4)))
      | false =>
        have q2 : SqT X.K H a xs := hqx
        rcases q2 with (q2 | ⟨_, q2⟩) | ⟨ob, _, _, q2, _⟩
        · rw [q, q1] at q2; cases q2
        · rw [q, q1] at q2; cases q2
        · have q4 := (hf i1 (by simp)).2.2.2.1
          rcases q4 with q4 | q4
          · exact I.ok.noex _ _ (I.ok.mod.kin a ob q2) (q ▸ q4)
          · exact absurd (Heap.lt_size (I.ok.mod.kin a ob q2)) (Nat.not_lt_of_le (Nat.le_trans I.ok.bsz (q ▸ q4)))
    have nbi : b ≠ i2 := fun q => by
      have q1 := (hf i2 (by simp)).1
      cases k2 with
      | true =>
        have q2 : SqL X.K H b ys := hqy
        rcases q2 with (q2 | ⟨_, q2⟩) | ⟨ob, _, _, q2, _⟩
        · rw [q, q1] at q2; cases q2
        · rw [q, q1] at q2; cases q2
        · have q4 := (hf i2 (by simp)).2.2.2.1
          rcases q4 with q4 | q4
          · exact I.ok.noex _ _ (I.ok.mod.kin b ob q2) (q ▸ q4)
          · exact absurd (Heap.lt_size (I.ok.mod.kin b ob q2)) (Nat.not_lt_of_le (Nat.le_trans I.ok.bsz (q ▸ q4)))
      | false =>
        have q2 : SqT X.K H b ys := hqy
        rcases q2 with (q2 | ⟨_, q2⟩) | ⟨ob, _, _, q2, _⟩
        · rw [q, q1] at q2; cases q2
        · rw [q, q1] at q2; cases q2
        · have q4 := (hf i2 (by simp)).2.2.2.1
          rcases q4 with q4 | q4
          · exact I.ok.noex _ _ (I.ok.mod.kin b ob q2) (q ▸ q4)
          · exact absurd (Heap.lt_size (I.ok.mod.kin b ob q2)) (Nat.not_lt_of_le (Nat.le_trans I.ok.bsz (q ▸ q4)))
    refine wpAny_pyNext_zipD2_item D (draws_X hh k1 i1 a nai its.toArray) (draws_X hh k2 i2 b nbi its2.toArray) hz hTI hTO ⟨h1, p⟩ ⟨h2, p2⟩ l1 l2 fun x1 x2 h' tk e1 e2 z' TO' st1 st2 hT hsz hk => ?_
    have ex1 : u = x1 := by have q : its.toArray[i]? = some x1 := e1; rw [List.getElem?_toArray, hu] at q; exact Option.some.inj q
    have ex2 : u2 = x2 := by have q : its2.toArray[i]? = some x2 := e2; rw [List.getElem?_toArray, hu2] at q; exact Option.some.inj q
    subst ex1 ex2
    refine ⟨_, rfl, wpAny_letOwnedTupleGo_zip (s := { s with heap := h', toks := tk }) z' fun h'' z'' sb => ?_⟩
    have hT2 : h''.get? s.heap.objs.size = some { cls := .type "tuple", data := .seq #[u, u2] } := (sb.2 _ (Nat.ne_of_gt hzl)).trans hT
    have new : ObjOk X.prog X.w (upd H s.heap.objs.size (.tup [x, y])) h'' s.heap.objs.size (.tup [x, y]) :=
      ⟨by show 2 ≤ sizeLine; decide, [u, u2], .cons ru (.cons ru2 .nil), ⟨_, hT2, rfl, _, rfl⟩⟩
    have I1 : Inv X pins σ (upd H s.heap.objs.size (.tup [x, y])) { s with heap := h'', toks := tk } :=
      I.turnedNew (t' := tk) (ch := [z, TI, TO, i1, i2]) (fun c o hb q => (sb.2 c (fun q' => hb (by simp [q']))).trans (hk c o (fun q' => hb (by simp [q'])) (fun q' => hb (by simp [q'])) (fun q' => hb (by simp [q'])) (fun q' => hb (by simp [q'])) q)) hf (Nat.le_refl _) new
    refine ⟨.ref s.heap.objs.size, _, I1, rfl, ⟨_, x, y, rfl, I.hok.fresh (Nat.le_refl _), rfl, fun l hl => by rw [sqx_inj I hl hqx]; exact hx, fun l hl => by rw [sqx_inj I hl hqy]; exact hy⟩, ⟨z'', ?_, ⟨u, u2, ?_⟩, ?_, ?_⟩, fun c hcm => ?_⟩
    · exact (sb.2 _ D.TIz).trans (hk _ _ D.TIz D.TITO D.TIi1 D.TIi2 hTI)
    · exact (sb.2 _ D.TOz).trans TO'
    · exact itx_at st1.1 fun o q => (sb.2 _ (Ne.symm D.zi1)).trans q
    · exact itx_at st2.1 fun o q => (sb.2 _ (Ne.symm D.zi2)).trans q
    · have hlt : c < s.heap.objs.size := by
        have e' : c = z ∨ c = TI ∨ c = TO ∨ c = i1 ∨ c = i2 := by simpa using hcm
        rcases e' with q | q | q | q | q
        · rw [q]; exact hzl
        · rw [q]; exact Heap.lt_size hTI
        · rw [q]; exact Heap.lt_size hTO
        · rw [q]; obtain ⟨_, e1, _⟩ := itx_obj h1; exact Heap.lt_size e1
        · rw [q]; obtain ⟨_, e2, _⟩ := itx_obj h2; exact Heap.lt_size e2
      rw [upd_ne (Nat.ne_of_lt hlt)]
      exact (hf c hcm).1
  done := by
    intro X hP hw hK hc i pins s σ H E I hf st hg
    subst hP hw hK
    obtain ⟨hz, hTI, ⟨x0, y0, hTO⟩, h1, h2⟩ := st
    obtain ⟨xs, ys, hqx, hqy, le1, le2, hend⟩ := hg
    obtain ⟨its, rv, p, la⟩ := sqx_get I hqx
    obtain ⟨its2, rv2, p2, lb⟩ := sqx_get I hqy
    have hh : X.A.in1.handled = none := I.ok.hd hc
    have l1 := rv.length
    have l2 := rv2.length
    have nx : ∀ (k : Bool) (a j : Addr) (xs : List V), SqX X.K k H a xs → FpOk X pins H j → a ≠ j := fun k a j xs hq fp q => by
      cases k with
      | true =>
        have q2 : SqL X.K H a xs := hq
        rcases q2 with (q2 | ⟨_, q2⟩) | ⟨ob, _, _, q2, _⟩
        · rw [q, fp.1] at q2; cases q2
        · rw [q, fp.1] at q2; cases q2
        · rcases fp.2.2.2.1 with q4 | q4
          · exact I.ok.noex _ _ (I.ok.mod.kin a ob q2) (q ▸ q4)
          · exact absurd (Heap.lt_size (I.ok.mod.kin a ob q2)) (Nat.not_lt_of_le (Nat.le_trans I.ok.bsz (q ▸ q4)))
      | false =>
        have q2 : SqT X.K H a xs := hq
        rcases q2 with (q2 | ⟨_, q2⟩) | ⟨ob, _, _, q2, _⟩
        · rw [q, fp.1] at q2; cases q2
        · rw [q, fp.1] at q2; cases q2
        · rcases fp.2.2.2.1 with q4 | q4
          · exact I.ok.noex _ _ (I.ok.mod.kin a ob q2) (q ▸ q4)
          · exact absurd (Heap.lt_size (I.ok.mod.kin a ob q2)) (Nat.not_lt_of_le (Nat.le_trans I.ok.bsz (q ▸ q4)))
    refine wpAny_pyNext_zipD2_end D (draws_X hh k1 i1 a (nx _ _ _ _ hqx (hf i1 (by simp))) its.toArray) (draws_X hh k2 i2 b (nx _ _ _ _ hqy (hf i2 (by simp))) its2.toArray) hz hTI hTO ⟨h1, p⟩ ⟨h2, p2⟩ (by simp; omega) (by simp; omega) (by simp; omega) fun h' tk hk => ?_
    exact ⟨rfl, I.turnedL (t' := tk) (ch := [z, TI, TO, i1, i2]) (fun c o hb q =>
      hk c o (fun q' => hb (by simp [q'])) (fun q' => hb (by simp [q'])) (fun q' => hb (by simp [q'])) (fun q' => hb (by simp [q'])) q) hf⟩
  self := fun A i s Q E st h => wpAny_pyIter_zip st.1 h
def iZipX (K : PySem.W.Frag) (ta : TA) : TI := fun σ H R => ta σ H fun vs H1 => ∃ a b xs ys k1 k2, vs = [.ref a, .ref b] ∧ SqX K k1 H1 a xs ∧ SqX K k2 H1 b ys ∧ R (ItzX K k1 k2 a b) H1
theorem pi_zipX {X : Cx} {e e2 : Expr} {ta : TA} {p pos tpos : Pos} {elts : List Expr} {kk : Nat} (hm : X.mg "zip" = none) (ha : PA X [e, e2] ta) (hg : Gl X "zip" := by rfl)
    (hs : starEach [e, e2] X.env = (false, eval e X.env) :: starEach [e2] X.env := by rfl) (hpl : (backTo pos (starEach [e2] X.env)).any (·.1) = false := by rfl) :
    PI X (.Tuple elts kk tpos) (.Call (.Name "zip" p) [e, e2] [] pos) (iZipX X.K ta) := by
  refine ⟨fun pins s σ H R I h => ?_⟩
  refine Call_ (ld_blt I hg hm PyProof.Rows.boot_zip (PyProof.Rows.callWith_type1 (thn (ha.run pos pins s σ H _ I h) fun us s1 ⟨vs, H1, I1, r1, q1⟩ => ?_) hs hpl))
  obtain ⟨a, b, xs, ys, k1, k2, ex, hqx, hqy, q⟩ := q1
  subst ex
  cases r1 with
  | cons r rr =>
    cases rr with
    | cons r' rr =>
      cases rr
      cases r
      cases r'
      obtain ⟨its, rv, p1, la⟩ := sqx_get I1 hqx
      obtain ⟨its2, rv2, p2, lb⟩ := sqx_get I1 hqy
      refine zip_begins2 (begins_X k1 a its.toArray) (begins_X k2 b its2.toArray) p1 p2 fun h' hz hTI hTO h1 h2 hsz hk => wpAny_pyIter_zip hz ?_
      have I2 : Inv X pins σ H1 { s1 with heap := h' } := I1.kept (t' := s1.toks) hk
      refine ⟨s1.heap.objs.size + 4, [s1.heap.objs.size + 4, s1.heap.objs.size + 2, s1.heap.objs.size + 3, s1.heap.objs.size, s1.heap.objs.size + 1], _, _, H1, rfl, I2, turn_zipX (zip_sep2 (fp1 := [a]) (fp2 := [b]) (fun c hc => ?_) (fun c hc => ?_)), ⟨hz, hTI, ⟨_, _, hTO⟩, itx_start h1, itx_start h2⟩, fun c hcm => ?_, q⟩
      · rw [List.mem_singleton.mp hc]; exact la
      · rw [List.mem_singleton.mp hc]; exact lb
      · have e' : c = s1.heap.objs.size + 4 ∨ c = s1.heap.objs.size + 2 ∨ c = s1.heap.objs.size + 3 ∨ c = s1.heap.objs.size ∨ c = s1.heap.objs.size + 1 := by simpa using hcm
        have hle : s1.heap.objs.size ≤ c := by
          rcases e' with z | z | z | z | z
          · rw [z]; exact Nat.le_add_right _ _
          · rw [z]; exact Nat.le_add_right _ _
          · rw [z]; exact Nat.le_add_right _ _
          · rw [z]; exact Nat.le_refl _
          · rw [z]; exact Nat.le_add_right _ _
        exact I1.fpOk hle (I1.hok.fresh hle)
end Nod
set_option Elab.async false
set_option linter.all false
set_option maxRecDepth 100000
set_option maxHeartbeats 4000000
namespace Nod
open PySem PySem.Spec PyProof.Rows L2
open Evl (Ex)

/-! ### what is walked, as data -/
abbrev DIt := DEn → Mu → (Nat → (Nat → D) → Mu → Prop) → Prop
structure StepD (K : PySem.W.Frag) (Hc : Hp) (J : It) (n : Nat) (f : Nat → D) : Prop where
  goes : ∀ i H, i < n → Ex Hc H → J.go i H
  stops : ∀ H, Ex Hc H → J.stop n H
  yields : ∀ i H v H', i < n → Ex Hc H → J.yld i H v H' → (H' = H ∧ Rp K Hc v (f i)) ∨ ∃ T xs ds, v = .ref T ∧ H T = none ∧ H' = upd H T (.tup xs) ∧ f i = .tup ds ∧ RpA K Hc xs ds
def LfI (K : PySem.W.Frag) (B : Hp) (Φ : Hp → Prop) (wi : TI) (d : DIt) : Prop := ∀ (Hf : Hp) (σ : L2.St) (H : Hp) (Γ : DEn) (μ : Mu) (Hc Hm : Hp) (Q : It → Hp → Prop) (R : Nat → (Nat → D) → Mu → Prop), Φ Hf → Rel K B Hf σ H Γ μ Hc Hm → d Γ μ R →
  (∀ J H' n f μ' Hc' Hm', R n f μ' → Rel K B Hf σ H' Γ μ' Hc' Hm' → Ex Hc Hc' → StepD K Hc' J n f → Q J H') → wi σ H Q
def DI (X : Cx) (L : Lc X) (tg iter : Expr) (d : DIt) : Prop := ∃ wi, PI X tg iter wi ∧ LfI X.K L.B L.Φ wi d
def seqD : D → Option (List D)
  | .lst ds => some ds
  | .tup ds => some ds
  | .ftup ds => some ds
  | _ => none
/-- a tuple, seen to have no dict or not -/
def TupH (H : Hp) (a : Addr) (xs : List V) : Prop := H a = some (.tup xs) ∨ ∃ o, H a = some (.frz o (.tup xs))
theorem TupH.sq {K : PySem.W.Frag} {H : Hp} {a : Addr} {xs : List V} (h : TupH H a xs) : SqT K H a xs := h.elim SqT.of fun ⟨o, h⟩ => .inl (.inr ⟨o, h⟩)
theorem TupH.ex {H H' : Hp} (e : Ex H H') {a : Addr} {xs : List V} (h : TupH H a xs) : TupH H' a xs := h.elim (fun h => .inl (e _ _ h)) fun ⟨o, h⟩ => .inr ⟨o, e _ _ h⟩
def itD (ds : List D) : Nat → D := fun i => ds.getD i .non
def dISeq (da : DT) : DIt := fun Γ μ R => da Γ μ fun x μ1 => ∃ ds, seqD x = some ds ∧ R ds.length (itD ds) μ1
theorem rp_seq {K : PySem.W.Frag} {H : Hp} {v : V} {x : D} {ds : List D} (r : Rp K H v x) (h : seqD x = some ds) : ∃ a xs, v = .ref a ∧ RpA K H xs ds ∧ ((H a = some (.lst xs) ∧ x = .lst ds) ∨ (TupH H a xs ∧ (x = .tup ds ∨ x = .ftup ds))) := by
  cases r with
  | tup ht ra => cases h; exact ⟨_, _, rfl, ra, .inr ⟨.inl ht, .inl rfl⟩⟩
  | ftup ht hn ra => cases h; exact ⟨_, _, rfl, ra, .inr ⟨.inr ⟨_, ht⟩, .inr rfl⟩⟩
  | lst ht ra => cases h; exact ⟨_, _, rfl, ra, .inl ⟨ht, rfl⟩⟩
  | _ => cases h
theorem itD_get {ds : List D} {i : Nat} {d : D} (h : ds[i]? = some d) : itD ds i = d := by unfold itD; rw [List.getD_eq_getElem?_getD, h]; rfl
theorem step_list {K : PySem.W.Frag} {Hc : Hp} {a : Addr} {xs : List V} {ds : List D} (h : Hc a = some (.lst xs)) (r : RpA K Hc xs ds) : StepD K Hc (Itl K a) ds.length (itD ds) := by
  have hl := r.length
  refine ⟨fun i H hi e => ?_, fun H e => ⟨xs, SqL.of (e _ _ h), by omega⟩, fun i H v H' hi e y => ?_⟩
  · have hi' : i < xs.length := by omega
    exact ⟨xs, xs[i], SqL.of (e _ _ h), by simp [hi']⟩
  · obtain ⟨e1, y⟩ := y
    obtain ⟨d, h1, h2⟩ := r.get' (y xs (SqL.of (e _ _ h)))
    exact .inl ⟨e1, by rw [itD_get h1]; exact h2⟩
theorem step_tup {K : PySem.W.Frag} {Hc : Hp} {a : Addr} {xs : List V} {ds : List D} (h : TupH Hc a xs) (r : RpA K Hc xs ds) : StepD K Hc (Itt K a) ds.length (itD ds) := by
  have hl := r.length
  refine ⟨fun i H hi e => ?_, fun H e => ⟨xs, (h.ex e).sq, by omega⟩, fun i H v H' hi e y => ?_⟩
  · have hi' : i < xs.length := by omega
    exact ⟨xs, xs[i], (h.ex e).sq, by simp [hi']⟩
  · obtain ⟨e1, y⟩ := y
    obtain ⟨d, h1, h2⟩ := r.get' (y xs ((h.ex e).sq))
    exact .inl ⟨e1, by rw [itD_get h1]; exact h2⟩
section
variable {X : Cx} {L : Lc X} {tg l e e2 : Expr} {da db : DT} {d : DTA}
theorem di_seq (h : DE X L l da) : DI X L tg l (dISeq da) := by
  obtain ⟨t, p, la⟩ := h
  refine ⟨_, pi_seq p, fun Hf σ H Γ μ Hc Hm Q R hΦ rel h k => la Hf σ H Γ μ Hc Hm _ _ hΦ rel h fun x H1 dx μ1 Hc1 Hm1 h1 rel1 rp1 ex1 => ?_⟩
  obtain ⟨ds, hs, hR⟩ := h1
  obtain ⟨a, xs, rfl, ra, ⟨h2, _⟩ | ⟨h2, _⟩⟩ := rp_seq rp1 hs
  · exact ⟨a, xs, rfl, .inl ⟨SqL.of (rel1.pt.exc _ _ h2), k _ _ _ _ _ _ _ hR rel1 ex1 (step_list h2 ra)⟩⟩
  · exact ⟨a, xs, rfl, .inr ⟨(h2.ex rel1.pt.exc).sq, k _ _ _ _ _ _ _ hR rel1 ex1 (step_tup h2 ra)⟩⟩
def dIRng1 (d : DTA) : DIt := fun Γ μ R => d Γ μ fun xs μ1 => ∃ j : Int, xs = [.int j] ∧ -(2 ^ 62) ≤ j ∧ j < 2 ^ 62 ∧ R j.toNat (fun i => .int i) μ1
def dIRng2 (d : DTA) : DIt := fun Γ μ R => d Γ μ fun xs μ1 => ∃ i j : Int, xs = [.int i, .int j] ∧ (-(2 ^ 62) ≤ i ∧ i < 2 ^ 62 ∧ -(2 ^ 62) ≤ j ∧ j < 2 ^ 62) ∧ R (j - i).toNat (fun k => .int (i + k)) μ1
theorem RpA.one {K : PySem.W.Frag} {H : Hp} {vs : List V} {x : D} (r : RpA K H vs [x]) : ∃ v, vs = [v] ∧ Rp K H v x := by
  cases r with
  | cons h t => cases t; exact ⟨_, rfl, h⟩
theorem RpA.two {K : PySem.W.Frag} {H : Hp} {vs : List V} {x y : D} (r : RpA K H vs [x, y]) : ∃ v w, vs = [v, w] ∧ Rp K H v x ∧ Rp K H w y := by
  cases r with
  | cons h t =>
    obtain ⟨w, rfl, h2⟩ := t.one
    exact ⟨_, _, rfl, h, h2⟩
theorem RpA.zero {K : PySem.W.Frag} {H : Hp} {vs : List V} (r : RpA K H vs []) : vs = [] := by cases r; rfl
theorem step_rng {K : PySem.W.Frag} {Hc : Hp} {lo : Int} {n : Nat} : StepD K Hc (Itr lo n) n (fun i => .int (lo + i)) :=
  ⟨fun i H hi e => hi, fun H e => Nat.le_refl _, fun i H v H' hi e y => .inl ⟨y.1, by rw [y.2]; exact .int _⟩⟩
theorem di_rng1 {p pos : Pos} (hm : X.mg "range" = none) (ha : DA X L [e] d) (hg : Gl X "range" := by rfl) (hs : starEach [e] X.env = [(false, eval e X.env)] := by rfl) : DI X L tg (.Call (.Name "range" p) [e] [] pos) (dIRng1 d) := by
  obtain ⟨t, pa, la⟩ := ha
  refine ⟨_, pi_range1 hg hm pa hs, fun Hf σ H Γ μ Hc Hm Q R hΦ rel h k => la Hf σ H Γ μ Hc Hm _ _ hΦ rel h fun xs H1 ds μ1 Hc1 Hm1 h1 rel1 rp1 ex1 => ?_⟩
  obtain ⟨j, rfl, b1, b2, hR⟩ := h1
  obtain ⟨v, rfl, r⟩ := rp1.one
  cases r.int_inv
  refine ⟨j, rfl, b1, b2, k _ _ _ _ _ _ _ hR rel1 ex1 ?_⟩
  have e : (fun i : Nat => D.int (0 + (i : Int))) = fun i : Nat => D.int i := by funext i; rw [Int.zero_add]
  rw [← e]
  exact step_rng
theorem di_rng2 {p pos : Pos} (hm : X.mg "range" = none) (ha : DA X L [e, e2] d) (hg : Gl X "range" := by rfl) (hs : starEach [e, e2] X.env = [(false, eval e X.env), (false, eval e2 X.env)] := by rfl) (hs2 : starEach [e2] X.env = [(false, eval e2 X.env)] := by rfl) :
    DI X L tg (.Call (.Name "range" p) [e, e2] [] pos) (dIRng2 d) := by
  obtain ⟨t, pa, la⟩ := ha
  refine ⟨_, pi_range2 hg hm pa hs hs2, fun Hf σ H Γ μ Hc Hm Q R hΦ rel h k => la Hf σ H Γ μ Hc Hm _ _ hΦ rel h fun xs H1 ds μ1 Hc1 Hm1 h1 rel1 rp1 ex1 => ?_⟩
  obtain ⟨i, j, rfl, b, hR⟩ := h1
  obtain ⟨v, v2, rfl, r, r2⟩ := rp1.two
  cases r.int_inv
  cases r2.int_inv
  exact ⟨i, j, rfl, b, k _ _ _ _ _ _ _ hR rel1 ex1 step_rng⟩
def dIZip (d : DTA) : DIt := fun Γ μ R => d Γ μ fun xs μ1 => ∃ x y as bs, xs = [x, y] ∧ seqD x = some as ∧ seqD y = some bs ∧ R (min as.length bs.length) (fun i => .tup [itD as i, itD bs i]) μ1
theorem sqx_of {K : PySem.W.Frag} {Hc : Hp} {a : Addr} {xs : List V} {ds : List D} {x : D} (h : (Hc a = some (.lst xs) ∧ x = .lst ds) ∨ (TupH Hc a xs ∧ (x = .tup ds ∨ x = .ftup ds))) : ∃ k, ∀ H, Ex Hc H → SqX K k H a xs := by
  rcases h with ⟨h, _⟩ | ⟨h, _⟩
  · exact ⟨true, fun H e => SqL.of (e _ _ h)⟩
  · exact ⟨false, fun H e => (h.ex e).sq⟩
theorem di_zip {p pos tpos : Pos} {elts : List Expr} {kk : Nat} (hm : X.mg "zip" = none) (ha : DA X L [e, e2] d) (hg : Gl X "zip" := by rfl)
    (hs : starEach [e, e2] X.env = (false, eval e X.env) :: starEach [e2] X.env := by rfl) (hpl : (backTo pos (starEach [e2] X.env)).any (·.1) = false := by rfl) : DI X L (.Tuple elts kk tpos) (.Call (.Name "zip" p) [e, e2] [] pos) (dIZip d) := by
  obtain ⟨t, pa, la⟩ := ha
  refine ⟨_, pi_zipX hm pa hg hs hpl, fun Hf σ H Γ μ Hc Hm Q R hΦ rel h k => la Hf σ H Γ μ Hc Hm _ _ hΦ rel h fun xs H1 ds μ1 Hc1 Hm1 h1 rel1 rp1 ex1 => ?_⟩
  obtain ⟨x, y, as, bs, rfl, sx, sy, hR⟩ := h1
  obtain ⟨v, v2, rfl, r, r2⟩ := rp1.two
  obtain ⟨a, xs, rfl, ra, hx⟩ := rp_seq r sx
  obtain ⟨b, ys, rfl, rb, hy⟩ := rp_seq r2 sy
  obtain ⟨k1, q1⟩ := sqx_of (K := X.K) hx
  obtain ⟨k2, q2⟩ := sqx_of (K := X.K) hy
  have l1 := ra.length
  have l2 := rb.length
  refine ⟨a, b, xs, ys, k1, k2, rfl, q1 _ rel1.pt.exc, q2 _ rel1.pt.exc, k _ _ _ _ _ _ _ hR rel1 ex1 ⟨fun i H hi e => ?_, fun H e => ⟨xs, ys, q1 _ e, q2 _ e, by omega, by omega, by omega⟩, fun i H v H' hi e y => ?_⟩⟩
  · have h1 : i < xs.length := by omega
    have h2 : i < ys.length := by omega
    exact ⟨xs, ys, xs[i], ys[i], q1 _ e, q2 _ e, by simp [h1], by simp [h2]⟩
  · obtain ⟨T, x, y, rfl, hT, rfl, g1, g2⟩ := y
    obtain ⟨dx, e1, r1⟩ := ra.get' (g1 xs (q1 _ e))
    obtain ⟨dy, e2, r2⟩ := rb.get' (g2 ys (q2 _ e))
    exact .inr ⟨T, [x, y], [dx, dy], rfl, hT, rfl, by rw [itD_get e1, itD_get e2], .cons r1 (.cons r2 .nil)⟩
def dIEnum (d : DTA) : DIt := fun Γ μ R => d Γ μ fun xs μ1 => ∃ as, xs = [.lst as] ∧ R as.length (fun i => .tup [.int i, itD as i]) μ1
theorem di_enum {p pos tpos : Pos} {elts : List Expr} {kk : Nat} (hm : X.mg "enumerate" = none) (ha : DA X L [e] d) (hg : Gl X "enumerate" := by rfl) (hs : starEach [e] X.env = [(false, eval e X.env)] := by rfl) : DI X L (.Tuple elts kk tpos) (.Call (.Name "enumerate" p) [e] [] pos) (dIEnum d) := by
  obtain ⟨t, pa, la⟩ := ha
  refine ⟨_, pi_enum hg hm pa hs, fun Hf σ H Γ μ Hc Hm Q R hΦ rel h k => la Hf σ H Γ μ Hc Hm _ _ hΦ rel h fun xs H1 ds μ1 Hc1 Hm1 h1 rel1 rp1 ex1 => ?_⟩
  obtain ⟨as, rfl, hR⟩ := h1
  obtain ⟨v, rfl, r⟩ := rp1.one
  cases r with
  | @lst a vs ds hl ra =>
    have l1 := ra.length
    refine ⟨a, vs, rfl, SqL.of (rel1.pt.exc _ _ hl), k _ _ _ _ _ _ _ hR rel1 ex1 ⟨fun i H hi e => ?_, fun H e => ⟨vs, SqL.of (e _ _ hl), by omega⟩, fun i H v H' hi e y => ?_⟩⟩
    · have h1 : i < vs.length := by omega
      exact ⟨vs, vs[i], SqL.of (e _ _ hl), by simp [h1]⟩
    · obtain ⟨T, x, rfl, hT, rfl, g1⟩ := y
      obtain ⟨dx, e1, r1⟩ := ra.get' (g1 vs (SqL.of (e _ _ hl)))
      exact .inr ⟨T, _, _, rfl, hT, rfl, by rw [itD_get e1], .cons (.int _) (.cons r1 .nil)⟩
end

/-! ### for -/
def forK (n : Nat) (f : Nat → D) (g : DG) (tb : DS) (De : DEnds) (Γ : DEn) (μ : Mu) : Prop := ∃ Pv : Nat → DEn → Mu → Prop, Pv 0 Γ μ ∧
  (∀ i Γ' μ', i < n → Pv i Γ' μ' → g (f i) Γ' μ' fun Γ2 μ2 => tb { De with nx := Pv (i + 1), ct := Pv (i + 1), bk := De.nx } Γ2 μ2) ∧ ∀ Γ' μ', Pv n Γ' μ' → De.nx Γ' μ'
def dFor (di : DIt) (g : DG) (tb : DS) : DS := fun De Γ μ => di Γ μ fun n f μ1 => forK n f g tb De Γ μ1
theorem dst_for {X : Cx} {L : Lc X} {tg iter : Expr} {body : List Stmt} {di : DIt} {g : DG} {db : DS} {pos : Pos} (hp : PassesOwn (model X.prog X.w) X.A X.env X.xe) (hc : X.calm = true) (hi : DI X L tg iter di) (hg : DGt X L tg g) (hb : DSs X L body db)
    (hs : ∀ x, foldedSetIterable iter X.env x = pure x := by intro _; rfl) : DSt X L (.For tg iter body [] pos) (dFor di g db) := by
  obtain ⟨wi, p1, li⟩ := hi
  obtain ⟨tg', p2, lg⟩ := hg
  obtain ⟨tb, p3, lb⟩ := hb
  refine ⟨_, ps_for hp hc p1 p2 p3 hs, fun Hf σ H Γ μ Hc Hm Dn De hΦ rel h k => li Hf σ H Γ μ Hc Hm _ _ hΦ rel h fun J H1 n f μ1 Hc1 Hm1 h1 rel1 ex1 sd => ?_⟩
  obtain ⟨Pv, h0, turn, hd⟩ := h1
  refine ⟨fun i m σ' H' => m = n - i ∧ i ≤ n ∧ ∃ Γ' μ' Hc' Hm', Pv i Γ' μ' ∧ Rel X.K L.B Hf σ' H' Γ' μ' Hc' Hm' ∧ Ex Hc1 Hc', ⟨n, by omega, Nat.zero_le _, Γ, μ1, Hc1, Hm1, h0, rel1, Ex.refl _⟩, ?_⟩
  rintro i m σ' H' ⟨rfl, hi, Γ', μ', Hc', Hm', hP, rel', ex'⟩
  have exH : Ex Hc1 H' := ex'.trans rel'.pt.exc
  by_cases hlt : i < n
  · refine .inr ⟨sd.goes i H' hlt exH, fun σ2 H2 => ∃ Γ2 μ2 Hc2 Hm2, Pv (i + 1) Γ2 μ2 ∧ Rel X.K L.B Hf σ2 H2 Γ2 μ2 Hc2 Hm2 ∧ Ex Hc1 Hc2, fun σ2 H2 q => ⟨n - (i + 1), by omega, rfl, hlt, q⟩, fun v H2 y => ?_⟩
    have fin : ∀ (H2 : Hp) (Hc2 : Hp), Rel X.K L.B Hf σ' H2 Γ' μ' Hc2 Hm' → Rp X.K Hc2 v (f i) → Ex Hc1 Hc2 → tg' v σ' H2 fun σ2 H2 => tb { Dn with nx := fun σ2 H2 => ∃ Γ2 μ2 Hc2 Hm2, Pv (i + 1) Γ2 μ2 ∧ Rel X.K L.B Hf σ2 H2 Γ2 μ2 Hc2 Hm2 ∧ Ex Hc1 Hc2, ct := fun σ2 H2 => ∃ Γ2 μ2 Hc2 Hm2, Pv (i + 1) Γ2 μ2 ∧ Rel X.K L.B Hf σ2 H2 Γ2 μ2 Hc2 Hm2 ∧ Ex Hc1 Hc2, bk := Dn.nx } σ2 H2 := fun H2 Hc2 rel2 rp2 ex2 =>
      lg Hf σ' H2 Γ' μ' Hc2 Hm' v (f i) _ _ hΦ rel2 rp2 (turn i Γ' μ' hlt hP) fun σ3 H3 Γ3 μ3 Hc3 Hm3 h3 rel3 ex3 => by
        have ex13 := ex2.trans ex3
        refine lb Hf σ3 H3 Γ3 μ3 Hc3 Hm3 _ _ hΦ rel3 h3 ⟨?_, ?_, ?_, ?_⟩
        · exact fun σ4 H4 Γ4 μ4 Hc4 Hm4 a b c => ⟨Γ4, μ4, Hc4, Hm4, a, b, ex13.trans c⟩
        · exact fun v σ4 H4 x Γ4 μ4 Hc4 Hm4 a b c e => k.rt v σ4 H4 x Γ4 μ4 Hc4 Hm4 a b c ((ex1.trans ex13).trans e)
        · exact fun σ4 H4 Γ4 μ4 Hc4 Hm4 a b c => k.nx σ4 H4 Γ4 μ4 Hc4 Hm4 a b ((ex1.trans ex13).trans c)
        · exact fun σ4 H4 Γ4 μ4 Hc4 Hm4 a b c => ⟨Γ4, μ4, Hc4, Hm4, a, b, ex13.trans c⟩
    rcases sd.yields i H' v H2 hlt exH y with ⟨rfl, r⟩ | ⟨T, xs, ds, rfl, hT, rfl, ef, ra⟩
    · exact fin _ _ rel' (r.mono ex') ex'
    · obtain ⟨rel2, ex2⟩ := rel'.newc (o := .tup xs) hT
      exact fin _ _ rel2 (by rw [ef]; exact .tup upd_same (ra.mono (ex'.trans ex2))) (ex'.trans ex2)
  · have e : i = n := by omega
    subst e
    exact .inl ⟨sd.stops H' exH, k.nx σ' H' Γ' μ' Hc' Hm' (hd Γ' μ' hP) rel' (ex1.trans ex')⟩

/-! ### list comprehensions -/
/-- the target's names are the block's own -/
def OwnG (vs : List Nat) (g : TG) : Prop := ∀ v σ H Q, g v σ H Q → g v σ H fun σ2 H2 => wipe σ2 vs = wipe σ vs ∧ Q σ2 H2
def OwnGs (vs : List Nat) (g : TGs) : Prop := ∀ v σ H Q, g v σ H Q → g v σ H fun σ2 H2 => wipe σ2 vs = wipe σ vs ∧ Q σ2 H2
theorem wipe_set {σ : L2.St} {j : Nat} {o : Option V} : ∀ {vs : List Nat}, j ∈ vs → wipe (σ.set j o) vs = wipe σ vs
  | i :: vs, h => by
    show (wipe (σ.set j o) vs).set i none = (wipe σ vs).set i none
    by_cases c : j ∈ vs
    · rw [wipe_set c]
    · have e : j = i := (List.mem_cons.mp h).resolve_right c
      subst e
      have q : ∀ {vs : List Nat}, j ∉ vs → wipe (σ.set j o) vs = (wipe σ vs).set j o := by
        intro vs
        induction vs with
        | nil => intro _; rfl
        | cons a r ih =>
          intro hn
          have h1 : j ≠ a := fun z => hn (by rw [z]; exact List.mem_cons_self ..)
          have h2 : j ∉ r := fun z => hn (List.mem_cons_of_mem _ z)
          show (wipe (σ.set j o) r).set a none = ((wipe σ r).set a none).set j o
          rw [ih h2, List.set_comm _ _ h1]
      rw [q c, List.set_set]
theorem own_name {vs : List Nat} {j : Nat} (h : j ∈ vs) : OwnG vs (gName j) := fun v σ H Q q => ⟨wipe_set h, q⟩
theorem ownNil {vs : List Nat} : OwnGs vs gNil := fun v σ H Q q => ⟨q.1, rfl, q.2⟩
theorem TG.monoG {g : TG} {vs : List Nat} (h : OwnG vs g) : True := trivial
structure GMono (g : TG) : Prop where
  mono : ∀ v σ H Q Q', (∀ σ' H', Q σ' H' → Q' σ' H') → g v σ H Q → g v σ H Q'
structure GsMono (g : TGs) : Prop where
  mono : ∀ v σ H Q Q', (∀ σ' H', Q σ' H' → Q' σ' H') → g v σ H Q → g v σ H Q'
theorem mono_name {j : Nat} : GMono (gName j) := ⟨fun v σ H Q Q' h q => h _ _ q⟩
theorem mono_nil : GsMono gNil := ⟨fun v σ H Q Q' h q => ⟨q.1, h _ _ q.2⟩⟩
theorem mono_cons {g : TG} {gs : TGs} (h1 : GMono g) (h2 : GsMono gs) : GsMono (gCons g gs) := ⟨fun v σ H Q Q' h q => by
  obtain ⟨x, r, e, q⟩ := q
  exact ⟨x, r, e, h1.mono _ _ _ _ _ (fun σ' H' q' => h2.mono _ _ _ _ _ h q') q⟩⟩
theorem mono_tup {K : PySem.W.Frag} {n : Nat} {gs : TGs} (h2 : GsMono gs) : GMono (gTup K n gs) := ⟨fun v σ H Q Q' h q => by
  obtain ⟨a, xs, e, e1, e2, q⟩ := q
  exact ⟨a, xs, e, e1, e2, h2.mono _ _ _ _ _ h q⟩⟩
theorem own_cons {vs : List Nat} {g : TG} {gs : TGs} (m1 : GMono g) (m2 : GsMono gs) (h1 : OwnG vs g) (h2 : OwnGs vs gs) : OwnGs vs (gCons g gs) := fun v σ H Q q => by
  obtain ⟨x, r, e, q⟩ := q
  refine ⟨x, r, e, m1.mono _ _ _ _ _ (fun σ' H' q' => ?_) (h1 _ _ _ _ q)⟩
  obtain ⟨e1, q'⟩ := q'
  exact m2.mono _ _ _ _ _ (fun σ2 H2 q2 => ⟨q2.1.trans e1, q2.2⟩) (h2 _ _ _ _ q')
theorem own_tup {K : PySem.W.Frag} {n : Nat} {vs : List Nat} {gs : TGs} (h : OwnGs vs gs) : OwnG vs (gTup K n gs) := fun v σ H Q q => by
  obtain ⟨a, xs, e, e1, e2, q⟩ := q
  exact ⟨a, xs, e, e1, e2, h _ _ _ _ q⟩
/-- a target within a block, own names vs -/
def DGo (X : Cx) (L : Lc X) (vs : List Nat) (tg : Expr) (g : TG) (d : DG) : Prop := PG X tg g ∧ LfG X.K L.B L.Φ g d ∧ GMono g ∧ OwnG vs g
def DGos (X : Cx) (L : Lc X) (vs : List Nat) (tg : List Expr) (g : TGs) (d : DGs) : Prop := PGs X tg g ∧ LfGs X.K L.B L.Φ g d ∧ GsMono g ∧ OwnGs vs g
section
variable {X : Cx} {L : Lc X} {vs : List Nat} {e : Expr} {es : List Expr} {pos : Pos}
theorem dgo_name {i : Nat} {x : Str} (hN : X.N.Nodup) (hv : i ∈ vs := by decide) (hi : X.N[i]? = some x := by rfl) (hx : Loc X.env.scope x := by first | exact Or.inl rfl | exact Or.inr rfl) (hf : X.fn x = true ∨ X.env.scope.names.lookup x = some .local := by first | exact .inl rfl | exact .inr rfl) : DGo X L vs (.Name x pos) (gName i) (dgName i) :=
  ⟨pg_name hN hi hx hf, fun Hf σ H Γ μ Hc Hm v x Q R _ rel rp h k => k _ _ _ _ _ _ h (rel.setv rp i) (Ex.refl _), mono_name, own_name hv⟩
theorem dgos_nil : DGos X L vs [] gNil dgNil := ⟨pgs_nil, fun Hf σ H Γ μ Hc Hm v x Q R _ rel rp h k => by
  obtain ⟨rfl, h⟩ := h
  cases rp
  exact ⟨rfl, k _ _ _ _ _ _ h rel (Ex.refl _)⟩, mono_nil, ownNil⟩
theorem dgos_cons {g : TG} {gs : TGs} {d : DG} {ds : DGs} (h1 : DGo X L vs e g d) (h2 : DGos X L vs es gs ds) (hs : (assignEach (e :: es) X.env).map (·.2) = assign e X.env :: (assignEach es X.env).map (·.2) := by rfl) : DGos X L vs (e :: es) (gCons g gs) (dgCons d ds) := by
  obtain ⟨p, l, m, o⟩ := h1
  obtain ⟨p2, l2, m2, o2⟩ := h2
  refine ⟨pgs_cons p p2 hs, fun Hf σ H Γ μ Hc Hm v x Q R hΦ rel rp h k => ?_, mono_cons m m2, own_cons m m2 o o2⟩
  obtain ⟨y, r, rfl, h⟩ := h
  cases rp with
  | cons q t =>
    exact ⟨_, _, rfl, l Hf σ H Γ μ Hc Hm _ _ _ _ hΦ rel q h fun σ' H' Γ' μ' Hc' Hm' h' rel' ex' => l2 Hf σ' H' Γ' μ' Hc' Hm' _ _ _ _ hΦ rel' (t.mono ex') h' fun σ2 H2 Γ2 μ2 Hc2 Hm2 h2 rel2 ex2 => k _ _ _ _ _ _ h2 rel2 (ex'.trans ex2)⟩
theorem dgo_tup {k n : Nat} {gs : TGs} {ds : DGs} (hc : X.calm = true) (h : DGos X L vs es gs ds) (hn : (assignEach es X.env).length = n := by rfl) (hst : (assignEach es X.env).findIdx? (·.1) = none := by rfl) : DGo X L vs (.Tuple es k pos) (gTup X.K n gs) (dgTup n ds) := by
  obtain ⟨p, l, m, o⟩ := h
  refine ⟨pg_tup hc p hn hst, fun Hf σ H Γ μ Hc Hm v x Q R hΦ rel rp h k => ?_, mono_tup m, own_tup o⟩
  obtain ⟨xs, rfl, hl, h⟩ := h
  cases rp with
  | tup ht ra => exact ⟨_, _, rfl, SqT.of (rel.pt.exc _ _ ht), by rw [ra.length]; exact hl, l Hf σ H Γ μ Hc Hm _ _ _ _ hΦ rel ra h k⟩
end
/-- the block's own place -/
def Lc.blk {X : Cx} (L : Lc X) (s : Shared) (H : Hp) (scope : Scope) (cenv : Env) (fp : List Addr) : Lc (X.blk s H scope cenv fp) := ⟨L.B, fun _ => True, fun _ _ _ _ => False, takes0.imp fun cls dd σ H' hw => by
  obtain ⟨n, gs, Γ, μ', Hc', Hm', Hf', dx, fs, h⟩ := hw
  exact h.2.2.2.2.2.2⟩
def wipeD (Γ : DEn) : List Nat → DEn
  | [] => Γ
  | v :: vs => (wipeD Γ vs).set v none
theorem sg_wipe {K : PySem.W.Frag} {H : Hp} {σ : L2.St} {Γ : DEn} (h : Sg K H σ Γ) : ∀ vs : List Nat, Sg K H (wipe σ vs) (wipeD Γ vs)
  | [] => h
  | v :: vs => (sg_wipe h vs).forget v none
theorem Pt.unf {H Hc Hm Hf : Hp} {a : Addr} {o : HO} (p : Pt H Hc Hm (upd Hf a o)) (hf : Hf a = none) (hn : ∀ ps, o ≠ .tbl ps := by exact fun _ q => nomatch q) : Pt H (upd Hc a o) Hm Hf ∧ Ex Hc (upd Hc a o) := by
  have hc := p.cf a o upd_same
  have hm := p.mf a o upd_same
  refine ⟨⟨?_, fun b u e => ?_, fun b u e => ?_, fun b u e => ?_, fun b vs e => ?_⟩, Ex.new hc⟩
  · funext b
    rw [p.eq]
    unfold ov
    by_cases c : b = a
    · subst c; rw [upd_same, upd_same, hf, hm]
    · rw [upd_ne c, upd_ne c]
  · by_cases c : b = a
    · subst c; rw [hm] at e; cases e
    · rw [upd_ne c]; exact p.cm b u e
  · by_cases c : b = a
    · subst c; rw [hf] at e; cases e
    · rw [upd_ne c]; exact p.cf b u (by rw [upd_ne c]; exact e)
  · by_cases c : b = a
    · subst c; exact hm
    · exact p.mf b u (by rw [upd_ne c]; exact e)
  · by_cases c : b = a
    · subst c; rw [hf] at e; cases e
    · exact p.nt b vs (by rw [upd_ne c]; exact e)
theorem Pt.reset {H Hc Hm Hf : Hp} {a : Addr} {o o' : HO} (p : Pt H Hc Hm (upd Hf a o)) (hnt : ∀ vs, o' ≠ .tup vs) (hnb : ∀ vs, o' ≠ .tbl vs) : Pt (upd H a o') Hc Hm (upd Hf a o') := by
  have h := p.setf (o := o') (p.cf a o upd_same) (p.mf a o upd_same) hnt hnb
  rw [upd_upd] at h
  exact h
def DTss (X : Cx) (L : Lc X) (ifs : List Expr) (d : DTT) : Prop := ∃ t, PTs X ifs t ∧ LfT X.K L.B L.Φ t d
def dYes : DTT := fun _ μ R => R true μ
theorem dts_nil {X : Cx} {L : Lc X} : DTss X L [] dYes := ⟨_, pts_nil, fun Hf σ H Γ μ Hc Hm Q R _ rel h k => k true H μ Hc Hm h rel (Ex.refl _)⟩
theorem dts_one {X : Cx} {L : Lc X} {c : Expr} {d : DTT} (h : DTs X L c d) : DTss X L [c] d := by
  obtain ⟨t, p, l⟩ := h
  exact ⟨t, pts_one p, l⟩
def lcK (n : Nat) (f : Nat → D) (g : DG) (tt : DTT) (te : DT) (vs : List Nat) (Γ : DEn) (μ : Mu) (R : DK) : Prop := ∃ Pv : Nat → List D → Mu → Prop, Pv 0 [] μ ∧
  (∀ i acc μ', i < n → Pv i acc μ' → acc.length < sizeLine ∧ g (f i) (wipeD Γ vs) μ' fun Γ2 μ2 => tt Γ2 μ2 fun b μ3 => if b = true then te Γ2 μ3 fun y μ4 => Pv (i + 1) (acc ++ [y]) μ4 else Pv (i + 1) acc μ3) ∧
  ∀ acc μ', Pv n acc μ' → R (.lst acc) μ'
def dLc (di : DIt) (g : DG) (tt : DTT) (te : DT) (vs : List Nat) : DT := fun Γ μ R => di Γ μ fun n f μ1 => lcK n f g tt te vs Γ μ1 R
theorem lfLc {K : PySem.W.Frag} {B : Hp} {Φ : Hp → Prop} {wi : TI} {di : DIt} {tg : TG} {g : DG} {t : TT} {tt : DTT} {te : TE} {de : DT} {vs : List Nat} (li : LfI K B Φ wi di) (lg : LfG K B (fun _ => True) tg g) (mg : GMono tg) (og : OwnG vs tg) (lt : LfT K B (fun _ => True) t tt) (le : LfE K B (fun _ => True) te de) :
    LfE K B Φ (tLc wi tg t te vs) (dLc di g tt de vs) := fun Hf σ H Γ μ Hc Hm Q R hΦ rel h k => li Hf σ H Γ μ Hc Hm _ _ hΦ rel h fun J H1 n f μ1 Hc1 Hm1 h1 rel1 ex1 sd Dl hD => by
  obtain ⟨Pv, h0, turn, hd⟩ := h1
  obtain ⟨n1, n2, n3⟩ := rel1.pt.free hD
  refine ⟨fun i m H' => m = n - i ∧ i ≤ n ∧ ∃ acc vacc μ' Hc' Hm', Pv i acc μ' ∧ Rel K B (upd Hf Dl (.lst vacc)) σ H' Γ μ' Hc' Hm' ∧ RpA K Hc' vacc acc ∧ Ex Hc1 Hc', ⟨n, by omega, Nat.zero_le _, [], [], μ1, Hc1, Hm1, h0, ⟨rel1.pt.setf n1 n2 (fun _ q => nomatch q) (fun _ q => nomatch q), rel1.ex, rel1.sg, rel1.mu⟩, .nil, Ex.refl _⟩, ?_⟩
  rintro i m H' ⟨rfl, hi, acc, vacc, μ', Hc', Hm', hP, rel', racc, ex'⟩
  have exH : Ex Hc1 H' := ex'.trans rel'.pt.exc
  by_cases hlt : i < n
  · refine .inr ⟨sd.goes i H' hlt exH, fun H2 => ∃ acc vacc μ' Hc' Hm', Pv (i + 1) acc μ' ∧ Rel K B (upd Hf Dl (.lst vacc)) σ H2 Γ μ' Hc' Hm' ∧ RpA K Hc' vacc acc ∧ Ex Hc1 Hc', fun H2 q => ⟨n - (i + 1), by omega, rfl, hlt, q⟩, fun v H2 y => ?_⟩
    obtain ⟨hz, tn⟩ := turn i acc μ' hlt hP
    have fin : ∀ (H2 : Hp) (Hc2 : Hp), Rel K B (upd Hf Dl (.lst vacc)) σ H2 Γ μ' Hc2 Hm' → Rp K Hc2 v (f i) → Ex Hc' Hc2 → tg v (wipe σ vs) H2 fun σ2 H2 => wipe σ2 vs = wipe σ vs ∧ t σ2 H2 fun b H3 => if b = true then te σ2 H3 fun y H4 => ∃ acc, H4 Dl = some (.lst acc) ∧ acc.length < sizeLine ∧
        (fun H2 => ∃ acc vacc μ' Hc' Hm', Pv (i + 1) acc μ' ∧ Rel K B (upd Hf Dl (.lst vacc)) σ H2 Γ μ' Hc' Hm' ∧ RpA K Hc' vacc acc ∧ Ex Hc1 Hc') (upd H4 Dl (.lst (acc ++ [y]))) else (fun H2 => ∃ acc vacc μ' Hc' Hm', Pv (i + 1) acc μ' ∧ Rel K B (upd Hf Dl (.lst vacc)) σ H2 Γ μ' Hc' Hm' ∧ RpA K Hc' vacc acc ∧ Ex Hc1 Hc') H3 := fun H2 Hc2 rel2 rp2 ex2 => by
      have ww : wipe (wipe σ vs) vs = wipe σ vs := by
        have : ∀ us : List Nat, (∀ u ∈ us, u ∈ vs) → wipe (wipe σ us) vs = wipe σ vs := by
          intro us
          induction us with
          | nil => intro _; rfl
          | cons a r ih =>
            intro hu
            show wipe ((wipe σ r).set a none) vs = wipe σ vs
            rw [wipe_set (hu a (List.mem_cons_self ..))]
            exact ih fun u hm => hu u (List.mem_cons_of_mem _ hm)
        exact this vs fun u hm => hm
      refine mg.mono _ _ _ _ _ (fun σ3 H3 q => ⟨q.1.trans ww, q.2⟩) (og _ _ _ _ ?_)
      refine lg _ (wipe σ vs) H2 (wipeD Γ vs) μ' Hc2 Hm' v (f i) _ _ trivial ⟨rel2.pt, rel2.ex, sg_wipe rel2.sg vs, rel2.mu⟩ rp2 tn fun σ3 H3 Γ3 μ3 Hc3 Hm3 h3 rel3 ex3 => ?_
      refine lt _ σ3 H3 Γ3 μ3 Hc3 Hm3 _ _ trivial rel3 h3 fun b H4 μ4 Hc4 Hm4 h4 rel4 ex4 => ?_
      have exq := ex3.trans ex4
      cases b with
      | true =>
        refine iteT (le _ σ3 H4 Γ3 μ4 Hc4 Hm4 _ _ trivial rel4 (by simpa using h4) fun y H5 dy μ5 Hc5 Hm5 h5 rel5 rp5 ex5 => ?_)
        have hD5 : H5 Dl = some (.lst vacc) := by rw [rel5.pt.eq]; exact ov_some upd_same
        have exr := (ex2.trans exq).trans ex5
        refine ⟨vacc, hD5, by rw [racc.length]; exact hz, acc ++ [dy], vacc ++ [y], μ5, Hc5, Hm5, h5, ⟨rel5.pt.reset (fun _ q => nomatch q) (fun _ q => nomatch q), rel5.ex, rel'.sg.mono exr, rel5.mu⟩, (racc.mono exr).append (.cons rp5 .nil), ex'.trans exr⟩
      | false =>
        exact iteF ⟨acc, vacc, μ4, Hc4, Hm4, by simpa using h4, ⟨rel4.pt, rel4.ex, rel'.sg.mono (ex2.trans exq), rel4.mu⟩, racc.mono (ex2.trans exq), ex'.trans (ex2.trans exq)⟩
    rcases sd.yields i H' v H2 hlt exH y with ⟨rfl, r⟩ | ⟨T, xs, ds, rfl, hT, rfl, ef, ra⟩
    · exact fin _ _ rel' (r.mono ex') (Ex.refl _)
    · obtain ⟨rel2, ex2⟩ := rel'.newc (o := .tup xs) hT
      exact fin _ _ rel2 (by rw [ef]; exact .tup upd_same (ra.mono (ex'.trans ex2))) ex2
  · have e : i = n := by omega
    subst e
    obtain ⟨pt2, ex2⟩ := rel'.pt.unf n3
    have ex3 := ex'.trans ex2
    exact .inl ⟨sd.stops H' exH, k _ _ _ _ _ _ (hd acc μ' hP) ⟨pt2, rel'.ex.trans ex2, rel'.sg.mono ex2, rel'.mu.mono ex2⟩ (.lst upd_same (racc.mono ex2)) (ex1.trans ex3)⟩
section
variable {X : Cx} {L : Lc X} {elt tg iter : Expr} {ifs : List Expr} {scope : Scope} {pos : Pos} {di : DIt} {g : TG} {dg : DG} {tt : DTT} {te : DT}
theorem blk_e (he : ∀ (s : Shared) (H : Hp) (C : Addr) (cl : List (Str × Addr)) (fp : List Addr), DE (X.blk s H scope (compEnvC scope cl C X.env) fp) (L.blk s H scope (compEnvC scope cl C X.env) fp) elt te) :
    ∃ t, (∀ (s : Shared) (H : Hp) (C : Addr) (cl : List (Str × Addr)) (fp : List Addr), PE (X.blk s H scope (compEnvC scope cl C X.env) fp) elt t) ∧ LfE X.K L.B (fun _ => True) t te :=
  ⟨fun σ H Q => ∀ (s : Shared) (H0 : Hp) (C : Addr) (cl : List (Str × Addr)) (fp : List Addr), (Classical.choose (he s H0 C cl fp)) σ H Q,
    fun s H C cl fp => ⟨fun pins s' σ H' Q I h => (Classical.choose_spec (he s H C cl fp)).1.run pins s' σ H' Q I (h s H C cl fp)⟩,
    fun Hf σ H Γ μ Hc Hm Q R hΦ rel h k s H0 C cl fp => (Classical.choose_spec (he s H0 C cl fp)).2 Hf σ H Γ μ Hc Hm Q R hΦ rel h k⟩
theorem blk_t (ht : ∀ (s : Shared) (H : Hp) (C : Addr) (cl : List (Str × Addr)) (fp : List Addr), DTss (X.blk s H scope (compEnvC scope cl C X.env) fp) (L.blk s H scope (compEnvC scope cl C X.env) fp) ifs tt) :
    ∃ t, (∀ (s : Shared) (H : Hp) (C : Addr) (cl : List (Str × Addr)) (fp : List Addr), PTs (X.blk s H scope (compEnvC scope cl C X.env) fp) ifs t) ∧ LfT X.K L.B (fun _ => True) t tt :=
  ⟨fun σ H Q => ∀ (s : Shared) (H0 : Hp) (C : Addr) (cl : List (Str × Addr)) (fp : List Addr), (Classical.choose (ht s H0 C cl fp)) σ H Q,
    fun s H C cl fp => ⟨fun pins s' σ H' Q I h => (Classical.choose_spec (ht s H C cl fp)).1.run pins s' σ H' Q I (h s H C cl fp)⟩,
    fun Hf σ H Γ μ Hc Hm Q R hΦ rel h k s H0 C cl fp => (Classical.choose_spec (ht s H0 C cl fp)).2 Hf σ H Γ μ Hc Hm Q R hΦ rel h k⟩
/-- what the parts of a comprehension show -/
theorem de_lc (own : List (Str × Nat)) (hc : X.calm = true) (hN : X.N.Nodup) (hi : DI X L tg iter di) (ok : BlkOk X.N X.env.scope scope own)
    (hg : ∀ (s : Shared) (H : Hp) (C : Addr) (cl : List (Str × Addr)) (fp : List Addr), DGo (X.blk s H scope (compEnvC scope cl C X.env) fp) (L.blk s H scope (compEnvC scope cl C X.env) fp) (own.map (·.2)) tg g dg)
    (ht : ∀ (s : Shared) (H : Hp) (C : Addr) (cl : List (Str × Addr)) (fp : List Addr), DTss (X.blk s H scope (compEnvC scope cl C X.env) fp) (L.blk s H scope (compEnvC scope cl C X.env) fp) ifs tt)
    (he : ∀ (s : Shared) (H : Hp) (C : Addr) (cl : List (Str × Addr)) (fp : List Addr), DE (X.blk s H scope (compEnvC scope cl C X.env) fp) (L.blk s H scope (compEnvC scope cl C X.env) fp) elt te)
    (hs : ∀ x, foldedSetIterable iter X.env x = pure x := by intro _; rfl) : DE X L (.ListComp elt [⟨tg, iter, ifs, 0⟩] scope pos) (dLc di dg tt te (own.map (·.2))) := by
  obtain ⟨wi, pi, li⟩ := hi
  obtain ⟨t, pt, lt⟩ := blk_t ht
  obtain ⟨u, pu, lu⟩ := blk_e he
  have q := hg X.s_0 X.H_0 0 [] []
  exact ⟨_, pe_lc hc hN pi ok (fun s H C cl fp => (hg s H C cl fp).1) pt pu hs, lfLc li q.2.1 q.2.2.1 q.2.2.2 lt lu⟩
/-- y = [..] -/
theorem dst_setLc (own : List (Str × Nat)) {i : Nat} {y : Str} {py spos : Pos} (hc : X.calm = true) (hN : X.N.Nodup) (hi : DI X L tg iter di) (ok : BlkOk X.N X.env.scope scope own)
    (hg : ∀ (s : Shared) (H : Hp) (C : Addr) (cl : List (Str × Addr)) (fp : List Addr), DGo (X.blk s H scope (compEnvC scope cl C X.env) fp) (L.blk s H scope (compEnvC scope cl C X.env) fp) (own.map (·.2)) tg g dg)
    (ht : ∀ (s : Shared) (H : Hp) (C : Addr) (cl : List (Str × Addr)) (fp : List Addr), DTss (X.blk s H scope (compEnvC scope cl C X.env) fp) (L.blk s H scope (compEnvC scope cl C X.env) fp) ifs tt)
    (he : ∀ (s : Shared) (H : Hp) (C : Addr) (cl : List (Str × Addr)) (fp : List Addr), DE (X.blk s H scope (compEnvC scope cl C X.env) fp) (L.blk s H scope (compEnvC scope cl C X.env) fp) elt te)
    (hsw : swapsWith (.ListComp elt [⟨tg, iter, ifs, 0⟩] scope pos) (some (.Name y py)) spos.line X.env = pure true) (hy : X.N[i]? = some y := by rfl) (hyl : X.env.scope.names.lookup y = some .local := by rfl)
    (hs : ∀ x, foldedSetIterable iter X.env x = pure x := by intro _; rfl) : DSt X L (.Assign [.Name y py] (.ListComp elt [⟨tg, iter, ifs, 0⟩] scope pos) spos) (dSet i (dLc di dg tt te (own.map (·.2)))) := by
  obtain ⟨wi, pi, li⟩ := hi
  obtain ⟨t, pt, lt⟩ := blk_t ht
  obtain ⟨u, pu, lu⟩ := blk_e he
  have q := hg X.s_0 X.H_0 0 [] []
  exact ⟨_, ps_setLc hc hN hy hyl hsw pi ok (fun s H C cl fp => (hg s H C cl fp).1) pt pu hs, fun Hf σ H Γ μ Hc Hm D De hΦ rel h k => lfLc li q.2.1 q.2.2.1 q.2.2.2 lt lu Hf σ H Γ μ Hc Hm _ _ hΦ rel h fun x H1 dx μ1 Hc1 Hm1 h1 rel1 rp1 ex1 => k.nx _ _ _ _ _ _ h1 (rel1.setv rp1 _) ex1⟩
end
end Nod
set_option Elab.async false
set_option linter.all false
set_option maxRecDepth 100000
set_option maxHeartbeats 4000000
namespace Nod
open PySem PySem.Spec PyProof.Rows L2
open Evl (Ex)

/-! ### set(x), x a list or a tuple of whole numbers -/
abbrev newSet (w : World) : Obj := { cls := .type "set", dict := none, data := .set #[] 0 (.fresh 0 0 (!w.params.followText "set-order")) }
section
variable {P : Program} {w : World} {A : Around} {E : Value → Shared → Prop} {s : Shared}
theorem walks_X (hh : A.handled = none) (k : Bool) (I l : Addr) (hne : l ≠ I) (items : Array Value) :
    Walks P w A I [I, l] [I] items.size (fun i v => items[i]? = some v) (fun i h => ItX k h I l i ∧ IsX k h l items) := by
  cases k with
  | true => exact Walks.list hh I l hne items
  | false => exact Walks.tuple hh I l hne items
theorem isX_push {k : Bool} {h : Heap} {l : Addr} {items : Array Value} {o : Obj} (x : IsX k h l items) : IsX k (h.push o) l items := by
  cases k with
  | true => exact Heap.IsList.push x o
  | false => exact Heap.IsTuple.push x o
/-- what set.__init__ does with it -/
theorem set_init_X {k : Bool} {l : Addr} {items : Array Value} (ns : List Int) {R : Result → Shared → Prop} (hh : A.handled = none) (hl : IsX k s.heap l items) (hit : IntsAre items.toList ns) (hb : ns.length + 1 < scanBound)
    (h : ∀ (h' : Heap) (tk c : Nat), SetR w h' s.heap.objs.size (fun j => decide (j ∈ ns)) c → c ≤ ns.length → (∀ b o, s.heap.get? b = some o → h'.get? b = some o) → R (.ok (.ret .none)) { s with heap := h', toks := tk }) :
    codeAny (model P w) A (.call (.builtin "set.__init__") ⟨[.ref s.heap.objs.size, .ref l], []⟩) R { s with heap := s.heap.push (newSet w) } := by
  have hisz : items.size = ns.length := by
    have q := IntsAre.length hit
    rwa [Array.length_toList] at q
  have hS : (s.heap.push (newSet w)).get? s.heap.objs.size = some (newSet w) := Heap.get?_push_size _ rfl
  have hT : Shared.TypeIs { s with heap := s.heap.push (newSet w) } (.ref s.heap.objs.size) "set" := ⟨_, hS, rfl⟩
  refine codeAny_call_builtin (R := R) F.called_set.init.plain F.entry_set_init (check_set_init_1 hT ?_)
  have hlS : l < s.heap.objs.size := by
    cases k with
    | true => obtain ⟨o, ho, _⟩ := (show s.heap.IsList l items from hl); exact Heap.lt_size ho
    | false => obtain ⟨o, ho, _⟩ := (show s.heap.IsTuple l items from hl); exact Heap.lt_size ho
  have hz1 : (s.heap.push (newSet w)).objs.size = s.heap.objs.size + 1 := Heap.size_push ..
  have hneI : l ≠ (s.heap.push (newSet w)).objs.size := by rw [hz1]; exact Nat.ne_of_lt (Nat.lt_succ_of_lt hlS)
  have hSf : s.heap.objs.size ∉ [(s.heap.push (newSet w)).objs.size, l] := by
    rw [hz1]; simp only [List.mem_cons, List.not_mem_nil, or_false, not_or]
    exact ⟨Nat.ne_of_lt (Nat.lt_succ_self _), Nat.ne_of_gt hlS⟩
  have hval : ∀ (i : Nat) (v : Value), items[i]? = some v → ∃ k t, ns[i]? = some k ∧ v = .int k t := fun i v hv => by
    have hi : i < ns.length := by rw [← hisz]; exact (Array.getElem?_eq_some_iff.mp hv).1
    obtain ⟨t, e⟩ := PyProof.Rows.IntsAre.int_at hit i v (by rw [Array.getElem?_toList]; exact hv)
    exact ⟨ns[i], t, List.getElem?_eq_getElem hi, by rw [e, List.getD_eq_getElem?_getD, List.getElem?_eq_getElem hi]; rfl⟩
  have hh2 : A.in1.in1.handled = none := by simp [hh]
  have run : ∀ {R' : Result → Shared → Prop}, (∀ s' c, Moved [s.heap.objs.size, (s.heap.push (newSet w)).objs.size] (fun a b => b = a) { s with heap := (s.heap.push (newSet w)).push (oX k l) } s' → c ≤ items.size → SetR w s'.heap s.heap.objs.size (fun j => decide (j ∈ ns)) c → R' (.ok (.ret .none)) s') →
      codeAny (model P w) A.in1 (.builtin "set.update.loop" ⟨[.ref s.heap.objs.size, .ref (s.heap.push (newSet w)).objs.size], []⟩) R' { s with heap := (s.heap.push (newSet w)).push (oX k l) } := fun hR =>
    set_update_ints (walks_X hh2 k _ l hneI items).toS s.heap.objs.size hSf ns hisz hb hval (items.size - 0) 0 _ (by omega) (Nat.zero_le _)
      ⟨itx_start (Heap.get?_push_size _ (by unfold oX; split <;> rfl)), isX_push (isX_push hl)⟩ ⟨0, Nat.le_refl 0, setR_new_at (Heap.get?_push_of_some _ hS)⟩ hR
  have fin : ∀ s' c, Moved [s.heap.objs.size, (s.heap.push (newSet w)).objs.size] (fun a b => b = a) { s with heap := (s.heap.push (newSet w)).push (oX k l) } s' → c ≤ items.size → SetR w s'.heap s.heap.objs.size (fun j => decide (j ∈ ns)) c → R (.ok (.ret .none)) s' := fun s' c hm hc' hS' => by
    obtain ⟨h', g2, d', tk', os'⟩ := s'
    have eg : g2 = s.gens := hm.gens
    have ed : d' = s.drawn := hm.drawn
    have eo : os' = s.os := hm.os
    subst eg; subst ed; subst eo
    refine h h' tk' c hS' (by rw [← hisz]; exact hc') fun b o e => ?_
    have hb0 : b < s.heap.objs.size := Heap.lt_size e
    refine hm.heap b o ?_ (Heap.get?_push_of_some _ (Heap.get?_push_of_some _ e))
    rw [hz1]
    simp only [List.mem_cons, List.not_mem_nil, or_false, not_or]
    exact ⟨Nat.ne_of_lt hb0, Nat.ne_of_lt (Nat.lt_succ_of_lt hb0)⟩
  have hsls := F.sub_tuple_set
  have hslf := F.sub_tuple_frozenset
  have hsls2 := F.sub_list_set
  have hslf2 := F.sub_list_frozenset
  have hne : (Value.type "tuple" == Value.type "dict") = false := by decide
  have hne2 : (Value.type "list" == Value.type "dict") = false := by decide
  cases k with
  | true =>
    have hl1 : (s.heap.push (newSet w)).IsList l items := isX_push (k := true) hl
    obtain ⟨ol, hol', hcl, nl, hdl⟩ := id hl1
    obtain ⟨ocls, odict, odata, oslots⟩ := ol
    simp only at hcl hdl
    subst hcl; subst hdl
    unfold Builtin.«set.__init__» noKeywords Builtin.Frozenset.updateFrom
    generalize hPI : pyIter = PI
    wp_walk
    subst hPI
    refine wpAny_pyIter_list hl1 ?_
    refine wpAny_bind (wpAny_runValue ?_)
    refine run fun s' c a b d => ?_
    refine wpAny_pure ?_
    exact wpAny_pure (fin s' c a b d)
  | false =>
    have hl1 : (s.heap.push (newSet w)).IsTuple l items := isX_push (k := false) hl
    obtain ⟨ol, hol', hcl, nl, hdl⟩ := id hl1
    obtain ⟨ocls, odict, odata, oslots⟩ := ol
    simp only at hcl hdl
    subst hcl; subst hdl
    unfold Builtin.«set.__init__» noKeywords Builtin.Frozenset.updateFrom
    generalize hPI : pyIter = PI
    wp_walk
    subst hPI
    refine wpAny_pyIter_tuple hl1 ?_
    refine wpAny_bind (wpAny_runValue ?_)
    refine run fun s' c a b d => ?_
    refine wpAny_pure ?_
    exact wpAny_pure (fin s' c a b d)
theorem call_set_X {k : Bool} {l : Addr} {items : Array Value} (ns : List Int) {Q : Value → Shared → Prop} (hh : A.handled = none) (hl : IsX k s.heap l items) (hit : IntsAre items.toList ns) (hb : ns.length + 1 < scanBound)
    (h : ∀ (h' : Heap) (tk c : Nat), SetR w h' s.heap.objs.size (fun j => decide (j ∈ ns)) c → c ≤ ns.length → (∀ b o, s.heap.get? b = some o → h'.get? b = some o) → Q (.ref s.heap.objs.size) { s with heap := h', toks := tk }) :
    wpAny (model P w) A (call (.type "set") [.ref l]) Q E s := by
  obtain ⟨c, tl, hmro⟩ := F.called_set.mro
  have hmade := F.called_set.made
  have hsub := F.called_set.sub
  refine wpAny_call (codeAny_of_tree ?_)
  show wpAny _ _ (callAny (.type "set") _) _ _ _
  refine wpAny_pure ⟨Code.quiet_builtin _ (by decide +kernel), codeAny_builtin F.entry_type_call ?_⟩
  rw [Around.under_plain (weight_type_call_type "set" [.ref l] []) rfl]
  have t1 := F.called_set.notType
  have t2 := F.called_set.canCreate
  have t3 := F.typeCall_set_1 (.ref l)
  repeat (any_goals (first | assumption | wp_step))
  refine codeAny_mono (code_set_led1 (.ref l) (E := E) (Q₁ := fun obj s₁ => obj = .ref s.heap.objs.size ∧ s₁ = { s with heap := s.heap.push (newSet w) }) ⟨rfl, rfl⟩) fun r s₁ hr => ?_
  cases r with
  | error e => exact hr
  | ok fl =>
    cases fl with
    | ret obj =>
      obtain ⟨rfl, rfl⟩ := hr
      have hT : Shared.TypeIs { s with heap := s.heap.push (newSet w) } (.ref s.heap.objs.size) "set" := ⟨_, Heap.get?_push_size _ rfl, rfl⟩
      have hli := F.called_set.init.lookup
      have hbi := F.called_set.init.bind (.ref s.heap.objs.size)
      repeat (any_goals (first | assumption | wp_step))
      refine codeAny_mono (set_init_X (R := wants (fun r s₂ => r = .none ∧ ∃ h' tk c, s₂ = { s with heap := h', toks := tk } ∧ SetR w h' s.heap.objs.size (fun j => decide (j ∈ ns)) c ∧ c ≤ ns.length ∧ (∀ b o, s.heap.get? b = some o → h'.get? b = some o)) E) ns (by first | exact hh | simp [hh]) hl hit hb fun h' tk c a b d => ⟨rfl, h', tk, c, rfl, a, b, d⟩) fun r₂ s₂ hr₂ => ?_
      cases r₂ with
      | error e => exact hr₂
      | ok fl2 =>
        cases fl2 with
        | ret v =>
          obtain ⟨rfl, h', tk, c, rfl, q1, q2, q3⟩ := hr₂
          have q := h h' tk c q1 q2 q3
          repeat (any_goals (first | exact q | wp_step))
        | next => exact False.elim hr₂
        | brk => exact False.elim hr₂
        | cont => exact False.elim hr₂
    | next => exact False.elim hr
    | brk => exact False.elim hr
    | cont => exact False.elim hr
end
end Nod
set_option Elab.async false
set_option linter.all false
set_option maxRecDepth 100000
set_option maxHeartbeats 4000000
namespace Nod
open PySem PySem.Spec PyProof.Rows L2
open Evl (Ex)

/-! ### whole numbers -/
def qI (C : Int → Int → Prop) (g : Int → Int → D) : Q2 := fun x y μ R => ∃ i j, x = .int i ∧ y = .int j ∧ C i j ∧ R (g i j) μ
def qI0 (g : Int → Int → D) : Q2 := fun x y μ R => ∃ i j, x = .int i ∧ y = .int j ∧ R (g i j) μ
def qU (g : Int → D) : Q1 := fun x μ R => ∃ i, x = .int i ∧ R (g i) μ
theorem l2_I {K : PySem.W.Frag} {C : Int → Int → Prop} {f : Int → Int → Int} : L2r K (rI C fun i j => .int (f i j)) (qI C fun i j => .int (f i j)) := fun B Hf σ H Γ μ Hc Hm x y dx dy Q R rel rx ry h kn => by
  obtain ⟨i, j, rfl, rfl, c, h⟩ := h
  exact ⟨i, j, rx.int_inv, ry.int_inv, c, kn.id h rel (.int _)⟩
theorem l2_I0 {K : PySem.W.Frag} {f : Int → Int → Int} : L2r K (rI0 fun i j => .int (f i j)) (qI0 fun i j => .int (f i j)) := fun B Hf σ H Γ μ Hc Hm x y dx dy Q R rel rx ry h kn => by
  obtain ⟨i, j, rfl, rfl, h⟩ := h
  exact ⟨i, j, rx.int_inv, ry.int_inv, kn.id h rel (.int _)⟩
theorem l2_B0 {K : PySem.W.Frag} {f : Int → Int → Bool} : L2r K (rI0 fun i j => .bl (f i j)) (qI0 fun i j => .bl (f i j)) := fun B Hf σ H Γ μ Hc Hm x y dx dy Q R rel rx ry h kn => by
  obtain ⟨i, j, rfl, rfl, h⟩ := h
  exact ⟨i, j, rx.int_inv, ry.int_inv, kn.id h rel (.bl _)⟩
theorem l1_U {K : PySem.W.Frag} {f : Int → Int} : L1r K (rU fun i => .int (f i)) (qU fun i => .int (f i)) := fun B Hf σ H Γ μ Hc Hm x dx Q R rel rx h kn => by
  obtain ⟨i, rfl, h⟩ := h
  exact ⟨i, rx.int_inv, kn.id h rel (.int _)⟩
section
variable {X : Cx}
theorem o_add : DOp X (binaryOp .Add) (qI0 fun i j => .int (i + j)) := ⟨_, op_add, l2_I0⟩
theorem o_sub : DOp X (binaryOp .Sub) (qI0 fun i j => .int (i - j)) := ⟨_, op_sub, l2_I0⟩
theorem o_mul : DOp X (binaryOp .Mult) (qI CMulW fun i j => .int (i * j)) := ⟨_, op_mulW, l2_I⟩
theorem o_div : DOp X (binaryOp .FloorDiv) (qI CDivW fun i j => .int (i / j)) := ⟨_, op_fdivW, l2_I⟩
theorem o_mod : DOp X (binaryOp .Mod) (qI (fun _ j => 0 < j) fun i j => .int (i % j)) := ⟨_, op_mod, l2_I⟩
theorem o_pow : DOp X (binaryOp .Pow) (qI CPow fun i j => .int (i ^ j.toNat)) := ⟨_, op_pow, l2_I⟩
theorem o_neg : DUn X (unaryOp .USub) (qU fun i => .int (-i)) := ⟨_, un_neg, l1_U⟩
theorem o_lt : DOp X (compareOp .Lt) (qI0 fun i j => .bl (decide (i < j))) := ⟨_, op_lt, l2_B0⟩
theorem o_le : DOp X (compareOp .LtE) (qI0 fun i j => .bl (decide (i ≤ j))) := ⟨_, op_le, l2_B0⟩
theorem o_gt : DOp X (compareOp .Gt) (qI0 fun i j => .bl (decide (j < i))) := ⟨_, op_gt, l2_B0⟩
theorem o_ge : DOp X (compareOp .GtE) (qI0 fun i j => .bl (decide (j ≤ i))) := ⟨_, op_ge, l2_B0⟩
theorem o_eq : DOp X (compareOp .Eq) (qI0 fun i j => .bl (decide (i = j))) := ⟨_, op_eq, fun B Hf σ H Γ μ Hc Hm x y dx dy Q R rel rx ry h kn => by
  obtain ⟨i, j, rfl, rfl, h⟩ := h
  cases rx.int_inv
  cases ry.int_inv
  refine ⟨rfl, ?_⟩
  have e : decide (V.int i = V.int j) = decide (i = j) := by by_cases c : i = j <;> simp [c]
  rw [e]
  exact kn.id h rel (.bl _)⟩
theorem o_ne : DOp X (compareOp .NotEq) (qI0 fun i j => .bl (!decide (i = j))) := ⟨_, op_ne, fun B Hf σ H Γ μ Hc Hm x y dx dy Q R rel rx ry h kn => by
  obtain ⟨i, j, rfl, rfl, h⟩ := h
  cases rx.int_inv
  cases ry.int_inv
  refine ⟨rfl, ?_⟩
  have e : decide (V.int i = V.int j) = decide (i = j) := by by_cases c : i = j <;> simp [c]
  rw [e]
  exact kn.id h rel (.bl _)⟩
end

/-! ### lists and tuples, kept or changing -/
def seqM (μ : Mu) : D → Option (List D)
  | .lst ds => some ds
  | .tup ds => some ds
  | .ftup ds => some ds
  | .scr ns => some (ns.map D.int)
  | .adr a => match μ a with
    | some (.lst ds) => some ds
    | _ => none
  | _ => none
def isTup : D → Bool
  | .tup _ => true
  | .ftup _ => true
  | _ => false
theorem rp_seqM {K : PySem.W.Frag} {B Hf : Hp} {σ : L2.St} {H : Hp} {Γ : DEn} {μ : Mu} {Hc Hm : Hp} (rel : Rel K B Hf σ H Γ μ Hc Hm) {v : V} {x : D} {ds : List D} (r : Rp K Hc v x) (h : seqM μ x = some ds) :
    ∃ a xs, v = .ref a ∧ RpA K Hc xs ds ∧ (isTup x = false → SqL K H a xs) ∧ (isTup x = true → SqT K H a xs) := by
  cases r with
  | tup ht ra => cases h; exact ⟨_, _, rfl, ra, (fun q => nomatch q), fun _ => SqT.of (rel.pt.exc _ _ ht)⟩
  | ftup ht hn ra => cases h; exact ⟨_, _, rfl, ra, (fun q => nomatch q), fun _ => .inl (.inr ⟨_, rel.pt.exc _ _ ht⟩)⟩
  | lst ht ra => cases h; exact ⟨_, _, rfl, ra, fun _ => SqL.of (rel.pt.exc _ _ ht), (fun q => nomatch q)⟩
  | scr hs => cases h; exact ⟨_, _, rfl, RpA.of_ints _, fun _ => Evl.ex_l rel.pt.exc hs, (fun q => nomatch q)⟩
  | adr a =>
    have e : μ a = some (.lst ds) := by
      unfold seqM at h
      cases q : μ a with
      | none => simp [q] at h
      | some m => cases m <;> simp [q] at h; subst h; rfl
    obtain ⟨o, ho, q⟩ := rel.get e
    cases o with
    | lst vs => exact ⟨_, _, rfl, q, fun _ => SqL.of ho, (fun q => nomatch q)⟩
    | _ => exact q.elim
  | _ => cases h
theorem rp_seqM' {K : PySem.W.Frag} {B Hf : Hp} {σ : L2.St} {H : Hp} {Γ : DEn} {μ : Mu} {Hc Hm : Hp} (rel : Rel K B Hf σ H Γ μ Hc Hm) {v : V} {x : D} {ds : List D} (r : Rp K Hc v x) (h : seqM μ x = some ds) :
    ∃ a xs, v = .ref a ∧ RpA K Hc xs ds ∧ (SqL K H a xs ∨ SqT K H a xs) := by
  obtain ⟨a, xs, e, ra, h1, h2⟩ := rp_seqM rel r h
  cases q : isTup x with
  | true => exact ⟨a, xs, e, ra, .inr (h2 q)⟩
  | false => exact ⟨a, xs, e, ra, .inl (h1 q)⟩
/-! indexing -/
def qIx : Q2 := fun x y μ R => ∃ ds i d, seqM μ x = some ds ∧ y = .int i ∧ atI ds i = some d ∧ R d μ
theorem rpA_atI {K : PySem.W.Frag} {H : Hp} {xs : List V} {ds : List D} (r : RpA K H xs ds) {i : Int} {d : D} (h : atI ds i = some d) : ∃ v, atI xs i = some v ∧ Rp K H v d := by
  unfold atI at h ⊢
  rw [r.length]
  cases q : ixN ds.length i with
  | none => rw [q] at h; cases h
  | some j => rw [q] at h; exact r.get h
theorem o_ix {X : Cx} : DIx X qIx := ⟨_, ix_seq, fun B Hf σ H Γ μ Hc Hm x y dx dy Q R rel rx ry h kn => by
  obtain ⟨ds, i, d, hs, rfl, ha, hR⟩ := h
  obtain ⟨a, xs, rfl, ra, hq⟩ := rp_seqM' rel rx hs
  obtain ⟨v, hv, rv⟩ := rpA_atI ra ha
  cases ry.int_inv
  rcases hq with hq | hq
  · exact .inl ⟨a, xs, i, v, rfl, rfl, hq, hv, kn.id hR rel rv⟩
  · exact .inr (.inl ⟨a, xs, i, v, rfl, rfl, hq, hv, kn.id hR rel rv⟩)⟩
theorem atI_natD {α : Type} {xs : List α} {j : Nat} {i : Int} {v : α} (e : i = (j : Int)) (h : xs[j]? = some v) : atI xs i = some v := by subst e; exact atI_nat h

/-! ### a flat thing in a list or a tuple -/
def eqF : D → D → Bool
  | .non, .non => true
  | .bl a, .bl b => a == b
  | .bl a, .int b => (if a then 1 else 0) == b
  | .int a, .bl b => a == (if b then 1 else 0)
  | .int a, .int b => a == b
  | .str a, .str b => a == b
  | _, _ => false
def flatD : D → Bool
  | .non => true
  | .bl _ => true
  | .int _ => true
  | .str _ => true
  | _ => false
theorem rp_flat {K : PySem.W.Frag} {H : Hp} {v : V} {x : D} (r : Rp K H v x) (h : flatD x = true) : flatV v = true := by
  cases r <;> first | rfl | cases h
theorem rp_eqF {K : PySem.W.Frag} {H : Hp} {v w : V} {x y : D} (r : Rp K H v x) (r2 : Rp K H w y) (h : flatD x = true) (h2 : flatD y = true) : eqV v w = eqF x y := by
  cases r <;> first | (cases h; done) | (cases r2 <;> first | rfl | cases h2)
def inD (x : D) (ds : List D) : Bool := ds.any fun y => eqF y x
theorem rpA_flat {K : PySem.W.Frag} {H : Hp} : ∀ {vs : List V} {ds : List D}, RpA K H vs ds → ds.all flatD = true → vs.all flatV = true
  | _, _, .nil, _ => rfl
  | _, _, .cons r t, h => by
    rw [List.all_cons, Bool.and_eq_true] at h ⊢
    exact ⟨rp_flat r h.1, rpA_flat t h.2⟩
theorem rpA_in {K : PySem.W.Frag} {H : Hp} {w : V} {x : D} (r2 : Rp K H w x) (h2 : flatD x = true) : ∀ {vs : List V} {ds : List D}, RpA K H vs ds → ds.all flatD = true → inV w vs = inD x ds
  | _, _, .nil, _ => rfl
  | _, _, .cons r t, h => by
    rw [List.all_cons, Bool.and_eq_true] at h
    have ih := rpA_in r2 h2 t h.2
    unfold inV inD at ih ⊢
    rw [List.any_cons, List.any_cons, rp_eqF r r2 h.1 h2, ih]
def qIn (neg : Bool) : Q2 := fun x y μ R => ∃ ds, seqM μ y = some ds ∧ flatD x = true ∧ ds.all flatD = true ∧ R (.bl (if neg then !inD x ds else inD x ds)) μ
theorem l2_In {K : PySem.W.Frag} {neg : Bool} : L2r K (rIn K neg) (qIn neg) := fun B Hf σ H Γ μ Hc Hm x y dx dy Q R rel rx ry h kn => by
  obtain ⟨ds, hs, f1, f2, hR⟩ := h
  obtain ⟨a, xs, rfl, ra, hq⟩ := rp_seqM' rel ry hs
  refine ⟨a, xs, rfl, hq, rp_flat rx f1, rpA_flat ra f2, ?_⟩
  rw [rpA_in rx f1 ra f2]
  exact kn.id hR rel (.bl _)
theorem o_in {X : Cx} : DOp X (compareOp .In) (qIn false) := ⟨_, op_in_seq, l2_In⟩
theorem o_notin {X : Cx} : DOp X (compareOp .NotIn) (qIn true) := ⟨_, op_notIn_seq, l2_In⟩

/-! ### plain data: ==, in -/
mutual
inductive PyOf (μ : Mu) : D → PyData → Prop
  | non : PyOf μ .non .none
  | bl (b : Bool) : PyOf μ (.bl b) (.bool b)
  | int (i : Int) : PyOf μ (.int i) (.int i)
  | str (x : Str) : PyOf μ (.str x) (.str x)
  | tup {ds : List D} {ps : List PyData} (h : PyOfA μ ds ps) : PyOf μ (.tup ds) (.tuple ps)
  | ftup {ds : List D} {ps : List PyData} (h : PyOfA μ ds ps) : PyOf μ (.ftup ds) (.tuple ps)
  | seq {x : D} {ds : List D} {ps : List PyData} (e : seqM μ x = some ds) (n : isTup x = false) (h : PyOfA μ ds ps) : PyOf μ x (.list ps)
inductive PyOfA (μ : Mu) : List D → List PyData → Prop
  | nil : PyOfA μ [] []
  | cons {d : D} {ds : List D} {p : PyData} {ps : List PyData} (h : PyOf μ d p) (t : PyOfA μ ds ps) : PyOfA μ (d :: ds) (p :: ps)
end
mutual
theorem PyOf.dp {K : PySem.W.Frag} {B Hf : Hp} {σ : L2.St} {H : Hp} {Γ : DEn} {μ : Mu} {Hc Hm : Hp} (rel : Rel K B Hf σ H Γ μ Hc Hm) : ∀ {x : D} {p : PyData} {v : V}, PyOf μ x p → Rp K Hc v x → Dp K H v p
  | _, _, _, .non, r => by cases r.non_inv; exact .non
  | _, _, _, .bl b, r => by cases r.bl_inv; exact .bl b
  | _, _, _, .int b, r => by cases r.int_inv; exact .int b
  | _, _, _, .str b, r => by cases r.str_inv; exact .str b
  | _, _, _, .tup h, r => by
    cases r with
    | tup ht ra => exact .tup (SqT.of (rel.pt.exc _ _ ht)) (PyOfA.dp rel h ra)
  | _, _, _, .ftup h, r => by
    cases r with
    | ftup ht hn ra => exact .tup (.inl (.inr ⟨_, rel.pt.exc _ _ ht⟩)) (PyOfA.dp rel h ra)
  | _, _, _, .seq e n h, r => by
    obtain ⟨a, xs, rfl, ra, h1, _⟩ := rp_seqM rel r e
    exact .lst (h1 n) (PyOfA.dp rel h ra)
theorem PyOfA.dp {K : PySem.W.Frag} {B Hf : Hp} {σ : L2.St} {H : Hp} {Γ : DEn} {μ : Mu} {Hc Hm : Hp} (rel : Rel K B Hf σ H Γ μ Hc Hm) : ∀ {ds : List D} {ps : List PyData} {vs : List V}, PyOfA μ ds ps → RpA K Hc vs ds → DpAll K H vs ps
  | _, _, _, .nil, r => by cases r; exact .nil
  | _, _, _, .cons h t, r => by
    cases r with
    | cons r1 r2 => exact .cons (h.dp rel r1) (t.dp rel r2)
end
def qEqD (neg : Bool) : Q2 := fun x y μ R => ∃ d e, PyOf μ x d ∧ PyOf μ y e ∧ SeqAt.shaped d = true ∧ SeqAt.shaped e = true ∧ R (.bl (if neg then !PyData.eqv d e else PyData.eqv d e)) μ
theorem o_eqD {X : Cx} (hu : X.A.units + 64 < cLine) : DOp X (compareOp .Eq) (qEqD false) := ⟨_, op_eqD hu, fun B Hf σ H Γ μ Hc Hm x y dx dy Q R rel rx ry h kn => by
  obtain ⟨d, e, h1, h2, s1, s2, hR⟩ := h
  exact ⟨d, e, h1.dp rel rx, h2.dp rel ry, s1, s2, kn.id hR rel (.bl _)⟩⟩
theorem o_neD {X : Cx} (hu : X.A.units + 64 < cLine) : DOp X (compareOp .NotEq) (qEqD true) := ⟨_, op_neD hu, fun B Hf σ H Γ μ Hc Hm x y dx dy Q R rel rx ry h kn => by
  obtain ⟨d, e, h1, h2, s1, s2, hR⟩ := h
  exact ⟨d, e, h1.dp rel rx, h2.dp rel ry, s1, s2, kn.id hR rel (.bl _)⟩⟩
def qInD (neg : Bool) : Q2 := fun x y μ R => ∃ d es, PyOf μ x d ∧ PyOf μ y (.list es) ∧ SeqAt.shaped d = true ∧ SeqAt.shaped (.list es) = true ∧ R (.bl (if neg then !(es.any fun z => PyData.eqv z d) else es.any fun z => PyData.eqv z d)) μ
theorem o_inD {X : Cx} (hu : X.A.units + 65 < cLine) : DOp X (compareOp .In) (qInD false) := ⟨_, op_inD hu, fun B Hf σ H Γ μ Hc Hm x y dx dy Q R rel rx ry h kn => by
  obtain ⟨d, e, h1, h2, s1, s2, hR⟩ := h
  exact ⟨d, e, h1.dp rel rx, h2.dp rel ry, s1, s2, kn.id hR rel (.bl _)⟩⟩
theorem o_notinD {X : Cx} (hu : X.A.units + 65 < cLine) : DOp X (compareOp .NotIn) (qInD true) := ⟨_, op_notInD hu, fun B Hf σ H Γ μ Hc Hm x y dx dy Q R rel rx ry h kn => by
  obtain ⟨d, e, h1, h2, s1, s2, hR⟩ := h
  exact ⟨d, e, h1.dp rel rx, h2.dp rel ry, s1, s2, kn.id hR rel (.bl _)⟩⟩

/-! ### tuple + tuple, list + list -/
def qCatT : Q2 := fun x y μ R => ∃ xs ys, x = .tup xs ∧ y = .tup ys ∧ xs.length + ys.length ≤ sizeLine ∧ R (.tup (xs ++ ys)) μ
theorem o_catT {X : Cx} : DOp X (binaryOp .Add) qCatT := ⟨_, op_catA, fun B Hf σ H Γ μ Hc Hm x y dx dy Q R rel rx ry h kn => by
  obtain ⟨xs, ys, rfl, rfl, hz, hR⟩ := h
  cases rx with
  | tup hx rx =>
    cases ry with
    | tup hy ry =>
      refine ⟨_, _, _, _, rfl, rfl, SqT.of (rel.pt.exc _ _ hx), SqT.of (rel.pt.exc _ _ hy), by rw [rx.length, ry.length]; exact hz, fun e => ?_, fun e e2 => ?_, fun e e2 p hp => ?_⟩
      · subst e
        cases rx
        exact kn.id hR rel (.tup hy (by simpa using ry))
      · subst e2
        cases ry
        exact kn.id hR rel (.tup hx (by simpa using rx))
      · obtain ⟨rel2, ex2⟩ := rel.newc (o := .tup _) hp
        exact kn _ _ _ _ _ _ hR rel2 (.tup upd_same ((rx.append ry).mono ex2)) ex2⟩
def qCatL : Q2 := fun x y μ R => ∃ xs ys, x = .lst xs ∧ y = .lst ys ∧ xs.length + ys.length ≤ sizeLine ∧ R (.lst (xs ++ ys)) μ
theorem o_catL {X : Cx} : DOp X (binaryOp .Add) qCatL := ⟨_, op_cat, fun B Hf σ H Γ μ Hc Hm x y dx dy Q R rel rx ry h kn => by
  obtain ⟨xs, ys, rfl, rfl, hz, hR⟩ := h
  cases rx with
  | lst hx rx =>
    cases ry with
    | lst hy ry =>
      refine ⟨_, _, _, _, rfl, rfl, rel.pt.exc _ _ hx, rel.pt.exc _ _ hy, by rw [rx.length, ry.length]; exact hz, fun p hp => ?_⟩
      obtain ⟨rel2, ex2⟩ := rel.newc (o := .lst _) hp
      exact kn _ _ _ _ _ _ hR rel2 (.lst upd_same ((rx.append ry).mono ex2)) ex2⟩

/-! ### calls of what is built in -/
def dCl (q : QA) (d : DTA) : DT := fun Γ μ R => d Γ μ fun ds μ1 => q ds μ1 R
theorem lfCl {K : PySem.W.Frag} {B : Hp} {Φ : Hp → Prop} {t : TA} {d : DTA} {r : List V → Hp → VK → Prop} {q : QA} (hr : LAr K r q) (l : LfA K B Φ t d) : LfE K B Φ (tCB r t) (dCl q d) := fun Hf σ H Γ μ Hc Hm Q R hΦ rel h k =>
  l Hf σ H Γ μ Hc Hm _ _ hΦ rel h fun xs H1 ds μ1 Hc1 Hm1 h1 rel1 rp1 ex1 =>
    hr B Hf σ H1 Γ μ1 Hc1 Hm1 xs ds Q R rel1 rp1 h1 fun v H3 z μ3 Hc3 Hm3 h3 rel3 rp3 ex3 => k v H3 z μ3 Hc3 Hm3 h3 rel3 rp3 (ex1.trans ex3)
section
variable {X : Cx} {L : Lc X} {x : Str} {p pos : Pos} {e : Expr} {es : List Expr} {d : DTA} {id T : String} {q : QA}
theorem de_callB (hc : DCl X (.builtin id) q) (hm : X.mg x = none) (ha : DA X L (e :: es) d) (hg : Gl X x := by rfl) (hv : bootBuiltins x = some (.builtin id) := by decide +kernel) (hn : x ≠ "__name__" := by decide) (hdb : (x == ("__debug__" : Str)) = false := by decide)
    (he : starEach (e :: es) X.env = (false, eval e X.env) :: starEach es X.env := by rfl) (hpl : (backTo pos (starEach es X.env)).any (·.1) = false := by rfl) : DE X L (.Call (.Name x p) (e :: es) [] pos) (dCl q d) := by
  obtain ⟨r, hr, lr⟩ := hc
  obtain ⟨t, pa, l⟩ := ha
  exact ⟨_, pe_callB hr hg hm hv pa hn hdb he hpl, lfCl lr l⟩
theorem de_callTy (hc : DCl X (.type T) q) (hm : X.mg x = none) (ha : DA X L (e :: es) d) (hg : Gl X x := by rfl) (hv : bootBuiltins x = some (.type T) := by decide +kernel) (hn : x ≠ "__name__" := by decide) (hdb : (x == ("__debug__" : Str)) = false := by decide)
    (he : starEach (e :: es) X.env = (false, eval e X.env) :: starEach es X.env := by rfl) (hpl : (backTo pos (starEach es X.env)).any (·.1) = false := by rfl) : DE X L (.Call (.Name x p) (e :: es) [] pos) (dCl q d) := by
  obtain ⟨r, hr, lr⟩ := hc
  obtain ⟨t, pa, l⟩ := ha
  exact ⟨_, pe_callTy hr hg hm hv pa hn hdb he hpl, lfCl lr l⟩
theorem de_callBf (hc : DCl X (.builtin id) q) (hm : X.mg x = some (.builtin id)) (ha : DA X L (e :: es) d) (hg : Gl X x := by rfl) (hdb : (x == ("__debug__" : Str)) = false := by decide)
    (he : starEach (e :: es) X.env = (false, eval e X.env) :: starEach es X.env := by rfl) (hpl : (backTo pos (starEach es X.env)).any (·.1) = false := by rfl) : DE X L (.Call (.Name x p) (e :: es) [] pos) (dCl q d) := by
  obtain ⟨r, hr, lr⟩ := hc
  obtain ⟨t, pa, l⟩ := ha
  exact ⟨_, pe_callBfun hr hg hm pa hdb he hpl, lfCl lr l⟩
def qLen : QA := fun xs μ R => ∃ x ds, xs = [x] ∧ seqM μ x = some ds ∧ R (.int ds.length) μ
theorem c_len : DCl X (.builtin "len") qLen := ⟨_, call_len, fun B Hf σ H Γ μ Hc Hm xs ds Q R rel ra h kn => by
  obtain ⟨x, ds, rfl, hs, hR⟩ := h
  obtain ⟨v, rfl, r⟩ := ra.one
  obtain ⟨a, ys, rfl, rb, hq⟩ := rp_seqM' rel r hs
  refine ⟨_, ys.length, rfl, ?_, by rw [rb.length]; exact kn.id hR rel (.int _)⟩
  rcases hq with hq | hq
  · exact .inl ⟨ys, hq, rfl⟩
  · exact .inr ⟨ys, hq, rfl⟩⟩
def qAbs : QA := fun xs μ R => ∃ i, xs = [.int i] ∧ R (.int (if i < 0 then -i else i)) μ
theorem c_abs : DCl X (.builtin "abs") qAbs := ⟨_, call_abs, fun B Hf σ H Γ μ Hc Hm xs ds Q R rel ra h kn => by
  obtain ⟨i, rfl, hR⟩ := h
  obtain ⟨v, rfl, r⟩ := ra.one
  cases r.int_inv
  exact ⟨i, rfl, kn.id hR rel (.int _)⟩⟩
def qInt : QA := fun xs μ R => (∃ i, xs = [.int i] ∧ R (.int i) μ) ∨ ∃ k, xs = [.bl k] ∧ R (.int (if k then 1 else 0)) μ
theorem c_int : DCl X (.type "int") qInt := ⟨_, call_int1, fun B Hf σ H Γ μ Hc Hm xs ds Q R rel ra h kn => by
  rcases h with ⟨i, rfl, hR⟩ | ⟨i, rfl, hR⟩
  · obtain ⟨v, rfl, r⟩ := ra.one
    cases r.int_inv
    exact .inl ⟨i, rfl, kn.id hR rel (.int _)⟩
  · obtain ⟨v, rfl, r⟩ := ra.one
    cases r.bl_inv
    exact .inr ⟨i, rfl, kn.id hR rel (.int _)⟩⟩
def qMin2 : QA := fun xs μ R => ∃ i j, xs = [.int i, .int j] ∧ R (.int (if j < i then j else i)) μ
theorem c_min2 (hc : X.calm = true) : DCl X (.builtin "min") qMin2 := ⟨_, call_min2 hc, fun B Hf σ H Γ μ Hc Hm xs ds Q R rel ra h kn => by
  obtain ⟨i, j, rfl, hR⟩ := h
  obtain ⟨v, v2, rfl, r, r2⟩ := ra.two
  cases r.int_inv
  cases r2.int_inv
  exact ⟨i, j, rfl, kn.id hR rel (.int _)⟩⟩
def qMax2 : QA := fun xs μ R => ∃ i j, xs = [.int i, .int j] ∧ R (.int (if j > i then j else i)) μ
theorem c_max2 (hc : X.calm = true) : DCl X (.builtin "max") qMax2 := ⟨_, call_max2 hc, fun B Hf σ H Γ μ Hc Hm xs ds Q R rel ra h kn => by
  obtain ⟨i, j, rfl, hR⟩ := h
  obtain ⟨v, v2, rfl, r, r2⟩ := ra.two
  cases r.int_inv
  cases r2.int_inv
  exact ⟨i, j, rfl, kn.id hR rel (.int _)⟩⟩
def qGcd : QA := fun xs μ R => ∃ i j : Int, xs = [.int i, .int j] ∧ R (.int (Nat.gcd i.natAbs j.natAbs : Nat)) μ
theorem c_gcd : DCl X (.builtin "math.gcd") qGcd := ⟨_, cr_gcd, fun B Hf σ H Γ μ Hc Hm xs ds Q R rel ra h kn => by
  obtain ⟨i, j, rfl, hR⟩ := h
  obtain ⟨v, v2, rfl, r, r2⟩ := ra.two
  cases r.int_inv
  cases r2.int_inv
  exact ⟨i, j, rfl, kn.id hR rel (.int _)⟩⟩
theorem RpA.bls {K : PySem.W.Frag} {H : Hp} : ∀ {vs : List V} {ns : List Bool}, RpA K H vs (ns.map D.bl) → vs = ns.map V.bl
  | _, [], .nil => rfl
  | _, n :: ns, .cons h t => by
    cases h
    rw [List.map_cons, t.bls]
def qAll : QA := fun xs μ R => ∃ (x : D) (bs : List Bool), xs = [x] ∧ seqM μ x = some (bs.map D.bl) ∧ isTup x = false ∧ R (.bl (bs.all _root_.id)) μ
theorem c_all (hc : X.calm = true) : DCl X (.builtin "all") qAll := ⟨_, cr_all hc, fun B Hf σ H Γ μ Hc Hm xs ds Q R rel ra h kn => by
  obtain ⟨x, bs, rfl, hs, hn, hR⟩ := h
  obtain ⟨v, rfl, r⟩ := ra.one
  obtain ⟨a, ys, rfl, rb, h1, _⟩ := rp_seqM rel r hs
  cases rb.bls
  exact ⟨a, bs, rfl, h1 hn, kn.id hR rel (.bl _)⟩⟩
def qAny : QA := fun xs μ R => ∃ (x : D) (bs : List Bool), xs = [x] ∧ seqM μ x = some (bs.map D.bl) ∧ isTup x = false ∧ R (.bl (bs.any _root_.id)) μ
theorem c_any (hc : X.calm = true) : DCl X (.builtin "any") qAny := ⟨_, cr_any hc, fun B Hf σ H Γ μ Hc Hm xs ds Q R rel ra h kn => by
  obtain ⟨x, bs, rfl, hs, hn, hR⟩ := h
  obtain ⟨v, rfl, r⟩ := ra.one
  obtain ⟨a, ys, rfl, rb, h1, _⟩ := rp_seqM rel r hs
  cases rb.bls
  exact ⟨a, bs, rfl, h1 hn, kn.id hR rel (.bl _)⟩⟩
/-- sum of a list or a tuple of whole numbers -/
theorem call_sum_tup (hc : X.calm = true) : CallR X (.builtin "sum") (fun vs H Q => ∃ (a : Addr) (ns : List Int), vs = [V.ref a] ∧ SqT X.K H a (ns.map V.int) ∧ Q (.int ns.sum) H) := by
  intro pins s σ H xs us Q I r h
  obtain ⟨a, ns, rfl, hs, q⟩ := h
  cases r.ref1
  obtain ⟨its, rv, ht, hz⟩ := I.tuple hs
  have hi : IntsAre its ns := rv.ints
  obtain ⟨ys, e⟩ := hi.allInts.items
  have hn : numsOf (intItems ys).toList = ns := by rw [← e]; exact hi.numsOf
  rw [nums_intItems] at hn
  have hl : s.heap.IsTuple a its.toArray := ht
  rw [e] at hl
  refine PySem.W.ktm_sumG (I.ok.hd hc) hl fun h' tk t' hk => ?_
  rw [preSum_eq, List.take_of_length_le (by simp), hn]
  exact ⟨.int ns.sum, H, I.kept (t' := tk) fun b o q => hk b o q, ⟨_, rfl⟩, q⟩
def qSum : QA := fun xs μ R => ∃ (x : D) (ns : List Int), xs = [x] ∧ seqM μ x = some (ns.map D.int) ∧ R (.int ns.sum) μ
theorem c_sum (hc : X.calm = true) : DCl X (.builtin "sum") qSum := ⟨_, CallR.or (cr_sum hc) (call_sum_tup hc), fun B Hf σ H Γ μ Hc Hm xs ds Q R rel ra h kn => by
  obtain ⟨x, bs, rfl, hs, hR⟩ := h
  obtain ⟨v, rfl, r⟩ := ra.one
  obtain ⟨a, ys, rfl, rb, hq⟩ := rp_seqM' rel r hs
  cases rb.ints
  rcases hq with hq | hq
  · exact .inl ⟨a, bs, rfl, hq, kn.id hR rel (.int _)⟩
  · exact .inr ⟨a, bs, rfl, hq, kn.id hR rel (.int _)⟩⟩
/-- list(x): a list that stays, a list that changes -/
def qList : QA := fun xs μ R => ∃ x ds, xs = [x] ∧ seqM μ x = some ds ∧ R (.lst ds) μ
theorem c_list : DCl X (.type "list") qList := ⟨_, call_list_of, fun B Hf σ H Γ μ Hc Hm xs ds Q R rel ra h kn => by
  obtain ⟨x, ds, rfl, hs, hR⟩ := h
  obtain ⟨v, rfl, r⟩ := ra.one
  obtain ⟨a, ys, rfl, rb, hq⟩ := rp_seqM' rel r hs
  refine ⟨a, ys, rfl, hq, fun p hp => ?_⟩
  obtain ⟨rel2, ex2⟩ := rel.newc (o := .lst ys) hp
  exact kn _ _ _ _ _ _ hR rel2 (.lst upd_same (rb.mono ex2)) ex2⟩
def qListM : QA := fun xs μ R => ∃ x ds, xs = [x] ∧ seqM μ x = some ds ∧ ∀ p, μ p = none → R (.adr p) (updM μ p (.lst ds))
theorem c_listM : DCl X (.type "list") qListM := ⟨_, call_list_of, fun B Hf σ H Γ μ Hc Hm xs ds Q R rel ra h kn => by
  obtain ⟨x, ds, rfl, hs, hR⟩ := h
  obtain ⟨v, rfl, r⟩ := ra.one
  obtain ⟨a, ys, rfl, rb, hq⟩ := rp_seqM' rel r hs
  refine ⟨a, ys, rfl, hq, fun p hp => ?_⟩
  obtain ⟨rel2, hn⟩ := rel.newm (o := .lst ys) (m := .lst ds) hp rb
  exact kn _ _ _ _ _ _ (hR p hn) rel2 (.adr p) (Ex.refl _)⟩
def tupR (x : D) (ds : List D) : D := match x with
  | .ftup _ => .ftup ds
  | _ => .tup ds
def qTuple : QA := fun xs μ R => ∃ x ds, xs = [x] ∧ seqM μ x = some ds ∧ R (tupR x ds) μ
theorem c_tuple : DCl X (.type "tuple") qTuple := ⟨_, call_tuple_of, fun B Hf σ H Γ μ Hc Hm xs ds Q R rel ra h kn => by
  obtain ⟨x, ds, rfl, hs, hR⟩ := h
  obtain ⟨v, rfl, r⟩ := ra.one
  cases hi : isTup x with
  | false =>
    obtain ⟨a, ys, rfl, rb, h1, _⟩ := rp_seqM rel r hs
    refine ⟨a, ys, rfl, .inl ⟨h1 hi, fun p hp => ?_⟩⟩
    obtain ⟨rel2, ex2⟩ := rel.newc (o := .tup ys) hp
    have e : tupR x ds = .tup ds := by cases x <;> first | rfl | cases hi
    rw [e] at hR
    exact kn _ _ _ _ _ _ hR rel2 (.tup upd_same (rb.mono ex2)) ex2
  | true =>
    cases r with
    | tup ht rb => cases hs; exact ⟨_, _, rfl, .inr ⟨SqT.of (rel.pt.exc _ _ ht), kn.id hR rel (.tup ht rb)⟩⟩
    | ftup ht hn rb => cases hs; exact ⟨_, _, rfl, .inr ⟨.inl (.inr ⟨_, rel.pt.exc _ _ ht⟩), kn.id hR rel (.ftup ht hn rb)⟩⟩
    | _ => cases hi⟩
end

/-! ### isinstance -/
def tyD : D → Option String
  | .non => some "NoneType"
  | .bl _ => some "bool"
  | .int _ => some "int"
  | .str _ => some "str"
  | .tup _ => some "tuple"
  | .lst _ => some "list"
  | _ => none
def qIsi (K : PySem.W.Frag) : QA := fun xs μ R => ∃ x c t u b, xs = [x, c] ∧ ((∃ n, c = .ty n ∧ u = .type n) ∨ ∃ C, c = .adr C ∧ u = .ref C) ∧ ((∃ n, tyD x = some n ∧ t = .type n) ∨ ∃ C gs, x = .obj C gs ∧ t = .ref (He.ga K C) ∧ ∀ H a dx fs, H a = some (.ins (He.ga K C) dx fs) → TyOf K H (.ref a) (.ref (He.ga K C))) ∧ PySem.W.kitOne K t u = some b ∧ R (.bl b) μ
theorem c_isi {X : Cx} : DCl X (.builtin "isinstance") (qIsi X.K) := ⟨_, call_isi, fun B Hf σ H Γ μ Hc Hm xs ds Q R rel ra h kn => by
  obtain ⟨x, c, t, u, b, rfl, hc, ht, hk, hR⟩ := h
  obtain ⟨v, v2, rfl, r, r2⟩ := ra.two
  refine ⟨v, v2, t, u, b, rfl, ?_, ?_, hk, kn.id hR rel (.bl _)⟩
  · rcases hc with ⟨n, rfl, rfl⟩ | ⟨C, rfl, rfl⟩
    · cases r2; exact .ty n
    · cases r2.adr_inv; exact .own C
  · rcases ht with ⟨n, hn, rfl⟩ | ⟨C, gs, rfl, rfl, hT⟩
    · cases r with
      | non => cases hn; exact .base .non
      | bl b => cases hn; exact .base (.bl b)
      | int b => cases hn; exact .base (.int b)
      | str b => cases hn; exact .base (.str b)
      | tup h1 _ => cases hn; exact .base (.tup (rel.pt.exc _ _ h1))
      | lst h1 _ => cases hn; exact .base (.lst (rel.pt.exc _ _ h1))
      | _ => cases hn
    · cases r with
      | obj h1 _ => exact .base (hT _ _ _ _ (rel.pt.exc _ _ h1))⟩
section
variable {X : Cx} {L : Lc X} {x : Str} {pos : Pos}
theorem de_ty {T : String} (hm : X.mg x = none) (hg : Gl X x := by rfl) (hv : bootBuiltins x = some (.type T) := by decide +kernel) (hn : x ≠ "__name__" := by decide) (hd : (x == ("__debug__" : Str)) = false := by decide) : DE X L (.Name x pos) (dC (.ty T)) :=
  de_const (pe_bltn (v := .ty T) hg hm hv rfl hn hd) fun _ _ => .ty T
theorem de_cls {C : Addr} (hm : X.mg x = some (.ref C)) (hg : Gl X x := by rfl) (hd : (x == ("__debug__" : Str)) = false := by decide) : DE X L (.Name x pos) (dC (.adr C)) :=
  de_const (pe_glob (v := .ref C) hg hm rfl hd) fun _ _ => .adr C
end
end Nod
set_option Elab.async false
set_option linter.all false
set_option maxRecDepth 100000
set_option maxHeartbeats 4000000
/-! xs[::-1] of a tuple -/
namespace HT
open PySem PyProof.Rows
section
variable {prog : Program} {w : World} {A : Around} {E : Value → Shared → Prop} {s : Shared}
theorem sliceApplied_rev {sl : Addr} {vk : Value} {n : Nat} {Q : Int × Int × Nat → Shared → Prop} (hs : s.heap.IsSliceOf sl .none .none vk) (pk : IsPart vk (some (-1)))
    (h : Q ((n : Int) - 1, -1, n) s) : wpAny (model prog w) A (Builtin.Slice.sliceApplied (.ref sl) (pure (n : Int))) Q E s := by
  obtain ⟨os, hos, hcs, hds⟩ := id hs
  unfold Builtin.Slice.sliceApplied Builtin.Slice.sliceFields
  refine wpAny_bind (wpAny_bind (wpAny_field hos hds (x := .none) rfl (wpAny_bind (wpAny_field hos hds (x := .none) rfl (wpAny_bind (wpAny_field hos hds (x := vk) rfl (wpAny_pure ?_)))))))
  refine wpAny_bind (slicePart_ pk ?_)
  show wpAny _ _ (if ((-1 : Int) == 0) = true then _ else _) _ _ s
  rw [if_neg (by decide)]
  refine wpAny_bind (slicePart_none (wpAny_bind (slicePart_none (wpAny_bind (wpAny_pure ?_)))))
  show wpAny _ _ (match Builtin.Slice.sliceAdjust none none (-1) (n : Int) with | (lo, hi) => pure (lo, (-1 : Int), Builtin.Slice.slicePlaces lo hi (-1))) _ _ s
  have e : Builtin.Slice.sliceAdjust none none (-1) (n : Int) = ((n : Int) - 1, -1) := by unfold Builtin.Slice.sliceAdjust; simp
  rw [e]
  show wpAny _ _ (pure ((n : Int) - 1, (-1 : Int), Builtin.Slice.slicePlaces ((n : Int) - 1) (-1) (-1))) _ _ s
  have e2 : Builtin.Slice.slicePlaces ((n : Int) - 1) (-1) (-1) = n := by
    unfold Builtin.Slice.slicePlaces
    rw [if_neg (by decide)]
    split
    · rw [show (-(-1 : Int)) = 1 from rfl, Int.ediv_one]; omega
    · show (0 : Int).toNat = n
      omega
  rw [e2]
  exact wpAny_pure h
theorem pick_rev (xs : List Value) : (List.range xs.length).filterMap (fun (m : Nat) => xs[((xs.length : Int) - 1 + (m : Int) * (-1)).toNat]?) = xs.reverse := by
  refine List.ext_getElem? fun i => ?_
  have key : ∀ m, m < xs.length → xs[((xs.length : Int) - 1 + (m : Int) * (-1)).toNat]? = some (xs.getD (xs.length - 1 - m) .none) := fun m hm => by
    have e : ((xs.length : Int) - 1 + (m : Int) * (-1)).toNat = xs.length - 1 - m := by omega
    rw [e, List.getD_eq_getElem?_getD]
    have h2 : xs.length - 1 - m < xs.length := by omega
    rw [List.getElem?_eq_getElem h2]
    rfl
  have gen : ∀ (l : List Nat), (∀ m ∈ l, m < xs.length) → l.filterMap (fun (m : Nat) => xs[((xs.length : Int) - 1 + (m : Int) * (-1)).toNat]?) = l.map fun m => xs.getD (xs.length - 1 - m) .none := by
    intro l
    induction l with
    | nil => intro _; rfl
    | cons m r ih =>
      intro h
      rw [List.filterMap_cons, key m (h m (List.mem_cons_self ..)), List.map_cons, ih fun k hk => h k (List.mem_cons_of_mem _ hk)]
  rw [gen _ fun m hm => List.mem_range.mp hm, List.getElem?_map]
  by_cases hi : i < xs.length
  · rw [List.getElem?_range hi, List.getElem?_reverse hi, Option.map_some, List.getD_eq_getElem?_getD]
    have h2 : xs.length - 1 - i < xs.length := by omega
    rw [List.getElem?_eq_getElem h2]
    rfl
  · rw [List.getElem?_eq_none (by rw [List.length_range]; omega), List.getElem?_eq_none (by rw [List.length_reverse]; omega)]
    rfl
theorem getItem_tuple_rev {t sl : Addr} {items : Array Value} {vk : Value} {Q : Value → Shared → Prop} (ht : IsTup s.heap t items) (hs : s.heap.IsSliceOf sl .none .none vk) (pk : IsPart vk (some (-1)))
    (h : Q (.ref s.heap.objs.size) { s with heap := s.heap.push { cls := .type "tuple", data := .seq items.toList.reverse.toArray } })
    (hsz : items.size ≤ sizeLine) : wpAny (model prog w) A (getItem (.ref t) (.ref sl)) Q E s := by
  have htake : sizeOk (.seq items.toList.reverse.toArray) := by
    show items.toList.reverse.toArray.size ≤ sizeLine
    rw [List.size_toArray, List.length_reverse, Array.length_toList]
    exact hsz
  obtain ⟨os, hos, hcs, hds⟩ := id hs
  have hTs : s.TypeIs (.ref sl) "slice" := ⟨os, hos, hcs⟩
  unfold getItem
  try with_reducible refine wpAny_holding ?_
  first | refine wpAny_bind (wpAny_pure ?_) | skip
  refine wpAny_bind (wpAny_sequenceKey ht.typeIs (by decide) ?_)
  refine wpAny_bind (wpAny_callSpecial?_slot (name := Str.ofString "__getitem__") ht.typeIs PyProof.Rows.slot_tuple_getitem
    (wpAny_call_entry PyProof.Rows.slot_tuple_getitem ht.typeIs entry_tuple_getitem ?_ (args_tuple_getitem _ _)))
  show wpAny _ _ (Builtin.Tuple.tupleItemsOf (.ref t) >>= _) _ _ s
  refine wpAny_bind (tupleItemsOf_ ht ?_)
  refine wpAny_bind (wpAny_typeOf hTs ?_)
  rw [if_pos (by decide)]
  refine wpAny_bind (sliceApplied_rev hs pk ?_)
  have hno : ¬ ((((items.size : Int) - 1) == 0 && (-1 : Int) == 1 && items.size == items.size) = true) := by
    intro q
    rw [Bool.and_eq_true, Bool.and_eq_true] at q
    exact absurd q.1.2 (by decide)
  show wpAny _ _ (if (((items.size : Int) - 1) == 0 && (-1 : Int) == 1 && items.size == items.size) = true then _ else _) _ _ s
  have ep : ((List.range items.size).filterMap fun (k : Nat) => items[((items.size : Int) - 1 + (k : Int) * (-1)).toNat]?) = items.toList.reverse := by
    have q := pick_rev items.toList
    simp only [Array.length_toList, Array.getElem?_toList] at q
    exact q
  rw [if_neg hno, ep]
  first
    | exact wpAny_bind (m := Builtin.Tuple.tupleExact _) (wpAny_newObj_type (wpAny_pure ⟨_, rfl, wpAny_pure h⟩) htake)
    | exact wpAny_bind (m := Builtin.Tuple.tupleExact _) (wpAny_newObj_type (wpAny_bind (wpAny_pure (wpAny_pure ⟨_, rfl, wpAny_pure h⟩))) htake)
    | exact wpAny_bind (wpAny_bind (m := Builtin.Tuple.tupleExact _) (wpAny_newObj_type (wpAny_pure (wpAny_pure ⟨_, rfl, wpAny_pure h⟩)) htake))
    | exact wpAny_bind (wpAny_bind (m := Builtin.Tuple.tupleExact _) (wpAny_newObj_type (wpAny_pure ⟨_, rfl, wpAny_pure h⟩) htake))
end
end HT
namespace Nod
open PySem PySem.Spec PyProof.Rows L2
open Evl (Ex)
def tRevT (K : PySem.W.Frag) (te : TE) : TE := fun σ H Q => te σ H fun x H1 => ∃ a xs, x = .ref a ∧ SqT K H1 a xs ∧ ∀ p, H1 p = none → Q (.ref p) (upd H1 p (.tup xs.reverse))
theorem pe_revT {X : Cx} {e : Expr} {te : TE} {k : Nat} {p1 p2 p3 pos : Pos} (he : PE X e te) : PE X (.Subscript e (.Slice none none (some (.UnaryOp .USub (.Constant (.int 1) k p1) p2)) p3) pos) (tRevT X.K te) := by
  refine ⟨fun pins s σ H Q I h => ?_⟩
  refine Subscript_ (thn (he.run pins s σ H _ I h) fun v s1 ⟨x, H1, I1, r1, q1⟩ => ?_)
  obtain ⟨a, xs, ex, hx, q⟩ := q1
  subst ex
  cases r1
  have hst : PO X (some (.UnaryOp .USub (.Constant (.int 1) k p1) p2)) (tPart (tUn (rU fun i => .int (-i)) (tC (.int 1)))) := po_some (pe_un un_neg pe_int)
  refine wpAny_Slice (thn (po_none.run pins s1 σ H1 (fun o H2 => o = none ∧ H2 = H1) I1 ⟨rfl, rfl⟩) fun vl s2 ⟨l, H2, I2, pl, el, e2⟩ => ?_)
  subst el e2
  refine thn (po_none.run pins s2 σ H2 (fun o H3 => o = none ∧ H3 = H2) I2 ⟨rfl, rfl⟩) fun vu s3 ⟨u, H3, I3, pu, eu, e3⟩ => ?_
  subst eu e3
  refine thn (hst.run pins s3 σ H3 (fun o H4 => o = some (-1) ∧ H4 = H3) I3 ⟨1, rfl, -1, rfl, rfl, rfl⟩) fun vs s4 ⟨o, H4, I4, ps, eo, e4⟩ => ?_
  subst eo e4
  have I5 : Inv X pins σ H4 { s4 with heap := s4.heap.push { cls := .type "slice", data := .fields #[vl, vu, vs] } } := I4.kept (t' := s4.toks) fun b ob q => Heap.get?_push_of_some _ q
  obtain ⟨its, r, ht, hz⟩ := I5.tuple hx
  have hlen := r.length
  have htt : IsTup (s4.heap.push { cls := .type "slice", data := .fields #[vl, vu, vs] }) a its.toArray := ht
  obtain rfl : vl = .none := by cases pl; rfl
  obtain rfl : vu = .none := by cases pu; rfl
  show wpAny (model X.prog X.w) X.A (subscriptTail e (.Slice none none (some (.UnaryOp .USub (.Constant (.int 1) k p1) p2)) p3) (.ref a) (.ref s4.heap.objs.size)) (EP X pins σ Q) X.xe { s4 with heap := s4.heap.push { cls := .type "slice", data := .fields #[.none, .none, vs] } }
  refine tail_any (ops := [.ref a, .ref s4.heap.objs.size]) htt.typeIs (PyProof.Rows.slot_tuple_getitem.lookup) ?_ (by with_unfolding_all rfl)
  refine HT.getItem_tuple_rev htt (Heap.IsSliceOf.new _ .none .none vs) ps ?_ (by rw [List.size_toArray]; omega)
  refine ⟨.ref _, _, I5.laid (t' := s4.toks) (o := .tup xs.reverse) (fun b ob q => Heap.get?_push_of_some _ q) (Nat.le_refl _) ?_, rfl, q _ (I5.hok.fresh (Nat.le_refl _))⟩
  exact ⟨by rw [List.length_reverse]; exact hz, its.reverse, r.reverse, IsTup.new _ _⟩
/-- xs[::-1] -/
def dRev (d : DT) : DT := fun Γ μ R => d Γ μ fun x μ1 => ∃ ds, seqM μ1 x = some ds ∧ isTup x = false ∧ R (.lst ds.reverse) μ1
def dRevT (d : DT) : DT := fun Γ μ R => d Γ μ fun x μ1 => ∃ ds, x = .tup ds ∧ R (.tup ds.reverse) μ1
section
variable {X : Cx} {L : Lc X} {e : Expr} {da : DT} {k : Nat} {p1 p2 p3 pos : Pos}
theorem de_rev (h : DE X L e da) : DE X L (.Subscript e (.Slice none none (some (.UnaryOp .USub (.Constant (.int 1) k p1) p2)) p3) pos) (dRev da) := by
  obtain ⟨t, p, l⟩ := h
  refine ⟨_, pe_revL p, fun Hf σ H Γ μ Hc Hm Q R hΦ rel h k => l Hf σ H Γ μ Hc Hm _ _ hΦ rel h fun x H1 dx μ1 Hc1 Hm1 h1 rel1 rp1 ex1 => ?_⟩
  obtain ⟨ds, hs, hn, hR⟩ := h1
  obtain ⟨a, xs, rfl, ra, h2, _⟩ := rp_seqM rel1 rp1 hs
  refine ⟨a, xs, rfl, h2 hn, fun p hp => ?_⟩
  obtain ⟨rel2, ex2⟩ := rel1.newc (o := .lst xs.reverse) hp
  exact k _ _ _ _ _ _ hR rel2 (.lst upd_same (ra.reverse.mono ex2)) (ex1.trans ex2)
theorem de_revT (h : DE X L e da) : DE X L (.Subscript e (.Slice none none (some (.UnaryOp .USub (.Constant (.int 1) k p1) p2)) p3) pos) (dRevT da) := by
  obtain ⟨t, p, l⟩ := h
  refine ⟨_, pe_revT p, fun Hf σ H Γ μ Hc Hm Q R hΦ rel h k => l Hf σ H Γ μ Hc Hm _ _ hΦ rel h fun x H1 dx μ1 Hc1 Hm1 h1 rel1 rp1 ex1 => ?_⟩
  obtain ⟨ds, rfl, hR⟩ := h1
  cases rp1 with
  | tup ht ra =>
    refine ⟨_, _, rfl, SqT.of (rel1.pt.exc _ _ ht), fun p hp => ?_⟩
    obtain ⟨rel2, ex2⟩ := rel1.newc (o := .tup _) hp
    exact k _ _ _ _ _ _ hR rel2 (.tup upd_same (ra.reverse.mono ex2)) (ex1.trans ex2)
end

/-! ### slices -/
abbrev DTO := DEn → Mu → (Option Int → Mu → Prop) → Prop
def LfO (K : PySem.W.Frag) (B : Hp) (Φ : Hp → Prop) (t : TO) (d : DTO) : Prop := ∀ (Hf : Hp) (σ : L2.St) (H : Hp) (Γ : DEn) (μ : Mu) (Hc Hm : Hp) (Q : Option Int → Hp → Prop) (R : Option Int → Mu → Prop), Φ Hf → Rel K B Hf σ H Γ μ Hc Hm → d Γ μ R →
  (∀ o H' μ' Hc' Hm', R o μ' → Rel K B Hf σ H' Γ μ' Hc' Hm' → Ex Hc Hc' → Q o H') → t σ H Q
def DO (X : Cx) (L : Lc X) (e : Option Expr) (d : DTO) : Prop := ∃ t, PO X e t ∧ LfO X.K L.B L.Φ t d
def dNoPart : DTO := fun _ μ R => R none μ
def dPart (d : DT) : DTO := fun Γ μ R => d Γ μ fun x μ1 => ∃ i, x = .int i ∧ R (some i) μ1
theorem do_none {X : Cx} {L : Lc X} : DO X L none dNoPart := ⟨_, po_none, fun Hf σ H Γ μ Hc Hm Q R _ rel h k => k none H μ Hc Hm h rel (Ex.refl _)⟩
theorem do_some {X : Cx} {L : Lc X} {e : Expr} {d : DT} (h : DE X L e d) : DO X L (some e) (dPart d) := by
  obtain ⟨t, p, l⟩ := h
  refine ⟨_, po_some p, fun Hf σ H Γ μ Hc Hm Q R hΦ rel h k => l Hf σ H Γ μ Hc Hm _ _ hΦ rel h fun x H1 dx μ1 Hc1 Hm1 h1 rel1 rp1 ex1 => ?_⟩
  obtain ⟨i, rfl, hR⟩ := h1
  exact ⟨i, rp1.int_inv, k _ _ _ _ _ hR rel1 ex1⟩
def cutD (xs : List D) (lo hi : Option Int) : List D := (xs.drop (HT.sIx xs.length 0 lo)).take (HT.sIx xs.length xs.length hi - HT.sIx xs.length 0 lo)
theorem rpA_cut {K : PySem.W.Frag} {H : Hp} {vs : List V} {ds : List D} (r : RpA K H vs ds) (lo hi : Option Int) : RpA K H (cutV vs lo hi) (cutD ds lo hi) := by
  unfold cutV cutD
  rw [r.length]
  exact (r.drop _).take _
def dSlL (d : DT) (lo hi : DTO) : DT := fun Γ μ R => d Γ μ fun x μ1 => lo Γ μ1 fun l μ2 => hi Γ μ2 fun u μ3 => ∃ ds, seqM μ3 x = some ds ∧ isTup x = false ∧ R (.lst (cutD ds l u)) μ3
def dSlT (d : DT) (lo hi : DTO) : DT := fun Γ μ R => d Γ μ fun x μ1 => lo Γ μ1 fun l μ2 => hi Γ μ2 fun u μ3 => ∃ ds, x = .tup ds ∧ R (.tup (cutD ds l u)) μ3
section
variable {X : Cx} {L : Lc X} {e : Expr} {da : DT} {lo hi : Option Expr} {dl dh : DTO} {p2 pos : Pos}
theorem de_slL (h : DE X L e da) (hl : DO X L lo dl) (hh : DO X L hi dh) : DE X L (.Subscript e (.Slice lo hi none p2) pos) (dSlL da dl dh) := by
  obtain ⟨t, p, l⟩ := h
  obtain ⟨t2, q2, l2⟩ := hl
  obtain ⟨t3, q3, l3⟩ := hh
  refine ⟨_, pe_slice sl_list p q2 q3, fun Hf σ H Γ μ Hc Hm Q R hΦ rel h k => l Hf σ H Γ μ Hc Hm _ _ hΦ rel h fun x H1 dx μ1 Hc1 Hm1 h1 rel1 rp1 ex1 =>
    l2 Hf σ H1 Γ μ1 Hc1 Hm1 _ _ hΦ rel1 h1 fun o H2 μ2 Hc2 Hm2 h2 rel2 ex2 => l3 Hf σ H2 Γ μ2 Hc2 Hm2 _ _ hΦ rel2 h2 fun o' H3 μ3 Hc3 Hm3 h3 rel3 ex3 => ?_⟩
  obtain ⟨ds, hs, hn, hR⟩ := h3
  obtain ⟨a, xs, rfl, ra, h2, _⟩ := rp_seqM rel3 (rp1.mono (ex2.trans ex3)) hs
  refine ⟨a, xs, rfl, h2 hn, fun p hp => ?_⟩
  obtain ⟨rel4, ex4⟩ := rel3.newc (o := .lst (cutV xs o o')) hp
  exact k _ _ _ _ _ _ hR rel4 (.lst upd_same ((rpA_cut ra _ _).mono ex4)) ((ex1.trans (ex2.trans ex3)).trans ex4)
theorem de_slT (h : DE X L e da) (hl : DO X L lo dl) (hh : DO X L hi dh) : DE X L (.Subscript e (.Slice lo hi none p2) pos) (dSlT da dl dh) := by
  obtain ⟨t, p, l⟩ := h
  obtain ⟨t2, q2, l2⟩ := hl
  obtain ⟨t3, q3, l3⟩ := hh
  refine ⟨_, pe_slice sl_tupA p q2 q3, fun Hf σ H Γ μ Hc Hm Q R hΦ rel h k => l Hf σ H Γ μ Hc Hm _ _ hΦ rel h fun x H1 dx μ1 Hc1 Hm1 h1 rel1 rp1 ex1 =>
    l2 Hf σ H1 Γ μ1 Hc1 Hm1 _ _ hΦ rel1 h1 fun o H2 μ2 Hc2 Hm2 h2 rel2 ex2 => l3 Hf σ H2 Γ μ2 Hc2 Hm2 _ _ hΦ rel2 h2 fun o' H3 μ3 Hc3 Hm3 h3 rel3 ex3 => ?_⟩
  obtain ⟨ds, rfl, hR⟩ := h3
  cases rp1 with
  | @tup a vs _ ht ra =>
    have ex13 := ex2.trans ex3
    refine ⟨a, vs, rfl, SqT.of (rel3.pt.exc _ _ (ex13 _ _ ht)), fun hw => ?_, fun hw p hp => ?_⟩
    · have e : cutD ds o o' = ds := by
        unfold cutD
        rw [← ra.length, hw.1, hw.2, List.drop_zero, Nat.sub_zero, ra.length, List.take_length]
      rw [e] at hR
      exact k _ _ _ _ _ _ hR rel3 (.tup (ex13 _ _ ht) (ra.mono ex13)) (ex1.trans ex13)
    · obtain ⟨rel4, ex4⟩ := rel3.newc (o := .tup (cutV vs o o')) hp
      exact k _ _ _ _ _ _ hR rel4 (.tup upd_same ((rpA_cut (ra.mono ex13) _ _).mono ex4)) ((ex1.trans ex13).trans ex4)
end

/-! ### lists that change -/
def dAppend (da db : DT) : DT := fun Γ μ R => da Γ μ fun x μ1 => ∃ a, x = .adr a ∧ (∃ ds, μ1 a = some (.lst ds)) ∧ db Γ μ1 fun y μ2 => ∃ ds, μ2 a = some (.lst ds) ∧ ds.length < sizeLine ∧ R .non (updM μ2 a (.lst (ds ++ [y])))
def dPop (da : DT) : DT := fun Γ μ R => da Γ μ fun x μ1 => ∃ a ds y, x = .adr a ∧ μ1 a = some (.lst (ds ++ [y])) ∧ R y (updM μ1 a (.lst ds))
theorem rel_lst {K : PySem.W.Frag} {B Hf : Hp} {σ : L2.St} {H : Hp} {Γ : DEn} {μ : Mu} {Hc Hm : Hp} (rel : Rel K B Hf σ H Γ μ Hc Hm) {a : Addr} {ds : List D} (h : μ a = some (.lst ds)) : ∃ vs, H a = some (.lst vs) ∧ RpA K Hc vs ds := by
  obtain ⟨o, ho, q⟩ := rel.get h
  cases o with
  | lst vs => exact ⟨vs, ho, q⟩
  | _ => exact q.elim
section
variable {X : Cx} {L : Lc X} {o e : Expr} {da db : DT} {apos cpos : Pos}
theorem de_append (ha : DE X L o da) (hb : DE X L e db)
    (hbase : attributeBase o "append" X.env (eval o X.env) = eval o X.env := by rfl)
    (hfew : ((backTo cpos (starEach [e] X.env)).all (fun x => !x.1) && (backToKw cpos (keywordEach [] X.env)).all (fun x => x.1.isSome)
      && decide ([e].length + ([] : List Keyword).length + (if ([] : List Keyword).isEmpty then 0 else 1) < 30)) = true := by rfl)
    (hline : (apos.endLine == cpos.line) = true := by rfl) (hs : starEach [e] X.env = (false, eval e X.env) :: starEach [] X.env := by rfl) (hplain : (backTo cpos (starEach [] X.env)).any (·.1) = false := by rfl) :
    DE X L (.Call (.Attribute o "append" apos) [e] [] cpos) (dAppend da db) := by
  obtain ⟨ta, p, la⟩ := ha
  obtain ⟨tb, p2, lb⟩ := hb
  refine ⟨_, pe_bm F.plainAttrs_list F.slot_list_append F.type_list_append (fun pins s σ H x xs v us Q I rx rv h => mt_append pins s σ H x xs v us Q I rx rv h) p (pa_cons p2 pa_nil hs) hbase hfew hline hs hplain, fun Hf σ H Γ μ Hc Hm Q R hΦ rel h k => la Hf σ H Γ μ Hc Hm _ _ hΦ rel h fun x H1 dx μ1 Hc1 Hm1 h1 rel1 rp1 ex1 => ?_⟩
  obtain ⟨a, rfl, ⟨ds, hds⟩, h1⟩ := h1
  cases rp1.adr_inv
  obtain ⟨vs, hv, _⟩ := rel_lst rel1 hds
  refine ⟨.inl ⟨rfl, vs, SqL.of hv⟩, lb Hf σ H1 Γ μ1 Hc1 Hm1 _ _ hΦ rel1 h1 fun y H2 dy μ2 Hc2 Hm2 h2 rel2 rp2 ex2 => ?_⟩
  obtain ⟨ds2, hd2, hz, hR⟩ := h2
  obtain ⟨vs2, hv2, ra2⟩ := rel_lst rel2 hd2
  exact ⟨a, vs2, y, rfl, rfl, hv2, by rw [ra2.length]; exact hz, k _ _ _ _ _ _ hR (rel2.setm hd2 (ra2.append (.cons rp2 .nil))) .non (ex1.trans ex2)⟩
theorem de_pop (ha : DE X L o da) (hbase : attributeBase o "pop" X.env (eval o X.env) = eval o X.env := by rfl) (hline : (apos.endLine == cpos.line) = true := by rfl) :
    DE X L (.Call (.Attribute o "pop" apos) [] [] cpos) (dPop da) := by
  obtain ⟨ta, p, la⟩ := ha
  refine ⟨_, pe_bm0 F.plainAttrs_list F.slot_list_pop F.type_list_pop (fun pins s σ H x xs v us Q I rx rv h => mt_pop pins s σ H x xs v us Q I rx rv h) p hbase hline, fun Hf σ H Γ μ Hc Hm Q R hΦ rel h k => la Hf σ H Γ μ Hc Hm _ _ hΦ rel h fun x H1 dx μ1 Hc1 Hm1 h1 rel1 rp1 ex1 => ?_⟩
  obtain ⟨a, ds, y, rfl, hds, hR⟩ := h1
  cases rp1.adr_inv
  obtain ⟨vs, hv, ra⟩ := rel_lst rel1 hds
  have hl := ra.length
  rw [List.length_append, List.length_singleton] at hl
  obtain ⟨v, e1, rv⟩ := ra.get (i := ds.length) (d := y) (by simp)
  refine ⟨.inl ⟨rfl, vs, SqL.of hv⟩, a, vs, v, rfl, rfl, hv, by rw [hl]; simpa using e1, ?_⟩
  have rd := ra.dropLast
  rw [List.dropLast_concat] at rd
  exact k _ _ _ _ _ _ hR (rel1.setm hds rd) rv ex1
/-- a changing list becomes one that stays -/
def dCom (d : DT) : DT := fun Γ μ R => d Γ μ fun x μ1 => ∃ a ds, x = .adr a ∧ μ1 a = some (.lst ds) ∧ R (.lst ds) (delM μ1 a)
theorem Rel.commitL {K : PySem.W.Frag} {B Hf : Hp} {σ : L2.St} {H : Hp} {Γ : DEn} {μ : Mu} {Hc Hm : Hp} (rel : Rel K B Hf σ H Γ μ Hc Hm) {a : Addr} {ds : List D} (h : μ a = some (.lst ds)) :
    ∃ Hc' Hm', Rel K B Hf σ H Γ (delM μ a) Hc' Hm' ∧ Ex Hc Hc' ∧ Rp K Hc' (.ref a) (.lst ds) := by
  obtain ⟨o, h1, q⟩ := rel.mu.get h
  cases o with
  | lst vs =>
    obtain ⟨p2, ex⟩ := rel.pt.commit h1
    exact ⟨_, _, ⟨p2, rel.ex.trans ex, rel.sg.mono ex, rel.mu.del.mono ex⟩, ex, .lst upd_same (RpA.mono ex q)⟩
  | _ => exact q.elim
theorem de_com (h : DE X L e da) : DE X L e (dCom da) := by
  obtain ⟨t, p, l⟩ := h
  refine ⟨t, p, fun Hf σ H Γ μ Hc Hm Q R hΦ rel h k => l Hf σ H Γ μ Hc Hm _ _ hΦ rel h fun x H1 dx μ1 Hc1 Hm1 h1 rel1 rp1 ex1 => ?_⟩
  obtain ⟨a, ds, rfl, hd, hR⟩ := h1
  cases rp1.adr_inv
  obtain ⟨Hc2, Hm2, rel2, ex2, r2⟩ := rel1.commitL hd
  exact k _ _ _ _ _ _ hR rel2 r2 (ex1.trans ex2)
/-- the same for a variable, ahead of a suite -/
def dComV (i : Nat) (d : DS) : DS := fun De Γ μ => ∃ a ds, Γ[i]? = some (some (.adr a)) ∧ μ a = some (.lst ds) ∧ d De (Γ.set i (some (.lst ds))) (delM μ a)
theorem Sg.ofv {K : PySem.W.Frag} {H : Hp} {σ : L2.St} {Γ : DEn} {i : Nat} {v : V} {d : D} (h : Sg K H σ Γ) (e : σ[i]? = some (some v)) (r : Rp K H v d) : Sg K H σ (Γ.set i (some d)) := by
  have := h.set r i
  rw [show σ.set i (some v) = σ from by
    refine List.ext_getElem? fun j => ?_
    rw [List.getElem?_set]
    by_cases c : i = j
    · subst c
      rw [if_pos rfl, e]
      split
      · rfl
      · rename_i hl
        rw [List.getElem?_eq_none (by omega)] at e
        cases e
    · rw [if_neg c]] at this
  exact this
theorem dss_com (i : Nat) {sts : List Stmt} {d : DS} (h : DSs X L sts d) : DSs X L sts (dComV i d) := by
  obtain ⟨t, p, l⟩ := h
  refine ⟨t, p, fun Hf σ H Γ μ Hc Hm Dn De hΦ rel h k => ?_⟩
  obtain ⟨a, ds, h1, h2, h3⟩ := h
  obtain ⟨v, e1, r1⟩ := rel.sg.2 i _ h1
  cases r1.adr_inv
  obtain ⟨Hc2, Hm2, rel2, ex2, r2⟩ := rel.commitL h2
  exact l Hf σ H _ _ Hc2 Hm2 Dn De hΦ (rel2.frame (rel2.sg.ofv e1 r2)) h3 (k.ex ex2)
end

/-! ### dicts, the keys tuples -/
def kD : Key → D
  | .inl i => .int i
  | .inr x => .str x
theorem rpA_keys {K : PySem.W.Frag} {H : Hp} : ∀ {vs : List V} {k : List Key}, RpA K H vs (k.map kD) → vs = k.map kV
  | _, [], .nil => rfl
  | _, .inl i :: k, .cons h t => by
    cases (show Rp K H _ (.int i) from h).int_inv
    rw [List.map_cons, rpA_keys t]
    rfl
  | _, .inr i :: k, .cons h t => by
    cases (show Rp K H _ (.str i) from h).str_inv
    rw [List.map_cons, rpA_keys t]
    rfl
theorem rpA_ofKeys {K : PySem.W.Frag} {H : Hp} : ∀ (k : List Key), RpA K H (k.map kV) (k.map kD)
  | [] => .nil
  | .inl i :: k => .cons (.int i) (rpA_ofKeys k)
  | .inr i :: k => .cons (.str i) (rpA_ofKeys k)
section
variable {κ : Type} [DecidableEq κ]
def getDK (kvs : List (κ × D)) (k : κ) : Option D := (kvs.find? fun kv => decide (kv.1 = k)).map (·.2)
def putDK (kvs : List (κ × D)) (k : κ) (v : D) : List (κ × D) :=
  if (kvs.any fun kv => decide (kv.1 = k)) = true then kvs.map (fun kv => if kv.1 = k then (kv.1, v) else kv) else kvs ++ [(k, v)]
theorem RpK.val {K : PySem.W.Frag} {H : Hp} {k : κ} : ∀ {vs : List (κ × V)} {ds : List (κ × D)}, RpK K H vs ds → (valV vs k = none ∧ getDK ds k = none) ∨ ∃ v d, valV vs k = some v ∧ getDK ds k = some d ∧ Rp K H v d
  | _, _, .nil => .inl ⟨rfl, rfl⟩
  | _, _, .cons (f := f) (v := v) (d := d) (ds := ds) h t => by
    by_cases c : f = k
    · refine .inr ⟨v, d, valV_pos c, ?_, h⟩
      unfold getDK; simp [List.find?_cons, c]
    · have e : getDK ((f, d) :: ds) k = getDK ds k := by unfold getDK; rw [List.find?_cons]; simp [c]
      rw [valV_neg c, e]
      exact RpK.val t
theorem RpK.any {K : PySem.W.Frag} {H : Hp} {k : κ} : ∀ {vs : List (κ × V)} {ds : List (κ × D)}, RpK K H vs ds → (vs.any fun kv => decide (kv.1 = k)) = ds.any fun kv => decide (kv.1 = k)
  | _, _, .nil => rfl
  | _, _, .cons h t => by rw [List.any_cons, List.any_cons, t.any]
theorem RpK.mapPut {K : PySem.W.Frag} {H : Hp} {k : κ} {v : V} {d : D} (r : Rp K H v d) : ∀ {vs : List (κ × V)} {ds : List (κ × D)}, RpK K H vs ds → RpK K H (vs.map fun kv => if kv.1 = k then (kv.1, v) else kv) (ds.map fun kv => if kv.1 = k then (kv.1, d) else kv)
  | _, _, .nil => .nil
  | _, _, .cons (f := f) h t => by
    rw [List.map_cons, List.map_cons]
    by_cases c : f = k
    · simp only [if_pos c]; exact .cons r (t.mapPut r)
    · simp only [if_neg c]; exact .cons h (t.mapPut r)
theorem RpK.append {K : PySem.W.Frag} {H : Hp} : ∀ {vs ws : List (κ × V)} {ds es : List (κ × D)}, RpK K H vs ds → RpK K H ws es → RpK K H (vs ++ ws) (ds ++ es)
  | _, _, _, _, .nil, s => s
  | _, _, _, _, .cons r t, s => .cons r (t.append s)
theorem RpK.put {K : PySem.W.Frag} {H : Hp} {k : κ} {v : V} {d : D} (r : Rp K H v d) {vs : List (κ × V)} {ds : List (κ × D)} (h : RpK K H vs ds) : RpK K H (putK vs k v) (putDK ds k d) := by
  unfold putK putDK
  rw [h.any]
  split
  · exact h.mapPut r
  · exact h.append (.cons r .nil)
theorem RpK.length {K : PySem.W.Frag} {H : Hp} : ∀ {vs : List (κ × V)} {ds : List (κ × D)}, RpK K H vs ds → vs.length = ds.length
  | _, _, .nil => rfl
  | _, _, .cons _ t => congrArg (· + 1) t.length
theorem RpK.keys {K : PySem.W.Frag} {H : Hp} : ∀ {vs : List (κ × V)} {ds : List (κ × D)}, RpK K H vs ds → vs.map (·.1) = ds.map (·.1)
  | _, _, .nil => rfl
  | _, _, .cons _ t => by rw [List.map_cons, List.map_cons, t.keys]
end
theorem rel_dT {K : PySem.W.Frag} {B Hf : Hp} {σ : L2.St} {H : Hp} {Γ : DEn} {μ : Mu} {Hc Hm : Hp} (rel : Rel K B Hf σ H Γ μ Hc Hm) {a : Addr} {ds : List (List Key × D)} (h : μ a = some (.dT ds)) : ∃ vs, H a = some (.dT vs) ∧ RpK K Hc vs ds := by
  obtain ⟨o, ho, q⟩ := rel.get h
  cases o with
  | dT vs => exact ⟨vs, ho, q⟩
  | _ => exact q.elim
theorem rp_key {K : PySem.W.Frag} {B Hf : Hp} {σ : L2.St} {H : Hp} {Γ : DEn} {μ : Mu} {Hc Hm : Hp} (rel : Rel K B Hf σ H Γ μ Hc Hm) {v : V} {k : List Key} (h : Rp K Hc v (.tup (k.map kD))) : ∃ b, v = .ref b ∧ H b = some (.tup (k.map kV)) := by
  cases h with
  | tup ht ra =>
    cases rpA_keys ra
    exact ⟨_, rfl, rel.pt.exc _ _ ht⟩
def dDNewT : DT := fun _ μ R => ∀ p, μ p = none → R (.adr p) (updM μ p (.dT []))
def dDGetT (da db : DT) : DT := fun Γ μ R => da Γ μ fun x μ1 => db Γ μ1 fun y μ2 => ∃ a kvs k d, x = .adr a ∧ μ2 a = some (.dT kvs) ∧ y = .tup (k.map kD) ∧ getDK kvs k = some d ∧ R d μ2
def dDGetT2 (da db dc : DT) : DT := fun Γ μ R => da Γ μ fun x μ1 => ∃ a, x = .adr a ∧ (∃ kvs, μ1 a = some (.dT kvs)) ∧ db Γ μ1 fun y μ2 => dc Γ μ2 fun z μ3 => ∃ kvs k, μ3 a = some (.dT kvs) ∧ y = .tup (k.map kD) ∧ R ((getDK kvs k).getD z) μ3
def dDPutT (da db dv : DT) : DS := fun De Γ μ => dv Γ μ fun v μ1 => da Γ μ1 fun x μ2 => db Γ μ2 fun y μ3 => ∃ a kvs k, x = .adr a ∧ μ3 a = some (.dT kvs) ∧ y = .tup (k.map kD) ∧ kvs.length < sizeLine ∧ De.nx Γ (updM μ3 a (.dT (putDK kvs k v)))
section
variable {X : Cx} {L : Lc X} {o i f e : Expr} {da db dc : DT} {pos pos' apos cpos : Pos}
theorem de_dnewT : DE X L (.Dict [] [] pos) dDNewT := ⟨_, pe_dnewT, fun Hf σ H Γ μ Hc Hm Q R hΦ rel h k p hp => by
  obtain ⟨rel2, hn⟩ := rel.newm (o := .dT []) (m := .dT []) hp .nil
  exact k _ _ _ _ _ _ (h p hn) rel2 (.adr p) (Ex.refl _)⟩
theorem de_dgetT (hu : X.A.units + 1 < cLine) (ha : DE X L o da) (hb : DE X L i db) (hs : NoSl i) : DE X L (.Subscript o i pos) (dDGetT da db) := by
  obtain ⟨ta, p, la⟩ := ha
  obtain ⟨tb, p2, lb⟩ := hb
  refine ⟨_, pe_dget hu p p2 hs, fun Hf σ H Γ μ Hc Hm Q R hΦ rel h k => la Hf σ H Γ μ Hc Hm _ _ hΦ rel h fun x H1 dx μ1 Hc1 Hm1 h1 rel1 rp1 ex1 => lb Hf σ H1 Γ μ1 Hc1 Hm1 _ _ hΦ rel1 h1 fun y H2 dy μ2 Hc2 Hm2 h2 rel2 rp2 ex2 => ?_⟩
  obtain ⟨a, kvs, ky, d, rfl, hm, rfl, hg, hR⟩ := h2
  cases rp1.adr_inv
  obtain ⟨vs, hv, rk⟩ := rel_dT rel2 hm
  obtain ⟨b, rfl, hb⟩ := rp_key rel2 rp2
  rcases rk.val (k := ky) with ⟨_, q⟩ | ⟨v, d', q1, q2, q3⟩
  · rw [q] at hg; cases hg
  · rw [q2] at hg; cases hg
    refine ⟨a, v, rfl, ?_, k _ _ _ _ _ _ hR rel2 q3 (ex1.trans ex2)⟩
    rw [← q1]
    exact DGet.t hv hb
theorem de_dgetT2 (hu : X.A.units + 1 < cLine) (ha : DE X L o da) (hb : DE X L e db) (hc : DE X L f dc) (m : M2 X o "get" apos e f cpos := by exact ⟨rfl, rfl, rfl, rfl⟩) : DE X L (.Call (.Attribute o "get" apos) [e, f] [] cpos) (dDGetT2 da db dc) := by
  obtain ⟨ta, p, la⟩ := ha
  obtain ⟨tb, p2, lb⟩ := hb
  obtain ⟨tc, p3, lc⟩ := hc
  refine ⟨_, pe_dget2 hu p p2 p3 m, fun Hf σ H Γ μ Hc Hm Q R hΦ rel h k => la Hf σ H Γ μ Hc Hm _ _ hΦ rel h fun x H1 dx μ1 Hc1 Hm1 h1 rel1 rp1 ex1 => ?_⟩
  obtain ⟨a, rfl, ⟨kv0, h0⟩, h1⟩ := h1
  cases rp1.adr_inv
  obtain ⟨vs0, hv0, _⟩ := rel_dT rel1 h0
  refine ⟨a, rfl, .inr ⟨vs0, .inl hv0⟩, lb Hf σ H1 Γ μ1 Hc1 Hm1 _ _ hΦ rel1 h1 fun y H2 dy μ2 Hc2 Hm2 h2 rel2 rp2 ex2 => lc Hf σ H2 Γ μ2 Hc2 Hm2 _ _ hΦ rel2 h2 fun z H3 dz μ3 Hc3 Hm3 h3 rel3 rp3 ex3 => ?_⟩
  obtain ⟨kvs, ky, hm, rfl, hR⟩ := h3
  obtain ⟨vs, hv, rk⟩ := rel_dT rel3 hm
  obtain ⟨b, rfl, hb⟩ := rp_key rel3 (rp2.mono ex3)
  refine ⟨valV vs ky, DGet.t hv hb, ?_⟩
  rcases rk.val (k := ky) with ⟨q1, q⟩ | ⟨v, d', q1, q2, q3⟩
  · rw [q1]
    rw [q] at hR
    exact k _ _ _ _ _ _ hR rel3 rp3 (ex1.trans (ex2.trans ex3))
  · rw [q1]
    rw [q2] at hR
    exact k _ _ _ _ _ _ hR rel3 q3 (ex1.trans (ex2.trans ex3))
theorem dst_dputT (hu : X.A.units + 1 < cLine) (ha : DE X L o da) (hb : DE X L i db) (hc : DE X L e dc) (hs : swapsWith e (some (.Subscript o i pos')) pos.line X.env = pure false := by rfl) : DSt X L (.Assign [.Subscript o i pos'] e pos) (dDPutT da db dc) := by
  obtain ⟨ta, p, la⟩ := ha
  obtain ⟨tb, p2, lb⟩ := hb
  obtain ⟨tc, p3, lc⟩ := hc
  refine ⟨_, ps_dput hu p p2 p3 hs, fun Hf σ H Γ μ Hc Hm Dn De hΦ rel h k => lc Hf σ H Γ μ Hc Hm _ _ hΦ rel h fun v H1 dv μ1 Hc1 Hm1 h1 rel1 rp1 ex1 => la Hf σ H1 Γ μ1 Hc1 Hm1 _ _ hΦ rel1 h1 fun x H2 dx μ2 Hc2 Hm2 h2 rel2 rp2 ex2 =>
    lb Hf σ H2 Γ μ2 Hc2 Hm2 _ _ hΦ rel2 h2 fun y H3 dy μ3 Hc3 Hm3 h3 rel3 rp3 ex3 => ?_⟩
  obtain ⟨a, kvs, ky, rfl, hm, rfl, hz, hn⟩ := h3
  cases rp2.adr_inv
  obtain ⟨vs, hv, rk⟩ := rel_dT rel3 hm
  obtain ⟨b, rfl, hb⟩ := rp_key rel3 rp3
  exact ⟨a, _, rfl, DPut.t hv hb (by rw [rk.length]; exact hz), k.nx _ _ _ _ _ _ hn (rel3.setm hm (RpK.put (rp1.mono (ex2.trans ex3)) rk)) (ex1.trans (ex2.trans ex3))⟩
end
/-- list(d): its keys -/
def qListDT : QA := fun xs μ R => ∃ a kvs, xs = [.adr a] ∧ μ a = some (.dT kvs) ∧ R (.lst (kvs.map fun p => D.tup (p.1.map kD))) μ
theorem c_listDT {X : Cx} (hc : X.calm = true) : DCl X (.type "list") qListDT := ⟨_, call_list_dT hc, fun B Hf σ H Γ μ Hc Hm xs ds Q R rel ra h kn => by
  obtain ⟨a, kvs, rfl, hm, hR⟩ := h
  obtain ⟨v, rfl, r⟩ := ra.one
  cases r.adr_inv
  obtain ⟨vs, hv, rk⟩ := rel_dT rel hm
  refine ⟨a, vs, rfl, .inl hv, fun p bs hp hb => ?_⟩
  obtain ⟨rel2, ex2⟩ := rel.newc (o := .lst (bs.map V.ref)) hp
  refine kn _ _ _ _ _ _ hR rel2 (.lst upd_same ?_) ex2
  have hk := rk.keys
  have go : ∀ {vs : List (List Key × V)} {bs : List Addr} {kvs : List (List Key × D)}, IsKeys H vs bs → vs.map (·.1) = kvs.map (·.1) → RpA X.K Hc (bs.map V.ref) (kvs.map fun p => D.tup (p.1.map kD)) := by
    intro vs bs kvs hb
    induction hb generalizing kvs with
    | nil => intro e; cases kvs with
      | nil => exact .nil
      | cons p r => cases e
    | cons h1 t ih =>
      intro e
      cases kvs with
      | nil => cases e
      | cons p r =>
        rw [List.map_cons, List.map_cons] at e
        injection e with e1 e2
        rw [List.map_cons, List.map_cons]
        refine .cons (.tup (rel.tupc h1) ?_) (ih e2)
        rw [e1]
        exact rpA_ofKeys _
  exact (go hb hk).mono ex2⟩

/-! ### sorted(set(xs)), whole numbers -/
def rSetX (K : PySem.W.Frag) (w : World) : List V → Hp → VK → Prop := fun xs H Q => ∃ (p : Addr) (ns : List Int), xs = [V.ref p] ∧ (SqL K H p (ns.map V.int) ∨ SqT K H p (ns.map V.int)) ∧ ns.length ≤ 1000 ∧
  ∀ q c, c ≤ ns.length → H q = none → Q (.ref q) (upd H q (SetO w q (fun j => decide (j ∈ ns)) c))
theorem cr_setX {X : Cx} (hc : X.calm = true) : CallR X (.type "set") (rSetX X.K X.w) := by
  intro pins s σ H xs us Q I r h
  obtain ⟨p, ns, rfl, hs, hz, q⟩ := h
  cases r.ref1
  have go : ∀ (k : Bool), SqX X.K k H p (ns.map V.int) → wpAny (model X.prog X.w) X.A (call (.type "set") [.ref p]) (EP X pins σ Q) X.xe s := fun k hk => by
    obtain ⟨its, rv, hl, _⟩ := sqx_get I hk
    refine call_set_X ns (I.ok.hd hc) hl rv.ints (by unfold scanBound; omega) fun h' tk c hR hcl hb => ?_
    have hn : H s.heap.objs.size = none := I.hok.fresh (Nat.le_refl _)
    exact ⟨.ref _, upd H s.heap.objs.size (SetO X.w s.heap.objs.size (fun j => decide (j ∈ ns)) c), I.laid (t' := tk) hb (Nat.le_refl _) (setO_new hR), rfl, q _ _ hcl hn⟩
  rcases hs with hs | hs
  · exact go true hs
  · exact go false hs
def dSoSet (d : DTA) : DT := fun Γ μ R => d Γ μ fun xs μ1 => ∃ (x : D) (ns : List Int), xs = [x] ∧ seqM μ1 x = some (ns.map D.int) ∧ ns.length < 64 ∧ ∀ out : List Int, out.Pairwise (· < ·) → (∀ k, k ∈ out ↔ k ∈ ns) → R (.lst (out.map D.int)) μ1
theorem de_soSet {X : Cx} {L : Lc X} {e : Expr} {d : DTA} {p1 p2 c1 c2 : Pos} (hc : X.calm = true) (hm1 : X.mg "sorted" = none) (hm2 : X.mg "set" = none) (ha : DA X L [e] d) (hg1 : Gl X "sorted" := by rfl) (hg2 : Gl X "set" := by rfl)
    (he : starEach [e] X.env = (false, eval e X.env) :: starEach [] X.env := by rfl)
    (he2 : starEach [.Call (.Name "set" p2) [e] [] c2] X.env = (false, eval (.Call (.Name "set" p2) [e] [] c2) X.env) :: starEach [] X.env := by rfl) :
    DE X L (.Call (.Name "sorted" p1) [.Call (.Name "set" p2) [e] [] c2] [] c1) (dSoSet d) := by
  obtain ⟨t, pa, l⟩ := ha
  refine ⟨_, pe_callB (cr_sortedSet hc) hg1 hm1 (by decide +kernel) (pa_cons (pe_callTy (cr_setX hc) hg2 hm2 (by decide +kernel) pa (he := he)) pa_nil he2) (he := he2), fun Hf σ H Γ μ Hc Hm Q R hΦ rel h k => l Hf σ H Γ μ Hc Hm _ _ hΦ rel h fun xs H1 ds μ1 Hc1 Hm1 h1 rel1 ra1 ex1 => ?_⟩
  obtain ⟨x, ns, rfl, hs, hz, hR⟩ := h1
  obtain ⟨v, rfl, r⟩ := ra1.one
  obtain ⟨a, ys, rfl, rb, hq⟩ := rp_seqM' rel1 r hs
  cases rb.ints
  refine ⟨a, ns, rfl, hq, by omega, fun q c hcl hq1 => ?_⟩
  obtain ⟨rel2, ex2⟩ := rel1.newc (o := SetO X.w q (fun j => decide (j ∈ ns)) c) hq1
  refine ⟨q, _, c, rfl, upd_same, by omega, fun out p h1 h2 h3 hp => ?_⟩
  obtain ⟨rel3, ex3⟩ := rel2.newc (o := .lst (out.map V.int)) hp
  exact k _ _ _ _ _ _ (hR out h1 fun j => by rw [h2 j]; exact decide_eq_true_iff) rel3 (.lst upd_same (RpA.of_ints out)) (ex1.trans (ex2.trans ex3))
/-! tuple(range(n)), list(range(n)) -/
def rgI (a b : Int) : List Int := (List.range (b - a).toNat).map fun i => a + (i : Nat)
theorem rgV_I (a b : Int) : rgV a b = (rgI a b).map V.int := by unfold rgV rgI; rw [List.map_map]; rfl
def dTupRg (d : DT) : DT := fun Γ μ R => d Γ μ fun x μ1 => ∃ n, x = .int n ∧ RgOk 0 n ∧ R (.tup ((rgI 0 n).map D.int)) μ1
theorem de_tupRg {X : Cx} {L : Lc X} {e : Expr} {d : DT} {p1 p2 c1 c2 : Pos} (hc : X.calm = true) (hm1 : X.mg "tuple" = none) (hm2 : X.mg "range" = none) (ha : DE X L e d) (hg1 : Gl X "tuple" := by rfl) (hg2 : Gl X "range" := by rfl)
    (he : starEach [e] X.env = (false, eval e X.env) :: starEach [] X.env := by rfl)
    (he2 : starEach [.Call (.Name "range" p2) [e] [] c2] X.env = (false, eval (.Call (.Name "range" p2) [e] [] c2) X.env) :: starEach [] X.env := by rfl) :
    DE X L (.Call (.Name "tuple" p1) [.Call (.Name "range" p2) [e] [] c2] [] c1) (dTupRg d) := by
  obtain ⟨t, pa, l⟩ := ha
  refine ⟨_, pe_tupRg hc hg1 hm1 (prg_1 hg2 hm2 pa he) he2, fun Hf σ H Γ μ Hc Hm Q R hΦ rel h k => l Hf σ H Γ μ Hc Hm _ _ hΦ rel h fun x H1 dx μ1 Hc1 Hm1 h1 rel1 rp1 ex1 => ?_⟩
  obtain ⟨n, rfl, hz, hR⟩ := h1
  refine ⟨n, rp1.int_inv, hz, fun p hp => ?_⟩
  obtain ⟨rel2, ex2⟩ := rel1.newc (o := .tup (rgV 0 n)) hp
  refine k _ _ _ _ _ _ hR rel2 (.tup upd_same ?_) (ex1.trans ex2)
  rw [rgV_I]
  exact RpA.of_ints _
end Nod
set_option Elab.async false
set_option linter.all false
set_option maxRecDepth 100000
set_option maxHeartbeats 4000000
/-! sorted(xs, key=lambda x: (len(x), x)), the items tuples of whole numbers -/
namespace Nod
open PySem PySem.Spec PyProof.Rows L2
open Evl (Ex)
/-- the key's datum -/
def lenKey (b : List Int) : PyData := .tuple [.int b.length, .tuple (b.map .int)]
def lenBody (x : Str) (p1 p2 p3 p4 p5 : Pos) (k : Nat) : Expr := .Tuple [.Call (.Name "len" p1) [.Name x p2] [] p3, .Name x p4] k p5
theorem reads_ints {h : Heap} : ∀ {vs : List Value} {ns : List Int}, IntsAre vs ns → ReadsAll h vs (ns.map .int) []
  | _, _, .nil => .nil
  | _, _, .cons n t r => ReadsAll.cons (as := []) (bs := []) (.int _ _) (reads_ints r)
theorem lam_len_call {prog : Program} {w : World} {A : Around} {s : Shared} {f c' a : Addr} {qual x : Str} {params : Arguments} {scope : Scope} {p1 p2 p3 p4 p5 : Pos} {k : Nat} {pm ctv : Value} {mg mb : Str → Option Value} {its : List Value} {ns : List Int}
    (hf : s.heap.get? f = some (PySem.W.kla_obj "<lambda>" qual params (lenBody x p1 p2 p3 p4 p5 k) scope [] pm c' ctv)) (hcode : s.heap.CodeRec (.ref c') qual) (hlim : s.heap.NoLimit) (hg : s.heap.Ns mainGlobals mg) (hml : mg "len" = none)
    (hb : s.heap.Ns builtinsNs mb) (hbl : mb "len" = some (.builtin "len")) (hd : A.depth < recursionLimit) (hbind : ∀ v, bindArgs (PySem.W.kla_fn "<lambda>" qual params (lenBody x p1 p2 p3 p4 p5 k) scope [] pm (.ref c') ctv) ⟨[v], []⟩ = pure [(x, v)])
    (hkind : scope.kind = .function) (hco : scope.isCoroutine = false) (hgen : scope.isGenerator = false) (hcell : ∀ y ∈ scope.names, y.2 ≠ .cell) (hloc : scope.names.lookup x = some .local)
    (hkl : scope.names.lookup ("len" : Str) = some .globalImplicit) (hdx : (x == ("__debug__" : Str)) = false)
    (ht : IsTup s.heap a its.toArray) (hi : IntsAre its ns) (hz : ns.length ≤ sizeLine) :
    wpAny (model prog w) A (call (.ref f) [.ref a]) (PySem.W.KeyPure (lenKey ns) s) (fun _ _ => False) s := by
  refine wpAny_call (PySem.W.kla_callFunE hd hf rfl hco hgen rfl hcode ?_)
  rw [hbind]
  refine wpAny_pure (wpAny_newFunctionEnv hcell (fun y hy => by simp at hy; subst hy; exact hloc) (fun h₁ hns hsb => ⟨hlim.fresh _ hsb, ?_⟩) hkind)
  show codeAny _ _ (.expr (lenBody x p1 p2 p3 p4 p5 k) (PySem.W.envX qual scope s.heap.objs.size f (.ref c') [])) _ _
  have kp : ∀ b o, s.heap.get? b = some o → h₁.get? b = some o := fun b o e => hsb.extBut b o (Nat.ne_of_lt (Heap.lt_size e)) (Heap.get?_push_of_some _ e)
  have ht1 : IsTup h₁ a its.toArray := by
    obtain ⟨o, ho, r⟩ := ht
    exact ⟨o, kp _ _ ho, r⟩
  have hsz : its.toArray.size = ns.length := by rw [List.size_toArray]; exact hi.length
  refine PySem.W.kla_codeExpr ?_
  have hx : ∀ {A : Around} {E : Value → Shared → Prop} {Q : Value → Shared → Prop} {pos : Pos} (tk : Nat), Q (.ref a) { s with heap := h₁, toks := tk } → wpAny (model prog w) A (eval (.Name x pos) (PySem.W.envX qual scope s.heap.objs.size f (.ref c') [])) Q E { s with heap := h₁, toks := tk } := fun tk q =>
    wpAny_Name (wpAny_loadName_local hkind hloc hns (by simp) q) hdx
  refine wpAny_Tuple (Calls.spliced_cons ?_)
  refine wpAny_Call_Name_kw (Calls.Name_function_global hkind hkl (Calls.loadGlobal_builtin (hg.keeps kp) hml (hb.keeps kp) hbl ?_))
  refine PyProof.Rows.callWith_builtin1 (Calls.spliced_cons (hx _ (Calls.spliced_nil ?_)))
  refine PyProof.Rows.len_tuple ht1 (by rw [hsz]; have := sizeLine_eq; omega) ?_
  refine Calls.spliced_cons (hx _ (Calls.spliced_nil ⟨by show 2 ≤ sizeLine; rw [sizeLine_eq]; omega, ?_⟩))
  refine ⟨_, _, rfl, fun b o e => Heap.get?_push_of_some _ (kp b o e), ?_⟩
  obtain ⟨o, n, ho, hc, hdat⟩ : ∃ o n, h₁.get? a = some o ∧ o.cls = .type "tuple" ∧ o.data = .seq its.toArray n := by
    obtain ⟨o, ho, hc, n, hd⟩ := ht1
    exact ⟨o, n, ho, hc, hd⟩
  rw [hsz]
  refine .tuple (Heap.get?_push_size _ rfl) rfl rfl (ReadsAll.cons (as := []) (bs := []) (.int _ _) (ReadsAll.cons (as := []) (bs := []) (.tuple (Heap.get?_push_of_some _ ho) hc hdat (reads_ints hi)) .nil))

/-! ### the lambda is made -/
/-- a function's object -/
def FnO (f : Addr) (o : Obj) : HO := .ext fun h => h.get? f = some o
def TOk (H : Hp) (q : Str) (ps : Array Value) : Prop := TriplesOk ps.toList ∧ ∀ (pos : Pos) (cv : Value), codeAmong pos ps.toList = some cv → ∃ c, cv = .ref c ∧ H c = some (LamX.CodeO c q)
def Grows (P : Addr) (q : Str) (ps : Array Value) (H H1 : Hp) : Prop := H1 = H ∨ ∃ c' ps', H c' = none ∧ c' ≠ P ∧ H1 = upd (upd H P (.tbl ps')) c' (LamX.CodeO c' q) ∧ TriplesOk ps'.toList ∧ ∀ (pos : Pos) (cv : Value), codeAmong pos ps'.toList = some cv → codeAmong pos ps.toList = some cv ∨ cv = .ref c'
def tLam (P : Addr) (q : Str) (params : Arguments) (body : Expr) (scope : Scope) : TE := fun _ H Q => ∃ ps, H P = some (.tbl ps) ∧ TOk H q ps ∧ ∀ H1 f c' pm ctv, Grows P q ps H H1 → H1 c' = some (LamX.CodeO c' q) → H1 f = none → Q (.ref f) (upd H1 f (FnO f (PySem.W.kla_obj "<lambda>" q params body scope [] pm c' ctv)))
theorem fnO_ok {P : Program} {w : World} {H : Hp} {h : Heap} {f : Addr} {o : Obj} (e : h.get? f = some o) : ObjOk P w H h f (FnO f o) := ⟨e, ⟨o, e⟩, fun h1 h2 a b => b _ a⟩
theorem pe_lamT {X : Cx} {P c : Addr} {q : Str} {params : Arguments} {body : Expr} {scope : Scope} {pos : Pos} (TB : LamX.TabB X.base X.mg c P) (hcode : X.env.code = .ref c) (hq : q = X.env.qual ++ "<lambda>") (hdef : defaultsOf params X.env = ([], []) := by rfl) (hcl : closureFor scope X.env = pure [] := by rfl) :
    PE X (.Lambda params body scope pos) (tLam P q params body scope) := by
  subst hq
  refine ⟨fun pins s σ H Q I h => ?_⟩
  obtain ⟨ps, hP, ⟨ht, ha⟩, k⟩ := h
  refine PySem.W.kla_eval hdef ?_
  have bP : s.heap.BuiltinsAt X.mg P := TB.bm.keeps I.bk
  have hP' : s.heap.get? P = some { cls := .none, data := .fields ps } := I.hok P _ hP
  cases hc : codeAmong pos ps.toList with
  | none =>
    refine PySem.W.kla_makeFunction (mg := X.mg) (c := c) (P := P) (ps := ps) hcl I.ok.glob (I.mod.glob.keeps I.bk) hcode (TB.code.keeps I.bk) hP' ht hc TB.gP bP fun c' ctv h' tk hx hge hlt hrec htb => ?_
    obtain ⟨c2, oc, vs, t, e2, hoc, hd, hv⟩ := hrec
    cases e2
    have hsz : s.heap.objs.size ≤ h'.objs.size := Nat.le_trans hge (Nat.le_of_lt hlt)
    have nC : H c' = none := I.hok.fresh hge
    have nPc : c' ≠ P := fun z => by rw [z, hP] at nC; cases nC
    have n1 : h'.objs.size ≠ c' := Nat.ne_of_gt hlt
    have n2 : h'.objs.size ≠ P := Nat.ne_of_gt (Nat.lt_of_lt_of_le (Heap.lt_size hP') hsz)
    have I1 := LamX.inv_table (t' := tk) (q := X.env.qual ++ "<lambda>") (more := #[rawInt pos.line, rawInt pos.col, .ref c']) (h' := h') I hP hx htb hge ⟨oc, vs, t, hoc, hd, hv⟩
    have nf : (upd (upd H P (.tbl (ps ++ #[rawInt pos.line, rawInt pos.col, .ref c']))) c' (LamX.CodeO c' (X.env.qual ++ "<lambda>"))) h'.objs.size = none := by
      rw [upd_ne n1, upd_ne n2]; exact I.hok.fresh hsz
    have I2 := I1.laid (a := h'.objs.size) (t' := tk) (o := FnO h'.objs.size (PySem.W.kla_obj "<lambda>" (X.env.qual ++ "<lambda>") params body scope [] ((X.mg "__name__").getD .none) c' ctv)) (fun b o e => Heap.get?_push_of_some _ e) (Nat.le_refl _) (fnO_ok (Heap.get?_push_size _ rfl))
    have eL : (ps ++ #[rawInt pos.line, rawInt pos.col, .ref c']).toList = ps.toList ++ [rawInt pos.line, rawInt pos.col, .ref c'] := by simp
    refine ⟨.ref _, _, I2, rfl, k _ _ c' _ ctv (.inr ⟨c', _, nC, nPc, rfl, ?_, fun p' cv hcv => ?_⟩) upd_same nf⟩
    · rw [eL]; exact PySem.TriplesOk_snoc _ _ _ _ ht
    · rw [eL] at hcv
      exact LamX.among_app _ ht hcv
  | some cv =>
    obtain ⟨c', e, hco⟩ := ha pos cv hc
    subst e
    refine PySem.W.kla_makeFunctionHit (mg := X.mg) (c := c) (P := P) (ps := ps) hcl I.ok.glob (I.mod.glob.keeps I.bk) hcode (TB.code.keeps I.bk) hP' ht hc bP fun ctv h' tk hx hsz => ?_
    have I1 : Inv X pins σ H { s with heap := h', toks := tk } := I.kept fun b o e => hx b o e
    have nf : H h'.objs.size = none := I.hok.fresh hsz
    have I2 := I1.laid (a := h'.objs.size) (t' := tk) (o := FnO h'.objs.size (PySem.W.kla_obj "<lambda>" (X.env.qual ++ "<lambda>") params body scope [] ((X.mg "__name__").getD .none) c' ctv)) (fun b o e => Heap.get?_push_of_some _ e) (Nat.le_refl _) (fnO_ok (Heap.get?_push_size _ rfl))
    exact ⟨.ref _, _, I2, rfl, k _ _ c' _ ctv (.inl rfl) hco nf⟩

/-! ### sorted by it -/
def TupI (H : Hp) (y : V) (b : List Int) : Prop := ∃ t, y = .ref t ∧ H t = some (.tup (b.map V.int))
def rSortLam (K : PySem.W.Frag) (q : Str) (params : Arguments) (body : Expr) (scope : Scope) : List V → List V → Hp → VK → Prop := fun xs zs H Q => ∃ (a f c' : Addr) (pm ctv : Value) (ys : List V) (bs : List (List Int)), xs = [.ref a] ∧ zs = [.ref f] ∧ SqL K H a ys ∧
  H f = some (FnO f (PySem.W.kla_obj "<lambda>" q params body scope [] pm c' ctv)) ∧ H c' = some (LamX.CodeO c' q) ∧ PySem.W.EachIs (TupI H) ys bs ∧
  ∀ out p, H p = none → PySem.W.EachIs (TupI H) out (bs.mergeSort (PySem.W.dataLe false lenKey)) → Q (.ref p) (upd H p (.lst out))
theorem alike_ints : ∀ (a b : List Int), PySem.W.alikeAll (a.map .int) (b.map .int) = true
  | [], _ => by simp [PySem.W.alikeAll]
  | _ :: _, [] => by simp [PySem.W.alikeAll]
  | x :: a, y :: b => by
    rw [List.map_cons, List.map_cons]
    simp only [PySem.W.alikeAll, PySem.W.alike, Bool.true_and]
    exact alike_ints a b
theorem depthAll_ints : ∀ b : List Int, PyData.depthAll (b.map .int) = 0
  | [] => by simp [PyData.depthAll]
  | x :: b => by simp [PyData.depthAll, PyData.depth, depthAll_ints b]
theorem lenKey_depth (b : List Int) : (lenKey b).depth ≤ 2 := by
  unfold lenKey
  simp [PyData.depth, PyData.depthAll, depthAll_ints]
theorem lenKey_alike (bs : List (List Int)) : PySem.W.AllAlike (bs.map lenKey) := fun d hd d' hd' => by
  obtain ⟨b, _, rfl⟩ := List.mem_map.mp hd
  obtain ⟨b', _, rfl⟩ := List.mem_map.mp hd'
  unfold lenKey
  simp [PySem.W.alike, PySem.W.alikeAll, alike_ints]
theorem lenKey_sortable (bs : List (List Int)) : PySem.W.Sortable (bs.map lenKey) := .inl fun d hd => by
  obtain ⟨b, _, rfl⟩ := List.mem_map.mp hd
  exact ⟨_, _, rfl⟩
theorem each_vals {H : Hp} : ∀ {out : List V} {us : List Value} {bs : List (List Int)}, PySem.W.EachIs (TupI H) out bs → Vals out us → PySem.W.EachIs (fun u b => ∃ t, u = Value.ref t ∧ H t = some (.tup (b.map V.int))) us bs
  | _, _, _, .nil, .nil => .nil
  | _, _, _, .cons ⟨t, e, h⟩ r, .cons rv s => .cons (by subst e; exact ⟨t, rv, h⟩) (each_vals r s)
theorem vals_each {H : Hp} : ∀ {us : List Value} {bs : List (List Int)}, PySem.W.EachIs (fun u b => ∃ t, u = Value.ref t ∧ H t = some (.tup (b.map V.int))) us bs → ∃ out, Vals out us ∧ PySem.W.EachIs (TupI H) out bs
  | _, _, .nil => ⟨[], .nil, .nil⟩
  | _, _, .cons ⟨t, e, h⟩ r => by
    obtain ⟨out, h1, h2⟩ := vals_each r
    subst e
    exact ⟨.ref t :: out, .cons rfl h1, .cons ⟨t, rfl, h⟩ h2⟩
theorem cr_sortLam {X : Cx} {q x : Str} {params : Arguments} {scope : Scope} {p1 p2 p3 p4 p5 : Pos} {k n : Nat} (hr : Room n X.A) (hn : 3 ≤ n) (hml : X.mg "len" = none)
    (hbind : ∀ pm c' ctv v, bindArgs (PySem.W.kla_fn "<lambda>" q params (lenBody x p1 p2 p3 p4 p5 k) scope [] pm (.ref c') ctv) ⟨[v], []⟩ = pure [(x, v)])
    (hkind : scope.kind = .function) (hco : scope.isCoroutine = false) (hgen : scope.isGenerator = false) (hcell : ∀ y ∈ scope.names, y.2 ≠ .cell) (hloc : scope.names.lookup x = some .local) (hkl : scope.names.lookup ("len" : Str) = some .globalImplicit) (hdx : (x == ("__debug__" : Str)) = false) :
    CallRK X (.builtin "sorted") ["key"] (rSortLam X.K q params (lenBody x p1 p2 p3 p4 p5 k) scope) := by
  intro pins s σ H xs zs us ws Q I rx rz h
  obtain ⟨a, f, c', pm, ctv, ys, bs, rfl, rfl, hs, hf, hc, he, hq⟩ := h
  cases rx.ref1
  cases rz.ref1
  obtain ⟨its, rv, hl, hz⟩ := I.list hs
  have hbl : bs.length ≤ sizeLine := by
    rw [← he.length]; exact hz
  have hf1 := (I.hok f _ hf).1
  obtain ⟨oc, vs, t, hoc, hod, hov⟩ := (I.hok c' _ hc).1
  obtain ⟨mb, hb1, hb2⟩ := I.mod.blt
  have hdep : X.A.in1.in1.depth < recursionLimit := ((hr.mono hn).in1.in1).depth
  show wpAny (model X.prog X.w) X.A (call (.builtin "sorted") [.ref a] [("key", .ref f)]) (EP X pins σ Q) X.xe s
  refine PySem.W.sorted_key_data (b := false) (f := .ref f) (R := fun u b => ∃ t, u = Value.ref t ∧ H t = some (.tup (b.map V.int))) lenKey hl.isList (each_vals he rv) (lenKey_alike bs) (lenKey_sortable bs) hbl (fun b _ => ?_) (PyProof.Rows.ksk_s1 _ _) (fun x => PyProof.Rows.ksk_l1 _ _) (fun x => PyProof.Rows.ksk_t1 f x) (fun v b hR hb h' tk kp => ?_) fun out c h' tk kp hfr hat hlen hE => ?_
  · have := hr.units
    have := lenKey_depth b
    omega
  · obtain ⟨t, rfl, ht⟩ := hR
    obtain ⟨hzz, its2, rv2, hT⟩ := (show ObjOk X.prog X.w H s.heap t (.tup (b.map V.int)) from I.hok t _ ht)
    refine lam_len_call (kp _ _ hf1) ⟨c', oc, vs, _, rfl, kp _ _ hoc, hod, hov⟩ ?_ ((I.mod.glob.keeps I.bk).keeps kp) hml ((hb1.keeps I.bk).keeps kp) ((hb2 "len" (by decide)).trans (by decide +kernel)) hdep (hbind pm c' ctv) hkind hco hgen hcell hloc hkl hdx ?_ rv2.ints (by rw [List.length_map] at hzz; exact hzz)
    · exact (I.nolimit).keeps kp
    · obtain ⟨o, ho, r⟩ := hT
      exact ⟨o, kp _ _ ho, r⟩
  · obtain ⟨outV, h1, h2⟩ := vals_each hE
    have hn : H (s.heap.objs.size + 1) = none := I.hok.fresh (Nat.le_succ _)
    refine ⟨.ref _, _, I.laid (t' := tk) (o := .lst outV) kp (Nat.le_succ _) ⟨by rw [h1.length, hlen]; exact hbl, out, c, h1, hat⟩, rfl, hq _ _ hn h2⟩

/-! ### over data -/
def tupI (b : List Int) : D := .tup (b.map D.int)
def sortLen (bs : List (List Int)) : List (List Int) := bs.mergeSort (PySem.W.dataLe false lenKey)
def dSortLen (P : Addr) (q : Str) (d : DTA) : DT := fun Γ μ R => d Γ μ fun xs μ1 => ∃ (x : D) (bs : List (List Int)), xs = [x] ∧ seqM μ1 x = some (bs.map tupI) ∧ isTup x = false ∧ μ1 P = some (.tab q) ∧ R (.lst ((sortLen bs).map tupI)) μ1
theorem rpA_tupI {K : PySem.W.Frag} {Hc H : Hp} (ex : Ex Hc H) : ∀ {vs : List V} {bs : List (List Int)}, RpA K Hc vs (bs.map tupI) → PySem.W.EachIs (TupI H) vs bs
  | _, [], .nil => .nil
  | _, b :: bs, .cons h t => by
    refine .cons ?_ (rpA_tupI ex t)
    cases (show Rp K Hc _ (.tup (b.map D.int)) from h) with
    | tup ht ra =>
      cases ra.ints
      exact ⟨_, rfl, ex _ _ ht⟩
theorem tupI_rpA {K : PySem.W.Frag} {Hc H : Hp} (hc : ∀ t vs, H t = some (.tup vs) → Hc t = some (.tup vs)) : ∀ {vs : List V} {bs : List (List Int)}, PySem.W.EachIs (TupI H) vs bs → RpA K Hc vs (bs.map tupI)
  | _, _, .nil => .nil
  | _, _, .cons ⟨t, e, h⟩ r => by
    subst e
    exact .cons (.tup (hc _ _ h) (RpA.of_ints _)) (tupI_rpA hc r)
theorem updM_id {μ : Mu} {a : Addr} {o : MO} (h : μ a = some o) : updM μ a o = μ := by
  funext b; unfold updM; split
  · rename_i e; rw [e, h]
  · rfl
theorem upd_comm' {H : Hp} {a b : Addr} {x y : HO} (h : a ≠ b) : upd (upd H a x) b y = upd (upd H b y) a x := by
  funext c
  by_cases e1 : c = b
  · subst e1
    rw [upd_same, upd_ne (Ne.symm h), upd_same]
  · by_cases e2 : c = a
    · subst e2
      rw [upd_ne e1, upd_same, upd_same]
    · rw [upd_ne e1, upd_ne e2, upd_ne e2, upd_ne e1]
theorem Rel.grow {K : PySem.W.Frag} {B Hf : Hp} {σ : L2.St} {H H1 : Hp} {Γ : DEn} {μ : Mu} {Hc Hm : Hp} (rel : Rel K B Hf σ H Γ μ Hc Hm) {P : Addr} {q : Str} {ps : Array Value} (hm : μ P = some (.tab q)) (hP : H P = some (.tbl ps)) (g : Grows P q ps H H1) :
    ∃ Hc' Hm', Rel K B Hf σ H1 Γ μ Hc' Hm' ∧ Ex Hc Hc' := by
  rcases g with rfl | ⟨c', ps', hn, hne, rfl, ht, ha⟩
  · exact ⟨Hc, Hm, rel, Ex.refl _⟩
  · obtain ⟨o, ho, q1⟩ := rel.get hm
    rw [hP] at ho
    cases ho
    obtain ⟨rel2, ex2⟩ := rel.newc (o := LamX.CodeO c' q) hn (fun ps z => by unfold LamX.CodeO at z; cases z)
    have rel3 := rel2.setm (o := .tbl ps') (m := .tab q) hm ⟨ht, fun pos cv hcv => by
      rcases ha pos cv hcv with z | z
      · obtain ⟨c, e1, e2⟩ := q1.2 pos cv z
        exact ⟨c, e1, ex2 _ _ e2⟩
      · exact ⟨c', z, upd_same⟩⟩
    rw [updM_id hm] at rel3
    rw [upd_comm' (Ne.symm hne)]
    exact ⟨_, _, rel3, ex2⟩
theorem de_sortLen {X : Cx} {L : Lc X} {P c : Addr} {q x : Str} {params : Arguments} {scope : Scope} {e : Expr} {d : DTA} {p p1 p2 p3 p4 p5 pos kp lp : Pos} {k n : Nat} (TB : LamX.TabB X.base X.mg c P) (hcode : X.env.code = .ref c) (hr : Room n X.A) (hn : 3 ≤ n) (hms : X.mg "sorted" = none) (hml : X.mg "len" = none)
    (ha : DA X L [e] d) (hq : q = X.env.qual ++ "<lambda>" := by rfl) (hdef : defaultsOf params X.env = ([], []) := by rfl) (hcl : closureFor scope X.env = pure [] := by rfl)
    (hbind : ∀ pm c' ctv v, bindArgs (PySem.W.kla_fn "<lambda>" q params (lenBody x p1 p2 p3 p4 p5 k) scope [] pm (.ref c') ctv) ⟨[v], []⟩ = pure [(x, v)] := by intro _ _ _ _; rfl)
    (hkind : scope.kind = .function := by rfl) (hco : scope.isCoroutine = false := by rfl) (hgen : scope.isGenerator = false := by rfl) (hcell : ∀ y ∈ scope.names, y.2 ≠ .cell := by decide) (hloc : scope.names.lookup x = some .local := by rfl) (hkl : scope.names.lookup ("len" : Str) = some .globalImplicit := by rfl) (hdx : (x == ("__debug__" : Str)) = false := by decide)
    (hg : Gl X "sorted" := by rfl) (he : starEach [e] X.env = (false, eval e X.env) :: starEach [] X.env := by rfl)
    (he2 : backTo pos (starEach [e] X.env) = (false, eval e X.env) :: backTo pos (starEach [] X.env) := by rfl) (hpl : (backTo pos (starEach [e] X.env)).any (·.1) = false := by rfl)
    (hall : (backToKw pos (keywordEach [⟨some "key", .Lambda params (lenBody x p1 p2 p3 p4 p5 k) scope lp, kp⟩] X.env)).all (·.1.isSome) = true := by rfl) (hnone : (backToKw pos (keywordEach [⟨some "key", .Lambda params (lenBody x p1 p2 p3 p4 p5 k) scope lp, kp⟩] X.env)).any (·.1.isNone) = false := by rfl)
    (hks : (backToKw pos (keywordEach [⟨some "key", .Lambda params (lenBody x p1 p2 p3 p4 p5 k) scope lp, kp⟩] X.env)).filterMap (·.1) = [("key" : Str)] := by rfl) :
    DE X L (.Call (.Name "sorted" p) [e] [⟨some "key", .Lambda params (lenBody x p1 p2 p3 p4 p5 k) scope lp, kp⟩] pos) (dSortLen P q d) := by
  obtain ⟨t, pa, l⟩ := ha
  refine ⟨_, pe_callBK (cr_sortLam hr hn hml hbind hkind hco hgen hcell hloc hkl hdx) hg hms (by decide +kernel) pa (pk_cons (pe_lamT TB hcode hq hdef hcl) pk_nil) (he := he2) (hpl := hpl) (hall := hall) (hnone := hnone) (hks := hks), fun Hf σ H Γ μ Hc Hm Q R hΦ rel h kn => l Hf σ H Γ μ Hc Hm _ _ hΦ rel h fun xs H1 ds μ1 Hc1 Hm1 h1 rel1 ra1 ex1 => ?_⟩
  obtain ⟨y, bs, rfl, hs, hi, hT, hR⟩ := h1
  obtain ⟨v, rfl, r⟩ := ra1.one
  obtain ⟨o, ho, q1⟩ := rel1.get hT
  cases o with
  | tbl ps =>
    refine ⟨ps, ho, ⟨q1.1, fun pos cv hcv => ?_⟩, fun H2 f c' pm ctv hg hc' hf => ?_⟩
    · obtain ⟨c, e1, e2⟩ := q1.2 pos cv hcv
      exact ⟨c, e1, rel1.pt.exc _ _ e2⟩
    · obtain ⟨Hc2, Hm2, rel2, ex2⟩ := rel1.grow hT ho hg
      obtain ⟨rel3, ex3⟩ := rel2.newc (o := FnO f (PySem.W.kla_obj "<lambda>" q params (lenBody x p1 p2 p3 p4 p5 k) scope [] pm c' ctv)) hf (fun ps z => by unfold FnO at z; cases z)
      obtain ⟨a, ys, rfl, rb, h2, _⟩ := rp_seqM rel3 ((r.mono ex2).mono ex3) hs
      refine ⟨a, f, c', pm, ctv, ys, bs, rfl, rfl, h2 hi, upd_same, ?_, rpA_tupI rel3.pt.exc rb, fun out p hp hE => ?_⟩
      · have m : c' ≠ f := fun z => by rw [z, hf] at hc'; cases hc'
        rw [upd_ne m]
        exact hc'
      · obtain ⟨rel4, ex4⟩ := rel3.newc (o := .lst out) hp
        exact kn _ _ _ _ _ _ hR rel4 (.lst upd_same ((tupI_rpA (fun t vs h => rel3.tupc h) hE).mono ex4)) (((ex1.trans ex2).trans ex3).trans ex4)
  | _ => exact q1.elim
end Nod
set_option Elab.async false
set_option linter.all false
set_option maxRecDepth 100000
set_option maxHeartbeats 4000000
namespace Nod
open PySem PySem.Spec PyProof.Rows L2
open Evl (Ex)
/-! ### lcm -/
def rLcm : List V → Hp → VK → Prop := fun vs H Q => ∃ a b : Int, vs = [.int a, .int b] ∧ a.natAbs < 2 ^ 13000 ∧ b.natAbs < 2 ^ 13000 ∧ Q (.int ((Nat.lcm a.natAbs b.natAbs : Nat) : Int)) H
theorem cr_lcm {X : Cx} : CallR X (.builtin "math.lcm") rLcm := by
  intro pins s σ H vs us Q I r h
  obtain ⟨a, b, rfl, ha, hb, q⟩ := h
  obtain ⟨t, u, rfl⟩ := Vals.int2 r
  have hp1 : 1 < 2 ^ 13000 := Nat.one_lt_two_pow (by omega)
  have l1 : (max 1 a.natAbs).log2 ≤ 12999 := PySem.W.mg_log (Nat.max_lt.mpr ⟨hp1, ha⟩)
  have l2 : (max a.natAbs b.natAbs).log2 ≤ 12999 := PySem.W.mg_log (Nat.max_lt.mpr ⟨ha, hb⟩)
  have e : Nat.lcm 1 a.natAbs = a.natAbs := by rw [Nat.lcm_one_left]
  have hlt : Nat.lcm a.natAbs b.natAbs < 2 ^ (25999 + 1) := by
    have h1 : Nat.lcm a.natAbs b.natAbs ≤ a.natAbs * b.natAbs := Nat.div_le_self _ _
    have h2 : a.natAbs * b.natAbs < 2 ^ 13000 * 2 ^ 13000 := Nat.mul_lt_mul'' ha hb
    rw [← Nat.pow_add] at h2
    omega
  have hsz : ((((Nat.lcm 1 a.natAbs).lcm b.natAbs : Nat) : Int)).natAbs.log2 < bitsLine := by
    rw [e, Int.natAbs_natCast]
    have := PySem.W.mg_log hlt
    unfold bitsLine
    omega
  have g := PySem.W.mg_run_lcm a t b u (by omega) (by omega) hsz
  rw [e] at g
  exact call_function_meets PySem.W.MGF.kind_lcm PySem.W.MGF.plain_lcm PySem.W.MGF.entry_lcm (PySem.W.MGF.args_lcm _ _) g.meets ⟨.int _, H, I.tok _, ⟨_, rfl⟩, q⟩
def qLcm : QA := fun xs μ R => ∃ i j : Int, xs = [.int i, .int j] ∧ i.natAbs < 2 ^ 13000 ∧ j.natAbs < 2 ^ 13000 ∧ R (.int (Nat.lcm i.natAbs j.natAbs : Nat)) μ
theorem c_lcm {X : Cx} : DCl X (.builtin "math.lcm") qLcm := ⟨_, cr_lcm, fun B Hf σ H Γ μ Hc Hm xs ds Q R rel ra h kn => by
  obtain ⟨i, j, rfl, h1, h2, hR⟩ := h
  obtain ⟨v, v2, rfl, r, r2⟩ := ra.two
  cases r.int_inv
  cases r2.int_inv
  exact ⟨i, j, rfl, h1, h2, kn.id hR rel (.int _)⟩⟩

/-! ### list.count of plain data -/
def rCntD (K : PySem.W.Frag) : V → List V → Hp → VK → Prop := fun x xs H Q => ∃ (a : Addr) (y : V) (d : PyData) (ds : List PyData), x = V.ref a ∧ xs = [y] ∧ Dp K H (V.ref a) (.list ds) ∧ Dp K H y d ∧ SeqAt.shaped (.list ds) = true ∧ SeqAt.shaped d = true ∧
  Q (.int ((ds.countP fun z => PyData.eqv z d : Nat) : Int)) H
theorem mt_countD {X : Cx} (hu : X.A.units + 65 < cLine) : MtR X "list.count" (rCntD X.K) := by
  intro pins s σ H x xs v us Q I rx rxs h
  obtain ⟨a, y, d, ds, rfl, rfl, hl, hy, sl, sd, q⟩ := h
  cases rx
  cases rxs with
  | cons ry rt =>
    rename_i uy ut
    cases rt
    obtain ⟨bs, r1⟩ := Dp.reads I d y uy hy ry
    have hxs : PyData.canLayAll0 ds = true := SeqAt.canLay_of_shaped sl
    have hroom : X.A.units + 1 + min (PyData.depthAll ds) d.depth < cLine := room_in_shaped sd hu
    cases hl with
    | lst hs ha =>
      obtain ⟨its, rv, ⟨⟨cls, dd, data, sls⟩, n, ho, hc, hdn, hdt⟩, hlen⟩ := I.list hs
      simp only at hc hdt
      subst hc hdt
      obtain ⟨as, h4⟩ := Dp.readsAll I ds _ its ha rv
      have hmap : its.map (SeqAt.readOf s.heap) = ds := SeqAt.readsAll_map ds its as hxs h4
      refine call_meets PySem.F.slot_list_count ⟨_, ho, rfl⟩ PySem.F.entry_list_count (PySem.F.args_list_count_2 _ _)
        (SeqAt.list_countAt a its.toArray n dd sls uy (fun u => PyData.eqv (SeqAt.readOf s.heap u) d)) ⟨ho, SeqAt.items_eqAt (vs := its.toArray) (show ReadsAll s.heap its.toArray.toList ds as from h4) r1 hxs (SeqAt.canLay_of_shaped sd) hroom, ?_⟩
      refine ⟨.int _, H, I.tok _, ⟨s.toks, ?_⟩, q⟩
      rw [← hmap, List.countP_map]
      rfl
def dCntD (da db : DT) : DT := fun Γ μ R => da Γ μ fun x μ1 => isTup x = false ∧ (∃ es, seqM μ1 x = some es) ∧ db Γ μ1 fun y μ2 => ∃ d es, PyOf μ2 x (.list es) ∧ PyOf μ2 y d ∧ SeqAt.shaped (.list es) = true ∧ SeqAt.shaped d = true ∧ R (.int ((es.countP fun z => PyData.eqv z d : Nat) : Int)) μ2
theorem de_countD {X : Cx} {L : Lc X} {o e : Expr} {da db : DT} {apos cpos : Pos} (hu : X.A.units + 65 < cLine) (ha : DE X L o da) (hb : DE X L e db)
    (hbase : attributeBase o "count" X.env (eval o X.env) = eval o X.env := by rfl)
    (hfew : ((backTo cpos (starEach [e] X.env)).all (fun x => !x.1) && (backToKw cpos (keywordEach [] X.env)).all (fun x => x.1.isSome)
      && decide ([e].length + ([] : List Keyword).length + (if ([] : List Keyword).isEmpty then 0 else 1) < 30)) = true := by rfl)
    (hline : (apos.endLine == cpos.line) = true := by rfl) (hs : starEach [e] X.env = (false, eval e X.env) :: starEach [] X.env := by rfl) (hplain : (backTo cpos (starEach [] X.env)).any (·.1) = false := by rfl) :
    DE X L (.Call (.Attribute o "count" apos) [e] [] cpos) (dCntD da db) := by
  obtain ⟨ta, p, la⟩ := ha
  obtain ⟨tb, p2, lb⟩ := hb
  refine ⟨_, pe_bm F.plainAttrs_list F.slot_list_count F.type_list_count (mt_countD hu) p (pa_cons p2 pa_nil hs) hbase hfew hline hs hplain, fun Hf σ H Γ μ Hc Hm Q R hΦ rel h k => la Hf σ H Γ μ Hc Hm _ _ hΦ rel h fun x H1 dx μ1 Hc1 Hm1 h1 rel1 rp1 ex1 => ?_⟩
  obtain ⟨hi, ⟨es, hes⟩, h1⟩ := h1
  obtain ⟨a, ys, rfl, ra, h2, _⟩ := rp_seqM rel1 rp1 hes
  refine ⟨.inl ⟨rfl, ys, h2 hi⟩, lb Hf σ H1 Γ μ1 Hc1 Hm1 _ _ hΦ rel1 h1 fun y H2 dy μ2 Hc2 Hm2 h2 rel2 rp2 ex2 => ?_⟩
  obtain ⟨d, es, q1, q2, s1, s2, hR⟩ := h2
  exact ⟨a, y, d, es, rfl, rfl, q1.dp rel2 (rp1.mono ex2), q2.dp rel2 rp2, s1, s2, k _ _ _ _ _ _ hR rel2 (.int _) (ex1.trans ex2)⟩
end Nod
set_option Elab.async false
set_option linter.all false
set_option maxRecDepth 100000
set_option maxHeartbeats 4000000
namespace Nod
open PySem PySem.Spec PyProof.Rows L2
open Evl (Ex)
/-! ### x op y, the own method of a class, both its instances -/
theorem rel_back {v : V} {u : Value} {Q : Value → Shared → Prop} {s : Shared} (r : RelV v u) (h : Q u s) : PySem.W.CmpBack Q u s := by
  unfold PySem.W.CmpBack
  cases v with
  | non => cases r; exact h
  | bl b => cases r; exact h
  | int i => obtain ⟨t, e⟩ := (show ∃ t, u = Value.int i t from r); subst e; exact h
  | str i => obtain ⟨t, e⟩ := (show ∃ t, u = Value.str i t from r); subst e; exact h
  | byt i => obtain ⟨t, e⟩ := (show ∃ t, u = Value.bytes i t from r); subst e; exact h
  | flt i => obtain ⟨t, e⟩ := (show ∃ t, u = Value.float i t from r); subst e; exact h
  | ref a => cases r; exact h
  | ty n => cases r; exact h
def tBinO (C : Addr) (sp : Sp) (E : L2.St → XK) (ta tb : TE) : TE := fun σ H Q => ta σ H fun x H1 => tb σ H1 fun y H2 => ∃ a b dx dy fs gs, x = .ref a ∧ y = .ref b ∧ H2 a = some (.ins C dx fs) ∧ H2 b = some (.ins C dy gs) ∧ sp [x, y] H2 Q (E σ)
theorem pe_binO {X : Cx} {CX : CXT} {C f : Addr} {fd : FuncData} {ps : List Str} {k : Nat} {sp : Sp} {E : L2.St → XK} {ta tb : TE} {op : Operator} {e1 e2 : Expr} {pos : Pos} (ha : PE X e1 ta) (hb : PE X e2 tb) (F : FnOk X.prog X.w X.K X.mg X.base CX k f fd ps sp) (hr : Room k X.A) (hbi : Binds X.K fd ps [])
    (hx : ∀ σ, PassesAt CX X σ (E σ)) (hc : PySem.W.selfFirst X.K C = true) (hs : PySem.W.findIn X.K (.ref C) (PySem.dunder op.info.2) = some (some (.ref f))) (hf : PySem.W.isFn X.K (.ref f) = true) : PE X (.BinOp e1 op e2 pos) (tBinO C sp E ta tb) := by
  refine ⟨fun pins s σ H Q I h => ?_⟩
  refine wpAny_BinOp (binT ha hb I h fun v u s2 x y H2 I2 rx ry q => ?_)
  obtain ⟨a, b, dx, dy, fs, gs, rfl, rfl, h1, h2, hsp⟩ := q
  cases rx
  cases ry
  obtain ⟨mA, J, _⟩ := ins_get I2.hok h1
  obtain ⟨mB, J', _⟩ := ins_get I2.hok h2
  obtain ⟨od, J, _⟩ := J.look
  obtain ⟨od', J', _⟩ := J'.look
  obtain ⟨m, hF⟩ := I2.fr
  refine PySem.W.binop_K hF I2.ok.mod.kin J J'.type hc hs hf ?_
  refine wpAny_mono (run_fnSD (us := [.ref a, .ref b]) (vs := [.ref a, .ref b]) (dvs := []) (ds := []) F hr hbi .nil (hx σ) I2 (.cons rfl (.cons rfl .nil)) (by simpa using hsp)) (fun w s' hq => ?_) fun _ _ e => e
  obtain ⟨z, H', I', rz, q⟩ := hq
  exact rel_back rz ⟨z, H', I', rz, q⟩
def dBinO (C : Str) (sp : DSp) (W : DW) (da db : DT) : DT := fun Γ μ R => da Γ μ fun x μ1 => db Γ μ1 fun y μ2 => (∃ gs hs, x = .obj C gs ∧ y = .obj C hs) ∧ sp [x, y] μ2 R fun n gs μ' => W n gs Γ μ'
theorem de_binO {X : Cx} {L : Lc X} {C : Str} {f : Addr} {ps : List Str} {k : Nat} {sp : DSp} {da db : DT} {op : Operator} {e1 e2 : Expr} {pos : Pos} (ha : DE X L e1 da) (hb : DE X L e2 db) (F : DFn X.prog X.w X.K X.mg X.base k f ps [] sp) (hr : Room k X.A)
    (hc : PySem.W.selfFirst X.K (He.ga X.K C) = true) (hs : PySem.W.findIn X.K (.ref (He.ga X.K C)) (PySem.dunder op.info.2) = some (some (.ref f))) (hf : PySem.W.isFn X.K (.ref f) = true) : DE X L (.BinOp e1 op e2 pos) (dBinO C sp L.W da db) := by
  obtain ⟨fd, dvs, ds, F1, hbi, hd, hrp⟩ := F.ex
  have e := hrp (fun _ => none)
  cases e
  cases hd
  obtain ⟨ta, p, la⟩ := ha
  obtain ⟨tb, p2, lb⟩ := hb
  refine ⟨_, pe_binO p p2 F1 hr hbi (fun σ => passAt L.tk σ) hc hs hf, fun Hf σ H Γ μ Hc Hm Q R hΦ rel h kn => la Hf σ H Γ μ Hc Hm _ _ hΦ rel h fun x H1 dx μ1 Hc1 Hm1 h1 rel1 rp1 ex1 => lb Hf σ H1 Γ μ1 Hc1 Hm1 _ _ hΦ rel1 h1 fun y H2 dy μ2 Hc2 Hm2 h2 rel2 rp2 ex2 => ?_⟩
  obtain ⟨⟨gs, hs, rfl, rfl⟩, h2⟩ := h2
  have rp1' := rp1.mono ex2
  cases id rp1' with
  | obj ho rf =>
    cases id rp2 with
    | obj ho2 rf2 =>
      exact ⟨_, _, _, _, _, _, rfl, rfl, rel2.pt.exc _ _ ho, rel2.pt.exc _ _ ho2, Hc2, Hm2, Hf, _, μ2, R, _, rel2.pt, rel2.mu, .cons rp1' (.cons rp2 .nil), h2, fun v H' y μ' Hc' Hm' a b c e g => kn v H' y μ' Hc' Hm' a ⟨b, rel2.ex.trans g, rel2.sg.mono g, c⟩ e ((ex1.trans ex2).trans g),
        fun n gs μ' H' Hc' Hm' dx fs a b c e g hx => ⟨n, gs, Γ, μ', Hc', Hm', Hf, dx, fs, rfl, rfl, e, g, hΦ, ⟨b, rel2.ex.trans hx, rel2.sg.mono hx, c⟩, a⟩⟩
end Nod
set_option Elab.async false
set_option linter.all false
set_option maxRecDepth 100000
set_option maxHeartbeats 4000000
/-! an own exception below ValueError whose __init__(self, p) says super().__init__('text'); self.f = p -/
namespace Nod
open PySem PySem.Spec PyProof.Rows L2
open PySem.W (excObj kxs_mw ksFn)
def nA (par : Str) (p1 p2 : Pos) : Arguments := { posonlyargs := [], args := [{ arg := "self", annotation := none, pos := p1 }, { arg := par, annotation := none, pos := p2 }], vararg := none, kwonlyargs := [], kw_defaults := [], kwarg := none, defaults := [] }
def nB (msg fld par : Str) (a0 a1 a2 a3 a4 a5 q1 q2 q3 q4 : Pos) (k : Nat) : List Stmt :=
  [.Expr (.Call (.Attribute (.Call (.Name "super" a0) [] [] a1) "__init__" a2) [.Constant (.str msg) k a3] [] a4) a5, .Assign [.Attribute (.Name "self" q1) fld q2] (.Name par q3) q4]
def nS (par : Str) : Scope := { kind := .function, names := [(PySem.Str.ofString "self", .local), (par, .local), (PySem.Str.ofString "__class__", .free), (PySem.Str.ofString "super", .globalImplicit)], isGenerator := false, isCoroutine := false, more := [] }
/-- what the written part says of the class at C and of its __init__, at fI -/
structure NTxt (P : Program) (K : PySem.W.Frag) (mg : Str → Option Value) (cn fld par : Str) (C fI : Addr) : Prop where
  gC : mg cn = some (.ref C)
  cls : ∃ nm q N bs bm sn sub ab col dd k0 k1 k2 k3 k5, K.lookup C = some (excClassObj nm q C N bs bm true sn sub ab col dd k0 k1 k2 k3 k5 "ValueError.__new__") ∧ HandSPX.refsVE bm = true
  sa : PySem.W.findIn K (.ref C) "__setattr__" = some (some (.builtin "object.__setattr__"))
  ga : PySem.W.findIn K (.ref C) "__getattribute__" = some (some (.builtin "BaseException.__getattribute__"))
  gg : PySem.W.findIn K (.ref C) "__getattr__" = some none
  noN : PySem.W.findIn K (.ref C) fld = some none
  iC : PySem.W.findIn K (.ref C) "__init__" = some (some (.ref fI))
  tC : PySem.W.typeIn K (.ref fI) = some (.type "function")
  kC : PySem.W.keepIn K (.ref C) = true
  exC : PySem.W.subIn K (.ref C) (.type "BaseException") = some true
  tyC : PySem.W.typeIn K (.ref C) = some (.type "type")
  hdC : PySem.W.hasDictIn K C = true
  su : PySem.W.ks_superIn K C C "__init__" = some (some (.builtin "ValueError.__init__"))
  ve : PySem.W.subIn K (.ref C) (.type "ValueError") = some true
  mr : PySem.W.mroIn K C (.ref C) = some true
  op : PySem.W.nsIn K cStatics "thirdparty.any" = some none
  sg : mg "super" = none
  st : (P.main.scope.names.lookup ("super" : Str)).isSome = false
  np : par ≠ "self"
  np2 : par ≠ "__class__"
  ndb : (par == ("__debug__" : Str)) = false
  np3 : par ≠ "super"
  fn : ∃ (oc : Value) (od : Option Addr) (doc pm : Value) (an : Option Addr) (cda cc : Addr) (ct : Value) (osl : Array (Option Value)) (p1 p2 a0 a1 a2 a3 a4 a5 q1 q2 q3 q4 : Pos) (k : Nat) (msg qual : Str) (ccl cl : Value) (cdd cld : Option Addr) (vs : Array Value) (ccs csl : Array (Option Value)) (file : Str) (tf : Tok),
    K.lookup fI = some ⟨oc, od, .func (ksFn "__init__" qual (nA par p1 p2) (nB msg fld par a0 a1 a2 a3 a4 a5 q1 q2 q3 q4 k) (nS par) .none .none doc pm an (.ref cda) ct cc), osl⟩ ∧ PySem.W.codeIn K (.ref cda) qual = true ∧
    K.lookup cda = some ⟨ccl, cdd, .fields vs, ccs⟩ ∧ vs[2]? = some (.str file tf) ∧ ((P.main.file : Str) == file) = true ∧ K.lookup cc = some ⟨cl, cld, .cell (some (.ref C)), csl⟩ ∧
    (∀ u v : Value, bindArgs (ksFn "__init__" qual (nA par p1 p2) (nB msg fld par a0 a1 a2 a3 a4 a5 q1 q2 q3 q4 k) (nS par) .none .none doc pm an (.ref cda) ct cc) ⟨[u, v], []⟩ = pure [(("self" : Str), u), (par, v)]) ∧
    ∃ pl : Sem Bool, ∀ env : Env, eval (.Call (.Attribute (.Call (.Name "super" a0) [] [] a1) "__init__" a2) [.Constant (.str msg) k a3] [] a4) env = (do
      let ov ← attributeBase (.Call (.Name "super" a0) [] [] a1) "__init__" env (eval (.Call (.Name "super" a0) [] [] a1) env)
      standAt a2.atName
      let (f, first) ← holding [ov] (getMethod ov "__init__" pl)
      callWith a4 f first (backTo a4 (starEach [.Constant (.str msg) k a3] env)) [])
section
variable {prog : Program} {w : World} {A : Around} {E : Value → Shared → Prop} {h : Heap} {g : Array GenState} {d : Drawn} {t : Nat} {os : OsState}
/-- the bound built-in __init__ called -/
theorem mw_call {nm q : Str} {C N u x t0 : Addr} {bs bm : List Value} {hdct : Bool} {sn : List Str} {sub : List Value} {ab : Bool} {col : Option Bool} {dd : Option Addr} {k0 k1 k2 k3 k5 : Option Value} {rest : List Value} {Q : Value → Shared → Prop}
    (hC : h.get? C = some (excClassObj nm q C N bs bm hdct sn sub ab col dd k0 k1 k2 k3 k5 "ValueError.__new__")) (he : h.get? x = some (HandSPX.excO C t0)) (hu : h.get? u = some (kxs_mw "ValueError.__init__" x)) (hz : rest.length ≤ sizeLine)
    (hq : ∀ h' t1, (∀ b o, b ≠ x → h.get? b = some o → h'.get? b = some o) → h'.get? x = some (HandSPX.excO C t1) → Q .none ⟨h', g, d, t, os⟩) :
    wpAny (model prog w) A (call (.ref u) rest) Q E ⟨h, g, d, t, os⟩ := by
  refine wpAny_call (codeAny_of_tree ?_)
  show wpAny _ A.in1 (callAny (.ref u) ⟨rest, []⟩) _ _ _
  simp only [callAny]
  refine wpAny_bind (wpAny_load hu ?_)
  simp only [kxs_mw, show (Value.type "method-wrapper" == Value.type "method" || Value.type "method-wrapper" == Value.type "builtin_function_or_method" || Value.type "method-wrapper" == Value.type "method-wrapper") = true by decide, if_true]
  refine PySem.W.KFB.if_so (by decide) ?_
  refine wpAny_bind (PySem.W.check_bound_init F.excBase_ValueError.toExcCallFacts hC he rfl ?_)
  refine wpAny_bind (wpAny_pure (wpAny_pure ?_))
  refine ⟨plainId_quiet F.excBase_ValueError.init.plain _, codeAny_builtin F.excBase_ValueError.initEntry ?_⟩
  exact PySem.W.exc_init_tree (cls := .ref C) (t0 := t0) (dv := none) (c2 := .none) (c3 := .none) (b4 := .bool false) he hz fun h' k e' t' => hq h' _ k e'
end
section
variable {prog : Program} {w : World} {A : Around} {E : Value → Shared → Prop} {R : Result → Shared → Prop} {s : Shared} {K : PySem.W.Frag} {mg : Str → Option Value} {cn fld par : Str} {C fI : Addr}
structure NEnd (h h' : Heap) (x C dx t1 : Addr) (fld : Str) (v : Value) : Prop where
  keep : ∀ b o, b ≠ x → h.get? b = some o → h'.get? b = some o
  obj : h'.get? x = some { cls := .ref C, dict := some dx, data := .fields #[.ref t1, .none, .none, .none, .bool false, .none] }
  dbig : h.objs.size ≤ dx
  dne : dx ≠ x
  ns : h'.Ns1 dx (fun y => if y = fld then some v else none)
structure NMade (h h' : Heap) (e C d : Addr) (fld : Str) (v : Value) : Prop where
  keep : ∀ b o, h.get? b = some o → h'.get? b = some o
  new : h.objs.size ≤ e
  obj : ∃ oe vs, h'.get? e = some oe ∧ oe.cls = .ref C ∧ oe.dict = some d ∧ oe.data = .fields vs ∧ vs[1]? = some .none
  dbig : h.objs.size ≤ d
  dne : d ≠ e
  ns : h'.Ns1 d (fun y => if y = fld then some v else none)
theorem kept_but {h h' : Heap} {x : Addr} (X : K.In h) (hx : K.lookup x = none) (k : ∀ b o, b ≠ x → h.get? b = some o → h'.get? b = some o) : K.In h' := fun a o e =>
  k a o (fun z => by rw [z, hx] at e; cases e) (X a o e)
theorem n_init (T : NTxt prog K mg cn fld par C fI) {x t0 : Addr} {v : Value} {mb : Str → Option Value} (X : K.In s.heap) (hlim : s.heap.NoLimit) (hg : s.heap.Ns mainGlobals mg) (hb : s.heap.Ns builtinsNs mb) (hbs : mb "super" = some (.type "super")) (hx : s.heap.get? x = some (HandSPX.excO C t0)) (hnx : K.lookup x = none) (hroom : A.depth < recursionLimit)
    (hq : ∀ h' tk dx t1, NEnd s.heap h' x C dx t1 fld v → R (.ok (.ret .none)) { s with heap := h', toks := tk }) :
    codeAny (model prog w) A (.call (.ref fI) ⟨[.ref x, v], []⟩) R s := by
  obtain ⟨oc, od, doc, pm, an, cda, cc, ct, osl, p1, p2, a0, a1, a2, a3, a4, a5, q1, q2, q3, q4, kk, msg, qual, ccl, cl, cdd, cld, vs, ccs, csl, file, tf, ho, hcd, hcode, hvs, hfile, hcell, hbnd, pl, hev⟩ := T.fn
  obtain ⟨nm, q, N, bs, bm, sn, sub, ab, col, dd, k0, k1, k2, k3, k5, hC, hbm⟩ := T.cls
  have hcl : PySem.W.clsIn K C = some { name := nm, bases := bs, mro := .ref C :: bm, ns := N, qualname := q, hasDict := true, slotNames := sn, subclasses := sub, abstract := ab, collection := col, hasDel := false } := by unfold PySem.W.clsIn; rw [hC] <;> rfl
  have hnp : (("self" : Str) == par) = false := by simpa using Ne.symm T.np
  have hnp2 : (par == ("self" : Str)) = false := by simpa using T.np
  have hlp : (nS par).names.lookup par = some .local := by
    show List.lookup par [(PySem.Str.ofString "self", NameKind.local), (par, .local), (PySem.Str.ofString "__class__", .free), (PySem.Str.ofString "super", .globalImplicit)] = _
    rw [List.lookup_cons]
    have e : (par == PySem.Str.ofString "self") = false := hnp2
    rw [e]
    simp [List.lookup_cons]
  have hlc : (nS par).names.lookup ("__class__" : Str) = some .free := by
    show List.lookup (PySem.Str.ofString "__class__") [(PySem.Str.ofString "self", NameKind.local), (par, .local), (PySem.Str.ofString "__class__", .free), (PySem.Str.ofString "super", .globalImplicit)] = _
    have e : (PySem.Str.ofString "__class__" == par) = false := by simpa using Ne.symm T.np2
    rw [List.lookup_cons, show (PySem.Str.ofString "__class__" == PySem.Str.ofString "self") = false by decide]
    rw [List.lookup_cons, e]
    rfl
  have hls : (nS par).names.lookup ("super" : Str) = some .globalImplicit := by
    show List.lookup (PySem.Str.ofString "super") [(PySem.Str.ofString "self", NameKind.local), (par, .local), (PySem.Str.ofString "__class__", .free), (PySem.Str.ofString "super", .globalImplicit)] = _
    have e : (PySem.Str.ofString "super" == par) = false := by simpa using Ne.symm T.np3
    rw [List.lookup_cons, show (PySem.Str.ofString "super" == PySem.Str.ofString "self") = false by decide]
    rw [List.lookup_cons, e]
    rfl
  refine PySem.ks_codeAny_call_defAt (fd := ksFn "__init__" qual (nA par p1 p2) (nB msg fld par a0 a1 a2 a3 a4 a5 q1 q2 q3 q4 kk) (nS par) .none .none doc pm an (.ref cda) ct cc) (binds := [("self", .ref x), (par, v)]) hroom (X _ _ ho) rfl hlim (PySem.W.codeRec_of X hcd) rfl
    (BindsTo.of_eq (hbnd _ _)) (fun y hy => by
      have hy' : y ∈ (nS par).names := hy
      simp only [nS, List.mem_cons, List.not_mem_nil, or_false] at hy'
      rcases hy' with rfl | rfl | rfl | rfl <;> simp) (fun y hy => by
      simp only [List.mem_cons, List.not_mem_nil, or_false] at hy
      rcases hy with rfl | rfl
      · rfl
      · exact hlp) (fun h₁ hn k => ?_)
  have X₁ : K.In h₁ := X.keeps k
  have hx₁ := k _ _ hx
  have hself : (fun y => ([("self", Value.ref x), (par, v)] : List (Str × Value)).reverse.lookup y) "self" = some (.ref x) := by
    show List.lookup ("self" : Str) [(par, v), (("self" : Str), Value.ref x)] = _
    rw [List.lookup_cons, hnp]
    simp [List.lookup_cons]
  have hpar : (fun y => ([("self", Value.ref x), (par, v)] : List (Str × Value)).reverse.lookup y) par = some v := by
    show List.lookup par [(par, v), (("self" : Str), Value.ref x)] = _
    rw [List.lookup_cons]
    simp
  have hxC : x ≠ C := fun z => by rw [z, hC] at hnx; cases hnx
  -- super().__init__(text)
  refine PySem.ks_wpAt_execs_cons (PySem.ks_wpAt_Expr_any (PySem.ks_wpAt_MethodCall (pl := pl) (PySem.ks_wpAt_super_base hls hlc rfl rfl (X₁ _ _ ho) rfl rfl rfl (X₁ _ _ hcode) rfl hvs hfile T.st ?_) (hev _)))
  refine PySem.W.ks_loadName_global rfl hls (Calls.loadGlobal_builtin (hg.keeps k) T.sg (hb.keeps k) hbs ⟨rfl, ?_⟩)
  refine wpAny_loadName_free rfl hlc rfl ⟨_, X₁ _ _ hcell, rfl⟩ ?_
  refine wpAny_loadName_local rfl rfl hn hself ?_
  refine PySem.ks_wpAny_isType_cls (X₁ _ _ hC) rfl ⟨rfl, ?_⟩
  refine PySem.ks_wpAny_call_super (X₁ _ _ hC) rfl hx₁ rfl (fun c e => by cases e) (PySem.W.looks_mroIn X₁ T.mr) (fun h₂ e₂ k₂ => ?_)
  have X₂ : K.In h₂ := X₁.keeps k₂
  have I₂ : PySem.W.InstAt h₂ x (HandSPX.excO C t0) C none := ⟨k₂ _ _ hx₁, rfl, rfl, trivial⟩
  have hm := T.su
  unfold PySem.W.ks_superIn at hm
  rw [hcl] at hm
  refine PySem.W.kxs_getMethod PySem.W.kxs_ValueError e₂ (PySem.W.looks_opaque X₂ T.op) (l₀ := .ref C :: bm) (fun A Q E s k q => wpAny_bind ((PySem.W.looks_clsIn X₂ hcl) A _ E s k (wpAny_pure q))) rfl X₂ hm (I₂.type.andThen (PySem.W.looks_subIn X₂ T.ve)) hxC (by decide) ?_
  refine PySem.W.kxs_callWith (i := "ValueError.__init__") (x := x) rfl (Calls.evalArgs_plain (Calls.spliced_cons ?_))
  show wpAny (model prog w) _ (eval (.Constant (.str msg) kk a3) _) _ _ _
  refine Calls.Constant_str (Calls.spliced_nil ⟨Heap.get?_push_size _ rfl, ?_⟩)
  refine mw_call (rest := [.str msg _]) (t0 := t0) (Heap.get?_push_of_some _ (X₂ _ _ hC)) (Heap.get?_push_of_some _ (k₂ _ _ hx₁)) (Heap.get?_push_size _ rfl) (by rw [sizeLine_eq]; exact (by decide : 1 ≤ 16777216)) (fun h₃ t1 k₃ hx₃ => ?_)
  -- self.f = p
  have kx : ∀ b o, b ≠ x → h₁.get? b = some o → h₃.get? b = some o := fun b o hb e => k₃ b o hb (Heap.get?_push_of_some _ (k₂ b o e))
  have X₃ : K.In h₃ := kept_but X₁ hnx kx
  have hxL : s.heap.objs.size ≠ x := Nat.ne_of_gt (Heap.lt_size hx)
  have hn₃ : h₃.Ns s.heap.objs.size (fun y => ([("self", Value.ref x), (par, v)] : List (Str × Value)).reverse.lookup y) := by
    obtain ⟨oL, es, ep, hL, r⟩ := hn
    exact ⟨oL, es, ep, kx _ _ hxL hL, r⟩
  refine wpAt_of_wpAny ?_
  refine wpAny_execs_cons (plainObj_wpAny_Assign_Attribute ?_)
  refine wpAny_Name (wpAny_loadName_local rfl hlp hn₃ hpar ?_) T.ndb
  refine wpAny_Name (wpAny_loadName_local rfl rfl hn₃ hself ?_) (by decide)
  refine PySem.W.set_plain X₃ (ox := HandSPX.excO C t1) (od := none) ⟨hx₃, rfl, rfl, trivial⟩ T.sa ?_
  refine HandSPX.exc_osa X₃ hx₃ hcl (show HandSPX.refsVE (.ref C :: bm) = true from hbm) rfl T.noN (fun h₄ tk₄ dx k₄ dn dne hx₄ hn₄ => ?_)
  have z : s.heap.objs.size < h₁.objs.size := hn.lt
  have z3 : s.heap.objs.size < h₃.objs.size := hn₃.lt
  exact wpAny_execs_nil (hq h₄ tk₄ dx t1 ⟨fun b o hb e => k₄ b o hb (kx b o hb (k b o e)), hx₄, Nat.le_of_lt (Nat.lt_of_lt_of_le z3 dn), dne, hn₄⟩)
theorem n_made (T : NTxt prog K mg cn fld par C fI) {v : Value} {mb : Str → Option Value} (X : K.In s.heap) (hlim : s.heap.NoLimit) (hg : s.heap.Ns mainGlobals mg) (hb : s.heap.Ns builtinsNs mb) (hbs : mb "super" = some (.type "super")) (hroom : A.depth + 1 < recursionLimit)
    (hq : ∀ h' tk e d, NMade s.heap h' e C d fld v → R (.ok (.ret (.ref e))) { s with heap := h', toks := tk }) :
    codeAny (model prog w) A (.call (.ref C) ⟨[v], []⟩) R s := by
  obtain ⟨nm, q, N, bs, bm, sn, sub, ab, col, dd, k0, k1, k2, k3, k5, hC, hbm⟩ := T.cls
  obtain ⟨hp, g, dr, tk, os⟩ := s
  have k : ∀ b o, hp.get? b = some o → ((hp.push (PySem.W.kdv_tup [v])).push (HandSPX.excO C hp.objs.size)).get? b = some o := fun b o e => Heap.get?_push_of_some _ (Heap.get?_push_of_some _ e)
  have hget : ((hp.push (PySem.W.kdv_tup [v])).push (HandSPX.excO C hp.objs.size)).get? (hp.objs.size + 1) = some (HandSPX.excO C hp.objs.size) := by heap_get
  have hnx : K.lookup (hp.objs.size + 1) = none := by
    cases e : K.lookup (hp.objs.size + 1) with
    | none => rfl
    | some o =>
      have z : hp.get? (hp.objs.size + 1) = some o := X _ _ e
      exact absurd (Nat.lt_of_succ_lt (Heap.lt_size z)) (Nat.lt_irrefl _)
  refine HandSPX.call_own F.excBase_ValueError (fun X => HandSPX.refsVE_contains X bm hbm) (X _ _ hC) (PySem.W.looks_findIn X T.iC) (fun self => PySem.W.bind_fn X self T.tC) (by rw [sizeLine_eq]; exact (by decide : 1 ≤ 16777216)) ?_
  refine n_init (s := ⟨(hp.push (PySem.W.kdv_tup [v])).push (HandSPX.excO C hp.objs.size), g, dr, tk, os⟩) T (X.keeps k) (hlim.keeps k) (hg.keeps k) (hb.keeps k) hbs hget hnx ?_ fun h' tk' dx t1 ⟨k', hx, dn, dne, hns⟩ => ?_
  · show A.depth + 1 < recursionLimit
    exact hroom
  · have old : ∀ b o, hp.get? b = some o → h'.get? b = some o := fun b o e => k' b o (Nat.ne_of_lt (Nat.lt_succ_of_lt (Heap.lt_size e))) (k b o e)
    have z : hp.objs.size + 1 + 1 ≤ dx := by
      first
        | (simpa only [Heap.size_push] using dn)
        | exact dn
        | (have q := dn; rw [Heap.size_push, Heap.size_push] at q; exact q)
    exact ⟨rfl, hq h' tk' (hp.objs.size + 1) dx ⟨old, Nat.le_succ _, ⟨_, _, hx, rfl, rfl, rfl, rfl⟩, Nat.le_trans (Nat.le_trans (Nat.le_succ _) (Nat.le_succ _)) z, dne, hns⟩⟩
end
theorem relO_n {v : V} {v' : Value} (r : RelV v v') (fld f : Str) : RelO (List.lookup f [(fld, v)]) (if f = fld then some v' else none) := by
  by_cases hw : f = fld
  · subst hw
    rw [if_pos rfl]
    have q : List.lookup f [(f, v)] = some v := by simp [List.lookup]
    rw [q]
    exact r
  · rw [if_neg hw]
    have qw : (f == fld) = false := by simpa using hw
    have q2 : List.lookup f [(fld, v)] = none := by simp [List.lookup, qw]
    rw [q2]
    trivial
section
variable {X : Cx} {C fI : Addr} {cn fld par : Str}
/-- C(e) -/
def tMkN (C : Addr) (fld : Str) (ta : TA) : L2.St → Hp → XK → Prop := fun σ H Q => ta σ H fun vs H1 => ∃ v, vs = [v] ∧ ∀ d, H1 d = none → Q (.ref C) (some d) (upd H1 d (.xd [(fld, v)]))
theorem pmk_n {a : Expr} {ta : TA} {p pos : Pos} {k : Nat} (T : NTxt X.prog X.K X.mg cn fld par C fI) (hr : Room k X.A) (ha : PA X [a] ta) (hg : Gl X cn := by rfl) (hdb : (cn == ("__debug__" : Str)) = false := by decide)
    (he : starEach (a :: []) X.env = (false, eval a X.env) :: starEach [] X.env := by rfl) (hpl : (backTo pos (starEach [] X.env)).any (·.1) = false := by rfl) :
    PMk X (.Call (.Name cn p) [a] [] pos) (tMkN C fld ta) := by
  intro pins s σ H Q I h
  refine wpAny_Call_Name_kw (ld_glob I hg T.gC ?_ hdb)
  refine PySem.W.callWith_K (h₀ := X.base) I.ok.mod.kin T.kC (thn (ha.run pos pins s σ H _ I h) fun us s1 hh => ?_) he hpl
  obtain ⟨vs, H1, I1, r1, v, ev, q1⟩ := hh
  subst ev
  refine ⟨I1.kIn, ?_⟩
  obtain ⟨v', rfl, rv⟩ := r1.one
  show wpAny _ _ (call (.ref C) [v']) _ _ _
  have hlim := I1.nolimit
  obtain ⟨mb, hb1, hb2⟩ := I1.mod.blt
  have hgl := I1.mod.glob.keeps I1.bk
  have hbl := hb1.keeps I1.bk
  obtain ⟨hp, g, dr, tk, os⟩ := s1
  refine wpAny_call (n_made T I1.kIn hlim hgl hbl ((hb2 "super" (by decide)).trans (by decide +kernel)) (by have := hr.dp; omega) fun h' tk' e d M => ?_)
  show MkP X pins σ Q (.ref e) ⟨h', g, dr, tk', os⟩
  obtain ⟨oe, fv, hoe, hc, hd, hdat, h1⟩ := M.obj
  have hns := M.ns
  obtain ⟨G', g1, g2⟩ := restrict h' fun b => decide (b ≠ e)
  have gk : ∀ b, b ≠ e → G'.get? b = h'.get? b := fun b hb => g1 b (decide_eq_true hb)
  have ge : G'.get? e = none := g2 e (by simp)
  have old : ∀ b o, hp.get? b = some o → G'.get? b = some o := fun b o q => (gk b (Nat.ne_of_lt (Nat.lt_of_lt_of_le (Heap.lt_size q) M.new))).trans (M.keep b o q)
  have ob : ObjOk X.prog X.w (upd H1 d (.xd [(fld, v)])) G' d (.xd [(fld, v)]) :=
    ⟨_, hns.at (fun o q => (gk d M.dne).trans q), fun f => relO_n rv fld f⟩
  have J : Inv X pins σ (upd H1 d (.xd [(fld, v)])) ⟨G', g, dr, tk', os⟩ := I1.laid (t' := tk') old M.dbig ob
  refine ⟨e, oe, fv, ⟨G', g, dr, tk', os⟩, _, .ref C, some d, rfl, J, fun b o q => ?_, ge, hoe, ⟨hc, hd⟩, hdat, h1, ?_, rfl, I1.bare, raises_own T.exC T.tyC, q1 d (I1.hok.fresh M.dbig)⟩
  · by_cases hb : b = e
    · have q' : G'.get? b = some o := q
      rw [hb, ge] at q'; cases q'
    · exact (gk b hb).symm.trans q
  · rw [upd_ne (Ne.symm M.dne)]
    exact I1.hok.fresh M.new
end

/-! ### raise C(e), over data -/
def dRaise (n fld : Str) (W : DW) (d : DTA) : DS := fun _ Γ μ => d Γ μ fun xs μ1 => ∃ x, xs = [x] ∧ W n [(fld, x)] Γ μ1
theorem dst_raise {X : Cx} {L : Lc X} {a : Expr} {d : DTA} {cn n fld par : Str} {fI : Addr} {p pos pos2 : Pos} {k : Nat} (hc : X.calm = true) (T : NTxt X.prog X.K X.mg cn fld par (He.ga X.K n) fI) (hr : Room k X.A) (ha : DA X L [a] d) (hg : Gl X cn := by rfl) (hdb : (cn == ("__debug__" : Str)) = false := by decide)
    (he : starEach (a :: []) X.env = (false, eval a X.env) :: starEach [] X.env := by rfl) (hpl : (backTo pos (starEach [] X.env)).any (·.1) = false := by rfl) :
    DSt X L (.Raise (some (.Call (.Name cn p) [a] [] pos)) none pos2) (dRaise n fld L.W d) := by
  obtain ⟨t, pa, l⟩ := ha
  refine ⟨_, ps_raise hc L.tk (pmk_n T hr pa hg hdb he hpl), fun Hf σ H Γ μ Hc Hm Dn De hΦ rel h k => l Hf σ H Γ μ Hc Hm _ _ hΦ rel h fun xs H1 ds μ1 Hc1 Hm1 h1 rel1 ra1 ex1 => ?_⟩
  obtain ⟨x, rfl, hW⟩ := h1
  obtain ⟨v, rfl, rv⟩ := ra1.one
  refine ⟨v, rfl, fun dx hdx => ?_⟩
  obtain ⟨rel2, ex2⟩ := rel1.newc (o := .xd [(fld, v)]) hdx
  exact ⟨n, [(fld, x)], Γ, μ1, _, _, Hf, dx, _, rfl, rfl, upd_same, .cons (rv.mono ex2) .nil, hΦ, rel2, hW⟩
end Nod
set_option Elab.async false
set_option linter.all false
set_option maxRecDepth 100000
set_option maxHeartbeats 4000000
/-! a caught exception that has a dict of its own: isinstance, its field -/
namespace Nod
open PySem PySem.Spec PyProof.Rows L2
open Evl (Ex)
section
variable {prog : Program} {w : World} {A : Around} {E : Value → Shared → Prop} {s : Shared} {K : PySem.W.Frag} {x D : Addr} {ox : Obj}
theorem class_exc {od : Option Obj} {Q : Option Value → Shared → Prop} (T : ExcC K D) (X : K.In s.heap) (I : PySem.W.InstAt s.heap x ox D od) (h : Q (some (.ref D)) { s with toks := s.toks + 1 }) : wpAny (model prog w) A (getAttr? (.ref x) "__class__") Q E s := by
  have hf : PySem.W.findObj K D od "__class__" = some (.bind (.builtin "getset_descriptor.__get__") (.builtin "object.__class__")) := by
    obtain ⟨cd, hc, _⟩ := PySem.W.any_some T.hd
    unfold PySem.W.findObj
    rw [hc, Option.bind_some, T.ha, Option.bind_some]
    simp [T.hn, T.ht]
  obtain ⟨hp, g, d, t, os⟩ := s
  have ty := I.type (M := model prog w)
  have look_ga := PySem.W.looks_findIn (M := model prog w) X T.hg
  have look_gt := PySem.W.looks_findIn (M := model prog w) X T.hk
  have look_at := PySem.W.looks_find (M := model prog w) X I hf
  have sub : PySem.W.Looks (model prog w) hp (isInstance (.ref x) (.type "BaseException")) true := ty.andThen (PySem.W.looks_subIn X T.hs)
  have n1 : (Value.builtin "BaseException.__getattribute__" == Value.builtin "object.__getattribute__") = false := by decide +kernel
  have n2 : (onTheHeap (Value.ref D) && Value.builtin "BaseException.__getattribute__" == Value.builtin "object.__getattribute__") = false := by rw [n1]; rfl
  unfold getAttr? getAttrBy? getAttrBy
  refine wpAny_bind (wpAny_mkText (wpAny_bind (wpAny_attempt (wpAny_holding (wpAny_bind (ty.at (wpAny_bind (look_ga.at ?_))))))))
  show wpAny _ _ (if (onTheHeap (Value.ref D) && Value.builtin "BaseException.__getattribute__" == Value.builtin "object.__getattribute__") = true then _ else _) _ _ _
  rw [n2, if_neg Bool.false_ne_true]
  unfold getAttrByItsOwn hookBefore
  refine wpAny_bind ?_
  rw [if_pos (show onTheHeap (Value.ref D) = true from rfl)]
  refine look_gt.at ?_
  refine wpAny_bind (wpAny_attempt (wpAny_holding ?_))
  unfold callGetattribute
  rw [show (false && onTheHeap (Value.builtin "BaseException.__getattribute__")) = false from rfl, if_neg Bool.false_ne_true]
  unfold boundAndCalled
  rw [PySem.F.excAttr_ValueError.ga.bind (.ref x)]
  refine wpAny_bind (wpAny_pure ?_)
  show wpAny _ _ (call (.builtin "BaseException.__getattribute__") [.ref x, .str "__class__" t]) _ _ _
  refine wpAny_call (PySem.codeAny_call_builtin PySem.F.excAttr_ValueError.ga.plain PySem.F.entry_bexc_ga ?_)
  refine @PySem.W.check_slot (model prog w) _ _ ⟨hp, g, d, t + 1, os⟩ "BaseException.__getattribute__" "BaseException" "__getattribute__" (.ref x) [.str "__class__" t] [] _ (by decide +kernel) (by decide +kernel) sub (PySem.F.args_bexc_ga (.ref x) (.str "__class__" t)) ?_
  unfold Builtin.«object.__getattribute__»
  refine wpAny_bind (wpAny_of_eq (a := ((Value.ref x : Value), [Value.str "__class__" t])) (by first | rfl | (simp only [slotArgs]; rfl)) ?_)
  refine wpAny_bind (wpAny_pure (wpAny_bind (ty.at (wpAny_bind (look_at.at ?_)))))
  show wpAny _ _ (holding [Value.builtin "object.__class__"] (call (.builtin "getset_descriptor.__get__") [.builtin "object.__class__", .ref x, .ref D]) >>= ret) _ _ _
  refine wpAny_bind (wpAny_holding (wpAny_call (PySem.W.class_get (s := ⟨hp, g, d, t + 1, os⟩) (ox := ox) (od := od) X I T.hm ?_)))
  refine wpAny_pure ?_
  show wpAny _ _ (handedOut (.ref D)) _ _ _
  rw [PySem.W.handedOut_of (v := .ref D) rfl]
  first
    | exact wpAny_pure (wpAny_pure h)
    | exact wpAny_pure h
    | exact wpAny_pure (wpAny_bind (wpAny_pure (wpAny_pure h)))
theorem cls_there' {D : Addr} (h : PySem.W.hasDictIn K D = true) : ∃ c d cd sl, K.lookup D = some ⟨c, d, .cls cd, sl⟩ := by
  obtain ⟨cdD, hcD, _⟩ := PySem.W.any_some h
  unfold PySem.W.clsIn at hcD
  split at hcD
  · rename_i c' d' cd' sl' ho
    exact ⟨c', d', cd', sl', ho⟩
  · cases hcD
theorem kitx_excD (T : ExcC K D) : PySem.W.KitX K (.ref x) (.ref D) (fun h => ∃ od, PySem.W.InstAt h x ox D od) where
  ty := fun _ _ _ ⟨_, I⟩ => I.type
  it := fun _ _ X _ => by
    obtain ⟨c, d, cd, sl, ho⟩ := cls_there' T.hd
    intro A' Q' E' s' k q
    unfold isType loadHead
    exact wpAny_bind (wpAny_loadPart (k _ _ (X _ _ ho)) (wpAny_pure q))
  ne := fun h tp dd its n sl X htp => by
    obtain ⟨c, d, cd, sl', ho⟩ := cls_there' T.hd
    refine Bool.eq_false_iff.mpr fun q => ?_
    have e : D = tp := Value.ref.inj (beq_iff_eq.mp q)
    subst e
    have z := (X _ _ ho).symm.trans htp
    cases z
  ca := fun X I k => by
    obtain ⟨od, I⟩ := I
    exact class_exc T X I k
end
section
variable {X : Cx}
/-- isinstance(e, C), e the exception that the suite holds, of the class D, its dict at dx -/
theorem call_isX {a D dx : Addr} {oe : Obj} {pn : List (Addr × Obj)} (C : ExcC X.K D) (hz : Zc (.ref D) (some dx) oe) (hf : ∃ vs, oe.data = .fields vs) :
    CallR (X.suite a ((a, oe) :: pn)) (.builtin "isinstance") (fun xs H Q => ∃ (c : V) (cv : Value) (b : Bool) (fs : List (Str × V)), xs = [.ref a, c] ∧ H dx = some (.xd fs) ∧ (∀ u, RelV c u → u = cv) ∧ PySem.W.kitOne X.K (.ref D) cv = some b ∧ Q (.bl b) H) := by
  intro pins s σ H xs us Q I r h
  obtain ⟨c, cv, b, fs, rfl, hdx, hc, hk, q⟩ := h
  obtain ⟨u1, u2, rfl, r1, r2⟩ := vals2 r
  obtain rfl : u1 = Value.ref a := r1
  cases hc _ r2
  obtain ⟨ha, _⟩ := I.pin (a, oe) (List.mem_append_left _ List.mem_cons_self)
  obtain ⟨vs, hd⟩ := hf
  obtain ⟨mA, hns, hr⟩ := (show ObjOk X.prog X.w H s.heap dx (.xd fs) from I.hok dx _ hdx)
  obtain ⟨od, ho, _⟩ := lookIn_ns hns
  have J : PySem.W.InstAt s.heap a oe D (some od) := ⟨ha, hz.1, by unfold PySem.W.notCls; rw [hd] <;> rfl, by rw [hz.2]; exact ho⟩
  exact PySem.W.kia_one (kitx_excD (ox := oe) C) I.kIn ⟨_, J⟩ hk (fun z => nomatch z) fun tk => ⟨.bl b, H, I.tok _, rfl, q⟩
/-- e.f -/
def tXFld (a dx : Addr) (f : Str) (te : TE) : TE := fun σ H Q => te σ H fun x H1 => x = .ref a ∧ ∃ (fs : List (Str × V)) (v : V), H1 dx = some (.xd fs) ∧ fs.lookup f = some v ∧ Q v H1
theorem pe_xfld {a D dx : Addr} {oe : Obj} {pn : List (Addr × Obj)} {e : Expr} {te : TE} {f : Str} {pos : Pos} (hga : PySem.W.findIn X.K (.ref D) "__getattribute__" = some (some (.builtin "BaseException.__getattribute__"))) (hgg : PySem.W.findIn X.K (.ref D) "__getattr__" = some none) (hex : PySem.W.subIn X.K (.ref D) (.type "BaseException") = some true)
    (hdC : PySem.W.hasDictIn X.K D = true) (hno : PySem.W.findIn X.K (.ref D) f = some none) (hz : Zc (.ref D) (some dx) oe) (hf : ∃ vs, oe.data = .fields vs) (he : PE (X.suite a ((a, oe) :: pn)) e te) (hb : attributeBase e f X.env (eval e X.env) = eval e X.env := by rfl) :
    PE (X.suite a ((a, oe) :: pn)) (.Attribute e f pos) (tXFld a dx f te) := by
  refine ⟨fun pins s σ H Q I h => ?_⟩
  refine attr_of hb (thn (he.run pins s σ H _ I h) fun u s1 hh => ?_)
  obtain ⟨x, H1, I1, rx, ex, fs, v, ea, hl, q⟩ := hh
  subst ex
  obtain rfl : u = Value.ref a := rx
  obtain ⟨ha, _⟩ := I1.pin (a, oe) (List.mem_append_left _ List.mem_cons_self)
  obtain ⟨vs, hd⟩ := hf
  obtain ⟨mA, hns, hr⟩ := (show ObjOk X.prog X.w H1 s1.heap dx (.xd fs) from I1.hok dx _ ea)
  obtain ⟨od, ho, hlk⟩ := lookIn_ns hns
  obtain ⟨u, hu, ru⟩ := RelO.some_of (v := v) (o := mA f) (by rw [← hl]; exact hr f)
  have J : PySem.W.InstAt s1.heap a oe D (some od) := ⟨ha, hz.1, by unfold PySem.W.notCls; rw [hd] <;> rfl, by rw [hz.2]; exact ho⟩
  exact HandSPX.exc_get I1.kIn J hga hgg hex (PySem.W.findObj_own hdC hno rfl (by rw [hlk, hu])) (handed_of ru) ⟨v, H1, I1.tok _, ru, q⟩
end
end Nod
set_option Elab.async false
set_option linter.all false
set_option maxRecDepth 100000
set_option maxHeartbeats 4000000
/-! defs that raise nothing, called in an except suite; try, over data -/
namespace Nod
open PySem PySem.Spec PyProof.Rows L2
open L2H (RoomH)
open Evl (Ex)
/-- the context of such a def -/
def cxQ (P : Program) (w : World) (K : PySem.W.Frag) (mg : Str → Option Value) (base : Heap) (N : List Str) (qual : Str) (scope : Scope) (f : Addr) (cd : Value) (A : Around) (outer : List Env) (s : Shared) (H : Hp) : Cx :=
  { cxOf (L2.CX P w) P w K mg base N qual scope f cd A outer s H (fun _ _ _ => False) with calm := false }
structure FnQ (P : Program) (w : World) (K : PySem.W.Frag) (mg : Str → Option Value) (base : Heap) (k : Nat) (f : Addr) (fd : FuncData) (ps : List Str) (sp : Sp) : Prop where
  len : ∀ vs H Q E, sp vs H Q E → vs.length = ps.length
  run : ∀ (A : Around) (outer : List Env) (s : Shared) (H : Hp) (args : Args) (us : List Value) (vs : List V) (Q : VK), RoomH k A → Env0 P w K mg base A outer s H → BindsTo s fd args (ps.zip us) → Vals vs us → sp vs H Q (fun _ _ _ => False) →
    codeAny (model P w) A (.call (.ref f) args) (CR (L2.CX P w) outer P w H s Q (fun _ _ _ => False)) s
theorem inv_startQ {P : Program} {w : World} {K : PySem.W.Frag} {mg : Str → Option Value} {base : Heap} {N ps : List Str} {qual : Str} {scope : Scope} {f : Addr} {cd : Value} {A : Around} {outer : List Env} {s s1 : Shared} {H : Hp} {us : List Value} {vs : List V}
    (S : FnScope N ps scope) (e0 : Env0 P w K mg base A outer s H) (hl : vs.length = ps.length) (r : Vals vs us)
    (x : InCallC s s.heap.objs.size (bindL (envOfC qual scope s.heap.objs.size f cd).kindOf (ps.zip us) fun _ => none) (cellsFrom (s.heap.objs.size + 1) scope.names []) (bindC (envOfC qual scope s.heap.objs.size f cd).kindOf (ps.zip us) fun _ => none) s1) :
    Inv (cxQ P w K mg base N qual scope f cd A outer s H) [] (L2.start N vs) H s1 := by
  have e1 : Env0 P w K mg base { A with handled := none } outer s H := ⟨e0.frames, e0.mod, e0.bs, e0.bsz, e0.funs, e0.frf, e0.hok, e0.bare⟩
  have I : Inv (cxOf (L2.CX P w) P w K mg base N qual scope f cd { A with handled := none } outer s H (fun _ _ _ => False)) [] (L2.start N vs) H s1 := inv_start S rfl e1 hl r x
  exact ⟨⟨I.ok.mod, I.ok.kind, I.ok.glob, I.ok.blt, I.ok.above, I.ok.inj, I.ok.has, I.ok.cab, (fun z => absurd (show false = true from z) Bool.false_ne_true), Around.frames_deeper e0.frames, I.ok.stk, I.ok.exf, I.ok.bs, I.ok.bsz, I.ok.noex, I.ok.exfs, I.ok.funs, I.ok.frf⟩,
    I.os, I.bare, I.base, I.loc, I.cell, I.free, I.freeC, I.pin, I.hok, I.len⟩
section
variable {P : Program} {w : World} {K : PySem.W.Frag} {mg : Str → Option Value} {base : Heap}
theorem fn_ofQ {x qual : Str} {params : Arguments} {body : List Stmt} {scope : Scope} {dvs : List V} {kws : List (Str × V)} {f : Addr} {fd : FuncData} {N ps : List Str} {k : Nat} {sp : Sp} (F : FunD K x qual params body scope dvs kws f fd) (S : FnScope N ps scope) (len : ∀ vs H Q E, sp vs H Q E → vs.length = ps.length)
    (hbody : ∀ (cdv : Value) (A : Around) (outer : List Env) (s : Shared) (H : Hp) (vs : List V) (Q : VK), RoomH k (A.deeper (envOfC qual scope s.heap.objs.size f cdv)) → sp vs H Q (fun _ _ _ => False) →
      ∃ t, PSs (cxQ P w K mg base N qual scope f cdv A outer s H) body t ∧ t { nx := fun _ H' => Q .non H', rt := Q } (L2.start N vs) H) : FnQ P w K mg base (k + 1) f fd ps sp := by
  obtain ⟨oc, od, dV, kV, doc, pm, an, cdv, ct, osl, rfl, lk, hcd, _, _⟩ := F.ex
  refine ⟨len, fun A outer s H args us vs Q hr e0 hb r hsp => ?_⟩
  have hl := len _ _ _ _ hsp
  have KX : K.In s.heap := e0.mod.kin.keeps fun b o e => (e0.bs b o e).1
  have lim : s.heap.NoLimit := e0.mod.nolimit.keeps fun b o e => (e0.bs b o e).1
  have hkind : ∀ y ∈ ps.zip us, scope.names.lookup y.1 = some .local ∨ (scope.names.lookup y.1 = some .cell ∧ ((cellsFrom (s.heap.objs.size + 1) scope.names []).lookup y.1).isSome = true) := fun ⟨n, v⟩ hy => by
    rcases S.par n (List.of_mem_zip hy).1 with q | q
    · exact .inl q
    · exact .inr ⟨q, PySem.W.cellsFrom_some _ _ _ (.inl q)⟩
  refine codeAny_call_function hr.depth (KX _ _ lk) rfl S.co S.gen rfl (PySem.W.codeRec_of KX hcd) (hb _ _ _ _ ?_)
  refine wpAny_newFunctionEnv_cells S.kind hkind fun env he s1 x => ?_
  subst he
  refine ⟨lim.keeps x.toInCall.keep, codeAny_func ?_⟩
  obtain ⟨t, ht, hq⟩ := hbody cdv A outer s H vs Q (hr.deeper _) hsp
  have I : Inv (cxQ P w K mg base N qual scope f cdv A outer s H) [] (L2.start N vs) H s1 := inv_startQ S e0 hl r x
  refine wpAny_mono (ht.run [] s1 (L2.start N vs) H _ I hq) (fun fl s' hs => ?_) fun e s' hs => hs
  have fin : ∀ {σ' : L2.St} {H' : Hp} {v : V} {u : Value}, Inv (cxQ P w K mg base N qual scope f cdv A outer s H) [] σ' H' s' → RelV v u → Q v H' → CE outer P w H s Q u s' :=
    fun {σ' H' v u} J rv q => ⟨v, H', J.os, J.bare, J.base, J.hok, rv, q⟩
  cases fl with
  | ret u =>
    obtain ⟨v, σ', H', J, rv, q⟩ := hs
    exact fin J rv q
  | next =>
    obtain ⟨σ', H', J, q⟩ := hs
    exact fin (v := V.non) (u := Value.none) J rfl q
  | brk =>
    obtain ⟨_, _, _, q⟩ := hs
    exact False.elim q
  | cont =>
    obtain ⟨_, _, _, q⟩ := hs
    exact False.elim q
structure DFnQ (P : Program) (w : World) (K : PySem.W.Frag) (mg : Str → Option Value) (base : Heap) (k : Nat) (a : Addr) (ps : List Str) (sp : DSp) : Prop where
  ex : ∃ fd : FuncData, FnQ P w K mg base k a fd ps (low K sp) ∧ Binds K fd ps []
  kp : PySem.W.keepIn K (.ref a) = true
theorem takesF {X : Cx} {B : Hp} {Φ : Hp → Prop} : Takes X (lowW X.K B Φ fun _ _ _ _ => False) := takes0.imp fun cls dd σ H' hw => by
  obtain ⟨n, gs, Γ, μ', Hc', Hm', Hf', dx, fs, h⟩ := hw
  exact h.2.2.2.2.2.2
theorem fn_dataQ {x qual : Str} {params : Arguments} {body : List Stmt} {scope : Scope} {dvs : List V} {kws : List (Str × V)} {f : Addr} {fd : FuncData} {N ps : List Str} {k : Nat} {sp : DSp} (F : FunD K x qual params body scope dvs kws f fd) (S : FnScope N ps scope)
    (len : ∀ ds μ R RX, sp ds μ R RX → ds.length = ps.length)
    (hbody : ∀ (cdv : Value) (A : Around) (outer : List Env) (s : Shared) (H : Hp), RoomH k (A.deeper (envOfC qual scope s.heap.objs.size f cdv)) →
      ∀ L : Lc (cxQ P w K mg base N qual scope f cdv A outer s H), ∃ d, DSs (cxQ P w K mg base N qual scope f cdv A outer s H) L body d ∧
        ∀ ds μ R RX, sp ds μ R RX → d { nx := fun _ μ' => R .non μ', rt := R } (startD N ds) μ) : FnQ P w K mg base (k + 1) f fd ps (low K sp) := by
  refine fn_ofQ F S (low_len len) fun cdv A outer s H vs Q hr hsp => ?_
  obtain ⟨Hc, Hm, Hf, ds, μ, R, RX, pt, mu, ra, hs, kq, kx⟩ := hsp
  let L : Lc (cxQ P w K mg base N qual scope f cdv A outer s H) := ⟨Hc, fun Hf' => Hf' = Hf, fun _ _ _ _ => False, takesF⟩
  obtain ⟨d, ⟨t, p, l⟩, hd⟩ := hbody cdv A outer s H hr L
  refine ⟨t, p, l Hf _ H _ μ Hc Hm _ _ rfl ⟨pt, Ex.refl _, sg_start ra, mu⟩ (hd ds μ R RX hs) ⟨fun σ' H' Γ' μ' Hc' Hm' a b c => ?_, fun v σ' H' x Γ' μ' Hc' Hm' a b c e => ?_, fun σ' H' Γ' μ' Hc' Hm' a b c => a.elim, fun σ' H' Γ' μ' Hc' Hm' a b c => a.elim⟩⟩
  · exact kq .non H' .non μ' Hc' Hm' a b.pt b.mu .non c
  · exact kq v H' x μ' Hc' Hm' a b.pt b.mu c e
end
section
variable {X : Cx} {L : Lc X} {k : Nat} {f : Addr} {ps : List Str} {sp : DSp} {x : Str} {p pos : Pos} {e : Expr} {es : List Expr} {d : DTA}
def dCallQ (sp : DSp) (d : DTA) : DT := fun Γ μ R => d Γ μ fun ds μ1 => sp ds μ1 R fun _ _ _ => False
theorem de_callQ (F : DFnQ X.prog X.w X.K X.mg X.base k f ps sp) (hr : RoomH k X.A) (hm : X.mg x = some (.ref f)) (ha : DA X L (e :: es) d) (hg : Gl X x := by rfl) (hdb : (x == ("__debug__" : Str)) = false := by decide)
    (he : starEach (e :: es) X.env = (false, eval e X.env) :: starEach es X.env := by rfl) (hpl : (backTo pos (starEach es X.env)).any (·.1) = false := by rfl) :
    DE X L (.Call (.Name x p) (e :: es) [] pos) (dCallQ sp d) := by
  obtain ⟨fd, F1, hb⟩ := F.ex
  obtain ⟨t, pa, l⟩ := ha
  refine ⟨fun σ H Q => t σ H fun vs H1 => low X.K sp vs H1 Q (fun _ _ _ => False), ⟨fun pins s σ H Q I h => ?_⟩, fun Hf σ H Γ μ Hc Hm Q R hΦ rel h kn => l Hf σ H Γ μ Hc Hm _ _ hΦ rel h fun xs H1 ds μ1 Hc1 Hm1 h1 rel1 ra1 ex1 =>
    ⟨Hc1, Hm1, Hf, ds, μ1, R, _, rel1.pt, rel1.mu, ra1, h1, fun v H' y μ' Hc' Hm' a b c e g => kn v H' y μ' Hc' Hm' a ⟨b, rel1.ex.trans g, rel1.sg.mono g, c⟩ e (ex1.trans g), fun n gs μ' H' Hc' Hm' dx fs a _ _ _ _ _ => a⟩⟩
  refine wpAny_Call_Name_kw (ld_glob I hg hm ?_ hdb)
  refine PySem.W.callWith_K (h₀ := X.base) I.ok.mod.kin F.kp (thn (pa.run pos pins s σ H _ I h) fun us s1 ⟨vs, H1, I1, r, q⟩ => ⟨I1.kIn, ?_⟩) he hpl
  have hl : us.length = ps.length := by rw [← r.length]; exact F1.len _ _ _ _ q
  have b := hb s1 us I1.kIn (by rw [List.append_nil]; exact hl)
  rw [List.append_nil] at b
  refine wpAny_call (codeAny_mono (F1.run X.A X.stack s1 H1 ⟨us, []⟩ us vs Q hr I1.env0 b r q) fun r s' hq => ?_)
  cases r with
  | error e => exact passAt (W := fun _ _ _ _ => False) takes0 σ pins H1 s1 e s' I1 hq
  | ok fl =>
    cases fl with
    | ret u => exact I1.after hq
    | next => exact False.elim hq
    | brk => exact False.elim hq
    | cont => exact False.elim hq
end

/-! ### try: body except x as n: suite -/
/-- what the clause wishes of an exception of the body -/
def dAsW (K : PySem.W.Frag) (c : Value) (i : Nat) (ds : Str → List (Str × D) → Addr → DS) (W : DW) (De : DEnds) : DW := fun n gs Γ μ => ∃ b, PySem.W.exmOne K (.ref (He.ga K n)) c = some b ∧
  (b = true → ∀ a, μ a = none → ds n gs a { nx := fun Γ' μ' => De.nx (Γ'.set i none) μ', rt := De.rt, bk := fun Γ' μ' => De.bk (Γ'.set i none) μ', ct := fun Γ' μ' => De.ct (Γ'.set i none) μ' } (Γ.set i (some (.adr a))) μ) ∧ (b = false → W n gs Γ μ)
def dTryAs (K : PySem.W.Frag) (c : Value) (i : Nat) (db : DW → DS) (ds : Str → List (Str × D) → Addr → DS) (W : DW) : DS := fun De Γ μ => db (dAsW K c i ds W De) De Γ μ
theorem rel_base {K : PySem.W.Frag} {B Hf : Hp} {σ : L2.St} {H : Hp} {Γ : DEn} {μ : Mu} {Hc Hm : Hp} (r : Rel K B Hf σ H Γ μ Hc Hm) : Rel K Hc Hf σ H Γ μ Hc Hm := r.base (Ex.refl _)
theorem dst_tryAs {X : Cx} {L : Lc X} {x n : Str} {c : Value} {i : Nat} {body suite : List Stmt} {b₀ : Stmt} {np pos pos' : Pos} {db : DW → DS} {ds : Str → List (Str × D) → Addr → DS} (hs : X.stack = X.env :: X.outer) (hf : X.env.frame = some X.env.locals) (hN : X.N.Nodup) (hc : Names X x c)
    (hU : ∀ a b, L.Φ a → L.Φ b → a = b)
    (hb : ∀ (pn : List (Addr × Obj)) (xe : Value → Shared → Prop) (L' : Lc (X.tr pn xe)), PassesOwn (model X.prog X.w) X.A X.env xe → L'.Φ = L.Φ → DSs (X.tr pn xe) L' body (db L'.W))
    (hsu : ∀ (a : Addr) (oe : Obj) (n : Str) (gs : List (Str × D)) (dx : Addr) (fs : List (Str × V)) (pn : List (Addr × Obj)) (L' : Lc (X.suite a ((a, oe) :: pn))), Zc (.ref (He.ga X.K n)) (some dx) oe → (∃ vs, oe.data = .fields vs) → L'.B dx = some (.xd fs) → RpF X.K L'.B fs gs → L'.Φ = L.Φ →
      DSs (X.suite a ((a, oe) :: pn)) L' (b₀ :: suite) (ds n gs a))
    (hi : X.N[i]? = some n := by rfl) (hln : X.env.kindOf n = some .local := by rfl) :
    DSt X L (.Try body [.ExceptHandler (some (.Name x np)) (some n) (b₀ :: suite) pos'] [] [] pos) (dTryAs X.K c i db ds L.W) := by
  let tb : WX → TS := fun W Dn σ H => ∃ (Hf : Hp) (Γ : DEn) (μ : Mu) (Hc Hm : Hp) (De : DEnds) (W' : DW), L.Φ Hf ∧ Rel X.K Hc Hf σ H Γ μ Hc Hm ∧ db W' De Γ μ ∧ LEnds X.K Hc Hf Hc Dn De ∧ ∀ cls d σ H, lowW X.K Hc L.Φ W' cls d σ H → W cls d σ H
  let ts : Addr → Value → Option Addr → TS := fun a cls d Dn σ H => ∃ (n : Str) (gs : List (Str × D)) (dx : Addr) (fs : List (Str × V)) (Hf : Hp) (Γ : DEn) (μ : Mu) (Hc Hm : Hp) (De : DEnds), cls = .ref (He.ga X.K n) ∧ d = some dx ∧ Hc dx = some (.xd fs) ∧ RpF X.K Hc fs gs ∧ L.Φ Hf ∧ Rel X.K Hc Hf σ H Γ μ Hc Hm ∧ ds n gs a De Γ μ ∧ LEnds X.K Hc Hf Hc Dn De
  have h1 : ∀ (W : WX) (pn : List (Addr × Obj)) (xe : Value → Shared → Prop), Takes (X.tr pn xe) W → PassesOwn (model X.prog X.w) X.A X.env xe → PSs (X.tr pn xe) body (tb W) := fun W pn xe tk hp => by
    refine ⟨fun pins s σ H Dn I h => ?_⟩
    obtain ⟨Hf, Γ, μ, Hc, Hm, De, W', hΦ, rel, hd, le, hW⟩ := h
    obtain ⟨t, p, l⟩ := hb pn xe ⟨Hc, L.Φ, W', tk.imp hW⟩ hp rfl
    exact p.run pins s σ H Dn I (l Hf σ H Γ μ Hc Hm Dn De hΦ rel hd le)
  have h2 : ∀ (a : Addr) (oe : Obj) (cls : Value) (d : Option Addr) (pn : List (Addr × Obj)), Zc cls d oe → (∃ vs, oe.data = .fields vs) → PSs (X.suite a ((a, oe) :: pn)) (b₀ :: suite) (ts a cls d) := fun a oe cls d pn hz hfd => by
    refine ⟨fun pins s σ H Dn I h => ?_⟩
    obtain ⟨n, gs, dx, fs, Hf, Γ, μ, Hc, Hm, De, rfl, rfl, hx, rf, hΦ, rel, hd, le⟩ := h
    obtain ⟨t, p, l⟩ := hsu a oe n gs dx fs pn ⟨Hc, L.Φ, fun _ _ _ _ => False, takesF⟩ hz hfd hx rf rfl
    exact p.run pins s σ H Dn I (l Hf σ H Γ μ Hc Hm Dn De hΦ rel hd le)
  refine ⟨_, ps_try_as hs hf hN hi hln hc L.tk h1 h2, fun Hf σ H Γ μ Hc Hm Dn De hΦ rel h k => ?_⟩
  have k1 : LEnds X.K Hc Hf Hc Dn De := ⟨fun σ' H' Γ' μ' Hc' Hm' a b c => k.nx _ _ _ _ _ _ a (b.base (rel.ex.trans c)) c, fun v σ' H' x Γ' μ' Hc' Hm' a b c e => k.rt _ _ _ _ _ _ _ _ a (b.base (rel.ex.trans e)) c e,
    fun σ' H' Γ' μ' Hc' Hm' a b c => k.bk _ _ _ _ _ _ a (b.base (rel.ex.trans c)) c, fun σ' H' Γ' μ' Hc' Hm' a b c => k.ct _ _ _ _ _ _ a (b.base (rel.ex.trans c)) c⟩
  refine ⟨Hf, Γ, μ, Hc, Hm, De, _, hΦ, rel_base rel, h, k1, fun cls d σ' H' hw => ?_⟩
  obtain ⟨n', gs, Γ', μ', Hc', Hm', Hf', dx, fs, rfl, rfl, hx, rf, hΦ', rel', b, hb1, hyes, hno⟩ := hw
  cases hU _ _ hΦ hΦ'
  refine ⟨b, hb1, fun e a ha => ?_, fun e => ⟨n', gs, Γ', μ', Hc', Hm', Hf, dx, fs, rfl, rfl, hx, rf, hΦ', rel'.base (rel.ex.trans rel'.ex), hno e⟩⟩
  have hn : μ' a = none := rel'.mu.none_ (rel'.pt.free ha).2.1
  have exh : Ex Hc Hc' := rel'.ex
  have un : ∀ {σ2 : L2.St} {H2 : Hp} {Γ2 : DEn} {μ2 : Mu} {Hc2 Hm2 : Hp}, Rel X.K Hc' Hf σ2 H2 Γ2 μ2 Hc2 Hm2 → Rel X.K L.B Hf (σ2.set i none) H2 (Γ2.set i none) μ2 Hc2 Hm2 := fun r => (r.base (rel.ex.trans (exh.trans r.ex))).frame (r.sg.forget i none)
  refine ⟨n', gs, dx, fs, Hf, _, μ', Hc', Hm', _, rfl, rfl, hx, rf, hΦ, (rel_base rel').setv (.adr a) i, hyes e a hn, ⟨fun σ2 H2 Γ2 μ2 Hc2 Hm2 p q r => ?_, fun v σ2 H2 y Γ2 μ2 Hc2 Hm2 p q r r2 => ?_, fun σ2 H2 Γ2 μ2 Hc2 Hm2 p q r => ?_, fun σ2 H2 Γ2 μ2 Hc2 Hm2 p q r => ?_⟩⟩
  · exact k.nx _ _ _ _ _ _ p (un q) (exh.trans r)
  · exact k.rt _ _ _ _ _ _ _ _ p (q.base (rel.ex.trans (exh.trans r2))) r (exh.trans r2)
  · exact k.bk _ _ _ _ _ _ p (un q) (exh.trans r)
  · exact k.ct _ _ _ _ _ _ p (un q) (exh.trans r)
end Nod
set_option Elab.async false
set_option linter.all false
set_option maxRecDepth 100000
set_option maxHeartbeats 4000000
/-! small words for the walks -/
namespace Nod
open PySem PySem.Spec PyProof.Rows L2
open Evl (Ex)
theorem hu1 {k : Nat} {A : Around} (hr : Room k A) : A.units + 1 < cLine := by have := hr.un; omega
theorem hu64 {k : Nat} {A : Around} (hr : Room k A) : A.units + 64 < cLine := hr.units
theorem hu65 {k : Nat} {A : Around} (hr : Room k A) : A.units + 65 < cLine := by have := hr.un; omega
/-- xs[::-1], a list that will change -/
def dRevM (d : DT) : DT := fun Γ μ R => d Γ μ fun x μ1 => ∃ ds, seqM μ1 x = some ds ∧ isTup x = false ∧ ∀ p, μ1 p = none → R (.adr p) (updM μ1 p (.lst ds.reverse))
section
variable {X : Cx} {L : Lc X} {e : Expr} {da : DT} {k : Nat} {p1 p2 p3 pos : Pos}
theorem de_revM (h : DE X L e da) : DE X L (.Subscript e (.Slice none none (some (.UnaryOp .USub (.Constant (.int 1) k p1) p2)) p3) pos) (dRevM da) := by
  obtain ⟨t, p, l⟩ := h
  refine ⟨_, pe_revL p, fun Hf σ H Γ μ Hc Hm Q R hΦ rel h k => l Hf σ H Γ μ Hc Hm _ _ hΦ rel h fun x H1 dx μ1 Hc1 Hm1 h1 rel1 rp1 ex1 => ?_⟩
  obtain ⟨ds, hs, hn, hR⟩ := h1
  obtain ⟨a, xs, rfl, ra, h2, _⟩ := rp_seqM rel1 rp1 hs
  refine ⟨a, xs, rfl, h2 hn, fun p hp => ?_⟩
  obtain ⟨rel2, hn2⟩ := rel1.newm (o := .lst xs.reverse) (m := .lst ds.reverse) hp ra.reverse
  exact k _ _ _ _ _ _ (hR p hn2) rel2 (.adr p) ex1
end
/-! the caught exception -/
def dIsX (K : PySem.W.Frag) (n : Str) (a : Addr) (da : DT) (c : DT) : DT := fun Γ μ R => da Γ μ fun x μ1 => c Γ μ1 fun y μ2 => x = .adr a ∧ ∃ cv b, ((∃ m, y = .ty m ∧ cv = .type m) ∨ ∃ C, y = .adr C ∧ cv = .ref C) ∧ PySem.W.kitOne K (.ref (He.ga K n)) cv = some b ∧ R (.bl b) μ2
theorem de_isX {X : Cx} {a dx : Addr} {oe : Obj} {n : Str} {fs : List (Str × V)} {pn : List (Addr × Obj)} {L : Lc (X.suite a ((a, oe) :: pn))} {e c : Expr} {da dc : DT} {p pos : Pos} (C : ExcC X.K (He.ga X.K n)) (hz : Zc (.ref (He.ga X.K n)) (some dx) oe) (hf : ∃ vs, oe.data = .fields vs) (hdx : L.B dx = some (.xd fs))
    (hm : X.mg "isinstance" = none) (ha : DE (X.suite a ((a, oe) :: pn)) L e da) (hc : DE (X.suite a ((a, oe) :: pn)) L c dc) (hg : Gl X "isinstance" := by rfl)
    (h1 : starEach [c] X.env = (false, eval c X.env) :: starEach [] X.env := by rfl)
    (h2 : starEach [e, c] X.env = (false, eval e X.env) :: starEach [c] X.env := by rfl) (hpl : (backTo pos (starEach [c] X.env)).any (·.1) = false := by rfl) :
    DE (X.suite a ((a, oe) :: pn)) L (.Call (.Name "isinstance" p) [e, c] [] pos) (dIsX X.K n a da dc) := by
  obtain ⟨ta, pa, la⟩ := ha
  obtain ⟨tc, pc, lc⟩ := hc
  refine ⟨_, pe_callB (X := X.suite a ((a, oe) :: pn)) (call_isX C hz hf) hg hm (by decide +kernel) (pa_cons pa (pa_cons pc pa_nil h1) h2) (by decide) (by decide) h2 hpl, fun Hf σ H Γ μ Hc Hm Q R hΦ rel h k => la Hf σ H Γ μ Hc Hm _ _ hΦ rel h fun x H1 dx1 μ1 Hc1 Hm1 h1 rel1 rp1 ex1 =>
    lc Hf σ H1 Γ μ1 Hc1 Hm1 _ _ hΦ rel1 h1 fun y H2 dy μ2 Hc2 Hm2 h2 rel2 rp2 ex2 => ?_⟩
  obtain ⟨rfl, cv, b, hcv, hk, hR⟩ := h2
  cases rp1.adr_inv
  refine ⟨y, cv, b, fs, rfl, rel2.pt.exc _ _ (rel2.ex _ _ hdx), fun u ru => ?_, hk, k _ _ _ _ _ _ hR rel2 (.bl b) (ex1.trans ex2)⟩
  rcases hcv with ⟨m, rfl, rfl⟩ | ⟨C', rfl, rfl⟩
  · cases rp2; exact ru
  · cases rp2.adr_inv; exact ru
def dXFld (a : Addr) (gs : List (Str × D)) (f : Str) (da : DT) : DT := fun Γ μ R => da Γ μ fun x μ1 => x = .adr a ∧ ∃ y, gs.lookup f = some y ∧ R y μ1
theorem de_xfld {X : Cx} {a dx : Addr} {oe : Obj} {n f : Str} {fs : List (Str × V)} {gs : List (Str × D)} {pn : List (Addr × Obj)} {L : Lc (X.suite a ((a, oe) :: pn))} {e : Expr} {da : DT} {pos : Pos} (T : ExcC X.K (He.ga X.K n)) (hno : PySem.W.findIn X.K (.ref (He.ga X.K n)) f = some none)
    (hz : Zc (.ref (He.ga X.K n)) (some dx) oe) (hf : ∃ vs, oe.data = .fields vs) (hdx : L.B dx = some (.xd fs)) (hgs : RpF X.K L.B fs gs) (ha : DE (X.suite a ((a, oe) :: pn)) L e da) (hb : attributeBase e f X.env (eval e X.env) = eval e X.env := by rfl) :
    DE (X.suite a ((a, oe) :: pn)) L (.Attribute e f pos) (dXFld a gs f da) := by
  obtain ⟨ta, pa, la⟩ := ha
  refine ⟨_, pe_xfld T.hg T.hk T.hs T.hd hno hz hf pa hb, fun Hf σ H Γ μ Hc Hm Q R hΦ rel h k => la Hf σ H Γ μ Hc Hm _ _ hΦ rel h fun x H1 dx1 μ1 Hc1 Hm1 h1 rel1 rp1 ex1 => ?_⟩
  obtain ⟨rfl, y, hl, hR⟩ := h1
  cases rp1.adr_inv
  obtain ⟨v, hv, rv⟩ := (hgs.look f).1 y hl
  exact ⟨rfl, fs, v, rel1.pt.exc _ _ (rel1.ex _ _ hdx), hv, k _ _ _ _ _ _ hR rel1 (rv.mono rel1.ex) ex1⟩
end Nod
set_option Elab.async false
set_option linter.all false
set_option maxRecDepth 100000
set_option maxHeartbeats 4000000
/-! loops over lists, told by what is done and what is left -/
namespace Nod
open PySem PySem.Spec PyProof.Rows L2
theorem itD_map {α : Type} {f : α → D} {xs : List α} {i : Nat} (h : i < xs.length) : itD (xs.map f) i = f xs[i] := by
  refine itD_get ?_
  rw [List.getElem?_map, List.getElem?_eq_getElem h]
  rfl
/-- the walk's rows are those of xs -/
structure Rows {α : Type} (n : Nat) (fn : Nat → D) (f : α → D) (xs : List α) : Prop where
  len : xs.length = n
  row : ∀ i (h : i < xs.length), fn i = f xs[i]
theorem rows_seq {α : Type} {f : α → D} {xs : List α} : Rows (xs.map f).length (itD (xs.map f)) f xs := ⟨by rw [List.length_map], fun i h => itD_map h⟩
theorem rows_nil {α : Type} {f : α → D} : Rows ([] : List D).length (itD []) f ([] : List α) := ⟨rfl, fun i h => absurd h (Nat.not_lt_zero _)⟩
theorem rows_rng {n : Nat} : Rows n (fun i : Nat => D.int i) (fun k : Nat => D.int k) (List.range n) := ⟨List.length_range, fun i h => by rw [List.getElem_range]⟩
theorem rows_rng2 {n : Nat} {a : Int} : Rows n (fun i : Nat => D.int (a + i)) (fun k : Nat => D.int (a + k)) (List.range n) := ⟨List.length_range, fun i h => by rw [List.getElem_range]⟩
theorem rows_zip {α β : Type} {f : α → D} {g : β → D} {xs : List α} {ys : List β} : Rows (min (xs.map f).length (ys.map g).length) (fun i => .tup [itD (xs.map f) i, itD (ys.map g) i]) (fun p : α × β => .tup [f p.1, g p.2]) (xs.zip ys) :=
  ⟨by rw [List.length_zip, List.length_map, List.length_map], fun i h => by
    have h' := h
    rw [List.length_zip] at h'
    rw [itD_map (by omega), itD_map (by omega), List.getElem_zip]⟩
theorem rows_enum {α : Type} {f : α → D} {xs : List α} : Rows (xs.map f).length (fun i : Nat => .tup [.int i, itD (xs.map f) i]) (fun p : α × Nat => .tup [.int p.2, f p.1]) xs.zipIdx :=
  ⟨by rw [List.length_zipIdx, List.length_map], fun i h => by
    have h' := h
    rw [List.length_zipIdx] at h'
    rw [itD_map h', List.getElem_zipIdx]
    simp⟩
theorem split_at {α : Type} {xs : List α} {i : Nat} (h : i < xs.length) : xs = xs.take i ++ xs[i] :: xs.drop (i + 1) := by
  rw [List.getElem_cons_drop]
  exact (List.take_append_drop i xs).symm
theorem take_one {α : Type} {xs : List α} {i : Nat} (h : i < xs.length) : xs.take (i + 1) = xs.take i ++ [xs[i]] := by
  rw [List.take_append_getElem h]
theorem forG {α : Type} {n : Nat} {fn : Nat → D} {f : α → D} {xs : List α} {g : DG} {tb : DS} {De : DEnds} {Γ : DEn} {μ : Mu} (R : Rows n fn f xs) (I : List α → List α → DEn → Mu → Prop) (h0 : I [] xs Γ μ)
    (turn : ∀ (done : List α) (x : α) (rest : List α) (Γ' : DEn) (μ' : Mu), xs = done ++ x :: rest → I done (x :: rest) Γ' μ' → g (f x) Γ' μ' fun Γ2 μ2 => tb { De with nx := I (done ++ [x]) rest, ct := I (done ++ [x]) rest, bk := De.nx } Γ2 μ2)
    (fin : ∀ Γ' μ', I xs [] Γ' μ' → De.nx Γ' μ') :
    forK n fn g tb De Γ μ := by
  refine ⟨fun i => I (xs.take i) (xs.drop i), ?_, fun i Γ' μ' hi hP => ?_, fun Γ' μ' hP => ?_⟩
  · show I (xs.take 0) (xs.drop 0) Γ μ
    rw [List.take_zero, List.drop_zero]; exact h0
  · have hi' : i < xs.length := by rw [R.len]; exact hi
    rw [R.row i hi']
    have t := turn (xs.take i) xs[i] (xs.drop (i + 1)) Γ' μ' (split_at hi') (by rw [List.getElem_cons_drop]; exact hP)
    rw [← take_one hi'] at t
    exact t
  · refine fin Γ' μ' ?_
    have e : xs.length = n := R.len
    have hP' : I (xs.take n) (xs.drop n) Γ' μ' := hP
    rw [← e, List.take_length, List.drop_length] at hP'
    exact hP'
theorem lcG {α : Type} {n : Nat} {fn : Nat → D} {f : α → D} {xs : List α} {g : DG} {tt : DTT} {te : DT} {vs : List Nat} {Γ : DEn} {μ : Mu} {R : DK} (Rw : Rows n fn f xs) (p : α → Bool) (e : α → D) (hz : xs.length < sizeLine)
    (turn : ∀ x, x ∈ xs → ∀ (Q : D → Mu → Prop) (Q' : Mu → Prop), (p x = true → Q (e x) μ) → (p x = false → Q' μ) → g (f x) (wipeD Γ vs) μ fun Γ2 μ2 => tt Γ2 μ2 fun b μ3 => if b = true then te Γ2 μ3 Q else Q' μ3)
    (fin : R (.lst ((xs.filter p).map e)) μ) :
    lcK n fn g tt te vs Γ μ R := by
  refine ⟨fun i acc μ' => acc = ((xs.take i).filter p).map e ∧ μ' = μ, ⟨by simp, rfl⟩, fun i acc μ' hi hP => ?_, fun acc μ' hP => ?_⟩
  · obtain ⟨rfl, rfl⟩ := hP
    have hi' : i < xs.length := by rw [Rw.len]; exact hi
    have hl : (((xs.take i).filter p).map e).length < sizeLine := by
      rw [List.length_map]
      have := List.length_filter_le p (xs.take i)
      rw [List.length_take] at this
      omega
    refine ⟨hl, ?_⟩
    rw [Rw.row i hi']
    refine turn xs[i] (List.getElem_mem hi') (fun y μ4 => _) (fun μ3 => _) (fun hp => ⟨?_, rfl⟩) fun hp => ⟨?_, rfl⟩
    · rw [take_one hi', List.filter_append, List.map_append]
      simp [hp]
    · rw [take_one hi', List.filter_append, List.map_append]
      simp [hp]
  · obtain ⟨rfl, rfl⟩ := hP
    have e : xs.length = n := Rw.len
    rw [← e, List.take_length]
    exact fin
theorem filter_tt {α : Type} (xs : List α) : xs.filter (fun _ => true) = xs := List.filter_eq_self.mpr fun _ _ => rfl
/-! calls within a comprehension: nothing is raised there -/
def noW : DW := fun _ _ _ _ => False
theorem de_callF {X : Cx} {L : Lc X} {k : Nat} {f : Addr} {ps : List Str} {sp : DSp} {dds : List D} {x : Str} {p pos : Pos} {e : Expr} {es : List Expr} {d : DTA} (hW : L.W = noW) (F : DFn X.prog X.w X.K X.mg X.base k f ps dds sp) (hr : Room k X.A) (hm : X.mg x = some (.ref f)) (ha : DA X L (e :: es) d) (hg : Gl X x := by rfl) (hdb : (x == ("__debug__" : Str)) = false := by decide)
    (he : starEach (e :: es) X.env = (false, eval e X.env) :: starEach es X.env := by rfl) (hpl : (backTo pos (starEach es X.env)).any (·.1) = false := by rfl) :
    DE X L (.Call (.Name x p) (e :: es) [] pos) (dCall sp dds noW d) := hW ▸ de_call F hr hm ha hg hdb he hpl
theorem de_makeF {X : Cx} {L : Lc X} {k : Nat} {f : Addr} {ps : List Str} {sp : DSp} {dds : List D} {x : Str} {p pos : Pos} {e : Expr} {es : List Expr} {d : DTA} {C : Str} (hW : L.W = noW) (M : Mk X.K (He.ga X.K C) f) (F : DFn X.prog X.w X.K X.mg X.base k f ps dds sp) (hr : Room (k + 1) X.A) (hm : X.mg x = some (.ref (He.ga X.K C))) (ha : DA X L (e :: es) d) (hg : Gl X x := by rfl) (hdb : (x == ("__debug__" : Str)) = false := by decide)
    (he : starEach (e :: es) X.env = (false, eval e X.env) :: starEach es X.env := by rfl) (hpl : (backTo pos (starEach es X.env)).any (·.1) = false := by rfl) :
    DE X L (.Call (.Name x p) (e :: es) [] pos) (dMake C sp dds noW d) := hW ▸ de_make M F hr hm ha hg hdb he hpl
/-! a changing object that is needed no more -/
def MO.plain : MO → Bool
  | .tab _ => false
  | _ => true
theorem Rel.dropM {K : PySem.W.Frag} {B Hf : Hp} {σ : L2.St} {H : Hp} {Γ : DEn} {μ : Mu} {Hc Hm : Hp} (rel : Rel K B Hf σ H Γ μ Hc Hm) {a : Addr} {m : MO} (h : μ a = some m) (hn : m.plain = true) :
    ∃ Hc' Hm', Rel K B Hf σ H Γ (delM μ a) Hc' Hm' ∧ Evl.Ex Hc Hc' := by
  obtain ⟨o, h1, q⟩ := rel.mu.get h
  have ho : ∀ ps, o ≠ .tbl ps := fun ps z => by
    subst z
    cases m <;> first | exact q.elim | (cases hn)
  obtain ⟨p2, ex⟩ := rel.pt.commit h1 ho
  exact ⟨_, _, ⟨p2, rel.ex.trans ex, rel.sg.mono ex, rel.mu.del.mono ex⟩, ex⟩
def dDropM (d : DT) : DT := fun Γ μ R => d Γ μ fun x μ1 => ∃ a m, μ1 a = some m ∧ m.plain = true ∧ R x (delM μ1 a)
theorem de_drop {X : Cx} {L : Lc X} {e : Expr} {da : DT} (h : DE X L e da) : DE X L e (dDropM da) := by
  obtain ⟨t, p, l⟩ := h
  refine ⟨t, p, fun Hf σ H Γ μ Hc Hm Q R hΦ rel h k => l Hf σ H Γ μ Hc Hm _ _ hΦ rel h fun x H1 dx μ1 Hc1 Hm1 h1 rel1 rp1 ex1 => ?_⟩
  obtain ⟨a, m, hm, hn, hR⟩ := h1
  obtain ⟨Hc2, Hm2, rel2, ex2⟩ := rel1.dropM hm hn
  exact k _ _ _ _ _ _ hR rel2 (rp1.mono ex2) (ex1.trans ex2)
end Nod
set_option Elab.async false
set_option linter.all false
set_option maxRecDepth 100000
set_option maxHeartbeats 4000000
/-! comparing whole data: ints, tuples of ints, lists of those -/
namespace Nod
open PySem PySem.Spec PyProof.Rows L2
def Fl (n : Nat) (p : PyData) : Prop := p.canLay0 = true ∧ p.depth ≤ n
theorem Fl.sh {n : Nat} {p : PyData} (h : Fl n p) (hn : n ≤ 64) : SeqAt.shaped p = true := by
  unfold SeqAt.shaped; rw [h.1, Bool.true_and]; exact decide_eq_true (Nat.le_trans h.2 hn)
theorem fl_int {n : Nat} (i : Int) : Fl n (.int i) := ⟨rfl, by simp [PyData.depth]⟩
theorem fl_all {n : Nat} : ∀ {ps : List PyData}, (∀ p ∈ ps, Fl n p) → PyData.canLayAll0 ps = true ∧ PyData.depthAll ps ≤ n
  | [], _ => ⟨rfl, by simp [PyData.depthAll]⟩
  | p :: r, h => by
    have h1 := fl_all (ps := r) fun q hq => h q (List.mem_cons_of_mem _ hq)
    have h2 := h p (List.mem_cons_self ..)
    exact ⟨by simp [PyData.canLayAll0, h2.1, h1.1], by simp only [PyData.depthAll]; exact Nat.max_le.mpr ⟨h2.2, h1.2⟩⟩
theorem fl_list {n : Nat} {ps : List PyData} (h : ∀ p ∈ ps, Fl n p) : Fl (n + 1) (.list ps) := ⟨by simp [PyData.canLay0, (fl_all h).1], by have := (fl_all h).2; simp only [PyData.depth]; omega⟩
theorem fl_tuple {n : Nat} {ps : List PyData} (h : ∀ p ∈ ps, Fl n p) : Fl (n + 1) (.tuple ps) := ⟨by simp [PyData.canLay0, (fl_all h).1], by have := (fl_all h).2; simp only [PyData.depth]; omega⟩
def pI (l : List Int) : PyData := .tuple (l.map PyData.int)
theorem fl_pI (l : List Int) : Fl 1 (pI l) := fl_tuple fun p hp => by obtain ⟨i, _, rfl⟩ := List.mem_map.mp hp; exact fl_int i
theorem eqvAll_ints : ∀ a b : List Int, PyData.eqvAll (a.map PyData.int) (b.map PyData.int) = decide (a = b)
  | [], [] => by simp [PyData.eqvAll]
  | [], _ :: _ => by simp [PyData.eqvAll]
  | _ :: _, [] => by simp [PyData.eqvAll]
  | a :: r, b :: t => by
    simp only [List.map_cons, PyData.eqvAll, PyData.eqv, eqvAll_ints r t]
    by_cases h : a = b <;> by_cases h' : r = t <;> simp [h, h']
theorem eqv_pI (a b : List Int) : PyData.eqv (pI a) (pI b) = decide (a = b) := by unfold pI; rw [PyData.eqv]; exact eqvAll_ints a b
theorem pyA_ints {μ : Mu} : ∀ l : List Int, PyOfA μ (l.map D.int) (l.map PyData.int)
  | [] => .nil
  | i :: r => .cons (.int i) (pyA_ints r)
theorem py_tupI {μ : Mu} (l : List Int) : PyOf μ (tupI l) (pI l) := .tup (pyA_ints l)
theorem pyA_tups {μ : Mu} : ∀ ls : List (List Int), PyOfA μ (ls.map tupI) (ls.map pI)
  | [] => .nil
  | l :: r => .cons (py_tupI l) (pyA_tups r)
theorem py_ints {μ : Mu} {x : D} {l : List Int} (h : seqM μ x = some (l.map D.int)) (n : isTup x = false) : PyOf μ x (.list (l.map PyData.int)) := .seq h n (pyA_ints l)
theorem py_tups {μ : Mu} {x : D} {ls : List (List Int)} (h : seqM μ x = some (ls.map tupI)) (n : isTup x = false) : PyOf μ x (.list (ls.map pI)) := .seq h n (pyA_tups ls)
theorem any_pI (ls : List (List Int)) (l : List Int) : ((ls.map pI).any fun z => PyData.eqv z (pI l)) = decide (l ∈ ls) := by
  rw [List.any_map]
  refine Bool.eq_iff_iff.mpr ?_
  rw [List.any_eq_true, decide_eq_true_iff]
  constructor
  · rintro ⟨x, hx, e⟩
    have e' : PyData.eqv (pI x) (pI l) = true := e
    rw [eqv_pI, decide_eq_true_iff] at e'
    exact e' ▸ hx
  · intro h
    exact ⟨l, h, by show PyData.eqv (pI l) (pI l) = true; rw [eqv_pI]; exact decide_eq_true rfl⟩
/-- two tuples of ints -/
theorem eqD_tt {a b : List Int} {μ : Mu} {R : DK} (hR : R (.bl (decide (a = b))) μ) : qEqD false (tupI a) (tupI b) μ R := ⟨_, _, py_tupI a, py_tupI b, (fl_pI a).sh (by decide), (fl_pI b).sh (by decide), by rw [eqv_pI]; exact hR⟩
theorem neD_tt {a b : List Int} {μ : Mu} {R : DK} (hR : R (.bl (!decide (a = b))) μ) : qEqD true (tupI a) (tupI b) μ R := ⟨_, _, py_tupI a, py_tupI b, (fl_pI a).sh (by decide), (fl_pI b).sh (by decide), by rw [eqv_pI]; exact hR⟩
/-- two lists of ints -/
theorem eqD_ll {x y : D} {a b : List Int} {μ : Mu} {R : DK} (hx : seqM μ x = some (a.map D.int)) (nx : isTup x = false) (hy : seqM μ y = some (b.map D.int)) (ny : isTup y = false) (hR : R (.bl (decide (a = b))) μ) : qEqD false x y μ R :=
  ⟨_, _, py_ints hx nx, py_ints hy ny, (fl_list (n := 0) fun p hp => by obtain ⟨i, _, rfl⟩ := List.mem_map.mp hp; exact fl_int i).sh (by decide), (fl_list (n := 0) fun p hp => by obtain ⟨i, _, rfl⟩ := List.mem_map.mp hp; exact fl_int i).sh (by decide), by
    simp only [PyData.eqv, Bool.false_eq_true, if_false, eqvAll_ints]; exact hR⟩
/-- a tuple of ints in a list of such -/
theorem inD_tl {l : List Int} {y : D} {ls : List (List Int)} {μ : Mu} {R : DK} (hy : seqM μ y = some (ls.map tupI)) (ny : isTup y = false) (hR : R (.bl (decide (l ∈ ls))) μ) : qInD false (tupI l) y μ R :=
  ⟨_, _, py_tupI l, py_tups hy ny, (fl_pI l).sh (by decide), (fl_list (n := 1) fun p hp => by obtain ⟨i, _, rfl⟩ := List.mem_map.mp hp; exact fl_pI i).sh (by decide), by rw [any_pI]; exact hR⟩
theorem notinD_tl {l : List Int} {y : D} {ls : List (List Int)} {μ : Mu} {R : DK} (hy : seqM μ y = some (ls.map tupI)) (ny : isTup y = false) (hR : R (.bl (!decide (l ∈ ls))) μ) : qInD true (tupI l) y μ R :=
  ⟨_, _, py_tupI l, py_tups hy ny, (fl_pI l).sh (by decide), (fl_list (n := 1) fun p hp => by obtain ⟨i, _, rfl⟩ := List.mem_map.mp hp; exact fl_pI i).sh (by decide), by rw [any_pI]; exact hR⟩
/-! calls where the context's way with an exception has a name -/
theorem de_callE {X : Cx} {L : Lc X} {k : Nat} {f : Addr} {ps : List Str} {sp : DSp} {dds : List D} {x : Str} {p pos : Pos} {e : Expr} {es : List Expr} {d : DTA} {W : DW} (hW : L.W = W) (F : DFn X.prog X.w X.K X.mg X.base k f ps dds sp) (hr : Room k X.A) (hm : X.mg x = some (.ref f)) (ha : DA X L (e :: es) d) (hg : Gl X x := by rfl) (hdb : (x == ("__debug__" : Str)) = false := by decide)
    (he : starEach (e :: es) X.env = (false, eval e X.env) :: starEach es X.env := by rfl) (hpl : (backTo pos (starEach es X.env)).any (·.1) = false := by rfl) :
    DE X L (.Call (.Name x p) (e :: es) [] pos) (dCall sp dds W d) := hW ▸ de_call F hr hm ha hg hdb he hpl
theorem de_makeE {X : Cx} {L : Lc X} {k : Nat} {f : Addr} {ps : List Str} {sp : DSp} {dds : List D} {x : Str} {p pos : Pos} {e : Expr} {es : List Expr} {d : DTA} {C : Str} {W : DW} (hW : L.W = W) (M : Mk X.K (He.ga X.K C) f) (F : DFn X.prog X.w X.K X.mg X.base k f ps dds sp) (hr : Room (k + 1) X.A) (hm : X.mg x = some (.ref (He.ga X.K C))) (ha : DA X L (e :: es) d) (hg : Gl X x := by rfl) (hdb : (x == ("__debug__" : Str)) = false := by decide)
    (he : starEach (e :: es) X.env = (false, eval e X.env) :: starEach es X.env := by rfl) (hpl : (backTo pos (starEach es X.env)).any (·.1) = false := by rfl) :
    DE X L (.Call (.Name x p) (e :: es) [] pos) (dMake C sp dds W d) := hW ▸ de_make M F hr hm ha hg hdb he hpl
theorem dst_tryW {X : Cx} {L : Lc X} {x n : Str} {c : Value} {i : Nat} {body suite : List Stmt} {b₀ : Stmt} {np pos pos' : Pos} {db : DW → DS} {ds : Str → List (Str × D) → Addr → DS} (hs : X.stack = X.env :: X.outer) (hf : X.env.frame = some X.env.locals) (hN : X.N.Nodup) (hc : Names X x c)
    (hU : ∀ a b, L.Φ a → L.Φ b → a = b)
    (hb : ∀ (pn : List (Addr × Obj)) (xe : Value → Shared → Prop) (L' : Lc (X.tr pn xe)) (W : DW), L'.W = W → PassesOwn (model X.prog X.w) X.A X.env xe → L'.Φ = L.Φ → DSs (X.tr pn xe) L' body (db W))
    (hsu : ∀ (a : Addr) (oe : Obj) (n : Str) (gs : List (Str × D)) (dx : Addr) (fs : List (Str × V)) (pn : List (Addr × Obj)) (L' : Lc (X.suite a ((a, oe) :: pn))), Zc (.ref (He.ga X.K n)) (some dx) oe → (∃ vs, oe.data = .fields vs) → L'.B dx = some (.xd fs) → RpF X.K L'.B fs gs → L'.Φ = L.Φ →
      DSs (X.suite a ((a, oe) :: pn)) L' (b₀ :: suite) (ds n gs a))
    (hi : X.N[i]? = some n := by rfl) (hln : X.env.kindOf n = some .local := by rfl) :
    DSt X L (.Try body [.ExceptHandler (some (.Name x np)) (some n) (b₀ :: suite) pos'] [] [] pos) (dTryAs X.K c i db ds L.W) :=
  dst_tryAs hs hf hN hc hU (fun pn xe L' hp hΦ => hb pn xe L' _ rfl hp hΦ) hsu hi hln
theorem roomH_at {j k : Nat} {A : Around} (r : Room k A) (h : Option Value) (hj : j ≤ k) : L2H.RoomH j (A.mark h) := L2H.RoomH.mono ⟨r.dp, r.un⟩ hj
/-- a body under a condition -/
theorem dss_by {X : Cx} {L : Lc X} {sts : List Stmt} {P : Prop} {d : DS} (h : P → DSs X L sts d) : DSs X L sts (fun De Γ μ => P ∧ d De Γ μ) := by
  by_cases c : P
  · obtain ⟨t, p, l⟩ := h c
    exact ⟨t, p, fun Hf σ H Γ μ Hc Hm D De hΦ rel hd le => l Hf σ H Γ μ Hc Hm D De hΦ rel hd.2 le⟩
  · exact ⟨_, pss_never, fun Hf σ H Γ μ Hc Hm D De _ rel h l => (c h.1).elim⟩
end Nod
set_option Elab.async false
set_option linter.all false
set_option maxRecDepth 100000
set_option maxHeartbeats 4000000
/-! ways that meet behind a statement: one word J for all of them -/
namespace Nod
open PySem PySem.Spec PyProof.Rows L2
def dJoin (d : DS) : DS := fun De Γ μ => ∃ J : DEn → Mu → Prop, d { De with nx := J } Γ μ ∧ ∀ Γ' μ', J Γ' μ' → De.nx Γ' μ'
theorem dst_join {X : Cx} {L : Lc X} {st : Stmt} {d : DS} (h : DSt X L st d) : DSt X L st (dJoin d) := by
  obtain ⟨t, p, l⟩ := h
  refine ⟨t, p, fun Hf σ H Γ μ Hc Hm D De hΦ rel h k => ?_⟩
  obtain ⟨J, h1, h2⟩ := h
  exact l Hf σ H Γ μ Hc Hm D { De with nx := J } hΦ rel h1 ⟨fun σ' H' Γ' μ' Hc' Hm' a b c => k.nx σ' H' Γ' μ' Hc' Hm' (h2 _ _ a) b c, k.rt, k.bk, k.ct⟩
end Nod
set_option Elab.async false
set_option linter.all false
set_option maxRecDepth 100000
set_option maxHeartbeats 4000000
/-! what the head tells: own exceptions with an __init__, Bool facts, the hook, the law's end over data -/
namespace Nod
open PySem PySem.Spec PyProof.Rows L2 He
open PySem.W (ksFn)
/-! ### an own exception's class and its __init__ -/
def ncB (K : PySem.W.Frag) (C : Addr) : Bool := match K.lookup C with
  | some ⟨.type t, _, .cls cd, sl⟩ => decide (t = "type") && (match cd.mro with
    | .ref D :: bm => decide (D = C) && (HandSPX.refsVE bm && (!cd.hasDel && (cd.hasDict && (match sl.toList with
      | [_, _, _, _, some (.builtin n), _] => decide (n = "ValueError.__new__")
      | _ => false))))
    | _ => false)
  | _ => false
theorem ncB_ok {K : PySem.W.Frag} {C : Addr} (h : ncB K C = true) : ∃ nm q N bs bm sn sub ab col dd k0 k1 k2 k3 k5, K.lookup C = some (excClassObj nm q C N bs bm true sn sub ab col dd k0 k1 k2 k3 k5 "ValueError.__new__") ∧ HandSPX.refsVE bm = true := by
  unfold ncB at h
  cases e : K.lookup C with
  | none => rw [e] at h; cases h
  | some o =>
    obtain ⟨oc, od, dt, sl⟩ := o
    rw [e] at h
    cases oc with
    | type t =>
      cases dt with
      | cls cd =>
        obtain ⟨h1, h2⟩ := ba h
        have e1 : t = "type" := of_decide_eq_true h1
        subst e1
        obtain ⟨nm, bs, mro, N, q, hd, sn, sub, ab, col, del⟩ := cd
        cases mro with
        | nil => cases h2
        | cons v bm =>
          cases v with
          | ref D =>
            obtain ⟨h3, h4⟩ := ba h2
            obtain ⟨h5, h6⟩ := ba h4
            obtain ⟨h7, h8⟩ := ba h6
            obtain ⟨h9, h10⟩ := ba h8
            have e2 : D = C := of_decide_eq_true h3
            have e3 : del = false := by simpa using h7
            have e4 : hd = true := h9
            subst e2 e3 e4
            obtain ⟨l⟩ := sl
            dsimp only at h10
            split at h10
            · rename_i l0 k0 k1 k2 k3 n k5
              have e5 : n = "ValueError.__new__" := of_decide_eq_true h10
              subst e5
              exact ⟨nm, q, N, bs, bm, sn, sub, ab, col, od, k0, k1, k2, k3, k5, rfl, h5⟩
            · cases h10
          | _ => cases h2
      | _ => cases h
    | _ => cases dt <;> cases h
/-- an __init__ as the head tells it -/
abbrev IniW : Type := Option (Str × Str × Arguments × FuncBody × Scope × Addr × Addr)
def iniW (K : PySem.W.Frag) (p : Str × Option Str) : IniW := match K.lookup (fAd K p) with
  | some ⟨_, _, .func fd, _⟩ => some (fd.name, fd.qualname, fd.params, fd.body, fd.scope, fd.globals, fd.builtins)
  | _ => none
structure IniD where
  cn : Str
  qual : Str
  params : Arguments
  body : List Stmt
  scope : Scope
def IniD.val (d : IniD) : IniW := some ("__init__", d.qual, d.params, .stmts d.body, d.scope, mainGlobals, builtinsNs)
/-- its cell, its code's file -/
def inB (K : PySem.W.Frag) (cn qual file : Str) : Bool := match K.lookup (fAd K (cn, some "__init__")) with
  | some ⟨_, _, .func fd, _⟩ => PySem.W.codeIn K fd.code qual && ((match fd.defaults with
    | .none => true
    | _ => false) && ((match fd.kwdefaults with
    | .none => true
    | _ => false) && ((match fd.closure with
    | [(y, cc)] => decide (y = "__class__") && (match K.lookup cc with
      | some ⟨_, _, .cell (some (.ref D)), _⟩ => decide (D = ga K cn)
      | _ => false)
    | _ => false) && (match fd.code with
    | .ref c => (match K.lookup c with
      | some ⟨_, _, .fields vs, _⟩ => (match (vs[2]? : Option Value) with
        | some (.str f _) => decide (f = file)
        | _ => false)
      | _ => false)
    | _ => false))))
  | _ => false
theorem inB_ok {K : PySem.W.Frag} {d : IniD} {file : Str} (e : iniW K (d.cn, some "__init__") = d.val) (h : inB K d.cn d.qual file = true) :
    ∃ (oc : Value) (od : Option Addr) (doc pm : Value) (an : Option Addr) (cda cc : Addr) (ct : Value) (osl : Array (Option Value)) (ccl cl : Value) (cdd cld : Option Addr) (vs : Array Value) (ccs csl : Array (Option Value)) (tf : Tok),
      K.lookup (ma K (ga K d.cn) "__init__") = some ⟨oc, od, .func (ksFn "__init__" d.qual d.params d.body d.scope .none .none doc pm an (.ref cda) ct cc), osl⟩ ∧ PySem.W.codeIn K (.ref cda) d.qual = true ∧
      K.lookup cda = some ⟨ccl, cdd, .fields vs, ccs⟩ ∧ vs[2]? = some (.str file tf) ∧ K.lookup cc = some ⟨cl, cld, .cell (some (.ref (ga K d.cn))), csl⟩ := by
  unfold iniW at e
  unfold inB at h
  have ef : fAd K (d.cn, some "__init__") = ma K (ga K d.cn) "__init__" := rfl
  rw [ef] at e h
  cases q : K.lookup (ma K (ga K d.cn) "__init__") with
  | none => rw [q] at h; cases h
  | some o =>
    obtain ⟨oc, od, dt, osl⟩ := o
    rw [q] at e h
    cases dt with
    | func fd =>
      obtain ⟨n1, n2, n3, n4, n5, n6, n7, n8, n9, n10, n11, n12, n13, n14, n15⟩ := fd
      have e2 : (some (n1, n2, n3, n4, n5, n6, n15) : IniW) = some (("__init__" : Str), d.qual, d.params, FuncBody.stmts d.body, d.scope, mainGlobals, builtinsNs) := e
      simp only [Option.some.injEq, Prod.mk.injEq] at e2
      obtain ⟨h1, h2, h3, h4, h5, h6, h7⟩ := e2
      subst h1 h2 h3 h4 h5 h6 h7
      obtain ⟨c1, h⟩ := ba h
      obtain ⟨c2, h⟩ := ba h
      obtain ⟨c3, h⟩ := ba h
      obtain ⟨c4, c5⟩ := ba h
      dsimp only at c1 c2 c3 c4 c5
      cases n8 with
      | none =>
        cases n9 with
        | none =>
          cases n7 with
          | nil => cases c4
          | cons y r =>
            cases r with
            | cons _ _ => cases c4
            | nil =>
              obtain ⟨y, cc⟩ := y
              obtain ⟨c6, c7⟩ := ba c4
              have e6 : y = "__class__" := of_decide_eq_true c6
              subst e6
              cases hc : K.lookup cc with
              | none => rw [hc] at c7; cases c7
              | some ob =>
                obtain ⟨cl, cld, cdt, csl⟩ := ob
                rw [hc] at c7
                cases cdt with
                | cell v =>
                  cases v with
                  | none => cases c7
                  | some v =>
                    cases v with
                    | ref D =>
                      have e7 : D = ga K d.cn := of_decide_eq_true c7
                      subst e7
                      cases n13 with
                      | ref cda =>
                        dsimp only at c5
                        cases hk : K.lookup cda with
                        | none => rw [hk] at c5; cases c5
                        | some ob2 =>
                          obtain ⟨ccl, cdd, kdt, ccs⟩ := ob2
                          rw [hk] at c5
                          cases kdt with
                          | fields vs =>
                            dsimp only at c5
                            cases hv : vs[2]? with
                            | none => rw [hv] at c5; cases c5
                            | some fv =>
                              rw [hv] at c5
                              cases fv with
                              | str f tf =>
                                have e8 : f = file := of_decide_eq_true c5
                                subst e8
                                exact ⟨oc, od, n10, n11, n12, cda, cc, n14, osl, ccl, cl, cdd, cld, vs, ccs, csl, tf, rfl, c1, hk, hv, hc⟩
                              | _ => cases c5
                          | _ => cases c5
                      | _ => cases c5
                    | _ => cases c7
                | _ => cases c7
        | _ => cases c3
      | _ => cases c2
    | _ => cases h
/-- all Bool facts that NTxt asks of K -/
def ntB (K : PySem.W.Frag) (cn fld : Str) : Bool := ncB K (ga K cn) && (eqO (PySem.W.findIn K (.ref (ga K cn)) "__setattr__") (some (some (.builtin "object.__setattr__"))) && (eqO (PySem.W.findIn K (.ref (ga K cn)) "__getattribute__") (some (some (.builtin "BaseException.__getattribute__"))) &&
  (eqO (PySem.W.findIn K (.ref (ga K cn)) "__getattr__") (some none) && (eqO (PySem.W.findIn K (.ref (ga K cn)) fld) (some none) && (eqO (PySem.W.findIn K (.ref (ga K cn)) "__init__") (some (some (.ref (ma K (ga K cn) "__init__")))) &&
  (decide (PySem.W.typeIn K (.ref (ma K (ga K cn) "__init__")) = some (.type "function")) && (PySem.W.keepIn K (.ref (ga K cn)) && (decide (PySem.W.subIn K (.ref (ga K cn)) (.type "BaseException") = some true) && (decide (PySem.W.typeIn K (.ref (ga K cn)) = some (.type "type")) &&
  (PySem.W.hasDictIn K (ga K cn) && (eqO (PySem.W.ks_superIn K (ga K cn) (ga K cn) "__init__") (some (some (.builtin "ValueError.__init__"))) && (decide (PySem.W.subIn K (.ref (ga K cn)) (.type "ValueError") = some true) &&
  (decide (PySem.W.mroIn K (ga K cn) (.ref (ga K cn)) = some true) && eqO (PySem.W.nsIn K cStatics "thirdparty.any") (some none))))))))))))))
theorem ntxt_of {P : Program} {K : PySem.W.Frag} {mg : Str → Option Value} {d : IniD} {fld par : Str} (h : ntB K d.cn fld = true) (hI : inB K d.cn d.qual P.main.file = true) (e : iniW K (d.cn, some "__init__") = d.val) (gC : mg d.cn = some (.ref (ga K d.cn))) (sg : mg "super" = none)
    (st : (P.main.scope.names.lookup ("super" : Str)).isSome = false) (np : par ≠ "self") (np2 : par ≠ "__class__") (ndb : (par == ("__debug__" : Str)) = false) (np3 : par ≠ "super")
    (hx : ∃ (p1 p2 a0 a1 a2 a3 a4 a5 q1 q2 q3 q4 : Pos) (k : Nat) (msg : Str), d.params = nA par p1 p2 ∧ d.body = nB msg fld par a0 a1 a2 a3 a4 a5 q1 q2 q3 q4 k ∧ d.scope = nS par ∧
      (∀ (doc pm : Value) (an : Option Addr) (cda cc : Addr) (ct u v : Value), bindArgs (ksFn "__init__" d.qual (nA par p1 p2) (nB msg fld par a0 a1 a2 a3 a4 a5 q1 q2 q3 q4 k) (nS par) .none .none doc pm an (.ref cda) ct cc) ⟨[u, v], []⟩ = pure [(("self" : Str), u), (par, v)]) ∧
      ∃ pl : Sem Bool, ∀ env : Env, eval (.Call (.Attribute (.Call (.Name "super" a0) [] [] a1) "__init__" a2) [.Constant (.str msg) k a3] [] a4) env = (do
        let ov ← attributeBase (.Call (.Name "super" a0) [] [] a1) "__init__" env (eval (.Call (.Name "super" a0) [] [] a1) env)
        standAt a2.atName
        let (f, first) ← holding [ov] (getMethod ov "__init__" pl)
        callWith a4 f first (backTo a4 (starEach [.Constant (.str msg) k a3] env)) [])) : NTxt P K mg d.cn fld par (ga K d.cn) (ma K (ga K d.cn) "__init__") := by
  obtain ⟨c1, h⟩ := ba h
  obtain ⟨c2, h⟩ := ba h
  obtain ⟨c3, h⟩ := ba h
  obtain ⟨c4, h⟩ := ba h
  obtain ⟨c5, h⟩ := ba h
  obtain ⟨c6, h⟩ := ba h
  obtain ⟨c7, h⟩ := ba h
  obtain ⟨c8, h⟩ := ba h
  obtain ⟨c9, h⟩ := ba h
  obtain ⟨c10, h⟩ := ba h
  obtain ⟨c11, h⟩ := ba h
  obtain ⟨c12, h⟩ := ba h
  obtain ⟨c13, h⟩ := ba h
  obtain ⟨c14, c15⟩ := ba h
  obtain ⟨p1, p2, a0, a1, a2, a3, a4, a5, q1, q2, q3, q4, k, msg, x1, x2, x3, x4, x5⟩ := hx
  obtain ⟨oc, od, doc, pm, an, cda, cc, ct, osl, ccl, cl, cdd, cld, vs, ccs, csl, tf, y1, y2, y3, y4, y5⟩ := inB_ok e hI
  rw [x1, x2, x3] at y1
  exact ⟨gC, ncB_ok c1, eqO_ok c2, eqO_ok c3, eqO_ok c4, eqO_ok c5, eqO_ok c6, of_decide_eq_true c7, c8, of_decide_eq_true c9, of_decide_eq_true c10, c11, eqO_ok c12, of_decide_eq_true c13, of_decide_eq_true c14, eqO_ok c15, sg, st, np, np2, ndb, np3,
    oc, od, doc, pm, an, cda, cc, ct, osl, p1, p2, a0, a1, a2, a3, a4, a5, q1, q2, q3, q4, k, msg, d.qual, ccl, cl, cdd, cld, vs, ccs, csl, P.main.file, tf, y1, y2, y3, y4, by simp, y5, fun u v => x4 doc pm an cda cc ct u v, x5⟩
/-! ### further facts -/
/-- a name of the module that stands for a built-in -/
def gbB (K : PySem.W.Frag) (x : Str) (b : String) : Bool := eqO (PySem.W.nsIn K mainGlobals x) (some (some (.builtin b)))
theorem gbB_ok {K : PySem.W.Frag} {h : Heap} {mg : Str → Option Value} (X : K.In h) (G : h.Ns mainGlobals mg) {x : Str} {b : String} (e : gbB K x b = true) : mg x = some (.builtin b) := PySem.W.mg_of X G (eqO_ok e)
/-- what isinstance asks of a plain own class -/
def tyB (K : PySem.W.Frag) (x : Str) : Bool := (Fa.cls x).ok K && (eqO (PySem.W.findIn K (.ref (ga K x)) "__class__") (some (some (.builtin "object.__class__"))) && (eqO (PySem.W.specialIn K (.builtin "object.__class__") "__get__") (some (some (.builtin "getset_descriptor.__get__"))) &&
  (decide (PySem.W.takesIn K (.builtin "object.__class__") = some true) && decide (PySem.W.mroIn K (ga K x) (.type "object") = some true))))
theorem tyB_ok {K : PySem.W.Frag} {x : Str} (h : tyB K x = true) : ∀ (H : Hp) a dx fs, H a = some (.ins (ga K x) dx fs) → TyOf K H (.ref a) (.ref (ga K x)) := by
  obtain ⟨c1, h⟩ := ba h
  obtain ⟨c2, h⟩ := ba h
  obtain ⟨c3, h⟩ := ba h
  obtain ⟨c4, c5⟩ := ba h
  exact fun H a dx fs e => .ins e (cls_ok c1) (eqO_ok c2) (eqO_ok c3) (of_decide_eq_true c4) (of_decide_eq_true c5)
def excB (K : PySem.W.Frag) (x : Str) : Bool := eqO (PySem.W.findIn K (.ref (ga K x)) "__getattribute__") (some (some (.builtin "BaseException.__getattribute__"))) && (eqO (PySem.W.findIn K (.ref (ga K x)) "__getattr__") (some none) && (decide (PySem.W.subIn K (.ref (ga K x)) (.type "BaseException") = some true) &&
  (PySem.W.hasDictIn K (ga K x) && (eqO (PySem.W.findIn K (.ref (ga K x)) "__class__") (some (some (.builtin "object.__class__"))) && (eqO (PySem.W.specialIn K (.builtin "object.__class__") "__get__") (some (some (.builtin "getset_descriptor.__get__"))) &&
  (decide (PySem.W.takesIn K (.builtin "object.__class__") = some true) && decide (PySem.W.mroIn K (ga K x) (.type "object") = some true)))))))
theorem excB_ok {K : PySem.W.Frag} {x : Str} (h : excB K x = true) : ExcC K (ga K x) := by
  obtain ⟨c1, h⟩ := ba h
  obtain ⟨c2, h⟩ := ba h
  obtain ⟨c3, h⟩ := ba h
  obtain ⟨c4, h⟩ := ba h
  obtain ⟨c5, h⟩ := ba h
  obtain ⟨c6, h⟩ := ba h
  obtain ⟨c7, c8⟩ := ba h
  exact ⟨eqO_ok c1, eqO_ok c2, of_decide_eq_true c3, c4, eqO_ok c5, eqO_ok c6, of_decide_eq_true c7, of_decide_eq_true c8⟩
abbrev Bf : Type := PySem.W.Frag → Bool
theorem exs_at {K : PySem.W.Frag} {ex : List Bf} (h : (ex.all fun f => f K) = true) (i : Nat) {f : Bf} (e : ex[i]? = some f := by rfl) : f K = true := List.all_eq_true.mp h f (List.mem_of_getElem? e)
/-! ### the hook: what the names reach, and the model's own statics -/
def addrs (g : Addr → Option Obj) (n : Nat) : List Addr := cStatics :: asD g n
abbrev AlN : Type := AlD × (List IniW × Bool)
def obsN (n : Nat) (fa : List Fa) (fn : List DefD) (ins : List IniD) (tf : List Defn) (ex : List Bf) (g : Addr → Option Obj) : AlN :=
  (obsD fa fn (frT g (addrs g n)), ins.map (fun d => iniW (frT g (addrs g n)) (d.cn, some "__init__")), (ex.all fun f => f (frT g (addrs g n))) && tabsB g tf (frT g (addrs g n)))
def valN (fn : List DefD) (ins : List IniD) : AlN := (valD fn, ins.map IniD.val, true)
structure SaysN (fa : List Fa) (fn : List DefD) (ins : List IniD) (tf : List Defn) (ex : List Bf) (h : Heap) (K : PySem.W.Frag) : Prop where
  d : SaysD fa fn K
  ini : ins.map (fun d => iniW K (d.cn, some "__init__")) = ins.map IniD.val
  more : (ex.all fun f => f K) = true
  hd : ∀ p ∈ tf, PySem.W.codeHdIn K (cT K p).1 (cT K p).2 = true
  out : ∀ p ∈ tf, K.lookup (cT K p).2 = none
  empty : ∀ p ∈ tf, h.get? (cT K p).2 = some { cls := .none, data := .fields #[] }
theorem saysN_of {n : Nat} {fa : List Fa} {fn : List DefD} {ins : List IniD} {tf : List Defn} {ex : List Bf} {h : Heap} (e : obsN n fa fn ins tf ex h.get? = valN fn ins) : SaysN fa fn ins tf ex h (frT h.get? (addrs h.get? n)) := by
  have e1 : obsD fa fn (frT h.get? (addrs h.get? n)) = valD fn := congrArg (fun z : AlN => z.1) e
  have e2 : ins.map (fun d => iniW (frT h.get? (addrs h.get? n)) (d.cn, some "__init__")) = ins.map IniD.val := congrArg (fun z : AlN => z.2.1) e
  have e3 : ((ex.all fun f => f (frT h.get? (addrs h.get? n))) && tabsB h.get? tf (frT h.get? (addrs h.get? n))) = true := congrArg (fun z : AlN => z.2.2) e
  obtain ⟨h1, h2⟩ := ba e3
  have key : ∀ p ∈ tf, PySem.W.codeHdIn (frT h.get? (addrs h.get? n)) (cT (frT h.get? (addrs h.get? n)) p).1 (cT (frT h.get? (addrs h.get? n)) p).2 = true ∧ ∃ o, h.get? (cT (frT h.get? (addrs h.get? n)) p).2 = some o ∧ emptyTab o = true := fun p hp => by
    obtain ⟨k1, k2⟩ := ba (List.all_eq_true.mp h2 p hp)
    refine ⟨k1, ?_⟩
    cases q : h.get? (cT (frT h.get? (addrs h.get? n)) p).2 with
    | none => rw [q] at k2; cases k2
    | some o => rw [q] at k2; exact ⟨o, rfl, k2⟩
  refine ⟨e1, e2, h1, fun p hp => (key p hp).1, fun p hp => ?_, fun p hp => ?_⟩ <;> obtain ⟨_, o, q, z⟩ := key p hp
  · exact frT_none q z
  · rw [q, emptyTab_eq z]
def hookN (n : Nat) (fa : List Fa) (fn : List DefD) (ins : List IniD) (tf : List Defn) (ex : List Bf) : PySem.W.Hook where
  α := AlN
  obs := fun s => obsN n fa fn ins tf ex s.heap.get?
  val := fun _ => valN fn ins
  says := fun _ h => ∃ K : PySem.W.Frag, K.In h ∧ SaysN fa fn ins tf ex h K
  of := fun _ _ e => ⟨_, frT_in, saysN_of e⟩
  keeps := fun _ _ _ ⟨K, hK, c⟩ k => ⟨K, PySem.W.Frag.In.keeps hK k, ⟨c.d, c.ini, c.more, c.hd, c.out, fun p hp => k _ _ (c.empty p hp)⟩⟩
theorem obsN_eq {n : Nat} {fa : List Fa} {fn : List DefD} {ins : List IniD} {tf : List Defn} {ex : List Bf} {g : Addr → Option Obj} {s : Shared} (h : ∀ a, g a = s.heap.get? a) : obsN n fa fn ins tf ex g = (hookN n fa fn ins tf ex).obs s := by
  have e : g = s.heap.get? := funext h
  rw [e] <;> rfl
theorem SaysN.init {fa : List Fa} {fn : List DefD} {ins : List IniD} {tf : List Defn} {ex : List Bf} {h : Heap} {K : PySem.W.Frag} (c : SaysN fa fn ins tf ex h K) (i : Nat) {d : IniD} (e : ins[i]? = some d := by rfl) : iniW K (d.cn, some "__init__") = d.val := by
  have e2 : (ins.map fun d => iniW K (d.cn, some "__init__"))[i]? = (ins.map IniD.val)[i]? := by rw [c.ini]
  rw [List.getElem?_map, List.getElem?_map, e] at e2
  exact Option.some.inj e2
/-! ### defs -/
section
variable {P : Program} {w : World} {K : PySem.W.Frag} {mg : Str → Option Value} {base : Heap} {k : Nat} {f : Addr} {ps : List Str} {sp : DSp} {fd : FuncData} {x qual : Str} {params : Arguments} {body : List Stmt} {scope : Scope} {dvs : List V} {kws : List (Str × V)}
theorem DFn.of0 (F : FunD K x qual params body scope dvs kws f fd) (h : FnOk P w K mg base (L2.CX P w) k f fd ps (low K sp)) (b : Binds K fd ps []) : DFn P w K mg base k f ps [] sp := ⟨⟨fd, [], [], h, b, .nil, fun _ => .nil⟩, F.kp⟩
theorem DFn.ofD {dv : List V} {dds : List D} (F : FunD K x qual params body scope dvs kws f fd) (h : FnOk P w K mg base (L2.CX P w) k f fd ps (low K sp)) (b : ∃ ds, Vals dv ds ∧ Binds K fd ps ds) (r : ∀ H, RpA K H dv dds) : DFn P w K mg base k f ps dds sp := by
  obtain ⟨ds, h1, h2⟩ := b
  exact ⟨⟨fd, dv, ds, h, h2, h1, r⟩, F.kp⟩
end
/-! ### the start of the law: the script, the tables -/
open Classical in
theorem low_start {K : PySem.W.Frag} {sp : DSp} {H : Hp} {a : Addr} {ns : List Int} {tabs : List (Addr × Str)} (hH : ∀ p ∈ tabs, H p.1 = some (.tbl #[])) (hS : SqL K H a (ns.map V.int)) (hs : ∀ μ : Mu, (∀ p ∈ tabs, μ p.1 = some (.tab p.2)) → sp [.scr ns] μ (fun d _ => d = .bl true) fun _ _ _ => False)
    (hd : ∀ p ∈ tabs, ∀ q ∈ tabs, p.1 = q.1 → p = q) : low K sp [.ref a] H (fun v _ => v = .bl true) fun _ _ _ => False := by
  let isT : Addr → Prop := fun b => ∃ p ∈ tabs, p.1 = b
  let Hm : Hp := fun b => if isT b then H b else none
  let Hc : Hp := fun b => if isT b then none else H b
  let μ : Mu := fun b => match tabs.find? (fun p => decide (p.1 = b)) with
    | some p => some (MO.tab p.2)
    | none => none
  have ex : ∀ b o, H b = some o → (∀ ps, o ≠ .tbl ps) → Hc b = some o := fun b o e n => by
    show (if isT b then none else H b) = _
    rw [if_neg (fun ⟨p, hp, z⟩ => n #[] (by rw [← z, hH p hp] at e; exact (Option.some.inj e).symm)), e]
  have hμ : ∀ p ∈ tabs, μ p.1 = some (.tab p.2) := fun p hp => by
    show (match tabs.find? (fun q => decide (q.1 = p.1)) with
      | some p => some (MO.tab p.2)
      | none => none) = _
    cases e : tabs.find? (fun q => decide (q.1 = p.1)) with
    | none => exact absurd (List.find?_eq_none.mp e p hp) (by simp)
    | some q =>
      have h1 : q.1 = p.1 := by simpa using List.find?_some e
      rw [hd q (List.mem_of_find?_eq_some e) p hp h1]
  refine ⟨Hc, Hm, fun _ => none, [.scr ns], μ, _, _, ⟨?_, ?_, fun _ _ z => (by cases z), fun _ _ z => (by cases z), fun _ _ z => (by cases z)⟩, ?_, .cons (.scr ?_) .nil, hs μ hμ, fun v H' d μ' Hc' Hm' q _ _ r _ => ?_, fun _ _ _ _ _ _ _ _ q => q.elim⟩
  · funext b
    unfold ov
    show H b = (match (none : Option HO) with | some o => some o | none => (match (if isT b then H b else none) with | some o => some o | none => if isT b then none else H b))
    by_cases c : isT b
    · rw [if_pos c, if_pos c]
      obtain ⟨p, hp, rfl⟩ := c
      rw [hH p hp]
    · rw [if_neg c, if_neg c]
  · intro b o z
    show (if isT b then none else H b) = none
    by_cases c : isT b
    · rw [if_pos c]
    · have z' : (if isT b then H b else none) = some o := z
      rw [if_neg c] at z'; cases z'
  · intro b
    by_cases c : isT b
    · obtain ⟨p, hp, rfl⟩ := c
      refine .inr ⟨.tab p.2, .tbl #[], hμ p hp, ?_, True.intro, fun pos cv hc => ?_⟩
      · show (if isT p.1 then H p.1 else none) = _
        rw [if_pos ⟨p, hp, rfl⟩, hH p hp]
      · have z : codeAmong pos [] = some cv := hc
        simp [codeAmong] at z
    · refine .inl ⟨?_, if_neg c⟩
      show (match tabs.find? (fun p => decide (p.1 = b)) with | some p => some (MO.tab p.2) | none => none) = _
      cases q : tabs.find? (fun p => decide (p.1 = b)) with
      | some p => exact absurd ⟨p, List.mem_of_find?_eq_some q, by simpa using List.find?_some q⟩ c
      | none => rfl
  · rcases hS with h | h
    · rcases h with h | ⟨o, h⟩
      · exact .inl (.inl (ex _ _ h fun ps z => (by cases z)))
      · exact .inl (.inr ⟨o, ex _ _ h fun ps z => (by cases z)⟩)
    · exact .inr h
  · have q' : d = .bl true := q
    subst q'
    exact r.bl_inv
end Nod
set_option Elab.async false
set_option linter.all false
set_option maxRecDepth 100000
set_option maxHeartbeats 4000000
/-! lists changed by place, repeated; tuple.count; list(range(n)) -/
namespace Nod
open PySem PySem.Spec PyProof.Rows L2
open Evl (Ex)
theorem rel_lst' {K : PySem.W.Frag} {B Hf : Hp} {σ : L2.St} {H : Hp} {Γ : DEn} {μ : Mu} {Hc Hm : Hp} (rel : Rel K B Hf σ H Γ μ Hc Hm) {a : Addr} {ds : List D} (h : μ a = some (.lst ds)) : ∃ vs, H a = some (.lst vs) ∧ RpA K Hc vs ds := by
  obtain ⟨o, ho, q⟩ := rel.get h
  cases o with
  | lst vs => exact ⟨vs, ho, q⟩
  | _ => exact q.elim
/-! ### xs[i] = e -/
def dIxS (dv da di : DT) : DS := fun De Γ μ => dv Γ μ fun y μ1 => da Γ μ1 fun x μ2 => di Γ μ2 fun z μ3 => ∃ a ds i j, x = .adr a ∧ μ3 a = some (.lst ds) ∧ z = .int i ∧ ixN ds.length i = some j ∧ De.nx Γ (updM μ3 a (.lst (ds.set j y)))
theorem dst_ixS {X : Cx} {L : Lc X} {o i e : Expr} {da di dv : DT} {pos tpos : Pos} (ha : DE X L o da) (hi : DE X L i di) (hv : DE X L e dv)
    (hs : swapsWithSole [.Subscript o i tpos] e pos.line X.env = pure false := by rfl) (hw : swappedStores [.Subscript o i tpos] e X.env = pure none := by rfl) (h1 : (assignEach [.Subscript o i tpos] X.env).map (·.2) = [assign (.Subscript o i tpos) X.env] := by rfl)
    (hst : ∀ u, assign (.Subscript o i tpos) X.env u = (do
      let ov ← holding [u] (eval o X.env)
      let iv ← holding [u, ov] (eval i X.env)
      standAt tpos
      holding [u, ov, iv] (setItem ov iv u)
      release [u, ov, iv] []) := by intros; rfl) :
    DSt X L (.Assign [.Subscript o i tpos] e pos) (dIxS dv da di) := by
  obtain ⟨ta, p, la⟩ := ha
  obtain ⟨ti, p2, li⟩ := hi
  obtain ⟨tv, p3, lv⟩ := hv
  refine ⟨_, ps_asg p3 (pg_sub p p2 set_list hst) hs hw h1, fun Hf σ H Γ μ Hc Hm Dn De hΦ rel h k => lv Hf σ H Γ μ Hc Hm _ _ hΦ rel h fun y H1 dy μ1 Hc1 Hm1 h1 rel1 rp1 ex1 => la Hf σ H1 Γ μ1 Hc1 Hm1 _ _ hΦ rel1 h1 fun x H2 dx μ2 Hc2 Hm2 h2 rel2 rp2 ex2 => li Hf σ H2 Γ μ2 Hc2 Hm2 _ _ hΦ rel2 h2 fun z H3 dz μ3 Hc3 Hm3 h3 rel3 rp3 ex3 => ?_⟩
  obtain ⟨a, ds, i, j, rfl, hm, rfl, hj, hn⟩ := h3
  cases rp2.adr_inv
  cases rp3.int_inv
  obtain ⟨vs, hvs, ra⟩ := rel_lst' rel3 hm
  exact ⟨_, _, _, j, rfl, rfl, hvs, by rw [ra.length]; exact hj, k.nx _ _ _ _ _ _ hn (rel3.setm hm (ra.set (rp1.mono (ex2.trans ex3)) j)) ((ex1.trans ex2).trans ex3)⟩
/-! ### xs[i] += e -/
def gIx (K : PySem.W.Frag) : V → V → Hp → VK → Prop := fun x y H Q => ∃ p xs i v, x = .ref p ∧ y = .int i ∧ SqL K H p xs ∧ 0 ≤ i ∧ atI xs i = some v ∧ Q v H
theorem get_list {X : Cx} : PGet X (gIx X.K) := by
  intro pins s σ H o i ov iv Q I ro ri h
  obtain ⟨p, xs, k, v, rfl, rfl, hq, h0, he, q⟩ := h
  cases ro
  obtain ⟨t, rfl⟩ := ri
  obtain ⟨its, r, pl, hz⟩ := I.list hq
  obtain ⟨j, h1, h2, h3, h4, h5⟩ := atI_get he
  obtain ⟨w, ew, rw'⟩ := r.get h2
  have hl := r.length
  have hn := line63
  have hj : k.toNat = j := by
    rw [seqIndex_of h0 h5] at h1
    exact Option.some.inj h1
  exact wpAny_getItem_list pl.isList h0 (by omega) (by rw [hj]; simpa using ew) ⟨v, H, I, rw', q⟩
def dAugIx (f : Int → Int → Int) (da di dv : DT) : DS := fun De Γ μ => da Γ μ fun x μ1 => di Γ μ1 fun z μ2 => ∃ a ds i n, x = .adr a ∧ z = .int i ∧ 0 ≤ i ∧ μ2 a = some (.lst ds) ∧ atI ds i = some (.int n) ∧ dv Γ μ2 fun y μ3 => ∃ m, y = .int m ∧ μ3 = μ2 ∧ De.nx Γ (updM μ2 a (.lst (ds.set i.toNat (.int (f n m)))))
theorem lfAugIx {X : Cx} {L : Lc X} {f : Int → Int → Int} {ta ti tv : TE} {da di dv : DT} (la : LfE X.K L.B L.Φ ta da) (li : LfE X.K L.B L.Φ ti di) (lv : LfE X.K L.B L.Φ tv dv) : LfS X.K L.B L.Φ (tAugS ta ti tv (gIx X.K) (ipI f) rSetL) (dAugIx f da di dv) := fun Hf σ H Γ μ Hc Hm Dn De hΦ rel h k =>
  la Hf σ H Γ μ Hc Hm _ _ hΦ rel h fun x H1 dx μ1 Hc1 Hm1 h1 rel1 rp1 ex1 => li Hf σ H1 Γ μ1 Hc1 Hm1 _ _ hΦ rel1 h1 fun z H2 dz μ2 Hc2 Hm2 h2 rel2 rp2 ex2 => by
    obtain ⟨a, ds, i, n, rfl, rfl, h0, hm, hat, h2⟩ := h2
    cases rp1.adr_inv
    cases rp2.int_inv
    obtain ⟨vs, hvs, ra⟩ := rel_lst' rel2 hm
    obtain ⟨v, hv, rv⟩ := rpA_atI ra hat
    cases rv.int_inv
    refine ⟨_, vs, _, _, rfl, rfl, SqL.of hvs, h0, hv, lv Hf σ H2 Γ μ2 Hc2 Hm2 _ _ hΦ rel2 h2 fun y H3 dy μ3 Hc3 Hm3 h3 rel3 rp3 ex3 => ?_⟩
    obtain ⟨m, rfl, rfl, hn⟩ := h3
    cases rp3.int_inv
    obtain ⟨vs3, hvs3, ra3⟩ := rel_lst' rel3 hm
    obtain ⟨j, e1, e2, e3, e4, e5⟩ := atI_get hat
    have hj : i.toNat = j := by
      rw [seqIndex_of h0 e5] at e1
      exact Option.some.inj e1
    have hx : ixN ds.length i = some i.toNat := by
      unfold ixN
      rw [if_pos h0, if_pos e5]
    exact ⟨n, m, rfl, rfl, _, vs3, _, _, rfl, rfl, hvs3, by rw [ra3.length]; exact hx, k.nx _ _ _ _ _ _ hn (rel3.setm hm (ra3.set (.int _) _)) ((ex1.trans ex2).trans ex3)⟩
theorem dst_augIx_add {X : Cx} {L : Lc X} {o i e : Expr} {da di dv : DT} {pos tpos : Pos} (ha : DE X L o da) (hi : DE X L i di) (hv : DE X L e dv)
    (hst : ∀ ov iv new, augStore i ov iv new = (do holding [new, ov, iv] (setItem ov iv new); release [new, ov, iv] []; pure .next) := by intros; rfl) : DSt X L (.AugAssign (.Subscript o i tpos) .Add e pos) (dAugIx (fun a b => a + b) da di dv) := by
  obtain ⟨ta, p, la⟩ := ha
  obtain ⟨ti, p2, li⟩ := hi
  obtain ⟨tv, p3, lv⟩ := hv
  exact ⟨_, ps_augS p p2 get_list p3 ip_add set_list hst, lfAugIx la li lv⟩
/-! ### [..] * n, a new changing list -/
def qRepM : Q2 := fun x y μ R => ∃ xs k, x = .lst xs ∧ y = .int k ∧ -(2 ^ 63) ≤ k ∧ k < 2 ^ 63 ∧ xs.length * k.toNat ≤ sizeLine ∧ ∀ p, μ p = none → R (.adr p) (updM μ p (.lst (List.replicate k.toNat xs).flatten))
theorem RpA.rep {K : PySem.W.Frag} {H : Hp} {vs : List V} {ds : List D} (r : RpA K H vs ds) : ∀ n : Nat, RpA K H (List.replicate n vs).flatten (List.replicate n ds).flatten
  | 0 => .nil
  | n + 1 => by
    rw [List.replicate_succ, List.replicate_succ, List.flatten_cons, List.flatten_cons]
    exact r.append (r.rep n)
theorem o_repM {X : Cx} : DOp X (binaryOp .Mult) qRepM := ⟨_, op_rep, fun B Hf σ H Γ μ Hc Hm x y dx dy Q R rel rx ry h kn => by
  obtain ⟨xs, k, rfl, rfl, h1, h2, h3, hR⟩ := h
  cases ry.int_inv
  cases rx with
  | lst hx ra =>
    refine ⟨_, _, _, rfl, rfl, rel.pt.exc _ _ hx, h1, h2, by rw [ra.length]; exact h3, fun p hp => ?_⟩
    obtain ⟨rel2, hn⟩ := rel.newm (o := .lst _) (m := .lst _) hp (ra.rep k.toNat)
    exact kn _ _ _ _ _ _ (hR p hn) rel2 (.adr p) (Ex.refl _)⟩
/-! ### list(range(n)), a list that stays -/
def dLstRg (d : DT) : DT := fun Γ μ R => d Γ μ fun x μ1 => ∃ n, x = .int n ∧ RgOk 0 n ∧ R (.lst ((rgI 0 n).map D.int)) μ1
theorem de_lstRg {X : Cx} {L : Lc X} {e : Expr} {d : DT} {p1 p2 c1 c2 : Pos} (hc : X.calm = true) (hm1 : X.mg "list" = none) (hm2 : X.mg "range" = none) (ha : DE X L e d) (hg1 : Gl X "list" := by rfl) (hg2 : Gl X "range" := by rfl)
    (he : starEach [e] X.env = (false, eval e X.env) :: starEach [] X.env := by rfl)
    (he2 : starEach [.Call (.Name "range" p2) [e] [] c2] X.env = (false, eval (.Call (.Name "range" p2) [e] [] c2) X.env) :: starEach [] X.env := by rfl) :
    DE X L (.Call (.Name "list" p1) [.Call (.Name "range" p2) [e] [] c2] [] c1) (dLstRg d) := by
  obtain ⟨t, pa, l⟩ := ha
  refine ⟨_, pe_listRg hc hg1 hm1 (prg_1 hg2 hm2 pa he) he2, fun Hf σ H Γ μ Hc Hm Q R hΦ rel h k => l Hf σ H Γ μ Hc Hm _ _ hΦ rel h fun x H1 dx μ1 Hc1 Hm1 h1 rel1 rp1 ex1 => ?_⟩
  obtain ⟨n, rfl, hz, hR⟩ := h1
  refine ⟨n, rp1.int_inv, hz, fun p hp => ?_⟩
  obtain ⟨rel2, ex2⟩ := rel1.newc (o := .lst (rgV 0 n)) hp
  refine k _ _ _ _ _ _ hR rel2 (.lst upd_same ?_) (ex1.trans ex2)
  rw [rgV_I]
  exact RpA.of_ints _
/-! ### tuples that are seen to have no dict: made by tuple(list), cut, counted in -/
abbrev tupO (its : List Value) : Obj := { cls := .type "tuple", data := .seq its.toArray }
def rTupF (K : PySem.W.Frag) : List V → Hp → VK → Prop := fun xs H Q => ∃ p ys, xs = [.ref p] ∧ SqL K H p ys ∧ ∀ l its, H l = none → Q (.ref l) (upd H l (.frz (tupO its) (.tup ys)))
theorem call_tupleF {X : Cx} : CallR X (.type "tuple") (rTupF X.K) := by
  intro pins s σ H xs us Q I r h
  obtain ⟨p, ys, rfl, hq, q⟩ := h
  obtain ⟨u, rfl, rx⟩ := vals1 r
  cases rx
  obtain ⟨its, r1, pl, hz⟩ := I.list hq
  have hsz : its.toArray.size ≤ sizeLine := by rw [List.size_toArray, ← r1.length]; exact hz
  refine call_tuple_list pl.isList (fun h1 kp => ?_) hsz
  have J : Inv X pins σ H { s with heap := h1 } := I.kept (t' := s.toks) kp
  have hget : (h1.push (tupO its)).get? h1.objs.size = some (tupO its) := Heap.get?_push_size _ rfl
  have J2 : Inv X pins σ (upd H h1.objs.size (.frz (tupO its) (.tup ys))) { s with heap := h1.push (tupO its) } :=
    J.laid (t' := s.toks) (fun b o e => Heap.get?_push_of_some _ e) (Nat.le_refl _) ⟨hget, hz, its, r1, IsTup.new _ _⟩
  exact ⟨.ref h1.objs.size, _, J2, rfl, q _ its (J.hok.fresh (Nat.le_refl _))⟩
def qTupF : QA := fun xs μ R => ∃ x ds, xs = [x] ∧ seqM μ x = some ds ∧ isTup x = false ∧ R (.ftup ds) μ
theorem c_tupleF {X : Cx} : DCl X (.type "tuple") qTupF := ⟨_, call_tupleF, fun B Hf σ H Γ μ Hc Hm xs ds Q R rel ra h kn => by
  obtain ⟨x, ds, rfl, hs, hn, hR⟩ := h
  obtain ⟨v, rfl, r⟩ := ra.one
  obtain ⟨a, ys, rfl, rb, h1, _⟩ := rp_seqM rel r hs
  refine ⟨a, ys, rfl, h1 hn, fun p its hp => ?_⟩
  obtain ⟨rel2, ex2⟩ := rel.newc (o := .frz (tupO its) (.tup ys)) hp
  exact kn _ _ _ _ _ _ hR rel2 (.ftup upd_same rfl (rb.mono ex2)) ex2⟩
def rSlF (K : PySem.W.Frag) : V → Option Int → Option Int → Hp → VK → Prop := fun x lo hi H Q => ∃ a xs, x = .ref a ∧ SqT K H a xs ∧
  (HT.sIx xs.length 0 lo = 0 ∧ HT.sIx xs.length xs.length hi = xs.length → Q (.ref a) H) ∧ (¬ (HT.sIx xs.length 0 lo = 0 ∧ HT.sIx xs.length xs.length hi = xs.length) → ∀ p its, H p = none → Q (.ref p) (upd H p (.frz (tupO its) (.tup (cutV xs lo hi)))))
theorem sl_tupF {X : Cx} : SlR X (rSlF X.K) := by
  intro pins s σ H x v vl vu lo hi sl Q I rx hs pl pu h
  obtain ⟨a, xs, rfl, hx, q1, q2⟩ := h
  cases rx
  obtain ⟨its, r, ht, hz⟩ := I.tuple hx
  have hsz : its.toArray.size = xs.length := by rw [List.size_toArray, r.length]
  refine ⟨"tuple", _, PyProof.Rows.slot_tuple_getitem.lookup, ht.typeIs, ?_⟩
  by_cases hw : HT.sIx xs.length 0 lo = 0 ∧ HT.sIx xs.length xs.length hi = xs.length
  · exact getItem_tuple_whole ht hs pl pu (by rw [hsz]; exact hw) ⟨.ref a, H, I, rfl, q1 hw⟩
  · refine HT.getItem_tuple_cut ht hs pl pu (by rw [hsz]; exact hw) ?_ (by rw [hsz]; exact hz)
    rw [hsz]
    have rc : Vals (cutV xs lo hi) ((its.drop (HT.sIx xs.length 0 lo)).take (HT.sIx xs.length xs.length hi - HT.sIx xs.length 0 lo)) := (r.drop _).take _
    refine ⟨.ref s.heap.objs.size, _, I.laid (t' := s.toks) (o := .frz (tupO ((its.drop (HT.sIx xs.length 0 lo)).take (HT.sIx xs.length xs.length hi - HT.sIx xs.length 0 lo))) (.tup (cutV xs lo hi))) (fun b ob e => Heap.get?_push_of_some _ e) (Nat.le_refl _) ?_, rfl, q2 hw _ _ (I.hok.fresh (Nat.le_refl _))⟩
    exact ⟨Heap.get?_push_size _ rfl, Nat.le_trans (cutV_length xs lo hi) hz, _, rc, IsTup.new _ _⟩
def dSlF (d : DT) (lo hi : DTO) : DT := fun Γ μ R => d Γ μ fun x μ1 => lo Γ μ1 fun l μ2 => hi Γ μ2 fun u μ3 => ∃ ds, x = .ftup ds ∧ R (.ftup (cutD ds l u)) μ3
theorem de_slF {X : Cx} {L : Lc X} {e : Expr} {da : DT} {lo hi : Option Expr} {dl dh : DTO} {p2 pos : Pos} (h : DE X L e da) (hl : DO X L lo dl) (hh : DO X L hi dh) : DE X L (.Subscript e (.Slice lo hi none p2) pos) (dSlF da dl dh) := by
  obtain ⟨t, p, l⟩ := h
  obtain ⟨t2, q2, l2⟩ := hl
  obtain ⟨t3, q3, l3⟩ := hh
  refine ⟨_, pe_slice sl_tupF p q2 q3, fun Hf σ H Γ μ Hc Hm Q R hΦ rel h k => l Hf σ H Γ μ Hc Hm _ _ hΦ rel h fun x H1 dx μ1 Hc1 Hm1 h1 rel1 rp1 ex1 =>
    l2 Hf σ H1 Γ μ1 Hc1 Hm1 _ _ hΦ rel1 h1 fun o H2 μ2 Hc2 Hm2 h2 rel2 ex2 => l3 Hf σ H2 Γ μ2 Hc2 Hm2 _ _ hΦ rel2 h2 fun o' H3 μ3 Hc3 Hm3 h3 rel3 ex3 => ?_⟩
  obtain ⟨ds, rfl, hR⟩ := h3
  have e13 := ex2.trans ex3
  cases rp1.mono e13 with
  | @ftup a ob vs _ ht hn ra =>
    have hln := ra.length
    refine ⟨a, vs, rfl, .inl (.inr ⟨_, rel3.pt.exc _ _ ht⟩), fun hw => ?_, fun hw p its hp => ?_⟩
    · have e : cutD ds o o' = ds := by
        unfold cutD
        rw [← hln, hw.1, hw.2, List.drop_zero, Nat.sub_zero, hln, List.take_length]
      rw [e] at hR
      exact k _ _ _ _ _ _ hR rel3 (.ftup ht hn ra) (ex1.trans e13)
    · obtain ⟨rel4, ex4⟩ := rel3.newc (o := .frz (tupO its) (.tup (cutV vs o o'))) hp
      exact k _ _ _ _ _ _ hR rel4 (.ftup upd_same rfl ((rpA_cut ra _ _).mono ex4)) ((ex1.trans e13).trans ex4)
/-- t.count(y), plain data -/
def rCntT (K : PySem.W.Frag) : V → List V → Hp → VK → Prop := fun x xs H Q => ∃ (a : Addr) (y : V) (d : PyData) (ds : List PyData), x = V.ref a ∧ xs = [y] ∧ Dp K H (V.ref a) (.tuple ds) ∧ Dp K H y d ∧ SeqAt.shaped (.tuple ds) = true ∧ SeqAt.shaped d = true ∧
  Q (.int ((ds.countP fun z => PyData.eqv z d : Nat) : Int)) H
theorem mt_countT {X : Cx} (hu : X.A.units + 65 < cLine) : MtR X "tuple.count" (rCntT X.K) := by
  intro pins s σ H x xs v us Q I rx rxs h
  obtain ⟨a, y, d, ds, rfl, rfl, hl, hy, sl, sd, q⟩ := h
  cases rx
  cases rxs with
  | cons ry rt =>
    rename_i uy ut
    cases rt
    obtain ⟨bs, r1⟩ := Dp.reads I d y uy hy ry
    have hxs : PyData.canLayAll0 ds = true := SeqAt.canLay_of_shaped sl
    have hroom : X.A.units + 1 + min (PyData.depthAll ds) d.depth < cLine := room_in_shaped sd hu
    cases hl with
    | tup hs ha =>
      obtain ⟨its, rv, pl, hlen⟩ := I.tuple hs
      obtain ⟨⟨cls, dd, data, sls⟩, ho, hc, n, hdt⟩ := pl
      have hc' : cls = .type "tuple" := hc
      have hdt' : data = .seq its.toArray n := hdt
      subst hc' hdt'
      obtain ⟨as, h4⟩ := Dp.readsAll I ds _ its ha rv
      have hmap : its.map (SeqAt.readOf s.heap) = ds := SeqAt.readsAll_map ds its as hxs h4
      refine call_meets PySem.F.slot_tuple_count ⟨_, ho, rfl⟩ PySem.F.entry_tuple_count (PySem.F.args_tuple_count_2 _ _)
        (SeqAt.tuple_countAt a its.toArray n dd sls uy (fun u => PyData.eqv (SeqAt.readOf s.heap u) d)) ⟨ho, SeqAt.items_eqAt (vs := its.toArray) (show ReadsAll s.heap its.toArray.toList ds as from h4) r1 hxs (SeqAt.canLay_of_shaped sd) hroom, ?_⟩
      refine ⟨.int _, H, I.tok _, ⟨s.toks, ?_⟩, q⟩
      rw [← hmap, List.countP_map]
      rfl
def tBMF (r : V → List V → Hp → VK → Prop) (to : TE) (t : TA) : TE := fun σ H Q => to σ H fun x H1 => (∃ a ob xs, x = .ref a ∧ H1 a = some (.frz ob (.tup xs)) ∧ ob.dict = none) ∧ t σ H1 fun vs H2 => r x vs H2 Q
theorem pe_countF {X : Cx} {o e : Expr} {to : TE} {t : TA} {apos cpos : Pos} (hu : X.A.units + 65 < cLine) (ho : PE X o to) (ha : PA X [e] t)
    (hbase : attributeBase o "count" X.env (eval o X.env) = eval o X.env := by rfl)
    (hfew : ((backTo cpos (starEach [e] X.env)).all (fun x => !x.1) && (backToKw cpos (keywordEach [] X.env)).all (fun x => x.1.isSome)
      && decide ([e].length + ([] : List Keyword).length + (if ([] : List Keyword).isEmpty then 0 else 1) < 30)) = true := by rfl)
    (hline : (apos.endLine == cpos.line) = true := by rfl) (hs : starEach [e] X.env = (false, eval e X.env) :: starEach [] X.env := by rfl) (hplain : (backTo cpos (starEach [] X.env)).any (·.1) = false := by rfl) :
    PE X (.Call (.Attribute o "count" apos) [e] [] cpos) (tBMF (rCntT X.K) to t) := by
  refine ⟨fun pins s σ H Q I h => ?_⟩
  refine wpAny_Call_method_late hbase hfew hline rfl (thn (ho.run pins s σ H _ I h) fun v s1 ⟨x, H1, I1, r1, ty, q1⟩ => ?_)
  obtain ⟨a, ob, xs, rfl, hf, hd⟩ := ty
  cases r1
  obtain ⟨hob, _, its, _, o2, hg, hc, _⟩ := (show ObjOk X.prog X.w H1 s1.heap a (.frz ob (.tup xs)) from I1.hok a _ hf)
  have e2 : o2 = ob := by rw [hg] at hob; exact Option.some.inj hob
  subst e2
  refine ⟨"tuple", "tuple.count", F.plainAttrs_tuple, F.slot_tuple_count, F.type_tuple_count, ⟨o2, hg, hc⟩, fun b e => ?_, ?_⟩
  · cases e
    exact ⟨o2, hg, hd⟩
  · have hA := ha.run cpos pins s1 σ H1 _ I1 q1
    rw [hs] at hA ⊢
    refine Calls.callWith_builtin (by show (false || (backTo cpos (starEach [] X.env)).any (·.1)) = false; rw [hplain] <;> rfl) (Calls.evalArgs_plain ?_)
    exact thn hA fun us s2 ⟨vs, H2, I2, r2, q2⟩ => mt_countT hu pins s2 σ H2 (.ref a) vs (.ref a) us Q I2 rfl r2 q2
def dCntF (da db : DT) : DT := fun Γ μ R => da Γ μ fun x μ1 => ∃ ds, x = .ftup ds ∧ db Γ μ1 fun y μ2 => ∃ d es, PyOfA μ2 ds es ∧ PyOf μ2 y d ∧ SeqAt.shaped (.tuple es) = true ∧ SeqAt.shaped d = true ∧ R (.int ((es.countP fun z => PyData.eqv z d : Nat) : Int)) μ2
theorem de_countF {X : Cx} {L : Lc X} {o e : Expr} {da db : DT} {apos cpos : Pos} (hu : X.A.units + 65 < cLine) (ha : DE X L o da) (hb : DE X L e db)
    (hbase : attributeBase o "count" X.env (eval o X.env) = eval o X.env := by rfl)
    (hfew : ((backTo cpos (starEach [e] X.env)).all (fun x => !x.1) && (backToKw cpos (keywordEach [] X.env)).all (fun x => x.1.isSome)
      && decide ([e].length + ([] : List Keyword).length + (if ([] : List Keyword).isEmpty then 0 else 1) < 30)) = true := by rfl)
    (hline : (apos.endLine == cpos.line) = true := by rfl) (hs : starEach [e] X.env = (false, eval e X.env) :: starEach [] X.env := by rfl) (hplain : (backTo cpos (starEach [] X.env)).any (·.1) = false := by rfl) :
    DE X L (.Call (.Attribute o "count" apos) [e] [] cpos) (dCntF da db) := by
  obtain ⟨ta, p, la⟩ := ha
  obtain ⟨tb, p2, lb⟩ := hb
  refine ⟨_, pe_countF hu p (pa_cons p2 pa_nil hs) hbase hfew hline hs hplain, fun Hf σ H Γ μ Hc Hm Q R hΦ rel h k => la Hf σ H Γ μ Hc Hm _ _ hΦ rel h fun x H1 dx μ1 Hc1 Hm1 h1 rel1 rp1 ex1 => ?_⟩
  obtain ⟨ds, rfl, h1⟩ := h1
  cases id rp1 with
  | @ftup a ob vs _ ht hn ra =>
    refine ⟨⟨a, ob, vs, rfl, rel1.pt.exc _ _ ht, hn⟩, lb Hf σ H1 Γ μ1 Hc1 Hm1 _ _ hΦ rel1 h1 fun y H2 dy μ2 Hc2 Hm2 h2 rel2 rp2 ex2 => ?_⟩
    obtain ⟨d, es, q1, q2, s1, s2, hR⟩ := h2
    exact ⟨a, y, d, es, rfl, rfl, (PyOf.ftup q1).dp rel2 (rp1.mono ex2), q2.dp rel2 rp2, s1, s2, k _ _ _ _ _ _ hR rel2 (.int _) (ex1.trans ex2)⟩
/-! ### isinstance of such a tuple -/
def rIsiF (K : PySem.W.Frag) : List V → Hp → VK → Prop := fun xs H Q => ∃ a ob ys c u b, xs = [.ref a, c] ∧ (∀ v, RelV c v → v = u) ∧ H a = some (.frz ob (.tup ys)) ∧ PySem.W.kitOne K (.type "tuple") u = some b ∧ Q (.bl b) H
theorem call_isiF {X : Cx} : CallR X (.builtin "isinstance") (rIsiF X.K) := by
  intro pins s σ H xs us Q I r h
  obtain ⟨a, ob, ys, c, u, b, rfl, hc, hf, hk, q⟩ := h
  obtain ⟨u1, u2, rfl, r1, r2⟩ := vals2 r
  cases r1
  have e := hc u2 r2
  subst e
  obtain ⟨_, _, its, _, o2, hg, ht, _⟩ := (show ObjOk X.prog X.w H s.heap a (.frz ob (.tup ys)) from I.hok a _ hf)
  exact PySem.W.kia_one PySem.W.kitx_tuple I.kIn ⟨o2, hg, ht⟩ hk (fun z => nomatch z) fun tk => ⟨.bl b, H, I.tok tk, rfl, q⟩
def qIsiF (K : PySem.W.Frag) : QA := fun xs μ R => ∃ ds c u b, xs = [.ftup ds, c] ∧ ((∃ n, c = .ty n ∧ u = .type n) ∨ ∃ C, c = .adr C ∧ u = .ref C) ∧ PySem.W.kitOne K (.type "tuple") u = some b ∧ R (.bl b) μ
theorem c_isiF {X : Cx} : DCl X (.builtin "isinstance") (qIsiF X.K) := ⟨_, call_isiF, fun B Hf σ H Γ μ Hc Hm xs ds Q R rel ra h kn => by
  obtain ⟨ys, c, u, b, rfl, hc, hk, hR⟩ := h
  obtain ⟨v, v2, rfl, r, r2⟩ := ra.two
  cases r with
  | @ftup a ob vs _ ht hn ra =>
    refine ⟨a, ob, vs, v2, u, b, rfl, fun w rw' => ?_, rel.pt.exc _ _ ht, hk, kn.id hR rel (.bl _)⟩
    rcases hc with ⟨n, rfl, rfl⟩ | ⟨C, rfl, rfl⟩
    · cases r2; exact rw'
    · cases r2.adr_inv; exact rw'⟩
/-- either of two -/
theorem DCl.or {X : Cx} {f : Value} {q q' : QA} (h : DCl X f q) (h' : DCl X f q') : DCl X f (fun xs μ R => q xs μ R ∨ q' xs μ R) := by
  obtain ⟨r, hr, lr⟩ := h
  obtain ⟨r', hr', lr'⟩ := h'
  refine ⟨fun xs H Q => r xs H Q ∨ r' xs H Q, fun pins s σ H xs us Q I rv h => h.elim (fun h => hr pins s σ H xs us Q I rv h) fun h => hr' pins s σ H xs us Q I rv h, fun B Hf σ H Γ μ Hc Hm xs ds Q R rel ra h kn => ?_⟩
  exact h.elim (fun h => .inl (lr B Hf σ H Γ μ Hc Hm xs ds Q R rel ra h kn)) fun h => .inr (lr' B Hf σ H Γ μ Hc Hm xs ds Q R rel ra h kn)
end Nod
set_option Elab.async false
set_option linter.all false
set_option maxRecDepth 100000
set_option maxHeartbeats 4000000
/-! for i, x in enumerate(v), v a list or a tuple -/
namespace Nod
open PySem PySem.Spec PyProof.Rows L2
open Evl (Ex)
abbrev enO (it : Addr) : Obj := { cls := .type "enumerate", data := .fields #[.none, .bool false, .ref it, rawInt 0, .none, .none] }
theorem enum_new {v : Value} {o : Obj} {G : Heap → Prop} (B : Begins v o G) : Meets (Builtin.«enumerate.__new__» ⟨[.type "enumerate", v], []⟩) (fun _ R s => G s.heap ∧ R (.ok (.ret (.ref (s.heap.push o).objs.size))) { s with heap := (s.heap.push o).push (enO s.heap.objs.size) }) :=
  .of_wp fun prog w A R s h => by
    obtain ⟨hp, g, d, tk, os⟩ := s
    obtain ⟨h1, h⟩ := h
    have hsub := sub_enumerate
    have begin_ : ∀ {A1 : Around} {E1 : Value → Shared → Prop} {Q1 : Value → Shared → Prop}, Q1 (.ref hp.objs.size) ⟨hp.push o, g, d, tk, os⟩ → wpAny (model prog w) A1 (pyIter v) Q1 E1 ⟨hp, g, d, tk, os⟩ := fun q => B.iter prog w _ _ ⟨hp, g, d, tk, os⟩ _ h1 q
    wp_walk using begin_
    refine wpAny_stack_any fun st => wpAny_pure ?_
    split
    · rename_i c _ _ _ _ _
      cases (c == Value.type "enumerate") <;> (wp_walk using begin_; exact ⟨_, rfl, h⟩)
    · wp_walk using begin_
      exact ⟨_, rfl, h⟩
theorem call_enum {prog : Program} {w : World} {A : Around} {E : Value → Shared → Prop} {s : Shared} {v : Value} {o : Obj} {G : Heap → Prop} {Q : Value → Shared → Prop} (B : Begins v o G) (h1 : G s.heap)
    (h : ∀ h', IsEnum h' (s.heap.objs.size + 1) s.heap.objs.size 0 .none → h'.get? s.heap.objs.size = some o → (∀ b u, s.heap.get? b = some u → h'.get? b = some u) → Q (.ref (s.heap.objs.size + 1)) { s with heap := h' }) :
    wpAny (model prog w) A (call (.type "enumerate") [v]) Q E s := by
  refine callType_new F.called_enumerate (by decide) (F.typeCall_enumerate_1 _) (F.newCall_enumerate_1 _) (fun obj => F.args_object_init_2 obj _) F.entry_enumerate_new (enum_new B) ⟨h1, ?_⟩
  have hz : (s.heap.push o).objs.size = s.heap.objs.size + 1 := Heap.size_push ..
  have he : ((s.heap.push o).push (enO s.heap.objs.size)).get? (s.heap.objs.size + 1) = some (enO s.heap.objs.size) := by
    rw [← hz]; exact Heap.get?_push_size _ rfl
  show _ ∧ _
  rw [hz]
  exact ⟨⟨_, he, rfl⟩, h _ he (Heap.get?_push_of_some _ (Heap.get?_push_size _ B.free)) fun b u x => Heap.get?_push_of_some _ (Heap.get?_push_of_some _ x)⟩
/-- the iterator is none of the objects that it goes over -/
theorem sqx_apart {X : Cx} {pins : List (Addr × Obj)} {σ : L2.St} {H : Hp} {s : Shared} {k : Bool} {a it : Addr} {xs : List V} (I : Inv X pins σ H s) (hq : SqX X.K k H a xs) (hf : FpOk X pins H it) : a ≠ it := fun q => by
  have bad : ∀ ob, X.K.lookup a = some ob → False := fun ob q2 => by
    rcases hf.2.2.2.1 with q4 | q4
    · exact I.ok.noex _ _ (I.ok.mod.kin a ob q2) (q ▸ q4)
    · exact absurd (Heap.lt_size (I.ok.mod.kin a ob q2)) (Nat.not_lt_of_le (Nat.le_trans I.ok.bsz (q ▸ q4)))
  have no : ∀ o, H a ≠ some o := fun o z => by rw [q, hf.1] at z; cases z
  cases k with
  | true =>
    rcases (show SqL X.K H a xs from hq) with (z | ⟨_, z⟩) | ⟨ob, _, _, z, _⟩
    · exact no _ z
    · exact no _ z
    · exact bad ob z
  | false =>
    rcases (show SqT X.K H a xs from hq) with (z | ⟨_, z⟩) | ⟨ob, _, _, z, _⟩
    · exact no _ z
    · exact no _ z
    · exact bad ob z
def IteX (K : PySem.W.Frag) (k : Bool) (a : Addr) : It :=
  ⟨fun i H => ∃ (xs : List V) (x : V), SqX K k H a xs ∧ xs[i]? = some x,
    fun i H v H' => ∃ T x, v = .ref T ∧ H T = none ∧ H' = upd H T (.tup [.int (i : Nat), x]) ∧ ∀ xs, SqX K k H a xs → xs[i]? = some x,
    fun i H => ∃ xs : List V, SqX K k H a xs ∧ i = xs.length⟩
theorem turn_enumX {P : Program} {w : World} {K : PySem.W.Frag} {elts : List Expr} {kk : Nat} {tpos : Pos} (k : Bool) (a e it : Addr) :
    Turn P w K (.Tuple elts kk tpos) (IteX K k a) [e, it] e (fun i h => (∃ old, IsEnum h e it ((i : Nat) : Int) old) ∧ ItX k h it a i ∧ e ≠ it ∧ e ≠ a) where
  mem := by simp
  obj := fun i h st b hb => by
    obtain ⟨⟨old, he⟩, hi, _⟩ := st
    obtain ⟨o1, e1, d1⟩ := itx_obj hi
    rcases (show b = e ∨ b = it by simpa using hb) with rfl | rfl
    · exact ⟨_, he, fun v q => nomatch q⟩
    · exact ⟨o1, e1, d1⟩
  keep := fun i h h' st kp => by
    obtain ⟨⟨old, he⟩, hi, hn, hn2⟩ := st
    exact ⟨⟨old, kp e (by simp) _ he⟩, itx_at hi fun o q => kp it (by simp) o q, hn, hn2⟩
  item := by
    intro X hP hw hK hc i pins s σ H E I hf st hg
    subst hP hw hK
    obtain ⟨⟨old, he⟩, hit, hne, hea⟩ := st
    obtain ⟨xs, x, hq, hx⟩ := hg
    obtain ⟨its, rv, p, la⟩ := sqx_get I hq
    obtain ⟨u, hu, ru⟩ := rv.get hx
    have hh : X.A.in1.handled = none := I.ok.hd hc
    have nai := sqx_apart I hq (hf it (by simp))
    have li : i < its.toArray.size := by simpa using (List.getElem?_eq_some_iff.mp hu).1
    have hel : e < s.heap.objs.size := Heap.lt_size he
    have hil : it < s.heap.objs.size := by obtain ⟨_, q, _⟩ := itx_obj hit; exact Heap.lt_size q
    have hef : e ∉ [it, a] := by simp [hne, hea]
    refine wpAny_pyNext_enum_itemC (draws_X hh k it a nai its.toArray) he ⟨hit, p⟩ li hne hef fun x1 h' tk e1 ho st1 hT hsz hk => ?_
    have ex1 : u = x1 := by
      have q : its.toArray[i]? = some x1 := e1
      rw [List.getElem?_toArray, hu] at q
      exact Option.some.inj q
    subst ex1
    refine ⟨_, rfl, wpAny_letOwnedTupleGo_enum (s := { s with heap := h', toks := tk + 1 }) ho fun h'' he' sb => ?_⟩
    have hT2 := (sb.2 _ (Nat.ne_of_gt hel)).trans hT
    have new : ObjOk X.prog X.w (upd H s.heap.objs.size (.tup [.int (i : Nat), x])) h'' s.heap.objs.size (.tup [.int (i : Nat), x]) := ⟨by show 2 ≤ sizeLine; rw [sizeLine_eq]; decide, [.int i tk, u], .cons ⟨_, rfl⟩ (.cons ru .nil), ⟨_, hT2, rfl, _, rfl⟩⟩
    have J := I.turnedNew (t' := tk + 1) (ch := [e, it]) (fun b ob hb q => (sb.2 b (fun z => hb (by simp [z]))).trans (hk b ob (fun z => hb (by simp [z])) (fun z => hb (by simp [z])) q)) hf (Nat.le_refl _) new
    refine ⟨.ref s.heap.objs.size, _, J, rfl, ⟨_, x, rfl, I.hok.fresh (Nat.le_refl _), rfl, fun ys hy => by rw [sqx_inj I hy hq]; exact hx⟩, ⟨⟨u, ?_⟩, itx_at st1.1 fun o q => (sb.2 it (Ne.symm hne)).trans q, hne, hea⟩, fun b hb => ?_⟩
    · rw [show ((i + 1 : Nat) : Int) = (i : Int) + 1 by omega]
      exact he'
    · have hb' : b < s.heap.objs.size := by
        rcases (show b = e ∨ b = it by simpa using hb) with rfl | rfl
        · exact hel
        · exact hil
      rw [upd_ne (Nat.ne_of_lt hb')]
      exact (hf b hb).1
  done := by
    intro X hP hw hK hc i pins s σ H E I hf st hg
    subst hP hw hK
    obtain ⟨⟨old, he⟩, hit, hne, hea⟩ := st
    obtain ⟨xs, hq, hx⟩ := hg
    obtain ⟨its, rv, p, la⟩ := sqx_get I hq
    have hh : X.A.in1.handled = none := I.ok.hd hc
    have nai := sqx_apart I hq (hf it (by simp))
    obtain ⟨f0, f1, f2, f3, f4, f5⟩ := hf it (by simp)
    have hn : i = its.toArray.size := by rw [List.size_toArray, ← rv.length]; exact hx
    subst hn
    exact wpAny_pyNext_enum_endD (draws_X hh k it a nai its.toArray) he ⟨hit, p⟩ fun h' eb => ⟨rfl, I.turned (t' := s.toks) (fun b o hb q => eb b o hb q) f0 f1 f3 f4 f5⟩
  self := fun A i s Q E st h => let ⟨⟨_, he⟩, _⟩ := st; wpAny_pyIter_enum he h
def iEnumX (K : PySem.W.Frag) (ta : TA) : TI := fun σ H R => ta σ H fun vs H1 => ∃ a xs k, vs = [.ref a] ∧ SqX K k H1 a xs ∧ R (IteX K k a) H1
theorem pi_enumX {X : Cx} {e : Expr} {ta : TA} {p pos tpos : Pos} {elts : List Expr} {kk : Nat} (hg : Gl X "enumerate") (hm : X.mg "enumerate" = none) (ha : PA X [e] ta) (hs : starEach [e] X.env = [(false, eval e X.env)] := by rfl) :
    PI X (.Tuple elts kk tpos) (.Call (.Name "enumerate" p) [e] [] pos) (iEnumX X.K ta) := by
  refine ⟨fun pins s σ H R I h => ?_⟩
  refine Call_ (ld_blt I hg hm boot_enumerate (PyProof.Rows.callWith_type1 (thn (ha.run pos pins s σ H _ I h) fun us s1 ⟨vs, H1, I1, r1, q1⟩ => ?_) hs rfl))
  obtain ⟨a, xs, k, rfl, hq, q⟩ := q1
  obtain ⟨u, rfl, ru⟩ := vals1 r1
  cases ru
  obtain ⟨its, rv, p', la⟩ := sqx_get I1 hq
  refine call_enum (begins_X k a its.toArray) p' fun h' he hit hk => wpAny_pyIter_enum he ?_
  have J : Inv X pins σ H1 { s1 with heap := h' } := I1.kept (t' := s1.toks) hk
  refine ⟨s1.heap.objs.size + 1, [s1.heap.objs.size + 1, s1.heap.objs.size], _, _, H1, rfl, J, turn_enumX k a (s1.heap.objs.size + 1) s1.heap.objs.size, ⟨⟨.none, he⟩, itx_start hit, Nat.succ_ne_self _, Nat.ne_of_gt (Nat.lt_succ_of_lt la)⟩, fun b hb => ?_, q⟩
  have hle : s1.heap.objs.size ≤ b := by
    rcases (show b = s1.heap.objs.size + 1 ∨ b = s1.heap.objs.size by simpa using hb) with z | z <;> rw [z]
    · exact Nat.le_succ _
    · exact Nat.le_refl _
  exact I1.fpOk hle (I1.hok.fresh hle)
def dIEnumX (d : DTA) : DIt := fun Γ μ R => d Γ μ fun xs μ1 => ∃ x as, xs = [x] ∧ seqD x = some as ∧ R as.length (fun i => .tup [.int i, itD as i]) μ1
theorem di_enumX {X : Cx} {L : Lc X} {e : Expr} {d : DTA} {p pos tpos : Pos} {elts : List Expr} {kk : Nat} (hm : X.mg "enumerate" = none) (ha : DA X L [e] d) (hg : Gl X "enumerate" := by rfl) (hs : starEach [e] X.env = [(false, eval e X.env)] := by rfl) : DI X L (.Tuple elts kk tpos) (.Call (.Name "enumerate" p) [e] [] pos) (dIEnumX d) := by
  obtain ⟨t, pa, la⟩ := ha
  refine ⟨_, pi_enumX hg hm pa hs, fun Hf σ H Γ μ Hc Hm Q R hΦ rel h k => la Hf σ H Γ μ Hc Hm _ _ hΦ rel h fun xs H1 ds μ1 Hc1 Hm1 h1 rel1 rp1 ex1 => ?_⟩
  obtain ⟨x, as, rfl, hs', hR⟩ := h1
  obtain ⟨v, rfl, r⟩ := rp1.one
  obtain ⟨a, vs, rfl, ra, hx⟩ := rp_seq r hs'
  obtain ⟨k1, q1⟩ := sqx_of (K := X.K) hx
  have l1 := ra.length
  refine ⟨a, vs, k1, rfl, q1 _ rel1.pt.exc, k _ _ _ _ _ _ _ hR rel1 ex1 ⟨fun i H hi e => ?_, fun H e => ⟨vs, q1 _ e, l1.symm⟩, fun i H v H' hi e y => ?_⟩⟩
  · have h1 : i < vs.length := by omega
    exact ⟨vs, vs[i], q1 _ e, by simp [h1]⟩
  · obtain ⟨T, x, rfl, hT, rfl, g1⟩ := y
    obtain ⟨dx, e1, r1⟩ := ra.get' (g1 vs (q1 _ e))
    exact .inr ⟨T, _, _, rfl, hT, rfl, by rw [itD_get e1], .cons (.int _) (.cons r1 .nil)⟩
end Nod
set_option Elab.async false
set_option linter.all false
set_option maxRecDepth 100000
set_option maxHeartbeats 4000000
/-! x == y where the class of both has a == of its own; such instances within tuples; len(o) -/
namespace Nod
open PySem PySem.Spec PyProof.Rows L2
open Evl (Ex)
theorem pass0C {X : Cx} : Passes (L2.CX X.prog X.w) X E0 := fun pins σ H s e s' I h => by
  obtain ⟨_, _, _, _, _, _, _, _, _, _, _, _, z⟩ := h
  exact z.elim
/-! ### o == p -/
theorem op_eqO {X : Cx} {CX : CXT} {C f : Addr} {fd : FuncData} {ps : List Str} {k : Nat} {sp : Sp} {op : CmpOp} (F : FnOk X.prog X.w X.K X.mg X.base CX k f fd ps sp) (hr : Room k X.A) (hu : X.A.units < cLine) (hb : Binds X.K fd ps [])
    (hx : Passes CX X E0) (hs : PySem.W.findIn X.K (.ref C) (cmpInfo op).2.1 = some (some (.ref f))) (hf : PySem.W.isFn X.K (.ref f) = true) (hop : compareOp op = richCompare op) :
    OpR X (compareOp op) (fun x y H Q => ∃ a b dx dy fs gs, x = .ref a ∧ y = .ref b ∧ H a = some (.ins C dx fs) ∧ H b = some (.ins C dy gs) ∧ sp [x, y] H Q E0) := by
  intro pins s σ H x y v u Q I rx ry h
  obtain ⟨a, b, dx, dy, fs, gs, rfl, rfl, h1, h2, hsp⟩ := h
  cases rx
  cases ry
  obtain ⟨mA, J, _⟩ := ins_get I.hok h1
  obtain ⟨mB, J', _⟩ := ins_get I.hok h2
  obtain ⟨od, J, _⟩ := J.look
  obtain ⟨od', J', _⟩ := J'.look
  obtain ⟨m, hF⟩ := I.fr
  rw [hop]
  refine PySem.W.cmp_K (op := op) (tb := .ref C) hu hF I.ok.mod.kin J J'.type (by simp [PySem.W.notFirst]) hs hf ?_
  refine wpAny_mono (run_fn (us := [.ref a, .ref b]) (vs := [.ref a, .ref b]) (dvs := []) (ds := []) F hr hb .nil hx I (.cons rfl (.cons rfl .nil)) (by simpa using hsp)) (fun w s' hq => ?_) fun _ _ e => e
  obtain ⟨z, H', I', rz, q⟩ := hq
  exact rel_back rz ⟨z, H', I', rz, q⟩
def qEqO (C : Str) (sp : DSp) : Q2 := fun x y μ R => (∃ gs hs, x = .obj C gs ∧ y = .obj C hs) ∧ sp [x, y] μ R fun _ _ _ => False
theorem o_eqO {X : Cx} {C : Str} {f : Addr} {ps : List Str} {k : Nat} {sp : DSp} (F : DFn X.prog X.w X.K X.mg X.base k f ps [] sp) (hr : Room k X.A)
    (hs : PySem.W.findIn X.K (.ref (He.ga X.K C)) "__eq__" = some (some (.ref f))) (hf : PySem.W.isFn X.K (.ref f) = true) : DOp X (compareOp .Eq) (qEqO C sp) := by
  obtain ⟨fd, dvs, ds, F1, hbi, hd, hrp⟩ := F.ex
  have e := hrp (fun _ => none)
  cases e
  cases hd
  refine ⟨_, op_eqO (op := .Eq) F1 hr (by have := hr.un; omega) hbi pass0C hs hf rfl, fun B Hf σ H Γ μ Hc Hm x y dx dy Q R rel rx ry h kn => ?_⟩
  obtain ⟨⟨gs, hs', rfl, rfl⟩, h⟩ := h
  cases id rx with
  | obj ho rf =>
    cases id ry with
    | obj ho2 rf2 =>
      exact ⟨_, _, _, _, _, _, rfl, rfl, rel.pt.exc _ _ ho, rel.pt.exc _ _ ho2, Hc, Hm, Hf, _, μ, R, _, rel.pt, rel.mu, .cons rx (.cons ry .nil), h, fun v H' y μ' Hc' Hm' a b c e g => kn v H' y μ' Hc' Hm' a ⟨b, rel.ex.trans g, rel.sg.mono g, c⟩ e g,
        fun n gs μ' H' Hc' Hm' dx fs a b c e g hx => a.elim⟩
/-! ### such instances within tuples -/
/-- the promise of an own ==, as HandS.OwnEq asks it -/
def RdE (K : PySem.W.Frag) (Pd : D → D → Prop) : Addr → Addr → Hp → Prop := fun a b H => ∃ x y, Rp K H (.ref a) x ∧ Rp K H (.ref b) y ∧ Pd x y
theorem eq_low {P : Program} {w : World} {K : PySem.W.Frag} {mg : Str → Option Value} {base : Heap} {CX : CXT} {k : Nat} {f : Addr} {fd : FuncData} {ps : List Str} {sp : DSp} {Pd : D → D → Prop} (F : FnOk P w K mg base CX k f fd ps (low K sp))
    (h : ∀ x y μ R RX, Pd x y → R (.bl true) μ → sp [x, y] μ R RX) : FnOk P w K mg base CX k f fd ps (spEq (RdE K Pd)) := by
  refine F.imp fun vs H Q E q => ?_
  obtain ⟨a, b, rfl, ⟨x, y, rx, ry, hp⟩, hq⟩ := q
  refine ⟨H, fun _ => none, fun _ => none, [x, y], fun _ => none, fun d μ' => d = .bl true ∧ μ' = fun _ => none, fun _ _ _ => False, ⟨?_, fun _ _ z => (by cases z), fun _ _ z => (by cases z), fun _ _ z => (by cases z), fun _ _ z => (by cases z)⟩, fun b => .inl ⟨rfl, rfl⟩, .cons rx (.cons ry .nil), h x y _ _ _ hp ⟨rfl, rfl⟩, fun v H' d μ' Hc' Hm' q1 pt mu r ex => ?_, fun _ _ _ _ _ _ _ _ z => z.elim⟩
  · funext b
    rfl
  · obtain ⟨rfl, rfl⟩ := q1
    cases r.bl_inv
    refine hq H' fun b o e => ?_
    exact pt.exc _ _ (ex b o e)
/-- equal, seen by structure: n tuples deep -/
def EqN (Pd : D → D → Prop) : Nat → D → D → Prop
  | 0, x, y => Pd x y ∨ (flatD x = true ∧ flatD y = true ∧ eqF x y = true)
  | n + 1, x, y => EqN Pd n x y ∨ ∃ xs ys, x = .tup xs ∧ y = .tup ys ∧ xs.length = ys.length ∧ ∀ (i : Nat) a b, xs[i]? = some a → ys[i]? = some b → EqN Pd n a b
def EqvN (K : PySem.W.Frag) (C : Addr) (Pd : D → D → Prop) : Nat → Eqv
  | 0 => fun x y H => DIns C (RdE K Pd) x y H ∨ DFlat x y H
  | n + 1 => fun x y H => EqvN K C Pd n x y H ∨ DTup K (EqvN K C Pd n) x y H
theorem rdE_mono {K : PySem.W.Frag} {Pd : D → D → Prop} : ∀ a b H H', L2.Ext H H' → RdE K Pd a b H → RdE K Pd a b H' := fun a b H H' e q => by
  obtain ⟨x, y, rx, ry, hp⟩ := q
  exact ⟨x, y, rx.mono e, ry.mono e, hp⟩
theorem eqvN_mon {K : PySem.W.Frag} {C : Addr} {Pd : D → D → Prop} : ∀ n, Mon (EqvN K C Pd n)
  | 0 => Mon.or (mon_ins rdE_mono) mon_flat
  | n + 1 => Mon.or (eqvN_mon n) (mon_tup (eqvN_mon n))
theorem eqvN_eq {X : Cx} {CX : CXT} {C f : Addr} {fd : FuncData} {ps : List Str} {k : Nat} {Pd : D → D → Prop} {E : XK} (F : FnOk X.prog X.w X.K X.mg X.base CX k f fd ps (spEq (RdE X.K Pd)))
    (hs : PySem.W.findIn X.K (.ref C) "__eq__" = some (some (.ref f))) (hf : PySem.W.isFn X.K (.ref f) = true) (hb : Binds X.K fd ps []) (hx : Passes CX X E) : ∀ n, EqG X (k + n) (EqvN X.K C Pd n)
  | 0 => EqG.or (eqG_ins F hs hf hb hx) (eqG_flat.mono (Nat.zero_le _))
  | n + 1 => EqG.or ((eqvN_eq F hs hf hb hx n).mono (Nat.le_succ _)) (eqG_tup (eqvN_mon n) (eqvN_eq F hs hf hb hx n))
theorem rp_eqvN {K : PySem.W.Frag} {H : Hp} {C : Str} {Pd : D → D → Prop} (hP : ∀ x y, Pd x y → (∃ gs, x = .obj C gs) ∧ ∃ gs, y = .obj C gs) : ∀ n {v u : V} {x y : D}, Rp K H v x → Rp K H u y → EqN Pd n x y → EqvN K (He.ga K C) Pd n v u H
  | 0, v, u, x, y, rx, ry, h => by
    rcases h with h | ⟨h1, h2, h3⟩
    · obtain ⟨⟨gs, rfl⟩, ⟨hs, rfl⟩⟩ := hP _ _ h
      cases id rx with
      | obj ho rf =>
        cases id ry with
        | obj ho2 rf2 => exact .inl ⟨_, _, _, _, _, _, rfl, rfl, ho, ho2, _, _, rx, ry, h⟩
    · exact .inr ⟨rp_flat rx h1, rp_flat ry h2, by rw [rp_eqF rx ry h1 h2]; exact h3⟩
  | n + 1, v, u, x, y, rx, ry, h => by
    rcases h with h | ⟨xs, ys, rfl, rfl, hl, hi⟩
    · exact .inl (rp_eqvN hP n rx ry h)
    · cases rx with
      | tup h1 ra =>
        cases ry with
        | tup h2 rb =>
          refine .inr ⟨_, _, _, _, rfl, rfl, SqT.of h1, SqT.of h2, by rw [ra.length, rb.length]; exact hl, fun i a b e1 e2 => ?_⟩
          obtain ⟨da, f1, r1⟩ := ra.get' e1
          obtain ⟨db, f2, r2⟩ := rb.get' e2
          exact rp_eqvN hP n r1 r2 (hi i da db f1 f2)
/-- the heap grown by new objects -/
theorem Rel.grown {K : PySem.W.Frag} {B Hf : Hp} {σ : L2.St} {H H' : Hp} {Γ : DEn} {μ : Mu} {Hc Hm : Hp} (rel : Rel K B Hf σ H Γ μ Hc Hm) (e : L2.Ext H H') : ∃ Hc', Rel K B Hf σ H' Γ μ Hc' Hm ∧ Ex Hc Hc' := by
  have pc := rel.pt
  let Hc' : Hp := fun b => match H b with
    | some _ => Hc b
    | none => H' b
  have at_ : ∀ b, H b = none → Hc' b = H' b := fun b z => by show (match H b with | some _ => Hc b | none => H' b) = _; rw [z]
  have in_ : ∀ b o, H b = some o → Hc' b = Hc b := fun b o z => by show (match H b with | some _ => Hc b | none => H' b) = _; rw [z]
  have ex : Ex Hc Hc' := fun b o z => by rw [in_ b o (pc.exc b o z)]; exact z
  have hmo : ∀ b o, Hm b = some o → Hc' b = none := fun b o z => by rw [in_ b o (pc.exm b o z)]; exact pc.cm b o z
  have hfo : ∀ b o, Hf b = some o → H b = some o := fun b o z => by rw [pc.eq]; exact ov_some z
  refine ⟨Hc', ⟨⟨?_, hmo, fun b o z => by rw [in_ b o (hfo b o z)]; exact pc.cf b o z, pc.mf, pc.nt⟩, rel.ex.trans ex, rel.sg.mono ex, rel.mu.mono ex⟩, ex⟩
  funext b
  cases z : H b with
  | some o =>
    rw [e b o z]
    have := congrFun pc.eq b
    rw [z] at this
    rw [this]
    unfold ov
    cases Hf b with
    | some u => rfl
    | none =>
      cases Hm b with
      | some u => rfl
      | none => exact (in_ b o z).symm
  | none =>
    obtain ⟨_, h2, h3⟩ := pc.free z
    rw [ov_none h3, ov_none h2, at_ b z]
def qEqN (Pd : D → D → Prop) (n : Nat) : Q2 := fun x y μ R => (∃ xs ys, x = .tup xs ∧ y = .tup ys ∧ xs.length = ys.length ∧ ∀ (i : Nat) a b, xs[i]? = some a → ys[i]? = some b → EqN Pd n a b) ∧ R (.bl true) μ
theorem o_eqN {X : Cx} {C : Str} {f : Addr} {ps : List Str} {k : Nat} {sp : DSp} {Pd : D → D → Prop} (n : Nat) (F : DFn X.prog X.w X.K X.mg X.base k f ps [] sp) (hr : Room (k + n + 1) X.A) (h : ∀ x y μ R RX, Pd x y → R (.bl true) μ → sp [x, y] μ R RX)
    (hP : ∀ x y, Pd x y → (∃ gs, x = .obj C gs) ∧ ∃ gs, y = .obj C gs) (hs : PySem.W.findIn X.K (.ref (He.ga X.K C)) "__eq__" = some (some (.ref f))) (hf : PySem.W.isFn X.K (.ref f) = true) : DOp X (compareOp .Eq) (qEqN Pd n) := by
  obtain ⟨fd, dvs, ds, F1, hbi, hd, hrp⟩ := F.ex
  have e := hrp (fun _ => none)
  cases e
  cases hd
  refine ⟨_, op_eqG (rcG_tup (eqvN_mon n) (eqvN_eq (C := He.ga X.K C) (eq_low F1 h) hs hf hbi pass0C n)) hr, fun B Hf σ H Γ μ Hc Hm x y dx dy Q R rel rx ry hq kn => ?_⟩
  obtain ⟨⟨xs, ys, rfl, rfl, hl, hi⟩, hR⟩ := hq
  cases rx with
  | tup h1 ra =>
    cases ry with
    | tup h2 rb =>
      refine ⟨⟨_, _, _, _, rfl, rfl, SqT.of (rel.pt.exc _ _ h1), SqT.of (rel.pt.exc _ _ h2), by rw [ra.length, rb.length]; exact hl, fun i a b e1 e2 => ?_⟩, fun H' eH => ?_⟩
      · obtain ⟨da, f1, r1⟩ := ra.get' e1
        obtain ⟨db, f2, r2⟩ := rb.get' e2
        exact rp_eqvN hP n (r1.mono rel.pt.exc) (r2.mono rel.pt.exc) (hi i da db f1 f2)
      · obtain ⟨Hc', rel', ex'⟩ := rel.grown eH
        exact kn _ _ _ _ _ _ hR rel' (.bl true) ex'
/-! ### len(o), o's class has __len__ -/
def rLenO (C : Addr) (sp : Sp) : List V → Hp → VK → Prop := fun xs H Q => ∃ a dx fs, xs = [.ref a] ∧ H a = some (.ins C dx fs) ∧ sp [.ref a] H (fun v H' => ∃ n : Int, v = .int n ∧ 0 ≤ n ∧ n < 2 ^ 63 ∧ Q (.int n) H') E0
theorem call_lenO {X : Cx} {CX : CXT} {C f : Addr} {fd : FuncData} {ps : List Str} {k : Nat} {sp : Sp} (F : FnOk X.prog X.w X.K X.mg X.base CX k f fd ps sp) (hr : Room (k + 1) X.A) (hb : Binds X.K fd ps [])
    (hx : Passes CX X E0) (hs : PySem.W.findIn X.K (.ref C) "__len__" = some (some (.ref f))) (hf : PySem.W.isFn X.K (.ref f) = true) : CallR X (.builtin "len") (rLenO C sp) := by
  intro pins s σ H xs us Q I rv h
  obtain ⟨a, dx, fs, rfl, h1, hsp⟩ := h
  obtain ⟨u, rfl, ru⟩ := vals1 rv
  cases ru
  obtain ⟨mA, J, _⟩ := ins_get I.hok h1
  obtain ⟨od, J, _⟩ := J.look
  obtain ⟨m, hF⟩ := I.fr
  refine PySem.W.len_K hF I.ok.mod.kin J hs hf ?_
  have sb : Sub X k X.A.in1 := (⟨hr, rfl⟩ : Sub X (k + 1) X.A).in1
  have e0 : Env0 X.prog X.w X.K X.mg X.base X.A.in1 X.stack s H := by
    have e := I.env0
    exact ⟨by rw [sb.fr]; exact e.frames, e.mod, e.bs, e.bsz, e.funs, e.frf, e.hok, e.bare⟩
  have hl := F.len _ _ _ _ hsp
  have r2 : Vals [V.ref a] [Value.ref a] := .cons rfl .nil
  refine wpAny_call (codeAny_mono (F.run X.A.in1 X.stack s H ⟨[.ref a], []⟩ [.ref a] [.ref a] _ E0 sb.room e0 (by
    have := hb s [.ref a] I.kIn (by simpa using hl)
    simpa using this) r2 hsp) fun r s' hq => ?_)
  cases r with
  | error e => exact hx pins σ H s e s' I hq
  | ok fl =>
    cases fl with
    | next => exact False.elim hq
    | brk => exact False.elim hq
    | cont => exact False.elim hq
    | ret w =>
      obtain ⟨v, H', I', rv', n, ev, h0, h1', q⟩ := I.after hq
      subst ev
      obtain ⟨t, rfl⟩ := rv'
      exact ⟨⟨h0, h1'⟩, ⟨.int n, H', I'.tok _, ⟨_, rfl⟩, q⟩⟩
def qLenO (C : Str) (sp : DSp) : QA := fun xs μ R => ∃ gs, xs = [.obj C gs] ∧ sp xs μ (fun d μ' => ∃ n : Int, d = .int n ∧ 0 ≤ n ∧ n < 2 ^ 63 ∧ R (.int n) μ') fun _ _ _ => False
theorem c_lenO {X : Cx} {C : Str} {f : Addr} {ps : List Str} {k : Nat} {sp : DSp} (F : DFn X.prog X.w X.K X.mg X.base k f ps [] sp) (hr : Room (k + 1) X.A)
    (hs : PySem.W.findIn X.K (.ref (He.ga X.K C)) "__len__" = some (some (.ref f))) (hf : PySem.W.isFn X.K (.ref f) = true) : DCl X (.builtin "len") (qLenO C sp) := by
  obtain ⟨fd, dvs, ds, F1, hbi, hd, hrp⟩ := F.ex
  have e := hrp (fun _ => none)
  cases e
  cases hd
  refine ⟨_, call_lenO (C := He.ga X.K C) F1 hr hbi pass0C hs hf, fun B Hf σ H Γ μ Hc Hm xs ds Q R rel ra h kn => ?_⟩
  obtain ⟨gs, rfl, hsp⟩ := h
  obtain ⟨v, rfl, r⟩ := ra.one
  cases id r with
  | obj ho rf =>
    refine ⟨_, _, _, rfl, rel.pt.exc _ _ ho, Hc, Hm, Hf, _, μ, _, _, rel.pt, rel.mu, .cons r .nil, hsp, fun v H' y μ' Hc' Hm' a b c e g => ?_, fun n gs μ' H' Hc' Hm' dx fs a b c e g hx => a.elim⟩
    obtain ⟨n, rfl, h0, h1, hR⟩ := a
    cases e.int_inv
    exact ⟨n, rfl, h0, h1, kn _ H' _ μ' Hc' Hm' hR ⟨b, rel.ex.trans g, rel.sg.mono g, c⟩ (.int n) g⟩
end Nod
set_option Elab.async false
set_option linter.all false
set_option maxRecDepth 100000
set_option maxHeartbeats 4000000
/-! an own class whose __iter__ says return iter(self.f), f a tuple: for x in o, list(o) -/
namespace Nod
open PySem PySem.Spec PyProof.Rows L2
open Evl (Ex)
/-! ### iter(t), told by its object -/
def ItT (t it : Addr) : HO := .ext fun h => h.get? it = some (oX false t)
theorem itT_ok {P : Program} {w : World} {H : Hp} {h : Heap} {t it : Addr} (e : h.get? it = some (oX false t)) : ObjOk P w H h it (ItT t it) := ⟨e, ⟨_, e⟩, fun h1 h2 q k => k _ q⟩
theorem iter_tup {prog : Program} {w : World} {A : Around} {E : Value → Shared → Prop} {s : Shared} {t : Addr} {items : Array Value} {Q : Value → Shared → Prop} (ht : s.heap.IsTuple t items) (h : Q (.ref s.heap.objs.size) { s with heap := s.heap.push (oX false t) }) :
    wpAny (model prog w) A (call (.builtin "iter") [.ref t]) Q E s := by
  refine Calls.call_function_entry (by decide +kernel) (by decide +kernel) PySem.W.kdk_entry_iter (PySem.W.kdk_args_iter _) ?_
  unfold Builtin.«iter»
  refine wpAny_bind (m := someArgs "iter" 1 2 _) (wpAny_of_eq (a := [Value.ref t]) (by first | rfl | kernel_rfl!) ?_)
  show wpAny _ _ (pyIter (.ref t) >>= _) _ _ _
  exact wpAny_bind (wpAny_pyIter_tuple ht (wpAny_pure ⟨_, rfl, h⟩))
def rIterT (K : PySem.W.Frag) (n : Nat) : List V → Hp → VK → Prop := fun xs H Q => ∃ (t : Addr) (zs : List V), xs = [.ref t] ∧ SqT K H t zs ∧ ∀ it, H it = none → n ≤ it → Q (.ref it) (upd H it (ItT t it))
theorem call_iterT {X : Cx} : CallR X (.builtin "iter") (rIterT X.K X.s_0.heap.objs.size) := by
  intro pins s σ H xs us Q I r h
  obtain ⟨t, zs, rfl, hq, q⟩ := h
  obtain ⟨u, rfl, ru⟩ := vals1 r
  cases ru
  obtain ⟨its, rv, pl, hz⟩ := I.tuple hq
  refine iter_tup (show s.heap.IsTuple t its.toArray from pl) ?_
  exact ⟨.ref s.heap.objs.size, _, I.laid (t' := s.toks) (fun b u e => Heap.get?_push_of_some _ e) (Nat.le_refl _) (itT_ok (Heap.get?_push_size _ rfl)), rfl, q _ (I.hok.fresh (Nat.le_refl _)) I.sz⟩
/-! ### a def whose promise may tell how large the heap is -/
structure FnI (P : Program) (w : World) (K : PySem.W.Frag) (mg : Str → Option Value) (base : Heap) (k : Nat) (f : Addr) (fd : FuncData) (ps : List Str) (sp : Nat → Sp) : Prop where
  len : ∀ n vs H Q E, sp n vs H Q E → vs.length = ps.length
  run : ∀ (A : Around) (outer : List Env) (s : Shared) (H : Hp) (args : Args) (us : List Value) (vs : List V) (Q : VK), Room k A → Env0 P w K mg base A outer s H → BindsTo s fd args (ps.zip us) → Vals vs us → sp s.heap.objs.size vs H Q E0 →
    codeAny (model P w) A (.call (.ref f) args) (CR (L2.CX P w) outer P w H s Q E0) s
theorem fn_ofI {P : Program} {w : World} {K : PySem.W.Frag} {mg : Str → Option Value} {base : Heap} {x qual : Str} {params : Arguments} {body : List Stmt} {scope : Scope} {dvs : List V} {kws : List (Str × V)} {f : Addr} {fd : FuncData} {N ps : List Str} {k : Nat} {sp : Nat → Sp} (F : FunD K x qual params body scope dvs kws f fd) (S : FnScope N ps scope)
    (len : ∀ n vs H Q E, sp n vs H Q E → vs.length = ps.length)
    (hbody : ∀ (cdv : Value) (A : Around) (outer : List Env) (s : Shared) (H : Hp) (vs : List V) (Q : VK), Room k (A.deeper (envOfC qual scope s.heap.objs.size f cdv)) → sp s.heap.objs.size vs H Q E0 →
      ∃ t, PSs (cxOf (L2.CX P w) P w K mg base N qual scope f cdv A outer s H E0) body t ∧ t { nx := fun _ H' => Q .non H', rt := Q } (L2.start N vs) H) : FnI P w K mg base (k + 1) f fd ps sp := by
  obtain ⟨oc, od, dV, kV, doc, pm, an, cdv, ct, osl, rfl, lk, hcd, _, _⟩ := F.ex
  refine ⟨len, fun A outer s H args us vs Q hr e0 hb r hsp => ?_⟩
  have hl := len _ _ _ _ _ hsp
  have KX : K.In s.heap := e0.mod.kin.keeps fun b o e => (e0.bs b o e).1
  have lim : s.heap.NoLimit := e0.mod.nolimit.keeps fun b o e => (e0.bs b o e).1
  have hkind : ∀ y ∈ ps.zip us, scope.names.lookup y.1 = some .local ∨ (scope.names.lookup y.1 = some .cell ∧ ((cellsFrom (s.heap.objs.size + 1) scope.names []).lookup y.1).isSome = true) := fun y hy => by
    obtain ⟨n, v⟩ := y
    rcases S.par n (List.of_mem_zip hy).1 with q | q
    · exact .inl q
    · exact .inr ⟨q, PySem.W.cellsFrom_some _ _ _ (.inl q)⟩
  refine codeAny_call_function hr.depth (KX _ _ lk) rfl S.co S.gen rfl (PySem.W.codeRec_of KX hcd) (hb _ _ _ _ ?_)
  refine wpAny_newFunctionEnv_cells S.kind hkind fun env he s1 x => ?_
  subst he
  refine ⟨lim.keeps x.toInCall.keep, codeAny_func ?_⟩
  obtain ⟨t, ht, hq⟩ := hbody cdv A outer s H vs Q (hr.deeper _) hsp
  have I : Inv (cxOf (L2.CX P w) P w K mg base N qual scope f cdv A outer s H E0) [] (L2.start N vs) H s1 := inv_start S hr.hd e0 hl r x
  refine wpAny_mono (ht.run [] s1 (L2.start N vs) H _ I hq) (fun fl s' hs => ?_) fun e s' hs => hs
  cases fl with
  | ret u => obtain ⟨v, σ', H', J, rv, q⟩ := hs; exact ⟨v, H', J.os, J.bare, J.base, J.hok, rv, q⟩
  | next => obtain ⟨σ', H', J, q⟩ := hs; exact ⟨V.non, H', J.os, J.bare, J.base, J.hok, rfl, q⟩
  | brk => obtain ⟨_, _, _, q⟩ := hs; exact False.elim q
  | cont => obtain ⟨_, _, _, q⟩ := hs; exact False.elim q
/-- __iter__ -/
def spIter (K : PySem.W.Frag) (C : Addr) (fld : Str) : Nat → Sp := fun n vs H Q _ => ∃ a dx fs t xs, vs = [.ref a] ∧ H a = some (.ins C dx fs) ∧ fs.lookup fld = some (.ref t) ∧ SqT K H t xs ∧ ∀ it, H it = none → n ≤ it → Q (.ref it) (upd H it (ItT t it))
/-- __len__ -/
def spLen (K : PySem.W.Frag) (C : Addr) (fld : Str) : Sp := fun vs H Q _ => ∃ a dx fs t xs, vs = [.ref a] ∧ H a = some (.ins C dx fs) ∧ fs.lookup fld = some (.ref t) ∧ SqT K H t xs ∧ Q (.int xs.length) H
structure OwnItP (P : Program) (w : World) (K : PySem.W.Frag) (mg : Str → Option Value) (base : Heap) (C : Addr) (fld : Str) (k : Nat) : Prop where
  it : ∃ fi fd, PySem.W.findIn K (.ref C) "__iter__" = some (some (.ref fi)) ∧ PySem.W.isFn K (.ref fi) = true ∧ FnI P w K mg base k fi fd ["self"] (spIter K C fld) ∧ Binds K fd ["self"] []
  ln : ∃ fl fd, PySem.W.findIn K (.ref C) "__len__" = some (some (.ref fl)) ∧ PySem.W.isFn K (.ref fl) = true ∧ FnOk P w K mg base (L2.CX P w) k fl fd ["self"] (spLen K C fld) ∧ Binds K fd ["self"] []
abbrev OwnIt (X : Cx) (C : Addr) (fld : Str) (k : Nat) : Prop := OwnItP X.prog X.w X.K X.mg X.base C fld k
section
variable {X : Cx} {C : Addr} {fld : Str} {k : Nat} {pins : List (Addr × Obj)} {σ : L2.St} {H : Hp} {s : Shared} {a dx t : Addr} {fs : List (Str × V)} {xs : List V} {A : Around}
theorem env0_sub (sb : Sub X k A) (I : Inv X pins σ H s) : Env0 X.prog X.w X.K X.mg X.base A X.stack s H := by
  have e := I.env0
  exact ⟨by rw [sb.fr]; exact e.frames, e.mod, e.bs, e.bsz, e.funs, e.frf, e.hok, e.bare⟩
theorem no0 {X : Cx} {s0 : Shared} {e : Value} {s' : Shared} {H0 : Hp} (h : L2.CX X.prog X.w X.stack H0 s0 E0 e s') : False := by
  obtain ⟨_, _, _, _, _, _, _, _, _, _, _, _, z⟩ := h
  exact z
theorem own_iter {Q : Value → Shared → Prop} {E : Value → Shared → Prop} (O : OwnIt X C fld k) (sb : Sub X k A) (I : Inv X pins σ H s) (ha : H a = some (.ins C dx fs)) (hf : fs.lookup fld = some (.ref t)) (hq : SqT X.K H t xs)
    (h : ∀ it s', Inv X pins σ (upd H it (ItT t it)) s' → H it = none → s.heap.objs.size ≤ it → Q (.ref it) s') : wpAny (model X.prog X.w) A (pyIter (.ref a)) Q E s := by
  obtain ⟨fi, fd, h1, h2, F, hb⟩ := O.it
  obtain ⟨mA, J, _⟩ := ins_get I.hok ha
  obtain ⟨od, J, _⟩ := J.look
  obtain ⟨m, hF⟩ := I.fr
  refine PySem.W.owit_iter hF I.ok.mod.kin J h1 h2 ?_
  have hsp : spIter X.K C fld s.heap.objs.size [.ref a] H (fun v H' => ∃ it, v = .ref it ∧ H' = upd H it (ItT t it) ∧ H it = none ∧ s.heap.objs.size ≤ it) E0 := ⟨a, dx, fs, t, xs, rfl, ha, hf, hq, fun it hi hn => ⟨it, rfl, rfl, hi, hn⟩⟩
  have r2 : Vals [V.ref a] [Value.ref a] := .cons rfl .nil
  refine wpAny_call (codeAny_mono (F.run A X.stack s H ⟨[.ref a], []⟩ [.ref a] [.ref a] _ sb.room (env0_sub sb I) (by
    have := hb s [.ref a] I.kIn (by simp)
    simpa using this) r2 hsp) fun r s' hr => ?_)
  cases r with
  | error e => exact (no0 (X := X) hr).elim
  | ok fl =>
    cases fl with
    | next => exact False.elim hr
    | brk => exact False.elim hr
    | cont => exact False.elim hr
    | ret w =>
      obtain ⟨v, H', I', rv, it, ev, eH, hi, hn⟩ := I.after hr
      subst ev eH
      cases rv
      have hg : s'.heap.get? it = some (oX false t) := (I'.hok it _ upd_same).1
      unfold PySem.W.OwitIt
      exact wpAny_specialOf (T := "tuple_iterator") ⟨_, hg, rfl⟩ slot_tupleiter_next.lookup (h it s' I' hi hn)
end
def iOwn (K : PySem.W.Frag) (C : Addr) (fld : Str) (te : TE) : TI := fun σ H R => te σ H fun x H1 => ∃ a dx fs t xs, x = .ref a ∧ H1 a = some (.ins C dx fs) ∧ fs.lookup fld = some (.ref t) ∧ SqT K H1 t xs ∧ R (Itt K t) H1
theorem pi_own {X : Cx} {C : Addr} {fld : Str} {k : Nat} {tg e : Expr} {te : TE} (O : OwnIt X C fld k) (hr : Room k X.A) (he : PE X e te) : PI X tg e (iOwn X.K C fld te) := by
  refine ⟨fun pins s σ H R I h => ?_⟩
  refine thn (he.run pins s σ H _ I h) fun v s1 ⟨x, H1, I1, r1, q1⟩ => ?_
  obtain ⟨a, dx, fs, t, xs, rfl, ha, hf, hq, q⟩ := q1
  cases r1
  refine own_iter O ⟨hr, rfl⟩ I1 ha hf hq fun it s' I' hi hn => ?_
  have hd : ItX.dropH (upd H1 it (ItT t it)) it = H1 := ItX.dropH_upd hi
  have hg : s'.heap.get? it = some (oX false t) := (I'.hok it _ upd_same).1
  have J : Inv X pins σ H1 s' := by have := ItX.inv_drop I' (show upd H1 it (ItT t it) it = some (.ext _) from upd_same); rw [hd] at this; exact this
  have fp := ItX.inv_fp I' (show upd H1 it (ItT t it) it = some (ItT t it) from upd_same) (Nat.le_trans I1.sz hn)
  rw [hd] at fp
  refine ⟨it, [it], _, _, H1, rfl, J, turn_tuple t it, ⟨_, hg, rfl, rfl⟩, fun b hb => ?_, q⟩
  rw [List.mem_singleton.mp hb]
  exact fp
end Nod
set_option Elab.async false
set_option linter.all false
set_option maxRecDepth 100000
set_option maxHeartbeats 4000000
/-! list(o) for such a class -/
namespace Nod
open PySem PySem.Spec PyProof.Rows L2
open Evl (Ex)
section
variable {X : Cx} {C : Addr} {fld : Str} {k : Nat} {pins : List (Addr × Obj)} {σ : L2.St} {H : Hp} {s : Shared} {a dx t : Addr} {fs : List (Str × V)} {xs : List V} {A : Around}
theorem own_len {Q : Value → Shared → Prop} {E : Value → Shared → Prop} (O : OwnIt X C fld k) (sb : Sub X (k + 1) A) (I : Inv X pins σ H s) (ha : H a = some (.ins C dx fs)) (hf : fs.lookup fld = some (.ref t)) (hq : SqT X.K H t xs) (hz : xs.length ≤ sizeLine)
    (h : ∀ tk s', Inv X pins σ H s' → Q (.int xs.length tk) s') : wpAny (model X.prog X.w) A (call (.builtin "len") [.ref a]) Q E s := by
  obtain ⟨fl, fd, h1, h2, F, hb⟩ := O.ln
  obtain ⟨mA, J, _⟩ := ins_get I.hok ha
  obtain ⟨od, J, _⟩ := J.look
  obtain ⟨m, hF⟩ := I.fr
  refine PySem.W.len_K hF I.ok.mod.kin J h1 h2 ?_
  have hsp : spLen X.K C fld [.ref a] H (fun v H' => v = .int xs.length ∧ H' = H) E0 := ⟨a, dx, fs, t, xs, rfl, ha, hf, hq, rfl, rfl⟩
  have r2 : Vals [V.ref a] [Value.ref a] := .cons rfl .nil
  refine wpAny_call (codeAny_mono (F.run A.in1 X.stack s H ⟨[.ref a], []⟩ [.ref a] [.ref a] _ E0 sb.in1.room (env0_sub sb.in1 I) (by
    have := hb s [.ref a] I.kIn (by simp)
    simpa using this) r2 hsp) fun r s' hr => ?_)
  cases r with
  | error e => exact (no0 (X := X) hr).elim
  | ok fl =>
    cases fl with
    | next => exact False.elim hr
    | brk => exact False.elim hr
    | cont => exact False.elim hr
    | ret w =>
      obtain ⟨v, H', I', rv, ev, eH⟩ := I.after hr
      rw [eH] at I'
      subst ev
      obtain ⟨tk, rfl⟩ := rv
      have := sizeLine_eq
      exact ⟨⟨by omega, by omega⟩, h _ _ (I'.tok _)⟩
theorem own_hintL {Q : Bool → Shared → Prop} {E : Value → Shared → Prop} (O : OwnIt X C fld k) (sb : Sub X (k + 1) A) (I : Inv X pins σ H s) (ha : H a = some (.ins C dx fs)) (hf : fs.lookup fld = some (.ref t)) (hq : SqT X.K H t xs) (hz : xs.length ≤ sizeLine)
    (h : ∀ b s', Inv X pins σ H s' → Q b s') : wpAny (model X.prog X.w) A (Builtin.List.listLengthHint (.ref a)) Q E s := by
  obtain ⟨fl, fd, h1, h2, F, hb⟩ := O.ln
  obtain ⟨mA, J, _⟩ := ins_get I.hok ha
  obtain ⟨od, J, _⟩ := J.look
  unfold Builtin.List.listLengthHint
  refine wpAny_bind (wpAny_bind (J.type.here ((PySem.W.looks_findIn I.kIn h1).here ?_)))
  refine PySem.W.KFB.if_not rfl ?_
  refine PySem.W.KFB.if_so rfl ?_
  refine wpAny_bind (wpAny_rule ?_)
  refine wpAny_bind (wpAny_attempt (own_len O sb I ha hf hq hz fun tk s' I' => ?_))
  show wpAny _ A (if Builtin.List.listTooLong (xs.length : Int).toNat = true then _ else _) _ _ _
  rw [if_neg (by rw [Int.toNat_natCast, notLongL hz]; decide)]
  exact wpAny_pure (h _ _ I')
end
def rListO (K : PySem.W.Frag) (C : Addr) (fld : Str) : List V → Hp → VK → Prop := fun vs H Q => ∃ a dx fs t xs, vs = [.ref a] ∧ H a = some (.ins C dx fs) ∧ fs.lookup fld = some (.ref t) ∧ SqT K H t xs ∧ ∀ q, H q = none → Q (.ref q) (upd H q (.lst xs))
theorem call_listO {X : Cx} {C : Addr} {fld : Str} {k : Nat} (hc : X.calm = true) (O : OwnIt X C fld k) (hr : Room (k + 3) X.A) : CallR X (.type "list") (rListO X.K C fld) := by
  intro pins s σ H vs us Q I rv h
  obtain ⟨a, dx, fs, t, xs, rfl, ha, hf, hq, hQ⟩ := h
  obtain ⟨u, rfl, ru⟩ := rv.one
  cases ru
  have sb : Sub X (k + 1) X.A.in1.in1 := Sub.in1 (Sub.in1 (⟨hr, rfl⟩ : Sub X (k + 3) X.A))
  obtain ⟨its0, rv0, pl0, hz⟩ := I.tuple hq
  refine callType_codes (Q₁ := fun ob z => ob = .ref s.heap.objs.size ∧ z = { s with heap := s.heap.push { cls := .type "list", data := .seq #[] } }) PySem.F.called_list (PySem.F.typeCall_list_1 _) PySem.F.entry_list_init (code_list_new _ ⟨rfl, rfl⟩) fun ob z hz1 => ?_
  obtain ⟨rfl, rfl⟩ := hz1
  obtain ⟨S, hSe⟩ : ∃ S, S = s.heap.objs.size := ⟨_, rfl⟩
  have g0 : (s.heap.push { cls := .type "list", data := .seq #[] }).get? S = some { cls := .type "list", data := .seq #[] } := by rw [hSe]; exact Heap.get?_push_size _ rfl
  have fr : H S = none := by rw [hSe]; exact I.hok.fresh (Nat.le_refl _)
  have J1 : Inv X pins σ (upd H S (.lst [])) { s with heap := s.heap.push { cls := .type "list", data := .seq #[] } } := by rw [hSe]; exact I.lnew (its := []) (t' := s.toks) .nil (Nat.zero_le _)
  rw [← hSe]
  refine ⟨⟨_, g0, rfl⟩, PySem.F.args_list_init_2 _ _, ?_⟩
  show wpAny _ _ (do let old ← Builtin.List.listItems (.ref S); Builtin.List.listUpdate (.ref S) (fun _ => #[]); letGo old.toList.reverse; Builtin.List.listExtendWith (.ref S) (.ref a) .none) _ _ _
  refine wpAny_bind ?_
  unfold Builtin.List.listItems
  refine wpAny_bind (wpAny_seqItems g0 rfl (wpAny_pure ?_))
  show wpAny _ _ (updateSeq S (fun _ => #[]) >>= fun _ => letGo (#[] : Array Value).toList.reverse >>= fun _ => Builtin.List.listExtendWith (.ref S) (.ref a) .none) _ _ _
  refine wpAny_bind (wpAny_updateSeq g0 rfl ?_)
  have J2 := J1.lset (f := fun _ => #[]) (its := []) (its' := []) (ys := []) (t' := s.toks) upd_same g0 rfl .nil (Nat.zero_le _)
  rw [upd_upd] at J2
  refine wpAny_bind (wpAny_letGo ?_)
  have nS : S ≠ a := fun z => by rw [← z, fr] at ha; cases ha
  have ha2 : upd H S (.lst []) a = some (.ins C dx fs) := by rw [upd_ne (Ne.symm nS)]; exact ha
  have hq2 : SqT X.K (upd H S (.lst [])) t xs := hq.ext (L2.Ext.upd fr)
  obtain ⟨mA, W, _⟩ := ins_get J2.hok ha2
  obtain ⟨od, W, _⟩ := W.look
  unfold Builtin.List.listExtendWith
  refine wpAny_bind (W.type.here ?_)
  have e1 : Builtin.List.listSameRef (.ref S) (.ref a) = false := by simp [Builtin.List.listSameRef, nS]
  simp only [e1, show (Value.ref C == Value.type "list") = false from rfl, show (Value.ref C == Value.type "tuple") = false from rfl, Bool.or_false, Bool.false_eq_true, if_false]
  refine wpAny_bind (own_iter O (sb.mono (Nat.le_succ k)) J2 ha2 hf hq2 fun it s3 J3 hi hn => ?_)
  have nit : ∀ b o, upd H S (.lst []) b = some o → b ≠ it := fun b o e z => by rw [z, hi] at e; cases e
  have keep3 : L2.Ext (upd H S (.lst [])) (upd (upd H S (.lst [])) it (ItT t it)) := L2.Ext.upd hi
  refine wpAny_bind (wpAny_holding (own_hintL O sb J3 (keep3 _ _ ha2) hf (hq2.ext keep3) hz fun b s4 J4 => ?_))
  have gi : s4.heap.get? it = some (oX false t) := (J4.hok it _ upd_same).1
  have hd : ItX.dropH (upd (upd H S (.lst [])) it (ItT t it)) it = upd H S (.lst []) := ItX.dropH_upd hi
  have J5 : Inv X pins σ (upd H S (.lst [])) s4 := by have := ItX.inv_drop J4 (show upd (upd H S (.lst [])) it (ItT t it) it = some (.ext _) from upd_same); rw [hd] at this; exact this
  have big : X.s_0.heap.objs.size ≤ it := by
    refine Nat.le_trans I.sz (Nat.le_trans ?_ hn)
    show s.heap.objs.size ≤ _
    rw [← hSe]
    exact Nat.le_of_lt (Heap.lt_size (Heap.get?_update_self (Obj.mapSeq fun _ => #[]) g0 rfl))
  have fp := ItX.inv_fp J4 (show upd (upd H S (.lst [])) it (ItT t it) it = some (ItT t it) from upd_same) big
  rw [hd] at fp
  have nSi : S ≠ it := nit S _ upd_same
  -- the loop, from a state s5 in which the list at S is empty
  have loop : ∀ s5 : Shared, Inv X pins σ (upd H S (.lst [])) s5 → s5.heap.get? it = some (oX false t) → codeAny (model X.prog X.w) X.A.in1 (.builtin "list.extend.loop" ⟨[.ref S, .ref it, .none], []⟩) (wants (fun r s₂ => r = .none ∧ EP X pins σ Q (.ref S) s₂) X.xe) s5 := fun s5 J gi5 => by
    obtain ⟨z6, ys, c, r6, hl6, g6⟩ := J.lstM (upd_same (H := H) (a := S))
    cases r6
    obtain ⟨its, r7, p7, z7⟩ := J.tuple hq2
    have apart : t ≠ it := sqx_apart (k := false) J hq2 fp
    have nSt : S ≠ t := fun z => by
      obtain ⟨o, ho, hcl, _⟩ := p7
      rw [← z, g6] at ho
      cases ho
      simp at hcl
    have hh : X.A.in1.in1.handled = none := J.ok.hd hc
    have Wk := (walks_X (P := X.prog) (w := X.w) (A := X.A.in1.in1) hh false it t apart its.toArray).toS
    refine codeAny_extend_loopS Wk (by rw [List.size_toArray, ← r7.length]; exact hz) S (by simp [nSi, nSt]) .none (its.toArray.size - 0) 0 s5 #[] c rfl (Nat.zero_le _) ⟨itx_start (k := false) gi5, p7⟩ g6 (ItemsOf.nil _) fun s6 acc c6 mv gS items => ?_
    have eacc : acc = its.toArray := by
      refine Array.ext items.1 fun i h1 h2 => ?_
      have h3 : its.toArray[i]? = some acc[i] := items.2 i acc[i] (by simp [h1])
      rw [Array.getElem?_eq_getElem h2] at h3
      exact (Option.some.inj h3).symm
    subst eacc
    obtain ⟨h5, g5, d5, t5, o5⟩ := s5
    obtain ⟨h6, gg, dd, t6, oo⟩ := s6
    obtain ⟨mh, mg, md, mo, mt⟩ := mv
    obtain rfl : gg = g5 := mg
    obtain rfl : dd = d5 := md
    obtain rfl : oo = o5 := mo
    have hS6 : h6.get? S = some { cls := .type "list", dict := none, data := .seq its.toArray c6, slots := #[] } := gS
    have a1 : (h6.update S fun _ => { cls := .type "list", data := .seq (#[] : Array Value) c }).get? S = some { cls := .type "list", data := .seq (#[] : Array Value) c } := Heap.get?_update_self _ hS6 rfl
    have Ja : Inv X pins σ (upd H S (.lst [])) ⟨h6.update S fun _ => { cls := .type "list", data := .seq (#[] : Array Value) c }, gg, dd, t6, oo⟩ := J.turnedL (t' := t6) (ch := [it]) (fun b o hb q => by
      by_cases e : b = S
      · subst e
        rw [a1]
        have g6' : h5.get? b = some { cls := .type "list", data := .seq (#[] : Array Value) c } := g6
        exact (g6'.symm.trans q)
      · rw [Heap.get?_update_other _ _ (Ne.symm e)]
        exact mh b o (by simp [e]; simpa using hb) q) (fun b hb => by rw [List.mem_singleton.mp hb]; exact fp)
    have Jb := Ja.write (x := S) (e := S) (h' := h6) (t' := t6) (o := .lst xs) (by rw [upd_same]; exact True.intro) (.inl rfl) (fun b o hb q => by rw [Heap.get?_update_other _ _ (Ne.symm hb)] at q; exact q) ⟨_, hS6⟩ ⟨hz, its, c6, r7, hS6⟩
    rw [upd_upd] at Jb
    exact ⟨rfl, .ref S, _, Jb, rfl, hQ S fr⟩
  refine wpAny_ite_split (fun _ => ?_) (fun _ => wpAny_pure ⟨plainId_quiet PySem.F.plain_extend_loop _, loop s4 J5 gi⟩)
  refine wpAny_bind (wpAny_rule ?_)
  refine wpAny_bind ?_
  obtain ⟨z7, ys, c7, r7, hl7, g7⟩ := J5.lstM (upd_same (H := H) (a := S))
  cases r7
  show wpAny _ _ (updateSeq S (·.push .none) >>= fun _ => updateSeq S (·.pop)) _ _ _
  refine wpAny_bind (wpAny_updateSeq g7 rfl ?_)
  have J8 := J5.lset (f := (·.push Value.none)) (its' := [Value.none]) (ys := [.non]) (t' := s4.toks) upd_same g7 (by simp) (.cons rfl .nil) (by rw [List.length_singleton, sizeLine_eq]; decide)
  rw [upd_upd] at J8
  obtain ⟨z9, ys9, c9, r9, hl9, g9⟩ := J8.lstM (upd_same (H := H) (a := S))
  obtain ⟨u9, rfl, ru9⟩ := r9.one
  refine wpAny_updateSeq g9 rfl ?_ (by show 1 ≤ sizeLine; rw [sizeLine_eq]; decide) (by show 0 ≤ sizeLine + 1; exact Nat.zero_le _)
  have J10 := J8.lset (f := (·.pop)) (its := [u9]) (its' := []) (ys := []) (t' := s4.toks) upd_same g9 (by rfl) .nil (Nat.zero_le _)
  rw [upd_upd] at J10
  refine wpAny_pure ⟨plainId_quiet PySem.F.plain_extend_loop _, loop _ J10 ?_⟩
  exact ((Heap.get?_update_other _ _ nSi).trans ((Heap.get?_update_other _ _ nSi).trans gi))
/-! ### over data -/
def qListO (C : Str) (fld : Str) : QA := fun xs μ R => ∃ gs y ds, xs = [.obj C gs] ∧ gs.lookup fld = some y ∧ (y = .tup ds ∨ y = .ftup ds) ∧ R (.lst ds) μ
theorem rp_tupH {K : PySem.W.Frag} {H : Hp} {v : V} {y : D} {ds : List D} (r : Rp K H v y) (h : y = .tup ds ∨ y = .ftup ds) : ∃ t vs, v = .ref t ∧ TupH H t vs ∧ RpA K H vs ds := by
  rcases h with rfl | rfl
  · cases r with
    | tup ht ra => exact ⟨_, _, rfl, .inl ht, ra⟩
  · cases r with
    | ftup ht hn ra => exact ⟨_, _, rfl, .inr ⟨_, ht⟩, ra⟩
theorem c_listO {X : Cx} {C : Str} {fld : Str} {k : Nat} (hc : X.calm = true) (O : OwnIt X (He.ga X.K C) fld k) (hr : Room (k + 3) X.A) : DCl X (.type "list") (qListO C fld) := ⟨_, call_listO hc O hr, fun B Hf σ H Γ μ Hc Hm xs ds Q R rel ra h kn => by
  obtain ⟨gs, y, ys, rfl, hl, hy, hR⟩ := h
  obtain ⟨v, rfl, r⟩ := ra.one
  cases r with
  | obj ho rf =>
    obtain ⟨w, hw, rw'⟩ := (rf.look fld).1 y hl
    obtain ⟨t, vs, rfl, ht, rt⟩ := rp_tupH rw' hy
    refine ⟨_, _, _, t, vs, rfl, rel.pt.exc _ _ ho, hw, (ht.ex rel.pt.exc).sq, fun p hp => ?_⟩
    obtain ⟨rel2, ex2⟩ := rel.newc (o := .lst vs) hp
    exact kn _ _ _ _ _ _ hR rel2 (.lst upd_same (rt.mono ex2)) ex2⟩
def dIOwn (C : Str) (fld : Str) (da : DT) : DIt := fun Γ μ R => da Γ μ fun x μ1 => ∃ gs y ds, x = .obj C gs ∧ gs.lookup fld = some y ∧ (y = .tup ds ∨ y = .ftup ds) ∧ R ds.length (itD ds) μ1
theorem di_own {X : Cx} {L : Lc X} {C : Str} {fld : Str} {k : Nat} {tg e : Expr} {da : DT} (O : OwnIt X (He.ga X.K C) fld k) (hr : Room k X.A) (he : DE X L e da) : DI X L tg e (dIOwn C fld da) := by
  obtain ⟨t, p, la⟩ := he
  refine ⟨_, pi_own O hr p, fun Hf σ H Γ μ Hc Hm Q R hΦ rel h k => la Hf σ H Γ μ Hc Hm _ _ hΦ rel h fun x H1 dx μ1 Hc1 Hm1 h1 rel1 rp1 ex1 => ?_⟩
  obtain ⟨gs, y, ds, rfl, hl, hy, hR⟩ := h1
  cases rp1 with
  | obj ho rf =>
    obtain ⟨w, hw, rw'⟩ := (rf.look fld).1 y hl
    obtain ⟨t, vs, rfl, ht, rt⟩ := rp_tupH rw' hy
    exact ⟨_, _, _, t, vs, rfl, rel1.pt.exc _ _ ho, hw, (ht.ex rel1.pt.exc).sq, k _ _ _ _ _ _ _ hR rel1 ex1 (step_tup ht rt)⟩
end Nod
set_option Elab.async false
set_option linter.all false
set_option maxRecDepth 100000
set_option maxHeartbeats 4000000
/-! a comprehension's list that will change; changing lists lent to a def that only reads; len(o) -/
namespace Nod
open PySem PySem.Spec PyProof.Rows L2
open Evl (Ex)
theorem Pt.unfM {H Hc Hm Hf : Hp} {a : Addr} {o : HO} (p : Pt H Hc Hm (upd Hf a o)) (hf : Hf a = none) : Pt H Hc (upd Hm a o) Hf := by
  have hc := p.cf a o upd_same
  have hm := p.mf a o upd_same
  refine ⟨?_, fun b u e => ?_, fun b u e => ?_, fun b u e => ?_, fun b vs e => ?_⟩
  · funext b
    rw [p.eq]
    unfold ov
    by_cases c : b = a
    · subst c; rw [upd_same, upd_same, hf]
    · rw [upd_ne c, upd_ne c]
  · by_cases c : b = a
    · subst c; exact hc
    · rw [upd_ne c] at e; exact p.cm b u e
  · by_cases c : b = a
    · subst c; rw [hf] at e; cases e
    · exact p.cf b u (by rw [upd_ne c]; exact e)
  · by_cases c : b = a
    · subst c; rw [hf] at e; cases e
    · rw [upd_ne c]; exact p.mf b u (by rw [upd_ne c]; exact e)
  · by_cases c : b = a
    · subst c; rw [hf] at e; cases e
    · exact p.nt b vs (by rw [upd_ne c]; exact e)
def lcKM (n : Nat) (f : Nat → D) (g : DG) (tt : DTT) (te : DT) (vs : List Nat) (Γ : DEn) (μ : Mu) (R : DK) : Prop := ∃ Pv : Nat → List D → Mu → Prop, Pv 0 [] μ ∧
  (∀ i acc μ', i < n → Pv i acc μ' → acc.length < sizeLine ∧ g (f i) (wipeD Γ vs) μ' fun Γ2 μ2 => tt Γ2 μ2 fun b μ3 => if b = true then te Γ2 μ3 fun y μ4 => Pv (i + 1) (acc ++ [y]) μ4 else Pv (i + 1) acc μ3) ∧
  ∀ acc μ', Pv n acc μ' → ∀ p, μ' p = none → R (.adr p) (updM μ' p (.lst acc))
def dLcM (di : DIt) (g : DG) (tt : DTT) (te : DT) (vs : List Nat) : DT := fun Γ μ R => di Γ μ fun n f μ1 => lcKM n f g tt te vs Γ μ1 R
theorem lfLcM {K : PySem.W.Frag} {B : Hp} {Φ : Hp → Prop} {wi : TI} {di : DIt} {tg : TG} {g : DG} {t : TT} {tt : DTT} {te : TE} {de : DT} {vs : List Nat} (li : LfI K B Φ wi di) (lg : LfG K B (fun _ => True) tg g) (mg : GMono tg) (og : OwnG vs tg) (lt : LfT K B (fun _ => True) t tt) (le : LfE K B (fun _ => True) te de) :
    LfE K B Φ (tLc wi tg t te vs) (dLcM di g tt de vs) := fun Hf σ H Γ μ Hc Hm Q R hΦ rel h k => li Hf σ H Γ μ Hc Hm _ _ hΦ rel h fun J H1 n f μ1 Hc1 Hm1 h1 rel1 ex1 sd Dl hD => by
  obtain ⟨Pv, h0, turn, hd⟩ := h1
  obtain ⟨n1, n2, n3⟩ := rel1.pt.free hD
  refine ⟨fun i m H' => m = n - i ∧ i ≤ n ∧ ∃ acc vacc μ' Hc' Hm', Pv i acc μ' ∧ Rel K B (upd Hf Dl (.lst vacc)) σ H' Γ μ' Hc' Hm' ∧ RpA K Hc' vacc acc ∧ Ex Hc1 Hc', ⟨n, by omega, Nat.zero_le _, [], [], μ1, Hc1, Hm1, h0, ⟨rel1.pt.setf n1 n2 (fun _ q => nomatch q) (fun _ q => nomatch q), rel1.ex, rel1.sg, rel1.mu⟩, .nil, Ex.refl _⟩, ?_⟩
  rintro i m H' ⟨rfl, hi, acc, vacc, μ', Hc', Hm', hP, rel', racc, ex'⟩
  have exH : Ex Hc1 H' := ex'.trans rel'.pt.exc
  by_cases hlt : i < n
  · refine .inr ⟨sd.goes i H' hlt exH, fun H2 => ∃ acc vacc μ' Hc' Hm', Pv (i + 1) acc μ' ∧ Rel K B (upd Hf Dl (.lst vacc)) σ H2 Γ μ' Hc' Hm' ∧ RpA K Hc' vacc acc ∧ Ex Hc1 Hc', fun H2 q => ⟨n - (i + 1), by omega, rfl, hlt, q⟩, fun v H2 y => ?_⟩
    obtain ⟨hz, tn⟩ := turn i acc μ' hlt hP
    have fin : ∀ (H2 : Hp) (Hc2 : Hp), Rel K B (upd Hf Dl (.lst vacc)) σ H2 Γ μ' Hc2 Hm' → Rp K Hc2 v (f i) → Ex Hc' Hc2 → tg v (wipe σ vs) H2 fun σ2 H2 => wipe σ2 vs = wipe σ vs ∧ t σ2 H2 fun b H3 => if b = true then te σ2 H3 fun y H4 => ∃ acc, H4 Dl = some (.lst acc) ∧ acc.length < sizeLine ∧
        (fun H2 => ∃ acc vacc μ' Hc' Hm', Pv (i + 1) acc μ' ∧ Rel K B (upd Hf Dl (.lst vacc)) σ H2 Γ μ' Hc' Hm' ∧ RpA K Hc' vacc acc ∧ Ex Hc1 Hc') (upd H4 Dl (.lst (acc ++ [y]))) else (fun H2 => ∃ acc vacc μ' Hc' Hm', Pv (i + 1) acc μ' ∧ Rel K B (upd Hf Dl (.lst vacc)) σ H2 Γ μ' Hc' Hm' ∧ RpA K Hc' vacc acc ∧ Ex Hc1 Hc') H3 := fun H2 Hc2 rel2 rp2 ex2 => by
      have ww : wipe (wipe σ vs) vs = wipe σ vs := by
        have : ∀ us : List Nat, (∀ u ∈ us, u ∈ vs) → wipe (wipe σ us) vs = wipe σ vs := by
          intro us
          induction us with
          | nil => intro _; rfl
          | cons a r ih =>
            intro hu
            show wipe ((wipe σ r).set a none) vs = wipe σ vs
            rw [wipe_set (hu a (List.mem_cons_self ..))]
            exact ih fun u hm => hu u (List.mem_cons_of_mem _ hm)
        exact this vs fun u hm => hm
      refine mg.mono _ _ _ _ _ (fun σ3 H3 q => ⟨q.1.trans ww, q.2⟩) (og _ _ _ _ ?_)
      refine lg _ (wipe σ vs) H2 (wipeD Γ vs) μ' Hc2 Hm' v (f i) _ _ trivial ⟨rel2.pt, rel2.ex, sg_wipe rel2.sg vs, rel2.mu⟩ rp2 tn fun σ3 H3 Γ3 μ3 Hc3 Hm3 h3 rel3 ex3 => ?_
      refine lt _ σ3 H3 Γ3 μ3 Hc3 Hm3 _ _ trivial rel3 h3 fun b H4 μ4 Hc4 Hm4 h4 rel4 ex4 => ?_
      have exq := ex3.trans ex4
      cases b with
      | true =>
        refine iteT (le _ σ3 H4 Γ3 μ4 Hc4 Hm4 _ _ trivial rel4 (by simpa using h4) fun y H5 dy μ5 Hc5 Hm5 h5 rel5 rp5 ex5 => ?_)
        have hD5 : H5 Dl = some (.lst vacc) := by rw [rel5.pt.eq]; exact ov_some upd_same
        have exr := (ex2.trans exq).trans ex5
        refine ⟨vacc, hD5, by rw [racc.length]; exact hz, acc ++ [dy], vacc ++ [y], μ5, Hc5, Hm5, h5, ⟨rel5.pt.reset (fun _ q => nomatch q) (fun _ q => nomatch q), rel5.ex, rel'.sg.mono exr, rel5.mu⟩, (racc.mono exr).append (.cons rp5 .nil), ex'.trans exr⟩
      | false =>
        exact iteF ⟨acc, vacc, μ4, Hc4, Hm4, by simpa using h4, ⟨rel4.pt, rel4.ex, rel'.sg.mono (ex2.trans exq), rel4.mu⟩, racc.mono (ex2.trans exq), ex'.trans (ex2.trans exq)⟩
    rcases sd.yields i H' v H2 hlt exH y with ⟨rfl, r⟩ | ⟨T, xs, ds, rfl, hT, rfl, ef, ra⟩
    · exact fin _ _ rel' (r.mono ex') (Ex.refl _)
    · obtain ⟨rel2, ex2⟩ := rel'.newc (o := .tup xs) hT
      exact fin _ _ rel2 (by rw [ef]; exact .tup upd_same (ra.mono (ex'.trans ex2))) ex2
  · have e : i = n := by omega
    subst e
    have hm : Hm' Dl = none := rel'.pt.mf Dl _ upd_same
    have pt2 : Pt H' Hc' (upd Hm' Dl (.lst vacc)) Hf := rel'.pt.unfM n3
    exact .inl ⟨sd.stops H' exH, k _ _ _ _ _ _ (hd acc μ' hP Dl (rel'.mu.none_ hm)) ⟨pt2, rel'.ex, rel'.sg, rel'.mu.upd racc⟩ (.adr Dl) (ex1.trans ex')⟩
section
variable {X : Cx} {L : Lc X} {elt tg iter : Expr} {ifs : List Expr} {scope : Scope} {pos : Pos} {di : DIt} {g : TG} {dg : DG} {tt : DTT} {te : DT}
theorem de_lcM (own : List (Str × Nat)) (hc : X.calm = true) (hN : X.N.Nodup) (hi : DI X L tg iter di) (ok : BlkOk X.N X.env.scope scope own)
    (hg : ∀ (s : Shared) (H : Hp) (C : Addr) (cl : List (Str × Addr)) (fp : List Addr), DGo (X.blk s H scope (compEnvC scope cl C X.env) fp) (L.blk s H scope (compEnvC scope cl C X.env) fp) (own.map (·.2)) tg g dg)
    (ht : ∀ (s : Shared) (H : Hp) (C : Addr) (cl : List (Str × Addr)) (fp : List Addr), DTss (X.blk s H scope (compEnvC scope cl C X.env) fp) (L.blk s H scope (compEnvC scope cl C X.env) fp) ifs tt)
    (he : ∀ (s : Shared) (H : Hp) (C : Addr) (cl : List (Str × Addr)) (fp : List Addr), DE (X.blk s H scope (compEnvC scope cl C X.env) fp) (L.blk s H scope (compEnvC scope cl C X.env) fp) elt te)
    (hs : ∀ x, foldedSetIterable iter X.env x = pure x := by intro _; rfl) : DE X L (.ListComp elt [⟨tg, iter, ifs, 0⟩] scope pos) (dLcM di dg tt te (own.map (·.2))) := by
  obtain ⟨wi, pi, li⟩ := hi
  obtain ⟨t, pt, lt⟩ := blk_t ht
  obtain ⟨u, pu, lu⟩ := blk_e he
  have q := hg X.s_0 X.H_0 0 [] []
  exact ⟨_, pe_lc hc hN pi ok (fun s H C cl fp => (hg s H C cl fp).1) pt pu hs, lfLcM li q.2.1 q.2.2.1 q.2.2.2 lt lu⟩
theorem dst_setLcM (own : List (Str × Nat)) {i : Nat} {y : Str} {py spos : Pos} (hc : X.calm = true) (hN : X.N.Nodup) (hi : DI X L tg iter di) (ok : BlkOk X.N X.env.scope scope own)
    (hg : ∀ (s : Shared) (H : Hp) (C : Addr) (cl : List (Str × Addr)) (fp : List Addr), DGo (X.blk s H scope (compEnvC scope cl C X.env) fp) (L.blk s H scope (compEnvC scope cl C X.env) fp) (own.map (·.2)) tg g dg)
    (ht : ∀ (s : Shared) (H : Hp) (C : Addr) (cl : List (Str × Addr)) (fp : List Addr), DTss (X.blk s H scope (compEnvC scope cl C X.env) fp) (L.blk s H scope (compEnvC scope cl C X.env) fp) ifs tt)
    (he : ∀ (s : Shared) (H : Hp) (C : Addr) (cl : List (Str × Addr)) (fp : List Addr), DE (X.blk s H scope (compEnvC scope cl C X.env) fp) (L.blk s H scope (compEnvC scope cl C X.env) fp) elt te)
    (hsw : swapsWith (.ListComp elt [⟨tg, iter, ifs, 0⟩] scope pos) (some (.Name y py)) spos.line X.env = pure true) (hy : X.N[i]? = some y := by rfl) (hyl : X.env.scope.names.lookup y = some .local := by rfl)
    (hs : ∀ x, foldedSetIterable iter X.env x = pure x := by intro _; rfl) : DSt X L (.Assign [.Name y py] (.ListComp elt [⟨tg, iter, ifs, 0⟩] scope pos) spos) (dSet i (dLcM di dg tt te (own.map (·.2)))) := by
  obtain ⟨wi, pi, li⟩ := hi
  obtain ⟨t, pt, lt⟩ := blk_t ht
  obtain ⟨u, pu, lu⟩ := blk_e he
  have q := hg X.s_0 X.H_0 0 [] []
  exact ⟨_, ps_setLc hc hN hy hyl hsw pi ok (fun s H C cl fp => (hg s H C cl fp).1) pt pu hs, fun Hf σ H Γ μ Hc Hm D De hΦ rel h k => lfLcM li q.2.1 q.2.2.1 q.2.2.2 lt lu Hf σ H Γ μ Hc Hm _ _ hΦ rel h fun x H1 dx μ1 Hc1 Hm1 h1 rel1 rp1 ex1 => k.nx _ _ _ _ _ _ h1 (rel1.setv rp1 _) ex1⟩
end
/-! ### lent lists -/
def lendM (μ : Mu) : D → D
  | .adr a => match μ a with
    | some (.lst ds) => .lst ds
    | _ => .adr a
  | d => d
def muN : Mu := fun _ => none
def dCallRO (sp : DSp) (d : DTA) : DT := fun Γ μ R => d Γ μ fun ds μ1 => sp (ds.map (lendM μ1)) muN (fun y μ2 => flatD y = true ∧ μ2 = muN ∧ R y μ1) fun _ _ _ => False
open Classical in
theorem lfCallRO {K : PySem.W.Frag} {B : Hp} {Φ : Hp → Prop} {W : WX} {t : TA} {d : DTA} {sp : DSp} (l : LfA K B Φ t d) : LfE K B Φ (tCallSD (low K sp) [] (WE W) t) (dCallRO sp d) := fun Hf σ H Γ μ Hc Hm Q R hΦ rel h kn =>
  l Hf σ H Γ μ Hc Hm _ _ hΦ rel h fun xs H1 ds μ1 Hc1 Hm1 h1 rel1 ra1 ex1 => by
    let isL : Addr → Prop := fun b => ∃ ys, μ1 b = some (.lst ys)
    have at_ : ∀ b, isL b → ∃ vs ys, μ1 b = some (.lst ys) ∧ Hm1 b = some (.lst vs) ∧ H1 b = some (.lst vs) ∧ RpA K Hc1 vs ys := fun b ⟨ys, e⟩ => by
      obtain ⟨o, ho, q⟩ := rel1.mu.get e
      cases o with
      | lst vs => exact ⟨vs, ys, e, ho, rel1.pt.exm _ _ ho, q⟩
      | _ => exact q.elim
    let HcP : Hp := fun b => if isL b then H1 b else Hc1 b
    let HfP : Hp := fun b => if isL b then none else ov Hm1 Hf b
    have cP : ∀ b, isL b → HcP b = H1 b := fun b c => if_pos c
    have cN : ∀ b, ¬ isL b → HcP b = Hc1 b := fun b c => if_neg c
    have fP : ∀ b, isL b → HfP b = none := fun b c => if_pos c
    have fN : ∀ b, ¬ isL b → HfP b = ov Hm1 Hf b := fun b c => if_neg c
    have exP : Ex Hc1 HcP := fun b o e => by
      have c : ¬ isL b := fun c => by
        obtain ⟨vs, _, _, q, _⟩ := at_ b c
        rw [rel1.pt.cm b _ q] at e; cases e
      rw [cN b c]; exact e
    have eqH : ∀ b, H1 b = ov Hc1 (ov Hm1 Hf) b := fun b => by
      rw [rel1.pt.eq]
      unfold ov
      cases Hf b <;> cases Hm1 b <;> rfl
    have ptP : Pt H1 HcP (fun _ => none) HfP := by
      refine ⟨?_, fun _ _ z => (by cases z), fun b o z => ?_, fun _ _ _ => rfl, fun b vs z => ?_⟩
      · funext b
        show H1 b = (match HfP b with | some o => some o | none => HcP b)
        by_cases c : isL b
        · rw [fP b c, cP b c]
        · rw [fN b c, cN b c, eqH]; rfl
      · by_cases c : isL b
        · rw [fP b c] at z; cases z
        · rw [cN b c]
          rw [fN b c] at z
          cases q : Hf b with
          | some u => exact rel1.pt.cf b u q
          | none => rw [ov_none q] at z; exact rel1.pt.cm b o z
      · by_cases c : isL b
        · rw [fP b c] at z; cases z
        · rw [fN b c] at z
          cases q : Hf b with
          | some u => rw [ov_some q] at z; cases z; exact rel1.pt.nt b vs q
          | none =>
            rw [ov_none q] at z
            rcases rel1.mu b with ⟨_, q3⟩ | ⟨m, o, _, h2, h3⟩
            · rw [z] at q3; cases q3
            · rw [z] at h2; cases h2
              cases m <;> exact h3.elim
    have raP : RpA K HcP xs (ds.map (lendM μ1)) := by
      have : ∀ {xs : List V} {ds : List D}, RpA K Hc1 xs ds → RpA K HcP xs (ds.map (lendM μ1)) := fun r => by
        rename_i xs0 ds0
        induction xs0 generalizing ds0 with
        | nil => cases r; exact .nil
        | cons v vs ih =>
          cases r with
          | @cons _ _ d ds r t =>
            refine .cons ?_ (ih t)
            cases r with
            | adr a =>
              by_cases c : isL a
              · obtain ⟨vs, ys, e1, e2, e3, e4⟩ := at_ a c
                show Rp K HcP (.ref a) (match μ1 a with | some (.lst ds) => .lst ds | _ => .adr a)
                rw [e1]
                exact .lst (by rw [cP a c]; exact e3) (e4.mono exP)
              · show Rp K HcP (.ref a) (match μ1 a with | some (.lst ds) => .lst ds | _ => .adr a)
                split
                · rename_i ys e; exact absurd ⟨ys, e⟩ c
                · exact .adr a
            | non => exact .non
            | bl b => exact .bl b
            | int b => exact .int b
            | str b => exact .str b
            | ty b => exact .ty b
            | scr hs => exact (Rp.scr hs).mono exP
            | tup h1 h2 => exact (Rp.tup h1 h2).mono exP
            | ftup h1 h2 h3 => exact (Rp.ftup h1 h2 h3).mono exP
            | lst h1 h2 => exact (Rp.lst h1 h2).mono exP
            | obj h1 h2 => exact (Rp.obj h1 h2).mono exP
      exact this ra1
    refine ⟨HcP, fun _ => none, HfP, ds.map (lendM μ1), muN, _, _, ptP, fun b => .inl ⟨rfl, rfl⟩, (by rw [List.append_nil]; exact raP), h1, fun v H' y μ' Hc' Hm' a pt' mu' rp ex => ?_, fun _ _ _ _ _ _ _ _ z => z.elim⟩
    obtain ⟨hfl, rfl, hR⟩ := a
    have m0 : ∀ b, Hm' b = none := fun b => by
      rcases mu' b with ⟨_, q⟩ | ⟨m, o, z, _⟩
      · exact q
      · cases z
    let Hc2 : Hp := fun b => if isL b then none else Hc' b
    have c2P : ∀ b, isL b → Hc2 b = none := fun b c => if_pos c
    have c2N : ∀ b, ¬ isL b → Hc2 b = Hc' b := fun b c => if_neg c
    have nf : ∀ b, isL b → Hf b = none := fun b c => by
      obtain ⟨vs, _, _, q, _⟩ := at_ b c
      cases z : Hf b with
      | none => rfl
      | some u => rw [rel1.pt.mf b u z] at q; cases q
    have ex2 : Ex Hc1 Hc2 := fun b o e => by
      have c : ¬ isL b := fun c => by
        obtain ⟨vs, _, _, q, _⟩ := at_ b c
        rw [rel1.pt.cm b _ q] at e; cases e
      rw [c2N b c]
      exact ex b o (exP b o e)
    have pt2 : Pt H' Hc2 Hm1 Hf := by
      refine ⟨?_, fun b o z => ?_, fun b o z => ?_, rel1.pt.mf, rel1.pt.nt⟩
      · funext b
        rw [pt'.eq]
        show (match HfP b with | some o => some o | none => (match Hm' b with | some o => some o | none => Hc' b)) = (match Hf b with | some o => some o | none => (match Hm1 b with | some o => some o | none => Hc2 b))
        rw [m0 b]
        by_cases c : isL b
        · obtain ⟨vs, _, _, q, q2, _⟩ := at_ b c
          rw [fP b c, nf b c, q]
          exact ex b _ (by rw [cP b c]; exact q2)
        · rw [fN b c, c2N b c]
          unfold ov
          cases Hf b <;> cases Hm1 b <;> rfl
      · by_cases c : isL b
        · exact c2P b c
        · rw [c2N b c]
          refine pt'.cf b o ?_
          rw [fN b c]
          cases q : Hf b with
          | some u => rw [rel1.pt.mf b u q] at z; cases z
          | none => rw [ov_none q]; exact z
      · have c : ¬ isL b := fun c => by rw [nf b c] at z; cases z
        rw [c2N b c]
        refine pt'.cf b o ?_
        rw [fN b c]
        exact ov_some z
    refine kn v H' y μ1 Hc2 Hm1 hR ⟨pt2, rel1.ex.trans ex2, rel1.sg.mono ex2, rel1.mu.mono ex2⟩ ?_ (ex1.trans ex2)
    cases rp <;> first | exact .non | exact .bl _ | exact .int _ | exact .str _ | cases hfl
theorem de_callRO {X : Cx} {L : Lc X} {k : Nat} {f : Addr} {ps : List Str} {sp : DSp} {x : Str} {p pos : Pos} {e : Expr} {es : List Expr} {d : DTA} (F : DFn X.prog X.w X.K X.mg X.base k f ps [] sp) (hr : Room k X.A) (hm : X.mg x = some (.ref f)) (ha : DA X L (e :: es) d) (hg : Gl X x := by rfl) (hdb : (x == ("__debug__" : Str)) = false := by decide)
    (he : starEach (e :: es) X.env = (false, eval e X.env) :: starEach es X.env := by rfl) (hpl : (backTo pos (starEach es X.env)).any (·.1) = false := by rfl) :
    DE X L (.Call (.Name x p) (e :: es) [] pos) (dCallRO sp d) := by
  obtain ⟨fd, dvs, ds, F1, hb, hd, hrp⟩ := F.ex
  have z := hrp (fun _ => none)
  cases z
  obtain ⟨t, pa, l⟩ := ha
  exact ⟨_, pe_callSD F1 hr hg hm F.kp hb hd (fun σ => passAt L.tk σ) pa hdb he hpl, lfCallRO l⟩
/-! ### a method called where L.W is told -/
theorem de_methE {X : Cx} {L : Lc X} {k : Nat} {f : Addr} {ps : List Str} {sp : DSp} {dds : List D} {m : Str} {pos apos : Pos} {e o : Expr} {es : List Expr} {da : DT} {d : DTA} {C : Str} {W : DW} (hW : L.W = W) (he : DE X L o da) (c : Cls X.K (He.ga X.K C)) (hm : Meth X.K (He.ga X.K C) m f) (F : DFn X.prog X.w X.K X.mg X.base k f ps dds sp) (hr : Room k X.A) (ha : DA X L (e :: es) d)
    (hst : starEach (e :: es) X.env = (false, eval e X.env) :: starEach es X.env := by rfl) (hpl : (backTo pos (starEach es X.env)).any (·.1) = false := by rfl) {pl : Sem Bool}
    (ht : eval (.Call (.Attribute o m apos) (e :: es) [] pos) X.env = (do
      let ov ← eval o X.env
      standAt apos.atName
      let (f, first) ← holding [ov] (getMethod ov m pl)
      callWith pos f first (backTo pos (starEach (e :: es) X.env)) (backToKw pos (keywordEach [] X.env))) := by rfl) :
    DE X L (.Call (.Attribute o m apos) (e :: es) [] pos) (dMeth C m sp dds W da d) := hW ▸ de_meth (pl := pl) he c hm F hr ha hst hpl ht
/-! ### len(o), o iterable -/
def qLenI (C : Str) (fld : Str) : QA := fun xs μ R => ∃ gs y ds, xs = [.obj C gs] ∧ gs.lookup fld = some y ∧ (y = .tup ds ∨ y = .ftup ds) ∧ R (.int ds.length) μ
def rLenI (K : PySem.W.Frag) (C : Addr) (fld : Str) : List V → Hp → VK → Prop := fun vs H Q => ∃ a dx fs t xs, vs = [.ref a] ∧ H a = some (.ins C dx fs) ∧ fs.lookup fld = some (.ref t) ∧ SqT K H t xs ∧ Q (.int xs.length) H
theorem call_lenI {X : Cx} {C : Addr} {fld : Str} {k : Nat} (O : OwnIt X C fld k) (hr : Room (k + 1) X.A) : CallR X (.builtin "len") (rLenI X.K C fld) := by
  intro pins s σ H vs us Q I rv h
  obtain ⟨a, dx, fs, t, xs, rfl, ha, hf, hq, hQ⟩ := h
  obtain ⟨u, rfl, ru⟩ := rv.one
  cases ru
  obtain ⟨its, _, _, hz⟩ := I.tuple hq
  exact own_len O ⟨hr, rfl⟩ I ha hf hq hz fun tk s' J => ⟨.int _, H, J, ⟨_, rfl⟩, hQ⟩
theorem c_lenI {X : Cx} {C : Str} {fld : Str} {k : Nat} (O : OwnIt X (He.ga X.K C) fld k) (hr : Room (k + 1) X.A) : DCl X (.builtin "len") (qLenI C fld) := by
  refine ⟨_, call_lenI O hr, fun B Hf σ H Γ μ Hc Hm xs ds Q R rel ra h kn => ?_⟩
  obtain ⟨gs, y, ys, rfl, hl, hy, hR⟩ := h
  obtain ⟨v, rfl, r⟩ := ra.one
  cases r with
  | obj ho rf =>
    obtain ⟨w, hw, rw'⟩ := (rf.look fld).1 y hl
    obtain ⟨t, vs, rfl, ht, rt⟩ := rp_tupH rw' hy
    exact ⟨_, _, _, t, vs, rfl, rel.pt.exc _ _ ho, hw, (ht.ex rel.pt.exc).sq, by rw [rt.length]; exact kn.id hR rel (.int _)⟩
end Nod
set_option Elab.async false
set_option linter.all false
set_option maxRecDepth 100000
set_option maxHeartbeats 4000000
set_option exponentiation.threshold 20000
namespace N67
open PySem PySem.Spec PyProof.Rows L2 Nod
def top (i : Nat) : Stmt := PySem.Challenge.pw_nodearer_k67_calendar.main.body.getD i (.Pass ⟨0, 0, 0, 0⟩)
def c_MOST_THINGS_LOOK : Int := 10
def c_MOST_LOT_ENTRIES : Int := 60
def c_MOST_DAYS : Int := 400
def c_MOST_DRAW : Int := 10 ^ 60
def c_MOST : Int := 10 ^ 2000
def c_MOST_PAIRS : Int := 1000
def c_MOST_WEIGHT_DEN : Int := 10 ^ 40
def c_MOST_PASSED_DEN : Int := 10 ^ 400
structure Env (K : PySem.W.Frag) (mg : Str → Option Value) : Prop where
  b_gcd : mg "gcd" = some (.builtin "math.gcd")
  b_lcm : mg "lcm" = some (.builtin "math.lcm")
  c_Calendar : Cls K (He.ga K "Calendar")
  c_Mixture : Cls K (He.ga K "Mixture")
  c_Ratio : Cls K (He.ga K "Ratio")
  f_ValueError : mg "ValueError" = none
  f_abs : mg "abs" = none
  f_all : mg "all" = none
  f_bool : mg "bool" = none
  f_enumerate : mg "enumerate" = none
  f_int : mg "int" = none
  f_isinstance : mg "isinstance" = none
  f_iter : mg "iter" = none
  f_len : mg "len" = none
  f_list : mg "list" = none
  f_range : mg "range" = none
  f_set : mg "set" = none
  f_sorted : mg "sorted" = none
  f_sum : mg "sum" = none
  f_tuple : mg "tuple" = none
  f_zip : mg "zip" = none
  fi_Ratio___sub__ : PySem.W.findIn K (.ref (He.ga K "Ratio")) (PySem.dunder "sub") = some (some (.ref (He.ma K (He.ga K "Ratio") "__sub__")))
  g_Calendar : mg "Calendar" = some (.ref (He.ga K "Calendar"))
  g_Mixture : mg "Mixture" = some (.ref (He.ga K "Mixture"))
  g_NodearerError : mg "NodearerError" = some (.ref (He.ga K "NodearerError"))
  g_NumberError : mg "NumberError" = some (.ref (He.ga K "NumberError"))
  g_Ratio : mg "Ratio" = some (.ref (He.ga K "Ratio"))
  g_ThingError : mg "ThingError" = some (.ref (He.ga K "ThingError"))
  g__first_day : mg "_first_day" = some (.ref (He.ga K "_first_day"))
  g__gathered : mg "_gathered" = some (.ref (He.ga K "_gathered"))
  g__last_day : mg "_last_day" = some (.ref (He.ga K "_last_day"))
  g__law_days : mg "_law_days" = some (.ref (He.ga K "_law_days"))
  g__law_edges : mg "_law_edges" = some (.ref (He.ga K "_law_edges"))
  g__law_fields : mg "_law_fields" = some (.ref (He.ga K "_law_fields"))
  g__law_gcd : mg "_law_gcd" = some (.ref (He.ga K "_law_gcd"))
  g__law_int : mg "_law_int" = some (.ref (He.ga K "_law_int"))
  g__law_number : mg "_law_number" = some (.ref (He.ga K "_law_number"))
  g__law_order : mg "_law_order" = some (.ref (He.ga K "_law_order"))
  g__law_parts : mg "_law_parts" = some (.ref (He.ga K "_law_parts"))
  g__law_refused : mg "_law_refused" = some (.ref (He.ga K "_law_refused"))
  g__law_rows : mg "_law_rows" = some (.ref (He.ga K "_law_rows"))
  g__law_same_counts : mg "_law_same_counts" = some (.ref (He.ga K "_law_same_counts"))
  g__law_same_list : mg "_law_same_list" = some (.ref (He.ga K "_law_same_list"))
  g__law_same_lot : mg "_law_same_lot" = some (.ref (He.ga K "_law_same_lot"))
  g__law_stranger : mg "_law_stranger" = some (.ref (He.ga K "_law_stranger"))
  g__law_take : mg "_law_take" = some (.ref (He.ga K "_law_take"))
  g__law_tape : mg "_law_tape" = some (.ref (He.ga K "_law_tape"))
  g__law_things : mg "_law_things" = some (.ref (He.ga K "_law_things"))
  g__law_too_long : mg "_law_too_long" = some (.ref (He.ga K "_law_too_long"))
  g__look_weight : mg "_look_weight" = some (.ref (He.ga K "_look_weight"))
  g__look_whole : mg "_look_whole" = some (.ref (He.ga K "_look_whole"))
  g__ratio_lowest : mg "_ratio_lowest" = some (.ref (He.ga K "_ratio_lowest"))
  g__ratio_parts : mg "_ratio_parts" = some (.ref (He.ga K "_ratio_parts"))
  g__spread : mg "_spread" = some (.ref (He.ga K "_spread"))
  g_days_of : mg "days_of" = some (.ref (He.ga K "days_of"))
  g_fraction : mg "fraction" = some (.ref (He.ga K "fraction"))
  g_look_lot : mg "look_lot" = some (.ref (He.ga K "look_lot"))
  g_look_number : mg "look_number" = some (.ref (He.ga K "look_number"))
  g_look_size : mg "look_size" = some (.ref (He.ga K "look_size"))
  g_look_thing : mg "look_thing" = some (.ref (He.ga K "look_thing"))
  g_look_things : mg "look_things" = some (.ref (He.ga K "look_things"))
  g_lowered : mg "lowered" = some (.ref (He.ga K "lowered"))
  g_pair_of : mg "pair_of" = some (.ref (He.ga K "pair_of"))
  g_period_of : mg "period_of" = some (.ref (He.ga K "period_of"))
  g_point_of : mg "point_of" = some (.ref (He.ga K "point_of"))
  g_ratio_of : mg "ratio_of" = some (.ref (He.ga K "ratio_of"))
  g_ratios_of : mg "ratios_of" = some (.ref (He.ga K "ratios_of"))
  i_MOST : ∃ t, mg "MOST" = some (.int c_MOST t)
  i_MOST_DAYS : ∃ t, mg "MOST_DAYS" = some (.int c_MOST_DAYS t)
  i_MOST_DRAW : ∃ t, mg "MOST_DRAW" = some (.int c_MOST_DRAW t)
  i_MOST_LOT_ENTRIES : ∃ t, mg "MOST_LOT_ENTRIES" = some (.int c_MOST_LOT_ENTRIES t)
  i_MOST_PAIRS : ∃ t, mg "MOST_PAIRS" = some (.int c_MOST_PAIRS t)
  i_MOST_PASSED_DEN : ∃ t, mg "MOST_PASSED_DEN" = some (.int c_MOST_PASSED_DEN t)
  i_MOST_THINGS_LOOK : ∃ t, mg "MOST_THINGS_LOOK" = some (.int c_MOST_THINGS_LOOK t)
  i_MOST_WEIGHT_DEN : ∃ t, mg "MOST_WEIGHT_DEN" = some (.int c_MOST_WEIGHT_DEN t)
  isf_Ratio___sub__ : PySem.W.isFn K (.ref (He.ma K (He.ga K "Ratio") "__sub__")) = true
  k_Calendar : Mk K (He.ga K "Calendar") (He.ma K (He.ga K "Calendar") "__init__")
  k_Mixture : Mk K (He.ga K "Mixture") (He.ma K (He.ga K "Mixture") "__init__")
  k_Ratio : Mk K (He.ga K "Ratio") (He.ma K (He.ga K "Ratio") "__init__")
  m_Calendar_counts : Meth K (He.ga K "Calendar") "counts" (He.ma K (He.ga K "Calendar") "counts")
  m_Calendar_day : Meth K (He.ga K "Calendar") "day" (He.ma K (He.ga K "Calendar") "day")
  m_Calendar_of_thing : Meth K (He.ga K "Calendar") "of_thing" (He.ma K (He.ga K "Calendar") "of_thing")
  m_Mixture__fill : Meth K (He.ga K "Mixture") "_fill" (He.ma K (He.ga K "Mixture") "_fill")
  n_Calendar_days : NoAttr K (He.ga K "Calendar") "days"
  n_Calendar_mixture : NoAttr K (He.ga K "Calendar") "mixture"
  n_Calendar_order : NoAttr K (He.ga K "Calendar") "order"
  n_Mixture_pairs : NoAttr K (He.ga K "Mixture") "pairs"
  n_Mixture_shares : NoAttr K (He.ga K "Mixture") "shares"
  n_Mixture_things : NoAttr K (He.ga K "Mixture") "things"
  n_Ratio_den : NoAttr K (He.ga K "Ratio") "den"
  n_Ratio_num : NoAttr K (He.ga K "Ratio") "num"
  sf_Ratio : PySem.W.selfFirst K (He.ga K "Ratio") = true
  kit_Ratio : PySem.W.kitOne K (.ref (He.ga K "Ratio")) (.ref (He.ga K "Ratio")) = some true
  ty_Ratio : ∀ (H : Hp) a dx fs, H a = some (.ins (He.ga K "Ratio") dx fs) → TyOf K H (.ref a) (.ref (He.ga K "Ratio"))
  kit_Mixture : PySem.W.kitOne K (.ref (He.ga K "Mixture")) (.ref (He.ga K "Mixture")) = some true
  ty_Mixture : ∀ (H : Hp) a dx fs, H a = some (.ins (He.ga K "Mixture") dx fs) → TyOf K H (.ref a) (.ref (He.ga K "Mixture"))
  xc_N : ExcC K (He.ga K "NumberError")
  xm_N : PySem.W.exmOne K (.ref (He.ga K "NumberError")) (.ref (He.ga K "NumberError")) = some true
  xf_N : PySem.W.findIn K (.ref (He.ga K "NumberError")) "number" = some none
  xk_ThingError : PySem.W.kitOne K (.ref (He.ga K "NumberError")) (.ref (He.ga K "ThingError")) = some false
  xk_NodearerError : PySem.W.kitOne K (.ref (He.ga K "NumberError")) (.ref (He.ga K "NodearerError")) = some true
  xk_ValueError : PySem.W.kitOne K (.ref (He.ga K "NumberError")) (.type "ValueError") = some true
  xc_T : ExcC K (He.ga K "ThingError")
  xm_T : PySem.W.exmOne K (.ref (He.ga K "ThingError")) (.ref (He.ga K "ThingError")) = some true
  xf_T : PySem.W.findIn K (.ref (He.ga K "ThingError")) "thing" = some none
  tk_NumberError : PySem.W.kitOne K (.ref (He.ga K "ThingError")) (.ref (He.ga K "NumberError")) = some false
  tk_NodearerError : PySem.W.kitOne K (.ref (He.ga K "ThingError")) (.ref (He.ga K "NodearerError")) = some true
  e_eqRatio : PySem.W.findIn K (.ref (He.ga K "Ratio")) "__eq__" = some (some (.ref (He.ma K (He.ga K "Ratio") "__eq__")))
  e_fnRatio : PySem.W.isFn K (.ref (He.ma K (He.ga K "Ratio") "__eq__")) = true
  e_eqMixture : PySem.W.findIn K (.ref (He.ga K "Mixture")) "__eq__" = some (some (.ref (He.ma K (He.ga K "Mixture") "__eq__")))
  e_fnMixture : PySem.W.isFn K (.ref (He.ma K (He.ga K "Mixture") "__eq__")) = true
  e_itCalendar : PySem.W.findIn K (.ref (He.ga K "Calendar")) "__iter__" = some (some (.ref (He.ma K (He.ga K "Calendar") "__iter__")))
  e_ifnCalendar : PySem.W.isFn K (.ref (He.ma K (He.ga K "Calendar") "__iter__")) = true
  e_lnCalendar : PySem.W.findIn K (.ref (He.ga K "Calendar")) "__len__" = some (some (.ref (He.ma K (He.ga K "Calendar") "__len__")))
  e_lfnCalendar : PySem.W.isFn K (.ref (He.ma K (He.ga K "Calendar") "__len__")) = true

/-- a promise of n arguments -/
def SP (n : Nat) (p : DSp) : DSp := fun ds μ R RX => ds.length = n ∧ p ds μ R RX
def ratD (n d : Int) : D := .obj "Ratio" [("num", .int n), ("den", .int d)]
def gI (a b : Int) : Int := (Int.gcd a b : Int)
def lI (a b : Int) : Int := (Nat.lcm a.natAbs b.natAbs : Nat)
/-! ### looks -/
def sp_look_number : DSp := SP 3 fun ds μ R RX => ∃ n lo hi : Int, ds = [.int n, .int lo, .int hi] ∧ ((n < lo ∨ hi < n) → RX "NumberError" [("number", .int n)] μ) ∧ (¬ (n < lo ∨ hi < n) → R (.int n) μ)
theorem sc_look_number : FnScope ["number", "low", "high"] ["number", "low", "high"] (defScope (top 12)) := ⟨rfl, rfl, rfl, by decide +kernel, rfl, by decide +kernel, by decide +kernel⟩
theorem fn_look_number {P : Program} {w : World} {K : PySem.W.Frag} {mg : Str → Option Value} {base : Heap} {fd : FuncData} (V : Env K mg) (F : FunD K "look_number" "look_number" (defArgs (top 12)) (defBody (top 12)) (defScope (top 12)) [] [] (He.ga K "look_number") fd) {fI : Addr} (T : NTxt P K mg "NumberError" "number" "number" (He.ga K "NumberError") fI)  : FnOk P w K mg base (L2.CX P w) 1 (He.ga K "look_number") fd ["number", "low", "high"] (low K sp_look_number) := by
  refine fn_data F sc_look_number (fun ds μ R RX h => h.1) (fun cdv A outer s H E RX hr L hW hU => ⟨_, (dss_cons (dst_if (dt_w (dw_or (dt_cmp o_lt (dv 0) (dv 1)) (dw_or1 (dt_cmp o_gt (dv 0) (dv 2))))) (dss_one (dst_raise rfl T hr (da_cons (dv 0) da_nil))) dss_nil)
      (dss_one (dst_ret (dv 0)))), fun ds μ R h => ?_⟩)
  obtain ⟨-, n, lo, hi, rfl, h1, h2⟩ := h
  rw [hW]
  simp only [dDropM, dLc, dFor, dISeq, dIRng1, dIRng2, dIZip, dIEnum, dSeq, dCall, SP, dFldC, dIfS, dAnd, dOr, dNot, dTest, dOp, dUn, dVar, dC, qI, qI0, qU, dNext, dRet, dRetN, dRaise, dCons, dNil, dTup, dLst, dSet, dPar, dAsg, dAug, dDrop, dgName, dgTup, dgNil, dgCons, dAndV, dOrV, dNotV, dIf, dCl, startD, List.map_cons, List.map_nil, List.length_cons, List.length_nil, List.cons_append, List.nil_append, List.append_nil, List.replicate, List.getElem?_cons_zero, List.getElem?_cons_succ, List.set_cons_zero, List.set_cons_succ, Option.some.injEq, List.cons.injEq, and_true, true_and, exists_eq_left', exists_eq_left, exists_eq, exists_eq', D.int.injEq, D.bl.injEq, D.tup.injEq, D.lst.injEq, D.adr.injEq, exists_and_left, and_assoc, exists_and_right, if_true, ite_true, decide_eq_true_eq, exists_eq_right, exists_eq_right', Nat.add_zero, Nat.sub_self, Nat.reduceSub, Nat.reduceAdd, eq_self]
  by_cases c1 : n < lo
  · rw [if_pos c1]; exact h1 (.inl c1)
  · rw [if_neg c1]
    by_cases c2 : hi < n
    · rw [if_pos c2]; exact h1 (.inr c2)
    · rw [if_neg c2]; exact h2 (by omega)
def sp_look_size : DSp := SP 3 fun ds μ R RX => ∃ (x : D) (lo hi : Int) (es : List D), ds = [x, .int lo, .int hi] ∧ seqM μ x = some es ∧ lo ≤ es.length ∧ (es.length : Int) ≤ hi ∧ R x μ
theorem sc_look_size : FnScope ["entries", "low", "high", "count"] ["entries", "low", "high"] (defScope (top 13)) := ⟨rfl, rfl, rfl, by decide +kernel, rfl, by decide +kernel, by decide +kernel⟩
theorem fn_look_size {P : Program} {w : World} {K : PySem.W.Frag} {mg : Str → Option Value} {base : Heap} {fd : FuncData} (V : Env K mg) (F : FunD K "look_size" "look_size" (defArgs (top 13)) (defBody (top 13)) (defScope (top 13)) [] [] (He.ga K "look_size") fd)   : FnOk P w K mg base (L2.CX P w) 1 (He.ga K "look_size") fd ["entries", "low", "high"] (low K sp_look_size) := by
  refine fn_data F sc_look_size (fun ds μ R RX h => h.1) (fun cdv A outer s H E RX hr L hW hU => ⟨_, (dss_cons (dst_set (i := 3) sc_look_size.nd (de_callB c_len V.f_len (da_cons (dv 0) da_nil)))
      (dss_cons (dst_if (dt_w (dw_or (dt_cmp o_lt (dv 3) (dv 1)) (dw_or1 (dt_cmp o_gt (dv 3) (dv 2))))) (dss_one dst_never) dss_nil)
      (dss_one (dst_ret (dv 0))))), fun ds μ R h => ?_⟩)
  obtain ⟨-, x, lo, hi, es, rfl, hs, h1, h2, hR⟩ := h
  simp only [dDropM, dLc, dFor, dISeq, dIRng1, dIRng2, dIZip, dIEnum, dSeq, dCall, SP, dFldC, dIfS, dAnd, dOr, dNot, dTest, dOp, dUn, dVar, dC, qI, qI0, qU, dNext, dRet, dRetN, dRaise, dCons, dNil, dTup, dLst, dSet, dPar, dAsg, dAug, dDrop, dgName, dgTup, dgNil, dgCons, dAndV, dOrV, dNotV, dIf, dCl, startD, List.map_cons, List.map_nil, List.length_cons, List.length_nil, List.cons_append, List.nil_append, List.append_nil, List.replicate, List.getElem?_cons_zero, List.getElem?_cons_succ, List.set_cons_zero, List.set_cons_succ, Option.some.injEq, List.cons.injEq, and_true, true_and, exists_eq_left', exists_eq_left, exists_eq, exists_eq', D.int.injEq, D.bl.injEq, D.tup.injEq, D.lst.injEq, D.adr.injEq, exists_and_left, and_assoc, exists_and_right, if_true, ite_true, decide_eq_true_eq, exists_eq_right, exists_eq_right', Nat.add_zero, Nat.sub_self, Nat.reduceSub, Nat.reduceAdd, eq_self, qLen]
  refine ⟨es, hs, ?_⟩
  rw [if_neg (by omega), if_neg (by omega)]
  exact hR
def sp_look_things : DSp := SP 1 fun ds μ R RX => ∃ t : Int, ds = [.int t] ∧ 0 ≤ t ∧ t ≤ 10 ∧ R (.int t) μ
theorem sc_look_things : FnScope ["things"] ["things"] (defScope (top 14)) := ⟨rfl, rfl, rfl, by decide +kernel, rfl, by decide +kernel, by decide +kernel⟩
theorem fn_look_things {P : Program} {w : World} {K : PySem.W.Frag} {mg : Str → Option Value} {base : Heap} {fd : FuncData} (V : Env K mg) (F : FunD K "look_things" "look_things" (defArgs (top 14)) (defBody (top 14)) (defScope (top 14)) [] [] (He.ga K "look_things") fd)  (D_look_number : DFn P w K mg base 1 (He.ga K "look_number") ["number", "low", "high"] [] sp_look_number) : FnOk P w K mg base (L2.CX P w) 2 (He.ga K "look_things") fd ["things"] (low K sp_look_things) := by
  refine fn_data F sc_look_things (fun ds μ R RX h => h.1) (fun cdv A outer s H E RX hr L hW hU => ⟨_, (dss_one (dst_ret (de_call D_look_number (hr.mono (by decide)) V.g_look_number (da_cons (dv 0) (da_cons de_int (da_cons (de_gint rfl V.i_MOST_THINGS_LOOK) da_nil)))))), fun ds μ R h => ?_⟩)
  obtain ⟨-, t, rfl, h1, h2, hR⟩ := h
  simp only [dDropM, dLc, dFor, dISeq, dIRng1, dIRng2, dIZip, dIEnum, dSeq, dCall, SP, dFldC, dIfS, dAnd, dOr, dNot, dTest, dOp, dUn, dVar, dC, qI, qI0, qU, dNext, dRet, dRetN, dRaise, dCons, dNil, dTup, dLst, dSet, dPar, dAsg, dAug, dDrop, dgName, dgTup, dgNil, dgCons, dAndV, dOrV, dNotV, dIf, dCl, startD, List.map_cons, List.map_nil, List.length_cons, List.length_nil, List.cons_append, List.nil_append, List.append_nil, List.replicate, List.getElem?_cons_zero, List.getElem?_cons_succ, List.set_cons_zero, List.set_cons_succ, Option.some.injEq, List.cons.injEq, and_true, true_and, exists_eq_left', exists_eq_left, exists_eq, exists_eq', D.int.injEq, D.bl.injEq, D.tup.injEq, D.lst.injEq, D.adr.injEq, exists_and_left, and_assoc, exists_and_right, if_true, ite_true, decide_eq_true_eq, exists_eq_right, exists_eq_right', Nat.add_zero, Nat.sub_self, Nat.reduceSub, Nat.reduceAdd, eq_self, dCall]
  exact ⟨rfl, t, 0, _, rfl, fun z => by unfold c_MOST_THINGS_LOOK at z; omega, fun _ => hR⟩
def sp_look_thing : DSp := SP 2 fun ds μ R RX => ∃ t k : Int, ds = [.int t, .int k] ∧ ((k < 0 ∨ t ≤ k) → RX "ThingError" [("thing", .int k)] μ) ∧ (¬ (k < 0 ∨ t ≤ k) → R (.int k) μ)
theorem sc_look_thing : FnScope ["things", "thing"] ["things", "thing"] (defScope (top 15)) := ⟨rfl, rfl, rfl, by decide +kernel, rfl, by decide +kernel, by decide +kernel⟩
theorem fn_look_thing {P : Program} {w : World} {K : PySem.W.Frag} {mg : Str → Option Value} {base : Heap} {fd : FuncData} (V : Env K mg) (F : FunD K "look_thing" "look_thing" (defArgs (top 15)) (defBody (top 15)) (defScope (top 15)) [] [] (He.ga K "look_thing") fd) {fI : Addr} (T : NTxt P K mg "ThingError" "thing" "thing" (He.ga K "ThingError") fI)  : FnOk P w K mg base (L2.CX P w) 1 (He.ga K "look_thing") fd ["things", "thing"] (low K sp_look_thing) := by
  refine fn_data F sc_look_thing (fun ds μ R RX h => h.1) (fun cdv A outer s H E RX hr L hW hU => ⟨_, (dss_cons (dst_if (dt_w (dw_or (dt_cmp o_lt (dv 1) de_int) (dw_or1 (dt_cmp o_ge (dv 1) (dv 0))))) (dss_one (dst_raise rfl T hr (da_cons (dv 1) da_nil))) dss_nil)
      (dss_one (dst_ret (dv 1)))), fun ds μ R h => ?_⟩)
  obtain ⟨-, t, k, rfl, h1, h2⟩ := h
  rw [hW]
  simp only [dDropM, dLc, dFor, dISeq, dIRng1, dIRng2, dIZip, dIEnum, dSeq, dCall, SP, dFldC, dIfS, dAnd, dOr, dNot, dTest, dOp, dUn, dVar, dC, qI, qI0, qU, dNext, dRet, dRetN, dRaise, dCons, dNil, dTup, dLst, dSet, dPar, dAsg, dAug, dDrop, dgName, dgTup, dgNil, dgCons, dAndV, dOrV, dNotV, dIf, dCl, startD, List.map_cons, List.map_nil, List.length_cons, List.length_nil, List.cons_append, List.nil_append, List.append_nil, List.replicate, List.getElem?_cons_zero, List.getElem?_cons_succ, List.set_cons_zero, List.set_cons_succ, Option.some.injEq, List.cons.injEq, and_true, true_and, exists_eq_left', exists_eq_left, exists_eq, exists_eq', D.int.injEq, D.bl.injEq, D.tup.injEq, D.lst.injEq, D.adr.injEq, exists_and_left, and_assoc, exists_and_right, if_true, ite_true, decide_eq_true_eq, exists_eq_right, exists_eq_right', Nat.add_zero, Nat.sub_self, Nat.reduceSub, Nat.reduceAdd, eq_self]
  by_cases c1 : k < 0
  · rw [if_pos c1]; exact h1 (.inl c1)
  · rw [if_neg c1]
    by_cases c2 : t ≤ k
    · rw [if_pos c2]; exact h1 (.inr c2)
    · rw [if_neg c2]; exact h2 (by omega)
theorem seqM_of {μ : Mu} {x : D} {ds : List D} (h : seqD x = some ds) : seqM μ x = some ds := by
  cases x <;> first | exact h | cases h
def sp_look_lot : DSp := SP 2 fun ds μ R RX => ∃ (t : Int) (x : D) (ns : List Int), ds = [.int t, x] ∧ seqD x = some (ns.map D.int) ∧ ns.length ≤ 60 ∧ (∀ n ∈ ns, 0 ≤ n ∧ n < t) ∧ ∀ out : List Int, out.Pairwise (· < ·) → (∀ k, k ∈ out ↔ k ∈ ns) → R (tupI out) μ
theorem sc_look_lot : FnScope ["things", "entries", "thing"] ["things", "entries"] (defScope (top 16)) := ⟨rfl, rfl, rfl, by decide +kernel, rfl, by decide +kernel, by decide +kernel⟩
theorem fn_look_lot {P : Program} {w : World} {K : PySem.W.Frag} {mg : Str → Option Value} {base : Heap} {fd : FuncData} (V : Env K mg) (F : FunD K "look_lot" "look_lot" (defArgs (top 16)) (defBody (top 16)) (defScope (top 16)) [] [] (He.ga K "look_lot") fd)  (D_look_size : DFn P w K mg base 1 (He.ga K "look_size") ["entries", "low", "high"] [] sp_look_size) (D_look_thing : DFn P w K mg base 1 (He.ga K "look_thing") ["things", "thing"] [] sp_look_thing) : FnOk P w K mg base (L2.CX P w) 2 (He.ga K "look_lot") fd ["things", "entries"] (low K sp_look_lot) := by
  refine fn_data F sc_look_lot (fun ds μ R RX h => h.1) (fun cdv A outer s H E RX hr L hW hU => ⟨_, (dss_cons (dst_expr (de_call D_look_size (hr.mono (by decide)) V.g_look_size (da_cons (dv 1) (da_cons de_int (da_cons (de_gint rfl V.i_MOST_LOT_ENTRIES) da_nil)))))
      (dss_cons (dst_for (passes_of rfl) rfl (di_seq (dv 1)) (dg_name (i := 2) sc_look_lot.nd) (dss_one (dst_expr (de_call D_look_thing (hr.mono (by decide)) V.g_look_thing (da_cons (dv 0) (da_cons (dv 2) da_nil))))))
      (dss_one (dst_ret (de_callTy c_tuple V.f_tuple (da_cons (de_soSet rfl V.f_sorted V.f_set (da_cons (dv 1) da_nil)) da_nil)))))), fun ds μ R h => ?_⟩)
  obtain ⟨-, t, x, ns, rfl, hs, hz, hb, hR⟩ := h
  simp only [dDropM, dLc, dFor, dISeq, dIRng1, dIRng2, dIZip, dIEnum, dSeq, dCall, SP, dFldC, dIfS, dAnd, dOr, dNot, dTest, dOp, dUn, dVar, dC, qI, qI0, qU, dNext, dRet, dRetN, dRaise, dCons, dNil, dTup, dLst, dSet, dPar, dAsg, dAug, dDrop, dgName, dgTup, dgNil, dgCons, dAndV, dOrV, dNotV, dIf, dCl, startD, List.map_cons, List.map_nil, List.length_cons, List.length_nil, List.cons_append, List.nil_append, List.append_nil, List.replicate, List.getElem?_cons_zero, List.getElem?_cons_succ, List.set_cons_zero, List.set_cons_succ, Option.some.injEq, List.cons.injEq, and_true, true_and, exists_eq_left', exists_eq_left, exists_eq, exists_eq', D.int.injEq, D.bl.injEq, D.tup.injEq, D.lst.injEq, D.adr.injEq, exists_and_left, and_assoc, exists_and_right, if_true, ite_true, decide_eq_true_eq, exists_eq_right, exists_eq_right', Nat.add_zero, Nat.sub_self, Nat.reduceSub, Nat.reduceAdd, eq_self]
  refine ⟨rfl, x, 0, _, ns.map D.int, rfl, seqM_of hs, by omega, by rw [List.length_map]; unfold c_MOST_LOT_ENTRIES; omega, ?_⟩
  refine ⟨_, hs, forG rows_seq (fun _ _ Γ' μ' => μ' = μ ∧ ∃ o, Γ' = [some (.int t), some x, o]) ⟨rfl, _, rfl⟩ (fun done n rest Γ' μ' hxs hI => ?_) fun Γ' μ' hI => ?_⟩
  · obtain ⟨rfl, o, rfl⟩ := hI
    simp only [dDropM, dLc, dFor, dISeq, dIRng1, dIRng2, dIZip, dIEnum, dSeq, dCall, SP, dFldC, dIfS, dAnd, dOr, dNot, dTest, dOp, dUn, dVar, dC, qI, qI0, qU, dNext, dRet, dRetN, dRaise, dCons, dNil, dTup, dLst, dSet, dPar, dAsg, dAug, dDrop, dgName, dgTup, dgNil, dgCons, dAndV, dOrV, dNotV, dIf, dCl, startD, List.map_cons, List.map_nil, List.length_cons, List.length_nil, List.cons_append, List.nil_append, List.append_nil, List.replicate, List.getElem?_cons_zero, List.getElem?_cons_succ, List.set_cons_zero, List.set_cons_succ, Option.some.injEq, List.cons.injEq, and_true, true_and, exists_eq_left', exists_eq_left, exists_eq, exists_eq', D.int.injEq, D.bl.injEq, D.tup.injEq, D.lst.injEq, D.adr.injEq, exists_and_left, and_assoc, exists_and_right, if_true, ite_true, decide_eq_true_eq, exists_eq_right, exists_eq_right', Nat.add_zero, Nat.sub_self, Nat.reduceSub, Nat.reduceAdd, eq_self]
    have hn := hb n (by rw [hxs]; simp)
    exact ⟨rfl, t, n, rfl, fun z => by omega, fun _ => rfl⟩
  · obtain ⟨rfl, o, rfl⟩ := hI
    simp only [dDropM, dLc, dFor, dISeq, dIRng1, dIRng2, dIZip, dIEnum, dSeq, dCall, SP, dFldC, dIfS, dAnd, dOr, dNot, dTest, dOp, dUn, dVar, dC, qI, qI0, qU, dNext, dRet, dRetN, dRaise, dCons, dNil, dTup, dLst, dSet, dPar, dAsg, dAug, dDrop, dgName, dgTup, dgNil, dgCons, dAndV, dOrV, dNotV, dIf, dCl, startD, List.map_cons, List.map_nil, List.length_cons, List.length_nil, List.cons_append, List.nil_append, List.append_nil, List.replicate, List.getElem?_cons_zero, List.getElem?_cons_succ, List.set_cons_zero, List.set_cons_succ, Option.some.injEq, List.cons.injEq, and_true, true_and, exists_eq_left', exists_eq_left, exists_eq, exists_eq', D.int.injEq, D.bl.injEq, D.tup.injEq, D.lst.injEq, D.adr.injEq, exists_and_left, and_assoc, exists_and_right, if_true, ite_true, decide_eq_true_eq, exists_eq_right, exists_eq_right', Nat.add_zero, Nat.sub_self, Nat.reduceSub, Nat.reduceAdd, eq_self, qTuple, dSoSet]
    refine ⟨ns, seqM_of hs, by omega, fun out h1 h2 => ?_⟩
    exact ⟨_, rfl, hR out h1 h2⟩
/-! ### numbers -/
theorem MOST_lt : c_MOST < 2 ^ 6700 := by unfold c_MOST; decide +kernel
theorem abs_lt {i : Int} (h : i.natAbs ≤ c_MOST.natAbs) : i.natAbs < 2 ^ 6700 := by
  have := MOST_lt
  have h0 : (0 : Int) ≤ c_MOST := by unfold c_MOST; decide +kernel
  omega
theorem le_abs {i : Int} (h0 : 0 ≤ i) (h : i ≤ c_MOST) : i.natAbs ≤ c_MOST.natAbs := by omega
theorem div_ok {i j : Int} (h : 0 < j) (hj : j ≤ c_MOST) : CDivW i j := wide_div h (abs_lt (le_abs (by omega) hj)) (by omega) (by omega)
theorem mul_ok {i j : Int} (hi : i.natAbs ≤ c_MOST.natAbs) (hj : j.natAbs ≤ c_MOST.natAbs) : CMulW i j := wide_mul (abs_lt hi) (abs_lt hj) (by omega) (by omega) (by omega)
theorem gI_pos {n d : Int} (h : 0 < d) : 0 < gI n d := by
  have := Int.gcd_pos_of_ne_zero_right n (show d ≠ 0 by omega)
  unfold gI; omega
theorem gI_le {n d : Int} (h : 0 < d) : gI n d ≤ d := Int.gcd_le_right n h
theorem gI_red {n d : Int} (h : 0 < d) : gI (n / gI n d) (d / gI n d) = 1 := by
  unfold gI
  rw [Int.gcd_ediv_gcd_ediv_gcd (Int.gcd_pos_of_ne_zero_right n (show d ≠ 0 by omega))]
  rfl
theorem gI_dvd_r (n d : Int) : gI n d ∣ d := Int.gcd_dvd_right n d
theorem gI_dvd_l (n d : Int) : gI n d ∣ n := Int.gcd_dvd_left n d
theorem den_pos {n d : Int} (h : 0 < d) : 0 < d / gI n d := by
  have h1 := Int.ediv_mul_cancel (gI_dvd_r n d)
  have h2 := gI_pos (n := n) h
  rcases Int.lt_trichotomy (d / gI n d) 0 with c | c | c
  · have := Int.mul_neg_of_neg_of_pos c h2
    omega
  · rw [c] at h1; omega
  · exact c
theorem den_le {n d : Int} (h : 0 < d) : d / gI n d ≤ d := Int.ediv_le_self _ (by omega)
theorem abs_div (n g : Int) : (n / g).natAbs ≤ n.natAbs := Int.natAbs_ediv_le_natAbs n g
theorem div_one' (n : Int) : n / 1 = n := Int.ediv_one n
/-! ### ratios -/
def sp_Ratio_init : DSp := SP 3 fun ds μ R RX => ∃ (a : Addr) (n d : Int), ds = [.adr a, .int n, .int d] ∧ μ a = some (.ins "Ratio" []) ∧ n.natAbs ≤ c_MOST.natAbs ∧ 0 < d ∧ d ≤ c_MOST ∧ R .non (updM μ a (.ins "Ratio" [("num", .int (n / gI n d)), ("den", .int (d / gI n d))]))
theorem sc_Ratio___init__ : FnScope ["self", "num", "den", "divisor"] ["self", "num", "den"] (defScope (inClass (top 32) 0)) := ⟨rfl, rfl, rfl, by decide +kernel, rfl, by decide +kernel, by decide +kernel⟩
theorem fn_Ratio_init {P : Program} {w : World} {K : PySem.W.Frag} {mg : Str → Option Value} {base : Heap} {fd : FuncData} (V : Env K mg) (F : FunD K "__init__" "Ratio.__init__" (defArgs (inClass (top 32) 0)) (defBody (inClass (top 32) 0)) (defScope (inClass (top 32) 0)) [.int 1] [] (He.ma K (He.ga K "Ratio") "__init__") fd)  (D_look_number : DFn P w K mg base 1 (He.ga K "look_number") ["number", "low", "high"] [] sp_look_number) : FnOk P w K mg base (L2.CX P w) 2 (He.ma K (He.ga K "Ratio") "__init__") fd ["self", "num", "den"] (low K sp_Ratio_init) := by
  refine fn_data F sc_Ratio___init__ (fun ds μ R RX h => h.1) (fun cdv A outer s H E RX hr L hW hU => ⟨_, (dss_cons (dst_expr (de_call D_look_number (hr.mono (by decide)) V.g_look_number (da_cons (dv 1) (da_cons (de_un o_neg (de_gint rfl V.i_MOST)) (da_cons (de_gint rfl V.i_MOST) da_nil)))))
      (dss_cons (dst_expr (de_call D_look_number (hr.mono (by decide)) V.g_look_number (da_cons (dv 2) (da_cons de_int (da_cons (de_gint rfl V.i_MOST) da_nil)))))
      (dss_cons (dst_set (i := 3) sc_Ratio___init__.nd (de_callBf c_gcd V.b_gcd (da_cons (dv 1) (da_cons (dv 2) da_nil))))
      (dss_cons (dst_fld "Ratio" (dv 0) (de_op o_div (dv 1) (dv 3)) V.c_Ratio V.n_Ratio_num)
      (dss_one (dst_fld "Ratio" (dv 0) (de_op o_div (dv 2) (dv 3)) V.c_Ratio V.n_Ratio_den)))))), fun ds μ R h => ?_⟩)
  obtain ⟨-, a, n, d, rfl, hm, h1, h2, h3, hR⟩ := h
  have hM : (0 : Int) ≤ c_MOST := by unfold c_MOST; decide +kernel
  simp only [dDropM, dLc, dFor, dISeq, dIRng1, dIRng2, dIZip, dIEnum, dSeq, dCall, SP, dFldC, dIfS, dAnd, dOr, dNot, dTest, dOp, dUn, dVar, dC, qI, qI0, qU, dNext, dRet, dRetN, dRaise, dCons, dNil, dTup, dLst, dSet, dPar, dAsg, dAug, dDrop, dgName, dgTup, dgNil, dgCons, dAndV, dOrV, dNotV, dIf, dCl, startD, List.map_cons, List.map_nil, List.length_cons, List.length_nil, List.cons_append, List.nil_append, List.append_nil, List.replicate, List.getElem?_cons_zero, List.getElem?_cons_succ, List.set_cons_zero, List.set_cons_succ, Option.some.injEq, List.cons.injEq, and_true, true_and, exists_eq_left', exists_eq_left, exists_eq, exists_eq', D.int.injEq, D.bl.injEq, D.tup.injEq, D.lst.injEq, D.adr.injEq, exists_and_left, and_assoc, exists_and_right, if_true, ite_true, decide_eq_true_eq, exists_eq_right, exists_eq_right', Nat.add_zero, Nat.sub_self, Nat.reduceSub, Nat.reduceAdd, eq_self, dFldS, qGcd]
  refine ⟨rfl, n, _, _, rfl, fun z => ?_, fun _ => ?_⟩
  · omega
  refine ⟨rfl, d, _, _, rfl, fun z => by omega, fun _ => ?_⟩
  refine ⟨div_ok (gI_pos h2) (Int.le_trans (gI_le h2) h3), _, hm, by decide, ?_⟩
  refine ⟨div_ok (gI_pos h2) (Int.le_trans (gI_le h2) h3), _, updM_same, by simp [putD], ?_⟩
  rw [updM_updM]
  exact hR
theorem num_ratD {n d : Int} {μ : Mu} {R : DK} : fldK "Ratio" "num" (ratD n d) μ R ↔ R (.int n) μ := fldK_obj rfl
theorem den_ratD {n d : Int} {μ : Mu} {R : DK} : fldK "Ratio" "den" (ratD n d) μ R ↔ R (.int d) μ := fldK_obj rfl
theorem isi_ratio {K : PySem.W.Frag} {mg : Str → Option Value} (V : Env K mg) {n d : Int} {μ : Mu} {R : DK} (h : R (.bl true) μ) : qIsi K [ratD n d, .adr (He.ga K "Ratio")] μ R :=
  ⟨_, _, _, _, true, rfl, .inr ⟨_, rfl, rfl⟩, .inr ⟨"Ratio", _, rfl, rfl, V.ty_Ratio⟩, V.kit_Ratio, h⟩
theorem two_le : 2 ≤ sizeLine := by rw [sizeLine_eq]; decide
def sp__ratio_parts : DSp := SP 1 fun ds μ R RX => ∃ n d : Int, ds = [ratD n d] ∧ R (.tup [.int n, .int d]) μ
theorem sc__ratio_parts : FnScope ["other"] ["other"] (defScope (top 33)) := ⟨rfl, rfl, rfl, by decide +kernel, rfl, by decide +kernel, by decide +kernel⟩
theorem fn__ratio_parts {P : Program} {w : World} {K : PySem.W.Frag} {mg : Str → Option Value} {base : Heap} {fd : FuncData} (V : Env K mg) (F : FunD K "_ratio_parts" "_ratio_parts" (defArgs (top 33)) (defBody (top 33)) (defScope (top 33)) [] [] (He.ga K "_ratio_parts") fd)  (D_look_number : DFn P w K mg base 1 (He.ga K "look_number") ["number", "low", "high"] [] sp_look_number) : FnOk P w K mg base (L2.CX P w) 2 (He.ga K "_ratio_parts") fd ["other"] (low K sp__ratio_parts) := by
  refine fn_data F sc__ratio_parts (fun ds μ R RX h => h.1) (fun cdv A outer s H E RX hr L hW hU => ⟨_, (dss_cons (dst_if (dt_val (de_callB c_isi V.f_isinstance (da_cons (dv 0) (da_cons (de_cls V.g_Ratio) da_nil)))) (dss_one (dst_ret (de_tup (da_cons (de_fld "Ratio" (dv 0) V.c_Ratio V.n_Ratio_num) (da_cons (de_fld "Ratio" (dv 0) V.c_Ratio V.n_Ratio_den) da_nil))))) dss_nil)
      (dss_one (dst_ret (de_tup (da_cons (de_call D_look_number (hr.mono (by decide)) V.g_look_number (da_cons (dv 0) (da_cons (de_un o_neg (de_gint rfl V.i_MOST)) (da_cons (de_gint rfl V.i_MOST) da_nil)))) (da_cons de_int da_nil)))))), fun ds μ R h => ?_⟩)
  obtain ⟨-, n, d, rfl, hR⟩ := h
  simp only [dDropM, dLc, dFor, dISeq, dIRng1, dIRng2, dIZip, dIEnum, dSeq, dCall, SP, dFldC, dIfS, dAnd, dOr, dNot, dTest, dOp, dUn, dVar, dC, qI, qI0, qU, dNext, dRet, dRetN, dRaise, dCons, dNil, dTup, dLst, dSet, dPar, dAsg, dAug, dDrop, dgName, dgTup, dgNil, dgCons, dAndV, dOrV, dNotV, dIf, dCl, startD, List.map_cons, List.map_nil, List.length_cons, List.length_nil, List.cons_append, List.nil_append, List.append_nil, List.replicate, List.getElem?_cons_zero, List.getElem?_cons_succ, List.set_cons_zero, List.set_cons_succ, Option.some.injEq, List.cons.injEq, and_true, true_and, exists_eq_left', exists_eq_left, exists_eq, exists_eq', D.int.injEq, D.bl.injEq, D.tup.injEq, D.lst.injEq, D.adr.injEq, exists_and_left, and_assoc, exists_and_right, if_true, ite_true, decide_eq_true_eq, exists_eq_right, exists_eq_right', Nat.add_zero, Nat.sub_self, Nat.reduceSub, Nat.reduceAdd, eq_self]
  refine isi_ratio V ?_
  simp only [dDropM, dLc, dFor, dISeq, dIRng1, dIRng2, dIZip, dIEnum, dSeq, dCall, SP, dFldC, dIfS, dAnd, dOr, dNot, dTest, dOp, dUn, dVar, dC, qI, qI0, qU, dNext, dRet, dRetN, dRaise, dCons, dNil, dTup, dLst, dSet, dPar, dAsg, dAug, dDrop, dgName, dgTup, dgNil, dgCons, dAndV, dOrV, dNotV, dIf, dCl, startD, List.map_cons, List.map_nil, List.length_cons, List.length_nil, List.cons_append, List.nil_append, List.append_nil, List.replicate, List.getElem?_cons_zero, List.getElem?_cons_succ, List.set_cons_zero, List.set_cons_succ, Option.some.injEq, List.cons.injEq, and_true, true_and, exists_eq_left', exists_eq_left, exists_eq, exists_eq', D.int.injEq, D.bl.injEq, D.tup.injEq, D.lst.injEq, D.adr.injEq, exists_and_left, and_assoc, exists_and_right, if_true, ite_true, decide_eq_true_eq, exists_eq_right, exists_eq_right', Nat.add_zero, Nat.sub_self, Nat.reduceSub, Nat.reduceAdd, eq_self, num_ratD, den_ratD]
  exact ⟨two_le, hR⟩
def redD (n d : Int) : D := ratD (n / gI n d) (d / gI n d)
theorem ratio_made {n d : Int} (h : 0 < d) : ratD (n / gI n d / gI (n / gI n d) (d / gI n d)) (d / gI n d / gI (n / gI n d) (d / gI n d)) = redD n d := by
  rw [gI_red h, Int.ediv_one, Int.ediv_one]; rfl
def sp__ratio_lowest : DSp := SP 2 fun ds μ R RX => ∃ n d : Int, ds = [.int n, .int d] ∧ n.natAbs ≤ c_MOST.natAbs ∧ 0 < d ∧ d ≤ c_MOST ∧ R (redD n d) μ
/-- Ratio(n / g, d / g) -/
theorem make_red {n d : Int} (h1 : n.natAbs ≤ c_MOST.natAbs) (h2 : 0 < d) (h3 : d ≤ c_MOST) {μ : Mu} {R : DK} {RX : DX} (hR : R (redD n d) μ) (x : Addr) (hx : μ x = none) :
    sp_Ratio_init [D.adr x, D.int (n / gI n d), D.int (d / gI n d)] (updM μ x (MO.ins "Ratio" [])) (fun y μ2 => y = D.non ∧ ∃ gs, μ2 x = some (MO.ins "Ratio" gs) ∧ R (D.obj "Ratio" gs) (delM μ2 x)) RX := by
  refine ⟨rfl, x, _, _, rfl, updM_same, Nat.le_trans (abs_div n _) h1, den_pos h2, Int.le_trans (den_le h2) h3, rfl, _, updM_same, ?_⟩
  rw [updM_updM, delM_updM hx]
  have e := ratio_made (n := n) h2
  unfold ratD at e
  exact e ▸ hR
theorem sc__ratio_lowest : FnScope ["num", "den", "divisor"] ["num", "den"] (defScope (top 34)) := ⟨rfl, rfl, rfl, by decide +kernel, rfl, by decide +kernel, by decide +kernel⟩
theorem fn__ratio_lowest {P : Program} {w : World} {K : PySem.W.Frag} {mg : Str → Option Value} {base : Heap} {fd : FuncData} (V : Env K mg) (F : FunD K "_ratio_lowest" "_ratio_lowest" (defArgs (top 34)) (defBody (top 34)) (defScope (top 34)) [] [] (He.ga K "_ratio_lowest") fd)  (D_Ratio_init2 : DFn P w K mg base 2 (He.ma K (He.ga K "Ratio") "__init__") ["self", "num", "den"] [] sp_Ratio_init) : FnOk P w K mg base (L2.CX P w) 4 (He.ga K "_ratio_lowest") fd ["num", "den"] (low K sp__ratio_lowest) := by
  refine fn_data F sc__ratio_lowest (fun ds μ R RX h => h.1) (fun cdv A outer s H E RX hr L hW hU => ⟨_, (dss_cons (dst_set (i := 2) sc__ratio_lowest.nd (de_callBf c_gcd V.b_gcd (da_cons (dv 0) (da_cons (dv 1) da_nil))))
      (dss_one (dst_ret (de_make V.k_Ratio D_Ratio_init2 (hr.mono (by decide)) V.g_Ratio (da_cons (de_op o_div (dv 0) (dv 2)) (da_cons (de_op o_div (dv 1) (dv 2)) da_nil)))))), fun ds μ R h => ?_⟩)
  obtain ⟨-, n, d, rfl, h1, h2, h3, hR⟩ := h
  have hM : (0 : Int) ≤ c_MOST := by unfold c_MOST; decide +kernel
  simp only [dDropM, dLc, dFor, dISeq, dIRng1, dIRng2, dIZip, dIEnum, dSeq, dCall, SP, dFldC, dIfS, dAnd, dOr, dNot, dTest, dOp, dUn, dVar, dC, qI, qI0, qU, dNext, dRet, dRetN, dRaise, dCons, dNil, dTup, dLst, dSet, dPar, dAsg, dAug, dDrop, dgName, dgTup, dgNil, dgCons, dAndV, dOrV, dNotV, dIf, dCl, startD, List.map_cons, List.map_nil, List.length_cons, List.length_nil, List.cons_append, List.nil_append, List.append_nil, List.replicate, List.getElem?_cons_zero, List.getElem?_cons_succ, List.set_cons_zero, List.set_cons_succ, Option.some.injEq, List.cons.injEq, and_true, true_and, exists_eq_left', exists_eq_left, exists_eq, exists_eq', D.int.injEq, D.bl.injEq, D.tup.injEq, D.lst.injEq, D.adr.injEq, exists_and_left, and_assoc, exists_and_right, if_true, ite_true, decide_eq_true_eq, exists_eq_right, exists_eq_right', Nat.add_zero, Nat.sub_self, Nat.reduceSub, Nat.reduceAdd, eq_self, qGcd, dMake]
  have hg := Int.le_trans (gI_le (n := n) h2) h3
  exact ⟨div_ok (gI_pos h2) hg, div_ok (gI_pos h2) hg, make_red h1 h2 h3 hR⟩
def sp_fraction : DSp := SP 2 fun ds μ R RX => ∃ n d : Int, ds = [.int n, .int d] ∧ 0 < d ∧ d ≤ c_MOST ∧ R (.tup [.int (n / gI n d), .int (d / gI n d)]) μ
theorem sc_fraction : FnScope ["num", "den", "divisor"] ["num", "den"] (defScope (top 40)) := ⟨rfl, rfl, rfl, by decide +kernel, rfl, by decide +kernel, by decide +kernel⟩
theorem fn_fraction {P : Program} {w : World} {K : PySem.W.Frag} {mg : Str → Option Value} {base : Heap} {fd : FuncData} (V : Env K mg) (F : FunD K "fraction" "fraction" (defArgs (top 40)) (defBody (top 40)) (defScope (top 40)) [] [] (He.ga K "fraction") fd)   : FnOk P w K mg base (L2.CX P w) 1 (He.ga K "fraction") fd ["num", "den"] (low K sp_fraction) := by
  refine fn_data F sc_fraction (fun ds μ R RX h => h.1) (fun cdv A outer s H E RX hr L hW hU => ⟨_, (dss_cons (dst_set (i := 2) sc_fraction.nd (de_callBf c_gcd V.b_gcd (da_cons (dv 0) (da_cons (dv 1) da_nil))))
      (dss_cons (dst_if (dt_cmp o_lt (dv 1) de_int) (dss_one (dst_set (i := 2) sc_fraction.nd (de_un o_neg (dv 2)))) dss_nil)
      (dss_one (dst_ret (de_tup (da_cons (de_op o_div (dv 0) (dv 2)) (da_cons (de_op o_div (dv 1) (dv 2)) da_nil))))))), fun ds μ R h => ?_⟩)
  obtain ⟨-, n, d, rfl, h2, h3, hR⟩ := h
  simp only [dDropM, dLc, dFor, dISeq, dIRng1, dIRng2, dIZip, dIEnum, dSeq, dCall, SP, dFldC, dIfS, dAnd, dOr, dNot, dTest, dOp, dUn, dVar, dC, qI, qI0, qU, dNext, dRet, dRetN, dRaise, dCons, dNil, dTup, dLst, dSet, dPar, dAsg, dAug, dDrop, dgName, dgTup, dgNil, dgCons, dAndV, dOrV, dNotV, dIf, dCl, startD, List.map_cons, List.map_nil, List.length_cons, List.length_nil, List.cons_append, List.nil_append, List.append_nil, List.replicate, List.getElem?_cons_zero, List.getElem?_cons_succ, List.set_cons_zero, List.set_cons_succ, Option.some.injEq, List.cons.injEq, and_true, true_and, exists_eq_left', exists_eq_left, exists_eq, exists_eq', D.int.injEq, D.bl.injEq, D.tup.injEq, D.lst.injEq, D.adr.injEq, exists_and_left, and_assoc, exists_and_right, if_true, ite_true, decide_eq_true_eq, exists_eq_right, exists_eq_right', Nat.add_zero, Nat.sub_self, Nat.reduceSub, Nat.reduceAdd, eq_self, qGcd]
  rw [if_neg (by omega)]
  have hg := Int.le_trans (gI_le (n := n) h2) h3
  exact ⟨div_ok (gI_pos h2) hg, div_ok (gI_pos h2) hg, two_le, hR⟩
def sp_ratio_of : DSp := SP 2 fun ds μ R RX => ∃ n d : Int, ds = [.int n, .int d] ∧ n.natAbs ≤ c_MOST.natAbs ∧ 0 < d ∧ d ≤ c_MOST ∧ R (redD n d) μ
theorem sc_ratio_of : FnScope ["num", "den", "top", "bottom"] ["num", "den"] (defScope (top 41)) := ⟨rfl, rfl, rfl, by decide +kernel, rfl, by decide +kernel, by decide +kernel⟩
theorem fn_ratio_of {P : Program} {w : World} {K : PySem.W.Frag} {mg : Str → Option Value} {base : Heap} {fd : FuncData} (V : Env K mg) (F : FunD K "ratio_of" "ratio_of" (defArgs (top 41)) (defBody (top 41)) (defScope (top 41)) [] [] (He.ga K "ratio_of") fd)  (D_fraction : DFn P w K mg base 1 (He.ga K "fraction") ["num", "den"] [] sp_fraction) (D_Ratio_init2 : DFn P w K mg base 2 (He.ma K (He.ga K "Ratio") "__init__") ["self", "num", "den"] [] sp_Ratio_init) : FnOk P w K mg base (L2.CX P w) 4 (He.ga K "ratio_of") fd ["num", "den"] (low K sp_ratio_of) := by
  refine fn_data F sc_ratio_of (fun ds μ R RX h => h.1) (fun cdv A outer s H E RX hr L hW hU => ⟨_, (dss_cons (dst_asg (de_call D_fraction (hr.mono (by decide)) V.g_fraction (da_cons (dv 0) (da_cons (dv 1) da_nil))) (dg_tup (n := 2) rfl (dgs_cons (dg_name (i := 2) sc_ratio_of.nd) (dgs_cons (dg_name (i := 3) sc_ratio_of.nd) dgs_nil))))
      (dss_one (dst_ret (de_make V.k_Ratio D_Ratio_init2 (hr.mono (by decide)) V.g_Ratio (da_cons (dv 2) (da_cons (dv 3) da_nil)))))), fun ds μ R h => ?_⟩)
  obtain ⟨-, n, d, rfl, h1, h2, h3, hR⟩ := h
  simp only [dDropM, dLc, dFor, dISeq, dIRng1, dIRng2, dIZip, dIEnum, dSeq, dCall, SP, dFldC, dIfS, dAnd, dOr, dNot, dTest, dOp, dUn, dVar, dC, qI, qI0, qU, dNext, dRet, dRetN, dRaise, dCons, dNil, dTup, dLst, dSet, dPar, dAsg, dAug, dDrop, dgName, dgTup, dgNil, dgCons, dAndV, dOrV, dNotV, dIf, dCl, startD, List.map_cons, List.map_nil, List.length_cons, List.length_nil, List.cons_append, List.nil_append, List.append_nil, List.replicate, List.getElem?_cons_zero, List.getElem?_cons_succ, List.set_cons_zero, List.set_cons_succ, Option.some.injEq, List.cons.injEq, and_true, true_and, exists_eq_left', exists_eq_left, exists_eq, exists_eq', D.int.injEq, D.bl.injEq, D.tup.injEq, D.lst.injEq, D.adr.injEq, exists_and_left, and_assoc, exists_and_right, if_true, ite_true, decide_eq_true_eq, exists_eq_right, exists_eq_right', Nat.add_zero, Nat.sub_self, Nat.reduceSub, Nat.reduceAdd, eq_self]
  refine ⟨rfl, n, d, rfl, h2, h3, ?_⟩
  simp only [dDropM, dLc, dFor, dISeq, dIRng1, dIRng2, dIZip, dIEnum, dSeq, dCall, SP, dFldC, dIfS, dAnd, dOr, dNot, dTest, dOp, dUn, dVar, dC, qI, qI0, qU, dNext, dRet, dRetN, dRaise, dCons, dNil, dTup, dLst, dSet, dPar, dAsg, dAug, dDrop, dgName, dgTup, dgNil, dgCons, dAndV, dOrV, dNotV, dIf, dCl, startD, List.map_cons, List.map_nil, List.length_cons, List.length_nil, List.cons_append, List.nil_append, List.append_nil, List.replicate, List.getElem?_cons_zero, List.getElem?_cons_succ, List.set_cons_zero, List.set_cons_succ, Option.some.injEq, List.cons.injEq, and_true, true_and, exists_eq_left', exists_eq_left, exists_eq, exists_eq', D.int.injEq, D.bl.injEq, D.tup.injEq, D.lst.injEq, D.adr.injEq, exists_and_left, and_assoc, exists_and_right, if_true, ite_true, decide_eq_true_eq, exists_eq_right, exists_eq_right', Nat.add_zero, Nat.sub_self, Nat.reduceSub, Nat.reduceAdd, eq_self, dMake]
  exact make_red h1 h2 h3 hR
def sp_pair_of : DSp := SP 1 fun ds μ R RX => ∃ n d : Int, ds = [ratD n d] ∧ R (.tup [.int n, .int d]) μ
theorem sc_pair_of : FnScope ["ratio"] ["ratio"] (defScope (top 43)) := ⟨rfl, rfl, rfl, by decide +kernel, rfl, by decide +kernel, by decide +kernel⟩
theorem fn_pair_of {P : Program} {w : World} {K : PySem.W.Frag} {mg : Str → Option Value} {base : Heap} {fd : FuncData} (V : Env K mg) (F : FunD K "pair_of" "pair_of" (defArgs (top 43)) (defBody (top 43)) (defScope (top 43)) [] [] (He.ga K "pair_of") fd)   : FnOk P w K mg base (L2.CX P w) 1 (He.ga K "pair_of") fd ["ratio"] (low K sp_pair_of) := by
  refine fn_data F sc_pair_of (fun ds μ R RX h => h.1) (fun cdv A outer s H E RX hr L hW hU => ⟨_, (dss_one (dst_ret (de_tup (da_cons (de_fld "Ratio" (dv 0) V.c_Ratio V.n_Ratio_num) (da_cons (de_fld "Ratio" (dv 0) V.c_Ratio V.n_Ratio_den) da_nil))))), fun ds μ R h => ?_⟩)
  obtain ⟨-, n, d, rfl, hR⟩ := h
  simp only [dDropM, dLc, dFor, dISeq, dIRng1, dIRng2, dIZip, dIEnum, dSeq, dCall, SP, dFldC, dIfS, dAnd, dOr, dNot, dTest, dOp, dUn, dVar, dC, qI, qI0, qU, dNext, dRet, dRetN, dRaise, dCons, dNil, dTup, dLst, dSet, dPar, dAsg, dAug, dDrop, dgName, dgTup, dgNil, dgCons, dAndV, dOrV, dNotV, dIf, dCl, startD, List.map_cons, List.map_nil, List.length_cons, List.length_nil, List.cons_append, List.nil_append, List.append_nil, List.replicate, List.getElem?_cons_zero, List.getElem?_cons_succ, List.set_cons_zero, List.set_cons_succ, Option.some.injEq, List.cons.injEq, and_true, true_and, exists_eq_left', exists_eq_left, exists_eq, exists_eq', D.int.injEq, D.bl.injEq, D.tup.injEq, D.lst.injEq, D.adr.injEq, exists_and_left, and_assoc, exists_and_right, if_true, ite_true, decide_eq_true_eq, exists_eq_right, exists_eq_right', Nat.add_zero, Nat.sub_self, Nat.reduceSub, Nat.reduceAdd, eq_self, num_ratD, den_ratD]
  exact ⟨two_le, hR⟩
def sp_Ratio___sub__ : DSp := SP 2 fun ds μ R RX => ∃ n d n' d' : Int, ds = [ratD n d, ratD n' d'] ∧ n.natAbs ≤ c_MOST.natAbs ∧ d.natAbs ≤ c_MOST.natAbs ∧ n'.natAbs ≤ c_MOST.natAbs ∧ d'.natAbs ≤ c_MOST.natAbs ∧
  (n * d' - n' * d).natAbs ≤ c_MOST.natAbs ∧ 0 < d * d' ∧ d * d' ≤ c_MOST ∧ R (redD (n * d' - n' * d) (d * d')) μ
theorem sc_Ratio___sub__ : FnScope ["self", "other", "num", "den"] ["self", "other"] (defScope (inClass (top 32) 2)) := ⟨rfl, rfl, rfl, by decide +kernel, rfl, by decide +kernel, by decide +kernel⟩
theorem fn_Ratio___sub__ {P : Program} {w : World} {K : PySem.W.Frag} {mg : Str → Option Value} {base : Heap} {fd : FuncData} (V : Env K mg) (F : FunD K "__sub__" "Ratio.__sub__" (defArgs (inClass (top 32) 2)) (defBody (inClass (top 32) 2)) (defScope (inClass (top 32) 2)) [] [] (He.ma K (He.ga K "Ratio") "__sub__") fd)  (D__ratio_parts : DFn P w K mg base 2 (He.ga K "_ratio_parts") ["other"] [] sp__ratio_parts) (D__ratio_lowest : DFn P w K mg base 4 (He.ga K "_ratio_lowest") ["num", "den"] [] sp__ratio_lowest) : FnOk P w K mg base (L2.CX P w) 5 (He.ma K (He.ga K "Ratio") "__sub__") fd ["self", "other"] (low K sp_Ratio___sub__) := by
  refine fn_data F sc_Ratio___sub__ (fun ds μ R RX h => h.1) (fun cdv A outer s H E RX hr L hW hU => ⟨_, (dss_cons (dst_asg (de_call D__ratio_parts (hr.mono (by decide)) V.g__ratio_parts (da_cons (dv 1) da_nil)) (dg_tup (n := 2) rfl (dgs_cons (dg_name (i := 2) sc_Ratio___sub__.nd) (dgs_cons (dg_name (i := 3) sc_Ratio___sub__.nd) dgs_nil))))
      (dss_one (dst_ret (de_call D__ratio_lowest (hr.mono (by decide)) V.g__ratio_lowest (da_cons (de_op o_sub (de_op o_mul (de_fld "Ratio" (dv 0) V.c_Ratio V.n_Ratio_num) (dv 3)) (de_op o_mul (dv 2) (de_fld "Ratio" (dv 0) V.c_Ratio V.n_Ratio_den))) (da_cons (de_op o_mul (de_fld "Ratio" (dv 0) V.c_Ratio V.n_Ratio_den) (dv 3)) da_nil)))))), fun ds μ R h => ?_⟩)
  obtain ⟨-, n, d, n', d', rfl, h1, h2, h3, h4, h5, h6, h7, hR⟩ := h
  simp only [dDropM, dLc, dFor, dISeq, dIRng1, dIRng2, dIZip, dIEnum, dSeq, dCall, SP, dFldC, dIfS, dAnd, dOr, dNot, dTest, dOp, dUn, dVar, dC, qI, qI0, qU, dNext, dRet, dRetN, dRaise, dCons, dNil, dTup, dLst, dSet, dPar, dAsg, dAug, dDrop, dgName, dgTup, dgNil, dgCons, dAndV, dOrV, dNotV, dIf, dCl, startD, List.map_cons, List.map_nil, List.length_cons, List.length_nil, List.cons_append, List.nil_append, List.append_nil, List.replicate, List.getElem?_cons_zero, List.getElem?_cons_succ, List.set_cons_zero, List.set_cons_succ, Option.some.injEq, List.cons.injEq, and_true, true_and, exists_eq_left', exists_eq_left, exists_eq, exists_eq', D.int.injEq, D.bl.injEq, D.tup.injEq, D.lst.injEq, D.adr.injEq, exists_and_left, and_assoc, exists_and_right, if_true, ite_true, decide_eq_true_eq, exists_eq_right, exists_eq_right', Nat.add_zero, Nat.sub_self, Nat.reduceSub, Nat.reduceAdd, eq_self]
  refine ⟨rfl, n', d', rfl, ?_⟩
  simp only [dDropM, dLc, dFor, dISeq, dIRng1, dIRng2, dIZip, dIEnum, dSeq, dCall, SP, dFldC, dIfS, dAnd, dOr, dNot, dTest, dOp, dUn, dVar, dC, qI, qI0, qU, dNext, dRet, dRetN, dRaise, dCons, dNil, dTup, dLst, dSet, dPar, dAsg, dAug, dDrop, dgName, dgTup, dgNil, dgCons, dAndV, dOrV, dNotV, dIf, dCl, startD, List.map_cons, List.map_nil, List.length_cons, List.length_nil, List.cons_append, List.nil_append, List.append_nil, List.replicate, List.getElem?_cons_zero, List.getElem?_cons_succ, List.set_cons_zero, List.set_cons_succ, Option.some.injEq, List.cons.injEq, and_true, true_and, exists_eq_left', exists_eq_left, exists_eq, exists_eq', D.int.injEq, D.bl.injEq, D.tup.injEq, D.lst.injEq, D.adr.injEq, exists_and_left, and_assoc, exists_and_right, if_true, ite_true, decide_eq_true_eq, exists_eq_right, exists_eq_right', Nat.add_zero, Nat.sub_self, Nat.reduceSub, Nat.reduceAdd, eq_self, num_ratD, den_ratD]
  exact ⟨mul_ok h1 h4, mul_ok h3 h2, mul_ok h2 h4, rfl, _, _, rfl, h5, h6, h7, hR⟩
/-! ### scaled -/
def gL (den : Int) (nums : List Int) : Int := nums.foldl (fun g n => gI g n) den
theorem gL_pos : ∀ {nums : List Int} {den : Int}, 0 < den → 0 < gL den nums
  | [], _, h => h
  | n :: r, den, h => by
    show 0 < gL (gI den n) r
    refine gL_pos ?_
    have := Int.gcd_pos_of_ne_zero_left n (show den ≠ 0 by omega)
    unfold gI; omega
theorem gL_le : ∀ {nums : List Int} {den : Int}, 0 < den → gL den nums ≤ den
  | [], _, h => Int.le_refl _
  | n :: r, den, h => by
    show gL (gI den n) r ≤ den
    have h1 : 0 < gI den n := by
      have := Int.gcd_pos_of_ne_zero_left n (show den ≠ 0 by omega)
      unfold gI; omega
    exact Int.le_trans (gL_le h1) (Int.gcd_le_left n h)
def sp_lowered : DSp := SP 2 fun ds μ R RX => ∃ (den : Int) (x : D) (nums : List Int), ds = [.int den, x] ∧ seqD x = some (nums.map D.int) ∧ nums.length ≤ 1000 ∧ 0 < den ∧ den ≤ c_MOST ∧
  R (.tup [.int (den / gL den nums), .tup ((nums.map (· / gL den nums)).map D.int)]) μ
theorem sc_lowered : FnScope ["den", "nums", "divisor", "num"] ["den", "nums"] (defScope (top 38)) := ⟨rfl, rfl, rfl, by decide +kernel, rfl, by decide +kernel, by decide +kernel⟩
theorem fn_lowered {P : Program} {w : World} {K : PySem.W.Frag} {mg : Str → Option Value} {base : Heap} {fd : FuncData} (V : Env K mg) (F : FunD K "lowered" "lowered" (defArgs (top 38)) (defBody (top 38)) (defScope (top 38)) [] [] (He.ga K "lowered") fd)   : FnOk P w K mg base (L2.CX P w) 1 (He.ga K "lowered") fd ["den", "nums"] (low K sp_lowered) := by
  refine fn_data F sc_lowered (fun ds μ R RX h => h.1) (fun cdv A outer s H E RX hr L hW hU => ⟨_, (dss_cons (dst_set (i := 2) sc_lowered.nd (dv 0))
      (dss_cons (dst_for (passes_of rfl) rfl (di_seq (dv 1)) (dg_name (i := 3) sc_lowered.nd) (dss_one (dst_set (i := 2) sc_lowered.nd (de_callBf c_gcd V.b_gcd (da_cons (dv 2) (da_cons (dv 3) da_nil))))))
      (dss_one (dst_ret (de_tup (da_cons (de_op o_div (dv 0) (dv 2)) (da_cons (de_callTy c_tuple V.f_tuple (da_cons (de_lc [("num", 3)] (g := (gName 3)) rfl sc_lowered.nd (di_seq (dv 1)) (blkOk_by rfl) (fun _ _ _ _ _ => (dgo_name (i := 3) sc_lowered.nd)) (fun _ _ _ _ _ => dts_nil) (fun _ _ _ _ _ => (de_op o_div (dv 3) (dv 2)))) da_nil)) da_nil))))))), fun ds μ R h => ?_⟩)
  obtain ⟨-, den, x, nums, rfl, hs, hz, h1, h2, hR⟩ := h
  have hsz := sizeLine_eq
  simp only [dDropM, dLc, dFor, dISeq, dIRng1, dIRng2, dIZip, dIEnum, dSeq, dCall, SP, dFldC, dIfS, dAnd, dOr, dNot, dTest, dOp, dUn, dVar, dC, qI, qI0, qU, dNext, dRet, dRetN, dRaise, dCons, dNil, dTup, dLst, dSet, dPar, dAsg, dAug, dDrop, dgName, dgTup, dgNil, dgCons, dAndV, dOrV, dNotV, dIf, dCl, startD, List.map_cons, List.map_nil, List.length_cons, List.length_nil, List.cons_append, List.nil_append, List.append_nil, List.replicate, List.getElem?_cons_zero, List.getElem?_cons_succ, List.set_cons_zero, List.set_cons_succ, Option.some.injEq, List.cons.injEq, and_true, true_and, exists_eq_left', exists_eq_left, exists_eq, exists_eq', D.int.injEq, D.bl.injEq, D.tup.injEq, D.lst.injEq, D.adr.injEq, exists_and_left, and_assoc, exists_and_right, if_true, ite_true, decide_eq_true_eq, exists_eq_right, exists_eq_right', Nat.add_zero, Nat.sub_self, Nat.reduceSub, Nat.reduceAdd, eq_self]
  refine ⟨_, hs, forG rows_seq (fun done _ Γ' μ' => μ' = μ ∧ ∃ o, Γ' = [some (.int den), some x, some (.int (gL den done)), o]) ⟨rfl, _, rfl⟩ (fun done n rest Γ' μ' hxs hI => ?_) fun Γ' μ' hI => ?_⟩
  · obtain ⟨rfl, o, rfl⟩ := hI
    simp only [dDropM, dLc, dFor, dISeq, dIRng1, dIRng2, dIZip, dIEnum, dSeq, dCall, SP, dFldC, dIfS, dAnd, dOr, dNot, dTest, dOp, dUn, dVar, dC, qI, qI0, qU, dNext, dRet, dRetN, dRaise, dCons, dNil, dTup, dLst, dSet, dPar, dAsg, dAug, dDrop, dgName, dgTup, dgNil, dgCons, dAndV, dOrV, dNotV, dIf, dCl, startD, List.map_cons, List.map_nil, List.length_cons, List.length_nil, List.cons_append, List.nil_append, List.append_nil, List.replicate, List.getElem?_cons_zero, List.getElem?_cons_succ, List.set_cons_zero, List.set_cons_succ, Option.some.injEq, List.cons.injEq, and_true, true_and, exists_eq_left', exists_eq_left, exists_eq, exists_eq', D.int.injEq, D.bl.injEq, D.tup.injEq, D.lst.injEq, D.adr.injEq, exists_and_left, and_assoc, exists_and_right, if_true, ite_true, decide_eq_true_eq, exists_eq_right, exists_eq_right', Nat.add_zero, Nat.sub_self, Nat.reduceSub, Nat.reduceAdd, eq_self, qGcd]
    unfold gL
    rw [List.foldl_append]
    rfl
  · obtain ⟨rfl, o, rfl⟩ := hI
    have hg := gL_pos (nums := nums) h1
    have hg2 := Int.le_trans (gL_le (nums := nums) h1) h2
    simp only [dDropM, dLc, dFor, dISeq, dIRng1, dIRng2, dIZip, dIEnum, dSeq, dCall, SP, dFldC, dIfS, dAnd, dOr, dNot, dTest, dOp, dUn, dVar, dC, qI, qI0, qU, dNext, dRet, dRetN, dRaise, dCons, dNil, dTup, dLst, dSet, dPar, dAsg, dAug, dDrop, dgName, dgTup, dgNil, dgCons, dAndV, dOrV, dNotV, dIf, dCl, startD, List.map_cons, List.map_nil, List.length_cons, List.length_nil, List.cons_append, List.nil_append, List.append_nil, List.replicate, List.getElem?_cons_zero, List.getElem?_cons_succ, List.set_cons_zero, List.set_cons_succ, Option.some.injEq, List.cons.injEq, and_true, true_and, exists_eq_left', exists_eq_left, exists_eq, exists_eq', D.int.injEq, D.bl.injEq, D.tup.injEq, D.lst.injEq, D.adr.injEq, exists_and_left, and_assoc, exists_and_right, if_true, ite_true, decide_eq_true_eq, exists_eq_right, exists_eq_right', Nat.add_zero, Nat.sub_self, Nat.reduceSub, Nat.reduceAdd, eq_self, qTuple]
    refine ⟨div_ok hg hg2, _, hs, lcG (xs := nums) rows_seq (fun _ => true) (fun n => .int (n / gL den nums)) (by omega) (fun n hn Q Q' hQ hQ' => ?_) ?_⟩
    · simp only [dDropM, dLc, dFor, dISeq, dIRng1, dIRng2, dIZip, dIEnum, dSeq, dCall, SP, dFldC, dIfS, dAnd, dOr, dNot, dTest, dOp, dUn, dVar, dC, qI, qI0, qU, dNext, dRet, dRetN, dRaise, dCons, dNil, dTup, dLst, dSet, dPar, dAsg, dAug, dDrop, dgName, dgTup, dgNil, dgCons, dAndV, dOrV, dNotV, dIf, dCl, startD, List.map_cons, List.map_nil, List.length_cons, List.length_nil, List.cons_append, List.nil_append, List.append_nil, List.replicate, List.getElem?_cons_zero, List.getElem?_cons_succ, List.set_cons_zero, List.set_cons_succ, Option.some.injEq, List.cons.injEq, and_true, true_and, exists_eq_left', exists_eq_left, exists_eq, exists_eq', D.int.injEq, D.bl.injEq, D.tup.injEq, D.lst.injEq, D.adr.injEq, exists_and_left, and_assoc, exists_and_right, if_true, ite_true, decide_eq_true_eq, exists_eq_right, exists_eq_right', Nat.add_zero, Nat.sub_self, Nat.reduceSub, Nat.reduceAdd, eq_self, dYes, wipeD]
      exact ⟨div_ok hg hg2, hQ rfl⟩
    · refine ⟨_, rfl, two_le, ?_⟩
      rw [filter_tt]
      rw [List.map_map] at hR
      exact hR
def lL (l : Int) (ps : List (Int × Int)) : Int := ps.foldl (fun l p => lI l p.2) l
def pairI (p : Int × Int) : D := .tup [.int p.1, .int p.2]
theorem lI_pos {a b : Int} (ha : 0 < a) (hb : 0 < b) : 0 < lI a b := by
  have := Nat.lcm_pos (m := a.natAbs) (n := b.natAbs) (by omega) (by omega)
  unfold lI; omega
theorem lI_dvd_l (a b : Int) : a ∣ lI a b := by
  have := Nat.dvd_lcm_left a.natAbs b.natAbs
  unfold lI
  exact Int.natAbs_dvd_natAbs.mp (by simpa using this)
theorem lI_dvd_r (a b : Int) : b ∣ lI a b := by
  have := Nat.dvd_lcm_right a.natAbs b.natAbs
  unfold lI
  exact Int.natAbs_dvd_natAbs.mp (by simpa using this)
theorem lL_pos : ∀ {ps : List (Int × Int)} {l : Int}, 0 < l → (∀ p ∈ ps, 0 < p.2) → 0 < lL l ps
  | [], _, h, _ => h
  | p :: r, l, h, hp => by
    show 0 < lL (lI l p.2) r
    exact lL_pos (lI_pos h (hp p (List.mem_cons_self ..))) fun q hq => hp q (List.mem_cons_of_mem _ hq)
theorem lL_dvd : ∀ {ps : List (Int × Int)} {l : Int}, l ∣ lL l ps
  | [], _ => Int.dvd_refl _
  | p :: r, l => Int.dvd_trans (lI_dvd_l l p.2) (lL_dvd (ps := r))
theorem lL_mem : ∀ {ps : List (Int × Int)} {l : Int} {p : Int × Int}, p ∈ ps → p.2 ∣ lL l ps
  | q :: r, l, p, h => by
    show p.2 ∣ lL (lI l q.2) r
    rcases List.mem_cons.mp h with rfl | h
    · exact Int.dvd_trans (lI_dvd_r l p.2) lL_dvd
    · exact lL_mem h
theorem lL_app (l : Int) (a b : List (Int × Int)) : lL l (a ++ b) = lL (lL l a) b := by unfold lL; rw [List.foldl_append]
theorem MOST_13000 {i : Int} (h : i.natAbs ≤ c_MOST.natAbs) : i.natAbs < 2 ^ 13000 := Nat.lt_of_lt_of_le (abs_lt h) (Nat.pow_le_pow_right (by omega) (by omega))
def sp_point_of : DSp := SP 1 fun ds μ R RX => ∃ (x : D) (ps : List (Int × Int)), ds = [x] ∧ seqD x = some (ps.map pairI) ∧ ps.length ≤ 1000 ∧ (∀ p ∈ ps, 0 < p.2 ∧ p.1.natAbs ≤ c_MOST.natAbs) ∧ lL 1 ps ≤ c_MOST ∧
  R (.tup [.int (lL 1 ps / gL (lL 1 ps) (ps.map fun p => p.1 * (lL 1 ps / p.2))), .tup (((ps.map fun p => p.1 * (lL 1 ps / p.2)).map (· / gL (lL 1 ps) (ps.map fun p => p.1 * (lL 1 ps / p.2)))).map D.int)]) μ
theorem sc_point_of : FnScope ["pairs", "least", "_", "den", "num"] ["pairs"] (defScope (top 39)) := ⟨rfl, rfl, rfl, by decide +kernel, rfl, by decide +kernel, by decide +kernel⟩
theorem fn_point_of {P : Program} {w : World} {K : PySem.W.Frag} {mg : Str → Option Value} {base : Heap} {fd : FuncData} (V : Env K mg) (F : FunD K "point_of" "point_of" (defArgs (top 39)) (defBody (top 39)) (defScope (top 39)) [] [] (He.ga K "point_of") fd)  (D_lowered : DFn P w K mg base 1 (He.ga K "lowered") ["den", "nums"] [] sp_lowered) : FnOk P w K mg base (L2.CX P w) 2 (He.ga K "point_of") fd ["pairs"] (low K sp_point_of) := by
  refine fn_data F sc_point_of (fun ds μ R RX h => h.1) (fun cdv A outer s H E RX hr L hW hU => ⟨_, (dss_cons (dst_set (i := 1) sc_point_of.nd de_int)
      (dss_cons (dst_for (passes_of rfl) rfl (di_seq (dv 0)) (dg_tup (n := 2) rfl (dgs_cons (dg_name (i := 2) sc_point_of.nd) (dgs_cons (dg_name (i := 3) sc_point_of.nd) dgs_nil))) (dss_one (dst_set (i := 1) sc_point_of.nd (de_callBf c_lcm V.b_lcm (da_cons (dv 1) (da_cons (dv 3) da_nil))))))
      (dss_one (dst_ret (de_call D_lowered (hr.mono (by decide)) V.g_lowered (da_cons (dv 1) (da_cons (de_lc [("num", 4), ("den", 3)] (g := (gTup K 2 (gCons (gName 4) (gCons (gName 3) gNil)))) rfl sc_point_of.nd (di_seq (dv 0)) (blkOk_by rfl) (fun _ _ _ _ _ => (dgo_tup (n := 2) rfl (dgos_cons (dgo_name (i := 4) sc_point_of.nd) (dgos_cons (dgo_name (i := 3) sc_point_of.nd) dgos_nil)))) (fun _ _ _ _ _ => dts_nil) (fun _ _ _ _ _ => (de_op o_mul (dv 4) (de_op o_div (dv 1) (dv 3))))) da_nil))))))), fun ds μ R h => ?_⟩)
  obtain ⟨-, x, ps, rfl, hs, hz, hp, hL, hR⟩ := h
  have hsz := sizeLine_eq
  have hpos : 0 < lL 1 ps := lL_pos (by decide) fun p h => (hp p h).1
  have le_of : ∀ {a : Int}, 0 < a → a ∣ lL 1 ps → a.natAbs ≤ c_MOST.natAbs := fun {a} h0 h => by
    have := Int.le_of_dvd hpos h
    omega
  simp only [dDropM, dLc, dFor, dISeq, dIRng1, dIRng2, dIZip, dIEnum, dSeq, dCall, SP, dFldC, dIfS, dAnd, dOr, dNot, dTest, dOp, dUn, dVar, dC, qI, qI0, qU, dNext, dRet, dRetN, dRaise, dCons, dNil, dTup, dLst, dSet, dPar, dAsg, dAug, dDrop, dgName, dgTup, dgNil, dgCons, dAndV, dOrV, dNotV, dIf, dCl, startD, List.map_cons, List.map_nil, List.length_cons, List.length_nil, List.cons_append, List.nil_append, List.append_nil, List.replicate, List.getElem?_cons_zero, List.getElem?_cons_succ, List.set_cons_zero, List.set_cons_succ, Option.some.injEq, List.cons.injEq, and_true, true_and, exists_eq_left', exists_eq_left, exists_eq, exists_eq', D.int.injEq, D.bl.injEq, D.tup.injEq, D.lst.injEq, D.adr.injEq, exists_and_left, and_assoc, exists_and_right, if_true, ite_true, decide_eq_true_eq, exists_eq_right, exists_eq_right', Nat.add_zero, Nat.sub_self, Nat.reduceSub, Nat.reduceAdd, eq_self]
  refine ⟨_, hs, forG rows_seq (fun done _ Γ' μ' => μ' = μ ∧ ∃ o1 o2 o3, Γ' = [some x, some (.int (lL 1 done)), o1, o2, o3]) ⟨rfl, _, _, _, rfl⟩ (fun done p rest Γ' μ' hxs hI => ?_) fun Γ' μ' hI => ?_⟩
  · obtain ⟨rfl, o1, o2, o3, rfl⟩ := hI
    simp only [dDropM, dLc, dFor, dISeq, dIRng1, dIRng2, dIZip, dIEnum, dSeq, dCall, SP, dFldC, dIfS, dAnd, dOr, dNot, dTest, dOp, dUn, dVar, dC, qI, qI0, qU, dNext, dRet, dRetN, dRaise, dCons, dNil, dTup, dLst, dSet, dPar, dAsg, dAug, dDrop, dgName, dgTup, dgNil, dgCons, dAndV, dOrV, dNotV, dIf, dCl, startD, List.map_cons, List.map_nil, List.length_cons, List.length_nil, List.cons_append, List.nil_append, List.append_nil, List.replicate, List.getElem?_cons_zero, List.getElem?_cons_succ, List.set_cons_zero, List.set_cons_succ, Option.some.injEq, List.cons.injEq, and_true, true_and, exists_eq_left', exists_eq_left, exists_eq, exists_eq', D.int.injEq, D.bl.injEq, D.tup.injEq, D.lst.injEq, D.adr.injEq, exists_and_left, and_assoc, exists_and_right, if_true, ite_true, decide_eq_true_eq, exists_eq_right, exists_eq_right', Nat.add_zero, Nat.sub_self, Nat.reduceSub, Nat.reduceAdd, eq_self, pairI, qLcm]
    have hd : 0 < lL 1 done := lL_pos (by decide) fun q hq => (hp q (by rw [hxs]; simp [hq])).1
    have hdv : lL 1 done ∣ lL 1 ps := by rw [hxs, lL_app]; exact lL_dvd
    have hpm : p ∈ ps := by rw [hxs]; simp
    refine ⟨MOST_13000 (le_of hd hdv), MOST_13000 (le_of (hp p hpm).1 (lL_mem hpm)), ?_⟩
    rw [lL_app]
    rfl
  · obtain ⟨rfl, o1, o2, o3, rfl⟩ := hI
    simp only [dDropM, dLc, dFor, dISeq, dIRng1, dIRng2, dIZip, dIEnum, dSeq, dCall, SP, dFldC, dIfS, dAnd, dOr, dNot, dTest, dOp, dUn, dVar, dC, qI, qI0, qU, dNext, dRet, dRetN, dRaise, dCons, dNil, dTup, dLst, dSet, dPar, dAsg, dAug, dDrop, dgName, dgTup, dgNil, dgCons, dAndV, dOrV, dNotV, dIf, dCl, startD, List.map_cons, List.map_nil, List.length_cons, List.length_nil, List.cons_append, List.nil_append, List.append_nil, List.replicate, List.getElem?_cons_zero, List.getElem?_cons_succ, List.set_cons_zero, List.set_cons_succ, Option.some.injEq, List.cons.injEq, and_true, true_and, exists_eq_left', exists_eq_left, exists_eq, exists_eq', D.int.injEq, D.bl.injEq, D.tup.injEq, D.lst.injEq, D.adr.injEq, exists_and_left, and_assoc, exists_and_right, if_true, ite_true, decide_eq_true_eq, exists_eq_right, exists_eq_right', Nat.add_zero, Nat.sub_self, Nat.reduceSub, Nat.reduceAdd, eq_self]
    refine ⟨_, hs, lcG (xs := ps) rows_seq (fun _ => true) (fun p => .int (p.1 * (lL 1 ps / p.2))) (by omega) (fun p hpm Q Q' hQ hQ' => ?_) ?_⟩
    · simp only [dDropM, dLc, dFor, dISeq, dIRng1, dIRng2, dIZip, dIEnum, dSeq, dCall, SP, dFldC, dIfS, dAnd, dOr, dNot, dTest, dOp, dUn, dVar, dC, qI, qI0, qU, dNext, dRet, dRetN, dRaise, dCons, dNil, dTup, dLst, dSet, dPar, dAsg, dAug, dDrop, dgName, dgTup, dgNil, dgCons, dAndV, dOrV, dNotV, dIf, dCl, startD, List.map_cons, List.map_nil, List.length_cons, List.length_nil, List.cons_append, List.nil_append, List.append_nil, List.replicate, List.getElem?_cons_zero, List.getElem?_cons_succ, List.set_cons_zero, List.set_cons_succ, Option.some.injEq, List.cons.injEq, and_true, true_and, exists_eq_left', exists_eq_left, exists_eq, exists_eq', D.int.injEq, D.bl.injEq, D.tup.injEq, D.lst.injEq, D.adr.injEq, exists_and_left, and_assoc, exists_and_right, if_true, ite_true, decide_eq_true_eq, exists_eq_right, exists_eq_right', Nat.add_zero, Nat.sub_self, Nat.reduceSub, Nat.reduceAdd, eq_self, dYes, wipeD, pairI]
      have h1 := hp p hpm
      have h2 : 0 < lL 1 ps / p.2 := Int.ediv_pos_of_pos_of_dvd hpos (Int.le_of_lt h1.1) (lL_mem hpm)
      have h3 : lL 1 ps / p.2 ≤ lL 1 ps := Int.ediv_le_self _ (by omega)
      exact ⟨div_ok h1.1 (by have := le_of h1.1 (lL_mem hpm); omega), mul_ok h1.2 (by omega), hQ rfl⟩
    · refine ⟨rfl, _, _, ps.map fun p => p.1 * (lL 1 ps / p.2), rfl, ?_, by rw [List.length_map]; exact hz, hpos, hL, hR⟩
      rw [filter_tt, List.map_map]
      rfl
def sp_ratios_of : DSp := SP 1 fun ds μ R RX => ∃ (d : Int) (x : D) (ns : List Int), ds = [.tup [.int d, x]] ∧ seqD x = some (ns.map D.int) ∧ ns.length ≤ 1000 ∧ 0 < d ∧ d ≤ c_MOST ∧ (∀ n ∈ ns, n.natAbs ≤ c_MOST.natAbs) ∧ R (.lst (ns.map fun n => redD n d)) μ
theorem sc_ratios_of : FnScope ["point", "den", "nums", "num"] ["point"] (defScope (top 42)) := ⟨rfl, rfl, rfl, by decide +kernel, rfl, by decide +kernel, by decide +kernel⟩
theorem fn_ratios_of {P : Program} {w : World} {K : PySem.W.Frag} {mg : Str → Option Value} {base : Heap} {fd : FuncData} (V : Env K mg) (F : FunD K "ratios_of" "ratios_of" (defArgs (top 42)) (defBody (top 42)) (defScope (top 42)) [] [] (He.ga K "ratios_of") fd)  (D_ratio_of : DFn P w K mg base 4 (He.ga K "ratio_of") ["num", "den"] [] sp_ratio_of) : FnOk P w K mg base (L2.CX P w) 5 (He.ga K "ratios_of") fd ["point"] (low K sp_ratios_of) := by
  refine fn_data F sc_ratios_of (fun ds μ R RX h => h.1) (fun cdv A outer s H E RX hr L hW hU => ⟨_, (dss_cons (dst_asg (dv 0) (dg_tup (n := 2) rfl (dgs_cons (dg_name (i := 1) sc_ratios_of.nd) (dgs_cons (dg_name (i := 2) sc_ratios_of.nd) dgs_nil))))
      (dss_one (dst_ret (de_lc [("num", 3)] (g := (gName 3)) rfl sc_ratios_of.nd (di_seq (dv 2)) (blkOk_by rfl) (fun _ _ _ _ _ => (dgo_name (i := 3) sc_ratios_of.nd)) (fun _ _ _ _ _ => dts_nil) (fun _ _ _ _ _ => (de_callF rfl D_ratio_of (hr.mono (by decide)) V.g_ratio_of (da_cons (dv 3) (da_cons (dv 1) da_nil)))))))), fun ds μ R h => ?_⟩)
  obtain ⟨-, d, x, ns, rfl, hs, hz, h1, h2, h3, hR⟩ := h
  have hsz := sizeLine_eq
  simp only [dDropM, dLc, dFor, dISeq, dIRng1, dIRng2, dIZip, dIEnum, dSeq, dCall, SP, dFldC, dIfS, dAnd, dOr, dNot, dTest, dOp, dUn, dVar, dC, qI, qI0, qU, dNext, dRet, dRetN, dRaise, dCons, dNil, dTup, dLst, dSet, dPar, dAsg, dAug, dDrop, dgName, dgTup, dgNil, dgCons, dAndV, dOrV, dNotV, dIf, dCl, startD, List.map_cons, List.map_nil, List.length_cons, List.length_nil, List.cons_append, List.nil_append, List.append_nil, List.replicate, List.getElem?_cons_zero, List.getElem?_cons_succ, List.set_cons_zero, List.set_cons_succ, Option.some.injEq, List.cons.injEq, and_true, true_and, exists_eq_left', exists_eq_left, exists_eq, exists_eq', D.int.injEq, D.bl.injEq, D.tup.injEq, D.lst.injEq, D.adr.injEq, exists_and_left, and_assoc, exists_and_right, if_true, ite_true, decide_eq_true_eq, exists_eq_right, exists_eq_right', Nat.add_zero, Nat.sub_self, Nat.reduceSub, Nat.reduceAdd, eq_self]
  refine ⟨_, hs, lcG (xs := ns) rows_seq (fun _ => true) (fun n => redD n d) (by omega) (fun n hn Q Q' hQ hQ' => ?_) ?_⟩
  · simp only [dDropM, dLc, dFor, dISeq, dIRng1, dIRng2, dIZip, dIEnum, dSeq, dCall, SP, dFldC, dIfS, dAnd, dOr, dNot, dTest, dOp, dUn, dVar, dC, qI, qI0, qU, dNext, dRet, dRetN, dRaise, dCons, dNil, dTup, dLst, dSet, dPar, dAsg, dAug, dDrop, dgName, dgTup, dgNil, dgCons, dAndV, dOrV, dNotV, dIf, dCl, startD, List.map_cons, List.map_nil, List.length_cons, List.length_nil, List.cons_append, List.nil_append, List.append_nil, List.replicate, List.getElem?_cons_zero, List.getElem?_cons_succ, List.set_cons_zero, List.set_cons_succ, Option.some.injEq, List.cons.injEq, and_true, true_and, exists_eq_left', exists_eq_left, exists_eq, exists_eq', D.int.injEq, D.bl.injEq, D.tup.injEq, D.lst.injEq, D.adr.injEq, exists_and_left, and_assoc, exists_and_right, if_true, ite_true, decide_eq_true_eq, exists_eq_right, exists_eq_right', Nat.add_zero, Nat.sub_self, Nat.reduceSub, Nat.reduceAdd, eq_self, dYes, wipeD]
    exact ⟨rfl, n, d, rfl, h3 n hn, h1, h2, hQ rfl⟩
  · rw [filter_tt]; exact hR
end N67
set_option Elab.async false
set_option linter.all false
set_option maxRecDepth 100000
set_option maxHeartbeats 4000000
set_option exponentiation.threshold 20000
namespace N67
open PySem PySem.Spec PyProof.Rows L2 Nod
/-! ### a mixture, drawn from -/
abbrev Pr := Int × Int × List Int
def prD (p : Pr) : D := .tup [ratD p.1 p.2.1, tupI p.2.2]
def mixD (t : Int) (ps : List Pr) (sh : D) : D := .obj "Mixture" [("things", .int t), ("pairs", .tup (ps.map prD)), ("shares", sh)]
theorem pairs_mixD {t : Int} {ps : List Pr} {sh : D} {μ : Mu} {R : DK} : fldK "Mixture" "pairs" (mixD t ps sh) μ R ↔ R (.tup (ps.map prD)) μ := fldK_obj rfl
def nd (p : Pr) : Int × Int := (p.1, p.2.1)
def perM (ps : List Pr) : Int := lL 1 (ps.map nd)
structure PrOk (ps : List Pr) : Prop where
  pos : ∀ p ∈ ps, 0 < p.2.1
  num : ∀ p ∈ ps, p.1.natAbs ≤ c_MOST.natAbs
  per : perM ps ≤ c_MOST
theorem PrOk.ppos {ps : List Pr} (h : PrOk ps) : 0 < perM ps := lL_pos (by decide) fun q hq => by
  obtain ⟨p, hp, rfl⟩ := List.mem_map.mp hq
  exact h.pos p hp
theorem PrOk.le {ps : List Pr} (h : PrOk ps) {a : Int} (h0 : 0 < a) (hd : a ∣ perM ps) : a.natAbs ≤ c_MOST.natAbs := by
  have h1 := Int.le_of_dvd h.ppos hd
  have h2 := h.per
  omega
theorem PrOk.dvd {ps : List Pr} {p : Pr} (hp : p ∈ ps) : p.2.1 ∣ perM ps := lL_mem (List.mem_map.mpr ⟨p, hp, rfl⟩ : nd p ∈ ps.map nd)
def sp_period_of : DSp := SP 1 fun ds μ R RX => ∃ (t : Int) (ps : List Pr) (sh : D), ds = [mixD t ps sh] ∧ PrOk ps ∧ R (.int (perM ps)) μ
theorem sc_period_of : FnScope ["mixture", "period", "weight", "_"] ["mixture"] (defScope (top 19)) := ⟨rfl, rfl, rfl, by decide +kernel, rfl, by decide +kernel, by decide +kernel⟩
theorem fn_period_of {P : Program} {w : World} {K : PySem.W.Frag} {mg : Str → Option Value} {base : Heap} {fd : FuncData} (V : Env K mg) (F : FunD K "period_of" "period_of" (defArgs (top 19)) (defBody (top 19)) (defScope (top 19)) [] [] (He.ga K "period_of") fd)   : FnOk P w K mg base (L2.CX P w) 1 (He.ga K "period_of") fd ["mixture"] (low K sp_period_of) := by
  refine fn_data F sc_period_of (fun ds μ R RX h => h.1) (fun cdv A outer s H E RX hr L hW hU => ⟨_, (dss_cons (dst_set (i := 1) sc_period_of.nd de_int)
      (dss_cons (dst_for (passes_of rfl) rfl (di_seq (de_fld "Mixture" (dv 0) V.c_Mixture V.n_Mixture_pairs)) (dg_tup (n := 2) rfl (dgs_cons (dg_name (i := 2) sc_period_of.nd) (dgs_cons (dg_name (i := 3) sc_period_of.nd) dgs_nil))) (dss_one (dst_set (i := 1) sc_period_of.nd (de_callBf c_lcm V.b_lcm (da_cons (dv 1) (da_cons (de_fld "Ratio" (dv 2) V.c_Ratio V.n_Ratio_den) da_nil))))))
      (dss_one (dst_ret (dv 1))))), fun ds μ R h => ?_⟩)
  obtain ⟨-, t, ps, sh, rfl, ok, hR⟩ := h
  simp only [dDropM, dLc, dFor, dISeq, dIRng1, dIRng2, dIZip, dIEnum, dSeq, dCall, SP, dFldC, dIfS, dAnd, dOr, dNot, dTest, dOp, dUn, dVar, dC, qI, qI0, qU, dNext, dRet, dRetN, dRaise, dCons, dNil, dTup, dLst, dSet, dPar, dAsg, dAug, dDrop, dgName, dgTup, dgNil, dgCons, dAndV, dOrV, dNotV, dIf, dCl, startD, List.map_cons, List.map_nil, List.length_cons, List.length_nil, List.cons_append, List.nil_append, List.append_nil, List.replicate, List.getElem?_cons_zero, List.getElem?_cons_succ, List.set_cons_zero, List.set_cons_succ, Option.some.injEq, List.cons.injEq, and_true, true_and, exists_eq_left', exists_eq_left, exists_eq, exists_eq', D.int.injEq, D.bl.injEq, D.tup.injEq, D.lst.injEq, D.adr.injEq, exists_and_left, and_assoc, exists_and_right, if_true, ite_true, decide_eq_true_eq, exists_eq_right, exists_eq_right', Nat.add_zero, Nat.sub_self, Nat.reduceSub, Nat.reduceAdd, eq_self, pairs_mixD]
  refine ⟨_, rfl, forG rows_seq (fun done _ Γ' μ' => μ' = μ ∧ ∃ o1 o2, Γ' = [some (mixD t ps sh), some (.int (perM done)), o1, o2]) ⟨rfl, _, _, rfl⟩ (fun done p rest Γ' μ' hxs hI => ?_) fun Γ' μ' hI => ?_⟩
  · obtain ⟨rfl, o1, o2, rfl⟩ := hI
    have hpm : p ∈ ps := by rw [hxs]; simp
    have hd : 0 < perM done := lL_pos (by decide) fun q hq => by
      obtain ⟨p', hp', rfl⟩ := List.mem_map.mp hq
      exact ok.pos p' (by rw [hxs]; simp [hp'])
    have hdv : perM done ∣ perM ps := by
      unfold perM
      rw [hxs, List.map_append, lL_app]; exact lL_dvd
    simp only [dDropM, dLc, dFor, dISeq, dIRng1, dIRng2, dIZip, dIEnum, dSeq, dCall, SP, dFldC, dIfS, dAnd, dOr, dNot, dTest, dOp, dUn, dVar, dC, qI, qI0, qU, dNext, dRet, dRetN, dRaise, dCons, dNil, dTup, dLst, dSet, dPar, dAsg, dAug, dDrop, dgName, dgTup, dgNil, dgCons, dAndV, dOrV, dNotV, dIf, dCl, startD, List.map_cons, List.map_nil, List.length_cons, List.length_nil, List.cons_append, List.nil_append, List.append_nil, List.replicate, List.getElem?_cons_zero, List.getElem?_cons_succ, List.set_cons_zero, List.set_cons_succ, Option.some.injEq, List.cons.injEq, and_true, true_and, exists_eq_left', exists_eq_left, exists_eq, exists_eq', D.int.injEq, D.bl.injEq, D.tup.injEq, D.lst.injEq, D.adr.injEq, exists_and_left, and_assoc, exists_and_right, if_true, ite_true, decide_eq_true_eq, exists_eq_right, exists_eq_right', Nat.add_zero, Nat.sub_self, Nat.reduceSub, Nat.reduceAdd, eq_self, prD, den_ratD, qLcm]
    refine ⟨MOST_13000 (ok.le hd hdv), MOST_13000 (ok.le (ok.pos p hpm) (PrOk.dvd hpm)), ?_⟩
    unfold perM
    rw [List.map_append, lL_app]
    rfl
  · obtain ⟨rfl, o1, o2, rfl⟩ := hI
    simp only [dDropM, dLc, dFor, dISeq, dIRng1, dIRng2, dIZip, dIEnum, dSeq, dCall, SP, dFldC, dIfS, dAnd, dOr, dNot, dTest, dOp, dUn, dVar, dC, qI, qI0, qU, dNext, dRet, dRetN, dRaise, dCons, dNil, dTup, dLst, dSet, dPar, dAsg, dAug, dDrop, dgName, dgTup, dgNil, dgCons, dAndV, dOrV, dNotV, dIf, dCl, startD, List.map_cons, List.map_nil, List.length_cons, List.length_nil, List.cons_append, List.nil_append, List.append_nil, List.replicate, List.getElem?_cons_zero, List.getElem?_cons_succ, List.set_cons_zero, List.set_cons_succ, Option.some.injEq, List.cons.injEq, and_true, true_and, exists_eq_left', exists_eq_left, exists_eq, exists_eq', D.int.injEq, D.bl.injEq, D.tup.injEq, D.lst.injEq, D.adr.injEq, exists_and_left, and_assoc, exists_and_right, if_true, ite_true, decide_eq_true_eq, exists_eq_right, exists_eq_right', Nat.add_zero, Nat.sub_self, Nat.reduceSub, Nat.reduceAdd, eq_self]
    exact hR
def sp_days_of : DSp := SP 2 fun ds μ R RX => ∃ n d p : Int, ds = [ratD n d, .int p] ∧ 0 < d ∧ d ≤ c_MOST ∧ n.natAbs ≤ c_MOST.natAbs ∧ (p / d).natAbs ≤ c_MOST.natAbs ∧ R (.int (n * (p / d))) μ
theorem sc_days_of : FnScope ["weight", "period"] ["weight", "period"] (defScope (top 20)) := ⟨rfl, rfl, rfl, by decide +kernel, rfl, by decide +kernel, by decide +kernel⟩
theorem fn_days_of {P : Program} {w : World} {K : PySem.W.Frag} {mg : Str → Option Value} {base : Heap} {fd : FuncData} (V : Env K mg) (F : FunD K "days_of" "days_of" (defArgs (top 20)) (defBody (top 20)) (defScope (top 20)) [] [] (He.ga K "days_of") fd)   : FnOk P w K mg base (L2.CX P w) 1 (He.ga K "days_of") fd ["weight", "period"] (low K sp_days_of) := by
  refine fn_data F sc_days_of (fun ds μ R RX h => h.1) (fun cdv A outer s H E RX hr L hW hU => ⟨_, (dss_one (dst_ret (de_op o_mul (de_fld "Ratio" (dv 0) V.c_Ratio V.n_Ratio_num) (de_op o_div (dv 1) (de_fld "Ratio" (dv 0) V.c_Ratio V.n_Ratio_den))))), fun ds μ R h => ?_⟩)
  obtain ⟨-, n, d, p, rfl, h1, h2, h3, h4, hR⟩ := h
  simp only [dDropM, dLc, dFor, dISeq, dIRng1, dIRng2, dIZip, dIEnum, dSeq, dCall, SP, dFldC, dIfS, dAnd, dOr, dNot, dTest, dOp, dUn, dVar, dC, qI, qI0, qU, dNext, dRet, dRetN, dRaise, dCons, dNil, dTup, dLst, dSet, dPar, dAsg, dAug, dDrop, dgName, dgTup, dgNil, dgCons, dAndV, dOrV, dNotV, dIf, dCl, startD, List.map_cons, List.map_nil, List.length_cons, List.length_nil, List.cons_append, List.nil_append, List.append_nil, List.replicate, List.getElem?_cons_zero, List.getElem?_cons_succ, List.set_cons_zero, List.set_cons_succ, Option.some.injEq, List.cons.injEq, and_true, true_and, exists_eq_left', exists_eq_left, exists_eq, exists_eq', D.int.injEq, D.bl.injEq, D.tup.injEq, D.lst.injEq, D.adr.injEq, exists_and_left, and_assoc, exists_and_right, if_true, ite_true, decide_eq_true_eq, exists_eq_right, exists_eq_right', Nat.add_zero, Nat.sub_self, Nat.reduceSub, Nat.reduceAdd, eq_self, num_ratD, den_ratD]
  exact ⟨div_ok h1 h2, mul_ok h3 h4, hR⟩
end N67
set_option Elab.async false
set_option linter.all false
set_option maxRecDepth 100000
set_option maxHeartbeats 4000000
set_option exponentiation.threshold 20000
namespace N67
open PySem PySem.Spec PyProof.Rows L2 Nod
/-! ### where the code objects of the defs stand, and their tables -/
def codAd (K : PySem.W.Frag) (x : Str) : Addr := match K.lookup (He.ga K x) with
  | some ⟨_, _, .func fd, _⟩ => (match fd.code with
    | .ref c => c
    | _ => 0)
  | _ => 0
def tabAd (K : PySem.W.Frag) (x : Str) : Addr := match K.lookup (codAd K x) with
  | some ⟨_, _, .fields vs, _⟩ => (match vs.getD 11 .none with
    | .ref c => c
    | _ => 0)
  | _ => 0
theorem ix_ok {x : D} {ds : List D} {i : Int} {d : D} {μ : Mu} {R : DK} (h : seqM μ x = some ds) (h2 : atI ds i = some d) (hR : R d μ) : qIx x (.int i) μ R := ⟨ds, i, d, h, rfl, h2, hR⟩
theorem le_MOST {i : Int} (h : i ≤ 10 ^ 400) : i ≤ c_MOST := Int.le_trans h (by unfold c_MOST; decide +kernel)
def sp__look_weight : DSp := SP 3 fun ds μ R RX => ∃ a n d l : Int, ds = [.int a, ratD n d, .int l] ∧ 0 < n ∧ 0 < d ∧ 0 < l ∧ lI l d ≤ 10 ^ 400 ∧ R (.int (lI l d)) μ
theorem sc__look_weight : FnScope ["at", "weight", "least"] ["at", "weight", "least"] (defScope (top 49)) := ⟨rfl, rfl, rfl, by decide +kernel, rfl, by decide +kernel, by decide +kernel⟩
theorem fn__look_weight {P : Program} {w : World} {K : PySem.W.Frag} {mg : Str → Option Value} {base : Heap} {fd : FuncData} (V : Env K mg) (F : FunD K "_look_weight" "_look_weight" (defArgs (top 49)) (defBody (top 49)) (defScope (top 49)) [] [] (He.ga K "_look_weight") fd)  (D_look_number : DFn P w K mg base 1 (He.ga K "look_number") ["number", "low", "high"] [] sp_look_number) : FnOk P w K mg base (L2.CX P w) 2 (He.ga K "_look_weight") fd ["at", "weight", "least"] (low K sp__look_weight) := by
  refine fn_data F sc__look_weight (fun ds μ R RX h => h.1) (fun cdv A outer s H E RX hr L hW hU => ⟨_, (dss_cons (dst_if (dt_cmp o_le (de_fld "Ratio" (dv 1) V.c_Ratio V.n_Ratio_num) de_int) (dss_one dst_never) dss_nil)
      (dss_one (dst_ret (de_call D_look_number (hr.mono (by decide)) V.g_look_number (da_cons (de_callBf c_lcm V.b_lcm (da_cons (dv 2) (da_cons (de_fld "Ratio" (dv 1) V.c_Ratio V.n_Ratio_den) da_nil))) (da_cons de_int (da_cons (de_gint rfl V.i_MOST_PASSED_DEN) da_nil))))))), fun ds μ R h => ?_⟩)
  obtain ⟨-, a, n, d, l, rfl, h1, h2, h3, h4, hR⟩ := h
  have hp := lI_pos h3 h2
  have l1 : l ≤ lI l d := Int.le_of_dvd hp (lI_dvd_l l d)
  have l2 : d ≤ lI l d := Int.le_of_dvd hp (lI_dvd_r l d)
  have hM := le_MOST h4
  simp only [dDropM, dLc, dFor, dISeq, dIRng1, dIRng2, dIZip, dIEnum, dSeq, dCall, SP, dFldC, dIfS, dAnd, dOr, dNot, dTest, dOp, dUn, dVar, dC, qI, qI0, qU, dNext, dRet, dRetN, dRaise, dCons, dNil, dTup, dLst, dSet, dPar, dAsg, dAug, dDrop, dgName, dgTup, dgNil, dgCons, dAndV, dOrV, dNotV, dIf, dCl, startD, List.map_cons, List.map_nil, List.length_cons, List.length_nil, List.cons_append, List.nil_append, List.append_nil, List.replicate, List.getElem?_cons_zero, List.getElem?_cons_succ, List.set_cons_zero, List.set_cons_succ, Option.some.injEq, List.cons.injEq, and_true, true_and, exists_eq_left', exists_eq_left, exists_eq, exists_eq', D.int.injEq, D.bl.injEq, D.tup.injEq, D.lst.injEq, D.adr.injEq, exists_and_left, and_assoc, exists_and_right, if_true, ite_true, decide_eq_true_eq, exists_eq_right, exists_eq_right', Nat.add_zero, Nat.sub_self, Nat.reduceSub, Nat.reduceAdd, eq_self, num_ratD, den_ratD]
  rw [if_neg (by omega)]
  refine ⟨l, d, rfl, MOST_13000 (by omega), MOST_13000 (by omega), ?_⟩
  exact ⟨rfl, _, _, _, rfl, fun z => by unfold c_MOST_PASSED_DEN at z; unfold lI at *; omega, fun _ => hR⟩
def sp__look_whole : DSp := SP 1 fun ds μ R RX => ∃ (den : Int) (ns : List Int), ds = [.tup [.int den, .tup (ns.map D.int)]] ∧ ns.sum = den ∧ R .non μ
theorem sc__look_whole : FnScope ["point"] ["point"] (defScope (top 50)) := ⟨rfl, rfl, rfl, by decide +kernel, rfl, by decide +kernel, by decide +kernel⟩
theorem fn__look_whole {P : Program} {w : World} {K : PySem.W.Frag} {mg : Str → Option Value} {base : Heap} {fd : FuncData} (V : Env K mg) (F : FunD K "_look_whole" "_look_whole" (defArgs (top 50)) (defBody (top 50)) (defScope (top 50)) [] [] (He.ga K "_look_whole") fd)   : FnOk P w K mg base (L2.CX P w) 1 (He.ga K "_look_whole") fd ["point"] (low K sp__look_whole) := by
  refine fn_data F sc__look_whole (fun ds μ R RX h => h.1) (fun cdv A outer s H E RX hr L hW hU => ⟨_, (dss_one (dst_if (dt_cmp o_ne (de_callB (c_sum rfl) V.f_sum (da_cons (de_ix o_ix (dv 0) de_int) da_nil)) (de_ix o_ix (dv 0) de_int)) (dss_one dst_never) dss_nil)), fun ds μ R h => ?_⟩)
  obtain ⟨-, den, ns, rfl, h1, hR⟩ := h
  simp only [dDropM, dLc, dFor, dISeq, dIRng1, dIRng2, dIZip, dIEnum, dSeq, dCall, SP, dFldC, dIfS, dAnd, dOr, dNot, dTest, dOp, dUn, dVar, dC, qI, qI0, qU, dNext, dRet, dRetN, dRaise, dCons, dNil, dTup, dLst, dSet, dPar, dAsg, dAug, dDrop, dgName, dgTup, dgNil, dgCons, dAndV, dOrV, dNotV, dIf, dCl, startD, List.map_cons, List.map_nil, List.length_cons, List.length_nil, List.cons_append, List.nil_append, List.append_nil, List.replicate, List.getElem?_cons_zero, List.getElem?_cons_succ, List.set_cons_zero, List.set_cons_succ, Option.some.injEq, List.cons.injEq, and_true, true_and, exists_eq_left', exists_eq_left, exists_eq, exists_eq', D.int.injEq, D.bl.injEq, D.tup.injEq, D.lst.injEq, D.adr.injEq, exists_and_left, and_assoc, exists_and_right, if_true, ite_true, decide_eq_true_eq, exists_eq_right, exists_eq_right', Nat.add_zero, Nat.sub_self, Nat.reduceSub, Nat.reduceAdd, eq_self]
  refine ix_ok rfl rfl ?_
  refine ⟨_, ns, rfl, rfl, ?_⟩
  refine ix_ok rfl rfl ⟨_, rfl, _, rfl, ?_⟩
  simp only [h1, decide_true, Bool.not_true, Bool.false_eq_true, if_false]
  exact hR
/-! ### gathering equal lots -/
def keyI (l : List Int) : List Key := l.map Sum.inl
theorem keyI_inj {a b : List Int} : keyI a = keyI b ↔ a = b := by
  unfold keyI
  exact List.map_inj_right fun x y e => Sum.inl.inj e
theorem tupI_key (l : List Int) : tupI l = .tup ((keyI l).map kD) := by
  unfold tupI keyI
  rw [List.map_map]
  rfl
abbrev Sums := List (List Int × Int)
def sD (s : Sums) : List (List Key × D) := s.map fun p => (keyI p.1, .int p.2)
def getS (s : Sums) (l : List Int) : Option Int := (s.find? fun p => decide (p.1 = l)).map (·.2)
def putS (s : Sums) (l : List Int) (v : Int) : Sums := if (s.any fun p => decide (p.1 = l)) = true then s.map (fun p => if p.1 = l then (p.1, v) else p) else s ++ [(l, v)]
theorem get_sD (s : Sums) (l : List Int) : getDK (sD s) (keyI l) = (getS s l).map D.int := by
  unfold getDK getS sD
  rw [List.find?_map, Option.map_map, Option.map_map]
  have e : ((fun kv : List Key × D => decide (kv.1 = keyI l)) ∘ fun p : List Int × Int => (keyI p.1, D.int p.2)) = fun p => decide (p.1 = l) := by
    funext p
    exact decide_eq_decide.mpr keyI_inj
  rw [e]
  rfl
theorem put_sD (s : Sums) (l : List Int) (v : Int) : putDK (sD s) (keyI l) (.int v) = sD (putS s l v) := by
  unfold putDK putS sD
  rw [List.any_map]
  have e : ((fun kv : List Key × D => decide (kv.1 = keyI l)) ∘ fun p : List Int × Int => (keyI p.1, D.int p.2)) = fun p => decide (p.1 = l) := by
    funext p
    exact decide_eq_decide.mpr keyI_inj
  rw [e]
  split
  · rw [List.map_map, List.map_map]
    refine List.map_congr_left fun p _ => ?_
    show (if keyI p.1 = keyI l then (keyI p.1, D.int v) else (keyI p.1, D.int p.2)) = _
    by_cases c : p.1 = l
    · rw [if_pos (keyI_inj.mpr c)]; simp [c]
    · rw [if_neg (fun z => c (keyI_inj.mp z))]; simp [c]
  · rw [List.map_append]; rfl
def stepS (s : Sums) (p : Int × List Int) : Sums := putS s p.2 ((getS s p.2).getD 0 + p.1)
def sumsM (nums : List Int) (lots : List (List Int)) : Sums := (nums.zip lots).foldl stepS []
structure PtM where
  den : Int
  nums : List Int
def lowM (den : Int) (nums : List Int) : PtM := ⟨den / gL den nums, nums.map (· / gL den nums)⟩
def ptD (p : PtM) : D := .tup [.int p.den, .tup (p.nums.map D.int)]
def pointM (ps : List (Int × Int)) : PtM := lowM (lL 1 ps) (ps.map fun p => p.1 * (lL 1 ps / p.2))
def partD (p : Pr) : D := .tup [pairI (nd p), tupI p.2.2]
def gSums (parts : List Pr) : Sums := sumsM (pointM (parts.map nd)).nums (parts.map (·.2.2))
def gLots (parts : List Pr) : List (List Int) := sortLen ((gSums parts).map (·.1))
def gPoint (parts : List Pr) : PtM := lowM (pointM (parts.map nd)).den ((gLots parts).map fun l => (getS (gSums parts) l).getD 0)
/-- what is asked of the parts -/
structure PartsOk (parts : List Pr) : Prop where
  len : parts.length ≤ 1000
  pos : ∀ p ∈ parts, 0 < p.2.1
  num : ∀ p ∈ parts, p.1.natAbs ≤ c_MOST.natAbs
  per : lL 1 (parts.map nd) ≤ c_MOST
theorem PartsOk.lpos {parts : List Pr} (h : PartsOk parts) : 0 < lL 1 (parts.map nd) := lL_pos (by decide) fun q hq => by
  obtain ⟨p, hp, rfl⟩ := List.mem_map.mp hq
  exact h.pos p hp
theorem low_pos {den : Int} {nums : List Int} (h : 0 < den) : 0 < (lowM den nums).den := by
  have h1 := gL_pos (nums := nums) h
  show 0 < den / gL den nums
  have dv : ∀ (ns : List Int) (d : Int), gL d ns ∣ d := by
    intro ns
    induction ns with
    | nil => intro d; exact Int.dvd_refl _
    | cons n r ih => intro d; exact Int.dvd_trans (ih (gI d n)) (Int.gcd_dvd_left d n)
  exact Int.ediv_pos_of_pos_of_dvd h (Int.le_of_lt h1) (dv nums den)
theorem low_le {den : Int} {nums : List Int} (h : 0 < den) : (lowM den nums).den ≤ den := Int.ediv_le_self _ (Int.le_of_lt h)
theorem len_putS (s : Sums) (l : List Int) (v : Int) : (putS s l v).length ≤ s.length + 1 := by
  unfold putS
  split
  · rw [List.length_map]; omega
  · rw [List.length_append]; simp
theorem len_foldS : ∀ (zs : List (Int × List Int)) (s : Sums), (zs.foldl stepS s).length ≤ s.length + zs.length
  | [], s => by simp
  | z :: r, s => by
    have h1 := len_foldS r (stepS s z)
    have h2 := len_putS s z.2 ((getS s z.2).getD 0 + z.1)
    rw [List.foldl_cons, List.length_cons]
    unfold stepS at h1
    unfold stepS
    omega
theorem getS_mem {s : Sums} {l : List Int} (h : l ∈ s.map (·.1)) : ∃ v, getS s l = some v := by
  obtain ⟨p, hp, rfl⟩ := List.mem_map.mp h
  unfold getS
  cases e : s.find? (fun q => decide (q.1 = p.1)) with
  | some q => exact ⟨q.2, rfl⟩
  | none =>
    have := List.find?_eq_none.mp e p hp
    simp at this
def sp__gathered (K : PySem.W.Frag) : DSp := SP 1 fun ds μ R RX => ∃ (x : D) (parts : List Pr), ds = [x] ∧ seqD x = some (parts.map partD) ∧ PartsOk parts ∧ μ (tabAd K "_gathered") = some (.tab "_gathered.<locals>.<lambda>") ∧
  R (.tup [ptD (gPoint parts), .lst ((gLots parts).map tupI)]) μ
theorem sc__gathered : FnScope ["parts", "weight", "_", "den", "nums", "sums", "num", "lot", "lots"] ["parts"] (defScope (top 51)) := ⟨rfl, rfl, rfl, by decide +kernel, rfl, by decide +kernel, by decide +kernel⟩
theorem fn__gathered {P : Program} {w : World} {K : PySem.W.Frag} {mg : Str → Option Value} {base : Heap} {fd : FuncData} (V : Env K mg) (F : FunD K "_gathered" "_gathered" (defArgs (top 51)) (defBody (top 51)) (defScope (top 51)) [] [] (He.ga K "_gathered") fd) (hcode : fd.code = .ref (codAd K "_gathered")) (TB : LamX.TabB base mg (codAd K "_gathered") (tabAd K "_gathered"))  (D_point_of : DFn P w K mg base 2 (He.ga K "point_of") ["pairs"] [] sp_point_of) (D_lowered : DFn P w K mg base 1 (He.ga K "lowered") ["den", "nums"] [] sp_lowered) : FnOk P w K mg base (L2.CX P w) 4 (He.ga K "_gathered") fd ["parts"] (low K (sp__gathered K)) := by
  refine fn_dataC F hcode sc__gathered (fun ds μ R RX h => h.1) (fun A outer s H E RX hr L hW hU => ⟨_, (dss_cons (dst_asg (de_call D_point_of (hr.mono (by decide)) V.g_point_of (da_cons (de_lc [("weight", 1), ("_", 2)] (g := (gTup K 2 (gCons (gName 1) (gCons (gName 2) gNil)))) rfl sc__gathered.nd (di_seq (dv 0)) (blkOk_by rfl) (fun _ _ _ _ _ => (dgo_tup (n := 2) rfl (dgos_cons (dgo_name (i := 1) sc__gathered.nd) (dgos_cons (dgo_name (i := 2) sc__gathered.nd) dgos_nil)))) (fun _ _ _ _ _ => dts_nil) (fun _ _ _ _ _ => (dv 1))) da_nil)) (dg_tup (n := 2) rfl (dgs_cons (dg_name (i := 3) sc__gathered.nd) (dgs_cons (dg_name (i := 4) sc__gathered.nd) dgs_nil))))
      (dss_cons (dst_set (i := 5) sc__gathered.nd de_dnewT)
      (dss_cons (dst_for (passes_of rfl) rfl (di_zip V.f_zip (da_cons (dv 4) (da_cons (dv 0) da_nil))) (dg_tup (n := 2) rfl (dgs_cons (dg_name (i := 6) sc__gathered.nd) (dgs_cons (dg_tup (n := 2) rfl (dgs_cons (dg_name (i := 2) sc__gathered.nd) (dgs_cons (dg_name (i := 7) sc__gathered.nd) dgs_nil))) dgs_nil))) (dss_one (dst_dputT (hu1 hr) (dv 5) (dv 7) (de_op o_add (de_dgetT2 (hu1 hr) (dv 5) (dv 7) de_int) (dv 6)))))
      (dss_cons (dst_set (i := 8) sc__gathered.nd (de_sortLen (P := tabAd K "_gathered") (q := "_gathered.<locals>.<lambda>") TB rfl hr (by decide) V.f_sorted V.f_len (da_cons (de_callTy (c_listDT rfl) V.f_list (da_cons (dv 5) da_nil)) da_nil)))
      (dss_one (dst_ret (de_drop (de_tup (da_cons (de_call D_lowered (hr.mono (by decide)) V.g_lowered (da_cons (dv 3) (da_cons (de_lc [("lot", 7)] (g := (gName 7)) rfl sc__gathered.nd (di_seq (dv 8)) (blkOk_by rfl) (fun _ _ _ _ _ => (dgo_name (i := 7) sc__gathered.nd)) (fun _ _ _ _ _ => dts_nil) (fun _ _ _ _ _ => (de_dgetT (hu1 hr) (dv 5) (dv 7) (fun _ _ => rfl)))) da_nil))) (da_cons (dv 8) da_nil)))))))))), fun ds μ R h => ?_⟩)
  obtain ⟨-, x, parts, rfl, hs, ok, hT, hR⟩ := h
  have hsz := sizeLine_eq
  have hlen := ok.len
  simp only [dDropM, dLc, dFor, dISeq, dIRng1, dIRng2, dIZip, dIEnum, dSeq, dCall, SP, dFldC, dIfS, dAnd, dOr, dNot, dTest, dOp, dUn, dVar, dC, qI, qI0, qU, dNext, dRet, dRetN, dRaise, dCons, dNil, dTup, dLst, dSet, dPar, dAsg, dAug, dDrop, dgName, dgTup, dgNil, dgCons, dAndV, dOrV, dNotV, dIf, dCl, startD, List.map_cons, List.map_nil, List.length_cons, List.length_nil, List.cons_append, List.nil_append, List.append_nil, List.replicate, List.getElem?_cons_zero, List.getElem?_cons_succ, List.set_cons_zero, List.set_cons_succ, Option.some.injEq, List.cons.injEq, and_true, true_and, exists_eq_left', exists_eq_left, exists_eq, exists_eq', D.int.injEq, D.bl.injEq, D.tup.injEq, D.lst.injEq, D.adr.injEq, exists_and_left, and_assoc, exists_and_right, if_true, ite_true, decide_eq_true_eq, exists_eq_right, exists_eq_right', Nat.add_zero, Nat.sub_self, Nat.reduceSub, Nat.reduceAdd, eq_self]
  refine ⟨_, hs, lcG (xs := parts) rows_seq (fun _ => true) (fun p => pairI (nd p)) (by omega) (fun p hp Q Q' hQ hQ' => ?_) ?_⟩
  · simp only [dDropM, dLc, dFor, dISeq, dIRng1, dIRng2, dIZip, dIEnum, dSeq, dCall, SP, dFldC, dIfS, dAnd, dOr, dNot, dTest, dOp, dUn, dVar, dC, qI, qI0, qU, dNext, dRet, dRetN, dRaise, dCons, dNil, dTup, dLst, dSet, dPar, dAsg, dAug, dDrop, dgName, dgTup, dgNil, dgCons, dAndV, dOrV, dNotV, dIf, dCl, startD, List.map_cons, List.map_nil, List.length_cons, List.length_nil, List.cons_append, List.nil_append, List.append_nil, List.replicate, List.getElem?_cons_zero, List.getElem?_cons_succ, List.set_cons_zero, List.set_cons_succ, Option.some.injEq, List.cons.injEq, and_true, true_and, exists_eq_left', exists_eq_left, exists_eq, exists_eq', D.int.injEq, D.bl.injEq, D.tup.injEq, D.lst.injEq, D.adr.injEq, exists_and_left, and_assoc, exists_and_right, if_true, ite_true, decide_eq_true_eq, exists_eq_right, exists_eq_right', Nat.add_zero, Nat.sub_self, Nat.reduceSub, Nat.reduceAdd, eq_self, dYes, wipeD, partD]
    exact hQ rfl
  rw [filter_tt]
  refine ⟨rfl, _, parts.map nd, rfl, by rw [List.map_map]; rfl, by rw [List.length_map]; exact hlen, ?_, ok.per, ?_⟩
  · intro q hq
    obtain ⟨p, hp, rfl⟩ := List.mem_map.mp hq
    exact ⟨ok.pos p hp, ok.num p hp⟩
  refine ⟨_, rfl, rfl, _, _, rfl, _, _, rfl, rfl, ?_⟩
  intro a ha
  have hTa : tabAd K "_gathered" ≠ a := fun z => by rw [z, ha] at hT; cases hT
  refine ⟨(pointM (parts.map nd)).nums.map D.int, rfl, _, hs, forG (rows_zip (xs := (pointM (parts.map nd)).nums) (ys := parts)) (fun done _ Γ' μ' => μ' = updM μ a (.dT (sD ((done.map fun z => (z.1, z.2.2.2)).foldl stepS []))) ∧
    ∃ o2 o6 o7, Γ' = [some x, none, o2, some (.int (pointM (parts.map nd)).den), some (.tup ((pointM (parts.map nd)).nums.map D.int)), some (.adr a), o6, o7, none]) ⟨rfl, _, _, _, rfl⟩ (fun done z rest Γ' μ' hxs hI => ?_) fun Γ' μ' hI => ?_⟩
  · obtain ⟨rfl, o2, o6, o7, rfl⟩ := hI
    simp only [dDropM, dLc, dFor, dISeq, dIRng1, dIRng2, dIZip, dIEnum, dSeq, dCall, SP, dFldC, dIfS, dAnd, dOr, dNot, dTest, dOp, dUn, dVar, dC, qI, qI0, qU, dNext, dRet, dRetN, dRaise, dCons, dNil, dTup, dLst, dSet, dPar, dAsg, dAug, dDrop, dgName, dgTup, dgNil, dgCons, dAndV, dOrV, dNotV, dIf, dCl, startD, List.map_cons, List.map_nil, List.length_cons, List.length_nil, List.cons_append, List.nil_append, List.append_nil, List.replicate, List.getElem?_cons_zero, List.getElem?_cons_succ, List.set_cons_zero, List.set_cons_succ, Option.some.injEq, List.cons.injEq, and_true, true_and, exists_eq_left', exists_eq_left, exists_eq, exists_eq', D.int.injEq, D.bl.injEq, D.tup.injEq, D.lst.injEq, D.adr.injEq, exists_and_left, and_assoc, exists_and_right, if_true, ite_true, decide_eq_true_eq, exists_eq_right, exists_eq_right', Nat.add_zero, Nat.sub_self, Nat.reduceSub, Nat.reduceAdd, eq_self, partD, dDPutT, dDGetT2]
    have hz : ((done.map fun z => (z.1, z.2.2.2)).foldl stepS []).length ≤ done.length := by
      have := len_foldS (done.map fun z => (z.1, z.2.2.2)) []
      rw [List.length_map] at this
      simpa using this
    have hd : done.length ≤ 1000 := by
      have h1 := congrArg List.length hxs
      rw [List.length_zip, List.length_append] at h1
      have : min (pointM (parts.map nd)).nums.length parts.length ≤ parts.length := Nat.min_le_right _ _
      omega
    refine ⟨⟨_, updM_same⟩, _, updM_same, keyI z.2.2.2, tupI_key _, (getS ((done.map fun z => (z.1, z.2.2.2)).foldl stepS []) z.2.2.2).getD 0, ?_, _, updM_same, keyI z.2.2.2, tupI_key _, ?_, ?_⟩
    · rw [get_sD]
      cases getS ((done.map fun z => (z.1, z.2.2.2)).foldl stepS []) z.2.2.2 <;> rfl
    · unfold sD
      rw [List.length_map]
      omega
    · rw [updM_updM, put_sD, List.map_append, List.foldl_append]
      rfl
  · obtain ⟨rfl, o2, o6, o7, rfl⟩ := hI
    have eS : (((pointM (parts.map nd)).nums.zip parts).map fun z => (z.1, z.2.2.2)).foldl stepS [] = gSums parts := by
      unfold gSums sumsM
      rw [List.zip_map_right]
      rfl
    rw [eS]
    simp only [dDropM, dLc, dFor, dISeq, dIRng1, dIRng2, dIZip, dIEnum, dSeq, dCall, SP, dFldC, dIfS, dAnd, dOr, dNot, dTest, dOp, dUn, dVar, dC, qI, qI0, qU, dNext, dRet, dRetN, dRaise, dCons, dNil, dTup, dLst, dSet, dPar, dAsg, dAug, dDrop, dgName, dgTup, dgNil, dgCons, dAndV, dOrV, dNotV, dIf, dCl, startD, List.map_cons, List.map_nil, List.length_cons, List.length_nil, List.cons_append, List.nil_append, List.append_nil, List.replicate, List.getElem?_cons_zero, List.getElem?_cons_succ, List.set_cons_zero, List.set_cons_succ, Option.some.injEq, List.cons.injEq, and_true, true_and, exists_eq_left', exists_eq_left, exists_eq, exists_eq', D.int.injEq, D.bl.injEq, D.tup.injEq, D.lst.injEq, D.adr.injEq, exists_and_left, and_assoc, exists_and_right, if_true, ite_true, decide_eq_true_eq, exists_eq_right, exists_eq_right', Nat.add_zero, Nat.sub_self, Nat.reduceSub, Nat.reduceAdd, eq_self, qListDT, dSortLen]
    have hlen2 : (gSums parts).length ≤ 1000 := by
      unfold gSums sumsM
      have h1 := len_foldS ((pointM (parts.map nd)).nums.zip (parts.map (·.2.2))) []
      rw [List.length_zip, List.length_map] at h1
      have : min (pointM (parts.map nd)).nums.length parts.length ≤ parts.length := Nat.min_le_right _ _
      simp only [List.length_nil] at h1
      omega
    have hl3 : (gLots parts).length ≤ 1000 := by
      unfold gLots sortLen
      rw [List.length_mergeSort, List.length_map]
      exact hlen2
    refine ⟨_, updM_same, (gSums parts).map (·.1), ?_, rfl, by rw [updM_ne hTa]; exact hT, _, rfl, lcG (xs := gLots parts) rows_seq (fun _ => true) (fun l => .int ((getS (gSums parts) l).getD 0)) (by omega) (fun l hl Q Q' hQ hQ' => ?_) ?_⟩
    · show some _ = some _
      congr 1
      unfold sD
      rw [List.map_map, List.map_map]
      refine List.map_congr_left fun p _ => ?_
      exact (tupI_key p.1).symm
    · simp only [dDropM, dLc, dFor, dISeq, dIRng1, dIRng2, dIZip, dIEnum, dSeq, dCall, SP, dFldC, dIfS, dAnd, dOr, dNot, dTest, dOp, dUn, dVar, dC, qI, qI0, qU, dNext, dRet, dRetN, dRaise, dCons, dNil, dTup, dLst, dSet, dPar, dAsg, dAug, dDrop, dgName, dgTup, dgNil, dgCons, dAndV, dOrV, dNotV, dIf, dCl, startD, List.map_cons, List.map_nil, List.length_cons, List.length_nil, List.cons_append, List.nil_append, List.append_nil, List.replicate, List.getElem?_cons_zero, List.getElem?_cons_succ, List.set_cons_zero, List.set_cons_succ, Option.some.injEq, List.cons.injEq, and_true, true_and, exists_eq_left', exists_eq_left, exists_eq, exists_eq', D.int.injEq, D.bl.injEq, D.tup.injEq, D.lst.injEq, D.adr.injEq, exists_and_left, and_assoc, exists_and_right, if_true, ite_true, decide_eq_true_eq, exists_eq_right, exists_eq_right', Nat.add_zero, Nat.sub_self, Nat.reduceSub, Nat.reduceAdd, eq_self, dYes, wipeD, dDGetT]
      have hm : l ∈ (gSums parts).map (·.1) := (List.mergeSort_perm _ _).mem_iff.mp hl
      obtain ⟨v, hv⟩ := getS_mem hm
      refine ⟨_, updM_same, keyI l, tupI_key _, D.int v, by rw [get_sD, hv]; rfl, ?_⟩
      have := hQ rfl
      rw [hv] at this
      exact this
    · rw [filter_tt]
      have hp : 0 < (pointM (parts.map nd)).den := low_pos ok.lpos
      have hl : (pointM (parts.map nd)).den ≤ c_MOST := Int.le_trans (low_le ok.lpos) ok.per
      refine ⟨rfl, _, _, (gLots parts).map fun l => (getS (gSums parts) l).getD 0, rfl, by rw [List.map_map]; rfl, by rw [List.length_map]; exact hl3, hp, hl, two_le, a, _, updM_same, rfl, ?_⟩
      rw [delM_updM ha]
      exact hR
theorem rng_ok {t : Int} (h : 0 ≤ t) (h2 : t ≤ 100000000) : -2 ^ 62 ≤ t ∧ t < 2 ^ 62 := by
  have e : (2 : Int) ^ 62 = 4611686018427387904 := by decide
  rw [e]
  omega
theorem len_putD (f : Str) (d : D) : ∀ l : List (Str × D), (putD f d l).length ≤ l.length + 1
  | [] => Nat.le_refl _
  | (g, x) :: r => by
    unfold putD
    split
    · simp
    · have := len_putD f d r
      simp only [List.length_cons]
      omega
theorem gLots_len {parts : List Pr} (h : parts.length ≤ 1000) : (gLots parts).length ≤ 1000 := by
  unfold gLots sortLen
  rw [List.length_mergeSort, List.length_map]
  unfold gSums sumsM
  have h1 := len_foldS ((pointM (parts.map nd)).nums.zip (parts.map (·.2.2))) []
  rw [List.length_zip, List.length_map] at h1
  have : min (pointM (parts.map nd)).nums.length parts.length ≤ parts.length := Nat.min_le_right _ _
  simp only [List.length_nil] at h1
  omega
/-! ### a mixture made -/
def rdP (den : Int) (p : Int × List Int) : Pr := (p.1 / gI p.1 den, den / gI p.1 den, p.2)
def mixP (den : Int) (nums : List Int) (lots : List (List Int)) : List Pr := (nums.zip lots).map (rdP den)
def shareM (nums : List Int) (lots : List (List Int)) (k : Nat) : Int := (((nums.zip lots).filter fun p => decide ((k : Int) ∈ p.2)).map (·.1)).sum
def sharesD (t den : Int) (nums : List Int) (lots : List (List Int)) : D := .tup ((List.range t.toNat).map fun k => redD (shareM nums lots k) den)
theorem inD_ints (k : Int) (l : List Int) : inD (.int k) (l.map D.int) = decide (k ∈ l) := by
  unfold inD
  rw [List.any_map]
  induction l with
  | nil => rfl
  | cons a r ih =>
    rw [List.any_cons, ih]
    show ((a == k) || decide (k ∈ r)) = decide (k ∈ a :: r)
    by_cases c : a = k
    · subst c; simp
    · have : (a == k) = false := by simpa using c
      rw [this, Bool.false_or]
      refine decide_eq_decide.mpr ?_
      rw [List.mem_cons]
      exact ⟨.inr, fun h => h.resolve_left (Ne.symm c)⟩
theorem flat_ints (l : List Int) : (l.map D.int).all flatD = true := by
  rw [List.all_map, List.all_eq_true]
  intro x _
  rfl
theorem sum_filter_le : ∀ (zs : List (Int × List Int)) (q : Int × List Int → Bool), (∀ z ∈ zs, 0 ≤ z.1) → 0 ≤ ((zs.filter q).map (·.1)).sum ∧ ((zs.filter q).map (·.1)).sum ≤ (zs.map (·.1)).sum
  | [], _, _ => ⟨Int.le_refl _, Int.le_refl _⟩
  | z :: r, q, h => by
    have ih := sum_filter_le r q fun y hy => h y (List.mem_cons_of_mem _ hy)
    have h0 := h z (List.mem_cons_self ..)
    rw [List.filter_cons, List.map_cons, List.sum_cons]
    split
    · rw [List.map_cons, List.sum_cons]; omega
    · omega
def sp_Mixture__fill : DSp := SP 4 fun ds μ R RX => ∃ (a : Addr) (t den : Int) (nums : List Int) (lots : List (List Int)), ds = [.adr a, .int t, ptD ⟨den, nums⟩, .lst (lots.map tupI)] ∧ μ a = some (.ins "Mixture" []) ∧ 0 ≤ t ∧ t ≤ 10 ∧
  nums.length = lots.length ∧ nums.length ≤ 1000 ∧ 0 < den ∧ den ≤ c_MOST ∧ (∀ n ∈ nums, 0 ≤ n) ∧ nums.sum ≤ c_MOST ∧
  R .non (updM μ a (.ins "Mixture" [("things", .int t), ("pairs", .tup ((mixP den nums lots).map prD)), ("shares", sharesD t den nums lots)]))
theorem sc_Mixture__fill : FnScope ["self", "things", "point", "lots", "den", "nums", "thing", "num", "lot", "sums"] ["self", "things", "point", "lots"] (defScope (inClass (top 48) 1)) := ⟨rfl, rfl, rfl, by decide +kernel, rfl, by decide +kernel, by decide +kernel⟩
theorem fn_Mixture__fill {P : Program} {w : World} {K : PySem.W.Frag} {mg : Str → Option Value} {base : Heap} {fd : FuncData} (V : Env K mg) (F : FunD K "_fill" "Mixture._fill" (defArgs (inClass (top 48) 1)) (defBody (inClass (top 48) 1)) (defScope (inClass (top 48) 1)) [] [] (He.ma K (He.ga K "Mixture") "_fill") fd)  (D_ratios_of : DFn P w K mg base 5 (He.ga K "ratios_of") ["point"] [] sp_ratios_of) (D_ratio_of : DFn P w K mg base 4 (He.ga K "ratio_of") ["num", "den"] [] sp_ratio_of) : FnOk P w K mg base (L2.CX P w) 6 (He.ma K (He.ga K "Mixture") "_fill") fd ["self", "things", "point", "lots"] (low K sp_Mixture__fill) := by
  refine fn_data F sc_Mixture__fill (fun ds μ R RX h => h.1) (fun cdv A outer s H E RX hr L hW hU => ⟨_, (dss_cons (dst_asg (dv 2) (dg_tup (n := 2) rfl (dgs_cons (dg_name (i := 4) sc_Mixture__fill.nd) (dgs_cons (dg_name (i := 5) sc_Mixture__fill.nd) dgs_nil))))
      (dss_cons (dst_setLc [("thing", 6)] (i := 9) (g := (gName 6)) rfl sc_Mixture__fill.nd (di_rng1 V.f_range (da_cons (dv 1) da_nil)) (blkOk_by rfl) (fun _ _ _ _ _ => (dgo_name (i := 6) sc_Mixture__fill.nd)) (fun _ _ _ _ _ => dts_nil) (fun _ _ _ _ _ => (de_callB (c_sum rfl) V.f_sum (da_cons (de_lc [("num", 7), ("lot", 8)] (g := (gTup K 2 (gCons (gName 7) (gCons (gName 8) gNil)))) rfl sc_Mixture__fill.nd (di_zip V.f_zip (da_cons (dv 5) (da_cons (dv 3) da_nil))) (blkOk_by rfl) (fun _ _ _ _ _ => (dgo_tup (n := 2) rfl (dgos_cons (dgo_name (i := 7) sc_Mixture__fill.nd) (dgos_cons (dgo_name (i := 8) sc_Mixture__fill.nd) dgos_nil)))) (fun _ _ _ _ _ => (dts_one (dt_cmp o_in (dv 6) (dv 8)))) (fun _ _ _ _ _ => (dv 7))) da_nil))) (by rfl))
      (dss_cons (dst_fld "Mixture" (dv 0) (dv 1) V.c_Mixture V.n_Mixture_things)
      (dss_cons (dst_fld "Mixture" (dv 0) (de_callTy c_tuple V.f_tuple (da_cons (de_lc [("num", 7), ("lot", 8)] (g := (gTup K 2 (gCons (gName 7) (gCons (gName 8) gNil)))) rfl sc_Mixture__fill.nd (di_zip V.f_zip (da_cons (dv 5) (da_cons (dv 3) da_nil))) (blkOk_by rfl) (fun _ _ _ _ _ => (dgo_tup (n := 2) rfl (dgos_cons (dgo_name (i := 7) sc_Mixture__fill.nd) (dgos_cons (dgo_name (i := 8) sc_Mixture__fill.nd) dgos_nil)))) (fun _ _ _ _ _ => dts_nil) (fun _ _ _ _ _ => (de_tup (da_cons (de_callF rfl D_ratio_of (hr.mono (by decide)) V.g_ratio_of (da_cons (dv 7) (da_cons (dv 4) da_nil))) (da_cons (dv 8) da_nil))))) da_nil)) V.c_Mixture V.n_Mixture_pairs)
      (dss_one (dst_fld "Mixture" (dv 0) (de_callTy c_tuple V.f_tuple (da_cons (de_call D_ratios_of (hr.mono (by decide)) V.g_ratios_of (da_cons (de_tup (da_cons (dv 4) (da_cons (dv 9) da_nil))) da_nil)) da_nil)) V.c_Mixture V.n_Mixture_shares)))))), fun ds μ R h => ?_⟩)
  obtain ⟨-, a, t, den, nums, lots, rfl, hm, ht0, ht1, hl, hz, hd, hd2, hn, hsum, hR⟩ := h
  have hsz := sizeLine_eq
  have hzip : (nums.zip lots).map (·.1) = nums := by
    rw [← List.unzip_fst, List.unzip_zip_left (by omega)]
  have hzl : (nums.zip lots).length ≤ 1000 := by rw [List.length_zip]; omega
  have hzn : ∀ z ∈ nums.zip lots, 0 ≤ z.1 := fun z hz => hn z.1 (List.of_mem_zip hz).1
  have hnb : ∀ n ∈ nums, n.natAbs ≤ c_MOST.natAbs := fun n h => by
    have h1 : n ≤ nums.sum := by
      have : ∀ (l : List Int), (∀ x ∈ l, 0 ≤ x) → ∀ x ∈ l, x ≤ l.sum := by
        intro l
        induction l with
        | nil => intro _ x hx; cases hx
        | cons b r ih =>
          intro h x hx
          have hs : 0 ≤ r.sum := by
            have : ∀ (l : List Int), (∀ x ∈ l, 0 ≤ x) → 0 ≤ l.sum := by
              intro l
              induction l with
              | nil => intro _; exact Int.le_refl _
              | cons b r ih => intro h; rw [List.sum_cons]; have := ih fun y hy => h y (List.mem_cons_of_mem _ hy); have := h b (List.mem_cons_self ..); omega
            exact this r fun y hy => h y (List.mem_cons_of_mem _ hy)
          have hb := h b (List.mem_cons_self ..)
          rw [List.sum_cons]
          rcases List.mem_cons.mp hx with rfl | hx
          · omega
          · have := ih (fun y hy => h y (List.mem_cons_of_mem _ hy)) x hx
            omega
      exact this nums hn n h
    have := hn n h
    omega
  have hsh : ∀ k : Nat, (shareM nums lots k).natAbs ≤ c_MOST.natAbs := fun k => by
    have := sum_filter_le (nums.zip lots) (fun p => decide ((k : Int) ∈ p.2)) hzn
    rw [hzip] at this
    unfold shareM
    omega
  simp only [dDropM, dLc, dFor, dISeq, dIRng1, dIRng2, dIZip, dIEnum, dSeq, dCall, SP, dFldC, dIfS, dAnd, dOr, dNot, dTest, dOp, dUn, dVar, dC, qI, qI0, qU, dNext, dRet, dRetN, dRaise, dCons, dNil, dTup, dLst, dSet, dPar, dAsg, dAug, dDrop, dgName, dgTup, dgNil, dgCons, dAndV, dOrV, dNotV, dIf, dCl, startD, List.map_cons, List.map_nil, List.length_cons, List.length_nil, List.cons_append, List.nil_append, List.append_nil, List.replicate, List.getElem?_cons_zero, List.getElem?_cons_succ, List.set_cons_zero, List.set_cons_succ, Option.some.injEq, List.cons.injEq, and_true, true_and, exists_eq_left', exists_eq_left, exists_eq, exists_eq', D.int.injEq, D.bl.injEq, D.tup.injEq, D.lst.injEq, D.adr.injEq, exists_and_left, and_assoc, exists_and_right, if_true, ite_true, decide_eq_true_eq, exists_eq_right, exists_eq_right', Nat.add_zero, Nat.sub_self, Nat.reduceSub, Nat.reduceAdd, eq_self, ptD]
  refine ⟨(rng_ok ht0 (by omega)).1, (rng_ok ht0 (by omega)).2, lcG (xs := List.range t.toNat) rows_rng (fun _ => true) (fun k => .int (shareM nums lots k)) (by rw [List.length_range]; omega) (fun k hk Q Q' hQ hQ' => ?_) ?_⟩
  · simp only [dDropM, dLc, dFor, dISeq, dIRng1, dIRng2, dIZip, dIEnum, dSeq, dCall, SP, dFldC, dIfS, dAnd, dOr, dNot, dTest, dOp, dUn, dVar, dC, qI, qI0, qU, dNext, dRet, dRetN, dRaise, dCons, dNil, dTup, dLst, dSet, dPar, dAsg, dAug, dDrop, dgName, dgTup, dgNil, dgCons, dAndV, dOrV, dNotV, dIf, dCl, startD, List.map_cons, List.map_nil, List.length_cons, List.length_nil, List.cons_append, List.nil_append, List.append_nil, List.replicate, List.getElem?_cons_zero, List.getElem?_cons_succ, List.set_cons_zero, List.set_cons_succ, Option.some.injEq, List.cons.injEq, and_true, true_and, exists_eq_left', exists_eq_left, exists_eq, exists_eq', D.int.injEq, D.bl.injEq, D.tup.injEq, D.lst.injEq, D.adr.injEq, exists_and_left, and_assoc, exists_and_right, if_true, ite_true, decide_eq_true_eq, exists_eq_right, exists_eq_right', Nat.add_zero, Nat.sub_self, Nat.reduceSub, Nat.reduceAdd, eq_self, dYes, wipeD]
    refine ⟨_, rfl, _, rfl, lcG (rows_zip (xs := nums) (ys := lots)) (fun p => decide ((k : Int) ∈ p.2)) (fun p => .int p.1) (by omega) (fun p hp Q2 Q2' hQ2 hQ2' => ?_) ?_⟩
    · simp only [dDropM, dLc, dFor, dISeq, dIRng1, dIRng2, dIZip, dIEnum, dSeq, dCall, SP, dFldC, dIfS, dAnd, dOr, dNot, dTest, dOp, dUn, dVar, dC, qI, qI0, qU, dNext, dRet, dRetN, dRaise, dCons, dNil, dTup, dLst, dSet, dPar, dAsg, dAug, dDrop, dgName, dgTup, dgNil, dgCons, dAndV, dOrV, dNotV, dIf, dCl, startD, List.map_cons, List.map_nil, List.length_cons, List.length_nil, List.cons_append, List.nil_append, List.append_nil, List.replicate, List.getElem?_cons_zero, List.getElem?_cons_succ, List.set_cons_zero, List.set_cons_succ, Option.some.injEq, List.cons.injEq, and_true, true_and, exists_eq_left', exists_eq_left, exists_eq, exists_eq', D.int.injEq, D.bl.injEq, D.tup.injEq, D.lst.injEq, D.adr.injEq, exists_and_left, and_assoc, exists_and_right, if_true, ite_true, decide_eq_true_eq, exists_eq_right, exists_eq_right', Nat.add_zero, Nat.sub_self, Nat.reduceSub, Nat.reduceAdd, eq_self, wipeD, tupI, qIn]
      refine ⟨_, rfl, rfl, flat_ints _, ?_⟩
      simp only [Bool.false_eq_true, if_false, inD_ints]
      cases c : decide ((k : Int) ∈ p.2) with
      | true => exact hQ2 c
      | false => exact hQ2' c
    · exact ⟨_, ((nums.zip lots).filter fun p : Int × List Int => decide ((k : Int) ∈ p.2)).map (fun z : Int × List Int => z.1), rfl, by rw [List.map_map]; rfl, hQ rfl⟩
  · rw [filter_tt]
    simp only [dDropM, dLc, dFor, dISeq, dIRng1, dIRng2, dIZip, dIEnum, dSeq, dCall, SP, dFldC, dIfS, dAnd, dOr, dNot, dTest, dOp, dUn, dVar, dC, qI, qI0, qU, dNext, dRet, dRetN, dRaise, dCons, dNil, dTup, dLst, dSet, dPar, dAsg, dAug, dDrop, dgName, dgTup, dgNil, dgCons, dAndV, dOrV, dNotV, dIf, dCl, startD, List.map_cons, List.map_nil, List.length_cons, List.length_nil, List.cons_append, List.nil_append, List.append_nil, List.replicate, List.getElem?_cons_zero, List.getElem?_cons_succ, List.set_cons_zero, List.set_cons_succ, Option.some.injEq, List.cons.injEq, and_true, true_and, exists_eq_left', exists_eq_left, exists_eq, exists_eq', D.int.injEq, D.bl.injEq, D.tup.injEq, D.lst.injEq, D.adr.injEq, exists_and_left, and_assoc, exists_and_right, if_true, ite_true, decide_eq_true_eq, exists_eq_right, exists_eq_right', Nat.add_zero, Nat.sub_self, Nat.reduceSub, Nat.reduceAdd, eq_self, qTuple, dFldS]
    refine ⟨[], hm, by decide, _, rfl, _, rfl, lcG (rows_zip (xs := nums) (ys := lots)) (fun _ => true) (fun p => prD (rdP den p)) (by omega) (fun p hp Q Q' hQ hQ' => ?_) ?_⟩
    · simp only [dDropM, dLc, dFor, dISeq, dIRng1, dIRng2, dIZip, dIEnum, dSeq, dCall, SP, dFldC, dIfS, dAnd, dOr, dNot, dTest, dOp, dUn, dVar, dC, qI, qI0, qU, dNext, dRet, dRetN, dRaise, dCons, dNil, dTup, dLst, dSet, dPar, dAsg, dAug, dDrop, dgName, dgTup, dgNil, dgCons, dAndV, dOrV, dNotV, dIf, dCl, startD, List.map_cons, List.map_nil, List.length_cons, List.length_nil, List.cons_append, List.nil_append, List.append_nil, List.replicate, List.getElem?_cons_zero, List.getElem?_cons_succ, List.set_cons_zero, List.set_cons_succ, Option.some.injEq, List.cons.injEq, and_true, true_and, exists_eq_left', exists_eq_left, exists_eq, exists_eq', D.int.injEq, D.bl.injEq, D.tup.injEq, D.lst.injEq, D.adr.injEq, exists_and_left, and_assoc, exists_and_right, if_true, ite_true, decide_eq_true_eq, exists_eq_right, exists_eq_right', Nat.add_zero, Nat.sub_self, Nat.reduceSub, Nat.reduceAdd, eq_self, dYes, wipeD]
      exact ⟨rfl, p.1, den, rfl, hnb p.1 (List.of_mem_zip hp).1, hd, hd2, two_le, hQ rfl⟩
    · rw [filter_tt]
      refine ⟨_, rfl, _, updM_same, by simp [putD], two_le, ?_⟩
      refine ⟨rfl, den, _, (List.range t.toNat).map fun k => shareM nums lots k, rfl, by rw [List.map_map]; rfl, by rw [List.length_map, List.length_range]; omega, hd, hd2, fun n hn => ?_, ?_⟩
      · obtain ⟨k, _, rfl⟩ := List.mem_map.mp hn
        exact hsh k
      · refine ⟨_, rfl, _, updM_same, Nat.lt_of_le_of_lt (len_putD _ _ _) (Nat.lt_of_le_of_lt (Nat.succ_le_succ (len_putD _ _ _)) (by simp)), ?_⟩
        simp only [updM_updM, List.map_map]
        have e : mixP den nums lots = (nums.zip lots).map (rdP den) := rfl
        unfold sharesD at hR
        rw [e, List.map_map] at hR
        exact hR
theorem sorted_unique : ∀ {a b : List Int}, a.Pairwise (· < ·) → b.Pairwise (· < ·) → (∀ k, k ∈ a ↔ k ∈ b) → a = b
  | [], [], _, _, _ => rfl
  | [], y :: b, _, _, h => absurd ((h y).mpr (List.mem_cons_self ..)) (by simp)
  | x :: a, [], _, _, h => absurd ((h x).mp (List.mem_cons_self ..)) (by simp)
  | x :: a, y :: b, ha, hb, h => by
    rw [List.pairwise_cons] at ha hb
    have hxy : x = y := by
      rcases List.mem_cons.mp ((h x).mp (List.mem_cons_self ..)) with e | hx
      · exact e
      · rcases List.mem_cons.mp ((h y).mpr (List.mem_cons_self ..)) with e | hy
        · exact e.symm
        · have h1 := hb.1 x hx
          have h2 := ha.1 y hy
          omega
    subst hxy
    have e : a = b := sorted_unique ha.2 hb.2 fun k => by
      constructor
      · intro hk
        rcases List.mem_cons.mp ((h k).mp (List.mem_cons_of_mem _ hk)) with e | z
        · have := ha.1 k hk; omega
        · exact z
      · intro hk
        rcases List.mem_cons.mp ((h k).mpr (List.mem_cons_of_mem _ hk)) with e | z
        · have := hb.1 k hk; omega
        · exact z
    rw [e]
/-- what a mixture is given: weight, lot as written, lot sorted -/
structure Giv where
  n : Int
  d : Int
  x : D
  ns : List Int
  lot : List Int
def givD (g : Giv) : D := .tup [ratD g.n g.d, g.x]
def Giv.pr (g : Giv) : Pr := (g.n, g.d, g.lot)
structure GivOk (t : Int) (g : Giv) : Prop where
  npos : 0 < g.n
  dpos : 0 < g.d
  nle : g.n.natAbs ≤ c_MOST.natAbs
  sx : seqD g.x = some (g.ns.map D.int)
  len : g.ns.length ≤ 60
  inr : ∀ n ∈ g.ns, 0 ≤ n ∧ n < t
  srt : g.lot.Pairwise (· < ·)
  mem : ∀ k, k ∈ g.lot ↔ k ∈ g.ns
def mixOf (parts : List Pr) : List Pr := mixP (gPoint parts).den (gPoint parts).nums (gLots parts)
def shOf (t : Int) (parts : List Pr) : D := sharesD t (gPoint parts).den (gPoint parts).nums (gLots parts)
def sp_Mixture_init (K : PySem.W.Frag) : DSp := SP 3 fun ds μ R RX => ∃ (a : Addr) (t : Int) (gs : List Giv), ds = [.adr a, .int t, .lst (gs.map givD)] ∧ μ a = some (.ins "Mixture" []) ∧ 0 ≤ t ∧ t ≤ 10 ∧ 1 ≤ gs.length ∧ gs.length ≤ 1000 ∧
  (∀ g ∈ gs, GivOk t g) ∧ lL 1 (gs.map fun g => nd g.pr) ≤ 10 ^ 400 ∧ μ (tabAd K "_gathered") = some (.tab "_gathered.<locals>.<lambda>") ∧
  (∀ n ∈ (gPoint (gs.map Giv.pr)).nums, 0 ≤ n) ∧ (gPoint (gs.map Giv.pr)).nums.sum = (gPoint (gs.map Giv.pr)).den ∧ (gPoint (gs.map Giv.pr)).den ≤ 10 ^ 40 ∧
  R .non (updM μ a (.ins "Mixture" [("things", .int t), ("pairs", .tup ((mixOf (gs.map Giv.pr)).map prD)), ("shares", shOf t (gs.map Giv.pr))]))
theorem sc_Mixture___init__ : FnScope ["self", "things", "pairs", "parts", "least", "at", "weight", "lot", "point", "lots"] ["self", "things", "pairs"] (defScope (inClass (top 48) 0)) := ⟨rfl, rfl, rfl, by decide +kernel, rfl, by decide +kernel, by decide +kernel⟩
theorem fn_Mixture_init {P : Program} {w : World} {K : PySem.W.Frag} {mg : Str → Option Value} {base : Heap} {fd : FuncData} (V : Env K mg) (F : FunD K "__init__" "Mixture.__init__" (defArgs (inClass (top 48) 0)) (defBody (inClass (top 48) 0)) (defScope (inClass (top 48) 0)) [] [] (He.ma K (He.ga K "Mixture") "__init__") fd)  (D_look_things : DFn P w K mg base 2 (He.ga K "look_things") ["things"] [] sp_look_things) (D_look_size : DFn P w K mg base 1 (He.ga K "look_size") ["entries", "low", "high"] [] sp_look_size) (D__gathered : DFn P w K mg base 4 (He.ga K "_gathered") ["parts"] [] (sp__gathered K)) (D__look_whole : DFn P w K mg base 1 (He.ga K "_look_whole") ["point"] [] sp__look_whole) (D_look_number : DFn P w K mg base 1 (He.ga K "look_number") ["number", "low", "high"] [] sp_look_number) (D_Mixture__fill : DFn P w K mg base 6 (He.ma K (He.ga K "Mixture") "_fill") ["self", "things", "point", "lots"] [] sp_Mixture__fill) (D__look_weight : DFn P w K mg base 2 (He.ga K "_look_weight") ["at", "weight", "least"] [] sp__look_weight) (D_pair_of : DFn P w K mg base 1 (He.ga K "pair_of") ["ratio"] [] sp_pair_of) (D_look_lot : DFn P w K mg base 2 (He.ga K "look_lot") ["things", "entries"] [] sp_look_lot) : FnOk P w K mg base (L2.CX P w) 7 (He.ma K (He.ga K "Mixture") "__init__") fd ["self", "things", "pairs"] (low K (sp_Mixture_init K)) := by
  refine fn_data F sc_Mixture___init__ (fun ds μ R RX h => h.1) (fun cdv A outer s H E RX hr L hW hU => ⟨_, (dss_cons (dst_expr (de_call D_look_things (hr.mono (by decide)) V.g_look_things (da_cons (dv 1) da_nil)))
      (dss_cons (dst_expr (de_call D_look_size (hr.mono (by decide)) V.g_look_size (da_cons (dv 2) (da_cons de_int (da_cons (de_gint rfl V.i_MOST_PAIRS) da_nil)))))
      (dss_cons (dst_set (i := 3) sc_Mixture___init__.nd (de_lstM da_nil))
      (dss_cons (dst_set (i := 4) sc_Mixture___init__.nd de_int)
      (dss_cons (dst_for (passes_of rfl) rfl (di_enum V.f_enumerate (da_cons (dv 2) da_nil)) (dg_tup (n := 2) rfl (dgs_cons (dg_name (i := 5) sc_Mixture___init__.nd) (dgs_cons (dg_tup (n := 2) rfl (dgs_cons (dg_name (i := 6) sc_Mixture___init__.nd) (dgs_cons (dg_name (i := 7) sc_Mixture___init__.nd) dgs_nil))) dgs_nil))) (dss_cons (dst_set (i := 4) sc_Mixture___init__.nd (de_call D__look_weight (hr.mono (by decide)) V.g__look_weight (da_cons (dv 5) (da_cons (dv 6) (da_cons (dv 4) da_nil)))))
      (dss_one (dst_expr (de_append (dv 3) (de_tup (da_cons (de_call D_pair_of (hr.mono (by decide)) V.g_pair_of (da_cons (dv 6) da_nil)) (da_cons (de_call D_look_lot (hr.mono (by decide)) V.g_look_lot (da_cons (dv 1) (da_cons (dv 7) da_nil))) da_nil))))))))
      (dss_cons (dst_asg (de_call D__gathered (hr.mono (by decide)) V.g__gathered (da_cons (de_com (dv 3)) da_nil)) (dg_tup (n := 2) rfl (dgs_cons (dg_name (i := 8) sc_Mixture___init__.nd) (dgs_cons (dg_name (i := 9) sc_Mixture___init__.nd) dgs_nil))))
      (dss_cons (dst_expr (de_call D__look_whole (hr.mono (by decide)) V.g__look_whole (da_cons (dv 8) da_nil)))
      (dss_cons (dst_expr (de_call D_look_number (hr.mono (by decide)) V.g_look_number (da_cons (de_ix o_ix (dv 8) de_int) (da_cons de_int (da_cons (de_gint rfl V.i_MOST_WEIGHT_DEN) da_nil)))))
      (dss_one (dst_expr (de_meth (C := "Mixture") (dv 0) V.c_Mixture V.m_Mixture__fill D_Mixture__fill (hr.mono (by decide)) (da_cons (dv 1) (da_cons (dv 8) (da_cons (dv 9) da_nil)))))))))))))), fun ds μ R h => ?_⟩)
  obtain ⟨-, a, t, gs, rfl, hm, ht0, ht1, hl1, hl2, hg, hL, hT, hn0, hsum, hden, hR⟩ := h
  have hsz := sizeLine_eq
  simp only [dDropM, dLc, dFor, dISeq, dIRng1, dIRng2, dIZip, dIEnum, dSeq, dCall, SP, dFldC, dIfS, dAnd, dOr, dNot, dTest, dOp, dUn, dVar, dC, qI, qI0, qU, dNext, dRet, dRetN, dRaise, dCons, dNil, dTup, dLst, dSet, dPar, dAsg, dAug, dDrop, dgName, dgTup, dgNil, dgCons, dAndV, dOrV, dNotV, dIf, dCl, startD, List.map_cons, List.map_nil, List.length_cons, List.length_nil, List.cons_append, List.nil_append, List.append_nil, List.replicate, List.getElem?_cons_zero, List.getElem?_cons_succ, List.set_cons_zero, List.set_cons_succ, Option.some.injEq, List.cons.injEq, and_true, true_and, exists_eq_left', exists_eq_left, exists_eq, exists_eq', D.int.injEq, D.bl.injEq, D.tup.injEq, D.lst.injEq, D.adr.injEq, exists_and_left, and_assoc, exists_and_right, if_true, ite_true, decide_eq_true_eq, exists_eq_right, exists_eq_right', Nat.add_zero, Nat.sub_self, Nat.reduceSub, Nat.reduceAdd, eq_self]
  refine ⟨rfl, t, rfl, ht0, ht1, ?_⟩
  refine ⟨rfl, _, 1, _, gs.map givD, rfl, rfl, by rw [List.length_map]; omega, by rw [List.length_map]; unfold c_MOST_PAIRS; omega, ?_⟩
  simp only [dDropM, dLc, dFor, dISeq, dIRng1, dIRng2, dIZip, dIEnum, dSeq, dCall, SP, dFldC, dIfS, dAnd, dOr, dNot, dTest, dOp, dUn, dVar, dC, qI, qI0, qU, dNext, dRet, dRetN, dRaise, dCons, dNil, dTup, dLst, dSet, dPar, dAsg, dAug, dDrop, dgName, dgTup, dgNil, dgCons, dAndV, dOrV, dNotV, dIf, dCl, startD, List.map_cons, List.map_nil, List.length_cons, List.length_nil, List.cons_append, List.nil_append, List.append_nil, List.replicate, List.getElem?_cons_zero, List.getElem?_cons_succ, List.set_cons_zero, List.set_cons_succ, Option.some.injEq, List.cons.injEq, and_true, true_and, exists_eq_left', exists_eq_left, exists_eq, exists_eq', D.int.injEq, D.bl.injEq, D.tup.injEq, D.lst.injEq, D.adr.injEq, exists_and_left, and_assoc, exists_and_right, if_true, ite_true, decide_eq_true_eq, exists_eq_right, exists_eq_right', Nat.add_zero, Nat.sub_self, Nat.reduceSub, Nat.reduceAdd, eq_self, dLstM]
  refine ⟨Nat.zero_le _, fun b hb => ?_⟩
  have hab : a ≠ b := fun z => by rw [z, hb] at hm; cases hm
  have hTb : tabAd K "_gathered" ≠ b := fun z => by rw [z, hb] at hT; cases hT
  refine forG (rows_enum (xs := gs)) (fun done _ Γ' μ' => μ' = updM μ b (.lst ((done.map fun z => z.1.pr).map partD)) ∧
    ∃ o5 o6 o7, Γ' = [some (.adr a), some (.int t), some (.lst (gs.map givD)), some (.adr b), some (.int (lL 1 (done.map fun z => nd z.1.pr))), o5, o6, o7, none, none]) ⟨rfl, _, _, _, rfl⟩ (fun done z rest Γ' μ' hxs hI => ?_) fun Γ' μ' hI => ?_
  · obtain ⟨rfl, o5, o6, o7, rfl⟩ := hI
    have hzm : z ∈ gs.zipIdx := by rw [hxs]; simp
    have hz1 : z.1 ∈ gs := List.fst_mem_of_mem_zipIdx hzm
    have G := hg z.1 hz1
    have eA : ∀ F : Giv → Int × Int, gs.map F = (gs.zipIdx.map fun z => F z.1) := fun F => by
      rw [show (gs.zipIdx.map fun z => F z.1) = (gs.zipIdx.map Prod.fst).map F by rw [List.map_map]; rfl, List.zipIdx_map_fst]
    have hTpos : 0 < lL 1 (gs.map fun g => nd g.pr) := lL_pos (by decide) fun q hq => by
      obtain ⟨g, hg', rfl⟩ := List.mem_map.mp hq
      exact (hg g hg').dpos
    have hdpos : 0 < lL 1 (done.map fun z => nd z.1.pr) := lL_pos (by decide) fun q hq => by
      obtain ⟨y, hy, rfl⟩ := List.mem_map.mp hq
      have : y ∈ gs.zipIdx := by rw [hxs]; simp [hy]
      exact (hg y.1 (List.fst_mem_of_mem_zipIdx this)).dpos
    have hnext : lL 1 ((done ++ [z]).map fun z => nd z.1.pr) = lI (lL 1 (done.map fun z => nd z.1.pr)) z.1.d := by
      rw [List.map_append, lL_app]; rfl
    have hdv : lI (lL 1 (done.map fun z => nd z.1.pr)) z.1.d ∣ lL 1 (gs.map fun g => nd g.pr) := by
      have e1 : ((done ++ z :: rest).map fun z : Giv × Nat => nd z.1.pr) = ((done ++ [z]).map fun z => nd z.1.pr) ++ rest.map fun z => nd z.1.pr := by
        rw [← List.map_append, List.append_assoc]; rfl
      rw [← hnext, eA fun g => nd g.pr, hxs, e1, lL_app]
      exact lL_dvd
    have hle := Int.le_trans (Int.le_of_dvd hTpos hdv) hL
    have hlen : done.length < gs.length := by
      have := congrArg List.length hxs
      rw [List.length_zipIdx, List.length_append, List.length_cons] at this
      omega
    simp only [dDropM, dLc, dFor, dISeq, dIRng1, dIRng2, dIZip, dIEnum, dSeq, dCall, SP, dFldC, dIfS, dAnd, dOr, dNot, dTest, dOp, dUn, dVar, dC, qI, qI0, qU, dNext, dRet, dRetN, dRaise, dCons, dNil, dTup, dLst, dSet, dPar, dAsg, dAug, dDrop, dgName, dgTup, dgNil, dgCons, dAndV, dOrV, dNotV, dIf, dCl, startD, List.map_cons, List.map_nil, List.length_cons, List.length_nil, List.cons_append, List.nil_append, List.append_nil, List.replicate, List.getElem?_cons_zero, List.getElem?_cons_succ, List.set_cons_zero, List.set_cons_succ, Option.some.injEq, List.cons.injEq, and_true, true_and, exists_eq_left', exists_eq_left, exists_eq, exists_eq', D.int.injEq, D.bl.injEq, D.tup.injEq, D.lst.injEq, D.adr.injEq, exists_and_left, and_assoc, exists_and_right, if_true, ite_true, decide_eq_true_eq, exists_eq_right, exists_eq_right', Nat.add_zero, Nat.sub_self, Nat.reduceSub, Nat.reduceAdd, eq_self, givD, dAppend]
    refine ⟨rfl, _, _, _, _, rfl, G.npos, G.dpos, hdpos, hle, ⟨_, updM_same⟩, rfl, _, _, rfl, rfl, t, z.1.x, z.1.ns, rfl, G.sx, G.len, G.inr, fun out h1 h2 => ⟨two_le, _, updM_same, by rw [List.length_map, List.length_map]; omega, ?_, ?_⟩⟩
    · have e : out = z.1.lot := sorted_unique h1 G.srt fun k => (h2 k).trans (G.mem k).symm
      subst e
      rw [updM_updM, List.map_append, List.map_append]
      rfl
    · rw [hnext]
  · obtain ⟨rfl, o5, o6, o7, rfl⟩ := hI
    simp only [dDropM, dLc, dFor, dISeq, dIRng1, dIRng2, dIZip, dIEnum, dSeq, dCall, SP, dFldC, dIfS, dAnd, dOr, dNot, dTest, dOp, dUn, dVar, dC, qI, qI0, qU, dNext, dRet, dRetN, dRaise, dCons, dNil, dTup, dLst, dSet, dPar, dAsg, dAug, dDrop, dgName, dgTup, dgNil, dgCons, dAndV, dOrV, dNotV, dIf, dCl, startD, List.map_cons, List.map_nil, List.length_cons, List.length_nil, List.cons_append, List.nil_append, List.append_nil, List.replicate, List.getElem?_cons_zero, List.getElem?_cons_succ, List.set_cons_zero, List.set_cons_succ, Option.some.injEq, List.cons.injEq, and_true, true_and, exists_eq_left', exists_eq_left, exists_eq, exists_eq', D.int.injEq, D.bl.injEq, D.tup.injEq, D.lst.injEq, D.adr.injEq, exists_and_left, and_assoc, exists_and_right, if_true, ite_true, decide_eq_true_eq, exists_eq_right, exists_eq_right', Nat.add_zero, Nat.sub_self, Nat.reduceSub, Nat.reduceAdd, eq_self]
    have eA : (gs.zipIdx.map fun z => z.1.pr) = gs.map Giv.pr := by
      rw [show (gs.zipIdx.map fun z => z.1.pr) = (gs.zipIdx.map Prod.fst).map Giv.pr by rw [List.map_map]; rfl, List.zipIdx_map_fst]
    refine ⟨_, rfl, b, _, rfl, updM_same, ?_⟩
    rw [delM_updM hb, eA]
    have ok : PartsOk (gs.map Giv.pr) := ⟨by rw [List.length_map]; exact hl2, fun p hp => by
        obtain ⟨g, hg', rfl⟩ := List.mem_map.mp hp
        exact (hg g hg').dpos, fun p hp => by
        obtain ⟨g, hg', rfl⟩ := List.mem_map.mp hp
        exact (hg g hg').nle, by rw [List.map_map]; exact le_MOST hL⟩
    have hdp : 0 < (gPoint (gs.map Giv.pr)).den := low_pos (low_pos ok.lpos)
    have hlots : (gPoint (gs.map Giv.pr)).nums.length = (gLots (gs.map Giv.pr)).length := by
      unfold gPoint lowM
      rw [List.length_map, List.length_map]
    have hlots2 : (gLots (gs.map Giv.pr)).length ≤ 1000 := gLots_len ok.len
    refine ⟨rfl, _, gs.map Giv.pr, rfl, rfl, ok, hT, _, rfl, rfl, _, _, rfl, _, _, rfl, rfl, ?_⟩
    refine ⟨rfl, _, _, rfl, hsum, ix_ok rfl rfl ⟨rfl, _, 1, _, rfl, fun z => ?_, fun _ => ?_⟩⟩
    · unfold c_MOST_WEIGHT_DEN at z; omega
    refine ⟨_, rfl, .inr ⟨a, [], rfl, hm, rfl⟩, _, rfl, _, rfl, _, rfl, ?_⟩
    have hM : (10 : Int) ^ 40 ≤ c_MOST := by unfold c_MOST; decide +kernel
    exact ⟨rfl, a, t, (gPoint (gs.map Giv.pr)).den, (gPoint (gs.map Giv.pr)).nums, gLots (gs.map Giv.pr), rfl, hm, ht0, ht1, hlots, by omega, hdp, Int.le_trans hden hM, hn0, by rw [hsum]; exact Int.le_trans hden hM, hR⟩
end N67
set_option Elab.async false
set_option linter.all false
set_option maxRecDepth 100000
set_option maxHeartbeats 4000000
set_option exponentiation.threshold 20000
namespace N67
open PySem PySem.Spec PyProof.Rows L2 Nod
theorem del_two {μ : Mu} {a p : Addr} {o o' : MO} (ha : μ a = none) (h : p ≠ a) : delM (updM (updM μ a o) p o') a = updM μ p o' := by
  funext b
  unfold delM updM
  by_cases e : b = a
  · subst e; rw [if_pos rfl, if_neg (Ne.symm h), ha]
  · rw [if_neg e, if_neg e]
theorem updM_comm {μ : Mu} {a b : Addr} {o o' : MO} (h : a ≠ b) : updM (updM μ a o) b o' = updM (updM μ b o') a o := by
  funext c
  unfold updM
  by_cases e : c = b
  · subst e; rw [if_pos rfl, if_neg (Ne.symm h), if_pos rfl]
  · rw [if_neg e]; split
    · rfl
    · rfl
theorem seq_adr {μ : Mu} {a : Addr} {ds : List D} (h : μ a = some (.lst ds)) : seqM μ (.adr a) = some ds := by
  show (match μ a with
    | some (MO.lst ds) => some ds
    | _ => none) = some ds
  rw [h]
theorem isi_int {K : PySem.W.Frag} {i : Int} {μ : Mu} {R : DK} (h : R (.bl true) μ) : qIsi K [.int i, .ty "int"] μ R := ⟨_, _, _, _, true, rfl, .inl ⟨_, rfl, rfl⟩, .inl ⟨_, rfl, rfl⟩, rfl, h⟩
theorem isi_bool {K : PySem.W.Frag} {i : Int} {μ : Mu} {R : DK} (h : R (.bl false) μ) : qIsi K [.int i, .ty "bool"] μ R := ⟨_, _, _, _, false, rfl, .inl ⟨_, rfl, rfl⟩, .inl ⟨_, rfl, rfl⟩, rfl, h⟩
theorem isi_tup {K : PySem.W.Frag} {xs : List D} {μ : Mu} {R : DK} (h : R (.bl true) μ) : qIsi K [.tup xs, .ty "tuple"] μ R := ⟨_, _, _, _, true, rfl, .inl ⟨_, rfl, rfl⟩, .inl ⟨_, rfl, rfl⟩, rfl, h⟩
theorem pow12_le {m n : Nat} (h : m ≤ n) : (12 : Int) ^ m ≤ 12 ^ n := by
  have := Nat.pow_le_pow_right (show 0 < 12 by decide) h
  exact_mod_cast this
theorem gI_step {x y : Int} (hx : 0 ≤ x) (hy : 0 ≤ y) : gI y (x % y) = gI x y := by
  obtain ⟨n, rfl⟩ := Int.eq_ofNat_of_zero_le hx
  obtain ⟨m, rfl⟩ := Int.eq_ofNat_of_zero_le hy
  show ((Nat.gcd m (n % m) : Nat) : Int) = ((Nat.gcd n m : Nat) : Int)
  rw [Nat.gcd_comm m, ← Nat.gcd_rec, Nat.gcd_comm]
theorem none_upd {μ : Mu} {a p : Addr} {o : MO} (h : updM μ a o p = none) : p ≠ a ∧ μ p = none := by
  by_cases e : p = a
  · subst e; rw [updM_same] at h; cases h
  · rw [updM_ne e] at h; exact ⟨e, h⟩
def sp__law_take : DSp := SP 2 fun ds μ R RX => ∃ (a : Addr) (m : Int) (tp : List Int), ds = [.adr a, .int m] ∧ μ a = some (.lst (tp.map D.int)) ∧ 0 < m ∧ ∀ (v : Int) (tp' : List Int), 0 ≤ v → v < m → R (.int v) (updM μ a (.lst (tp'.map D.int)))
theorem sc__law_take : FnScope ["_law_tape_here", "_law_many"] ["_law_tape_here", "_law_many"] (defScope (top 54)) := ⟨rfl, rfl, rfl, by decide +kernel, rfl, by decide +kernel, by decide +kernel⟩
theorem fn__law_take {P : Program} {w : World} {K : PySem.W.Frag} {mg : Str → Option Value} {base : Heap} {fd : FuncData} (V : Env K mg) (F : FunD K "_law_take" "_law_take" (defArgs (top 54)) (defBody (top 54)) (defScope (top 54)) [] [] (He.ga K "_law_take") fd)   : FnOk P w K mg base (L2.CX P w) 1 (He.ga K "_law_take") fd ["_law_tape_here", "_law_many"] (low K sp__law_take) := by
  refine fn_data F sc__law_take (fun ds μ R RX h => h.1) (fun cdv A outer s H E RX hr L hW hU => ⟨_, (dss_cons (dst_if (dt_cmp (o_eqD (hu64 hr)) (dv 0) (de_lst da_nil)) (dss_one (dst_ret de_int)) dss_nil)
      (dss_one (dst_ret (de_op o_mod (de_callTy c_int V.f_int (da_cons (de_pop (dv 0)) da_nil)) (dv 1))))), fun ds μ R h => ?_⟩)
  obtain ⟨-, a, m, tp, rfl, hm, h0, hR⟩ := h
  have hs : seqM μ (.adr a) = some (tp.map D.int) := seq_adr hm
  simp only [dDropM, dLc, dFor, dISeq, dIRng1, dIRng2, dIZip, dIEnum, dSeq, dCall, SP, dFldC, dIfS, dAnd, dOr, dNot, dTest, dOp, dUn, dVar, dC, qI, qI0, qU, dNext, dRet, dRetN, dRaise, dCons, dNil, dTup, dLst, dSet, dPar, dAsg, dAug, dDrop, dgName, dgTup, dgNil, dgCons, dAndV, dOrV, dNotV, dIf, dCl, startD, List.map_cons, List.map_nil, List.length_cons, List.length_nil, List.cons_append, List.nil_append, List.append_nil, List.replicate, List.getElem?_cons_zero, List.getElem?_cons_succ, List.set_cons_zero, List.set_cons_succ, Option.some.injEq, List.cons.injEq, and_true, true_and, exists_eq_left', exists_eq_left, exists_eq, exists_eq', D.int.injEq, D.bl.injEq, D.tup.injEq, D.lst.injEq, D.adr.injEq, exists_and_left, and_assoc, exists_and_right, if_true, ite_true, decide_eq_true_eq, exists_eq_right, exists_eq_right', Nat.add_zero, Nat.sub_self, Nat.reduceSub, Nat.reduceAdd, eq_self, dPop]
  refine ⟨Nat.zero_le _, eqD_ll (x := .adr a) (y := .lst []) (a := tp) (b := []) hs rfl rfl rfl ⟨_, rfl, ?_⟩⟩
  rcases List.eq_nil_or_concat tp with rfl | ⟨init, y, rfl⟩
  · simp only [decide_true, if_true]
    have := hR 0 [] (Int.le_refl _) h0
    rw [updM_id hm] at this
    exact this
  · rw [List.concat_eq_append] at hm ⊢
    rw [if_neg (by simp)]
    refine ⟨init.map D.int, .int y, by rw [hm, List.map_append]; rfl, .inl ⟨y, rfl, ?_⟩⟩
    exact ⟨_, rfl, h0, hR _ init (Int.emod_nonneg _ (by omega)) (Int.emod_lt_of_pos _ h0)⟩
def sp__law_number : DSp := SP 2 fun ds μ R RX => ∃ (a : Addr) (c : Int) (tp : List Int), ds = [.adr a, .int c] ∧ μ a = some (.lst (tp.map D.int)) ∧ 0 ≤ c ∧ c ≤ 60 ∧ ∀ (v : Int) (tp' : List Int), 0 ≤ v → v < 12 ^ c.toNat → R (.int v) (updM μ a (.lst (tp'.map D.int)))
theorem sc__law_number : FnScope ["_law_tape_here", "_law_count", "_law_number_here", "_law_k"] ["_law_tape_here", "_law_count"] (defScope (top 55)) := ⟨rfl, rfl, rfl, by decide +kernel, rfl, by decide +kernel, by decide +kernel⟩
theorem fn__law_number {P : Program} {w : World} {K : PySem.W.Frag} {mg : Str → Option Value} {base : Heap} {fd : FuncData} (V : Env K mg) (F : FunD K "_law_number" "_law_number" (defArgs (top 55)) (defBody (top 55)) (defScope (top 55)) [] [] (He.ga K "_law_number") fd)  (D__law_take : DFn P w K mg base 1 (He.ga K "_law_take") ["_law_tape_here", "_law_many"] [] sp__law_take) : FnOk P w K mg base (L2.CX P w) 2 (He.ga K "_law_number") fd ["_law_tape_here", "_law_count"] (low K sp__law_number) := by
  refine fn_data F sc__law_number (fun ds μ R RX h => h.1) (fun cdv A outer s H E RX hr L hW hU => ⟨_, (dss_cons (dst_set (i := 2) sc__law_number.nd de_int)
      (dss_cons (dst_for (passes_of rfl) rfl (di_rng1 V.f_range (da_cons (dv 1) da_nil)) (dg_name (i := 3) sc__law_number.nd) (dss_one (dst_set (i := 2) sc__law_number.nd (de_op o_add (de_op o_mul (dv 2) de_int) (de_call D__law_take (hr.mono (by decide)) V.g__law_take (da_cons (dv 0) (da_cons de_int da_nil)))))))
      (dss_one (dst_ret (dv 2))))), fun ds μ R h => ?_⟩)
  obtain ⟨-, a, c, tp, rfl, hm, h0, h1, hR⟩ := h
  simp only [dDropM, dLc, dFor, dISeq, dIRng1, dIRng2, dIZip, dIEnum, dSeq, dCall, SP, dFldC, dIfS, dAnd, dOr, dNot, dTest, dOp, dUn, dVar, dC, qI, qI0, qU, dNext, dRet, dRetN, dRaise, dCons, dNil, dTup, dLst, dSet, dPar, dAsg, dAug, dDrop, dgName, dgTup, dgNil, dgCons, dAndV, dOrV, dNotV, dIf, dCl, startD, List.map_cons, List.map_nil, List.length_cons, List.length_nil, List.cons_append, List.nil_append, List.append_nil, List.replicate, List.getElem?_cons_zero, List.getElem?_cons_succ, List.set_cons_zero, List.set_cons_succ, Option.some.injEq, List.cons.injEq, and_true, true_and, exists_eq_left', exists_eq_left, exists_eq, exists_eq', D.int.injEq, D.bl.injEq, D.tup.injEq, D.lst.injEq, D.adr.injEq, exists_and_left, and_assoc, exists_and_right, if_true, ite_true, decide_eq_true_eq, exists_eq_right, exists_eq_right', Nat.add_zero, Nat.sub_self, Nat.reduceSub, Nat.reduceAdd, eq_self]
  refine ⟨by omega, by omega, forG rows_rng (fun done _ Γ' μ' => ∃ (v : Int) (tp' : List Int) (o : Option D), Γ' = [some (.adr a), some (.int c), some (.int v), o] ∧ μ' = updM μ a (.lst (tp'.map D.int)) ∧ 0 ≤ v ∧ v < 12 ^ done.length) ⟨0, tp, none, rfl, (updM_id hm).symm, Int.le_refl _, by decide⟩ (fun done k rest Γ' μ' hxs hI => ?_) fun Γ' μ' hI => ?_⟩
  · obtain ⟨v, tp', o, rfl, rfl, hv0, hv1⟩ := hI
    simp only [dDropM, dLc, dFor, dISeq, dIRng1, dIRng2, dIZip, dIEnum, dSeq, dCall, SP, dFldC, dIfS, dAnd, dOr, dNot, dTest, dOp, dUn, dVar, dC, qI, qI0, qU, dNext, dRet, dRetN, dRaise, dCons, dNil, dTup, dLst, dSet, dPar, dAsg, dAug, dDrop, dgName, dgTup, dgNil, dgCons, dAndV, dOrV, dNotV, dIf, dCl, startD, List.map_cons, List.map_nil, List.length_cons, List.length_nil, List.cons_append, List.nil_append, List.append_nil, List.replicate, List.getElem?_cons_zero, List.getElem?_cons_succ, List.set_cons_zero, List.set_cons_succ, Option.some.injEq, List.cons.injEq, and_true, true_and, exists_eq_left', exists_eq_left, exists_eq, exists_eq', D.int.injEq, D.bl.injEq, D.tup.injEq, D.lst.injEq, D.adr.injEq, exists_and_left, and_assoc, exists_and_right, if_true, ite_true, decide_eq_true_eq, exists_eq_right, exists_eq_right', Nat.add_zero, Nat.sub_self, Nat.reduceSub, Nat.reduceAdd, eq_self]
    have hd : done.length < 60 := by
      have := congrArg List.length hxs
      rw [List.length_range, List.length_append, List.length_cons] at this
      omega
    have h12 : (12 : Int) ^ done.length ≤ 12 ^ 60 := pow12_le (by omega)
    have hvb : v.natAbs < 2 ^ 300 := by omega
    refine ⟨wide_mul hvb (show (12 : Int).natAbs < 2 ^ 4 by decide) (by decide) (by decide) (by decide), rfl, a, 12, tp', rfl, updM_same, by decide, fun w tp2 hw0 hw1 => ?_⟩
    refine ⟨w, rfl, ⟨tp2, updM_updM⟩, by omega, ?_⟩
    rw [List.length_append, List.length_singleton, Int.pow_succ]
    omega
  · obtain ⟨v, tp', o, rfl, rfl, hv0, hv1⟩ := hI
    rw [List.length_range] at hv1
    simp only [dDropM, dLc, dFor, dISeq, dIRng1, dIRng2, dIZip, dIEnum, dSeq, dCall, SP, dFldC, dIfS, dAnd, dOr, dNot, dTest, dOp, dUn, dVar, dC, qI, qI0, qU, dNext, dRet, dRetN, dRaise, dCons, dNil, dTup, dLst, dSet, dPar, dAsg, dAug, dDrop, dgName, dgTup, dgNil, dgCons, dAndV, dOrV, dNotV, dIf, dCl, startD, List.map_cons, List.map_nil, List.length_cons, List.length_nil, List.cons_append, List.nil_append, List.append_nil, List.replicate, List.getElem?_cons_zero, List.getElem?_cons_succ, List.set_cons_zero, List.set_cons_succ, Option.some.injEq, List.cons.injEq, and_true, true_and, exists_eq_left', exists_eq_left, exists_eq, exists_eq', D.int.injEq, D.bl.injEq, D.tup.injEq, D.lst.injEq, D.adr.injEq, exists_and_left, and_assoc, exists_and_right, if_true, ite_true, decide_eq_true_eq, exists_eq_right, exists_eq_right', Nat.add_zero, Nat.sub_self, Nat.reduceSub, Nat.reduceAdd, eq_self]
    exact hR v tp' hv0 hv1
def sp__law_int : DSp := SP 1 fun ds μ R RX => ∃ (i : Int), ds = [.int i] ∧ R (.bl true) μ
theorem sc__law_int : FnScope ["_law_told"] ["_law_told"] (defScope (top 56)) := ⟨rfl, rfl, rfl, by decide +kernel, rfl, by decide +kernel, by decide +kernel⟩
theorem fn__law_int {P : Program} {w : World} {K : PySem.W.Frag} {mg : Str → Option Value} {base : Heap} {fd : FuncData} (V : Env K mg) (F : FunD K "_law_int" "_law_int" (defArgs (top 56)) (defBody (top 56)) (defScope (top 56)) [] [] (He.ga K "_law_int") fd)   : FnOk P w K mg base (L2.CX P w) 1 (He.ga K "_law_int") fd ["_law_told"] (low K sp__law_int) := by
  refine fn_data F sc__law_int (fun ds μ R RX h => h.1) (fun cdv A outer s H E RX hr L hW hU => ⟨_, (dss_one (dst_ret (de_and (de_callB c_isi V.f_isinstance (da_cons (dv 0) (da_cons (de_ty (T := "int") V.f_int) da_nil))) (de_one (de_not (de_callB c_isi V.f_isinstance (da_cons (dv 0) (da_cons (de_ty (T := "bool") V.f_bool) da_nil)))))))), fun ds μ R h => ?_⟩)
  obtain ⟨-, i, rfl, hR⟩ := h
  simp only [dDropM, dLc, dFor, dISeq, dIRng1, dIRng2, dIZip, dIEnum, dSeq, dCall, SP, dFldC, dIfS, dAnd, dOr, dNot, dTest, dOp, dUn, dVar, dC, qI, qI0, qU, dNext, dRet, dRetN, dRaise, dCons, dNil, dTup, dLst, dSet, dPar, dAsg, dAug, dDrop, dgName, dgTup, dgNil, dgCons, dAndV, dOrV, dNotV, dIf, dCl, startD, List.map_cons, List.map_nil, List.length_cons, List.length_nil, List.cons_append, List.nil_append, List.append_nil, List.replicate, List.getElem?_cons_zero, List.getElem?_cons_succ, List.set_cons_zero, List.set_cons_succ, Option.some.injEq, List.cons.injEq, and_true, true_and, exists_eq_left', exists_eq_left, exists_eq, exists_eq', D.int.injEq, D.bl.injEq, D.tup.injEq, D.lst.injEq, D.adr.injEq, exists_and_left, and_assoc, exists_and_right, if_true, ite_true, decide_eq_true_eq, exists_eq_right, exists_eq_right', Nat.add_zero, Nat.sub_self, Nat.reduceSub, Nat.reduceAdd, eq_self]
  refine isi_int ⟨_, rfl, ?_⟩
  rw [if_pos rfl]
  exact isi_bool ⟨_, rfl, hR⟩
/-- the same, called while an exception is handled -/
theorem fnq__law_int {P : Program} {w : World} {K : PySem.W.Frag} {mg : Str → Option Value} {base : Heap} {fd : FuncData} (V : Env K mg) (F : FunD K "_law_int" "_law_int" (defArgs (top 56)) (defBody (top 56)) (defScope (top 56)) [] [] (He.ga K "_law_int") fd) :
    FnQ P w K mg base 1 (He.ga K "_law_int") fd ["_law_told"] (low K sp__law_int) := by
  refine fn_dataQ F sc__law_int (fun ds μ R RX h => h.1) fun cdv A outer s H hr L => ⟨_, (dss_one (dst_ret (de_and (de_callB c_isi V.f_isinstance (da_cons (dv 0) (da_cons (de_ty (T := "int") V.f_int) da_nil))) (de_one (de_not (de_callB c_isi V.f_isinstance (da_cons (dv 0) (da_cons (de_ty (T := "bool") V.f_bool) da_nil)))))))), fun ds μ R RX h => ?_⟩
  obtain ⟨-, i, rfl, hR⟩ := h
  simp only [dDropM, dLc, dFor, dISeq, dIRng1, dIRng2, dIZip, dIEnum, dSeq, dCall, SP, dFldC, dIfS, dAnd, dOr, dNot, dTest, dOp, dUn, dVar, dC, qI, qI0, qU, dNext, dRet, dRetN, dRaise, dCons, dNil, dTup, dLst, dSet, dPar, dAsg, dAug, dDrop, dgName, dgTup, dgNil, dgCons, dAndV, dOrV, dNotV, dIf, dCl, startD, List.map_cons, List.map_nil, List.length_cons, List.length_nil, List.cons_append, List.nil_append, List.append_nil, List.replicate, List.getElem?_cons_zero, List.getElem?_cons_succ, List.set_cons_zero, List.set_cons_succ, Option.some.injEq, List.cons.injEq, and_true, true_and, exists_eq_left', exists_eq_left, exists_eq, exists_eq', D.int.injEq, D.bl.injEq, D.tup.injEq, D.lst.injEq, D.adr.injEq, exists_and_left, and_assoc, exists_and_right, if_true, ite_true, decide_eq_true_eq, exists_eq_right, exists_eq_right', Nat.add_zero, Nat.sub_self, Nat.reduceSub, Nat.reduceAdd, eq_self]
  refine isi_int ⟨_, rfl, ?_⟩
  rw [if_pos rfl]
  exact isi_bool ⟨_, rfl, hR⟩
def sp__law_same_lot : DSp := SP 2 fun ds μ R RX => ∃ (a b : List Int), ds = [tupI a, tupI b] ∧ a.length < sizeLine ∧ R (.bl (decide (a = b))) μ
theorem sc__law_same_lot : FnScope ["_law_told", "_law_due", "_law_thing"] ["_law_told", "_law_due"] (defScope (top 57)) := ⟨rfl, rfl, rfl, by decide +kernel, rfl, by decide +kernel, by decide +kernel⟩
theorem fn__law_same_lot {P : Program} {w : World} {K : PySem.W.Frag} {mg : Str → Option Value} {base : Heap} {fd : FuncData} (V : Env K mg) (F : FunD K "_law_same_lot" "_law_same_lot" (defArgs (top 57)) (defBody (top 57)) (defScope (top 57)) [] [] (He.ga K "_law_same_lot") fd)  (D__law_int : DFn P w K mg base 1 (He.ga K "_law_int") ["_law_told"] [] sp__law_int) : FnOk P w K mg base (L2.CX P w) 2 (He.ga K "_law_same_lot") fd ["_law_told", "_law_due"] (low K sp__law_same_lot) := by
  refine fn_data F sc__law_same_lot (fun ds μ R RX h => h.1) (fun cdv A outer s H E RX hr L hW hU => ⟨_, (dss_cons (dst_if (dt_w (dw_or (dt_not (dt_val (de_callB c_isi V.f_isinstance (da_cons (dv 0) (da_cons (de_ty (T := "tuple") V.f_tuple) da_nil))))) (dw_or1 (dt_cmp (o_neD (hu64 hr)) (dv 0) (dv 1))))) (dss_one (dst_ret de_bl)) dss_nil)
      (dss_one (dst_ret (de_callB (c_all rfl) V.f_all (da_cons (de_lc [("_law_thing", 2)] (g := (gName 2)) rfl sc__law_same_lot.nd (di_seq (dv 0)) (blkOk_by rfl) (fun _ _ _ _ _ => (dgo_name (i := 2) sc__law_same_lot.nd)) (fun _ _ _ _ _ => dts_nil) (fun _ _ _ _ _ => (de_callF rfl D__law_int (hr.mono (by decide)) V.g__law_int (da_cons (dv 2) da_nil)))) da_nil))))), fun ds μ R h => ?_⟩)
  obtain ⟨-, a, b, rfl, hz, hR⟩ := h
  simp only [dDropM, dLc, dFor, dISeq, dIRng1, dIRng2, dIZip, dIEnum, dSeq, dCall, SP, dFldC, dIfS, dAnd, dOr, dNot, dTest, dOp, dUn, dVar, dC, qI, qI0, qU, dNext, dRet, dRetN, dRaise, dCons, dNil, dTup, dLst, dSet, dPar, dAsg, dAug, dDrop, dgName, dgTup, dgNil, dgCons, dAndV, dOrV, dNotV, dIf, dCl, startD, List.map_cons, List.map_nil, List.length_cons, List.length_nil, List.cons_append, List.nil_append, List.append_nil, List.replicate, List.getElem?_cons_zero, List.getElem?_cons_succ, List.set_cons_zero, List.set_cons_succ, Option.some.injEq, List.cons.injEq, and_true, true_and, exists_eq_left', exists_eq_left, exists_eq, exists_eq', D.int.injEq, D.bl.injEq, D.tup.injEq, D.lst.injEq, D.adr.injEq, exists_and_left, and_assoc, exists_and_right, if_true, ite_true, decide_eq_true_eq, exists_eq_right, exists_eq_right', Nat.add_zero, Nat.sub_self, Nat.reduceSub, Nat.reduceAdd, eq_self]
  refine isi_tup ⟨_, rfl, ?_⟩
  rw [if_neg (by decide)]
  refine neD_tt ⟨_, rfl, ?_⟩
  by_cases c : a = b
  · rw [if_neg (by rw [decide_eq_true c]; decide)]
    refine ⟨_, rfl, lcG (xs := a) rows_seq (fun _ => true) (fun i => .bl true) hz (fun i hi Q Q' hQ hQ' => ?_) ?_⟩
    · simp only [dDropM, dLc, dFor, dISeq, dIRng1, dIRng2, dIZip, dIEnum, dSeq, dCall, SP, dFldC, dIfS, dAnd, dOr, dNot, dTest, dOp, dUn, dVar, dC, qI, qI0, qU, dNext, dRet, dRetN, dRaise, dCons, dNil, dTup, dLst, dSet, dPar, dAsg, dAug, dDrop, dgName, dgTup, dgNil, dgCons, dAndV, dOrV, dNotV, dIf, dCl, startD, List.map_cons, List.map_nil, List.length_cons, List.length_nil, List.cons_append, List.nil_append, List.append_nil, List.replicate, List.getElem?_cons_zero, List.getElem?_cons_succ, List.set_cons_zero, List.set_cons_succ, Option.some.injEq, List.cons.injEq, and_true, true_and, exists_eq_left', exists_eq_left, exists_eq, exists_eq', D.int.injEq, D.bl.injEq, D.tup.injEq, D.lst.injEq, D.adr.injEq, exists_and_left, and_assoc, exists_and_right, if_true, ite_true, decide_eq_true_eq, exists_eq_right, exists_eq_right', Nat.add_zero, Nat.sub_self, Nat.reduceSub, Nat.reduceAdd, eq_self, dYes, wipeD]
      exact ⟨rfl, i, rfl, hQ rfl⟩
    · rw [filter_tt]
      refine ⟨_, a.map fun _ => true, rfl, by rw [List.map_map]; rfl, rfl, ?_⟩
      rw [show ((a.map fun _ => true).all _root_.id) = true by simp]
      rw [decide_eq_true c] at hR
      exact hR
  · rw [if_pos (by rw [decide_eq_false c]; decide)]
    rw [decide_eq_false c] at hR
    exact hR
def sp__law_same_list : DSp := SP 2 fun ds μ R RX => ∃ (a b : List Int), ds = [.lst (a.map D.int), .lst (b.map D.int)] ∧ a.length < sizeLine ∧ R (.bl (decide (a = b))) μ
theorem isi_lst {K : PySem.W.Frag} {xs : List D} {μ : Mu} {R : DK} (h : R (.bl true) μ) : qIsi K [.lst xs, .ty "list"] μ R := ⟨_, _, _, _, true, rfl, .inl ⟨_, rfl, rfl⟩, .inl ⟨_, rfl, rfl⟩, rfl, h⟩
theorem neD_of {x y : D} {μ : Mu} {R : DK} {b : Bool} (h : qEqD false x y μ fun d μ' => d = .bl b ∧ μ' = μ) (hR : R (.bl (!b)) μ) : qEqD true x y μ R := by
  obtain ⟨d, e, h1, h2, h3, h4, h5⟩ := h
  refine ⟨d, e, h1, h2, h3, h4, ?_⟩
  have h5 := h5.1
  simp only [Bool.false_eq_true, if_false, D.bl.injEq] at h5
  rw [if_pos rfl, h5]
  exact hR
theorem sc__law_same_list : FnScope ["_law_told", "_law_due", "_law_number_here"] ["_law_told", "_law_due"] (defScope (top 58)) := ⟨rfl, rfl, rfl, by decide +kernel, rfl, by decide +kernel, by decide +kernel⟩
theorem fn__law_same_list {P : Program} {w : World} {K : PySem.W.Frag} {mg : Str → Option Value} {base : Heap} {fd : FuncData} (V : Env K mg) (F : FunD K "_law_same_list" "_law_same_list" (defArgs (top 58)) (defBody (top 58)) (defScope (top 58)) [] [] (He.ga K "_law_same_list") fd)  (D__law_int : DFn P w K mg base 1 (He.ga K "_law_int") ["_law_told"] [] sp__law_int) : FnOk P w K mg base (L2.CX P w) 2 (He.ga K "_law_same_list") fd ["_law_told", "_law_due"] (low K sp__law_same_list) := by
  refine fn_data F sc__law_same_list (fun ds μ R RX h => h.1) (fun cdv A outer s H E RX hr L hW hU => ⟨_, (dss_cons (dst_if (dt_w (dw_or (dt_not (dt_val (de_callB c_isi V.f_isinstance (da_cons (dv 0) (da_cons (de_ty (T := "list") V.f_list) da_nil))))) (dw_or1 (dt_cmp (o_neD (hu64 hr)) (dv 0) (dv 1))))) (dss_one (dst_ret de_bl)) dss_nil)
      (dss_one (dst_ret (de_callB (c_all rfl) V.f_all (da_cons (de_lc [("_law_number_here", 2)] (g := (gName 2)) rfl sc__law_same_list.nd (di_seq (dv 0)) (blkOk_by rfl) (fun _ _ _ _ _ => (dgo_name (i := 2) sc__law_same_list.nd)) (fun _ _ _ _ _ => dts_nil) (fun _ _ _ _ _ => (de_callF rfl D__law_int (hr.mono (by decide)) V.g__law_int (da_cons (dv 2) da_nil)))) da_nil))))), fun ds μ R h => ?_⟩)
  obtain ⟨-, a, b, rfl, hz, hR⟩ := h
  simp only [dDropM, dLc, dFor, dISeq, dIRng1, dIRng2, dIZip, dIEnum, dSeq, dCall, SP, dFldC, dIfS, dAnd, dOr, dNot, dTest, dOp, dUn, dVar, dC, qI, qI0, qU, dNext, dRet, dRetN, dRaise, dCons, dNil, dTup, dLst, dSet, dPar, dAsg, dAug, dDrop, dgName, dgTup, dgNil, dgCons, dAndV, dOrV, dNotV, dIf, dCl, startD, List.map_cons, List.map_nil, List.length_cons, List.length_nil, List.cons_append, List.nil_append, List.append_nil, List.replicate, List.getElem?_cons_zero, List.getElem?_cons_succ, List.set_cons_zero, List.set_cons_succ, Option.some.injEq, List.cons.injEq, and_true, true_and, exists_eq_left', exists_eq_left, exists_eq, exists_eq', D.int.injEq, D.bl.injEq, D.tup.injEq, D.lst.injEq, D.adr.injEq, exists_and_left, and_assoc, exists_and_right, if_true, ite_true, decide_eq_true_eq, exists_eq_right, exists_eq_right', Nat.add_zero, Nat.sub_self, Nat.reduceSub, Nat.reduceAdd, eq_self]
  refine isi_lst ⟨_, rfl, ?_⟩
  rw [if_neg (by decide)]
  refine neD_of (eqD_ll (a := a) (b := b) rfl rfl rfl rfl ⟨rfl, rfl⟩) ⟨_, rfl, ?_⟩
  by_cases c : a = b
  · rw [if_neg (by rw [decide_eq_true c]; decide)]
    refine ⟨_, rfl, lcG (xs := a) rows_seq (fun _ => true) (fun i => .bl true) hz (fun i hi Q Q' hQ hQ' => ?_) ?_⟩
    · simp only [dDropM, dLc, dFor, dISeq, dIRng1, dIRng2, dIZip, dIEnum, dSeq, dCall, SP, dFldC, dIfS, dAnd, dOr, dNot, dTest, dOp, dUn, dVar, dC, qI, qI0, qU, dNext, dRet, dRetN, dRaise, dCons, dNil, dTup, dLst, dSet, dPar, dAsg, dAug, dDrop, dgName, dgTup, dgNil, dgCons, dAndV, dOrV, dNotV, dIf, dCl, startD, List.map_cons, List.map_nil, List.length_cons, List.length_nil, List.cons_append, List.nil_append, List.append_nil, List.replicate, List.getElem?_cons_zero, List.getElem?_cons_succ, List.set_cons_zero, List.set_cons_succ, Option.some.injEq, List.cons.injEq, and_true, true_and, exists_eq_left', exists_eq_left, exists_eq, exists_eq', D.int.injEq, D.bl.injEq, D.tup.injEq, D.lst.injEq, D.adr.injEq, exists_and_left, and_assoc, exists_and_right, if_true, ite_true, decide_eq_true_eq, exists_eq_right, exists_eq_right', Nat.add_zero, Nat.sub_self, Nat.reduceSub, Nat.reduceAdd, eq_self, dYes, wipeD]
      exact ⟨rfl, i, rfl, hQ rfl⟩
    · rw [filter_tt]
      refine ⟨_, a.map fun _ => true, rfl, by rw [List.map_map]; rfl, rfl, ?_⟩
      rw [show ((a.map fun _ => true).all _root_.id) = true by simp]
      rw [decide_eq_true c] at hR
      exact hR
  · rw [if_pos (by rw [decide_eq_false c]; decide)]
    rw [decide_eq_false c] at hR
    exact hR
def sp__law_gcd : DSp := SP 2 fun ds μ R RX => ∃ (a b : Int), ds = [.int a, .int b] ∧ 0 ≤ a ∧ 0 ≤ b ∧ R (.int (gI a b)) μ
theorem sc__law_gcd : FnScope ["_law_one", "_law_two"] ["_law_one", "_law_two"] (defScope (top 59)) := ⟨rfl, rfl, rfl, by decide +kernel, rfl, by decide +kernel, by decide +kernel⟩
theorem fn__law_gcd {P : Program} {w : World} {K : PySem.W.Frag} {mg : Str → Option Value} {base : Heap} {fd : FuncData} (V : Env K mg) (F : FunD K "_law_gcd" "_law_gcd" (defArgs (top 59)) (defBody (top 59)) (defScope (top 59)) [] [] (He.ga K "_law_gcd") fd)   : FnOk P w K mg base (L2.CX P w) 1 (He.ga K "_law_gcd") fd ["_law_one", "_law_two"] (low K sp__law_gcd) := by
  refine fn_data F sc__law_gcd (fun ds μ R RX h => h.1) (fun cdv A outer s H E RX hr L hW hU => ⟨_, (dss_cons (dst_while (passes_of rfl) (dt_cmp o_gt (dv 1) de_int) (dss_one (dst_par (i := 0) (j := 1) rfl sc__law_gcd.nd (da_cons (dv 1) (da_cons (de_op o_mod (de_callTy c_int V.f_int (da_cons (dv 0) da_nil)) (dv 1)) da_nil)))))
      (dss_one (dst_ret (dv 0)))), fun ds μ R h => ?_⟩)
  obtain ⟨-, a, b, rfl, h0, h1, hR⟩ := h
  simp only [dDropM, dLc, dFor, dISeq, dIRng1, dIRng2, dIZip, dIEnum, dSeq, dCall, SP, dFldC, dIfS, dAnd, dOr, dNot, dTest, dOp, dUn, dVar, dC, qI, qI0, qU, dNext, dRet, dRetN, dRaise, dCons, dNil, dTup, dLst, dSet, dPar, dAsg, dAug, dDrop, dgName, dgTup, dgNil, dgCons, dAndV, dOrV, dNotV, dIf, dCl, startD, List.map_cons, List.map_nil, List.length_cons, List.length_nil, List.cons_append, List.nil_append, List.append_nil, List.replicate, List.getElem?_cons_zero, List.getElem?_cons_succ, List.set_cons_zero, List.set_cons_succ, Option.some.injEq, List.cons.injEq, and_true, true_and, exists_eq_left', exists_eq_left, exists_eq, exists_eq', D.int.injEq, D.bl.injEq, D.tup.injEq, D.lst.injEq, D.adr.injEq, exists_and_left, and_assoc, exists_and_right, if_true, ite_true, decide_eq_true_eq, exists_eq_right, exists_eq_right', Nat.add_zero, Nat.sub_self, Nat.reduceSub, Nat.reduceAdd, eq_self]
  refine ⟨fun m Γ' μ' => ∃ x y : Int, 0 ≤ x ∧ 0 ≤ y ∧ gI x y = gI a b ∧ y.toNat = m ∧ Γ' = [some (.int x), some (.int y)] ∧ μ' = μ, ⟨_, a, b, h0, h1, rfl, rfl, rfl, rfl⟩, fun m Γ' μ' hW' => ?_⟩
  obtain ⟨x, y, hx, hy, hg, rfl, rfl, rfl⟩ := hW'
  simp only [dDropM, dLc, dFor, dISeq, dIRng1, dIRng2, dIZip, dIEnum, dSeq, dCall, SP, dFldC, dIfS, dAnd, dOr, dNot, dTest, dOp, dUn, dVar, dC, qI, qI0, qU, dNext, dRet, dRetN, dRaise, dCons, dNil, dTup, dLst, dSet, dPar, dAsg, dAug, dDrop, dgName, dgTup, dgNil, dgCons, dAndV, dOrV, dNotV, dIf, dCl, startD, List.map_cons, List.map_nil, List.length_cons, List.length_nil, List.cons_append, List.nil_append, List.append_nil, List.replicate, List.getElem?_cons_zero, List.getElem?_cons_succ, List.set_cons_zero, List.set_cons_succ, Option.some.injEq, List.cons.injEq, and_true, true_and, exists_eq_left', exists_eq_left, exists_eq, exists_eq', D.int.injEq, D.bl.injEq, D.tup.injEq, D.lst.injEq, D.adr.injEq, exists_and_left, and_assoc, exists_and_right, if_true, ite_true, decide_eq_true_eq, exists_eq_right, exists_eq_right', Nat.add_zero, Nat.sub_self, Nat.reduceSub, Nat.reduceAdd, eq_self]
  by_cases c : 0 < y
  · simp only [c, decide_true, if_true]
    have hl := Int.emod_lt_of_pos x c
    have hn := Int.emod_nonneg x (show y ≠ 0 by omega)
    refine .inl ⟨x, rfl, _, rfl, trivial, (x % y).toNat, by omega, y, hy, x % y, hn, ?_, rfl, rfl, rfl, rfl⟩
    rw [← hg]
    exact gI_step hx hy
  · simp only [c, decide_false, Bool.false_eq_true, if_false]
    have e : y = 0 := by omega
    subst e
    have e : gI x 0 = x := by
      show ((Int.gcd x 0 : Nat) : Int) = x
      rw [Int.gcd_zero_right]
      omega
    rw [e] at hg
    rw [hg]
    exact hR
def sp__law_tape : DSp := SP 1 fun ds μ R RX => ∃ (ns : List Int), ds = [.scr ns] ∧ ∀ (p : Addr) (tp : List Int), μ p = none → R (.adr p) (updM μ p (.lst (tp.map D.int)))
theorem sc__law_tape : FnScope ["_law_script", "_law_digits", "_law_cell", "_law_rest", "_law_k"] ["_law_script"] (defScope (top 53)) := ⟨rfl, rfl, rfl, by decide +kernel, rfl, by decide +kernel, by decide +kernel⟩
theorem fn__law_tape {P : Program} {w : World} {K : PySem.W.Frag} {mg : Str → Option Value} {base : Heap} {fd : FuncData} (V : Env K mg) (F : FunD K "_law_tape" "_law_tape" (defArgs (top 53)) (defBody (top 53)) (defScope (top 53)) [] [] (He.ga K "_law_tape") fd)   : FnOk P w K mg base (L2.CX P w) 1 (He.ga K "_law_tape") fd ["_law_script"] (low K sp__law_tape) := by
  refine fn_data F sc__law_tape (fun ds μ R RX h => h.1) (fun cdv A outer s H E RX hr L hW hU => ⟨_, (dss_cons (dst_set (i := 1) sc__law_tape.nd (de_lstM da_nil))
      (dss_cons (dst_for (passes_of rfl) rfl (di_seq (de_slL (dv 0) do_none (do_some de_int))) (dg_name (i := 2) sc__law_tape.nd) (dss_cons (dst_set (i := 3) sc__law_tape.nd (de_callB c_abs V.f_abs (da_cons (dv 2) da_nil)))
      (dss_cons (dst_expr (de_append (dv 1) (de_op o_mod (de_callTy c_int V.f_int (da_cons (dv 3) da_nil)) de_int)))
      (dss_one (dst_for (passes_of rfl) rfl (di_rng1 V.f_range (da_cons de_int da_nil)) (dg_name (i := 4) sc__law_tape.nd) (dss_cons (dst_set (i := 3) sc__law_tape.nd (de_op o_div (dv 3) de_int))
      (dss_one (dst_if (dt_cmp o_gt (dv 3) de_int) (dss_one (dst_expr (de_append (dv 1) (de_op o_mod (de_callTy c_int V.f_int (da_cons (dv 3) da_nil)) de_int)))) dss_nil))))))))
      (dss_one (dst_ret (de_drop (de_revM (dv 1))))))), fun ds μ R h => ?_⟩)
  obtain ⟨-, ns, rfl, hR⟩ := h
  simp only [dDropM, dLc, dFor, dISeq, dIRng1, dIRng2, dIZip, dIEnum, dSeq, dCall, SP, dFldC, dIfS, dAnd, dOr, dNot, dTest, dOp, dUn, dVar, dC, qI, qI0, qU, dNext, dRet, dRetN, dRaise, dCons, dNil, dTup, dLst, dSet, dPar, dAsg, dAug, dDrop, dgName, dgTup, dgNil, dgCons, dAndV, dOrV, dNotV, dIf, dCl, startD, List.map_cons, List.map_nil, List.length_cons, List.length_nil, List.cons_append, List.nil_append, List.append_nil, List.replicate, List.getElem?_cons_zero, List.getElem?_cons_succ, List.set_cons_zero, List.set_cons_succ, Option.some.injEq, List.cons.injEq, and_true, true_and, exists_eq_left', exists_eq_left, exists_eq, exists_eq', D.int.injEq, D.bl.injEq, D.tup.injEq, D.lst.injEq, D.adr.injEq, exists_and_left, and_assoc, exists_and_right, if_true, ite_true, decide_eq_true_eq, exists_eq_right, exists_eq_right', Nat.add_zero, Nat.sub_self, Nat.reduceSub, Nat.reduceAdd, eq_self]
  simp only [dLstM, dNil, dSlL, dVar, dNoPart, dPart, dC, dDropM, dLc, dFor, dISeq, dIRng1, dIRng2, dIZip, dIEnum, dSeq, dCall, SP, dFldC, dIfS, dAnd, dOr, dNot, dTest, dOp, dUn, dVar, dC, qI, qI0, qU, dNext, dRet, dRetN, dRaise, dCons, dNil, dTup, dLst, dSet, dPar, dAsg, dAug, dDrop, dgName, dgTup, dgNil, dgCons, dAndV, dOrV, dNotV, dIf, dCl, startD, List.map_cons, List.map_nil, List.length_cons, List.length_nil, List.cons_append, List.nil_append, List.append_nil, List.replicate, List.getElem?_cons_zero, List.getElem?_cons_succ, List.set_cons_zero, List.set_cons_succ, Option.some.injEq, List.cons.injEq, and_true, true_and, exists_eq_left', exists_eq_left, exists_eq, exists_eq', D.int.injEq, D.bl.injEq, D.tup.injEq, D.lst.injEq, D.adr.injEq, exists_and_left, and_assoc, exists_and_right, if_true, ite_true, decide_eq_true_eq, exists_eq_right, exists_eq_right', Nat.add_zero, Nat.sub_self, Nat.reduceSub, Nat.reduceAdd, eq_self]
  have hsz := sizeLine_eq
  refine ⟨Nat.zero_le _, fun p hp => ?_⟩
  have hc : Nod.cutD (ns.map D.int) none (some 63) = ((ns.drop (HT.sIx ns.length 0 none)).take (HT.sIx ns.length ns.length (some 63) - HT.sIx ns.length 0 none)).map D.int := by
    unfold Nod.cutD
    rw [List.map_take, List.map_drop, List.length_map]
  refine ⟨_, rfl, rfl, _, rfl, ?_⟩
  rw [hc]
  have hl : ((ns.drop (HT.sIx ns.length 0 none)).take (HT.sIx ns.length ns.length (some 63) - HT.sIx ns.length 0 none)).length ≤ 63 := by
    rw [List.length_take]
    refine Nat.le_trans (Nat.min_le_left _ _) ?_
    show min (63 : Int).toNat ns.length - 0 ≤ 63
    omega
  generalize (ns.drop (HT.sIx ns.length 0 none)).take (HT.sIx ns.length ns.length (some 63) - HT.sIx ns.length 0 none) = cs at hl
  refine forG rows_seq (fun done _ Γ' μ' => ∃ (tp : List Int) (o2 o3 o4 : Option D), Γ' = [some (.scr ns), some (.adr p), o2, o3, o4] ∧ μ' = updM μ p (.lst (tp.map D.int)) ∧ tp.length ≤ 14 * done.length) ⟨[], none, none, none, rfl, rfl, Nat.zero_le _⟩ (fun done k rest Γ' μ' hxs hI => ?_) fun Γ' μ' hI => ?_
  · obtain ⟨tp, o2, o3, o4, rfl, rfl, ht⟩ := hI
    have hd : done.length < 63 := by
      have := congrArg List.length hxs
      rw [List.length_append, List.length_cons] at this
      omega
    simp only [dAppend, dDropM, dLc, dFor, dISeq, dIRng1, dIRng2, dIZip, dIEnum, dSeq, dCall, SP, dFldC, dIfS, dAnd, dOr, dNot, dTest, dOp, dUn, dVar, dC, qI, qI0, qU, dNext, dRet, dRetN, dRaise, dCons, dNil, dTup, dLst, dSet, dPar, dAsg, dAug, dDrop, dgName, dgTup, dgNil, dgCons, dAndV, dOrV, dNotV, dIf, dCl, startD, List.map_cons, List.map_nil, List.length_cons, List.length_nil, List.cons_append, List.nil_append, List.append_nil, List.replicate, List.getElem?_cons_zero, List.getElem?_cons_succ, List.set_cons_zero, List.set_cons_succ, Option.some.injEq, List.cons.injEq, and_true, true_and, exists_eq_left', exists_eq_left, exists_eq, exists_eq', D.int.injEq, D.bl.injEq, D.tup.injEq, D.lst.injEq, D.adr.injEq, exists_and_left, and_assoc, exists_and_right, if_true, ite_true, decide_eq_true_eq, exists_eq_right, exists_eq_right', Nat.add_zero, Nat.sub_self, Nat.reduceSub, Nat.reduceAdd, eq_self]
    have hlt : (tp.map D.int).length < sizeLine := by rw [List.length_map, hsz]; omega
    refine ⟨k, rfl, ⟨_, updM_same⟩, .inl ⟨_, rfl, _, rfl, by decide, _, updM_same, hlt, by decide, by decide, ?_⟩⟩
    rw [updM_updM, show (tp.map D.int ++ [D.int ((if k < 0 then -k else k) % 12)]) = (tp ++ [(if k < 0 then -k else k) % 12]).map D.int by rw [List.map_append]; rfl]
    refine forG rows_rng (fun done' _ Γ' μ' => ∃ (tp2 : List Int) (r : Int) (o4 : Option D), Γ' = [some (.scr ns), some (.adr p), some (.int k), some (.int r), o4] ∧ μ' = updM μ p (.lst (tp2.map D.int)) ∧ tp2.length ≤ 14 * done.length + 1 + done'.length) ⟨_, _, _, rfl, rfl, by rw [List.length_append]; simp; omega⟩ (fun done' j rest' Γ' μ' hxs' hI' => ?_) fun Γ' μ' hI' => ?_
    · obtain ⟨tp2, r, o5, rfl, rfl, ht2⟩ := hI'
      have hd' : done'.length < 13 := by
        have := congrArg List.length hxs'
        rw [List.length_range, List.length_append, List.length_cons] at this
        simp only [Int.reduceToNat] at this
        omega
      simp only [dAppend, dDropM, dLc, dFor, dISeq, dIRng1, dIRng2, dIZip, dIEnum, dSeq, dCall, SP, dFldC, dIfS, dAnd, dOr, dNot, dTest, dOp, dUn, dVar, dC, qI, qI0, qU, dNext, dRet, dRetN, dRaise, dCons, dNil, dTup, dLst, dSet, dPar, dAsg, dAug, dDrop, dgName, dgTup, dgNil, dgCons, dAndV, dOrV, dNotV, dIf, dCl, startD, List.map_cons, List.map_nil, List.length_cons, List.length_nil, List.cons_append, List.nil_append, List.append_nil, List.replicate, List.getElem?_cons_zero, List.getElem?_cons_succ, List.set_cons_zero, List.set_cons_succ, Option.some.injEq, List.cons.injEq, and_true, true_and, exists_eq_left', exists_eq_left, exists_eq, exists_eq', D.int.injEq, D.bl.injEq, D.tup.injEq, D.lst.injEq, D.adr.injEq, exists_and_left, and_assoc, exists_and_right, if_true, ite_true, decide_eq_true_eq, exists_eq_right, exists_eq_right', Nat.add_zero, Nat.sub_self, Nat.reduceSub, Nat.reduceAdd, eq_self]
      have hlt2 : (tp2.map D.int).length < sizeLine := by rw [List.length_map, hsz]; omega
      refine ⟨wide_div (b := 4) (by decide) (by decide) (by decide) (by decide), ?_⟩
      split
      · refine ⟨⟨_, updM_same⟩, .inl ⟨_, rfl, _, rfl, by decide, _, updM_same, hlt2, tp2 ++ [r / 12 % 12], by rw [updM_updM, List.map_append]; rfl, by rw [List.length_append, List.length_append]; simp; omega⟩⟩
      · exact ⟨tp2, rfl, by rw [List.length_append]; simp; omega⟩
    · obtain ⟨tp2, r, o5, rfl, rfl, ht2⟩ := hI'
      rw [List.length_range] at ht2
      exact ⟨⟨_, _, _, rfl⟩, tp2, rfl, by rw [List.length_append]; simp at ht2 ⊢; omega⟩
  · obtain ⟨tp, o2, o3, o4, rfl, rfl, ht⟩ := hI
    simp only [dDropM, dLc, dFor, dISeq, dIRng1, dIRng2, dIZip, dIEnum, dSeq, dCall, SP, dFldC, dIfS, dAnd, dOr, dNot, dTest, dOp, dUn, dVar, dC, qI, qI0, qU, dNext, dRet, dRetN, dRaise, dCons, dNil, dTup, dLst, dSet, dPar, dAsg, dAug, dDrop, dgName, dgTup, dgNil, dgCons, dAndV, dOrV, dNotV, dIf, dCl, startD, List.map_cons, List.map_nil, List.length_cons, List.length_nil, List.cons_append, List.nil_append, List.append_nil, List.replicate, List.getElem?_cons_zero, List.getElem?_cons_succ, List.set_cons_zero, List.set_cons_succ, Option.some.injEq, List.cons.injEq, and_true, true_and, exists_eq_left', exists_eq_left, exists_eq, exists_eq', D.int.injEq, D.bl.injEq, D.tup.injEq, D.lst.injEq, D.adr.injEq, exists_and_left, and_assoc, exists_and_right, if_true, ite_true, decide_eq_true_eq, exists_eq_right, exists_eq_right', Nat.add_zero, Nat.sub_self, Nat.reduceSub, Nat.reduceAdd, eq_self, dDropM, dRevM]
    refine ⟨_, seq_adr updM_same, rfl, fun q hq => ?_⟩
    obtain ⟨hne, hq'⟩ := none_upd hq
    refine ⟨p, _, by rw [updM_ne (Ne.symm hne)]; exact updM_same, rfl, ?_⟩
    rw [del_two hp hne, ← List.map_reverse]
    exact hR _ _ hq'
end N67
set_option Elab.async false
set_option linter.all false
set_option maxRecDepth 100000
set_option maxHeartbeats 4000000
set_option exponentiation.threshold 20000
namespace N67
open PySem PySem.Spec PyProof.Rows L2 Nod
def rowPD (p : Int × List Int) : D := .tup [.int p.1, tupI p.2]
def rowD (p : List Int × Int) : D := .tup [tupI p.1, .int p.2]
theorem range_at {n k : Nat} {d r : List Nat} (h : List.range n = d ++ k :: r) : k = d.length ∧ k < n := by
  have h1 : (List.range n)[d.length]? = some k := by rw [h]; simp
  have hl := congrArg List.length h
  rw [List.length_range, List.length_append, List.length_cons] at hl
  rw [List.getElem?_range (by omega)] at h1
  have := Option.some.inj h1
  omega
theorem one_le : 1 ≤ sizeLine := by rw [sizeLine_eq]; decide
theorem four_le : 4 ≤ sizeLine := by rw [sizeLine_eq]; decide
theorem none_tape {μ : Mu} {a b : Addr} {o : MO} (hne : b ≠ a) (hb : μ b = none) : updM μ a o b = none := by rw [updM_ne hne]; exact hb
structure PartsL (t : Int) (ps : List (Int × List Int)) : Prop where
  l1 : 1 ≤ ps.length
  l2 : ps.length ≤ 4
  pos : ∀ q ∈ ps, 0 < q.1
  le : ∀ q ∈ ps, q.1 ≤ 1000
  srt : ∀ q ∈ ps, q.2.Pairwise (· < ·)
  inr : ∀ q ∈ ps, ∀ k ∈ q.2, 0 ≤ k ∧ k < t
structure PartsR (t v : Int) (ps : List (Int × List Int)) : Prop where
  pos : ∀ q ∈ ps, 0 < q.1
  le : ∀ q ∈ ps, q.1 ≤ 144
  le4 : v ≠ 2 → ∀ q ∈ ps, q.1 ≤ 4
  srt : ∀ q ∈ ps, q.2.Pairwise (· < ·)
  inr : ∀ q ∈ ps, ∀ k ∈ q.2, 0 ≤ k ∧ k < t
theorem len_pos_split {α : Type} {xs : List α} (h : 1 ≤ xs.length) : ∃ i x, xs = i ++ [x] := by
  rcases List.eq_nil_or_concat xs with rfl | ⟨i, x, rfl⟩
  · exact absurd h (by simp)
  · exact ⟨i, x, by rw [List.concat_eq_append]⟩
theorem cut_init (xs : List D) (y : D) : Nod.cutD (xs ++ [y]) none (some (-1)) = xs := by
  unfold Nod.cutD
  have e1 : HT.sIx (xs ++ [y]).length (xs ++ [y]).length (some (-1)) = xs.length := by
    show (((-1 : Int) + ((xs ++ [y]).length : Int))).toNat = _
    rw [List.length_append, List.length_singleton]; omega
  have e2 : HT.sIx (xs ++ [y]).length 0 none = 0 := rfl
  rw [e1, e2, List.drop_zero, Nat.sub_zero, List.take_left']
  rfl
theorem at_last (xs : List D) (y : D) : atI (xs ++ [y]) (-1) = some y := by
  unfold atI ixN
  rw [if_neg (by decide), if_pos (by rw [List.length_append, List.length_singleton]; omega), List.length_append, List.length_singleton]
  show (xs ++ [y])[((-1 : Int) + ((xs.length + 1 : Nat) : Int)).toNat]? = _
  rw [show ((-1 : Int) + ((xs.length + 1 : Nat) : Int)).toNat = xs.length by omega]
  simp
theorem ix_last (xs : List D) (y : D) : ixN (xs ++ [y]).length (-1) = some xs.length := by
  unfold ixN
  rw [if_neg (by decide), if_pos (by rw [List.length_append, List.length_singleton]; omega), List.length_append, List.length_singleton]
  congr 1
  omega
theorem sum_bd {B : Int} : ∀ qs : List (Int × List Int), (∀ q ∈ qs, 0 < q.1 ∧ q.1 ≤ B) → 0 ≤ (qs.map (·.1)).sum ∧ (qs.map (·.1)).sum ≤ qs.length * B := by
  intro qs
  induction qs with
  | nil => intro _; simp
  | cons q r ih =>
    intro h
    rw [List.map_cons, List.sum_cons, List.length_cons]
    have h1 := ih fun q hq => h q (List.mem_cons_of_mem _ hq)
    have h2 := h q (List.mem_cons_self ..)
    have : ((r.length + 1 : Nat) : Int) * B = r.length * B + B := by rw [Int.natCast_add, Int.add_mul]; simp
    omega
def sp__law_parts : DSp := SP 2 fun ds μ R RX => ∃ (a : Addr) (t : Int) (tp : List Int), ds = [.adr a, .int t] ∧ μ a = some (.lst (tp.map D.int)) ∧ 0 ≤ t ∧ t ≤ 10 ∧ ∀ (ps : List (Int × List Int)) (tp' : List Int), PartsL t ps → R (.lst (ps.map rowPD)) (updM μ a (.lst (tp'.map D.int)))
theorem sc__law_parts : FnScope ["_law_tape_here", "_law_things_here", "_law_mode", "_law_parts_here", "_law_k", "_law_lot", "_law_thing", "_law_weight", "_law_rest", "_law_aim"] ["_law_tape_here", "_law_things_here"] (defScope (top 60)) := ⟨rfl, rfl, rfl, by decide +kernel, rfl, by decide +kernel, by decide +kernel⟩
theorem fn__law_parts {P : Program} {w : World} {K : PySem.W.Frag} {mg : Str → Option Value} {base : Heap} {fd : FuncData} (V : Env K mg) (F : FunD K "_law_parts" "_law_parts" (defArgs (top 60)) (defBody (top 60)) (defScope (top 60)) [] [] (He.ga K "_law_parts") fd)  (D__law_take : DFn P w K mg base 1 (He.ga K "_law_take") ["_law_tape_here", "_law_many"] [] sp__law_take) (D__law_number : DFn P w K mg base 2 (He.ga K "_law_number") ["_law_tape_here", "_law_count"] [] sp__law_number) : FnOk P w K mg base (L2.CX P w) 3 (He.ga K "_law_parts") fd ["_law_tape_here", "_law_things_here"] (low K sp__law_parts) := by
  refine fn_data F sc__law_parts (fun ds μ R RX h => h.1) (fun cdv A outer s H E RX hr L hW hU => ⟨_, (dss_cons (dst_set (i := 2) sc__law_parts.nd (de_call D__law_take (hr.mono (by decide)) V.g__law_take (da_cons (dv 0) (da_cons de_int da_nil))))
      (dss_cons (dst_set (i := 3) sc__law_parts.nd (de_lstM da_nil))
      (dss_cons (dst_for (passes_of rfl) rfl (di_rng1 V.f_range (da_cons (de_ix o_ix (de_lst (da_cons de_int (da_cons de_int (da_cons de_int (da_cons de_int da_nil))))) (de_call D__law_take (hr.mono (by decide)) V.g__law_take (da_cons (dv 0) (da_cons de_int da_nil)))) da_nil)) (dg_name (i := 4) sc__law_parts.nd) (dss_cons (dst_set (i := 5) sc__law_parts.nd (de_tup da_nil))
      (dss_cons (dst_for (passes_of rfl) rfl (di_rng1 V.f_range (da_cons (dv 1) da_nil)) (dg_name (i := 6) sc__law_parts.nd) (dss_one (dst_if (dt_cmp o_ne (de_op o_mod (de_callTy c_int V.f_int (da_cons (de_op o_add (de_op o_add (de_call D__law_take (hr.mono (by decide)) V.g__law_take (da_cons (dv 0) (da_cons de_int da_nil))) (dv 4)) (dv 6)) da_nil)) de_int) de_int) (dss_one (dst_set (i := 5) sc__law_parts.nd (de_op o_catT (dv 5) (de_tup (da_cons (dv 6) da_nil))))) dss_nil)))
      (dss_cons (dst_set (i := 7) sc__law_parts.nd (de_op o_add de_int (de_op o_mod (de_callTy c_int V.f_int (da_cons (de_op o_add (de_call D__law_take (hr.mono (by decide)) V.g__law_take (da_cons (dv 0) (da_cons de_int da_nil))) (dv 4)) da_nil)) de_int)))
      (dss_cons (dst_if (dt_cmp o_eq (dv 2) de_int) (dss_one (dst_set (i := 7) sc__law_parts.nd (de_op o_add de_int (de_call D__law_number (hr.mono (by decide)) V.g__law_number (da_cons (dv 0) (da_cons de_int da_nil)))))) dss_nil)
      (dss_one (dst_expr (de_append (dv 3) (de_tup (da_cons (dv 7) (da_cons (dv 5) da_nil)))))))))))
      (dss_cons (dst_if (dt_cmp o_eq (dv 2) de_int) (dss_cons (dst_set (i := 8) sc__law_parts.nd (de_callB (c_sum rfl) V.f_sum (da_cons (de_lc [("_law_weight", 7), ("_law_lot", 5)] (g := (gTup K 2 (gCons (gName 7) (gCons (gName 5) gNil)))) rfl sc__law_parts.nd (di_seq (de_slL (dv 3) do_none (do_some (de_un o_neg de_int)))) (blkOk_by rfl) (fun _ _ _ _ _ => (dgo_tup (n := 2) rfl (dgos_cons (dgo_name (i := 7) sc__law_parts.nd) (dgos_cons (dgo_name (i := 5) sc__law_parts.nd) dgos_nil)))) (fun _ _ _ _ _ => dts_nil) (fun _ _ _ _ _ => (dv 7))) da_nil)))
      (dss_cons (dst_set (i := 9) sc__law_parts.nd (de_op o_mul (de_ix o_ix (de_lst (da_cons de_int (da_cons de_int (da_cons de_int (da_cons de_int da_nil))))) (de_call D__law_take (hr.mono (by decide)) V.g__law_take (da_cons (dv 0) (da_cons de_int da_nil)))) (de_op o_add de_int (de_call D__law_take (hr.mono (by decide)) V.g__law_take (da_cons (dv 0) (da_cons de_int da_nil))))))
      (dss_one (dst_ixS (dv 3) (de_un o_neg de_int) (de_tup (da_cons (de_op o_sub (dv 9) (dv 8)) (da_cons (de_ix o_ix (de_ix o_ix (dv 3) (de_un o_neg de_int)) de_int) da_nil))))))) dss_nil)
      (dss_one (dst_ret (de_com (dv 3)))))))), fun ds μ R h => ?_⟩)
  obtain ⟨-, a, t, tp, rfl, hm, h0, h1, hR⟩ := h
  simp only [dDropM, dLc, dFor, dISeq, dIRng1, dIRng2, dIZip, dIEnum, dSeq, dCall, SP, dFldC, dIfS, dAnd, dOr, dNot, dTest, dOp, dUn, dVar, dC, qI, qI0, qU, dNext, dRet, dRetN, dRaise, dCons, dNil, dTup, dLst, dSet, dPar, dAsg, dAug, dDrop, dgName, dgTup, dgNil, dgCons, dAndV, dOrV, dNotV, dIf, dCl, startD, List.map_cons, List.map_nil, List.length_cons, List.length_nil, List.cons_append, List.nil_append, List.append_nil, List.replicate, List.getElem?_cons_zero, List.getElem?_cons_succ, List.set_cons_zero, List.set_cons_succ, Option.some.injEq, List.cons.injEq, and_true, true_and, exists_eq_left', exists_eq_left, exists_eq, exists_eq', D.int.injEq, D.bl.injEq, D.tup.injEq, D.lst.injEq, D.adr.injEq, exists_and_left, and_assoc, exists_and_right, if_true, ite_true, decide_eq_true_eq, exists_eq_right, exists_eq_right', Nat.add_zero, Nat.sub_self, Nat.reduceSub, Nat.reduceAdd, eq_self]
  refine ⟨rfl, a, 4, tp, rfl, hm, by decide, fun v tp1 hv0 hv1 => ?_⟩
  simp only [dLstM, dNil, dDropM, dLc, dFor, dISeq, dIRng1, dIRng2, dIZip, dIEnum, dSeq, dCall, SP, dFldC, dIfS, dAnd, dOr, dNot, dTest, dOp, dUn, dVar, dC, qI, qI0, qU, dNext, dRet, dRetN, dRaise, dCons, dNil, dTup, dLst, dSet, dPar, dAsg, dAug, dDrop, dgName, dgTup, dgNil, dgCons, dAndV, dOrV, dNotV, dIf, dCl, startD, List.map_cons, List.map_nil, List.length_cons, List.length_nil, List.cons_append, List.nil_append, List.append_nil, List.replicate, List.getElem?_cons_zero, List.getElem?_cons_succ, List.set_cons_zero, List.set_cons_succ, Option.some.injEq, List.cons.injEq, and_true, true_and, exists_eq_left', exists_eq_left, exists_eq, exists_eq', D.int.injEq, D.bl.injEq, D.tup.injEq, D.lst.injEq, D.adr.injEq, exists_and_left, and_assoc, exists_and_right, if_true, ite_true, decide_eq_true_eq, exists_eq_right, exists_eq_right', Nat.add_zero, Nat.sub_self, Nat.reduceSub, Nat.reduceAdd, eq_self]
  refine ⟨Nat.zero_le _, fun b hb => ⟨four_le, rfl, a, 4, tp1, rfl, ?_, by decide, fun u tp2 hu0 hu1 => ?_⟩⟩
  · have hne : b ≠ a := (none_upd hb).1
    rw [updM_ne (Ne.symm hne)]; exact updM_same
  obtain ⟨hne, hb'⟩ := none_upd hb
  have e3 : ∀ (x z : List D) (y : List D), updM (updM (updM μ a (.lst x)) b (.lst y)) a (.lst z) = updM (updM μ a (.lst z)) b (.lst y) := fun x z y => by
    rw [updM_comm (Ne.symm hne), updM_updM, updM_comm hne]
  have hj : ∃ j, atI [D.int 3, D.int 2, D.int 4, D.int 1] u = some (.int j) ∧ 1 ≤ j ∧ j ≤ 4 := by
    rcases (show u = 0 ∨ u = 1 ∨ u = 2 ∨ u = 3 by omega) with rfl | rfl | rfl | rfl <;> exact ⟨_, rfl, by decide, by decide⟩
  obtain ⟨j, hj, hj1, hj4⟩ := hj
  show qIx (D.lst [D.int 3, D.int 2, D.int 4, D.int 1]) (.int u) _ _
  refine ix_ok rfl hj ⟨j, rfl, by omega, by omega, ?_⟩
  rw [e3]
  refine forG rows_rng (fun done _ Γ' μ' => ∃ (tp' : List Int) (ps : List (Int × List Int)) (o4 o5 o6 o7 : Option D), Γ' = [some (.adr a), some (.int t), some (.int v), some (.adr b), o4, o5, o6, o7, none, none] ∧ μ' = updM (updM μ a (.lst (tp'.map D.int))) b (.lst (ps.map rowPD)) ∧ ps.length = done.length ∧ PartsR t v ps) ⟨_, [], none, none, none, none, rfl, rfl, rfl, ⟨(fun q h => nomatch h), (fun q h => nomatch h), (fun _ q h => nomatch h), (fun q h => nomatch h), (fun q h => nomatch h)⟩⟩ (fun done k rest Γ' μ' hxs hI => ?_) fun Γ' μ' hI => ?_
  · obtain ⟨tp', ps, o4, o5, o6, o7, rfl, rfl, hl, G⟩ := hI
    have hd : done.length < 4 := by
      have := congrArg List.length hxs
      rw [List.length_range, List.length_append, List.length_cons] at this
      omega
    simp only [dDropM, dLc, dFor, dISeq, dIRng1, dIRng2, dIZip, dIEnum, dSeq, dCall, SP, dFldC, dIfS, dAnd, dOr, dNot, dTest, dOp, dUn, dVar, dC, qI, qI0, qU, dNext, dRet, dRetN, dRaise, dCons, dNil, dTup, dLst, dSet, dPar, dAsg, dAug, dDrop, dgName, dgTup, dgNil, dgCons, dAndV, dOrV, dNotV, dIf, dCl, startD, List.map_cons, List.map_nil, List.length_cons, List.length_nil, List.cons_append, List.nil_append, List.append_nil, List.replicate, List.getElem?_cons_zero, List.getElem?_cons_succ, List.set_cons_zero, List.set_cons_succ, Option.some.injEq, List.cons.injEq, and_true, true_and, exists_eq_left', exists_eq_left, exists_eq, exists_eq', D.int.injEq, D.bl.injEq, D.tup.injEq, D.lst.injEq, D.adr.injEq, exists_and_left, and_assoc, exists_and_right, if_true, ite_true, decide_eq_true_eq, exists_eq_right, exists_eq_right', Nat.add_zero, Nat.sub_self, Nat.reduceSub, Nat.reduceAdd, eq_self]
    refine ⟨Nat.zero_le _, by omega, by omega, forG rows_rng (fun done' _ Γ' μ' => ∃ (tp2 : List Int) (lot : List Int) (o6 : Option D), Γ' = [some (.adr a), some (.int t), some (.int v), some (.adr b), some (.int k), some (tupI lot), o6, o7, none, none] ∧ μ' = updM (updM μ a (.lst (tp2.map D.int))) b (.lst (ps.map rowPD)) ∧ lot.length ≤ done'.length ∧ lot.Pairwise (· < ·) ∧ ∀ i ∈ lot, 0 ≤ i ∧ i < done'.length) ⟨_, [], _, rfl, rfl, Nat.le_refl _, .nil, (fun i h => nomatch h)⟩ (fun done' q rest' Γ' μ' hxs' hI' => ?_) fun Γ' μ' hI' => ?_⟩
    · obtain ⟨tp3, lot, o6', rfl, rfl, hl', hp, hi⟩ := hI'
      simp only [dDropM, dLc, dFor, dISeq, dIRng1, dIRng2, dIZip, dIEnum, dSeq, dCall, SP, dFldC, dIfS, dAnd, dOr, dNot, dTest, dOp, dUn, dVar, dC, qI, qI0, qU, dNext, dRet, dRetN, dRaise, dCons, dNil, dTup, dLst, dSet, dPar, dAsg, dAug, dDrop, dgName, dgTup, dgNil, dgCons, dAndV, dOrV, dNotV, dIf, dCl, startD, List.map_cons, List.map_nil, List.length_cons, List.length_nil, List.cons_append, List.nil_append, List.append_nil, List.replicate, List.getElem?_cons_zero, List.getElem?_cons_succ, List.set_cons_zero, List.set_cons_succ, Option.some.injEq, List.cons.injEq, and_true, true_and, exists_eq_left', exists_eq_left, exists_eq, exists_eq', D.int.injEq, D.bl.injEq, D.tup.injEq, D.lst.injEq, D.adr.injEq, exists_and_left, and_assoc, exists_and_right, if_true, ite_true, decide_eq_true_eq, exists_eq_right, exists_eq_right', Nat.add_zero, Nat.sub_self, Nat.reduceSub, Nat.reduceAdd, eq_self]
      obtain ⟨hq1, hq2⟩ := range_at hxs'
      refine ⟨rfl, a, 2, tp3, rfl, by rw [updM_ne (Ne.symm hne)]; exact updM_same, by decide, fun x tp4 hx0 hx1 => ?_⟩
      refine ⟨x, rfl, .inl ⟨_, rfl, _, rfl, by decide, ?_⟩⟩
      rw [e3]
      split
      · refine ⟨one_le, _, _, rfl, rfl, by have := sizeLine_eq; rw [List.length_map]; simp only [List.length_singleton]; omega, tp4, lot ++ [(q : Int)], ?_, rfl, ?_, ?_, ?_⟩
        · unfold tupI; rw [List.map_append]; rfl
        · rw [List.length_append, List.length_append]; simp; exact hl'
        · refine List.pairwise_append.mpr ⟨hp, List.pairwise_singleton .., fun i1 h1 i2 h2 => ?_⟩
          rw [List.mem_singleton] at h2
          have := hi i1 h1
          omega
        · intro i1 h1
          rw [List.length_append, List.length_singleton]
          rcases List.mem_append.mp h1 with h1 | h1
          · have := hi i1 h1; omega
          · rw [List.mem_singleton] at h1; omega
      · refine ⟨tp4, lot, rfl, rfl, by rw [List.length_append]; omega, hp, fun i1 h1 => ?_⟩
        rw [List.length_append]
        have := hi i1 h1
        omega
    · obtain ⟨tp3, lot, o6', rfl, rfl, hl', hp, hi⟩ := hI'
      simp only [dDropM, dLc, dFor, dISeq, dIRng1, dIRng2, dIZip, dIEnum, dSeq, dCall, SP, dFldC, dIfS, dAnd, dOr, dNot, dTest, dOp, dUn, dVar, dC, qI, qI0, qU, dNext, dRet, dRetN, dRaise, dCons, dNil, dTup, dLst, dSet, dPar, dAsg, dAug, dDrop, dgName, dgTup, dgNil, dgCons, dAndV, dOrV, dNotV, dIf, dCl, startD, List.map_cons, List.map_nil, List.length_cons, List.length_nil, List.cons_append, List.nil_append, List.append_nil, List.replicate, List.getElem?_cons_zero, List.getElem?_cons_succ, List.set_cons_zero, List.set_cons_succ, Option.some.injEq, List.cons.injEq, and_true, true_and, exists_eq_left', exists_eq_left, exists_eq, exists_eq', D.int.injEq, D.bl.injEq, D.tup.injEq, D.lst.injEq, D.adr.injEq, exists_and_left, and_assoc, exists_and_right, if_true, ite_true, decide_eq_true_eq, exists_eq_right, exists_eq_right', Nat.add_zero, Nat.sub_self, Nat.reduceSub, Nat.reduceAdd, eq_self]
      rw [List.length_range] at hi hl'
      have fin : ∀ (w : Int) (tp5 : List Int), 0 < w → w ≤ 144 → (v ≠ 2 → w ≤ 4) → dAppend (dVar 3) (dTup (dCons (dVar 7) (dCons (dVar 5) dNil))) [some (.adr a), some (.int t), some (.int v), some (.adr b), some (.int k), some (tupI lot), o6', some (.int w), none, none]
          (updM (updM μ a (.lst (tp5.map D.int))) b (.lst (ps.map rowPD))) fun x μ1 => ∃ (tp6 : List Int) (ps' : List (Int × List Int)), μ1 = updM (updM μ a (.lst (tp6.map D.int))) b (.lst (ps'.map rowPD)) ∧ ps'.length = (done ++ [k]).length ∧ PartsR t v ps' := fun w tp5 w0 w1 w4 => by
        simp only [dAppend, dDropM, dLc, dFor, dISeq, dIRng1, dIRng2, dIZip, dIEnum, dSeq, dCall, SP, dFldC, dIfS, dAnd, dOr, dNot, dTest, dOp, dUn, dVar, dC, qI, qI0, qU, dNext, dRet, dRetN, dRaise, dCons, dNil, dTup, dLst, dSet, dPar, dAsg, dAug, dDrop, dgName, dgTup, dgNil, dgCons, dAndV, dOrV, dNotV, dIf, dCl, startD, List.map_cons, List.map_nil, List.length_cons, List.length_nil, List.cons_append, List.nil_append, List.append_nil, List.replicate, List.getElem?_cons_zero, List.getElem?_cons_succ, List.set_cons_zero, List.set_cons_succ, Option.some.injEq, List.cons.injEq, and_true, true_and, exists_eq_left', exists_eq_left, exists_eq, exists_eq', D.int.injEq, D.bl.injEq, D.tup.injEq, D.lst.injEq, D.adr.injEq, exists_and_left, and_assoc, exists_and_right, if_true, ite_true, decide_eq_true_eq, exists_eq_right, exists_eq_right', Nat.add_zero, Nat.sub_self, Nat.reduceSub, Nat.reduceAdd, eq_self]
        refine ⟨⟨_, updM_same⟩, two_le, _, updM_same, by have := sizeLine_eq; rw [List.length_map]; omega, tp5, ps ++ [(w, lot)], by rw [updM_updM, List.map_append]; rfl, by rw [List.length_append, List.length_append, hl]; rfl, ?_⟩
        have all : ∀ {p : Int × List Int → Prop}, (∀ q ∈ ps, p q) → p (w, lot) → ∀ q ∈ ps ++ [(w, lot)], p q := fun h1 h2 q hq => by
          rcases List.mem_append.mp hq with hq | hq
          · exact h1 q hq
          · rw [List.mem_singleton] at hq; exact hq ▸ h2
        exact ⟨all G.pos w0, all G.le w1, fun hv => all (G.le4 hv) (w4 hv), all G.srt hp, all G.inr fun i1 h1 => by have := hi i1 h1; omega⟩
      refine ⟨rfl, a, 4, tp3, rfl, by rw [updM_ne (Ne.symm hne)]; exact updM_same, by decide, fun x tp4 hx0 hx1 => ?_⟩
      refine ⟨x, rfl, .inl ⟨_, rfl, _, rfl, by decide, ?_⟩⟩
      rw [e3]
      have w0 := Int.emod_nonneg (x + k) (show (4 : Int) ≠ 0 by decide)
      have w1 := Int.emod_lt_of_pos (x + k) (show (0 : Int) < 4 by decide)
      split
      · rename_i hv
        refine ⟨rfl, a, 2, tp4, rfl, by rw [updM_ne (Ne.symm hne)]; exact updM_same, by decide, by decide, fun z tp6 hz0 hz1 => ?_⟩
        refine ⟨z, rfl, ?_⟩
        rw [e3]
        have hz1 : z < 144 := hz1
        exact fin _ _ (by omega) (by omega) fun z => absurd hv z
      · exact fin _ _ (by omega) (by omega) fun _ => by omega
  · obtain ⟨tp', ps, o4, o5, o6, o7, rfl, rfl, hl, G⟩ := hI
    rw [List.length_range] at hl
    obtain ⟨ini, la, rfl⟩ := len_pos_split (xs := ps) (by omega)
    simp only [dDropM, dLc, dFor, dISeq, dIRng1, dIRng2, dIZip, dIEnum, dSeq, dCall, SP, dFldC, dIfS, dAnd, dOr, dNot, dTest, dOp, dUn, dVar, dC, qI, qI0, qU, dNext, dRet, dRetN, dRaise, dCons, dNil, dTup, dLst, dSet, dPar, dAsg, dAug, dDrop, dgName, dgTup, dgNil, dgCons, dAndV, dOrV, dNotV, dIf, dCl, startD, List.map_cons, List.map_nil, List.length_cons, List.length_nil, List.cons_append, List.nil_append, List.append_nil, List.replicate, List.getElem?_cons_zero, List.getElem?_cons_succ, List.set_cons_zero, List.set_cons_succ, Option.some.injEq, List.cons.injEq, and_true, true_and, exists_eq_left', exists_eq_left, exists_eq, exists_eq', D.int.injEq, D.bl.injEq, D.tup.injEq, D.lst.injEq, D.adr.injEq, exists_and_left, and_assoc, exists_and_right, if_true, ite_true, decide_eq_true_eq, exists_eq_right, exists_eq_right', Nat.add_zero, Nat.sub_self, Nat.reduceSub, Nat.reduceAdd, eq_self, dCom]
    have hlen : ini.length + 1 = j.toNat := by rw [← hl]; simp
    have fin : ∀ (ps : List (Int × List Int)) (tp' : List Int), PartsL t ps → ∃ ds, updM (updM μ a (MO.lst (tp'.map D.int))) b (MO.lst (ps.map rowPD)) b = some (MO.lst ds) ∧ R (D.lst ds) (delM (updM (updM μ a (MO.lst (tp'.map D.int))) b (MO.lst (ps.map rowPD))) b) := fun ps tp' h => by
      refine ⟨_, updM_same, ?_⟩
      rw [delM_updM (none_tape hne hb')]
      exact hR _ _ h
    split
    · rename_i hv
      have hv2 : v ≠ 2 := by omega
      simp only [dSlL, dNoPart, dPart, dIxS, dDropM, dLc, dFor, dISeq, dIRng1, dIRng2, dIZip, dIEnum, dSeq, dCall, SP, dFldC, dIfS, dAnd, dOr, dNot, dTest, dOp, dUn, dVar, dC, qI, qI0, qU, dNext, dRet, dRetN, dRaise, dCons, dNil, dTup, dLst, dSet, dPar, dAsg, dAug, dDrop, dgName, dgTup, dgNil, dgCons, dAndV, dOrV, dNotV, dIf, dCl, startD, List.map_cons, List.map_nil, List.length_cons, List.length_nil, List.cons_append, List.nil_append, List.append_nil, List.replicate, List.getElem?_cons_zero, List.getElem?_cons_succ, List.set_cons_zero, List.set_cons_succ, Option.some.injEq, List.cons.injEq, and_true, true_and, exists_eq_left', exists_eq_left, exists_eq, exists_eq', D.int.injEq, D.bl.injEq, D.tup.injEq, D.lst.injEq, D.adr.injEq, exists_and_left, and_assoc, exists_and_right, if_true, ite_true, decide_eq_true_eq, exists_eq_right, exists_eq_right', Nat.add_zero, Nat.sub_self, Nat.reduceSub, Nat.reduceAdd, eq_self]
      refine ⟨_, seq_adr updM_same, rfl, ?_⟩
      rw [List.map_append, List.map_cons, List.map_nil, cut_init]
      refine ⟨_, rfl, lcG (xs := ini) rows_seq (fun _ => true) (fun q => .int q.1) (by have := sizeLine_eq; omega) (fun q hq Q Q' hQ hQ' => ?_) ?_⟩
      · simp only [dDropM, dLc, dFor, dISeq, dIRng1, dIRng2, dIZip, dIEnum, dSeq, dCall, SP, dFldC, dIfS, dAnd, dOr, dNot, dTest, dOp, dUn, dVar, dC, qI, qI0, qU, dNext, dRet, dRetN, dRaise, dCons, dNil, dTup, dLst, dSet, dPar, dAsg, dAug, dDrop, dgName, dgTup, dgNil, dgCons, dAndV, dOrV, dNotV, dIf, dCl, startD, List.map_cons, List.map_nil, List.length_cons, List.length_nil, List.cons_append, List.nil_append, List.append_nil, List.replicate, List.getElem?_cons_zero, List.getElem?_cons_succ, List.set_cons_zero, List.set_cons_succ, Option.some.injEq, List.cons.injEq, and_true, true_and, exists_eq_left', exists_eq_left, exists_eq, exists_eq', D.int.injEq, D.bl.injEq, D.tup.injEq, D.lst.injEq, D.adr.injEq, exists_and_left, and_assoc, exists_and_right, if_true, ite_true, decide_eq_true_eq, exists_eq_right, exists_eq_right', Nat.add_zero, Nat.sub_self, Nat.reduceSub, Nat.reduceAdd, eq_self, dYes, rowPD, wipeD]
        exact hQ rfl
      rw [filter_tt]
      have hbd := sum_bd (B := 4) ini fun q hq => ⟨G.pos q (List.mem_append_left _ hq), G.le4 hv2 q (List.mem_append_left _ hq)⟩
      refine ⟨_, ini.map (·.1), rfl, by rw [List.map_map]; rfl, four_le, rfl, a, 4, tp', rfl, by rw [updM_ne (Ne.symm hne)]; exact updM_same, by decide, fun y tp4 hy0 hy1 => ?_⟩
      rw [e3]
      have hg : ∃ g, atI [D.int 400, D.int 401, D.int 399, D.int 402] y = some (.int g) ∧ 399 ≤ g ∧ g ≤ 402 := by
        rcases (show y = 0 ∨ y = 1 ∨ y = 2 ∨ y = 3 by omega) with rfl | rfl | rfl | rfl <;> exact ⟨_, rfl, by decide, by decide⟩
      obtain ⟨g, hg, hg0, hg1⟩ := hg
      show qIx (D.lst [D.int 400, D.int 401, D.int 399, D.int 402]) (.int y) _ _
      refine ix_ok rfl hg ⟨rfl, a, 2, tp4, rfl, by rw [updM_ne (Ne.symm hne)]; exact updM_same, by decide, fun z tp5 hz0 hz1 => ?_⟩
      rw [e3]
      have hq : g * (1 + z) = g ∨ g * (1 + z) = 2 * g := by
        rcases (show z = 0 ∨ z = 1 by omega) with rfl | rfl
        · left; omega
        · right; omega
      refine ⟨z, rfl, g, rfl, wide_mul (a := 10) (b := 2) (by omega) (by omega) (by decide) (by decide) (by decide), _, rfl, ?_⟩
      generalize g * (1 + z) = aim at hq ⊢
      refine ix_ok (seq_adr updM_same) (at_last _ _) (ix_ok rfl rfl ⟨two_le, _, updM_same, _, ix_last _ _, ?_⟩)
      have e4 : ((ini.map rowPD ++ [rowPD la]).set (ini.map rowPD).length (D.tup [D.int (aim - (ini.map (·.1)).sum), tupI la.2])) = (ini ++ [(aim - (ini.map (·.1)).sum, la.2)]).map rowPD := by
        rw [List.map_append, List.set_append_right _ _ (Nat.le_refl _), Nat.sub_self]
        rfl
      rw [updM_updM]
      rw [e4]
      simp only [dCom, dDropM, dLc, dFor, dISeq, dIRng1, dIRng2, dIZip, dIEnum, dSeq, dCall, SP, dFldC, dIfS, dAnd, dOr, dNot, dTest, dOp, dUn, dVar, dC, qI, qI0, qU, dNext, dRet, dRetN, dRaise, dCons, dNil, dTup, dLst, dSet, dPar, dAsg, dAug, dDrop, dgName, dgTup, dgNil, dgCons, dAndV, dOrV, dNotV, dIf, dCl, startD, List.map_cons, List.map_nil, List.length_cons, List.length_nil, List.cons_append, List.nil_append, List.append_nil, List.replicate, List.getElem?_cons_zero, List.getElem?_cons_succ, List.set_cons_zero, List.set_cons_succ, Option.some.injEq, List.cons.injEq, and_true, true_and, exists_eq_left', exists_eq_left, exists_eq, exists_eq', D.int.injEq, D.bl.injEq, D.tup.injEq, D.lst.injEq, D.adr.injEq, exists_and_left, and_assoc, exists_and_right, if_true, ite_true, decide_eq_true_eq, exists_eq_right, exists_eq_right', Nat.add_zero, Nat.sub_self, Nat.reduceSub, Nat.reduceAdd, eq_self]
      refine fin _ _ ?_
      have all : ∀ {p : Int × List Int → Prop}, (∀ q ∈ ini, p q) → p (aim - (ini.map (·.1)).sum, la.2) → ∀ q ∈ ini ++ [(aim - (ini.map (·.1)).sum, la.2)], p q := fun h1 h2 q hq => by
        rcases List.mem_append.mp hq with hq | hq
        · exact h1 q hq
        · rw [List.mem_singleton] at hq; exact hq ▸ h2
      have hi3 : (ini.length : Int) ≤ 3 := by omega
      refine ⟨by rw [List.length_append]; simp, by rw [List.length_append]; simp; omega, all (fun q hq => G.pos q (List.mem_append_left _ hq)) (show 0 < aim - (ini.map (·.1)).sum by omega), all (fun q hq => Int.le_trans (G.le q (List.mem_append_left _ hq)) (by decide)) (show aim - (ini.map (·.1)).sum ≤ 1000 by omega),
        all (fun q hq => G.srt q (List.mem_append_left _ hq)) (G.srt la (by simp)), all (fun q hq => G.inr q (List.mem_append_left _ hq)) (G.inr la (by simp))⟩
    · refine fin _ _ ⟨by rw [List.length_append]; simp, by rw [List.length_append]; simp; omega, G.pos, fun q hq => Int.le_trans (G.le q hq) (by decide), G.srt, G.inr⟩
def addU (ls : List (List Int)) (l : List Int) : List (List Int) := if l ∈ ls then ls else ls ++ [l]
def lotsU (ps : List (Int × List Int)) : List (List Int) := ps.foldl (fun ls p => addU ls p.2) []
def lotsS (ps : List (Int × List Int)) : List (List Int) := sortLen (lotsU ps)
def sumL (ps : List (Int × List Int)) (l : List Int) : Int := ((ps.filter fun p => decide (p.2 = l)).map (·.1)).sum
def divL (ps : List (Int × List Int)) : Int := ((lotsS ps).map (sumL ps)).foldl gI 0
def rowsL (ps : List (Int × List Int)) : List (List Int × Int) := (lotsS ps).map fun l => (l, sumL ps l / divL ps)
theorem len_lotsU (ps : List (Int × List Int)) : ∀ ls, (ps.foldl (fun ls p => addU ls p.2) ls).length ≤ ls.length + ps.length := by
  induction ps with
  | nil => intro ls; exact Nat.le_refl _
  | cons p r ih =>
    intro ls
    have h := ih (addU ls p.2)
    have h2 : (addU ls p.2).length ≤ ls.length + 1 := by
      unfold addU
      split
      · omega
      · rw [List.length_append]; simp
    rw [List.foldl_cons, List.length_cons]
    omega
theorem sumL_nonneg {ps : List (Int × List Int)} (h : ∀ q ∈ ps, 0 < q.1) (l : List Int) : 0 ≤ sumL ps l := by
  unfold sumL
  have : ∀ qs : List (Int × List Int), (∀ q ∈ qs, 0 < q.1) → 0 ≤ (qs.map (·.1)).sum := by
    intro qs
    induction qs with
    | nil => intro _; exact Int.le_refl _
    | cons q r ih =>
      intro h
      rw [List.map_cons, List.sum_cons]
      have h1 := ih fun q hq => h q (List.mem_cons_of_mem _ hq)
      have h2 := h q (List.mem_cons_self ..)
      omega
  exact this _ fun q hq => h q (List.mem_filter.mp hq).1
theorem fold_gI_dvd {l : List Int} : ∀ {a : Int}, l.foldl gI a ∣ a ∧ ∀ x ∈ l, l.foldl gI a ∣ x := by
  induction l with
  | nil => exact fun {a} => ⟨Int.dvd_refl _, (fun x h => nomatch h)⟩
  | cons y r ih =>
    intro a
    obtain ⟨h1, h2⟩ := ih (a := gI a y)
    refine ⟨Int.dvd_trans h1 (Int.gcd_dvd_left a y), fun x hx => ?_⟩
    rcases List.mem_cons.mp hx with rfl | hx
    · exact Int.dvd_trans h1 (Int.gcd_dvd_right a x)
    · exact h2 x hx
theorem mem_addU {ls : List (List Int)} {l k : List Int} : k ∈ addU ls l ↔ k ∈ ls ∨ k = l := by
  unfold addU
  split
  · rename_i c
    constructor
    · exact .inl
    · rintro (h | rfl)
      · exact h
      · exact c
  · rw [List.mem_append, List.mem_singleton]
theorem mem_foldU {ps : List (Int × List Int)} {k : List Int} : ∀ {ls : List (List Int)}, k ∈ ps.foldl (fun ls p => addU ls p.2) ls ↔ k ∈ ls ∨ ∃ q ∈ ps, q.2 = k := by
  induction ps with
  | nil => intro ls; simp
  | cons p r ih =>
    intro ls
    rw [List.foldl_cons, ih, mem_addU]
    constructor
    · rintro ((h | rfl) | ⟨q, hq, e⟩)
      · exact .inl h
      · exact .inr ⟨p, List.mem_cons_self .., rfl⟩
      · exact .inr ⟨q, List.mem_cons_of_mem _ hq, e⟩
    · rintro (h | ⟨q, hq, e⟩)
      · exact .inl (.inl h)
      · rcases List.mem_cons.mp hq with rfl | hq
        · exact .inl (.inr e.symm)
        · exact .inr ⟨q, hq, e⟩
theorem mem_lotsS {ps : List (Int × List Int)} {k : List Int} : k ∈ lotsS ps ↔ ∃ q ∈ ps, q.2 = k := by
  unfold lotsS sortLen lotsU
  rw [(List.mergeSort_perm _ _).mem_iff, mem_foldU]
  constructor
  · rintro (h | h)
    · cases h
    · exact h
  · exact .inr
theorem sum_le {B : Int} : ∀ qs : List (Int × List Int), (∀ q ∈ qs, q.1 ≤ B) → (qs.map (·.1)).sum ≤ qs.length * B := by
  intro qs
  induction qs with
  | nil => intro _; simp
  | cons q r ih =>
    intro h
    rw [List.map_cons, List.sum_cons, List.length_cons]
    have h1 := ih fun q hq => h q (List.mem_cons_of_mem _ hq)
    have h2 := h q (List.mem_cons_self ..)
    have : ((r.length + 1 : Nat) : Int) * B = r.length * B + B := by rw [Int.natCast_add, Int.add_mul]; simp
    omega
theorem sumL_pos {ps : List (Int × List Int)} (h : ∀ q ∈ ps, 0 < q.1) {l : List Int} (hl : l ∈ lotsS ps) : 0 < sumL ps l := by
  obtain ⟨q, hq, e⟩ := mem_lotsS.mp hl
  unfold sumL
  have hm : q ∈ ps.filter fun p => decide (p.2 = l) := List.mem_filter.mpr ⟨hq, decide_eq_true e⟩
  have : ∀ qs : List (Int × List Int), (∀ q ∈ qs, 0 < q.1) → q ∈ qs → 0 < (qs.map (·.1)).sum := by
    intro qs
    induction qs with
    | nil => intro _ h; cases h
    | cons p r ih =>
      intro h hq
      rw [List.map_cons, List.sum_cons]
      have h2 := h p (List.mem_cons_self ..)
      rcases List.mem_cons.mp hq with rfl | hq
      · have : 0 ≤ (r.map (·.1)).sum := by
          clear ih hq hm
          induction r with
          | nil => exact Int.le_refl _
          | cons p r ih =>
            rw [List.map_cons, List.sum_cons]
            have h3 := h p (by simp)
            have h4 := ih fun q hq => h q (by rcases List.mem_cons.mp hq with rfl | hq <;> simp [*])
            omega
        omega
      · have := ih (fun q hq => h q (List.mem_cons_of_mem _ hq)) hq
        omega
  exact this _ (fun q hq => h q (List.mem_filter.mp hq).1) hm
theorem fold_gI {l : List Int} : ∀ {a : Int}, 0 ≤ a → 0 ≤ l.foldl gI a := by
  induction l with
  | nil => exact fun h => h
  | cons x r ih => exact fun {a} _ => ih (a := gI a x) (Int.natCast_nonneg _)
theorem rows_rngz {α : Type} {xs : List α} : Rows xs.length (fun i : Nat => D.int i) (fun p : α × Nat => D.int p.2) xs.zipIdx := ⟨List.length_zipIdx, fun i h => by
  rw [List.getElem_zipIdx]; simp⟩
theorem map_zipIdx1 {α β : Type} (g : α → β) (xs : List α) : (xs.zipIdx.map fun p => g p.1) = xs.map g := by
  rw [show (xs.zipIdx.map fun p => g p.1) = (xs.zipIdx.map Prod.fst).map g by rw [List.map_map]; rfl, List.zipIdx_map_fst]
theorem divL_ok {t : Int} {ps : List (Int × List Int)} (G : PartsL t ps) : 0 < divL ps ∧ divL ps ≤ 4 * 1000 := by
  obtain ⟨q, hq⟩ : ∃ q, q ∈ ps := by
    cases e : ps with
    | nil => have := G.l1; rw [e] at this; exact absurd this (by decide)
    | cons q r => exact ⟨q, List.mem_cons_self ..⟩
  have hm : q.2 ∈ lotsS ps := mem_lotsS.mpr ⟨q, hq, rfl⟩
  have hp := sumL_pos G.pos hm
  have hd : divL ps ∣ sumL ps q.2 := fold_gI_dvd.2 _ (List.mem_map.mpr ⟨_, hm, rfl⟩)
  have h0 : 0 ≤ divL ps := fold_gI (Int.le_refl _)
  have hne : divL ps ≠ 0 := fun z => by rw [z] at hd; have := Int.zero_dvd.mp hd; omega
  refine ⟨by omega, Int.le_trans (Int.le_of_dvd hp hd) ?_⟩
  unfold sumL
  have h1 := sum_le (B := 1000) (ps.filter fun p => decide (p.2 = q.2)) fun x hx => G.le x (List.mem_filter.mp hx).1
  have h2 : (ps.filter fun p => decide (p.2 = q.2)).length ≤ 4 := Nat.le_trans (List.length_filter_le ..) G.l2
  refine Int.le_trans h1 (Int.mul_le_mul_of_nonneg_right (by omega) (by decide))
def sp__law_rows (K : PySem.W.Frag) : DSp := SP 1 fun ds μ R RX => ∃ (x : D) (t : Int) (ps : List (Int × List Int)), ds = [x] ∧ seqD x = some (ps.map rowPD) ∧ PartsL t ps ∧ μ (tabAd K "_law_rows") = some (.tab "_law_rows.<locals>.<lambda>") ∧ R (.lst ((rowsL ps).map rowD)) μ
theorem sc__law_rows : FnScope ["_law_parts_here", "_law_lots", "_law_weight", "_law_lot", "_law_sums", "_law_divisor", "_law_each", "_law_row", "_law_number_here", "_law_k"] ["_law_parts_here"] (defScope (top 61)) := ⟨rfl, rfl, rfl, by decide +kernel, rfl, by decide +kernel, by decide +kernel⟩
theorem fn__law_rows {P : Program} {w : World} {K : PySem.W.Frag} {mg : Str → Option Value} {base : Heap} {fd : FuncData} (V : Env K mg) (F : FunD K "_law_rows" "_law_rows" (defArgs (top 61)) (defBody (top 61)) (defScope (top 61)) [] [] (He.ga K "_law_rows") fd) (hcode : fd.code = .ref (codAd K "_law_rows")) (TB : LamX.TabB base mg (codAd K "_law_rows") (tabAd K "_law_rows"))  (D__law_gcd : DFn P w K mg base 1 (He.ga K "_law_gcd") ["_law_one", "_law_two"] [] sp__law_gcd) : FnOk P w K mg base (L2.CX P w) 4 (He.ga K "_law_rows") fd ["_law_parts_here"] (low K (sp__law_rows K)) := by
  refine fn_dataC F hcode sc__law_rows (fun ds μ R RX h => h.1) (fun A outer s H E RX hr L hW hU => ⟨_, (dss_cons (dst_set (i := 1) sc__law_rows.nd (de_lstM da_nil))
      (dss_cons (dst_for (passes_of rfl) rfl (di_seq (dv 0)) (dg_tup (n := 2) rfl (dgs_cons (dg_name (i := 2) sc__law_rows.nd) (dgs_cons (dg_name (i := 3) sc__law_rows.nd) dgs_nil))) (dss_one (dst_if (dt_cmp (o_notinD (hu65 hr)) (dv 3) (dv 1)) (dss_one (dst_expr (de_append (dv 1) (dv 3)))) dss_nil)))
      (dss_cons (dst_set (i := 1) sc__law_rows.nd (de_sortLen (P := tabAd K "_law_rows") (q := "_law_rows.<locals>.<lambda>") TB rfl hr (by decide) V.f_sorted V.f_len (da_cons (dv 1) da_nil)))
      (dss_cons (dst_set (i := 4) sc__law_rows.nd (de_lstM da_nil))
      (dss_cons (dst_set (i := 5) sc__law_rows.nd de_int)
      (dss_cons (dst_for (passes_of rfl) rfl (di_seq (dv 1)) (dg_name (i := 6) sc__law_rows.nd) (dss_cons (dst_set (i := 8) sc__law_rows.nd (de_callB (c_sum rfl) V.f_sum (da_cons (de_lc [("_law_row", 7)] (g := (gName 7)) rfl sc__law_rows.nd (di_seq (dv 0)) (blkOk_by rfl) (fun _ _ _ _ _ => (dgo_name (i := 7) sc__law_rows.nd)) (fun _ _ _ _ _ => (dts_one (dt_cmp (o_eqD (hu64 hr)) (de_ix o_ix (dv 7) de_int) (dv 6)))) (fun _ _ _ _ _ => (de_ix o_ix (dv 7) de_int))) da_nil)))
      (dss_cons (dst_expr (de_append (dv 4) (dv 8)))
      (dss_one (dst_set (i := 5) sc__law_rows.nd (de_call D__law_gcd (hr.mono (by decide)) V.g__law_gcd (da_cons (dv 5) (da_cons (dv 8) da_nil))))))))
      (dss_one (dst_ret (de_drop (de_drop (de_lc [("_law_k", 9)] (g := (gName 9)) rfl sc__law_rows.nd (di_rng1 V.f_range (da_cons (de_callB c_len V.f_len (da_cons (dv 1) da_nil)) da_nil)) (blkOk_by rfl) (fun _ _ _ _ _ => (dgo_name (i := 9) sc__law_rows.nd)) (fun _ _ _ _ _ => dts_nil) (fun _ _ _ _ _ => (de_tup (da_cons (de_ix o_ix (dv 1) (dv 9)) (da_cons (de_op o_div (de_ix o_ix (dv 4) (dv 9)) (dv 5)) da_nil))))))))))))))), fun ds μ R h => ?_⟩)
  obtain ⟨-, x, t, ps, rfl, hs, G, hT, hR⟩ := h
  have hsz := sizeLine_eq
  have hl2 := G.l2
  simp only [dDropM, dLc, dFor, dISeq, dIRng1, dIRng2, dIZip, dIEnum, dSeq, dCall, SP, dFldC, dIfS, dAnd, dOr, dNot, dTest, dOp, dUn, dVar, dC, qI, qI0, qU, dNext, dRet, dRetN, dRaise, dCons, dNil, dTup, dLst, dSet, dPar, dAsg, dAug, dDrop, dgName, dgTup, dgNil, dgCons, dAndV, dOrV, dNotV, dIf, dCl, startD, List.map_cons, List.map_nil, List.length_cons, List.length_nil, List.cons_append, List.nil_append, List.append_nil, List.replicate, List.getElem?_cons_zero, List.getElem?_cons_succ, List.set_cons_zero, List.set_cons_succ, Option.some.injEq, List.cons.injEq, and_true, true_and, exists_eq_left', exists_eq_left, exists_eq, exists_eq', D.int.injEq, D.bl.injEq, D.tup.injEq, D.lst.injEq, D.adr.injEq, exists_and_left, and_assoc, exists_and_right, if_true, ite_true, decide_eq_true_eq, exists_eq_right, exists_eq_right', Nat.add_zero, Nat.sub_self, Nat.reduceSub, Nat.reduceAdd, eq_self, dLstM, dNil]
  refine ⟨Nat.zero_le _, fun b hb => ⟨_, hs, ?_⟩⟩
  have hTb : tabAd K "_law_rows" ≠ b := fun z => by rw [z, hb] at hT; cases hT
  refine forG rows_seq (fun done _ Γ' μ' => ∃ (o2 o3 : Option D), Γ' = [some x, some (.adr b), o2, o3, none, none, none, none, none, none] ∧ μ' = updM μ b (.lst ((lotsU done).map tupI))) ⟨_, _, rfl, rfl⟩ (fun done k rest Γ' μ' hxs hI => ?_) fun Γ' μ' hI => ?_
  · obtain ⟨o2, o3, rfl, rfl⟩ := hI
    have hd : done.length < 4 := by
      have := congrArg List.length hxs
      rw [List.length_append, List.length_cons] at this
      omega
    have hlu : (lotsU done).length ≤ done.length := by
      have := len_lotsU done []
      rw [List.length_nil, Nat.zero_add] at this
      exact this
    simp only [dDropM, dLc, dFor, dISeq, dIRng1, dIRng2, dIZip, dIEnum, dSeq, dCall, SP, dFldC, dIfS, dAnd, dOr, dNot, dTest, dOp, dUn, dVar, dC, qI, qI0, qU, dNext, dRet, dRetN, dRaise, dCons, dNil, dTup, dLst, dSet, dPar, dAsg, dAug, dDrop, dgName, dgTup, dgNil, dgCons, dAndV, dOrV, dNotV, dIf, dCl, startD, List.map_cons, List.map_nil, List.length_cons, List.length_nil, List.cons_append, List.nil_append, List.append_nil, List.replicate, List.getElem?_cons_zero, List.getElem?_cons_succ, List.set_cons_zero, List.set_cons_succ, Option.some.injEq, List.cons.injEq, and_true, true_and, exists_eq_left', exists_eq_left, exists_eq, exists_eq', D.int.injEq, D.bl.injEq, D.tup.injEq, D.lst.injEq, D.adr.injEq, exists_and_left, and_assoc, exists_and_right, if_true, ite_true, decide_eq_true_eq, exists_eq_right, exists_eq_right', Nat.add_zero, Nat.sub_self, Nat.reduceSub, Nat.reduceAdd, eq_self, dAppend, rowPD]
    refine notinD_tl (ls := lotsU done) (seq_adr updM_same) rfl ⟨_, rfl, ?_⟩
    have e : lotsU (done ++ [k]) = addU (lotsU done) k.2 := by unfold lotsU; rw [List.foldl_append]; rfl
    rw [e]
    unfold addU
    by_cases c : k.2 ∈ lotsU done
    · rw [decide_eq_true c, if_neg (by decide), if_pos c]
    · rw [decide_eq_false c, if_pos (by decide), if_neg c]
      exact ⟨⟨_, updM_same⟩, _, updM_same, by rw [List.length_map, hsz]; omega, by rw [updM_updM, List.map_append]; rfl⟩
  · obtain ⟨o2, o3, rfl, rfl⟩ := hI
    simp only [dDropM, dLc, dFor, dISeq, dIRng1, dIRng2, dIZip, dIEnum, dSeq, dCall, SP, dFldC, dIfS, dAnd, dOr, dNot, dTest, dOp, dUn, dVar, dC, qI, qI0, qU, dNext, dRet, dRetN, dRaise, dCons, dNil, dTup, dLst, dSet, dPar, dAsg, dAug, dDrop, dgName, dgTup, dgNil, dgCons, dAndV, dOrV, dNotV, dIf, dCl, startD, List.map_cons, List.map_nil, List.length_cons, List.length_nil, List.cons_append, List.nil_append, List.append_nil, List.replicate, List.getElem?_cons_zero, List.getElem?_cons_succ, List.set_cons_zero, List.set_cons_succ, Option.some.injEq, List.cons.injEq, and_true, true_and, exists_eq_left', exists_eq_left, exists_eq, exists_eq', D.int.injEq, D.bl.injEq, D.tup.injEq, D.lst.injEq, D.adr.injEq, exists_and_left, and_assoc, exists_and_right, if_true, ite_true, decide_eq_true_eq, exists_eq_right, exists_eq_right', Nat.add_zero, Nat.sub_self, Nat.reduceSub, Nat.reduceAdd, eq_self, dSortLen, dDropM, dLstM, dNil]
    refine ⟨lotsU ps, seq_adr updM_same, rfl, by rw [updM_ne hTb]; exact hT, Nat.zero_le _, fun p hp => ⟨_, rfl, ?_⟩⟩
    obtain ⟨hne, hp'⟩ := none_upd hp
    have hll : (lotsS ps).length ≤ 4 := by
      unfold lotsS sortLen
      rw [List.length_mergeSort]
      have := len_lotsU ps []
      rw [List.length_nil, Nat.zero_add] at this
      exact Nat.le_trans this hl2
    refine forG (xs := lotsS ps) rows_seq (fun done _ Γ' μ' => ∃ (o6 o8 : Option D), Γ' = [some x, some (.lst ((lotsS ps).map tupI)), o2, o3, some (.adr p), some (.int ((done.map (sumL ps)).foldl gI 0)), o6, none, o8, none] ∧ μ' = updM (updM μ b (.lst ((lotsU ps).map tupI))) p (.lst ((done.map (sumL ps)).map D.int))) ⟨_, _, rfl, rfl⟩ (fun done k rest Γ' μ' hxs hI => ?_) fun Γ' μ' hI => ?_
    · obtain ⟨o6, o8, rfl, rfl⟩ := hI
      have hd : done.length < 4 := by
        have := congrArg List.length hxs
        rw [List.length_append, List.length_cons] at this
        omega
      simp only [dDropM, dLc, dFor, dISeq, dIRng1, dIRng2, dIZip, dIEnum, dSeq, dCall, SP, dFldC, dIfS, dAnd, dOr, dNot, dTest, dOp, dUn, dVar, dC, qI, qI0, qU, dNext, dRet, dRetN, dRaise, dCons, dNil, dTup, dLst, dSet, dPar, dAsg, dAug, dDrop, dgName, dgTup, dgNil, dgCons, dAndV, dOrV, dNotV, dIf, dCl, startD, List.map_cons, List.map_nil, List.length_cons, List.length_nil, List.cons_append, List.nil_append, List.append_nil, List.replicate, List.getElem?_cons_zero, List.getElem?_cons_succ, List.set_cons_zero, List.set_cons_succ, Option.some.injEq, List.cons.injEq, and_true, true_and, exists_eq_left', exists_eq_left, exists_eq, exists_eq', D.int.injEq, D.bl.injEq, D.tup.injEq, D.lst.injEq, D.adr.injEq, exists_and_left, and_assoc, exists_and_right, if_true, ite_true, decide_eq_true_eq, exists_eq_right, exists_eq_right', Nat.add_zero, Nat.sub_self, Nat.reduceSub, Nat.reduceAdd, eq_self, dAppend]
      refine ⟨_, hs, lcG (xs := ps) rows_seq (fun q => decide (q.2 = k)) (fun q => .int q.1) (by omega) (fun q hq Q Q' hQ hQ' => ?_) ?_⟩
      · simp only [dDropM, dLc, dFor, dISeq, dIRng1, dIRng2, dIZip, dIEnum, dSeq, dCall, SP, dFldC, dIfS, dAnd, dOr, dNot, dTest, dOp, dUn, dVar, dC, qI, qI0, qU, dNext, dRet, dRetN, dRaise, dCons, dNil, dTup, dLst, dSet, dPar, dAsg, dAug, dDrop, dgName, dgTup, dgNil, dgCons, dAndV, dOrV, dNotV, dIf, dCl, startD, List.map_cons, List.map_nil, List.length_cons, List.length_nil, List.cons_append, List.nil_append, List.append_nil, List.replicate, List.getElem?_cons_zero, List.getElem?_cons_succ, List.set_cons_zero, List.set_cons_succ, Option.some.injEq, List.cons.injEq, and_true, true_and, exists_eq_left', exists_eq_left, exists_eq, exists_eq', D.int.injEq, D.bl.injEq, D.tup.injEq, D.lst.injEq, D.adr.injEq, exists_and_left, and_assoc, exists_and_right, if_true, ite_true, decide_eq_true_eq, exists_eq_right, exists_eq_right', Nat.add_zero, Nat.sub_self, Nat.reduceSub, Nat.reduceAdd, eq_self, rowPD, wipeD]
        refine ix_ok rfl rfl (eqD_tt ⟨_, rfl, ?_⟩)
        by_cases c : q.2 = k
        · rw [if_pos (decide_eq_true c)]
          exact ix_ok rfl rfl (hQ (decide_eq_true c))
        · rw [if_neg (by rw [decide_eq_false c]; decide)]
          exact hQ' (decide_eq_false c)
      refine ⟨_, (ps.filter fun q => decide (q.2 = k)).map (·.1), rfl, congrArg some (show (ps.filter fun q => decide (q.2 = k)).map (fun q => D.int q.1) = ((ps.filter fun q => decide (q.2 = k)).map (·.1)).map D.int from by rw [List.map_map]; rfl), ?_⟩
      refine ⟨⟨_, updM_same⟩, _, updM_same, by rw [List.length_map, List.length_map, hsz]; omega, ?_⟩
      refine ⟨rfl, _, _, rfl, fold_gI (Int.le_refl _), sumL_nonneg G.pos k, ?_⟩
      exact ⟨by rw [List.map_append, List.foldl_append]; rfl, by rw [updM_updM, List.map_append, List.map_append]; rfl⟩
    · obtain ⟨o6, o8, rfl, rfl⟩ := hI
      simp only [dDropM, dLc, dFor, dISeq, dIRng1, dIRng2, dIZip, dIEnum, dSeq, dCall, SP, dFldC, dIfS, dAnd, dOr, dNot, dTest, dOp, dUn, dVar, dC, qI, qI0, qU, dNext, dRet, dRetN, dRaise, dCons, dNil, dTup, dLst, dSet, dPar, dAsg, dAug, dDrop, dgName, dgTup, dgNil, dgCons, dAndV, dOrV, dNotV, dIf, dCl, startD, List.map_cons, List.map_nil, List.length_cons, List.length_nil, List.cons_append, List.nil_append, List.append_nil, List.replicate, List.getElem?_cons_zero, List.getElem?_cons_succ, List.set_cons_zero, List.set_cons_succ, Option.some.injEq, List.cons.injEq, and_true, true_and, exists_eq_left', exists_eq_left, exists_eq, exists_eq', D.int.injEq, D.bl.injEq, D.tup.injEq, D.lst.injEq, D.adr.injEq, exists_and_left, and_assoc, exists_and_right, if_true, ite_true, decide_eq_true_eq, exists_eq_right, exists_eq_right', Nat.add_zero, Nat.sub_self, Nat.reduceSub, Nat.reduceAdd, eq_self]
      refine ⟨_, _, rfl, rfl, _, rfl, by rw [List.length_map]; omega, by rw [List.length_map]; omega, ?_⟩
      obtain ⟨hd0, hd1⟩ := divL_ok G
      rw [List.length_map, Int.toNat_natCast]
      refine lcG rows_rngz (fun _ => true) (fun z => rowD (z.1, sumL ps z.1 / divL ps)) (by rw [List.length_zipIdx]; omega) (fun z hz Q Q' hQ hQ' => ?_) ?_
      · simp only [dDropM, dLc, dFor, dISeq, dIRng1, dIRng2, dIZip, dIEnum, dSeq, dCall, SP, dFldC, dIfS, dAnd, dOr, dNot, dTest, dOp, dUn, dVar, dC, qI, qI0, qU, dNext, dRet, dRetN, dRaise, dCons, dNil, dTup, dLst, dSet, dPar, dAsg, dAug, dDrop, dgName, dgTup, dgNil, dgCons, dAndV, dOrV, dNotV, dIf, dCl, startD, List.map_cons, List.map_nil, List.length_cons, List.length_nil, List.cons_append, List.nil_append, List.append_nil, List.replicate, List.getElem?_cons_zero, List.getElem?_cons_succ, List.set_cons_zero, List.set_cons_succ, Option.some.injEq, List.cons.injEq, and_true, true_and, exists_eq_left', exists_eq_left, exists_eq, exists_eq', D.int.injEq, D.bl.injEq, D.tup.injEq, D.lst.injEq, D.adr.injEq, exists_and_left, and_assoc, exists_and_right, if_true, ite_true, decide_eq_true_eq, exists_eq_right, exists_eq_right', Nat.add_zero, Nat.sub_self, Nat.reduceSub, Nat.reduceAdd, eq_self, dYes, wipeD]
        have hz' : (lotsS ps)[z.2]? = some z.1 := List.mem_zipIdx_iff_getElem?.mp hz
        refine ix_ok rfl (atI_natD rfl (by rw [List.getElem?_map, hz']; rfl)) ?_
        refine ix_ok (seq_adr updM_same) (atI_natD (v := .int (sumL ps z.1)) rfl (by rw [List.getElem?_map, List.getElem?_map, hz']; rfl)) ?_
        exact ⟨_, rfl, wide_div (b := 200) hd0 (show (divL ps).natAbs < 2 ^ 200 by omega) (by decide) (by decide), two_le, hQ rfl⟩
      · rw [filter_tt]
        refine ⟨b, _, by rw [updM_ne (Ne.symm hne)]; exact updM_same, rfl, p, .lst ((lotsS ps).map (sumL ps) |>.map D.int), ?_, rfl, ?_⟩
        · rw [delM_ne hne]; exact updM_same
        · rw [del_two hb hne, delM_updM hp', map_zipIdx1 fun l => rowD (l, sumL ps l / divL ps)]
          unfold rowsL at hR
          rw [List.map_map] at hR
          exact hR
end N67
set_option Elab.async false
set_option linter.all false
set_option maxRecDepth 100000
set_option maxHeartbeats 4000000
set_option exponentiation.threshold 20000
namespace N67
open PySem PySem.Spec PyProof.Rows L2 Nod
/-! ### the plain law: a mixture made from parts -/
theorem gI_mul {c a b : Int} (hc : 0 ≤ c) : gI (c * a) (c * b) = c * gI a b := by
  show ((Int.gcd (c * a) (c * b) : Nat) : Int) = c * (Int.gcd a b : Nat)
  rw [Int.gcd_mul_left, Int.natCast_mul]
  congr 1
  omega
theorem gL_mul {c : Int} (hc : 0 ≤ c) : ∀ {ns : List Int} {d : Int}, gL (c * d) (ns.map (c * ·)) = c * gL d ns
  | [], d => rfl
  | n :: r, d => by
    show gL (gI (c * d) (c * n)) (r.map (c * ·)) = c * gL (gI d n) r
    rw [gI_mul hc, gL_mul hc]
theorem gL_dvd {d : Int} {ns : List Int} : gL d ns ∣ d := fold_gI_dvd.1
theorem gL_mem {d : Int} {ns : List Int} {n : Int} (h : n ∈ ns) : gL d ns ∣ n := fold_gI_dvd.2 n h
theorem dvd_gL {c : Int} : ∀ {ns : List Int} {d : Int}, c ∣ d → (∀ n ∈ ns, c ∣ n) → c ∣ gL d ns
  | [], d, h, _ => h
  | n :: r, d, h, h2 => dvd_gL (ns := r) (d := gI d n) (Int.dvd_coe_gcd h (h2 n (List.mem_cons_self ..))) fun m hm => h2 m (List.mem_cons_of_mem _ hm)
/-- the lowest form knows only the ratios -/
theorem low_uniq {W den : Int} {ws xs : List Int} (hW : 0 < W) (hd : 0 < den) (h : xs.map (W * ·) = ws.map (den * ·)) : lowM den xs = lowM W ws := by
  have g1 := gL_pos (nums := xs) hd
  have g2 := gL_pos (nums := ws) hW
  have e : W * gL den xs = den * gL W ws := by
    rw [← gL_mul (Int.le_of_lt hW), ← gL_mul (Int.le_of_lt hd), h, Int.mul_comm W den]
  obtain ⟨a, ha⟩ : gL den xs ∣ den := gL_dvd
  obtain ⟨b, hb⟩ : gL W ws ∣ W := gL_dvd
  have hm1 : ∀ x ∈ xs, gL den xs ∣ x := fun x hx => gL_mem hx
  have hm2 : ∀ x ∈ ws, gL W ws ∣ x := fun x hx => gL_mem hx
  unfold lowM
  generalize gL den xs = p at *
  generalize gL W ws = q at *
  have ab : b = a := by
    have h1 : (q * p) * b = (q * p) * a := by
      have : q * b * p = p * a * q := by rw [← hb, ← ha]; exact e
      rw [Int.mul_right_comm, this, Int.mul_comm p a, Int.mul_assoc, Int.mul_comm, Int.mul_comm p q]
    exact Int.eq_of_mul_eq_mul_left (by have := Int.mul_pos g2 g1; omega) h1
  subst ab
  have hb0 : b ≠ 0 := fun z => by rw [z, Int.mul_zero] at hb; omega
  have e1 : den / p = W / q := by rw [ha, hb, Int.mul_ediv_cancel_left _ (by omega), Int.mul_ediv_cancel_left _ (by omega)]
  rw [e1]
  congr 1
  clear e e1
  induction xs generalizing ws with
  | nil => cases ws with
    | nil => rfl
    | cons w r => simp at h
  | cons x r ih => cases ws with
    | nil => simp at h
    | cons w s =>
      rw [List.map_cons, List.map_cons, List.cons.injEq] at h
      rw [List.map_cons, List.map_cons, ih h.2 (fun y hy => hm1 y (List.mem_cons_of_mem _ hy)) (fun y hy => hm2 y (List.mem_cons_of_mem _ hy))]
      congr 1
      obtain ⟨x', hx⟩ := hm1 x (List.mem_cons_self ..)
      obtain ⟨w', hw⟩ := hm2 w (List.mem_cons_self ..)
      rw [hx, hw, Int.mul_ediv_cancel_left _ (by omega), Int.mul_ediv_cancel_left _ (by omega)]
      have h1 := h.1
      have h2 : (q * b * p) * x' = (q * b * p) * w' := by
        have e2 : q * b * (p * x') = p * b * (q * w') := by rw [← hx, ← hw, ← ha, ← hb]; exact h1
        rw [Int.mul_assoc, e2, Int.mul_comm p b, Int.mul_assoc b p, Int.mul_comm p (q * w'), ← Int.mul_assoc, ← Int.mul_assoc b q w', Int.mul_comm b q]
        rw [Int.mul_right_comm]
      exact Int.eq_of_mul_eq_mul_left (Int.mul_ne_zero (Int.mul_ne_zero (by omega) hb0) (by omega)) h2
abbrev Part := Int × List Int
def wt (ps : List Part) : Int := (ps.map (·.1)).sum
theorem gI_pos' {a b : Int} (hb : 0 < b) : 0 < gI a b := by
  have h0 : (0 : Int) ≤ gI a b := Int.natCast_nonneg _
  have hne : gI a b ≠ 0 := fun z => by
    have h := gI_dvd_r a b
    rw [z] at h
    have := Int.zero_dvd.mp h
    omega
  omega
theorem lL_dvd_of {c : Int} : ∀ {qs : List (Int × Int)} {l : Int}, l ∣ c → (∀ q ∈ qs, q.2 ∣ c) → lL l qs ∣ c
  | [], l, h, _ => h
  | q :: r, l, h, h2 => by
    refine lL_dvd_of (qs := r) (l := lI l q.2) ?_ fun x hx => h2 x (List.mem_cons_of_mem _ hx)
    unfold lI
    have h3 := h2 q (List.mem_cons_self ..)
    exact Int.ofNat_dvd_left.mpr (Nat.lcm_dvd (Int.natAbs_dvd_natAbs.mpr h) (Int.natAbs_dvd_natAbs.mpr h3))
/-- B: the point of the reduced weights -/
theorem point_parts {W : Int} (hW : 0 < W) (ps : List Part) : pointM ((ps.map (rdP W)).map nd) = lowM W (ps.map (·.1)) := by
  unfold pointM
  have hdv : ∀ q ∈ (ps.map (rdP W)).map nd, q.2 ∣ lL 1 ((ps.map (rdP W)).map nd) := fun q hq => lL_mem hq
  have hL : 0 < lL 1 ((ps.map (rdP W)).map nd) := lL_pos (by decide) fun q hq => by
    rw [List.map_map] at hq
    obtain ⟨p, _, rfl⟩ := List.mem_map.mp hq
    exact Int.ediv_pos_of_pos_of_dvd hW (Int.le_of_lt (gI_pos' hW)) (gI_dvd_r _ _)
  refine low_uniq hW hL ?_
  generalize lL 1 ((ps.map (rdP W)).map nd) = L at hdv
  rw [List.map_map, List.map_map, List.map_map, List.map_map]
  refine List.map_congr_left fun p hp => ?_
  have h2 : W / gI p.1 W ∣ L := hdv (nd (rdP W p)) (List.mem_map.mpr ⟨_, List.mem_map.mpr ⟨p, hp, rfl⟩, rfl⟩)
  show W * (p.1 / gI p.1 W * (L / (W / gI p.1 W))) = L * p.1
  have gp := gI_pos' (a := p.1) hW
  obtain ⟨n, hn⟩ := gI_dvd_l p.1 W
  obtain ⟨d, hd⟩ := gI_dvd_r p.1 W
  generalize gI p.1 W = g at *
  have en : p.1 / g = n := by rw [hn, Int.mul_ediv_cancel_left _ (by omega)]
  have ed : W / g = d := by rw [hd, Int.mul_ediv_cancel_left _ (by omega)]
  rw [ed] at h2
  obtain ⟨k, hk⟩ := h2
  have d0 : d ≠ 0 := fun z => by rw [z, Int.mul_zero] at hd; omega
  have ek : L / d = k := by rw [hk, Int.mul_ediv_cancel_left _ d0]
  rw [en, ed, ek, hn, hk, hd, Int.mul_assoc g d, Int.mul_left_comm d n k, Int.mul_left_comm g n (d * k)]
  rw [Int.mul_left_comm (d * k) g n, Int.mul_comm (d * k) n, Int.mul_left_comm n g]
/-! the sums over lots -/
theorem keys_putS (s : Sums) (l : List Int) (v : Int) : (putS s l v).map (·.1) = addU (s.map (·.1)) l := by
  unfold putS addU
  have e : (s.any fun p => decide (p.1 = l)) = true ↔ l ∈ s.map (·.1) := by
    rw [List.any_eq_true, List.mem_map]
    constructor
    · rintro ⟨p, hp, h⟩; exact ⟨p, hp, of_decide_eq_true h⟩
    · rintro ⟨p, hp, h⟩; exact ⟨p, hp, decide_eq_true h⟩
  by_cases c : l ∈ s.map (·.1)
  · rw [if_pos (e.mpr c), if_pos c, List.map_map]
    refine List.map_congr_left fun p _ => ?_
    show (if p.1 = l then (p.1, v) else p).1 = p.1
    split <;> rfl
  · rw [if_neg (fun z => c (e.mp z)), if_neg c, List.map_append]; rfl
theorem keys_foldS (zs : List Part) : ∀ s : Sums, (zs.foldl stepS s).map (·.1) = zs.foldl (fun ls p => addU ls p.2) (s.map (·.1)) := by
  induction zs with
  | nil => intro s; rfl
  | cons z r ih => intro s; rw [List.foldl_cons, List.foldl_cons, ih]; unfold stepS; rw [keys_putS]
theorem get_putS (s : Sums) (l k : List Int) (v : Int) : getS (putS s l v) k = if k = l then some v else getS s k := by
  induction s with
  | nil =>
    show getS [(l, v)] k = _
    unfold getS
    by_cases c : k = l
    · subst c; simp
    · rw [if_neg c, List.find?_cons, decide_eq_false (fun z => c z.symm)]
  | cons p r ih =>
    by_cases c : p.1 = l
    · have e : putS (p :: r) l v = (p.1, v) :: r.map (fun p => if p.1 = l then (p.1, v) else p) := by
        unfold putS
        rw [if_pos (by rw [List.any_cons, decide_eq_true c, Bool.true_or]), List.map_cons, if_pos c]
      rw [e]
      by_cases c2 : k = l
      · rw [if_pos c2]; subst c2; unfold getS; rw [List.find?_cons, decide_eq_true c]; rfl
      · rw [if_neg c2]
        unfold getS
        rw [List.find?_cons, List.find?_cons, decide_eq_false (fun z => c2 (z.symm.trans c))]
        show ((List.find? _ (r.map _)).map _ : Option Int) = (List.find? _ r).map _
        rw [List.find?_map]
        have e2 : ((fun q : List Int × Int => decide (q.1 = k)) ∘ fun p : List Int × Int => if p.1 = l then (p.1, v) else p) = fun q => decide (q.1 = k) := by
          funext q; show decide ((if q.1 = l then (q.1, v) else q).1 = k) = _; split <;> rfl
        rw [e2, Option.map_map]
        cases e3 : r.find? fun q => decide (q.1 = k) with
        | none => rfl
        | some q =>
          have := List.find?_some e3
          have hq : q.1 = k := of_decide_eq_true this
          show some ((if q.1 = l then (q.1, v) else q).2) = some q.2
          rw [if_neg (fun z => c2 (hq.symm.trans z))]
    · have e : putS (p :: r) l v = p :: putS r l v := by
        unfold putS
        rw [List.any_cons, decide_eq_false c, Bool.false_or]
        split
        · rw [List.map_cons, if_neg c]
        · rfl
      rw [e]
      unfold getS at ih ⊢
      rw [List.find?_cons, List.find?_cons]
      by_cases c3 : p.1 = k
      · rw [decide_eq_true c3]
        rw [if_neg (fun z => c (c3.trans z))]
      · rw [decide_eq_false c3]; exact ih
theorem get_foldS (l : List Int) (zs : List Part) : ∀ s : Sums, (getS (zs.foldl stepS s) l).getD 0 = (getS s l).getD 0 + sumL zs l := by
  induction zs with
  | nil => intro s; simp [sumL]
  | cons z r ih =>
    intro s
    rw [List.foldl_cons, ih]
    unfold stepS
    rw [get_putS]
    by_cases c : z.2 = l
    · subst c
      rw [if_pos rfl]
      unfold sumL
      rw [List.filter_cons_of_pos (by simp), List.map_cons, List.sum_cons]
      show _ + _ + _ = _
      omega
    · rw [if_neg (fun z => c z.symm)]
      unfold sumL
      rw [List.filter_cons_of_neg (by simp [c])]
theorem sumL_map {G : Int} (ps : List Part) (h : ∀ p ∈ ps, G ∣ p.1) (hG : G ≠ 0) (l : List Int) : G * sumL (ps.map fun q => (q.1 / G, q.2)) l = sumL ps l := by
  induction ps with
  | nil => simp [sumL]
  | cons p r ih =>
    have ih := ih fun q hq => h q (List.mem_cons_of_mem _ hq)
    unfold sumL at ih ⊢
    rw [List.map_cons]
    by_cases c : p.2 = l
    · rw [List.filter_cons_of_pos (by simp [c]), List.filter_cons_of_pos (by simp [c]), List.map_cons, List.map_cons, List.sum_cons, List.sum_cons, Int.mul_add, ih, Int.mul_ediv_cancel' (h p (List.mem_cons_self ..))]
    · rw [List.filter_cons_of_neg (by simp [c]), List.filter_cons_of_neg (by simp [c]), ih]
theorem zip_parts (ps : List Part) (G : Int) : ((ps.map (·.1)).map (· / G)).zip (ps.map (·.2)) = ps.map fun q => (q.1 / G, q.2) := by
  induction ps with
  | nil => rfl
  | cons p r ih => rw [List.map_cons, List.map_cons, List.map_cons, List.zip_cons_cons, ih]; rfl
theorem keys_div (ps : List Part) (G : Int) : ∀ ls : List (List Int), (ps.map fun q : Part => (q.1 / G, q.2)).foldl (fun ls p => addU ls p.2) ls = ps.foldl (fun ls p => addU ls p.2) ls := by
  induction ps with
  | nil => intro ls; rfl
  | cons p r ih => intro ls; rw [List.map_cons, List.foldl_cons, List.foldl_cons, ih]
theorem lots_map (ps : List Part) (W : Int) : (ps.map (rdP W)).map (·.2.2) = ps.map (·.2) := by rw [List.map_map]; rfl
theorem gSums_parts {W : Int} (hW : 0 < W) (ps : List Part) : gSums (ps.map (rdP W)) = (ps.map fun q : Part => (q.1 / gL W (ps.map (·.1)), q.2)).foldl stepS [] := by
  unfold gSums sumsM
  rw [point_parts hW, lots_map]
  unfold lowM
  rw [zip_parts]
theorem gLots_parts {W : Int} (hW : 0 < W) (ps : List Part) : gLots (ps.map (rdP W)) = lotsS ps := by
  unfold gLots lotsS lotsU
  rw [gSums_parts hW, keys_foldS, keys_div]
  rfl
theorem gPoint_parts {W : Int} (hW : 0 < W) (ps : List Part) : gPoint (ps.map (rdP W)) = lowM W ((lotsS ps).map (sumL ps)) := by
  unfold gPoint
  rw [point_parts hW, gLots_parts hW, gSums_parts hW]
  have g0 := gL_pos (nums := ps.map (·.1)) hW
  have gm : ∀ p ∈ ps, gL W (ps.map (·.1)) ∣ p.1 := fun p hp => gL_mem (List.mem_map.mpr ⟨p, hp, rfl⟩)
  have gW : gL W (ps.map (·.1)) ∣ W := gL_dvd
  show lowM (W / gL W (ps.map (·.1))) _ = _
  generalize gL W (ps.map (·.1)) = G at *
  refine low_uniq hW (Int.ediv_pos_of_pos_of_dvd hW (Int.le_of_lt g0) gW) ?_
  rw [List.map_map, List.map_map]
  refine List.map_congr_left fun l hl => ?_
  show W * (getS ((ps.map fun q : Part => (q.1 / G, q.2)).foldl stepS []) l).getD 0 = W / G * sumL ps l
  rw [get_foldS, ← sumL_map ps gm (by omega) l]
  show W * (0 + _) = _
  rw [Int.zero_add, ← Int.mul_assoc, Int.ediv_mul_cancel gW]
/-! the sums over all lots are the total -/
theorem nodup_addU {ls : List (List Int)} {l : List Int} (h : ls.Nodup) : (addU ls l).Nodup := by
  unfold addU
  split
  · exact h
  · rename_i c
    refine List.nodup_append.mpr ⟨h, by simp, fun a ha b hb e => ?_⟩
    rw [List.mem_singleton] at hb
    exact c (hb ▸ e ▸ ha)
theorem nodup_foldU (ps : List Part) : ∀ ls : List (List Int), ls.Nodup → (ps.foldl (fun ls p => addU ls p.2) ls).Nodup := by
  induction ps with
  | nil => exact fun ls h => h
  | cons p r ih => exact fun ls h => ih _ (nodup_addU h)
theorem nodup_lotsS (ps : List Part) : (lotsS ps).Nodup := by
  unfold lotsS sortLen
  exact (List.mergeSort_perm _ _).nodup_iff.mpr (nodup_foldU ps [] .nil)
theorem sumL_cons (p : Part) (r : List Part) (l : List Int) : sumL (p :: r) l = (if p.2 = l then p.1 else 0) + sumL r l := by
  unfold sumL
  by_cases c : p.2 = l
  · rw [List.filter_cons_of_pos (by simp [c]), if_pos c, List.map_cons, List.sum_cons]
  · rw [List.filter_cons_of_neg (by simp [c]), if_neg c, Int.zero_add]
theorem sum_ind (w : Int) (k : List Int) : ∀ ls : List (List Int), ls.Nodup → (ls.map fun l => if k = l then w else 0).sum = if k ∈ ls then w else 0
  | [], _ => rfl
  | l :: r, h => by
    rw [List.nodup_cons] at h
    rw [List.map_cons, List.sum_cons, sum_ind w k r h.2]
    by_cases c : k = l
    · subst c
      rw [if_pos rfl, if_neg h.1, if_pos (List.mem_cons_self ..), Int.add_zero]
    · rw [if_neg c, Int.zero_add]
      by_cases c2 : k ∈ r
      · rw [if_pos c2, if_pos (List.mem_cons_of_mem _ c2)]
      · rw [if_neg c2, if_neg fun z => (List.mem_cons.mp z).elim c c2]
theorem sum_map_add {α : Type} (f g : α → Int) : ∀ ls : List α, (ls.map fun l => f l + g l).sum = (ls.map f).sum + (ls.map g).sum
  | [] => rfl
  | l :: r => by rw [List.map_cons, List.sum_cons, List.map_cons, List.sum_cons, List.map_cons, List.sum_cons, sum_map_add f g r]; omega
theorem sum_all (ls : List (List Int)) (hn : ls.Nodup) : ∀ ps : List Part, (∀ p ∈ ps, p.2 ∈ ls) → (ls.map (sumL ps)).sum = wt ps
  | [], _ => by
    unfold wt
    clear hn
    induction ls with
    | nil => rfl
    | cons l r ih => rw [List.map_cons, List.sum_cons, ih (fun _ h => nomatch h)]; rfl
  | p :: r, h => by
    have e : ls.map (sumL (p :: r)) = ls.map fun l => (if p.2 = l then p.1 else 0) + sumL r l := List.map_congr_left fun l _ => sumL_cons p r l
    rw [e, sum_map_add, sum_ind p.1 p.2 ls hn, if_pos (h p (List.mem_cons_self ..)), sum_all ls hn r fun q hq => h q (List.mem_cons_of_mem _ hq)]
    unfold wt
    rw [List.map_cons, List.sum_cons]
theorem sum_lots (ps : List Part) : ((lotsS ps).map (sumL ps)).sum = wt ps := sum_all _ (nodup_lotsS ps) ps fun p hp => mem_lotsS.mpr ⟨p, hp, rfl⟩
theorem dvd_sum {c : Int} : ∀ ns : List Int, (∀ n ∈ ns, c ∣ n) → c ∣ ns.sum
  | [], _ => Int.dvd_zero _
  | n :: r, h => by rw [List.sum_cons]; exact Int.dvd_add (h n (List.mem_cons_self ..)) (dvd_sum r fun m hm => h m (List.mem_cons_of_mem _ hm))
theorem dvd_fold {c : Int} {ns : List Int} {d : Int} (h : c ∣ d) (h2 : ∀ n ∈ ns, c ∣ n) : c ∣ ns.foldl gI d := dvd_gL h h2
theorem gL_total {ps : List Part} (hW : 0 < wt ps) : gL (wt ps) ((lotsS ps).map (sumL ps)) = divL ps := by
  have h1 : gL (wt ps) ((lotsS ps).map (sumL ps)) ∣ divL ps := dvd_fold (Int.dvd_zero _) fun n hn => gL_mem hn
  have h2 : divL ps ∣ gL (wt ps) ((lotsS ps).map (sumL ps)) := by
    have hm : ∀ n ∈ (lotsS ps).map (sumL ps), divL ps ∣ n := fun n hn => fold_gI_dvd.2 n hn
    exact dvd_gL (by rw [← sum_lots]; exact dvd_sum _ hm) hm
  exact Int.dvd_antisymm (Int.le_of_lt (gL_pos hW)) (fold_gI (Int.le_refl _)) h1 h2
def perL (ps : List Part) : Int := wt ps / divL ps
theorem gPoint_rows {ps : List Part} (hW : 0 < wt ps) : gPoint (ps.map (rdP (wt ps))) = ⟨perL ps, (rowsL ps).map (·.2)⟩ := by
  rw [gPoint_parts hW]
  unfold lowM perL rowsL
  rw [gL_total hW, List.map_map, List.map_map]
  rfl
theorem mixOf_rows {ps : List Part} (hW : 0 < wt ps) : mixOf (ps.map (rdP (wt ps))) = (rowsL ps).map fun r => rdP (perL ps) (r.2, r.1) := by
  unfold mixOf mixP
  rw [gPoint_rows hW, gLots_parts hW]
  have e : ((rowsL ps).map (·.2)).zip (lotsS ps) = (rowsL ps).map fun r => (r.2, r.1) := by
    unfold rowsL
    generalize lotsS ps = ls
    rw [List.map_map, List.map_map]
    induction ls with
    | nil => rfl
    | cons l r ih => rw [List.map_cons, List.zip_cons_cons, ih]; rfl
  show (((rowsL ps).map (·.2)).zip (lotsS ps)).map (rdP (perL ps)) = _
  rw [e, List.map_map]
  rfl
/-! the rows -/
structure PosP (ps : List Part) : Prop where
  ne : ps ≠ []
  pos : ∀ p ∈ ps, 0 < p.1
theorem wt_pos {ps : List Part} (h : PosP ps) : 0 < wt ps := by
  have h0 : ∀ qs : List Part, (∀ p ∈ qs, 0 < p.1) → 0 ≤ wt qs := fun qs => by
    induction qs with
    | nil => intro _; exact Int.le_refl _
    | cons p r ih =>
      intro h
      have h1 := ih fun q hq => h q (List.mem_cons_of_mem _ hq)
      have h2 := h p (List.mem_cons_self ..)
      unfold wt at *
      rw [List.map_cons, List.sum_cons]
      omega
  cases ps with
  | nil => exact absurd rfl h.ne
  | cons p r =>
    have h1 := h0 r fun q hq => h.pos q (List.mem_cons_of_mem _ hq)
    have h2 := h.pos p (List.mem_cons_self ..)
    unfold wt at *
    rw [List.map_cons, List.sum_cons]
    omega
theorem divL_pos {ps : List Part} (h : PosP ps) : 0 < divL ps := by rw [← gL_total (wt_pos h)]; exact gL_pos (wt_pos h)
theorem divL_dvd {ps : List Part} (h : PosP ps) : divL ps ∣ wt ps := by rw [← gL_total (wt_pos h)]; exact gL_dvd
theorem perL_pos {ps : List Part} (h : PosP ps) : 0 < perL ps := Int.ediv_pos_of_pos_of_dvd (wt_pos h) (Int.le_of_lt (divL_pos h)) (divL_dvd h)
theorem perL_le {ps : List Part} (h : PosP ps) : perL ps ≤ wt ps := Int.ediv_le_self _ (Int.le_of_lt (wt_pos h))
theorem days_pos {ps : List Part} (h : PosP ps) : ∀ r ∈ rowsL ps, 0 < r.2 := fun r hr => by
  unfold rowsL at hr
  obtain ⟨l, hl, rfl⟩ := List.mem_map.mp hr
  exact Int.ediv_pos_of_pos_of_dvd (sumL_pos h.pos hl) (Int.le_of_lt (divL_pos h)) (fold_gI_dvd.2 _ (List.mem_map.mpr ⟨l, hl, rfl⟩))
theorem sum_div {c : Int} : ∀ ns : List Int, (∀ n ∈ ns, c ∣ n) → (ns.map (· / c)).sum = ns.sum / c
  | [], _ => by simp
  | n :: r, h => by
    rw [List.map_cons, List.sum_cons, List.sum_cons, sum_div r fun m hm => h m (List.mem_cons_of_mem _ hm), Int.add_ediv_of_dvd_left (h n (List.mem_cons_self ..))]
theorem days_sum {ps : List Part} : ((rowsL ps).map (·.2)).sum = perL ps := by
  have e : (rowsL ps).map (·.2) = ((lotsS ps).map (sumL ps)).map (· / divL ps) := by unfold rowsL; rw [List.map_map, List.map_map]; rfl
  rw [e, sum_div (c := divL ps) _ fun n hn => fold_gI_dvd.2 n hn, sum_lots]
  rfl
/-- lowest: nothing divides the period and all days -/
theorem days_gcd {ps : List Part} (h : PosP ps) : gL (perL ps) ((rowsL ps).map (·.2)) = 1 := by
  have hd := divL_pos h
  have e := gL_mul (c := divL ps) (Int.le_of_lt hd) (ns := (rowsL ps).map (·.2)) (d := perL ps)
  have e1 : divL ps * perL ps = wt ps := Int.mul_ediv_cancel' (divL_dvd h)
  have e2 : ((rowsL ps).map (·.2)).map (divL ps * ·) = (lotsS ps).map (sumL ps) := by
    unfold rowsL
    rw [List.map_map, List.map_map]
    refine List.map_congr_left fun l hl => ?_
    exact Int.mul_ediv_cancel' (fold_gI_dvd.2 _ (List.mem_map.mpr ⟨l, hl, rfl⟩))
  rw [e1, e2, gL_total (wt_pos h)] at e
  have : divL ps * gL (perL ps) ((rowsL ps).map (·.2)) = divL ps * 1 := by rw [Int.mul_one]; exact e.symm
  exact Int.eq_of_mul_eq_mul_left (by omega) this
abbrev Row := List Int × Int
def prR (den : Int) (r : Row) : Pr := rdP den (r.2, r.1)
/-- the period of the mixture -/
theorem per_rows {den : Int} (hd : 0 < den) (rows : List Row) (h1 : gL den (rows.map (·.2)) = 1) : perM (rows.map (prR den)) = den := by
  unfold perM
  have hP : 0 < lL 1 ((rows.map (prR den)).map nd) := lL_pos (by decide) fun q hq => by
    rw [List.map_map] at hq
    obtain ⟨r, _, rfl⟩ := List.mem_map.mp hq
    exact Int.ediv_pos_of_pos_of_dvd hd (Int.le_of_lt (gI_pos' hd)) (gI_dvd_r _ _)
  have hdv : lL 1 ((rows.map (prR den)).map nd) ∣ den := lL_dvd_of (Int.one_dvd _) fun q hq => by
    rw [List.map_map] at hq
    obtain ⟨r, _, rfl⟩ := List.mem_map.mp hq
    exact Int.ediv_dvd_of_dvd (gI_dvd_r _ _)
  have hm : ∀ r ∈ rows, den / gI r.2 den ∣ lL 1 ((rows.map (prR den)).map nd) := fun r hr => lL_mem (p := nd (prR den r)) (List.mem_map.mpr ⟨_, List.mem_map.mpr ⟨r, hr, rfl⟩, rfl⟩)
  generalize lL 1 ((rows.map (prR den)).map nd) = P at *
  obtain ⟨k, hk⟩ := hdv
  have hk1 : k ∣ 1 := by
    rw [← h1]
    refine dvd_gL ⟨P, by rw [hk, Int.mul_comm]⟩ fun n hn => ?_
    obtain ⟨r, hr, rfl⟩ := List.mem_map.mp hn
    obtain ⟨m, hm'⟩ := hm r hr
    have g0 := gI_pos' (a := r.2) hd
    have q0 : 0 < den / gI r.2 den := Int.ediv_pos_of_pos_of_dvd hd (Int.le_of_lt g0) (gI_dvd_r _ _)
    have e : den / gI r.2 den * gI r.2 den = den / gI r.2 den * (m * k) := by
      rw [Int.ediv_mul_cancel (gI_dvd_r _ _), ← Int.mul_assoc, ← hm']
      exact hk
    have e2 := Int.eq_of_mul_eq_mul_left (by omega) e
    exact Int.dvd_trans ⟨m, by rw [e2, Int.mul_comm]⟩ (gI_dvd_l r.2 den)
  have : k = 1 := by
    have h0 : 0 < k := by
      refine Int.lt_of_not_ge fun z => ?_
      have := Int.mul_le_mul_of_nonneg_left z (Int.le_of_lt hP)
      rw [Int.mul_zero] at this
      omega
    exact Int.eq_one_of_dvd_one (by omega) hk1
  rw [hk, this, Int.mul_one]
/-- the days of a reduced row -/
theorem days_row {den : Int} (hd : 0 < den) (r : Row) : (prR den r).1 * (den / (prR den r).2.1) = r.2 := by
  show r.2 / gI r.2 den * (den / (den / gI r.2 den)) = r.2
  have g0 := gI_pos' (a := r.2) hd
  obtain ⟨d, hd'⟩ := gI_dvd_r r.2 den
  obtain ⟨n, hn⟩ := gI_dvd_l r.2 den
  generalize gI r.2 den = g at *
  have d0 : d ≠ 0 := fun z => by rw [z, Int.mul_zero] at hd'; omega
  have e1 : den / g = d := by rw [hd', Int.mul_ediv_cancel_left _ (by omega)]
  rw [e1]
  have e2 : den / d = g := by rw [hd', Int.mul_ediv_cancel _ d0]
  rw [e2]
  exact Int.ediv_mul_cancel ⟨n, hn⟩
def mixL (ps : List Part) : List Pr := mixOf (ps.map (rdP (wt ps)))
theorem mixL_rows {ps : List Part} (h : PosP ps) : mixL ps = (rowsL ps).map (prR (perL ps)) := mixOf_rows (wt_pos h)
theorem perM_mix {ps : List Part} (h : PosP ps) : perM (mixL ps) = perL ps := by rw [mixL_rows h]; exact per_rows (perL_pos h) _ (days_gcd h)
theorem big_MOST {i : Int} (h : i ≤ 10 ^ 40) : i ≤ c_MOST := Int.le_trans h (by unfold c_MOST; decide +kernel)
theorem days_le {ps : List Part} (h : PosP ps) : ∀ r ∈ rowsL ps, r.2 ≤ perL ps := fun r hr => by
  rw [← days_sum]
  have : ∀ ns : List Int, (∀ n ∈ ns, 0 ≤ n) → 0 ≤ ns.sum ∧ ∀ n ∈ ns, n ≤ ns.sum := fun ns => by
    induction ns with
    | nil => exact fun _ => ⟨Int.le_refl _, fun n h => nomatch h⟩
    | cons x q ih =>
      intro h
      obtain ⟨h1, h2⟩ := ih fun n hn => h n (List.mem_cons_of_mem _ hn)
      have h3 := h x (List.mem_cons_self ..)
      rw [List.sum_cons]
      refine ⟨by omega, fun n hn => ?_⟩
      rcases List.mem_cons.mp hn with rfl | hn
      · omega
      · have := h2 n hn; omega
  exact (this _ fun n hn => by
    obtain ⟨r', hr', rfl⟩ := List.mem_map.mp hn
    exact Int.le_of_lt (days_pos h r' hr')).2 _ (List.mem_map.mpr ⟨r, hr, rfl⟩)
theorem mix_ok {ps : List Part} (h : PosP ps) (hw : wt ps ≤ 10 ^ 40) : PrOk (mixL ps) := by
  have hp := perL_pos h
  have hl := Int.le_trans (perL_le h) hw
  refine ⟨fun p hp' => ?_, fun p hp' => ?_, by rw [perM_mix h]; exact big_MOST hl⟩
  · rw [mixL_rows h] at hp'
    obtain ⟨r, hr, rfl⟩ := List.mem_map.mp hp'
    exact Int.ediv_pos_of_pos_of_dvd hp (Int.le_of_lt (gI_pos' hp)) (gI_dvd_r _ _)
  · rw [mixL_rows h] at hp'
    obtain ⟨r, hr, rfl⟩ := List.mem_map.mp hp'
    have h0 := days_pos h r hr
    have h1 := big_MOST (Int.le_trans (days_le h r hr) hl)
    have h2 : (r.2 / gI r.2 (perL ps)).natAbs ≤ r.2.natAbs := abs_div _ _
    show (r.2 / gI r.2 (perL ps)).natAbs ≤ c_MOST.natAbs
    omega
/-- a mixture is made of parts -/
theorem mix_ready {K : PySem.W.Frag} {t : Int} {gs : List Giv} {ps : List Part} {μ : Mu} {a : Addr} {R : DK} {RX : DX} (h : PosP ps) (hg : gs.map Giv.pr = ps.map (rdP (wt ps))) (hok : ∀ g ∈ gs, GivOk t g) (h0 : 0 ≤ t) (h1 : t ≤ 10) (hl : gs.length ≤ 1000) (hw : wt ps ≤ 10 ^ 40)
    (hT : μ (tabAd K "_gathered") = some (.tab "_gathered.<locals>.<lambda>")) (hm : μ a = some (.ins "Mixture" []))
    (hR : R .non (updM μ a (.ins "Mixture" [("things", .int t), ("pairs", .tup ((mixL ps).map prD)), ("shares", shOf t (gs.map Giv.pr))]))) : sp_Mixture_init K [.adr a, .int t, .lst (gs.map givD)] μ R RX := by
  have hW := wt_pos h
  have hlen : gs.length = ps.length := by
    have := congrArg List.length hg
    rw [List.length_map, List.length_map] at this
    exact this
  have hne : 1 ≤ gs.length := by
    rw [hlen]
    cases e : ps with
    | nil => exact absurd e h.ne
    | cons p r => rw [List.length_cons]; omega
  refine ⟨rfl, a, t, gs, rfl, hm, h0, h1, hne, hl, hok, ?_, hT, ?_, ?_, ?_, ?_⟩
  · have e : (gs.map fun g => nd g.pr) = (gs.map Giv.pr).map nd := by rw [List.map_map]; rfl
    rw [e, hg]
    have hd : lL 1 ((ps.map (rdP (wt ps))).map nd) ∣ wt ps := lL_dvd_of (Int.one_dvd _) fun q hq => by
      rw [List.map_map] at hq
      obtain ⟨r, _, rfl⟩ := List.mem_map.mp hq
      exact Int.ediv_dvd_of_dvd (gI_dvd_r _ _)
    exact Int.le_trans (Int.le_of_dvd hW hd) (Int.le_trans hw (by decide +kernel))
  · rw [hg, gPoint_rows hW]
    intro n hn
    obtain ⟨r, hr, rfl⟩ := List.mem_map.mp hn
    exact Int.le_of_lt (days_pos h r hr)
  · rw [hg, gPoint_rows hW]; exact days_sum
  · rw [hg, gPoint_rows hW]; exact Int.le_trans (perL_le h) hw
  · rw [hg] at hR ⊢; exact hR
/-- one part, given as Ratio(weight, total) and a list of its lot -/
theorem giv_ok {t W : Int} {q : Part} {x : D} {ns : List Int} (hq : 0 < q.1) (hW : 0 < W) (hw : q.1 ≤ W) (hm : W ≤ 10 ^ 40) (hx : seqD x = some (ns.map D.int)) (hl : ns.length ≤ 60) (hi : ∀ n ∈ ns, 0 ≤ n ∧ n < t) (hs : q.2.Pairwise (· < ·)) (he : ∀ k, k ∈ q.2 ↔ k ∈ ns) :
    GivOk t ⟨q.1 / gI q.1 W, W / gI q.1 W, x, ns, q.2⟩ := by
  refine ⟨Int.ediv_pos_of_pos_of_dvd hq (Int.le_of_lt (gI_pos' hW)) (gI_dvd_l _ _), Int.ediv_pos_of_pos_of_dvd hW (Int.le_of_lt (gI_pos' hW)) (gI_dvd_r _ _), ?_, hx, hl, hi, hs, he⟩
  have h1 := big_MOST (Int.le_trans hw hm)
  have h2 := abs_div q.1 (gI q.1 W)
  show (q.1 / gI q.1 W).natAbs ≤ c_MOST.natAbs
  omega
theorem make_ratio {n d : Int} (h1 : n.natAbs ≤ c_MOST.natAbs) (h2 : 0 < d) (h3 : d ≤ c_MOST) {μ : Mu} {R : List (Str × D) → Mu → Prop} {RX : DX} (x : Addr) (hR : R [("num", .int (n / gI n d)), ("den", .int (d / gI n d))] (updM μ x (.ins "Ratio" [("num", .int (n / gI n d)), ("den", .int (d / gI n d))]))) :
    sp_Ratio_init [D.adr x, D.int n, D.int d] (updM μ x (MO.ins "Ratio" [])) (fun y μ2 => y = D.non ∧ ∃ gs, μ2 x = some (MO.ins "Ratio" gs) ∧ R gs μ2) RX :=
  ⟨rfl, x, _, _, rfl, updM_same, h1, h2, h3, rfl, _, updM_same, by rw [updM_updM]; exact hR⟩
theorem make_mix {K : PySem.W.Frag} {t : Int} {gs : List Giv} {ps : List Part} {μ : Mu} {R : List (Str × D) → Mu → Prop} {RX : DX} {x : Addr} (hx : μ x = none) (h : PosP ps) (hg : gs.map Giv.pr = ps.map (rdP (wt ps))) (hok : ∀ g ∈ gs, GivOk t g) (h0 : 0 ≤ t) (h1 : t ≤ 10) (hl : gs.length ≤ 1000) (hw : wt ps ≤ 10 ^ 40)
    (hT : μ (tabAd K "_gathered") = some (.tab "_gathered.<locals>.<lambda>")) (hR : ∀ sh, R [("things", .int t), ("pairs", .tup ((mixL ps).map prD)), ("shares", sh)] (updM μ x (.ins "Mixture" [("things", .int t), ("pairs", .tup ((mixL ps).map prD)), ("shares", sh)]))) {xs : D} (hxs : xs = .lst (gs.map givD)) :
    sp_Mixture_init K [D.adr x, .int t, xs] (updM μ x (MO.ins "Mixture" [])) (fun y μ2 => y = D.non ∧ ∃ gs, μ2 x = some (MO.ins "Mixture" gs) ∧ R gs μ2) RX := by
  have hTx : tabAd K "_gathered" ≠ x := fun z => by rw [z, hx] at hT; cases hT
  subst hxs
  exact mix_ready h hg hok h0 h1 hl hw (by rw [updM_ne hTx]; exact hT) updM_same ⟨rfl, _, updM_same, by rw [updM_updM]; exact hR _⟩
theorem ms2 {α : Type} (le : α → α → Bool) (a b : α) : [a, b].mergeSort le = if le a b then [a, b] else [b, a] := by
  simp [List.mergeSort, List.MergeSort.Internal.splitInTwo, List.splitAt, List.splitAt.go, List.merge]
theorem sort_a {t : Int} (h0 : 0 < t) (h1 : t ≤ 10) : sortLen [[], rgI 0 t] = [[], rgI 0 t] ∧ sortLen [rgI 0 t, []] = [[], rgI 0 t] := by
  unfold sortLen
  rw [ms2, ms2]
  rcases (show t = 1 ∨ t = 2 ∨ t = 3 ∨ t = 4 ∨ t = 5 ∨ t = 6 ∨ t = 7 ∨ t = 8 ∨ t = 9 ∨ t = 10 by omega) with rfl | rfl | rfl | rfl | rfl | rfl | rfl | rfl | rfl | rfl <;> decide +kernel
theorem rows_0 : rowsL [(1, []), (2, [])] = [([], 1)] ∧ perL [(1, []), (2, [])] = 1 := by
  have hl : lotsS [(1, []), (2, [])] = [[]] := by
    show sortLen (addU [[]] []) = _
    unfold addU sortLen
    rw [if_pos (by simp)]
    simp [List.mergeSort]
  have h1 : sumL [(1, []), (2, [])] [] = 3 := by simp [sumL]
  have h3 : divL [(1, []), (2, [])] = 3 := by
    unfold divL
    rw [hl, List.map_cons, List.map_nil, h1]
    decide
  constructor
  · unfold rowsL
    rw [hl, List.map_cons, List.map_nil, h1, h3]
    rfl
  · unfold perL wt
    rw [h3]
    rfl
theorem rows_a {w : Int} {e : List Int} (he : e ≠ []) (hs : sortLen [[], e] = [[], e]) : rowsL [(1, []), (w, e)] = [([], 1), (e, w)] ∧ perL [(1, []), (w, e)] = 1 + w := by
  have hl : lotsS [(1, []), (w, e)] = [[], e] := by
    show sortLen (addU [[]] e) = _
    unfold addU
    rw [if_neg (by simp [he])]
    exact hs
  have h1 : sumL [(1, []), (w, e)] [] = 1 := by simp [sumL, he]
  have h2 : sumL [(1, []), (w, e)] e = w := by simp [sumL, Ne.symm he]
  have h3 : divL [(1, []), (w, e)] = 1 := by
    unfold divL
    rw [hl, List.map_cons, List.map_cons, List.map_nil, h1, h2]
    show gI 1 w = 1
    show ((Int.gcd 1 w : Nat) : Int) = 1
    rw [Int.one_gcd]; rfl
  constructor
  · unfold rowsL
    rw [hl, List.map_cons, List.map_cons, List.map_nil, h1, h2, h3, Int.ediv_one, Int.ediv_one]
  · unfold perL wt
    rw [h3, Int.ediv_one]
    simp
theorem rows_b {w : Int} {e : List Int} (he : e ≠ []) (hs : sortLen [e, []] = [[], e]) : rowsL [(w, e), (1, [])] = [([], 1), (e, w)] ∧ perL [(w, e), (1, [])] = w + 1 := by
  have hl : lotsS [(w, e), (1, [])] = [[], e] := by
    show sortLen (addU [e] []) = _
    unfold addU
    rw [if_neg (by simp [Ne.symm he])]
    exact hs
  have h1 : sumL [(w, e), (1, [])] [] = 1 := by simp [sumL, he]
  have h2 : sumL [(w, e), (1, [])] e = w := by simp [sumL, Ne.symm he]
  have h3 : divL [(w, e), (1, [])] = 1 := by
    unfold divL
    rw [hl, List.map_cons, List.map_cons, List.map_nil, h1, h2]
    show gI 1 w = 1
    show ((Int.gcd 1 w : Nat) : Int) = 1
    rw [Int.one_gcd]; rfl
  constructor
  · unfold rowsL
    rw [hl, List.map_cons, List.map_cons, List.map_nil, h1, h2, h3, Int.ediv_one, Int.ediv_one]
  · unfold perL wt
    rw [h3, Int.ediv_one]
    simp
theorem small_MOST {n : Int} (h : n.natAbs ≤ 10 ^ 40) : n.natAbs ≤ c_MOST.natAbs := Nat.le_trans h (by unfold c_MOST; decide +kernel)
end N67
set_option Elab.async false
set_option linter.all false
set_option maxRecDepth 100000
set_option maxHeartbeats 4000000
set_option exponentiation.threshold 20000
namespace N67
open PySem PySem.Spec PyProof.Rows L2 Nod
/-! ### the days are spread: nearest end first -/
def firstD (g c p : Int) : Int := g * p / c
def lastD (g c p : Int) : Int := -(-(g + 1) * p / c) - 1
def pickF (gone : List Int) (p day : Int) (s : Option Nat × Int) (z : Int × Nat) : Option Nat × Int :=
  if gone.getD z.2 0 < z.1 ∧ firstD (gone.getD z.2 0) z.1 p ≤ day ∧ lastD (gone.getD z.2 0) z.1 p < s.2 then (some z.2, lastD (gone.getD z.2 0) z.1 p) else s
def pick (ns gone : List Int) (p day : Int) : Option Nat := (ns.zipIdx.foldl (pickF gone p day) (none, p)).1
def dayN (ns : List Int) (p : Int) (t : Nat) (s : List Int × List Nat) : List Int × List Nat :=
  (s.1.set ((pick ns s.1 p t).getD 0) (s.1.getD ((pick ns s.1 p t).getD 0) 0 + 1), s.2 ++ [(pick ns s.1 p t).getD 0])
def dayS (ns : List Int) (p : Int) : Nat → List Int × List Nat
  | 0 => (List.replicate ns.length 0, [])
  | t + 1 => dayN ns p t (dayS ns p t)
structure Cnt (ns : List Int) (p : Int) : Prop where
  pos : ∀ n ∈ ns, 0 < n
  sum : ns.sum = p
theorem sum_nonneg : ∀ {ns : List Int}, (∀ n ∈ ns, 0 < n) → 0 ≤ ns.sum
  | [], _ => Int.le_refl _
  | n :: r, h => by
    rw [List.sum_cons]
    have := h n (List.mem_cons_self ..)
    have := sum_nonneg (ns := r) fun m hm => h m (List.mem_cons_of_mem _ hm)
    omega
theorem le_sum : ∀ {ns : List Int}, (∀ n ∈ ns, 0 < n) → ∀ n ∈ ns, n ≤ ns.sum
  | [], _, _, hm => nomatch hm
  | n :: r, h, m, hm => by
    rw [List.sum_cons]
    have h0 := h n (List.mem_cons_self ..)
    have h1 := sum_nonneg (ns := r) fun m hm => h m (List.mem_cons_of_mem _ hm)
    rcases List.mem_cons.mp hm with rfl | hm
    · omega
    · have := le_sum (fun m hm => h m (List.mem_cons_of_mem _ hm)) m hm
      omega
theorem fold_some {gone : List Int} {p day : Int} : ∀ (zs : List (Int × Nat)) (s : Option Nat × Int), (s.1 = none → s.2 = p) → (s.1 ≠ none ∨ ∃ z ∈ zs, gone.getD z.2 0 < z.1 ∧ firstD (gone.getD z.2 0) z.1 p ≤ day ∧ lastD (gone.getD z.2 0) z.1 p < p) →
    (zs.foldl (pickF gone p day) s).1 ≠ none
  | [], s, _, h => h.elim id fun ⟨z, hz, _⟩ => nomatch hz
  | y :: r, s, h0, h => by
    rw [List.foldl_cons]
    refine fold_some r _ (fun e => ?_) ?_
    · unfold pickF at e ⊢
      split at e
      · cases e
      · rename_i c
        rw [if_neg c]
        exact h0 e
    · by_cases c : gone.getD y.2 0 < y.1 ∧ firstD (gone.getD y.2 0) y.1 p ≤ day ∧ lastD (gone.getD y.2 0) y.1 p < s.2
      · left
        unfold pickF
        rw [if_pos c]
        exact fun z => nomatch z
      · have e : pickF gone p day s y = s := by unfold pickF; rw [if_neg c]
        rw [e]
        by_cases hs : s.1 = none
        · rcases h with h | ⟨z, hz, hc⟩
          · exact absurd hs h
          · rcases List.mem_cons.mp hz with rfl | hz
            · rw [h0 hs] at c
              exact absurd hc c
            · exact .inr ⟨z, hz, hc⟩
        · exact .inl hs
theorem fold_from {gone : List Int} {p day : Int} {k : Nat} : ∀ (zs : List (Int × Nat)) (s : Option Nat × Int), (zs.foldl (pickF gone p day) s).1 = some k → s.1 = some k ∨ ∃ z ∈ zs, z.2 = k ∧ gone.getD k 0 < z.1
  | [], s, h => .inl h
  | y :: r, s, h => by
    rw [List.foldl_cons] at h
    rcases fold_from r _ h with h | ⟨z, hz, hc⟩
    · unfold pickF at h
      split at h
      · rename_i c
        cases h
        exact .inr ⟨y, List.mem_cons_self .., rfl, c.1⟩
      · exact .inl h
    · exact .inr ⟨z, List.mem_cons_of_mem _ hz, hc⟩
theorem sum_cmp {p q : Int} : ∀ (gs ns : List Int), gs.length = ns.length → (∀ k, k < ns.length → q * ns.getD k 0 ≤ gs.getD k 0 * p) → q * ns.sum ≤ gs.sum * p
  | [], [], _, _ => by simp
  | g :: gs, n :: ns, hl, h => by
    rw [List.sum_cons, List.sum_cons, Int.mul_add, Int.add_mul]
    have h0 := h 0 (by simp)
    have ih := sum_cmp gs ns (by simpa using hl) fun k hk => by
      have := h (k + 1) (by simpa using hk)
      simpa using this
    have h0 : q * n ≤ g * p := by simpa using h0
    omega
theorem lastD_lt {g c p : Int} (hc : 0 < c) (hp : 0 ≤ p) (hg : g < c) : lastD g c p < p := by
  unfold lastD
  have h1 : (g + 1) * p ≤ c * p := Int.mul_le_mul_of_nonneg_right (by omega) hp
  have h2 : -p ≤ -(g + 1) * p / c := Int.le_ediv_of_mul_le hc (by rw [Int.neg_mul, Int.neg_mul, Int.mul_comm p c]; omega)
  omega
theorem ceil_eq {x c : Int} (hc : 0 < c) : (x + c - 1) / c = -(-x / c) := by
  have h1 := Int.mul_ediv_add_emod (-x) c
  have h2 := Int.emod_nonneg (-x) (show c ≠ 0 by omega)
  have h3 := Int.emod_lt_of_pos (-x) hc
  generalize -x / c = q at *
  generalize -x % c = r at *
  refine ((Int.ediv_emod_unique hc (r := c - 1 - r)).mpr ⟨?_, by omega, by omega⟩).1
  rw [Int.mul_neg]
  omega
theorem lastD_eq {g c p : Int} (hc : 0 < c) : ((g + 1) * p + c - 1) / c - 1 = lastD g c p := by
  rw [ceil_eq hc]
  unfold lastD
  rw [Int.neg_mul]
structure DayOk (ns : List Int) (p : Int) (t : Nat) (s : List Int × List Nat) : Prop where
  len : s.1.length = ns.length
  low : ∀ k, k < ns.length → 0 ≤ s.1.getD k 0
  up : ∀ k, k < ns.length → s.1.getD k 0 ≤ ns.getD k 0
  sum : s.1.sum = t
  olen : s.2.length = t
  omem : ∀ k ∈ s.2, k < ns.length
theorem pick_ok {ns : List Int} {p : Int} {t : Nat} {s : List Int × List Nat} (C : Cnt ns p) (S : DayOk ns p t s) (ht : (t : Int) < p) : ∃ k, pick ns s.1 p t = some k ∧ k < ns.length ∧ s.1.getD k 0 < ns.getD k 0 := by
  have ex : ∃ k, k < ns.length ∧ s.1.getD k 0 * p < ((t : Int) + 1) * ns.getD k 0 := by
    refine Classical.byContradiction fun z => ?_
    have := sum_cmp (p := p) (q := (t : Int) + 1) s.1 ns S.len fun k hk => Int.not_lt.mp fun h => z ⟨k, hk, h⟩
    rw [S.sum, C.sum, Int.add_mul] at this
    omega
  obtain ⟨k, hk, he⟩ := ex
  have hm : (ns.getD k 0, k) ∈ ns.zipIdx := by
    rw [List.mem_zipIdx_iff_getElem?, List.getD_eq_getElem?_getD, List.getElem?_eq_getElem hk]
    rfl
  have hn : 0 < ns.getD k 0 := by
    rw [List.getD_eq_getElem?_getD, List.getElem?_eq_getElem hk]
    exact C.pos _ (List.getElem_mem hk)
  have hg : s.1.getD k 0 < ns.getD k 0 := by
    refine Int.not_le.mp fun z => ?_
    have h1 : ns.getD k 0 * p ≤ s.1.getD k 0 * p := Int.mul_le_mul_of_nonneg_right z (by omega)
    have h2 : ((t : Int) + 1) * ns.getD k 0 ≤ p * ns.getD k 0 := Int.mul_le_mul_of_nonneg_right (by omega) (by omega)
    rw [Int.mul_comm p] at h2
    omega
  have hf : firstD (s.1.getD k 0) (ns.getD k 0) p ≤ t := by
    unfold firstD
    have := Int.ediv_lt_of_lt_mul hn he
    omega
  have hs := fold_some (gone := s.1) (p := p) (day := t) ns.zipIdx (none, p) (fun _ => rfl) (.inr ⟨_, hm, hg, hf, lastD_lt hn (by omega) hg⟩)
  cases e : pick ns s.1 p t with
  | none => exact absurd e hs
  | some j =>
    rcases fold_from _ _ e with z | ⟨z, hz, rfl, hc⟩
    · cases z
    · have h1 := List.mem_zipIdx_iff_getElem?.mp hz
      obtain ⟨h2, h3⟩ := List.getElem?_eq_some_iff.mp h1
      refine ⟨_, rfl, h2, ?_⟩
      rw [List.getD_eq_getElem?_getD (l := ns), h1]
      exact hc
theorem sum_set1 : ∀ (gs : List Int) (k : Nat), k < gs.length → (gs.set k (gs.getD k 0 + 1)).sum = gs.sum + 1
  | g :: gs, 0, _ => by simp; omega
  | g :: gs, k + 1, h => by
    have := sum_set1 gs k (by simpa using h)
    rw [List.set_cons_succ, List.sum_cons, List.sum_cons]
    simp only [List.getD_cons_succ]
    omega
theorem getD_set1 (gs : List Int) (j k : Nat) (v : Int) (hk : k < gs.length) : (gs.set k v).getD j 0 = if j = k then v else gs.getD j 0 := by
  rw [List.getD_eq_getElem?_getD, List.getElem?_set, List.getD_eq_getElem?_getD]
  by_cases c : j = k
  · subst c; rw [if_pos rfl, if_pos hk, if_pos rfl]; rfl
  · rw [if_neg (Ne.symm c), if_neg c]
theorem day_ok {ns : List Int} {p : Int} (C : Cnt ns p) : ∀ t : Nat, (t : Int) ≤ p → DayOk ns p t (dayS ns p t)
  | 0, _ => ⟨by simp [dayS], fun k hk => by simp [dayS, List.getD_eq_getElem?_getD, List.getElem?_replicate, hk], fun k hk => by
      have : 0 < ns.getD k 0 := by
        rw [List.getD_eq_getElem?_getD, List.getElem?_eq_getElem hk]
        exact C.pos _ (List.getElem_mem hk)
      simp [dayS, List.getD_eq_getElem?_getD, List.getElem?_replicate, hk] at this ⊢
      omega, by simp [dayS], rfl, fun k hk => nomatch hk⟩
  | t + 1, ht => by
    have S := day_ok C t (by omega)
    obtain ⟨k, hp, hk, hg⟩ := pick_ok C S (by omega)
    show DayOk ns p (t + 1) (dayN ns p t (dayS ns p t))
    unfold dayN
    rw [hp]
    have hk' : k < (dayS ns p t).1.length := by rw [S.len]; exact hk
    refine ⟨by rw [List.length_set]; exact S.len, fun j hj => ?_, fun j hj => ?_, ?_, by rw [List.length_append, S.olen]; rfl, fun j hj => ?_⟩
    · show 0 ≤ ((dayS ns p t).1.set k _).getD j 0
      rw [getD_set1 _ _ _ _ hk']
      have := S.low j hj
      have h2 := S.low k hk
      split
      · show 0 ≤ (dayS ns p t).1.getD k 0 + 1; omega
      · exact this
    · show ((dayS ns p t).1.set k _).getD j 0 ≤ _
      rw [getD_set1 _ _ _ _ hk']
      have := S.up j hj
      split
      · rename_i e; subst e; show (dayS ns p t).1.getD j 0 + 1 ≤ _; omega
      · exact this
    · show ((dayS ns p t).1.set k ((dayS ns p t).1.getD k 0 + 1)).sum = _
      rw [sum_set1 _ _ hk', S.sum]
      omega
    · rcases List.mem_append.mp hj with hj | hj
      · exact S.omem j hj
      · rw [List.mem_singleton] at hj; subst hj; exact hk
def ordM (ns : List Int) (p : Int) : List Nat := (dayS ns p p.toNat).2
end N67
set_option Elab.async false
set_option linter.all false
set_option maxRecDepth 100000
set_option maxHeartbeats 4000000
set_option exponentiation.threshold 20000
namespace N67
open PySem PySem.Spec PyProof.Rows L2 Nod
/-! ### the walks of the calendar -/
theorem del_two' {μ : Mu} {d o : Addr} {x y : MO} (ho : μ o = none) (hne : o ≠ d) : delM (updM (updM μ d x) o y) o = updM μ d x := delM_updM (by rw [updM_ne hne]; exact ho)
def Mext (μ μ' : Mu) : Prop := ∀ a m, μ a = some m → μ' a = some m
theorem Mext.refl (μ : Mu) : Mext μ μ := fun _ _ h => h
theorem Mext.trans {a b c : Mu} (h : Mext a b) (g : Mext b c) : Mext a c := fun x m e => g x m (h x m e)
theorem Mext.upd {μ μ' : Mu} (h : Mext μ μ') {p : Addr} {o : MO} (hp : μ' p = none) : Mext μ (updM μ' p o) := fun a m e => by
  have e' := h a m e
  rw [updM_ne fun z => by rw [z, hp] at e'; cases e']; exact e'
theorem Mext.set {μ μ' : Mu} {p : Addr} {o : MO} (h : Mext μ μ') (hp : μ p = none) : Mext μ (updM μ' p o) := fun a m e => by
  rw [updM_ne fun z => by rw [z, hp] at e; cases e]; exact h a m e
theorem Mext.none {μ μ' : Mu} (h : Mext μ μ') {p : Addr} (hp : μ' p = none) : μ p = none := by
  cases e : μ p with
  | none => rfl
  | some m => rw [h p m e] at hp; cases hp
theorem lcGM {α : Type} {n : Nat} {fn : Nat → D} {f : α → D} {xs : List α} {g : DG} {tt : DTT} {te : DT} {vs : List Nat} {Γ : DEn} {μ : Mu} {R : DK} (Rw : Rows n fn f xs) (p : α → Bool) (e : α → D) (hz : xs.length < sizeLine)
    (turn : ∀ x, x ∈ xs → ∀ (Q : D → Mu → Prop) (Q' : Mu → Prop), (p x = true → Q (e x) μ) → (p x = false → Q' μ) → g (f x) (wipeD Γ vs) μ fun Γ2 μ2 => tt Γ2 μ2 fun b μ3 => if b = true then te Γ2 μ3 Q else Q' μ3)
    (fin : ∀ q, μ q = none → R (.adr q) (updM μ q (.lst ((xs.filter p).map e)))) :
    lcKM n fn g tt te vs Γ μ R := by
  refine ⟨fun i acc μ' => acc = ((xs.take i).filter p).map e ∧ μ' = μ, ⟨by simp, rfl⟩, fun i acc μ' hi hP => ?_, fun acc μ' hP => ?_⟩
  · obtain ⟨rfl, rfl⟩ := hP
    have hi' : i < xs.length := by rw [Rw.len]; exact hi
    have hl : (((xs.take i).filter p).map e).length < sizeLine := by
      rw [List.length_map]
      have := List.length_filter_le p (xs.take i)
      rw [List.length_take] at this
      omega
    refine ⟨hl, ?_⟩
    rw [Rw.row i hi']
    refine turn xs[i] (List.getElem_mem hi') (fun y μ4 => _) (fun μ3 => _) (fun hp => ⟨?_, rfl⟩) fun hp => ⟨?_, rfl⟩
    · rw [take_one hi', List.filter_append, List.map_append]
      simp [hp]
    · rw [take_one hi', List.filter_append, List.map_append]
      simp [hp]
  · obtain ⟨rfl, rfl⟩ := hP
    have e : xs.length = n := Rw.len
    rw [← e, List.take_length]
    exact fin
def sp__first_day : DSp := SP 3 fun ds μ R RX => ∃ g c p : Int, ds = [.int g, .int c, .int p] ∧ 0 ≤ g ∧ g ≤ 400 ∧ 0 < c ∧ c ≤ 400 ∧ 0 ≤ p ∧ p ≤ 400 ∧ R (.int (firstD g c p)) μ
theorem sc__first_day : FnScope ["done", "count", "period"] ["done", "count", "period"] (defScope (top 23)) := ⟨rfl, rfl, rfl, by decide +kernel, rfl, by decide +kernel, by decide +kernel⟩
theorem fn__first_day {P : Program} {w : World} {K : PySem.W.Frag} {mg : Str → Option Value} {base : Heap} {fd : FuncData} (V : Env K mg) (F : FunD K "_first_day" "_first_day" (defArgs (top 23)) (defBody (top 23)) (defScope (top 23)) [] [] (He.ga K "_first_day") fd)   : FnOk P w K mg base (L2.CX P w) 1 (He.ga K "_first_day") fd ["done", "count", "period"] (low K sp__first_day) := by
  refine fn_data F sc__first_day (fun ds μ R RX h => h.1) (fun cdv A outer s H E RX hr L hW hU => ⟨_, (dss_one (dst_ret (de_op o_div (de_op o_mul (dv 0) (dv 2)) (dv 1)))), fun ds μ R h => ?_⟩)
  obtain ⟨-, g, c, p, rfl, g0, g1, c0, c1, p0, p1, hR⟩ := h
  simp only [dDropM, dLc, dFor, dISeq, dIRng1, dIRng2, dIZip, dIEnum, dSeq, dCall, SP, dFldC, dIfS, dAnd, dOr, dNot, dTest, dOp, dUn, dVar, dC, qI, qI0, qU, dNext, dRet, dRetN, dRaise, dCons, dNil, dTup, dLst, dSet, dPar, dAsg, dAug, dDrop, dgName, dgTup, dgNil, dgCons, dAndV, dOrV, dNotV, dIf, dCl, startD, List.map_cons, List.map_nil, List.length_cons, List.length_nil, List.cons_append, List.nil_append, List.append_nil, List.replicate, List.getElem?_cons_zero, List.getElem?_cons_succ, List.set_cons_zero, List.set_cons_succ, Option.some.injEq, List.cons.injEq, and_true, true_and, exists_eq_left', exists_eq_left, exists_eq, exists_eq', D.int.injEq, D.bl.injEq, D.tup.injEq, D.lst.injEq, D.adr.injEq, exists_and_left, and_assoc, exists_and_right, if_true, ite_true, decide_eq_true_eq, exists_eq_right, exists_eq_right', Nat.add_zero, Nat.sub_self, Nat.reduceSub, Nat.reduceAdd, eq_self]
  exact ⟨wide_mul (a := 10) (b := 10) (by omega) (by omega) (by decide) (by decide) (by decide), wide_div (b := 10) c0 (by omega) (by decide) (by decide), hR⟩
def sp__last_day : DSp := SP 3 fun ds μ R RX => ∃ g c p : Int, ds = [.int g, .int c, .int p] ∧ 0 ≤ g ∧ g ≤ 400 ∧ 0 < c ∧ c ≤ 400 ∧ 0 ≤ p ∧ p ≤ 400 ∧ R (.int (lastD g c p)) μ
theorem sc__last_day : FnScope ["done", "count", "period"] ["done", "count", "period"] (defScope (top 24)) := ⟨rfl, rfl, rfl, by decide +kernel, rfl, by decide +kernel, by decide +kernel⟩
theorem fn__last_day {P : Program} {w : World} {K : PySem.W.Frag} {mg : Str → Option Value} {base : Heap} {fd : FuncData} (V : Env K mg) (F : FunD K "_last_day" "_last_day" (defArgs (top 24)) (defBody (top 24)) (defScope (top 24)) [] [] (He.ga K "_last_day") fd)   : FnOk P w K mg base (L2.CX P w) 1 (He.ga K "_last_day") fd ["done", "count", "period"] (low K sp__last_day) := by
  refine fn_data F sc__last_day (fun ds μ R RX h => h.1) (fun cdv A outer s H E RX hr L hW hU => ⟨_, (dss_one (dst_ret (de_op o_sub (de_un o_neg (de_op o_div (de_op o_mul (de_un o_neg (de_op o_add (dv 0) de_int)) (dv 2)) (dv 1))) de_int))), fun ds μ R h => ?_⟩)
  obtain ⟨-, g, c, p, rfl, g0, g1, c0, c1, p0, p1, hR⟩ := h
  simp only [dDropM, dLc, dFor, dISeq, dIRng1, dIRng2, dIZip, dIEnum, dSeq, dCall, SP, dFldC, dIfS, dAnd, dOr, dNot, dTest, dOp, dUn, dVar, dC, qI, qI0, qU, dNext, dRet, dRetN, dRaise, dCons, dNil, dTup, dLst, dSet, dPar, dAsg, dAug, dDrop, dgName, dgTup, dgNil, dgCons, dAndV, dOrV, dNotV, dIf, dCl, startD, List.map_cons, List.map_nil, List.length_cons, List.length_nil, List.cons_append, List.nil_append, List.append_nil, List.replicate, List.getElem?_cons_zero, List.getElem?_cons_succ, List.set_cons_zero, List.set_cons_succ, Option.some.injEq, List.cons.injEq, and_true, true_and, exists_eq_left', exists_eq_left, exists_eq, exists_eq', D.int.injEq, D.bl.injEq, D.tup.injEq, D.lst.injEq, D.adr.injEq, exists_and_left, and_assoc, exists_and_right, if_true, ite_true, decide_eq_true_eq, exists_eq_right, exists_eq_right', Nat.add_zero, Nat.sub_self, Nat.reduceSub, Nat.reduceAdd, eq_self]
  exact ⟨wide_mul (a := 10) (b := 10) (by omega) (by omega) (by decide) (by decide) (by decide), wide_div (b := 10) c0 (by omega) (by decide) (by decide), hR⟩
theorem pickF_yes {gone : List Int} {p day : Int} {s : Option Nat × Int} {z : Int × Nat} {g : Int} (e : gone.getD z.2 0 = g) (h : g < z.1 ∧ firstD g z.1 p ≤ day ∧ lastD g z.1 p < s.2) : pickF gone p day s z = (some z.2, lastD g z.1 p) := by
  subst e; unfold pickF; rw [if_pos h]
theorem pickF_no {gone : List Int} {p day : Int} {s : Option Nat × Int} {z : Int × Nat} {g : Int} (e : gone.getD z.2 0 = g) (h : ¬ (g < z.1 ∧ firstD g z.1 p ≤ day ∧ lastD g z.1 p < s.2)) : pickF gone p day s z = s := by
  subst e; unfold pickF; rw [if_neg h]
def oD : Option Nat → D
  | none => .non
  | some k => .int k
theorem at_getD {l : List Int} {k : Nat} (h : k < l.length) : (l.map D.int)[k]? = some (.int (l.getD k 0)) := by
  rw [List.getElem?_map, List.getElem?_eq_getElem h, List.getD_eq_getElem?_getD, List.getElem?_eq_getElem h]; rfl
def natI (l : List Nat) : List D := l.map fun k : Nat => D.int k
def sp__spread : DSp := SP 2 fun ds μ R RX => ∃ (ns : List Int) (p : Int), ds = [.lst (ns.map D.int), .int p] ∧ Cnt ns p ∧ 0 < p ∧ p ≤ 400 ∧ ns.length ≤ 1000 ∧ R (.lst (natI (ordM ns p))) μ
theorem sc__spread : FnScope ["counts", "period", "done", "order", "today", "best", "limit", "at", "count", "last"] ["counts", "period"] (defScope (top 25)) := ⟨rfl, rfl, rfl, by decide +kernel, rfl, by decide +kernel, by decide +kernel⟩
theorem fn__spread {P : Program} {w : World} {K : PySem.W.Frag} {mg : Str → Option Value} {base : Heap} {fd : FuncData} (V : Env K mg) (F : FunD K "_spread" "_spread" (defArgs (top 25)) (defBody (top 25)) (defScope (top 25)) [] [] (He.ga K "_spread") fd)  (D__last_day : DFn P w K mg base 1 (He.ga K "_last_day") ["done", "count", "period"] [] sp__last_day) (D__first_day : DFn P w K mg base 1 (He.ga K "_first_day") ["done", "count", "period"] [] sp__first_day) : FnOk P w K mg base (L2.CX P w) 2 (He.ga K "_spread") fd ["counts", "period"] (low K sp__spread) := by
  refine fn_data F sc__spread (fun ds μ R RX h => h.1) (fun cdv A outer s H E RX hr L hW hU => ⟨_, (dss_cons (dst_set (i := 2) sc__spread.nd (de_op o_repM (de_lst (da_cons de_int da_nil)) (de_callB c_len V.f_len (da_cons (dv 0) da_nil))))
      (dss_cons (dst_set (i := 3) sc__spread.nd (de_lstM da_nil))
      (dss_cons (dst_for (passes_of rfl) rfl (di_rng1 V.f_range (da_cons (dv 1) da_nil)) (dg_name (i := 4) sc__spread.nd) (dss_cons (dst_set (i := 5) sc__spread.nd de_non)
      (dss_cons (dst_set (i := 6) sc__spread.nd (dv 1))
      (dss_cons (dst_for (passes_of rfl) rfl (di_enum V.f_enumerate (da_cons (dv 0) da_nil)) (dg_tup (n := 2) rfl (dgs_cons (dg_name (i := 7) sc__spread.nd) (dgs_cons (dg_name (i := 8) sc__spread.nd) dgs_nil))) (dss_one (dst_if (dt_w (dw_and (dt_cmp o_lt (de_ix o_ix (dv 2) (dv 7)) (dv 8)) (dw_and1 (dt_cmp o_le (de_call D__first_day (hr.mono (by decide)) V.g__first_day (da_cons (de_ix o_ix (dv 2) (dv 7)) (da_cons (dv 8) (da_cons (dv 1) da_nil)))) (dv 4))))) (dss_cons (dst_set (i := 9) sc__spread.nd (de_call D__last_day (hr.mono (by decide)) V.g__last_day (da_cons (de_ix o_ix (dv 2) (dv 7)) (da_cons (dv 8) (da_cons (dv 1) da_nil)))))
      (dss_one (dst_if (dt_cmp o_lt (dv 9) (dv 6)) (dss_cons (dst_set (i := 5) sc__spread.nd (dv 7))
      (dss_one (dst_set (i := 6) sc__spread.nd (dv 9)))) dss_nil))) dss_nil)))
      (dss_cons (dst_expr (de_append (dv 3) (dv 5)))
      (dss_one (dst_augIx_add (dv 2) (dv 5) de_int)))))))
      (dss_one (dst_ret (de_drop (de_com (dv 3)))))))), fun ds μ R h => ?_⟩)
  obtain ⟨-, ns, p, rfl, C, p0, p1, hl, hR⟩ := h
  have hsz := sizeLine_eq
  simp only [dDropM, dLc, dFor, dISeq, dIRng1, dIRng2, dIZip, dIEnum, dSeq, dCall, SP, dFldC, dIfS, dAnd, dOr, dNot, dTest, dOp, dUn, dVar, dC, qI, qI0, qU, dNext, dRet, dRetN, dRaise, dCons, dNil, dTup, dLst, dSet, dPar, dAsg, dAug, dDrop, dgName, dgTup, dgNil, dgCons, dAndV, dOrV, dNotV, dIf, dCl, startD, List.map_cons, List.map_nil, List.length_cons, List.length_nil, List.cons_append, List.nil_append, List.append_nil, List.replicate, List.getElem?_cons_zero, List.getElem?_cons_succ, List.set_cons_zero, List.set_cons_succ, Option.some.injEq, List.cons.injEq, and_true, true_and, exists_eq_left', exists_eq_left, exists_eq, exists_eq', D.int.injEq, D.bl.injEq, D.tup.injEq, D.lst.injEq, D.adr.injEq, exists_and_left, and_assoc, exists_and_right, if_true, ite_true, decide_eq_true_eq, exists_eq_right, exists_eq_right', Nat.add_zero, Nat.sub_self, Nat.reduceSub, Nat.reduceAdd, eq_self, qRepM, qLen, dLstM, dNil]
  refine ⟨one_le, _, rfl, by rw [List.length_map]; omega, by rw [List.length_map]; omega, by rw [List.length_map, Int.toNat_natCast]; omega, fun d hd => ⟨Nat.zero_le _, fun o ho => ⟨by omega, by omega, ?_⟩⟩⟩
  obtain ⟨hne, ho'⟩ := none_upd ho
  have hdo : ∀ (x y z : List D), updM (updM (updM μ d (.lst x)) o (.lst y)) d (.lst z) = updM (updM μ d (.lst z)) o (.lst y) := fun x y z => by
    rw [updM_comm (Ne.symm hne), updM_updM, updM_comm hne]
  have hat : ∀ (x y : List D), updM (updM μ d (.lst x)) o (.lst y) d = some (.lst x) := fun x y => by rw [updM_ne (Ne.symm hne)]; exact updM_same
  refine forG rows_rng (fun done _ Γ' μ' => ∃ (o4 o5 o6 o7 o8 o9 : Option D), Γ' = [some (.lst (ns.map D.int)), some (.int p), some (.adr d), some (.adr o), o4, o5, o6, o7, o8, o9] ∧ μ' = updM (updM μ d (.lst ((dayS ns p done.length).1.map D.int))) o (.lst (natI (dayS ns p done.length).2))) ⟨_, _, _, _, _, _, rfl, ?_⟩ (fun done k rest Γ' μ' hxs hI => ?_) fun Γ' μ' hI => ?_
  · congr 3
    simp [dayS]
  · obtain ⟨o4, o5, o6, o7, o8, o9, rfl, rfl⟩ := hI
    obtain ⟨rfl, hk⟩ := range_at hxs
    have S := day_ok C done.length (by omega)
    obtain ⟨j, hp, hj, hg⟩ := pick_ok C S (by omega)
    have hj' : j < (dayS ns p done.length).1.length := by rw [S.len]; exact hj
    simp only [dDropM, dLc, dFor, dISeq, dIRng1, dIRng2, dIZip, dIEnum, dSeq, dCall, SP, dFldC, dIfS, dAnd, dOr, dNot, dTest, dOp, dUn, dVar, dC, qI, qI0, qU, dNext, dRet, dRetN, dRaise, dCons, dNil, dTup, dLst, dSet, dPar, dAsg, dAug, dDrop, dgName, dgTup, dgNil, dgCons, dAndV, dOrV, dNotV, dIf, dCl, startD, List.map_cons, List.map_nil, List.length_cons, List.length_nil, List.cons_append, List.nil_append, List.append_nil, List.replicate, List.getElem?_cons_zero, List.getElem?_cons_succ, List.set_cons_zero, List.set_cons_succ, Option.some.injEq, List.cons.injEq, and_true, true_and, exists_eq_left', exists_eq_left, exists_eq, exists_eq', D.int.injEq, D.bl.injEq, D.tup.injEq, D.lst.injEq, D.adr.injEq, exists_and_left, and_assoc, exists_and_right, if_true, ite_true, decide_eq_true_eq, exists_eq_right, exists_eq_right', Nat.add_zero, Nat.sub_self, Nat.reduceSub, Nat.reduceAdd, eq_self]
    refine forG rows_enum (fun done' _ Γ' μ' => ∃ (o7 o8 o9 : Option D), Γ' = [some (.lst (ns.map D.int)), some (.int p), some (.adr d), some (.adr o), some (.int done.length), some (oD (done'.foldl (pickF (dayS ns p done.length).1 p done.length) (none, p)).1), some (.int (done'.foldl (pickF (dayS ns p done.length).1 p done.length) (none, p)).2), o7, o8, o9] ∧ μ' = updM (updM μ d (.lst ((dayS ns p done.length).1.map D.int))) o (.lst (natI (dayS ns p done.length).2))) ⟨_, _, _, rfl, rfl⟩ (fun done' z rest' Γ' μ' hxs' hI' => ?_) fun Γ' μ' hI' => ?_
    · obtain ⟨o7, o8, o9, rfl, rfl⟩ := hI'
      have hz : z ∈ ns.zipIdx := by rw [hxs']; simp
      have hz1 := List.mem_zipIdx_iff_getElem?.mp hz
      obtain ⟨hz2, hz3⟩ := List.getElem?_eq_some_iff.mp hz1
      have hzd : ns.getD z.2 0 = z.1 := by rw [List.getD_eq_getElem?_getD, hz1]; rfl
      have c0 := C.pos z.1 (by rw [← hz3]; exact List.getElem_mem hz2)
      have c1 := le_sum C.pos z.1 (by rw [← hz3]; exact List.getElem_mem hz2)
      rw [C.sum] at c1
      have g0 := S.low z.2 hz2
      have g1 := S.up z.2 hz2
      rw [hzd] at g1
      have hgz : atI ((dayS ns p done.length).1.map D.int) (z.2 : Int) = some (.int ((dayS ns p done.length).1.getD z.2 0)) := atI_natD rfl (at_getD (by rw [S.len]; exact hz2))
      have eN : (done' ++ [z]).foldl (pickF (dayS ns p done.length).1 p done.length) (none, p) = pickF (dayS ns p done.length).1 p done.length (done'.foldl (pickF (dayS ns p done.length).1 p done.length) (none, p)) z := by rw [List.foldl_append]; rfl
      rw [eN]
      generalize done'.foldl (pickF (dayS ns p done.length).1 p done.length) (none, p) = s
      generalize hgE : (dayS ns p done.length).1.getD z.2 0 = g at g0 g1 hgz
      simp only [dDropM, dLc, dFor, dISeq, dIRng1, dIRng2, dIZip, dIEnum, dSeq, dCall, SP, dFldC, dIfS, dAnd, dOr, dNot, dTest, dOp, dUn, dVar, dC, qI, qI0, qU, dNext, dRet, dRetN, dRaise, dCons, dNil, dTup, dLst, dSet, dPar, dAsg, dAug, dDrop, dgName, dgTup, dgNil, dgCons, dAndV, dOrV, dNotV, dIf, dCl, startD, List.map_cons, List.map_nil, List.length_cons, List.length_nil, List.cons_append, List.nil_append, List.append_nil, List.replicate, List.getElem?_cons_zero, List.getElem?_cons_succ, List.set_cons_zero, List.set_cons_succ, Option.some.injEq, List.cons.injEq, and_true, true_and, exists_eq_left', exists_eq_left, exists_eq, exists_eq', D.int.injEq, D.bl.injEq, D.tup.injEq, D.lst.injEq, D.adr.injEq, exists_and_left, and_assoc, exists_and_right, if_true, ite_true, decide_eq_true_eq, exists_eq_right, exists_eq_right', Nat.add_zero, Nat.sub_self, Nat.reduceSub, Nat.reduceAdd, eq_self]
      refine ix_ok (seq_adr (hat _ _)) hgz ⟨g, rfl, ?_⟩
      by_cases ca : g < z.1
      · rw [if_pos ca]
        refine ix_ok (seq_adr (hat _ _)) hgz ⟨rfl, g, z.1, p, rfl, g0, by omega, c0, by omega, by omega, by omega, _, rfl, ?_⟩
        by_cases cb : firstD g z.1 p ≤ done.length
        · rw [if_pos cb]
          refine ix_ok (seq_adr (hat _ _)) hgz ⟨rfl, g, z.1, p, rfl, g0, by omega, c0, by omega, by omega, by omega, ?_⟩
          by_cases cc : lastD g z.1 p < s.2
          · simp only [dDropM, dLc, dFor, dISeq, dIRng1, dIRng2, dIZip, dIEnum, dSeq, dCall, SP, dFldC, dIfS, dAnd, dOr, dNot, dTest, dOp, dUn, dVar, dC, qI, qI0, qU, dNext, dRet, dRetN, dRaise, dCons, dNil, dTup, dLst, dSet, dPar, dAsg, dAug, dDrop, dgName, dgTup, dgNil, dgCons, dAndV, dOrV, dNotV, dIf, dCl, startD, List.map_cons, List.map_nil, List.length_cons, List.length_nil, List.cons_append, List.nil_append, List.append_nil, List.replicate, List.getElem?_cons_zero, List.getElem?_cons_succ, List.set_cons_zero, List.set_cons_succ, Option.some.injEq, List.cons.injEq, and_true, true_and, exists_eq_left', exists_eq_left, exists_eq, exists_eq', D.int.injEq, D.bl.injEq, D.tup.injEq, D.lst.injEq, D.adr.injEq, exists_and_left, and_assoc, exists_and_right, if_true, ite_true, decide_eq_true_eq, exists_eq_right, exists_eq_right', Nat.add_zero, Nat.sub_self, Nat.reduceSub, Nat.reduceAdd, eq_self, if_pos cc, pickF_yes hgE ⟨ca, cb, cc⟩, oD]
          · simp only [dDropM, dLc, dFor, dISeq, dIRng1, dIRng2, dIZip, dIEnum, dSeq, dCall, SP, dFldC, dIfS, dAnd, dOr, dNot, dTest, dOp, dUn, dVar, dC, qI, qI0, qU, dNext, dRet, dRetN, dRaise, dCons, dNil, dTup, dLst, dSet, dPar, dAsg, dAug, dDrop, dgName, dgTup, dgNil, dgCons, dAndV, dOrV, dNotV, dIf, dCl, startD, List.map_cons, List.map_nil, List.length_cons, List.length_nil, List.cons_append, List.nil_append, List.append_nil, List.replicate, List.getElem?_cons_zero, List.getElem?_cons_succ, List.set_cons_zero, List.set_cons_succ, Option.some.injEq, List.cons.injEq, and_true, true_and, exists_eq_left', exists_eq_left, exists_eq, exists_eq', D.int.injEq, D.bl.injEq, D.tup.injEq, D.lst.injEq, D.adr.injEq, exists_and_left, and_assoc, exists_and_right, if_true, ite_true, decide_eq_true_eq, exists_eq_right, exists_eq_right', Nat.add_zero, Nat.sub_self, Nat.reduceSub, Nat.reduceAdd, eq_self, if_neg cc, pickF_no hgE (fun h => cc h.2.2)]
        · rw [if_neg cb, pickF_no hgE fun h => cb h.2.1]
          exact ⟨rfl, rfl, rfl⟩
      · rw [if_neg ca, pickF_no hgE fun h => ca h.1, if_neg (by decide)]
        exact ⟨rfl, rfl, rfl⟩
    · obtain ⟨o7, o8, o9, rfl, rfl⟩ := hI'
      have hb : (ns.zipIdx.foldl (pickF (dayS ns p done.length).1 p done.length) (none, p)).1 = some j := hp
      rw [hb]
      simp only [dDropM, dLc, dFor, dISeq, dIRng1, dIRng2, dIZip, dIEnum, dSeq, dCall, SP, dFldC, dIfS, dAnd, dOr, dNot, dTest, dOp, dUn, dVar, dC, qI, qI0, qU, dNext, dRet, dRetN, dRaise, dCons, dNil, dTup, dLst, dSet, dPar, dAsg, dAug, dDrop, dgName, dgTup, dgNil, dgCons, dAndV, dOrV, dNotV, dIf, dCl, startD, List.map_cons, List.map_nil, List.length_cons, List.length_nil, List.cons_append, List.nil_append, List.append_nil, List.replicate, List.getElem?_cons_zero, List.getElem?_cons_succ, List.set_cons_zero, List.set_cons_succ, Option.some.injEq, List.cons.injEq, and_true, true_and, exists_eq_left', exists_eq_left, exists_eq, exists_eq', D.int.injEq, D.bl.injEq, D.tup.injEq, D.lst.injEq, D.adr.injEq, exists_and_left, and_assoc, exists_and_right, if_true, ite_true, decide_eq_true_eq, exists_eq_right, exists_eq_right', Nat.add_zero, Nat.sub_self, Nat.reduceSub, Nat.reduceAdd, eq_self, dAppend, dAugIx, oD]
      have eN : dayS ns p (done ++ [done.length]).length = ((dayS ns p done.length).1.set j ((dayS ns p done.length).1.getD j 0 + 1), (dayS ns p done.length).2 ++ [j]) := by
        rw [List.length_append]
        show dayN ns p done.length (dayS ns p done.length) = _
        unfold dayN
        rw [hp]
        rfl
      have hol : (natI (dayS ns p done.length).2).length = done.length := by unfold natI; rw [List.length_map, S.olen]
      refine ⟨⟨_, updM_same⟩, _, updM_same, by rw [hol]; omega, by omega, _, by rw [updM_updM]; exact hat _ _, _, atI_natD rfl (at_getD hj'), ?_⟩
      rw [updM_updM, hdo, eN]
      congr 1
      · congr 2
        rw [Int.toNat_natCast, List.map_set]
      · congr 1
        unfold natI
        rw [List.map_append]
        rfl
  · obtain ⟨o4, o5, o6, o7, o8, o9, rfl, rfl⟩ := hI
    simp only [dDropM, dLc, dFor, dISeq, dIRng1, dIRng2, dIZip, dIEnum, dSeq, dCall, SP, dFldC, dIfS, dAnd, dOr, dNot, dTest, dOp, dUn, dVar, dC, qI, qI0, qU, dNext, dRet, dRetN, dRaise, dCons, dNil, dTup, dLst, dSet, dPar, dAsg, dAug, dDrop, dgName, dgTup, dgNil, dgCons, dAndV, dOrV, dNotV, dIf, dCl, startD, List.map_cons, List.map_nil, List.length_cons, List.length_nil, List.cons_append, List.nil_append, List.append_nil, List.replicate, List.getElem?_cons_zero, List.getElem?_cons_succ, List.set_cons_zero, List.set_cons_succ, Option.some.injEq, List.cons.injEq, and_true, true_and, exists_eq_left', exists_eq_left, exists_eq, exists_eq', D.int.injEq, D.bl.injEq, D.tup.injEq, D.lst.injEq, D.adr.injEq, exists_and_left, and_assoc, exists_and_right, if_true, ite_true, decide_eq_true_eq, exists_eq_right, exists_eq_right', Nat.add_zero, Nat.sub_self, Nat.reduceSub, Nat.reduceAdd, eq_self, dDropM, dCom]
    rw [List.length_range]
    refine ⟨_, updM_same, d, .lst ((dayS ns p p.toNat).1.map D.int), ?_, rfl, ?_⟩
    · rw [delM_ne (Ne.symm hne)]; exact hat _ _
    · rw [del_two' ho' hne, delM_updM hd]
      exact hR
end N67
set_option Elab.async false
set_option linter.all false
set_option maxRecDepth 100000
set_option maxHeartbeats 4000000
set_option exponentiation.threshold 20000
namespace N67
open PySem PySem.Spec PyProof.Rows L2 Nod
def sp_Ratio___eq__ : DSp := SP 2 fun ds μ R RX => ∃ n d : Int, ds = [ratD n d, ratD n d] ∧ R (.bl true) μ
theorem sc_Ratio___eq__ : FnScope ["self", "other"] ["self", "other"] (defScope (inClass (top 32) 6)) := ⟨rfl, rfl, rfl, by decide +kernel, rfl, by decide +kernel, by decide +kernel⟩
theorem fn_Ratio___eq__ {P : Program} {w : World} {K : PySem.W.Frag} {mg : Str → Option Value} {base : Heap} {fd : FuncData} (V : Env K mg) (F : FunD K "__eq__" "Ratio.__eq__" (defArgs (inClass (top 32) 6)) (defBody (inClass (top 32) 6)) (defScope (inClass (top 32) 6)) [] [] (He.ma K (He.ga K "Ratio") "__eq__") fd)   : FnOk P w K mg base (L2.CX P w) 1 (He.ma K (He.ga K "Ratio") "__eq__") fd ["self", "other"] (low K sp_Ratio___eq__) := by
  refine fn_data F sc_Ratio___eq__ (fun ds μ R RX h => h.1) (fun cdv A outer s H E RX hr L hW hU => ⟨_, (dss_one (dst_ret (de_and (de_callB c_isi V.f_isinstance (da_cons (dv 1) (da_cons (de_cls V.g_Ratio) da_nil))) (de_and (de_cmp o_eq (de_fld "Ratio" (dv 0) V.c_Ratio V.n_Ratio_num) (de_fld "Ratio" (dv 1) V.c_Ratio V.n_Ratio_num)) (de_one (de_cmp o_eq (de_fld "Ratio" (dv 0) V.c_Ratio V.n_Ratio_den) (de_fld "Ratio" (dv 1) V.c_Ratio V.n_Ratio_den))))))), fun ds μ R h => ?_⟩)
  obtain ⟨-, n, d, rfl, hR⟩ := h
  simp only [dDropM, dLc, dFor, dISeq, dIRng1, dIRng2, dIZip, dIEnum, dSeq, dCall, SP, dFldC, dIfS, dAnd, dOr, dNot, dTest, dOp, dUn, dVar, dC, qI, qI0, qU, dNext, dRet, dRetN, dRaise, dCons, dNil, dTup, dLst, dSet, dPar, dAsg, dAug, dDrop, dgName, dgTup, dgNil, dgCons, dAndV, dOrV, dNotV, dIf, dCl, startD, List.map_cons, List.map_nil, List.length_cons, List.length_nil, List.cons_append, List.nil_append, List.append_nil, List.replicate, List.getElem?_cons_zero, List.getElem?_cons_succ, List.set_cons_zero, List.set_cons_succ, Option.some.injEq, List.cons.injEq, and_true, true_and, exists_eq_left', exists_eq_left, exists_eq, exists_eq', D.int.injEq, D.bl.injEq, D.tup.injEq, D.lst.injEq, D.adr.injEq, exists_and_left, and_assoc, exists_and_right, if_true, ite_true, decide_eq_true_eq, exists_eq_right, exists_eq_right', Nat.add_zero, Nat.sub_self, Nat.reduceSub, Nat.reduceAdd, eq_self]
  refine isi_ratio V ?_
  simp only [dDropM, dLc, dFor, dISeq, dIRng1, dIRng2, dIZip, dIEnum, dSeq, dCall, SP, dFldC, dIfS, dAnd, dOr, dNot, dTest, dOp, dUn, dVar, dC, qI, qI0, qU, dNext, dRet, dRetN, dRaise, dCons, dNil, dTup, dLst, dSet, dPar, dAsg, dAug, dDrop, dgName, dgTup, dgNil, dgCons, dAndV, dOrV, dNotV, dIf, dCl, startD, List.map_cons, List.map_nil, List.length_cons, List.length_nil, List.cons_append, List.nil_append, List.append_nil, List.replicate, List.getElem?_cons_zero, List.getElem?_cons_succ, List.set_cons_zero, List.set_cons_succ, Option.some.injEq, List.cons.injEq, and_true, true_and, exists_eq_left', exists_eq_left, exists_eq, exists_eq', D.int.injEq, D.bl.injEq, D.tup.injEq, D.lst.injEq, D.adr.injEq, exists_and_left, and_assoc, exists_and_right, if_true, ite_true, decide_eq_true_eq, exists_eq_right, exists_eq_right', Nat.add_zero, Nat.sub_self, Nat.reduceSub, Nat.reduceAdd, eq_self, num_ratD, den_ratD]
  exact hR
def PdR : D → D → Prop := fun x y => ∃ n d, x = ratD n d ∧ y = ratD n d
theorem pdR_eq : ∀ x y μ R RX, PdR x y → R (.bl true) μ → sp_Ratio___eq__ [x, y] μ R RX := fun x y μ R RX ⟨n, d, h1, h2⟩ hR => ⟨rfl, n, d, by rw [h1, h2], hR⟩
theorem pdR_obj : ∀ x y, PdR x y → (∃ gs, x = .obj "Ratio" gs) ∧ ∃ gs, y = .obj "Ratio" gs := fun x y ⟨n, d, h1, h2⟩ => ⟨⟨_, h1⟩, ⟨_, h2⟩⟩
theorem isi_mix {K : PySem.W.Frag} {mg : Str → Option Value} (V : Env K mg) {t : Int} {ps : List Pr} {sh : D} {μ : Mu} {R : DK} (h : R (.bl true) μ) : qIsi K [mixD t ps sh, .adr (He.ga K "Mixture")] μ R :=
  ⟨_, _, _, _, true, rfl, .inr ⟨_, rfl, rfl⟩, .inr ⟨"Mixture", _, rfl, rfl, V.ty_Mixture⟩, V.kit_Mixture, h⟩
theorem things_mixD {t : Int} {ps : List Pr} {sh : D} {μ : Mu} {R : DK} : fldK "Mixture" "things" (mixD t ps sh) μ R ↔ R (.int t) μ := fldK_obj rfl
theorem eqN_int (n : Nat) (i : Int) : EqN PdR n (.int i) (.int i) := by
  induction n with
  | zero => exact .inr ⟨rfl, rfl, by unfold eqF; simp⟩
  | succ n ih => exact .inl ih
theorem eqN_prD (p : Pr) : EqN PdR 2 (prD p) (prD p) := by
  refine .inr ⟨_, _, rfl, rfl, rfl, fun i a b h1 h2 => ?_⟩
  rw [h1] at h2
  cases h2
  rcases i with _ | _ | i
  · cases h1
    exact .inl (.inl ⟨_, _, rfl, rfl⟩)
  · cases h1
    refine .inr ⟨_, _, rfl, rfl, rfl, fun j a b h1 h2 => ?_⟩
    rw [h1] at h2
    cases h2
    rw [List.getElem?_map] at h1
    obtain ⟨k, -, rfl⟩ := Option.map_eq_some_iff.mp h1
    exact eqN_int 0 k
  · cases h1
def sp_Mixture___eq__ : DSp := SP 2 fun ds μ R RX => ∃ (t : Int) (ps : List Pr) (sh sh' : D), ds = [mixD t ps sh, mixD t ps sh'] ∧ R (.bl true) μ
theorem sc_Mixture___eq__ : FnScope ["self", "other"] ["self", "other"] (defScope (inClass (top 48) 4)) := ⟨rfl, rfl, rfl, by decide +kernel, rfl, by decide +kernel, by decide +kernel⟩
theorem fn_Mixture___eq__ {P : Program} {w : World} {K : PySem.W.Frag} {mg : Str → Option Value} {base : Heap} {fd : FuncData} (V : Env K mg) (F : FunD K "__eq__" "Mixture.__eq__" (defArgs (inClass (top 48) 4)) (defBody (inClass (top 48) 4)) (defScope (inClass (top 48) 4)) [] [] (He.ma K (He.ga K "Mixture") "__eq__") fd)  (D_Ratio___eq__ : DFn P w K mg base 1 (He.ma K (He.ga K "Ratio") "__eq__") ["self", "other"] [] sp_Ratio___eq__) : FnOk P w K mg base (L2.CX P w) 5 (He.ma K (He.ga K "Mixture") "__eq__") fd ["self", "other"] (low K sp_Mixture___eq__) := by
  refine fn_data F sc_Mixture___eq__ (fun ds μ R RX h => h.1) (fun cdv A outer s H E RX hr L hW hU => ⟨_, (dss_one (dst_ret (de_and (de_callB c_isi V.f_isinstance (da_cons (dv 1) (da_cons (de_cls V.g_Mixture) da_nil))) (de_and (de_cmp o_eq (de_fld "Mixture" (dv 0) V.c_Mixture V.n_Mixture_things) (de_fld "Mixture" (dv 1) V.c_Mixture V.n_Mixture_things)) (de_one (de_cmp (o_eqN (C := "Ratio") (Pd := PdR) 2 D_Ratio___eq__ (hr.mono (by decide)) pdR_eq pdR_obj V.e_eqRatio V.e_fnRatio) (de_fld "Mixture" (dv 0) V.c_Mixture V.n_Mixture_pairs) (de_fld "Mixture" (dv 1) V.c_Mixture V.n_Mixture_pairs))))))), fun ds μ R h => ?_⟩)
  obtain ⟨-, t, ps, sh, sh', rfl, hR⟩ := h
  simp only [dDropM, dLc, dFor, dISeq, dIRng1, dIRng2, dIZip, dIEnum, dSeq, dCall, SP, dFldC, dIfS, dAnd, dOr, dNot, dTest, dOp, dUn, dVar, dC, qI, qI0, qU, dNext, dRet, dRetN, dRaise, dCons, dNil, dTup, dLst, dSet, dPar, dAsg, dAug, dDrop, dgName, dgTup, dgNil, dgCons, dAndV, dOrV, dNotV, dIf, dCl, startD, List.map_cons, List.map_nil, List.length_cons, List.length_nil, List.cons_append, List.nil_append, List.append_nil, List.replicate, List.getElem?_cons_zero, List.getElem?_cons_succ, List.set_cons_zero, List.set_cons_succ, Option.some.injEq, List.cons.injEq, and_true, true_and, exists_eq_left', exists_eq_left, exists_eq, exists_eq', D.int.injEq, D.bl.injEq, D.tup.injEq, D.lst.injEq, D.adr.injEq, exists_and_left, and_assoc, exists_and_right, if_true, ite_true, decide_eq_true_eq, exists_eq_right, exists_eq_right', Nat.add_zero, Nat.sub_self, Nat.reduceSub, Nat.reduceAdd, eq_self]
  refine isi_mix V ?_
  simp only [dDropM, dLc, dFor, dISeq, dIRng1, dIRng2, dIZip, dIEnum, dSeq, dCall, SP, dFldC, dIfS, dAnd, dOr, dNot, dTest, dOp, dUn, dVar, dC, qI, qI0, qU, dNext, dRet, dRetN, dRaise, dCons, dNil, dTup, dLst, dSet, dPar, dAsg, dAug, dDrop, dgName, dgTup, dgNil, dgCons, dAndV, dOrV, dNotV, dIf, dCl, startD, List.map_cons, List.map_nil, List.length_cons, List.length_nil, List.cons_append, List.nil_append, List.append_nil, List.replicate, List.getElem?_cons_zero, List.getElem?_cons_succ, List.set_cons_zero, List.set_cons_succ, Option.some.injEq, List.cons.injEq, and_true, true_and, exists_eq_left', exists_eq_left, exists_eq, exists_eq', D.int.injEq, D.bl.injEq, D.tup.injEq, D.lst.injEq, D.adr.injEq, exists_and_left, and_assoc, exists_and_right, if_true, ite_true, decide_eq_true_eq, exists_eq_right, exists_eq_right', Nat.add_zero, Nat.sub_self, Nat.reduceSub, Nat.reduceAdd, eq_self, things_mixD, pairs_mixD]
  refine ⟨⟨_, _, rfl, rfl, rfl, fun i a b h1 h2 => ?_⟩, ?_⟩
  · rw [h1] at h2
    cases h2
    rw [List.getElem?_map] at h1
    obtain ⟨k, -, rfl⟩ := Option.map_eq_some_iff.mp h1
    exact eqN_prD k
  · exact hR
/-! ### the calendar -/
def calD (m : D) (per : Int) (lots : List (List Int)) : D := .obj "Calendar" [("mixture", m), ("days", .int per), ("order", .ftup (lots.map tupI))]
section
variable {m : D} {per : Int} {lots : List (List Int)} {μ : Mu} {R : DK}
theorem mix_calD : fldK "Calendar" "mixture" (calD m per lots) μ R ↔ R m μ := fldK_obj rfl
theorem days_calD : fldK "Calendar" "days" (calD m per lots) μ R ↔ R (.int per) μ := fldK_obj rfl
theorem order_calD : fldK "Calendar" "order" (calD m per lots) μ R ↔ R (.ftup (lots.map tupI)) μ := fldK_obj rfl
end
theorem putD_len (f : Str) (d : D) : ∀ gs, (putD f d gs).length ≤ gs.length + 1
  | [] => Nat.le_refl _
  | (g, x) :: r => by
    unfold putD
    split
    · exact Nat.le_succ _
    · exact Nat.succ_le_succ (putD_len f d r)
theorem at_getT {l : List (List Int)} {k : Nat} (h : k < l.length) : (l.map tupI)[k]? = some (tupI (l.getD k [])) := by
  rw [List.getElem?_map, List.getElem?_eq_getElem h, List.getD_eq_getElem?_getD, List.getElem?_eq_getElem h]; rfl
def lotsO (rows : List Row) (per : Int) : List (List Int) := (ordM (rows.map (·.2)) per).map fun k => (rows.map (·.1)).getD k []
structure CalOk (rows : List Row) (per : Int) : Prop where
  ok : PrOk (rows.map (prR per))
  eper : perM (rows.map (prR per)) = per
  len : rows.length ≤ 1000
  cnt : Cnt (rows.map (·.2)) per
  pos : 0 < per
def sp_Calendar_init : DSp := SP 2 fun ds μ R RX => ∃ (a : Addr) (t : Int) (rows : List Row) (per : Int) (sh : D), ds = [.adr a, mixD t (rows.map (prR per)) sh] ∧ μ a = some (.ins "Calendar" []) ∧ CalOk rows per ∧ (400 < per → RX "NumberError" [("number", .int per)] μ) ∧
  (per ≤ 400 → R .non (updM μ a (.ins "Calendar" [("mixture", mixD t (rows.map (prR per)) sh), ("days", .int per), ("order", .ftup ((lotsO rows per).map tupI))])))
theorem sc_Calendar___init__ : FnScope ["self", "mixture", "period", "weight", "_", "counts", "lot", "lots", "at"] ["self", "mixture"] (defScope (inClass (top 26) 0)) := ⟨rfl, rfl, rfl, by decide +kernel, rfl, by decide +kernel, by decide +kernel⟩
theorem fn_Calendar_init {P : Program} {w : World} {K : PySem.W.Frag} {mg : Str → Option Value} {base : Heap} {fd : FuncData} (V : Env K mg) (F : FunD K "__init__" "Calendar.__init__" (defArgs (inClass (top 26) 0)) (defBody (inClass (top 26) 0)) (defScope (inClass (top 26) 0)) [] [] (He.ma K (He.ga K "Calendar") "__init__") fd) {fI : Addr} (T : NTxt P K mg "NumberError" "number" "number" (He.ga K "NumberError") fI) (D_period_of : DFn P w K mg base 1 (He.ga K "period_of") ["mixture"] [] sp_period_of) (D_days_of : DFn P w K mg base 1 (He.ga K "days_of") ["weight", "period"] [] sp_days_of) (D__spread : DFn P w K mg base 2 (He.ga K "_spread") ["counts", "period"] [] sp__spread) : FnOk P w K mg base (L2.CX P w) 3 (He.ma K (He.ga K "Calendar") "__init__") fd ["self", "mixture"] (low K sp_Calendar_init) := by
  refine fn_data F sc_Calendar___init__ (fun ds μ R RX h => h.1) (fun cdv A outer s H E RX hr L hW hU => ⟨_, (dss_cons (dst_set (i := 2) sc_Calendar___init__.nd (de_call D_period_of (hr.mono (by decide)) V.g_period_of (da_cons (dv 1) da_nil)))
      (dss_cons (dst_if (dt_cmp o_gt (dv 2) (de_gint rfl V.i_MOST_DAYS)) (dss_one (dst_raise rfl T hr (da_cons (dv 2) da_nil))) dss_nil)
      (dss_cons (dst_setLc [("weight", 3), ("_", 4)] (i := 5) (g := (gTup K 2 (gCons (gName 3) (gCons (gName 4) gNil)))) rfl sc_Calendar___init__.nd (di_seq (de_fld "Mixture" (dv 1) V.c_Mixture V.n_Mixture_pairs)) (blkOk_by rfl) (fun _ _ _ _ _ => (dgo_tup (n := 2) rfl (dgos_cons (dgo_name (i := 3) sc_Calendar___init__.nd) (dgos_cons (dgo_name (i := 4) sc_Calendar___init__.nd) dgos_nil)))) (fun _ _ _ _ _ => dts_nil) (fun _ _ _ _ _ => (de_callF rfl D_days_of (hr.mono (by decide)) V.g_days_of (da_cons (dv 3) (da_cons (dv 2) da_nil)))) (by rfl))
      (dss_cons (dst_set (i := 7) sc_Calendar___init__.nd (de_lc [("_", 4), ("lot", 6)] (g := (gTup K 2 (gCons (gName 4) (gCons (gName 6) gNil)))) rfl sc_Calendar___init__.nd (di_seq (de_fld "Mixture" (dv 1) V.c_Mixture V.n_Mixture_pairs)) (blkOk_by rfl) (fun _ _ _ _ _ => (dgo_tup (n := 2) rfl (dgos_cons (dgo_name (i := 4) sc_Calendar___init__.nd) (dgos_cons (dgo_name (i := 6) sc_Calendar___init__.nd) dgos_nil)))) (fun _ _ _ _ _ => dts_nil) (fun _ _ _ _ _ => (dv 6))))
      (dss_cons (dst_fld "Calendar" (dv 0) (dv 1) V.c_Calendar V.n_Calendar_mixture)
      (dss_cons (dst_fld "Calendar" (dv 0) (dv 2) V.c_Calendar V.n_Calendar_days)
      (dss_one (dst_fld "Calendar" (dv 0) (de_callTy c_tupleF V.f_tuple (da_cons (de_lc [("at", 8)] (g := (gName 8)) rfl sc_Calendar___init__.nd (di_seq (de_call D__spread (hr.mono (by decide)) V.g__spread (da_cons (dv 5) (da_cons (dv 2) da_nil)))) (blkOk_by rfl) (fun _ _ _ _ _ => (dgo_name (i := 8) sc_Calendar___init__.nd)) (fun _ _ _ _ _ => dts_nil) (fun _ _ _ _ _ => (de_ix o_ix (dv 7) (dv 8)))) da_nil)) V.c_Calendar V.n_Calendar_order)))))))), fun ds μ R h => ?_⟩)
  obtain ⟨-, a, t, rows, per, sh, rfl, hm, C, hX, hR⟩ := h
  have hsz := sizeLine_eq
  have hl := C.len
  rw [hW]
  simp only [dDropM, dLc, dFor, dISeq, dIRng1, dIRng2, dIZip, dIEnum, dSeq, dCall, SP, dFldC, dIfS, dAnd, dOr, dNot, dTest, dOp, dUn, dVar, dC, qI, qI0, qU, dNext, dRet, dRetN, dRaise, dCons, dNil, dTup, dLst, dSet, dPar, dAsg, dAug, dDrop, dgName, dgTup, dgNil, dgCons, dAndV, dOrV, dNotV, dIf, dCl, startD, List.map_cons, List.map_nil, List.length_cons, List.length_nil, List.cons_append, List.nil_append, List.append_nil, List.replicate, List.getElem?_cons_zero, List.getElem?_cons_succ, List.set_cons_zero, List.set_cons_succ, Option.some.injEq, List.cons.injEq, and_true, true_and, exists_eq_left', exists_eq_left, exists_eq, exists_eq', D.int.injEq, D.bl.injEq, D.tup.injEq, D.lst.injEq, D.adr.injEq, exists_and_left, and_assoc, exists_and_right, if_true, ite_true, decide_eq_true_eq, exists_eq_right, exists_eq_right', Nat.add_zero, Nat.sub_self, Nat.reduceSub, Nat.reduceAdd, eq_self]
  refine ⟨rfl, t, _, sh, rfl, C.ok, ?_⟩
  rw [C.eper]
  simp only [dDropM, dLc, dFor, dISeq, dIRng1, dIRng2, dIZip, dIEnum, dSeq, dCall, SP, dFldC, dIfS, dAnd, dOr, dNot, dTest, dOp, dUn, dVar, dC, qI, qI0, qU, dNext, dRet, dRetN, dRaise, dCons, dNil, dTup, dLst, dSet, dPar, dAsg, dAug, dDrop, dgName, dgTup, dgNil, dgCons, dAndV, dOrV, dNotV, dIf, dCl, startD, List.map_cons, List.map_nil, List.length_cons, List.length_nil, List.cons_append, List.nil_append, List.append_nil, List.replicate, List.getElem?_cons_zero, List.getElem?_cons_succ, List.set_cons_zero, List.set_cons_succ, Option.some.injEq, List.cons.injEq, and_true, true_and, exists_eq_left', exists_eq_left, exists_eq, exists_eq', D.int.injEq, D.bl.injEq, D.tup.injEq, D.lst.injEq, D.adr.injEq, exists_and_left, and_assoc, exists_and_right, if_true, ite_true, decide_eq_true_eq, exists_eq_right, exists_eq_right', Nat.add_zero, Nat.sub_self, Nat.reduceSub, Nat.reduceAdd, eq_self]
  by_cases c : c_MOST_DAYS < per
  · rw [if_pos c]
    exact hX c
  rw [if_neg c]
  have hc : per ≤ 400 := Int.not_lt.mp c
  simp only [dDropM, dLc, dFor, dISeq, dIRng1, dIRng2, dIZip, dIEnum, dSeq, dCall, SP, dFldC, dIfS, dAnd, dOr, dNot, dTest, dOp, dUn, dVar, dC, qI, qI0, qU, dNext, dRet, dRetN, dRaise, dCons, dNil, dTup, dLst, dSet, dPar, dAsg, dAug, dDrop, dgName, dgTup, dgNil, dgCons, dAndV, dOrV, dNotV, dIf, dCl, startD, List.map_cons, List.map_nil, List.length_cons, List.length_nil, List.cons_append, List.nil_append, List.append_nil, List.replicate, List.getElem?_cons_zero, List.getElem?_cons_succ, List.set_cons_zero, List.set_cons_succ, Option.some.injEq, List.cons.injEq, and_true, true_and, exists_eq_left', exists_eq_left, exists_eq, exists_eq', D.int.injEq, D.bl.injEq, D.tup.injEq, D.lst.injEq, D.adr.injEq, exists_and_left, and_assoc, exists_and_right, if_true, ite_true, decide_eq_true_eq, exists_eq_right, exists_eq_right', Nat.add_zero, Nat.sub_self, Nat.reduceSub, Nat.reduceAdd, eq_self, pairs_mixD, dFldS]
  refine ⟨_, rfl, lcG (xs := rows.map (prR per)) rows_seq (fun _ => true) (fun p => .int (p.1 * (per / p.2.1))) (by rw [List.length_map]; omega) (fun p hp Q Q' hQ hQ' => ?_) ?_⟩
  · simp only [dDropM, dLc, dFor, dISeq, dIRng1, dIRng2, dIZip, dIEnum, dSeq, dCall, SP, dFldC, dIfS, dAnd, dOr, dNot, dTest, dOp, dUn, dVar, dC, qI, qI0, qU, dNext, dRet, dRetN, dRaise, dCons, dNil, dTup, dLst, dSet, dPar, dAsg, dAug, dDrop, dgName, dgTup, dgNil, dgCons, dAndV, dOrV, dNotV, dIf, dCl, startD, List.map_cons, List.map_nil, List.length_cons, List.length_nil, List.cons_append, List.nil_append, List.append_nil, List.replicate, List.getElem?_cons_zero, List.getElem?_cons_succ, List.set_cons_zero, List.set_cons_succ, Option.some.injEq, List.cons.injEq, and_true, true_and, exists_eq_left', exists_eq_left, exists_eq, exists_eq', D.int.injEq, D.bl.injEq, D.tup.injEq, D.lst.injEq, D.adr.injEq, exists_and_left, and_assoc, exists_and_right, if_true, ite_true, decide_eq_true_eq, exists_eq_right, exists_eq_right', Nat.add_zero, Nat.sub_self, Nat.reduceSub, Nat.reduceAdd, eq_self, dYes, wipeD, prD]
    have h1 := C.ok.pos p hp
    have h2 := PrOk.dvd hp
    rw [C.eper] at h2
    have h3 := Int.le_of_dvd C.pos h2
    have h4 := big_MOST (i := per) (by omega)
    have h5 : 0 ≤ per / p.2.1 := Int.ediv_nonneg (by omega) (by omega)
    have h6 : per / p.2.1 ≤ per := Int.ediv_le_self _ (by omega)
    exact ⟨rfl, _, _, _, rfl, h1, by omega, C.ok.num p hp, by omega, hQ rfl⟩
  rw [filter_tt]
  refine ⟨_, rfl, lcG (xs := rows.map (prR per)) rows_seq (fun _ => true) (fun p => tupI p.2.2) (by rw [List.length_map]; omega) (fun p hp Q Q' hQ hQ' => ?_) ?_⟩
  · simp only [dDropM, dLc, dFor, dISeq, dIRng1, dIRng2, dIZip, dIEnum, dSeq, dCall, SP, dFldC, dIfS, dAnd, dOr, dNot, dTest, dOp, dUn, dVar, dC, qI, qI0, qU, dNext, dRet, dRetN, dRaise, dCons, dNil, dTup, dLst, dSet, dPar, dAsg, dAug, dDrop, dgName, dgTup, dgNil, dgCons, dAndV, dOrV, dNotV, dIf, dCl, startD, List.map_cons, List.map_nil, List.length_cons, List.length_nil, List.cons_append, List.nil_append, List.append_nil, List.replicate, List.getElem?_cons_zero, List.getElem?_cons_succ, List.set_cons_zero, List.set_cons_succ, Option.some.injEq, List.cons.injEq, and_true, true_and, exists_eq_left', exists_eq_left, exists_eq, exists_eq', D.int.injEq, D.bl.injEq, D.tup.injEq, D.lst.injEq, D.adr.injEq, exists_and_left, and_assoc, exists_and_right, if_true, ite_true, decide_eq_true_eq, exists_eq_right, exists_eq_right', Nat.add_zero, Nat.sub_self, Nat.reduceSub, Nat.reduceAdd, eq_self, dYes, wipeD, prD]
    exact hQ rfl
  rw [filter_tt]
  have e1 : ((rows.map (prR per)).map fun p => D.int (p.1 * (per / p.2.1))) = (rows.map (·.2)).map D.int := by
    rw [List.map_map, List.map_map]
    refine List.map_congr_left fun r hr => ?_
    show D.int ((prR per r).1 * (per / (prR per r).2.1)) = _
    rw [days_row C.pos]
    rfl
  have e2 : ((rows.map (prR per)).map fun p => tupI p.2.2) = (rows.map (·.1)).map tupI := by
    rw [List.map_map, List.map_map]; rfl
  rw [e1, e2]
  refine ⟨_, hm, by decide, _, updM_same, Nat.lt_of_le_of_lt (putD_len _ _ _) (by decide), ?_⟩
  rw [updM_updM]
  have O := day_ok C.cnt per.toNat (by have := C.pos; omega)
  have hol : (ordM (rows.map (·.2)) per).length = per.toNat := O.olen
  refine ⟨rfl, _, per, rfl, C.cnt, C.pos, hc, by rw [List.length_map]; omega, natI _, rfl, ?_⟩
  unfold natI
  refine lcG (xs := ordM (rows.map (·.2)) per) rows_seq (fun _ => true) (fun k => tupI ((rows.map (·.1)).getD k [])) (by omega) (fun k hk Q Q' hQ hQ' => ?_) ?_
  · simp only [dDropM, dLc, dFor, dISeq, dIRng1, dIRng2, dIZip, dIEnum, dSeq, dCall, SP, dFldC, dIfS, dAnd, dOr, dNot, dTest, dOp, dUn, dVar, dC, qI, qI0, qU, dNext, dRet, dRetN, dRaise, dCons, dNil, dTup, dLst, dSet, dPar, dAsg, dAug, dDrop, dgName, dgTup, dgNil, dgCons, dAndV, dOrV, dNotV, dIf, dCl, startD, List.map_cons, List.map_nil, List.length_cons, List.length_nil, List.cons_append, List.nil_append, List.append_nil, List.replicate, List.getElem?_cons_zero, List.getElem?_cons_succ, List.set_cons_zero, List.set_cons_succ, Option.some.injEq, List.cons.injEq, and_true, true_and, exists_eq_left', exists_eq_left, exists_eq, exists_eq', D.int.injEq, D.bl.injEq, D.tup.injEq, D.lst.injEq, D.adr.injEq, exists_and_left, and_assoc, exists_and_right, if_true, ite_true, decide_eq_true_eq, exists_eq_right, exists_eq_right', Nat.add_zero, Nat.sub_self, Nat.reduceSub, Nat.reduceAdd, eq_self, dYes, wipeD]
    have hk' := O.omem k hk
    rw [List.length_map] at hk'
    exact ix_ok rfl (atI_natD rfl (at_getT (by rw [List.length_map]; exact hk'))) (hQ rfl)
  rw [filter_tt]
  refine ⟨_, _, rfl, rfl, rfl, _, updM_same, Nat.lt_of_le_of_lt (Nat.le_trans (putD_len _ _ _) (Nat.succ_le_succ (putD_len _ _ _))) (by decide), ?_⟩
  rw [updM_updM]
  have := hR hc
  unfold lotsO at this
  rw [List.map_map] at this
  exact this
theorem lotsO_len {rows : List Row} {per : Int} (C : CalOk rows per) : ((lotsO rows per).length : Int) = per := by
  have O := day_ok C.cnt per.toNat (by have := C.pos; omega)
  unfold lotsO ordM
  rw [List.length_map, O.olen]
  have := C.pos
  omega
theorem make_cal {t : Int} {rows : List Row} {per : Int} {sh : D} {μ : Mu} {R : List (Str × D) → Mu → Prop} {RX : DX} {x : Addr} (C : CalOk rows per) (hc : per ≤ 400) (hR : R [("mixture", mixD t (rows.map (prR per)) sh), ("days", .int per), ("order", .ftup ((lotsO rows per).map tupI))] (updM μ x (.ins "Calendar" [("mixture", mixD t (rows.map (prR per)) sh), ("days", .int per), ("order", .ftup ((lotsO rows per).map tupI))]))) :
    sp_Calendar_init [D.adr x, mixD t (rows.map (prR per)) sh] (updM μ x (MO.ins "Calendar" [])) (fun y μ2 => y = D.non ∧ ∃ gs, μ2 x = some (MO.ins "Calendar" gs) ∧ R gs μ2) RX :=
  ⟨rfl, x, t, rows, per, sh, rfl, updM_same, C, fun z => absurd hc (by omega), fun _ => ⟨rfl, _, updM_same, by rw [updM_updM]; exact hR⟩⟩
def sp_Calendar_day : DSp := SP 2 fun ds μ R RX => ∃ (m : D) (per : Int) (lots : List (List Int)) (n : Int), ds = [calD m per lots, .int n] ∧ 0 < per ∧ (lots.length : Int) = per ∧ ((n < 0 ∨ 10 ^ 60 < n) → RX "NumberError" [("number", .int n)] μ) ∧ (¬ (n < 0 ∨ 10 ^ 60 < n) → R (tupI (lots.getD (n % per).toNat [])) μ)
theorem sc_Calendar_day : FnScope ["self", "number"] ["self", "number"] (defScope (inClass (top 26) 3)) := ⟨rfl, rfl, rfl, by decide +kernel, rfl, by decide +kernel, by decide +kernel⟩
theorem fn_Calendar_day {P : Program} {w : World} {K : PySem.W.Frag} {mg : Str → Option Value} {base : Heap} {fd : FuncData} (V : Env K mg) (F : FunD K "day" "Calendar.day" (defArgs (inClass (top 26) 3)) (defBody (inClass (top 26) 3)) (defScope (inClass (top 26) 3)) [] [] (He.ma K (He.ga K "Calendar") "day") fd)  (D_look_number : DFn P w K mg base 1 (He.ga K "look_number") ["number", "low", "high"] [] sp_look_number) : FnOk P w K mg base (L2.CX P w) 2 (He.ma K (He.ga K "Calendar") "day") fd ["self", "number"] (low K sp_Calendar_day) := by
  refine fn_data F sc_Calendar_day (fun ds μ R RX h => h.1) (fun cdv A outer s H E RX hr L hW hU => ⟨_, (dss_cons (dst_expr (de_call D_look_number (hr.mono (by decide)) V.g_look_number (da_cons (dv 1) (da_cons de_int (da_cons (de_gint rfl V.i_MOST_DRAW) da_nil)))))
      (dss_one (dst_ret (de_ix o_ix (de_fld "Calendar" (dv 0) V.c_Calendar V.n_Calendar_order) (de_op o_mod (dv 1) (de_fld "Calendar" (dv 0) V.c_Calendar V.n_Calendar_days)))))), fun ds μ R h => ?_⟩)
  obtain ⟨-, m, per, lots, n, rfl, h0, hl, hX, hR⟩ := h
  rw [hW]
  simp only [dDropM, dLc, dFor, dISeq, dIRng1, dIRng2, dIZip, dIEnum, dSeq, dCall, SP, dFldC, dIfS, dAnd, dOr, dNot, dTest, dOp, dUn, dVar, dC, qI, qI0, qU, dNext, dRet, dRetN, dRaise, dCons, dNil, dTup, dLst, dSet, dPar, dAsg, dAug, dDrop, dgName, dgTup, dgNil, dgCons, dAndV, dOrV, dNotV, dIf, dCl, startD, List.map_cons, List.map_nil, List.length_cons, List.length_nil, List.cons_append, List.nil_append, List.append_nil, List.replicate, List.getElem?_cons_zero, List.getElem?_cons_succ, List.set_cons_zero, List.set_cons_succ, Option.some.injEq, List.cons.injEq, and_true, true_and, exists_eq_left', exists_eq_left, exists_eq, exists_eq', D.int.injEq, D.bl.injEq, D.tup.injEq, D.lst.injEq, D.adr.injEq, exists_and_left, and_assoc, exists_and_right, if_true, ite_true, decide_eq_true_eq, exists_eq_right, exists_eq_right', Nat.add_zero, Nat.sub_self, Nat.reduceSub, Nat.reduceAdd, eq_self]
  refine ⟨rfl, n, 0, _, rfl, hX, fun hn => ?_⟩
  simp only [dDropM, dLc, dFor, dISeq, dIRng1, dIRng2, dIZip, dIEnum, dSeq, dCall, SP, dFldC, dIfS, dAnd, dOr, dNot, dTest, dOp, dUn, dVar, dC, qI, qI0, qU, dNext, dRet, dRetN, dRaise, dCons, dNil, dTup, dLst, dSet, dPar, dAsg, dAug, dDrop, dgName, dgTup, dgNil, dgCons, dAndV, dOrV, dNotV, dIf, dCl, startD, List.map_cons, List.map_nil, List.length_cons, List.length_nil, List.cons_append, List.nil_append, List.append_nil, List.replicate, List.getElem?_cons_zero, List.getElem?_cons_succ, List.set_cons_zero, List.set_cons_succ, Option.some.injEq, List.cons.injEq, and_true, true_and, exists_eq_left', exists_eq_left, exists_eq, exists_eq', D.int.injEq, D.bl.injEq, D.tup.injEq, D.lst.injEq, D.adr.injEq, exists_and_left, and_assoc, exists_and_right, if_true, ite_true, decide_eq_true_eq, exists_eq_right, exists_eq_right', Nat.add_zero, Nat.sub_self, Nat.reduceSub, Nat.reduceAdd, eq_self, order_calD, days_calD]
  have e0 := Int.emod_nonneg n (show per ≠ 0 by omega)
  have e1 := Int.emod_lt_of_pos n h0
  refine ⟨h0, ix_ok rfl (atI_natD (j := (n % per).toNat) (by omega) (at_getT (by omega))) (hR hn)⟩
theorem cut_take {α : Type} (f : α → D) (xs : List α) {n : Int} (h : 0 ≤ n) : Nod.cutD (xs.map f) none (some n) = (xs.take n.toNat).map f := by
  obtain ⟨k, rfl⟩ := Int.eq_ofNat_of_zero_le h
  unfold Nod.cutD
  rw [HT.sIx_nat, HT.sIx_none, List.drop_zero, Nat.sub_zero, Int.toNat_natCast, List.map_take, List.length_map]
  rcases Nat.le_total k xs.length with c | c
  · rw [Nat.min_eq_left c]
  · rw [Nat.min_eq_right c, List.take_of_length_le (by rw [List.length_map]; omega), List.take_of_length_le (by rw [List.length_map]; omega)]
theorem count_pI (ls : List (List Int)) (l : List Int) : ((ls.map pI).countP fun z => PyData.eqv z (pI l)) = ls.count l := by
  unfold List.count
  rw [List.countP_map]
  refine List.countP_congr fun k _ => ?_
  show PyData.eqv (pI k) (pI l) = true ↔ _
  rw [eqv_pI]
  simp
theorem shaped_tups (ls : List (List Int)) : SeqAt.shaped (.list (ls.map pI)) = true :=
  (fl_list (n := 1) fun p hp => by obtain ⟨l, _, rfl⟩ := List.mem_map.mp hp; exact fl_pI l).sh (by decide)
theorem shaped_tupT (ls : List (List Int)) : SeqAt.shaped (.tuple (ls.map pI)) = true :=
  (fl_tuple (n := 1) fun p hp => by obtain ⟨l, _, rfl⟩ := List.mem_map.mp hp; exact fl_pI l).sh (by decide)
/-- how often the lots of the rows are among these -/
def cntR (rows : List Row) (ls : List (List Int)) : List Row := rows.map fun r => (r.1, (ls.count r.1 : Int))
def sp_Calendar_counts : DSp := SP 2 fun ds μ R RX => ∃ (t : Int) (rows : List Row) (per : Int) (sh : D) (lots : List (List Int)) (n : Int), ds = [calD (mixD t (rows.map (prR per)) sh) per lots, .int n] ∧ rows.length ≤ 1000 ∧ ((n < 0 ∨ per < n) → RX "NumberError" [("number", .int n)] μ) ∧
  (¬ (n < 0 ∨ per < n) → ∀ p, μ p = none → R (.adr p) (updM μ p (.lst ((cntR rows (lots.take n.toNat)).map rowD))))
theorem sc_Calendar_counts : FnScope ["self", "days", "begin", "_", "lot"] ["self", "days"] (defScope (inClass (top 26) 4)) := ⟨rfl, rfl, rfl, by decide +kernel, rfl, by decide +kernel, by decide +kernel⟩
theorem fn_Calendar_counts {P : Program} {w : World} {K : PySem.W.Frag} {mg : Str → Option Value} {base : Heap} {fd : FuncData} (V : Env K mg) (F : FunD K "counts" "Calendar.counts" (defArgs (inClass (top 26) 4)) (defBody (inClass (top 26) 4)) (defScope (inClass (top 26) 4)) [] [] (He.ma K (He.ga K "Calendar") "counts") fd)  (D_look_number : DFn P w K mg base 1 (He.ga K "look_number") ["number", "low", "high"] [] sp_look_number) : FnOk P w K mg base (L2.CX P w) 2 (He.ma K (He.ga K "Calendar") "counts") fd ["self", "days"] (low K sp_Calendar_counts) := by
  refine fn_data F sc_Calendar_counts (fun ds μ R RX h => h.1) (fun cdv A outer s H E RX hr L hW hU => ⟨_, (dss_cons (dst_expr (de_call D_look_number (hr.mono (by decide)) V.g_look_number (da_cons (dv 1) (da_cons de_int (da_cons (de_fld "Calendar" (dv 0) V.c_Calendar V.n_Calendar_days) da_nil)))))
      (dss_cons (dst_set (i := 2) sc_Calendar_counts.nd (de_slF (de_fld "Calendar" (dv 0) V.c_Calendar V.n_Calendar_order) do_none (do_some (dv 1))))
      (dss_one (dst_ret (de_lcM [("_", 3), ("lot", 4)] (g := (gTup K 2 (gCons (gName 3) (gCons (gName 4) gNil)))) rfl sc_Calendar_counts.nd (di_seq (de_fld "Mixture" (de_fld "Calendar" (dv 0) V.c_Calendar V.n_Calendar_mixture) V.c_Mixture V.n_Mixture_pairs)) (blkOk_by rfl) (fun _ _ _ _ _ => (dgo_tup (n := 2) rfl (dgos_cons (dgo_name (i := 3) sc_Calendar_counts.nd) (dgos_cons (dgo_name (i := 4) sc_Calendar_counts.nd) dgos_nil)))) (fun _ _ _ _ _ => dts_nil) (fun _ _ _ _ _ => (de_tup (da_cons (dv 4) (da_cons (de_countF (hu65 hr) (dv 2) (dv 4)) da_nil))))))))), fun ds μ R h => ?_⟩)
  obtain ⟨-, t, rows, per, sh, lots, n, rfl, hl, hX, hR⟩ := h
  have hsz := sizeLine_eq
  rw [hW]
  simp only [dDropM, dLc, dFor, dISeq, dIRng1, dIRng2, dIZip, dIEnum, dSeq, dCall, SP, dFldC, dIfS, dAnd, dOr, dNot, dTest, dOp, dUn, dVar, dC, qI, qI0, qU, dNext, dRet, dRetN, dRaise, dCons, dNil, dTup, dLst, dSet, dPar, dAsg, dAug, dDrop, dgName, dgTup, dgNil, dgCons, dAndV, dOrV, dNotV, dIf, dCl, startD, List.map_cons, List.map_nil, List.length_cons, List.length_nil, List.cons_append, List.nil_append, List.append_nil, List.replicate, List.getElem?_cons_zero, List.getElem?_cons_succ, List.set_cons_zero, List.set_cons_succ, Option.some.injEq, List.cons.injEq, and_true, true_and, exists_eq_left', exists_eq_left, exists_eq, exists_eq', D.int.injEq, D.bl.injEq, D.tup.injEq, D.lst.injEq, D.adr.injEq, exists_and_left, and_assoc, exists_and_right, if_true, ite_true, decide_eq_true_eq, exists_eq_right, exists_eq_right', Nat.add_zero, Nat.sub_self, Nat.reduceSub, Nat.reduceAdd, eq_self, days_calD]
  refine ⟨rfl, n, 0, _, rfl, hX, fun hn => ?_⟩
  simp only [dDropM, dLc, dFor, dISeq, dIRng1, dIRng2, dIZip, dIEnum, dSeq, dCall, SP, dFldC, dIfS, dAnd, dOr, dNot, dTest, dOp, dUn, dVar, dC, qI, qI0, qU, dNext, dRet, dRetN, dRaise, dCons, dNil, dTup, dLst, dSet, dPar, dAsg, dAug, dDrop, dgName, dgTup, dgNil, dgCons, dAndV, dOrV, dNotV, dIf, dCl, startD, List.map_cons, List.map_nil, List.length_cons, List.length_nil, List.cons_append, List.nil_append, List.append_nil, List.replicate, List.getElem?_cons_zero, List.getElem?_cons_succ, List.set_cons_zero, List.set_cons_succ, Option.some.injEq, List.cons.injEq, and_true, true_and, exists_eq_left', exists_eq_left, exists_eq, exists_eq', D.int.injEq, D.bl.injEq, D.tup.injEq, D.lst.injEq, D.adr.injEq, exists_and_left, and_assoc, exists_and_right, if_true, ite_true, decide_eq_true_eq, exists_eq_right, exists_eq_right', Nat.add_zero, Nat.sub_self, Nat.reduceSub, Nat.reduceAdd, eq_self, order_calD, mix_calD, pairs_mixD, dSlF, dNoPart, dPart, dLcM]
  refine ⟨_, rfl, ?_⟩
  rw [cut_take tupI lots (by omega)]
  refine ⟨_, rfl, lcGM (xs := rows.map (prR per)) rows_seq (fun _ => true) (fun p => rowD (p.2.2, ((lots.take n.toNat).count p.2.2 : Int))) (by rw [List.length_map]; omega) (fun p hp Q Q' hQ hQ' => ?_) fun p hp => ?_⟩
  · simp only [dDropM, dLc, dFor, dISeq, dIRng1, dIRng2, dIZip, dIEnum, dSeq, dCall, SP, dFldC, dIfS, dAnd, dOr, dNot, dTest, dOp, dUn, dVar, dC, qI, qI0, qU, dNext, dRet, dRetN, dRaise, dCons, dNil, dTup, dLst, dSet, dPar, dAsg, dAug, dDrop, dgName, dgTup, dgNil, dgCons, dAndV, dOrV, dNotV, dIf, dCl, startD, List.map_cons, List.map_nil, List.length_cons, List.length_nil, List.cons_append, List.nil_append, List.append_nil, List.replicate, List.getElem?_cons_zero, List.getElem?_cons_succ, List.set_cons_zero, List.set_cons_succ, Option.some.injEq, List.cons.injEq, and_true, true_and, exists_eq_left', exists_eq_left, exists_eq, exists_eq', D.int.injEq, D.bl.injEq, D.tup.injEq, D.lst.injEq, D.adr.injEq, exists_and_left, and_assoc, exists_and_right, if_true, ite_true, decide_eq_true_eq, exists_eq_right, exists_eq_right', Nat.add_zero, Nat.sub_self, Nat.reduceSub, Nat.reduceAdd, eq_self, dYes, wipeD, prD, dCntF]
    refine ⟨_, rfl, _, _, pyA_tups _, py_tupI _, shaped_tupT _, (fl_pI _).sh (by decide), two_le, ?_⟩
    rw [count_pI]
    exact hQ rfl
  · rw [filter_tt]
    have := hR hn p hp
    unfold cntR at this
    rw [List.map_map] at this ⊢
    exact this
/-- the days at which k is drawn -/
def daysAt (k : Int) (lots : List (List Int)) : List Int := (lots.zipIdx.filter fun z => decide (k ∈ z.1)).map fun z => (z.2 : Int)
def sp_Calendar_of_thing : DSp := SP 2 fun ds μ R RX => ∃ (t : Int) (ps : List Pr) (per : Int) (sh : D) (lots : List (List Int)) (k : Int), ds = [calD (mixD t ps sh) per lots, .int k] ∧ lots.length ≤ 1000 ∧ ((k < 0 ∨ t ≤ k) → RX "ThingError" [("thing", .int k)] μ) ∧
  (¬ (k < 0 ∨ t ≤ k) → ∀ p, μ p = none → R (.adr p) (updM μ p (.lst ((daysAt k lots).map D.int))))
theorem sc_Calendar_of_thing : FnScope ["self", "thing", "today", "lot"] ["self", "thing"] (defScope (inClass (top 26) 5)) := ⟨rfl, rfl, rfl, by decide +kernel, rfl, by decide +kernel, by decide +kernel⟩
theorem fn_Calendar_of_thing {P : Program} {w : World} {K : PySem.W.Frag} {mg : Str → Option Value} {base : Heap} {fd : FuncData} (V : Env K mg) (F : FunD K "of_thing" "Calendar.of_thing" (defArgs (inClass (top 26) 5)) (defBody (inClass (top 26) 5)) (defScope (inClass (top 26) 5)) [] [] (He.ma K (He.ga K "Calendar") "of_thing") fd)  (D_look_thing : DFn P w K mg base 1 (He.ga K "look_thing") ["things", "thing"] [] sp_look_thing) : FnOk P w K mg base (L2.CX P w) 2 (He.ma K (He.ga K "Calendar") "of_thing") fd ["self", "thing"] (low K sp_Calendar_of_thing) := by
  refine fn_data F sc_Calendar_of_thing (fun ds μ R RX h => h.1) (fun cdv A outer s H E RX hr L hW hU => ⟨_, (dss_cons (dst_expr (de_call D_look_thing (hr.mono (by decide)) V.g_look_thing (da_cons (de_fld "Mixture" (de_fld "Calendar" (dv 0) V.c_Calendar V.n_Calendar_mixture) V.c_Mixture V.n_Mixture_things) (da_cons (dv 1) da_nil))))
      (dss_one (dst_ret (de_lcM [("today", 2), ("lot", 3)] (g := (gTup K 2 (gCons (gName 2) (gCons (gName 3) gNil)))) rfl sc_Calendar_of_thing.nd (di_enumX V.f_enumerate (da_cons (de_fld "Calendar" (dv 0) V.c_Calendar V.n_Calendar_order) da_nil)) (blkOk_by rfl) (fun _ _ _ _ _ => (dgo_tup (n := 2) rfl (dgos_cons (dgo_name (i := 2) sc_Calendar_of_thing.nd) (dgos_cons (dgo_name (i := 3) sc_Calendar_of_thing.nd) dgos_nil)))) (fun _ _ _ _ _ => (dts_one (dt_cmp o_in (dv 1) (dv 3)))) (fun _ _ _ _ _ => (dv 2)))))), fun ds μ R h => ?_⟩)
  obtain ⟨-, t, ps, per, sh, lots, k, rfl, hl, hX, hR⟩ := h
  have hsz := sizeLine_eq
  rw [hW]
  simp only [dDropM, dLc, dFor, dISeq, dIRng1, dIRng2, dIZip, dIEnum, dSeq, dCall, SP, dFldC, dIfS, dAnd, dOr, dNot, dTest, dOp, dUn, dVar, dC, qI, qI0, qU, dNext, dRet, dRetN, dRaise, dCons, dNil, dTup, dLst, dSet, dPar, dAsg, dAug, dDrop, dgName, dgTup, dgNil, dgCons, dAndV, dOrV, dNotV, dIf, dCl, startD, List.map_cons, List.map_nil, List.length_cons, List.length_nil, List.cons_append, List.nil_append, List.append_nil, List.replicate, List.getElem?_cons_zero, List.getElem?_cons_succ, List.set_cons_zero, List.set_cons_succ, Option.some.injEq, List.cons.injEq, and_true, true_and, exists_eq_left', exists_eq_left, exists_eq, exists_eq', D.int.injEq, D.bl.injEq, D.tup.injEq, D.lst.injEq, D.adr.injEq, exists_and_left, and_assoc, exists_and_right, if_true, ite_true, decide_eq_true_eq, exists_eq_right, exists_eq_right', Nat.add_zero, Nat.sub_self, Nat.reduceSub, Nat.reduceAdd, eq_self, mix_calD, things_mixD]
  refine ⟨rfl, t, k, rfl, hX, fun hn => ?_⟩
  simp only [dDropM, dLc, dFor, dISeq, dIRng1, dIRng2, dIZip, dIEnum, dSeq, dCall, SP, dFldC, dIfS, dAnd, dOr, dNot, dTest, dOp, dUn, dVar, dC, qI, qI0, qU, dNext, dRet, dRetN, dRaise, dCons, dNil, dTup, dLst, dSet, dPar, dAsg, dAug, dDrop, dgName, dgTup, dgNil, dgCons, dAndV, dOrV, dNotV, dIf, dCl, startD, List.map_cons, List.map_nil, List.length_cons, List.length_nil, List.cons_append, List.nil_append, List.append_nil, List.replicate, List.getElem?_cons_zero, List.getElem?_cons_succ, List.set_cons_zero, List.set_cons_succ, Option.some.injEq, List.cons.injEq, and_true, true_and, exists_eq_left', exists_eq_left, exists_eq, exists_eq', D.int.injEq, D.bl.injEq, D.tup.injEq, D.lst.injEq, D.adr.injEq, exists_and_left, and_assoc, exists_and_right, if_true, ite_true, decide_eq_true_eq, exists_eq_right, exists_eq_right', Nat.add_zero, Nat.sub_self, Nat.reduceSub, Nat.reduceAdd, eq_self, order_calD, dLcM, dIEnumX]
  refine ⟨_, rfl, lcGM (xs := lots.zipIdx) rows_enum (fun z => decide (k ∈ z.1)) (fun z => .int z.2) (by rw [List.length_zipIdx]; omega) (fun z hz Q Q' hQ hQ' => ?_) fun p hp => ?_⟩
  · simp only [dDropM, dLc, dFor, dISeq, dIRng1, dIRng2, dIZip, dIEnum, dSeq, dCall, SP, dFldC, dIfS, dAnd, dOr, dNot, dTest, dOp, dUn, dVar, dC, qI, qI0, qU, dNext, dRet, dRetN, dRaise, dCons, dNil, dTup, dLst, dSet, dPar, dAsg, dAug, dDrop, dgName, dgTup, dgNil, dgCons, dAndV, dOrV, dNotV, dIf, dCl, startD, List.map_cons, List.map_nil, List.length_cons, List.length_nil, List.cons_append, List.nil_append, List.append_nil, List.replicate, List.getElem?_cons_zero, List.getElem?_cons_succ, List.set_cons_zero, List.set_cons_succ, Option.some.injEq, List.cons.injEq, and_true, true_and, exists_eq_left', exists_eq_left, exists_eq, exists_eq', D.int.injEq, D.bl.injEq, D.tup.injEq, D.lst.injEq, D.adr.injEq, exists_and_left, and_assoc, exists_and_right, if_true, ite_true, decide_eq_true_eq, exists_eq_right, exists_eq_right', Nat.add_zero, Nat.sub_self, Nat.reduceSub, Nat.reduceAdd, eq_self, wipeD, qIn]
    refine ⟨_, rfl, rfl, by rw [List.all_map]; exact List.all_eq_true.mpr fun _ _ => rfl, ?_⟩
    simp only [Bool.false_eq_true, if_false]
    rw [inD_ints]
    by_cases c : k ∈ z.1
    · rw [if_pos (by rw [decide_eq_true c])]
      exact hQ (decide_eq_true c)
    · rw [if_neg (by rw [decide_eq_false c]; decide)]
      exact hQ' (decide_eq_false c)
  · have := hR hn p hp
    unfold daysAt at this
    rw [List.map_map] at this
    exact this
theorem sc_Calendar___len__ : FnScope ["self"] ["self"] (defScope (inClass (top 26) 1)) := ⟨rfl, rfl, rfl, by decide +kernel, rfl, by decide +kernel, by decide +kernel⟩
theorem fn_Calendar___len__ {P : Program} {w : World} {K : PySem.W.Frag} {mg : Str → Option Value} {base : Heap} {fd : FuncData} (V : Env K mg) (F : FunD K "__len__" "Calendar.__len__" (defArgs (inClass (top 26) 1)) (defBody (inClass (top 26) 1)) (defScope (inClass (top 26) 1)) [] [] (He.ma K (He.ga K "Calendar") "__len__") fd) :
    FnOk P w K mg base (L2.CX P w) 1 (He.ma K (He.ga K "Calendar") "__len__") fd ["self"] (spLen K (He.ga K "Calendar") "order") := by
  refine F.ok sc_Calendar___len__ (fun vs H Q E h => by obtain ⟨a, dx, fs, t, xs, rfl, _⟩ := h; rfl) fun cdv A outer s H vs Q E hr hsp =>
    ⟨_, pss_one (ps_ret (pe_callB call_len rfl V.f_len (by decide +kernel) (pa_cons (pe_fld (pe_var (i := 0) rfl (Or.inl rfl)) rfl) pa_nil rfl) (by decide) (by decide) rfl rfl)), ?_⟩
  obtain ⟨a, dx, fs, t, xs, rfl, h1, h2, h3, h4⟩ := hsp
  exact ⟨_, rfl, a, _, dx, fs, .ref t, rfl, h1, V.c_Calendar, V.n_Calendar_order, h2, .ref t, xs.length, rfl, .inr ⟨xs, h3, rfl⟩, h4⟩
theorem sc_Calendar___iter__ : FnScope ["self"] ["self"] (defScope (inClass (top 26) 2)) := ⟨rfl, rfl, rfl, by decide +kernel, rfl, by decide +kernel, by decide +kernel⟩
theorem fn_Calendar___iter__ {P : Program} {w : World} {K : PySem.W.Frag} {mg : Str → Option Value} {base : Heap} {fd : FuncData} (V : Env K mg) (F : FunD K "__iter__" "Calendar.__iter__" (defArgs (inClass (top 26) 2)) (defBody (inClass (top 26) 2)) (defScope (inClass (top 26) 2)) [] [] (He.ma K (He.ga K "Calendar") "__iter__") fd) :
    FnI P w K mg base 1 (He.ma K (He.ga K "Calendar") "__iter__") fd ["self"] (spIter K (He.ga K "Calendar") "order") := by
  refine fn_ofI F sc_Calendar___iter__ (fun n vs H Q E h => by obtain ⟨a, dx, fs, t, xs, rfl, _⟩ := h; rfl) fun cdv A outer s H vs Q hr hsp =>
    ⟨_, pss_one (ps_ret (pe_callB call_iterT rfl V.f_iter (by decide +kernel) (pa_cons (pe_fld (pe_var (i := 0) rfl (Or.inl rfl)) rfl) pa_nil rfl) (by decide) (by decide) rfl rfl)), ?_⟩
  obtain ⟨a, dx, fs, t, xs, rfl, h1, h2, h3, h4⟩ := hsp
  exact ⟨_, rfl, a, _, dx, fs, .ref t, rfl, h1, V.c_Calendar, V.n_Calendar_order, h2, t, xs, rfl, h3, fun it hi hn => h4 it hi hn⟩
end N67
set_option Elab.async false
set_option linter.all false
set_option maxRecDepth 100000
set_option maxHeartbeats 4000000
set_option exponentiation.threshold 20000
namespace N67
open PySem PySem.Spec PyProof.Rows L2 Nod
theorem ixN_nat {n k : Nat} (h : k < n) : ixN n (k : Int) = some k := by
  unfold ixN
  rw [if_pos (by omega), if_pos (by omega)]
  rfl
def sp__law_order : DSp := SP 2 fun ds μ R RX => ∃ (rows : List Row) (p : Int), ds = [.lst (rows.map rowD), .int p] ∧ Cnt (rows.map (·.2)) p ∧ 0 < p ∧ p ≤ 400 ∧ rows.length ≤ 1000 ∧ R (.lst ((lotsO rows p).map tupI)) μ
theorem sc__law_order : FnScope ["_law_rows_here", "_law_period", "_law_order_here", "_law_row", "_law_gone", "_law_day", "_law_best", "_law_least", "_law_k", "_law_days_here", "_law_first", "_law_last"] ["_law_rows_here", "_law_period"] (defScope (top 62)) := ⟨rfl, rfl, rfl, by decide +kernel, rfl, by decide +kernel, by decide +kernel⟩
theorem fn__law_order {P : Program} {w : World} {K : PySem.W.Frag} {mg : Str → Option Value} {base : Heap} {fd : FuncData} (V : Env K mg) (F : FunD K "_law_order" "_law_order" (defArgs (top 62)) (defBody (top 62)) (defScope (top 62)) [] [] (He.ga K "_law_order") fd)   : FnOk P w K mg base (L2.CX P w) 1 (He.ga K "_law_order") fd ["_law_rows_here", "_law_period"] (low K sp__law_order) := by
  refine fn_data F sc__law_order (fun ds μ R RX h => h.1) (fun cdv A outer s H E RX hr L hW hU => ⟨_, (dss_cons (dst_set (i := 2) sc__law_order.nd (de_lstM da_nil))
      (dss_cons (dst_setLcM [("_law_row", 3)] (i := 4) (g := (gName 3)) rfl sc__law_order.nd (di_seq (dv 0)) (blkOk_by rfl) (fun _ _ _ _ _ => (dgo_name (i := 3) sc__law_order.nd)) (fun _ _ _ _ _ => dts_nil) (fun _ _ _ _ _ => de_int) (by rfl))
      (dss_cons (dst_for (passes_of rfl) rfl (di_rng1 V.f_range (da_cons (dv 1) da_nil)) (dg_name (i := 5) sc__law_order.nd) (dss_cons (dst_set (i := 6) sc__law_order.nd de_int)
      (dss_cons (dst_set (i := 7) sc__law_order.nd (dv 1))
      (dss_cons (dst_for (passes_of rfl) rfl (di_rng1 V.f_range (da_cons (de_callB c_len V.f_len (da_cons (dv 0) da_nil)) da_nil)) (dg_name (i := 8) sc__law_order.nd) (dss_cons (dst_set (i := 9) sc__law_order.nd (de_ix o_ix (de_ix o_ix (dv 0) (dv 8)) de_int))
      (dss_cons (dst_set (i := 10) sc__law_order.nd (de_op o_div (de_op o_mul (de_ix o_ix (dv 4) (dv 8)) (dv 1)) (dv 9)))
      (dss_cons (dst_set (i := 11) sc__law_order.nd (de_op o_sub (de_op o_div (de_op o_sub (de_op o_add (de_op o_mul (de_op o_add (de_ix o_ix (dv 4) (dv 8)) de_int) (dv 1)) (dv 9)) de_int) (dv 9)) de_int))
      (dss_one (dst_if (dt_w (dw_and (dt_cmp o_lt (de_ix o_ix (dv 4) (dv 8)) (dv 9)) (dw_and (dt_cmp o_le (dv 10) (dv 5)) (dw_and1 (dt_cmp o_lt (dv 11) (dv 7)))))) (dss_cons (dst_set (i := 6) sc__law_order.nd (dv 8))
      (dss_one (dst_set (i := 7) sc__law_order.nd (dv 11)))) dss_nil))))))
      (dss_cons (dst_expr (de_append (dv 2) (de_ix o_ix (de_ix o_ix (dv 0) (dv 6)) de_int)))
      (dss_one (dst_ixS (dv 4) (dv 6) (de_op o_add (de_ix o_ix (dv 4) (dv 6)) de_int))))))))
      (dss_one (dst_ret (de_drop (de_com (dv 2)))))))), fun ds μ R h => ?_⟩)
  obtain ⟨-, rows, p, rfl, C, p0, p1, hl, hR⟩ := h
  have hsz := sizeLine_eq
  obtain ⟨ns, hns⟩ : ∃ ns, ns = rows.map (·.2) := ⟨_, rfl⟩
  obtain ⟨lo, hlo⟩ : ∃ lo : Nat → D, lo = fun k => tupI ((rows.map (·.1)).getD k []) := ⟨_, rfl⟩
  have hnl : ns.length = rows.length := by rw [hns, List.length_map]
  rw [← hns] at C
  have eR : (lotsO rows p).map tupI = (ordM ns p).map lo := by rw [hns, hlo]; unfold lotsO; rw [List.map_map]; rfl
  rw [eR] at hR
  simp only [dDropM, dLc, dFor, dISeq, dIRng1, dIRng2, dIZip, dIEnum, dSeq, dCall, SP, dFldC, dIfS, dAnd, dOr, dNot, dTest, dOp, dUn, dVar, dC, qI, qI0, qU, dNext, dRet, dRetN, dRaise, dCons, dNil, dTup, dLst, dSet, dPar, dAsg, dAug, dDrop, dgName, dgTup, dgNil, dgCons, dAndV, dOrV, dNotV, dIf, dCl, startD, List.map_cons, List.map_nil, List.length_cons, List.length_nil, List.cons_append, List.nil_append, List.append_nil, List.replicate, List.getElem?_cons_zero, List.getElem?_cons_succ, List.set_cons_zero, List.set_cons_succ, Option.some.injEq, List.cons.injEq, and_true, true_and, exists_eq_left', exists_eq_left, exists_eq, exists_eq', D.int.injEq, D.bl.injEq, D.tup.injEq, D.lst.injEq, D.adr.injEq, exists_and_left, and_assoc, exists_and_right, if_true, ite_true, decide_eq_true_eq, exists_eq_right, exists_eq_right', Nat.add_zero, Nat.sub_self, Nat.reduceSub, Nat.reduceAdd, eq_self, dLstM, dNil, dLcM]
  refine ⟨Nat.zero_le _, fun o ho => ⟨_, rfl, lcGM (xs := rows) rows_seq (fun _ => true) (fun _ => .int 0) (by omega) (fun r hr Q Q' hQ hQ' => ?_) fun d hd => ?_⟩⟩
  · simp only [dDropM, dLc, dFor, dISeq, dIRng1, dIRng2, dIZip, dIEnum, dSeq, dCall, SP, dFldC, dIfS, dAnd, dOr, dNot, dTest, dOp, dUn, dVar, dC, qI, qI0, qU, dNext, dRet, dRetN, dRaise, dCons, dNil, dTup, dLst, dSet, dPar, dAsg, dAug, dDrop, dgName, dgTup, dgNil, dgCons, dAndV, dOrV, dNotV, dIf, dCl, startD, List.map_cons, List.map_nil, List.length_cons, List.length_nil, List.cons_append, List.nil_append, List.append_nil, List.replicate, List.getElem?_cons_zero, List.getElem?_cons_succ, List.set_cons_zero, List.set_cons_succ, Option.some.injEq, List.cons.injEq, and_true, true_and, exists_eq_left', exists_eq_left, exists_eq, exists_eq', D.int.injEq, D.bl.injEq, D.tup.injEq, D.lst.injEq, D.adr.injEq, exists_and_left, and_assoc, exists_and_right, if_true, ite_true, decide_eq_true_eq, exists_eq_right, exists_eq_right', Nat.add_zero, Nat.sub_self, Nat.reduceSub, Nat.reduceAdd, eq_self, dYes, wipeD]
    exact hQ rfl
  rw [filter_tt]
  obtain ⟨hne, hd'⟩ := none_upd hd
  have hdo : ∀ (x y z : List D), updM (updM (updM μ o (.lst x)) d (.lst y)) o (.lst z) = updM (updM μ o (.lst z)) d (.lst y) := fun x y z => by
    rw [updM_comm (Ne.symm hne), updM_updM, updM_comm hne]
  have hat : ∀ (x y : List D), updM (updM μ o (.lst x)) d (.lst y) o = some (.lst x) := fun x y => by rw [updM_ne (Ne.symm hne)]; exact updM_same
  have hsd : ∀ (x y : List D), seqM (updM (updM μ o (.lst x)) d (.lst y)) (.adr d) = some y := fun x y => seq_adr updM_same
  refine ⟨by omega, by omega, forG rows_rng (fun done _ Γ' μ' => ∃ (o5 o6 o7 o8 o9 o10 o11 : Option D), Γ' = [some (.lst (rows.map rowD)), some (.int p), some (.adr o), none, some (.adr d), o5, o6, o7, o8, o9, o10, o11] ∧ μ' = updM (updM μ o (.lst ((dayS ns p done.length).2.map lo))) d (.lst ((dayS ns p done.length).1.map D.int))) ⟨_, _, _, _, _, _, _, rfl, ?_⟩ (fun done k rest Γ' μ' hxs hI => ?_) fun Γ' μ' hI => ?_⟩
  · congr 2
    simp [dayS, hnl, List.map_const']
  · obtain ⟨o5, o6, o7, o8, o9, o10, o11, rfl, rfl⟩ := hI
    obtain ⟨rfl, hk⟩ := range_at hxs
    have S := day_ok C done.length (by omega)
    obtain ⟨j, hp, hj, hg⟩ := pick_ok C S (by omega)
    have hj' : j < (dayS ns p done.length).1.length := by rw [S.len]; exact hj
    simp only [dDropM, dLc, dFor, dISeq, dIRng1, dIRng2, dIZip, dIEnum, dSeq, dCall, SP, dFldC, dIfS, dAnd, dOr, dNot, dTest, dOp, dUn, dVar, dC, qI, qI0, qU, dNext, dRet, dRetN, dRaise, dCons, dNil, dTup, dLst, dSet, dPar, dAsg, dAug, dDrop, dgName, dgTup, dgNil, dgCons, dAndV, dOrV, dNotV, dIf, dCl, startD, List.map_cons, List.map_nil, List.length_cons, List.length_nil, List.cons_append, List.nil_append, List.append_nil, List.replicate, List.getElem?_cons_zero, List.getElem?_cons_succ, List.set_cons_zero, List.set_cons_succ, Option.some.injEq, List.cons.injEq, and_true, true_and, exists_eq_left', exists_eq_left, exists_eq, exists_eq', D.int.injEq, D.bl.injEq, D.tup.injEq, D.lst.injEq, D.adr.injEq, exists_and_left, and_assoc, exists_and_right, if_true, ite_true, decide_eq_true_eq, exists_eq_right, exists_eq_right', Nat.add_zero, Nat.sub_self, Nat.reduceSub, Nat.reduceAdd, eq_self, qLen]
    refine ⟨_, rfl, by rw [List.length_map]; omega, by rw [List.length_map]; omega, ?_⟩
    rw [Int.toNat_natCast, show (rows.map rowD).length = ns.length by rw [List.length_map, hnl]]
    refine forG rows_rngz (fun done' _ Γ' μ' => ∃ (o8 o9 o10 o11 : Option D), Γ' = [some (.lst (rows.map rowD)), some (.int p), some (.adr o), none, some (.adr d), some (.int done.length), some (.int (((done'.foldl (pickF (dayS ns p done.length).1 p done.length) (none, p)).1.getD 0 : Nat) : Int)), some (.int (done'.foldl (pickF (dayS ns p done.length).1 p done.length) (none, p)).2), o8, o9, o10, o11] ∧ μ' = updM (updM μ o (.lst ((dayS ns p done.length).2.map lo))) d (.lst ((dayS ns p done.length).1.map D.int))) ⟨_, _, _, _, rfl, rfl⟩ (fun done' z rest' Γ' μ' hxs' hI' => ?_) fun Γ' μ' hI' => ?_
    · obtain ⟨o8, o9, o10, o11, rfl, rfl⟩ := hI'
      have hz : z ∈ ns.zipIdx := by rw [hxs']; simp
      have hz1 := List.mem_zipIdx_iff_getElem?.mp hz
      obtain ⟨hz2, hz3⟩ := List.getElem?_eq_some_iff.mp hz1
      have hzd : ns.getD z.2 0 = z.1 := by rw [List.getD_eq_getElem?_getD, hz1]; rfl
      have c0 := C.pos z.1 (by rw [← hz3]; exact List.getElem_mem hz2)
      have c1 := le_sum C.pos z.1 (by rw [← hz3]; exact List.getElem_mem hz2)
      rw [C.sum] at c1
      have g0 := S.low z.2 hz2
      have g1 := S.up z.2 hz2
      rw [hzd] at g1
      have hgz : atI ((dayS ns p done.length).1.map D.int) (z.2 : Int) = some (.int ((dayS ns p done.length).1.getD z.2 0)) := atI_natD rfl (at_getD (by rw [S.len]; exact hz2))
      have hrz : ∃ l, atI (rows.map rowD) (z.2 : Int) = some (.tup [tupI l, .int z.1]) := by
        rw [hns, List.getElem?_map] at hz1
        obtain ⟨r, hr, hr2⟩ := Option.map_eq_some_iff.mp hz1
        exact ⟨r.1, atI_natD rfl (by rw [List.getElem?_map, hr, ← hr2]; rfl)⟩
      obtain ⟨l, hrz⟩ := hrz
      have eN : (done' ++ [z]).foldl (pickF (dayS ns p done.length).1 p done.length) (none, p) = pickF (dayS ns p done.length).1 p done.length (done'.foldl (pickF (dayS ns p done.length).1 p done.length) (none, p)) z := by rw [List.foldl_append]; rfl
      rw [eN]
      generalize done'.foldl (pickF (dayS ns p done.length).1 p done.length) (none, p) = s
      generalize hgE : (dayS ns p done.length).1.getD z.2 0 = g at g0 g1 hgz
      simp only [dDropM, dLc, dFor, dISeq, dIRng1, dIRng2, dIZip, dIEnum, dSeq, dCall, SP, dFldC, dIfS, dAnd, dOr, dNot, dTest, dOp, dUn, dVar, dC, qI, qI0, qU, dNext, dRet, dRetN, dRaise, dCons, dNil, dTup, dLst, dSet, dPar, dAsg, dAug, dDrop, dgName, dgTup, dgNil, dgCons, dAndV, dOrV, dNotV, dIf, dCl, startD, List.map_cons, List.map_nil, List.length_cons, List.length_nil, List.cons_append, List.nil_append, List.append_nil, List.replicate, List.getElem?_cons_zero, List.getElem?_cons_succ, List.set_cons_zero, List.set_cons_succ, Option.some.injEq, List.cons.injEq, and_true, true_and, exists_eq_left', exists_eq_left, exists_eq, exists_eq', D.int.injEq, D.bl.injEq, D.tup.injEq, D.lst.injEq, D.adr.injEq, exists_and_left, and_assoc, exists_and_right, if_true, ite_true, decide_eq_true_eq, exists_eq_right, exists_eq_right', Nat.add_zero, Nat.sub_self, Nat.reduceSub, Nat.reduceAdd, eq_self]
      refine ix_ok rfl hrz (ix_ok rfl rfl (ix_ok (hsd _ _) hgz ?_))
      have hm1 : CMulW g p := wide_mul (a := 10) (b := 10) (by omega) (by omega) (by decide) (by decide) (by decide)
      have hm2 : CMulW (g + 1) p := wide_mul (a := 10) (b := 10) (by omega) (by omega) (by decide) (by decide) (by decide)
      have hdv : ∀ i, CDivW i z.1 := fun i => wide_div (b := 10) c0 (by omega) (by decide) (by decide)
      refine ⟨g, rfl, hm1, _, rfl, hdv _, ix_ok (hsd _ _) hgz ⟨g, rfl, hm2, _, rfl, _, rfl, hdv _, ix_ok (hsd _ _) hgz ⟨g, rfl, _, rfl, ?_⟩⟩⟩
      rw [lastD_eq c0, show g * p / z.1 = firstD g z.1 p from rfl]
      by_cases ca : g < z.1
      · rw [if_pos ca]
        by_cases cb : firstD g z.1 p ≤ done.length
        · rw [if_pos cb]
          by_cases cc : lastD g z.1 p < s.2
          · rw [if_pos cc, pickF_yes hgE ⟨ca, cb, cc⟩]
            exact ⟨rfl, rfl, rfl⟩
          · rw [if_neg cc, pickF_no hgE fun h => cc h.2.2]
            exact ⟨rfl, rfl, rfl⟩
        · rw [if_neg cb, pickF_no hgE fun h => cb h.2.1]
          first | exact ⟨rfl, rfl, rfl⟩ | (rw [if_neg (by decide)]; exact ⟨rfl, rfl, rfl⟩)
      · rw [if_neg ca, pickF_no hgE fun h => ca h.1]
        first | exact ⟨rfl, rfl, rfl⟩ | (rw [if_neg (by decide)]; exact ⟨rfl, rfl, rfl⟩)
    · obtain ⟨o8, o9, o10, o11, rfl, rfl⟩ := hI'
      have hb : (ns.zipIdx.foldl (pickF (dayS ns p done.length).1 p done.length) (none, p)).1 = some j := hp
      rw [hb]
      simp only [dDropM, dLc, dFor, dISeq, dIRng1, dIRng2, dIZip, dIEnum, dSeq, dCall, SP, dFldC, dIfS, dAnd, dOr, dNot, dTest, dOp, dUn, dVar, dC, qI, qI0, qU, dNext, dRet, dRetN, dRaise, dCons, dNil, dTup, dLst, dSet, dPar, dAsg, dAug, dDrop, dgName, dgTup, dgNil, dgCons, dAndV, dOrV, dNotV, dIf, dCl, startD, List.map_cons, List.map_nil, List.length_cons, List.length_nil, List.cons_append, List.nil_append, List.append_nil, List.replicate, List.getElem?_cons_zero, List.getElem?_cons_succ, List.set_cons_zero, List.set_cons_succ, Option.some.injEq, List.cons.injEq, and_true, true_and, exists_eq_left', exists_eq_left, exists_eq, exists_eq', D.int.injEq, D.bl.injEq, D.tup.injEq, D.lst.injEq, D.adr.injEq, exists_and_left, and_assoc, exists_and_right, if_true, ite_true, decide_eq_true_eq, exists_eq_right, exists_eq_right', Nat.add_zero, Nat.sub_self, Nat.reduceSub, Nat.reduceAdd, eq_self, dAppend, dIxS, Option.getD_some]
      have eN : dayS ns p (done ++ [done.length]).length = ((dayS ns p done.length).1.set j ((dayS ns p done.length).1.getD j 0 + 1), (dayS ns p done.length).2 ++ [j]) := by
        rw [List.length_append]
        show dayN ns p done.length (dayS ns p done.length) = _
        unfold dayN
        rw [hp]
        rfl
      have hjr : j < rows.length := by omega
      have hrj : atI (rows.map rowD) (j : Int) = some (.tup [lo j, .int rows[j].2]) := atI_natD rfl (by
        rw [List.getElem?_map, List.getElem?_eq_getElem hjr, hlo]
        show some (rowD rows[j]) = some (.tup [tupI ((rows.map (·.1)).getD j []), .int rows[j].2])
        rw [List.getD_eq_getElem?_getD, List.getElem?_map, List.getElem?_eq_getElem hjr]
        rfl)
      refine ⟨⟨_, hat _ _⟩, ix_ok rfl hrj (ix_ok rfl rfl ⟨_, hat _ _, by rw [List.length_map, S.olen]; omega, ?_⟩)⟩
      rw [hdo]
      refine ix_ok (hsd _ _) (atI_natD rfl (at_getD hj')) ⟨_, rfl, _, updM_same, j, ixN_nat (by rw [List.length_map]; exact hj'), ?_⟩
      rw [updM_updM, eN, List.map_append]
      congr 2
      rw [List.map_set]
  · obtain ⟨o5, o6, o7, o8, o9, o10, o11, rfl, rfl⟩ := hI
    simp only [dDropM, dLc, dFor, dISeq, dIRng1, dIRng2, dIZip, dIEnum, dSeq, dCall, SP, dFldC, dIfS, dAnd, dOr, dNot, dTest, dOp, dUn, dVar, dC, qI, qI0, qU, dNext, dRet, dRetN, dRaise, dCons, dNil, dTup, dLst, dSet, dPar, dAsg, dAug, dDrop, dgName, dgTup, dgNil, dgCons, dAndV, dOrV, dNotV, dIf, dCl, startD, List.map_cons, List.map_nil, List.length_cons, List.length_nil, List.cons_append, List.nil_append, List.append_nil, List.replicate, List.getElem?_cons_zero, List.getElem?_cons_succ, List.set_cons_zero, List.set_cons_succ, Option.some.injEq, List.cons.injEq, and_true, true_and, exists_eq_left', exists_eq_left, exists_eq, exists_eq', D.int.injEq, D.bl.injEq, D.tup.injEq, D.lst.injEq, D.adr.injEq, exists_and_left, and_assoc, exists_and_right, if_true, ite_true, decide_eq_true_eq, exists_eq_right, exists_eq_right', Nat.add_zero, Nat.sub_self, Nat.reduceSub, Nat.reduceAdd, eq_self, dDropM, dCom]
    rw [List.length_range]
    refine ⟨_, hat _ _, d, .lst ((dayS ns p p.toNat).1.map D.int), ?_, rfl, ?_⟩
    · rw [delM_ne hne]; exact updM_same
    · rw [del_two ho hne, delM_updM hd']
      exact hR
end N67
set_option Elab.async false
set_option linter.all false
set_option maxRecDepth 100000
set_option maxHeartbeats 4000000
set_option exponentiation.threshold 20000
namespace N67
open PySem PySem.Spec PyProof.Rows L2 Nod
def sp__law_refused : DSp := SP 3 fun ds μ R RX => ∃ (t : Int) (rows : List Row) (per : Int) (sh : D) (lots : List (List Int)) (c : Bool) (n : Int), ds = [calD (mixD t (rows.map (prR per)) sh) per lots, .bl c, .int n] ∧ rows.length ≤ 1000 ∧ 0 < per ∧ (lots.length : Int) = per ∧
  (n < 0 ∨ (if c = true then per else 10 ^ 60) < n) ∧ R (.bl true) μ
theorem sc__law_refused : FnScope ["_law_calendar", "_law_counted", "_law_number_here", "e", "_law_alone"] ["_law_calendar", "_law_counted", "_law_number_here"] (defScope (top 63)) := ⟨rfl, rfl, rfl, by decide +kernel, rfl, by decide +kernel, by decide +kernel⟩
theorem fn__law_refused {P : Program} {w : World} {K : PySem.W.Frag} {mg : Str → Option Value} {base : Heap} {fd : FuncData} (V : Env K mg) (F : FunD K "_law_refused" "_law_refused" (defArgs (top 63)) (defBody (top 63)) (defScope (top 63)) [] [] (He.ga K "_law_refused") fd) (Q__law_int : DFnQ P w K mg base 1 (He.ga K "_law_int") ["_law_told"] sp__law_int) (D_Calendar_counts : DFn P w K mg base 2 (He.ma K (He.ga K "Calendar") "counts") ["self", "days"] [] sp_Calendar_counts) (D_Calendar_day : DFn P w K mg base 2 (He.ma K (He.ga K "Calendar") "day") ["self", "number"] [] sp_Calendar_day) (D__law_int : DFn P w K mg base 1 (He.ga K "_law_int") ["_law_told"] [] sp__law_int) : FnOk P w K mg base (L2.CX P w) 3 (He.ga K "_law_refused") fd ["_law_calendar", "_law_counted", "_law_number_here"] (low K sp__law_refused) := by
  refine fn_data F sc__law_refused (fun ds μ R RX h => h.1) (fun cdv A outer s H E RX hr L hW hU => ⟨_, (dss_cons (dst_tryW (i := 3) rfl rfl sc__law_refused.nd ⟨rfl, by decide, .inl V.g_NumberError⟩ hU (fun pn xe L2 W2 hW2 hp hΦ => (dss_one (dst_if (dt_val (dv 1)) (dss_one (dst_expr (de_methE (C := "Calendar") hW2 (dv 0) V.c_Calendar V.m_Calendar_counts D_Calendar_counts (hr.mono (by decide)) (da_cons (dv 2) da_nil)))) (dss_one (dst_expr (de_methE (C := "Calendar") hW2 (dv 0) V.c_Calendar V.m_Calendar_day D_Calendar_day (hr.mono (by decide)) (da_cons (dv 2) da_nil))))))) (fun a oe n gs dx fs pn L2 hz hfd hdx hgs hΦ => dss_by (P := ExcC K (He.ga K n) ∧ PySem.W.findIn K (.ref (He.ga K n)) "number" = some none) (fun hP => (dss_cons (dst_set (i := 4) sc__law_refused.nd (de_and (de_isX hP.1 hz hfd hdx V.f_isinstance (dv 3) (de_cls V.g_NodearerError)) (de_one (de_not (de_isX hP.1 hz hfd hdx V.f_isinstance (dv 3) (de_cls V.g_ThingError))))))
      (dss_one (dst_ret (de_and (dv 4) (de_and (de_callQ Q__law_int (roomH_at hr _ (by decide)) V.g__law_int (da_cons (de_xfld hP.1 hP.2 hz hfd hdx hgs (dv 3)) da_nil)) (de_one (de_cmp o_eq (de_xfld hP.1 hP.2 hz hfd hdx hgs (dv 3)) (dv 2)))))))))))
      (dss_one (dst_ret de_bl))), fun ds μ R h => ?_⟩)
  obtain ⟨-, t, rows, per, sh, lots, c, n, rfl, hl, hp, hll, hn, hR⟩ := h
  simp only [dDropM, dLc, dFor, dISeq, dIRng1, dIRng2, dIZip, dIEnum, dSeq, dCall, SP, dFldC, dIfS, dAnd, dOr, dNot, dTest, dOp, dUn, dVar, dC, qI, qI0, qU, dNext, dRet, dRetN, dRaise, dCons, dNil, dTup, dLst, dSet, dPar, dAsg, dAug, dDrop, dgName, dgTup, dgNil, dgCons, dAndV, dOrV, dNotV, dIf, dCl, startD, List.map_cons, List.map_nil, List.length_cons, List.length_nil, List.cons_append, List.nil_append, List.append_nil, List.replicate, List.getElem?_cons_zero, List.getElem?_cons_succ, List.set_cons_zero, List.set_cons_succ, Option.some.injEq, List.cons.injEq, and_true, true_and, exists_eq_left', exists_eq_left, exists_eq, exists_eq', D.int.injEq, D.bl.injEq, D.tup.injEq, D.lst.injEq, D.adr.injEq, exists_and_left, and_assoc, exists_and_right, if_true, ite_true, decide_eq_true_eq, exists_eq_right, exists_eq_right', Nat.add_zero, Nat.sub_self, Nat.reduceSub, Nat.reduceAdd, eq_self, dTryAs, dMeth]
  rcases c with _ | _
  case false =>
    rw [if_neg (by decide)]
    refine ⟨.inl ⟨_, rfl, rfl⟩, rfl, _, per, lots, n, rfl, hp, hll, fun _ => ?_, fun z => (z hn).elim⟩
    simp only [dAsW]
    refine ⟨true, V.xm_N, fun _ a ha => ⟨V.xc_N, V.xf_N, ?_⟩, fun z => by cases z⟩
    simp only [dDropM, dLc, dFor, dISeq, dIRng1, dIRng2, dIZip, dIEnum, dSeq, dCall, SP, dFldC, dIfS, dAnd, dOr, dNot, dTest, dOp, dUn, dVar, dC, qI, qI0, qU, dNext, dRet, dRetN, dRaise, dCons, dNil, dTup, dLst, dSet, dPar, dAsg, dAug, dDrop, dgName, dgTup, dgNil, dgCons, dAndV, dOrV, dNotV, dIf, dCl, startD, List.map_cons, List.map_nil, List.length_cons, List.length_nil, List.cons_append, List.nil_append, List.append_nil, List.replicate, List.getElem?_cons_zero, List.getElem?_cons_succ, List.set_cons_zero, List.set_cons_succ, Option.some.injEq, List.cons.injEq, and_true, true_and, exists_eq_left', exists_eq_left, exists_eq, exists_eq', D.int.injEq, D.bl.injEq, D.tup.injEq, D.lst.injEq, D.adr.injEq, exists_and_left, and_assoc, exists_and_right, if_true, ite_true, decide_eq_true_eq, exists_eq_right, exists_eq_right', Nat.add_zero, Nat.sub_self, Nat.reduceSub, Nat.reduceAdd, eq_self, dIsX, dXFld, dCallQ]
    refine ⟨_, .inr rfl, true, V.xk_NodearerError, ?_⟩
    rw [if_pos rfl]
    refine ⟨_, .inr rfl, false, V.xk_ThingError, ?_⟩
    rw [if_pos (show (!false) = true from rfl)]
    refine ⟨_, rfl, rfl, n, rfl, true, rfl, ?_⟩
    rw [if_pos rfl]
    refine ⟨_, rfl, n, rfl, ?_⟩
    rw [decide_eq_true rfl]
    exact hR
  case true =>
    rw [if_pos rfl]
    refine ⟨.inl ⟨_, rfl, rfl⟩, rfl, t, rows, per, sh, lots, n, rfl, hl, fun _ => ?_, fun z => (z hn).elim⟩
    simp only [dAsW]
    refine ⟨true, V.xm_N, fun _ a ha => ⟨V.xc_N, V.xf_N, ?_⟩, fun z => by cases z⟩
    simp only [dDropM, dLc, dFor, dISeq, dIRng1, dIRng2, dIZip, dIEnum, dSeq, dCall, SP, dFldC, dIfS, dAnd, dOr, dNot, dTest, dOp, dUn, dVar, dC, qI, qI0, qU, dNext, dRet, dRetN, dRaise, dCons, dNil, dTup, dLst, dSet, dPar, dAsg, dAug, dDrop, dgName, dgTup, dgNil, dgCons, dAndV, dOrV, dNotV, dIf, dCl, startD, List.map_cons, List.map_nil, List.length_cons, List.length_nil, List.cons_append, List.nil_append, List.append_nil, List.replicate, List.getElem?_cons_zero, List.getElem?_cons_succ, List.set_cons_zero, List.set_cons_succ, Option.some.injEq, List.cons.injEq, and_true, true_and, exists_eq_left', exists_eq_left, exists_eq, exists_eq', D.int.injEq, D.bl.injEq, D.tup.injEq, D.lst.injEq, D.adr.injEq, exists_and_left, and_assoc, exists_and_right, if_true, ite_true, decide_eq_true_eq, exists_eq_right, exists_eq_right', Nat.add_zero, Nat.sub_self, Nat.reduceSub, Nat.reduceAdd, eq_self, dIsX, dXFld, dCallQ]
    refine ⟨_, .inr rfl, true, V.xk_NodearerError, ?_⟩
    rw [if_pos rfl]
    refine ⟨_, .inr rfl, false, V.xk_ThingError, ?_⟩
    rw [if_pos (show (!false) = true from rfl)]
    refine ⟨_, rfl, rfl, n, rfl, true, rfl, ?_⟩
    rw [if_pos rfl]
    refine ⟨_, rfl, n, rfl, ?_⟩
    rw [decide_eq_true rfl]
    exact hR
def sp__law_stranger : DSp := SP 2 fun ds μ R RX => ∃ (t : Int) (ps : List Pr) (per : Int) (sh : D) (lots : List (List Int)) (k : Int), ds = [calD (mixD t ps sh) per lots, .int k] ∧ lots.length ≤ 1000 ∧ (k < 0 ∨ t ≤ k) ∧ R (.bl true) μ
theorem sc__law_stranger : FnScope ["_law_calendar", "_law_thing", "e", "_law_alone"] ["_law_calendar", "_law_thing"] (defScope (top 64)) := ⟨rfl, rfl, rfl, by decide +kernel, rfl, by decide +kernel, by decide +kernel⟩
theorem fn__law_stranger {P : Program} {w : World} {K : PySem.W.Frag} {mg : Str → Option Value} {base : Heap} {fd : FuncData} (V : Env K mg) (F : FunD K "_law_stranger" "_law_stranger" (defArgs (top 64)) (defBody (top 64)) (defScope (top 64)) [] [] (He.ga K "_law_stranger") fd) (Q__law_int : DFnQ P w K mg base 1 (He.ga K "_law_int") ["_law_told"] sp__law_int) (D_Calendar_of_thing : DFn P w K mg base 2 (He.ma K (He.ga K "Calendar") "of_thing") ["self", "thing"] [] sp_Calendar_of_thing) (D__law_int : DFn P w K mg base 1 (He.ga K "_law_int") ["_law_told"] [] sp__law_int) : FnOk P w K mg base (L2.CX P w) 3 (He.ga K "_law_stranger") fd ["_law_calendar", "_law_thing"] (low K sp__law_stranger) := by
  refine fn_data F sc__law_stranger (fun ds μ R RX h => h.1) (fun cdv A outer s H E RX hr L hW hU => ⟨_, (dss_cons (dst_tryW (i := 2) rfl rfl sc__law_stranger.nd ⟨rfl, by decide, .inl V.g_ThingError⟩ hU (fun pn xe L2 W2 hW2 hp hΦ => (dss_one (dst_expr (de_methE (C := "Calendar") hW2 (dv 0) V.c_Calendar V.m_Calendar_of_thing D_Calendar_of_thing (hr.mono (by decide)) (da_cons (dv 1) da_nil))))) (fun a oe n gs dx fs pn L2 hz hfd hdx hgs hΦ => dss_by (P := ExcC K (He.ga K n) ∧ PySem.W.findIn K (.ref (He.ga K n)) "thing" = some none) (fun hP => (dss_cons (dst_set (i := 3) sc__law_stranger.nd (de_and (de_isX hP.1 hz hfd hdx V.f_isinstance (dv 2) (de_cls V.g_NodearerError)) (de_one (de_not (de_isX hP.1 hz hfd hdx V.f_isinstance (dv 2) (de_cls V.g_NumberError))))))
      (dss_one (dst_ret (de_and (dv 3) (de_and (de_callQ Q__law_int (roomH_at hr _ (by decide)) V.g__law_int (da_cons (de_xfld hP.1 hP.2 hz hfd hdx hgs (dv 2)) da_nil)) (de_one (de_cmp o_eq (de_xfld hP.1 hP.2 hz hfd hdx hgs (dv 2)) (dv 1)))))))))))
      (dss_one (dst_ret de_bl))), fun ds μ R h => ?_⟩)
  obtain ⟨-, t, ps, per, sh, lots, k, rfl, hl, hk, hR⟩ := h
  simp only [dDropM, dLc, dFor, dISeq, dIRng1, dIRng2, dIZip, dIEnum, dSeq, dCall, SP, dFldC, dIfS, dAnd, dOr, dNot, dTest, dOp, dUn, dVar, dC, qI, qI0, qU, dNext, dRet, dRetN, dRaise, dCons, dNil, dTup, dLst, dSet, dPar, dAsg, dAug, dDrop, dgName, dgTup, dgNil, dgCons, dAndV, dOrV, dNotV, dIf, dCl, startD, List.map_cons, List.map_nil, List.length_cons, List.length_nil, List.cons_append, List.nil_append, List.append_nil, List.replicate, List.getElem?_cons_zero, List.getElem?_cons_succ, List.set_cons_zero, List.set_cons_succ, Option.some.injEq, List.cons.injEq, and_true, true_and, exists_eq_left', exists_eq_left, exists_eq, exists_eq', D.int.injEq, D.bl.injEq, D.tup.injEq, D.lst.injEq, D.adr.injEq, exists_and_left, and_assoc, exists_and_right, if_true, ite_true, decide_eq_true_eq, exists_eq_right, exists_eq_right', Nat.add_zero, Nat.sub_self, Nat.reduceSub, Nat.reduceAdd, eq_self, dTryAs, dMeth]
  refine ⟨.inl ⟨_, rfl, rfl⟩, rfl, t, ps, per, sh, lots, k, rfl, hl, fun _ => ?_, fun z => (z hk).elim⟩
  simp only [dAsW]
  refine ⟨true, V.xm_T, fun _ a ha => ⟨V.xc_T, V.xf_T, ?_⟩, fun z => by cases z⟩
  simp only [dDropM, dLc, dFor, dISeq, dIRng1, dIRng2, dIZip, dIEnum, dSeq, dCall, SP, dFldC, dIfS, dAnd, dOr, dNot, dTest, dOp, dUn, dVar, dC, qI, qI0, qU, dNext, dRet, dRetN, dRaise, dCons, dNil, dTup, dLst, dSet, dPar, dAsg, dAug, dDrop, dgName, dgTup, dgNil, dgCons, dAndV, dOrV, dNotV, dIf, dCl, startD, List.map_cons, List.map_nil, List.length_cons, List.length_nil, List.cons_append, List.nil_append, List.append_nil, List.replicate, List.getElem?_cons_zero, List.getElem?_cons_succ, List.set_cons_zero, List.set_cons_succ, Option.some.injEq, List.cons.injEq, and_true, true_and, exists_eq_left', exists_eq_left, exists_eq, exists_eq', D.int.injEq, D.bl.injEq, D.tup.injEq, D.lst.injEq, D.adr.injEq, exists_and_left, and_assoc, exists_and_right, if_true, ite_true, decide_eq_true_eq, exists_eq_right, exists_eq_right', Nat.add_zero, Nat.sub_self, Nat.reduceSub, Nat.reduceAdd, eq_self, dIsX, dXFld, dCallQ]
  refine ⟨_, .inr rfl, true, V.tk_NodearerError, ?_⟩
  rw [if_pos rfl]
  refine ⟨_, .inr rfl, false, V.tk_NumberError, ?_⟩
  rw [if_pos (show (!false) = true from rfl)]
  refine ⟨_, rfl, rfl, k, rfl, true, rfl, ?_⟩
  rw [if_pos rfl]
  refine ⟨_, rfl, k, rfl, ?_⟩
  rw [decide_eq_true rfl]
  exact hR
def sp__law_too_long : DSp := SP 2 fun ds μ R RX => ∃ (t : Int) (rows : List Row) (per : Int) (sh : D), ds = [mixD t (rows.map (prR per)) sh, .int per] ∧ CalOk rows per ∧ 400 < per ∧ ∀ μ', Mext μ μ' → R (.bl true) μ'
theorem sc__law_too_long : FnScope ["_law_mixture", "_law_period", "e"] ["_law_mixture", "_law_period"] (defScope (top 65)) := ⟨rfl, rfl, rfl, by decide +kernel, rfl, by decide +kernel, by decide +kernel⟩
theorem fn__law_too_long {P : Program} {w : World} {K : PySem.W.Frag} {mg : Str → Option Value} {base : Heap} {fd : FuncData} (V : Env K mg) (F : FunD K "_law_too_long" "_law_too_long" (defArgs (top 65)) (defBody (top 65)) (defScope (top 65)) [] [] (He.ga K "_law_too_long") fd) (Q__law_int : DFnQ P w K mg base 1 (He.ga K "_law_int") ["_law_told"] sp__law_int) (D_Calendar_init : DFn P w K mg base 3 (He.ma K (He.ga K "Calendar") "__init__") ["self", "mixture"] [] sp_Calendar_init) (D__law_int : DFn P w K mg base 1 (He.ga K "_law_int") ["_law_told"] [] sp__law_int) : FnOk P w K mg base (L2.CX P w) 5 (He.ga K "_law_too_long") fd ["_law_mixture", "_law_period"] (low K sp__law_too_long) := by
  refine fn_data F sc__law_too_long (fun ds μ R RX h => h.1) (fun cdv A outer s H E RX hr L hW hU => ⟨_, (dss_cons (dst_tryW (i := 2) rfl rfl sc__law_too_long.nd ⟨rfl, by decide, .inl V.g_NumberError⟩ hU (fun pn xe L2 W2 hW2 hp hΦ => (dss_one (dst_expr (de_makeE hW2 V.k_Calendar D_Calendar_init (hr.mono (by decide)) V.g_Calendar (da_cons (dv 0) da_nil))))) (fun a oe n gs dx fs pn L2 hz hfd hdx hgs hΦ => dss_by (P := ExcC K (He.ga K n) ∧ PySem.W.findIn K (.ref (He.ga K n)) "number" = some none) (fun hP => (dss_one (dst_ret (de_and (de_isX hP.1 hz hfd hdx V.f_isinstance (dv 2) (de_ty (T := "ValueError") V.f_ValueError)) (de_and (de_callQ Q__law_int (roomH_at hr _ (by decide)) V.g__law_int (da_cons (de_xfld hP.1 hP.2 hz hfd hdx hgs (dv 2)) da_nil)) (de_one (de_cmp o_eq (de_xfld hP.1 hP.2 hz hfd hdx hgs (dv 2)) (dv 1))))))))))
      (dss_one (dst_ret de_bl))), fun ds μ R h => ?_⟩)
  obtain ⟨-, t, rows, per, sh, rfl, C, hp, hR⟩ := h
  simp only [dDropM, dLc, dFor, dISeq, dIRng1, dIRng2, dIZip, dIEnum, dSeq, dCall, SP, dFldC, dIfS, dAnd, dOr, dNot, dTest, dOp, dUn, dVar, dC, qI, qI0, qU, dNext, dRet, dRetN, dRaise, dCons, dNil, dTup, dLst, dSet, dPar, dAsg, dAug, dDrop, dgName, dgTup, dgNil, dgCons, dAndV, dOrV, dNotV, dIf, dCl, startD, List.map_cons, List.map_nil, List.length_cons, List.length_nil, List.cons_append, List.nil_append, List.append_nil, List.replicate, List.getElem?_cons_zero, List.getElem?_cons_succ, List.set_cons_zero, List.set_cons_succ, Option.some.injEq, List.cons.injEq, and_true, true_and, exists_eq_left', exists_eq_left, exists_eq, exists_eq', D.int.injEq, D.bl.injEq, D.tup.injEq, D.lst.injEq, D.adr.injEq, exists_and_left, and_assoc, exists_and_right, if_true, ite_true, decide_eq_true_eq, exists_eq_right, exists_eq_right', Nat.add_zero, Nat.sub_self, Nat.reduceSub, Nat.reduceAdd, eq_self, dTryAs, dMake]
  refine fun x hx => ⟨rfl, x, t, rows, per, sh, rfl, updM_same, C, fun _ => ?_, fun z => absurd hp (by omega)⟩
  simp only [dAsW]
  refine ⟨true, V.xm_N, fun _ a ha => ⟨V.xc_N, V.xf_N, ?_⟩, fun z => by cases z⟩
  simp only [dDropM, dLc, dFor, dISeq, dIRng1, dIRng2, dIZip, dIEnum, dSeq, dCall, SP, dFldC, dIfS, dAnd, dOr, dNot, dTest, dOp, dUn, dVar, dC, qI, qI0, qU, dNext, dRet, dRetN, dRaise, dCons, dNil, dTup, dLst, dSet, dPar, dAsg, dAug, dDrop, dgName, dgTup, dgNil, dgCons, dAndV, dOrV, dNotV, dIf, dCl, startD, List.map_cons, List.map_nil, List.length_cons, List.length_nil, List.cons_append, List.nil_append, List.append_nil, List.replicate, List.getElem?_cons_zero, List.getElem?_cons_succ, List.set_cons_zero, List.set_cons_succ, Option.some.injEq, List.cons.injEq, and_true, true_and, exists_eq_left', exists_eq_left, exists_eq, exists_eq', D.int.injEq, D.bl.injEq, D.tup.injEq, D.lst.injEq, D.adr.injEq, exists_and_left, and_assoc, exists_and_right, if_true, ite_true, decide_eq_true_eq, exists_eq_right, exists_eq_right', Nat.add_zero, Nat.sub_self, Nat.reduceSub, Nat.reduceAdd, eq_self, dIsX, dXFld, dCallQ]
  refine ⟨_, .inl ⟨_, rfl, rfl⟩, true, V.xk_ValueError, ?_⟩
  rw [if_pos rfl]
  refine ⟨_, rfl, rfl, per, rfl, true, rfl, ?_⟩
  rw [if_pos rfl]
  refine ⟨_, rfl, per, rfl, ?_⟩
  rw [decide_eq_true rfl]
  exact hR _ ((Mext.refl μ).set hx)
def pR (r : Row) : PyData := .tuple [pI r.1, .int r.2]
theorem fl_pR (r : Row) : Fl 2 (pR r) := fl_tuple fun p hp => by
  simp only [List.mem_cons, List.not_mem_nil, or_false] at hp
  rcases hp with rfl | rfl
  · exact fl_pI _
  · exact fl_int _
theorem fl_pRs (rs : List Row) : Fl 3 (.list (rs.map pR)) := fl_list fun p hp => by obtain ⟨r, _, rfl⟩ := List.mem_map.mp hp; exact fl_pR r
theorem pyA_rows {μ : Mu} : ∀ rs : List Row, PyOfA μ (rs.map rowD) (rs.map pR)
  | [] => .nil
  | r :: t => .cons (.tup (.cons (py_tupI r.1) (.cons (.int r.2) .nil))) (pyA_rows t)
theorem py_rows {μ : Mu} {x : D} {rs : List Row} (h : seqM μ x = some (rs.map rowD)) (n : isTup x = false) : PyOf μ x (.list (rs.map pR)) := .seq h n (pyA_rows rs)
theorem eqvA_rows : ∀ rs : List Row, PyData.eqvAll (rs.map pR) (rs.map pR) = true
  | [] => by simp [PyData.eqvAll]
  | r :: t => by
    rw [List.map_cons]
    simp only [PyData.eqvAll, eqvA_rows t, pR, PyData.eqv, eqv_pI, decide_true, Bool.and_true, Bool.true_and]
    simp
theorem eqv_rows (rs : List Row) : PyData.eqv (.list (rs.map pR)) (.list (rs.map pR)) = true := by
  simp only [PyData.eqv]; exact eqvA_rows rs
theorem eqD_rows {x y : D} {rs : List Row} {μ : Mu} {R : DK} (hx : seqM μ x = some (rs.map rowD)) (nx : isTup x = false) (hy : seqM μ y = some (rs.map rowD)) (ny : isTup y = false) (hR : R (.bl true) μ) : qEqD false x y μ R :=
  ⟨_, _, py_rows hx nx, py_rows hy ny, (fl_pRs rs).sh (by decide), (fl_pRs rs).sh (by decide), by rw [if_neg (by decide), eqv_rows]; exact hR⟩
theorem eqvA_tups : ∀ ls : List (List Int), PyData.eqvAll (ls.map pI) (ls.map pI) = true
  | [] => by simp [PyData.eqvAll]
  | l :: t => by
    rw [List.map_cons]
    simp only [PyData.eqvAll, eqvA_tups t, eqv_pI, decide_true, Bool.and_true]
theorem eqD_tups {x y : D} {ls : List (List Int)} {μ : Mu} {R : DK} (hx : seqM μ x = some (ls.map tupI)) (nx : isTup x = false) (hy : seqM μ y = some (ls.map tupI)) (ny : isTup y = false) (hR : R (.bl true) μ) : qEqD false x y μ R :=
  ⟨_, _, py_tups hx nx, py_tups hy ny, shaped_tups _, shaped_tups _, by rw [if_neg (by decide), PyData.eqv, eqvA_tups]; exact hR⟩
theorem eqD_ftup {ls : List (List Int)} {μ : Mu} {R : DK} (hR : R (.bl true) μ) : qEqD false (.ftup (ls.map tupI)) (.tup (ls.map tupI)) μ R :=
  ⟨_, _, .ftup (pyA_tups _), .tup (pyA_tups _), shaped_tupT _, shaped_tupT _, by rw [if_neg (by decide), PyData.eqv, eqvA_tups]; exact hR⟩
def sp__law_same_counts : DSp := SP 3 fun ds μ R RX => ∃ (rows : List Row) (ls : List (List Int)), ds = [.lst ((cntR rows ls).map rowD), .lst (rows.map rowD), .lst (ls.map tupI)] ∧ rows.length ≤ 1000 ∧ R (.bl true) μ
theorem sc__law_same_counts : FnScope ["_law_told", "_law_rows_here", "_law_days_here", "_law_lot", "_law_number_here", "_law_due", "_law_row"] ["_law_told", "_law_rows_here", "_law_days_here"] (defScope (top 67)) := ⟨rfl, rfl, rfl, by decide +kernel, rfl, by decide +kernel, by decide +kernel⟩
theorem fn__law_same_counts {P : Program} {w : World} {K : PySem.W.Frag} {mg : Str → Option Value} {base : Heap} {fd : FuncData} (V : Env K mg) (F : FunD K "_law_same_counts" "_law_same_counts" (defArgs (top 67)) (defBody (top 67)) (defScope (top 67)) [] [] (He.ga K "_law_same_counts") fd)  (D__law_int : DFn P w K mg base 1 (He.ga K "_law_int") ["_law_told"] [] sp__law_int) : FnOk P w K mg base (L2.CX P w) 2 (He.ga K "_law_same_counts") fd ["_law_told", "_law_rows_here", "_law_days_here"] (low K sp__law_same_counts) := by
  refine fn_data F sc__law_same_counts (fun ds μ R RX h => h.1) (fun cdv A outer s H E RX hr L hW hU => ⟨_, (dss_cons (dst_setLc [("_law_lot", 3), ("_law_number_here", 4)] (i := 5) (g := (gTup K 2 (gCons (gName 3) (gCons (gName 4) gNil)))) rfl sc__law_same_counts.nd (di_seq (dv 1)) (blkOk_by rfl) (fun _ _ _ _ _ => (dgo_tup (n := 2) rfl (dgos_cons (dgo_name (i := 3) sc__law_same_counts.nd) (dgos_cons (dgo_name (i := 4) sc__law_same_counts.nd) dgos_nil)))) (fun _ _ _ _ _ => dts_nil) (fun _ _ _ _ _ => (de_tup (da_cons (dv 3) (da_cons (de_countD (hu65 hr) (dv 2) (dv 3)) da_nil)))) (by rfl))
      (dss_cons (dst_if (dt_w (dw_or (dt_not (dt_val (de_callB c_isi V.f_isinstance (da_cons (dv 0) (da_cons (de_ty (T := "list") V.f_list) da_nil))))) (dw_or1 (dt_cmp (o_neD (hu64 hr)) (dv 0) (dv 5))))) (dss_one (dst_ret de_bl)) dss_nil)
      (dss_cons (dst_for (passes_of rfl) rfl (di_seq (dv 0)) (dg_name (i := 6) sc__law_same_counts.nd) (dss_one (dst_if (dt_w (dw_or (dt_not (dt_val (de_callB c_isi V.f_isinstance (da_cons (dv 6) (da_cons (de_ty (T := "tuple") V.f_tuple) da_nil))))) (dw_or (dt_not (dt_val (de_callB c_isi V.f_isinstance (da_cons (de_ix o_ix (dv 6) de_int) (da_cons (de_ty (T := "tuple") V.f_tuple) da_nil))))) (dw_or1 (dt_not (dt_val (de_call D__law_int (hr.mono (by decide)) V.g__law_int (da_cons (de_ix o_ix (dv 6) de_int) da_nil)))))))) (dss_one (dst_ret de_bl)) dss_nil)))
      (dss_one (dst_ret de_bl))))), fun ds μ R h => ?_⟩)
  obtain ⟨-, rows, ls, rfl, hl, hR⟩ := h
  have hsz := sizeLine_eq
  simp only [dDropM, dLc, dFor, dISeq, dIRng1, dIRng2, dIZip, dIEnum, dSeq, dCall, SP, dFldC, dIfS, dAnd, dOr, dNot, dTest, dOp, dUn, dVar, dC, qI, qI0, qU, dNext, dRet, dRetN, dRaise, dCons, dNil, dTup, dLst, dSet, dPar, dAsg, dAug, dDrop, dgName, dgTup, dgNil, dgCons, dAndV, dOrV, dNotV, dIf, dCl, startD, List.map_cons, List.map_nil, List.length_cons, List.length_nil, List.cons_append, List.nil_append, List.append_nil, List.replicate, List.getElem?_cons_zero, List.getElem?_cons_succ, List.set_cons_zero, List.set_cons_succ, Option.some.injEq, List.cons.injEq, and_true, true_and, exists_eq_left', exists_eq_left, exists_eq, exists_eq', D.int.injEq, D.bl.injEq, D.tup.injEq, D.lst.injEq, D.adr.injEq, exists_and_left, and_assoc, exists_and_right, if_true, ite_true, decide_eq_true_eq, exists_eq_right, exists_eq_right', Nat.add_zero, Nat.sub_self, Nat.reduceSub, Nat.reduceAdd, eq_self]
  refine ⟨_, rfl, lcG (xs := rows) rows_seq (fun _ => true) (fun r => rowD (r.1, (ls.count r.1 : Int))) (by omega) (fun r hr Q Q' hQ hQ' => ?_) ?_⟩
  · simp only [dDropM, dLc, dFor, dISeq, dIRng1, dIRng2, dIZip, dIEnum, dSeq, dCall, SP, dFldC, dIfS, dAnd, dOr, dNot, dTest, dOp, dUn, dVar, dC, qI, qI0, qU, dNext, dRet, dRetN, dRaise, dCons, dNil, dTup, dLst, dSet, dPar, dAsg, dAug, dDrop, dgName, dgTup, dgNil, dgCons, dAndV, dOrV, dNotV, dIf, dCl, startD, List.map_cons, List.map_nil, List.length_cons, List.length_nil, List.cons_append, List.nil_append, List.append_nil, List.replicate, List.getElem?_cons_zero, List.getElem?_cons_succ, List.set_cons_zero, List.set_cons_succ, Option.some.injEq, List.cons.injEq, and_true, true_and, exists_eq_left', exists_eq_left, exists_eq, exists_eq', D.int.injEq, D.bl.injEq, D.tup.injEq, D.lst.injEq, D.adr.injEq, exists_and_left, and_assoc, exists_and_right, if_true, ite_true, decide_eq_true_eq, exists_eq_right, exists_eq_right', Nat.add_zero, Nat.sub_self, Nat.reduceSub, Nat.reduceAdd, eq_self, dYes, wipeD, rowD, dCntD]
    refine ⟨rfl, ⟨_, rfl⟩, _, _, py_tups rfl rfl, py_tupI r.1, shaped_tups _, (fl_pI r.1).sh (by decide), two_le, ?_⟩
    rw [count_pI]
    exact hQ rfl
  rw [filter_tt]
  have e : (rows.map fun r => rowD (r.1, (ls.count r.1 : Int))) = (cntR rows ls).map rowD := by unfold cntR; rw [List.map_map]; rfl
  rw [e]
  refine isi_lst ⟨_, rfl, ?_⟩
  rw [if_neg (by decide)]
  refine neD_of (eqD_rows (rs := cntR rows ls) rfl rfl rfl rfl ⟨rfl, rfl⟩) ⟨_, rfl, ?_⟩
  rw [if_neg (by decide)]
  refine ⟨_, rfl, forG rows_seq (fun done _ Γ' μ' => μ' = μ ∧ ∃ (o3 o6 : Option D), Γ' = [some (.lst ((cntR rows ls).map rowD)), some (.lst (rows.map rowD)), some (.lst (ls.map tupI)), none, none, some (.lst ((cntR rows ls).map rowD)), o6]) ⟨rfl, none, _, rfl⟩ (fun done r rest Γ' μ' hxs hI => ?_) fun Γ' μ' hI => ?_⟩
  · obtain ⟨rfl, o3, o6, rfl⟩ := hI
    simp only [dDropM, dLc, dFor, dISeq, dIRng1, dIRng2, dIZip, dIEnum, dSeq, dCall, SP, dFldC, dIfS, dAnd, dOr, dNot, dTest, dOp, dUn, dVar, dC, qI, qI0, qU, dNext, dRet, dRetN, dRaise, dCons, dNil, dTup, dLst, dSet, dPar, dAsg, dAug, dDrop, dgName, dgTup, dgNil, dgCons, dAndV, dOrV, dNotV, dIf, dCl, startD, List.map_cons, List.map_nil, List.length_cons, List.length_nil, List.cons_append, List.nil_append, List.append_nil, List.replicate, List.getElem?_cons_zero, List.getElem?_cons_succ, List.set_cons_zero, List.set_cons_succ, Option.some.injEq, List.cons.injEq, and_true, true_and, exists_eq_left', exists_eq_left, exists_eq, exists_eq', D.int.injEq, D.bl.injEq, D.tup.injEq, D.lst.injEq, D.adr.injEq, exists_and_left, and_assoc, exists_and_right, if_true, ite_true, decide_eq_true_eq, exists_eq_right, exists_eq_right', Nat.add_zero, Nat.sub_self, Nat.reduceSub, Nat.reduceAdd, eq_self, rowD]
    refine isi_tup ⟨_, rfl, ?_⟩
    rw [if_neg (by decide)]
    refine ix_ok rfl rfl (isi_tup ⟨_, rfl, ?_⟩)
    rw [if_neg (by decide)]
    refine ix_ok rfl rfl ⟨rfl, _, rfl, _, rfl, ?_⟩
    rw [if_neg (by decide)]
    exact ⟨rfl, o3, trivial⟩
  · obtain ⟨rfl, o3, o6, rfl⟩ := hI
    simp only [dDropM, dLc, dFor, dISeq, dIRng1, dIRng2, dIZip, dIEnum, dSeq, dCall, SP, dFldC, dIfS, dAnd, dOr, dNot, dTest, dOp, dUn, dVar, dC, qI, qI0, qU, dNext, dRet, dRetN, dRaise, dCons, dNil, dTup, dLst, dSet, dPar, dAsg, dAug, dDrop, dgName, dgTup, dgNil, dgCons, dAndV, dOrV, dNotV, dIf, dCl, startD, List.map_cons, List.map_nil, List.length_cons, List.length_nil, List.cons_append, List.nil_append, List.append_nil, List.replicate, List.getElem?_cons_zero, List.getElem?_cons_succ, List.set_cons_zero, List.set_cons_succ, Option.some.injEq, List.cons.injEq, and_true, true_and, exists_eq_left', exists_eq_left, exists_eq, exists_eq', D.int.injEq, D.bl.injEq, D.tup.injEq, D.lst.injEq, D.adr.injEq, exists_and_left, and_assoc, exists_and_right, if_true, ite_true, decide_eq_true_eq, exists_eq_right, exists_eq_right', Nat.add_zero, Nat.sub_self, Nat.reduceSub, Nat.reduceAdd, eq_self]
    exact hR
end N67
set_option Elab.async false
set_option linter.all false
set_option maxRecDepth 100000
set_option maxHeartbeats 4000000
set_option exponentiation.threshold 20000
namespace N67
open PySem PySem.Spec PyProof.Rows L2 Nod
theorem isi_ftup {K : PySem.W.Frag} {xs : List D} {μ : Mu} {R : DK} (h : R (.bl true) μ) : qIsiF K [.ftup xs, .ty "tuple"] μ R := ⟨_, _, _, true, rfl, .inl ⟨_, rfl, rfl⟩, rfl, h⟩
def sp__law_fields : DSp := SP 3 fun ds μ R RX => ∃ (t : Int) (ps : List Pr) (per : Int) (sh sh' : D) (lots : List (List Int)), ds = [calD (mixD t ps sh) per lots, mixD t ps sh', .lst (lots.map tupI)] ∧ (lots.length : Int) = per ∧ lots.length ≤ 1000 ∧ (∀ l ∈ lots, l.length ≤ 60) ∧ R (.bl true) μ
theorem sc__law_fields : FnScope ["_law_calendar", "_law_mixture", "_law_order_here", "_law_lot"] ["_law_calendar", "_law_mixture", "_law_order_here"] (defScope (top 68)) := ⟨rfl, rfl, rfl, by decide +kernel, rfl, by decide +kernel, by decide +kernel⟩
theorem fn__law_fields {P : Program} {w : World} {K : PySem.W.Frag} {mg : Str → Option Value} {base : Heap} {fd : FuncData} (V : Env K mg) (F : FunD K "_law_fields" "_law_fields" (defArgs (top 68)) (defBody (top 68)) (defScope (top 68)) [] [] (He.ga K "_law_fields") fd)  (D_Mixture___eq__ : DFn P w K mg base 5 (He.ma K (He.ga K "Mixture") "__eq__") ["self", "other"] [] sp_Mixture___eq__) (D__law_int : DFn P w K mg base 1 (He.ga K "_law_int") ["_law_told"] [] sp__law_int) (D__law_same_lot : DFn P w K mg base 2 (He.ga K "_law_same_lot") ["_law_told", "_law_due"] [] sp__law_same_lot) (OI_Calendar : OwnItP P w K mg base (He.ga K "Calendar") "order" 1) : FnOk P w K mg base (L2.CX P w) 6 (He.ga K "_law_fields") fd ["_law_calendar", "_law_mixture", "_law_order_here"] (low K sp__law_fields) := by
  refine fn_data F sc__law_fields (fun ds μ R RX h => h.1) (fun cdv A outer s H E RX hr L hW hU => ⟨_, (dss_cons (dst_if (dt_w (dw_or (dt_not (dt_val (de_callB c_isiF V.f_isinstance (da_cons (de_fld "Calendar" (dv 0) V.c_Calendar V.n_Calendar_order) (da_cons (de_ty (T := "tuple") V.f_tuple) da_nil))))) (dw_or1 (dt_cmp (o_neD (hu64 hr)) (de_fld "Calendar" (dv 0) V.c_Calendar V.n_Calendar_order) (de_callTy c_tuple V.f_tuple (da_cons (dv 2) da_nil)))))) (dss_one (dst_ret de_bl)) dss_nil)
      (dss_cons (dst_if (dt_not (dt_val (de_callB (c_all rfl) V.f_all (da_cons (de_lc [("_law_lot", 3)] (g := (gName 3)) rfl sc__law_fields.nd (di_seq (de_fld "Calendar" (dv 0) V.c_Calendar V.n_Calendar_order)) (blkOk_by rfl) (fun _ _ _ _ _ => (dgo_name (i := 3) sc__law_fields.nd)) (fun _ _ _ _ _ => dts_nil) (fun _ _ _ _ _ => (de_callF rfl D__law_same_lot (hr.mono (by decide)) V.g__law_same_lot (da_cons (dv 3) (da_cons (dv 3) da_nil))))) da_nil)))) (dss_one (dst_ret de_bl)) dss_nil)
      (dss_cons (dst_if (dt_w (dw_or (dt_not (dt_val (de_call D__law_int (hr.mono (by decide)) V.g__law_int (da_cons (de_fld "Calendar" (dv 0) V.c_Calendar V.n_Calendar_days) da_nil)))) (dw_or1 (dt_cmp o_ne (de_fld "Calendar" (dv 0) V.c_Calendar V.n_Calendar_days) (de_callB c_len V.f_len (da_cons (dv 2) da_nil)))))) (dss_one (dst_ret de_bl)) dss_nil)
      (dss_cons (dst_if (dt_cmp o_ne (de_callB (c_lenI (C := "Calendar") OI_Calendar (hr.mono (by decide))) V.f_len (da_cons (dv 0) da_nil)) (de_callB c_len V.f_len (da_cons (dv 2) da_nil))) (dss_one (dst_ret de_bl)) dss_nil)
      (dss_cons (dst_if (dt_w (dw_or (dt_cmp (o_neD (hu64 hr)) (de_callTy (c_listO (C := "Calendar") rfl OI_Calendar (hr.mono (by decide))) V.f_list (da_cons (dv 0) da_nil)) (dv 2)) (dw_or1 (dt_cmp (o_neD (hu64 hr)) (de_lc [("_law_lot", 3)] (g := (gName 3)) rfl sc__law_fields.nd (di_own (C := "Calendar") OI_Calendar (hr.mono (by decide)) (dv 0)) (blkOk_by rfl) (fun _ _ _ _ _ => (dgo_name (i := 3) sc__law_fields.nd)) (fun _ _ _ _ _ => dts_nil) (fun _ _ _ _ _ => (dv 3))) (dv 2))))) (dss_one (dst_ret de_bl)) dss_nil)
      (dss_one (dst_ret (de_cmp (o_eqO (C := "Mixture") D_Mixture___eq__ (hr.mono (by decide)) V.e_eqMixture V.e_fnMixture) (de_fld "Calendar" (dv 0) V.c_Calendar V.n_Calendar_mixture) (dv 1))))))))), fun ds μ R h => ?_⟩)
  obtain ⟨-, t, ps, per, sh, sh', lots, rfl, hp, hl, hz, hR⟩ := h
  have hsz := sizeLine_eq
  simp only [dDropM, dLc, dFor, dISeq, dIRng1, dIRng2, dIZip, dIEnum, dSeq, dCall, SP, dFldC, dIfS, dAnd, dOr, dNot, dTest, dOp, dUn, dVar, dC, qI, qI0, qU, dNext, dRet, dRetN, dRaise, dCons, dNil, dTup, dLst, dSet, dPar, dAsg, dAug, dDrop, dgName, dgTup, dgNil, dgCons, dAndV, dOrV, dNotV, dIf, dCl, startD, List.map_cons, List.map_nil, List.length_cons, List.length_nil, List.cons_append, List.nil_append, List.append_nil, List.replicate, List.getElem?_cons_zero, List.getElem?_cons_succ, List.set_cons_zero, List.set_cons_succ, Option.some.injEq, List.cons.injEq, and_true, true_and, exists_eq_left', exists_eq_left, exists_eq, exists_eq', D.int.injEq, D.bl.injEq, D.tup.injEq, D.lst.injEq, D.adr.injEq, exists_and_left, and_assoc, exists_and_right, if_true, ite_true, decide_eq_true_eq, exists_eq_right, exists_eq_right', Nat.add_zero, Nat.sub_self, Nat.reduceSub, Nat.reduceAdd, eq_self, order_calD, days_calD, mix_calD]
  refine isi_ftup ⟨_, rfl, ?_⟩
  rw [if_neg (by decide)]
  refine ⟨_, _, rfl, rfl, ?_⟩
  refine neD_of (eqD_ftup ⟨rfl, rfl⟩) ⟨_, rfl, ?_⟩
  rw [if_neg (by decide)]
  refine ⟨_, rfl, lcG (xs := lots) rows_seq (fun _ => true) (fun _ => .bl true) (by omega) (fun l hlm Q Q' hQ hQ' => ?_) ?_⟩
  · simp only [dDropM, dLc, dFor, dISeq, dIRng1, dIRng2, dIZip, dIEnum, dSeq, dCall, SP, dFldC, dIfS, dAnd, dOr, dNot, dTest, dOp, dUn, dVar, dC, qI, qI0, qU, dNext, dRet, dRetN, dRaise, dCons, dNil, dTup, dLst, dSet, dPar, dAsg, dAug, dDrop, dgName, dgTup, dgNil, dgCons, dAndV, dOrV, dNotV, dIf, dCl, startD, List.map_cons, List.map_nil, List.length_cons, List.length_nil, List.cons_append, List.nil_append, List.append_nil, List.replicate, List.getElem?_cons_zero, List.getElem?_cons_succ, List.set_cons_zero, List.set_cons_succ, Option.some.injEq, List.cons.injEq, and_true, true_and, exists_eq_left', exists_eq_left, exists_eq, exists_eq', D.int.injEq, D.bl.injEq, D.tup.injEq, D.lst.injEq, D.adr.injEq, exists_and_left, and_assoc, exists_and_right, if_true, ite_true, decide_eq_true_eq, exists_eq_right, exists_eq_right', Nat.add_zero, Nat.sub_self, Nat.reduceSub, Nat.reduceAdd, eq_self, dYes, wipeD]
    have := hz l hlm
    exact ⟨rfl, l, l, rfl, by omega, by rw [decide_eq_true rfl]; exact hQ rfl⟩
  rw [filter_tt]
  refine ⟨_, lots.map fun _ => true, rfl, by rw [List.map_map]; rfl, rfl, _, rfl, ?_⟩
  rw [show ((lots.map fun _ => true).all _root_.id) = true by simp, if_neg (by decide)]
  refine ⟨rfl, per, rfl, _, rfl, ?_⟩
  rw [if_neg (by decide)]
  have hll : ((lots.map tupI).length : Int) = per := by rw [List.length_map]; exact hp
  refine ⟨_, _, rfl, rfl, _, rfl, ?_⟩
  rw [hll, if_neg (by simp)]
  refine ⟨_, _, _, rfl, rfl, .inr rfl, ?_⟩
  refine ⟨_, _, rfl, rfl, _, rfl, _, rfl, ?_⟩
  rw [if_neg (by simp)]
  refine ⟨_, _, _, rfl, rfl, .inr rfl, ?_⟩
  refine neD_of (eqD_tups (ls := lots) rfl rfl rfl rfl ⟨rfl, rfl⟩) ⟨_, rfl, ?_⟩
  rw [if_neg (by decide)]
  simp only [dIOwn, dDropM, dLc, dFor, dISeq, dIRng1, dIRng2, dIZip, dIEnum, dSeq, dCall, SP, dFldC, dIfS, dAnd, dOr, dNot, dTest, dOp, dUn, dVar, dC, qI, qI0, qU, dNext, dRet, dRetN, dRaise, dCons, dNil, dTup, dLst, dSet, dPar, dAsg, dAug, dDrop, dgName, dgTup, dgNil, dgCons, dAndV, dOrV, dNotV, dIf, dCl, startD, List.map_cons, List.map_nil, List.length_cons, List.length_nil, List.cons_append, List.nil_append, List.append_nil, List.replicate, List.getElem?_cons_zero, List.getElem?_cons_succ, List.set_cons_zero, List.set_cons_succ, Option.some.injEq, List.cons.injEq, and_true, true_and, exists_eq_left', exists_eq_left, exists_eq, exists_eq', D.int.injEq, D.bl.injEq, D.tup.injEq, D.lst.injEq, D.adr.injEq, exists_and_left, and_assoc, exists_and_right, if_true, ite_true, decide_eq_true_eq, exists_eq_right, exists_eq_right', Nat.add_zero, Nat.sub_self, Nat.reduceSub, Nat.reduceAdd, eq_self]
  refine ⟨_, rfl, _, rfl, _, .inr rfl, lcG (xs := lots) rows_seq (fun _ => true) tupI (by omega) (fun l hlm Q Q' hQ hQ' => ?_) ?_⟩
  · simp only [dDropM, dLc, dFor, dISeq, dIRng1, dIRng2, dIZip, dIEnum, dSeq, dCall, SP, dFldC, dIfS, dAnd, dOr, dNot, dTest, dOp, dUn, dVar, dC, qI, qI0, qU, dNext, dRet, dRetN, dRaise, dCons, dNil, dTup, dLst, dSet, dPar, dAsg, dAug, dDrop, dgName, dgTup, dgNil, dgCons, dAndV, dOrV, dNotV, dIf, dCl, startD, List.map_cons, List.map_nil, List.length_cons, List.length_nil, List.cons_append, List.nil_append, List.append_nil, List.replicate, List.getElem?_cons_zero, List.getElem?_cons_succ, List.set_cons_zero, List.set_cons_succ, Option.some.injEq, List.cons.injEq, and_true, true_and, exists_eq_left', exists_eq_left, exists_eq, exists_eq', D.int.injEq, D.bl.injEq, D.tup.injEq, D.lst.injEq, D.adr.injEq, exists_and_left, and_assoc, exists_and_right, if_true, ite_true, decide_eq_true_eq, exists_eq_right, exists_eq_right', Nat.add_zero, Nat.sub_self, Nat.reduceSub, Nat.reduceAdd, eq_self, dYes, wipeD]
    exact hQ rfl
  rw [filter_tt]
  refine neD_of (eqD_tups (ls := lots) rfl rfl rfl rfl ⟨rfl, rfl⟩) ⟨_, rfl, ?_⟩
  rw [if_neg (by decide)]
  exact ⟨⟨_, _, rfl, rfl⟩, rfl, t, ps, sh, sh', rfl, hR⟩
def sp__law_days : DSp := SP 5 fun ds μ R RX => ∃ (t : Int) (rows : List Row) (per : Int) (sh : D) (lots : List (List Int)) (nums far : List Int), ds = [calD (mixD t (rows.map (prR per)) sh) per lots, .lst (rows.map rowD), .lst (lots.map tupI), .lst (nums.map D.int), .lst (far.map D.int)] ∧ rows.length ≤ 1000 ∧ 0 < per ∧ (lots.length : Int) = per ∧ lots.length ≤ 1000 ∧ (∀ l ∈ lots, l.length ≤ 60) ∧
  (∀ n ∈ nums, 0 ≤ n ∧ n ≤ per) ∧ (∀ n ∈ far, 0 ≤ n ∧ n ≤ 10 ^ 60) ∧ ∀ μ', Mext μ μ' → R (.bl true) μ'
theorem lend_adr {μ : Mu} {a : Addr} {ds : List D} (h : μ a = some (.lst ds)) : lendM μ (.adr a) = .lst ds := by
  unfold lendM
  show (match μ a with
    | some (.lst ds) => D.lst ds
    | _ => D.adr a) = _
  rw [h]
theorem sc__law_days : FnScope ["_law_calendar", "_law_rows_here", "_law_order_here", "_law_numbers", "_law_far", "_law_period", "_law_number_here", "_law_due", "_law_told"] ["_law_calendar", "_law_rows_here", "_law_order_here", "_law_numbers", "_law_far"] (defScope (top 69)) := ⟨rfl, rfl, rfl, by decide +kernel, rfl, by decide +kernel, by decide +kernel⟩
theorem fn__law_days {P : Program} {w : World} {K : PySem.W.Frag} {mg : Str → Option Value} {base : Heap} {fd : FuncData} (V : Env K mg) (F : FunD K "_law_days" "_law_days" (defArgs (top 69)) (defBody (top 69)) (defScope (top 69)) [] [] (He.ga K "_law_days") fd)  (D_Calendar_counts : DFn P w K mg base 2 (He.ma K (He.ga K "Calendar") "counts") ["self", "days"] [] sp_Calendar_counts) (D__law_same_lot : DFn P w K mg base 2 (He.ga K "_law_same_lot") ["_law_told", "_law_due"] [] sp__law_same_lot) (D__law_same_counts : DFn P w K mg base 2 (He.ga K "_law_same_counts") ["_law_told", "_law_rows_here", "_law_days_here"] [] sp__law_same_counts) (D_Calendar_day : DFn P w K mg base 2 (He.ma K (He.ga K "Calendar") "day") ["self", "number"] [] sp_Calendar_day) : FnOk P w K mg base (L2.CX P w) 3 (He.ga K "_law_days") fd ["_law_calendar", "_law_rows_here", "_law_order_here", "_law_numbers", "_law_far"] (low K sp__law_days) := by
  refine fn_data F sc__law_days (fun ds μ R RX h => h.1) (fun cdv A outer s H E RX hr L hW hU => ⟨_, (dss_cons (dst_set (i := 5) sc__law_days.nd (de_callB c_len V.f_len (da_cons (dv 2) da_nil)))
      (dss_cons (dst_for (passes_of rfl) rfl (di_seq (dv 4)) (dg_name (i := 6) sc__law_days.nd) (dss_cons (dst_set (i := 7) sc__law_days.nd (de_ix o_ix (dv 2) (de_op o_mod (de_callTy c_int V.f_int (da_cons (dv 6) da_nil)) (dv 5))))
      (dss_one (dst_if (dt_not (dt_val (de_call D__law_same_lot (hr.mono (by decide)) V.g__law_same_lot (da_cons (de_meth (C := "Calendar") (dv 0) V.c_Calendar V.m_Calendar_day D_Calendar_day (hr.mono (by decide)) (da_cons (dv 6) da_nil)) (da_cons (dv 7) da_nil))))) (dss_one (dst_ret de_bl)) dss_nil))))
      (dss_cons (dst_for (passes_of rfl) rfl (di_seq (dv 3)) (dg_name (i := 6) sc__law_days.nd) (dss_cons (dst_set (i := 8) sc__law_days.nd (de_meth (C := "Calendar") (dv 0) V.c_Calendar V.m_Calendar_counts D_Calendar_counts (hr.mono (by decide)) (da_cons (dv 6) da_nil)))
      (dss_cons (dst_if (dt_not (dt_val (de_callRO D__law_same_counts (hr.mono (by decide)) V.g__law_same_counts (da_cons (dv 8) (da_cons (dv 1) (da_cons (de_slL (dv 2) do_none (do_some (dv 6))) da_nil)))))) (dss_one (dst_ret de_bl)) dss_nil)
      (dss_cons (dst_expr (de_append (dv 8) (de_tup (da_cons (de_tup da_nil) (da_cons de_int da_nil)))))
      (dss_cons (dst_set (i := 8) sc__law_days.nd (de_meth (C := "Calendar") (dv 0) V.c_Calendar V.m_Calendar_counts D_Calendar_counts (hr.mono (by decide)) (da_cons (dv 6) da_nil)))
      (dss_one (dst_if (dt_not (dt_val (de_callRO D__law_same_counts (hr.mono (by decide)) V.g__law_same_counts (da_cons (dv 8) (da_cons (dv 1) (da_cons (de_slL (dv 2) do_none (do_some (dv 6))) da_nil)))))) (dss_one (dst_ret de_bl)) dss_nil)))))))
      (dss_one (dst_ret de_bl))))), fun ds μ R h => ?_⟩)
  obtain ⟨-, t, rows, per, sh, lots, nums, far, rfl, hr, hp, hll, hl, hz, hn, hf, hR⟩ := h
  have hsz := sizeLine_eq
  have hz1 : ∀ k, (lots.getD k []).length < sizeLine := fun k => by
    rw [List.getD_eq_getElem?_getD]
    cases e : lots[k]? with
    | none => show 0 < sizeLine; omega
    | some l => have := hz l (List.mem_of_getElem? e); show l.length < sizeLine; omega
  simp only [dDropM, dLc, dFor, dISeq, dIRng1, dIRng2, dIZip, dIEnum, dSeq, dCall, SP, dFldC, dIfS, dAnd, dOr, dNot, dTest, dOp, dUn, dVar, dC, qI, qI0, qU, dNext, dRet, dRetN, dRaise, dCons, dNil, dTup, dLst, dSet, dPar, dAsg, dAug, dDrop, dgName, dgTup, dgNil, dgCons, dAndV, dOrV, dNotV, dIf, dCl, startD, List.map_cons, List.map_nil, List.length_cons, List.length_nil, List.cons_append, List.nil_append, List.append_nil, List.replicate, List.getElem?_cons_zero, List.getElem?_cons_succ, List.set_cons_zero, List.set_cons_succ, Option.some.injEq, List.cons.injEq, and_true, true_and, exists_eq_left', exists_eq_left, exists_eq, exists_eq', D.int.injEq, D.bl.injEq, D.tup.injEq, D.lst.injEq, D.adr.injEq, exists_and_left, and_assoc, exists_and_right, if_true, ite_true, decide_eq_true_eq, exists_eq_right, exists_eq_right', Nat.add_zero, Nat.sub_self, Nat.reduceSub, Nat.reduceAdd, eq_self, qLen]
  refine ⟨_, rfl, ?_⟩
  rw [show ((lots.map tupI).length : Int) = per by rw [List.length_map]; exact hll]
  refine ⟨_, rfl, forG rows_seq (fun done _ Γ' μ' => μ' = μ ∧ ∃ (o6 o7 : Option D), Γ' = [some (calD (mixD t (rows.map (prR per)) sh) per lots), some (.lst (rows.map rowD)), some (.lst (lots.map tupI)), some (.lst (nums.map D.int)), some (.lst (far.map D.int)), some (.int per), o6, o7, none]) ⟨rfl, _, _, rfl⟩ (fun done n rest Γ' μ' hxs hI => ?_) fun Γ' μ' hI => ?_⟩
  · obtain ⟨rfl, o6, o7, rfl⟩ := hI
    have hn := hf n (by rw [hxs]; simp)
    have e0 := Int.emod_nonneg n (show per ≠ 0 by omega)
    have e1 := Int.emod_lt_of_pos n hp
    simp only [dDropM, dLc, dFor, dISeq, dIRng1, dIRng2, dIZip, dIEnum, dSeq, dCall, SP, dFldC, dIfS, dAnd, dOr, dNot, dTest, dOp, dUn, dVar, dC, qI, qI0, qU, dNext, dRet, dRetN, dRaise, dCons, dNil, dTup, dLst, dSet, dPar, dAsg, dAug, dDrop, dgName, dgTup, dgNil, dgCons, dAndV, dOrV, dNotV, dIf, dCl, startD, List.map_cons, List.map_nil, List.length_cons, List.length_nil, List.cons_append, List.nil_append, List.append_nil, List.replicate, List.getElem?_cons_zero, List.getElem?_cons_succ, List.set_cons_zero, List.set_cons_succ, Option.some.injEq, List.cons.injEq, and_true, true_and, exists_eq_left', exists_eq_left, exists_eq, exists_eq', D.int.injEq, D.bl.injEq, D.tup.injEq, D.lst.injEq, D.adr.injEq, exists_and_left, and_assoc, exists_and_right, if_true, ite_true, decide_eq_true_eq, exists_eq_right, exists_eq_right', Nat.add_zero, Nat.sub_self, Nat.reduceSub, Nat.reduceAdd, eq_self, dMeth]
    refine .inl ⟨n, rfl, _, rfl, hp, ?_⟩
    refine ix_ok rfl (atI_natD (j := (n % per).toNat) (by omega) (at_getT (by omega))) ?_
    refine ⟨.inl ⟨_, rfl, rfl⟩, rfl, _, per, lots, n, rfl, hp, hll, fun z => absurd z (by omega), fun _ => ⟨rfl, _, _, rfl, hz1 _, ?_⟩⟩
    rw [decide_eq_true rfl]
    exact ⟨_, rfl, by rw [if_neg (by decide)]⟩
  · obtain ⟨rfl, o6, o7, rfl⟩ := hI
    simp only [dDropM, dLc, dFor, dISeq, dIRng1, dIRng2, dIZip, dIEnum, dSeq, dCall, SP, dFldC, dIfS, dAnd, dOr, dNot, dTest, dOp, dUn, dVar, dC, qI, qI0, qU, dNext, dRet, dRetN, dRaise, dCons, dNil, dTup, dLst, dSet, dPar, dAsg, dAug, dDrop, dgName, dgTup, dgNil, dgCons, dAndV, dOrV, dNotV, dIf, dCl, startD, List.map_cons, List.map_nil, List.length_cons, List.length_nil, List.cons_append, List.nil_append, List.append_nil, List.replicate, List.getElem?_cons_zero, List.getElem?_cons_succ, List.set_cons_zero, List.set_cons_succ, Option.some.injEq, List.cons.injEq, and_true, true_and, exists_eq_left', exists_eq_left, exists_eq, exists_eq', D.int.injEq, D.bl.injEq, D.tup.injEq, D.lst.injEq, D.adr.injEq, exists_and_left, and_assoc, exists_and_right, if_true, ite_true, decide_eq_true_eq, exists_eq_right, exists_eq_right', Nat.add_zero, Nat.sub_self, Nat.reduceSub, Nat.reduceAdd, eq_self]
    refine ⟨_, rfl, forG rows_seq (fun done _ Γ' μ2 => Mext μ' μ2 ∧ ∃ (o6 o8 : Option D), Γ' = [some (calD (mixD t (rows.map (prR per)) sh) per lots), some (.lst (rows.map rowD)), some (.lst (lots.map tupI)), some (.lst (nums.map D.int)), some (.lst (far.map D.int)), some (.int per), o6, o7, o8]) ⟨Mext.refl μ', _, _, rfl⟩ (fun done n rest Γ' μ2 hxs hI => ?_) fun Γ' μ2 hI => ?_⟩
    · obtain ⟨hM, o6, o8, rfl⟩ := hI
      have hnn := hn n (by rw [hxs]; simp)
      simp only [dDropM, dLc, dFor, dISeq, dIRng1, dIRng2, dIZip, dIEnum, dSeq, dCall, SP, dFldC, dIfS, dAnd, dOr, dNot, dTest, dOp, dUn, dVar, dC, qI, qI0, qU, dNext, dRet, dRetN, dRaise, dCons, dNil, dTup, dLst, dSet, dPar, dAsg, dAug, dDrop, dgName, dgTup, dgNil, dgCons, dAndV, dOrV, dNotV, dIf, dCl, startD, List.map_cons, List.map_nil, List.length_cons, List.length_nil, List.cons_append, List.nil_append, List.append_nil, List.replicate, List.getElem?_cons_zero, List.getElem?_cons_succ, List.set_cons_zero, List.set_cons_succ, Option.some.injEq, List.cons.injEq, and_true, true_and, exists_eq_left', exists_eq_left, exists_eq, exists_eq', D.int.injEq, D.bl.injEq, D.tup.injEq, D.lst.injEq, D.adr.injEq, exists_and_left, and_assoc, exists_and_right, if_true, ite_true, decide_eq_true_eq, exists_eq_right, exists_eq_right', Nat.add_zero, Nat.sub_self, Nat.reduceSub, Nat.reduceAdd, eq_self, dMeth, dCallRO, dSlL, dNoPart, dPart, dAppend]
      refine ⟨.inl ⟨_, rfl, rfl⟩, rfl, t, rows, per, sh, lots, n, rfl, hr, fun z => absurd z (by omega), fun _ p hpn => ?_⟩
      refine ⟨_, rfl, rfl, ?_⟩
      rw [lend_adr updM_same, cut_take tupI lots hnn.1]
      refine ⟨rfl, rows, lots.take n.toNat, rfl, hr, rfl, rfl, _, rfl, ?_⟩
      rw [if_neg (by decide)]
      refine ⟨p, rfl, ⟨_, updM_same⟩, Nat.zero_le _, two_le, _, updM_same, by rw [List.length_map]; unfold cntR; rw [List.length_map]; omega, .inl ⟨_, rfl, rfl⟩, rfl, t, rows, per, sh, lots, n, rfl, hr, fun z => absurd z (by omega), fun _ p2 hp2 => ?_⟩
      refine ⟨_, rfl, rfl, ?_⟩
      rw [lend_adr updM_same, cut_take tupI lots hnn.1]
      refine ⟨rfl, rows, lots.take n.toNat, rfl, hr, rfl, rfl, _, rfl, ?_⟩
      rw [if_neg (by decide)]
      have hF := ((hM.upd (o := MO.lst ((cntR rows (lots.take n.toNat)).map rowD)) hpn).set (o := MO.lst ((cntR rows (lots.take n.toNat)).map rowD ++ [D.tup [D.tup [], D.int 0]])) (hM.none hpn)).upd (o := MO.lst ((cntR rows (lots.take n.toNat)).map rowD)) hp2
      exact hF
    · obtain ⟨hM, o6, o8, rfl⟩ := hI
      simp only [dDropM, dLc, dFor, dISeq, dIRng1, dIRng2, dIZip, dIEnum, dSeq, dCall, SP, dFldC, dIfS, dAnd, dOr, dNot, dTest, dOp, dUn, dVar, dC, qI, qI0, qU, dNext, dRet, dRetN, dRaise, dCons, dNil, dTup, dLst, dSet, dPar, dAsg, dAug, dDrop, dgName, dgTup, dgNil, dgCons, dAndV, dOrV, dNotV, dIf, dCl, startD, List.map_cons, List.map_nil, List.length_cons, List.length_nil, List.cons_append, List.nil_append, List.append_nil, List.replicate, List.getElem?_cons_zero, List.getElem?_cons_succ, List.set_cons_zero, List.set_cons_succ, Option.some.injEq, List.cons.injEq, and_true, true_and, exists_eq_left', exists_eq_left, exists_eq, exists_eq', D.int.injEq, D.bl.injEq, D.tup.injEq, D.lst.injEq, D.adr.injEq, exists_and_left, and_assoc, exists_and_right, if_true, ite_true, decide_eq_true_eq, exists_eq_right, exists_eq_right', Nat.add_zero, Nat.sub_self, Nat.reduceSub, Nat.reduceAdd, eq_self]
      exact hR _ hM
def sp__law_things : DSp := SP 3 fun ds μ R RX => ∃ (t : Int) (ps : List Pr) (per : Int) (sh : D) (lots : List (List Int)), ds = [calD (mixD t ps sh) per lots, .int t, .lst (lots.map tupI)] ∧ 0 ≤ t ∧ t ≤ 10 ∧ lots.length ≤ 1000 ∧ ∀ μ', Mext μ μ' → R (.bl true) μ'
theorem sc__law_things : FnScope ["_law_calendar", "_law_things_here", "_law_order_here", "_law_thing", "_law_due", "_law_day", "_law_told"] ["_law_calendar", "_law_things_here", "_law_order_here"] (defScope (top 70)) := ⟨rfl, rfl, rfl, by decide +kernel, rfl, by decide +kernel, by decide +kernel⟩
theorem fn__law_things {P : Program} {w : World} {K : PySem.W.Frag} {mg : Str → Option Value} {base : Heap} {fd : FuncData} (V : Env K mg) (F : FunD K "_law_things" "_law_things" (defArgs (top 70)) (defBody (top 70)) (defScope (top 70)) [] [] (He.ga K "_law_things") fd)  (D_Calendar_of_thing : DFn P w K mg base 2 (He.ma K (He.ga K "Calendar") "of_thing") ["self", "thing"] [] sp_Calendar_of_thing) (D__law_stranger : DFn P w K mg base 3 (He.ga K "_law_stranger") ["_law_calendar", "_law_thing"] [] sp__law_stranger) (D__law_same_list : DFn P w K mg base 2 (He.ga K "_law_same_list") ["_law_told", "_law_due"] [] sp__law_same_list) : FnOk P w K mg base (L2.CX P w) 4 (He.ga K "_law_things") fd ["_law_calendar", "_law_things_here", "_law_order_here"] (low K sp__law_things) := by
  refine fn_data F sc__law_things (fun ds μ R RX h => h.1) (fun cdv A outer s H E RX hr L hW hU => ⟨_, (dss_cons (dst_for (passes_of rfl) rfl (di_rng1 V.f_range (da_cons (dv 1) da_nil)) (dg_name (i := 3) sc__law_things.nd) (dss_cons (dst_set (i := 4) sc__law_things.nd (de_lstM da_nil))
      (dss_cons (dst_for (passes_of rfl) rfl (di_rng1 V.f_range (da_cons (de_callB c_len V.f_len (da_cons (dv 2) da_nil)) da_nil)) (dg_name (i := 5) sc__law_things.nd) (dss_one (dst_if (dt_cmp o_in (dv 3) (de_ix o_ix (dv 2) (dv 5))) (dss_one (dst_expr (de_append (dv 4) (dv 5)))) dss_nil)))
      (dss_cons (dst_set (i := 6) sc__law_things.nd (de_meth (C := "Calendar") (dv 0) V.c_Calendar V.m_Calendar_of_thing D_Calendar_of_thing (hr.mono (by decide)) (da_cons (dv 3) da_nil)))
      (dss_cons (dst_if (dt_not (dt_val (de_callRO D__law_same_list (hr.mono (by decide)) V.g__law_same_list (da_cons (dv 6) (da_cons (dv 4) da_nil))))) (dss_one (dst_ret de_bl)) dss_nil)
      (dss_cons (dst_expr (de_append (dv 6) (dv 3)))
      (dss_one (dst_if (dt_not (dt_val (de_callRO D__law_same_list (hr.mono (by decide)) V.g__law_same_list (da_cons (de_meth (C := "Calendar") (dv 0) V.c_Calendar V.m_Calendar_of_thing D_Calendar_of_thing (hr.mono (by decide)) (da_cons (dv 3) da_nil)) (da_cons (dv 4) da_nil))))) (dss_one (dst_ret de_bl)) dss_nil))))))))
      (dss_one (dst_ret (de_and (de_call D__law_stranger (hr.mono (by decide)) V.g__law_stranger (da_cons (dv 0) (da_cons (dv 1) da_nil))) (de_one (de_call D__law_stranger (hr.mono (by decide)) V.g__law_stranger (da_cons (dv 0) (da_cons (de_un o_neg de_int) da_nil)))))))), fun ds μ R h => ?_⟩)
  obtain ⟨-, t, ps, per, sh, lots, rfl, t0, t1, hl, hR⟩ := h
  have hsz := sizeLine_eq
  simp only [dDropM, dLc, dFor, dISeq, dIRng1, dIRng2, dIZip, dIEnum, dSeq, dCall, SP, dFldC, dIfS, dAnd, dOr, dNot, dTest, dOp, dUn, dVar, dC, qI, qI0, qU, dNext, dRet, dRetN, dRaise, dCons, dNil, dTup, dLst, dSet, dPar, dAsg, dAug, dDrop, dgName, dgTup, dgNil, dgCons, dAndV, dOrV, dNotV, dIf, dCl, startD, List.map_cons, List.map_nil, List.length_cons, List.length_nil, List.cons_append, List.nil_append, List.append_nil, List.replicate, List.getElem?_cons_zero, List.getElem?_cons_succ, List.set_cons_zero, List.set_cons_succ, Option.some.injEq, List.cons.injEq, and_true, true_and, exists_eq_left', exists_eq_left, exists_eq, exists_eq', D.int.injEq, D.bl.injEq, D.tup.injEq, D.lst.injEq, D.adr.injEq, exists_and_left, and_assoc, exists_and_right, if_true, ite_true, decide_eq_true_eq, exists_eq_right, exists_eq_right', Nat.add_zero, Nat.sub_self, Nat.reduceSub, Nat.reduceAdd, eq_self]
  refine ⟨by omega, by omega, forG rows_rng (fun done _ Γ' μ' => Mext μ μ' ∧ ∃ (o3 o4 o5 o6 : Option D), Γ' = [some (calD (mixD t ps sh) per lots), some (.int t), some (.lst (lots.map tupI)), o3, o4, o5, o6]) ⟨Mext.refl μ, _, _, _, _, rfl⟩ (fun done k rest Γ' μ' hxs hI => ?_) fun Γ' μ' hI => ?_⟩
  · obtain ⟨hM, o3, o4, o5, o6, rfl⟩ := hI
    obtain ⟨-, hk⟩ := range_at hxs
    simp only [dDropM, dLc, dFor, dISeq, dIRng1, dIRng2, dIZip, dIEnum, dSeq, dCall, SP, dFldC, dIfS, dAnd, dOr, dNot, dTest, dOp, dUn, dVar, dC, qI, qI0, qU, dNext, dRet, dRetN, dRaise, dCons, dNil, dTup, dLst, dSet, dPar, dAsg, dAug, dDrop, dgName, dgTup, dgNil, dgCons, dAndV, dOrV, dNotV, dIf, dCl, startD, List.map_cons, List.map_nil, List.length_cons, List.length_nil, List.cons_append, List.nil_append, List.append_nil, List.replicate, List.getElem?_cons_zero, List.getElem?_cons_succ, List.set_cons_zero, List.set_cons_succ, Option.some.injEq, List.cons.injEq, and_true, true_and, exists_eq_left', exists_eq_left, exists_eq, exists_eq', D.int.injEq, D.bl.injEq, D.tup.injEq, D.lst.injEq, D.adr.injEq, exists_and_left, and_assoc, exists_and_right, if_true, ite_true, decide_eq_true_eq, exists_eq_right, exists_eq_right', Nat.add_zero, Nat.sub_self, Nat.reduceSub, Nat.reduceAdd, eq_self, dLstM, dNil, qLen]
    refine ⟨Nat.zero_le _, fun q hq => ⟨_, rfl, by rw [List.length_map]; omega, by rw [List.length_map]; omega, ?_⟩⟩
    rw [List.length_map, Int.toNat_natCast]
    refine forG (xs := lots.zipIdx) rows_rngz (fun done' _ Γ' μ2 => μ2 = updM μ' q (.lst (((done'.filter fun z => decide ((k : Int) ∈ z.1)).map fun z => (z.2 : Int)).map D.int)) ∧ ∃ (o5 : Option D), Γ' = [some (calD (mixD t ps sh) per lots), some (.int t), some (.lst (lots.map tupI)), some (.int k), some (.adr q), o5, o6]) ⟨rfl, _, rfl⟩ (fun done' z rest' Γ' μ2 hxs' hI' => ?_) fun Γ' μ2 hI' => ?_
    · obtain ⟨rfl, o5, rfl⟩ := hI'
      have hz : z ∈ lots.zipIdx := by rw [hxs']; simp
      have hz1 := List.mem_zipIdx_iff_getElem?.mp hz
      simp only [dDropM, dLc, dFor, dISeq, dIRng1, dIRng2, dIZip, dIEnum, dSeq, dCall, SP, dFldC, dIfS, dAnd, dOr, dNot, dTest, dOp, dUn, dVar, dC, qI, qI0, qU, dNext, dRet, dRetN, dRaise, dCons, dNil, dTup, dLst, dSet, dPar, dAsg, dAug, dDrop, dgName, dgTup, dgNil, dgCons, dAndV, dOrV, dNotV, dIf, dCl, startD, List.map_cons, List.map_nil, List.length_cons, List.length_nil, List.cons_append, List.nil_append, List.append_nil, List.replicate, List.getElem?_cons_zero, List.getElem?_cons_succ, List.set_cons_zero, List.set_cons_succ, Option.some.injEq, List.cons.injEq, and_true, true_and, exists_eq_left', exists_eq_left, exists_eq, exists_eq', D.int.injEq, D.bl.injEq, D.tup.injEq, D.lst.injEq, D.adr.injEq, exists_and_left, and_assoc, exists_and_right, if_true, ite_true, decide_eq_true_eq, exists_eq_right, exists_eq_right', Nat.add_zero, Nat.sub_self, Nat.reduceSub, Nat.reduceAdd, eq_self, dAppend]
      refine ix_ok rfl (atI_natD rfl (by rw [List.getElem?_map, hz1]; rfl)) ?_
      refine ⟨_, rfl, rfl, by rw [List.all_map]; exact List.all_eq_true.mpr fun _ _ => rfl, ?_⟩
      simp only [Bool.false_eq_true, if_false]
      rw [inD_ints]
      refine ⟨_, rfl, ?_⟩
      have hdl : done'.length ≤ lots.length := by
        have := congrArg List.length hxs'
        rw [List.length_zipIdx, List.length_append, List.length_cons] at this
        omega
      rw [List.filter_append]
      by_cases c : (k : Int) ∈ z.1
      · rw [if_pos (decide_eq_true c), List.filter_cons, if_pos (decide_eq_true c)]
        refine ⟨⟨_, updM_same⟩, _, updM_same, ?_, ?_⟩
        · rw [List.length_map, List.length_map]
          have := List.length_filter_le (fun z => decide ((k : Int) ∈ z.1)) done'
          omega
        · rw [updM_updM, List.map_append, List.map_append]
          rfl
      · rw [if_neg (by rw [decide_eq_false c]; decide), List.filter_cons, if_neg (by rw [decide_eq_false c]; decide), List.filter_nil, List.append_nil]
    · obtain ⟨rfl, o5, rfl⟩ := hI'
      simp only [dDropM, dLc, dFor, dISeq, dIRng1, dIRng2, dIZip, dIEnum, dSeq, dCall, SP, dFldC, dIfS, dAnd, dOr, dNot, dTest, dOp, dUn, dVar, dC, qI, qI0, qU, dNext, dRet, dRetN, dRaise, dCons, dNil, dTup, dLst, dSet, dPar, dAsg, dAug, dDrop, dgName, dgTup, dgNil, dgCons, dAndV, dOrV, dNotV, dIf, dCl, startD, List.map_cons, List.map_nil, List.length_cons, List.length_nil, List.cons_append, List.nil_append, List.append_nil, List.replicate, List.getElem?_cons_zero, List.getElem?_cons_succ, List.set_cons_zero, List.set_cons_succ, Option.some.injEq, List.cons.injEq, and_true, true_and, exists_eq_left', exists_eq_left, exists_eq, exists_eq', D.int.injEq, D.bl.injEq, D.tup.injEq, D.lst.injEq, D.adr.injEq, exists_and_left, and_assoc, exists_and_right, if_true, ite_true, decide_eq_true_eq, exists_eq_right, exists_eq_right', Nat.add_zero, Nat.sub_self, Nat.reduceSub, Nat.reduceAdd, eq_self, dMeth, dCallRO, dAppend]
      refine ⟨.inl ⟨_, rfl, rfl⟩, rfl, t, ps, per, sh, lots, k, rfl, hl, fun z => absurd z (by omega), fun _ p hp => ?_⟩
      have hpq : q ≠ p := fun z => by rw [z, updM_same] at hp; cases hp
      have hdz : (daysAt k lots).length < sizeLine := by
        unfold daysAt
        rw [List.length_map]
        have := List.length_filter_le (fun z => decide ((k : Int) ∈ z.1)) lots.zipIdx
        rw [List.length_zipIdx] at this
        omega
      show sp__law_same_list _ _ _ _
      rw [lend_adr updM_same, lend_adr (a := q) (by rw [updM_ne hpq]; exact updM_same)]
      refine ⟨rfl, daysAt k lots, daysAt k lots, rfl, hdz, ?_⟩
      rw [decide_eq_true rfl]
      refine ⟨rfl, rfl, _, rfl, ?_⟩
      rw [if_neg (by decide)]
      refine ⟨p, rfl, ⟨_, updM_same⟩, _, updM_same, by rw [List.length_map]; exact hdz, .inl ⟨_, rfl, rfl⟩, rfl, t, ps, per, sh, lots, k, rfl, hl, fun z => absurd z (by omega), fun _ p3 hp3 => ?_⟩
      rw [updM_updM] at hp3 ⊢
      obtain ⟨h31, h32⟩ := none_upd hp3
      have hpq3 : q ≠ p3 := fun z => by rw [z, updM_same] at h32; cases h32
      rw [lend_adr updM_same, lend_adr (a := q) (by rw [updM_ne hpq3, updM_ne hpq]; exact updM_same)]
      refine ⟨rfl, daysAt k lots, daysAt k lots, rfl, hdz, ?_⟩
      rw [decide_eq_true rfl]
      refine ⟨rfl, rfl, _, rfl, ?_⟩
      rw [if_neg (by decide)]
      have hF := ((hM.upd (o := MO.lst ((daysAt k lots).map D.int)) hq).upd (o := MO.lst ((daysAt k lots).map D.int ++ [D.int k])) hp).upd (o := MO.lst ((daysAt k lots).map D.int)) hp3
      exact hF
  · obtain ⟨hM, o3, o4, o5, o6, rfl⟩ := hI
    simp only [dDropM, dLc, dFor, dISeq, dIRng1, dIRng2, dIZip, dIEnum, dSeq, dCall, SP, dFldC, dIfS, dAnd, dOr, dNot, dTest, dOp, dUn, dVar, dC, qI, qI0, qU, dNext, dRet, dRetN, dRaise, dCons, dNil, dTup, dLst, dSet, dPar, dAsg, dAug, dDrop, dgName, dgTup, dgNil, dgCons, dAndV, dOrV, dNotV, dIf, dCl, startD, List.map_cons, List.map_nil, List.length_cons, List.length_nil, List.cons_append, List.nil_append, List.append_nil, List.replicate, List.getElem?_cons_zero, List.getElem?_cons_succ, List.set_cons_zero, List.set_cons_succ, Option.some.injEq, List.cons.injEq, and_true, true_and, exists_eq_left', exists_eq_left, exists_eq, exists_eq', D.int.injEq, D.bl.injEq, D.tup.injEq, D.lst.injEq, D.adr.injEq, exists_and_left, and_assoc, exists_and_right, if_true, ite_true, decide_eq_true_eq, exists_eq_right, exists_eq_right', Nat.add_zero, Nat.sub_self, Nat.reduceSub, Nat.reduceAdd, eq_self]
    refine ⟨rfl, t, ps, per, sh, lots, t, rfl, hl, .inr (Int.le_refl _), true, rfl, ?_⟩
    rw [if_pos rfl]
    exact ⟨rfl, t, ps, per, sh, lots, -1, rfl, hl, .inl (by decide), hR _ hM⟩
end N67
set_option Elab.async false
set_option linter.all false
set_option maxRecDepth 100000
set_option maxHeartbeats 4000000
set_option exponentiation.threshold 20000
namespace N67
open PySem PySem.Spec PyProof.Rows L2 Nod
theorem ev_srt (t : Int) : (rgI 0 t).Pairwise (· < ·) := by
  unfold rgI
  refine List.pairwise_map.mpr ((List.pairwise_lt_range).imp fun {a b} h => ?_)
  omega
theorem ev_mem {t k : Int} : k ∈ rgI 0 t ↔ 0 ≤ k ∧ k < t := by
  unfold rgI
  rw [List.mem_map]
  constructor
  · rintro ⟨a, ha, rfl⟩
    have := List.mem_range.mp ha
    omega
  · rintro ⟨h0, h1⟩
    exact ⟨k.toNat, List.mem_range.mpr (by omega), by omega⟩
theorem ev_len {t : Int} (h1 : t ≤ 10) : (rgI 0 t).length ≤ 10 := by unfold rgI; rw [List.length_map, List.length_range]; omega
theorem ev_ne {t : Int} (h : 0 < t) : rgI 0 t ≠ [] := fun z => by
  have : (0 : Int) ∈ rgI 0 t := ev_mem.mpr ⟨Int.le_refl _, h⟩
  rw [z] at this; cases this
theorem calOk_of {ps : List Part} (P : PosP ps) (hw : wt ps ≤ 10 ^ 40) (hl : ps.length ≤ 1000) : CalOk (rowsL ps) (perL ps) := by
  have O := mix_ok P hw
  rw [mixL_rows P] at O
  have E := perM_mix P
  rw [mixL_rows P] at E
  refine ⟨O, E, ?_, ⟨fun n hn => ?_, days_sum⟩, perL_pos P⟩
  · unfold rowsL lotsS sortLen
    rw [List.length_map, List.length_mergeSort]
    have := len_lotsU ps []
    rw [List.length_nil, Nat.zero_add] at this
    exact Nat.le_trans this hl
  · obtain ⟨r, hr, rfl⟩ := List.mem_map.mp hn
    exact days_pos P r hr
/-- a mixture made of parts, told by its rows -/
theorem make_mixR {K : PySem.W.Frag} {t : Int} {gs : List Giv} {ps : List Part} {rows : List Row} {per : Int} {μ : Mu} {R : List (Str × D) → Mu → Prop} {RX : DX} {x : Addr} (hx : μ x = none) (h : PosP ps) (hg : gs.map Giv.pr = ps.map (rdP (wt ps))) (hok : ∀ g ∈ gs, GivOk t g) (h0 : 0 ≤ t) (h1 : t ≤ 10) (hl : gs.length ≤ 1000) (hw : wt ps ≤ 10 ^ 40)
    (hT : μ (tabAd K "_gathered") = some (.tab "_gathered.<locals>.<lambda>")) {xs : D} (hxs : xs = .lst (gs.map givD)) (er : rowsL ps = rows) (ep : perL ps = per)
    (hR : ∀ sh, R [("things", .int t), ("pairs", .tup ((rows.map (prR per)).map prD)), ("shares", sh)] (updM μ x (.ins "Mixture" [("things", .int t), ("pairs", .tup ((rows.map (prR per)).map prD)), ("shares", sh)]))) :
    sp_Mixture_init K [D.adr x, .int t, xs] (updM μ x (MO.ins "Mixture" [])) (fun y μ2 => y = D.non ∧ ∃ gs, μ2 x = some (MO.ins "Mixture" gs) ∧ R gs μ2) RX := by
  refine make_mix hx h hg hok h0 h1 hl hw hT (fun sh => ?_) hxs
  rw [mixL_rows h, er, ep]
  exact hR sh
theorem g401 : gI 1 401 = 1 := by decide +kernel
theorem g400 : gI 1 400 = 1 := by decide +kernel
theorem g11 : gI 1 1 = 1 := by decide +kernel
theorem g12 : gI 1 2 = 1 := by decide +kernel
theorem ord400 : (ordM [1, 399] 400).countP (fun k => k == 0) = 1 ∧ (ordM [1, 399] 400).countP (fun k => k == 1) = 399 := by decide +kernel
theorem cnt400 {e : List Int} (he : e ≠ []) (C : CalOk [([], 1), (e, 399)] 400) : cntR [([], 1), (e, 399)] ((lotsO [([], 1), (e, 399)] 400).take (400 : Int).toNat) = [([], 1), (e, 399)] := by
  have hl := lotsO_len C
  have hO := day_ok C.cnt (400 : Int).toNat (by decide)
  have hm : ∀ k ∈ ordM [1, 399] 400, k < 2 := hO.omem
  rw [List.take_of_length_le (by omega)]
  have h1 : (lotsO [([], 1), (e, 399)] 400).count [] = 1 := by
    unfold lotsO List.count
    rw [List.countP_map]
    refine Eq.trans (List.countP_congr fun k hk => ?_) ord400.1
    have h := hm k hk
    rcases (show k = 0 ∨ k = 1 by omega) with rfl | rfl
    · simp
    · simp [he]
  have h2 : (lotsO [([], 1), (e, 399)] 400).count e = 399 := by
    unfold lotsO List.count
    rw [List.countP_map]
    refine Eq.trans (List.countP_congr fun k hk => ?_) ord400.2
    have h := hm k hk
    rcases (show k = 0 ∨ k = 1 by omega) with rfl | rfl
    · simp [he, Ne.symm he]
    · simp
  unfold cntR
  rw [List.map_cons, List.map_cons, List.map_nil, h1, h2]
  rfl
theorem giv0 {t d : Int} (x : D) (hx : seqD x = some ([].map D.int)) (h0 : 0 < d) : GivOk t ⟨1, d, x, [], []⟩ := ⟨show (0 : Int) < 1 by decide, h0, small_MOST (show (1 : Int).natAbs ≤ _ by decide), hx, Nat.zero_le _, (fun n hn => nomatch hn), List.Pairwise.nil, (fun k => Iff.rfl)⟩
theorem giv1 {t n d : Int} (n0 : 0 < n) (n1 : n ≤ 1000) (d0 : 0 < d) (x : D) (hx : seqD x = some ((rgI 0 t).map D.int)) (h1 : t ≤ 10) : GivOk t ⟨n, d, x, rgI 0 t, rgI 0 t⟩ :=
  ⟨n0, d0, small_MOST (Nat.le_trans (show n.natAbs ≤ 1000 by omega) (by decide)), hx, Nat.le_trans (ev_len h1) (by decide), fun k hk => ev_mem.mp hk, ev_srt t, fun k => Iff.rfl⟩
def sp__law_edges (K : PySem.W.Frag) : DSp := SP 1 fun ds μ R RX => ∃ t : Int, ds = [.int t] ∧ 0 ≤ t ∧ t ≤ 10 ∧ μ (tabAd K "_gathered") = some (.tab "_gathered.<locals>.<lambda>") ∧ ∀ μ', Mext μ μ' → R (.bl true) μ'
theorem sc__law_edges : FnScope ["_law_things_here", "_law_every", "_law_least", "_law_mixture", "_law_calendar"] ["_law_things_here"] (defScope (top 66)) := ⟨rfl, rfl, rfl, by decide +kernel, rfl, by decide +kernel, by decide +kernel⟩
theorem fn__law_edges {P : Program} {w : World} {K : PySem.W.Frag} {mg : Str → Option Value} {base : Heap} {fd : FuncData} (V : Env K mg) (F : FunD K "_law_edges" "_law_edges" (defArgs (top 66)) (defBody (top 66)) (defScope (top 66)) [] [] (He.ga K "_law_edges") fd)  (D_Ratio_init2 : DFn P w K mg base 2 (He.ma K (He.ga K "Ratio") "__init__") ["self", "num", "den"] [] sp_Ratio_init) (D_Mixture_init : DFn P w K mg base 7 (He.ma K (He.ga K "Mixture") "__init__") ["self", "things", "pairs"] [] (sp_Mixture_init K)) (D_Calendar_init : DFn P w K mg base 3 (He.ma K (He.ga K "Calendar") "__init__") ["self", "mixture"] [] sp_Calendar_init) (D__law_too_long : DFn P w K mg base 5 (He.ga K "_law_too_long") ["_law_mixture", "_law_period"] [] sp__law_too_long) (D_Calendar_counts : DFn P w K mg base 2 (He.ma K (He.ga K "Calendar") "counts") ["self", "days"] [] sp_Calendar_counts) (D_Ratio___sub__ : DFn P w K mg base 5 (He.ma K (He.ga K "Ratio") "__sub__") ["self", "other"] [] sp_Ratio___sub__) (D_Ratio_init1 : DFn P w K mg base 2 (He.ma K (He.ga K "Ratio") "__init__") ["self", "num", "den"] [.int 1] sp_Ratio_init) (OI_Calendar : OwnItP P w K mg base (He.ga K "Calendar") "order" 1) : FnOk P w K mg base (L2.CX P w) 9 (He.ga K "_law_edges") fd ["_law_things_here"] (low K (sp__law_edges K)) := by
  refine fn_data F sc__law_edges (fun ds μ R RX h => h.1) (fun cdv A outer s H E RX hr L hW hU => ⟨_, (dss_cons (dst_if (dt_cmp o_eq (dv 0) de_int) (dss_one (dst_ret de_bl)) dss_nil)
      (dss_cons (dst_set (i := 1) sc__law_edges.nd (de_tupRg rfl V.f_tuple V.f_range (dv 0)))
      (dss_cons (dst_set (i := 2) sc__law_edges.nd (de_make V.k_Ratio D_Ratio_init2 (hr.mono (by decide)) V.g_Ratio (da_cons de_int (da_cons de_int da_nil))))
      (dss_cons (dst_set (i := 3) sc__law_edges.nd (de_make V.k_Mixture D_Mixture_init (hr.mono (by decide)) V.g_Mixture (da_cons (dv 0) (da_cons (de_lst (da_cons (de_tup (da_cons (dv 2) (da_cons (de_lst da_nil) da_nil))) (da_cons (de_tup (da_cons (de_binO (de_make V.k_Ratio D_Ratio_init1 (hr.mono (by decide)) V.g_Ratio (da_cons de_int da_nil)) (dv 2) D_Ratio___sub__ (hr.mono (by decide)) V.sf_Ratio V.fi_Ratio___sub__ V.isf_Ratio___sub__) (da_cons (dv 1) da_nil))) da_nil))) da_nil))))
      (dss_cons (dst_if (dt_not (dt_val (de_call D__law_too_long (hr.mono (by decide)) V.g__law_too_long (da_cons (dv 3) (da_cons de_int da_nil))))) (dss_one (dst_ret de_bl)) dss_nil)
      (dss_cons (dst_set (i := 2) sc__law_edges.nd (de_make V.k_Ratio D_Ratio_init2 (hr.mono (by decide)) V.g_Ratio (da_cons de_int (da_cons de_int da_nil))))
      (dss_cons (dst_set (i := 4) sc__law_edges.nd (de_make V.k_Calendar D_Calendar_init (hr.mono (by decide)) V.g_Calendar (da_cons (de_make V.k_Mixture D_Mixture_init (hr.mono (by decide)) V.g_Mixture (da_cons (dv 0) (da_cons (de_lst (da_cons (de_tup (da_cons (dv 2) (da_cons (de_lst da_nil) da_nil))) (da_cons (de_tup (da_cons (de_binO (de_make V.k_Ratio D_Ratio_init1 (hr.mono (by decide)) V.g_Ratio (da_cons de_int da_nil)) (dv 2) D_Ratio___sub__ (hr.mono (by decide)) V.sf_Ratio V.fi_Ratio___sub__ V.isf_Ratio___sub__) (da_cons (dv 1) da_nil))) da_nil))) da_nil))) da_nil)))
      (dss_one (dst_ret (de_and (de_cmp o_eq (de_callB (c_lenI (C := "Calendar") OI_Calendar (hr.mono (by decide))) V.f_len (da_cons (dv 4) da_nil)) de_int) (de_one (de_cmp (o_eqD (hu64 hr)) (de_meth (C := "Calendar") (dv 4) V.c_Calendar V.m_Calendar_counts D_Calendar_counts (hr.mono (by decide)) (da_cons de_int da_nil)) (de_lst (da_cons (de_tup (da_cons (de_tup da_nil) (da_cons de_int da_nil))) (da_cons (de_tup (da_cons (dv 1) (da_cons de_int da_nil))) da_nil))))))))))))))), fun ds μ R h => ?_⟩)
  obtain ⟨-, t, rfl, h0, h1, hT, hR⟩ := h
  have hsz := sizeLine_eq
  have hM : (10 : Int) ^ 40 ≤ c_MOST := by unfold c_MOST; decide +kernel
  simp only [dDropM, dLc, dFor, dISeq, dIRng1, dIRng2, dIZip, dIEnum, dSeq, dCall, SP, dFldC, dIfS, dAnd, dOr, dNot, dTest, dOp, dUn, dVar, dC, qI, qI0, qU, dNext, dRet, dRetN, dRaise, dCons, dNil, dTup, dLst, dSet, dPar, dAsg, dAug, dDrop, dgName, dgTup, dgNil, dgCons, dAndV, dOrV, dNotV, dIf, dCl, startD, List.map_cons, List.map_nil, List.length_cons, List.length_nil, List.cons_append, List.nil_append, List.append_nil, List.replicate, List.getElem?_cons_zero, List.getElem?_cons_succ, List.set_cons_zero, List.set_cons_succ, Option.some.injEq, List.cons.injEq, and_true, true_and, exists_eq_left', exists_eq_left, exists_eq, exists_eq', D.int.injEq, D.bl.injEq, D.tup.injEq, D.lst.injEq, D.adr.injEq, exists_and_left, and_assoc, exists_and_right, if_true, ite_true, decide_eq_true_eq, exists_eq_right, exists_eq_right', Nat.add_zero, Nat.sub_self, Nat.reduceSub, Nat.reduceAdd, eq_self, dTupRg, dMake, dBinO]
  by_cases c : t = 0
  · rw [if_pos c]; exact hR μ (Mext.refl μ)
  rw [if_neg c]
  have hsort := (sort_a (t := t) (by omega) h1).1
  have hne := ev_ne (t := t) (by omega)
  have er400 := (rows_a (w := 400) hne hsort).1
  have ep400 : perL [(1, []), (400, rgI 0 t)] = 401 := (rows_a (w := 400) hne hsort).2
  have er399 := (rows_a (w := 399) hne hsort).1
  have ep399 : perL [(1, []), (399, rgI 0 t)] = 400 := (rows_a (w := 399) hne hsort).2
  have P400 : PosP [(1, []), (400, rgI 0 t)] := ⟨by simp, fun p hp => by
    rcases List.mem_cons.mp hp with rfl | hp
    · decide
    · rw [List.mem_singleton] at hp; subst hp; show (0 : Int) < 400; decide⟩
  have hw400 : wt [(1, []), (400, rgI 0 t)] ≤ 10 ^ 40 := show (1 : Int) + (400 + 0) ≤ 10 ^ 40 by decide
  have C400 : CalOk [([], 1), (rgI 0 t, 400)] 401 := by
    have := calOk_of P400 hw400 (by simp)
    rw [er400, ep400] at this
    exact this
  have hg400 : [(⟨1, 401, .lst [], [], []⟩ : Giv), ⟨400, 401, tupI (rgI 0 t), rgI 0 t, rgI 0 t⟩].map Giv.pr = [(1, []), (400, rgI 0 t)].map (rdP (wt [(1, []), (400, rgI 0 t)])) := by
    show [((1 : Int), (401 : Int), ([] : List Int)), (400, 401, rgI 0 t)] = [(1 / gI 1 401, 401 / gI 1 401, []), (400 / gI 400 401, 401 / gI 400 401, rgI 0 t)]
    rw [g401, show gI 400 401 = 1 by decide +kernel, Int.ediv_one, Int.ediv_one, Int.ediv_one]
  have hv400 : ∀ g ∈ [(⟨1, 401, .lst [], [], []⟩ : Giv), ⟨400, 401, tupI (rgI 0 t), rgI 0 t, rgI 0 t⟩], GivOk t g := fun g hg => by
    rcases List.mem_cons.mp hg with rfl | hg
    · exact giv0 _ rfl (by decide)
    · rw [List.mem_singleton] at hg; subst hg; exact giv1 (by decide) (by decide) (by decide) _ rfl h1
  have hd400 : redD (1 * 401 - 1 * 1) (1 * 401) = ratD 400 401 := by
    unfold redD
    rw [show gI (1 * 401 - 1 * 1) (1 * 401) = 1 by decide +kernel, Int.ediv_one, Int.ediv_one]
    rfl

  have P399 : PosP [(1, []), (399, rgI 0 t)] := ⟨by simp, fun p hp => by
    rcases List.mem_cons.mp hp with rfl | hp
    · decide
    · rw [List.mem_singleton] at hp; subst hp; show (0 : Int) < 399; decide⟩
  have hw399 : wt [(1, []), (399, rgI 0 t)] ≤ 10 ^ 40 := show (1 : Int) + (399 + 0) ≤ 10 ^ 40 by decide
  have C399 : CalOk [([], 1), (rgI 0 t, 399)] 400 := by
    have := calOk_of P399 hw399 (by simp)
    rw [er399, ep399] at this
    exact this
  have hg399 : [(⟨1, 400, .lst [], [], []⟩ : Giv), ⟨399, 400, tupI (rgI 0 t), rgI 0 t, rgI 0 t⟩].map Giv.pr = [(1, []), (399, rgI 0 t)].map (rdP (wt [(1, []), (399, rgI 0 t)])) := by
    show [((1 : Int), (400 : Int), ([] : List Int)), (399, 400, rgI 0 t)] = [(1 / gI 1 400, 400 / gI 1 400, []), (399 / gI 399 400, 400 / gI 399 400, rgI 0 t)]
    rw [g400, show gI 399 400 = 1 by decide +kernel, Int.ediv_one, Int.ediv_one, Int.ediv_one]
  have hv399 : ∀ g ∈ [(⟨1, 400, .lst [], [], []⟩ : Giv), ⟨399, 400, tupI (rgI 0 t), rgI 0 t, rgI 0 t⟩], GivOk t g := fun g hg => by
    rcases List.mem_cons.mp hg with rfl | hg
    · exact giv0 _ rfl (by decide)
    · rw [List.mem_singleton] at hg; subst hg; exact giv1 (by decide) (by decide) (by decide) _ rfl h1
  have hd399 : redD (1 * 400 - 1 * 1) (1 * 400) = ratD 399 400 := by
    unfold redD
    rw [show gI (1 * 400 - 1 * 1) (1 * 400) = 1 by decide +kernel, Int.ediv_one, Int.ediv_one]
    rfl
  refine ⟨.of_le (by omega) (by omega) (by omega) h0, fun x1 hx1 => ?_⟩
  refine make_ratio (by omega) (by omega) (by omega) x1 ?_
  rw [delM_updM hx1, g401, Int.ediv_one, Int.ediv_one]
  refine ⟨Nat.zero_le _, two_le, fun x2 hx2 => ?_⟩
  refine make_ratio (by omega) (by omega) (by omega) x2 ?_
  rw [delM_updM hx2, g11, Int.ediv_one]
  refine ⟨⟨_, rfl⟩, ⟨_, rfl⟩, rfl, 1, 1, 1, 401, rfl, small_MOST (by decide), small_MOST (by decide), small_MOST (by decide), small_MOST (by decide), small_MOST (by decide), by decide, Int.le_trans (by decide) hM, two_le, two_le, fun x3 hx3 => ?_⟩
  rw [hd400]
  refine make_mixR hx3 P400 hg400 hv400 h0 h1 (by simp) hw400 hT rfl er400 ep400 fun sh => ?_
  rw [delM_updM hx3]
  refine ⟨rfl, t, [([], 1), (rgI 0 t, 400)], 401, sh, rfl, C400, by decide, fun μ2 hM2 => ⟨_, rfl, ?_⟩⟩
  rw [if_neg (by decide)]
  intro x4 hx4
  refine make_ratio (by omega) (by omega) (by omega) x4 ?_
  rw [delM_updM hx4, g400, Int.ediv_one, Int.ediv_one]
  refine ⟨Nat.zero_le _, two_le, fun x5 hx5 => ?_⟩
  refine make_ratio (by omega) (by omega) (by omega) x5 ?_
  rw [delM_updM hx5, g11, Int.ediv_one]
  refine ⟨⟨_, rfl⟩, ⟨_, rfl⟩, rfl, 1, 1, 1, 400, rfl, small_MOST (by decide), small_MOST (by decide), small_MOST (by decide), small_MOST (by decide), small_MOST (by decide), by decide, Int.le_trans (by decide) hM, two_le, two_le, fun x6 hx6 => ?_⟩
  rw [hd399]
  refine make_mixR hx6 P399 hg399 hv399 h0 h1 (by simp) hw399 (hM2 _ _ hT) rfl er399 ep399 fun sh2 => ?_
  rw [delM_updM hx6]
  intro x7 hx7
  refine make_cal C399 (Int.le_refl _) ?_
  rw [delM_updM hx7]
  refine ⟨_, _, _, rfl, rfl, .inr rfl, 400, congrArg D.int (by rw [List.length_map]; exact lotsO_len C399), ?_⟩
  rw [if_pos rfl]
  simp only [dMeth, dDropM, dLc, dFor, dISeq, dIRng1, dIRng2, dIZip, dIEnum, dSeq, dCall, SP, dFldC, dIfS, dAnd, dOr, dNot, dTest, dOp, dUn, dVar, dC, qI, qI0, qU, dNext, dRet, dRetN, dRaise, dCons, dNil, dTup, dLst, dSet, dPar, dAsg, dAug, dDrop, dgName, dgTup, dgNil, dgCons, dAndV, dOrV, dNotV, dIf, dCl, startD, List.map_cons, List.map_nil, List.length_cons, List.length_nil, List.cons_append, List.nil_append, List.append_nil, List.replicate, List.getElem?_cons_zero, List.getElem?_cons_succ, List.set_cons_zero, List.set_cons_succ, Option.some.injEq, List.cons.injEq, and_true, true_and, exists_eq_left', exists_eq_left, exists_eq, exists_eq', D.int.injEq, D.bl.injEq, D.tup.injEq, D.lst.injEq, D.adr.injEq, exists_and_left, and_assoc, exists_and_right, if_true, ite_true, decide_eq_true_eq, exists_eq_right, exists_eq_right', Nat.add_zero, Nat.sub_self, Nat.reduceSub, Nat.reduceAdd, eq_self]
  refine ⟨.inl ⟨_, rfl, rfl⟩, rfl, t, [([], 1), (rgI 0 t, 399)], 400, sh2, _, 400, rfl, by simp, fun z => absurd z (by decide), fun _ p hp => ⟨Nat.zero_le _, two_le, two_le, two_le, ?_⟩⟩
  rw [cnt400 hne C399]
  exact eqD_rows (rs := [([], 1), (rgI 0 t, 399)]) (seq_adr updM_same) rfl rfl rfl (hR _ (hM2.upd hp))
end N67
set_option Elab.async false
set_option linter.all false
set_option maxRecDepth 100000
set_option maxHeartbeats 4000000
set_option exponentiation.threshold 20000
namespace N67
open PySem PySem.Spec PyProof.Rows L2 Nod
theorem len_srt : ∀ (l : List Int) (a t : Int), l.Pairwise (· < ·) → (∀ k ∈ l, a ≤ k ∧ k < t) → a ≤ t → (l.length : Int) ≤ t - a
  | [], a, t, _, _, h => by simp; omega
  | x :: r, a, t, hp, hk, h => by
    rw [List.pairwise_cons] at hp
    have hx := hk x (List.mem_cons_self ..)
    have ih := len_srt r (x + 1) t hp.2 (fun k hk' => ⟨by have := hp.1 k hk'; omega, (hk k (List.mem_cons_of_mem _ hk')).2⟩) (by omega)
    rw [List.length_cons]
    omega
theorem le_wt {ps : List Part} (h : PosP ps) {q : Part} (hq : q ∈ ps) : q.1 ≤ wt ps := by
  have : ∀ qs : List Part, (∀ p ∈ qs, 0 < p.1) → 0 ≤ wt qs ∧ ∀ p ∈ qs, p.1 ≤ wt qs := fun qs => by
    induction qs with
    | nil => exact fun _ => ⟨Int.le_refl _, fun n h => nomatch h⟩
    | cons x r ih =>
      intro h
      obtain ⟨h1, h2⟩ := ih fun n hn => h n (List.mem_cons_of_mem _ hn)
      have h3 := h x (List.mem_cons_self ..)
      unfold wt at *
      rw [List.map_cons, List.sum_cons]
      refine ⟨by omega, fun n hn => ?_⟩
      rcases List.mem_cons.mp hn with rfl | hn
      · omega
      · have := h2 n hn; omega
  exact (this ps h.pos).2 q hq
def givP (W : Int) (q : Part) : Giv := ⟨q.1 / gI q.1 W, W / gI q.1 W, .lst (q.2.map D.int), q.2, q.2⟩
theorem rows_00 : rowsL [(1, []), (1, [])] = [([], 1)] ∧ perL [(1, []), (1, [])] = 1 := by
  have hl : lotsS [(1, []), (1, [])] = [[]] := by
    show sortLen (addU [[]] []) = _
    unfold addU sortLen
    rw [if_pos (by simp)]
    simp [List.mergeSort]
  have h1 : sumL [(1, []), (1, [])] [] = 2 := by simp [sumL]
  have h3 : divL [(1, []), (1, [])] = 2 := by
    unfold divL
    rw [hl, List.map_cons, List.map_nil, h1]
    decide
  constructor
  · unfold rowsL
    rw [hl, List.map_cons, List.map_nil, h1, h3]
    rfl
  · unfold perL wt
    rw [h3]
    rfl
def plOf (t : Int) : List (List Int) := if t = 0 then [[]] else [[], rgI 0 t]
theorem pl_len {t : Int} (h : t ≤ 10) (k : Nat) : ((plOf t).getD k []).length ≤ 10 := by
  unfold plOf
  have := ev_len h
  split
  · rcases k with _ | k <;> simp
  · rcases k with _ | _ | k <;> simp
    exact this
theorem pos2 (t : Int) : PosP [(1, rgI 0 t), (1, [])] := ⟨by simp, fun p hp => by
  rcases List.mem_cons.mp hp with rfl | hp
  · show (0 : Int) < 1; decide
  · rw [List.mem_singleton] at hp; subst hp; decide⟩
theorem wt2 (t : Int) : wt [(1, rgI 0 t), (1, [])] ≤ 10 ^ 40 := show (1 : Int) + (1 + 0) ≤ 10 ^ 40 by decide
theorem other_ok {t : Int} (t0 : 0 ≤ t) (t1 : t ≤ 6) : ∃ (rows2 : List Row) (per2 : Int), rowsL [(1, rgI 0 t), (1, [])] = rows2 ∧ perL [(1, rgI 0 t), (1, [])] = per2 ∧ CalOk rows2 per2 ∧ per2 ≤ 2 ∧ lotsO rows2 per2 = plOf t := by
  have C := calOk_of (pos2 t) (wt2 t) (by simp)
  by_cases c : t = 0
  · subst c
    refine ⟨[([], 1)], 1, rows_00.1, rows_00.2, ?_, by decide, by decide +kernel⟩
    have e1 : rowsL [(1, rgI 0 0), (1, [])] = [([], 1)] := rows_00.1
    have e2 : perL [(1, rgI 0 0), (1, [])] = 1 := rows_00.2
    rw [e1, e2] at C
    exact C
  · have hs := (sort_a (t := t) (by omega) (by omega)).2
    obtain ⟨er, ep⟩ := rows_b (w := 1) (ev_ne (t := t) (by omega)) hs
    rw [er, ep] at C
    refine ⟨_, 2, er, ep, C, by decide, ?_⟩
    unfold lotsO plOf
    rw [if_neg c, show [(([] : List Int), (1 : Int)), (rgI 0 t, 1)].map (·.2) = [1, 1] from rfl, show ordM [1, 1] 2 = [0, 1] by decide +kernel]
    rfl
def sp_law (K : PySem.W.Frag) : DSp := SP 1 fun ds μ R RX => ∃ ns : List Int, ds = [.scr ns] ∧ μ (tabAd K "_gathered") = some (.tab "_gathered.<locals>.<lambda>") ∧ μ (tabAd K "_law_rows") = some (.tab "_law_rows.<locals>.<lambda>") ∧ ∀ p, R (.bl true) p
theorem sc_law : FnScope ["_law_script", "_law_tape_here", "_law_things_here", "_law_parts_here", "_law_weight", "_law_lot", "_law_total", "_law_given", "_law_mixture", "_law_rows_here", "_law_days_here", "_law_period", "_law_order_here", "_law_calendar", "_law_start", "_law_numbers", "_law_far", "_law_k", "_law_every", "_law_half", "_law_other", "_law_pair", "_law_at", "_law_counted", "_law_above", "_law_number_here"] ["_law_script"] (defScope (top 71)) := ⟨rfl, rfl, rfl, by decide +kernel, rfl, by decide +kernel, by decide +kernel⟩
theorem fn_law {P : Program} {w : World} {K : PySem.W.Frag} {mg : Str → Option Value} {base : Heap} {fd : FuncData} (V : Env K mg) (F : FunD K "law" "law" (defArgs (top 71)) (defBody (top 71)) (defScope (top 71)) [] [] (He.ga K "law") fd)  (D__law_tape : DFn P w K mg base 1 (He.ga K "_law_tape") ["_law_script"] [] sp__law_tape) (D__law_parts : DFn P w K mg base 3 (He.ga K "_law_parts") ["_law_tape_here", "_law_things_here"] [] sp__law_parts) (D_Mixture_init : DFn P w K mg base 7 (He.ma K (He.ga K "Mixture") "__init__") ["self", "things", "pairs"] [] (sp_Mixture_init K)) (D__law_rows : DFn P w K mg base 4 (He.ga K "_law_rows") ["_law_parts_here"] [] (sp__law_rows K)) (D__law_order : DFn P w K mg base 1 (He.ga K "_law_order") ["_law_rows_here", "_law_period"] [] sp__law_order) (D_Calendar_init : DFn P w K mg base 3 (He.ma K (He.ga K "Calendar") "__init__") ["self", "mixture"] [] sp_Calendar_init) (D__law_number : DFn P w K mg base 2 (He.ga K "_law_number") ["_law_tape_here", "_law_count"] [] sp__law_number) (D_Ratio_init2 : DFn P w K mg base 2 (He.ma K (He.ga K "Ratio") "__init__") ["self", "num", "den"] [] sp_Ratio_init) (D__law_days : DFn P w K mg base 3 (He.ga K "_law_days") ["_law_calendar", "_law_rows_here", "_law_order_here", "_law_numbers", "_law_far"] [] sp__law_days) (D__law_take : DFn P w K mg base 1 (He.ga K "_law_take") ["_law_tape_here", "_law_many"] [] sp__law_take) (D__law_too_long : DFn P w K mg base 5 (He.ga K "_law_too_long") ["_law_mixture", "_law_period"] [] sp__law_too_long) (D__law_fields : DFn P w K mg base 6 (He.ga K "_law_fields") ["_law_calendar", "_law_mixture", "_law_order_here"] [] sp__law_fields) (D__law_same_lot : DFn P w K mg base 2 (He.ga K "_law_same_lot") ["_law_told", "_law_due"] [] sp__law_same_lot) (D__law_things : DFn P w K mg base 4 (He.ga K "_law_things") ["_law_calendar", "_law_things_here", "_law_order_here"] [] sp__law_things) (D__law_edges : DFn P w K mg base 9 (He.ga K "_law_edges") ["_law_things_here"] [] (sp__law_edges K)) (D_Calendar_day : DFn P w K mg base 2 (He.ma K (He.ga K "Calendar") "day") ["self", "number"] [] sp_Calendar_day) (D__law_refused : DFn P w K mg base 3 (He.ga K "_law_refused") ["_law_calendar", "_law_counted", "_law_number_here"] [] sp__law_refused) : FnOk P w K mg base (L2.CX P w) 10 (He.ga K "law") fd ["_law_script"] (low K (sp_law K)) := by
  refine fn_data F sc_law (fun ds μ R RX h => h.1) (fun cdv A outer s H E RX hr L hW hU => ⟨_, (dss_cons (dst_set (i := 1) sc_law.nd (de_call D__law_tape (hr.mono (by decide)) V.g__law_tape (da_cons (dv 0) da_nil)))
      (dss_cons (dst_set (i := 2) sc_law.nd (de_ix o_ix (de_lst (da_cons de_int (da_cons de_int (da_cons de_int (da_cons de_int (da_cons de_int (da_cons de_int (da_cons de_int da_nil)))))))) (de_call D__law_take (hr.mono (by decide)) V.g__law_take (da_cons (dv 1) (da_cons de_int da_nil)))))
      (dss_cons (dst_set (i := 3) sc_law.nd (de_call D__law_parts (hr.mono (by decide)) V.g__law_parts (da_cons (dv 1) (da_cons (dv 2) da_nil))))
      (dss_cons (dst_set (i := 6) sc_law.nd (de_callB (c_sum rfl) V.f_sum (da_cons (de_lc [("_law_weight", 4), ("_law_lot", 5)] (g := (gTup K 2 (gCons (gName 4) (gCons (gName 5) gNil)))) rfl sc_law.nd (di_seq (dv 3)) (blkOk_by rfl) (fun _ _ _ _ _ => (dgo_tup (n := 2) rfl (dgos_cons (dgo_name (i := 4) sc_law.nd) (dgos_cons (dgo_name (i := 5) sc_law.nd) dgos_nil)))) (fun _ _ _ _ _ => dts_nil) (fun _ _ _ _ _ => (dv 4))) da_nil)))
      (dss_cons (dst_setLc [("_law_weight", 4), ("_law_lot", 5)] (i := 7) (g := (gTup K 2 (gCons (gName 4) (gCons (gName 5) gNil)))) rfl sc_law.nd (di_seq (dv 3)) (blkOk_by rfl) (fun _ _ _ _ _ => (dgo_tup (n := 2) rfl (dgos_cons (dgo_name (i := 4) sc_law.nd) (dgos_cons (dgo_name (i := 5) sc_law.nd) dgos_nil)))) (fun _ _ _ _ _ => dts_nil) (fun _ _ _ _ _ => (de_tup (da_cons (de_makeF rfl V.k_Ratio D_Ratio_init2 (hr.mono (by decide)) V.g_Ratio (da_cons (dv 4) (da_cons (dv 6) da_nil))) (da_cons (de_callTy c_list V.f_list (da_cons (dv 5) da_nil)) da_nil)))) (by rfl))
      (dss_cons (dst_set (i := 8) sc_law.nd (de_make V.k_Mixture D_Mixture_init (hr.mono (by decide)) V.g_Mixture (da_cons (dv 2) (da_cons (dv 7) da_nil))))
      (dss_cons (dst_set (i := 9) sc_law.nd (de_call D__law_rows (hr.mono (by decide)) V.g__law_rows (da_cons (dv 3) da_nil)))
      (dss_cons (dst_set (i := 11) sc_law.nd (de_callB (c_sum rfl) V.f_sum (da_cons (de_lc [("_law_lot", 5), ("_law_days_here", 10)] (g := (gTup K 2 (gCons (gName 5) (gCons (gName 10) gNil)))) rfl sc_law.nd (di_seq (dv 9)) (blkOk_by rfl) (fun _ _ _ _ _ => (dgo_tup (n := 2) rfl (dgos_cons (dgo_name (i := 5) sc_law.nd) (dgos_cons (dgo_name (i := 10) sc_law.nd) dgos_nil)))) (fun _ _ _ _ _ => dts_nil) (fun _ _ _ _ _ => (dv 10))) da_nil)))
      (dss_cons (dst_if (dt_cmp o_gt (dv 11) de_int) (dss_one (dst_ret (de_call D__law_too_long (hr.mono (by decide)) V.g__law_too_long (da_cons (dv 8) (da_cons (dv 11) da_nil))))) dss_nil)
      (dss_cons (dst_set (i := 12) sc_law.nd (de_call D__law_order (hr.mono (by decide)) V.g__law_order (da_cons (dv 9) (da_cons (dv 11) da_nil))))
      (dss_cons (dst_set (i := 13) sc_law.nd (de_make V.k_Calendar D_Calendar_init (hr.mono (by decide)) V.g_Calendar (da_cons (dv 8) da_nil)))
      (dss_cons (dst_set (i := 14) sc_law.nd (de_call D__law_number (hr.mono (by decide)) V.g__law_number (da_cons (dv 1) (da_cons (de_op o_mul de_int (de_call D__law_take (hr.mono (by decide)) V.g__law_take (da_cons (dv 1) (da_cons de_int da_nil)))) da_nil))))
      (dss_cons (dst_set (i := 15) sc_law.nd (de_lst (da_cons de_int (da_cons de_int (da_cons de_int (da_cons (de_op o_div (dv 11) de_int) (da_cons (de_op o_mod (de_callTy c_int V.f_int (da_cons (dv 14) da_nil)) (de_op o_add (dv 11) de_int)) (da_cons (de_op o_sub (dv 11) de_int) (da_cons (dv 11) da_nil)))))))))
      (dss_cons (dst_join (dst_if (dt_cmp o_le (dv 11) de_int) (dss_one (dst_set (i := 15) sc_law.nd (de_lstRg rfl V.f_list V.f_range (de_op o_add (dv 11) de_int)))) dss_nil))
      (dss_cons (dst_set (i := 16) sc_law.nd (de_lst (da_cons de_int (da_cons (de_op o_sub (dv 11) de_int) (da_cons (dv 11) (da_cons (dv 14) (da_cons (de_op o_sub (de_op o_pow de_int de_int) de_int) (da_cons (de_op o_sub (de_op o_pow de_int de_int) (dv 14)) (da_cons (de_op o_pow de_int de_int) da_nil)))))))))
      (dss_cons (dst_join (dst_if (dt_cmp o_le (dv 11) de_int) (dss_one (dst_set (i := 16) sc_law.nd (de_op o_catL (dv 16) (de_lc [("_law_k", 17)] (g := (gName 17)) rfl sc_law.nd (di_rng1 V.f_range (da_cons (dv 11) da_nil)) (blkOk_by rfl) (fun _ _ _ _ _ => (dgo_name (i := 17) sc_law.nd)) (fun _ _ _ _ _ => dts_nil) (fun _ _ _ _ _ => (de_op o_add (dv 14) (dv 17))))))) dss_nil))
      (dss_cons (dst_if (dt_not (dt_val (de_call D__law_fields (hr.mono (by decide)) V.g__law_fields (da_cons (dv 13) (da_cons (dv 8) (da_cons (dv 12) da_nil)))))) (dss_one (dst_ret de_bl)) dss_nil)
      (dss_cons (dst_if (dt_not (dt_val (de_call D__law_days (hr.mono (by decide)) V.g__law_days (da_cons (dv 13) (da_cons (dv 9) (da_cons (dv 12) (da_cons (dv 15) (da_cons (dv 16) da_nil)))))))) (dss_one (dst_ret de_bl)) dss_nil)
      (dss_cons (dst_set (i := 18) sc_law.nd (de_tupRg rfl V.f_tuple V.f_range (dv 2)))
      (dss_cons (dst_set (i := 19) sc_law.nd (de_make V.k_Ratio D_Ratio_init2 (hr.mono (by decide)) V.g_Ratio (da_cons de_int (da_cons de_int da_nil))))
      (dss_cons (dst_set (i := 20) sc_law.nd (de_make V.k_Calendar D_Calendar_init (hr.mono (by decide)) V.g_Calendar (da_cons (de_make V.k_Mixture D_Mixture_init (hr.mono (by decide)) V.g_Mixture (da_cons (dv 2) (da_cons (de_lst (da_cons (de_tup (da_cons (dv 19) (da_cons (de_callTy c_list V.f_list (da_cons (dv 18) da_nil)) da_nil))) (da_cons (de_tup (da_cons (dv 19) (da_cons (de_tup da_nil) da_nil))) da_nil))) da_nil))) da_nil)))
      (dss_cons (dst_set (i := 21) sc_law.nd (de_lst (da_cons (de_tup da_nil) (da_cons (dv 18) da_nil))))
      (dss_cons (dst_join (dst_if (dt_cmp o_eq (dv 2) de_int) (dss_one (dst_set (i := 21) sc_law.nd (de_lst (da_cons (de_tup da_nil) da_nil)))) dss_nil))
      (dss_cons (dst_set (i := 22) sc_law.nd (de_op o_mod (de_callTy c_int V.f_int (da_cons (dv 14) da_nil)) (de_callB c_len V.f_len (da_cons (dv 21) da_nil))))
      (dss_cons (dst_if (dt_w (dw_or (dt_cmp (o_neD (hu64 hr)) (de_fld "Calendar" (dv 20) V.c_Calendar V.n_Calendar_order) (de_callTy c_tuple V.f_tuple (da_cons (dv 21) da_nil))) (dw_or1 (dt_not (dt_val (de_call D__law_same_lot (hr.mono (by decide)) V.g__law_same_lot (da_cons (de_meth (C := "Calendar") (dv 20) V.c_Calendar V.m_Calendar_day D_Calendar_day (hr.mono (by decide)) (da_cons (dv 14) da_nil)) (da_cons (de_ix o_ix (dv 21) (dv 22)) da_nil)))))))) (dss_one (dst_ret de_bl)) dss_nil)
      (dss_cons (dst_if (dt_w (dw_or (dt_not (dt_val (de_call D__law_things (hr.mono (by decide)) V.g__law_things (da_cons (dv 13) (da_cons (dv 2) (da_cons (dv 12) da_nil)))))) (dw_or1 (dt_not (dt_val (de_call D__law_edges (hr.mono (by decide)) V.g__law_edges (da_cons (dv 2) da_nil))))))) (dss_one (dst_ret de_bl)) dss_nil)
      (dss_cons (dst_for (passes_of rfl) rfl (di_seq (de_tup (da_cons de_bl (da_cons de_bl da_nil)))) (dg_name (i := 23) sc_law.nd) (dss_cons (dst_set (i := 24) sc_law.nd (de_op o_add de_int (de_ix o_ix (de_lst (da_cons (de_op o_pow de_int de_int) (da_cons (dv 11) da_nil))) (de_callTy c_int V.f_int (da_cons (dv 23) da_nil)))))
      (dss_one (dst_for (passes_of rfl) rfl (di_seq (de_tup (da_cons (de_un o_neg de_int) (da_cons (dv 24) (da_cons (de_op o_sub (de_un o_neg de_int) (dv 14)) (da_cons (de_op o_add (dv 24) (dv 14)) da_nil)))))) (dg_name (i := 25) sc_law.nd) (dss_one (dst_if (dt_not (dt_val (de_call D__law_refused (hr.mono (by decide)) V.g__law_refused (da_cons (dv 13) (da_cons (dv 23) (da_cons (dv 25) da_nil)))))) (dss_one (dst_ret de_bl)) dss_nil))))))
      (dss_cons (dst_if (dt_not (dt_val (de_call D__law_fields (hr.mono (by decide)) V.g__law_fields (da_cons (dv 13) (da_cons (dv 8) (da_cons (dv 12) da_nil)))))) (dss_one (dst_ret de_bl)) dss_nil)
      (dss_one (dst_ret (de_call D__law_days (hr.mono (by decide)) V.g__law_days (da_cons (dv 13) (da_cons (dv 9) (da_cons (dv 12) (da_cons (de_slL (dv 15) do_none (do_some de_int)) (da_cons (de_slL (dv 16) do_none (do_some de_int)) da_nil)))))))))))))))))))))))))))))))))))), fun ds μ R h => ?_⟩)
  obtain ⟨-, ns, rfl, hT1, hT2, hR⟩ := h
  simp only [dDropM, dLc, dFor, dISeq, dIRng1, dIRng2, dIZip, dIEnum, dSeq, dCall, SP, dFldC, dIfS, dAnd, dOr, dNot, dTest, dOp, dUn, dVar, dC, qI, qI0, qU, dNext, dRet, dRetN, dRaise, dCons, dNil, dTup, dLst, dSet, dPar, dAsg, dAug, dDrop, dgName, dgTup, dgNil, dgCons, dAndV, dOrV, dNotV, dIf, dCl, startD, List.map_cons, List.map_nil, List.length_cons, List.length_nil, List.cons_append, List.nil_append, List.append_nil, List.replicate, List.getElem?_cons_zero, List.getElem?_cons_succ, List.set_cons_zero, List.set_cons_succ, Option.some.injEq, List.cons.injEq, and_true, true_and, exists_eq_left', exists_eq_left, exists_eq, exists_eq', D.int.injEq, D.bl.injEq, D.tup.injEq, D.lst.injEq, D.adr.injEq, exists_and_left, and_assoc, exists_and_right, if_true, ite_true, decide_eq_true_eq, exists_eq_right, exists_eq_right', Nat.add_zero, Nat.sub_self, Nat.reduceSub, Nat.reduceAdd, eq_self, dMake]
  have hsz := sizeLine_eq
  refine ⟨rfl, ns, rfl, fun p tp hp => ⟨by omega, rfl, p, 7, tp, rfl, updM_same, by decide, fun v tp1 hv0 hv1 => ?_⟩⟩
  rw [updM_updM]
  obtain ⟨t, ht, t0, t1⟩ : ∃ t, atI [D.int 2, D.int 3, D.int 4, D.int 5, D.int 6, D.int 0, D.int 1] v = some (.int t) ∧ 0 ≤ t ∧ t ≤ 6 := by
    rcases (show v = 0 ∨ v = 1 ∨ v = 2 ∨ v = 3 ∨ v = 4 ∨ v = 5 ∨ v = 6 by omega) with rfl | rfl | rfl | rfl | rfl | rfl | rfl <;> exact ⟨_, rfl, by decide, by decide⟩
  refine ix_ok rfl ht ⟨rfl, p, t, tp1, rfl, updM_same, t0, by omega, fun ps tp2 G => ?_⟩
  rw [updM_updM]
  have hl2 := G.l2
  refine ⟨_, rfl, lcG (xs := ps) rows_seq (fun _ => true) (fun q => .int q.1) (by omega) (fun q hq Q Q' hQ hQ' => ?_) ?_⟩
  · simp only [dDropM, dLc, dFor, dISeq, dIRng1, dIRng2, dIZip, dIEnum, dSeq, dCall, SP, dFldC, dIfS, dAnd, dOr, dNot, dTest, dOp, dUn, dVar, dC, qI, qI0, qU, dNext, dRet, dRetN, dRaise, dCons, dNil, dTup, dLst, dSet, dPar, dAsg, dAug, dDrop, dgName, dgTup, dgNil, dgCons, dAndV, dOrV, dNotV, dIf, dCl, startD, List.map_cons, List.map_nil, List.length_cons, List.length_nil, List.cons_append, List.nil_append, List.append_nil, List.replicate, List.getElem?_cons_zero, List.getElem?_cons_succ, List.set_cons_zero, List.set_cons_succ, Option.some.injEq, List.cons.injEq, and_true, true_and, exists_eq_left', exists_eq_left, exists_eq, exists_eq', D.int.injEq, D.bl.injEq, D.tup.injEq, D.lst.injEq, D.adr.injEq, exists_and_left, and_assoc, exists_and_right, if_true, ite_true, decide_eq_true_eq, exists_eq_right, exists_eq_right', Nat.add_zero, Nat.sub_self, Nat.reduceSub, Nat.reduceAdd, eq_self, dYes, wipeD, rowPD]
    exact hQ rfl
  rw [filter_tt]
  refine ⟨_, ps.map (·.1), rfl, by rw [List.map_map]; rfl, ?_⟩
  have P : PosP ps := ⟨fun z => by have := G.l1; rw [z] at this; exact absurd this (by decide), G.pos⟩
  have hW := wt_pos P
  have hws : wt ps ≤ 4000 := by
    have h1 := sum_le (B := 1000) ps G.le
    have h2 : (ps.length : Int) * 1000 ≤ 4 * 1000 := Int.mul_le_mul_of_nonneg_right (by omega) (by decide)
    exact Int.le_trans (show wt ps ≤ _ from h1) h2
  have hwt : wt ps ≤ 10 ^ 40 := Int.le_trans hws (by decide)
  have C := calOk_of P hwt (by omega)
  obtain ⟨rows, hrows⟩ : ∃ rows, rows = rowsL ps := ⟨_, rfl⟩
  obtain ⟨per, hper⟩ : ∃ per, per = perL ps := ⟨_, rfl⟩
  rw [← hrows, ← hper] at C
  have hql : ∀ q ∈ ps, q.2.length ≤ 10 := fun q hq => by have := len_srt q.2 0 t (G.srt q hq) (fun k hk => G.inr q hq k hk) t0; omega
  refine ⟨_, rfl, lcG (xs := ps) rows_seq (fun _ => true) (fun q => givD (givP (wt ps) q)) (by omega) (fun q hq Q Q' hQ hQ' => ?_) ?_⟩
  · simp only [dDropM, dLc, dFor, dISeq, dIRng1, dIRng2, dIZip, dIEnum, dSeq, dCall, SP, dFldC, dIfS, dAnd, dOr, dNot, dTest, dOp, dUn, dVar, dC, qI, qI0, qU, dNext, dRet, dRetN, dRaise, dCons, dNil, dTup, dLst, dSet, dPar, dAsg, dAug, dDrop, dgName, dgTup, dgNil, dgCons, dAndV, dOrV, dNotV, dIf, dCl, startD, List.map_cons, List.map_nil, List.length_cons, List.length_nil, List.cons_append, List.nil_append, List.append_nil, List.replicate, List.getElem?_cons_zero, List.getElem?_cons_succ, List.set_cons_zero, List.set_cons_succ, Option.some.injEq, List.cons.injEq, and_true, true_and, exists_eq_left', exists_eq_left, exists_eq, exists_eq', D.int.injEq, D.bl.injEq, D.tup.injEq, D.lst.injEq, D.adr.injEq, exists_and_left, and_assoc, exists_and_right, if_true, ite_true, decide_eq_true_eq, exists_eq_right, exists_eq_right', Nat.add_zero, Nat.sub_self, Nat.reduceSub, Nat.reduceAdd, eq_self, dYes, wipeD, rowPD, dMake]
    intro x hx
    refine make_ratio (by have := le_wt P hq; have := G.pos q hq; have := big_MOST hwt; omega) hW (big_MOST hwt) x ?_
    rw [delM_updM hx]
    exact ⟨_, _, rfl, rfl, two_le, hQ rfl⟩
  rw [filter_tt]
  intro x hx
  have hTp : ∀ {q : Str} {m : MO}, μ (tabAd K q) = some m → updM μ p (.lst (tp2.map D.int)) (tabAd K q) = some m := fun {q m} h => by
    rw [updM_ne (fun z => by rw [z, hp] at h; cases h)]; exact h
  refine make_mixR hx P (gs := ps.map (givP (wt ps))) (by rw [List.map_map]; rfl) (fun g hg => ?_) t0 (by omega) (by rw [List.length_map]; omega) hwt (hTp hT1) (by rw [List.map_map]; rfl) hrows.symm hper.symm fun sh => ?_
  · obtain ⟨q, hqm, rfl⟩ := List.mem_map.mp hg
    exact giv_ok (x := .lst (q.2.map D.int)) (G.pos q hqm) hW (le_wt P hqm) hwt rfl (by have := hql q hqm; omega) (fun n hn => G.inr q hqm n hn) (G.srt q hqm) fun k => Iff.rfl
  rw [delM_updM hx]
  refine ⟨rfl, _, t, ps, rfl, rfl, G, hTp hT2, ?_⟩
  rw [← hrows]
  refine ⟨_, rfl, lcG (xs := rows) rows_seq (fun _ => true) (fun r => .int r.2) (by have := C.len; omega) (fun r hr Q Q' hQ hQ' => ?_) ?_⟩
  · simp only [dDropM, dLc, dFor, dISeq, dIRng1, dIRng2, dIZip, dIEnum, dSeq, dCall, SP, dFldC, dIfS, dAnd, dOr, dNot, dTest, dOp, dUn, dVar, dC, qI, qI0, qU, dNext, dRet, dRetN, dRaise, dCons, dNil, dTup, dLst, dSet, dPar, dAsg, dAug, dDrop, dgName, dgTup, dgNil, dgCons, dAndV, dOrV, dNotV, dIf, dCl, startD, List.map_cons, List.map_nil, List.length_cons, List.length_nil, List.cons_append, List.nil_append, List.append_nil, List.replicate, List.getElem?_cons_zero, List.getElem?_cons_succ, List.set_cons_zero, List.set_cons_succ, Option.some.injEq, List.cons.injEq, and_true, true_and, exists_eq_left', exists_eq_left, exists_eq, exists_eq', D.int.injEq, D.bl.injEq, D.tup.injEq, D.lst.injEq, D.adr.injEq, exists_and_left, and_assoc, exists_and_right, if_true, ite_true, decide_eq_true_eq, exists_eq_right, exists_eq_right', Nat.add_zero, Nat.sub_self, Nat.reduceSub, Nat.reduceAdd, eq_self, dYes, wipeD, rowD]
    exact hQ rfl
  rw [filter_tt]
  refine ⟨_, rows.map (·.2), rfl, by rw [List.map_map]; rfl, ?_⟩
  rw [C.cnt.sum]
  refine ⟨_, rfl, ?_⟩
  have hc := C.pos
  have hlen := C.len
  by_cases c : 400 < per
  · rw [if_pos c]
    exact ⟨rfl, t, rows, per, sh, rfl, C, c, fun μ' _ => hR μ'⟩
  rw [if_neg c]
  have c4 : per ≤ 400 := by omega
  refine ⟨rfl, rows, per, rfl, C.cnt, C.pos, c4, C.len, fun x2 hx2 => ?_⟩
  refine make_cal C c4 ?_
  rw [delM_updM hx2]
  refine ⟨rfl, p, 12, tp2, rfl, updM_same, by decide, fun v3 tp3 h30 h31 => ?_⟩
  rw [updM_updM]
  refine ⟨v3, rfl, wide_mul (a := 4) (b := 4) (by decide) (by omega) (by decide) (by decide) (by decide), rfl, p, 5 * v3, tp3, rfl, updM_same, by omega, by omega, fun st tp4 hs0 hs1 => ?_⟩
  rw [updM_updM]
  have hst : st ≤ 12 ^ 55 := Int.le_trans (Int.le_of_lt hs1) (pow12_le (by omega))
  clear hs1
  have h60 : (12 : Int) ^ 55 + 1000 ≤ 10 ^ 60 := by decide
  obtain ⟨GL, hGL⟩ : ∃ GL : Option D → Option D → Option D → Option D → Option D → Option D → Option D → Option D → Option D → Option D → Option D → DEn, GL = fun a15 a16 a17 a18 a19 a20 a21 a22 a23 a24 a25 =>
    [some (.scr ns), some (.adr p), some (.int t), some (.lst (ps.map rowPD)), none, none, some (.int (wt ps)), some (.lst (ps.map fun q => givD (givP (wt ps) q))), some (mixD t (rows.map (prR per)) sh), some (.lst (rows.map rowD)), none, some (.int per), some (.lst ((lotsO rows per).map tupI)), some (calD (mixD t (rows.map (prR per)) sh) per (lotsO rows per)), some (.int st), a15, a16, a17, a18, a19, a20, a21, a22, a23, a24, a25] := ⟨_, rfl⟩
  refine ⟨per, rfl, wide_div (b := 4) (by decide) (by decide) (by decide) (by decide), .inl ⟨st, rfl, per, rfl, _, rfl, by omega, per, rfl, by omega, ?_⟩⟩
  obtain ⟨J, hJ⟩ : ∃ J : DEn → Mu → Prop, J = fun Γ' μ' => ∃ nums : List Int, (∀ n ∈ nums, 0 ≤ n ∧ n ≤ per) ∧ μ' = updM μ p (.lst (tp4.map D.int)) ∧ Γ' = GL (some (.lst (nums.map D.int))) none none none none none none none none none none := ⟨_, rfl⟩
  refine ⟨J, ?_, fun Γ' μ' h => ?_⟩
  · simp only [dDropM, dLc, dFor, dISeq, dIRng1, dIRng2, dIZip, dIEnum, dSeq, dCall, SP, dFldC, dIfS, dAnd, dOr, dNot, dTest, dOp, dUn, dVar, dC, qI, qI0, qU, dNext, dRet, dRetN, dRaise, dCons, dNil, dTup, dLst, dSet, dPar, dAsg, dAug, dDrop, dgName, dgTup, dgNil, dgCons, dAndV, dOrV, dNotV, dIf, dCl, startD, List.map_cons, List.map_nil, List.length_cons, List.length_nil, List.cons_append, List.nil_append, List.append_nil, List.replicate, List.getElem?_cons_zero, List.getElem?_cons_succ, List.set_cons_zero, List.set_cons_succ, Option.some.injEq, List.cons.injEq, and_true, true_and, exists_eq_left', exists_eq_left, exists_eq, exists_eq', D.int.injEq, D.bl.injEq, D.tup.injEq, D.lst.injEq, D.adr.injEq, exists_and_left, and_assoc, exists_and_right, if_true, ite_true, decide_eq_true_eq, exists_eq_right, exists_eq_right', Nat.add_zero, Nat.sub_self, Nat.reduceSub, Nat.reduceAdd, eq_self, dLstRg]
    by_cases c16 : per ≤ 16
    · rw [if_pos c16]
      refine ⟨.of_le (by omega) (by omega) (by omega) (by omega), ?_⟩
      rw [hJ, hGL]
      exact ⟨rgI 0 (per + 1), fun n hn => by have := ev_mem.mp hn; omega, rfl, rfl⟩
    · rw [if_neg c16, hJ, hGL]
      refine ⟨[0, 1, 2, per / 2, st % (per + 1), per - 1, per], fun n hn => ?_, rfl, rfl⟩
      have e0 := Int.emod_nonneg st (show per + 1 ≠ 0 by omega)
      have e1 := Int.emod_lt_of_pos st (show 0 < per + 1 by omega)
      simp only [List.mem_cons, List.not_mem_nil, or_false] at hn
      rcases hn with rfl | rfl | rfl | rfl | rfl | rfl | rfl <;> omega
  rw [hJ, hGL] at h
  obtain ⟨nums, hnums, rfl, rfl⟩ := h
  clear hJ
  simp only [dDropM, dLc, dFor, dISeq, dIRng1, dIRng2, dIZip, dIEnum, dSeq, dCall, SP, dFldC, dIfS, dAnd, dOr, dNot, dTest, dOp, dUn, dVar, dC, qI, qI0, qU, dNext, dRet, dRetN, dRaise, dCons, dNil, dTup, dLst, dSet, dPar, dAsg, dAug, dDrop, dgName, dgTup, dgNil, dgCons, dAndV, dOrV, dNotV, dIf, dCl, startD, List.map_cons, List.map_nil, List.length_cons, List.length_nil, List.cons_append, List.nil_append, List.append_nil, List.replicate, List.getElem?_cons_zero, List.getElem?_cons_succ, List.set_cons_zero, List.set_cons_succ, Option.some.injEq, List.cons.injEq, and_true, true_and, exists_eq_left', exists_eq_left, exists_eq, exists_eq', D.int.injEq, D.bl.injEq, D.tup.injEq, D.lst.injEq, D.adr.injEq, exists_and_left, and_assoc, exists_and_right, if_true, ite_true, decide_eq_true_eq, exists_eq_right, exists_eq_right', Nat.add_zero, Nat.sub_self, Nat.reduceSub, Nat.reduceAdd, eq_self]
  have hpow : CPow 10 60 := ⟨by decide, by decide, by decide⟩
  have hpw : (10 : Int) ^ Int.toNat 60 = 10 ^ 60 := rfl
  refine ⟨hpow, hpow, hpow, by omega, ?_⟩
  obtain ⟨J, hJ⟩ : ∃ J : DEn → Mu → Prop, J = fun Γ' μ' => ∃ far : List Int, (∀ n ∈ far, 0 ≤ n ∧ n ≤ 10 ^ 60) ∧ μ' = updM μ p (.lst (tp4.map D.int)) ∧ Γ' = GL (some (.lst (nums.map D.int))) (some (.lst (far.map D.int))) none none none none none none none none none := ⟨_, rfl⟩
  refine ⟨J, ?_, fun Γ' μ' h => ?_⟩
  · simp only [dDropM, dLc, dFor, dISeq, dIRng1, dIRng2, dIZip, dIEnum, dSeq, dCall, SP, dFldC, dIfS, dAnd, dOr, dNot, dTest, dOp, dUn, dVar, dC, qI, qI0, qU, dNext, dRet, dRetN, dRaise, dCons, dNil, dTup, dLst, dSet, dPar, dAsg, dAug, dDrop, dgName, dgTup, dgNil, dgCons, dAndV, dOrV, dNotV, dIf, dCl, startD, List.map_cons, List.map_nil, List.length_cons, List.length_nil, List.cons_append, List.nil_append, List.append_nil, List.replicate, List.getElem?_cons_zero, List.getElem?_cons_succ, List.set_cons_zero, List.set_cons_succ, Option.some.injEq, List.cons.injEq, and_true, true_and, exists_eq_left', exists_eq_left, exists_eq, exists_eq', D.int.injEq, D.bl.injEq, D.tup.injEq, D.lst.injEq, D.adr.injEq, exists_and_left, and_assoc, exists_and_right, if_true, ite_true, decide_eq_true_eq, exists_eq_right, exists_eq_right', Nat.add_zero, Nat.sub_self, Nat.reduceSub, Nat.reduceAdd, eq_self, qCatL]
    have hf0 : ∀ n ∈ [0, per - 1, per, st, 10 ^ 60 - 1, 10 ^ 60 - st, 10 ^ 60], 0 ≤ n ∧ n ≤ (10 : Int) ^ 60 := fun n hn => by
      simp only [List.mem_cons, List.not_mem_nil, or_false] at hn
      rcases hn with rfl | rfl | rfl | rfl | rfl | rfl | rfl <;> omega
    by_cases c40 : per ≤ 40
    · rw [if_pos c40]
      refine ⟨by omega, by omega, lcG rows_rng (fun _ => true) (fun k : Nat => .int (st + k)) (by rw [List.length_range]; omega) (fun k hk Q Q' hQ hQ' => ?_) ?_⟩
      · simp only [dDropM, dLc, dFor, dISeq, dIRng1, dIRng2, dIZip, dIEnum, dSeq, dCall, SP, dFldC, dIfS, dAnd, dOr, dNot, dTest, dOp, dUn, dVar, dC, qI, qI0, qU, dNext, dRet, dRetN, dRaise, dCons, dNil, dTup, dLst, dSet, dPar, dAsg, dAug, dDrop, dgName, dgTup, dgNil, dgCons, dAndV, dOrV, dNotV, dIf, dCl, startD, List.map_cons, List.map_nil, List.length_cons, List.length_nil, List.cons_append, List.nil_append, List.append_nil, List.replicate, List.getElem?_cons_zero, List.getElem?_cons_succ, List.set_cons_zero, List.set_cons_succ, Option.some.injEq, List.cons.injEq, and_true, true_and, exists_eq_left', exists_eq_left, exists_eq, exists_eq', D.int.injEq, D.bl.injEq, D.tup.injEq, D.lst.injEq, D.adr.injEq, exists_and_left, and_assoc, exists_and_right, if_true, ite_true, decide_eq_true_eq, exists_eq_right, exists_eq_right', Nat.add_zero, Nat.sub_self, Nat.reduceSub, Nat.reduceAdd, eq_self, dYes, wipeD]
        exact hQ rfl
      rw [filter_tt]
      refine ⟨_, rfl, by rw [List.length_map, List.length_range]; show 7 + per.toNat ≤ sizeLine; omega, ?_⟩
      rw [hJ, hGL]
      refine ⟨[0, per - 1, per, st, 10 ^ 60 - 1, 10 ^ 60 - st, 10 ^ 60] ++ (List.range per.toNat).map fun k : Nat => st + k, fun n hn => ?_, rfl, ?_⟩
      · rcases List.mem_append.mp hn with hn | hn
        · exact hf0 n hn
        · obtain ⟨k, hk, rfl⟩ := List.mem_map.mp hn
          have := List.mem_range.mp hk
          omega
      · rw [List.map_append, List.map_map]
        rfl
    · rw [if_neg c40, hJ, hGL]
      exact ⟨_, hf0, rfl, rfl⟩
  rw [hJ, hGL] at h
  obtain ⟨far, hfar, rfl, rfl⟩ := h
  clear hJ
  simp only [dDropM, dLc, dFor, dISeq, dIRng1, dIRng2, dIZip, dIEnum, dSeq, dCall, SP, dFldC, dIfS, dAnd, dOr, dNot, dTest, dOp, dUn, dVar, dC, qI, qI0, qU, dNext, dRet, dRetN, dRaise, dCons, dNil, dTup, dLst, dSet, dPar, dAsg, dAug, dDrop, dgName, dgTup, dgNil, dgCons, dAndV, dOrV, dNotV, dIf, dCl, startD, List.map_cons, List.map_nil, List.length_cons, List.length_nil, List.cons_append, List.nil_append, List.append_nil, List.replicate, List.getElem?_cons_zero, List.getElem?_cons_succ, List.set_cons_zero, List.set_cons_succ, Option.some.injEq, List.cons.injEq, and_true, true_and, exists_eq_left', exists_eq_left, exists_eq, exists_eq', D.int.injEq, D.bl.injEq, D.tup.injEq, D.lst.injEq, D.adr.injEq, exists_and_left, and_assoc, exists_and_right, if_true, ite_true, decide_eq_true_eq, exists_eq_right, exists_eq_right', Nat.add_zero, Nat.sub_self, Nat.reduceSub, Nat.reduceAdd, eq_self]
  have hL := lotsO_len C
  have hL1 : (lotsO rows per).length ≤ 1000 := by omega
  have hl60 : ∀ l ∈ lotsO rows per, l.length ≤ 60 := fun l hl => by
    unfold lotsO at hl
    obtain ⟨k, hk, rfl⟩ := List.mem_map.mp hl
    have hk2 := (day_ok C.cnt per.toNat (by omega)).omem k hk
    rw [List.length_map] at hk2
    have hkm : (rows.map (·.1)).getD k [] ∈ rows.map (·.1) := by
      rw [List.getD_eq_getElem?_getD, List.getElem?_eq_getElem (by rw [List.length_map]; exact hk2)]
      exact List.getElem_mem _
    rw [hrows] at hkm
    unfold rowsL at hkm
    rw [List.map_map] at hkm
    obtain ⟨l, hl, e⟩ := List.mem_map.mp hkm
    obtain ⟨q, hq, rfl⟩ := mem_lotsS.mp hl
    have := hql q hq
    rw [hrows]
    unfold rowsL
    rw [List.map_map, ← e]
    show q.2.length ≤ 60
    omega
  have fields : ∀ {μ' : Mu} {R' : DK} {RX' : DX}, R' (.bl true) μ' → sp__law_fields [calD (mixD t (rows.map (prR per)) sh) per (lotsO rows per), mixD t (rows.map (prR per)) sh, .lst ((lotsO rows per).map tupI)] μ' R' RX' := fun h => ⟨rfl, t, _, per, sh, sh, _, rfl, hL, hL1, hl60, h⟩
  refine fields ⟨true, rfl, ?_⟩
  rw [if_neg (by decide)]
  refine ⟨rfl, t, rows, per, sh, lotsO rows per, nums, far, rfl, hlen, hc, hL, hL1, hl60, hnums, hfar, fun μ1 hM1 => ⟨true, rfl, ?_⟩⟩
  rw [if_neg (by decide)]
  have hT5 : updM μ p (.lst (tp4.map D.int)) (tabAd K "_gathered") = some (.tab "_gathered.<locals>.<lambda>") := by
    rw [updM_ne (fun z => by rw [z, hp] at hT1; cases hT1)]; exact hT1
  generalize updM μ p (.lst (tp4.map D.int)) = μA at hM1 hT5
  simp only [dTupRg, dMake, dDropM, dLc, dFor, dISeq, dIRng1, dIRng2, dIZip, dIEnum, dSeq, dCall, SP, dFldC, dIfS, dAnd, dOr, dNot, dTest, dOp, dUn, dVar, dC, qI, qI0, qU, dNext, dRet, dRetN, dRaise, dCons, dNil, dTup, dLst, dSet, dPar, dAsg, dAug, dDrop, dgName, dgTup, dgNil, dgCons, dAndV, dOrV, dNotV, dIf, dCl, startD, List.map_cons, List.map_nil, List.length_cons, List.length_nil, List.cons_append, List.nil_append, List.append_nil, List.replicate, List.getElem?_cons_zero, List.getElem?_cons_succ, List.set_cons_zero, List.set_cons_succ, Option.some.injEq, List.cons.injEq, and_true, true_and, exists_eq_left', exists_eq_left, exists_eq, exists_eq', D.int.injEq, D.bl.injEq, D.tup.injEq, D.lst.injEq, D.adr.injEq, exists_and_left, and_assoc, exists_and_right, if_true, ite_true, decide_eq_true_eq, exists_eq_right, exists_eq_right', Nat.add_zero, Nat.sub_self, Nat.reduceSub, Nat.reduceAdd, eq_self]
  obtain ⟨rows2, per2, er2, ep2, C2, hp2, el2⟩ := other_ok t0 t1
  have hc2 := C2.pos
  have hL2 := lotsO_len C2
  rw [el2] at hL2
  refine ⟨.of_le (by omega) (by omega) (by omega) t0, fun x3 hx3 => ?_⟩
  have hMo : (2 : Int) ≤ c_MOST := Int.le_trans (by decide) (show (10 : Int) ^ 40 ≤ c_MOST by unfold c_MOST; decide +kernel)
  refine make_ratio (by omega) (by omega) (by omega) x3 ?_
  rw [delM_updM hx3, g12, Int.ediv_one, Int.ediv_one]
  refine ⟨_, _, rfl, rfl, two_le, Nat.zero_le _, two_le, two_le, fun x4 hx4 => ?_⟩
  have hg2 : [(⟨1, 2, .lst ((rgI 0 t).map D.int), rgI 0 t, rgI 0 t⟩ : Giv), ⟨1, 2, .tup [], [], []⟩].map Giv.pr = [(1, rgI 0 t), (1, [])].map (rdP (wt [(1, rgI 0 t), (1, [])])) := by
    show [((1 : Int), (2 : Int), rgI 0 t), (1, 2, [])] = [(1 / gI 1 2, 2 / gI 1 2, rgI 0 t), (1 / gI 1 2, 2 / gI 1 2, [])]
    rw [g12, Int.ediv_one, Int.ediv_one]
  have hv2 : ∀ g ∈ [(⟨1, 2, .lst ((rgI 0 t).map D.int), rgI 0 t, rgI 0 t⟩ : Giv), ⟨1, 2, .tup [], [], []⟩], GivOk t g := fun g hg => by
    rcases List.mem_cons.mp hg with rfl | hg
    · exact giv1 (by decide) (by decide) (by decide) _ rfl (by omega)
    · rw [List.mem_singleton] at hg; subst hg; exact giv0 _ rfl (by decide)
  refine make_mixR hx4 (pos2 t) hg2 hv2 t0 (by omega) (by simp) (wt2 t) (hM1 _ _ hT5) rfl er2 ep2 fun sh2 => ?_
  rw [delM_updM hx4]
  intro x5 hx5
  refine make_cal C2 (by omega) ?_
  rw [delM_updM hx5, el2]
  refine ⟨Nat.zero_le _, two_le, ?_⟩
  obtain ⟨J, hJ⟩ : ∃ J : DEn → Mu → Prop, J = fun Γ' μ' => μ' = μ1 ∧ Γ' = GL (some (.lst (nums.map D.int))) (some (.lst (far.map D.int))) none (some (tupI (rgI 0 t))) (some (ratD 1 2)) (some (calD (mixD t (rows2.map (prR per2)) sh2) per2 (plOf t))) (some (.lst ((plOf t).map tupI))) none none none none := ⟨_, rfl⟩
  refine ⟨J, ?_, fun Γ' μ' h => ?_⟩
  · simp only [dDropM, dLc, dFor, dISeq, dIRng1, dIRng2, dIZip, dIEnum, dSeq, dCall, SP, dFldC, dIfS, dAnd, dOr, dNot, dTest, dOp, dUn, dVar, dC, qI, qI0, qU, dNext, dRet, dRetN, dRaise, dCons, dNil, dTup, dLst, dSet, dPar, dAsg, dAug, dDrop, dgName, dgTup, dgNil, dgCons, dAndV, dOrV, dNotV, dIf, dCl, startD, List.map_cons, List.map_nil, List.length_cons, List.length_nil, List.cons_append, List.nil_append, List.append_nil, List.replicate, List.getElem?_cons_zero, List.getElem?_cons_succ, List.set_cons_zero, List.set_cons_succ, Option.some.injEq, List.cons.injEq, and_true, true_and, exists_eq_left', exists_eq_left, exists_eq, exists_eq', D.int.injEq, D.bl.injEq, D.tup.injEq, D.lst.injEq, D.adr.injEq, exists_and_left, and_assoc, exists_and_right, if_true, ite_true, decide_eq_true_eq, exists_eq_right, exists_eq_right', Nat.add_zero, Nat.sub_self, Nat.reduceSub, Nat.reduceAdd, eq_self]
    by_cases c0 : t = 0
    · rw [if_pos c0]
      refine ⟨Nat.zero_le _, one_le, ?_⟩
      rw [hJ, hGL]
      refine ⟨rfl, ?_⟩
      unfold plOf
      rw [if_pos c0]
      rfl
    · rw [if_neg c0, hJ, hGL]
      refine ⟨rfl, ?_⟩
      unfold plOf
      rw [if_neg c0]
      rfl
  rw [hJ, hGL] at h
  obtain ⟨rfl, rfl⟩ := h
  clear hJ
  simp only [dDropM, dLc, dFor, dISeq, dIRng1, dIRng2, dIZip, dIEnum, dSeq, dCall, SP, dFldC, dIfS, dAnd, dOr, dNot, dTest, dOp, dUn, dVar, dC, qI, qI0, qU, dNext, dRet, dRetN, dRaise, dCons, dNil, dTup, dLst, dSet, dPar, dAsg, dAug, dDrop, dgName, dgTup, dgNil, dgCons, dAndV, dOrV, dNotV, dIf, dCl, startD, List.map_cons, List.map_nil, List.length_cons, List.length_nil, List.cons_append, List.nil_append, List.append_nil, List.replicate, List.getElem?_cons_zero, List.getElem?_cons_succ, List.set_cons_zero, List.set_cons_succ, Option.some.injEq, List.cons.injEq, and_true, true_and, exists_eq_left', exists_eq_left, exists_eq, exists_eq', D.int.injEq, D.bl.injEq, D.tup.injEq, D.lst.injEq, D.adr.injEq, exists_and_left, and_assoc, exists_and_right, if_true, ite_true, decide_eq_true_eq, exists_eq_right, exists_eq_right', Nat.add_zero, Nat.sub_self, Nat.reduceSub, Nat.reduceAdd, eq_self, order_calD, dMeth]
  refine .inl ⟨st, rfl, ?_⟩
  refine ⟨_, _, rfl, rfl, ?_⟩
  rw [show (((plOf t).map tupI).length : Int) = per2 by rw [List.length_map]; exact hL2]
  have e0 := Int.emod_nonneg st (show per2 ≠ 0 by omega)
  have e1 := Int.emod_lt_of_pos st hc2
  refine ⟨st, rfl, per2, rfl, hc2, ?_⟩
  refine ⟨_, _, rfl, rfl, ?_⟩
  refine neD_of (eqD_ftup (ls := plOf t) ⟨rfl, rfl⟩) ⟨_, rfl, ?_⟩
  rw [if_neg (by decide)]
  refine ⟨.inl ⟨_, rfl, rfl⟩, rfl, _, per2, plOf t, st, rfl, hc2, hL2, fun z => absurd z (by omega), fun _ => ?_⟩
  refine ix_ok rfl (atI_natD (j := (st % per2).toNat) (by omega) (at_getT (by omega))) ⟨rfl, _, _, rfl, by have := pl_len (t := t) (by omega) (st % per2).toNat; omega, ?_⟩
  rw [decide_eq_true rfl]
  refine ⟨_, rfl, ?_⟩
  rw [if_neg (by decide)]
  refine ⟨rfl, t, rows.map (prR per), per, sh, lotsO rows per, rfl, t0, by omega, hL1, fun μ3 hM3 => ⟨_, rfl, ?_⟩⟩
  rw [if_neg (by decide)]
  refine ⟨rfl, t, rfl, t0, by omega, hM3 _ _ (hM1 _ _ hT5), fun μ4 hM4 => ⟨_, rfl, ?_⟩⟩
  rw [if_neg (by decide)]
  refine ⟨two_le, [false, true].map D.bl, rfl, forG rows_seq (fun done _ Γ' μ5 => μ5 = μ4 ∧ ∃ a23 a24 a25, Γ' = GL (some (.lst (nums.map D.int))) (some (.lst (far.map D.int))) none (some (tupI (rgI 0 t))) (some (ratD 1 2)) (some (calD (mixD t (rows2.map (prR per2)) sh2) per2 (plOf t))) (some (.lst ((plOf t).map tupI))) (some (.int (st % per2))) a23 a24 a25) ⟨rfl, none, none, none, by rw [hGL]⟩ (fun done b rest Γ' μ5 hxs hI => ?_) fun Γ' μ5 hI => ?_⟩
  · obtain ⟨rfl, a23, a24, a25, rfl⟩ := hI
    simp only [hGL, dDropM, dLc, dFor, dISeq, dIRng1, dIRng2, dIZip, dIEnum, dSeq, dCall, SP, dFldC, dIfS, dAnd, dOr, dNot, dTest, dOp, dUn, dVar, dC, qI, qI0, qU, dNext, dRet, dRetN, dRaise, dCons, dNil, dTup, dLst, dSet, dPar, dAsg, dAug, dDrop, dgName, dgTup, dgNil, dgCons, dAndV, dOrV, dNotV, dIf, dCl, startD, List.map_cons, List.map_nil, List.length_cons, List.length_nil, List.cons_append, List.nil_append, List.append_nil, List.replicate, List.getElem?_cons_zero, List.getElem?_cons_succ, List.set_cons_zero, List.set_cons_succ, Option.some.injEq, List.cons.injEq, and_true, true_and, exists_eq_left', exists_eq_left, exists_eq, exists_eq', D.int.injEq, D.bl.injEq, D.tup.injEq, D.lst.injEq, D.adr.injEq, exists_and_left, and_assoc, exists_and_right, if_true, ite_true, decide_eq_true_eq, exists_eq_right, exists_eq_right', Nat.add_zero, Nat.sub_self, Nat.reduceSub, Nat.reduceAdd, eq_self]
    refine ⟨hpow, two_le, .inr ⟨b, rfl, ?_⟩⟩
    refine ix_ok (d := .int (if b = true then per else 10 ^ 60)) rfl (by cases b <;> rfl) ?_
    obtain ⟨ab, hab⟩ : ∃ ab : Int, ab = if b = true then per else 10 ^ 60 := ⟨_, rfl⟩
    rw [← hab]
    have hab0 : 0 < ab := by rw [hab]; split <;> omega
    refine ⟨ab, rfl, by omega, [-1, 1 + ab, -1 - st, 1 + ab + st].map D.int, rfl, forG rows_seq (fun done' _ Γ' μ6 => μ6 = μ5 ∧ ∃ a25, Γ' = GL (some (.lst (nums.map D.int))) (some (.lst (far.map D.int))) none (some (tupI (rgI 0 t))) (some (ratD 1 2)) (some (calD (mixD t (rows2.map (prR per2)) sh2) per2 (plOf t))) (some (.lst ((plOf t).map tupI))) (some (.int (st % per2))) (some (.bl b)) (some (.int (1 + ab))) a25) ⟨rfl, a25, by rw [hGL]⟩ (fun done' n rest' Γ' μ6 hxs' hI' => ?_) fun Γ' μ6 hI' => ?_⟩
    · obtain ⟨rfl, a25, rfl⟩ := hI'
      simp only [hGL, dDropM, dLc, dFor, dISeq, dIRng1, dIRng2, dIZip, dIEnum, dSeq, dCall, SP, dFldC, dIfS, dAnd, dOr, dNot, dTest, dOp, dUn, dVar, dC, qI, qI0, qU, dNext, dRet, dRetN, dRaise, dCons, dNil, dTup, dLst, dSet, dPar, dAsg, dAug, dDrop, dgName, dgTup, dgNil, dgCons, dAndV, dOrV, dNotV, dIf, dCl, startD, List.map_cons, List.map_nil, List.length_cons, List.length_nil, List.cons_append, List.nil_append, List.append_nil, List.replicate, List.getElem?_cons_zero, List.getElem?_cons_succ, List.set_cons_zero, List.set_cons_succ, Option.some.injEq, List.cons.injEq, and_true, true_and, exists_eq_left', exists_eq_left, exists_eq, exists_eq', D.int.injEq, D.bl.injEq, D.tup.injEq, D.lst.injEq, D.adr.injEq, exists_and_left, and_assoc, exists_and_right, if_true, ite_true, decide_eq_true_eq, exists_eq_right, exists_eq_right', Nat.add_zero, Nat.sub_self, Nat.reduceSub, Nat.reduceAdd, eq_self]
      have hn : n ∈ [-1, 1 + ab, -1 - st, 1 + ab + st] := by rw [hxs']; simp
      have hn2 : n < 0 ∨ (if b = true then per else 10 ^ 60) < n := by
        rw [← hab]
        simp only [List.mem_cons, List.not_mem_nil, or_false] at hn
        rcases hn with rfl | rfl | rfl | rfl <;> omega
      refine ⟨rfl, t, rows, per, sh, lotsO rows per, b, n, rfl, hlen, hc, hL, hn2, true, rfl, ?_⟩
      rw [if_neg (by decide)]
    · obtain ⟨rfl, a25, rfl⟩ := hI'
      rw [hGL]
      exact ⟨rfl, _, _, _, rfl⟩
  · obtain ⟨rfl, a23, a24, a25, rfl⟩ := hI
    simp only [hGL, dSlL, dNoPart, dPart, dDropM, dLc, dFor, dISeq, dIRng1, dIRng2, dIZip, dIEnum, dSeq, dCall, SP, dFldC, dIfS, dAnd, dOr, dNot, dTest, dOp, dUn, dVar, dC, qI, qI0, qU, dNext, dRet, dRetN, dRaise, dCons, dNil, dTup, dLst, dSet, dPar, dAsg, dAug, dDrop, dgName, dgTup, dgNil, dgCons, dAndV, dOrV, dNotV, dIf, dCl, startD, List.map_cons, List.map_nil, List.length_cons, List.length_nil, List.cons_append, List.nil_append, List.append_nil, List.replicate, List.getElem?_cons_zero, List.getElem?_cons_succ, List.set_cons_zero, List.set_cons_succ, Option.some.injEq, List.cons.injEq, and_true, true_and, exists_eq_left', exists_eq_left, exists_eq, exists_eq', D.int.injEq, D.bl.injEq, D.tup.injEq, D.lst.injEq, D.adr.injEq, exists_and_left, and_assoc, exists_and_right, if_true, ite_true, decide_eq_true_eq, exists_eq_right, exists_eq_right', Nat.add_zero, Nat.sub_self, Nat.reduceSub, Nat.reduceAdd, eq_self]
    refine fields ⟨true, rfl, ?_⟩
    rw [if_neg (by decide)]
    refine ⟨_, rfl, rfl, _, rfl, rfl, ?_⟩
    rw [cut_take D.int nums (by decide), cut_take D.int far (by decide)]
    exact ⟨rfl, t, rows, per, sh, lotsO rows per, _, _, rfl, hlen, hc, hL, hL1, hl60, fun n hn => hnums n (List.mem_of_mem_take hn), fun n hn => hfar n (List.mem_of_mem_take hn), fun μ' _ => hR μ'⟩
end N67
set_option Elab.async false
set_option linter.all false
set_option maxRecDepth 100000
set_option maxHeartbeats 4000000
set_option exponentiation.threshold 20000
namespace N67
open PySem PySem.Spec PyProof.Rows L2 Nod He
abbrev lw : PySem.W.OpenLaw := PySem.Challenge.rw_nodearer_k67_calendar
abbrev Rw : PySem.W.OpenRow := PySem.W.OpenLaw.row lw
abbrev qv : Program := PySem.W.view Rw.prog [0, 71]
def names0 : List Str := ["gcd", "lcm", "_wall", "NodearerError", "SizeError", "NumberError", "ThingError", "WeightError", "TextError", "MOST_THINGS_LOOK", "MOST_LOT_ENTRIES", "look_number"]
def names1 : List Str := ["look_size", "look_things", "look_thing", "look_lot", "MOST_DRAW", "period_of", "days_of", "MOST_DAYS", "_first_day", "_last_day", "_spread", "Calendar"]
def names2 : List Str := ["MOST", "MOST_DIGITS", "MOST_SIGNS", "DIGITS", "Ratio", "_ratio_parts", "_ratio_lowest", "_behind_digits", "_read_parts", "lowered", "point_of", "fraction"]
def names3 : List Str := ["ratio_of", "ratios_of", "pair_of", "MOST_PAIRS", "MOST_WEIGHT_DEN", "MOST_PASSED_DEN", "Mixture", "_look_weight", "_look_whole", "_gathered", "_law_tape", "_law_take"]
def names4 : List Str := ["_law_number", "_law_int", "_law_same_lot", "_law_same_list", "_law_gcd", "_law_parts", "_law_rows", "_law_order", "_law_refused", "_law_stranger", "_law_too_long", "_law_edges"]
def names5 : List Str := ["_law_same_counts", "_law_fields", "_law_days", "_law_things"]
def names : List Str := names0 ++ (names1 ++ (names2 ++ (names3 ++ (names4 ++ (names5)))))
def fa0 : List Fa := [.cls "Calendar", .cls "Mixture", .cls "Ratio", .free "ValueError", .free "abs", .free "all", .free "bool", .free "enumerate", .free "int", .free "isinstance", .free "iter", .free "len"]
def fa1 : List Fa := [.free "list", .free "range", .free "set", .free "sorted", .free "sum", .free "tuple", .free "zip", .glo "Calendar", .glo "Mixture", .glo "NodearerError", .glo "NumberError", .glo "Ratio"]
def fa2 : List Fa := [.glo "ThingError", .glo "_first_day", .glo "_gathered", .glo "_last_day", .glo "_law_days", .glo "_law_edges", .glo "_law_fields", .glo "_law_gcd", .glo "_law_int", .glo "_law_number", .glo "_law_order", .glo "_law_parts"]
def fa3 : List Fa := [.glo "_law_refused", .glo "_law_rows", .glo "_law_same_counts", .glo "_law_same_list", .glo "_law_same_lot", .glo "_law_stranger", .glo "_law_take", .glo "_law_tape", .glo "_law_things", .glo "_law_too_long", .glo "_look_weight", .glo "_look_whole"]
def fa4 : List Fa := [.glo "_ratio_lowest", .glo "_ratio_parts", .glo "_spread", .glo "days_of", .glo "fraction", .glo "look_lot", .glo "look_number", .glo "look_size", .glo "look_thing", .glo "look_things", .glo "lowered", .glo "pair_of"]
def fa5 : List Fa := [.glo "period_of", .glo "point_of", .glo "ratio_of", .glo "ratios_of", .int "MOST" c_MOST, .int "MOST_DAYS" c_MOST_DAYS, .int "MOST_DRAW" c_MOST_DRAW, .int "MOST_LOT_ENTRIES" c_MOST_LOT_ENTRIES, .int "MOST_PAIRS" c_MOST_PAIRS, .int "MOST_PASSED_DEN" c_MOST_PASSED_DEN, .int "MOST_THINGS_LOOK" c_MOST_THINGS_LOOK, .int "MOST_WEIGHT_DEN" c_MOST_WEIGHT_DEN]
def fa6 : List Fa := [.mkr "Calendar", .mkr "Mixture", .mkr "Ratio", .meth "Calendar" "counts", .meth "Calendar" "day", .meth "Calendar" "of_thing", .meth "Mixture" "_fill", .noat "Calendar" "days", .noat "Calendar" "mixture", .noat "Calendar" "order", .noat "Mixture" "pairs", .noat "Mixture" "shares"]
def fa7 : List Fa := [.noat "Mixture" "things", .noat "Ratio" "den", .noat "Ratio" "num", .glo "law", .free "super"]
def fa : List Fa := fa0 ++ (fa1 ++ (fa2 ++ (fa3 ++ (fa4 ++ (fa5 ++ (fa6 ++ (fa7)))))))
def exl0 : List Bf := [fun K => gbB K "gcd" "math.gcd", fun K => gbB K "lcm" "math.lcm", fun K => eqO (PySem.W.findIn K (.ref (He.ga K "Ratio")) (PySem.dunder "sub")) (some (some (.ref (He.ma K (He.ga K "Ratio") "__sub__")))), fun K => PySem.W.isFn K (.ref (He.ma K (He.ga K "Ratio") "__sub__")), fun K => PySem.W.selfFirst K (He.ga K "Ratio"), fun K => decide (PySem.W.kitOne K (.ref (He.ga K "Ratio")) (.ref (He.ga K "Ratio")) = some true), fun K => tyB K "Ratio", fun K => decide (PySem.W.kitOne K (.ref (He.ga K "Mixture")) (.ref (He.ga K "Mixture")) = some true), fun K => tyB K "Mixture", fun K => excB K "NumberError", fun K => decide (PySem.W.exmOne K (.ref (He.ga K "NumberError")) (.ref (He.ga K "NumberError")) = some true), fun K => eqO (PySem.W.findIn K (.ref (He.ga K "NumberError")) "number") (some none)]
def exl1 : List Bf := [fun K => decide (PySem.W.kitOne K (.ref (He.ga K "NumberError")) (.ref (He.ga K "ThingError")) = some false), fun K => decide (PySem.W.kitOne K (.ref (He.ga K "NumberError")) (.ref (He.ga K "NodearerError")) = some true), fun K => decide (PySem.W.kitOne K (.ref (He.ga K "NumberError")) (.type "ValueError") = some true), fun K => excB K "ThingError", fun K => decide (PySem.W.exmOne K (.ref (He.ga K "ThingError")) (.ref (He.ga K "ThingError")) = some true), fun K => eqO (PySem.W.findIn K (.ref (He.ga K "ThingError")) "thing") (some none), fun K => decide (PySem.W.kitOne K (.ref (He.ga K "ThingError")) (.ref (He.ga K "NumberError")) = some false), fun K => decide (PySem.W.kitOne K (.ref (He.ga K "ThingError")) (.ref (He.ga K "NodearerError")) = some true), fun K => eqO (PySem.W.findIn K (.ref (He.ga K "Ratio")) "__eq__") (some (some (.ref (He.ma K (He.ga K "Ratio") "__eq__")))), fun K => PySem.W.isFn K (.ref (He.ma K (He.ga K "Ratio") "__eq__")), fun K => eqO (PySem.W.findIn K (.ref (He.ga K "Mixture")) "__eq__") (some (some (.ref (He.ma K (He.ga K "Mixture") "__eq__")))), fun K => PySem.W.isFn K (.ref (He.ma K (He.ga K "Mixture") "__eq__"))]
def exl2 : List Bf := [fun K => eqO (PySem.W.findIn K (.ref (He.ga K "Calendar")) "__iter__") (some (some (.ref (He.ma K (He.ga K "Calendar") "__iter__")))), fun K => PySem.W.isFn K (.ref (He.ma K (He.ga K "Calendar") "__iter__")), fun K => eqO (PySem.W.findIn K (.ref (He.ga K "Calendar")) "__len__") (some (some (.ref (He.ma K (He.ga K "Calendar") "__len__")))), fun K => PySem.W.isFn K (.ref (He.ma K (He.ga K "Calendar") "__len__")), fun K => ntB K "NumberError" "number", fun K => inB K "NumberError" "NumberError.__init__" (PySem.Challenge.rw_nodearer_k67_calendar.prog.main.file : Str), fun K => ntB K "ThingError" "thing", fun K => inB K "ThingError" "ThingError.__init__" (PySem.Challenge.rw_nodearer_k67_calendar.prog.main.file : Str), fun K => !decide (tabAd K "_gathered" = tabAd K "_law_rows")]
def exl : List Bf := exl0 ++ (exl1 ++ (exl2))
def dd0 : DefD := ⟨("look_number", none), "look_number", "look_number", defArgs (top 12), defBody (top 12), defScope (top 12), [], []⟩
def dd1 : DefD := ⟨("look_size", none), "look_size", "look_size", defArgs (top 13), defBody (top 13), defScope (top 13), [], []⟩
def dd2 : DefD := ⟨("look_things", none), "look_things", "look_things", defArgs (top 14), defBody (top 14), defScope (top 14), [], []⟩
def dd3 : DefD := ⟨("look_thing", none), "look_thing", "look_thing", defArgs (top 15), defBody (top 15), defScope (top 15), [], []⟩
def dd4 : DefD := ⟨("look_lot", none), "look_lot", "look_lot", defArgs (top 16), defBody (top 16), defScope (top 16), [], []⟩
def dd5 : DefD := ⟨("period_of", none), "period_of", "period_of", defArgs (top 19), defBody (top 19), defScope (top 19), [], []⟩
def dd6 : DefD := ⟨("days_of", none), "days_of", "days_of", defArgs (top 20), defBody (top 20), defScope (top 20), [], []⟩
def dd7 : DefD := ⟨("_first_day", none), "_first_day", "_first_day", defArgs (top 23), defBody (top 23), defScope (top 23), [], []⟩
def dd8 : DefD := ⟨("_last_day", none), "_last_day", "_last_day", defArgs (top 24), defBody (top 24), defScope (top 24), [], []⟩
def dd9 : DefD := ⟨("_spread", none), "_spread", "_spread", defArgs (top 25), defBody (top 25), defScope (top 25), [], []⟩
def dd10 : DefD := ⟨("Calendar", some "__init__"), "__init__", "Calendar.__init__", defArgs (inClass (top 26) 0), defBody (inClass (top 26) 0), defScope (inClass (top 26) 0), [], []⟩
def dd11 : DefD := ⟨("Calendar", some "__len__"), "__len__", "Calendar.__len__", defArgs (inClass (top 26) 1), defBody (inClass (top 26) 1), defScope (inClass (top 26) 1), [], []⟩
def dd12 : DefD := ⟨("Calendar", some "__iter__"), "__iter__", "Calendar.__iter__", defArgs (inClass (top 26) 2), defBody (inClass (top 26) 2), defScope (inClass (top 26) 2), [], []⟩
def dd13 : DefD := ⟨("Calendar", some "day"), "day", "Calendar.day", defArgs (inClass (top 26) 3), defBody (inClass (top 26) 3), defScope (inClass (top 26) 3), [], []⟩
def dd14 : DefD := ⟨("Calendar", some "counts"), "counts", "Calendar.counts", defArgs (inClass (top 26) 4), defBody (inClass (top 26) 4), defScope (inClass (top 26) 4), [], []⟩
def dd15 : DefD := ⟨("Calendar", some "of_thing"), "of_thing", "Calendar.of_thing", defArgs (inClass (top 26) 5), defBody (inClass (top 26) 5), defScope (inClass (top 26) 5), [], []⟩
def dd16 : DefD := ⟨("Ratio", some "__init__"), "__init__", "Ratio.__init__", defArgs (inClass (top 32) 0), defBody (inClass (top 32) 0), defScope (inClass (top 32) 0), [.int 1], []⟩
def dd17 : DefD := ⟨("Ratio", some "__sub__"), "__sub__", "Ratio.__sub__", defArgs (inClass (top 32) 2), defBody (inClass (top 32) 2), defScope (inClass (top 32) 2), [], []⟩
def dd18 : DefD := ⟨("Ratio", some "__eq__"), "__eq__", "Ratio.__eq__", defArgs (inClass (top 32) 6), defBody (inClass (top 32) 6), defScope (inClass (top 32) 6), [], []⟩
def dd19 : DefD := ⟨("_ratio_parts", none), "_ratio_parts", "_ratio_parts", defArgs (top 33), defBody (top 33), defScope (top 33), [], []⟩
def dd20 : DefD := ⟨("_ratio_lowest", none), "_ratio_lowest", "_ratio_lowest", defArgs (top 34), defBody (top 34), defScope (top 34), [], []⟩
def dd21 : DefD := ⟨("lowered", none), "lowered", "lowered", defArgs (top 38), defBody (top 38), defScope (top 38), [], []⟩
def dd22 : DefD := ⟨("point_of", none), "point_of", "point_of", defArgs (top 39), defBody (top 39), defScope (top 39), [], []⟩
def dd23 : DefD := ⟨("fraction", none), "fraction", "fraction", defArgs (top 40), defBody (top 40), defScope (top 40), [], []⟩
def dd24 : DefD := ⟨("ratio_of", none), "ratio_of", "ratio_of", defArgs (top 41), defBody (top 41), defScope (top 41), [], []⟩
def dd25 : DefD := ⟨("ratios_of", none), "ratios_of", "ratios_of", defArgs (top 42), defBody (top 42), defScope (top 42), [], []⟩
def dd26 : DefD := ⟨("pair_of", none), "pair_of", "pair_of", defArgs (top 43), defBody (top 43), defScope (top 43), [], []⟩
def dd27 : DefD := ⟨("Mixture", some "__init__"), "__init__", "Mixture.__init__", defArgs (inClass (top 48) 0), defBody (inClass (top 48) 0), defScope (inClass (top 48) 0), [], []⟩
def dd28 : DefD := ⟨("Mixture", some "_fill"), "_fill", "Mixture._fill", defArgs (inClass (top 48) 1), defBody (inClass (top 48) 1), defScope (inClass (top 48) 1), [], []⟩
def dd29 : DefD := ⟨("Mixture", some "__eq__"), "__eq__", "Mixture.__eq__", defArgs (inClass (top 48) 4), defBody (inClass (top 48) 4), defScope (inClass (top 48) 4), [], []⟩
def dd30 : DefD := ⟨("_look_weight", none), "_look_weight", "_look_weight", defArgs (top 49), defBody (top 49), defScope (top 49), [], []⟩
def dd31 : DefD := ⟨("_look_whole", none), "_look_whole", "_look_whole", defArgs (top 50), defBody (top 50), defScope (top 50), [], []⟩
def dd32 : DefD := ⟨("_gathered", none), "_gathered", "_gathered", defArgs (top 51), defBody (top 51), defScope (top 51), [], []⟩
def dd33 : DefD := ⟨("_law_tape", none), "_law_tape", "_law_tape", defArgs (top 53), defBody (top 53), defScope (top 53), [], []⟩
def dd34 : DefD := ⟨("_law_take", none), "_law_take", "_law_take", defArgs (top 54), defBody (top 54), defScope (top 54), [], []⟩
def dd35 : DefD := ⟨("_law_number", none), "_law_number", "_law_number", defArgs (top 55), defBody (top 55), defScope (top 55), [], []⟩
def dd36 : DefD := ⟨("_law_int", none), "_law_int", "_law_int", defArgs (top 56), defBody (top 56), defScope (top 56), [], []⟩
def dd37 : DefD := ⟨("_law_same_lot", none), "_law_same_lot", "_law_same_lot", defArgs (top 57), defBody (top 57), defScope (top 57), [], []⟩
def dd38 : DefD := ⟨("_law_same_list", none), "_law_same_list", "_law_same_list", defArgs (top 58), defBody (top 58), defScope (top 58), [], []⟩
def dd39 : DefD := ⟨("_law_gcd", none), "_law_gcd", "_law_gcd", defArgs (top 59), defBody (top 59), defScope (top 59), [], []⟩
def dd40 : DefD := ⟨("_law_parts", none), "_law_parts", "_law_parts", defArgs (top 60), defBody (top 60), defScope (top 60), [], []⟩
def dd41 : DefD := ⟨("_law_rows", none), "_law_rows", "_law_rows", defArgs (top 61), defBody (top 61), defScope (top 61), [], []⟩
def dd42 : DefD := ⟨("_law_order", none), "_law_order", "_law_order", defArgs (top 62), defBody (top 62), defScope (top 62), [], []⟩
def dd43 : DefD := ⟨("_law_refused", none), "_law_refused", "_law_refused", defArgs (top 63), defBody (top 63), defScope (top 63), [], []⟩
def dd44 : DefD := ⟨("_law_stranger", none), "_law_stranger", "_law_stranger", defArgs (top 64), defBody (top 64), defScope (top 64), [], []⟩
def dd45 : DefD := ⟨("_law_too_long", none), "_law_too_long", "_law_too_long", defArgs (top 65), defBody (top 65), defScope (top 65), [], []⟩
def dd46 : DefD := ⟨("_law_edges", none), "_law_edges", "_law_edges", defArgs (top 66), defBody (top 66), defScope (top 66), [], []⟩
def dd47 : DefD := ⟨("_law_same_counts", none), "_law_same_counts", "_law_same_counts", defArgs (top 67), defBody (top 67), defScope (top 67), [], []⟩
def dd48 : DefD := ⟨("_law_fields", none), "_law_fields", "_law_fields", defArgs (top 68), defBody (top 68), defScope (top 68), [], []⟩
def dd49 : DefD := ⟨("_law_days", none), "_law_days", "_law_days", defArgs (top 69), defBody (top 69), defScope (top 69), [], []⟩
def dd50 : DefD := ⟨("_law_things", none), "_law_things", "_law_things", defArgs (top 70), defBody (top 70), defScope (top 70), [], []⟩
def dd51 : DefD := ⟨("law", none), "law", "law", defArgs (top 71), defBody (top 71), defScope (top 71), [], []⟩
def fnl0 : List DefD := [dd0, dd1, dd2, dd3, dd4, dd5, dd6, dd7, dd8, dd9, dd10, dd11]
def fnl1 : List DefD := [dd12, dd13, dd14, dd15, dd16, dd17, dd18, dd19, dd20, dd21, dd22, dd23]
def fnl2 : List DefD := [dd24, dd25, dd26, dd27, dd28, dd29, dd30, dd31, dd32, dd33, dd34, dd35]
def fnl3 : List DefD := [dd36, dd37, dd38, dd39, dd40, dd41, dd42, dd43, dd44, dd45, dd46, dd47]
def fnl4 : List DefD := [dd48, dd49, dd50, dd51]
def fnl : List DefD := fnl0 ++ (fnl1 ++ (fnl2 ++ (fnl3 ++ (fnl4))))
def ini0 : IniD := ⟨"NumberError", "NumberError.__init__", defArgs (inClass (top 5) 0), defBody (inClass (top 5) 0), defScope (inClass (top 5) 0)⟩
def ini1 : IniD := ⟨"ThingError", "ThingError.__init__", defArgs (inClass (top 6) 0), defBody (inClass (top 6) 0), defScope (inClass (top 6) 0)⟩
def inl : List IniD := [ini0, ini1]
def tfl : List Defn := [("_gathered", none), ("_law_rows", none)]
abbrev hk : PySem.W.Hook := hookN 4 fa fnl inl tfl exl
def ob (s : PySem.W.SharedT) : AlN := obsN 4 fa fnl inl tfl exl (HandSHeadRun.getT s)
theorem ob_eq (s : PySem.W.SharedT) : ob s = hk.obs s.abs := obsN_eq (HandSHeadRun.getT_eq s)
theorem comb4 {X A B C D E : Type} {z : Option X} {a : X → A} {b : X → B} {c : X → C} {d : X → D} {e : X → E} {va : A} {vb : B} {vc : C} {vd : D} {ve : E} (h1 : z.map (fun x => (a x, b x)) = some (va, vb)) (h2 : z.map c = some vc) (h3 : z.map d = some vd) (h4 : z.map e = some ve) :
    z.map (fun x => (a x, b x, ((c x, d x), e x))) = some (va, vb, ((vc, vd), ve)) := by
  cases z with
  | none => cases h1
  | some x =>
    have h1 := Option.some.inj h1
    have h2 := Option.some.inj h2
    have h3 := Option.some.inj h3
    have h4 := Option.some.inj h4
    obtain ⟨h5, h6⟩ := Prod.mk.inj h1
    show some (a x, b x, ((c x, d x), e x)) = _
    rw [h5, h6, h2, h3, h4]
set_option maxHeartbeats 0 in
theorem run1 (w : World) : (HandSHeadRun.wholeF (fun p => HandSHeadRun.stepQ (HandSHeadRun.denQ HandSHeadRun.tabQ) p w) HandSHeadRun.fenceQ 20000 Rw.prog).map (fun x => (HandSHeadRun.looksF Rw.prog x.1.heap x.2.abs, HandSHeadRun.seenQ qv names (PySem.importedModules Rw.prog.main.body) (fun s => PySem.W.xlAt qv [] s && PySem.W.recOk Rw.toRowW.records s) x.2.abs)) = some (true, PySem.W.openGood qv names) := by
  kernel_rfl
set_option maxHeartbeats 0 in
theorem run2 (w : World) : (HandSHeadRun.wholeF (fun p => HandSHeadRun.stepQ (HandSHeadRun.denQ HandSHeadRun.tabQ) p w) HandSHeadRun.fenceQ 20000 Rw.prog).map (fun x => ((fa.all fun f => f.ok (frT (HandSHeadRun.getT x.2) (addrs (HandSHeadRun.getT x.2) 4))) && fnl.all fun d => d.ok (frT (HandSHeadRun.getT x.2) (addrs (HandSHeadRun.getT x.2) 4)))) = some true := by
  kernel_rfl
set_option maxHeartbeats 0 in
theorem run3 (w : World) : (HandSHeadRun.wholeF (fun p => HandSHeadRun.stepQ (HandSHeadRun.denQ HandSHeadRun.tabQ) p w) HandSHeadRun.fenceQ 20000 Rw.prog).map (fun x => (fnl.map fun d => fnW (frT (HandSHeadRun.getT x.2) (addrs (HandSHeadRun.getT x.2) 4)) d.at_)) = some (fnl.map DefD.val) := by
  kernel_rfl
set_option maxHeartbeats 0 in
theorem run4 (w : World) : (HandSHeadRun.wholeF (fun p => HandSHeadRun.stepQ (HandSHeadRun.denQ HandSHeadRun.tabQ) p w) HandSHeadRun.fenceQ 20000 Rw.prog).map (fun x => (inl.map fun d => iniW (frT (HandSHeadRun.getT x.2) (addrs (HandSHeadRun.getT x.2) 4)) (d.cn, some "__init__"), (exl.all fun f => f (frT (HandSHeadRun.getT x.2) (addrs (HandSHeadRun.getT x.2) 4))) && tabsB (HandSHeadRun.getT x.2) tfl (frT (HandSHeadRun.getT x.2) (addrs (HandSHeadRun.getT x.2) 4)))) = some (inl.map IniD.val, true) := by
  kernel_rfl
theorem run (w : World) : HandSHeadRun.RunEqI Rw qv hk ob 20000 names w := comb4 (run1 w) (run2 w) (run3 w) (run4 w)
section
variable {K : PySem.W.Frag} {h : Heap} {mg : Str → Option Value}
theorem env_of (X : K.In h) (G : h.Ns mainGlobals mg) (c : SaysN fa fnl inl tfl exl h K) : Env K mg :=
  { b_gcd := gbB_ok X G (exs_at c.more 0 rfl),
    b_lcm := gbB_ok X G (exs_at c.more 1 rfl),
    c_Calendar := cls_ok (c.d.fact 0 rfl),
    c_Mixture := cls_ok (c.d.fact 1 rfl),
    c_Ratio := cls_ok (c.d.fact 2 rfl),
    f_ValueError := free_ok X G (c.d.fact 3 rfl),
    f_abs := free_ok X G (c.d.fact 4 rfl),
    f_all := free_ok X G (c.d.fact 5 rfl),
    f_bool := free_ok X G (c.d.fact 6 rfl),
    f_enumerate := free_ok X G (c.d.fact 7 rfl),
    f_int := free_ok X G (c.d.fact 8 rfl),
    f_isinstance := free_ok X G (c.d.fact 9 rfl),
    f_iter := free_ok X G (c.d.fact 10 rfl),
    f_len := free_ok X G (c.d.fact 11 rfl),
    f_list := free_ok X G (c.d.fact 12 rfl),
    f_range := free_ok X G (c.d.fact 13 rfl),
    f_set := free_ok X G (c.d.fact 14 rfl),
    f_sorted := free_ok X G (c.d.fact 15 rfl),
    f_sum := free_ok X G (c.d.fact 16 rfl),
    f_tuple := free_ok X G (c.d.fact 17 rfl),
    f_zip := free_ok X G (c.d.fact 18 rfl),
    fi_Ratio___sub__ := eqO_ok (exs_at c.more 2 rfl),
    g_Calendar := glo_ok X G (c.d.fact 19 rfl),
    g_Mixture := glo_ok X G (c.d.fact 20 rfl),
    g_NodearerError := glo_ok X G (c.d.fact 21 rfl),
    g_NumberError := glo_ok X G (c.d.fact 22 rfl),
    g_Ratio := glo_ok X G (c.d.fact 23 rfl),
    g_ThingError := glo_ok X G (c.d.fact 24 rfl),
    g__first_day := glo_ok X G (c.d.fact 25 rfl),
    g__gathered := glo_ok X G (c.d.fact 26 rfl),
    g__last_day := glo_ok X G (c.d.fact 27 rfl),
    g__law_days := glo_ok X G (c.d.fact 28 rfl),
    g__law_edges := glo_ok X G (c.d.fact 29 rfl),
    g__law_fields := glo_ok X G (c.d.fact 30 rfl),
    g__law_gcd := glo_ok X G (c.d.fact 31 rfl),
    g__law_int := glo_ok X G (c.d.fact 32 rfl),
    g__law_number := glo_ok X G (c.d.fact 33 rfl),
    g__law_order := glo_ok X G (c.d.fact 34 rfl),
    g__law_parts := glo_ok X G (c.d.fact 35 rfl),
    g__law_refused := glo_ok X G (c.d.fact 36 rfl),
    g__law_rows := glo_ok X G (c.d.fact 37 rfl),
    g__law_same_counts := glo_ok X G (c.d.fact 38 rfl),
    g__law_same_list := glo_ok X G (c.d.fact 39 rfl),
    g__law_same_lot := glo_ok X G (c.d.fact 40 rfl),
    g__law_stranger := glo_ok X G (c.d.fact 41 rfl),
    g__law_take := glo_ok X G (c.d.fact 42 rfl),
    g__law_tape := glo_ok X G (c.d.fact 43 rfl),
    g__law_things := glo_ok X G (c.d.fact 44 rfl),
    g__law_too_long := glo_ok X G (c.d.fact 45 rfl),
    g__look_weight := glo_ok X G (c.d.fact 46 rfl),
    g__look_whole := glo_ok X G (c.d.fact 47 rfl),
    g__ratio_lowest := glo_ok X G (c.d.fact 48 rfl),
    g__ratio_parts := glo_ok X G (c.d.fact 49 rfl),
    g__spread := glo_ok X G (c.d.fact 50 rfl),
    g_days_of := glo_ok X G (c.d.fact 51 rfl),
    g_fraction := glo_ok X G (c.d.fact 52 rfl),
    g_look_lot := glo_ok X G (c.d.fact 53 rfl),
    g_look_number := glo_ok X G (c.d.fact 54 rfl),
    g_look_size := glo_ok X G (c.d.fact 55 rfl),
    g_look_thing := glo_ok X G (c.d.fact 56 rfl),
    g_look_things := glo_ok X G (c.d.fact 57 rfl),
    g_lowered := glo_ok X G (c.d.fact 58 rfl),
    g_pair_of := glo_ok X G (c.d.fact 59 rfl),
    g_period_of := glo_ok X G (c.d.fact 60 rfl),
    g_point_of := glo_ok X G (c.d.fact 61 rfl),
    g_ratio_of := glo_ok X G (c.d.fact 62 rfl),
    g_ratios_of := glo_ok X G (c.d.fact 63 rfl),
    i_MOST := int_ok X G (c.d.fact 64 rfl),
    i_MOST_DAYS := int_ok X G (c.d.fact 65 rfl),
    i_MOST_DRAW := int_ok X G (c.d.fact 66 rfl),
    i_MOST_LOT_ENTRIES := int_ok X G (c.d.fact 67 rfl),
    i_MOST_PAIRS := int_ok X G (c.d.fact 68 rfl),
    i_MOST_PASSED_DEN := int_ok X G (c.d.fact 69 rfl),
    i_MOST_THINGS_LOOK := int_ok X G (c.d.fact 70 rfl),
    i_MOST_WEIGHT_DEN := int_ok X G (c.d.fact 71 rfl),
    isf_Ratio___sub__ := exs_at c.more 3 rfl,
    k_Calendar := mkr_ok (c.d.fact 72 rfl),
    k_Mixture := mkr_ok (c.d.fact 73 rfl),
    k_Ratio := mkr_ok (c.d.fact 74 rfl),
    m_Calendar_counts := meth_ok (c.d.fact 75 rfl),
    m_Calendar_day := meth_ok (c.d.fact 76 rfl),
    m_Calendar_of_thing := meth_ok (c.d.fact 77 rfl),
    m_Mixture__fill := meth_ok (c.d.fact 78 rfl),
    n_Calendar_days := noat_ok (c.d.fact 79 rfl),
    n_Calendar_mixture := noat_ok (c.d.fact 80 rfl),
    n_Calendar_order := noat_ok (c.d.fact 81 rfl),
    n_Mixture_pairs := noat_ok (c.d.fact 82 rfl),
    n_Mixture_shares := noat_ok (c.d.fact 83 rfl),
    n_Mixture_things := noat_ok (c.d.fact 84 rfl),
    n_Ratio_den := noat_ok (c.d.fact 85 rfl),
    n_Ratio_num := noat_ok (c.d.fact 86 rfl),
    sf_Ratio := exs_at c.more 4 rfl,
    kit_Ratio := of_decide_eq_true (exs_at c.more 5 rfl),
    ty_Ratio := tyB_ok (exs_at c.more 6 rfl),
    kit_Mixture := of_decide_eq_true (exs_at c.more 7 rfl),
    ty_Mixture := tyB_ok (exs_at c.more 8 rfl),
    xc_N := excB_ok (exs_at c.more 9 rfl),
    xm_N := of_decide_eq_true (exs_at c.more 10 rfl),
    xf_N := eqO_ok (exs_at c.more 11 rfl),
    xk_ThingError := of_decide_eq_true (exs_at c.more 12 rfl),
    xk_NodearerError := of_decide_eq_true (exs_at c.more 13 rfl),
    xk_ValueError := of_decide_eq_true (exs_at c.more 14 rfl),
    xc_T := excB_ok (exs_at c.more 15 rfl),
    xm_T := of_decide_eq_true (exs_at c.more 16 rfl),
    xf_T := eqO_ok (exs_at c.more 17 rfl),
    tk_NumberError := of_decide_eq_true (exs_at c.more 18 rfl),
    tk_NodearerError := of_decide_eq_true (exs_at c.more 19 rfl),
    e_eqRatio := eqO_ok (exs_at c.more 20 rfl),
    e_fnRatio := exs_at c.more 21 rfl,
    e_eqMixture := eqO_ok (exs_at c.more 22 rfl),
    e_fnMixture := exs_at c.more 23 rfl,
    e_itCalendar := eqO_ok (exs_at c.more 24 rfl),
    e_ifnCalendar := exs_at c.more 25 rfl,
    e_lnCalendar := eqO_ok (exs_at c.more 26 rfl),
    e_lfnCalendar := exs_at c.more 27 rfl }
theorem nt0 (X : K.In h) (G : h.Ns mainGlobals mg) (c : SaysN fa fnl inl tfl exl h K) : NTxt lw.prog K mg "NumberError" "number" "number" (ga K "NumberError") (ma K (ga K "NumberError") "__init__") :=
  ntxt_of (d := ini0) (exs_at c.more 28 rfl) (exs_at c.more 29 rfl) (c.init 0 rfl) (glo_ok X G (c.d.fact 22 rfl)) (free_ok X G (c.d.fact 88 rfl)) (by decide +kernel) (by decide) (by decide) (by decide) (by decide)
    ⟨_, _, _, _, _, _, _, _, _, _, _, _, _, _, rfl, rfl, rfl, fun _ _ _ _ _ _ _ _ => rfl, _, fun _ => rfl⟩
theorem nt1 (X : K.In h) (G : h.Ns mainGlobals mg) (c : SaysN fa fnl inl tfl exl h K) : NTxt lw.prog K mg "ThingError" "thing" "thing" (ga K "ThingError") (ma K (ga K "ThingError") "__init__") :=
  ntxt_of (d := ini1) (exs_at c.more 30 rfl) (exs_at c.more 31 rfl) (c.init 1 rfl) (glo_ok X G (c.d.fact 24 rfl)) (free_ok X G (c.d.fact 88 rfl)) (by decide +kernel) (by decide) (by decide) (by decide) (by decide)
    ⟨_, _, _, _, _, _, _, _, _, _, _, _, _, _, rfl, rfl, rfl, fun _ _ _ _ _ _ _ _ => rfl, _, fun _ => rfl⟩
theorem cod__gathered {fd : FuncData} (F : FunD K "_gathered" "_gathered" (defArgs (top 51)) (defBody (top 51)) (defScope (top 51)) [] [] (He.ga K "_gathered") fd) : fd.code = .ref (codAd K "_gathered") := by
  obtain ⟨oc, od, dV, kV, doc, pm, an, cdv, ct, osl, rfl, lk, hc, _⟩ := F.ex
  obtain ⟨c, rfl⟩ := codeIn_ref hc
  have e := codeOf_eq (p := ("_gathered", none)) lk rfl
  exact congrArg Value.ref (show c = codAd K "_gathered" from e.symm)
theorem cod__law_rows {fd : FuncData} (F : FunD K "_law_rows" "_law_rows" (defArgs (top 61)) (defBody (top 61)) (defScope (top 61)) [] [] (He.ga K "_law_rows") fd) : fd.code = .ref (codAd K "_law_rows") := by
  obtain ⟨oc, od, dV, kV, doc, pm, an, cdv, ct, osl, rfl, lk, hc, _⟩ := F.ex
  obtain ⟨c, rfl⟩ := codeIn_ref hc
  have e := codeOf_eq (p := ("_law_rows", none)) lk rfl
  exact congrArg Value.ref (show c = codAd K "_law_rows" from e.symm)
end
theorem law_at {w : World} {K : PySem.W.Frag} {h : Heap} {mg : Str → Option Value} {f : Addr} (X : K.In h) (G : h.Ns mainGlobals mg) (hf : mg ("law" : Str) = some (.ref f)) (c : SaysN fa fnl inl tfl exl h K) : LamX.LawAtS lw w K (L2.CX lw.prog w) 10 63 "_law_script" mg f h := by
  have V := env_of X G c
  have ef := hf.symm.trans (glo_ok X G (c.d.fact 87 (f := .glo "law") rfl))
  cases ef
  obtain ⟨fd0, F0⟩ := c.d.def_ 0 (d := dd0) rfl
  obtain ⟨fd1, F1⟩ := c.d.def_ 1 (d := dd1) rfl
  obtain ⟨fd2, F2⟩ := c.d.def_ 2 (d := dd2) rfl
  obtain ⟨fd3, F3⟩ := c.d.def_ 3 (d := dd3) rfl
  obtain ⟨fd4, F4⟩ := c.d.def_ 4 (d := dd4) rfl
  obtain ⟨fd5, F5⟩ := c.d.def_ 5 (d := dd5) rfl
  obtain ⟨fd6, F6⟩ := c.d.def_ 6 (d := dd6) rfl
  obtain ⟨fd7, F7⟩ := c.d.def_ 7 (d := dd7) rfl
  obtain ⟨fd8, F8⟩ := c.d.def_ 8 (d := dd8) rfl
  obtain ⟨fd9, F9⟩ := c.d.def_ 9 (d := dd9) rfl
  obtain ⟨fd10, F10⟩ := c.d.def_ 10 (d := dd10) rfl
  obtain ⟨fd11, F11⟩ := c.d.def_ 11 (d := dd11) rfl
  obtain ⟨fd12, F12⟩ := c.d.def_ 12 (d := dd12) rfl
  obtain ⟨fd13, F13⟩ := c.d.def_ 13 (d := dd13) rfl
  obtain ⟨fd14, F14⟩ := c.d.def_ 14 (d := dd14) rfl
  obtain ⟨fd15, F15⟩ := c.d.def_ 15 (d := dd15) rfl
  obtain ⟨fd16, F16⟩ := c.d.def_ 16 (d := dd16) rfl
  obtain ⟨fd17, F17⟩ := c.d.def_ 17 (d := dd17) rfl
  obtain ⟨fd18, F18⟩ := c.d.def_ 18 (d := dd18) rfl
  obtain ⟨fd19, F19⟩ := c.d.def_ 19 (d := dd19) rfl
  obtain ⟨fd20, F20⟩ := c.d.def_ 20 (d := dd20) rfl
  obtain ⟨fd21, F21⟩ := c.d.def_ 21 (d := dd21) rfl
  obtain ⟨fd22, F22⟩ := c.d.def_ 22 (d := dd22) rfl
  obtain ⟨fd23, F23⟩ := c.d.def_ 23 (d := dd23) rfl
  obtain ⟨fd24, F24⟩ := c.d.def_ 24 (d := dd24) rfl
  obtain ⟨fd25, F25⟩ := c.d.def_ 25 (d := dd25) rfl
  obtain ⟨fd26, F26⟩ := c.d.def_ 26 (d := dd26) rfl
  obtain ⟨fd27, F27⟩ := c.d.def_ 27 (d := dd27) rfl
  obtain ⟨fd28, F28⟩ := c.d.def_ 28 (d := dd28) rfl
  obtain ⟨fd29, F29⟩ := c.d.def_ 29 (d := dd29) rfl
  obtain ⟨fd30, F30⟩ := c.d.def_ 30 (d := dd30) rfl
  obtain ⟨fd31, F31⟩ := c.d.def_ 31 (d := dd31) rfl
  obtain ⟨fd32, F32⟩ := c.d.def_ 32 (d := dd32) rfl
  obtain ⟨fd33, F33⟩ := c.d.def_ 33 (d := dd33) rfl
  obtain ⟨fd34, F34⟩ := c.d.def_ 34 (d := dd34) rfl
  obtain ⟨fd35, F35⟩ := c.d.def_ 35 (d := dd35) rfl
  obtain ⟨fd36, F36⟩ := c.d.def_ 36 (d := dd36) rfl
  obtain ⟨fd37, F37⟩ := c.d.def_ 37 (d := dd37) rfl
  obtain ⟨fd38, F38⟩ := c.d.def_ 38 (d := dd38) rfl
  obtain ⟨fd39, F39⟩ := c.d.def_ 39 (d := dd39) rfl
  obtain ⟨fd40, F40⟩ := c.d.def_ 40 (d := dd40) rfl
  obtain ⟨fd41, F41⟩ := c.d.def_ 41 (d := dd41) rfl
  obtain ⟨fd42, F42⟩ := c.d.def_ 42 (d := dd42) rfl
  obtain ⟨fd43, F43⟩ := c.d.def_ 43 (d := dd43) rfl
  obtain ⟨fd44, F44⟩ := c.d.def_ 44 (d := dd44) rfl
  obtain ⟨fd45, F45⟩ := c.d.def_ 45 (d := dd45) rfl
  obtain ⟨fd46, F46⟩ := c.d.def_ 46 (d := dd46) rfl
  obtain ⟨fd47, F47⟩ := c.d.def_ 47 (d := dd47) rfl
  obtain ⟨fd48, F48⟩ := c.d.def_ 48 (d := dd48) rfl
  obtain ⟨fd49, F49⟩ := c.d.def_ 49 (d := dd49) rfl
  obtain ⟨fd50, F50⟩ := c.d.def_ 50 (d := dd50) rfl
  obtain ⟨fd51, F51⟩ := c.d.def_ 51 (d := dd51) rfl
  have T0 := nt0 X G c
  have T1 := nt1 X G c
  refine ⟨fd51, tfl.map (cT K), low K (sp_law K), ?_, ?_, ?_, ?_, ?_, ?_⟩
  · intro p hp
    obtain ⟨q, hq, rfl⟩ := List.mem_map.mp hp
    exact c.empty q hq
  · intro p hp
    obtain ⟨q, hq, rfl⟩ := List.mem_map.mp hp
    exact c.out q hq
  · intro p hp
    obtain ⟨q, hq, rfl⟩ := List.mem_map.mp hp
    exact PySem.W.codeHd_of_K X (c.hd q hq)
  · have b := FunD.bindsA (ps := ["_law_script"]) F51 fun _ _ _ _ _ _ us hl => match us, hl with | [_], _ => rfl
    exact fun s v => b s [v] rfl
  · intro H a ns hl _ hT hS
    refine low_start (tabs := [(tabAd K "_gathered", "_gathered.<locals>.<lambda>"), (tabAd K "_law_rows", "_law_rows.<locals>.<lambda>")]) (fun p hp => ?_) hS (fun μ hμ => ?_) ?_
    · simp only [List.mem_cons, List.not_mem_nil, or_false] at hp
      rcases hp with rfl | rfl
      · exact hT (cT K ("_gathered", none)) (List.mem_map.mpr ⟨("_gathered", none), by simp [tfl], rfl⟩)
      · exact hT (cT K ("_law_rows", none)) (List.mem_map.mpr ⟨("_law_rows", none), by simp [tfl], rfl⟩)
    · exact ⟨rfl, ns, rfl, hμ (tabAd K "_gathered", "_gathered.<locals>.<lambda>") (by simp), hμ (tabAd K "_law_rows", "_law_rows.<locals>.<lambda>") (by simp), fun _ => rfl⟩
    · intro p hp q hq e
      simp only [List.mem_cons, List.not_mem_nil, or_false] at hp hq
      have n0_1 : tabAd K "_gathered" ≠ tabAd K "_law_rows" := by simpa using exs_at c.more 32 rfl
      rcases hp with rfl | rfl <;> rcases hq with rfl | rfl <;> first | rfl | exact absurd e n0_1 | exact absurd e.symm n0_1
  · intro base hB hN hTB
    have OI_Calendar : OwnItP lw.prog w K mg base (He.ga K "Calendar") "order" 1 := ⟨⟨_, fd12, V.e_itCalendar, V.e_ifnCalendar, fn_Calendar___iter__ (P := lw.prog) (w := w) (base := base) V F12, F12.bindsN fun _ _ _ _ _ _ us hl => match us, hl with | [_], _ => rfl⟩, ⟨_, fd11, V.e_lnCalendar, V.e_lfnCalendar, fn_Calendar___len__ (P := lw.prog) (w := w) (base := base) V F11, F11.bindsN fun _ _ _ _ _ _ us hl => match us, hl with | [_], _ => rfl⟩⟩
    have O_look_number := fn_look_number (P := lw.prog) (w := w) (base := base) V F0 T0
    have D_look_number : DFn lw.prog w K mg base 1 (He.ga K "look_number") ["number", "low", "high"] [] sp_look_number := DFn.of0 F0 O_look_number (F0.bindsN fun _ _ _ _ _ _ us hl => match us, hl with | [_, _, _], _ => rfl)
    have O_look_size := fn_look_size (P := lw.prog) (w := w) (base := base) V F1 
    have D_look_size : DFn lw.prog w K mg base 1 (He.ga K "look_size") ["entries", "low", "high"] [] sp_look_size := DFn.of0 F1 O_look_size (F1.bindsN fun _ _ _ _ _ _ us hl => match us, hl with | [_, _, _], _ => rfl)
    have O_look_thing := fn_look_thing (P := lw.prog) (w := w) (base := base) V F3 T1
    have D_look_thing : DFn lw.prog w K mg base 1 (He.ga K "look_thing") ["things", "thing"] [] sp_look_thing := DFn.of0 F3 O_look_thing (F3.bindsN fun _ _ _ _ _ _ us hl => match us, hl with | [_, _], _ => rfl)
    have O_period_of := fn_period_of (P := lw.prog) (w := w) (base := base) V F5 
    have D_period_of : DFn lw.prog w K mg base 1 (He.ga K "period_of") ["mixture"] [] sp_period_of := DFn.of0 F5 O_period_of (F5.bindsN fun _ _ _ _ _ _ us hl => match us, hl with | [_], _ => rfl)
    have O_days_of := fn_days_of (P := lw.prog) (w := w) (base := base) V F6 
    have D_days_of : DFn lw.prog w K mg base 1 (He.ga K "days_of") ["weight", "period"] [] sp_days_of := DFn.of0 F6 O_days_of (F6.bindsN fun _ _ _ _ _ _ us hl => match us, hl with | [_, _], _ => rfl)
    have O__first_day := fn__first_day (P := lw.prog) (w := w) (base := base) V F7 
    have D__first_day : DFn lw.prog w K mg base 1 (He.ga K "_first_day") ["done", "count", "period"] [] sp__first_day := DFn.of0 F7 O__first_day (F7.bindsN fun _ _ _ _ _ _ us hl => match us, hl with | [_, _, _], _ => rfl)
    have O__last_day := fn__last_day (P := lw.prog) (w := w) (base := base) V F8 
    have D__last_day : DFn lw.prog w K mg base 1 (He.ga K "_last_day") ["done", "count", "period"] [] sp__last_day := DFn.of0 F8 O__last_day (F8.bindsN fun _ _ _ _ _ _ us hl => match us, hl with | [_, _, _], _ => rfl)
    have O_Ratio___eq__ := fn_Ratio___eq__ (P := lw.prog) (w := w) (base := base) V F18 
    have D_Ratio___eq__ : DFn lw.prog w K mg base 1 (He.ma K (He.ga K "Ratio") "__eq__") ["self", "other"] [] sp_Ratio___eq__ := DFn.of0 F18 O_Ratio___eq__ (F18.bindsN fun _ _ _ _ _ _ us hl => match us, hl with | [_, _], _ => rfl)
    have O_lowered := fn_lowered (P := lw.prog) (w := w) (base := base) V F21 
    have D_lowered : DFn lw.prog w K mg base 1 (He.ga K "lowered") ["den", "nums"] [] sp_lowered := DFn.of0 F21 O_lowered (F21.bindsN fun _ _ _ _ _ _ us hl => match us, hl with | [_, _], _ => rfl)
    have O_fraction := fn_fraction (P := lw.prog) (w := w) (base := base) V F23 
    have D_fraction : DFn lw.prog w K mg base 1 (He.ga K "fraction") ["num", "den"] [] sp_fraction := DFn.of0 F23 O_fraction (F23.bindsN fun _ _ _ _ _ _ us hl => match us, hl with | [_, _], _ => rfl)
    have O_pair_of := fn_pair_of (P := lw.prog) (w := w) (base := base) V F26 
    have D_pair_of : DFn lw.prog w K mg base 1 (He.ga K "pair_of") ["ratio"] [] sp_pair_of := DFn.of0 F26 O_pair_of (F26.bindsN fun _ _ _ _ _ _ us hl => match us, hl with | [_], _ => rfl)
    have O__look_whole := fn__look_whole (P := lw.prog) (w := w) (base := base) V F31 
    have D__look_whole : DFn lw.prog w K mg base 1 (He.ga K "_look_whole") ["point"] [] sp__look_whole := DFn.of0 F31 O__look_whole (F31.bindsN fun _ _ _ _ _ _ us hl => match us, hl with | [_], _ => rfl)
    have O__law_tape := fn__law_tape (P := lw.prog) (w := w) (base := base) V F33 
    have D__law_tape : DFn lw.prog w K mg base 1 (He.ga K "_law_tape") ["_law_script"] [] sp__law_tape := DFn.of0 F33 O__law_tape (F33.bindsN fun _ _ _ _ _ _ us hl => match us, hl with | [_], _ => rfl)
    have O__law_take := fn__law_take (P := lw.prog) (w := w) (base := base) V F34 
    have D__law_take : DFn lw.prog w K mg base 1 (He.ga K "_law_take") ["_law_tape_here", "_law_many"] [] sp__law_take := DFn.of0 F34 O__law_take (F34.bindsN fun _ _ _ _ _ _ us hl => match us, hl with | [_, _], _ => rfl)
    have O__law_int := fn__law_int (P := lw.prog) (w := w) (base := base) V F36 
    have D__law_int : DFn lw.prog w K mg base 1 (He.ga K "_law_int") ["_law_told"] [] sp__law_int := DFn.of0 F36 O__law_int (F36.bindsN fun _ _ _ _ _ _ us hl => match us, hl with | [_], _ => rfl)
    have Q__law_int : DFnQ lw.prog w K mg base 1 (He.ga K "_law_int") ["_law_told"] sp__law_int := ⟨⟨fd36, fnq__law_int V F36, F36.bindsN fun _ _ _ _ _ _ us hl => match us, hl with | [_], _ => rfl⟩, F36.kp⟩
    have O__law_gcd := fn__law_gcd (P := lw.prog) (w := w) (base := base) V F39 
    have D__law_gcd : DFn lw.prog w K mg base 1 (He.ga K "_law_gcd") ["_law_one", "_law_two"] [] sp__law_gcd := DFn.of0 F39 O__law_gcd (F39.bindsN fun _ _ _ _ _ _ us hl => match us, hl with | [_, _], _ => rfl)
    have O__law_order := fn__law_order (P := lw.prog) (w := w) (base := base) V F42 
    have D__law_order : DFn lw.prog w K mg base 1 (He.ga K "_law_order") ["_law_rows_here", "_law_period"] [] sp__law_order := DFn.of0 F42 O__law_order (F42.bindsN fun _ _ _ _ _ _ us hl => match us, hl with | [_, _], _ => rfl)
    have O_look_things := fn_look_things (P := lw.prog) (w := w) (base := base) V F2 D_look_number
    have D_look_things : DFn lw.prog w K mg base 2 (He.ga K "look_things") ["things"] [] sp_look_things := DFn.of0 F2 O_look_things (F2.bindsN fun _ _ _ _ _ _ us hl => match us, hl with | [_], _ => rfl)
    have O_look_lot := fn_look_lot (P := lw.prog) (w := w) (base := base) V F4 D_look_size D_look_thing
    have D_look_lot : DFn lw.prog w K mg base 2 (He.ga K "look_lot") ["things", "entries"] [] sp_look_lot := DFn.of0 F4 O_look_lot (F4.bindsN fun _ _ _ _ _ _ us hl => match us, hl with | [_, _], _ => rfl)
    have O__spread := fn__spread (P := lw.prog) (w := w) (base := base) V F9 D__last_day D__first_day
    have D__spread : DFn lw.prog w K mg base 2 (He.ga K "_spread") ["counts", "period"] [] sp__spread := DFn.of0 F9 O__spread (F9.bindsN fun _ _ _ _ _ _ us hl => match us, hl with | [_, _], _ => rfl)
    have O_Calendar_day := fn_Calendar_day (P := lw.prog) (w := w) (base := base) V F13 D_look_number
    have D_Calendar_day : DFn lw.prog w K mg base 2 (He.ma K (He.ga K "Calendar") "day") ["self", "number"] [] sp_Calendar_day := DFn.of0 F13 O_Calendar_day (F13.bindsN fun _ _ _ _ _ _ us hl => match us, hl with | [_, _], _ => rfl)
    have O_Calendar_counts := fn_Calendar_counts (P := lw.prog) (w := w) (base := base) V F14 D_look_number
    have D_Calendar_counts : DFn lw.prog w K mg base 2 (He.ma K (He.ga K "Calendar") "counts") ["self", "days"] [] sp_Calendar_counts := DFn.of0 F14 O_Calendar_counts (F14.bindsN fun _ _ _ _ _ _ us hl => match us, hl with | [_, _], _ => rfl)
    have O_Calendar_of_thing := fn_Calendar_of_thing (P := lw.prog) (w := w) (base := base) V F15 D_look_thing
    have D_Calendar_of_thing : DFn lw.prog w K mg base 2 (He.ma K (He.ga K "Calendar") "of_thing") ["self", "thing"] [] sp_Calendar_of_thing := DFn.of0 F15 O_Calendar_of_thing (F15.bindsN fun _ _ _ _ _ _ us hl => match us, hl with | [_, _], _ => rfl)
    have O_Ratio_init := fn_Ratio_init (P := lw.prog) (w := w) (base := base) V F16 D_look_number
    have D_Ratio_init2 : DFn lw.prog w K mg base 2 (He.ma K (He.ga K "Ratio") "__init__") ["self", "num", "den"] [] sp_Ratio_init := DFn.ofD (dv := []) F16 O_Ratio_init (F16.binds1 3 1 (by simp [DefD.dvs, dd16]) rfl fun T kV doc pm an cdv ct us its hu hi => match us, its, hu, hi with | [_, _, _], [_], _, _ => ⟨_, rfl, rfl⟩) (fun _ => .nil)
    have D_Ratio_init1 : DFn lw.prog w K mg base 2 (He.ma K (He.ga K "Ratio") "__init__") ["self", "num", "den"] [.int 1] sp_Ratio_init := DFn.ofD (dv := [.int 1]) F16 O_Ratio_init (F16.binds1 2 0 (by simp [DefD.dvs, dd16]) rfl fun T kV doc pm an cdv ct us its hu hi => match us, its, hu, hi with | [_, _], [_], _, _ => ⟨_, rfl, rfl⟩) (fun _ => .cons (.int 1) (.nil))
    have O__ratio_parts := fn__ratio_parts (P := lw.prog) (w := w) (base := base) V F19 D_look_number
    have D__ratio_parts : DFn lw.prog w K mg base 2 (He.ga K "_ratio_parts") ["other"] [] sp__ratio_parts := DFn.of0 F19 O__ratio_parts (F19.bindsN fun _ _ _ _ _ _ us hl => match us, hl with | [_], _ => rfl)
    have O_point_of := fn_point_of (P := lw.prog) (w := w) (base := base) V F22 D_lowered
    have D_point_of : DFn lw.prog w K mg base 2 (He.ga K "point_of") ["pairs"] [] sp_point_of := DFn.of0 F22 O_point_of (F22.bindsN fun _ _ _ _ _ _ us hl => match us, hl with | [_], _ => rfl)
    have O__look_weight := fn__look_weight (P := lw.prog) (w := w) (base := base) V F30 D_look_number
    have D__look_weight : DFn lw.prog w K mg base 2 (He.ga K "_look_weight") ["at", "weight", "least"] [] sp__look_weight := DFn.of0 F30 O__look_weight (F30.bindsN fun _ _ _ _ _ _ us hl => match us, hl with | [_, _, _], _ => rfl)
    have O__law_number := fn__law_number (P := lw.prog) (w := w) (base := base) V F35 D__law_take
    have D__law_number : DFn lw.prog w K mg base 2 (He.ga K "_law_number") ["_law_tape_here", "_law_count"] [] sp__law_number := DFn.of0 F35 O__law_number (F35.bindsN fun _ _ _ _ _ _ us hl => match us, hl with | [_, _], _ => rfl)
    have O__law_same_lot := fn__law_same_lot (P := lw.prog) (w := w) (base := base) V F37 D__law_int
    have D__law_same_lot : DFn lw.prog w K mg base 2 (He.ga K "_law_same_lot") ["_law_told", "_law_due"] [] sp__law_same_lot := DFn.of0 F37 O__law_same_lot (F37.bindsN fun _ _ _ _ _ _ us hl => match us, hl with | [_, _], _ => rfl)
    have O__law_same_list := fn__law_same_list (P := lw.prog) (w := w) (base := base) V F38 D__law_int
    have D__law_same_list : DFn lw.prog w K mg base 2 (He.ga K "_law_same_list") ["_law_told", "_law_due"] [] sp__law_same_list := DFn.of0 F38 O__law_same_list (F38.bindsN fun _ _ _ _ _ _ us hl => match us, hl with | [_, _], _ => rfl)
    have O__law_same_counts := fn__law_same_counts (P := lw.prog) (w := w) (base := base) V F47 D__law_int
    have D__law_same_counts : DFn lw.prog w K mg base 2 (He.ga K "_law_same_counts") ["_law_told", "_law_rows_here", "_law_days_here"] [] sp__law_same_counts := DFn.of0 F47 O__law_same_counts (F47.bindsN fun _ _ _ _ _ _ us hl => match us, hl with | [_, _, _], _ => rfl)
    have O_Calendar_init := fn_Calendar_init (P := lw.prog) (w := w) (base := base) V F10 T0 D_period_of D_days_of D__spread
    have D_Calendar_init : DFn lw.prog w K mg base 3 (He.ma K (He.ga K "Calendar") "__init__") ["self", "mixture"] [] sp_Calendar_init := DFn.of0 F10 O_Calendar_init (F10.bindsN fun _ _ _ _ _ _ us hl => match us, hl with | [_, _], _ => rfl)
    have O__law_parts := fn__law_parts (P := lw.prog) (w := w) (base := base) V F40 D__law_take D__law_number
    have D__law_parts : DFn lw.prog w K mg base 3 (He.ga K "_law_parts") ["_law_tape_here", "_law_things_here"] [] sp__law_parts := DFn.of0 F40 O__law_parts (F40.bindsN fun _ _ _ _ _ _ us hl => match us, hl with | [_, _], _ => rfl)
    have O__law_refused := fn__law_refused (P := lw.prog) (w := w) (base := base) V F43 Q__law_int D_Calendar_counts D_Calendar_day D__law_int
    have D__law_refused : DFn lw.prog w K mg base 3 (He.ga K "_law_refused") ["_law_calendar", "_law_counted", "_law_number_here"] [] sp__law_refused := DFn.of0 F43 O__law_refused (F43.bindsN fun _ _ _ _ _ _ us hl => match us, hl with | [_, _, _], _ => rfl)
    have O__law_stranger := fn__law_stranger (P := lw.prog) (w := w) (base := base) V F44 Q__law_int D_Calendar_of_thing D__law_int
    have D__law_stranger : DFn lw.prog w K mg base 3 (He.ga K "_law_stranger") ["_law_calendar", "_law_thing"] [] sp__law_stranger := DFn.of0 F44 O__law_stranger (F44.bindsN fun _ _ _ _ _ _ us hl => match us, hl with | [_, _], _ => rfl)
    have O__law_days := fn__law_days (P := lw.prog) (w := w) (base := base) V F49 D_Calendar_counts D__law_same_lot D__law_same_counts D_Calendar_day
    have D__law_days : DFn lw.prog w K mg base 3 (He.ga K "_law_days") ["_law_calendar", "_law_rows_here", "_law_order_here", "_law_numbers", "_law_far"] [] sp__law_days := DFn.of0 F49 O__law_days (F49.bindsN fun _ _ _ _ _ _ us hl => match us, hl with | [_, _, _, _, _], _ => rfl)
    have O__ratio_lowest := fn__ratio_lowest (P := lw.prog) (w := w) (base := base) V F20 D_Ratio_init2
    have D__ratio_lowest : DFn lw.prog w K mg base 4 (He.ga K "_ratio_lowest") ["num", "den"] [] sp__ratio_lowest := DFn.of0 F20 O__ratio_lowest (F20.bindsN fun _ _ _ _ _ _ us hl => match us, hl with | [_, _], _ => rfl)
    have O_ratio_of := fn_ratio_of (P := lw.prog) (w := w) (base := base) V F24 D_fraction D_Ratio_init2
    have D_ratio_of : DFn lw.prog w K mg base 4 (He.ga K "ratio_of") ["num", "den"] [] sp_ratio_of := DFn.of0 F24 O_ratio_of (F24.bindsN fun _ _ _ _ _ _ us hl => match us, hl with | [_, _], _ => rfl)
    have O__gathered := fn__gathered (P := lw.prog) (w := w) (base := base) V F32 (cod__gathered F32) (hTB (cT K ("_gathered", none)) (List.mem_map.mpr ⟨("_gathered", none), by simp [tfl], rfl⟩)) D_point_of D_lowered
    have D__gathered : DFn lw.prog w K mg base 4 (He.ga K "_gathered") ["parts"] [] (sp__gathered K) := DFn.of0 F32 O__gathered (F32.bindsN fun _ _ _ _ _ _ us hl => match us, hl with | [_], _ => rfl)
    have O__law_rows := fn__law_rows (P := lw.prog) (w := w) (base := base) V F41 (cod__law_rows F41) (hTB (cT K ("_law_rows", none)) (List.mem_map.mpr ⟨("_law_rows", none), by simp [tfl], rfl⟩)) D__law_gcd
    have D__law_rows : DFn lw.prog w K mg base 4 (He.ga K "_law_rows") ["_law_parts_here"] [] (sp__law_rows K) := DFn.of0 F41 O__law_rows (F41.bindsN fun _ _ _ _ _ _ us hl => match us, hl with | [_], _ => rfl)
    have O__law_things := fn__law_things (P := lw.prog) (w := w) (base := base) V F50 D_Calendar_of_thing D__law_stranger D__law_same_list
    have D__law_things : DFn lw.prog w K mg base 4 (He.ga K "_law_things") ["_law_calendar", "_law_things_here", "_law_order_here"] [] sp__law_things := DFn.of0 F50 O__law_things (F50.bindsN fun _ _ _ _ _ _ us hl => match us, hl with | [_, _, _], _ => rfl)
    have O_Ratio___sub__ := fn_Ratio___sub__ (P := lw.prog) (w := w) (base := base) V F17 D__ratio_parts D__ratio_lowest
    have D_Ratio___sub__ : DFn lw.prog w K mg base 5 (He.ma K (He.ga K "Ratio") "__sub__") ["self", "other"] [] sp_Ratio___sub__ := DFn.of0 F17 O_Ratio___sub__ (F17.bindsN fun _ _ _ _ _ _ us hl => match us, hl with | [_, _], _ => rfl)
    have O_ratios_of := fn_ratios_of (P := lw.prog) (w := w) (base := base) V F25 D_ratio_of
    have D_ratios_of : DFn lw.prog w K mg base 5 (He.ga K "ratios_of") ["point"] [] sp_ratios_of := DFn.of0 F25 O_ratios_of (F25.bindsN fun _ _ _ _ _ _ us hl => match us, hl with | [_], _ => rfl)
    have O_Mixture___eq__ := fn_Mixture___eq__ (P := lw.prog) (w := w) (base := base) V F29 D_Ratio___eq__
    have D_Mixture___eq__ : DFn lw.prog w K mg base 5 (He.ma K (He.ga K "Mixture") "__eq__") ["self", "other"] [] sp_Mixture___eq__ := DFn.of0 F29 O_Mixture___eq__ (F29.bindsN fun _ _ _ _ _ _ us hl => match us, hl with | [_, _], _ => rfl)
    have O__law_too_long := fn__law_too_long (P := lw.prog) (w := w) (base := base) V F45 Q__law_int D_Calendar_init D__law_int
    have D__law_too_long : DFn lw.prog w K mg base 5 (He.ga K "_law_too_long") ["_law_mixture", "_law_period"] [] sp__law_too_long := DFn.of0 F45 O__law_too_long (F45.bindsN fun _ _ _ _ _ _ us hl => match us, hl with | [_, _], _ => rfl)
    have O_Mixture__fill := fn_Mixture__fill (P := lw.prog) (w := w) (base := base) V F28 D_ratios_of D_ratio_of
    have D_Mixture__fill : DFn lw.prog w K mg base 6 (He.ma K (He.ga K "Mixture") "_fill") ["self", "things", "point", "lots"] [] sp_Mixture__fill := DFn.of0 F28 O_Mixture__fill (F28.bindsN fun _ _ _ _ _ _ us hl => match us, hl with | [_, _, _, _], _ => rfl)
    have O__law_fields := fn__law_fields (P := lw.prog) (w := w) (base := base) V F48 D_Mixture___eq__ D__law_int D__law_same_lot OI_Calendar
    have D__law_fields : DFn lw.prog w K mg base 6 (He.ga K "_law_fields") ["_law_calendar", "_law_mixture", "_law_order_here"] [] sp__law_fields := DFn.of0 F48 O__law_fields (F48.bindsN fun _ _ _ _ _ _ us hl => match us, hl with | [_, _, _], _ => rfl)
    have O_Mixture_init := fn_Mixture_init (P := lw.prog) (w := w) (base := base) V F27 D_look_things D_look_size D__gathered D__look_whole D_look_number D_Mixture__fill D__look_weight D_pair_of D_look_lot
    have D_Mixture_init : DFn lw.prog w K mg base 7 (He.ma K (He.ga K "Mixture") "__init__") ["self", "things", "pairs"] [] (sp_Mixture_init K) := DFn.of0 F27 O_Mixture_init (F27.bindsN fun _ _ _ _ _ _ us hl => match us, hl with | [_, _, _], _ => rfl)
    have O__law_edges := fn__law_edges (P := lw.prog) (w := w) (base := base) V F46 D_Ratio_init2 D_Mixture_init D_Calendar_init D__law_too_long D_Calendar_counts D_Ratio___sub__ D_Ratio_init1 OI_Calendar
    have D__law_edges : DFn lw.prog w K mg base 9 (He.ga K "_law_edges") ["_law_things_here"] [] (sp__law_edges K) := DFn.of0 F46 O__law_edges (F46.bindsN fun _ _ _ _ _ _ us hl => match us, hl with | [_], _ => rfl)
    have O_law := fn_law (P := lw.prog) (w := w) (base := base) V F51 D__law_tape D__law_parts D_Mixture_init D__law_rows D__law_order D_Calendar_init D__law_number D_Ratio_init2 D__law_days D__law_take D__law_too_long D__law_fields D__law_same_lot D__law_things D__law_edges D_Calendar_day D__law_refused
    exact O_law
end N67
set_option Elab.async false
set_option maxHeartbeats 0
open PySem PySem.W PySem.Calls PyProof.Rows
theorem PySem.Challenge.cw_nodearer_k67_calendar_holds : PySem.Challenge.rw_nodearer_k67_calendar.Holds := by
  w_on; o_law
  refine HandSHeadRun.head_imp (r := N67.Rw) (q := N67.qv) (H := N67.hk) (ob := N67.ob) (M := 20000) (loose := N67.names) (d := HandSHeadRun.topDef N67.Rw.prog 71) (kwd := []) N67.ob_eq N67.run
    (by kernel_rfl) (by kernel_rfl) (by kernel_rfl) (by rfl) (by first | assumption | decide +kernel) (by decide +kernel) ⟨rfl, rfl, rfl, rfl, rfl, by decide +kernel⟩ ?hw ?hc
  case hw => w_witness2
  case hc =>
    refine LamX.walk_ofTsE (l := PySem.Challenge.rw_nodearer_k67_calendar) (n := 63) (k := 10) (x := "_law_script") (CX := fun w => L2.CX PySem.Challenge.rw_nodearer_k67_calendar.prog w) rfl (by decide) (by kernel_rfl) ⟨rfl, by decide, by decide⟩ ?F fun w H s e s' z => by
      obtain ⟨a, B, H', cls, d, _, _, _, _, _, _, _, z⟩ := z
      exact z
    intro w mg fa h Y G hmg0
    obtain ⟨K, KX, c⟩ := Y
    have hmg : mg ("law" : PySem.Str) = some (.ref fa) := by
      have e : (HandSHeadRun.topDef N67.Rw.prog 71).name = ("law" : PySem.Str) := by kernel_rfl
      rw [← e]
      exact hmg0
    exact ⟨K, KX, N67.law_at KX G hmg c⟩
