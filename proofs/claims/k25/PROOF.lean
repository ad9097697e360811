import PyProof.Rows.All
import Wide.All
import OpenK.AllK
import Wide.FinOn
import HandS.ForMost
import HandS.Exc
import HandS.ExcOwn
import HandS.WordsExc
import HandS.CallSlots
import HandS.IsInst
import HandS.TupAny
import HandS.Wide
import HandS.Style
import HandS.Conv
import HandS.More
import PySem.Challenge.RW_nearthrees_k25_whole_words_put_together
set_option Elab.async false
set_option linter.all false
set_option maxRecDepth 100000
set_option maxHeartbeats 4000000
/-! A layer of readings by value over the hand layer: tuples, frozen lists, frozen instances are values; owned lists and instances stand in a store. -/
namespace Dv
open PySem L2

inductive D where
  | non | bl (b : Bool) | int (i : Int) | str (x : Str)
  | tup (xs : List D) | lst (xs : List D)
  | inst (C : Addr) (ns : List Str) (xs : List D)
  | obj (a : Addr) | ty (n : String)

inductive SO where
  | lst (xs : List D)
  | ins (C : Addr) (ns : List Str) (xs : List D)

abbrev Sd := Addr → Option SO
def upS (S : Sd) (a : Addr) (o : SO) : Sd := fun b => if b = a then some o else S b
def del (S : Sd) (a : Addr) : Sd := fun b => if b = a then none else S b
theorem upS_same {S : Sd} {a : Addr} {o : SO} : upS S a o a = some o := by unfold upS; rw [if_pos rfl]
theorem upS_ne {S : Sd} {a b : Addr} {o : SO} (h : b ≠ a) : upS S a o b = S b := by unfold upS; rw [if_neg h]
theorem upS_upS {S : Sd} {a : Addr} {o u : SO} : upS (upS S a o) a u = upS S a u := by
  funext b; unfold upS; split <;> rfl
theorem del_same {S : Sd} {a : Addr} : del S a a = none := by unfold del; rw [if_pos rfl]
theorem del_ne {S : Sd} {a b : Addr} (h : b ≠ a) : del S a b = S b := by unfold del; rw [if_neg h]
theorem del_upS {S : Sd} {a : Addr} {o : SO} (h : S a = none) : del (upS S a o) a = S := by
  funext b
  by_cases e : b = a
  · rw [e, del_same, h]
  · rw [del_ne e, upS_ne e]

/-- a list of the written part -/
def KL (K : PySem.W.Frag) (a : Addr) (xs : List V) : Prop :=
  ∃ (o : Obj) (its : Array Value) (n : Nat), K.lookup a = some o ∧ o.cls = .type "list" ∧ o.dict = none ∧ o.data = .seq its n ∧ its.size ≤ sizeLine ∧ Vals xs its.toList

mutual
def Rp (K : PySem.W.Frag) (H : Hp) (S : Sd) : D → V → Prop
  | .non, v => v = .non
  | .bl b, v => v = .bl b
  | .int i, v => v = .int i
  | .str x, v => v = .str x
  | .tup ds, v => ∃ a vs, v = .ref a ∧ SqT K H a vs ∧ RpL K H S ds vs
  | .lst ds, v => ∃ a vs, v = .ref a ∧ ((Rd H a (.lst vs) ∧ S a = none) ∨ KL K a vs) ∧ RpL K H S ds vs
  | .inst C ns ds, v => ∃ a dx fs, v = .ref a ∧ H a = some (.ins C dx fs) ∧ S a = none ∧ fs.map Prod.fst = ns ∧ RpL K H S ds (fs.map Prod.snd)
  | .obj a, v => v = .ref a
  | .ty n, v => v = .ty n
def RpL (K : PySem.W.Frag) (H : Hp) (S : Sd) : List D → List V → Prop
  | [], vs => vs = []
  | d :: ds, vs => ∃ v r, vs = v :: r ∧ Rp K H S d v ∧ RpL K H S ds r
end

def SoOk (K : PySem.W.Frag) (H : Hp) (S : Sd) (a : Addr) : SO → Prop
  | .lst ds => ∃ vs, H a = some (.lst vs) ∧ RpL K H S ds vs
  | .ins C ns ds => ∃ dx fs, H a = some (.ins C dx fs) ∧ fs.map Prod.fst = ns ∧ RpL K H S ds (fs.map Prod.snd)
def RelS (K : PySem.W.Frag) (H : Hp) (S : Sd) : Prop := ∀ a o, S a = some o → SoOk K H S a o
/-- what is not owned stays, and stays not owned -/
def Step (H : Hp) (S : Sd) (H' : Hp) (S' : Sd) : Prop := ∀ a o, H a = some o → S a = none → H' a = some o ∧ S' a = none

section
variable {K : PySem.W.Frag} {H H' H2 : Hp} {S S' S2 : Sd} {a p : Addr} {ds es : List D} {vs ws : List V} {d : D} {v : V}

theorem RelS.some_h (R : RelS K H S) {o : SO} (h : S a = some o) : (∃ vs, H a = some (.lst vs)) ∨ ∃ C dx fs, H a = some (.ins C dx fs) := by
  have x := R a o h
  cases o with
  | lst ds => obtain ⟨vs, e, _⟩ := x; exact .inl ⟨vs, e⟩
  | ins C ns ds => obtain ⟨dx, fs, e, _⟩ := x; exact .inr ⟨C, dx, fs, e⟩
theorem RelS.free (R : RelS K H S) (h : H a = none) : S a = none := by
  cases e : S a with
  | none => rfl
  | some o => rcases R.some_h e with ⟨vs, q⟩ | ⟨C, dx, fs, q⟩ <;> (rw [h] at q; cases q)
theorem RelS.tupFree (R : RelS K H S) (h : H a = some (.tup vs)) : S a = none := by
  cases e : S a with
  | none => rfl
  | some o => rcases R.some_h e with ⟨ws, q⟩ | ⟨C, dx, fs, q⟩ <;> (rw [h] at q; cases q)
theorem RelS.frzFree {o : Obj} {u : HO} (R : RelS K H S) (h : H a = some (.frz o u)) : S a = none := by
  cases e : S a with
  | none => rfl
  | some o => rcases R.some_h e with ⟨ws, q⟩ | ⟨C, dx, fs, q⟩ <;> (rw [h] at q; cases q)

theorem Step.refl : Step H S H S := fun _ _ h1 h2 => ⟨h1, h2⟩
theorem Step.trans (s1 : Step H S H' S') (s2 : Step H' S' H2 S2) : Step H S H2 S2 := fun b o h1 h2 =>
  let ⟨q1, q2⟩ := s1 b o h1 h2
  s2 b o q1 q2
theorem step_rdT (R : RelS K H S) (s : Step H S H' S') (h : Rd H a (.tup vs)) : Rd H' a (.tup vs) := by
  rcases h with h | ⟨o, h⟩
  · exact .inl (s a _ h (R.tupFree h)).1
  · exact .inr ⟨o, (s a _ h (R.frzFree h)).1⟩
theorem step_sqT (R : RelS K H S) (s : Step H S H' S') (h : SqT K H a vs) : SqT K H' a vs := by
  rcases h with h | h
  · exact .inl (step_rdT R s h)
  · exact .inr h
theorem step_rdL (s : Step H S H' S') (h : Rd H a (.lst vs)) (n : S a = none) : Rd H' a (.lst vs) ∧ S' a = none := by
  rcases h with h | ⟨o, h⟩
  · exact ⟨.inl (s a _ h n).1, (s a _ h n).2⟩
  · exact ⟨.inr ⟨o, (s a _ h n).1⟩, (s a _ h n).2⟩

mutual
theorem rp_step (R : RelS K H S) (s : Step H S H' S') : ∀ (d : D) (v : V), Rp K H S d v → Rp K H' S' d v
  | .non, v, h => h
  | .bl _, v, h => h
  | .int _, v, h => h
  | .str _, v, h => h
  | .tup ds, v, h => by
    obtain ⟨a, vs, e, q, r⟩ := h
    exact ⟨a, vs, e, step_sqT R s q, rpL_step R s ds vs r⟩
  | .lst ds, v, h => by
    obtain ⟨a, vs, e, q, r⟩ := h
    refine ⟨a, vs, e, ?_, rpL_step R s ds vs r⟩
    rcases q with ⟨q, n⟩ | q
    · exact .inl (step_rdL s q n)
    · exact .inr q
  | .inst C ns ds, v, h => by
    obtain ⟨a, dx, fs, e, q, n, hn, r⟩ := h
    exact ⟨a, dx, fs, e, (s a _ q n).1, (s a _ q n).2, hn, rpL_step R s ds _ r⟩
  | .obj _, v, h => h
  | .ty _, v, h => h
theorem rpL_step (R : RelS K H S) (s : Step H S H' S') : ∀ (ds : List D) (vs : List V), RpL K H S ds vs → RpL K H' S' ds vs
  | [], vs, h => h
  | d :: ds, vs, h => by
    obtain ⟨v, r, e, h1, h2⟩ := h
    exact ⟨v, r, e, rp_step R s d v h1, rpL_step R s ds r h2⟩
end

theorem rpL_nil : RpL K H S [] [] := rfl
theorem rpL_cons (h : Rp K H S d v) (r : RpL K H S ds vs) : RpL K H S (d :: ds) (v :: vs) := ⟨v, vs, rfl, h, r⟩
theorem rpL_len : ∀ {ds : List D} {vs : List V}, RpL K H S ds vs → ds.length = vs.length
  | [], vs, h => by
    have e : vs = [] := h
    rw [e]; rfl
  | d :: ds, vs, h => by
    obtain ⟨v, r, e, _, h2⟩ := h
    rw [e, List.length_cons, List.length_cons, rpL_len h2]
theorem rpL_get : ∀ {ds : List D} {vs : List V} {i : Nat} {d : D}, RpL K H S ds vs → ds[i]? = some d → ∃ v, vs[i]? = some v ∧ Rp K H S d v
  | [], _, i, d, _, e => by simp at e
  | d0 :: ds, vs, 0, d, h, e => by
    obtain ⟨v, r, e1, h1, h2⟩ := h
    simp at e
    subst e e1
    exact ⟨v, by simp, h1⟩
  | d0 :: ds, vs, i + 1, d, h, e => by
    obtain ⟨v, r, e1, h1, h2⟩ := h
    subst e1
    obtain ⟨w, q1, q2⟩ := rpL_get (i := i) h2 (by simpa using e)
    exact ⟨w, by simpa using q1, q2⟩
theorem rpL_app : ∀ {ds : List D} {vs : List V}, RpL K H S ds vs → RpL K H S es ws → RpL K H S (ds ++ es) (vs ++ ws)
  | [], vs, h, k => by
    have e : vs = [] := h
    subst e
    exact k
  | d :: ds, vs, h, k => by
    obtain ⟨v, r, e, h1, h2⟩ := h
    subst e
    exact ⟨v, r ++ ws, rfl, h1, rpL_app h2 k⟩
theorem rpL_take : ∀ {ds : List D} {vs : List V} (n : Nat), RpL K H S ds vs → RpL K H S (ds.take n) (vs.take n)
  | [], vs, n, h => by
    have e : vs = [] := h
    subst e
    simp [RpL]
  | d :: ds, vs, 0, h => by simp [RpL]
  | d :: ds, vs, n + 1, h => by
    obtain ⟨v, r, e, h1, h2⟩ := h
    subst e
    exact ⟨v, r.take n, rfl, h1, rpL_take n h2⟩
theorem rpL_drop : ∀ {ds : List D} {vs : List V} (n : Nat), RpL K H S ds vs → RpL K H S (ds.drop n) (vs.drop n)
  | [], vs, n, h => by
    have e : vs = [] := h
    subst e
    simp [RpL]
  | d :: ds, vs, 0, h => h
  | d :: ds, vs, n + 1, h => by
    obtain ⟨v, r, e, h1, h2⟩ := h
    subst e
    exact rpL_drop n h2
theorem rpL_set : ∀ {ds : List D} {vs : List V} (n : Nat), RpL K H S ds vs → Rp K H S d v → RpL K H S (ds.set n d) (vs.set n v)
  | [], vs, n, h, k => by
    have e : vs = [] := h
    subst e
    simp [RpL]
  | d0 :: ds, vs, 0, h, k => by
    obtain ⟨w, r, e, h1, h2⟩ := h
    subst e
    exact ⟨v, r, rfl, k, h2⟩
  | d0 :: ds, vs, n + 1, h, k => by
    obtain ⟨w, r, e, h1, h2⟩ := h
    subst e
    exact ⟨w, r.set n v, rfl, h1, rpL_set n h2 k⟩
theorem rpL_rev : ∀ {ds : List D} {vs : List V}, RpL K H S ds vs → RpL K H S ds.reverse vs.reverse
  | [], vs, h => by
    have e : vs = [] := h
    subst e
    simp [RpL]
  | d :: ds, vs, h => by
    obtain ⟨v, r, e, h1, h2⟩ := h
    subst e
    rw [List.reverse_cons, List.reverse_cons]
    exact rpL_app (rpL_rev h2) (rpL_cons h1 rpL_nil)

theorem soOk_step (R : RelS K H S) (s : Step H S H' S') {o : SO} (h : SoOk K H S a o) (k : ∀ u, H a = some u → H' a = some u) : SoOk K H' S' a o := by
  cases o with
  | lst ds => obtain ⟨vs, e, r⟩ := h; exact ⟨vs, k _ e, rpL_step R s _ _ r⟩
  | ins C ns ds => obtain ⟨dx, fs, e, n, r⟩ := h; exact ⟨dx, fs, k _ e, n, rpL_step R s _ _ r⟩

/-- a new object, not owned -/
theorem step_new {o : HO} (h : H p = none) : Step H S (upd H p o) S := fun b u h1 h2 => ⟨by rw [upd_ne (ne_of_none h1 h)]; exact h1, h2⟩
theorem rel_new {o : HO} (R : RelS K H S) (h : H p = none) : RelS K (upd H p o) S := fun b u e =>
  soOk_step R (step_new h) (R b u e) fun w hw => by rw [upd_ne (ne_of_none hw h)]; exact hw
/-- a new object, owned -/
theorem step_own {o : HO} {u : SO} (h : H p = none) : Step H S (upd H p o) (upS S p u) := fun b w h1 h2 => by
  have n := ne_of_none h1 h
  exact ⟨by rw [upd_ne n]; exact h1, by rw [upS_ne n]; exact h2⟩
theorem rel_own {o : HO} {u : SO} (R : RelS K H S) (h : H p = none) (k : SoOk K (upd H p o) (upS S p u) p u) : RelS K (upd H p o) (upS S p u) := fun b w e => by
  by_cases hb : b = p
  · subst hb
    rw [upS_same] at e
    cases e
    exact k
  · rw [upS_ne hb] at e
    exact soOk_step R (step_own h) (R b w e) fun x hx => by rw [upd_ne hb]; exact hx
/-- an owned object is changed -/
theorem step_set {o : HO} {u u0 : SO} (h : S a = some u0) : Step H S (upd H a o) (upS S a u) := fun b w h1 h2 => by
  have n : b ≠ a := fun e => by rw [e, h] at h2; cases h2
  exact ⟨by rw [upd_ne n]; exact h1, by rw [upS_ne n]; exact h2⟩
theorem rel_set {o : HO} {u u0 : SO} (R : RelS K H S) (h : S a = some u0) (k : SoOk K (upd H a o) (upS S a u) a u) : RelS K (upd H a o) (upS S a u) := fun b w e => by
  by_cases hb : b = a
  · subst hb
    rw [upS_same] at e
    cases e
    exact k
  · rw [upS_ne hb] at e
    exact soOk_step R (step_set h) (R b w e) fun x hx => by rw [upd_ne hb]; exact hx
/-- an owned object is let go -/
theorem step_del : Step H S H (del S a) := fun b w h1 h2 => ⟨h1, by
  by_cases e : b = a
  · rw [e]; exact del_same
  · rw [del_ne e]; exact h2⟩
theorem rel_del (R : RelS K H S) : RelS K H (del S a) := fun b w e => by
  by_cases hb : b = a
  · rw [hb, del_same] at e; cases e
  · rw [del_ne hb] at e
    exact soOk_step R step_del (R b w e) fun x hx => hx
theorem rp_frozen (R : RelS K H S) (h : S a = some (.lst ds)) : Rp K H (del S a) (.lst ds) (.ref a) := by
  obtain ⟨vs, e, r⟩ := R a _ h
  exact ⟨a, vs, rfl, .inl ⟨.inl e, del_same⟩, rpL_step R step_del _ _ r⟩
theorem rp_frozenI {C : Addr} {ns : List Str} (R : RelS K H S) (h : S a = some (.ins C ns ds)) : Rp K H (del S a) (.inst C ns ds) (.ref a) := by
  obtain ⟨dx, fs, e, n, r⟩ := R a _ h
  exact ⟨a, dx, fs, rfl, e, del_same, n, rpL_step R step_del _ _ r⟩
end

/-! ### the state by values -/
abbrev Si := List (Option D)
abbrev DK := D → Sd → Prop
abbrev TED := Si → Sd → DK → Prop
abbrev TTD := Si → Sd → (Bool → Sd → Prop) → Prop
abbrev TAD := Si → Sd → (List D → Sd → Prop) → Prop
structure EndsD where
  nx : Si → Sd → Prop
  rt : DK
  bk : Si → Sd → Prop := fun _ _ => False
  ct : Si → Sd → Prop := fun _ _ => False
abbrev TSD := EndsD → Si → Sd → Prop
/-- an exception by values: its class, its own fields -/
structure Xd where
  cls : Value
  ns : List Str
  xs : List D
abbrev XKD := Xd → Sd → Prop
abbrev WXD := Xd → Si → Sd → Prop

structure Ok (K : PySem.W.Frag) (H : Hp) (S : Sd) (fr : List (V × D)) (σd : Si) (σ : L2.St) : Prop where
  rel : RelS K H S
  fr : ∀ p ∈ fr, Rp K H S p.2 p.1
  len : σd.length = σ.length
  si : ∀ (i : Nat) (d : D), σd[i]? = some (some d) → ∃ v, σ[i]? = some (some v) ∧ Rp K H S d v
/-- the exception's object: its own dict bears its fields -/
def RpX (K : PySem.W.Frag) (H : Hp) (S : Sd) (x : Xd) (cls : Value) (od : Option Addr) : Prop :=
  cls = x.cls ∧ (x.ns = [] ∨ ∃ d fs, od = some d ∧ H d = some (.xd fs) ∧ fs.map Prod.fst = x.ns ∧ RpL K H S x.xs (fs.map Prod.snd))
/-- what is wished of exceptions: by the heap, by values -/
structure Wi where
  V : L2.WX
  D : WXD
abbrev W0 : Wi := ⟨fun _ _ _ _ => False, fun _ _ _ => False⟩
def Cl (K : PySem.W.Frag) (W : Wi) (fr : List (V × D)) : Prop := ∀ σd σ H S cls od x, Ok K H S fr σd σ → RpX K H S x cls od → W.D x σd S → W.V cls od σ H
theorem Cl.zero {K : PySem.W.Frag} {fr : List (V × D)} : Cl K W0 fr := fun _ _ _ _ _ _ _ _ _ h => h

section
variable {K : PySem.W.Frag} {H H' : Hp} {S S' : Sd} {fr : List (V × D)} {σd : Si} {σ : L2.St} {d : D} {v : V} {W : Wi}
theorem Ok.step (o : Ok K H S fr σd σ) (s : Step H S H' S') (r : RelS K H' S') : Ok K H' S' fr σd σ :=
  ⟨r, fun p hp => rp_step o.rel s _ _ (o.fr p hp), o.len, fun i d e => let ⟨v, h1, h2⟩ := o.si i d e; ⟨v, h1, rp_step o.rel s _ _ h2⟩⟩
theorem Ok.cons (o : Ok K H S fr σd σ) (h : Rp K H S d v) : Ok K H S ((v, d) :: fr) σd σ :=
  ⟨o.rel, fun p hp => by
    rcases List.mem_cons.mp hp with e | hp
    · rw [e]; exact h
    · exact o.fr p hp, o.len, o.si⟩
theorem Ok.tail {q : V × D} (o : Ok K H S (q :: fr) σd σ) : Ok K H S fr σd σ := ⟨o.rel, fun p hp => o.fr p (List.mem_cons_of_mem _ hp), o.len, o.si⟩
theorem Ok.head {q : V × D} (o : Ok K H S (q :: fr) σd σ) : Rp K H S q.2 q.1 := o.fr q List.mem_cons_self
theorem Ok.set (o : Ok K H S fr σd σ) (h : Rp K H S d v) (i : Nat) : Ok K H S fr (σd.set i (some d)) (σ.set i (some v)) := by
  refine ⟨o.rel, o.fr, by rw [List.length_set, List.length_set]; exact o.len, fun j e q => ?_⟩
  by_cases hj : i = j
  · subst hj
    have hl : i < σd.length := by
      rcases Nat.lt_or_ge i σd.length with z | z
      · exact z
      · have w : (σd.set i (some d))[i]? = none := List.getElem?_eq_none (by rw [List.length_set]; exact z)
        rw [w] at q; cases q
    rw [List.getElem?_set_self hl] at q
    cases q
    exact ⟨v, List.getElem?_set_self (by rw [← o.len]; exact hl), h⟩
  · rw [List.getElem?_set_ne hj] at q
    obtain ⟨w, h1, h2⟩ := o.si j e q
    exact ⟨w, by rw [List.getElem?_set_ne hj]; exact h1, h2⟩
theorem Ok.gone (o : Ok K H S fr σd σ) (i : Nat) (w : Option V) : Ok K H S fr (σd.set i none) (σ.set i w) := by
  refine ⟨o.rel, o.fr, by rw [List.length_set, List.length_set]; exact o.len, fun j e q => ?_⟩
  by_cases hj : i = j
  · subst hj
    rcases Nat.lt_or_ge i σd.length with z | z
    · rw [List.getElem?_set_self z] at q; cases q
    · have w : (σd.set i none)[i]? = none := List.getElem?_eq_none (by rw [List.length_set]; exact z)
      rw [w] at q; cases q
  · rw [List.getElem?_set_ne hj] at q
    obtain ⟨w, h1, h2⟩ := o.si j e q
    exact ⟨w, by rw [List.getElem?_set_ne hj]; exact h1, h2⟩
theorem Cl.tail {q : V × D} (c : Cl K W fr) : Cl K W (q :: fr) := fun σd σ H S cls od x o => c σd σ H S cls od x o.tail

/-! ### readings by values, lifted -/
def upE (K : PySem.W.Frag) (W : Wi) (t : TED) : TE := fun σ H Qv => ∃ σd S fr Qd, Ok K H S fr σd σ ∧ Cl K W fr ∧ t σd S Qd ∧ ∀ v d H' S', Ok K H' S' fr σd σ → Rp K H' S' d v → Qd d S' → Qv v H'
def upT (K : PySem.W.Frag) (W : Wi) (t : TTD) : TT := fun σ H Qv => ∃ σd S fr Qd, Ok K H S fr σd σ ∧ Cl K W fr ∧ t σd S Qd ∧ ∀ b H' S', Ok K H' S' fr σd σ → Qd b S' → Qv b H'
def upA (K : PySem.W.Frag) (W : Wi) (t : TAD) : TA := fun σ H Qv => ∃ σd S fr Qd, Ok K H S fr σd σ ∧ Cl K W fr ∧ t σd S Qd ∧ ∀ vs ds H' S', Ok K H' S' fr σd σ → RpL K H' S' ds vs → Qd ds S' → Qv vs H'
structure EndOk (K : PySem.W.Frag) (fr : List (V × D)) (Dd : EndsD) (D : Ends) : Prop where
  nx : ∀ σd σ H S, Ok K H S fr σd σ → Dd.nx σd S → D.nx σ H
  rt : ∀ v d σd σ H S, Ok K H S fr σd σ → Rp K H S d v → Dd.rt d S → D.rt v H
  bk : ∀ σd σ H S, Ok K H S fr σd σ → Dd.bk σd S → D.bk σ H
  ct : ∀ σd σ H S, Ok K H S fr σd σ → Dd.ct σd S → D.ct σ H
def upSt (K : PySem.W.Frag) (W : Wi) (t : TSD) : TS := fun D σ H => ∃ σd S fr Dd, Ok K H S fr σd σ ∧ Cl K W fr ∧ t Dd σd S ∧ EndOk K fr Dd D
end

theorem PE.imp {X : Cx} {e : Expr} {t t' : TE} (h : PE X e t) (k : ∀ σ H Q, t' σ H Q → t σ H Q) : PE X e t' := ⟨fun pins s σ H Q I q => h.run pins s σ H Q I (k _ _ _ q)⟩
theorem PT.imp {X : Cx} {e : Expr} {t t' : TT} (h : PT X e t) (k : ∀ σ H Q, t' σ H Q → t σ H Q) : PT X e t' := ⟨fun pins s σ H Q I q => h.run pins s σ H Q I (k _ _ _ q)⟩
theorem PW.imp {X : Cx} {e : Expr} {t t' : TT} (h : PW X e t) (k : ∀ σ H Q, t' σ H Q → t σ H Q) : PW X e t' := ⟨fun wh pins s σ H Q I q => h.run wh pins s σ H Q I (k _ _ _ q)⟩
theorem PA.imp {X : Cx} {e : List Expr} {t t' : TA} (h : PA X e t) (k : ∀ σ H Q, t' σ H Q → t σ H Q) : PA X e t' := ⟨fun pos pins s σ H Q I q => h.run pos pins s σ H Q I (k _ _ _ q)⟩
theorem PS.imp {X : Cx} {e : Stmt} {t t' : TS} (h : PS X e t) (k : ∀ D σ H, t' D σ H → t D σ H) : PS X e t' := ⟨fun pins s σ H D I q => h.run pins s σ H D I (k _ _ _ q)⟩
theorem PSs.imp {X : Cx} {e : List Stmt} {t t' : TS} (h : PSs X e t) (k : ∀ D σ H, t' D σ H → t D σ H) : PSs X e t' := ⟨fun pins s σ H D I q => h.run pins s σ H D I (k _ _ _ q)⟩

structure DE (X : Cx) (W : Wi) (e : Expr) (t : TED) : Prop where
  p : PE X e (upE X.K W t)
structure DT (X : Cx) (W : Wi) (e : Expr) (t : TTD) : Prop where
  p : PT X e (upT X.K W t)
structure DW (X : Cx) (W : Wi) (e : Expr) (t : TTD) : Prop where
  p : PW X e (upT X.K W t)
structure DA (X : Cx) (W : Wi) (es : List Expr) (t : TAD) : Prop where
  p : PA X es (upA X.K W t)
structure DS (X : Cx) (W : Wi) (s : Stmt) (t : TSD) : Prop where
  p : PS X s (upSt X.K W t)
structure DB (X : Cx) (W : Wi) (s : List Stmt) (t : TSD) : Prop where
  p : PSs X s (upSt X.K W t)
end Dv

/-! Readings by value, 1: expressions, tests, operators, displays, subscripts. -/
namespace Dv
open PySem L2 PyProof.Rows

theorem sl_eq : sizeLine = 16777216 := sizeLine_eq
theorem sz_le {n : Nat} (h : n ≤ 16777216) : n ≤ sizeLine := by rw [sl_eq]; exact h
theorem sz_lt' {n : Nat} (h : n < 16777216) : n < sizeLine := by rw [sl_eq]; exact h

section
variable {X : Cx} {W : Wi} {a b c e : Expr} {ta tb tc : TED} {tA tB : TTD} {pos : Pos} {es : List Expr}

/-! ### names, constants -/
def dVar (i : Nat) : TED := fun σ S Q => match σ[i]? with
  | some (some d) => Q d S
  | _ => False
theorem dVar_of {i : Nat} {σ : Si} {S : Sd} {Q : DK} {d : D} (h : σ[i]? = some (some d)) : dVar i σ S Q = Q d S := by unfold dVar; rw [h]
theorem dVar_inv {i : Nat} {σ : Si} {S : Sd} {Q : DK} (h : dVar i σ S Q) : ∃ d, σ[i]? = some (some d) ∧ Q d S := by
  unfold dVar at h
  split at h
  · exact ⟨_, by assumption, h⟩
  · exact h.elim
theorem dv (i : Nat) {x : Str} {pos : Pos} (hN : X.N[i]? = some x := by rfl) (hv : Vis X.env.scope x := by first | exact Or.inl rfl | exact Or.inr (Or.inl rfl) | exact Or.inr (Or.inr rfl)) (hd : (x == ("__debug__" : Str)) = false := by decide)
    (hcd : (x == ("__classdict__" : Str)) = false := by decide) : DE X W (.Name x pos) (dVar i) :=
  ⟨PE.imp (pe_var hN hv hd hcd) fun σ H Q ⟨σd, S, fr, Qd, ok, cl, h, k⟩ => by
    obtain ⟨d, e, q⟩ := dVar_inv h
    obtain ⟨v, e2, r⟩ := ok.si i d e
    exact ⟨v, e2, k v d H S ok r q⟩⟩
def dC (d : D) : TED := fun _ S Q => Q d S
theorem de_c {v : V} {d : D} (h : PE X e (tC v)) (r : ∀ H S, Rp X.K H S d v) : DE X W e (dC d) :=
  ⟨PE.imp h fun σ H Q ⟨σd, S, fr, Qd, ok, cl, q, k⟩ => k v d H S ok (r H S) q⟩
theorem de_int {i j pos} : DE X W (.Constant (.int i) j pos) (dC (.int i)) := de_c pe_int fun _ _ => rfl
theorem de_bl {i j pos} : DE X W (.Constant (.bool i) j pos) (dC (.bl i)) := de_c pe_bl fun _ _ => rfl
theorem de_non {j pos} : DE X W (.Constant .none j pos) (dC .non) := de_c pe_non fun _ _ => rfl
theorem de_str {x j pos} : DE X W (.Constant (.str x) j pos) (dC (.str x)) := de_c pe_str fun _ _ => rfl
/-- a module's constant -/
theorem de_k {x : Str} {v : V} {d : D} {u : Value} {pos : Pos} (hg : Gl X x) (hm : X.mg x = some u) (r : RelV v u) (kr : ∀ H S, Rp X.K H S d v) (hd : (x == ("__debug__" : Str)) = false := by decide) : DE X W (.Name x pos) (dC d) := de_c (pe_glob hg hm r hd) kr
/-- a built-in class as a value -/
theorem de_ty {x : Str} {n : String} {pos : Pos} (hg : Gl X x) (hm : X.mg x = none) (hv : bootBuiltins x = some (.type n)) (hn : x ≠ "__name__" := by decide) (hd : (x == ("__debug__" : Str)) = false := by decide) : DE X W (.Name x pos) (dC (.ty n)) :=
  de_c (pe_bltn (v := .ty n) hg hm hv rfl hn hd) fun _ _ => rfl

/-! ### operators -/
abbrev RD2 := D → D → Sd → DK → Prop
def Lift2 (K : PySem.W.Frag) (r : R2) (rd : RD2) : Prop := ∀ H S fr σd σ x y dx dy Qv Qd, Ok K H S fr σd σ → Rp K H S dx x → Rp K H S dy y → rd dx dy S Qd →
  (∀ v d H' S', Ok K H' S' fr σd σ → Rp K H' S' d v → Qd d S' → Qv v H') → r x y H Qv
def OpD (X : Cx) (f : Value → Value → Sem Value) (rd : RD2) : Prop := ∃ r : R2, OpR X f r ∧ Lift2 X.K r rd
def dOp (rd : RD2) (ta tb : TED) : TED := fun σ S Q => ta σ S fun x S1 => tb σ S1 fun y S2 => rd x y S2 Q
theorem op2_lift {r : R2} {rd : RD2} (l : Lift2 X.K r rd) (σ : L2.St) (H : Hp) (Q : VK) (h : upE X.K W (dOp rd ta tb) σ H Q) : tOp r (upE X.K W ta) (upE X.K W tb) σ H Q := by
  obtain ⟨σd, S, fr, Qd, ok, cl, h, k⟩ := h
  refine ⟨σd, S, fr, _, ok, cl, h, fun x dx H1 S1 ok1 r1 h1 => ?_⟩
  refine ⟨σd, S1, (x, dx) :: fr, _, ok1.cons r1, cl.tail, h1, fun y dy H2 S2 ok2 r2 h2 => ?_⟩
  exact l H2 S2 fr σd σ x y dx dy Q Qd ok2.tail ok2.head r2 h2 k
theorem de_op {op : Operator} {rd : RD2} (ho : OpD X (binaryOp op) rd) (ha : DE X W a ta) (hb : DE X W b tb) : DE X W (.BinOp a op b pos) (dOp rd ta tb) := by
  obtain ⟨r, ho, l⟩ := ho
  exact ⟨PE.imp (pe_op ho ha.p hb.p) (op2_lift l)⟩
theorem de_cmp {op : CmpOp} {rd : RD2} (ho : OpD X (compareOp op) rd) (ha : DE X W a ta) (hb : DE X W b tb) (hm : behindInMarks op b = false) : DE X W (.Compare a [op] [b] pos) (dOp rd ta tb) := by
  obtain ⟨r, ho, l⟩ := ho
  exact ⟨PE.imp (pe_cmpR ho ha.p hb.p hm) (op2_lift l)⟩
/-- a value that is a truth, as a test -/
def dTest (t : TED) : TTD := fun σ S Q => t σ S fun x S1 => match x with
  | .bl k => Q k S1
  | _ => False
theorem test_lift {t : TED} (σ : L2.St) (H : Hp) (Q : Bool → Hp → Prop) (h : upT X.K W (dTest t) σ H Q) : tTest (upE X.K W t) σ H Q := by
  obtain ⟨σd, S, fr, Qd, ok, cl, h, k⟩ := h
  refine ⟨σd, S, fr, _, ok, cl, h, fun x dx H1 S1 ok1 r1 h1 => ?_⟩
  cases dx with
  | bl b => exact ⟨b, r1, k b H1 S1 ok1 h1⟩
  | _ => exact (show False from h1).elim
theorem tTest_mono {t t' : TE} (h : ∀ σ H Q, t' σ H Q → t σ H Q) (σ : L2.St) (H : Hp) (Q : Bool → Hp → Prop) (q : tTest t' σ H Q) : tTest t σ H Q := h σ H _ q
theorem dt_cmp {op : CmpOp} {rd : RD2} (ho : OpD X (compareOp op) rd) (ha : DE X W a ta) (hb : DE X W b tb) (hm : behindInMarks op b = false) : DT X W (.Compare a [op] [b] pos) (dTest (dOp rd ta tb)) := by
  obtain ⟨r, ho, l⟩ := ho
  exact ⟨PT.imp (pt_cmpR ho ha.p hb.p hm) fun σ H Q h => tTest_mono (op2_lift l) σ H Q (test_lift σ H Q h)⟩
/-- an expression whose value is a truth, as a test -/
theorem dt_val {t : TED} (h : DE X W e t) (he : ∀ whole, isTrue e X.env whole = (do let v ← whole; standAt e.pos; holding [v] (truthy v)) := by intro _; rfl) : DT X W e (dTest t) :=
  ⟨PT.imp (pt_val h.p he) fun σ H Q q => test_lift σ H Q q⟩
def dUn (rd : D → Sd → DK → Prop) (ta : TED) : TED := fun σ S Q => ta σ S fun x S1 => rd x S1 Q
def Lift1 (K : PySem.W.Frag) (r : V → Hp → VK → Prop) (rd : D → Sd → DK → Prop) : Prop := ∀ H S fr σd σ x dx Qv Qd, Ok K H S fr σd σ → Rp K H S dx x → rd dx S Qd →
  (∀ v d H' S', Ok K H' S' fr σd σ → Rp K H' S' d v → Qd d S' → Qv v H') → r x H Qv
theorem de_un {op : UnaryOp} {r : V → Hp → VK → Prop} {rd : D → Sd → DK → Prop} (ho : UnR X (unaryOp op) r) (l : Lift1 X.K r rd) (ha : DE X W a ta) : DE X W (.UnaryOp op a pos) (dUn rd ta) :=
  ⟨PE.imp (pe_un ho ha.p) fun σ H Q ⟨σd, S, fr, Qd, ok, cl, h, k⟩ => ⟨σd, S, fr, _, ok, cl, h, fun x dx H1 S1 ok1 r1 h1 => l H1 S1 fr σd σ x dx Q Qd ok1 r1 h1 k⟩⟩
def rdNeg : D → Sd → DK → Prop
  | .int i, S, Q => Q (.int (-i)) S
  | _, _, _ => False
theorem de_neg (ha : DE X W a ta) : DE X W (.UnaryOp .USub a pos) (dUn rdNeg ta) := de_un un_neg (fun H S fr σd σ x dx Qv Qd ok r h k => by
  cases dx with
  | int i => exact ⟨i, r, k _ (.int (-i)) H S ok rfl h⟩
  | _ => exact (show False from h).elim) ha

/-! ### and, or, not -/
def dAndV (ta tb : TED) : TED := fun σ S Q => ta σ S fun x S1 => match x with
  | .bl k => if k = true then tb σ S1 Q else Q (.bl false) S1
  | _ => False
def dOrV (ta tb : TED) : TED := fun σ S Q => ta σ S fun x S1 => match x with
  | .bl k => if k = true then Q (.bl true) S1 else tb σ S1 Q
  | _ => False
def dNotV (ta : TED) : TED := fun σ S Q => ta σ S fun x S1 => match x with
  | .bl k => Q (.bl (!k)) S1
  | _ => False
theorem de_one {op : BoolOp} (h : DE X W a ta) : DE X W (.BoolOp op [a] pos) ta := ⟨pe_one h.p⟩
theorem de_and {rest : List Expr} (ha : DE X W a ta) (hb : DE X W (.BoolOp .And (b :: rest) pos) tb) : DE X W (.BoolOp .And (a :: b :: rest) pos) (dAndV ta tb) :=
  ⟨PE.imp (pe_and ha.p hb.p) fun σ H Q ⟨σd, S, fr, Qd, ok, cl, h, k⟩ => ⟨σd, S, fr, _, ok, cl, h, fun x dx H1 S1 ok1 r1 h1 => by
    cases dx with
    | bl b =>
      refine ⟨b, r1, ?_⟩
      cases b with
      | true => exact (if_pos rfl : _ = _) ▸ ⟨σd, S1, fr, Qd, ok1, cl, (show tb σd S1 Qd from by simpa using h1), k⟩
      | false => exact (show Q (.bl false) H1 from k _ (.bl false) H1 S1 ok1 rfl (by simpa using h1))
    | _ => exact (show False from h1).elim⟩⟩
theorem de_or {rest : List Expr} (ha : DE X W a ta) (hb : DE X W (.BoolOp .Or (b :: rest) pos) tb) : DE X W (.BoolOp .Or (a :: b :: rest) pos) (dOrV ta tb) :=
  ⟨PE.imp (pe_or ha.p hb.p) fun σ H Q ⟨σd, S, fr, Qd, ok, cl, h, k⟩ => ⟨σd, S, fr, _, ok, cl, h, fun x dx H1 S1 ok1 r1 h1 => by
    cases dx with
    | bl b =>
      refine ⟨b, r1, ?_⟩
      cases b with
      | true => exact (show Q (.bl true) H1 from k _ (.bl true) H1 S1 ok1 rfl (by simpa using h1))
      | false => exact (show upE X.K W tb σ H1 Q from ⟨σd, S1, fr, Qd, ok1, cl, (show tb σd S1 Qd from by simpa using h1), k⟩)
    | _ => exact (show False from h1).elim⟩⟩
theorem de_not (ha : DE X W a ta) : DE X W (.UnaryOp .Not a pos) (dNotV ta) :=
  ⟨PE.imp (pe_not ha.p) fun σ H Q ⟨σd, S, fr, Qd, ok, cl, h, k⟩ => ⟨σd, S, fr, _, ok, cl, h, fun x dx H1 S1 ok1 r1 h1 => by
    cases dx with
    | bl b => exact ⟨b, r1, k _ (.bl (!b)) H1 S1 ok1 rfl h1⟩
    | _ => exact (show False from h1).elim⟩⟩
def dAnd (t u : TTD) : TTD := fun σ S Q => t σ S fun k S1 => if k = true then u σ S1 Q else Q false S1
def dOr (t u : TTD) : TTD := fun σ S Q => t σ S fun k S1 => if k = true then Q true S1 else u σ S1 Q
def dNot (t : TTD) : TTD := fun σ S Q => t σ S fun k S1 => Q (!k) S1
theorem DW.pt (h : DW X W e tA) : DT X W e tA := ⟨h.p.pt⟩
theorem dw_and1 (ha : DT X W a tA) : DW X W (.BoolOp .And [a] pos) tA := ⟨pw_and1 ha.p⟩
theorem dw_or1 (ha : DT X W a tA) : DW X W (.BoolOp .Or [a] pos) tA := ⟨pw_or1 ha.p⟩
theorem dw_and {rest : List Expr} (ha : DT X W a tA) (hb : DW X W (.BoolOp .And (b :: rest) pos) tB) : DW X W (.BoolOp .And (a :: b :: rest) pos) (dAnd tA tB) :=
  ⟨PW.imp (pw_and ha.p hb.p) fun σ H Q ⟨σd, S, fr, Qd, ok, cl, h, k⟩ => ⟨σd, S, fr, _, ok, cl, h, fun c H1 S1 ok1 h1 => by
    cases c with
    | true => exact (show upT X.K W tB σ H1 Q from ⟨σd, S1, fr, Qd, ok1, cl, (show tB σd S1 Qd from by simpa using h1), k⟩)
    | false => exact (show Q false H1 from k false H1 S1 ok1 (by simpa using h1))⟩⟩
theorem dw_or {rest : List Expr} (ha : DT X W a tA) (hb : DW X W (.BoolOp .Or (b :: rest) pos) tB) : DW X W (.BoolOp .Or (a :: b :: rest) pos) (dOr tA tB) :=
  ⟨PW.imp (pw_or ha.p hb.p) fun σ H Q ⟨σd, S, fr, Qd, ok, cl, h, k⟩ => ⟨σd, S, fr, _, ok, cl, h, fun c H1 S1 ok1 h1 => by
    cases c with
    | false => exact (show upT X.K W tB σ H1 Q from ⟨σd, S1, fr, Qd, ok1, cl, (show tB σd S1 Qd from by simpa using h1), k⟩)
    | true => exact (show Q true H1 from k true H1 S1 ok1 (by simpa using h1))⟩⟩
theorem dt_not (ha : DT X W a tA) : DT X W (.UnaryOp .Not a pos) (dNot tA) :=
  ⟨PT.imp (pt_not ha.p) fun σ H Q ⟨σd, S, fr, Qd, ok, cl, h, k⟩ => ⟨σd, S, fr, _, ok, cl, h, fun c H1 S1 ok1 h1 => k (!c) H1 S1 ok1 h1⟩⟩
def dIf (t : TTD) (ta tb : TED) : TED := fun σ S Q => t σ S fun k S1 => if k = true then ta σ S1 Q else tb σ S1 Q
theorem de_if (hc : DT X W c tA) (ha : DE X W a ta) (hb : DE X W b tb) : DE X W (.IfExp c a b pos) (dIf tA ta tb) :=
  ⟨PE.imp (pe_ifExp hc.p ha.p hb.p) fun σ H Q ⟨σd, S, fr, Qd, ok, cl, h, k⟩ => ⟨σd, S, fr, _, ok, cl, h, fun c H1 S1 ok1 h1 => by
    cases c with
    | true => exact (show upE X.K W ta σ H1 Q from ⟨σd, S1, fr, Qd, ok1, cl, (show ta σd S1 Qd from by simpa using h1), k⟩)
    | false => exact (show upE X.K W tb σ H1 Q from ⟨σd, S1, fr, Qd, ok1, cl, (show tb σd S1 Qd from by simpa using h1), k⟩)⟩⟩

/-! ### arguments, displays -/
def dNil : TAD := fun _ S Q => Q [] S
def dCons (ta : TED) (tr : TAD) : TAD := fun σ S Q => ta σ S fun x S1 => tr σ S1 fun xs S2 => Q (x :: xs) S2
theorem da_nil : DA X W [] dNil := ⟨PA.imp pa_nil fun σ H Q ⟨σd, S, fr, Qd, ok, cl, h, k⟩ => k [] [] H S ok rfl h⟩
theorem da_cons {tr : TAD} (ha : DE X W a ta) (hr : DA X W es tr) (hs : starEach (a :: es) X.env = (false, eval a X.env) :: starEach es X.env := by rfl) : DA X W (a :: es) (dCons ta tr) :=
  ⟨PA.imp (pa_cons ha.p hr.p hs) fun σ H Q ⟨σd, S, fr, Qd, ok, cl, h, k⟩ => ⟨σd, S, fr, _, ok, cl, h, fun x dx H1 S1 ok1 r1 h1 =>
    ⟨σd, S1, (x, dx) :: fr, _, ok1.cons r1, cl.tail, h1, fun vs ds H2 S2 ok2 r2 h2 => k (x :: vs) (dx :: ds) H2 S2 ok2.tail (rpL_cons ok2.head r2) h2⟩⟩⟩
def dTup (t : TAD) : TED := fun σ S Q => t σ S fun ds S1 => ds.length ≤ 16777216 ∧ Q (.tup ds) S1
def dLst (t : TAD) : TED := fun σ S Q => t σ S fun ds S1 => ds.length ≤ 16777216 ∧ Q (.lst ds) S1
/-- an owned list -/
def dLstO (t : TAD) : TED := fun σ S Q => t σ S fun ds S1 => ds.length ≤ 16777216 ∧ ∀ p, S1 p = none → Q (.obj p) (upS S1 p (.lst ds))
theorem rp_tupNew {K : PySem.W.Frag} {H : Hp} {S : Sd} {p : Addr} {vs : List V} {ds : List D} (R : RelS K H S) (hp : H p = none) (r : RpL K H S ds vs) : Rp K (upd H p (.tup vs)) S (.tup ds) (.ref p) :=
  ⟨p, vs, rfl, SqT.of upd_same, rpL_step R (step_new hp) _ _ r⟩
theorem rp_lstNew {K : PySem.W.Frag} {H : Hp} {S : Sd} {p : Addr} {vs : List V} {ds : List D} (R : RelS K H S) (hp : H p = none) (r : RpL K H S ds vs) : Rp K (upd H p (.lst vs)) S (.lst ds) (.ref p) :=
  ⟨p, vs, rfl, .inl ⟨.inl upd_same, R.free hp⟩, rpL_step R (step_new hp) _ _ r⟩
theorem Ok.new {K : PySem.W.Frag} {H : Hp} {S : Sd} {fr : List (V × D)} {σd : Si} {σ : L2.St} {p : Addr} {o : HO} (ok : Ok K H S fr σd σ) (hp : H p = none) : Ok K (upd H p o) S fr σd σ := ok.step (step_new hp) (rel_new ok.rel hp)
theorem soOk_new {K : PySem.W.Frag} {H : Hp} {S : Sd} {p : Addr} {vs : List V} {ds : List D} (R : RelS K H S) (hp : H p = none) (r : RpL K H S ds vs) : SoOk K (upd H p (.lst vs)) (upS S p (.lst ds)) p (.lst ds) :=
  ⟨vs, upd_same, rpL_step R (step_own hp) _ _ r⟩
theorem Ok.own {K : PySem.W.Frag} {H : Hp} {S : Sd} {fr : List (V × D)} {σd : Si} {σ : L2.St} {p : Addr} {vs : List V} {ds : List D} (ok : Ok K H S fr σd σ) (hp : H p = none) (r : RpL K H S ds vs) :
    Ok K (upd H p (.lst vs)) (upS S p (.lst ds)) fr σd σ := ok.step (step_own hp) (rel_own ok.rel hp (soOk_new ok.rel hp r))
theorem de_tup {x1 : Nat} {t : TAD} (h : DA X W es t) : DE X W (.Tuple es x1 pos) (dTup t) :=
  ⟨PE.imp (pe_tup h.p) fun σ H Q ⟨σd, S, fr, Qd, ok, cl, h, k⟩ => ⟨σd, S, fr, _, ok, cl, h, fun vs ds H1 S1 ok1 r1 h1 => ⟨sz_le (by rw [← rpL_len r1]; exact h1.1), fun p hp =>
    k (.ref p) (.tup ds) _ S1 (ok1.new hp) (rp_tupNew ok1.rel hp r1) h1.2⟩⟩⟩
theorem de_lst {t : TAD} (h : DA X W es t) : DE X W (.List es pos) (dLst t) :=
  ⟨PE.imp (pe_lst h.p) fun σ H Q ⟨σd, S, fr, Qd, ok, cl, h, k⟩ => ⟨σd, S, fr, _, ok, cl, h, fun vs ds H1 S1 ok1 r1 h1 => ⟨sz_le (by rw [← rpL_len r1]; exact h1.1), fun p hp =>
    k (.ref p) (.lst ds) _ S1 (ok1.new hp) (rp_lstNew ok1.rel hp r1) h1.2⟩⟩⟩
theorem de_lstO {t : TAD} (h : DA X W es t) : DE X W (.List es pos) (dLstO t) :=
  ⟨PE.imp (pe_lst h.p) fun σ H Q ⟨σd, S, fr, Qd, ok, cl, h, k⟩ => ⟨σd, S, fr, _, ok, cl, h, fun vs ds H1 S1 ok1 r1 h1 => ⟨sz_le (by rw [← rpL_len r1]; exact h1.1), fun p hp =>
    k (.ref p) (.obj p) _ (upS S1 p (.lst ds)) (ok1.own hp r1) rfl (h1.2 p (ok1.rel.free hp))⟩⟩⟩
end

/-! ### the arithmetic operators -/
/-- the items of a sequence -/
def itemsD (S : Sd) : D → Option (List D)
  | .tup ds => some ds
  | .lst ds => some ds
  | .obj a => match S a with
    | some (.lst ds) => some ds
    | _ => none
  | _ => none
section
variable {K : PySem.W.Frag} {H : Hp} {S : Sd} {fr : List (V × D)} {σd : Si} {σ : L2.St} {d : D} {v : V} {ds : List D}
/-- a list's items by the heap -/
theorem rp_list (R : RelS K H S) (h : Rp K H S (.lst ds) v) : ∃ a vs, v = .ref a ∧ SqL K H a vs ∧ RpL K H S ds vs := by
  obtain ⟨a, vs, e, q, r⟩ := h
  refine ⟨a, vs, e, ?_, r⟩
  rcases q with ⟨q, _⟩ | q
  · exact .inl q
  · exact .inr q
theorem rp_obj (R : RelS K H S) {a : Addr} (e : S a = some (.lst ds)) : ∃ vs, H a = some (.lst vs) ∧ RpL K H S ds vs := R a _ e
theorem rp_items (R : RelS K H S) (h : Rp K H S d v) (e : itemsD S d = some ds) : ∃ a vs, v = .ref a ∧ (SqL K H a vs ∨ SqT K H a vs) ∧ RpL K H S ds vs := by
  cases d with
  | tup xs =>
    cases e
    obtain ⟨a, vs, e, q, r⟩ := h
    exact ⟨a, vs, e, .inr q, r⟩
  | lst xs =>
    cases e
    obtain ⟨a, vs, e, q, r⟩ := rp_list R h
    exact ⟨a, vs, e, .inl q, r⟩
  | obj a =>
    have e' : (match S a with | some (.lst ds) => some ds | _ => none) = some ds := e
    split at e'
    · rename_i xs q
      cases e'
      obtain ⟨vs, q1, q2⟩ := rp_obj R q
      exact ⟨a, vs, h, .inl (.inl (.inl q1)), q2⟩
    · cases e'
  | _ => cases e
end

/-- the items of a list -/
def lstD (S : Sd) : D → Option (List D)
  | .lst ds => some ds
  | .obj a => match S a with
    | some (.lst ds) => some ds
    | _ => none
  | _ => none
theorem rp_lstD {K : PySem.W.Frag} {H : Hp} {S : Sd} {d : D} {v : V} {ds : List D} (R : RelS K H S) (h : Rp K H S d v) (e : lstD S d = some ds) : ∃ a vs, v = .ref a ∧ SqL K H a vs ∧ RpL K H S ds vs := by
  cases d with
  | lst xs =>
    cases e
    exact rp_list R h
  | obj a =>
    have e' : (match S a with | some (.lst ds) => some ds | _ => none) = some ds := e
    split at e'
    · rename_i xs q
      cases e'
      obtain ⟨vs, q1, q2⟩ := rp_obj R q
      exact ⟨a, vs, h, .inl (.inl q1), q2⟩
    · cases e'
  | _ => cases e
def catD (Q : DK) (S : Sd) : Option (List D) → Option (List D) → Prop
  | some a, some b => a.length + b.length ≤ 16777216 ∧ Q (.lst (a ++ b)) S
  | _, _ => False
theorem catD_inv {Q : DK} {S : Sd} : ∀ {o u : Option (List D)}, catD Q S o u → ∃ a b, o = some a ∧ u = some b ∧ a.length + b.length ≤ 16777216 ∧ Q (.lst (a ++ b)) S
  | some a, some b, h => ⟨a, b, rfl, rfl, h.1, h.2⟩
  | none, _, h => h.elim
  | some _, none, h => h.elim
theorem catD_none {Q : DK} {S : Sd} {u : Option (List D)} (h : catD Q S none u) : False := h
theorem catD_none2 {Q : DK} {S : Sd} {u : Option (List D)} (h : catD Q S u none) : False := by cases u <;> exact h
def rdAdd : RD2 := fun x y S Q => match x, y with
  | .int i, .int j => Q (.int (i + j)) S
  | .int i, .bl k => Q (.int (i + b2i k)) S
  | .str x, .str y => x.length + y.length ≤ 16777216 ∧ Q (.str (x ++ y)) S
  | .tup x, .tup y => x.length + y.length ≤ 16777216 ∧ Q (.tup (x ++ y)) S
  | x, y => catD Q S (lstD S x) (lstD S y)
def rdSub : RD2
  | .int i, .int j, S, Q => Q (.int (i - j)) S
  | _, _, _, _ => False
def rdFdiv : RD2
  | .int i, .int j, S, Q => (j ≠ 0 ∧ j.natAbs.log2 < 9000) ∧ Q (.int (i.fdiv j)) S
  | _, _, _, _ => False
def rdMod : RD2
  | .int i, .int j, S, Q => j ≠ 0 ∧ Q (.int (i.fmod j)) S
  | _, _, _, _ => False
def rdPow : RD2
  | .int i, .int j, S, Q => (0 ≤ j ∧ ((i.natAbs.log2 : Int) + 1) * j ≤ 134217728) ∧ Q (.int (i ^ j.toNat)) S
  | _, _, _, _ => False
def rdShl : RD2
  | .int i, .int j, S, Q => (0 ≤ j ∧ j ≤ 1000000 ∧ i.natAbs < 2 ^ 64) ∧ Q (.int (i * 2 ^ j.toNat)) S
  | _, _, _, _ => False
def rdAndB : RD2
  | .int i, .int j, S, Q => Q (.int (Builtin.bitAnd i j)) S
  | _, _, _, _ => False

section
variable {X : Cx}
theorem opI_lift {f : Value → Value → Sem Value} {C : Int → Int → Prop} {g : Int → Int → Int} (ho : OpR X f (rI C fun i j => .int (g i j))) {rd : RD2} (hI : ∀ i j S Q, rd (.int i) (.int j) S Q → C i j ∧ Q (.int (g i j)) S)
    (hN : ∀ x y S Q, rd x y S Q → ∃ i j, x = .int i ∧ y = .int j) : OpD X f rd :=
  ⟨_, ho, fun H S fr σd σ x y dx dy Qv Qd ok rx ry h k => by
    obtain ⟨i, j, rfl, rfl⟩ := hN dx dy S Qd h
    obtain ⟨h1, h2⟩ := hI i j S Qd h
    exact ⟨i, j, rx, ry, h1, k _ (.int (g i j)) H S ok rfl h2⟩⟩
theorem int_int {rd : RD2} (h : ∀ x y S Q, rd x y S Q → ∃ i j, x = .int i ∧ y = .int j) : ∀ x y S Q, rd x y S Q → ∃ i j, x = .int i ∧ y = .int j := h
theorem od_sub : OpD X (binaryOp .Sub) rdSub := ⟨_, op_sub, fun H S fr σd σ x y dx dy Qv Qd ok rx ry h k => by
  cases dx with
  | int i =>
    cases dy with
    | int j => exact ⟨i, j, rx, ry, k _ (.int (i - j)) H S ok rfl h⟩
    | _ => exact (show False from h).elim
  | _ => cases dy <;> exact (show False from h).elim⟩
theorem od_fdiv : OpD X (binaryOp .FloorDiv) rdFdiv := ⟨rI (fun _ j => j ≠ 0 ∧ j.natAbs.log2 < 9000) fun i j => .int (i.fdiv j), opI (fun i j t u s Q E hc q => floordiv_int hc.1 q (.inl (PyProof.noPylong_of_log2 hc.2))), fun H S fr σd σ x y dx dy Qv Qd ok rx ry h k => by
  cases dx with
  | int i =>
    cases dy with
    | int j => exact ⟨i, j, rx, ry, h.1, k _ (.int (i.fdiv j)) H S ok rfl h.2⟩
    | _ => exact (show False from h).elim
  | _ => cases dy <;> exact (show False from h).elim⟩
theorem od_mod : OpD X (binaryOp .Mod) rdMod := ⟨_, op_modN, fun H S fr σd σ x y dx dy Qv Qd ok rx ry h k => by
  cases dx with
  | int i =>
    cases dy with
    | int j => exact ⟨i, j, rx, ry, h.1, k _ (.int (i.fmod j)) H S ok rfl h.2⟩
    | _ => exact (show False from h).elim
  | _ => cases dy <;> exact (show False from h).elim⟩
theorem bits_le (x : Int) : Builtin.Int.intBits x ≤ x.natAbs.log2 + 1 := by
  unfold Builtin.Int.intBits
  split <;> omega
theorem od_pow : OpD X (binaryOp .Pow) rdPow := ⟨rI (fun i j => 0 ≤ j ∧ ((i.natAbs.log2 : Int) + 1) * j ≤ 134217728) fun i j => .int (i ^ j.toNat), opI (fun i j t u s Q E hc q => pow_int hc.1 (by
    have h1 := bits_le i
    have h2 : (Builtin.Int.intBits i : Int) * j ≤ ((i.natAbs.log2 : Int) + 1) * j := Int.mul_le_mul_of_nonneg_right (by omega) hc.1
    have h3 := hc.2
    have h4 : (2 : Int) ^ 27 = 134217728 := by decide
    omega) q), fun H S fr σd σ x y dx dy Qv Qd ok rx ry h k => by
  cases dx with
  | int i =>
    cases dy with
    | int j => exact ⟨i, j, rx, ry, h.1, k _ (.int (i ^ j.toNat)) H S ok rfl h.2⟩
    | _ => exact (show False from h).elim
  | _ => cases dy <;> exact (show False from h).elim⟩
theorem od_shl : OpD X (binaryOp .LShift) rdShl := ⟨_, op_shl, fun H S fr σd σ x y dx dy Qv Qd ok rx ry h k => by
  cases dx with
  | int i =>
    cases dy with
    | int j => exact ⟨i, j, rx, ry, h.1, k _ (.int (i * 2 ^ j.toNat)) H S ok rfl h.2⟩
    | _ => exact (show False from h).elim
  | _ => cases dy <;> exact (show False from h).elim⟩
theorem od_andB : OpD X (binaryOp .BitAnd) rdAndB := ⟨_, op_and, fun H S fr σd σ x y dx dy Qv Qd ok rx ry h k => by
  cases dx with
  | int i =>
    cases dy with
    | int j => exact ⟨i, j, rx, ry, k _ (.int (Builtin.bitAnd i j)) H S ok rfl h⟩
    | _ => exact (show False from h).elim
  | _ => cases dy <;> exact (show False from h).elim⟩

/-- two lists, tracked or not -/
def rCatL (K : PySem.W.Frag) : R2 := fun x y H Q => ∃ l b xs zs, x = .ref l ∧ y = .ref b ∧ SqL K H l xs ∧ SqL K H b zs ∧ xs.length + zs.length ≤ sizeLine ∧ ∀ p, H p = none → Q (.ref p) (upd H p (.lst (xs ++ zs)))
theorem op_catL : OpR X (binaryOp .Add) (rCatL X.K) := by
  intro pins s σ H x y v u Q I rx ry h
  obtain ⟨l, b, xs, zs, rfl, rfl, hH, hB, hz, q⟩ := h
  cases rx
  cases ry
  obtain ⟨its, r, ⟨o1, n1, e1, c1, d1, f1⟩, z1⟩ := I.list hH
  obtain ⟨its2, r2, ⟨o2, n2, e2, c2, d2, f2⟩, z2⟩ := I.list hB
  obtain ⟨cls, dd, data, sl⟩ := o1
  obtain ⟨cls2, dd2, data2, sl2⟩ := o2
  simp only at c1 d1 f1 c2 d2 f2
  subst c1 d1 f1 c2 d2 f2
  have ea : its.toArray ++ its2.toArray = (its ++ its2).toArray := by simp
  have l1 := r.length
  have l2 := r2.length
  refine concat_meets ⟨_, e1, rfl⟩ ⟨_, e2, rfl⟩ noFill_list_add seq_list_add PySem.F.slot_list_add PySem.F.entry_list_add (PySem.F.args_list_add_2 _ _) (list_addW l b its.toArray its2.toArray n1 n2 none none sl sl2 (by simp only [List.size_toArray]; omega)) ⟨e1, e2, ?_⟩
  rw [ea]
  exact ⟨.ref _, _, I.lnew (t' := s.toks) (r.append r2) (by rw [List.length_append]; omega), rfl, q _ I.fresh⟩
theorem od_add : OpD X (binaryOp .Add) rdAdd := by
  refine ⟨_, (op_add (X := X)).or (op_add_ib.or (op_add_str.or (op_catA.or op_catL))), fun H S fr σd σ x y dx dy Qv Qd ok rx ry h k => ?_⟩
  have lists : catD Qd S (lstD S dx) (lstD S dy) → rCatL X.K x y H Qv := fun q => by
    obtain ⟨a, b, h1, h2, h3⟩ := catD_inv q
    obtain ⟨p, vs, e1, q1, r1⟩ := rp_lstD ok.rel rx h1
    obtain ⟨q, ws, e2, q2, r2⟩ := rp_lstD ok.rel ry h2
    exact ⟨p, q, vs, ws, e1, e2, q1, q2, by rw [← rpL_len r1, ← rpL_len r2, sl_eq]; exact h3.1, fun l hl => k _ (.lst (a ++ b)) _ S (ok.new hl) (rp_lstNew ok.rel hl (rpL_app r1 r2)) h3.2⟩
  cases dx with
  | int i =>
    cases dy with
    | int j => exact .inl ⟨i, j, rx, ry, k _ (.int (i + j)) H S ok rfl h⟩
    | bl j => exact .inr (.inl ⟨i, j, rx, ry, k _ (.int (i + b2i j)) H S ok rfl h⟩)
    | _ => exact (show False from h).elim
  | str i =>
    cases dy with
    | str j => exact .inr (.inr (.inl ⟨i, j, rx, ry, by rw [sl_eq]; exact h.1, k _ (.str (i ++ j)) H S ok rfl h.2⟩))
    | _ => exact (show False from h).elim
  | tup xs =>
    cases dy with
    | tup ys =>
      obtain ⟨p, vs, e1, q1, r1⟩ := rx
      obtain ⟨q, ws, e2, q2, r2⟩ := ry
      have h' : xs.length + ys.length ≤ 16777216 ∧ Qd (.tup (xs ++ ys)) S := h
      refine .inr (.inr (.inr (.inl ⟨p, q, vs, ws, e1, e2, q1, q2, by rw [← rpL_len r1, ← rpL_len r2, sl_eq]; exact h'.1, fun e => ?_, fun _ e => ?_, fun _ _ l hl => ?_⟩)))
      · subst e
        have e3 : xs = [] := List.length_eq_zero_iff.mp (rpL_len r1)
        subst e3
        exact k _ (.tup ys) H S ok ⟨q, ws, rfl, q2, r2⟩ h'.2
      · subst e
        have e3 : ys = [] := List.length_eq_zero_iff.mp (rpL_len r2)
        subst e3
        have q := h'.2
        rw [List.append_nil] at q
        exact k _ (.tup xs) H S ok ⟨p, vs, rfl, q1, r1⟩ q
      · exact k _ (.tup (xs ++ ys)) _ S (ok.new hl) (rp_tupNew ok.rel hl (rpL_app r1 r2)) h'.2
    | _ => exact (show False from h).elim
  | lst xs => exact .inr (.inr (.inr (.inr (lists (by cases dy <;> exact h)))))
  | obj p => exact .inr (.inr (.inr (.inr (lists (by cases dy <;> exact h)))))
  | non => exact (by cases dy <;> exact h : False).elim
  | bl b => exact (by cases dy <;> exact h : False).elim
  | inst C ns ds => exact (by cases dy <;> exact h : False).elim
  | ty n => exact (by cases dy <;> exact h : False).elim
end
end Dv

/-! Readings by value, 2: equality, order, chains, in, subscripts, slices, calls, built-ins. -/
namespace Dv
open PySem L2 PyProof.Rows

/-! ### plain data -/
mutual
def isData : D → Bool
  | .non => true | .bl _ => true | .int _ => true | .str _ => true
  | .tup ds => isDataL ds
  | .lst ds => isDataL ds
  | _ => false
def isDataL : List D → Bool
  | [] => true
  | d :: ds => isData d && isDataL ds
end
mutual
def pd : D → PyData
  | .bl b => .bool b | .int i => .int i | .str x => .str x
  | .tup ds => .tuple (pdL ds)
  | .lst ds => .list (pdL ds)
  | _ => .none
def pdL : List D → List PyData
  | [] => []
  | d :: ds => pd d :: pdL ds
end
mutual
/-- == of data -/
def deq : D → D → Bool
  | .non, .non => true
  | .bl a, .bl b => a == b
  | .bl a, .int j => (if a then 1 else 0) == j
  | .int i, .bl b => i == (if b then 1 else 0)
  | .int i, .int j => i == j
  | .str x, .str y => x == y
  | .tup xs, .tup ys => deqL xs ys
  | .lst xs, .lst ys => deqL xs ys
  | _, _ => false
def deqL : List D → List D → Bool
  | [], [] => true
  | x :: xs, y :: ys => deq x y && deqL xs ys
  | _, _ => false
end
mutual
theorem eqv_pd : ∀ (x y : D), isData x = true → isData y = true → PyData.eqv (pd x) (pd y) = deq x y
  | .tup xs, y, hx, hy => by
    cases y with
    | tup ys =>
      have h1 : isDataL xs = true := hx
      have h2 : isDataL ys = true := hy
      show PyData.eqvAll (pdL xs) (pdL ys) = deqL xs ys
      exact eqv_pdL xs ys h1 h2
    | inst _ _ _ => exact absurd (show false = true from hy) Bool.false_ne_true
    | obj _ => exact absurd (show false = true from hy) Bool.false_ne_true
    | ty _ => exact absurd (show false = true from hy) Bool.false_ne_true
    | _ => rfl
  | .lst xs, y, hx, hy => by
    cases y with
    | lst ys =>
      have h1 : isDataL xs = true := hx
      have h2 : isDataL ys = true := hy
      show PyData.eqvAll (pdL xs) (pdL ys) = deqL xs ys
      exact eqv_pdL xs ys h1 h2
    | inst _ _ _ => exact absurd (show false = true from hy) Bool.false_ne_true
    | obj _ => exact absurd (show false = true from hy) Bool.false_ne_true
    | ty _ => exact absurd (show false = true from hy) Bool.false_ne_true
    | _ => rfl
  | .non, y, hx, hy => by
    cases y with
    | inst _ _ _ => exact absurd (show false = true from hy) Bool.false_ne_true
    | obj _ => exact absurd (show false = true from hy) Bool.false_ne_true
    | ty _ => exact absurd (show false = true from hy) Bool.false_ne_true
    | _ => rfl
  | .bl _, y, hx, hy => by
    cases y with
    | inst _ _ _ => exact absurd (show false = true from hy) Bool.false_ne_true
    | obj _ => exact absurd (show false = true from hy) Bool.false_ne_true
    | ty _ => exact absurd (show false = true from hy) Bool.false_ne_true
    | _ => rfl
  | .int _, y, hx, hy => by
    cases y with
    | inst _ _ _ => exact absurd (show false = true from hy) Bool.false_ne_true
    | obj _ => exact absurd (show false = true from hy) Bool.false_ne_true
    | ty _ => exact absurd (show false = true from hy) Bool.false_ne_true
    | _ => rfl
  | .str _, y, hx, hy => by
    cases y with
    | inst _ _ _ => exact absurd (show false = true from hy) Bool.false_ne_true
    | obj _ => exact absurd (show false = true from hy) Bool.false_ne_true
    | ty _ => exact absurd (show false = true from hy) Bool.false_ne_true
    | _ => rfl
  | .inst _ _ _, y, hx, hy => absurd (show false = true from hx) Bool.false_ne_true
  | .obj _, y, hx, hy => absurd (show false = true from hx) Bool.false_ne_true
  | .ty _, y, hx, hy => absurd (show false = true from hx) Bool.false_ne_true
theorem eqv_pdL : ∀ (xs ys : List D), isDataL xs = true → isDataL ys = true → PyData.eqvAll (pdL xs) (pdL ys) = deqL xs ys
  | [], [], _, _ => rfl
  | [], y :: ys, _, _ => rfl
  | x :: xs, [], _, _ => rfl
  | x :: xs, y :: ys, hx, hy => by
    have h1 := Bool.and_eq_true_iff.mp (show (isData x && isDataL xs) = true from hx)
    have h2 := Bool.and_eq_true_iff.mp (show (isData y && isDataL ys) = true from hy)
    show (PyData.eqv (pd x) (pd y) && PyData.eqvAll (pdL xs) (pdL ys)) = (deq x y && deqL xs ys)
    rw [eqv_pd x y h1.1 h2.1, eqv_pdL xs ys h1.2 h2.2]
end
section
variable {K : PySem.W.Frag} {H : Hp} {S : Sd}
mutual
theorem dp_of (R : RelS K H S) : ∀ (d : D) (v : V), isData d = true → Rp K H S d v → Dp K H v (pd d)
  | .non, v, _, h => by
    have e : v = .non := h
    subst e; exact .non
  | .bl b, v, _, h => by
    have e : v = .bl b := h
    subst e; exact .bl b
  | .int i, v, _, h => by
    have e : v = .int i := h
    subst e; exact .int i
  | .str x, v, _, h => by
    have e : v = .str x := h
    subst e; exact .str x
  | .tup ds, v, k, h => by
    obtain ⟨a, vs, e, q, r⟩ := h
    subst e
    exact .tup q (dp_ofL R ds vs k r)
  | .lst ds, v, k, h => by
    obtain ⟨a, vs, e, q, r⟩ := rp_list R h
    subst e
    exact .lst q (dp_ofL R ds vs k r)
  | .inst _ _ _, v, k, _ => absurd (show false = true from k) Bool.false_ne_true
  | .obj _, v, k, _ => absurd (show false = true from k) Bool.false_ne_true
  | .ty _, v, k, _ => absurd (show false = true from k) Bool.false_ne_true
theorem dp_ofL (R : RelS K H S) : ∀ (ds : List D) (vs : List V), isDataL ds = true → RpL K H S ds vs → DpAll K H vs (pdL ds)
  | [], vs, _, h => by
    have e : vs = [] := h
    subst e; exact .nil
  | d :: ds, vs, k, h => by
    obtain ⟨v, r, e, h1, h2⟩ := h
    subst e
    have k' := Bool.and_eq_true_iff.mp (show (isData d && isDataL ds) = true from k)
    exact .cons (dp_of R d v k'.1 h1) (dp_ofL R ds r k'.2 h2)
end
end
/-- what == may be asked of -/
def eqOk (d : D) : Bool := isData d && SeqAt.shaped (pd d)
def rdEq : RD2 := fun x y S Q => match x, y with
  | .int i, .int j => Q (.bl (decide (i = j))) S
  | .str i, .str j => Q (.bl (decide (i = j))) S
  | .bl i, .bl j => Q (.bl (decide (i = j))) S
  | x, y => (eqOk x = true ∧ eqOk y = true) ∧ Q (.bl (deq x y)) S
def rdNe : RD2 := fun x y S Q => match x, y with
  | .int i, .int j => Q (.bl (!decide (i = j))) S
  | .str i, .str j => Q (.bl (!decide (i = j))) S
  | .bl i, .bl j => Q (.bl (!decide (i = j))) S
  | x, y => (eqOk x = true ∧ eqOk y = true) ∧ Q (.bl (!deq x y)) S
def rdLt : RD2
  | .int i, .int j, S, Q => Q (.bl (decide (i < j))) S
  | _, _, _, _ => False
def rdLe : RD2
  | .int i, .int j, S, Q => Q (.bl (decide (i ≤ j))) S
  | _, _, _, _ => False
def rdGt : RD2
  | .int i, .int j, S, Q => Q (.bl (decide (j < i))) S
  | _, _, _, _ => False
def rdGe : RD2
  | .int i, .int j, S, Q => Q (.bl (decide (j ≤ i))) S
  | _, _, _, _ => False
def rdIsN : RD2
  | x, .non, S, Q => Q (.bl (match x with | .non => true | _ => false)) S
  | _, _, _, _ => False
def rdNotN : RD2
  | x, .non, S, Q => Q (.bl (match x with | .non => false | _ => true)) S
  | _, _, _, _ => False
theorem rp_non {K : PySem.W.Frag} {H : Hp} {S : Sd} {d : D} {v : V} (h : Rp K H S d v) : decide (v = .non) = (match d with | .non => true | _ => false) := by
  cases d with
  | non => have e : v = .non := h; subst e; rfl
  | bl b => have e : v = .bl b := h; subst e; rfl
  | int b => have e : v = .int b := h; subst e; rfl
  | str b => have e : v = .str b := h; subst e; rfl
  | tup ds => obtain ⟨a, vs, e, _⟩ := h; subst e; rfl
  | lst ds => obtain ⟨a, vs, e, _⟩ := h; subst e; rfl
  | inst C ns ds => obtain ⟨a, dx, fs, e, _⟩ := h; subst e; rfl
  | obj a => have e : v = .ref a := h; subst e; rfl
  | ty n => have e : v = .ty n := h; subst e; rfl
section
variable {X : Cx}
theorem ordI {f : Value → Value → Sem Value} {g : Int → Int → Bool} {rd : RD2} (ho : OpR X f (rI0 fun i j => .bl (g i j))) (h : ∀ x y S Q, rd x y S Q → ∃ i j, x = .int i ∧ y = .int j ∧ Q (.bl (g i j)) S) : OpD X f rd :=
  ⟨_, ho, fun H S fr σd σ x y dx dy Qv Qd ok rx ry q k => by
    obtain ⟨i, j, rfl, rfl, q'⟩ := h dx dy S Qd q
    exact ⟨i, j, rx, ry, k _ (.bl (g i j)) H S ok rfl q'⟩⟩
theorem od_lt : OpD X (compareOp .Lt) rdLt := ordI op_lt fun x y S Q h => by
  cases x with
  | int i => cases y with
    | int j => exact ⟨i, j, rfl, rfl, h⟩
    | _ => exact (show False from h).elim
  | _ => cases y <;> exact (show False from h).elim
theorem od_le : OpD X (compareOp .LtE) rdLe := ordI op_le fun x y S Q h => by
  cases x with
  | int i => cases y with
    | int j => exact ⟨i, j, rfl, rfl, h⟩
    | _ => exact (show False from h).elim
  | _ => cases y <;> exact (show False from h).elim
theorem od_gt : OpD X (compareOp .Gt) rdGt := ordI op_gt fun x y S Q h => by
  cases x with
  | int i => cases y with
    | int j => exact ⟨i, j, rfl, rfl, h⟩
    | _ => exact (show False from h).elim
  | _ => cases y <;> exact (show False from h).elim
theorem od_ge : OpD X (compareOp .GtE) rdGe := ordI op_ge fun x y S Q h => by
  cases x with
  | int i => cases y with
    | int j => exact ⟨i, j, rfl, rfl, h⟩
    | _ => exact (show False from h).elim
  | _ => cases y <;> exact (show False from h).elim
theorem eq_lift {K : PySem.W.Frag} : Lift2 K (fun x y H Q => rEq x y H Q ∨ rEqD K x y H Q) rdEq := fun H S fr σd σ x y dx dy Qv Qd ok rx ry h k => by
  have gen : (eqOk dx = true ∧ eqOk dy = true) ∧ Qd (.bl (deq dx dy)) S → rEqD K x y H Qv := fun ⟨⟨h1, h2⟩, q⟩ => by
    have a1 := Bool.and_eq_true_iff.mp h1
    have a2 := Bool.and_eq_true_iff.mp h2
    refine ⟨pd dx, pd dy, dp_of ok.rel dx x a1.1 rx, dp_of ok.rel dy y a2.1 ry, a1.2, a2.2, ?_⟩
    rw [eqv_pd dx dy a1.1 a2.1]
    exact k _ (.bl (deq dx dy)) H S ok rfl q
  cases dx with
  | int i => cases dy with
    | int j =>
      have e1 : x = .int i := rx
      have e2 : y = .int j := ry
      subst e1 e2
      refine .inl ⟨rfl, ?_⟩
      refine k _ (.bl (decide (i = j))) H S ok ?_ h
      show V.bl _ = V.bl _
      congr 1
      simp
    | _ => exact .inr (gen h)
  | str i => cases dy with
    | str j =>
      have e1 : x = .str i := rx
      have e2 : y = .str j := ry
      subst e1 e2
      refine .inl ⟨rfl, ?_⟩
      refine k _ (.bl (decide (i = j))) H S ok ?_ h
      show V.bl _ = V.bl _
      congr 1
      simp
    | _ => exact .inr (gen h)
  | bl i => cases dy with
    | bl j =>
      have e1 : x = .bl i := rx
      have e2 : y = .bl j := ry
      subst e1 e2
      refine .inl ⟨rfl, ?_⟩
      refine k _ (.bl (decide (i = j))) H S ok ?_ h
      show V.bl _ = V.bl _
      congr 1
      simp
    | _ => exact .inr (gen h)
  | _ => exact .inr (gen (by cases dy <;> exact h))
theorem ne_lift {K : PySem.W.Frag} : Lift2 K (fun x y H Q => rNe x y H Q ∨ rNeD K x y H Q) rdNe := fun H S fr σd σ x y dx dy Qv Qd ok rx ry h k => by
  have gen : (eqOk dx = true ∧ eqOk dy = true) ∧ Qd (.bl (!deq dx dy)) S → rNeD K x y H Qv := fun ⟨⟨h1, h2⟩, q⟩ => by
    have a1 := Bool.and_eq_true_iff.mp h1
    have a2 := Bool.and_eq_true_iff.mp h2
    refine ⟨pd dx, pd dy, dp_of ok.rel dx x a1.1 rx, dp_of ok.rel dy y a2.1 ry, a1.2, a2.2, ?_⟩
    rw [eqv_pd dx dy a1.1 a2.1]
    exact k _ (.bl (!deq dx dy)) H S ok rfl q
  cases dx with
  | int i => cases dy with
    | int j =>
      have e1 : x = .int i := rx
      have e2 : y = .int j := ry
      subst e1 e2
      refine .inl ⟨rfl, ?_⟩
      refine k _ (.bl (!decide (i = j))) H S ok ?_ h
      show V.bl _ = V.bl _
      congr 1
      simp
    | _ => exact .inr (gen h)
  | str i => cases dy with
    | str j =>
      have e1 : x = .str i := rx
      have e2 : y = .str j := ry
      subst e1 e2
      refine .inl ⟨rfl, ?_⟩
      refine k _ (.bl (!decide (i = j))) H S ok ?_ h
      show V.bl _ = V.bl _
      congr 1
      simp
    | _ => exact .inr (gen h)
  | bl i => cases dy with
    | bl j =>
      have e1 : x = .bl i := rx
      have e2 : y = .bl j := ry
      subst e1 e2
      refine .inl ⟨rfl, ?_⟩
      refine k _ (.bl (!decide (i = j))) H S ok ?_ h
      show V.bl _ = V.bl _
      congr 1
      simp
    | _ => exact .inr (gen h)
  | _ => exact .inr (gen (by cases dy <;> exact h))
theorem od_eq (hu : X.A.units + 64 < cLine) : OpD X (compareOp .Eq) rdEq := ⟨_, op_eq.or (op_eqD hu), eq_lift⟩
theorem od_ne (hu : X.A.units + 64 < cLine) : OpD X (compareOp .NotEq) rdNe := ⟨_, op_ne.or (op_neD hu), ne_lift⟩
theorem od_isN : OpD X (compareOp .Is) rdIsN := ⟨_, op_isN, fun H S fr σd σ x y dx dy Qv Qd ok rx ry h k => by
  cases dy with
  | non =>
    refine ⟨ry, ?_⟩
    rw [rp_non rx]
    cases dx <;> exact k _ (.bl _) H S ok rfl h
  | _ => cases dx <;> exact (show False from h).elim⟩
theorem od_notN : OpD X (compareOp .IsNot) rdNotN := ⟨_, op_notN, fun H S fr σd σ x y dx dy Qv Qd ok rx ry h k => by
  cases dy with
  | non =>
    refine ⟨ry, ?_⟩
    rw [rp_non rx]
    cases dx <;> exact k _ (.bl _) H S ok rfl h
  | _ => cases dx <;> exact (show False from h).elim⟩
end

/-! ### chains of comparisons -/
section
variable {X : Cx} {W : Wi} {a b c d e : Expr} {ta tb tc td : TED} {pos : Pos}
def dChain (r r' : RD2) (ta tb tc : TED) : TED := fun σ S Q => ta σ S fun x S1 => tb σ S1 fun y S2 => r x y S2 fun z S3 => match z with
  | .bl k => if k = true then tc σ S3 fun w S4 => r' y w S4 Q else Q (.bl false) S3
  | _ => False
theorem chain_lift {r r' : R2} {rd rd' : RD2} (l : Lift2 X.K r rd) (l' : Lift2 X.K r' rd') (σ : L2.St) (H : Hp) (Q : VK) (h : upE X.K W (dChain rd rd' ta tb tc) σ H Q) : tChain r r' (upE X.K W ta) (upE X.K W tb) (upE X.K W tc) σ H Q := by
  obtain ⟨σd, S, fr, Qd, ok, cl, h, k⟩ := h
  refine ⟨σd, S, fr, _, ok, cl, h, fun x dx H1 S1 ok1 r1 h1 => ?_⟩
  refine ⟨σd, S1, (x, dx) :: fr, _, ok1.cons r1, cl.tail, h1, fun y dy H2 S2 ok2 r2 h2 => ?_⟩
  refine l H2 S2 ((y, dy) :: fr) σd σ x y dx dy _ _ (ok2.tail.cons r2) ok2.head r2 h2 fun z dz H3 S3 ok3 r3 h3 => ?_
  cases dz with
  | bl k0 =>
    refine ⟨k0, r3, ?_⟩
    cases k0 with
    | true =>
      exact (show upE X.K W tc σ H3 (fun w' H4 => r' y w' H4 Q) from ⟨σd, S3, (y, dy) :: fr, _, ok3, cl.tail, (show tc σd S3 _ from by simpa using h3), fun w dw H4 S4 ok4 r4 h4 =>
        l' H4 S4 fr σd σ y w dy dw Q Qd ok4.tail ok4.head r4 h4 k⟩)
    | false => exact (show Q (.bl false) H3 from k _ (.bl false) H3 S3 ok3.tail rfl (by simpa using h3))
  | _ => exact (show False from h3).elim
theorem de_chain {op op' : CmpOp} {rd rd' : RD2} (ho : OpD X (compareOp op) rd) (ho' : OpD X (compareOp op') rd') (ha : DE X W a ta) (hb : DE X W b tb) (hc : DE X W c tc)
    (hm : lastMarks [op, op'] [b, c] = false := by with_unfolding_all rfl) : DE X W (.Compare a [op, op'] [b, c] pos) (dChain rd rd' ta tb tc) := by
  obtain ⟨r, ho, l⟩ := ho
  obtain ⟨r', ho', l'⟩ := ho'
  exact ⟨PE.imp (pe_chain ho ho' ha.p hb.p hc.p hm) (chain_lift l l')⟩
theorem dt_chain {op op' : CmpOp} {rd rd' : RD2} (ho : OpD X (compareOp op) rd) (ho' : OpD X (compareOp op') rd') (ha : DE X W a ta) (hb : DE X W b tb) (hc : DE X W c tc)
    (hm : lastMarks [op, op'] [b, c] = false := by with_unfolding_all rfl) : DT X W (.Compare a [op, op'] [b, c] pos) (dTest (dChain rd rd' ta tb tc)) := by
  obtain ⟨r, ho, l⟩ := ho
  obtain ⟨r', ho', l'⟩ := ho'
  exact ⟨PT.imp (pt_chain ho ho' ha.p hb.p hc.p hm) fun σ H Q h => tTest_mono (chain_lift l l') σ H Q (test_lift σ H Q h)⟩
/-- three comparisons -/
def tChain3 (r r' r2 : R2) (ta tb tc td : TE) : TE := fun σ H Q => ta σ H fun x H1 => tb σ H1 fun y H2 => r x y H2 fun z H3 => ∃ k, z = .bl k ∧
  (if k = true then tc σ H3 fun w H4 => r' y w H4 fun z2 H5 => ∃ k2, z2 = .bl k2 ∧ (if k2 = true then td σ H5 fun w2 H6 => r2 w w2 H6 Q else Q (.bl false) H5) else Q (.bl false) H3)
theorem pe_chain3 {op op' op2 : CmpOp} {r r' r2 : R2} {ta tb tc td : TE} (ho : OpR X (compareOp op) r) (ho' : OpR X (compareOp op') r') (ho2 : OpR X (compareOp op2) r2) (ha : PE X a ta) (hb : PE X b tb) (hc : PE X c tc) (hd : PE X d td)
    (hm : lastMarks [op, op', op2] [b, c, d] = false := by with_unfolding_all rfl) : PE X (.Compare a [op, op', op2] [b, c, d] pos) (tChain3 r r' r2 ta tb tc td) := by
  refine ⟨fun pins s σ H Q I h => ?_⟩
  refine Compare_chain (thn (ha.run pins s σ H _ I h) fun v s1 ⟨x, H1, I1, r1, q1⟩ => chain_link (thn (hb.run pins s1 σ H1 _ I1 q1) fun u s2 ⟨y, H2, I2, r2, q2⟩ =>
    thn (ho pins s2 σ H2 x y v u _ I2 r1 r2 q2) fun d s3 ⟨z, H3, I3, r3, k, e, q3⟩ => ?_)) hm
  subst e
  cases r3
  refine wpAny_truthy_bool ?_
  cases k with
  | false => exact ite_ff ⟨.bl false, H3, I3, rfl, q3⟩
  | true =>
    refine ite_tt (chain_link (thn (hc.run pins s3 σ H3 _ I3 q3) fun w' s4 ⟨z', H4, I4, r4, q4⟩ => thn (ho' pins s4 σ H4 y z' u w' _ I4 r2 r4 q4) fun d5 s5 ⟨z5, H5, I5, r5, k5, e5, q5⟩ => ?_))
    subst e5
    cases r5
    refine wpAny_truthy_bool ?_
    cases k5 with
    | false => exact ite_ff ⟨.bl false, H5, I5, rfl, q5⟩
    | true => exact ite_tt (chain_last (thn (hd.run pins s5 σ H5 _ I5 q5) fun w6 s6 ⟨z6, H6, I6, r6, q6⟩ => ho2 pins s6 σ H6 z' z6 w' w6 Q I6 r4 r6 q6))
def dChain3 (r r' r2 : RD2) (ta tb tc td : TED) : TED := fun σ S Q => ta σ S fun x S1 => tb σ S1 fun y S2 => r x y S2 fun z S3 => match z with
  | .bl k => if k = true then tc σ S3 fun w S4 => r' y w S4 fun z2 S5 => match z2 with
      | .bl k2 => if k2 = true then td σ S5 fun w2 S6 => r2 w w2 S6 Q else Q (.bl false) S5
      | _ => False
    else Q (.bl false) S3
  | _ => False
theorem de_chain3 {op op' op2 : CmpOp} {rd rd' rd2 : RD2} (ho : OpD X (compareOp op) rd) (ho' : OpD X (compareOp op') rd') (ho2 : OpD X (compareOp op2) rd2) (ha : DE X W a ta) (hb : DE X W b tb) (hc : DE X W c tc) (hd : DE X W d td)
    (hm : lastMarks [op, op', op2] [b, c, d] = false := by with_unfolding_all rfl) : DE X W (.Compare a [op, op', op2] [b, c, d] pos) (dChain3 rd rd' rd2 ta tb tc td) := by
  obtain ⟨r, ho, l⟩ := ho
  obtain ⟨r', ho', l'⟩ := ho'
  obtain ⟨r2, ho2, l2⟩ := ho2
  refine ⟨PE.imp (pe_chain3 ho ho' ho2 ha.p hb.p hc.p hd.p hm) fun σ H Q h => ?_⟩
  obtain ⟨σd, S, fr, Qd, ok, cl, h, k⟩ := h
  refine ⟨σd, S, fr, _, ok, cl, h, fun x dx H1 S1 ok1 r1 h1 => ?_⟩
  refine ⟨σd, S1, (x, dx) :: fr, _, ok1.cons r1, cl.tail, h1, fun y dy H2 S2 ok2 r2 h2 => ?_⟩
  refine l H2 S2 ((y, dy) :: fr) σd σ x y dx dy _ _ (ok2.tail.cons r2) ok2.head r2 h2 fun z dz H3 S3 ok3 r3 h3 => ?_
  cases dz with
  | bl k0 =>
    refine ⟨k0, r3, ?_⟩
    cases k0 with
    | true =>
      refine (show upE X.K W tc σ H3 _ from ⟨σd, S3, (y, dy) :: fr, _, ok3, cl.tail, (show tc σd S3 _ from (by simpa using h3)), fun w dw H4 S4 ok4 r4 h4 => ?_⟩)
      refine l' H4 S4 ((w, dw) :: fr) σd σ y w dy dw _ _ (ok4.tail.cons r4) ok4.head r4 h4 fun z2 dz2 H5 S5 ok5 r5 h5 => ?_
      cases dz2 with
      | bl k2 =>
        refine ⟨k2, r5, ?_⟩
        cases k2 with
        | true =>
          exact (show upE X.K W td σ H5 _ from ⟨σd, S5, (w, dw) :: fr, _, ok5, cl.tail, (show td σd S5 _ from (by simpa using h5)), fun w2 dw2 H6 S6 ok6 r6 h6 =>
            l2 H6 S6 fr σd σ w w2 dw dw2 Q Qd ok6.tail ok6.head r6 h6 k⟩)
        | false => exact (show Q (.bl false) H5 from k _ (.bl false) H5 S5 ok5.tail rfl (by simpa using h5))
      | _ => exact (show False from h5).elim
    | false => exact (show Q (.bl false) H3 from k _ (.bl false) H3 S3 ok3.tail rfl (by simpa using h3))
  | _ => exact (show False from h3).elim
end

/-! ### subscripts, slices -/
def ixQ (S : Sd) (Q : DK) : Option D → Prop
  | some d => Q d S
  | none => False
def ixS (S : Sd) (Q : DK) : Option Nat → Prop
  | some c => Q (.str ⟨#[c]⟩) S
  | none => False
def rdIx : RD2
  | .tup ds, .int i, S, Q => ixQ S Q (atI ds i)
  | .lst ds, .int i, S, Q => ixQ S Q (atI ds i)
  | .obj a, .int i, S, Q => match S a with
    | some (.lst ds) => ixQ S Q (atI ds i)
    | _ => False
  | .str z, .int i, S, Q => z.length ≤ 16777216 ∧ ixS S Q (atI z.cps.toList i)
  | _, _, _, _ => False
theorem ixQ_inv {S : Sd} {Q : DK} {o : Option D} (h : ixQ S Q o) : ∃ d, o = some d ∧ Q d S := by
  cases o with
  | none => exact h.elim
  | some d => exact ⟨d, rfl, h⟩
theorem atI_rp {K : PySem.W.Frag} {H : Hp} {S : Sd} {ds : List D} {vs : List V} {i : Int} {d : D} (r : RpL K H S ds vs) (h : atI ds i = some d) : ∃ v, atI vs i = some v ∧ Rp K H S d v := by
  unfold atI at h ⊢
  rw [← rpL_len r]
  cases e : ixN ds.length i with
  | none => rw [e] at h; cases h
  | some j =>
    rw [e] at h
    exact rpL_get r h
section
variable {X : Cx} {W : Wi} {a b e : Expr} {ta tb te : TED} {pos p2 : Pos}
theorem ix_lift {K : PySem.W.Frag} : Lift2 K (rIx K) rdIx := fun H S fr σd σ x y dx dy Qv Qd ok rx ry h k => by
  cases dy with
  | int i =>
    cases dx with
    | tup ds =>
      obtain ⟨d, e, q⟩ := ixQ_inv h
      obtain ⟨p, vs, e1, q1, r1⟩ := rx
      obtain ⟨v, e2, r2⟩ := atI_rp r1 e
      exact .inr (.inl ⟨p, vs, i, v, e1, ry, q1, e2, k v d H S ok r2 q⟩)
    | lst ds =>
      obtain ⟨d, e, q⟩ := ixQ_inv h
      obtain ⟨p, vs, e1, q1, r1⟩ := rp_list ok.rel rx
      obtain ⟨v, e2, r2⟩ := atI_rp r1 e
      exact .inl ⟨p, vs, i, v, e1, ry, q1, e2, k v d H S ok r2 q⟩
    | obj p =>
      have h' : (match S p with | some (.lst ds) => ixQ S Qd (atI ds i) | _ => False) := h
      split at h'
      · rename_i ds q0
        obtain ⟨d, e, q⟩ := ixQ_inv h'
        obtain ⟨vs, q1, r1⟩ := rp_obj ok.rel q0
        obtain ⟨v, e2, r2⟩ := atI_rp r1 e
        exact .inl ⟨p, vs, i, v, rx, ry, SqL.of q1, e2, k v d H S ok r2 q⟩
      · exact h'.elim
    | str z =>
      have h' : z.length ≤ 16777216 ∧ ixS S Qd (atI z.cps.toList i) := h
      cases e : atI z.cps.toList i with
      | none => rw [e] at h'; exact h'.2.elim
      | some c =>
        rw [e] at h'
        exact .inr (.inr ⟨z, i, c, rx, ry, sz_le h'.1, e, k _ (.str ⟨#[c]⟩) H S ok rfl h'.2⟩)
    | _ => exact (show False from h).elim
  | _ => cases dx <;> exact (show False from h).elim
theorem de_ix (ha : DE X W a ta) (hb : DE X W b tb) (hs : PlainIx b) : DE X W (.Subscript a b pos) (dOp rdIx ta tb) := ⟨PE.imp (pe_ix ix_seq ha.p hb.p hs) (op2_lift ix_lift)⟩
abbrev TOD := Si → Sd → (Option Int → Sd → Prop) → Prop
def upO (K : PySem.W.Frag) (W : Wi) (t : TOD) : TO := fun σ H Qv => ∃ σd S fr Qd, Ok K H S fr σd σ ∧ Cl K W fr ∧ t σd S Qd ∧ ∀ o H' S', Ok K H' S' fr σd σ → Qd o S' → Qv o H'
structure DO (X : Cx) (W : Wi) (e : Option Expr) (t : TOD) : Prop where
  p : PO X e (upO X.K W t)
def dNoPart : TOD := fun _ S Q => Q none S
def dPart (t : TED) : TOD := fun σ S Q => t σ S fun x S1 => match x with
  | .int i => Q (some i) S1
  | _ => False
theorem PO.imp {e : Option Expr} {t t' : TO} (h : PO X e t) (k : ∀ σ H Q, t' σ H Q → t σ H Q) : PO X e t' := ⟨fun pins s σ H Q I q => h.run pins s σ H Q I (k _ _ _ q)⟩
theorem do_none : DO X W none dNoPart := ⟨PO.imp po_none fun σ H Q ⟨σd, S, fr, Qd, ok, cl, h, k⟩ => k none H S ok h⟩
theorem do_some (h : DE X W e te) : DO X W (some e) (dPart te) := ⟨PO.imp (po_some h.p) fun σ H Q ⟨σd, S, fr, Qd, ok, cl, h, k⟩ => ⟨σd, S, fr, _, ok, cl, h, fun x dx H1 S1 ok1 r1 h1 => by
  cases dx with
  | int i => exact ⟨i, r1, k (some i) H1 S1 ok1 h1⟩
  | _ => exact (show False from h1).elim⟩⟩
def cutD (xs : List D) (lo hi : Option Int) : List D := (xs.drop (HT.sIx xs.length 0 lo)).take (HT.sIx xs.length xs.length hi - HT.sIx xs.length 0 lo)
def rdSl : D → Option Int → Option Int → Sd → DK → Prop
  | .tup ds, lo, hi, S, Q => Q (.tup (cutD ds lo hi)) S
  | .lst ds, lo, hi, S, Q => Q (.lst (cutD ds lo hi)) S
  | .obj a, lo, hi, S, Q => match S a with
    | some (.lst ds) => Q (.lst (cutD ds lo hi)) S
    | _ => False
  | .str z, lo, hi, S, Q => z.length ≤ 16777216 ∧ Q (.str (cutS z lo hi)) S
  | _, _, _, _, _ => False
def dSl (te : TED) (tl th : TOD) : TED := fun σ S Q => te σ S fun x S1 => tl σ S1 fun l S2 => th σ S2 fun u S3 => rdSl x l u S3 Q
theorem cut_rp {K : PySem.W.Frag} {H : Hp} {S : Sd} {ds : List D} {vs : List V} {lo hi : Option Int} (r : RpL K H S ds vs) : RpL K H S (cutD ds lo hi) (cutV vs lo hi) := by
  unfold cutD cutV
  rw [← rpL_len r]
  exact rpL_take _ (rpL_drop _ r)
theorem de_slice {lo hi : Option Expr} {tl th : TOD} (he : DE X W e te) (hl : DO X W lo tl) (hu : DO X W hi th) : DE X W (.Subscript e (.Slice lo hi none p2) pos) (dSl te tl th) :=
  ⟨PE.imp (pe_slice (sl_list.or (sl_tupA.or sl_str)) he.p hl.p hu.p) fun σ H Q ⟨σd, S, fr, Qd, ok, cl, h, k⟩ => ⟨σd, S, fr, _, ok, cl, h, fun x dx H1 S1 ok1 r1 h1 =>
    ⟨σd, S1, (x, dx) :: fr, _, ok1.cons r1, cl.tail, h1, fun l H2 S2 ok2 h2 => ⟨σd, S2, (x, dx) :: fr, _, ok2, cl.tail, h2, fun u H3 S3 ok3 h3 => by
      have rx := ok3.head
      have ok4 := ok3.tail
      cases dx with
      | lst ds =>
        obtain ⟨p, vs, e1, q1, r1⟩ := rp_list ok4.rel rx
        exact .inl ⟨p, vs, e1, q1, fun p hp => k _ (.lst (cutD ds l u)) _ S3 (ok4.new hp) (rp_lstNew ok4.rel hp (cut_rp r1)) h3⟩
      | obj p =>
        have h' : (match S3 p with | some (.lst ds) => Qd (.lst (cutD ds l u)) S3 | _ => False) := h3
        split at h'
        · rename_i ds q0
          obtain ⟨vs, q1, r1⟩ := rp_obj ok4.rel q0
          exact .inl ⟨p, vs, rx, SqL.of q1, fun p hp => k _ (.lst (cutD ds l u)) _ S3 (ok4.new hp) (rp_lstNew ok4.rel hp (cut_rp r1)) h'⟩
        · exact h'.elim
      | tup ds =>
        obtain ⟨p, vs, e1, q1, r1⟩ := rx
        refine .inr (.inl ⟨p, vs, e1, q1, fun hw => ?_, fun _ p hp => k _ (.tup (cutD ds l u)) _ S3 (ok4.new hp) (rp_tupNew ok4.rel hp (cut_rp r1)) h3⟩)
        have e2 : cutD ds l u = ds := by
          unfold cutD
          rw [rpL_len r1, hw.1, hw.2, List.drop_zero, Nat.sub_zero, ← rpL_len r1, List.take_length]
        have h' : Qd (.tup (cutD ds l u)) S3 := h3
        rw [e2] at h'
        exact k _ (.tup ds) H3 S3 ok4 ⟨p, vs, rfl, q1, r1⟩ h'
      | str z =>
        have h' : z.length ≤ 16777216 ∧ Qd (.str (cutS z l u)) S3 := h3
        exact .inr (.inr ⟨z, rx, sz_le h'.1, k _ (.str (cutS z l u)) H3 S3 ok4 rfl h'.2⟩)
      | _ => exact (show False from h3).elim⟩⟩⟩⟩
end
end Dv

/-! Readings by value, 3: calls, built-ins, statements, loops, comprehensions, defs. -/
namespace Dv
open PySem L2 PyProof.Rows

/-! ### the promise of a def, lifted -/
abbrev SpD := List D → Sd → DK → XKD → Prop
def FrOk (K : PySem.W.Frag) (H : Hp) (S : Sd) (fr : List (V × D)) : Prop := ∀ p ∈ fr, Rp K H S p.2 p.1
def upF (K : PySem.W.Frag) (sp : SpD) : Sp := fun vs H Qv E => ∃ ds S fr Qd Ed, RelS K H S ∧ FrOk K H S fr ∧ RpL K H S ds vs ∧ sp ds S Qd Ed ∧
  (∀ v d H' S', RelS K H' S' → FrOk K H' S' fr → Rp K H' S' d v → Qd d S' → Qv v H') ∧
  ∀ cls od x H' S', RelS K H' S' → FrOk K H' S' fr → RpX K H' S' x cls od → Ed x S' → E cls od H'
/-- the known slots, as pairs -/
def prs (σd : Si) (σ : L2.St) : List (V × D) := (σ.zip σd).filterMap fun p => match p with
  | (some v, some d) => some (v, d)
  | _ => none
theorem prs_mem {σd : Si} {σ : L2.St} {i : Nat} {v : V} {d : D} (h1 : σ[i]? = some (some v)) (h2 : σd[i]? = some (some d)) : (v, d) ∈ prs σd σ := by
  unfold prs
  refine List.mem_filterMap.mpr ⟨(some v, some d), ?_, rfl⟩
  refine List.mem_iff_getElem?.mpr ⟨i, ?_⟩
  rw [List.getElem?_zip_eq_some]
  exact ⟨h1, h2⟩
theorem prs_of {σd : Si} {σ : L2.St} {p : V × D} (h : p ∈ prs σd σ) : ∃ i : Nat, σ[i]? = some (some p.1) ∧ σd[i]? = some (some p.2) := by
  unfold prs at h
  obtain ⟨q, hq, e⟩ := List.mem_filterMap.mp h
  obtain ⟨i, hi⟩ := List.mem_iff_getElem?.mp hq
  rw [List.getElem?_zip_eq_some] at hi
  obtain ⟨q1, q2⟩ := q
  cases q1 with
  | none => cases e
  | some v => cases q2 with
    | none => cases e
    | some d =>
      cases e
      exact ⟨i, hi.1, hi.2⟩
section
variable {K : PySem.W.Frag} {H : Hp} {S : Sd} {fr : List (V × D)} {σd : Si} {σ : L2.St}
theorem Ok.out (ok : Ok K H S fr σd σ) : FrOk K H S (fr ++ prs σd σ) := fun p hp => by
  rcases List.mem_append.mp hp with h | h
  · exact ok.fr p h
  · obtain ⟨i, h1, h2⟩ := prs_of h
    obtain ⟨v, h3, r⟩ := ok.si i _ h2
    rw [h1] at h3
    cases h3
    exact r
theorem Ok.back {H' : Hp} {S' : Sd} (ok : Ok K H S fr σd σ) (R : RelS K H' S') (f : FrOk K H' S' (fr ++ prs σd σ)) : Ok K H' S' fr σd σ :=
  ⟨R, fun p hp => f p (List.mem_append_left _ hp), ok.len, fun i d e => by
    obtain ⟨v, h1, _⟩ := ok.si i d e
    exact ⟨v, h1, f (v, d) (List.mem_append_right _ (prs_mem h1 e))⟩⟩
end

section
variable {X : Cx} {W : Wi} {k : Nat} {f : Addr} {fd : FuncData} {ps : List Str} {sp : SpD} {ds : List Value} {dvs : List V} {dds : List D} {x : Str} {p pos : Pos} {e : Expr} {es : List Expr} {t : TAD}
def dCall (sp : SpD) (dds : List D) (WD : WXD) (t : TAD) : TED := fun σ S Q => t σ S fun xs S1 => sp (xs ++ dds) S1 Q fun y S2 => WD y σ S2
theorem call_lift (hdd : ∀ H S, RpL X.K H S dds dvs) (σ : L2.St) (H : Hp) (Q : VK) (h : upE X.K W (dCall sp dds W.D t) σ H Q) : tCallSD (upF X.K sp) dvs (WE W.V) (upA X.K W t) σ H Q := by
  obtain ⟨σd, S, fr, Qd, ok, cl, h, k⟩ := h
  refine ⟨σd, S, fr, _, ok, cl, h, fun vs ds H1 S1 ok1 r1 h1 => ?_⟩
  refine ⟨ds ++ dds, S1, fr ++ prs σd σ, Qd, _, ok1.rel, ok1.out, rpL_app r1 (hdd H1 S1), h1, fun v d H2 S2 R2 f2 r2 q2 => ?_, fun cls od x H2 S2 R2 f2 rx q2 => ?_⟩
  · exact k v d H2 S2 (ok1.back R2 f2) r2 q2
  · exact cl σd σ H2 S2 cls od x (ok1.back R2 f2) rx q2
theorem de_call (F : FnOk X.prog X.w X.K X.mg X.base (L2.CX X.prog X.w) k f fd ps (upF X.K sp)) (hr : Room k X.A) (hg : Gl X x) (hm : X.mg x = some (.ref f)) (hk : PySem.W.keepIn X.K (.ref f) = true) (hb : Binds X.K fd ps ds) (hd : Vals dvs ds)
    (hdd : ∀ H S, RpL X.K H S dds dvs) (tk : Takes X W.V) (ha : DA X W (e :: es) t) (hdb : (x == ("__debug__" : Str)) = false := by decide) (he : starEach (e :: es) X.env = (false, eval e X.env) :: starEach es X.env := by rfl)
    (hpl : (backTo pos (starEach es X.env)).any (·.1) = false := by rfl) : DE X W (.Call (.Name x p) (e :: es) [] pos) (dCall sp dds W.D t) :=
  ⟨PE.imp (pe_callSD F hr hg hm hk hb hd (fun σ => passAt tk σ) ha.p hdb he hpl) (call_lift hdd)⟩

/-! ### built-ins -/
abbrev RDC := List D → Sd → DK → Prop
def LiftC (K : PySem.W.Frag) (r : List V → Hp → VK → Prop) (rd : RDC) : Prop := ∀ H S fr σd σ xs ds Qv Qd, Ok K H S fr σd σ → RpL K H S ds xs → rd ds S Qd →
  (∀ v d H' S', Ok K H' S' fr σd σ → Rp K H' S' d v → Qd d S' → Qv v H') → r xs H Qv
def CallD (X : Cx) (f : Value) (rd : RDC) : Prop := ∃ r, CallR X f r ∧ LiftC X.K r rd
def dCB (rd : RDC) (t : TAD) : TED := fun σ S Q => t σ S fun xs S1 => rd xs S1 Q
theorem cb_lift {r : List V → Hp → VK → Prop} {rd : RDC} (l : LiftC X.K r rd) (σ : L2.St) (H : Hp) (Q : VK) (h : upE X.K W (dCB rd t) σ H Q) : tCB r (upA X.K W t) σ H Q := by
  obtain ⟨σd, S, fr, Qd, ok, cl, h, k⟩ := h
  exact ⟨σd, S, fr, _, ok, cl, h, fun vs ds H1 S1 ok1 r1 h1 => l H1 S1 fr σd σ vs ds Q Qd ok1 r1 h1 k⟩
theorem de_callB {id : String} {rd : RDC} (hc : CallD X (.builtin id) rd) (hg : Gl X x) (hm : X.mg x = none) (hv : bootBuiltins x = some (.builtin id)) (ha : DA X W (e :: es) t) (hn : x ≠ "__name__" := by decide) (hdb : (x == ("__debug__" : Str)) = false := by decide)
    (he : starEach (e :: es) X.env = (false, eval e X.env) :: starEach es X.env := by rfl) (hpl : (backTo pos (starEach es X.env)).any (·.1) = false := by rfl) : DE X W (.Call (.Name x p) (e :: es) [] pos) (dCB rd t) := by
  obtain ⟨r, hc, l⟩ := hc
  exact ⟨PE.imp (pe_callB hc hg hm hv ha.p hn hdb he hpl) (cb_lift l)⟩
theorem de_callTy {T : String} {rd : RDC} (hc : CallD X (.type T) rd) (hg : Gl X x) (hm : X.mg x = none) (hv : bootBuiltins x = some (.type T)) (ha : DA X W (e :: es) t) (hn : x ≠ "__name__" := by decide) (hdb : (x == ("__debug__" : Str)) = false := by decide)
    (he : starEach (e :: es) X.env = (false, eval e X.env) :: starEach es X.env := by rfl) (hpl : (backTo pos (starEach es X.env)).any (·.1) = false := by rfl) : DE X W (.Call (.Name x p) (e :: es) [] pos) (dCB rd t) := by
  obtain ⟨r, hc, l⟩ := hc
  exact ⟨PE.imp (pe_callTy hc hg hm hv ha.p hn hdb he hpl) (cb_lift l)⟩
end
section
variable {K : PySem.W.Frag} {H : Hp} {S : Sd}
theorem rpL1 {d : D} {vs : List V} (h : RpL K H S [d] vs) : ∃ v, vs = [v] ∧ Rp K H S d v := by
  obtain ⟨v, r, e, h1, h2⟩ := h
  have e2 : r = [] := h2
  subst e2
  exact ⟨v, e, h1⟩
theorem rpL2 {c d : D} {vs : List V} (h : RpL K H S [c, d] vs) : ∃ v w, vs = [v, w] ∧ Rp K H S c v ∧ Rp K H S d w := by
  obtain ⟨v, r, e, h1, h2⟩ := h
  obtain ⟨w, e2, h3⟩ := rpL1 h2
  subst e2
  exact ⟨v, w, e, h1, h3⟩
theorem rpL_ints {ns : List Int} : ∀ {vs : List V}, RpL K H S (ns.map D.int) vs → vs = ns.map V.int := by
  induction ns with
  | nil => intro vs h; exact h
  | cons n r ih =>
    intro vs h
    obtain ⟨v, s, e, h1, h2⟩ := h
    have e1 : v = .int n := h1
    rw [e, e1, ih h2]
    rfl
theorem rpL_of_ints {ns : List Int} : RpL K H S (ns.map D.int) (ns.map V.int) := by
  induction ns with
  | nil => exact rfl
  | cons n r ih => exact ⟨_, _, rfl, rfl, ih⟩
theorem rpL_bls {ns : List Bool} : ∀ {vs : List V}, RpL K H S (ns.map D.bl) vs → vs = ns.map V.bl := by
  induction ns with
  | nil => intro vs h; exact h
  | cons n r ih =>
    intro vs h
    obtain ⟨v, s, e, h1, h2⟩ := h
    have e1 : v = .bl n := h1
    rw [e, e1, ih h2]
    rfl
theorem rpL_strs {ns : List Str} : ∀ {vs : List V}, RpL K H S (ns.map D.str) vs → vs = ns.map V.str := by
  induction ns with
  | nil => intro vs h; exact h
  | cons n r ih =>
    intro vs h
    obtain ⟨v, s, e, h1, h2⟩ := h
    have e1 : v = .str n := h1
    rw [e, e1, ih h2]
    rfl
end
def rdLen : RDC
  | [.str z], S, Q => z.length ≤ 16777216 ∧ Q (.int z.length) S
  | [d], S, Q => match itemsD S d with
    | some ds => Q (.int ds.length) S
    | none => False
  | _, _, _ => False
def rdAbs : RDC
  | [.int i], S, Q => Q (.int (if i < 0 then -i else i)) S
  | _, _, _ => False
def rdMax2 : RDC
  | [.int i, .int j], S, Q => Q (.int (if j > i then j else i)) S
  | _, _, _ => False
def rdMin2 : RDC
  | [.int i, .int j], S, Q => Q (.int (if j < i then j else i)) S
  | _, _, _ => False
def rdInt : RDC
  | [.int i], S, Q => Q (.int i) S
  | [.bl b], S, Q => Q (.int (if b then 1 else 0)) S
  | _, _, _ => False
def rdAll : RDC
  | [d], S, Q => ∃ bs : List Bool, lstD S d = some (bs.map D.bl) ∧ Q (.bl (bs.all id)) S
  | _, _, _ => False
def rdAny : RDC
  | [d], S, Q => ∃ bs : List Bool, lstD S d = some (bs.map D.bl) ∧ Q (.bl (bs.any id)) S
  | _, _, _ => False
def rdSum : RDC
  | [d], S, Q => ∃ ns : List Int, lstD S d = some (ns.map D.int) ∧ Q (.int ns.sum) S
  | _, _, _ => False
def rdTupC : RDC
  | [d], S, Q => match itemsD S d with
    | some ds => Q (.tup ds) S
    | none => False
  | _, _, _ => False
def rdListC : RDC
  | [d], S, Q => match itemsD S d with
    | some ds => Q (.lst ds) S
    | none => False
  | _, _, _ => False
def rdSorted : RDC
  | [d], S, Q => ∃ ns : List Int, itemsD S d = some (ns.map D.int) ∧ ns.length < 64 ∧ ∀ ns' : List Int, ns'.Perm ns → ns'.Pairwise (· ≤ ·) → Q (.lst (ns'.map D.int)) S
  | _, _, _ => False
/-- a value's built-in type -/
def tyD : D → Option String
  | .non => some "NoneType" | .bl _ => some "bool" | .int _ => some "int" | .str _ => some "str" | .tup _ => some "tuple" | .lst _ => some "list" | _ => none
def isiD (d : D) (n : String) : Option Bool := match tyD d with
  | some t => kitB t n
  | none => none
def rdIsi : RDC
  | [d, .ty n], S, Q => match isiD d n with
    | some b => Q (.bl b) S
    | none => False
  | _, _, _ => False
section
variable {X : Cx}
theorem cd_len : CallD X (.builtin "len") rdLen := ⟨_, call_len, fun H S fr σd σ xs ds Qv Qd ok r h k => by
  match ds, r, h with
  | [d], r, h =>
    obtain ⟨v, rfl, r0⟩ := rpL1 r
    have r := r0
    have gen : (match itemsD S d with | some ds => Qd (.int ds.length) S | none => False) → ∃ x n, [v] = [x] ∧ LenV X.K x H n ∧ Qv (.int n) H := fun h => by
      cases e : itemsD S d with
      | none => rw [e] at h; exact h.elim
      | some ds =>
        rw [e] at h
        obtain ⟨a, vs, rfl, q, r2⟩ := rp_items ok.rel r e
        refine ⟨_, vs.length, rfl, ?_, k _ (.int ds.length) H S ok (by rw [rpL_len r2]; rfl) h⟩
        rcases q with q | q
        · exact .inl ⟨vs, q, rfl⟩
        · exact .inr ⟨vs, q, rfl⟩
    cases d with
    | str z =>
      have e : v = .str z := r
      subst e
      have h' : z.length ≤ 16777216 ∧ Qd (.int z.length) S := h
      exact ⟨_, z.length, rfl, ⟨sz_le h'.1, rfl⟩, k _ (.int z.length) H S ok rfl h'.2⟩
    | _ => exact gen h
  | [], _, h => exact (show False from h).elim
  | a :: _ :: _, _, h => exact (by cases a <;> exact h : False).elim⟩
theorem int1_lift {K : PySem.W.Frag} {g : Int → D} {gv : Int → V} {rd : RDC} (hg : ∀ i H S, Rp K H S (g i) (gv i)) (h1 : ∀ ds S Q, rd ds S Q → ∃ i, ds = [.int i] ∧ Q (g i) S) :
    LiftC K (fun xs H Q => ∃ i, xs = [.int i] ∧ Q (gv i) H) rd := fun H S fr σd σ xs ds Qv Qd ok r h k => by
  obtain ⟨i, rfl, q⟩ := h1 ds S Qd h
  obtain ⟨v, rfl, r0⟩ := rpL1 r
  have r := r0
  have e : v = .int i := r
  subst e
  exact ⟨i, rfl, k _ (g i) H S ok (hg i H S) q⟩
theorem one_d {ds : List D} {P : D → Prop} {G : Prop} (h0 : ds = [] → G) (h2 : ∀ a b r, ds = a :: b :: r → G) (h1 : ∀ d, ds = [d] → G) : G := by
  cases ds with
  | nil => exact h0 rfl
  | cons d t => cases t with
    | nil => exact h1 d rfl
    | cons e r => exact h2 d e r rfl
theorem inv_abs {ds : List D} {S : Sd} {Q : DK} (h : rdAbs ds S Q) : ∃ i, ds = [.int i] ∧ Q (.int (if i < 0 then -i else i)) S := by
  cases ds with
  | nil => exact h.elim
  | cons d t => cases t with
    | nil => cases d <;> first | exact ⟨_, rfl, h⟩ | exact (show False from h).elim
    | cons e r => cases d <;> exact (show False from h).elim
theorem inv_int {ds : List D} {S : Sd} {Q : DK} (h : rdInt ds S Q) : (∃ i, ds = [.int i] ∧ Q (.int i) S) ∨ ∃ b, ds = [.bl b] ∧ Q (.int (if b then 1 else 0)) S := by
  cases ds with
  | nil => exact h.elim
  | cons d t => cases t with
    | nil => cases d <;> first | exact .inl ⟨_, rfl, h⟩ | exact .inr ⟨_, rfl, h⟩ | exact (show False from h).elim
    | cons e r => cases d <;> exact (show False from h).elim
theorem inv_max2 {ds : List D} {S : Sd} {Q : DK} (h : rdMax2 ds S Q) : ∃ i j, ds = [.int i, .int j] ∧ Q (.int (if j > i then j else i)) S := by
  cases ds with
  | nil => exact h.elim
  | cons d t => cases t with
    | nil => cases d <;> exact (show False from h).elim
    | cons e r => cases r with
      | nil => cases d <;> cases e <;> first | exact ⟨_, _, rfl, h⟩ | exact (show False from h).elim
      | cons f r => cases d <;> cases e <;> exact (show False from h).elim
theorem inv_min2 {ds : List D} {S : Sd} {Q : DK} (h : rdMin2 ds S Q) : ∃ i j, ds = [.int i, .int j] ∧ Q (.int (if j < i then j else i)) S := by
  cases ds with
  | nil => exact h.elim
  | cons d t => cases t with
    | nil => cases d <;> exact (show False from h).elim
    | cons e r => cases r with
      | nil => cases d <;> cases e <;> first | exact ⟨_, _, rfl, h⟩ | exact (show False from h).elim
      | cons f r => cases d <;> cases e <;> exact (show False from h).elim
theorem inv_isi {ds : List D} {S : Sd} {Q : DK} (h : rdIsi ds S Q) : ∃ d n b, ds = [d, .ty n] ∧ isiD d n = some b ∧ Q (.bl b) S := by
  cases ds with
  | nil => exact h.elim
  | cons d t => cases t with
    | nil => exact (show False from h).elim
    | cons e r => cases r with
      | cons f r => cases e <;> exact (show False from h).elim
      | nil =>
        cases e with
        | ty n =>
          have h' : (match isiD d n with | some b => Q (.bl b) S | none => False) := h
          cases q : isiD d n with
          | none => rw [q] at h'; exact h'.elim
          | some b => rw [q] at h'; exact ⟨d, n, b, rfl, q, h'⟩
        | _ => exact (show False from h).elim
theorem cd_abs : CallD X (.builtin "abs") rdAbs := ⟨_, call_abs, int1_lift (g := fun i => .int (if i < 0 then -i else i)) (fun _ _ _ => rfl) fun ds S Q h => inv_abs h⟩
theorem int2_lift {K : PySem.W.Frag} {g : Int → Int → D} {gv : Int → Int → V} {rd : RDC} (hg : ∀ i j H S, Rp K H S (g i j) (gv i j)) (h1 : ∀ ds S Q, rd ds S Q → ∃ i j, ds = [.int i, .int j] ∧ Q (g i j) S) :
    LiftC K (fun xs H Q => ∃ i j, xs = [.int i, .int j] ∧ Q (gv i j) H) rd := fun H S fr σd σ xs ds Qv Qd ok r h k => by
  obtain ⟨i, j, rfl, q⟩ := h1 ds S Qd h
  obtain ⟨v, w, rfl, r1, r2⟩ := rpL2 r
  have e : v = .int i := r1
  have e2 : w = .int j := r2
  subst e e2
  exact ⟨i, j, rfl, k _ (g i j) H S ok (hg i j H S) q⟩
theorem cd_max2 (hc : X.calm = true) : CallD X (.builtin "max") rdMax2 := ⟨_, call_max2 hc, int2_lift (g := fun i j => .int (if j > i then j else i)) (fun _ _ _ _ => rfl) fun ds S Q h => inv_max2 h⟩
theorem cd_min2 (hc : X.calm = true) : CallD X (.builtin "min") rdMin2 := ⟨_, call_min2 hc, int2_lift (g := fun i j => .int (if j < i then j else i)) (fun _ _ _ _ => rfl) fun ds S Q h => inv_min2 h⟩
theorem cd_int : CallD X (.type "int") rdInt := ⟨_, call_int1, fun H S fr σd σ xs ds Qv Qd ok r h k => by
  rcases inv_int h with ⟨i, rfl, q⟩ | ⟨b, rfl, q⟩
  · obtain ⟨v, rfl, r0⟩ := rpL1 r
    have r := r0
    have e : v = .int i := r
    subst e
    exact .inl ⟨i, rfl, k _ (.int i) H S ok rfl q⟩
  · obtain ⟨v, rfl, r0⟩ := rpL1 r
    have r := r0
    have e : v = .bl b := r
    subst e
    exact .inr ⟨b, rfl, k _ (.int (if b then 1 else 0)) H S ok rfl q⟩⟩
theorem cd_all (hc : X.calm = true) : CallD X (.builtin "all") rdAll := ⟨_, cr_all hc, fun H S fr σd σ xs ds Qv Qd ok r h k => by
  match ds, r, h with
  | [], _, h => exact (show False from h).elim
  | _ :: _ :: _, _, h => exact (show False from h).elim
  | [d], r, h =>
    obtain ⟨v, rfl, r0⟩ := rpL1 r
    have r := r0
    obtain ⟨bs, e, q⟩ := h
    obtain ⟨a, vs, rfl, q1, r1⟩ := rp_lstD ok.rel r e
    rw [rpL_bls r1] at q1
    exact ⟨a, bs, rfl, q1, k _ (.bl (bs.all id)) H S ok rfl q⟩⟩
theorem cd_any (hc : X.calm = true) : CallD X (.builtin "any") rdAny := ⟨_, cr_any hc, fun H S fr σd σ xs ds Qv Qd ok r h k => by
  match ds, r, h with
  | [], _, h => exact (show False from h).elim
  | _ :: _ :: _, _, h => exact (show False from h).elim
  | [d], r, h =>
    obtain ⟨v, rfl, r0⟩ := rpL1 r
    have r := r0
    obtain ⟨bs, e, q⟩ := h
    obtain ⟨a, vs, rfl, q1, r1⟩ := rp_lstD ok.rel r e
    rw [rpL_bls r1] at q1
    exact ⟨a, bs, rfl, q1, k _ (.bl (bs.any id)) H S ok rfl q⟩⟩
theorem cd_sum (hc : X.calm = true) : CallD X (.builtin "sum") rdSum := ⟨_, cr_sum hc, fun H S fr σd σ xs ds Qv Qd ok r h k => by
  match ds, r, h with
  | [], _, h => exact (show False from h).elim
  | _ :: _ :: _, _, h => exact (show False from h).elim
  | [d], r, h =>
    obtain ⟨v, rfl, r0⟩ := rpL1 r
    have r := r0
    obtain ⟨ns, e, q⟩ := h
    obtain ⟨a, vs, rfl, q1, r1⟩ := rp_lstD ok.rel r e
    rw [rpL_ints r1] at q1
    exact ⟨a, ns, rfl, q1, k _ (.int ns.sum) H S ok rfl q⟩⟩
theorem cd_tuple : CallD X (.type "tuple") rdTupC := ⟨_, call_tuple_of, fun H S fr σd σ xs ds Qv Qd ok r h k => by
  match ds, r, h with
  | [], _, h => exact (show False from h).elim
  | _ :: _ :: _, _, h => exact (show False from h).elim
  | [d], r, h =>
    obtain ⟨v, rfl, r0⟩ := rpL1 r
    have r := r0
    have h' : (match itemsD S d with | some ds => Qd (.tup ds) S | none => False) := h
    cases e : itemsD S d with
    | none => rw [e] at h'; exact h'.elim
    | some ds =>
      rw [e] at h'
      obtain ⟨a, vs, rfl, q, r2⟩ := rp_items ok.rel r e
      refine ⟨a, vs, rfl, ?_⟩
      rcases q with q | q
      · exact .inl ⟨q, fun l hl => k _ (.tup ds) _ S (ok.new hl) (rp_tupNew ok.rel hl r2) h'⟩
      · exact .inr ⟨q, k _ (.tup ds) H S ok ⟨a, vs, rfl, q, r2⟩ h'⟩⟩
theorem cd_list : CallD X (.type "list") rdListC := ⟨_, call_list_of, fun H S fr σd σ xs ds Qv Qd ok r h k => by
  match ds, r, h with
  | [], _, h => exact (show False from h).elim
  | _ :: _ :: _, _, h => exact (show False from h).elim
  | [d], r, h =>
    obtain ⟨v, rfl, r0⟩ := rpL1 r
    have r := r0
    have h' : (match itemsD S d with | some ds => Qd (.lst ds) S | none => False) := h
    cases e : itemsD S d with
    | none => rw [e] at h'; exact h'.elim
    | some ds =>
      rw [e] at h'
      obtain ⟨a, vs, rfl, q, r2⟩ := rp_items ok.rel r e
      exact ⟨a, vs, rfl, q, fun l hl => k _ (.lst ds) _ S (ok.new hl) (rp_lstNew ok.rel hl r2) h'⟩⟩
theorem isi_ty {K : PySem.W.Frag} {H : Hp} {S : Sd} {d : D} {v : V} {t : String} (R : RelS K H S) (r : Rp K H S d v) (e : tyD d = some t) : TyX K H v (.type t) := by
  cases d with
  | non => cases e; have e : v = .non := r; subst e; exact .base .non
  | bl b => cases e; have e : v = .bl b := r; subst e; exact .base (.bl b)
  | int i => cases e; have e : v = .int i := r; subst e; exact .base (.int i)
  | str x => cases e; have e : v = .str x := r; subst e; exact .base (.str x)
  | tup ds =>
    cases e
    obtain ⟨a, vs, rfl, q, _⟩ := r
    rcases q with (q | ⟨o, q⟩) | ⟨o, its, n, h1, h2, _⟩
    · exact .base (.tup q)
    · exact .fTuple q
    · exact .kTuple h1 h2
  | lst ds =>
    cases e
    obtain ⟨a, vs, rfl, q, _⟩ := r
    rcases q with ⟨q | ⟨o, q⟩, _⟩ | ⟨o, its, n, h1, h2, _⟩
    · exact .base (.lst q)
    · exact .base (.frz q)
    · exact .kList h1 h2
  | _ => cases e
theorem cd_isi : CallD X (.builtin "isinstance") rdIsi := ⟨_, call_isi, fun H S fr σd σ xs ds Qv Qd ok r h k => by
  obtain ⟨d, n, b, rfl, e, q⟩ := inv_isi h
  obtain ⟨v, w, rfl, r1, r2⟩ := rpL2 r
  have e0 : w = .ty n := r2
  subst e0
  unfold isiD at e
  cases e2 : tyD d with
  | none => rw [e2] at e; cases e
  | some t =>
    rw [e2] at e
    exact ⟨v, .ty n, .type t, .type n, b, rfl, .ty n, isi_ty ok.rel r1 e2, kit_ty e, k _ (.bl b) H S ok rfl q⟩⟩
end
end Dv

/-! Readings by value, 4: statements, targets, loops, comprehensions, defs. -/
namespace Dv
open PySem L2 PyProof.Rows

section
variable {K : PySem.W.Frag} {H : Hp} {S : Sd} {fr : List (V × D)} {Dd : EndsD} {D0 : Ends} {σd : Si} {σ : L2.St} {W : Wi}
theorem Ok.pre {fr2 : List (V × D)} (o : Ok K H S (fr2 ++ fr) σd σ) : Ok K H S fr σd σ := ⟨o.rel, fun p hp => o.fr p (List.mem_append_right _ hp), o.len, o.si⟩
theorem Cl.pre {fr2 : List (V × D)} (c : Cl K W fr) : Cl K W (fr2 ++ fr) := fun σd σ H S cls od x o => c σd σ H S cls od x o.pre
end

section
variable {X : Cx} {W : Wi} {st : Stmt} {rest : List Stmt} {t u : TSD} {e c : Expr} {te : TED} {tc : TTD} {pos : Pos}
def dNext : TSD := fun D σ S => D.nx σ S
def dSeq (t u : TSD) : TSD := fun D σ S => t { D with nx := u D } σ S
theorem db_nil : DB X W [] dNext := ⟨PSs.imp pss_nil fun D σ H ⟨σd, S, fr, Dd, ok, cl, h, k⟩ => k.nx σd σ H S ok h⟩
theorem db_cons (h1 : DS X W st t) (h2 : DB X W rest u) : DB X W (st :: rest) (dSeq t u) :=
  ⟨PSs.imp (pss_cons h1.p h2.p) fun D σ H ⟨σd, S, fr, Dd, ok, cl, h, k⟩ => ⟨σd, S, fr, { Dd with nx := u Dd }, ok, cl, h,
    ⟨fun σd' σ' H' S' ok' q => ⟨σd', S', fr, Dd, ok', cl, q, k⟩, k.rt, k.bk, k.ct⟩⟩⟩
theorem db_one (h1 : DS X W st t) : DB X W [st] t := ⟨pss_one h1.p⟩
def dBreak : TSD := fun D σ S => D.bk σ S
def dCont : TSD := fun D σ S => D.ct σ S
theorem ds_pass : DS X W (.Pass pos) dNext := ⟨PS.imp ps_pass fun D σ H ⟨σd, S, fr, Dd, ok, cl, h, k⟩ => k.nx σd σ H S ok h⟩
theorem ds_break : DS X W (.Break pos) dBreak := ⟨PS.imp ps_break fun D σ H ⟨σd, S, fr, Dd, ok, cl, h, k⟩ => k.bk σd σ H S ok h⟩
theorem ds_continue : DS X W (.Continue pos) dCont := ⟨PS.imp ps_continue fun D σ H ⟨σd, S, fr, Dd, ok, cl, h, k⟩ => k.ct σd σ H S ok h⟩
theorem ds_doc {x j pos pos'} : DS X W (.Expr (.Constant (.str x) j pos) pos') dNext := ⟨PS.imp ps_doc fun D σ H ⟨σd, S, fr, Dd, ok, cl, h, k⟩ => k.nx σd σ H S ok h⟩
def dDrop (te : TED) : TSD := fun D σ S => te σ S fun _ S1 => D.nx σ S1
theorem ds_expr (he : DE X W e te) (hs : swapsWith e none pos.line X.env = pure false := by rfl) : DS X W (.Expr e pos) (dDrop te) :=
  ⟨PS.imp (ps_expr he.p hs) fun D σ H ⟨σd, S, fr, Dd, ok, cl, h, k⟩ => ⟨σd, S, fr, _, ok, cl, h, fun v d H' S' ok' r q => k.nx σd σ H' S' ok' q⟩⟩
def dRet (te : TED) : TSD := fun D σ S => te σ S D.rt
theorem ds_ret (he : DE X W e te) : DS X W (.Return (some e) pos) (dRet te) :=
  ⟨PS.imp (ps_ret he.p) fun D σ H ⟨σd, S, fr, Dd, ok, cl, h, k⟩ => ⟨σd, S, fr, _, ok, cl, h, fun v d H' S' ok' r q => k.rt v d σd σ H' S' ok' r q⟩⟩
/-- a return that lets an owned list go -/
def frzQ (Q : DK) (d : D) (S : Sd) : Prop := match d with
  | .obj a => match S a with
    | some (.lst ds) => Q (.lst ds) (del S a)
    | some (.ins C ns ds) => Q (.inst C ns ds) (del S a)
    | none => Q d S
  | _ => Q d S
def dRetF (te : TED) : TSD := fun D σ S => te σ S (frzQ D.rt)
theorem frz_ok {K : PySem.W.Frag} {H : Hp} {S : Sd} {fr : List (V × D)} {σd : Si} {σ : L2.St} {Q : DK} {d : D} {v : V} (ok : Ok K H S fr σd σ) (r : Rp K H S d v) (q : frzQ Q d S) :
    ∃ d' S', Ok K H S' fr σd σ ∧ Rp K H S' d' v ∧ Q d' S' := by
  cases d with
  | obj a =>
    have q' : (match S a with | some (.lst ds) => Q (.lst ds) (del S a) | some (.ins C ns ds) => Q (.inst C ns ds) (del S a) | none => Q (.obj a) S) := q
    have e : v = .ref a := r
    subst e
    split at q'
    · rename_i ds e
      exact ⟨_, _, ok.step step_del (rel_del ok.rel), rp_frozen ok.rel e, q'⟩
    · rename_i C ns ds e
      exact ⟨_, _, ok.step step_del (rel_del ok.rel), rp_frozenI ok.rel e, q'⟩
    · exact ⟨_, _, ok, r, q'⟩
  | _ => exact ⟨_, _, ok, r, q⟩
theorem ds_retF (he : DE X W e te) : DS X W (.Return (some e) pos) (dRetF te) :=
  ⟨PS.imp (ps_ret he.p) fun D σ H ⟨σd, S, fr, Dd, ok, cl, h, k⟩ => ⟨σd, S, fr, _, ok, cl, h, fun v d H' S' ok' r q => by
    obtain ⟨d2, S2, ok2, r2, q2⟩ := frz_ok ok' r q
    exact k.rt v d2 σd σ H' S2 ok2 r2 q2⟩⟩
def dRetN : TSD := fun D _ S => D.rt .non S
theorem ds_retN : DS X W (.Return none pos) dRetN := ⟨PS.imp ps_retN fun D σ H ⟨σd, S, fr, Dd, ok, cl, h, k⟩ => k.rt .non .non σd σ H S ok rfl h⟩
def dIfS (c : TTD) (t u : TSD) : TSD := fun D σ S => c σ S fun b S1 => if b = true then t D σ S1 else u D σ S1
theorem ds_if {a b : List Stmt} (hc : DT X W c tc) (ha : DB X W a t) (hb : DB X W b u) : DS X W (.If c a b pos) (dIfS tc t u) :=
  ⟨PS.imp (ps_if hc.p ha.p hb.p) fun D σ H ⟨σd, S, fr, Dd, ok, cl, h, k⟩ => ⟨σd, S, fr, _, ok, cl, h, fun b H1 S1 ok1 h1 => by
    cases b with
    | true => exact (show upSt X.K W t D σ H1 from ⟨σd, S1, fr, Dd, ok1, cl, (show t Dd σd S1 from by simpa using h1), k⟩)
    | false => exact (show upSt X.K W u D σ H1 from ⟨σd, S1, fr, Dd, ok1, cl, (show u Dd σd S1 from by simpa using h1), k⟩)⟩⟩

/-! ### targets -/
abbrev TGD := D → Si → Sd → (Si → Sd → Prop) → Prop
abbrev TGsD := List D → Si → Sd → (Si → Sd → Prop) → Prop
/-- vs: slots that may change -/
def upG (K : PySem.W.Frag) (W : Wi) (vs : List Nat) (t : TGD) : TG := fun v σ H Q => ∃ σd S fr Qd d, Ok K H S fr σd σ ∧ Cl K W fr ∧ Rp K H S d v ∧ t d σd S Qd ∧
  ∀ σ' σd' H' S', Ok K H' S' fr σd' σ' → wipe σ' vs = wipe σ vs → Qd σd' S' → Q σ' H'
def upGs (K : PySem.W.Frag) (W : Wi) (vs : List Nat) (t : TGsD) : TGs := fun us σ H Q => ∃ σd S fr Qd ds, Ok K H S fr σd σ ∧ Cl K W fr ∧ RpL K H S ds us ∧ t ds σd S Qd ∧
  ∀ σ' σd' H' S', Ok K H' S' fr σd' σ' → wipe σ' vs = wipe σ vs → Qd σd' S' → Q σ' H'
structure DG (X : Cx) (W : Wi) (vs : List Nat) (e : Expr) (t : TGD) : Prop where
  p : PG X e (upG X.K W vs t)
structure DGs (X : Cx) (W : Wi) (vs : List Nat) (es : List Expr) (t : TGsD) : Prop where
  p : PGs X es (upGs X.K W vs t)
theorem PG.imp {e : Expr} {t t' : TG} (h : PG X e t) (k : ∀ v σ H Q, t' v σ H Q → t v σ H Q) : PG X e t' := ⟨fun pins s σ H v u Q I r q => h.run pins s σ H v u Q I r (k _ _ _ _ q)⟩
theorem PGs.imp {e : List Expr} {t t' : TGs} (h : PGs X e t) (k : ∀ v σ H Q, t' v σ H Q → t v σ H Q) : PGs X e t' := ⟨fun pins s σ H v u Q I r q => h.run pins s σ H v u Q I r (k _ _ _ _ q)⟩
theorem wipe_set {σ : L2.St} {i : Nat} {x : Option V} : ∀ {vs : List Nat}, i ∈ vs → wipe (σ.set i x) vs = wipe σ vs
  | v :: vs, h => by
    unfold wipe
    by_cases hv : i ∈ vs
    · rw [wipe_set hv]
    · have e : i = v := by
        rcases List.mem_cons.mp h with e | e
        · exact e
        · exact absurd e hv
      subst e
      have gen : ∀ (ws : List Nat), i ∉ ws → wipe (σ.set i x) ws = (wipe σ ws).set i x := by
        intro ws
        induction ws with
        | nil => intro _; rfl
        | cons w ws ih =>
          intro hm
          have h1 : i ≠ w := fun e => hm (by rw [e]; exact List.mem_cons_self)
          have h2 : i ∉ ws := fun e => hm (List.mem_cons_of_mem _ e)
          show (wipe (σ.set i x) ws).set w none = ((wipe σ ws).set w none).set i x
          rw [ih h2, List.set_comm _ _ h1]
      rw [gen vs hv, List.set_set]
def dName (i : Nat) : TGD := fun d σ S Q => Q (σ.set i (some d)) S
theorem dg_name {vs : List Nat} {i : Nat} {x : Str} (hN : X.N.Nodup) (hi : X.N[i]? = some x) (hx : Loc X.env.scope x) (hv : i ∈ vs) (hf : X.fn x = true ∨ X.env.scope.names.lookup x = some .local := by first | exact .inl rfl | exact .inr rfl | assumption) :
    DG X W vs (.Name x pos) (dName i) := ⟨PG.imp (pg_name hN hi hx hf) fun v σ H Q ⟨σd, S, fr, Qd, d, ok, cl, r, h, k⟩ => k _ _ H S (ok.set r i) (wipe_set hv) h⟩
def dGNil : TGsD := fun ds σ S Q => match ds with
  | [] => Q σ S
  | _ => False
def dGCons (t : TGD) (u : TGsD) : TGsD := fun ds σ S Q => match ds with
  | d :: r => t d σ S fun σ' S' => u r σ' S' Q
  | [] => False
theorem dgs_nil {vs : List Nat} : DGs X W vs [] dGNil := ⟨PGs.imp pgs_nil fun v σ H Q ⟨σd, S, fr, Qd, ds, ok, cl, r, h, k⟩ => by
  cases ds with
  | nil => exact ⟨r, k σ σd H S ok rfl h⟩
  | cons d s => exact (show False from h).elim⟩
theorem dgs_cons {vs : List Nat} {es : List Expr} {t : TGD} {u : TGsD} (h1 : DG X W vs e t) (h2 : DGs X W vs es u) (hs : (assignEach (e :: es) X.env).map (·.2) = assign e X.env :: (assignEach es X.env).map (·.2) := by rfl) : DGs X W vs (e :: es) (dGCons t u) :=
  ⟨PGs.imp (pgs_cons h1.p h2.p hs) fun us σ H Q ⟨σd, S, fr, Qd, ds, ok, cl, r, h, k⟩ => by
    cases ds with
    | nil => exact (show False from h).elim
    | cons d s =>
      obtain ⟨v, ur, e1, r1, r2⟩ := r
      refine ⟨v, ur, e1, σd, S, (ur.zip s) ++ fr, fun σ' S' => u s σ' S' Qd, d, ?_, cl.pre, r1, h, fun σ' σd' H' S' ok' hw q => ?_⟩
      · refine ⟨ok.rel, fun p hp => ?_, ok.len, ok.si⟩
        rcases List.mem_append.mp hp with hp | hp
        · obtain ⟨i, hi⟩ := List.mem_iff_getElem?.mp hp
          rw [List.getElem?_zip_eq_some] at hi
          obtain ⟨w, q1, q2⟩ := rpL_get r2 hi.2
          rw [hi.1] at q1
          cases q1
          exact q2
        · exact ok.fr p hp
      · refine ⟨σd', S', fr, Qd, s, ok'.pre, cl, ?_, q, fun σ2 σd2 H2 S2 ok2 hw2 q2 => k σ2 σd2 H2 S2 ok2 (hw2.trans hw) q2⟩
        have hl := rpL_len r2
        have gen : ∀ (s : List D) (ur : List V), s.length = ur.length → (∀ p ∈ ur.zip s, Rp X.K H' S' p.2 p.1) → RpL X.K H' S' s ur := by
          intro s
          induction s with
          | nil => intro ur hl _; exact List.length_eq_zero_iff.mp hl.symm
          | cons d s ih =>
            intro ur hl hz
            cases ur with
            | nil => cases hl
            | cons w ur =>
              refine ⟨w, ur, rfl, hz (w, d) (by simp), ih ur (by simpa using hl) fun p hp => hz p ?_⟩
              rw [List.zip_cons_cons]
              exact List.mem_cons_of_mem _ hp
        exact gen s ur hl fun p hp => ok'.fr p (List.mem_append_left _ hp)⟩
/-- (a, b, ..) = a tuple or a list of that length -/
def dTupG (n : Nat) (t : TGsD) : TGD := fun d σ S Q => match d with
  | .tup ds => ds.length = n ∧ t ds σ S Q
  | _ => False
theorem dg_tup {vs : List Nat} {es : List Expr} {k : Nat} {t : TGsD} {n : Nat} (hc : X.calm = true) (h : DGs X W vs es t) (hn : (assignEach es X.env).length = n := by rfl) (hst : (assignEach es X.env).findIdx? (·.1) = none := by rfl) :
    DG X W vs (.Tuple es k pos) (dTupG n t) := ⟨PG.imp (pg_tup hc h.p hn hst) fun v σ H Q ⟨σd, S, fr, Qd, d, ok, cl, r, q, k⟩ => by
  cases d with
  | tup ds =>
    obtain ⟨a, vs, e, q1, r1⟩ := r
    exact ⟨a, vs, e, q1, (rpL_len r1).symm.trans q.1, σd, S, fr, Qd, ds, ok, cl, r1, q.2, k⟩
  | _ => exact (show False from q).elim⟩
def dAsg (te : TED) (g : TGD) : TSD := fun D σ S => te σ S fun x S1 => g x σ S1 D.nx
theorem ds_asg {vs : List Nat} {tg : Expr} {g : TGD} (he : DE X W e te) (hg : DG X W vs tg g) (hs : swapsWithSole [tg] e pos.line X.env = pure false := by rfl) (hw : swappedStores [tg] e X.env = pure none := by rfl)
    (h1 : (assignEach [tg] X.env).map (·.2) = [assign tg X.env] := by rfl) : DS X W (.Assign [tg] e pos) (dAsg te g) :=
  ⟨PS.imp (ps_asg he.p hg.p hs hw h1) fun D σ H ⟨σd, S, fr, Dd, ok, cl, h, k⟩ => ⟨σd, S, fr, _, ok, cl, h, fun v d H1 S1 ok1 r1 q => ⟨σd, S1, fr, Dd.nx, d, ok1, cl, r1, q, fun σ' σd' H' S' ok' _ q' => k.nx σd' σ' H' S' ok' q'⟩⟩⟩
def dSet (i : Nat) (te : TED) : TSD := fun D σ S => te σ S fun x S1 => D.nx (σ.set i (some x)) S1
theorem ds_set (i : Nat) {x : Str} {pos' : Pos} (hN : X.N.Nodup) (hi : X.N[i]? = some x) (hx : Loc X.env.scope x) (he : DE X W e te) (hs : swapsWith e (some (.Name x pos')) pos.line X.env = pure false := by rfl)
    (hf : X.fn x = true ∨ X.env.scope.names.lookup x = some .local := by first | exact .inl rfl | exact .inr rfl | assumption) : DS X W (.Assign [.Name x pos'] e pos) (dSet i te) :=
  ⟨PS.imp (ps_set hN hi hx he.p hs hf) fun D σ H ⟨σd, S, fr, Dd, ok, cl, h, k⟩ => ⟨σd, S, fr, _, ok, cl, h, fun v d H1 S1 ok1 r1 q => k.nx _ _ H1 S1 (ok1.set r1 i) q⟩⟩
/-- a, b = x, y -/
def dPar (i j : Nat) (ta : TAD) : TSD := fun D σ S => ta σ S fun vs S1 => match vs with
  | [v, w] => D.nx ((σ.set i (some v)).set j (some w)) S1
  | _ => False
theorem ds_par (i j : Nat) {x y : Str} {a b : Expr} {ta : TAD} {px py pt : Pos} {kt k2 pt2} (hc : X.calm = true) (hN : X.N.Nodup) (hi : X.N[i]? = some x) (hj : X.N[j]? = some y) (hij : i ≠ j)
    (hx : X.env.scope.names.lookup x = some .local) (hy : X.env.scope.names.lookup y = some .local) (ha : DA X W [a, b] ta) (hw : swappedStores [.Tuple [.Name x px, .Name y py] kt pt] (.Tuple [a, b] k2 pt2) X.env = pure (some [x, y]))
    (hs : swapsWithSole [.Tuple [.Name x px, .Name y py] kt pt] (.Tuple [a, b] k2 pt2) pos.line X.env = pure false := by rfl) :
    DS X W (.Assign [.Tuple [.Name x px, .Name y py] kt pt] (.Tuple [a, b] k2 pt2) pos) (dPar i j ta) :=
  ⟨PS.imp (ps_par hc hN hi hj hij hx hy ha.p hw hs) fun D σ H ⟨σd, S, fr, Dd, ok, cl, h, k⟩ => ⟨σd, S, fr, _, ok, cl, h, fun vs ds H1 S1 ok1 r1 q => by
    cases ds with
    | nil => exact (show False from q).elim
    | cons d r => cases r with
      | nil => exact (show False from q).elim
      | cons d2 r => cases r with
        | cons _ _ => exact (show False from q).elim
        | nil =>
          obtain ⟨v, w, rfl, h1, h2⟩ := rpL2 r1
          exact ⟨v, w, rfl, k.nx _ _ H1 S1 ((ok1.set h1 i).set h2 j) q⟩⟩⟩
/-- x op= e -/
def dAug (i : Nat) (te : TED) (rd : RD2) : TSD := fun D σ S => match σ[i]? with
  | some (some x) => te σ S fun y S1 => rd x y S1 fun z S2 => D.nx (σ.set i (some z)) S2
  | _ => False
theorem ds_aug (i : Nat) {x : Str} {op : Operator} {rd : RD2} {pos' : Pos} (hN : X.N.Nodup) (hi : X.N[i]? = some x) (hx : Loc X.env.scope x) (he : DE X W e te) (ho : OpD X (inplaceOp op) rd)
    (hf : X.fn x = true ∨ X.env.scope.names.lookup x = some .local := by first | exact .inl rfl | exact .inr rfl | assumption) : DS X W (.AugAssign (.Name x pos') op e pos) (dAug i te rd) := by
  obtain ⟨r, ho, l⟩ := ho
  refine ⟨PS.imp (ps_aug hN hi hx he.p (ti := r) ho hf) fun D σ H ⟨σd, S, fr, Dd, ok, cl, h, k⟩ => ?_⟩
  have h' : (match σd[i]? with | some (some x) => te σd S fun y S1 => rd x y S1 fun z S2 => Dd.nx (σd.set i (some z)) S2 | _ => False) := h
  split at h'
  · rename_i dx e0
    obtain ⟨v, e1, r1⟩ := ok.si i dx e0
    refine ⟨v, e1, σd, S, (v, dx) :: fr, _, ok.cons r1, cl.tail, h', fun y dy H1 S1 ok1 ry q => ?_⟩
    exact l H1 S1 fr σd σ v y dx dy _ _ ok1.tail ok1.head ry q fun z dz H2 S2 ok2 rz q2 => k.nx _ _ H2 S2 (ok2.set rz i) q2
  · exact h'.elim
/-- l[k] = e, l an owned list -/
def setQ (S : Sd) (k : D) (v : D) (Q : Sd → Prop) : D → Prop
  | .obj a => match S a, k with
    | some (.lst ds), .int i => match ixN ds.length i with
      | some j => Q (upS S a (.lst (ds.set j v)))
      | none => False
    | _, _ => False
  | _ => False
theorem setQ_inv {S : Sd} {k v o : D} {Q : Sd → Prop} (h : setQ S k v Q o) : ∃ a ds i j, o = .obj a ∧ S a = some (.lst ds) ∧ k = .int i ∧ ixN ds.length i = some j ∧ Q (upS S a (.lst (ds.set j v))) := by
  cases o with
  | obj a =>
    unfold setQ at h
    dsimp only at h
    split at h
    · rename_i x y ds i e
      split at h
      · rename_i j ej
        exact ⟨a, ds, i, j, rfl, e, rfl, ej, h⟩
      · exact h.elim
    · exact h.elim
  | _ => exact (show False from h).elim
def dStore (to ti te : TED) : TSD := fun D σ S => te σ S fun v S1 => to σ S1 fun o S2 => ti σ S2 fun k S3 => setQ S3 k v (D.nx σ) o
theorem ds_store {o i : Expr} {to ti : TED} {spos : Pos} (ho : DE X W o to) (hi : DE X W i ti) (he : DE X W e te) (ha : ∀ v, assign (.Subscript o i spos) X.env v = (do
      let ov ← holding [v] (eval o X.env)
      let iv ← holding [v, ov] (eval i X.env)
      standAt spos
      holding [v, ov, iv] (setItem ov iv v)
      release [v, ov, iv] []) := by intro _; rfl) (hs : swapsWithSole [.Subscript o i spos] e pos.line X.env = pure false := by rfl) (hw : swappedStores [.Subscript o i spos] e X.env = pure none := by rfl)
    (h1 : (assignEach [.Subscript o i spos] X.env).map (·.2) = [assign (.Subscript o i spos) X.env] := by rfl) : DS X W (.Assign [.Subscript o i spos] e pos) (dStore to ti te) :=
  ⟨PS.imp (ps_asg he.p (pg_sub ho.p hi.p set_list ha) hs hw h1) fun D σ H ⟨σd, S, fr, Dd, ok, cl, h, k⟩ => ⟨σd, S, fr, _, ok, cl, h, fun v d H1 S1 ok1 r1 q =>
    ⟨σd, S1, (v, d) :: fr, _, ok1.cons r1, cl.tail, q, fun ov od H2 S2 ok2 r2 q => ⟨σd, S2, (ov, od) :: (v, d) :: fr, _, ok2.cons r2, cl.tail.tail, q, fun kv kd H3 S3 ok3 r3 q => by
      obtain ⟨a, ds, n, j, e1, e2, e3, e4, q5⟩ := setQ_inv q
      have ro := ok3.head
      have rv := ok3.tail.head
      have ok4 := ok3.tail.tail
      subst e1 e3
      obtain ⟨vs, hv, rl⟩ := rp_obj ok4.rel e2
      refine ⟨a, vs, n, j, ro, r3, hv, by rw [← rpL_len rl]; exact e4, ?_⟩
      have st : Step H3 S3 (upd H3 a (.lst (vs.set j v))) (upS S3 a (.lst (ds.set j d))) := step_set e2
      exact k.nx σd σ _ _ (ok4.step st (rel_set ok4.rel e2 ⟨_, upd_same, rpL_step ok4.rel st _ _ (rpL_set j rl rv)⟩)) q5⟩⟩⟩⟩
/-- l.append(e), l an owned list -/
def appQ (S : Sd) (v : D) (Q : DK) : D → Prop
  | .obj a => match S a with
    | some (.lst ds) => ds.length < 16777216 ∧ Q .non (upS S a (.lst (ds ++ [v])))
    | _ => False
  | _ => False
theorem appQ_inv {S : Sd} {v o : D} {Q : DK} (h : appQ S v Q o) : ∃ a ds, o = .obj a ∧ S a = some (.lst ds) ∧ ds.length < 16777216 ∧ Q .non (upS S a (.lst (ds ++ [v]))) := by
  cases o with
  | obj a =>
    unfold appQ at h
    dsimp only at h
    split at h
    · rename_i ds e
      exact ⟨a, ds, rfl, e, h.1, h.2⟩
    · exact h.elim
  | _ => exact (show False from h).elim
/-! ### methods of built-in types -/
def tyM (T : String) (d : D) (S : Sd) : Prop := match d with
  | .str _ => T = "str"
  | .int _ => T = "int"
  | .lst ds => T = "list"
  | .obj a => T = "list" ∧ ∃ ds, S a = some (.lst ds)
  | _ => False
theorem tyM_V {K : PySem.W.Frag} {H : Hp} {S : Sd} {d : D} {v : V} {T : String} (R : RelS K H S) (r : Rp K H S d v) (t : tyM T d S) : tyV K T v H := by
  cases d with
  | str x => have e : v = .str x := r; subst e; exact t
  | int x => have e : v = .int x := r; subst e; exact t
  | lst ds =>
    obtain ⟨a, vs, rfl, q, _⟩ := rp_list R r
    exact .inl ⟨t, vs, q⟩
  | obj a =>
    obtain ⟨t, ds, e⟩ := t
    obtain ⟨vs, q, _⟩ := rp_obj R e
    have e : v = .ref a := r
    subst e
    exact .inl ⟨t, vs, SqL.of q⟩
  | _ => exact (show False from t).elim
abbrev RDM := D → List D → Sd → DK → Prop
def LiftM (K : PySem.W.Frag) (r : V → List V → Hp → VK → Prop) (rd : RDM) : Prop := ∀ H S fr σd σ x dx xs ds Qv Qd, Ok K H S fr σd σ → Rp K H S dx x → RpL K H S ds xs → rd dx ds S Qd →
  (∀ v d H' S', Ok K H' S' fr σd σ → Rp K H' S' d v → Qd d S' → Qv v H') → r x xs H Qv
def dBM (T : String) (rd : RDM) (to : TED) (t : TAD) : TED := fun σ S Q => to σ S fun o S1 => tyM T o S1 ∧ t σ S1 fun vs S2 => rd o vs S2 Q
def dBM0 (T : String) (rd : RDM) (to : TED) : TED := fun σ S Q => to σ S fun o S1 => tyM T o S1 ∧ rd o [] S1 Q
theorem de_bm {o : Expr} {to : TED} {es : List Expr} {t : TAD} {T id : String} {name : Str} {apos cpos : Pos} {r : V → List V → Hp → VK → Prop} {rd : RDM} (pa : PlainAttrs T) (slot : Slot T name id) (hty : typeOf (.builtin id) = pure (.type "method_descriptor")) (hm : MtR X id r) (l : LiftM X.K r rd)
    (ho : DE X W o to) (ha : DA X W (e :: es) t) (hbase : attributeBase o name X.env (eval o X.env) = eval o X.env := by rfl)
    (hfew : ((backTo cpos (starEach (e :: es) X.env)).all (fun x => !x.1) && (backToKw cpos (keywordEach [] X.env)).all (fun x => x.1.isSome)
      && decide ((e :: es).length + ([] : List Keyword).length + (if ([] : List Keyword).isEmpty then 0 else 1) < 30)) = true := by rfl)
    (hline : (apos.endLine == cpos.line) = true := by rfl) (hs : starEach (e :: es) X.env = (false, eval e X.env) :: starEach es X.env := by rfl) (hplain : (backTo cpos (starEach es X.env)).any (·.1) = false := by rfl) :
    DE X W (.Call (.Attribute o name apos) (e :: es) [] cpos) (dBM T rd to t) :=
  ⟨PE.imp (pe_bm pa slot hty hm ho.p ha.p hbase hfew hline hs hplain) fun σ H Q ⟨σd, S, fr, Qd, ok, cl, h, k⟩ =>
    ⟨σd, S, fr, _, ok, cl, h, fun x dx H1 S1 ok1 r1 q => ⟨tyM_V ok1.rel r1 q.1, σd, S1, (x, dx) :: fr, _, ok1.cons r1, cl.tail, q.2, fun vs ds H2 S2 ok2 r2 q2 =>
      l H2 S2 fr σd σ x dx vs ds Q Qd ok2.tail ok2.head r2 q2 k⟩⟩⟩
theorem de_bm0 {o : Expr} {to : TED} {T id : String} {name : Str} {apos cpos : Pos} {r : V → List V → Hp → VK → Prop} {rd : RDM} (pa : PlainAttrs T) (slot : Slot T name id) (hty : typeOf (.builtin id) = pure (.type "method_descriptor")) (hm : MtR X id r) (l : LiftM X.K r rd)
    (ho : DE X W o to) (hbase : attributeBase o name X.env (eval o X.env) = eval o X.env := by rfl) (hline : (apos.endLine == cpos.line) = true := by rfl) : DE X W (.Call (.Attribute o name apos) [] [] cpos) (dBM0 T rd to) :=
  ⟨PE.imp (pe_bm0 pa slot hty hm ho.p hbase hline) fun σ H Q ⟨σd, S, fr, Qd, ok, cl, h, k⟩ =>
    ⟨σd, S, fr, _, ok, cl, h, fun x dx H1 S1 ok1 r1 q => ⟨tyM_V ok1.rel r1 q.1, l H1 S1 fr σd σ x dx [] [] Q Qd ok1 r1 rfl q.2 k⟩⟩⟩
def rdApp : RDM := fun o vs S Q => match vs with
  | [v] => appQ S v Q o
  | _ => False
theorem app_lift {K : PySem.W.Frag} : LiftM K rAppend rdApp := fun H S fr σd σ x dx xs ds Qv Qd ok rx rs h k => by
  cases ds with
  | nil => exact (show False from h).elim
  | cons d r => cases r with
    | cons _ _ => exact (show False from h).elim
    | nil =>
      obtain ⟨a, ds, e1, e2, hl, q⟩ := appQ_inv (show appQ S d Qd dx from h)
      subst e1
      obtain ⟨v, rfl, r1⟩ := rpL1 rs
      obtain ⟨vs, hv, rl⟩ := rp_obj ok.rel e2
      have st : Step H S (upd H a (.lst (vs ++ [v]))) (upS S a (.lst (ds ++ [d]))) := step_set e2
      exact ⟨a, vs, v, rx, rfl, hv, by rw [← rpL_len rl]; exact sz_lt' hl, k _ .non _ _ (ok.step st (rel_set ok.rel e2 ⟨_, upd_same, rpL_step ok.rel st _ _ (rpL_app rl (rpL_cons r1 rpL_nil))⟩)) rfl q⟩
theorem de_app {o : Expr} {to : TED} {es : List Expr} {t : TAD} {apos cpos : Pos} (ho : DE X W o to) (ha : DA X W (e :: es) t) (hbase : attributeBase o "append" X.env (eval o X.env) = eval o X.env := by rfl)
    (hfew : ((backTo cpos (starEach (e :: es) X.env)).all (fun x => !x.1) && (backToKw cpos (keywordEach [] X.env)).all (fun x => x.1.isSome)
      && decide ((e :: es).length + ([] : List Keyword).length + (if ([] : List Keyword).isEmpty then 0 else 1) < 30)) = true := by rfl)
    (hline : (apos.endLine == cpos.line) = true := by rfl) (hs : starEach (e :: es) X.env = (false, eval e X.env) :: starEach es X.env := by rfl) (hplain : (backTo cpos (starEach es X.env)).any (·.1) = false := by rfl) :
    DE X W (.Call (.Attribute o "append" apos) (e :: es) [] cpos) (dBM "list" rdApp to t) :=
  de_bm PySem.F.plainAttrs_list PySem.F.slot_list_append PySem.F.type_list_append mt_append app_lift ho ha hbase hfew hline hs hplain

/-! ### what a loop walks -/
structure ItD (K : PySem.W.Frag) (J : It) (xs : List D) (fr : List (V × D)) : Prop where
  go : ∀ (i : Nat) (d : D), xs[i]? = some d → ∀ H S σd σ, Ok K H S fr σd σ → J.go i H ∧ ∀ x H', J.yld i H x H' → Ok K H' S fr σd σ ∧ Rp K H' S d x
  stop : ∀ H S σd σ, Ok K H S fr σd σ → J.stop xs.length H
abbrev TID := Si → Sd → (List D → Sd → Prop) → Prop
def upI (K : PySem.W.Frag) (W : Wi) (t : TID) : TI := fun σ H R => ∃ σd S fr Rd, Ok K H S fr σd σ ∧ Cl K W fr ∧ t σd S Rd ∧ ∀ J xs H' S' fr', Ok K H' S' (fr' ++ fr) σd σ → ItD K J xs (fr' ++ fr) → Rd xs S' → R J H'
structure DI (X : Cx) (W : Wi) (tg iter : Expr) (t : TID) : Prop where
  p : PI X tg iter (upI X.K W t)
theorem PI.imp {tg iter : Expr} {t t' : TI} (h : PI X tg iter t) (k : ∀ σ H Q, t' σ H Q → t σ H Q) : PI X tg iter t' := ⟨fun pins s σ H Q I q => h.run pins s σ H Q I (k _ _ _ q)⟩
theorem itd_list {K : PySem.W.Frag} {a : Addr} {ds : List D} {fr : List (V × D)} : ItD K (Itl K a) ds ((.ref a, .lst ds) :: fr) where
  go := fun i d e H S σd σ ok => by
    obtain ⟨a', vs, e1, q, r⟩ := rp_list ok.rel ok.head
    have e1' : V.ref a = .ref a' := e1
    cases e1'
    obtain ⟨v, h1, h2⟩ := rpL_get r e
    refine ⟨⟨vs, v, q, h1⟩, fun x H' y => ?_⟩
    obtain ⟨e2, y⟩ := y
    subst e2
    have h3 := y vs q
    rw [h1] at h3
    cases h3
    exact ⟨ok, h2⟩
  stop := fun H S σd σ ok => by
    obtain ⟨a', vs, e1, q, r⟩ := rp_list ok.rel ok.head
    have e1' : V.ref a = .ref a' := e1
    cases e1'
    exact ⟨vs, q, by rw [rpL_len r]; exact Nat.le_refl _⟩
theorem itd_tup {K : PySem.W.Frag} {a : Addr} {ds : List D} {fr : List (V × D)} : ItD K (Itt K a) ds ((.ref a, .tup ds) :: fr) where
  go := fun i d e H S σd σ ok => by
    obtain ⟨a', vs, e1, q, r⟩ := ok.head
    have e1' : V.ref a = .ref a' := e1
    cases e1'
    obtain ⟨v, h1, h2⟩ := rpL_get r e
    refine ⟨⟨vs, v, q, h1⟩, fun x H' y => ?_⟩
    obtain ⟨e2, y⟩ := y
    subst e2
    have h3 := y vs q
    rw [h1] at h3
    cases h3
    exact ⟨ok, h2⟩
  stop := fun H S σd σ ok => by
    obtain ⟨a', vs, e1, q, r⟩ := ok.head
    have e1' : V.ref a = .ref a' := e1
    cases e1'
    exact ⟨vs, q, by rw [rpL_len r]; exact Nat.le_refl _⟩
def rgD (lo : Int) (n : Nat) : List D := (List.range n).map fun (i : Nat) => D.int (lo + i)
theorem itd_rng {K : PySem.W.Frag} {lo : Int} {n : Nat} {fr : List (V × D)} : ItD K (Itr lo n) (rgD lo n) fr where
  go := fun i d e H S σd σ ok => by
    unfold rgD at e
    rw [List.getElem?_map] at e
    cases q : (List.range n)[i]? with
    | none => rw [q] at e; cases e
    | some j =>
      rw [q] at e
      cases e
      obtain ⟨h1, h2⟩ := List.getElem?_eq_some_iff.mp q
      rw [List.getElem_range] at h2
      subst h2
      refine ⟨show i < n by simpa using h1, fun x H' y => ?_⟩
      obtain ⟨e2, y⟩ := y
      subst e2
      subst y
      exact ⟨ok, rfl⟩
  stop := fun H S σd σ ok => by
    unfold rgD
    rw [List.length_map, List.length_range]
    exact Nat.le_refl n
/-- over a list or a tuple that stands still -/
def dIter (te : TED) : TID := fun σ S R => te σ S fun x S1 => match x with
  | .lst ds => R ds S1
  | _ => False
def dIterT (te : TED) : TID := fun σ S R => te σ S fun x S1 => match x with
  | .tup ds => R ds S1
  | _ => False
theorem di_list {tg l : Expr} (hl : DE X W l te) : DI X W tg l (dIter te) := ⟨PI.imp (pi_list hl.p) fun σ H R ⟨σd, S, fr, Rd, ok, cl, h, k⟩ => ⟨σd, S, fr, _, ok, cl, h, fun x dx H1 S1 ok1 r1 q => by
  cases dx with
  | lst ds =>
    obtain ⟨a, vs, e, q1, r2⟩ := rp_list ok1.rel r1
    subst e
    exact ⟨a, rfl, ⟨vs, q1⟩, k _ ds H1 S1 [(.ref a, .lst ds)] (ok1.cons r1) itd_list q⟩
  | _ => exact (show False from q).elim⟩⟩
theorem di_tup {tg l : Expr} (hl : DE X W l te) : DI X W tg l (dIterT te) := ⟨PI.imp (pi_tup hl.p) fun σ H R ⟨σd, S, fr, Rd, ok, cl, h, k⟩ => ⟨σd, S, fr, _, ok, cl, h, fun x dx H1 S1 ok1 r1 q => by
  cases dx with
  | tup ds =>
    obtain ⟨a, vs, e, q1, r2⟩ := id r1
    subst e
    exact ⟨a, rfl, ⟨vs, q1⟩, k _ ds H1 S1 [(.ref a, .tup ds)] (ok1.cons r1) itd_tup q⟩
  | _ => exact (show False from q).elim⟩⟩
def dRng1 (ta : TAD) : TID := fun σ S R => ta σ S fun xs S1 => match xs with
  | [.int j] => (-(2 ^ 62) ≤ j ∧ j < 2 ^ 62) ∧ R (rgD 0 j.toNat) S1
  | _ => False
def dRng2 (ta : TAD) : TID := fun σ S R => ta σ S fun xs S1 => match xs with
  | [.int i, .int j] => (-(2 ^ 62) ≤ i ∧ i < 2 ^ 62 ∧ -(2 ^ 62) ≤ j ∧ j < 2 ^ 62) ∧ R (rgD i (j - i).toNat) S1
  | _ => False
theorem di_rng1 {a tg : Expr} {ta : TAD} {p pos : Pos} (hg : Gl X "range") (hm : X.mg "range" = none) (ha : DA X W [a] ta) (hs : starEach [a] X.env = [(false, eval a X.env)] := by rfl) : DI X W tg (.Call (.Name "range" p) [a] [] pos) (dRng1 ta) :=
  ⟨PI.imp (pi_range1 hg hm ha.p hs) fun σ H R ⟨σd, S, fr, Rd, ok, cl, h, k⟩ => ⟨σd, S, fr, _, ok, cl, h, fun vs ds H1 S1 ok1 r1 q => by
    cases ds with
    | nil => exact (show False from q).elim
    | cons d r => cases r with
      | cons _ _ => cases d <;> exact (show False from q).elim
      | nil => cases d with
        | int j =>
          obtain ⟨v, rfl, r2⟩ := rpL1 r1
          have e : v = .int j := r2
          subst e
          exact ⟨j, rfl, q.1.1, q.1.2, k _ _ H1 S1 [] ok1 itd_rng q.2⟩
        | _ => exact (show False from q).elim⟩⟩
theorem di_rng2 {a b tg : Expr} {ta : TAD} {p pos : Pos} (hg : Gl X "range") (hm : X.mg "range" = none) (ha : DA X W [a, b] ta) (hs : starEach [a, b] X.env = [(false, eval a X.env), (false, eval b X.env)] := by rfl) (hs2 : starEach [b] X.env = [(false, eval b X.env)] := by rfl) : DI X W tg (.Call (.Name "range" p) [a, b] [] pos) (dRng2 ta) :=
  ⟨PI.imp (pi_range2 hg hm ha.p hs hs2) fun σ H R ⟨σd, S, fr, Rd, ok, cl, h, k⟩ => ⟨σd, S, fr, _, ok, cl, h, fun vs ds H1 S1 ok1 r1 q => by
    cases ds with
    | nil => exact (show False from q).elim
    | cons d r => cases r with
      | nil => cases d <;> exact (show False from q).elim
      | cons d2 r => cases r with
        | cons _ _ => cases d <;> cases d2 <;> exact (show False from q).elim
        | nil => cases d with
          | int i => cases d2 with
            | int j =>
              obtain ⟨v, w, rfl, r2, r3⟩ := rpL2 r1
              have e : v = .int i := r2
              have e2 : w = .int j := r3
              subst e e2
              exact ⟨i, j, rfl, q.1, k _ _ H1 S1 [] ok1 itd_rng q.2⟩
            | _ => exact (show False from q).elim
          | _ => cases d2 <;> exact (show False from q).elim⟩⟩

/-! ### for -/
def dLoop (g : TGD) (tb : TSD) (D : EndsD) : List Dv.D → Si → Sd → Prop
  | [], σ, S => D.nx σ S
  | x :: r, σ, S => g x σ S fun σ2 S2 => tb { D with nx := dLoop g tb D r, ct := dLoop g tb D r, bk := D.nx } σ2 S2
def dFor (ti : TID) (g : TGD) (tb : TSD) : TSD := fun D σ S => ti σ S fun xs S1 => dLoop g tb D xs σ S1
theorem ds_for {vs : List Nat} {tg iter : Expr} {body : List Stmt} {ti : TID} {g : TGD} {tb : TSD} (hp : PassesOwn (model X.prog X.w) X.A X.env X.xe) (hc : X.calm = true) (hi : DI X W tg iter ti) (hg : DG X W vs tg g) (hb : DB X W body tb)
    (hs : ∀ x, foldedSetIterable iter X.env x = pure x := by intro _; rfl) : DS X W (.For tg iter body [] pos) (dFor ti g tb) :=
  ⟨PS.imp (ps_for hp hc hi.p hg.p hb.p hs) fun D σ H ⟨σd, S, fr, Dd, ok, cl, h, k⟩ => ⟨σd, S, fr, _, ok, cl, h, fun J xs H1 S1 fr' ok1 it q => by
    refine ⟨fun i m σ' H' => m = xs.length - i ∧ i ≤ xs.length ∧ ∃ σd' S', Ok X.K H' S' (fr' ++ fr) σd' σ' ∧ dLoop g tb Dd (xs.drop i) σd' S', ⟨_, rfl, Nat.zero_le _, σd, S1, ok1, by simpa using q⟩, ?_⟩
    rintro i m σ' H' ⟨rfl, hi, σd', S', ok', q'⟩
    by_cases hlt : i < xs.length
    · have ex : xs[i]? = some xs[i] := List.getElem?_eq_getElem hlt
      have dr : xs.drop i = xs[i] :: xs.drop (i + 1) := List.drop_eq_getElem_cons hlt
      rw [dr] at q'
      obtain ⟨g1, g2⟩ := it.go i _ ex H' S' σd' σ' ok'
      refine .inr ⟨g1, fun σ2 H2 => ∃ σd2 S2, Ok X.K H2 S2 (fr' ++ fr) σd2 σ2 ∧ dLoop g tb Dd (xs.drop (i + 1)) σd2 S2, fun σ2 H2 ⟨σd2, S2, h1, h2⟩ => ⟨_, by omega, rfl, hlt, σd2, S2, h1, h2⟩, fun x H2 y => ?_⟩
      obtain ⟨ok2, r2⟩ := g2 x H2 y
      refine ⟨σd', S', fr' ++ fr, _, xs[i], ok2, cl.pre, r2, q', fun σ3 σd3 H3 S3 ok3 _ q3 => ⟨σd3, S3, fr' ++ fr, _, ok3, cl.pre, q3, ?_⟩⟩
      exact ⟨fun σd4 σ4 H4 S4 ok4 q4 => ⟨σd4, S4, ok4, q4⟩, fun v d σd4 σ4 H4 S4 ok4 r4 q4 => k.rt v d σd4 σ4 H4 S4 ok4.pre r4 q4, fun σd4 σ4 H4 S4 ok4 q4 => k.nx σd4 σ4 H4 S4 ok4.pre q4, fun σd4 σ4 H4 S4 ok4 q4 => ⟨σd4, S4, ok4, q4⟩⟩
    · have e : i = xs.length := by omega
      subst e
      rw [List.drop_length] at q'
      exact .inl ⟨it.stop H' S' σd' σ' ok', k.nx σd' σ' H' S' ok'.pre q'⟩⟩⟩

/-! ### while -/
def dWhile (c : TTD) (tb : TSD) : TSD := fun D σ S => ∃ Wd : Nat → Si → Sd → Prop, (∃ m, Wd m σ S) ∧ ∀ m σ S, Wd m σ S →
  c σ S fun b S1 => if b = true then tb { D with nx := fun σ' S' => ∃ m', m' < m ∧ Wd m' σ' S', ct := fun σ' S' => ∃ m', m' < m ∧ Wd m' σ' S', bk := D.nx } σ S1 else D.nx σ S1
theorem ds_while {body : List Stmt} {tb : TSD} (hp : PassesOwn (model X.prog X.w) X.A X.env X.xe) (hc : DT X W c tc) (hb : DB X W body tb) : DS X W (.While c body [] pos) (dWhile tc tb) :=
  ⟨PS.imp (ps_while hp hc.p hb.p) fun D σ H ⟨σd, S, fr, Dd, ok, cl, ⟨Wd, ⟨m, w⟩, hw⟩, k⟩ =>
    ⟨fun m σ' H' => ∃ σd' S', Ok X.K H' S' fr σd' σ' ∧ Wd m σd' S', ⟨m, σd, S, ok, w⟩, fun m σ' H' ⟨σd', S', ok', w'⟩ => ⟨σd', S', fr, _, ok', cl, hw m σd' S' w', fun b H1 S1 ok1 q => by
      cases b with
      | true =>
        refine (show ∃ N : L2.St → Hp → Prop, _ from ⟨fun σ2 H2 => ∃ m' σd2 S2, m' < m ∧ Ok X.K H2 S2 fr σd2 σ2 ∧ Wd m' σd2 S2, fun σ2 H2 ⟨m', σd2, S2, h1, h2, h3⟩ => ⟨m', h1, σd2, S2, h2, h3⟩, σd', S1, fr, _, ok1, cl, (if_pos rfl : _ = _) ▸ q, ?_⟩)
        exact ⟨fun σd4 σ4 H4 S4 ok4 ⟨m', h1, h2⟩ => ⟨m', σd4, S4, h1, ok4, h2⟩, k.rt, k.nx, fun σd4 σ4 H4 S4 ok4 ⟨m', h1, h2⟩ => ⟨m', σd4, S4, h1, ok4, h2⟩⟩
      | false => exact (show D.nx σ' H1 from k.nx σd' σ' H1 S1 ok1 (by simpa using q))⟩⟩⟩
end
end Dv

/-! Readings by value, 5: comprehensions, defs, the law's end. -/
namespace Dv
open PySem L2 PyProof.Rows

def wipeD (σ : Si) : List Nat → Si
  | [] => σ
  | v :: vs => (wipeD σ vs).set v none
section
variable {K : PySem.W.Frag} {H : Hp} {S : Sd} {fr : List (V × D)} {σd : Si} {σ : L2.St}
theorem Ok.wipe (o : Ok K H S fr σd σ) : ∀ vs : List Nat, Ok K H S fr (wipeD σd vs) (L2.wipe σ vs)
  | [] => o
  | v :: vs => (Ok.wipe o vs).gone v none
theorem wipe_wipe (σ : L2.St) (vs : List Nat) : L2.wipe (L2.wipe σ vs) vs = L2.wipe σ vs := by
  have gen : ∀ (ws : List Nat), (∀ w ∈ ws, w ∈ vs) → L2.wipe (L2.wipe σ ws) vs = L2.wipe σ vs := by
    intro ws
    induction ws with
    | nil => intro _; rfl
    | cons w ws ih =>
      intro h
      show L2.wipe ((L2.wipe σ ws).set w none) vs = L2.wipe σ vs
      rw [wipe_set (h w List.mem_cons_self)]
      exact ih fun x hx => h x (List.mem_cons_of_mem _ hx)
  exact gen vs fun _ h => h
end

section
variable {X : Cx} {W : Wi} {pos : Pos}
structure DTs (X : Cx) (W : Wi) (ifs : List Expr) (t : TTD) : Prop where
  p : PTs X ifs (upT X.K W t)
theorem PTs.imp {ifs : List Expr} {t t' : TT} (h : PTs X ifs t) (k : ∀ σ H Q, t' σ H Q → t σ H Q) : PTs X ifs t' := ⟨fun pins s σ H Q I q => h.run pins s σ H Q I (k _ _ _ q)⟩
def dYes : TTD := fun _ S Q => Q true S
theorem dts_nil : DTs X W [] dYes := ⟨PTs.imp pts_nil fun σ H Q ⟨σd, S, fr, Qd, ok, cl, h, k⟩ => k true H S ok h⟩
theorem dts_one {c : Expr} {t : TTD} (h : DT X W c t) : DTs X W [c] t := ⟨pts_one h.p⟩
def dLcL (g : TGD) (tt : TTD) (te : TED) (p : Addr) (σw : Si) : List D → List D → Sd → (List D → Sd → Prop) → Prop
  | [], acc, S, Q => Q acc S
  | x :: r, acc, S, Q => g x σw S fun σ2 S2 => tt σ2 S2 fun b S3 => if b = true then te σ2 S3 fun y S4 => S4 p = some (.lst acc) ∧ acc.length < 16777216 ∧ dLcL g tt te p σw r (acc ++ [y]) (upS S4 p (.lst (acc ++ [y]))) Q
    else dLcL g tt te p σw r acc S3 Q
def dComp (ti : TID) (g : TGD) (tt : TTD) (te : TED) (vs : List Nat) : TED := fun σ S Q => ti σ S fun xs S1 => ∀ p, S1 p = none → dLcL g tt te p (wipeD σ vs) xs [] (upS S1 p (.lst [])) fun acc S2 => S2 p = some (.lst acc) ∧ Q (.lst acc) (del S2 p)
theorem lc_lift {K : PySem.W.Frag} {ti : TID} {g : TGD} {tt : TTD} {te : TED} {vs : List Nat} (σ : L2.St) (H : Hp) (Q : VK) (h : upE K W (dComp ti g tt te vs) σ H Q) :
    tLc (upI K W ti) (upG K W0 vs g) (upT K W0 tt) (upE K W0 te) vs σ H Q := by
  obtain ⟨σd, S, fr, Qd, ok, cl, h, k⟩ := h
  refine ⟨σd, S, fr, _, ok, cl, h, fun J xs H1 S1 fr' ok1 it q => ?_⟩
  intro Dl hD
  have q0 := q Dl (ok1.rel.free hD)
  have ok2 : Ok K (upd H1 Dl (.lst [])) (upS S1 Dl (.lst [])) (fr' ++ fr) σd σ := ok1.own hD rpL_nil
  have Fin : (List D → Sd → Prop) := fun acc S2 => S2 Dl = some (.lst acc) ∧ Qd (.lst acc) (del S2 Dl)
  refine ⟨fun i m H' => m = xs.length - i ∧ i ≤ xs.length ∧ ∃ S' acc, RelS K H' S' ∧ FrOk K H' S' ((fr' ++ fr) ++ prs σd σ) ∧ dLcL g tt te Dl (wipeD σd vs) (xs.drop i) acc S' (fun acc S2 => S2 Dl = some (.lst acc) ∧ Qd (.lst acc) (del S2 Dl)),
    ⟨_, rfl, Nat.zero_le _, _, [], ok2.rel, ok2.out, by simpa using q0⟩, ?_⟩
  rintro i m H' ⟨rfl, hi, S', acc, R', F', q'⟩
  have okp : Ok K H' S' ((fr' ++ fr) ++ prs σd σ) σd σ := ⟨R', F', ok.len, fun i d e => by
    obtain ⟨v, h1, _⟩ := ok.si i d e
    exact ⟨v, h1, F' (v, d) (List.mem_append_right _ (prs_mem h1 e))⟩⟩
  have ok' : Ok K H' S' (fr' ++ fr) σd σ := ⟨R', fun p hp => F' p (List.mem_append_left _ hp), okp.len, okp.si⟩
  by_cases hlt : i < xs.length
  · have ex : xs[i]? = some xs[i] := List.getElem?_eq_getElem hlt
    have dr : xs.drop i = xs[i] :: xs.drop (i + 1) := List.drop_eq_getElem_cons hlt
    rw [dr] at q'
    obtain ⟨g1, g2⟩ := it.go i _ ex H' S' σd σ ok'
    refine .inr ⟨g1, fun H2 => ∃ S2 acc2, RelS K H2 S2 ∧ FrOk K H2 S2 ((fr' ++ fr) ++ prs σd σ) ∧ dLcL g tt te Dl (wipeD σd vs) (xs.drop (i + 1)) acc2 S2 (fun acc S2 => S2 Dl = some (.lst acc) ∧ Qd (.lst acc) (del S2 Dl)), fun H2 ⟨S2, acc2, h1, h2, h3⟩ => ⟨_, by omega, rfl, hlt, S2, acc2, h1, h2, h3⟩, fun x H2 y => ?_⟩
    obtain ⟨ok3, _⟩ := g2 x H2 y
    obtain ⟨_, r2⟩ := (it.go i _ ex H' S' σd σ ok').2 x H2 y
    have okp3 : Ok K H2 S' ((fr' ++ fr) ++ prs σd σ) σd σ := ⟨ok3.rel, ok3.out, ok3.len, ok3.si⟩
    refine ⟨wipeD σd vs, S', (fr' ++ fr) ++ prs σd σ, _, xs[i], okp3.wipe vs, Cl.zero, r2, q', fun σ3 σd3 H3 S3 ok4 hw q3 => ⟨hw.trans (wipe_wipe σ vs), σd3, S3, (fr' ++ fr) ++ prs σd σ, _, ok4, Cl.zero, q3, fun b H4 S4 ok5 q4 => ?_⟩⟩
    cases b with
    | true =>
      refine (show upE K W0 te σ3 H4 _ from ⟨σd3, S4, (fr' ++ fr) ++ prs σd σ, _, ok5, Cl.zero, (by simpa using q4), fun y dy H5 S5 ok6 r6 q5 => ?_⟩)
      obtain ⟨p1, p2, p3⟩ := q5
      obtain ⟨ws, hv, rl⟩ := rp_obj ok6.rel p1
      have st : Step H5 S5 (upd H5 Dl (.lst (ws ++ [y]))) (upS S5 Dl (.lst (acc ++ [dy]))) := step_set p1
      have okf := ok6.step st (rel_set ok6.rel p1 ⟨_, upd_same, rpL_step ok6.rel st _ _ (rpL_app rl (rpL_cons r6 rpL_nil))⟩)
      exact ⟨ws, hv, by rw [← rpL_len rl]; exact sz_lt' p2, _, _, okf.rel, okf.fr, p3⟩
    | false => exact ⟨S4, acc, ok5.rel, ok5.fr, by simpa using q4⟩
  · have e : i = xs.length := by omega
    subst e
    rw [List.drop_length] at q'
    obtain ⟨p1, p2⟩ := q'
    exact .inl ⟨it.stop H' S' σd σ ok', k _ (.lst acc) H' _ (ok'.pre.step step_del (rel_del ok'.rel)) (rp_frozen ok'.rel p1) p2⟩
theorem de_lc {elt tg iter : Expr} {ifs : List Expr} {scope : Scope} {own : List (Str × Nat)} {ti : TID} {g : TGD} {tt : TTD} {te : TED} (hc : X.calm = true) (hN : X.N.Nodup) (hi : DI X W tg iter ti) (ok : BlkOk X.N X.env.scope scope own)
    (hg : ∀ (s : Shared) (H : Hp) (C : Addr) (cl : List (Str × Addr)) (fp : List Addr), DG (X.blk s H scope (compEnvC scope cl C X.env) fp) W0 (own.map (·.2)) tg g) (ht : ∀ (s : Shared) (H : Hp) (C : Addr) (cl : List (Str × Addr)) (fp : List Addr), DTs (X.blk s H scope (compEnvC scope cl C X.env) fp) W0 ifs tt)
    (he : ∀ (s : Shared) (H : Hp) (C : Addr) (cl : List (Str × Addr)) (fp : List Addr), DE (X.blk s H scope (compEnvC scope cl C X.env) fp) W0 elt te) (hs : ∀ x, foldedSetIterable iter X.env x = pure x := by intro _; rfl) :
    DE X W (.ListComp elt [⟨tg, iter, ifs, 0⟩] scope pos) (dComp ti g tt te (own.map (·.2))) :=
  ⟨PE.imp (pe_lc hc hN hi.p ok (fun s H C cl fp => (hg s H C cl fp).p) (fun s H C cl fp => (ht s H C cl fp).p) (fun s H C cl fp => (he s H C cl fp).p) hs) fun σ H Q h => lc_lift σ H Q h⟩
theorem ds_setLc (i : Nat) {y : Str} {py : Pos} {elt tg iter : Expr} {ifs : List Expr} {scope : Scope} {own : List (Str × Nat)} {spos : Pos} {ti : TID} {g : TGD} {tt : TTD} {te : TED} (hc : X.calm = true) (hN : X.N.Nodup) (hy : X.N[i]? = some y) (hyl : X.env.scope.names.lookup y = some .local)
    (hsw : swapsWith (.ListComp elt [⟨tg, iter, ifs, 0⟩] scope pos) (some (.Name y py)) spos.line X.env = pure true) (hi : DI X W tg iter ti) (ok : BlkOk X.N X.env.scope scope own)
    (hg : ∀ (s : Shared) (H : Hp) (C : Addr) (cl : List (Str × Addr)) (fp : List Addr), DG (X.blk s H scope (compEnvC scope cl C X.env) fp) W0 (own.map (·.2)) tg g) (ht : ∀ (s : Shared) (H : Hp) (C : Addr) (cl : List (Str × Addr)) (fp : List Addr), DTs (X.blk s H scope (compEnvC scope cl C X.env) fp) W0 ifs tt)
    (he : ∀ (s : Shared) (H : Hp) (C : Addr) (cl : List (Str × Addr)) (fp : List Addr), DE (X.blk s H scope (compEnvC scope cl C X.env) fp) W0 elt te) (hs : ∀ x, foldedSetIterable iter X.env x = pure x := by intro _; rfl) :
    DS X W (.Assign [.Name y py] (.ListComp elt [⟨tg, iter, ifs, 0⟩] scope pos) spos) (dSet i (dComp ti g tt te (own.map (·.2)))) :=
  ⟨PS.imp (ps_setLc hc hN hy hyl hsw hi.p ok (fun s H C cl fp => (hg s H C cl fp).p) (fun s H C cl fp => (ht s H C cl fp).p) (fun s H C cl fp => (he s H C cl fp).p) hs) fun D σ H ⟨σd, S, fr, Dd, ok, cl, h, k⟩ =>
    lc_lift (W := W) σ H _ ⟨σd, S, fr, _, ok, cl, h, fun v d H1 S1 ok1 r1 q => k.nx _ _ H1 S1 (ok1.set r1 i) q⟩⟩
end

/-! ### defs -/
def startD (N : List Str) (ds : List D) : Si := ds.map some ++ List.replicate (N.length - ds.length) none
theorem start_ok {K : PySem.W.Frag} {H : Hp} {S : Sd} {fr : List (V × D)} {N : List Str} {ds : List D} {vs : List V} (R : RelS K H S) (F : FrOk K H S fr) (r : RpL K H S ds vs) : Ok K H S fr (startD N ds) (L2.start N vs) := by
  have hl := rpL_len r
  refine ⟨R, F, by unfold startD L2.start; simp [hl], fun i d e => ?_⟩
  unfold startD at e
  unfold L2.start
  rcases Nat.lt_or_ge i ds.length with z | z
  · rw [List.getElem?_append_left (by simpa using z), List.getElem?_map] at e
    cases q : ds[i]? with
    | none => rw [q] at e; cases e
    | some d' =>
      rw [q] at e
      cases e
      obtain ⟨v, h1, h2⟩ := rpL_get r q
      exact ⟨v, by rw [List.getElem?_append_left (by simpa [← hl] using z), List.getElem?_map, h1]; rfl, h2⟩
  · rw [List.getElem?_append_right (by simpa using z), List.getElem?_replicate] at e
    split at e <;> cases e
/-- what a body is run in -/
abbrev bodyCx (P : Program) (w : World) (K : PySem.W.Frag) (mg : Str → Option Value) (base : Heap) (N : List Str) (qual : Str) (st : Stmt) (f : Addr) (cdv : Value) (A : Around) (outer : List Env) (s : Shared) (H : Hp) (E : XK) : Cx :=
  cxOf (L2.CX P w) P w K mg base N qual (defScope st) f cdv A outer s H E
abbrev wiOf (E : XK) (Ed : XKD) : Wi := ⟨fun cls d _ H => E cls d H, fun x _ S => Ed x S⟩
theorem takesB {P : Program} {w : World} {K : PySem.W.Frag} {mg : Str → Option Value} {base : Heap} {N : List Str} {qual : Str} {st : Stmt} {f : Addr} {cdv : Value} {A : Around} {outer : List Env} {s : Shared} {H : Hp} {E : XK} {Ed : XKD} :
    Takes (bodyCx P w K mg base N qual st f cdv A outer s H E) (wiOf E Ed).V := takes_of rfl rfl rfl rfl
theorem passB {P : Program} {w : World} {K : PySem.W.Frag} {mg : Str → Option Value} {base : Heap} {N : List Str} {qual : Str} {st : Stmt} {f : Addr} {cdv : Value} {A : Around} {outer : List Env} {s : Shared} {H : Hp} {E : XK} :
    PassesOwn (model P w) (bodyCx P w K mg base N qual st f cdv A outer s H E).A (bodyCx P w K mg base N qual st f cdv A outer s H E).env (bodyCx P w K mg base N qual st f cdv A outer s H E).xe :=
  passes_of (X := bodyCx P w K mg base N qual st f cdv A outer s H E) rfl
section
variable {P : Program} {w : World} {K : PySem.W.Frag} {mg : Str → Option Value} {base : Heap}
/-- THE RULE for a def -/
theorem okD {x qual : Str} {st : Stmt} {f : Addr} {fd : FuncData} {N ps : List Str} {k : Nat} {sp : SpD} {t : XKD → TSD} (F : Fun K x qual st f fd) (Sc : FnScope N ps (defScope st)) (len : ∀ ds S Q E, sp ds S Q E → ds.length = ps.length)
    (hb : ∀ (cdv : Value) (A : Around) (outer : List Env) (s : Shared) (H : Hp) (E : XK) (Ed : XKD), Room k (A.deeper (envOfC qual (defScope st) s.heap.objs.size f cdv)) → DB (bodyCx P w K mg base N qual st f cdv A outer s H E) (wiOf E Ed) (defBody st) (t Ed))
    (hp : ∀ ds S Q Ed, sp ds S Q Ed → t Ed { nx := fun _ S' => Q .non S', rt := Q } (startD N ds) S) : FnOk P w K mg base (L2.CX P w) (k + 1) f fd ps (upF K sp) := by
  refine F.okX Sc (fun vs H Q E h => ?_) (fun cdv A outer s H vs Q E hr h => ?_)
  · obtain ⟨ds, S, fr, Qd, Ed, R, f, r, h, _⟩ := h
    rw [← rpL_len r]
    exact len ds S Qd Ed h
  · obtain ⟨ds, S, fr, Qd, Ed, R, f, r, h, hq, hx⟩ := h
    refine ⟨_, (hb cdv A outer s H E Ed hr).p, startD N ds, S, fr, { nx := fun _ S' => Qd .non S', rt := Qd }, start_ok R f r, fun σd σ H' S' cls od y o rx q => hx cls od y H' S' o.rel o.fr rx q, hp ds S Qd Ed h, ?_⟩
    exact ⟨fun σd σ H' S' o q => hq .non .non H' S' o.rel o.fr rfl q, fun v d σd σ H' S' o rv q => hq v d H' S' o.rel o.fr rv q, fun _ _ _ _ _ q => q.elim, fun _ _ _ _ _ q => q.elim⟩
end
/-- law's promise -/
def spLawD : SpD := fun ds S Q _ => ∃ ns : List Int, ds = [.lst (ns.map D.int)] ∧ ns.length ≤ 63 ∧ (∀ S', Q (.bl true) S')
theorem law_start {K : PySem.W.Frag} {H : Hp} {a : Addr} {ns : List Int} (h : SqL K H a (ns.map V.int)) (hl : ns.length ≤ 63) : upF K spLawD [.ref a] H (fun v _ => v = .bl true) fun _ _ _ => False := by
  refine ⟨[.lst (ns.map D.int)], fun _ => none, [], fun d _ => d = .bl true, fun _ _ => False, fun a o e => (by cases e), fun p hp => (by cases hp), ?_, ⟨ns, rfl, hl, fun _ => rfl⟩, fun v d H' S' _ _ r e => ?_, fun _ _ _ _ _ _ _ _ q => q⟩
  · refine rpL_cons ⟨a, ns.map V.int, rfl, ?_, rpL_of_ints⟩ rpL_nil
    rcases h with h | h
    · exact .inl ⟨h, rfl⟩
    · exact .inr h
  · subst e
    exact r
theorem CX_no {P : Program} {w : World} {outer : List Env} {H : Hp} {s : Shared} {e : Value} {s' : Shared} (h : L2.CX P w outer H s (fun _ _ _ => False) e s') : False := by
  obtain ⟨_, _, _, _, _, _, _, _, _, _, _, _, z⟩ := h
  exact z.elim
end Dv

/-! Readings by value, 6: more of the built-ins. -/
namespace PyProof.Rows
open PySem
section
variable {prog : Program} {w : World} {A : Around} {E : Value → Shared → Prop} {s : Shared}
theorem collect_tup {l : Addr} {vs : List Value} {Q : List Value → Shared → Prop} (hl : IsTup s.heap l vs.toArray)
    (h : Q vs { s with heap := (s.heap.push (seqObj "list" #[] 0)).update s.heap.objs.size (Obj.mapSeq (· ++ vs.toArray)) }) (hsz : vs.length ≤ sizeLine) :
    wpAny (model prog w) A (collect (.ref l)) Q E s := by
  obtain ⟨o, ho, hc, n, hd⟩ := id hl
  unfold collect
  refine wpAny_bind (wpAny_runValue (codeAny_builtin entry_proto_collect' ?_))
  show wpAny _ _ (do again (.builtin "list.__iadd__" ⟨[← newList [], .ref l], []⟩)) _ _ s
  refine wpAny_bind (wpAny_newList (wpAny_pure ⟨Code.quiet_builtin _ (by decide +kernel), codeAny_builtin entry_list_iadd' ?_⟩))
  show wpAny _ _ (Builtin.List.listExtendWith (.ref s.heap.objs.size) (.ref l) (.ref s.heap.objs.size)) _ _ { s with heap := s.heap.push (seqObj "list" #[] 0) }
  unfold Builtin.List.listExtendWith
  have ho' : (s.heap.push (seqObj "list" #[] 0)).get? l = some o := Heap.get?_push_of_some _ ho
  refine wpAny_bind (wpAny_typeOf (T := "tuple") ⟨o, ho', hc⟩ ?_)
  have ht : (Value.type "tuple" == Value.type "tuple") = true := by rfl
  rw [if_pos (by rw [ht]; simp)]
  refine wpAny_bind (listItems_at ho' hd ?_)
  refine wpAny_bind (listItems_at (xs := #[]) (n := 0) (Heap.get?_push_size _ rfl) rfl ?_)
  rw [if_neg (by simp)]
  refine wpAny_bind (listUpdate_at (xs := #[]) (n := 0) (Heap.get?_push_size _ rfl) rfl ?_ (Nat.zero_le _) (by show (#[] ++ vs.toArray).size ≤ sizeLine + 1; simp only [Array.size_append, List.size_toArray, List.length_nil]; omega))
  refine wpAny_pure ?_
  show wpAny (model prog w) A (do
      let o ← load s.heap.objs.size
      match o.data with
      | .seq xs _ => pure xs.toList
      | _ => unsupported "internal:collect") Q E { s with heap := (s.heap.push (seqObj "list" #[] 0)).update s.heap.objs.size (Obj.mapSeq (· ++ vs.toArray)) }
  refine wpAny_bind (wpAny_load (get?_update_seq (Heap.get?_push_size _ rfl) _) ?_)
  show wpAny _ _ (pure ((#[] : Array Value) ++ vs.toArray).toList) Q E _
  rw [show ((#[] : Array Value) ++ vs.toArray).toList = vs by simp]
  exact wpAny_pure h
theorem sorted_tupInts {l : Addr} {vs : List Value} {ns : List Int} {Q : Value → Shared → Prop} (hl : IsTup s.heap l vs.toArray) (hI : IntsAre vs ns) (h64 : vs.length < 64)
    (h : ∀ (out : Array Value) (ns' : List Int), IntsAre out.toList ns' → ns'.Perm ns → ns'.Pairwise (· ≤ ·) → Q (.ref (s.heap.objs.size + 1)) { s with heap := sortedAll s.heap vs out }) :
    wpAny (model prog w) A (call (.builtin "sorted") [.ref l]) Q E s := by
  refine Calls.call_function_entry kind_sorted plain_sorted entry_sorted (args_sorted1 _) ?_
  unfold Builtin.«sorted»
  refine wpAny_bind (m := checkCount "sorted" 1 1 _) (wpAny_pure ?_)
  refine wpAny_bind (collect_tup hl ?_ (by rw [sizeLine_eq]; omega))
  refine wpAny_bind (wpAny_newList ?_)
  have hsz : ((s.heap.push (seqObj "list" #[] 0)).update s.heap.objs.size (Obj.mapSeq (· ++ vs.toArray))).objs.size = s.heap.objs.size + 1 := by
    rw [Heap.size_update, size_push']
  have hoL : (((s.heap.push (seqObj "list" #[] 0)).update s.heap.objs.size (Obj.mapSeq (· ++ vs.toArray))).push (seqObj "list" vs.toArray 0)).get? (s.heap.objs.size + 1) = some (seqObj "list" vs.toArray 0) := by
    rw [← hsz]; exact Heap.get?_push_size _ rfl
  show wpAny _ _ _ _ _ { s with heap := ((s.heap.push (seqObj "list" #[] 0)).update s.heap.objs.size (Obj.mapSeq (· ++ vs.toArray))).push (seqObj "list" vs.toArray 0) }
  rw [hsz]
  refine wpAny_bind (wpAny_holding (wpAny_call_entry slot_list_sort ⟨_, hoL, rfl⟩ entry_list_sort (list_sort_tree hoL hI h64 fun out ns' a1 a2 a3 => ⟨_, rfl, ?_⟩) (args_list_sort _)))
  exact wpAny_pure ⟨_, rfl, h out ns' a1 a2 a3⟩
end
end PyProof.Rows

namespace HT
open PySem PyProof.Rows
section
variable {prog : Program} {w : World} {A : Around} {E : Value → Shared → Prop} {s : Shared}
theorem sliceApplied_rev {sl : Addr} {vl vu vk : Value} {n : Nat} {Q : Int × Int × Nat → Shared → Prop} (hs : s.heap.IsSliceOf sl vl vu vk) (pl : IsPart vl none) (pu : IsPart vu none) (pk : IsPart vk (some (-1)))
    (h : Q ((n : Int) - 1, -1, n) s) : wpAny (model prog w) A (Builtin.Slice.sliceApplied (.ref sl) (pure (n : Int))) Q E s := by
  obtain ⟨os, hos, hcs, hds⟩ := id hs
  unfold Builtin.Slice.sliceApplied Builtin.Slice.sliceFields
  refine wpAny_bind (wpAny_bind (wpAny_field hos hds (x := vl) rfl (wpAny_bind (wpAny_field hos hds (x := vu) rfl (wpAny_bind (wpAny_field hos hds (x := vk) rfl (wpAny_pure ?_)))))))
  refine wpAny_bind (slicePart_ pk ?_)
  show wpAny _ _ (if ((-1 : Int) == 0) = true then _ else _) _ _ s
  rw [if_neg (by decide)]
  refine wpAny_bind (slicePart_ pl (wpAny_bind (slicePart_ pu (wpAny_bind (wpAny_pure ?_)))))
  show wpAny _ _ (pure ((n : Int) - 1, (-1 : Int), Builtin.Slice.slicePlaces ((n : Int) - 1) (-1) (-1))) _ _ s
  have e : Builtin.Slice.slicePlaces ((n : Int) - 1) (-1) (-1) = n := by
    unfold Builtin.Slice.slicePlaces
    rw [if_neg (by decide)]
    by_cases h0 : (n : Int) - 1 > -1
    · rw [if_pos h0]
      have e1 : (- -1 : Int) = 1 := by decide
      rw [e1, Int.ediv_one]
      omega
    · rw [if_neg h0]
      show 0 = n
      omega
  rw [e]
  exact wpAny_pure h
theorem fm_congr {α β : Type} {f g : α → Option β} : ∀ {l : List α}, (∀ x ∈ l, f x = g x) → l.filterMap f = l.filterMap g
  | [], _ => rfl
  | x :: l, h => by
    rw [List.filterMap_cons, List.filterMap_cons, h x List.mem_cons_self, fm_congr fun y hy => h y (List.mem_cons_of_mem _ hy)]
theorem pick_rev (xs : Array Value) : ((List.range xs.size).filterMap fun (m : Nat) => xs[((xs.size : Int) - 1 + (m : Int) * -1).toNat]?).toArray = xs.toList.reverse.toArray := by
  have e : ((List.range xs.size).filterMap fun (m : Nat) => xs[((xs.size : Int) - 1 + (m : Int) * -1).toNat]?) = ((List.range xs.size).map fun k => xs.size - 1 - k).filterMap (xs[·]?) := by
    rw [List.filterMap_map]
    refine fm_congr fun m hm => ?_
    have h := List.mem_range.mp hm
    have e2 : ((xs.size : Int) - 1 + (m : Int) * -1).toNat = xs.size - 1 - m := by omega
    show xs[((xs.size : Int) - 1 + (m : Int) * -1).toNat]? = xs[xs.size - 1 - m]?
    rw [e2]
  rw [e, PySem.W.krv_range, List.filterMap_reverse, PySem.W.krv_all]
theorem getItem_tuple_rev {t sl : Addr} {items : Array Value} {vl vu vk : Value} {Q : Value → Shared → Prop} (ht : IsTup s.heap t items) (hs : s.heap.IsSliceOf sl vl vu vk) (pl : IsPart vl none) (pu : IsPart vu none) (pk : IsPart vk (some (-1)))
    (h : Q (.ref s.heap.objs.size) { s with heap := s.heap.push { cls := .type "tuple", data := .seq items.toList.reverse.toArray } })
    (hsz : items.size ≤ sizeLine) : wpAny (model prog w) A (getItem (.ref t) (.ref sl)) Q E s := by
  have htake : sizeOk (.seq items.toList.reverse.toArray) := by
    show items.toList.reverse.toArray.size ≤ sizeLine
    rw [List.size_toArray, List.length_reverse, Array.length_toList]
    exact hsz
  obtain ⟨os, hos, hcs, hds⟩ := id hs
  have hTs : s.TypeIs (.ref sl) "slice" := ⟨os, hos, hcs⟩
  unfold getItem
  try with_reducible refine wpAny_holding ?_
  first | refine wpAny_bind (wpAny_pure ?_) | skip
  refine wpAny_bind (wpAny_sequenceKey ht.typeIs (by decide) ?_)
  refine wpAny_bind (wpAny_callSpecial?_slot (name := Str.ofString "__getitem__") ht.typeIs PyProof.Rows.slot_tuple_getitem
    (wpAny_call_entry PyProof.Rows.slot_tuple_getitem ht.typeIs entry_tuple_getitem ?_ (args_tuple_getitem _ _)))
  show wpAny _ _ (Builtin.Tuple.tupleItemsOf (.ref t) >>= _) _ _ s
  refine wpAny_bind (tupleItemsOf_ ht ?_)
  refine wpAny_bind (wpAny_typeOf hTs ?_)
  rw [if_pos (by decide)]
  refine wpAny_bind (sliceApplied_rev hs pl pu pk ?_)
  have hno : ¬ ((((items.size : Int) - 1) == 0 && (-1 : Int) == 1 && items.size == items.size) = true) := by
    intro q
    rw [Bool.and_eq_true, Bool.and_eq_true] at q
    exact absurd q.1.2 (by decide)
  show wpAny _ _ (if (((items.size : Int) - 1) == 0 && (-1 : Int) == 1 && items.size == items.size) = true then _ else _) _ _ s
  rw [if_neg hno, pick_rev]
  first
    | exact wpAny_bind (m := Builtin.Tuple.tupleExact _) (wpAny_newObj_type (wpAny_pure ⟨_, rfl, wpAny_pure h⟩) htake)
    | exact wpAny_bind (m := Builtin.Tuple.tupleExact _) (wpAny_newObj_type (wpAny_bind (wpAny_pure (wpAny_pure ⟨_, rfl, wpAny_pure h⟩))) htake)
    | exact wpAny_bind (wpAny_bind (m := Builtin.Tuple.tupleExact _) (wpAny_newObj_type (wpAny_pure (wpAny_pure ⟨_, rfl, wpAny_pure h⟩)) htake))
    | exact wpAny_bind (wpAny_bind (m := Builtin.Tuple.tupleExact _) (wpAny_newObj_type (wpAny_pure ⟨_, rfl, wpAny_pure h⟩) htake))
end
end HT

namespace Dv
open PySem L2 PyProof.Rows
section
variable {X : Cx}
def rSortedT (K : PySem.W.Frag) : List V → Hp → VK → Prop := fun vs H Q => ∃ (a : Addr) (ns : List Int), vs = [V.ref a] ∧ SqT K H a (ns.map V.int) ∧ ns.length < 64 ∧
  ∀ (ns' : List Int) (p : Addr), ns'.Perm ns → ns'.Pairwise (· ≤ ·) → H p = none → Q (.ref p) (upd H p (.lst (ns'.map V.int)))
theorem cr_sortedT : CallR X (.builtin "sorted") (rSortedT X.K) := by
  intro pins s σ H vs us Q I r h
  obtain ⟨a, ns, rfl, hs, h64, q⟩ := h
  obtain ⟨its, rv, hl, _⟩ := I.tuple hs
  rw [Vals.ref1 r]
  have hi := rv.ints
  refine PyProof.Rows.sorted_tupInts hl hi (by rw [hi.length]; exact h64) fun out ns' h1 h2 h3 => ?_
  obtain ⟨ep, he'⟩ := PyProof.Rows.sortedAll_at s.heap its out
  have hlen : (ns'.map V.int).length ≤ sizeLine := by rw [List.length_map, h2.length_eq]; exact small64 h64
  exact ⟨.ref _, upd H (s.heap.objs.size + 1) (.lst (ns'.map V.int)), I.laid (t' := s.toks) (fun _ _ => PyProof.Rows.sortedAll_old) (Nat.le_succ _) ⟨hlen, out.toList, ep, vals_of_ints h1, he'⟩, rfl, q ns' _ h2 h3 (I.hok.fresh (Nat.le_succ _))⟩
theorem cd_sorted : CallD X (.builtin "sorted") rdSorted := ⟨_, cr_sorted.or cr_sortedT, fun H S fr σd σ xs ds Qv Qd ok r h k => by
  match ds, r, h with
  | [], _, h => exact (show False from h).elim
  | _ :: _ :: _, _, h => exact (show False from h).elim
  | [d], r, h =>
    obtain ⟨v, rfl, r0⟩ := rpL1 r
    obtain ⟨ns, e, h64, q⟩ := h
    obtain ⟨a, vs, rfl, q1, r1⟩ := rp_items ok.rel r0 e
    have e2 := rpL_ints r1
    subst e2
    rcases q1 with q1 | q1
    · exact .inl ⟨a, ns, rfl, q1, h64, fun ns' p h1 h2 hp => k _ (.lst (ns'.map D.int)) _ S (ok.new hp) (rp_lstNew ok.rel hp rpL_of_ints) (q ns' h1 h2)⟩
    · exact .inr ⟨a, ns, rfl, q1, h64, fun ns' p h1 h2 hp => k _ (.lst (ns'.map D.int)) _ S (ok.new hp) (rp_lstNew ok.rel hp rpL_of_ints) (q ns' h1 h2)⟩⟩

/-! ### a text times an int -/
def repS (x : Str) (n : Nat) : Str := ⟨(List.replicate n x.cps).foldl (· ++ ·) #[]⟩
def rRepS : R2 := fun x y H Q => ∃ z k, x = .str z ∧ y = .int k ∧ 0 ≤ k ∧ (z.length : Int) * k ≤ 16777216 ∧ k ≤ 16777216 ∧ Q (.str (repS z k.toNat)) H
theorem fold_rep (x : Array Nat) : ∀ (n : Nat) (acc : Array Nat), ((List.replicate n x).foldl (· ++ ·) acc).toList = acc.toList ++ (List.replicate n x.toList).flatten
  | 0, acc => by simp
  | n + 1, acc => by
    rw [List.replicate_succ, List.foldl_cons, fold_rep x n (acc ++ x)]
    simp [List.replicate_succ]
theorem repS_list (x : Str) (n : Nat) : (repS x n).cps.toList = (List.replicate n x.cps.toList).flatten := by
  unfold repS
  rw [fold_rep]
  rfl
theorem str_ext {x y : Str} (h : x.cps.toList = y.cps.toList) : x = y := by
  cases x; cases y
  congr 1
  exact Array.toList_inj.mp h
theorem op_mulS : OpR X (binaryOp .Mult) rRepS := by
  intro pins s σ H x y v u Q I rx ry h
  obtain ⟨z, k, rfl, rfl, h0, hz, hk, q⟩ := h
  obtain ⟨t, rfl⟩ := rx
  obtain ⟨t', rfl⟩ := ry
  refine PySem.P.mul_str ?_ ?_ ?_ ?_
  · have h1 : ¬ k < -(2 ^ 63 : Int) := by omega
    have h2 : ¬ k ≥ 2 ^ 63 := by omega
    rw [decide_eq_false h1, decide_eq_false h2]; rfl
  · intro h1 h2 h3
    have p1 : (0 : Int) < k := by omega
    have e2 : ((2 ^ 63 - 1 : Int) / k + 1) * k > 2 ^ 63 - 1 := by
      have := Int.lt_ediv_add_one_mul_self (2 ^ 63 - 1 : Int) p1
      omega
    have e3 : (2 ^ 63 - 1 : Int) / k + 1 ≤ z.length := by omega
    have e4 : ((2 ^ 63 - 1 : Int) / k + 1) * k ≤ z.length * k := Int.mul_le_mul_of_nonneg_right e3 (by omega)
    omega
  · intro h1 h2
    have e : ((z.length * k.toNat : Nat) : Int) = z.length * k := by
      rw [Int.natCast_mul, Int.toNat_of_nonneg h0]
    refine decide_eq_false ?_
    rw [sl_eq]
    omega
  · by_cases h1 : k < 1
    · rw [if_pos h1]
      have e : k = 0 := by omega
      subst e
      exact ⟨by decide, ⟨.str (repS z 0), H, I.tok _, ⟨_, rfl⟩, q⟩⟩
    · rw [if_neg h1]
      by_cases h2 : (k == 1 || z.length == 0) = true
      · rw [if_pos h2]
        have e : repS z k.toNat = z := by
          refine str_ext ?_
          rw [repS_list]
          rcases Bool.or_eq_true_iff.mp h2 with e | e
          · have e1 : k = 1 := eq_of_beq e
            subst e1
            simp
          · have e1 : z.length = 0 := eq_of_beq e
            have e2 : z.cps.toList = [] := List.length_eq_zero_iff.mp (by simpa [Str.length] using e1)
            rw [e2]
            simp
        rw [e] at q
        exact ⟨.str z, H, I, ⟨_, rfl⟩, q⟩
      · rw [if_neg h2]
        have hl : (repS z k.toNat).length ≤ sizeLine := by
          have e : (repS z k.toNat).length = k.toNat * z.length := by
            have := congrArg List.length (repS_list z k.toNat)
            simpa [Str.length] using this
          have e2 : ((k.toNat * z.length : Nat) : Int) = k * z.length := by
            rw [Int.natCast_mul, Int.toNat_of_nonneg h0]
          have e3 : k * (z.length : Int) = z.length * k := Int.mul_comm _ _
          rw [e, sl_eq]
          omega
        exact ⟨hl, ⟨.str (repS z k.toNat), H, I.tok _, ⟨_, rfl⟩, q⟩⟩
def rdMul : RD2
  | .int i, .int j, S, Q => i.natAbs.log2 + j.natAbs.log2 < 1000000 ∧ Q (.int (i * j)) S
  | .str z, .int k, S, Q => (0 ≤ k ∧ (z.length : Int) * k ≤ 16777216 ∧ k ≤ 16777216) ∧ Q (.str (repS z k.toNat)) S
  | _, _, _, _ => False
theorem od_mul : OpD X (binaryOp .Mult) rdMul := ⟨_, op_mulW.or op_mulS, fun H S fr σd σ x y dx dy Qv Qd ok rx ry h k => by
  cases dx with
  | int i =>
    cases dy with
    | int j => exact .inl ⟨i, j, rx, ry, h.1, k _ (.int (i * j)) H S ok rfl h.2⟩
    | _ => exact (show False from h).elim
  | str z =>
    cases dy with
    | int j => exact .inr ⟨z, j, rx, ry, h.1.1, h.1.2.1, h.1.2.2, k _ (.str (repS z j.toNat)) H S ok rfl h.2⟩
    | _ => exact (show False from h).elim
  | _ => cases dy <;> exact (show False from h).elim⟩
end

/-! ### xs[::-1] -/
section
variable {X : Cx} {W : Wi} {e : Expr} {te : TED} {pos : Pos}
def tRevA (K : PySem.W.Frag) (te : TE) : TE := fun σ H Q => te σ H fun x H1 => ∃ a xs, x = .ref a ∧ ((SqL K H1 a xs ∧ ∀ p, H1 p = none → Q (.ref p) (upd H1 p (.lst xs.reverse))) ∨ (SqT K H1 a xs ∧ ∀ p, H1 p = none → Q (.ref p) (upd H1 p (.tup xs.reverse))))
def revS (z : Str) : Str := ⟨z.cps.toList.reverse.toArray⟩
def tRevZ (K : PySem.W.Frag) (te : TE) : TE := fun σ H Q => te σ H fun x H1 => (∃ a xs, x = .ref a ∧ ((SqL K H1 a xs ∧ ∀ p, H1 p = none → Q (.ref p) (upd H1 p (.lst xs.reverse))) ∨ (SqT K H1 a xs ∧ ∀ p, H1 p = none → Q (.ref p) (upd H1 p (.tup xs.reverse))))) ∨ ∃ z, x = .str z ∧ z.length ≤ sizeLine ∧ Q (.str (revS z)) H1
theorem revS_picked (z : Str) : ((Builtin.Str.strSliceIndices none none (-1) z.length).filterMap (z.cps[·]?)).toArray = (revS z).cps := by
  rw [PyProof.Rows.picked_rev, PyProof.Rows.filterMap_get, List.map_map]
  · unfold revS
    refine congrArg _ (List.ext_getElem (by simp [Str.length]) fun i h1 h2 => ?_)
    have h3 : i < z.cps.size := by simpa [Str.length] using h1
    rw [List.getElem_map, List.getElem_range, List.getElem_reverse]
    have h4 : z.cps.size - 1 - i < z.cps.size := by omega
    show z.cps.getD (z.cps.size - 1 - i) 0 = z.cps.toList[z.cps.toList.length - 1 - i]'(by simpa using h4)
    simp [Array.getD, h4]
  · intro i hi
    obtain ⟨k, hk, rfl⟩ := List.mem_map.mp hi
    have hk' : k < z.length := List.mem_range.mp hk
    show z.length - 1 - k < z.length
    omega
theorem pe_revA {te : TE} {k : Nat} {p1 p2 p3 : Pos} (he : PE X e te) : PE X (.Subscript e (.Slice none none (some (.UnaryOp .USub (.Constant (.int 1) k p1) p2)) p3) pos) (tRevZ X.K te) := by
  refine ⟨fun pins s σ H Q I h => ?_⟩
  refine Subscript_ (thn (he.run pins s σ H _ I h) fun v s1 ⟨x, H1, I1, r1, q1⟩ => ?_)
  have hst : PO X (some (.UnaryOp .USub (.Constant (.int 1) k p1) p2)) (tPart (tUn (rU fun i => .int (-i)) (tC (.int 1)))) := po_some (pe_un un_neg pe_int)
  refine wpAny_Slice (thn (po_none.run pins s1 σ H1 (fun o H2 => o = none ∧ H2 = H1) I1 ⟨rfl, rfl⟩) fun vl s2 ⟨l, H2, I2, pl, el, e2⟩ => ?_)
  subst el e2
  refine thn (po_none.run pins s2 σ H2 (fun o H3 => o = none ∧ H3 = H2) I2 ⟨rfl, rfl⟩) fun vu s3 ⟨u, H3, I3, pu, eu, e3⟩ => ?_
  subst eu e3
  refine thn (hst.run pins s3 σ H3 (fun o H4 => o = some (-1) ∧ H4 = H3) I3 ⟨1, rfl, -1, rfl, rfl, rfl⟩) fun vs s4 ⟨o, H4, I4, ps, eo, e4⟩ => ?_
  subst eo e4
  have I5 : Inv X pins σ H4 { s4 with heap := s4.heap.push { cls := .type "slice", data := .fields #[vl, vu, vs] } } := I4.kept (t' := s4.toks) fun b ob q => Heap.get?_push_of_some _ q
  rcases q1 with ⟨a, xs, ex, q⟩ | ⟨z, ex, hz, q⟩
  rotate_left
  · subst ex
    obtain ⟨t, rfl⟩ := r1
    obtain ⟨l, e0, e1⟩ := IsPart.raw pl
    obtain ⟨u, e00, e2⟩ := IsPart.raw pu
    obtain ⟨w, e000, e3⟩ := IsPart.raw ps
    subst e0 e00 e000
    have e1' : l = none := by cases l <;> first | rfl | exact nomatch e1
    have e2' : u = none := by cases u <;> first | rfl | exact nomatch e2
    subst e1' e2'
    obtain ⟨w1, w2, rfl⟩ : ∃ w1 w2, w = some (w1, w2) := by
      cases w with
      | none => exact nomatch e3
      | some w => exact ⟨w.1, w.2, rfl⟩
    have e3' : w1 = -1 := by injection e3
    subst e3'
    show wpAny (model X.prog X.w) X.A (subscriptTail e (.Slice none none (some (.UnaryOp .USub (.Constant (.int 1) k p1) p2)) p3) (.str z t) (.ref s4.heap.objs.size)) (EP X pins σ Q) X.xe { s4 with heap := s4.heap.push { cls := .type "slice", data := .fields #[_, _, _] } }
    refine tail_any (ops := [.str z t, .ref s4.heap.objs.size]) (typeIs_str _ z t) (PySem.F.slot_str_getitem.lookup) ?_ (by with_unfolding_all rfl)
    refine wpAny_getItem_str_slice (l := none) (u := none) (st := some (-1, w2)) ⟨_, Heap.get?_push_size _ rfl, rfl, rfl⟩ rfl ?_
    show Made.post (Made.str ⟨((Builtin.Str.strSliceIndices none none (-1) z.length).filterMap (z.cps[·]?)).toArray⟩) (EP X pins σ Q) _
    have e5 : (⟨((Builtin.Str.strSliceIndices none none (-1) z.length).filterMap (z.cps[·]?)).toArray⟩ : Str) = revS z := congrArg Str.mk (revS_picked z)
    rw [e5]
    exact ⟨by show (revS z).cps.size ≤ _; unfold revS; simpa [Str.length] using hz, .str _, H4, I5.tok _, ⟨_, rfl⟩, q⟩
  subst ex
  cases r1
  show wpAny (model X.prog X.w) X.A (subscriptTail e (.Slice none none (some (.UnaryOp .USub (.Constant (.int 1) k p1) p2)) p3) (.ref a) (.ref s4.heap.objs.size)) (EP X pins σ Q) X.xe { s4 with heap := s4.heap.push { cls := .type "slice", data := .fields #[vl, vu, vs] } }
  rcases q with ⟨hx, q⟩ | ⟨hx, q⟩
  · obtain ⟨its, r, ht, hz⟩ := I5.list hx
    have hlen := r.length
    refine tail_any (ops := [.ref a, .ref s4.heap.objs.size]) ht.isList.typeIs (PySem.slot_list_getitem.lookup) ?_ (by with_unfolding_all rfl)
    refine wpAny_getItem_list_slice ht.isList (Heap.IsSliceOf.new _ vl vu vs) pl pu ps (by decide) ?_ (by rw [List.size_toArray]; omega)
    rw [PySem.W.krv_pick]
    refine ⟨.ref _, _, I5.laid (t' := s4.toks) (o := .lst xs.reverse) (fun b ob q => Heap.get?_push_of_some _ q) (Nat.le_refl _) ?_, rfl, q _ (I5.hok.fresh (Nat.le_refl _))⟩
    exact ⟨by rw [List.length_reverse]; exact hz, _, 0, r.reverse, Heap.get?_push_size _ rfl⟩
  · obtain ⟨its, r, ht, hz⟩ := I5.tuple hx
    have hlen := r.length
    refine tail_any (ops := [.ref a, .ref s4.heap.objs.size]) ht.typeIs (PyProof.Rows.slot_tuple_getitem.lookup) ?_ (by with_unfolding_all rfl)
    refine HT.getItem_tuple_rev ht (Heap.IsSliceOf.new _ vl vu vs) pl pu ps ?_ (by rw [List.size_toArray]; omega)
    refine ⟨.ref _, _, I5.laid (t' := s4.toks) (o := .tup xs.reverse) (fun b ob q => Heap.get?_push_of_some _ q) (Nat.le_refl _) ?_, rfl, q _ (I5.hok.fresh (Nat.le_refl _))⟩
    exact ⟨by rw [List.length_reverse]; exact hz, its.reverse, r.reverse, _, Heap.get?_push_size _ rfl, rfl, 0, rfl⟩
def dRev (te : TED) : TED := fun σ S Q => te σ S fun x S1 => match x with
  | .tup ds => Q (.tup ds.reverse) S1
  | .lst ds => Q (.lst ds.reverse) S1
  | .str z => z.length ≤ 16777216 ∧ Q (.str (revS z)) S1
  | _ => False
theorem de_rev {k : Nat} {p1 p2 p3 : Pos} (he : DE X W e te) : DE X W (.Subscript e (.Slice none none (some (.UnaryOp .USub (.Constant (.int 1) k p1) p2)) p3) pos) (dRev te) :=
  ⟨PE.imp (pe_revA he.p) fun σ H Q ⟨σd, S, fr, Qd, ok, cl, h, k⟩ => ⟨σd, S, fr, _, ok, cl, h, fun x dx H1 S1 ok1 r1 q => by
    cases dx with
    | tup ds =>
      obtain ⟨a, vs, e1, q1, r2⟩ := r1
      exact .inl ⟨a, vs, e1, .inr ⟨q1, fun p hp => k _ (.tup ds.reverse) _ S1 (ok1.new hp) (rp_tupNew ok1.rel hp (rpL_rev r2)) q⟩⟩
    | lst ds =>
      obtain ⟨a, vs, e1, q1, r2⟩ := rp_list ok1.rel r1
      exact .inl ⟨a, vs, e1, .inl ⟨q1, fun p hp => k _ (.lst ds.reverse) _ S1 (ok1.new hp) (rp_lstNew ok1.rel hp (rpL_rev r2)) q⟩⟩
    | str z => exact .inr ⟨z, r1, sz_le q.1, k _ (.str _) H1 S1 ok1 rfl q.2⟩
    | _ => exact (show False from q).elim⟩⟩

/-! ### for over a list, a tuple, a text -/
def iAny (K : PySem.W.Frag) (tl : TE) : TI := fun σ H R => tl σ H fun x H1 => (∃ a, x = .ref a ∧ (∃ xs, SqL K H1 a xs) ∧ R (Itl K a) H1) ∨ (∃ a, x = .ref a ∧ (∃ xs, SqT K H1 a xs) ∧ R (Itt K a) H1) ∨ (∃ z, x = .str z ∧ R (Its z) H1)
theorem pi_any {tg : Expr} {tl : TE} (hl : PE X e tl) : PI X tg e (iAny X.K tl) := by
  refine ⟨fun pins s σ H R I h => ?_⟩
  refine thn (hl.run pins s σ H _ I h) fun v s1 ⟨x, H1, I1, r1, q1⟩ => ?_
  rcases q1 with ⟨a, ex, ⟨xs, hq⟩, q⟩ | ⟨a, ex, ⟨xs, hq⟩, q⟩ | ⟨z, ex, q⟩
  · subst ex
    cases r1
    obtain ⟨its, rv, p, hz⟩ := I1.list hq
    refine wpAny_pyIter_list p.isList ?_
    refine ⟨s1.heap.objs.size, [s1.heap.objs.size], _, _, H1, rfl, I1.kept (t' := s1.toks) fun b o e => Heap.get?_push_of_some _ e, turn_list a _, ⟨_, Heap.get?_push_size _ rfl, rfl, rfl⟩, fun b hb => ?_, q⟩
    have e : b = s1.heap.objs.size := by simpa using hb
    subst e
    exact I1.fpOk (Nat.le_refl _) (I1.hok.fresh (Nat.le_refl _))
  · subst ex
    cases r1
    obtain ⟨its, rv, p, hz⟩ := I1.tuple hq
    refine wpAny_pyIter_tuple (show s1.heap.IsTuple a its.toArray from p) ?_
    refine ⟨s1.heap.objs.size, [s1.heap.objs.size], _, _, H1, rfl, I1.kept (t' := s1.toks) fun b o e => Heap.get?_push_of_some _ e, turn_tuple a _, ⟨_, Heap.get?_push_size _ rfl, rfl, rfl⟩, fun b hb => ?_, q⟩
    have e : b = s1.heap.objs.size := by simpa using hb
    subst e
    exact I1.fpOk (Nat.le_refl _) (I1.hok.fresh (Nat.le_refl _))
  · subst ex
    obtain ⟨t, rfl⟩ := r1
    cases ha : z.cps.all (· < 128)
    · exact wpAny_pyIter_wide ha (pi_one (tk := s1.toks) I1 _ (turn_str _ z t "str_iterator" (.inr rfl)) ⟨_, Heap.get?_push_size _ rfl, rfl, rfl⟩ q)
    · exact wpAny_pyIter_ascii ha (pi_one (tk := s1.toks) I1 _ (turn_str _ z t "str_ascii_iterator" (.inl rfl)) ⟨_, Heap.get?_push_size _ rfl, rfl, rfl⟩ q)
def sgD (z : Str) : List D := z.cps.toList.map fun c => D.str ⟨#[c]⟩
theorem itd_str {K : PySem.W.Frag} {z : Str} {fr : List (V × D)} : ItD K (Its z) (sgD z) fr where
  go := fun i d e H S σd σ ok => by
    unfold sgD at e
    rw [List.getElem?_map] at e
    cases q : z.cps.toList[i]? with
    | none => rw [q] at e; cases e
    | some c =>
      rw [q] at e
      cases e
      have q2 : z.cps[i]? = some c := by simpa using q
      refine ⟨(Array.getElem?_eq_some_iff.mp q2).1, fun x H' y => ?_⟩
      obtain ⟨e2, c', e3, y⟩ := y
      subst e2
      rw [q2] at e3
      cases e3
      subst y
      exact ⟨ok, rfl⟩
  stop := fun H S σd σ ok => by
    show z.cps.size ≤ (sgD z).length
    unfold sgD
    simp
def dItr (te : TED) : TID := fun σ S R => te σ S fun x S1 => match x with
  | .lst ds => R ds S1
  | .tup ds => R ds S1
  | .str z => R (sgD z) S1
  | _ => False
theorem di_any {tg : Expr} (hl : DE X W e te) : DI X W tg e (dItr te) := ⟨PI.imp (pi_any hl.p) fun σ H R ⟨σd, S, fr, Rd, ok, cl, h, k⟩ => ⟨σd, S, fr, _, ok, cl, h, fun x dx H1 S1 ok1 r1 q => by
  cases dx with
  | lst ds =>
    obtain ⟨a, vs, e, q1, r2⟩ := rp_list ok1.rel r1
    subst e
    exact .inl ⟨a, rfl, ⟨vs, q1⟩, k _ ds H1 S1 [(.ref a, .lst ds)] (ok1.cons r1) itd_list q⟩
  | tup ds =>
    obtain ⟨a, vs, e, q1, r2⟩ := id r1
    subst e
    exact .inr (.inl ⟨a, rfl, ⟨vs, q1⟩, k _ ds H1 S1 [(.ref a, .tup ds)] (ok1.cons r1) itd_tup q⟩)
  | str z => exact .inr (.inr ⟨z, r1, k _ (sgD z) H1 S1 [] ok1 itd_str q⟩)
  | _ => exact (show False from q).elim⟩⟩

/-! ### a, b, c = x, y, z -/
def dPar3 (i j l : Nat) (ta : TAD) : TSD := fun D σ S => ta σ S fun vs S1 => match vs with
  | [v, w, u] => D.nx (((σ.set i (some v)).set j (some w)).set l (some u)) S1
  | _ => False
theorem ds_par3 (i j l : Nat) {x y z : Str} {a b c : Expr} {ta : TAD} {px py pz pt : Pos} {kt k2 pt2} (hc : X.calm = true) (hN : X.N.Nodup) (hi : X.N[i]? = some x) (hj : X.N[j]? = some y) (hl : X.N[l]? = some z) (hij : i ≠ j) (hil : i ≠ l) (hjl : j ≠ l)
    (hx : X.env.scope.names.lookup x = some .local) (hy : X.env.scope.names.lookup y = some .local) (hz : X.env.scope.names.lookup z = some .local) (ha : DA X W [a, b, c] ta)
    (hw : swappedStores [.Tuple [.Name x px, .Name y py, .Name z pz] kt pt] (.Tuple [a, b, c] k2 pt2) X.env = pure (some [x, y, z]))
    (hs : swapsWithSole [.Tuple [.Name x px, .Name y py, .Name z pz] kt pt] (.Tuple [a, b, c] k2 pt2) pos.line X.env = pure false := by rfl) :
    DS X W (.Assign [.Tuple [.Name x px, .Name y py, .Name z pz] kt pt] (.Tuple [a, b, c] k2 pt2) pos) (dPar3 i j l ta) :=
  ⟨PS.imp (ps_par3 hc hN hi hj hl hij hil hjl hx hy hz ha.p hw hs) fun D σ H ⟨σd, S, fr, Dd, ok, cl, h, k⟩ => ⟨σd, S, fr, _, ok, cl, h, fun vs ds H1 S1 ok1 r1 q => by
    cases ds with
    | nil => exact (show False from q).elim
    | cons d r => cases r with
      | nil => exact (show False from q).elim
      | cons d2 r => cases r with
        | nil => exact (show False from q).elim
        | cons d3 r => cases r with
          | cons _ _ => exact (show False from q).elim
          | nil =>
            obtain ⟨v, s, rfl, h1, h2⟩ := r1
            obtain ⟨w, u, rfl, h3, h4⟩ := rpL2 h2
            exact ⟨v, w, u, rfl, k.nx _ _ H1 S1 (((ok1.set h1 i).set h3 j).set h4 l) q⟩⟩⟩
end
end Dv

/-! Readings by value, x: the rows by which a reading is run. -/
namespace Dv
open PySem L2 PyProof.Rows
theorem isi_non_int  : isiD (.non) "int" = some false := by
  show kitB "NoneType" "int" = some false
  decide +kernel
theorem isi_non_bool  : isiD (.non) "bool" = some false := by
  show kitB "NoneType" "bool" = some false
  decide +kernel
theorem isi_non_str  : isiD (.non) "str" = some false := by
  show kitB "NoneType" "str" = some false
  decide +kernel
theorem isi_non_tuple  : isiD (.non) "tuple" = some false := by
  show kitB "NoneType" "tuple" = some false
  decide +kernel
theorem isi_non_list  : isiD (.non) "list" = some false := by
  show kitB "NoneType" "list" = some false
  decide +kernel
theorem isi_bl_int (b : Bool) : isiD (.bl b) "int" = some true := by
  show kitB "bool" "int" = some true
  decide +kernel
theorem isi_bl_bool (b : Bool) : isiD (.bl b) "bool" = some true := by
  show kitB "bool" "bool" = some true
  decide +kernel
theorem isi_bl_str (b : Bool) : isiD (.bl b) "str" = some false := by
  show kitB "bool" "str" = some false
  decide +kernel
theorem isi_bl_tuple (b : Bool) : isiD (.bl b) "tuple" = some false := by
  show kitB "bool" "tuple" = some false
  decide +kernel
theorem isi_bl_list (b : Bool) : isiD (.bl b) "list" = some false := by
  show kitB "bool" "list" = some false
  decide +kernel
theorem isi_int_int (i : Int) : isiD (.int i) "int" = some true := by
  show kitB "int" "int" = some true
  decide +kernel
theorem isi_int_bool (i : Int) : isiD (.int i) "bool" = some false := by
  show kitB "int" "bool" = some false
  decide +kernel
theorem isi_int_str (i : Int) : isiD (.int i) "str" = some false := by
  show kitB "int" "str" = some false
  decide +kernel
theorem isi_int_tuple (i : Int) : isiD (.int i) "tuple" = some false := by
  show kitB "int" "tuple" = some false
  decide +kernel
theorem isi_int_list (i : Int) : isiD (.int i) "list" = some false := by
  show kitB "int" "list" = some false
  decide +kernel
theorem isi_str_int (x : Str) : isiD (.str x) "int" = some false := by
  show kitB "str" "int" = some false
  decide +kernel
theorem isi_str_bool (x : Str) : isiD (.str x) "bool" = some false := by
  show kitB "str" "bool" = some false
  decide +kernel
theorem isi_str_str (x : Str) : isiD (.str x) "str" = some true := by
  show kitB "str" "str" = some true
  decide +kernel
theorem isi_str_tuple (x : Str) : isiD (.str x) "tuple" = some false := by
  show kitB "str" "tuple" = some false
  decide +kernel
theorem isi_str_list (x : Str) : isiD (.str x) "list" = some false := by
  show kitB "str" "list" = some false
  decide +kernel
theorem isi_tup_int (xs : List D) : isiD (.tup xs) "int" = some false := by
  show kitB "tuple" "int" = some false
  decide +kernel
theorem isi_tup_bool (xs : List D) : isiD (.tup xs) "bool" = some false := by
  show kitB "tuple" "bool" = some false
  decide +kernel
theorem isi_tup_str (xs : List D) : isiD (.tup xs) "str" = some false := by
  show kitB "tuple" "str" = some false
  decide +kernel
theorem isi_tup_tuple (xs : List D) : isiD (.tup xs) "tuple" = some true := by
  show kitB "tuple" "tuple" = some true
  decide +kernel
theorem isi_tup_list (xs : List D) : isiD (.tup xs) "list" = some false := by
  show kitB "tuple" "list" = some false
  decide +kernel
theorem isi_lst_int (xs : List D) : isiD (.lst xs) "int" = some false := by
  show kitB "list" "int" = some false
  decide +kernel
theorem isi_lst_bool (xs : List D) : isiD (.lst xs) "bool" = some false := by
  show kitB "list" "bool" = some false
  decide +kernel
theorem isi_lst_str (xs : List D) : isiD (.lst xs) "str" = some false := by
  show kitB "list" "str" = some false
  decide +kernel
theorem isi_lst_tuple (xs : List D) : isiD (.lst xs) "tuple" = some false := by
  show kitB "list" "tuple" = some false
  decide +kernel
theorem isi_lst_list (xs : List D) : isiD (.lst xs) "list" = some true := by
  show kitB "list" "list" = some true
  decide +kernel
section
variable {S : Sd} {Q : DK} {R : List D → Sd → Prop} {σ : Si}
theorem x_var0 {d : D} {r : Si} : dVar 0 (some d :: r) S Q = Q d S := rfl
theorem x_varS {o : Option D} {r : Si} {i : Nat} : dVar (i + 1) (o :: r) S Q = dVar i r S Q := rfl
theorem x_bl {k : Bool} {Q : Bool → Sd → Prop} {t : TED} : dTest t σ S Q = t σ S (fun x S1 => match x with | .bl k => Q k S1 | _ => False) := rfl
theorem ite_tt {P R : Prop} : (if true = true then P else R) = P := if_pos rfl
theorem ite_ff {P R : Prop} : (if false = true then P else R) = R := if_neg Bool.false_ne_true
theorem x_len_tup {ds : List D} : rdLen [.tup ds] S Q = Q (.int ds.length) S := rfl
theorem x_len_lst {ds : List D} : rdLen [.lst ds] S Q = Q (.int ds.length) S := rfl
theorem x_len_str {z : Str} : rdLen [.str z] S Q = (z.length ≤ 16777216 ∧ Q (.int z.length) S) := rfl
theorem x_isi {d : D} {n : String} : rdIsi [d, .ty n] S Q = match isiD d n with | some b => Q (.bl b) S | none => False := rfl
theorem x_isi_of {d : D} {n : String} {b : Bool} (h : isiD d n = some b) : rdIsi [d, .ty n] S Q = Q (.bl b) S := by rw [x_isi, h]
theorem x_ixt {ds : List D} {i : Int} : rdIx (.tup ds) (.int i) S Q = ixQ S Q (atI ds i) := rfl
theorem x_ixl {ds : List D} {i : Int} : rdIx (.lst ds) (.int i) S Q = ixQ S Q (atI ds i) := rfl
theorem x_ixo {a : Addr} {ds : List D} {i : Int} (h : S a = some (.lst ds)) : rdIx (.obj a) (.int i) S Q = ixQ S Q (atI ds i) := by
  show (match S a with | some (.lst ds) => ixQ S Q (atI ds i) | _ => False) = _
  rw [h]
theorem x_set {a : Addr} {ds : List D} {i : Int} {j : Nat} {v : D} {Q : Sd → Prop} (h : S a = some (.lst ds)) (hj : ixN ds.length i = some j) : setQ S (.int i) v Q (.obj a) = Q (upS S a (.lst (ds.set j v))) := by
  show (match S a, (D.int i) with | some (.lst ds), .int i => (match ixN ds.length i with | some j => Q (upS S a (.lst (ds.set j v))) | none => False) | _, _ => False) = _
  rw [h]
  dsimp only
  rw [hj]
theorem x_app {a : Addr} {ds : List D} {v : D} (h : S a = some (.lst ds)) : appQ S v Q (.obj a) = (ds.length < 16777216 ∧ Q .non (upS S a (.lst (ds ++ [v])))) := by
  show (match S a with | some (.lst ds) => ds.length < 16777216 ∧ Q .non (upS S a (.lst (ds ++ [v]))) | _ => False) = _
  rw [h]
end
theorem ixN_nat {n : Nat} {j : Nat} (h : j < n) : ixN n (j : Int) = some j := by
  unfold ixN
  rw [if_pos (Int.natCast_nonneg j), if_pos (by omega)]
  simp
theorem atI_lt {ds : List D} {i : Int} (h0 : 0 ≤ i) (h1 : i < ds.length) : atI ds i = ds[i.toNat]? := by
  unfold atI ixN
  rw [if_pos h0, if_pos h1]
  rfl
theorem atI_some {ds : List D} {i : Int} (h0 : 0 ≤ i) (h1 : i < ds.length) : ∃ d, atI ds i = some d ∧ d ∈ ds := by
  rw [atI_lt h0 h1]
  have h2 : i.toNat < ds.length := by omega
  exact ⟨ds[i.toNat], List.getElem?_eq_getElem h2, List.getElem_mem h2⟩

section
variable {S : Sd} {Q : DK} {i j : Int} {k l : Bool} {x y : Str} {xs ys : List D}
theorem x_add_ii : rdAdd (.int i) (.int j) S Q = Q (.int (i + j)) S := rfl
theorem x_add_ib : rdAdd (.int i) (.bl k) S Q = Q (.int (i + b2i k)) S := rfl
theorem x_add_ss : rdAdd (.str x) (.str y) S Q = (x.length + y.length ≤ 16777216 ∧ Q (.str (x ++ y)) S) := rfl
theorem x_add_tt : rdAdd (.tup xs) (.tup ys) S Q = (xs.length + ys.length ≤ 16777216 ∧ Q (.tup (xs ++ ys)) S) := rfl
theorem x_add_ll : rdAdd (.lst xs) (.lst ys) S Q = (xs.length + ys.length ≤ 16777216 ∧ Q (.lst (xs ++ ys)) S) := rfl
theorem x_add_oo {a b : Addr} (h : S a = some (.lst xs)) (h2 : S b = some (.lst ys)) : rdAdd (.obj a) (.obj b) S Q = (xs.length + ys.length ≤ 16777216 ∧ Q (.lst (xs ++ ys)) S) := by
  show catD Q S (lstD S (.obj a)) (lstD S (.obj b)) = _
  unfold lstD
  simp only [h, h2]
  rfl
theorem x_add_ol {a : Addr} (h : S a = some (.lst xs)) : rdAdd (.obj a) (.lst ys) S Q = (xs.length + ys.length ≤ 16777216 ∧ Q (.lst (xs ++ ys)) S) := by
  show catD Q S (lstD S (.obj a)) (lstD S (.lst ys)) = _
  unfold lstD
  simp only [h]
  rfl
theorem x_sub : rdSub (.int i) (.int j) S Q = Q (.int (i - j)) S := rfl
theorem x_mul : rdMul (.int i) (.int j) S Q = (i.natAbs.log2 + j.natAbs.log2 < 1000000 ∧ Q (.int (i * j)) S) := rfl
theorem x_mul_s : rdMul (.str x) (.int j) S Q = ((0 ≤ j ∧ (x.length : Int) * j ≤ 16777216 ∧ j ≤ 16777216) ∧ Q (.str (repS x j.toNat)) S) := rfl
theorem x_fdiv : rdFdiv (.int i) (.int j) S Q = ((j ≠ 0 ∧ j.natAbs.log2 < 9000) ∧ Q (.int (i.fdiv j)) S) := rfl
theorem x_mod : rdMod (.int i) (.int j) S Q = (j ≠ 0 ∧ Q (.int (i.fmod j)) S) := rfl
theorem x_pow : rdPow (.int i) (.int j) S Q = ((0 ≤ j ∧ ((i.natAbs.log2 : Int) + 1) * j ≤ 134217728) ∧ Q (.int (i ^ j.toNat)) S) := rfl
theorem x_neg : rdNeg (.int i) S Q = Q (.int (-i)) S := rfl
theorem x_lt : rdLt (.int i) (.int j) S Q = Q (.bl (decide (i < j))) S := rfl
theorem x_le : rdLe (.int i) (.int j) S Q = Q (.bl (decide (i ≤ j))) S := rfl
theorem x_gt : rdGt (.int i) (.int j) S Q = Q (.bl (decide (j < i))) S := rfl
theorem x_ge : rdGe (.int i) (.int j) S Q = Q (.bl (decide (j ≤ i))) S := rfl
theorem x_eq_ii : rdEq (.int i) (.int j) S Q = Q (.bl (decide (i = j))) S := rfl
theorem x_eq_ss : rdEq (.str x) (.str y) S Q = Q (.bl (decide (x = y))) S := rfl
theorem x_eq_bb : rdEq (.bl k) (.bl l) S Q = Q (.bl (decide (k = l))) S := rfl
theorem x_ne_ii : rdNe (.int i) (.int j) S Q = Q (.bl (!decide (i = j))) S := rfl
theorem x_ne_ss : rdNe (.str x) (.str y) S Q = Q (.bl (!decide (x = y))) S := rfl
theorem x_ne_bb : rdNe (.bl k) (.bl l) S Q = Q (.bl (!decide (k = l))) S := rfl
theorem x_abs : rdAbs [.int i] S Q = Q (.int (if i < 0 then -i else i)) S := rfl
theorem x_max2 : rdMax2 [.int i, .int j] S Q = Q (.int (if j > i then j else i)) S := rfl
theorem x_min2 : rdMin2 [.int i, .int j] S Q = Q (.int (if j < i then j else i)) S := rfl
theorem x_int_i : rdInt [.int i] S Q = Q (.int i) S := rfl
theorem x_int_b : rdInt [.bl k] S Q = Q (.int (if k then 1 else 0)) S := rfl
theorem x_tupc_l : rdTupC [.lst xs] S Q = Q (.tup xs) S := rfl
theorem x_tupc_t : rdTupC [.tup xs] S Q = Q (.tup xs) S := rfl
theorem x_listc_l : rdListC [.lst xs] S Q = Q (.lst xs) S := rfl
theorem x_listc_t : rdListC [.tup xs] S Q = Q (.lst xs) S := rfl
theorem x_sl_t {lo hi : Option Int} : rdSl (.tup xs) lo hi S Q = Q (.tup (cutD xs lo hi)) S := rfl
theorem x_sl_l {lo hi : Option Int} : rdSl (.lst xs) lo hi S Q = Q (.lst (cutD xs lo hi)) S := rfl
theorem x_sl_s {lo hi : Option Int} : rdSl (.str x) lo hi S Q = (x.length ≤ 16777216 ∧ Q (.str (cutS x lo hi)) S) := rfl
theorem x_sl_o {a : Addr} {lo hi : Option Int} (h : S a = some (.lst xs)) : rdSl (.obj a) lo hi S Q = Q (.lst (cutD xs lo hi)) S := by
  show (match S a with | some (.lst ds) => Q (.lst (cutD ds lo hi)) S | _ => False) = _
  rw [h]
theorem x_ixs : rdIx (.str x) (.int i) S Q = (x.length ≤ 16777216 ∧ ixS S Q (atI x.cps.toList i)) := rfl
theorem x_allb {bs : List Bool} (e : xs = bs.map D.bl) (h : Q (.bl (bs.all id)) S) : rdAll [.lst xs] S Q := ⟨bs, by rw [e]; rfl, h⟩
theorem x_anyb {bs : List Bool} (e : xs = bs.map D.bl) (h : Q (.bl (bs.any id)) S) : rdAny [.lst xs] S Q := ⟨bs, by rw [e]; rfl, h⟩
end
theorem atI_0 {α : Type} {a : α} {r : List α} : atI (a :: r) 0 = some a := atI_nat (j := 0) rfl
theorem atI_1 {α : Type} {a b : α} {r : List α} : atI (a :: b :: r) 1 = some b := atI_nat (j := 1) rfl
theorem atI_2 {α : Type} {a b c : α} {r : List α} : atI (a :: b :: c :: r) 2 = some c := atI_nat (j := 2) rfl
theorem atI_3 {α : Type} {a b c d : α} {r : List α} : atI (a :: b :: c :: d :: r) 3 = some d := atI_nat (j := 3) rfl
theorem x_ixQ {S : Sd} {Q : DK} {d : D} : ixQ S Q (some d) = Q d S := rfl
theorem x_ixS {S : Sd} {Q : DK} {c : Nat} : ixS S Q (some c) = Q (.str ⟨#[c]⟩) S := rfl
theorem log2_lt {a : Int} {n : Nat} (h : a.natAbs < 2 ^ n) (h0 : 0 < n) : a.natAbs.log2 < n := PySem.Flt.log2_lt_of h0 h
/-! ### joints, loops -/
theorem seq_cut {t v : TSD} {E : EndsD} {σ : Si} {S : Sd} (Mid : Si → Sd → Prop) (h1 : ∀ N : Si → Sd → Prop, (∀ σ' S', Mid σ' S' → N σ' S') → t { E with nx := N } σ S) (h2 : ∀ σ' S', Mid σ' S' → v E σ' S') : dSeq t v E σ S := h1 (v E) h2
section
variable {g : TGD} {tb : TSD} {E : EndsD} {xs : List D}
theorem loop_pre (I : List D → Si → Sd → Prop) (hs : ∀ (p : List D) (x : D) (r : List D) (σ : Si) (S : Sd) (N : Si → Sd → Prop), xs = p ++ x :: r → I p σ S → (∀ σ' S', I (p ++ [x]) σ' S' → N σ' S') → g x σ S fun σ2 S2 => tb { E with nx := N, ct := N, bk := E.nx } σ2 S2)
    (hd : ∀ σ S, I xs σ S → E.nx σ S) : ∀ (r p : List D) (σ : Si) (S : Sd), xs = p ++ r → I p σ S → dLoop g tb E r σ S
  | [], p, σ, S, e, h => by
    rw [List.append_nil] at e
    rw [← e] at h
    exact hd σ S h
  | x :: r, p, σ, S, e, h => hs p x r σ S _ e h fun σ' S' h' => loop_pre I hs hd r (p ++ [x]) σ' S' (by rw [e]; simp) h'
theorem loop_all (I : List D → Si → Sd → Prop) {σ : Si} {S : Sd} (h0 : I [] σ S) (hs : ∀ (p : List D) (x : D) (r : List D) (σ : Si) (S : Sd) (N : Si → Sd → Prop), xs = p ++ x :: r → I p σ S → (∀ σ' S', I (p ++ [x]) σ' S' → N σ' S') → g x σ S fun σ2 S2 => tb { E with nx := N, ct := N, bk := E.nx } σ2 S2)
    (hd : ∀ σ S, I xs σ S → E.nx σ S) : dLoop g tb E xs σ S := loop_pre I hs hd xs [] σ S rfl h0
theorem rgD_len (lo : Int) (n : Nat) : (rgD lo n).length = n := by unfold rgD; rw [List.length_map, List.length_range]
theorem rgD_at {lo : Int} {n : Nat} {p r : List D} {x : D} (e : rgD lo n = p ++ x :: r) : x = .int (lo + p.length) ∧ p.length < n := by
  have h1 : (rgD lo n)[p.length]? = some x := by rw [e]; simp
  unfold rgD at h1
  rw [List.getElem?_map] at h1
  cases q : (List.range n)[p.length]? with
  | none => rw [q] at h1; cases h1
  | some j =>
    rw [q] at h1
    obtain ⟨h2, h3⟩ := List.getElem?_eq_some_iff.mp q
    rw [List.getElem_range] at h3
    subst h3
    exact ⟨(Option.some.inj h1).symm, by simpa using h2⟩
theorem loop_rng {lo : Int} {n : Nat} (I : Nat → Si → Sd → Prop) {σ : Si} {S : Sd} (h0 : I 0 σ S) (hs : ∀ (i : Nat) (σ : Si) (S : Sd) (N : Si → Sd → Prop), i < n → I i σ S → (∀ σ' S', I (i + 1) σ' S' → N σ' S') → g (.int (lo + i)) σ S fun σ2 S2 => tb { E with nx := N, ct := N, bk := E.nx } σ2 S2)
    (hd : ∀ σ S, I n σ S → E.nx σ S) : dLoop g tb E (rgD lo n) σ S :=
  loop_all (fun p σ S => I p.length σ S) h0 (fun p x r σ S N e h k => by
    obtain ⟨rfl, h1⟩ := rgD_at e
    exact hs p.length σ S N h1 h fun σ' S' h' => k σ' S' (by rw [List.length_append]; exact h')) fun σ S h => hd σ S (by rw [rgD_len] at h; exact h)
theorem sgD_at {z : Str} {p r : List D} {x : D} (e : sgD z = p ++ x :: r) : ∃ (q : List Nat) (c : Nat) (s : List Nat), z.cps.toList = q ++ c :: s ∧ x = .str ⟨#[c]⟩ ∧ p = q.map (fun c => D.str ⟨#[c]⟩) := by
  unfold sgD at e
  obtain ⟨q, t, e1, e2, e3⟩ := List.map_eq_append_iff.mp e
  obtain ⟨c, s, e4, e5, e6⟩ := List.map_eq_cons_iff.mp e3
  exact ⟨q, c, s, by rw [e1, e4], e5.symm, e2.symm⟩
theorem map_str_inj : ∀ {a b : List Nat}, a.map (fun c => D.str ⟨#[c]⟩) = b.map (fun c => D.str ⟨#[c]⟩) → a = b
  | [], [], _ => rfl
  | [], _ :: _, h => by cases h
  | _ :: _, [], h => by cases h
  | x :: a, y :: b, h => by
    rw [List.map_cons, List.map_cons] at h
    injection h with h1 h2
    injection h1 with h3
    injection h3 with h4
    have h5 : x = y := by simpa using h4
    rw [h5, map_str_inj h2]
theorem loop_str {z : Str} (I : List Nat → Si → Sd → Prop) {σ : Si} {S : Sd} (h0 : I [] σ S) (hs : ∀ (p : List Nat) (c : Nat) (r : List Nat) (σ : Si) (S : Sd) (N : Si → Sd → Prop), z.cps.toList = p ++ c :: r → I p σ S → (∀ σ' S', I (p ++ [c]) σ' S' → N σ' S') → g (.str ⟨#[c]⟩) σ S fun σ2 S2 => tb { E with nx := N, ct := N, bk := E.nx } σ2 S2)
    (hd : ∀ σ S, I z.cps.toList σ S → E.nx σ S) : dLoop g tb E (sgD z) σ S :=
  loop_all (fun p σ S => ∃ q : List Nat, p = q.map (fun c => D.str ⟨#[c]⟩) ∧ I q σ S) ⟨[], rfl, h0⟩ (fun p x r σ S N e ⟨q, eq, h⟩ k => by
    obtain ⟨q2, c, s, e1, rfl, e3⟩ := sgD_at e
    have e4 : q = q2 := map_str_inj (eq.symm.trans e3)
    subst e4
    exact hs q c s σ S N e1 h fun σ' S' h' => k σ' S' ⟨q ++ [c], by rw [List.map_append, eq]; rfl, h'⟩) fun σ S ⟨q, eq, h⟩ => hd σ S (by
      have e : z.cps.toList = q := map_str_inj eq
      rw [e]; exact h)
end
/-! ### comprehensions without a trace -/
theorem lcL_pure {te : TED} {p : Addr} {σw : Si} {i : Nat} {S : Sd} (f : D → D) : ∀ (xs acc : List D) (Q : List D → Sd → Prop), (∀ x ∈ xs, ∀ S' (Q' : DK), Q' (f x) S' → te (σw.set i (some x)) S' Q') → acc.length + xs.length ≤ 16777216 →
    Q (acc ++ xs.map f) (upS S p (.lst (acc ++ xs.map f))) → dLcL (dName i) dYes te p σw xs acc (upS S p (.lst acc)) Q
  | [], acc, Q, _, _, q => by
    rw [List.map_nil, List.append_nil] at q
    exact q
  | x :: r, acc, Q, h, hl, q => by
    rw [List.length_cons] at hl
    show (if true = true then te (σw.set i (some x)) (upS S p (.lst acc)) fun y S4 => S4 p = some (.lst acc) ∧ acc.length < 16777216 ∧ dLcL (dName i) dYes te p σw r (acc ++ [y]) (upS S4 p (.lst (acc ++ [y]))) Q else dLcL (dName i) dYes te p σw r acc (upS S p (.lst acc)) Q)
    rw [if_pos rfl]
    refine h x List.mem_cons_self _ _ ⟨upS_same, by omega, ?_⟩
    rw [upS_upS]
    refine lcL_pure f r (acc ++ [f x]) Q (fun y hy => h y (List.mem_cons_of_mem _ hy)) (by rw [List.length_append, List.length_singleton]; omega) ?_
    rw [List.append_assoc]
    exact q
theorem comp_pure {ti : TID} {te : TED} {i : Nat} {vs : List Nat} {σ : Si} {S : Sd} {Q : DK} (f : D → D) (xs : List D) (S1 : Sd) (hti : ∀ R : List D → Sd → Prop, R xs S1 → ti σ S R) (h : ∀ x ∈ xs, ∀ S' (Q' : DK), Q' (f x) S' → te ((wipeD σ vs).set i (some x)) S' Q') (hl : xs.length ≤ 16777216)
    (q : Q (.lst (xs.map f)) S1) : dComp ti (dName i) dYes te vs σ S Q := hti _ fun p hp => by
  refine lcL_pure f xs [] _ h (by simpa using hl) ⟨upS_same, ?_⟩
  rw [del_upS hp]
  exact q
end Dv

/-! Readings by value, y: texts, is, draws in a comprehension, loops with a measure. -/
namespace Dv
open PySem L2 PyProof.Rows
section
variable {X : Cx} {W : Wi}
/-! ### is -/
def rdIs : RD2 := fun x y S Q => match y with
  | .non => rdIsN x .non S Q
  | .bl b => (match x with | .bl a => Q (.bl (decide (a = b))) S | _ => False)
  | _ => False
def rdIsNot : RD2 := fun x y S Q => match y with
  | .non => rdNotN x .non S Q
  | .bl b => (match x with | .bl a => Q (.bl (!decide (a = b))) S | _ => False)
  | _ => False
theorem od_is : OpD X (compareOp .Is) rdIs := by
  obtain ⟨r, h, l⟩ := od_isN (X := X)
  refine ⟨_, h.or op_isBl, fun H S fr σd σ x y dx dy Qv Qd ok rx ry q k => ?_⟩
  cases dy with
  | non => exact .inl (l H S fr σd σ x y dx .non Qv Qd ok rx ry q k)
  | bl b =>
    cases dx with
    | bl a =>
      refine .inr ⟨a, b, rx, ry, k _ (.bl _) H S ok rfl q⟩
    | _ => exact (show False from q).elim
  | _ => exact (show False from q).elim
theorem od_isNot : OpD X (compareOp .IsNot) rdIsNot := by
  obtain ⟨r, h, l⟩ := od_notN (X := X)
  refine ⟨_, h.or op_notBl, fun H S fr σd σ x y dx dy Qv Qd ok rx ry q k => ?_⟩
  cases dy with
  | non => exact .inl (l H S fr σd σ x y dx .non Qv Qd ok rx ry q k)
  | bl b =>
    cases dx with
    | bl a =>
      refine .inr ⟨a, b, rx, ry, k _ (.bl _) H S ok rfl q⟩
    | _ => exact (show False from q).elim
  | _ => exact (show False from q).elim
/-! ### one sign in a text -/
def rdInS : RD2 := fun x y S Q => match x, y with
  | .str a, .str z => ∃ c, a = ⟨#[c]⟩ ∧ Q (.bl (decide (c ∈ z.cps.toList))) S
  | _, _ => False
theorem od_inS : OpD X (compareOp .In) rdInS := ⟨_, op_in_sign, fun H S fr σd σ x y dx dy Qv Qd ok rx ry q k => by
  cases dx with
  | str a => cases dy with
    | str z =>
      obtain ⟨c, rfl, q2⟩ := (show ∃ c, a = ⟨#[c]⟩ ∧ _ from q)
      exact ⟨c, z, rx, ry, k _ (.bl _) H S ok rfl q2⟩
    | _ => exact (show False from q).elim
  | _ => exact (show False from q).elim⟩
/-! ### methods of texts -/
def rdJoin : RDM := fun o vs S Q => match o, vs with
  | .str a, [d] => ∃ ys : List Str, itemsD S d = some (ys.map D.str) ∧ (ys.map (·.length)).sum + ys.length * a.length ≤ 16777216 ∧ Q (.str (Txt.join a ys)) S
  | _, _ => False
theorem join_lift : LiftM X.K (fun x xs H Q => ∃ a p, ∃ ys : List Str, x = .str a ∧ xs = [.ref p] ∧ (SqL X.K H p (ys.map V.str) ∨ SqT X.K H p (ys.map V.str)) ∧
    (ys.map (·.length)).sum + ys.length * a.length ≤ 16777216 ∧ Q (.str (Txt.join a ys)) H) rdJoin := fun H S fr σd σ x dx xs ds Qv Qd ok rx rs h k => by
  match dx, ds, h with
  | .str a, [d], h =>
    obtain ⟨ys, e, hl, q⟩ := (show ∃ ys : List Str, itemsD S d = some (ys.map D.str) ∧ _ from h)
    obtain ⟨v, rfl, r1⟩ := rpL1 rs
    obtain ⟨p, vs, rfl, hq, r2⟩ := rp_items ok.rel r1 e
    cases rpL_strs r2
    exact ⟨a, p, ys, rx, rfl, hq, hl, k _ (.str _) H S ok rfl q⟩
def rdCount : RDM := fun o vs S Q => match o, vs with
  | .str a, [.str b] => Q (.int (Txt.count a b)) S
  | _, _ => False
theorem count_lift {K : PySem.W.Frag} : LiftM K (fun x xs H Q => ∃ a b, x = .str a ∧ xs = [.str b] ∧ Q (.int (Txt.count a b)) H) rdCount := fun H S fr σd σ x dx xs ds Qv Qd ok rx rs h k => by
  match dx, ds, h with
  | .str a, [.str b], h =>
    obtain ⟨v, rfl, r1⟩ := rpL1 rs
    have e : v = .str b := r1
    subst e
    exact ⟨a, b, rx, rfl, k _ (.int _) H S ok rfl h⟩
theorem de_join {o : Expr} {to : TED} {es : List Expr} {e : Expr} {t : TAD} {apos cpos : Pos} (ho : DE X W o to) (ha : DA X W (e :: es) t) (hbase : attributeBase o "join" X.env (eval o X.env) = eval o X.env := by rfl)
    (hfew : ((backTo cpos (starEach (e :: es) X.env)).all (fun x => !x.1) && (backToKw cpos (keywordEach [] X.env)).all (fun x => x.1.isSome)
      && decide ((e :: es).length + ([] : List Keyword).length + (if ([] : List Keyword).isEmpty then 0 else 1) < 30)) = true := by rfl)
    (hline : (apos.endLine == cpos.line) = true := by rfl) (hs : starEach (e :: es) X.env = (false, eval e X.env) :: starEach es X.env := by rfl) (hplain : (backTo cpos (starEach es X.env)).any (·.1) = false := by rfl) :
    DE X W (.Call (.Attribute o "join" apos) (e :: es) [] cpos) (dBM "str" rdJoin to t) :=
  de_bm PySem.F.plainAttrs_str PySem.F.slot_str_join PySem.F.type_str_join mt_join join_lift ho ha hbase hfew hline hs hplain
theorem de_count {o : Expr} {to : TED} {es : List Expr} {e : Expr} {t : TAD} {apos cpos : Pos} (ho : DE X W o to) (ha : DA X W (e :: es) t) (hbase : attributeBase o "count" X.env (eval o X.env) = eval o X.env := by rfl)
    (hfew : ((backTo cpos (starEach (e :: es) X.env)).all (fun x => !x.1) && (backToKw cpos (keywordEach [] X.env)).all (fun x => x.1.isSome)
      && decide ((e :: es).length + ([] : List Keyword).length + (if ([] : List Keyword).isEmpty then 0 else 1) < 30)) = true := by rfl)
    (hline : (apos.endLine == cpos.line) = true := by rfl) (hs : starEach (e :: es) X.env = (false, eval e X.env) :: starEach es X.env := by rfl) (hplain : (backTo cpos (starEach es X.env)).any (·.1) = false := by rfl) :
    DE X W (.Call (.Attribute o "count" apos) (e :: es) [] cpos) (dBM "str" rdCount to t) :=
  de_bm PySem.F.plainAttrs_str PySem.F.slot_str_count PySem.F.type_str_count mt_count count_lift ho ha hbase hfew hline hs hplain
/-! ### list(text), tuple(text) -/
theorem vals_signs {z : Str} {us : List Value} (h : ItemsOf (SignAt z) us.toArray z.cps.size) : Vals (z.cps.toList.map fun c => V.str ⟨#[c]⟩) us := by
  obtain ⟨h1, h2⟩ := h
  refine vals_of_at (by simpa using h1.symm) fun j x u e1 e2 => ?_
  obtain ⟨c, t, e3, rfl⟩ := h2 j u (by simpa using e2)
  rw [List.getElem?_map] at e1
  have e4 : z.cps.toList[j]? = some c := by simpa using e3
  rw [e4] at e1
  cases e1
  exact ⟨t, rfl⟩
def rListS : List V → Hp → VK → Prop := fun xs H Q => ∃ z, xs = [.str z] ∧ z.length ≤ 16777216 ∧ ∀ p, H p = none → Q (.ref p) (upd H p (.lst (z.cps.toList.map fun c => V.str ⟨#[c]⟩)))
theorem call_listS (hc : X.calm = true) : CallR X (.type "list") rListS := by
  intro pins s σ H xs us Q I r h
  obtain ⟨z, rfl, hz, q⟩ := h
  obtain ⟨u, rfl, rx⟩ := vals1 r
  obtain ⟨t, rfl⟩ := (show ∃ t, u = .str z t from rx)
  have hz' : z.cps.size ≤ sizeLine := sz_le hz
  refine call_list_str (I.ok.hd hc) z t (fun h' tk acc c' hk e' hi => ?_) hz'
  refine ⟨.ref s.heap.objs.size, upd H s.heap.objs.size (.lst (z.cps.toList.map fun c => V.str ⟨#[c]⟩)), I.laid hk (Nat.le_refl _) (show ObjOk X.prog X.w _ _ _ (.lst _) from ⟨?_, acc.toList, c', vals_signs (by simpa using hi), ?_⟩), rfl, q _ (I.hok.fresh (Nat.le_refl _))⟩
  · rw [List.length_map, Array.length_toList]; exact hz'
  · simpa using e'
def rTupS : List V → Hp → VK → Prop := fun xs H Q => ∃ z, xs = [.str z] ∧ z.length ≤ 16777216 ∧ ∀ p, H p = none → Q (.ref p) (upd H p (.tup (z.cps.toList.map fun c => V.str ⟨#[c]⟩)))
theorem call_tupS (hc : X.calm = true) : CallR X (.type "tuple") rTupS := by
  intro pins s σ H xs us Q I r h
  obtain ⟨z, rfl, hz, q⟩ := h
  obtain ⟨u, rfl, rx⟩ := vals1 r
  obtain ⟨t, rfl⟩ := (show ∃ t, u = .str z t from rx)
  have hz' : z.cps.size ≤ sizeLine := sz_le hz
  refine call_tuple_str (I.ok.hd hc) z t (fun h' tk acc hk hi => ?_) hz'
  have I2 : Inv X pins σ H { s with heap := h', toks := tk } := I.kept hk
  refine ⟨.ref h'.objs.size, upd H h'.objs.size (.tup (z.cps.toList.map fun c => V.str ⟨#[c]⟩)), I2.laid (t' := tk) (fun c o e => Heap.get?_push_of_some _ e) (Nat.le_refl _) (show ObjOk X.prog X.w _ _ _ (.tup _) from ⟨?_, acc.toList, vals_signs (by simpa using hi), ?_⟩), rfl, q _ (I2.hok.fresh (Nat.le_refl _))⟩
  · rw [List.length_map, Array.length_toList]; exact hz'
  · rw [Array.toArray_toList]; exact IsTup.new _ _
theorem rpL_signs {K : PySem.W.Frag} {H : Hp} {S : Sd} {z : Str} : RpL K H S (sgD z) (z.cps.toList.map fun c => V.str ⟨#[c]⟩) := by
  unfold sgD
  induction z.cps.toList with
  | nil => exact rfl
  | cons n r ih => exact ⟨_, _, rfl, rfl, ih⟩
def rdListA : RDC := fun ds S Q => match ds with
  | [.str z] => z.length ≤ 16777216 ∧ Q (.lst (sgD z)) S
  | _ => rdListC ds S Q
def rdTupA : RDC := fun ds S Q => match ds with
  | [.str z] => z.length ≤ 16777216 ∧ Q (.tup (sgD z)) S
  | _ => rdTupC ds S Q
theorem one_str {ds : List D} : (∃ z, ds = [.str z]) ∨ ((∀ S Q, rdListA ds S Q → rdListC ds S Q) ∧ ∀ S Q, rdTupA ds S Q → rdTupC ds S Q) := by
  match ds with
  | [] => exact .inr ⟨fun _ _ h => h, fun _ _ h => h⟩
  | d :: e :: r => cases d <;> exact .inr ⟨fun _ _ h => h, fun _ _ h => h⟩
  | [d] => cases d with
    | str z => exact .inl ⟨z, rfl⟩
    | _ => exact .inr ⟨fun _ _ h => h, fun _ _ h => h⟩
theorem cd_listA (hc : X.calm = true) : CallD X (.type "list") rdListA := by
  obtain ⟨r, h, l⟩ := cd_list (X := X)
  refine ⟨_, h.or (call_listS hc), fun H S fr σd σ xs ds Qv Qd ok r0 q k => ?_⟩
  rcases one_str (ds := ds) with ⟨z, rfl⟩ | ⟨h1, h2⟩
  · obtain ⟨v, rfl, r1⟩ := rpL1 r0
    have e : v = .str z := r1
    subst e
    obtain ⟨q1, q2⟩ := (show z.length ≤ 16777216 ∧ Qd (.lst (sgD z)) S from q)
    exact .inr ⟨z, rfl, q1, fun p hp => k _ (.lst _) _ S (ok.new hp) (rp_lstNew ok.rel hp rpL_signs) q2⟩
  · exact .inl (l H S fr σd σ xs ds Qv Qd ok r0 (h1 _ _ q) k)
theorem cd_tupA (hc : X.calm = true) : CallD X (.type "tuple") rdTupA := by
  obtain ⟨r, h, l⟩ := cd_tuple (X := X)
  refine ⟨_, h.or (call_tupS hc), fun H S fr σd σ xs ds Qv Qd ok r0 q k => ?_⟩
  rcases one_str (ds := ds) with ⟨z, rfl⟩ | ⟨h1, h2⟩
  · obtain ⟨v, rfl, r1⟩ := rpL1 r0
    have e : v = .str z := r1
    subst e
    obtain ⟨q1, q2⟩ := (show z.length ≤ 16777216 ∧ Qd (.tup (sgD z)) S from q)
    exact .inr ⟨z, rfl, q1, fun p hp => k _ (.tup _) _ S (ok.new hp) (rp_tupNew ok.rel hp rpL_signs) q2⟩
  · exact .inl (l H S fr σd σ xs ds Qv Qd ok r0 (h2 _ _ q) k)
end
/-! ### rows -/
section
variable {S : Sd} {Q : DK} {x y z : Str} {k l : Bool} {ds : List D} {d : D}
theorem x_is_bb : rdIs (.bl k) (.bl l) S Q = Q (.bl (decide (k = l))) S := rfl
theorem x_isNot_bb : rdIsNot (.bl k) (.bl l) S Q = Q (.bl (!decide (k = l))) S := rfl
theorem x_is_n : rdIs d .non S Q = rdIsN d .non S Q := rfl
theorem x_isNot_n : rdIsNot d .non S Q = rdNotN d .non S Q := rfl
theorem x_inS {c : Nat} : rdInS (.str ⟨#[c]⟩) (.str z) S Q = Q (.bl (decide (c ∈ z.cps.toList))) S := by
  refine propext ⟨fun ⟨c', e, q⟩ => ?_, fun q => ⟨c, rfl, q⟩⟩
  injection e with e
  have e2 : c = c' := by simpa using e
  rw [e2]; exact q
theorem x_listA_s : rdListA [.str z] S Q = (z.length ≤ 16777216 ∧ Q (.lst (sgD z)) S) := rfl
theorem x_listA_t : rdListA [.tup ds] S Q = Q (.lst ds) S := rfl
theorem x_listA_l : rdListA [.lst ds] S Q = Q (.lst ds) S := rfl
theorem x_tupA_s : rdTupA [.str z] S Q = (z.length ≤ 16777216 ∧ Q (.tup (sgD z)) S) := rfl
theorem x_tupA_t : rdTupA [.tup ds] S Q = Q (.tup ds) S := rfl
theorem x_tupA_l : rdTupA [.lst ds] S Q = Q (.tup ds) S := rfl
theorem x_count : rdCount (.str x) [.str y] S Q = Q (.int (Txt.count x y)) S := rfl
theorem x_len_strL : z.length = z.cps.toList.length := by show z.cps.size = _; simp
end
/-- joined by nothing -/
theorem join_e (ys : List Str) : (Txt.join "" ys).cps.toList = (ys.map fun y => y.cps.toList).flatten := by
  rw [TL.join_eq]
  induction ys with
  | nil => rfl
  | cons y r ih =>
    cases r with
    | nil => show y.cps.toList = _; simp
    | cons z r =>
      show (y ++ ("" : Str) ++ Str.join "" (z :: r)).cps.toList = _
      have e : ∀ a b : Str, (a ++ b).cps.toList = a.cps.toList ++ b.cps.toList := fun a b => by
        show (a.cps ++ b.cps).toList = _
        simp
      rw [e, e, ih]
      have e0 : ("" : Str).cps.toList = [] := by decide +kernel
      rw [e0, List.append_nil]
      rfl
theorem x_join {S : Sd} {Q : DK} {d : D} {a : Str} (ys : List Str) (e : itemsD S d = some (ys.map D.str)) (h : (ys.map (·.length)).sum + ys.length * a.length ≤ 16777216) (q : Q (.str (Txt.join a ys)) S) : rdJoin (.str a) [d] S Q := ⟨ys, e, h, q⟩
/-- a text of signs -/
def ofL (l : List Nat) : Str := ⟨l.toArray⟩
theorem ofL_cps (l : List Nat) : (ofL l).cps.toList = l := rfl
theorem ofL_len (l : List Nat) : (ofL l).length = l.length := by show l.toArray.size = _; simp
theorem ofL_of (z : Str) : z = ofL z.cps.toList := str_ext rfl
theorem ofL_app (a b : List Nat) : ofL a ++ ofL b = ofL (a ++ b) := str_ext (by show (a.toArray ++ b.toArray).toList = _; simp [ofL])
theorem ofL_inj {a b : List Nat} : ofL a = ofL b ↔ a = b := ⟨fun h => by have := congrArg (fun z : Str => z.cps.toList) h; simpa [ofL] using this, fun h => by rw [h]⟩
theorem join_ones (l : List Nat) : Txt.join "" (l.map fun c => (⟨#[c]⟩ : Str)) = ofL l := str_ext (by
  rw [join_e, List.map_map]
  show ((l.map fun c => [c]).flatten) = l
  induction l with
  | nil => rfl
  | cons c r ih => rw [List.map_cons, List.flatten_cons, ih]; rfl)
/-! ### comprehensions that draw -/
theorem lcL_inv {te : TED} {p : Addr} {σw : Si} {i : Nat} {xs : List D} {Q : List D → Sd → Prop} (J : List D → Sd → Prop)
    (hs : ∀ (pre : List D) (x : D) (r acc : List D) (S : Sd) (Q' : DK), xs = pre ++ x :: r → acc.length = pre.length → J acc S → S p = some (.lst acc) → (∀ y S', S' p = some (.lst acc) → J (acc ++ [y]) (upS S' p (.lst (acc ++ [y]))) → Q' y S') → te (σw.set i (some x)) S Q')
    (hl : xs.length ≤ 16777216) (hd : ∀ acc S, acc.length = xs.length → J acc S → S p = some (.lst acc) → Q acc S) : ∀ (r pre acc : List D) (S : Sd), xs = pre ++ r → acc.length = pre.length → J acc S → S p = some (.lst acc) → dLcL (dName i) dYes te p σw r acc S Q
  | [], pre, acc, S, e, hn, j, hp => hd acc S (by rw [e, List.append_nil]; exact hn) j hp
  | x :: r, pre, acc, S, e, hn, j, hp => by
    show (if true = true then te (σw.set i (some x)) S fun y S4 => S4 p = some (.lst acc) ∧ acc.length < 16777216 ∧ dLcL (dName i) dYes te p σw r (acc ++ [y]) (upS S4 p (.lst (acc ++ [y]))) Q else dLcL (dName i) dYes te p σw r acc S Q)
    rw [if_pos rfl]
    refine hs pre x r acc S _ e hn j hp fun y S' h1 h2 => ⟨h1, ?_, ?_⟩
    · have := congrArg List.length e
      rw [List.length_append, List.length_cons] at this
      omega
    · exact lcL_inv J hs hl hd r (pre ++ [x]) (acc ++ [y]) _ (by rw [e]; simp) (by rw [List.length_append, List.length_append, hn]; rfl) h2 upS_same
theorem comp_inv {ti : TID} {te : TED} {i : Nat} {vs : List Nat} {σ : Si} {S : Sd} {Q : DK} (xs : List D) (S1 : Sd) (J : Addr → List D → Sd → Prop) (hti : ∀ R : List D → Sd → Prop, R xs S1 → ti σ S R) (h0 : ∀ p, S1 p = none → J p [] (upS S1 p (.lst [])))
    (hs : ∀ (p : Addr) (pre : List D) (x : D) (r acc : List D) (S : Sd) (Q' : DK), S1 p = none → xs = pre ++ x :: r → acc.length = pre.length → J p acc S → S p = some (.lst acc) → (∀ y S', S' p = some (.lst acc) → J p (acc ++ [y]) (upS S' p (.lst (acc ++ [y]))) → Q' y S') → te ((wipeD σ vs).set i (some x)) S Q')
    (hl : xs.length ≤ 16777216) (hd : ∀ p acc S, S1 p = none → acc.length = xs.length → J p acc S → S p = some (.lst acc) → Q (.lst acc) (del S p)) : dComp ti (dName i) dYes te vs σ S Q := hti _ fun p hp =>
  lcL_inv (J p) (fun pre x r acc S Q' => hs p pre x r acc S Q' hp) hl (fun acc S hn j e => ⟨e, hd p acc S hp hn j e⟩) xs [] [] _ rfl rfl (h0 p hp) upS_same
/-! ### while -/
theorem while_inv {c : TTD} {tb : TSD} {E : EndsD} {σ : Si} {S : Sd} (I : Nat → Si → Sd → Prop) (m : Nat) (h0 : I m σ S)
    (hs : ∀ (m : Nat) (σ : Si) (S : Sd) (N : Si → Sd → Prop), I m σ S → (∀ m' σ' S', m' < m → I m' σ' S' → N σ' S') → c σ S fun b S1 => if b = true then tb { E with nx := N, ct := N, bk := E.nx } σ S1 else E.nx σ S1) : dWhile c tb E σ S :=
  ⟨I, ⟨m, h0⟩, fun m σ S h => hs m σ S _ h fun m' σ' S' hm h' => ⟨m', hm, h'⟩⟩
end Dv

/-! Readings by value, u: statements that are never reached, +=, a written dict read by a text. -/
namespace Dv
open PySem L2 PyProof.Rows
section
variable {X : Cx} {W : Wi} {pos : Pos}
def dNever : TSD := fun _ _ _ => False
theorem ds_never {s : Stmt} : DS X W s dNever := ⟨⟨fun pins sh σ H D I ⟨_, _, _, _, _, _, h, _⟩ => (show False from h).elim⟩⟩
def rdIadd : RD2 := fun x y S Q => match x, y with
  | .int i, .int j => Q (.int (i + j)) S
  | .str i, .str j => i.length + j.length ≤ 16777216 ∧ Q (.str (i ++ j)) S
  | _, _ => False
theorem iod_add : OpD X (inplaceOp .Add) rdIadd := ⟨_, iop_add.or iop_add_str, fun H S fr σd σ x y dx dy Qv Qd ok rx ry q k => by
  cases dx with
  | int i => cases dy with
    | int j => exact .inl ⟨i, j, rx, ry, k _ (.int _) H S ok rfl q⟩
    | _ => exact (show False from q).elim
  | str i => cases dy with
    | str j =>
      obtain ⟨q1, q2⟩ := (show i.length + j.length ≤ 16777216 ∧ Qd (.str (i ++ j)) S from q)
      exact .inr ⟨i, j, rx, ry, sz_le q1, k _ (.str _) H S ok rfl q2⟩
    | _ => exact (show False from q).elim
  | _ => exact (show False from q).elim⟩
/-! ### a written dict read by a text -/
def dKix (tab : Str → Option D) (tb : TED) : TED := fun σ S Q => tb σ S fun y S1 => match y with
  | .str z => (match tab z with | some d => Q d S1 | none => False)
  | _ => False
theorem de_kix {x : Str} {a : Addr} {b : Expr} {tb : TED} {p : Pos} {tab : Str → Option D} (hg : Gl X x) (hm : X.mg x = some (.ref a)) (ht : ∀ z d, tab z = some d → ∃ v, KDct X.K X.w a z v ∧ ∀ H S, Rp X.K H S d v) (hb : DE X W b tb) (hs : PlainIx b)
    (hd : (x == ("__debug__" : Str)) = false := by decide) : DE X W (.Subscript (.Name x p) b pos) (dKix tab tb) :=
  ⟨PE.imp (pe_ix ix_kdict (pe_glob (v := .ref a) hg hm rfl hd) hb.p hs) fun σ H Q ⟨σd, S, fr, Qd, ok, cl, h, k⟩ =>
    ⟨σd, S, fr, _, ok, cl, h, fun y dy H1 S1 ok1 ry q => by
      cases dy with
      | str z =>
        have q' : (match tab z with | some d => Qd d S1 | none => False) := q
        cases e : tab z with
        | none => rw [e] at q'; exact q'.elim
        | some d =>
          rw [e] at q'
          obtain ⟨v, h1, h2⟩ := ht z d e
          exact ⟨a, z, v, rfl, ry, h1, k v d H1 S1 ok1 (h2 _ _) q'⟩
      | _ => exact (show False from q).elim⟩⟩
/-- a written tuple -/
theorem rp_ktup {K : PySem.W.Frag} {H : Hp} {S : Sd} {a : Addr} {its : Array Value} {n : Nat} {od : Option Addr} {sl : Array (Option Value)} {vs : List V} {ds : List D} (hl : K.lookup a = some ⟨.type "tuple", od, .seq its n, sl⟩) (hz : its.size ≤ 1000) (hv : Vals vs its.toList) (r : RpL K H S ds vs) : Rp K H S (.tup ds) (.ref a) :=
  ⟨a, vs, rfl, .inr ⟨_, its, n, hl, rfl, rfl, sz_le (Nat.le_trans hz (by decide)), hv⟩, r⟩
end
end Dv

/-! Readings by value, z: urns, draws, small data, words. -/
namespace Dv
open PySem L2 PyProof.Rows
theorem mulOk {a b : Int} (m n : Nat) (ha : a.natAbs < 2 ^ m) (hb : b.natAbs < 2 ^ n) (h0 : 0 < m) (h1 : 0 < n) (h : m + n ≤ 1000000) : a.natAbs.log2 + b.natAbs.log2 < 1000000 := by
  have x := log2_lt ha h0
  have y := log2_lt hb h1
  omega
theorem powOk {a : Int} (m : Nat) (j : Int) (ha : a.natAbs < 2 ^ m) (h0 : 0 < m) (hj : 0 ≤ j) (h : (m : Int) * j ≤ 134217728) : 0 ≤ j ∧ ((a.natAbs.log2 : Int) + 1) * j ≤ 134217728 := by
  have x := log2_lt ha h0
  refine ⟨hj, Int.le_trans (Int.mul_le_mul_of_nonneg_right ?_ hj) h⟩
  omega
theorem fmod_in {a b : Int} (h : 0 < b) : 0 ≤ a.fmod b ∧ a.fmod b < b := by
  rw [Int.fmod_eq_emod_of_nonneg a (Int.le_of_lt h)]
  exact ⟨Int.emod_nonneg a (by omega), Int.emod_lt_of_pos a h⟩
theorem abs_lt_of {a : Int} {n : Nat} (h0 : 0 ≤ a) (h1 : a < 2 ^ n) : a.natAbs < 2 ^ n := by
  have e : ((2 ^ n : Nat) : Int) = 2 ^ n := by simp
  omega
def primes : List D := [.int 2147483647, .int 2147483629, .int 2147483587, .int 2147483579, .int 2147483563, .int 2147483549, .int 2147483543]
theorem primes_at {k : Int} (h0 : 0 ≤ k) (h1 : k < 7) : ∃ p, atI primes k = some (.int p) ∧ 2147483543 ≤ p ∧ p < 2147483648 := by
  have c : k = 0 ∨ k = 1 ∨ k = 2 ∨ k = 3 ∨ k = 4 ∨ k = 5 ∨ k = 6 := by omega
  rcases c with rfl | rfl | rfl | rfl | rfl | rfl | rfl
  · exact ⟨2147483647, atI_nat (j := 0) rfl, by decide, by decide⟩
  · exact ⟨2147483629, atI_nat (j := 1) rfl, by decide, by decide⟩
  · exact ⟨2147483587, atI_nat (j := 2) rfl, by decide, by decide⟩
  · exact ⟨2147483579, atI_nat (j := 3) rfl, by decide, by decide⟩
  · exact ⟨2147483563, atI_nat (j := 4) rfl, by decide, by decide⟩
  · exact ⟨2147483549, atI_nat (j := 5) rfl, by decide, by decide⟩
  · exact ⟨2147483543, atI_nat (j := 6) rfl, by decide, by decide⟩
theorem ixN_0 {n : Nat} (h : 0 < n) : ixN n 0 = some 0 := ixN_nat h
theorem ixN_2 {n : Nat} (h : 2 < n) : ixN n 2 = some 2 := ixN_nat h
/-! ### small data -/
def isWh : D → Bool
  | .int _ => true
  | _ => false
theorem isWh_int {d : D} (h : isWh d = true) : ∃ i, d = .int i := by
  cases d <;> first | exact ⟨_, rfl⟩ | exact absurd (show false = true from h) Bool.false_ne_true
mutual
/-- ints below 2 ^ n, texts of at most 100000 signs -/
def sm (n : Nat) : D → Bool
  | .int i => decide (i.natAbs < 2 ^ n)
  | .str z => decide (z.length ≤ 100000)
  | .non => true | .bl _ => true
  | .tup ds => smL n ds
  | .lst ds => smL n ds
  | _ => false
def smL (n : Nat) : List D → Bool
  | [] => true
  | d :: ds => sm n d && smL n ds
end
theorem smL_iff {n : Nat} : ∀ {ds : List D}, smL n ds = true ↔ ∀ d ∈ ds, sm n d = true
  | [] => by simp [smL]
  | d :: ds => by
    have ih := smL_iff (n := n) (ds := ds)
    simp only [smL, Bool.and_eq_true, List.mem_cons, ih]
    constructor
    · rintro ⟨h1, h2⟩ x (rfl | hx)
      · exact h1
      · exact h2 x hx
    · intro h
      exact ⟨h d (.inl rfl), fun x hx => h x (.inr hx)⟩
mutual
theorem sm_data {n : Nat} : ∀ {d : D}, sm n d = true → isData d = true
  | .int _, _ => rfl
  | .non, _ => rfl
  | .bl _, _ => rfl
  | .str _, _ => rfl
  | .tup ds, h => smL_data (ds := ds) h
  | .lst ds, h => smL_data (ds := ds) h
  | .inst _ _ _, h => absurd (show false = true from h) Bool.false_ne_true
  | .obj _, h => absurd (show false = true from h) Bool.false_ne_true
  | .ty _, h => absurd (show false = true from h) Bool.false_ne_true
theorem smL_data {n : Nat} : ∀ {ds : List D}, smL n ds = true → isDataL ds = true
  | [], _ => rfl
  | d :: ds, h => by
    have h' := Bool.and_eq_true_iff.mp (show (sm n d && smL n ds) = true from h)
    show (isData d && isDataL ds) = true
    rw [sm_data h'.1, smL_data h'.2]
    rfl
end
theorem sm_int {n : Nat} {i : Int} : sm n (.int i) = true ↔ i.natAbs < 2 ^ n := by simp [sm]
theorem sm_str {n : Nat} {z : Str} : sm n (.str z) = true ↔ z.length ≤ 100000 := by simp [sm]
mutual
theorem sm_mono {n m : Nat} (h : n ≤ m) : ∀ {d : D}, sm n d = true → sm m d = true
  | .int _, k => sm_int.mpr (Nat.lt_of_lt_of_le (sm_int.mp k) (Nat.pow_le_pow_right (by decide) h))
  | .str _, k => sm_str.mpr (sm_str.mp k)
  | .non, _ => rfl
  | .bl _, _ => rfl
  | .tup ds, k => smL_mono h (ds := ds) k
  | .lst ds, k => smL_mono h (ds := ds) k
  | .inst _ _ _, h => absurd (show false = true from h) Bool.false_ne_true
  | .obj _, h => absurd (show false = true from h) Bool.false_ne_true
  | .ty _, h => absurd (show false = true from h) Bool.false_ne_true
theorem smL_mono {n m : Nat} (h : n ≤ m) : ∀ {ds : List D}, smL n ds = true → smL m ds = true
  | [], _ => rfl
  | d :: ds, k => by
    have k' := Bool.and_eq_true_iff.mp (show (sm n d && smL n ds) = true from k)
    show (sm m d && smL m ds) = true
    rw [sm_mono h k'.1, smL_mono h k'.2]
    rfl
end
theorem smT {n : Nat} {ds : List D} : sm n (.tup ds) = true ↔ ∀ d ∈ ds, sm n d = true := smL_iff
theorem smLs {n : Nat} {ds : List D} : sm n (.lst ds) = true ↔ ∀ d ∈ ds, sm n d = true := smL_iff
/-! ### urns -/
def Urn (S : Sd) (u : Addr) (B : Int) : Prop := ∃ g c n, S u = some (.lst [.int g, .int c, .int n]) ∧ 0 ≤ g ∧ 0 ≤ c ∧ c < 2 ^ 70 ∧ 0 ≤ n ∧ n ≤ B
def Oth (S S' : Sd) (u : Addr) : Prop := ∀ a, a ≠ u → S' a = S a
theorem Oth.trans {S S1 S2 : Sd} {u : Addr} (h : Oth S S1 u) (k : Oth S1 S2 u) : Oth S S2 u := fun a ha => (k a ha).trans (h a ha)
theorem Oth.refl {S : Sd} {u : Addr} : Oth S S u := fun _ _ => rfl
theorem Urn.mono {S : Sd} {u : Addr} {B B' : Int} (h : Urn S u B) (hb : B ≤ B') : Urn S u B' := by
  obtain ⟨g, c, n, e, g0, c0, c1, n0, n1⟩ := h
  exact ⟨g, c, n, e, g0, c0, c1, n0, Int.le_trans n1 hb⟩
theorem Urn.oth {S S' : Sd} {p u : Addr} {B : Int} (h : Urn S u B) (ho : ∀ a, a ≠ p → S' a = S a) (hne : u ≠ p) : Urn S' u B := by
  obtain ⟨g, c, n, e, k⟩ := h
  exact ⟨g, c, n, (ho u hne).trans e, k⟩
theorem Urn.ne {S : Sd} {p u : Addr} {B : Int} (h : Urn S u B) (hp : S p = none) : u ≠ p := fun e => by
  obtain ⟨g, c, n, e2, _⟩ := h
  rw [e, hp] at e2
  cases e2
theorem Urn.up {S : Sd} {p u : Addr} {B : Int} {o : SO} (h : Urn S u B) (hne : u ≠ p) : Urn (upS S p o) u B := h.oth (fun a ha => upS_ne ha) hne
theorem Urn.del {S : Sd} {p u : Addr} {B : Int} (h : Urn S u B) (hne : u ≠ p) : Urn (del S p) u B := h.oth (fun a ha => del_ne ha) hne
theorem Oth.del {S S' : Sd} {p u : Addr} (h : ∀ a, a ≠ u → a ≠ p → S' a = S a) (hp : S p = none) : Oth S (del S' p) u := fun a ha => by
  by_cases e : a = p
  · rw [e, del_same, hp]
  · rw [del_ne e, h a ha e]
/-! ### parts -/
theorem cutD_mem {xs : List D} {lo hi : Option Int} {d : D} (h : d ∈ cutD xs lo hi) : d ∈ xs := List.mem_of_mem_drop (List.mem_of_mem_take h)
theorem cutD_len {xs : List D} {lo hi : Option Int} : (cutD xs lo hi).length ≤ xs.length := by
  unfold cutD
  rw [List.length_take, List.length_drop]
  omega
theorem app_toList (x y : Str) : (x ++ y).cps.toList = x.cps.toList ++ y.cps.toList := by
  show (x.cps ++ y.cps).toList = _
  simp
theorem app_len2 (x y : Str) : (x ++ y).length = x.length + y.length := by
  show (x.cps ++ y.cps).size = x.cps.size + y.cps.size
  simp
theorem sIx_lo {n : Nat} {i : Int} (h0 : 0 ≤ i) (h1 : i ≤ n) (b : Nat) : HT.sIx n b (some i) = i.toNat := by
  obtain ⟨k, rfl⟩ := Int.eq_ofNat_of_zero_le h0
  rw [HT.sIx_nat]
  show min k n = k
  omega
theorem cutS_take {l : List Nat} {i : Int} (h0 : 0 ≤ i) (h1 : i ≤ l.length) : cutS (ofL l) none (some i) = ofL (l.take i.toNat) := by
  refine str_ext ?_
  show (((ofL l).cps.toList.drop (HT.sIx (ofL l).length 0 none)).take (HT.sIx (ofL l).length (ofL l).length (some i) - HT.sIx (ofL l).length 0 none)) = _
  rw [ofL_len, sIx_lo h0 h1]
  show (l.drop 0).take (i.toNat - 0) = _
  rfl
theorem cutS_drop {l : List Nat} {i : Int} (h0 : 0 ≤ i) (h1 : i ≤ l.length) : cutS (ofL l) (some i) none = ofL (l.drop i.toNat) := by
  refine str_ext ?_
  show (((ofL l).cps.toList.drop (HT.sIx (ofL l).length 0 (some i))).take (HT.sIx (ofL l).length (ofL l).length none - HT.sIx (ofL l).length 0 (some i))) = _
  rw [ofL_len, sIx_lo h0 h1]
  show (l.drop i.toNat).take (l.length - i.toNat) = _
  rw [List.take_of_length_le (by rw [List.length_drop]; omega)]
  rfl
theorem cutS_mid {l : List Nat} {i j : Int} (h0 : 0 ≤ i) (h1 : i ≤ l.length) (h2 : 0 ≤ j) (h3 : j ≤ l.length) : cutS (ofL l) (some i) (some j) = ofL ((l.drop i.toNat).take (j.toNat - i.toNat)) := by
  refine str_ext ?_
  show (((ofL l).cps.toList.drop (HT.sIx (ofL l).length 0 (some i))).take (HT.sIx (ofL l).length (ofL l).length (some j) - HT.sIx (ofL l).length 0 (some i))) = _
  rw [ofL_len, sIx_lo h0 h1, sIx_lo h2 h3]
  rfl
theorem revS_of {l : List Nat} : revS (ofL l) = ofL l.reverse := rfl
/-! ### words: a is 97, b is 98 -/
def isAB (l : List Nat) : Bool := l.all fun c => decide (c = 97 ∨ c = 98)
theorem isAB_iff {l : List Nat} : isAB l = true ↔ ∀ c ∈ l, c = 97 ∨ c = 98 := by simp [isAB]
/-- the even word of b signs b among n -/
def evF (b n : Nat) : List Nat := (List.range n).map fun k => if (k + 1) * b / n = k * b / n then 97 else 98
theorem evF_len (b n : Nat) : (evF b n).length = n := by unfold evF; rw [List.length_map, List.length_range]
theorem evF_ab (b n : Nat) : isAB (evF b n) = true := isAB_iff.mpr fun c hc => by
  unfold evF at hc
  obtain ⟨k, _, rfl⟩ := List.mem_map.mp hc
  split
  · exact .inl rfl
  · exact .inr rfl
/-- the next step of a floor -/
theorem floor_step {b n k : Nat} (hb : b ≤ n) (hn : 0 < n) : (k + 1) * b / n = (if k * b % n + b < n then k * b / n else k * b / n + 1) ∧ (k + 1) * b % n = (if k * b % n + b < n then k * b % n + b else k * b % n + b - n) := by
  rw [Nat.succ_mul]
  generalize k * b = w
  have h1 := Nat.div_add_mod w n
  have h2 := Nat.mod_lt w hn
  generalize w / n = q at h1 ⊢
  generalize w % n = r at h1 h2 ⊢
  subst h1
  rw [Nat.add_assoc]
  split
  · rename_i h
    rw [Nat.mul_add_div hn, Nat.mul_add_mod, Nat.div_eq_of_lt h, Nat.mod_eq_of_lt h]
    exact ⟨rfl, rfl⟩
  · rename_i h
    have e2 : n * q + (r + b) = n * (q + 1) + (r + b - n) := by rw [Nat.mul_succ]; omega
    rw [e2, Nat.mul_add_div hn, Nat.mul_add_mod, Nat.div_eq_of_lt (by omega), Nat.mod_eq_of_lt (by omega)]
    exact ⟨rfl, rfl⟩
theorem evF_count {b n : Nat} (hb : b ≤ n) (hn : 0 < n) : (evF b n).count 98 = b := by
  have h : ∀ m, (((List.range m).map fun k => if (k + 1) * b / n = k * b / n then 97 else 98).count 98) = m * b / n := fun m => by
    induction m with
    | zero => simp
    | succ m ih =>
      rw [List.range_succ, List.map_append, List.count_append, ih, List.map_singleton, List.count_singleton]
      have f := (floor_step (k := m) hb hn).1
      rw [f]
      by_cases c : m * b % n + b < n
      · rw [if_pos c, if_pos rfl]; rfl
      · rw [if_neg c, if_neg (Nat.succ_ne_self _)]; rfl
  unfold evF
  rw [h, Nat.mul_comm, Nat.mul_div_cancel _ hn]
theorem count_eq (z : Str) (c : Nat) : Txt.count z ⟨#[c]⟩ = (z.cps.toList.count c : Nat) := by
  rw [PyProof.Rows.count_cnt]
  induction z.cps.toList with
  | nil => rfl
  | cons d r ih =>
    rw [PyProof.Rows.cnt_cons, ih, List.count_cons]
    by_cases h : d = c
    · subst h; simp; omega
    · have : (d == c) = false := by simpa using h
      simp [h, this]
theorem str_b : (Str.ofString "b") = ⟨#[98]⟩ := by decide +kernel
theorem str_a : (Str.ofString "a") = ⟨#[97]⟩ := by decide +kernel
theorem count_b (l : List Nat) : Txt.count (ofL l) "b" = (l.count 98 : Nat) := count_eq _ _
/-! ### of the functions that many laws share -/
def oddL : List D := [D.non, D.bl true, D.bl false, D.str (Str.ofString ""), D.str (Str.ofString "c"), D.str (Str.ofString "ab "), D.str (Str.ofString "aB"), D.tup [], D.lst [], D.tup [D.int 0], D.lst [D.int 1], D.tup [D.int 1, D.bl true],
  D.tup [D.int 1, D.int 0], D.tup [D.bl true], D.tup [D.str (Str.ofString "a")], D.tup [D.int 1, D.str (Str.ofString "a")], D.tup [D.tup [D.int 1, D.int 0], D.tup [D.int 0, D.int 2]], D.tup [D.int 1, D.non, D.int 1], D.str (Str.ofString "1"), D.tup [D.tup []]]
theorem odd_sm : smL 10 oddL = true := by decide +kernel
def isWordD : D → Bool
  | .str z => decide (1 ≤ z.length ∧ z.length ≤ 60) && isAB z.cps.toList
  | _ => false
/-- a text's signs, held against a and b -/
def abD : D → D
  | .str z => .bl (isAB z.cps.toList)
  | _ => .non
theorem ab_cps : (Str.ofString "ab").cps.toList = [97, 98] := by decide +kernel
theorem abD_comp {i : Nat} {te : TED} {vs : List Nat} {σ : Si} {S : Sd} {Q : DK} {z : Str} (hte : ∀ c S' (Q' : DK), Q' (.bl (decide (c ∈ [97, 98]))) S' → te ((wipeD σ vs).set i (some (.str ⟨#[c]⟩))) S' Q') (hl : z.length ≤ 100000)
    (ti : TID) (hti : ∀ R : List D → Sd → Prop, R (sgD z) S → ti σ S R) (q : Q (.bl (isAB z.cps.toList)) S) : dComp ti (dName i) dYes te vs σ S fun x S1 => rdAll [x] S1 Q := by
  refine comp_pure abD (sgD z) S hti (fun x hx S' Q' q' => ?_) (by unfold sgD; rw [List.length_map]; show z.cps.toList.length ≤ _; rw [← x_len_strL]; omega) ?_
  · obtain ⟨c, _, rfl⟩ := List.mem_map.mp hx
    refine hte c S' Q' ?_
    have e : abD (.str ⟨#[c]⟩) = .bl (decide (c ∈ [97, 98])) := by
      show D.bl (isAB [c]) = _
      simp [isAB]
    rw [← e]; exact q'
  · refine x_allb (bs := z.cps.toList.map fun c => isAB [c]) ?_ ?_
    · unfold sgD
      rw [List.map_map, List.map_map]
      rfl
    · have e : (z.cps.toList.map fun c => isAB [c]).all id = isAB z.cps.toList := by
        rw [List.all_map]
        unfold isAB
        congr 1
        funext c
        simp
      rw [e]; exact q
/-- the letter at a place counted from 1 -/
def evD (b n : Nat) : D → D
  | .int i => .str ⟨#[if i.toNat * b / n = (i.toNat - 1) * b / n then 97 else 98]⟩
  | _ => .non
theorem evD_map (b n m : Nat) : (rgD 1 m).map (evD b n) = ((List.range m).map fun k => (⟨#[if (k + 1) * b / n = k * b / n then 97 else 98]⟩ : Str)).map D.str := by
  unfold rgD
  rw [List.map_map, List.map_map]
  refine List.map_congr_left fun k _ => ?_
  show D.str ⟨#[if (1 + (k : Int)).toNat * b / n = ((1 + (k : Int)).toNat - 1) * b / n then 97 else 98]⟩ = _
  rw [show (1 + (k : Int)).toNat = k + 1 by omega]
  rfl
theorem sum_ones {α : Type} (f : α → Str) (h : ∀ a, (f a).length = 1) (l : List α) : ((l.map f).map (·.length)).sum = l.length := by
  induction l with
  | nil => rfl
  | cons a r ih => rw [List.map_cons, List.map_cons, List.sum_cons, ih, h, List.length_cons]; omega
def isStepL (l : List Nat) : Bool := decide (Nat.gcd (l.count 98) l.length = 1) && decide (l = evF (l.count 98) l.length)
def isStepD : D → Bool
  | .str z => isWordD (.str z) && isStepL z.cps.toList
  | _ => false
theorem isWordD_str {d : D} (h : isWordD d = true) : ∃ l, d = .str (ofL l) ∧ 1 ≤ l.length ∧ l.length ≤ 60 ∧ isAB l = true := by
  cases d with
  | str z =>
    have h' := Bool.and_eq_true_iff.mp (show (decide (1 ≤ z.length ∧ z.length ≤ 60) && isAB z.cps.toList) = true from h)
    have h1 := of_decide_eq_true h'.1
    exact ⟨z.cps.toList, by rw [← ofL_of], by rw [← x_len_strL]; exact h1.1, by rw [← x_len_strL]; exact h1.2, h'.2⟩
  | _ => exact absurd (show false = true from h) Bool.false_ne_true
theorem step_tail {l : List Nat} {k1 k2 : Bool} (h1 : k1 = decide (Nat.gcd (l.count 98) l.length = 1)) (h2 : k2 = decide (l = evF (l.count 98) l.length)) : isStepL l = (k1 && k2) := by
  rw [h1, h2]; rfl
/-- the first letters of an even word -/
def evP (b n i : Nat) : List Nat := (List.range i).map fun k => if (k + 1) * b / n = k * b / n then 97 else 98
theorem evP_len (b n i : Nat) : (evP b n i).length = i := by unfold evP; rw [List.length_map, List.length_range]
theorem evP_succ (b n i : Nat) : evP b n (i + 1) = evP b n i ++ [if (i + 1) * b / n = i * b / n then 97 else 98] := by
  unfold evP
  rw [List.range_succ, List.map_append]
  rfl
theorem ab_cpsL : (Str.ofString "ab").cps.toList = [97, 98] := by decide +kernel
theorem str_eL : Str.ofString "" = ofL [] := by decide +kernel
theorem at_nat {ns : List Nat} {k : Int} (h0 : 0 ≤ k) (h1 : k < ns.length) : ∃ n : Nat, atI (ns.map fun (n : Nat) => D.int n) k = some (.int (n : Int)) ∧ n ∈ ns := by
  obtain ⟨d, ed, hd⟩ := atI_some (ds := ns.map fun (n : Nat) => D.int n) h0 (by simpa using h1)
  obtain ⟨n, hn, rfl⟩ := List.mem_map.mp hd
  exact ⟨n, ed, hn⟩
theorem ba_cps : (Str.ofString "ba").cps.toList = [98, 97] := by decide +kernel
theorem isAB_app {a b : List Nat} (ha : isAB a = true) (hb : isAB b = true) : isAB (a ++ b) = true := isAB_iff.mpr fun c hc => (List.mem_append.mp hc).elim (isAB_iff.mp ha c) (isAB_iff.mp hb c)
theorem isAB_take {a : List Nat} (n : Nat) (ha : isAB a = true) : isAB (a.take n) = true := isAB_iff.mpr fun c hc => isAB_iff.mp ha c (List.mem_of_mem_take hc)
theorem isAB_drop {a : List Nat} (n : Nat) (ha : isAB a = true) : isAB (a.drop n) = true := isAB_iff.mpr fun c hc => isAB_iff.mp ha c (List.mem_of_mem_drop hc)
def rotL (l : List Nat) (i : Nat) : List Nat := l.drop i ++ l.take i
theorem rotL_len {l : List Nat} {i : Nat} : (rotL l i).length = l.length := by
  unfold rotL
  rw [List.length_append, List.length_drop, List.length_take]
  omega
/-! ### tables -/
structure M2 where
  p : Int
  q : Int
  r : Int
  s : Int
  deriving DecidableEq
def tbD (m : M2) : D := .tup [.tup [.int m.p, .int m.q], .tup [.int m.r, .int m.s]]
def mulM (x y : M2) : M2 := ⟨x.p * y.p + x.q * y.r, x.p * y.q + x.q * y.s, x.r * y.p + x.s * y.r, x.r * y.q + x.s * y.s⟩
def unitM : M2 := ⟨1, 0, 0, 1⟩
def detM (m : M2) : Int := m.p * m.s - m.q * m.r
def conM (m : M2) : M2 := ⟨m.s * detM m, 0 - m.q * detM m, 0 - m.r * detM m, m.p * detM m⟩
def tmM (m : M2) : M2 := ⟨m.p, m.r, m.q, m.s⟩
theorem m2ext {x y : M2} (h1 : x.p = y.p) (h2 : x.q = y.q) (h3 : x.r = y.r) (h4 : x.s = y.s) : x = y := by
  cases x; cases y; simp only at h1 h2 h3 h4; subst h1 h2 h3 h4; rfl
theorem mulM_assoc (x y z : M2) : mulM (mulM x y) z = mulM x (mulM y z) := by
  unfold mulM
  refine m2ext ?_ ?_ ?_ ?_ <;> (simp only [Int.add_mul, Int.mul_add, Int.mul_assoc]; omega)
theorem unit_mul (x : M2) : mulM unitM x = x := by
  unfold mulM unitM
  refine m2ext ?_ ?_ ?_ ?_ <;> simp
theorem mul_unit (x : M2) : mulM x unitM = x := by
  unfold mulM unitM
  refine m2ext ?_ ?_ ?_ ?_ <;> simp
theorem tm_mul (x y : M2) : tmM (mulM x y) = mulM (tmM y) (tmM x) := by
  unfold mulM tmM
  refine m2ext ?_ ?_ ?_ ?_ <;> (simp only [Int.mul_comm]; try omega)
/-- the letters' tables -/
def ltM (c : Nat) : M2 := if c = 97 then ⟨2, 1, 1, 1⟩ else ⟨5, 2, 2, 1⟩
def ltI (c : Nat) : M2 := if c = 97 then ⟨1, -1, -1, 2⟩ else ⟨1, -2, -2, 5⟩
theorem ltI_mul (c : Nat) : mulM (ltI c) (ltM c) = unitM := by
  unfold ltI ltM
  split <;> rfl
theorem ltM_mulI (c : Nat) : mulM (ltM c) (ltI c) = unitM := by
  unfold ltI ltM
  split <;> rfl
theorem con_lt (c : Nat) : conM (ltM c) = ltI c := by
  unfold ltI ltM
  split <;> rfl
theorem tm_lt (c : Nat) : tmM (ltM c) = ltM c := by
  unfold ltM
  split <;> rfl
def tabM : List Nat → M2
  | [] => unitM
  | c :: l => mulM (ltM c) (tabM l)
theorem tabM_app : ∀ (a b : List Nat), tabM (a ++ b) = mulM (tabM a) (tabM b)
  | [], b => (unit_mul _).symm
  | c :: a, b => by
    show mulM (ltM c) (tabM (a ++ b)) = mulM (mulM (ltM c) (tabM a)) (tabM b)
    rw [tabM_app a b, mulM_assoc]
theorem tabM_one (c : Nat) : tabM [c] = ltM c := mul_unit _
theorem tabM_rev : ∀ l : List Nat, tabM l.reverse = tmM (tabM l)
  | [] => rfl
  | c :: l => by
    rw [List.reverse_cons, tabM_app, tabM_one, tabM_rev l]
    show _ = tmM (mulM (ltM c) (tabM l))
    rw [tm_mul, tm_lt]
/-- signs of a word's table -/
structure PosM (m : M2) : Prop where
  p1 : 1 ≤ m.p
  q0 : 0 ≤ m.q
  r0 : 0 ≤ m.r
  s1 : 1 ≤ m.s
theorem ltM_cases (c : Nat) : ltM c = ⟨2, 1, 1, 1⟩ ∧ c = 97 ∨ ltM c = ⟨5, 2, 2, 1⟩ ∧ c ≠ 97 := by
  unfold ltM
  by_cases h : c = 97
  · exact .inl ⟨if_pos h, h⟩
  · exact .inr ⟨if_neg h, h⟩
theorem posM_tab : ∀ l : List Nat, PosM (tabM l)
  | [] => ⟨by decide, by decide, by decide, by decide⟩
  | c :: l => by
    obtain ⟨h1, h2, h3, h4⟩ := posM_tab l
    show PosM (mulM (ltM c) (tabM l))
    generalize tabM l = m at *
    rcases ltM_cases c with ⟨e, _⟩ | ⟨e, _⟩ <;> rw [e] <;> constructor <;> simp only [mulM] <;> omega
theorem detM_mul (x y : M2) : detM (mulM x y) = detM x * detM y := by
  obtain ⟨a, b, c, d⟩ := x
  obtain ⟨e, f, g, h⟩ := y
  show (a * e + b * g) * (c * f + d * h) - (a * f + b * h) * (c * e + d * g) = (a * d - b * c) * (e * h - f * g)
  simp only [Int.add_mul, Int.mul_add, Int.sub_mul, Int.mul_sub]
  simp only [Int.mul_assoc, Int.mul_comm, Int.mul_left_comm]
  omega
theorem detM_tab : ∀ l : List Nat, detM (tabM l) = 1
  | [] => rfl
  | c :: l => by
    show detM (mulM (ltM c) (tabM l)) = 1
    rw [detM_mul, detM_tab l]
    rcases ltM_cases c with ⟨e, _⟩ | ⟨e, _⟩ <;> rw [e] <;> rfl
/-- the first letter of a word, told by its table -/
theorem first_tab {c : Nat} {l : List Nat} (hc : c = 97 ∨ c = 98) : (if (tabM (c :: l)).p > 2 * (tabM (c :: l)).r then 98 else 97) = c := by
  obtain ⟨h1, h2, h3, h4⟩ := posM_tab l
  show (if (mulM (ltM c) (tabM l)).p > 2 * (mulM (ltM c) (tabM l)).r then 98 else 97) = c
  generalize tabM l = m at *
  rcases hc with rfl | rfl
  · rw [if_neg]
    simp only [ltM, mulM, if_true]
    omega
  · rw [if_pos]
    simp only [ltM, mulM]
    rw [if_neg (by decide)]
    simp only
    omega
theorem tab_ne_unit {c : Nat} {l : List Nat} : tabM (c :: l) ≠ unitM := fun e => by
  obtain ⟨h1, h2, h3, h4⟩ := posM_tab l
  have e2 : (mulM (ltM c) (tabM l)).p = 1 := congrArg M2.p e
  generalize tabM l = m at *
  rcases ltM_cases c with ⟨e3, _⟩ | ⟨e3, _⟩ <;> rw [e3] at e2 <;> simp only [mulM] at e2 <;> omega
theorem tab_inj : ∀ {a b : List Nat}, isAB a = true → isAB b = true → tabM a = tabM b → a = b
  | [], [], _, _, _ => rfl
  | [], c :: b, _, _, e => absurd e.symm tab_ne_unit
  | c :: a, [], _, _, e => absurd e tab_ne_unit
  | c :: a, d :: b, ha, hb, e => by
    have ha' := isAB_iff.mp ha
    have hb' := isAB_iff.mp hb
    have h1 := first_tab (l := a) (ha' c (by simp))
    have h2 := first_tab (l := b) (hb' d (by simp))
    rw [e] at h1
    have hcd : c = d := h1.symm.trans h2
    subst hcd
    have e2 : mulM (ltI c) (mulM (ltM c) (tabM a)) = mulM (ltI c) (mulM (ltM c) (tabM b)) := congrArg (mulM (ltI c)) e
    rw [← mulM_assoc, ← mulM_assoc, ltI_mul, unit_mul, unit_mul] at e2
    rw [tab_inj (isAB_iff.mpr fun x hx => ha' x (by simp [hx])) (isAB_iff.mpr fun x hx => hb' x (by simp [hx])) e2]
/-- sizes -/
def SzM (m : M2) (n : Nat) : Prop := m.p.natAbs < 2 ^ n ∧ m.q.natAbs < 2 ^ n ∧ m.r.natAbs < 2 ^ n ∧ m.s.natAbs < 2 ^ n
theorem SzM.mono {m : M2} {n k : Nat} (h : SzM m n) (hk : n ≤ k) : SzM m k := by
  have := Nat.pow_le_pow_right (n := 2) (by decide) hk
  exact ⟨Nat.lt_of_lt_of_le h.1 this, Nat.lt_of_lt_of_le h.2.1 this, Nat.lt_of_lt_of_le h.2.2.1 this, Nat.lt_of_lt_of_le h.2.2.2 this⟩
theorem szM_tab : ∀ l : List Nat, SzM (tabM l) (3 * l.length + 1)
  | [] => ⟨by decide, by decide, by decide, by decide⟩
  | c :: l => by
    obtain ⟨a1, a2, a3, a4⟩ := szM_tab l
    have e : 2 ^ (3 * (c :: l).length + 1) = 8 * 2 ^ (3 * l.length + 1) := by
      rw [List.length_cons, show 3 * (l.length + 1) + 1 = (3 * l.length + 1) + 3 by omega, Nat.pow_add, Nat.mul_comm]
    show SzM (mulM (ltM c) (tabM l)) _
    unfold SzM
    rw [e]
    generalize tabM l = m at *
    generalize 2 ^ (3 * l.length + 1) = N at *
    rcases ltM_cases c with ⟨e, _⟩ | ⟨e, _⟩ <;> rw [e] <;> simp only [mulM] <;> refine ⟨?_, ?_, ?_, ?_⟩ <;> omega
theorem sm_tb {n : Nat} {m : M2} : sm n (tbD m) = true ↔ SzM m n := by
  unfold tbD SzM
  simp only [sm, smL, Bool.and_eq_true, decide_eq_true_eq, and_true, and_assoc]
theorem tbD_eqOk (m : M2) : eqOk (tbD m) = true := by
  unfold eqOk tbD
  show (true && SeqAt.shaped (.tuple [.tuple [.int m.p, .int m.q], .tuple [.int m.r, .int m.s]])) = true
  rfl
theorem tbD_deq (a b : M2) : deq (tbD a) (tbD b) = decide (a = b) := by
  unfold tbD
  simp only [deq, deqL, Bool.and_true]
  rw [Bool.eq_iff_iff]
  simp only [Bool.and_eq_true, beq_iff_eq, decide_eq_true_eq]
  constructor
  · rintro ⟨⟨h1, h2⟩, h3, h4⟩
    exact m2ext h1 h2 h3 h4
  · rintro rfl
    exact ⟨⟨rfl, rfl⟩, rfl, rfl⟩
theorem x_eq_tb {a b : M2} {S : Sd} {Q : DK} : rdEq (tbD a) (tbD b) S Q = Q (.bl (decide (a = b))) S := by
  show ((eqOk (tbD a) = true ∧ eqOk (tbD b) = true) ∧ Q (.bl (deq (tbD a) (tbD b))) S) = _
  rw [tbD_eqOk, tbD_eqOk, tbD_deq]
  simp
theorem x_ne_tb {a b : M2} {S : Sd} {Q : DK} : rdNe (tbD a) (tbD b) S Q = Q (.bl (!decide (a = b))) S := by
  show ((eqOk (tbD a) = true ∧ eqOk (tbD b) = true) ∧ Q (.bl (!deq (tbD a) (tbD b))) S) = _
  rw [tbD_eqOk, tbD_eqOk, tbD_deq]
  simp
/-- what is a table, a turning -/
def isPairD : D → Bool
  | .tup [_, _] => true
  | _ => false
def isTabD : D → Bool
  | .tup [.tup [.int _, .int _], .tup [.int _, .int _]] => true
  | _ => false
theorem isTabD_of {d : D} (h : isTabD d = true) : ∃ m, d = tbD m := by
  unfold isTabD at h
  split at h
  · exact ⟨⟨_, _, _, _⟩, rfl⟩
  · cases h
def isTurnD : D → Bool
  | .tup [.tup [.int p, .int q], .tup [.int r, .int s]] => decide ((p * s - q * r).natAbs = 1)
  | _ => false
theorem isTurnD_tb {m : M2} : isTurnD (tbD m) = decide ((detM m).natAbs = 1) := rfl
end Dv

namespace K25
open PySem L2 Dv
abbrev wd (Ed : XKD) : WXD := fun x _ S => Ed x S
abbrev wd0 : WXD := fun _ _ _ => False
abbrev k_LETTERS : D := .str "ab"
abbrev k_MOST_LETTERS : D := .int 60
abbrev k_UNIT : D := .tup [.tup [.int 1, .int 0], .tup [.int 0, .int 1]]
def k_LETTER_TABLES (z : Str) : Option D := if z = "a" then some (.tup [.tup [.int 2, .int 1], .tup [.int 1, .int 1]]) else if z = "b" then some (.tup [.tup [.int 5, .int 2], .tup [.int 2, .int 1]]) else none

def sp_is_whole : SpD := fun ds S Q _ => ∃ d, ds = [d] ∧ isData d = true ∧ Q (.bl (isWh d)) S
theorem len_is_whole : ∀ ds S Q E, sp_is_whole ds S Q E → ds.length = 1 := fun _ _ _ _ ⟨_, e, _⟩ => by rw [e]; rfl

def sp_are_wholes : SpD := fun ds S Q _ => ∃ xs n, ds = [.tup xs] ∧ sm n (.tup xs) = true ∧ xs.length ≤ 100000 ∧ Q (.bl (xs.all isWh)) S
theorem len_are_wholes : ∀ ds S Q E, sp_are_wholes ds S Q E → ds.length = 1 := fun _ _ _ _ ⟨_, _, e, _⟩ => by rw [e]; rfl

def sp_is_word : SpD := fun ds S Q _ => ∃ d n, ds = [d] ∧ sm n d = true ∧ Q (.bl (isWordD d)) S
theorem len_is_word : ∀ ds S Q E, sp_is_word ds S Q E → ds.length = 1 := fun _ _ _ _ ⟨_, _, e, _⟩ => by rw [e]; rfl

def sp_look_word : SpD := fun ds S Q _ => ∃ l : List Nat, ds = [.str (ofL l)] ∧ isAB l = true ∧ 1 ≤ l.length ∧ l.length ≤ 60 ∧ Q .non S
theorem len_look_word : ∀ ds S Q E, sp_look_word ds S Q E → ds.length = 1 := fun _ _ _ _ ⟨_, e, _⟩ => by rw [e]; rfl
theorem isWordD_ofL {l : List Nat} (h : isAB l = true) (l0 : 1 ≤ l.length) (l1 : l.length ≤ 60) : isWordD (.str (ofL l)) = true := by
  show (decide (1 ≤ (ofL l).length ∧ (ofL l).length ≤ 60) && isAB l) = true
  rw [ofL_len, h, decide_eq_true ⟨l0, l1⟩]
  rfl

def sp_is_pair_of : SpD := fun ds S Q _ => ∃ d, ds = [d] ∧ isData d = true ∧ Q (.bl (isPairD d)) S
theorem len_is_pair_of : ∀ ds S Q E, sp_is_pair_of ds S Q E → ds.length = 1 := fun _ _ _ _ ⟨_, e, _⟩ => by rw [e]; rfl

def sp_is_table : SpD := fun ds S Q _ => ∃ d n, ds = [d] ∧ sm n d = true ∧ Q (.bl (isTabD d)) S
theorem len_is_table : ∀ ds S Q E, sp_is_table ds S Q E → ds.length = 1 := fun _ _ _ _ ⟨_, _, e, _⟩ => by rw [e]; rfl

def sp_size_of : SpD := fun ds S Q _ => ∃ m n, ds = [tbD m] ∧ SzM m n ∧ 1 ≤ n ∧ n ≤ 100000 ∧ Q (.int (detM m)) S
theorem len_size_of : ∀ ds S Q E, sp_size_of ds S Q E → ds.length = 1 := fun _ _ _ _ ⟨_, _, e, _⟩ => by rw [e]; rfl

def sp_is_turning : SpD := fun ds S Q _ => ∃ d n, ds = [d] ∧ sm n d = true ∧ 1 ≤ n ∧ n ≤ 100000 ∧ Q (.bl (isTurnD d)) S
theorem len_is_turning : ∀ ds S Q E, sp_is_turning ds S Q E → ds.length = 1 := fun _ _ _ _ ⟨_, _, e, _⟩ => by rw [e]; rfl

def sp_look_turning : SpD := fun ds S Q _ => ∃ m n, ds = [tbD m] ∧ SzM m n ∧ 1 ≤ n ∧ n ≤ 100000 ∧ (detM m).natAbs = 1 ∧ Q .non S
theorem len_look_turning : ∀ ds S Q E, sp_look_turning ds S Q E → ds.length = 1 := fun _ _ _ _ ⟨_, _, e, _⟩ => by rw [e]; rfl

def sp_joined : SpD := fun ds S Q _ => ∃ a b n, ds = [tbD a, tbD b] ∧ SzM a n ∧ SzM b n ∧ 1 ≤ n ∧ n ≤ 100000 ∧ Q (tbD (mulM a b)) S
theorem len_joined : ∀ ds S Q E, sp_joined ds S Q E → ds.length = 2 := fun _ _ _ _ ⟨_, _, _, e, _⟩ => by rw [e]; rfl

def sp_contrary_by : SpD := fun ds S Q _ => ∃ m n, ds = [tbD m] ∧ SzM m n ∧ 1 ≤ n ∧ n ≤ 100000 ∧ Q (tbD (conM m)) S
theorem len_contrary_by : ∀ ds S Q E, sp_contrary_by ds S Q E → ds.length = 1 := fun _ _ _ _ ⟨_, _, e, _⟩ => by rw [e]; rfl
theorem detM_lt {m : M2} {n : Nat} (h : SzM m n) : (detM m).natAbs < 2 ^ (n + n + 1) := by
  have h1 := wide_lt h.1 h.2.2.2
  have h2 := wide_lt h.2.1 h.2.2.1
  have e : 2 ^ (n + n + 1) = 2 * 2 ^ (n + n) := by rw [Nat.pow_succ, Nat.mul_comm]
  unfold detM
  omega

def sp_contrary : SpD := fun ds S Q _ => ∃ m n, ds = [tbD m] ∧ SzM m n ∧ 1 ≤ n ∧ n ≤ 100000 ∧ (detM m).natAbs = 1 ∧ Q (tbD (conM m)) S
theorem len_contrary : ∀ ds S Q E, sp_contrary ds S Q E → ds.length = 1 := fun _ _ _ _ ⟨_, _, e, _⟩ => by rw [e]; rfl

def sp_table_by : SpD := fun ds S Q _ => ∃ l : List Nat, ds = [.str (ofL l)] ∧ isAB l = true ∧ l.length ≤ 1000 ∧ Q (tbD (tabM l)) S
theorem len_table_by : ∀ ds S Q E, sp_table_by ds S Q E → ds.length = 1 := fun _ _ _ _ ⟨_, e, _⟩ => by rw [e]; rfl
theorem str1a (c : Nat) : ((⟨#[c]⟩ : Str) = "a") ↔ c = 97 := by
  rw [str_a]
  constructor
  · intro h; injection h with h; simpa using h
  · rintro rfl; rfl
theorem str1b (c : Nat) : ((⟨#[c]⟩ : Str) = "b") ↔ c = 98 := by
  rw [str_b]
  constructor
  · intro h; injection h with h; simpa using h
  · rintro rfl; rfl
theorem lt_at {c : Nat} (h : c = 97 ∨ c = 98) : k_LETTER_TABLES ⟨#[c]⟩ = some (tbD (ltM c)) := by
  unfold k_LETTER_TABLES
  rcases h with rfl | rfl
  · rw [if_pos ((str1a _).mpr rfl)]; rfl
  · rw [if_neg (fun h => by have := (str1a _).mp h; omega), if_pos ((str1b _).mpr rfl)]; rfl
theorem szM_lt (c : Nat) : SzM (ltM c) 3 := by
  rcases ltM_cases c with ⟨e, _⟩ | ⟨e, _⟩ <;> rw [e] <;> exact ⟨by decide, by decide, by decide, by decide⟩

def sp_table_of : SpD := fun ds S Q _ => ∃ l : List Nat, ds = [.str (ofL l)] ∧ isAB l = true ∧ 1 ≤ l.length ∧ l.length ≤ 60 ∧ Q (tbD (tabM l)) S
theorem len_table_of : ∀ ds S Q E, sp_table_of ds S Q E → ds.length = 1 := fun _ _ _ _ ⟨_, e, _⟩ => by rw [e]; rfl

def sp_first_letter : SpD := fun ds S Q _ => ∃ m n, ds = [tbD m] ∧ SzM m n ∧ 1 ≤ n ∧ n ≤ 100000 ∧ Q (.str ⟨#[if m.p > 2 * m.r then 98 else 97]⟩) S
theorem len_first_letter : ∀ ds S Q E, sp_first_letter ds S Q E → ds.length = 1 := fun _ _ _ _ ⟨_, _, e, _⟩ => by rw [e]; rfl

def sp_word_of : SpD := fun ds S Q _ => ∃ l : List Nat, ds = [tbD (tabM l)] ∧ isAB l = true ∧ 1 ≤ l.length ∧ l.length ≤ 60 ∧ Q (.str (ofL l)) S
theorem len_word_of : ∀ ds S Q E, sp_word_of ds S Q E → ds.length = 1 := fun _ _ _ _ ⟨_, e, _⟩ => by rw [e]; rfl
theorem unit_tb : k_UNIT = tbD unitM := rfl
theorem szM_ltI (c : Nat) : SzM (ltI c) 3 := by
  unfold ltI
  split <;> exact ⟨by decide, by decide, by decide, by decide⟩
theorem atI_last {l : List Nat} {c : Nat} : atI (l ++ [c]) (-1) = some c := by
  unfold atI ixN
  rw [if_neg (by decide)]
  simp only [List.length_append, List.length_singleton]
  rw [if_pos (by omega)]
  show (l ++ [c])[(-1 + ((l.length + 1 : Nat) : Int)).toNat]? = some c
  rw [show (-1 + ((l.length + 1 : Nat) : Int)).toNat = l.length by omega]
  simp

def sp_law_urn : SpD := fun ds S Q _ => ∃ (ns : List Int) (at_ : Int), ds = [.lst (ns.map D.int), .int at_] ∧ 0 ≤ at_ ∧ at_ < 100 ∧ ∀ u S', S u = none → Urn S' u 0 → Oth S S' u → Q (.obj u) S'
theorem len_law_urn : ∀ ds S Q E, sp_law_urn ds S Q E → ds.length = 2 := fun _ _ _ _ ⟨_, _, e, _⟩ => by rw [e]; rfl

def sp_law_draw : SpD := fun ds S Q _ => ∃ u w B, ds = [.obj u, .int w] ∧ Urn S u B ∧ B ≤ 2 ^ 100 ∧ 0 < w ∧ w < 2 ^ 1000 ∧ ∀ n S', 0 ≤ n → n < w → Urn S' u (B + 1) → Oth S S' u → Q (.int n) S'
theorem len_law_draw : ∀ ds S Q E, sp_law_draw ds S Q E → ds.length = 2 := fun _ _ _ _ ⟨_, _, _, e, _⟩ => by rw [e]; rfl

def sp_law_even_word : SpD := fun ds S Q _ => ∃ b a : Nat, ds = [.int b, .int a] ∧ b + a ≤ 1000000 ∧ Q (.str (ofL (evF b (b + a)))) S
theorem len_law_even_word : ∀ ds S Q E, sp_law_even_word ds S Q E → ds.length = 2 := fun _ _ _ _ ⟨_, _, e, _⟩ => by rw [e]; rfl

def sp_law_word : SpD := fun ds S Q _ => ∃ (u : Addr) (B : Int) (most : Nat), ds = [.obj u, .int most] ∧ Urn S u B ∧ B ≤ 2 ^ 97 ∧ 12 ≤ most ∧ most ≤ 1000 ∧ ∀ (l : List Nat) S', isAB l = true → 1 ≤ l.length → l.length ≤ most → Urn S' u (B + 2000) → Oth S S' u → Q (.str (ofL l)) S'
theorem len_law_word : ∀ ds S Q E, sp_law_word ds S Q E → ds.length = 2 := fun _ _ _ _ ⟨_, _, _, e, _⟩ => by rw [e]; rfl

def sp_law_is_parted : SpD := fun ds S Q _ => ∃ (l : List Nat) (k : Int), ds = [.str (ofL l), .int k] ∧ isAB l = true ∧ l.length ≤ 60 ∧ 1 ≤ k ∧ k < l.length ∧ Q (.bl true) S
theorem len_law_is_parted : ∀ ds S Q E, sp_law_is_parted ds S Q E → ds.length = 2 := fun _ _ _ _ ⟨_, _, e, _⟩ => by rw [e]; rfl
theorem conM_one {m : M2} (h : detM m = 1) : conM m = ⟨m.s, 0 - m.q, 0 - m.r, m.p⟩ := by
  unfold conM
  rw [h]
  simp
theorem con_mul {m : M2} (h : detM m = 1) : mulM (conM m) m = unitM := by
  rw [conM_one h]
  obtain ⟨p, q, r, s⟩ := m
  have h' : p * s - q * r = 1 := h
  have e1 : s * p = p * s := Int.mul_comm _ _
  have e2 : r * q = q * r := Int.mul_comm _ _
  have e3 : s * q = q * s := Int.mul_comm _ _
  have e4 : r * p = p * r := Int.mul_comm _ _
  unfold mulM unitM
  refine m2ext ?_ ?_ ?_ ?_ <;> simp only [Int.sub_mul, Int.zero_mul] <;> omega
theorem con_sz {m : M2} {n : Nat} (h : detM m = 1) (z : SzM m n) : SzM (conM m) n := by
  rw [conM_one h]
  obtain ⟨a, b, c, d⟩ := z
  exact ⟨d, by show (0 - m.q).natAbs < _; omega, by show (0 - m.r).natAbs < _; omega, a⟩

def sp_law_mirrored : SpD := fun ds S Q _ => ∃ m, ds = [tbD m] ∧ Q (tbD (tmM m)) S
theorem len_law_mirrored : ∀ ds S Q E, sp_law_mirrored ds S Q E → ds.length = 1 := fun _ _ _ _ ⟨_, e, _⟩ => by rw [e]; rfl

/-! readings, printed by gen.py -/
abbrev N_is_whole : List Str := ["thing"]
def t_is_whole (Ed : XKD) : TSD :=
  (dRet (dAndV (dCB rdIsi (dCons (dVar 0) (dCons (dC (.ty "int")) dNil))) (dNotV (dCB rdIsi (dCons (dVar 0) (dCons (dC (.ty "bool")) dNil))))))
theorem st_is_whole (a0 : D) : startD N_is_whole [a0] = [some a0] := rfl
abbrev N_are_wholes : List Str := ["things", "thing"]
def t_are_wholes (Ed : XKD) : TSD :=
  (dRet (dCB rdAll (dCons (dComp (dItr (dVar 0)) (dName 1) dYes (dCall sp_is_whole [] wd0 (dCons (dVar 1) dNil)) [1]) dNil)))
theorem st_are_wholes (a0 : D) : startD N_are_wholes [a0] = [some a0, none] := rfl
abbrev N_is_word : List Str := ["thing", "letter"]
def t_is_word (Ed : XKD) : TSD :=
  (dSeq (dIfS (dOr (dNot (dTest (dCB rdIsi (dCons (dVar 0) (dCons (dC (.ty "str")) dNil))))) (dNot (dTest (dChain rdLe rdLe (dC (.int 1)) (dCB rdLen (dCons (dVar 0) dNil)) (dC k_MOST_LETTERS))))) (dRet (dC (.bl false))) dNext)
  (dRet (dCB rdAll (dCons (dComp (dItr (dVar 0)) (dName 1) dYes (dOp rdInS (dVar 1) (dC k_LETTERS)) [1]) dNil))))
theorem st_is_word (a0 : D) : startD N_is_word [a0] = [some a0, none] := rfl
abbrev N_look_word : List Str := ["thing"]
def t_look_word (Ed : XKD) : TSD :=
  (dIfS (dNot (dTest (dCall sp_is_word [] (wd Ed) (dCons (dVar 0) dNil)))) dNever dNext)
theorem st_look_word (a0 : D) : startD N_look_word [a0] = [some a0] := rfl
abbrev N_is_pair_of : List Str := ["thing"]
def t_is_pair_of (Ed : XKD) : TSD :=
  (dRet (dAndV (dCB rdIsi (dCons (dVar 0) (dCons (dC (.ty "tuple")) dNil))) (dOp rdEq (dCB rdLen (dCons (dVar 0) dNil)) (dC (.int 2)))))
theorem st_is_pair_of (a0 : D) : startD N_is_pair_of [a0] = [some a0] := rfl
abbrev N_is_table : List Str := ["thing", "row"]
def t_is_table (Ed : XKD) : TSD :=
  (dRet (dAndV (dCall sp_is_pair_of [] (wd Ed) (dCons (dVar 0) dNil)) (dCB rdAll (dCons (dComp (dItr (dVar 0)) (dName 1) dYes (dAndV (dCall sp_is_pair_of [] wd0 (dCons (dVar 1) dNil)) (dCall sp_are_wholes [] wd0 (dCons (dVar 1) dNil))) [1]) dNil))))
theorem st_is_table (a0 : D) : startD N_is_table [a0] = [some a0, none] := rfl
abbrev N_size_of : List Str := ["table", "p", "q", "r", "s"]
def t_size_of (Ed : XKD) : TSD :=
  (dSeq (dAsg (dVar 0) (dTupG 2 (dGCons (dTupG 2 (dGCons (dName 1) (dGCons (dName 2) dGNil))) (dGCons (dTupG 2 (dGCons (dName 3) (dGCons (dName 4) dGNil))) dGNil))))
  (dRet (dOp rdSub (dOp rdMul (dVar 1) (dVar 4)) (dOp rdMul (dVar 2) (dVar 3)))))
theorem st_size_of (a0 : D) : startD N_size_of [a0] = [some a0, none, none, none, none] := rfl
abbrev N_is_turning : List Str := ["thing"]
def t_is_turning (Ed : XKD) : TSD :=
  (dRet (dAndV (dCall sp_is_table [] (wd Ed) (dCons (dVar 0) dNil)) (dOp rdEq (dCB rdAbs (dCons (dCall sp_size_of [] (wd Ed) (dCons (dVar 0) dNil)) dNil)) (dC (.int 1)))))
theorem st_is_turning (a0 : D) : startD N_is_turning [a0] = [some a0] := rfl
abbrev N_look_turning : List Str := ["thing"]
def t_look_turning (Ed : XKD) : TSD :=
  (dIfS (dNot (dTest (dCall sp_is_turning [] (wd Ed) (dCons (dVar 0) dNil)))) dNever dNext)
theorem st_look_turning (a0 : D) : startD N_look_turning [a0] = [some a0] := rfl
abbrev N_joined : List Str := ["one", "other", "p", "q", "r", "s", "a", "b", "c", "d"]
def t_joined (Ed : XKD) : TSD :=
  (dSeq (dAsg (dVar 0) (dTupG 2 (dGCons (dTupG 2 (dGCons (dName 2) (dGCons (dName 3) dGNil))) (dGCons (dTupG 2 (dGCons (dName 4) (dGCons (dName 5) dGNil))) dGNil))))
  (dSeq (dAsg (dVar 1) (dTupG 2 (dGCons (dTupG 2 (dGCons (dName 6) (dGCons (dName 7) dGNil))) (dGCons (dTupG 2 (dGCons (dName 8) (dGCons (dName 9) dGNil))) dGNil))))
  (dRet (dTup (dCons (dTup (dCons (dOp rdAdd (dOp rdMul (dVar 2) (dVar 6)) (dOp rdMul (dVar 3) (dVar 8))) (dCons (dOp rdAdd (dOp rdMul (dVar 2) (dVar 7)) (dOp rdMul (dVar 3) (dVar 9))) dNil))) (dCons (dTup (dCons (dOp rdAdd (dOp rdMul (dVar 4) (dVar 6)) (dOp rdMul (dVar 5) (dVar 8))) (dCons (dOp rdAdd (dOp rdMul (dVar 4) (dVar 7)) (dOp rdMul (dVar 5) (dVar 9))) dNil))) dNil))))))
theorem st_joined (a0 a1 : D) : startD N_joined [a0, a1] = [some a0, some a1, none, none, none, none, none, none, none, none] := rfl
abbrev N_contrary_by : List Str := ["table", "p", "q", "r", "s", "size"]
def t_contrary_by (Ed : XKD) : TSD :=
  (dSeq (dAsg (dVar 0) (dTupG 2 (dGCons (dTupG 2 (dGCons (dName 1) (dGCons (dName 2) dGNil))) (dGCons (dTupG 2 (dGCons (dName 3) (dGCons (dName 4) dGNil))) dGNil))))
  (dSeq (dSet 5 (dCall sp_size_of [] (wd Ed) (dCons (dVar 0) dNil)))
  (dRet (dTup (dCons (dTup (dCons (dOp rdMul (dVar 4) (dVar 5)) (dCons (dOp rdSub (dC (.int 0)) (dOp rdMul (dVar 2) (dVar 5))) dNil))) (dCons (dTup (dCons (dOp rdSub (dC (.int 0)) (dOp rdMul (dVar 3) (dVar 5))) (dCons (dOp rdMul (dVar 1) (dVar 5)) dNil))) dNil))))))
theorem st_contrary_by (a0 : D) : startD N_contrary_by [a0] = [some a0, none, none, none, none, none] := rfl
abbrev N_contrary : List Str := ["table"]
def t_contrary (Ed : XKD) : TSD :=
  (dSeq (dDrop (dCall sp_look_turning [] (wd Ed) (dCons (dVar 0) dNil)))
  (dRet (dCall sp_contrary_by [] (wd Ed) (dCons (dVar 0) dNil))))
theorem st_contrary (a0 : D) : startD N_contrary [a0] = [some a0] := rfl
abbrev N_table_by : List Str := ["word", "found", "letter"]
def t_table_by (Ed : XKD) : TSD :=
  (dSeq (dSet 1 (dC k_UNIT))
  (dSeq (dFor (dItr (dVar 0)) (dName 2)
  (dSet 1 (dCall sp_joined [] (wd Ed) (dCons (dVar 1) (dCons (dKix k_LETTER_TABLES (dVar 2)) dNil)))))
  (dRet (dVar 1))))
theorem st_table_by (a0 : D) : startD N_table_by [a0] = [some a0, none, none] := rfl
abbrev N_table_of : List Str := ["word"]
def t_table_of (Ed : XKD) : TSD :=
  (dSeq (dDrop (dCall sp_look_word [] (wd Ed) (dCons (dVar 0) dNil)))
  (dRet (dCall sp_table_by [] (wd Ed) (dCons (dVar 0) dNil))))
theorem st_table_of (a0 : D) : startD N_table_of [a0] = [some a0] := rfl
abbrev N_first_letter : List Str := ["table"]
def t_first_letter (Ed : XKD) : TSD :=
  (dRet (dOp rdIx (dC (.str "ab")) (dCB rdInt (dCons (dOp rdGt (dOp rdIx (dOp rdIx (dVar 0) (dC (.int 0))) (dC (.int 0))) (dOp rdMul (dC (.int 2)) (dOp rdIx (dOp rdIx (dVar 0) (dC (.int 1))) (dC (.int 0))))) dNil))))
theorem st_first_letter (a0 : D) : startD N_first_letter [a0] = [some a0] := rfl
abbrev N_word_of : List Str := ["table", "word"]
def t_word_of (Ed : XKD) : TSD :=
  (dSeq (dIfS (dOr (dNot (dTest (dCall sp_is_table [] (wd Ed) (dCons (dVar 0) dNil)))) (dTest (dOp rdEq (dVar 0) (dC k_UNIT)))) dNever dNext)
  (dSeq (dSet 1 (dC (.str "")))
  (dSeq (dWhile (dTest (dOp rdNe (dVar 0) (dC k_UNIT)))
  (dSeq (dIfS (dTest (dOp rdEq (dCB rdLen (dCons (dVar 1) dNil)) (dC k_MOST_LETTERS))) dNever dNext)
  (dSeq (dAug 1 (dCall sp_first_letter [] (wd Ed) (dCons (dVar 0) dNil)) rdIadd)
  (dSet 0 (dCall sp_joined [] (wd Ed) (dCons (dCall sp_contrary_by [] (wd Ed) (dCons (dKix k_LETTER_TABLES (dOp rdIx (dVar 1) (dUn rdNeg (dC (.int 1))))) dNil)) (dCons (dVar 0) dNil)))))))
  (dRet (dVar 1)))))
theorem st_word_of (a0 : D) : startD N_word_of [a0] = [some a0, none] := rfl
abbrev N_law_urn : List Str := ["_law_script", "_law_at", "_law_cell", "_law_great"]
def t_law_urn (Ed : XKD) : TSD :=
  (dSeq (dSet 2 (dC (.int 0)))
  (dSeq (dIfS (dTest (dOp rdLt (dVar 1) (dCB rdLen (dCons (dVar 0) dNil)))) (dSet 2 (dOp rdIx (dVar 0) (dVar 1))) dNext)
  (dSeq (dSet 3 (dCB rdAbs (dCons (dVar 2) dNil)))
  (dSeq (dIfS (dTest (dOp rdLt (dVar 3) (dOp rdPow (dC (.int 10)) (dC (.int 18))))) (dSet 3 (dC (.int 0))) dNext)
  (dRet (dLstO (dCons (dVar 3) (dCons (dOp rdAdd (dOp rdAdd (dOp rdAdd (dOp rdMod (dVar 2) (dC (.int 1000000000000000003))) (dOp rdMul (dOp rdMul (dC (.int 97)) (dVar 1)) (dVar 1))) (dOp rdMul (dC (.int 31)) (dVar 1))) (dC (.int 1))) (dCons (dC (.int 0)) dNil)))))))))
theorem st_law_urn (a0 a1 : D) : startD N_law_urn [a0, a1] = [some a0, some a1, none, none] := rfl
abbrev N_law_draw : List Str := ["_law_urn_here", "_law_wide", "_law_digit", "_law_primes", "_law_step", "_law_base", "_law_mixed"]
def t_law_draw (Ed : XKD) : TSD :=
  (dSeq (dIfS (dTest (dOp rdGt (dOp rdIx (dVar 0) (dC (.int 0))) (dC (.int 0)))) (dSeq (dSet 2 (dOp rdMod (dOp rdIx (dVar 0) (dC (.int 0))) (dVar 1)))
  (dSeq (dStore (dVar 0) (dC (.int 0)) (dOp rdFdiv (dOp rdIx (dVar 0) (dC (.int 0))) (dVar 1)))
  (dRet (dVar 2)))) dNext)
  (dSeq (dSet 3 (dTup (dCons (dC (.int 2147483647)) (dCons (dC (.int 2147483629)) (dCons (dC (.int 2147483587)) (dCons (dC (.int 2147483579)) (dCons (dC (.int 2147483563)) (dCons (dC (.int 2147483549)) (dCons (dC (.int 2147483543)) dNil)))))))))
  (dSeq (dStore (dVar 0) (dC (.int 2)) (dOp rdAdd (dOp rdIx (dVar 0) (dC (.int 2))) (dC (.int 1))))
  (dSeq (dSet 4 (dOp rdIx (dVar 0) (dC (.int 2))))
  (dSeq (dSet 5 (dOp rdAdd (dOp rdAdd (dOp rdMul (dOp rdIx (dVar 0) (dC (.int 1))) (dOp rdAdd (dOp rdMul (dC (.int 2)) (dVar 4)) (dC (.int 1)))) (dOp rdMul (dOp rdMul (dC (.int 6007)) (dVar 4)) (dVar 4))) (dC (.int 53))))
  (dSeq (dSet 6 (dOp rdMod (dOp rdPow (dVar 5) (dC (.int 3))) (dOp rdIx (dVar 3) (dOp rdMod (dVar 4) (dC (.int 7))))))
  (dRet (dOp rdMod (dOp rdFdiv (dOp rdMod (dOp rdMul (dVar 6) (dOp rdAdd (dOp rdFdiv (dVar 6) (dC (.int 8191))) (dVar 4))) (dOp rdIx (dVar 3) (dOp rdMod (dOp rdAdd (dVar 4) (dC (.int 3))) (dC (.int 7))))) (dC (.int 16))) (dVar 1)))))))))
theorem st_law_draw (a0 a1 : D) : startD N_law_draw [a0, a1] = [some a0, some a1, none, none, none, none, none] := rfl
abbrev N_law_even_word : List Str := ["_law_bs", "_law_others", "_law_found", "_law_rest", "_law_k"]
def t_law_even_word (Ed : XKD) : TSD :=
  (dSeq (dSet 2 (dC (.str "")))
  (dSeq (dSet 3 (dC (.int 0)))
  (dSeq (dFor (dRng1 (dCons (dOp rdAdd (dVar 0) (dVar 1)) dNil)) (dName 4)
  (dSeq (dSet 3 (dOp rdAdd (dVar 3) (dVar 0)))
  (dSeq (dSet 2 (dOp rdAdd (dVar 2) (dOp rdIx (dC (.str "ab")) (dCB rdInt (dCons (dOp rdGe (dVar 3) (dOp rdAdd (dVar 0) (dVar 1))) dNil)))))
  (dIfS (dTest (dOp rdGe (dVar 3) (dOp rdAdd (dVar 0) (dVar 1)))) (dSet 3 (dOp rdSub (dOp rdSub (dVar 3) (dVar 0)) (dVar 1))) dNext))))
  (dRet (dVar 2)))))
theorem st_law_even_word (a0 a1 : D) : startD N_law_even_word [a0, a1] = [some a0, some a1, none, none, none] := rfl
abbrev N_law_word : List Str := ["_law_urn_here", "_law_most", "_law_size", "_law_together", "_law_wide", "_law_any_word", "_law_way", "_law_bs", "_law_even", "_law_at", "_law_spot", "_law_k"]
def t_law_word (Ed : XKD) : TSD :=
  (dSeq (dSet 2 (dOp rdIx (dLst (dCons (dC (.int 3)) (dCons (dC (.int 6)) (dCons (dC (.int 12)) (dCons (dVar 1) dNil))))) (dCall sp_law_draw [] (wd Ed) (dCons (dVar 0) (dCons (dC (.int 4)) dNil)))))
  (dSeq (dSet 3 (dOp rdAdd (dC (.int 1)) (dCall sp_law_draw [] (wd Ed) (dCons (dVar 0) (dCons (dVar 2) dNil)))))
  (dSeq (dSet 4 (dOp rdIx (dLst (dCons (dC (.int 2)) (dCons (dC (.int 2)) (dCons (dC (.int 5)) dNil)))) (dCall sp_law_draw [] (wd Ed) (dCons (dVar 0) (dCons (dC (.int 3)) dNil)))))
  (dSeq (dSet 5 (dBM "str" rdJoin (dC (.str "")) (dCons (dComp (dRng1 (dCons (dVar 3) dNil)) (dName 11) dYes (dOp rdIx (dC (.str "ba")) (dCB rdInt (dCons (dOp rdGt (dCall sp_law_draw [] wd0 (dCons (dVar 0) (dCons (dVar 4) dNil))) (dC (.int 0))) dNil))) [11]) dNil)))
  (dSeq (dSet 6 (dCall sp_law_draw [] (wd Ed) (dCons (dVar 0) (dCons (dC (.int 4)) dNil))))
  (dSeq (dIfS (dTest (dOp rdLt (dVar 6) (dC (.int 2)))) (dRet (dVar 5)) dNext)
  (dSeq (dSet 7 (dCall sp_law_draw [] (wd Ed) (dCons (dVar 0) (dCons (dOp rdAdd (dVar 3) (dC (.int 1))) dNil))))
  (dSeq (dSet 8 (dCall sp_law_even_word [] (wd Ed) (dCons (dVar 7) (dCons (dOp rdSub (dVar 3) (dVar 7)) dNil))))
  (dSeq (dSet 9 (dCall sp_law_draw [] (wd Ed) (dCons (dVar 0) (dCons (dVar 3) dNil))))
  (dSeq (dSet 8 (dOp rdAdd (dSl (dVar 8) (dPart (dVar 9)) dNoPart) (dSl (dVar 8) dNoPart (dPart (dVar 9)))))
  (dSeq (dIfS (dTest (dOp rdEq (dVar 6) (dC (.int 2)))) (dRet (dVar 8)) dNext)
  (dSeq (dSet 10 (dCall sp_law_draw [] (wd Ed) (dCons (dVar 0) (dCons (dVar 3) dNil))))
  (dRet (dOp rdAdd (dOp rdAdd (dSl (dVar 8) dNoPart (dPart (dVar 10))) (dOp rdIx (dVar 5) (dVar 10))) (dSl (dVar 8) (dPart (dOp rdAdd (dVar 10) (dC (.int 1)))) dNoPart)))))))))))))))
theorem st_law_word (a0 a1 : D) : startD N_law_word [a0, a1] = [some a0, some a1, none, none, none, none, none, none, none, none, none, none] := rfl
abbrev N_law_is_parted : List Str := ["_law_word_here", "_law_at", "_law_first", "_law_rest", "_law_left"]
def t_law_is_parted (Ed : XKD) : TSD :=
  (dSeq (dPar 2 3 (dCons (dSl (dVar 0) dNoPart (dPart (dVar 1))) (dCons (dSl (dVar 0) (dPart (dVar 1)) dNoPart) dNil)))
  (dSeq (dSet 4 (dCall sp_joined [] (wd Ed) (dCons (dCall sp_contrary [] (wd Ed) (dCons (dCall sp_table_of [] (wd Ed) (dCons (dVar 2) dNil)) dNil)) (dCons (dCall sp_table_of [] (wd Ed) (dCons (dVar 0) dNil)) dNil))))
  (dRet (dAndV (dOp rdEq (dVar 4) (dCall sp_table_of [] (wd Ed) (dCons (dVar 3) dNil))) (dOp rdEq (dCall sp_word_of [] (wd Ed) (dCons (dVar 4) dNil)) (dVar 3))))))
theorem st_law_is_parted (a0 a1 : D) : startD N_law_is_parted [a0, a1] = [some a0, some a1, none, none, none] := rfl
abbrev N_law_mirrored : List Str := ["_law_table"]
def t_law_mirrored (Ed : XKD) : TSD :=
  (dRet (dTup (dCons (dTup (dCons (dOp rdIx (dOp rdIx (dVar 0) (dC (.int 0))) (dC (.int 0))) (dCons (dOp rdIx (dOp rdIx (dVar 0) (dC (.int 1))) (dC (.int 0))) dNil))) (dCons (dTup (dCons (dOp rdIx (dOp rdIx (dVar 0) (dC (.int 0))) (dC (.int 1))) (dCons (dOp rdIx (dOp rdIx (dVar 0) (dC (.int 1))) (dC (.int 1))) dNil))) dNil))))
theorem st_law_mirrored (a0 : D) : startD N_law_mirrored [a0] = [some a0] := rfl
abbrev N_law : List Str := ["_law_script", "_law_at", "_law_urn_here", "_law_one", "_law_other", "_law_both", "_law_word_here", "_law_row", "_law_k", "_law_place"]
def t_law (Ed : XKD) : TSD :=
  (dSeq (dFor (dRng1 (dCons (dCB rdMax2 (dCons (dC (.int 2)) (dCons (dCB rdMin2 (dCons (dC (.int 4)) (dCons (dCB rdLen (dCons (dVar 0) dNil)) dNil))) dNil))) dNil)) (dName 1)
  (dSeq (dSet 2 (dCall sp_law_urn [] (wd Ed) (dCons (dVar 0) (dCons (dVar 1) dNil))))
  (dSeq (dPar 3 4 (dCons (dCall sp_law_word [] (wd Ed) (dCons (dVar 2) (dCons (dC (.int 30)) dNil))) (dCons (dCall sp_law_word [] (wd Ed) (dCons (dVar 2) (dCons (dC (.int 30)) dNil))) dNil)))
  (dSeq (dIfS (dTest (dOp rdEq (dCall sp_law_draw [] (wd Ed) (dCons (dVar 2) (dCons (dC (.int 4)) dNil))) (dC (.int 0)))) (dSet 4 (dSl (dOp rdAdd (dVar 3) (dVar 4)) dNoPart (dPart (dC (.int 30))))) dNext)
  (dSeq (dSet 5 (dCall sp_joined [] (wd Ed) (dCons (dCall sp_table_of [] (wd Ed) (dCons (dVar 3) dNil)) (dCons (dCall sp_table_of [] (wd Ed) (dCons (dVar 4) dNil)) dNil))))
  (dSeq (dIfS (dOr (dTest (dOp rdNe (dVar 5) (dCall sp_table_of [] (wd Ed) (dCons (dOp rdAdd (dVar 3) (dVar 4)) dNil)))) (dTest (dOp rdNe (dCall sp_word_of [] (wd Ed) (dCons (dVar 5) dNil)) (dOp rdAdd (dVar 3) (dVar 4))))) (dRet (dC (.bl false))) dNext)
  (dSeq (dIfS (dTest (dOp rdNe (dOp rdEq (dCall sp_table_of [] (wd Ed) (dCons (dVar 3) dNil)) (dCall sp_table_of [] (wd Ed) (dCons (dVar 4) dNil))) (dOp rdEq (dVar 3) (dVar 4)))) (dRet (dC (.bl false))) dNext)
  (dSeq (dIfS (dTest (dOp rdNe (dOp rdEq (dCall sp_joined [] (wd Ed) (dCons (dCall sp_table_of [] (wd Ed) (dCons (dVar 4) dNil)) (dCons (dCall sp_table_of [] (wd Ed) (dCons (dVar 3) dNil)) dNil))) (dVar 5)) (dOp rdEq (dOp rdAdd (dVar 4) (dVar 3)) (dOp rdAdd (dVar 3) (dVar 4))))) (dRet (dC (.bl false))) dNext)
  (dSeq (dSet 6 (dOp rdAdd (dVar 3) (dVar 4)))
  (dSeq (dIfS (dNot (dTest (dCB rdAll (dCons (dComp (dRng2 (dCons (dC (.int 1)) (dCons (dCB rdLen (dCons (dVar 6) dNil)) dNil))) (dName 9) dYes (dCall sp_law_is_parted [] wd0 (dCons (dVar 6) (dCons (dVar 9) dNil))) [9]) dNil)))) (dRet (dC (.bl false))) dNext)
  (dSeq (dIfS (dOr (dTest (dOp rdNe (dCall sp_table_of [] (wd Ed) (dCons (dRev (dVar 6)) dNil)) (dCall sp_law_mirrored [] (wd Ed) (dCons (dVar 5) dNil)))) (dTest (dOp rdNe (dCall sp_word_of [] (wd Ed) (dCons (dCall sp_law_mirrored [] (wd Ed) (dCons (dVar 5) dNil)) dNil)) (dRev (dVar 6))))) (dRet (dC (.bl false))) dNext)
  (dSeq (dSet 7 (dTup (dCons (dTup (dCons (dC (.int 1)) (dCons (dC (.int 0)) dNil))) (dCons (dTup (dCons (dC (.int 0)) (dCons (dC (.int 1)) dNil))) dNil))))
  (dFor (dRng1 (dCons (dOp rdFdiv (dC (.int 60)) (dCB rdLen (dCons (dVar 3) dNil))) dNil)) (dName 8)
  (dSeq (dSet 7 (dCall sp_joined [] (wd Ed) (dCons (dVar 7) (dCons (dCall sp_table_of [] (wd Ed) (dCons (dVar 3) dNil)) dNil))))
  (dIfS (dOr (dTest (dOp rdNe (dVar 7) (dCall sp_table_of [] (wd Ed) (dCons (dOp rdMul (dVar 3) (dOp rdAdd (dVar 8) (dC (.int 1)))) dNil)))) (dTest (dOp rdNe (dCall sp_word_of [] (wd Ed) (dCons (dVar 7) dNil)) (dOp rdMul (dVar 3) (dOp rdAdd (dVar 8) (dC (.int 1))))))) (dRet (dC (.bl false))) dNext)))))))))))))))
  (dRet (dC (.bl true))))
theorem st_law (a0 : D) : startD N_law [a0] = [some a0, none, none, none, none, none, none, none, none, none] := rfl

local macro_rules | `(tactic| walk_at "dy") => `(tactic| simp only [dCall, List.append_nil, dSeq, dSet, dIfS, dRet, dNext, dTest, dOp, dCB, dCons, dNil, dC, x_var0, x_varS, dTup, dLst, dLstO, dAndV, dOrV, dNotV, dAnd, dOr, dNot, dIf, dChain, dChain3, dStore, dBM, dDrop, dAsg, dTupG, dGCons, dGNil, dName, dUn, dPar, dPar3, dSl, dPart, dNoPart, dRev, dFor, dItr, dRng1, dRng2,
  x_add_ii, x_add_ib, x_add_ss, x_add_tt, x_add_ll, x_sub, x_mul, x_mul_s, x_fdiv, x_mod, x_pow, x_neg, x_lt, x_le, x_gt, x_ge, x_eq_ii, x_eq_ss, x_eq_bb, x_ne_ii, x_ne_ss, x_ne_bb, x_abs, x_max2, x_min2, x_int_i, x_int_b, x_tupA_l, x_tupA_t, x_tupA_s, x_listA_l, x_listA_t, x_listA_s, x_sl_t, x_sl_l, x_sl_s, x_ixs, x_ixQ, x_ixS, atI_0, atI_1, atI_2, atI_3, x_inS, x_is_bb, x_isNot_bb, x_is_n, x_isNot_n, x_count, tyM,
  x_len_tup, x_len_lst, x_len_str, x_ixt, x_ixl, x_isi, isi_non_int, isi_non_bool, isi_non_str, isi_non_tuple, isi_non_list, isi_bl_int, isi_bl_bool, isi_bl_str, isi_bl_tuple, isi_bl_list, isi_int_int, isi_int_bool, isi_int_str, isi_int_tuple, isi_int_list, isi_str_int, isi_str_bool, isi_str_str, isi_str_tuple, isi_str_list, isi_tup_int, isi_tup_bool, isi_tup_str, isi_tup_tuple, isi_tup_list, isi_lst_int, isi_lst_bool, isi_lst_str, isi_lst_tuple, isi_lst_list,
  List.set_cons_zero, List.set_cons_succ, ite_tt, ite_ff, Bool.not_true, Bool.not_false, List.length_cons, List.length_nil, true_and, and_true, Nat.reduceAdd, Nat.reduceLeDiff, decide_eq_true_eq, Bool.not_eq_true', decide_eq_false_iff_not, reduceCtorEq, eq_self, if_false, if_true])

theorem pure_is_whole : ∀ ds S Q Ed, sp_is_whole ds S Q Ed → t_is_whole Ed { nx := fun _ S' => Q .non S', rt := Q } (startD N_is_whole ds) S := by
  rintro ds S Q Ed ⟨d, rfl, hd, q⟩
  rw [st_is_whole]
  unfold t_is_whole
  cases d <;> first | (walk_at "dy"; exact q) | exact absurd (show false = true from hd) Bool.false_ne_true

theorem pure_are_wholes : ∀ ds S Q Ed, sp_are_wholes ds S Q Ed → t_are_wholes Ed { nx := fun _ S' => Q .non S', rt := Q } (startD N_are_wholes ds) S := by
  rintro ds S Q Ed ⟨xs, n, rfl, hd, hl, q⟩
  rw [st_are_wholes]
  unfold t_are_wholes
  walk_at "dy"
  refine comp_pure (fun d => .bl (isWh d)) xs S (fun R hR => hR) (fun x hx S' Q' q' => ?_) (by omega) ?_
  · exact (⟨x, rfl, sm_data (smT.mp hd x hx), q'⟩ : sp_is_whole [x] S' Q' (fun _ _ => False))
  · refine x_allb (bs := xs.map isWh) (by rw [List.map_map]; rfl) ?_
    rw [List.all_map]
    exact q

theorem pure_is_word : ∀ ds S Q Ed, sp_is_word ds S Q Ed → t_is_word Ed { nx := fun _ S' => Q .non S', rt := Q } (startD N_is_word ds) S := by
  rintro ds S Q Ed ⟨d, n, rfl, hd, q⟩
  rw [st_is_word]
  unfold t_is_word
  cases d with
  | str z =>
    walk_at "dy"
    have hz := sm_str.mp hd
    refine ⟨by omega, ?_⟩
    by_cases c1 : 1 ≤ (z.length : Int)
    · rw [if_pos c1]
      by_cases c2 : (z.length : Int) ≤ 60
      · rw [if_neg (by simp [c2])]
        refine abD_comp (fun c S' Q' q' => ?_) hz _ (fun R hR => hR) ?_
        · show rdInS (.str ⟨#[c]⟩) (.str "ab") S' Q'
          rw [x_inS, ab_cps]
          exact q'
        · have e : isWordD (.str z) = isAB z.cps.toList := by
            show (decide (1 ≤ z.length ∧ z.length ≤ 60) && _) = _
            rw [decide_eq_true ⟨by omega, by omega⟩]
            rfl
          rw [← e]; exact q
      · rw [if_pos (by simp; omega)]
        have e : isWordD (.str z) = false := by
          show (decide (1 ≤ z.length ∧ z.length ≤ 60) && _) = _
          rw [decide_eq_false (by omega)]
          rfl
        rw [← e]; exact q
    · rw [if_neg c1]
      have e : isWordD (.str z) = false := by
        show (decide (1 ≤ z.length ∧ z.length ≤ 60) && _) = _
        rw [decide_eq_false (by omega)]
        rfl
      rw [← e]; exact q
  | _ => first | (walk_at "dy"; exact q) | exact absurd (show false = true from hd) Bool.false_ne_true

theorem pure_look_word : ∀ ds S Q Ed, sp_look_word ds S Q Ed → t_look_word Ed { nx := fun _ S' => Q .non S', rt := Q } (startD N_look_word ds) S := by
  rintro ds S Q Ed ⟨l, rfl, hl, l0, l1, q⟩
  rw [st_look_word]
  unfold t_look_word
  walk_at "dy"
  refine ⟨_, 1, rfl, sm_str.mpr (by rw [ofL_len]; omega), ?_⟩
  walk_at "dy"
  rw [isWordD_ofL hl l0 l1]
  walk_at "dy"
  exact q

theorem isPairD_len {xs : List D} : isPairD (.tup xs) = decide ((xs.length : Int) = 2) := by
  match xs with
  | [] => rfl
  | [a] => rfl
  | [a, b] => rfl
  | a :: b :: c :: r =>
    show false = _
    rw [decide_eq_false (by simp only [List.length_cons]; omega)]
theorem pure_is_pair_of : ∀ ds S Q Ed, sp_is_pair_of ds S Q Ed → t_is_pair_of Ed { nx := fun _ S' => Q .non S', rt := Q } (startD N_is_pair_of ds) S := by
  rintro ds S Q Ed ⟨d, rfl, hd, q⟩
  rw [st_is_pair_of]
  unfold t_is_pair_of
  cases d with
  | tup xs =>
    walk_at "dy"
    rw [isPairD_len] at q
    exact q
  | _ => first | (walk_at "dy"; exact q) | exact absurd (show false = true from hd) Bool.false_ne_true

def rowOk (d : D) : Bool := isPairD d && (match d with | .tup xs => xs.all isWh | _ => false)
theorem isTabD_rows {a b : D} : isTabD (.tup [a, b]) = (rowOk a && (rowOk b && true)) := by
  have row : ∀ d, rowOk d = true → ∃ i j, d = .tup [.int i, .int j] := fun d h => by
    have h' := Bool.and_eq_true_iff.mp h
    unfold isPairD at h'
    cases d with
    | tup xs =>
      match xs, h' with
      | [x, y], h' =>
        simp only [List.all_cons, List.all_nil, Bool.and_true, Bool.and_eq_true] at h'
        obtain ⟨i, rfl⟩ := isWh_int h'.2.1
        obtain ⟨j, rfl⟩ := isWh_int h'.2.2
        exact ⟨i, j, rfl⟩
      | [], h' => exact absurd h'.1 (by simp)
      | [x], h' => exact absurd h'.1 (by simp)
      | x :: y :: z :: r, h' => exact absurd h'.1 (by simp)
    | _ => exact absurd h'.1 (by simp)
  have back : ∀ d e, isTabD (.tup [d, e]) = true → rowOk d = true ∧ rowOk e = true := fun d e h => by
    obtain ⟨m, hm⟩ := isTabD_of h
    unfold tbD at hm
    injection hm with hm
    injection hm with h1 h2
    injection h2 with h2 _
    subst h1 h2
    exact ⟨rfl, rfl⟩
  rw [Bool.and_true, Bool.eq_iff_iff, Bool.and_eq_true]
  constructor
  · exact back a b
  · rintro ⟨h1, h2⟩
    obtain ⟨i, j, rfl⟩ := row a h1
    obtain ⟨k, l, rfl⟩ := row b h2
    rfl
theorem isTabD_pair {d : D} (h : isPairD d = false) : isTabD d = false := by
  cases e : isTabD d with
  | false => rfl
  | true =>
    obtain ⟨m, rfl⟩ := isTabD_of e
    exact absurd (show true = false from h) (by decide)
theorem pure_is_table : ∀ ds S Q Ed, sp_is_table ds S Q Ed → t_is_table Ed { nx := fun _ S' => Q .non S', rt := Q } (startD N_is_table ds) S := by
  rintro ds S Q Ed ⟨d, n, rfl, hd, q⟩
  rw [st_is_table]
  unfold t_is_table
  walk_at "dy"
  refine ⟨d, rfl, sm_data hd, ?_⟩
  walk_at "dy"
  cases e : isPairD d with
  | false =>
    walk_at "dy"
    rw [isTabD_pair e] at q
    exact q
  | true =>
    obtain ⟨a, b, rfl⟩ : ∃ a b, d = .tup [a, b] := by
      unfold isPairD at e
      split at e
      · exact ⟨_, _, rfl⟩
      · cases e
    walk_at "dy"
    have hab := smT.mp hd
    refine comp_pure (fun d => .bl (rowOk d)) [a, b] S (fun R hR => hR) (fun x hx S' Q' q' => ?_) (by show 2 ≤ 16777216; decide) ?_
    · have hx' := hab x hx
      show dAndV _ _ [some (D.tup [a, b]), some x] S' Q'
      walk_at "dy"
      refine ⟨x, rfl, sm_data hx', ?_⟩
      walk_at "dy"
      cases e2 : isPairD x with
      | false =>
        walk_at "dy"
        have e3 : rowOk x = false := by unfold rowOk; rw [e2]; rfl
        rw [e3] at q'
        exact q'
      | true =>
        obtain ⟨a', b', rfl⟩ : ∃ a b, x = .tup [a, b] := by
          unfold isPairD at e2
          split at e2
          · exact ⟨_, _, rfl⟩
          · cases e2
        walk_at "dy"
        refine ⟨[a', b'], n, rfl, hx', by show 2 ≤ 100000; decide, ?_⟩
        exact q'
    · refine x_allb (bs := [rowOk a, rowOk b]) rfl ?_
      have e4 : List.all [rowOk a, rowOk b] id = isTabD (.tup [a, b]) := by rw [isTabD_rows]; rfl
      rw [e4]
      exact q

theorem pure_size_of : ∀ ds S Q Ed, sp_size_of ds S Q Ed → t_size_of Ed { nx := fun _ S' => Q .non S', rt := Q } (startD N_size_of ds) S := by
  rintro ds S Q Ed ⟨m, n, rfl, h, n0, n1, q⟩
  rw [st_size_of]
  unfold t_size_of tbD
  walk_at "dy"
  exact ⟨mulOk n n h.1 h.2.2.2 n0 n0 (by omega), mulOk n n h.2.1 h.2.2.1 n0 n0 (by omega), q⟩

theorem pure_is_turning : ∀ ds S Q Ed, sp_is_turning ds S Q Ed → t_is_turning Ed { nx := fun _ S' => Q .non S', rt := Q } (startD N_is_turning ds) S := by
  rintro ds S Q Ed ⟨d, n, rfl, hd, n0, n1, q⟩
  rw [st_is_turning]
  unfold t_is_turning
  walk_at "dy"
  refine ⟨d, n, rfl, hd, ?_⟩
  walk_at "dy"
  cases e : isTabD d with
  | false =>
    walk_at "dy"
    have e2 : isTurnD d = false := by
      unfold isTurnD
      split
      · exact absurd e (by simp [isTabD])
      · rfl
    rw [e2] at q
    exact q
  | true =>
    obtain ⟨m, rfl⟩ := isTabD_of e
    walk_at "dy"
    refine ⟨m, n, rfl, sm_tb.mp hd, n0, n1, ?_⟩
    walk_at "dy"
    rw [isTurnD_tb] at q
    have e3 : decide ((if detM m < 0 then -detM m else detM m) = 1) = decide ((detM m).natAbs = 1) := by
      rw [decide_eq_decide]
      split <;> omega
    rw [e3]
    exact q

theorem pure_look_turning : ∀ ds S Q Ed, sp_look_turning ds S Q Ed → t_look_turning Ed { nx := fun _ S' => Q .non S', rt := Q } (startD N_look_turning ds) S := by
  rintro ds S Q Ed ⟨m, n, rfl, h, n0, n1, hd, q⟩
  rw [st_look_turning]
  unfold t_look_turning
  walk_at "dy"
  refine ⟨_, n, rfl, sm_tb.mpr h, n0, n1, ?_⟩
  walk_at "dy"
  rw [isTurnD_tb, decide_eq_true hd]
  walk_at "dy"
  exact q

theorem pure_joined : ∀ ds S Q Ed, sp_joined ds S Q Ed → t_joined Ed { nx := fun _ S' => Q .non S', rt := Q } (startD N_joined ds) S := by
  rintro ds S Q Ed ⟨a, b, n, rfl, ha, hb, n0, n1, q⟩
  rw [st_joined]
  unfold t_joined tbD
  walk_at "dy"
  obtain ⟨a1, a2, a3, a4⟩ := ha
  obtain ⟨b1, b2, b3, b4⟩ := hb
  have k : ∀ {x y : Int}, x.natAbs < 2 ^ n → y.natAbs < 2 ^ n → x.natAbs.log2 + y.natAbs.log2 < 1000000 := fun hx hy => mulOk n n hx hy n0 n0 (by omega)
  exact ⟨k a1 b1, k a2 b3, k a1 b2, k a2 b4, k a3 b1, k a4 b3, k a3 b2, k a4 b4, q⟩

theorem pure_contrary_by : ∀ ds S Q Ed, sp_contrary_by ds S Q Ed → t_contrary_by Ed { nx := fun _ S' => Q .non S', rt := Q } (startD N_contrary_by ds) S := by
  rintro ds S Q Ed ⟨m, n, rfl, h, n0, n1, q⟩
  have hd := detM_lt h
  rw [st_contrary_by]
  unfold t_contrary_by
  have e : tbD m = .tup [.tup [.int m.p, .int m.q], .tup [.int m.r, .int m.s]] := rfl
  rw [e]
  walk_at "dy"
  refine ⟨m, n, rfl, h, n0, n1, ?_⟩
  walk_at "dy"
  have k : ∀ {x : Int}, x.natAbs < 2 ^ n → x.natAbs.log2 + (detM m).natAbs.log2 < 1000000 := fun hx => mulOk n (n + n + 1) hx hd n0 (by omega) (by omega)
  exact ⟨k h.2.2.2, k h.2.1, k h.2.2.1, k h.1, q⟩

theorem pure_contrary : ∀ ds S Q Ed, sp_contrary ds S Q Ed → t_contrary Ed { nx := fun _ S' => Q .non S', rt := Q } (startD N_contrary ds) S := by
  rintro ds S Q Ed ⟨m, n, rfl, h, n0, n1, hd, q⟩
  rw [st_contrary]
  unfold t_contrary
  walk_at "dy"
  refine ⟨_, n, rfl, h, n0, n1, hd, ?_⟩
  walk_at "dy"
  exact ⟨m, n, rfl, h, n0, n1, q⟩

theorem pure_table_by : ∀ ds S Q Ed, sp_table_by ds S Q Ed → t_table_by Ed { nx := fun _ S' => Q .non S', rt := Q } (startD N_table_by ds) S := by
  rintro ds S Q Ed ⟨l, rfl, hl, ll, q⟩
  rw [st_table_by]
  unfold t_table_by
  walk_at "dy"
  refine loop_str (fun p σ S' => ∃ o, σ = [some (.str (ofL l)), some (tbD (tabM p)), o] ∧ S' = S) ⟨none, rfl, rfl⟩ ?_ ?_
  · rintro p c r σ S' N e ⟨o, rfl, rfl⟩ k
    have e' : l = p ++ c :: r := e
    have hc : c = 97 ∨ c = 98 := isAB_iff.mp hl c (by rw [e']; simp)
    have hp : p.length < 1000 := by
      have := congrArg List.length e'
      rw [List.length_append, List.length_cons] at this
      omega
    walk_at "dy"
    unfold dKix
    walk_at "dy"
    rw [lt_at hc]
    refine ⟨tabM p, ltM c, 3 * p.length + 3, rfl, (szM_tab p).mono (by omega), (szM_lt c).mono (by omega), by omega, by omega, ?_⟩
    walk_at "dy"
    refine k _ _ ⟨some (.str ⟨#[c]⟩), ?_, rfl⟩
    rw [tabM_app, tabM_one]
  · rintro σ S' ⟨o, rfl, rfl⟩
    walk_at "dy"
    exact q

theorem pure_table_of : ∀ ds S Q Ed, sp_table_of ds S Q Ed → t_table_of Ed { nx := fun _ S' => Q .non S', rt := Q } (startD N_table_of ds) S := by
  rintro ds S Q Ed ⟨l, rfl, hl, l0, l1, q⟩
  rw [st_table_of]
  unfold t_table_of
  walk_at "dy"
  refine ⟨l, rfl, hl, l0, l1, ?_⟩
  walk_at "dy"
  exact ⟨l, rfl, hl, by omega, q⟩

theorem pure_first_letter : ∀ ds S Q Ed, sp_first_letter ds S Q Ed → t_first_letter Ed { nx := fun _ S' => Q .non S', rt := Q } (startD N_first_letter ds) S := by
  rintro ds S Q Ed ⟨m, n, rfl, h, n0, n1, q⟩
  rw [st_first_letter]
  unfold t_first_letter tbD
  walk_at "dy"
  rw [ab_cps]
  refine ⟨mulOk 2 n (by decide) h.2.2.1 (by decide) n0 (by omega), by decide +kernel, ?_⟩
  by_cases c : m.p > 2 * m.r
  · rw [if_pos c] at q
    rw [if_pos c, atI_1]
    exact q
  · rw [if_neg c] at q
    rw [if_neg c, atI_0]
    exact q

theorem pure_word_of : ∀ ds S Q Ed, sp_word_of ds S Q Ed → t_word_of Ed { nx := fun _ S' => Q .non S', rt := Q } (startD N_word_of ds) S := by
  rintro ds S Q Ed ⟨l, rfl, hl, l0, l1, q⟩
  rw [st_word_of]
  unfold t_word_of
  have hsz : ∀ r : List Nat, r.length ≤ 60 → SzM (tabM r) 200 := fun r hr => (szM_tab r).mono (by omega)
  have hne : tabM l ≠ unitM := by
    match l, l0 with
    | c :: r, _ => exact tab_ne_unit
  walk_at "dy"
  refine ⟨tbD (tabM l), 200, rfl, sm_tb.mpr (hsz l l1), ?_⟩
  walk_at "dy"
  rw [show isTabD (tbD (tabM l)) = true from rfl]
  walk_at "dy"
  rw [unit_tb, x_eq_tb, decide_eq_false hne]
  walk_at "dy"
  refine while_inv (fun m σ S' => ∃ w r : List Nat, σ = [some (tbD (tabM r)), some (.str (ofL w))] ∧ S' = S ∧ l = w ++ r ∧ m = r.length) l.length ⟨[], l, rfl, rfl, rfl, rfl⟩ ?_
  rintro m σ S' N ⟨w, r, rfl, rfl, e, rfl⟩ k
  walk_at "dy"
  rw [x_ne_tb]
  match r, e with
  | [], e =>
    rw [List.append_nil] at e
    subst e
    rw [show (decide (tabM [] = unitM)) = true from rfl]
    walk_at "dy"
    exact q
  | c :: r, e =>
    rw [decide_eq_false (tab_ne_unit (c := c) (l := r))]
    walk_at "dy"
    have hlen := congrArg List.length e
    rw [List.length_append, List.length_cons] at hlen
    have hc : c = 97 ∨ c = 98 := isAB_iff.mp hl c (by rw [e]; simp)
    rw [ofL_len]
    refine ⟨by omega, ?_⟩
    rw [if_neg (by omega)]
    refine ⟨tabM (c :: r), 200, rfl, hsz _ (by rw [List.length_cons]; omega), by decide, by decide, ?_⟩
    have hf : (if (tabM (c :: r)).p > 2 * (tabM (c :: r)).r then 98 else 97) = c := first_tab hc
    rw [hf]
    walk_at "dy"
    unfold dKix
    walk_at "dy"
    show rdIadd (.str (ofL w)) (.str (ofL [c])) _ _
    unfold rdIadd
    refine ⟨by rw [ofL_len, ofL_len]; show w.length + 1 ≤ _; omega, ?_⟩
    rw [ofL_app]
    walk_at "dy"
    rw [ofL_len, ofL_cps, atI_last]
    refine ⟨by rw [List.length_append]; show w.length + 1 ≤ _; omega, ?_⟩
    walk_at "dy"
    rw [lt_at hc]
    refine ⟨ltM c, 3, rfl, szM_lt c, by decide, by decide, ?_⟩
    walk_at "dy"
    refine ⟨conM (ltM c), tabM (c :: r), 200, rfl, ?_, hsz _ (by rw [List.length_cons]; omega), by decide, by decide, ?_⟩
    · rw [con_lt]; exact (szM_ltI c).mono (by decide)
    · walk_at "dy"
      have e5 : mulM (conM (ltM c)) (tabM (c :: r)) = tabM r := by
        show mulM (conM (ltM c)) (mulM (ltM c) (tabM r)) = _
        rw [con_lt, ← mulM_assoc, ltI_mul, unit_mul]
      rw [e5]
      exact k _ _ _ (by rw [List.length_cons]; omega) ⟨w ++ [c], r, rfl, rfl, by rw [e]; simp, rfl⟩

theorem pure_law_urn : ∀ ds S Q Ed, sp_law_urn ds S Q Ed → t_law_urn Ed { nx := fun _ S' => Q .non S', rt := Q } (startD N_law_urn ds) S := by
  rintro ds S Q Ed ⟨ns, at_, rfl, h0, h1, q⟩
  rw [st_law_urn]
  unfold t_law_urn
  walk_at "dy"
  have fin : ∀ (g c : Int), 0 ≤ g → ∀ p, S p = none → Q (.obj p) (upS S p (.lst [.int g, .int (c.fmod 1000000000000000003 + 97 * at_ * at_ + 31 * at_ + 1), .int 0])) := fun g c hg p hp => by
    have f := fmod_in (a := c) (b := 1000000000000000003) (by decide)
    have e1 : 0 ≤ 97 * at_ * at_ := Int.mul_nonneg (by omega) h0
    have e2 : 97 * at_ * at_ ≤ 9700 * 100 := Int.mul_le_mul (by omega) (by omega) h0 (by omega)
    exact q p _ hp ⟨g, _, 0, upS_same, hg, by omega, by omega, by decide, by decide⟩ fun a ha => upS_ne ha
  have m1 : (Int.natAbs 97).log2 + at_.natAbs.log2 < 1000000 := mulOk 7 7 (by decide) (by omega) (by decide) (by decide) (by decide)
  have m2 : (97 * at_).natAbs.log2 + at_.natAbs.log2 < 1000000 := mulOk 14 7 (by omega) (by omega) (by decide) (by decide) (by decide)
  have m3 : (Int.natAbs 31).log2 + at_.natAbs.log2 < 1000000 := mulOk 7 7 (by decide) (by omega) (by decide) (by decide) (by decide)
  by_cases c : at_ < ((ns.map D.int).length : Int)
  · rw [if_pos c, atI_lt h0 c, List.getElem?_map]
    rw [List.length_map] at c
    have e : ns[at_.toNat]? = some ns[at_.toNat] := List.getElem?_eq_getElem (by omega)
    rw [e]
    show ixQ S _ (some (D.int ns[at_.toNat]))
    walk_at "dy"
    refine ⟨by decide, ?_⟩
    generalize e2 : (if ns[at_.toNat] < 0 then -ns[at_.toNat] else ns[at_.toNat]) = g
    have hg : 0 ≤ g := by rw [← e2]; split <;> omega
    split
    · exact ⟨by decide, m1, m2, m3, fin _ _ (by decide)⟩
    · exact ⟨by decide, m1, m2, m3, fin _ _ hg⟩
  · rw [if_neg c]
    refine ⟨by decide, ?_⟩
    split
    · exact ⟨by decide, m1, m2, m3, fin _ _ (by decide)⟩
    · exact ⟨by decide, m1, m2, m3, fin _ _ (by decide)⟩

theorem pure_law_draw : ∀ ds S Q Ed, sp_law_draw ds S Q Ed → t_law_draw Ed { nx := fun _ S' => Q .non S', rt := Q } (startD N_law_draw ds) S := by
  rintro ds S Q Ed ⟨u, w, B, rfl, ⟨g, c, n, hu, g0, c0, c1, n0, n1⟩, hB, w0, w1, q⟩
  have lw : w.natAbs.log2 < 9000 := Nat.lt_of_lt_of_le (log2_lt (n := 1000) (abs_lt_of (by omega) w1) (by decide)) (by decide)
  rw [st_law_draw]
  unfold t_law_draw
  walk_at "dy"
  rw [x_ixo hu]
  walk_at "dy"
  by_cases cg : 0 < g
  · rw [if_pos cg, x_ixo hu]
    walk_at "dy"
    refine ⟨by omega, ?_⟩
    rw [x_ixo hu]
    walk_at "dy"
    refine ⟨⟨by omega, lw⟩, ?_⟩
    rw [x_set hu (ixN_0 (by simp))]
    walk_at "dy"
    have f := fmod_in (a := g) w0
    refine q _ _ f.1 f.2 ⟨g.fdiv w, c, n, upS_same, ?_, c0, c1, n0, by omega⟩ fun a ha => upS_ne ha
    rw [Int.fdiv_eq_ediv_of_nonneg g (by omega)]
    exact Int.ediv_nonneg g0 (by omega)
  · rw [if_neg cg]
    rw [x_ixo hu]
    walk_at "dy"
    rw [x_set hu (ixN_2 (by simp))]
    have hu2 : upS S u (.lst [.int g, .int c, .int (n + 1)]) u = some (.lst [.int g, .int c, .int (n + 1)]) := upS_same
    walk_at "dy"
    rw [x_ixo hu2]
    walk_at "dy"
    rw [x_ixo hu2]
    walk_at "dy"
    have hn : n < 2 ^ 100 + 1 := by omega
    have b1 : (n + 1).natAbs < 2 ^ 101 := abs_lt_of (by omega) (by omega)
    have b2 : (2 * (n + 1) + 1).natAbs < 2 ^ 103 := abs_lt_of (by omega) (by omega)
    have b3 : c.natAbs < 2 ^ 70 := abs_lt_of c0 c1
    have b4 : (c * (2 * (n + 1) + 1)).natAbs < 2 ^ (70 + 103) := wide_lt b3 b2
    have b5 : (6007 * (n + 1)).natAbs < 2 ^ (13 + 101) := wide_lt (by decide) b1
    have b6 : (6007 * (n + 1) * (n + 1)).natAbs < 2 ^ (13 + 101 + 101) := wide_lt b5 b1
    have b7 : (c * (2 * (n + 1) + 1) + 6007 * (n + 1) * (n + 1) + 53).natAbs < 2 ^ 220 := by
      have e1 : (2 : Nat) ^ (70 + 103) ≤ 2 ^ 216 := Nat.pow_le_pow_right (by decide) (by decide)
      have e2 : (2 : Nat) ^ (13 + 101 + 101) ≤ 2 ^ 216 := Nat.pow_le_pow_right (by decide) (by decide)
      omega
    refine ⟨mulOk 2 101 (by decide) b1 (by decide) (by decide) (by decide), mulOk 70 103 b3 b2 (by decide) (by decide) (by decide), mulOk 13 101 (by decide) b1 (by decide) (by decide) (by decide), mulOk (13 + 101) 101 b5 b1 (by decide) (by decide) (by decide), powOk 220 3 b7 (by decide) (by decide) (by decide), by decide, ?_⟩
    have f7 := fmod_in (a := n + 1) (b := 7) (by decide)
    obtain ⟨p, ep, p0, p1⟩ := primes_at f7.1 f7.2
    have f8 := fmod_in (a := n + 1 + 3) (b := 7) (by decide)
    obtain ⟨p', ep', p0', p1'⟩ := primes_at f8.1 f8.2
    unfold primes at ep ep'
    rw [ep]
    walk_at "dy"
    have fm := fmod_in (a := (c * (2 * (n + 1) + 1) + 6007 * (n + 1) * (n + 1) + 53) ^ Int.toNat 3) (b := p) (by omega)
    rw [ep']
    walk_at "dy"
    generalize (c * (2 * (n + 1) + 1) + 6007 * (n + 1) * (n + 1) + 53) ^ Int.toNat 3 = big at fm ⊢
    have fd : 0 ≤ (big.fmod p).fdiv 8191 ∧ (big.fmod p).fdiv 8191 < 2 ^ 31 := by
      rw [Int.fdiv_eq_ediv_of_nonneg _ (by decide)]
      omega
    refine ⟨by omega, ⟨by decide, by decide⟩, mulOk 31 102 (abs_lt_of fm.1 (by omega)) (abs_lt_of (by omega) (by omega)) (by decide) (by decide) (by decide), by decide, by omega, ⟨by decide, by decide⟩, by omega, ?_⟩
    exact q _ _ (fmod_in w0).1 (fmod_in w0).2 ⟨g, c, n + 1, upS_same, g0, c0, c1, by omega, by omega⟩ fun a ha => upS_ne ha

theorem pure_law_even_word : ∀ ds S Q Ed, sp_law_even_word ds S Q Ed → t_law_even_word Ed { nx := fun _ S' => Q .non S', rt := Q } (startD N_law_even_word ds) S := by
  rintro ds S Q Ed ⟨b, a, rfl, hl, q⟩
  rw [st_law_even_word]
  unfold t_law_even_word
  walk_at "dy"
  refine ⟨by omega, ?_⟩
  have en : ((b : Int) + (a : Int)).toNat = b + a := by omega
  rw [en]
  refine loop_rng (fun i σ S' => ∃ kk, σ = [some (.int b), some (.int a), some (.str (ofL (evP b (b + a) i))), some (.int ((i * b % (b + a) : Nat) : Int)), kk] ∧ S' = S) ⟨none, by rw [Nat.zero_mul, Nat.zero_mod]; rfl, rfl⟩ ?_ ?_
  · rintro i σ S' N hi ⟨kk, rfl, rfl⟩ k
    walk_at "dy"
    rw [ab_cpsL]
    refine ⟨by decide +kernel, ?_⟩
    have f := floor_step (k := i) (b := b) (n := b + a) (by omega) (by omega)
    have hs := evP_succ b (b + a) i
    by_cases c : i * b % (b + a) + b < b + a
    · rw [if_pos c, if_pos c] at f
      rw [f.1, if_pos rfl] at hs
      rw [if_neg (by omega), atI_0]
      walk_at "dy"
      refine ⟨by rw [ofL_len, evP_len]; show i + 1 ≤ _; omega, ?_⟩
      rw [if_neg (by omega)]
      refine k _ _ ⟨some (.int (0 + i)), ?_, rfl⟩
      rw [hs, f.2, ← ofL_app]
      rfl
    · rw [if_neg c, if_neg c] at f
      rw [f.1, if_neg (Nat.succ_ne_self _)] at hs
      rw [if_pos (by omega), atI_1]
      walk_at "dy"
      refine ⟨by rw [ofL_len, evP_len]; show i + 1 ≤ _; omega, ?_⟩
      rw [if_pos (by omega)]
      refine k _ _ ⟨some (.int (0 + i)), ?_, rfl⟩
      rw [hs, f.2, ← ofL_app]
      rw [show ((i * b % (b + a) : Nat) : Int) + (b : Int) - (b : Int) - (a : Int) = ((i * b % (b + a) + b - (b + a) : Nat) : Int) by omega]
      rfl
  · rintro σ S' ⟨kk, rfl, rfl⟩
    walk_at "dy"
    exact q

theorem pure_law_word : ∀ ds S Q Ed, sp_law_word ds S Q Ed → t_law_word Ed { nx := fun _ S' => Q .non S', rt := Q } (startD N_law_word ds) S := by
  rintro ds S Q Ed ⟨u, B, most, rfl, hU, hB, m0, m1, q⟩
  rw [st_law_word]
  unfold t_law_word
  walk_at "dy"
  refine ⟨u, 4, B, rfl, hU, by omega, by decide, by decide, fun k S1 k0 k1 hU1 ho1 => ?_⟩
  walk_at "dy"
  obtain ⟨n, en, hn⟩ := at_nat (ns := [3, 6, 12, most]) k0 k1
  have n0 : 1 ≤ n ∧ n ≤ most := by
    simp only [List.mem_cons, List.not_mem_nil, or_false] at hn
    omega
  have en' : atI [D.int 3, D.int 6, D.int 12, D.int most] k = some (.int (n : Int)) := en
  rw [en']
  walk_at "dy"
  have hw : (n : Int) < 2 ^ 1000 := Int.lt_of_le_of_lt (b := 1000) (by omega) (by decide)
  refine ⟨u, _, _, rfl, hU1, by omega, by omega, hw, fun t S2 t0 t1 hU2 ho2 => ?_⟩
  walk_at "dy"
  refine ⟨u, 3, _, rfl, hU2, by omega, by decide, by decide, fun k2 S3 k20 k21 hU3 ho3 => ?_⟩
  walk_at "dy"
  obtain ⟨w, ew, hww⟩ := at_nat (ns := [2, 2, 5]) k20 k21
  have w0 : 2 ≤ w ∧ w ≤ 5 := by
    simp only [List.mem_cons, List.not_mem_nil, or_false] at hww
    omega
  have ew' : atI [D.int 2, D.int 2, D.int 5] k2 = some (.int (w : Int)) := ew
  rw [ew']
  walk_at "dy"
  obtain ⟨t, rfl⟩ := Int.eq_ofNat_of_zero_le t0
  have et : (1 + (t : Int)) = ((1 + t : Nat) : Int) := by omega
  rw [et]
  generalize hT : 1 + t = T at *
  have T0 : 1 ≤ T ∧ T ≤ most := by omega
  have ho13 : Oth S S3 u := (ho1.trans ho2).trans ho3
  refine comp_inv (rgD 0 T) S3 (fun p acc S' => ∃ l : List Nat, acc = l.map (fun c => D.str ⟨#[c]⟩) ∧ isAB l = true ∧ Urn S' u (B + 3 + acc.length) ∧ ∀ a, a ≠ u → a ≠ p → S' a = S3 a) (fun R hR => ?_) (fun p hp => ⟨[], rfl, rfl, (hU3.up (hU3.ne hp)).mono (by show _ ≤ B + 3 + (0 : Nat); omega), fun a _ ha => upS_ne ha⟩) ?_ (by rw [rgD_len]; omega) ?_
  · walk_at "dy"
    refine ⟨by omega, ?_⟩
    exact hR
  · rintro p pre x r acc S4 Q' hp hx hlen ⟨l, rfl, hl, hU4, ho4⟩ hS4 kk
    have up := hU3.ne hp
    have hb : pre.length < T := by
      have := congrArg List.length hx
      rw [rgD_len, List.length_append, List.length_cons] at this
      omega
    show dOp rdIx _ _ [some (D.obj u), some (D.int most), some (D.int n), some (D.int T), some (D.int w), none, none, none, none, none, none, some x] S4 Q'
    walk_at "dy"
    have hw5 : (w : Int) < 2 ^ 1000 := Int.lt_of_le_of_lt (b := 5) (by omega) (by decide)
    refine ⟨u, _, _, rfl, hU4, by omega, by omega, hw5, fun v S5 v0 v1 hU5 ho5 => ?_⟩
    walk_at "dy"
    rw [ba_cps]
    refine ⟨by decide +kernel, ?_⟩
    have fin : ∀ c, c = 97 ∨ c = 98 → Q' (.str ⟨#[c]⟩) S5 := fun c hc => by
      refine kk _ S5 ((ho5 p (Ne.symm up)).trans hS4) ⟨l ++ [c], by rw [List.map_append]; rfl, isAB_app hl (isAB_iff.mpr fun d hd => by rw [List.mem_singleton.mp hd]; exact hc), (hU5.up up).mono ?_, fun a ha hb => ?_⟩
      · rw [List.length_append, List.length_singleton]; omega
      · rw [upS_ne hb, ho5 a ha, ho4 a ha hb]
    by_cases c : 0 < v
    · rw [if_pos c, atI_1]; exact fin _ (.inl rfl)
    · rw [if_neg c, atI_0]; exact fin _ (.inr rfl)
  · rintro p acc S4 hp hlen ⟨l, rfl, hl, hU4, ho4⟩ hS4
    have up := hU3.ne hp
    rw [rgD_len, List.length_map] at hlen
    have hU5 : Urn (del S4 p) u (B + 1003) := (hU4.del up).mono (by rw [List.length_map]; omega)
    have ho5 : Oth S (del S4 p) u := ho13.trans (Oth.del ho4 hp)
    refine x_join (l.map fun c => (⟨#[c]⟩ : Str)) (by rw [List.map_map]; rfl) ?_ ?_
    · rw [sum_ones _ (fun _ => rfl), List.length_map]
      show l.length + l.length * 0 ≤ _
      omega
    · rw [join_ones]
      refine ⟨u, 4, _, rfl, hU5, by omega, by decide, by decide, fun y S6 y0 y1 hU6 ho6 => ?_⟩
      walk_at "dy"
      by_cases c2 : y < 2
      · rw [if_pos c2]
        exact q l S6 hl (by omega) (by omega) (hU6.mono (by omega)) (ho5.trans ho6)
      · rw [if_neg c2]
        have hT1 : (T : Int) + 1 < 2 ^ 1000 := Int.lt_of_le_of_lt (b := 1001) (by omega) (by decide)
        have hT2 : (T : Int) < 2 ^ 1000 := Int.lt_of_le_of_lt (b := 1001) (by omega) (by decide)
        refine ⟨u, _, _, rfl, hU6, by omega, by omega, hT1, fun b S7 b0 b1 hU7 ho7 => ?_⟩
        walk_at "dy"
        obtain ⟨b, rfl⟩ := Int.eq_ofNat_of_zero_le b0
        refine ⟨b, T - b, by rw [Int.ofNat_sub (by omega)], by omega, ?_⟩
        rw [show b + (T - b) = T by omega]
        walk_at "dy"
        refine ⟨u, _, _, rfl, hU7, by omega, by omega, hT2, fun s S8 s0 s1 hU8 ho8 => ?_⟩
        walk_at "dy"
        have hel : (evF b T).length = T := evF_len b T
        rw [ofL_len, hel, cutS_drop s0 (by rw [hel]; omega), cutS_take s0 (by rw [hel]; omega), ofL_app]
        refine ⟨by omega, by omega, by rw [ofL_len, ofL_len, List.length_drop, List.length_take]; omega, ?_⟩
        generalize he : (evF b T).drop s.toNat ++ (evF b T).take s.toNat = e
        have hE : isAB e = true := by rw [← he]; exact isAB_app (isAB_drop _ (evF_ab b T)) (isAB_take _ (evF_ab b T))
        have hEl : e.length = T := by rw [← he, List.length_append, List.length_drop, List.length_take, hel]; omega
        have hU9 : Urn S8 u (B + 1006) := hU8.mono (by omega)
        have ho9 : Oth S S8 u := ((ho5.trans ho6).trans ho7).trans ho8
        by_cases c3 : y = 2
        · rw [if_pos c3]
          exact q e S8 hE (by omega) (by omega) (hU9.mono (by omega)) ho9
        · rw [if_neg c3]
          refine ⟨u, _, _, rfl, hU9, by omega, by omega, hT2, fun s2 S9 s20 s21 hU10 ho10 => ?_⟩
          walk_at "dy"
          rw [ofL_len, ofL_len, hEl, cutS_take s20 (by omega)]
          obtain ⟨s2, rfl⟩ := Int.eq_ofNat_of_zero_le s20
          have hs2 : s2 < l.length := by omega
          have eat : atI (ofL l).cps.toList (s2 : Int) = some l[s2] := atI_nat (List.getElem?_eq_getElem hs2)
          rw [eat]
          walk_at "dy"
          rw [cutS_drop (i := (s2 : Int) + 1) (by omega) (by omega)]
          have e1 : ∀ c : Nat, (⟨#[c]⟩ : Str) = ofL [c] := fun _ => rfl
          rw [e1, ofL_app, ofL_app]
          simp only [ofL_len, List.length_append, List.length_take, List.length_drop, List.length_singleton, hEl]
          refine ⟨by omega, by omega, by omega, by omega, by omega, ?_⟩
          refine q _ S9 (isAB_app (isAB_app (isAB_take _ hE) ?_) (isAB_drop _ hE)) ?_ ?_ (hU10.mono (by omega)) (ho9.trans ho10)
          · exact isAB_iff.mpr fun d hd => by rw [List.mem_singleton.mp hd]; exact isAB_iff.mp hl _ (List.getElem_mem hs2)
          · simp only [List.length_append, List.length_take, List.length_drop, List.length_singleton, hEl]; omega
          · simp only [List.length_append, List.length_take, List.length_drop, List.length_singleton, hEl]; omega

theorem pure_law_is_parted : ∀ ds S Q Ed, sp_law_is_parted ds S Q Ed → t_law_is_parted Ed { nx := fun _ S' => Q .non S', rt := Q } (startD N_law_is_parted ds) S := by
  rintro ds S Q Ed ⟨l, k, rfl, hl, ll, k0, k1, q⟩
  rw [st_law_is_parted]
  unfold t_law_is_parted
  walk_at "dy"
  have hsz : ∀ r : List Nat, r.length ≤ 60 → SzM (tabM r) 200 := fun r hr => (szM_tab r).mono (by omega)
  rw [ofL_len, cutS_take (by omega) (by omega), cutS_drop (by omega) (by omega)]
  refine ⟨by omega, by omega, ?_⟩
  have e : l.take k.toNat ++ l.drop k.toNat = l := List.take_append_drop _ _
  have la : (l.take k.toNat).length = k.toNat := by rw [List.length_take]; omega
  have lb : (l.drop k.toNat).length = l.length - k.toNat := by rw [List.length_drop]
  have ha := isAB_take k.toNat hl
  have hb := isAB_drop k.toNat hl
  generalize l.take k.toNat = a at *
  generalize l.drop k.toNat = b at *
  refine ⟨a, rfl, ha, by omega, by omega, ?_⟩
  walk_at "dy"
  refine ⟨tabM a, 200, rfl, hsz a (by omega), by decide, by decide, by rw [detM_tab]; rfl, ?_⟩
  walk_at "dy"
  refine ⟨l, rfl, hl, by omega, ll, ?_⟩
  walk_at "dy"
  refine ⟨conM (tabM a), tabM l, 200, rfl, con_sz (detM_tab a) (hsz a (by omega)), hsz l ll, by decide, by decide, ?_⟩
  have e2 : mulM (conM (tabM a)) (tabM l) = tabM b := by
    rw [← e, tabM_app, ← mulM_assoc, con_mul (detM_tab a), unit_mul]
  rw [e2]
  walk_at "dy"
  refine ⟨b, rfl, hb, by omega, by omega, ?_⟩
  walk_at "dy"
  rw [x_eq_tb, decide_eq_true rfl]
  walk_at "dy"
  refine ⟨b, rfl, hb, by omega, by omega, ?_⟩
  walk_at "dy"
  simp only [decide_true]
  exact q

theorem pure_law_mirrored : ∀ ds S Q Ed, sp_law_mirrored ds S Q Ed → t_law_mirrored Ed { nx := fun _ S' => Q .non S', rt := Q } (startD N_law_mirrored ds) S := by
  rintro ds S Q Ed ⟨m, rfl, q⟩
  rw [st_law_mirrored]
  unfold t_law_mirrored tbD
  walk_at "dy"
  exact q

theorem len_law : ∀ ds S Q E, spLawD ds S Q E → ds.length = 1 := fun _ _ _ _ ⟨_, e, _⟩ => by rw [e]; rfl
theorem cutS_takeN {l : List Nat} (n : Nat) : cutS (ofL l) none (some (n : Int)) = ofL (l.take n) := by
  refine str_ext ?_
  show (((ofL l).cps.toList.drop (HT.sIx (ofL l).length 0 none)).take (HT.sIx (ofL l).length (ofL l).length (some (n : Int)) - HT.sIx (ofL l).length 0 none)) = _
  rw [ofL_len, HT.sIx_nat]
  show (l.drop 0).take (min n l.length - 0) = l.take n
  rw [List.drop_zero, Nat.sub_zero]
  by_cases h : n ≤ l.length
  · rw [Nat.min_eq_left h]
  · rw [Nat.min_eq_right (by omega), List.take_length, List.take_of_length_le (by omega)]
def repL (l : List Nat) (n : Nat) : List Nat := (List.replicate n l).flatten
theorem repL_len (l : List Nat) (n : Nat) : (repL l n).length = n * l.length := by
  unfold repL
  induction n with
  | zero => simp
  | succ n ih => rw [List.replicate_succ, List.flatten_cons, List.length_append, ih, Nat.succ_mul]; omega
theorem repL_succ (l : List Nat) (n : Nat) : repL l (n + 1) = repL l n ++ l := by
  unfold repL
  rw [List.replicate_succ', List.flatten_append]
  simp
theorem repL_ab {l : List Nat} (h : isAB l = true) : ∀ n, isAB (repL l n) = true
  | 0 => rfl
  | n + 1 => by rw [repL_succ]; exact isAB_app (repL_ab h n) h
theorem repS_of (l : List Nat) (n : Nat) : repS (ofL l) n = ofL (repL l n) := by
  refine str_ext ?_
  have k : ∀ (n : Nat) (acc : Array Nat), ((List.replicate n (ofL l).cps).foldl (· ++ ·) acc).toList = acc.toList ++ repL l n := fun n => by
    induction n with
    | zero => intro acc; simp [repL]
    | succ n ih =>
      intro acc
      rw [List.replicate_succ, List.foldl_cons, ih]
      unfold repL
      rw [List.replicate_succ, List.flatten_cons]
      simp [ofL]
  show ((List.replicate n (ofL l).cps).foldl (· ++ ·) #[]).toList = repL l n
  rw [k]
  rfl
theorem dec_ofL {a b : List Nat} : decide (ofL a = ofL b) = decide (a = b) := by rw [decide_eq_decide]; exact ofL_inj
theorem dec_tab {a b : List Nat} (ha : isAB a = true) (hb : isAB b = true) : decide (tabM a = tabM b) = decide (a = b) := by
  rw [decide_eq_decide]
  exact ⟨tab_inj ha hb, fun h => by rw [h]⟩
theorem pure_law : ∀ ds S Q Ed, spLawD ds S Q Ed → t_law Ed { nx := fun _ S' => Q .non S', rt := Q } (startD N_law ds) S := by
  rintro ds S Q Ed ⟨ns, rfl, hns, q⟩
  rw [st_law]
  unfold t_law
  refine seq_cut (fun σ _ => True) (fun N hN => ?_) (fun σ S' _ => by walk_at "dy"; exact q S')
  unfold dFor dRng1
  walk_at "dy"
  have hlen : (List.map D.int ns).length = ns.length := List.length_map _
  refine ⟨by rw [hlen]; constructor <;> (split <;> (try split) <;> omega), ?_⟩
  refine loop_rng (fun i σ S' => ∃ a b c d e f g h pl, σ = [some (.lst (ns.map D.int)), a, b, c, d, e, f, g, h, pl]) ⟨none, none, none, none, none, none, none, none, none, rfl⟩ ?_ (fun σ S' _ => hN σ S' trivial)
  rintro i σ S' N' hi ⟨a, b, c, d, e, f, g, h, pl, rfl⟩ k
  have hl4 : (0 : Int) + i < 4 := by
    rw [hlen] at hi
    split at hi <;> (try split at hi) <;> omega
  have hsz : ∀ r : List Nat, r.length ≤ 60 → SzM (tabM r) 200 := fun r hr => (szM_tab r).mono (by omega)
  show dSeq (dSet 2 _) _ _ [some (.lst (ns.map D.int)), some (.int (0 + i)), b, c, d, e, f, g, h, pl] S'
  refine seq_cut (t := dSet 2 _) (fun σ S2 => ∃ u, σ = [some (.lst (ns.map D.int)), some (.int (0 + i)), some (.obj u), c, d, e, f, g, h, pl] ∧ Urn S2 u 0) (fun N hN => ?_) ?_
  · walk_at "dy"
    refine ⟨ns, _, rfl, by omega, by omega, fun u S1 hu0 hU1 ho1 => ?_⟩
    exact hN _ _ ⟨u, rfl, hU1⟩
  rintro σ S1 ⟨u, rfl, hU1⟩
  refine seq_cut (t := dPar 3 4 _) (fun σ S2 => ∃ l1 l2, σ = [some (.lst (ns.map D.int)), some (.int (0 + i)), some (.obj u), some (.str (ofL l1)), some (.str (ofL l2)), e, f, g, h, pl] ∧ Urn S2 u 4000 ∧ isAB l1 = true ∧ isAB l2 = true ∧ 1 ≤ l1.length ∧ l1.length ≤ 30 ∧ 1 ≤ l2.length ∧ l2.length ≤ 30) (fun N hN => ?_) ?_
  · walk_at "dy"
    refine ⟨u, 0, 30, rfl, hU1, by decide, by decide, by decide, fun l1 S2 a1 b1 c1 hU2 ho2 => ?_⟩
    walk_at "dy"
    refine ⟨u, _, 30, rfl, hU2, by decide, by decide, by decide, fun l2 S3 a2 b2 c2 hU3 ho3 => ?_⟩
    exact hN _ _ ⟨l1, l2, rfl, hU3.mono (by decide), a1, a2, b1, c1, b2, c2⟩
  rintro σ S2 ⟨l1, l0, rfl, hU2, a1, a0, b1, c1, b0, c0⟩
  refine seq_cut (t := dIfS _ _ _) (fun σ S2 => ∃ l2, σ = [some (.lst (ns.map D.int)), some (.int (0 + i)), some (.obj u), some (.str (ofL l1)), some (.str (ofL l2)), e, f, g, h, pl] ∧ isAB l2 = true ∧ 1 ≤ l2.length ∧ l2.length ≤ 30) (fun N hN => ?_) ?_
  · walk_at "dy"
    refine ⟨u, 4, _, rfl, hU2, by decide, by decide, by decide, fun y S3 y0 y1 hU3 ho3 => ?_⟩
    walk_at "dy"
    split
    · rw [ofL_app, show (30 : Int) = ((30 : Nat) : Int) from rfl, cutS_takeN, ofL_len, ofL_len, ofL_len, List.length_append]
      refine ⟨by omega, by omega, hN _ _ ⟨_, rfl, isAB_take _ (isAB_app a1 a0), ?_, ?_⟩⟩
      · rw [List.length_take, List.length_append]; omega
      · rw [List.length_take]; omega
    · exact hN _ _ ⟨l0, rfl, a0, b0, c0⟩
  rintro σ S3 ⟨l2, rfl, a2, b2, c2⟩
  have a12 := isAB_app a1 a2
  have a21 := isAB_app a2 a1
  have n12 : (l1 ++ l2).length = l1.length + l2.length := List.length_append
  have n21 : (l2 ++ l1).length = l2.length + l1.length := List.length_append
  have T : ∀ {l : List Nat} {Q : DK} {S : Sd} {E : XKD}, isAB l = true → 1 ≤ l.length → l.length ≤ 60 → Q (tbD (tabM l)) S → sp_table_of [.str (ofL l)] S Q E := fun h1 h2 h3 q => ⟨_, rfl, h1, h2, h3, q⟩
  have Wd : ∀ {l : List Nat} {Q : DK} {S : Sd} {E : XKD}, isAB l = true → 1 ≤ l.length → l.length ≤ 60 → Q (.str (ofL l)) S → sp_word_of [tbD (tabM l)] S Q E := fun h1 h2 h3 q => ⟨_, rfl, h1, h2, h3, q⟩
  have J : ∀ {x y : List Nat} {Q : DK} {S : Sd} {E : XKD}, x.length ≤ 60 → y.length ≤ 60 → Q (tbD (tabM (x ++ y))) S → sp_joined [tbD (tabM x), tbD (tabM y)] S Q E := fun h1 h2 q => ⟨_, _, 200, rfl, hsz _ h1, hsz _ h2, by decide, by decide, by rw [← tabM_app]; exact q⟩
  (try walk_at "dy")
  refine T a1 b1 (by omega) ?_
  (try walk_at "dy")
  refine T a2 b2 (by omega) ?_
  (try walk_at "dy")
  refine J (by omega) (by omega) ?_
  (try walk_at "dy")
  try simp only [ofL_app, ofL_len]
  refine ⟨by omega, ?_⟩
  refine T a12 (by omega) (by omega) ?_
  (try walk_at "dy")
  rw [x_ne_tb, decide_eq_true rfl]
  (try walk_at "dy")
  refine Wd a12 (by omega) (by omega) ?_
  (try walk_at "dy")
  try simp only [ofL_app, ofL_len]
  refine ⟨by omega, ?_⟩
  rw [if_neg (by simp)]
  refine T a1 b1 (by omega) ?_
  (try walk_at "dy")
  refine T a2 b2 (by omega) ?_
  (try walk_at "dy")
  rw [x_eq_tb]
  (try walk_at "dy")
  rw [dec_tab a1 a2, dec_ofL]
  rw [if_neg (by simp)]
  refine T a2 b2 (by omega) ?_
  (try walk_at "dy")
  refine T a1 b1 (by omega) ?_
  (try walk_at "dy")
  refine J (by omega) (by omega) ?_
  (try walk_at "dy")
  rw [x_eq_tb]
  (try walk_at "dy")
  try simp only [ofL_app, ofL_len]
  refine ⟨by omega, by omega, ?_⟩
  rw [dec_tab a21 a12, dec_ofL]
  rw [if_neg (by simp)]
  have one60 : ∀ {x : Nat}, x ≤ 60 → x ≤ 16777216 := fun h => by omega
  refine ⟨by omega, ?_⟩
  refine comp_pure (fun _ => .bl true) (rgD 1 (l1.length + l2.length - 1)) S3 (fun R hR => ?_) (fun x hx S' Q' q' => ?_) (by rw [rgD_len]; omega) ?_
  · walk_at "dy"
    rw [ofL_len, n12]
    refine ⟨by omega, by omega, ?_⟩
    rw [show (((l1.length + l2.length : Nat) : Int) - 1).toNat = l1.length + l2.length - 1 by omega]
    exact hR
  · obtain ⟨j, hj, rfl⟩ := List.mem_map.mp hx
    have hj' := List.mem_range.mp hj
    exact (⟨l1 ++ l2, _, rfl, a12, by omega, by omega, by omega, q'⟩ : sp_law_is_parted [.str (ofL (l1 ++ l2)), .int (1 + (j : Int))] S' Q' (fun _ _ => False))
  have allt : ∀ n : Nat, ((rgD 1 n).map fun _ => D.bl true) = (List.replicate n true).map D.bl := fun n => by
    unfold rgD
    rw [List.map_map, List.map_replicate]
    refine List.eq_replicate_iff.mpr ⟨by simp, fun b hb => ?_⟩
    obtain ⟨_, _, rfl⟩ := List.mem_map.mp hb
    rfl
  refine x_allb (allt _) ?_
  rw [show (List.replicate (l1.length + l2.length - 1) true).all id = true by simp]
  (try walk_at "dy")
  rw [revS_of, n12]
  have hrl : (l1 ++ l2).reverse.length = l1.length + l2.length := by rw [List.length_reverse, n12]
  have har : isAB (l1 ++ l2).reverse = true := isAB_iff.mpr fun c hc => isAB_iff.mp a12 c (List.mem_reverse.mp hc)
  have hrev : tmM (tabM (l1 ++ l2)) = tabM (l1 ++ l2).reverse := (tabM_rev _).symm
  refine ⟨by omega, ?_⟩
  refine T har (by omega) (by omega) ?_
  refine ⟨_, rfl, ?_⟩
  rw [hrev]
  (try walk_at "dy")
  rw [x_ne_tb, decide_eq_true rfl]
  (try walk_at "dy")
  refine ⟨_, rfl, ?_⟩
  rw [hrev]
  refine Wd har (by omega) (by omega) ?_
  (try walk_at "dy")
  refine ⟨by omega, ?_⟩
  try rw [if_neg (by simp)]
  have lg : (l1.length : Int).natAbs.log2 < 9000 := Nat.lt_of_lt_of_le (log2_lt (n := 10) (by show l1.length < 1024; omega) (by decide)) (by decide)
  have ediv : Int.fdiv 60 (l1.length : Int) = ((60 / l1.length : Nat) : Int) := by rw [Int.fdiv_eq_ediv_of_nonneg _ (by omega)]; rfl
  have hdv : 60 / l1.length ≤ 60 := Nat.div_le_self _ _
  have hdm : 60 / l1.length * l1.length ≤ 60 := Nat.div_mul_le_self _ _
  rw [ediv]
  clear ediv
  generalize 60 / l1.length = dv at *
  refine ⟨by omega, ⟨by omega, lg⟩, ⟨by omega, by omega⟩, ?_⟩
  rw [Int.toNat_natCast]
  refine loop_rng (fun j σ S' => ∃ h' , σ = [some (.lst (ns.map D.int)), some (.int (0 + i)), some (.obj u), some (.str (ofL l1)), some (.str (ofL l2)), some (tbD (tabM (l1 ++ l2))), some (.str (ofL (l1 ++ l2))), some (tbD (tabM (repL l1 j))), h', pl]) ⟨_, rfl⟩ ?_ ?_
  · rintro j σ S5 N5 hj ⟨h', rfl⟩ k5
    have hjl : (j + 1) * l1.length ≤ 60 := Nat.le_trans (Nat.mul_le_mul_right _ hj) hdm
    have hsm : (j + 1) * l1.length = j * l1.length + l1.length := Nat.succ_mul j l1.length
    have rl := repL_len l1 (j + 1)
    have rl0 := repL_len l1 j
    have ra := repL_ab a1 (j + 1)
    have e7 : ((0 : Int) + j + 1) = ((j + 1 : Nat) : Int) := by omega
    (try walk_at "dy")
    refine T a1 b1 (by omega) ?_
    (try walk_at "dy")
    refine J (by omega) (by omega) ?_
    rw [← repL_succ]
    (try walk_at "dy")
    rw [e7, Int.toNat_natCast, repS_of, ofL_len]
    have hml : ((l1.length : Int) * ((j + 1 : Nat) : Int)) ≤ 60 := by
      have := Int.ofNat_le.mpr hjl
      rw [Int.mul_comm]
      simpa using this
    refine ⟨⟨by omega, by omega, by omega⟩, ?_⟩
    refine T ra (by omega) (by omega) ?_
    (try walk_at "dy")
    rw [x_ne_tb, decide_eq_true rfl]
    (try walk_at "dy")
    refine Wd ra (by omega) (by omega) ?_
    (try walk_at "dy")
    refine ⟨⟨by omega, by omega, by omega⟩, ?_⟩
    try rw [if_neg (by simp)]
    exact k5 _ _ ⟨_, rfl⟩
  · rintro σ S5 ⟨h', rfl⟩
    exact k _ _ ⟨_, _, _, _, _, _, _, _, _, rfl⟩


/-! the text by places, derivations, printed by gen.py -/
def top (i : Nat) : Stmt := PySem.Challenge.pw_nearthrees_k25_whole_words_put_together.main.body.getD i (.Pass ⟨0, 0, 0, 0⟩)
abbrev s_is_whole : Stmt := top 4
theorem sc_is_whole : FnScope N_is_whole ["thing"] (defScope s_is_whole) := ⟨rfl, rfl, rfl, by decide +kernel, rfl, by decide +kernel, by decide +kernel⟩
abbrev s_are_wholes : Stmt := top 5
theorem sc_are_wholes : FnScope N_are_wholes ["things"] (defScope s_are_wholes) := ⟨rfl, rfl, rfl, by decide +kernel, rfl, by decide +kernel, by decide +kernel⟩
abbrev s_is_word : Stmt := top 9
theorem sc_is_word : FnScope N_is_word ["thing"] (defScope s_is_word) := ⟨rfl, rfl, rfl, by decide +kernel, rfl, by decide +kernel, by decide +kernel⟩
abbrev s_look_word : Stmt := top 10
theorem sc_look_word : FnScope N_look_word ["thing"] (defScope s_look_word) := ⟨rfl, rfl, rfl, by decide +kernel, rfl, by decide +kernel, by decide +kernel⟩
abbrev s_is_pair_of : Stmt := top 14
theorem sc_is_pair_of : FnScope N_is_pair_of ["thing"] (defScope s_is_pair_of) := ⟨rfl, rfl, rfl, by decide +kernel, rfl, by decide +kernel, by decide +kernel⟩
abbrev s_is_table : Stmt := top 15
theorem sc_is_table : FnScope N_is_table ["thing"] (defScope s_is_table) := ⟨rfl, rfl, rfl, by decide +kernel, rfl, by decide +kernel, by decide +kernel⟩
abbrev s_size_of : Stmt := top 16
theorem sc_size_of : FnScope N_size_of ["table"] (defScope s_size_of) := ⟨rfl, rfl, rfl, by decide +kernel, rfl, by decide +kernel, by decide +kernel⟩
abbrev s_is_turning : Stmt := top 17
theorem sc_is_turning : FnScope N_is_turning ["thing"] (defScope s_is_turning) := ⟨rfl, rfl, rfl, by decide +kernel, rfl, by decide +kernel, by decide +kernel⟩
abbrev s_look_turning : Stmt := top 18
theorem sc_look_turning : FnScope N_look_turning ["thing"] (defScope s_look_turning) := ⟨rfl, rfl, rfl, by decide +kernel, rfl, by decide +kernel, by decide +kernel⟩
abbrev s_joined : Stmt := top 19
theorem sc_joined : FnScope N_joined ["one", "other"] (defScope s_joined) := ⟨rfl, rfl, rfl, by decide +kernel, rfl, by decide +kernel, by decide +kernel⟩
abbrev s_contrary_by : Stmt := top 20
theorem sc_contrary_by : FnScope N_contrary_by ["table"] (defScope s_contrary_by) := ⟨rfl, rfl, rfl, by decide +kernel, rfl, by decide +kernel, by decide +kernel⟩
abbrev s_contrary : Stmt := top 21
theorem sc_contrary : FnScope N_contrary ["table"] (defScope s_contrary) := ⟨rfl, rfl, rfl, by decide +kernel, rfl, by decide +kernel, by decide +kernel⟩
abbrev s_table_by : Stmt := top 22
theorem sc_table_by : FnScope N_table_by ["word"] (defScope s_table_by) := ⟨rfl, rfl, rfl, by decide +kernel, rfl, by decide +kernel, by decide +kernel⟩
abbrev s_table_of : Stmt := top 23
theorem sc_table_of : FnScope N_table_of ["word"] (defScope s_table_of) := ⟨rfl, rfl, rfl, by decide +kernel, rfl, by decide +kernel, by decide +kernel⟩
abbrev s_first_letter : Stmt := top 24
theorem sc_first_letter : FnScope N_first_letter ["table"] (defScope s_first_letter) := ⟨rfl, rfl, rfl, by decide +kernel, rfl, by decide +kernel, by decide +kernel⟩
abbrev s_word_of : Stmt := top 25
theorem sc_word_of : FnScope N_word_of ["table"] (defScope s_word_of) := ⟨rfl, rfl, rfl, by decide +kernel, rfl, by decide +kernel, by decide +kernel⟩
abbrev s_law_urn : Stmt := top 27
theorem sc_law_urn : FnScope N_law_urn ["_law_script", "_law_at"] (defScope s_law_urn) := ⟨rfl, rfl, rfl, by decide +kernel, rfl, by decide +kernel, by decide +kernel⟩
abbrev s_law_draw : Stmt := top 28
theorem sc_law_draw : FnScope N_law_draw ["_law_urn_here", "_law_wide"] (defScope s_law_draw) := ⟨rfl, rfl, rfl, by decide +kernel, rfl, by decide +kernel, by decide +kernel⟩
abbrev s_law_even_word : Stmt := top 29
theorem sc_law_even_word : FnScope N_law_even_word ["_law_bs", "_law_others"] (defScope s_law_even_word) := ⟨rfl, rfl, rfl, by decide +kernel, rfl, by decide +kernel, by decide +kernel⟩
abbrev s_law_word : Stmt := top 30
theorem sc_law_word : FnScope N_law_word ["_law_urn_here", "_law_most"] (defScope s_law_word) := ⟨rfl, rfl, rfl, by decide +kernel, rfl, by decide +kernel, by decide +kernel⟩
abbrev s_law_is_parted : Stmt := top 31
theorem sc_law_is_parted : FnScope N_law_is_parted ["_law_word_here", "_law_at"] (defScope s_law_is_parted) := ⟨rfl, rfl, rfl, by decide +kernel, rfl, by decide +kernel, by decide +kernel⟩
abbrev s_law_mirrored : Stmt := top 32
theorem sc_law_mirrored : FnScope N_law_mirrored ["_law_table"] (defScope s_law_mirrored) := ⟨rfl, rfl, rfl, by decide +kernel, rfl, by decide +kernel, by decide +kernel⟩
abbrev s_law : Stmt := top 33
theorem sc_law : FnScope N_law ["_law_script"] (defScope s_law) := ⟨rfl, rfl, rfl, by decide +kernel, rfl, by decide +kernel, by decide +kernel⟩
structure Txt (w : World) (K : PySem.W.Frag) (mg : Str → Option Value) where
  f_is_whole : Addr
  fd_is_whole : FuncData
  f_are_wholes : Addr
  fd_are_wholes : FuncData
  f_is_word : Addr
  fd_is_word : FuncData
  f_look_word : Addr
  fd_look_word : FuncData
  f_is_pair_of : Addr
  fd_is_pair_of : FuncData
  f_is_table : Addr
  fd_is_table : FuncData
  f_size_of : Addr
  fd_size_of : FuncData
  f_is_turning : Addr
  fd_is_turning : FuncData
  f_look_turning : Addr
  fd_look_turning : FuncData
  f_joined : Addr
  fd_joined : FuncData
  f_contrary_by : Addr
  fd_contrary_by : FuncData
  f_contrary : Addr
  fd_contrary : FuncData
  f_table_by : Addr
  fd_table_by : FuncData
  f_table_of : Addr
  fd_table_of : FuncData
  f_first_letter : Addr
  fd_first_letter : FuncData
  f_word_of : Addr
  fd_word_of : FuncData
  f_law_urn : Addr
  fd_law_urn : FuncData
  f_law_draw : Addr
  fd_law_draw : FuncData
  f_law_even_word : Addr
  fd_law_even_word : FuncData
  f_law_word : Addr
  fd_law_word : FuncData
  f_law_is_parted : Addr
  fd_law_is_parted : FuncData
  f_law_mirrored : Addr
  fd_law_mirrored : FuncData
  f_law : Addr
  fd_law : FuncData
  F_is_whole : Fun K "is_whole" "is_whole" s_is_whole f_is_whole fd_is_whole
  m_is_whole : mg "is_whole" = some (.ref f_is_whole)
  b_is_whole : Binds K fd_is_whole ["thing"] []
  F_are_wholes : Fun K "are_wholes" "are_wholes" s_are_wholes f_are_wholes fd_are_wholes
  m_are_wholes : mg "are_wholes" = some (.ref f_are_wholes)
  b_are_wholes : Binds K fd_are_wholes ["things"] []
  F_is_word : Fun K "is_word" "is_word" s_is_word f_is_word fd_is_word
  m_is_word : mg "is_word" = some (.ref f_is_word)
  b_is_word : Binds K fd_is_word ["thing"] []
  F_look_word : Fun K "look_word" "look_word" s_look_word f_look_word fd_look_word
  m_look_word : mg "look_word" = some (.ref f_look_word)
  b_look_word : Binds K fd_look_word ["thing"] []
  F_is_pair_of : Fun K "is_pair_of" "is_pair_of" s_is_pair_of f_is_pair_of fd_is_pair_of
  m_is_pair_of : mg "is_pair_of" = some (.ref f_is_pair_of)
  b_is_pair_of : Binds K fd_is_pair_of ["thing"] []
  F_is_table : Fun K "is_table" "is_table" s_is_table f_is_table fd_is_table
  m_is_table : mg "is_table" = some (.ref f_is_table)
  b_is_table : Binds K fd_is_table ["thing"] []
  F_size_of : Fun K "size_of" "size_of" s_size_of f_size_of fd_size_of
  m_size_of : mg "size_of" = some (.ref f_size_of)
  b_size_of : Binds K fd_size_of ["table"] []
  F_is_turning : Fun K "is_turning" "is_turning" s_is_turning f_is_turning fd_is_turning
  m_is_turning : mg "is_turning" = some (.ref f_is_turning)
  b_is_turning : Binds K fd_is_turning ["thing"] []
  F_look_turning : Fun K "look_turning" "look_turning" s_look_turning f_look_turning fd_look_turning
  m_look_turning : mg "look_turning" = some (.ref f_look_turning)
  b_look_turning : Binds K fd_look_turning ["thing"] []
  F_joined : Fun K "joined" "joined" s_joined f_joined fd_joined
  m_joined : mg "joined" = some (.ref f_joined)
  b_joined : Binds K fd_joined ["one", "other"] []
  F_contrary_by : Fun K "contrary_by" "contrary_by" s_contrary_by f_contrary_by fd_contrary_by
  m_contrary_by : mg "contrary_by" = some (.ref f_contrary_by)
  b_contrary_by : Binds K fd_contrary_by ["table"] []
  F_contrary : Fun K "contrary" "contrary" s_contrary f_contrary fd_contrary
  m_contrary : mg "contrary" = some (.ref f_contrary)
  b_contrary : Binds K fd_contrary ["table"] []
  F_table_by : Fun K "table_by" "table_by" s_table_by f_table_by fd_table_by
  m_table_by : mg "table_by" = some (.ref f_table_by)
  b_table_by : Binds K fd_table_by ["word"] []
  F_table_of : Fun K "table_of" "table_of" s_table_of f_table_of fd_table_of
  m_table_of : mg "table_of" = some (.ref f_table_of)
  b_table_of : Binds K fd_table_of ["word"] []
  F_first_letter : Fun K "first_letter" "first_letter" s_first_letter f_first_letter fd_first_letter
  m_first_letter : mg "first_letter" = some (.ref f_first_letter)
  b_first_letter : Binds K fd_first_letter ["table"] []
  F_word_of : Fun K "word_of" "word_of" s_word_of f_word_of fd_word_of
  m_word_of : mg "word_of" = some (.ref f_word_of)
  b_word_of : Binds K fd_word_of ["table"] []
  F_law_urn : Fun K "_law_urn" "_law_urn" s_law_urn f_law_urn fd_law_urn
  m_law_urn : mg "_law_urn" = some (.ref f_law_urn)
  b_law_urn : Binds K fd_law_urn ["_law_script", "_law_at"] []
  F_law_draw : Fun K "_law_draw" "_law_draw" s_law_draw f_law_draw fd_law_draw
  m_law_draw : mg "_law_draw" = some (.ref f_law_draw)
  b_law_draw : Binds K fd_law_draw ["_law_urn_here", "_law_wide"] []
  F_law_even_word : Fun K "_law_even_word" "_law_even_word" s_law_even_word f_law_even_word fd_law_even_word
  m_law_even_word : mg "_law_even_word" = some (.ref f_law_even_word)
  b_law_even_word : Binds K fd_law_even_word ["_law_bs", "_law_others"] []
  F_law_word : Fun K "_law_word" "_law_word" s_law_word f_law_word fd_law_word
  m_law_word : mg "_law_word" = some (.ref f_law_word)
  b_law_word : Binds K fd_law_word ["_law_urn_here", "_law_most"] []
  F_law_is_parted : Fun K "_law_is_parted" "_law_is_parted" s_law_is_parted f_law_is_parted fd_law_is_parted
  m_law_is_parted : mg "_law_is_parted" = some (.ref f_law_is_parted)
  b_law_is_parted : Binds K fd_law_is_parted ["_law_word_here", "_law_at"] []
  F_law_mirrored : Fun K "_law_mirrored" "_law_mirrored" s_law_mirrored f_law_mirrored fd_law_mirrored
  m_law_mirrored : mg "_law_mirrored" = some (.ref f_law_mirrored)
  b_law_mirrored : Binds K fd_law_mirrored ["_law_table"] []
  F_law : Fun K "law" "law" s_law f_law fd_law
  m_law : mg "law" = some (.ref f_law)
  b_law : Binds K fd_law ["_law_script"] []
  v_LETTERS : V
  u_LETTERS : Value
  m_LETTERS : mg "LETTERS" = some u_LETTERS
  r_LETTERS : RelV v_LETTERS u_LETTERS
  k_LETTERS : ∀ H S, Rp K H S (k_LETTERS) v_LETTERS
  a_LETTER_TABLES : Addr
  m_LETTER_TABLES : mg "LETTER_TABLES" = some (.ref a_LETTER_TABLES)
  k_LETTER_TABLES : ∀ z d, k_LETTER_TABLES z = some d → ∃ v, KDct K w a_LETTER_TABLES z v ∧ ∀ H S, Rp K H S d v
  v_MOST_LETTERS : V
  u_MOST_LETTERS : Value
  m_MOST_LETTERS : mg "MOST_LETTERS" = some u_MOST_LETTERS
  r_MOST_LETTERS : RelV v_MOST_LETTERS u_MOST_LETTERS
  k_MOST_LETTERS : ∀ H S, Rp K H S (k_MOST_LETTERS) v_MOST_LETTERS
  v_UNIT : V
  u_UNIT : Value
  m_UNIT : mg "UNIT" = some u_UNIT
  r_UNIT : RelV v_UNIT u_UNIT
  k_UNIT : ∀ H S, Rp K H S (k_UNIT) v_UNIT
  n_abs : mg "abs" = none
  n_all : mg "all" = none
  n_bool : mg "bool" = none
  n_int : mg "int" = none
  n_isinstance : mg "isinstance" = none
  n_len : mg "len" = none
  n_max : mg "max" = none
  n_min : mg "min" = none
  n_range : mg "range" = none
  n_str : mg "str" = none
  n_tuple : mg "tuple" = none
section
variable {P : Program} {w : World} {K : PySem.W.Frag} {mg : Str → Option Value} {base : Heap}
theorem ok_is_whole (T : Txt w K mg) : FnOk P w K mg base (L2.CX P w) 1 T.f_is_whole T.fd_is_whole ["thing"] (upF K sp_is_whole) := by
  refine okD (k := 0) (t := fun Ed => t_is_whole Ed) T.F_is_whole sc_is_whole len_is_whole (fun cdv A outer s H E Ed hr => ?_) pure_is_whole
  exact (db_one (ds_ret (de_and (de_callB cd_isi (by rfl) T.n_isinstance (by decide +kernel) (da_cons (dv 0) (da_cons (de_ty (by rfl) T.n_int (by decide +kernel)) da_nil))) (de_one (de_not (de_callB cd_isi (by rfl) T.n_isinstance (by decide +kernel) (da_cons (dv 0) (da_cons (de_ty (by rfl) T.n_bool (by decide +kernel)) da_nil))))))))
theorem ok_are_wholes (T : Txt w K mg) : FnOk P w K mg base (L2.CX P w) 2 T.f_are_wholes T.fd_are_wholes ["things"] (upF K sp_are_wholes) := by
  refine okD (k := 1) (t := fun Ed => t_are_wholes Ed) T.F_are_wholes sc_are_wholes len_are_wholes (fun cdv A outer s H E Ed hr => ?_) pure_are_wholes
  exact (db_one (ds_ret (de_callB (cd_all rfl) (by rfl) T.n_all (by decide +kernel) (da_cons (de_lc (own := [("thing", 1)]) rfl sc_are_wholes.nd (di_any (dv 0)) (blkOk_by (own := [("thing", 1)]) (N := N_are_wholes) (sc := defScope s_are_wholes) (by decide +kernel)) (fun _ _ _ _ _ => (dg_name (i := 1) sc_are_wholes.nd rfl (by first | exact Or.inl rfl | exact Or.inr rfl) (by decide))) (fun _ _ _ _ _ => dts_nil) (fun _ _ _ _ _ => (de_call (ok_is_whole T) (hr.mono (by decide)) (by rfl) T.m_is_whole T.F_is_whole.kp T.b_is_whole .nil (fun _ _ => rfl) L2.takes0 (da_cons (dv 1) da_nil)))) da_nil))))
theorem ok_is_word (T : Txt w K mg) : FnOk P w K mg base (L2.CX P w) 1 T.f_is_word T.fd_is_word ["thing"] (upF K sp_is_word) := by
  refine okD (k := 0) (t := fun Ed => t_is_word Ed) T.F_is_word sc_is_word len_is_word (fun cdv A outer s H E Ed hr => ?_) pure_is_word
  exact (db_cons (ds_if (DW.pt (dw_or (dt_not (dt_val (de_callB cd_isi (by rfl) T.n_isinstance (by decide +kernel) (da_cons (dv 0) (da_cons (de_ty (by rfl) T.n_str (by decide +kernel)) da_nil))))) (dw_or1 (dt_not (dt_chain od_le od_le de_int (de_callB cd_len (by rfl) T.n_len (by decide +kernel) (da_cons (dv 0) da_nil)) (de_k (by rfl) T.m_MOST_LETTERS T.r_MOST_LETTERS T.k_MOST_LETTERS)))))) (db_one (ds_ret de_bl)) db_nil)
  (db_one (ds_ret (de_callB (cd_all rfl) (by rfl) T.n_all (by decide +kernel) (da_cons (de_lc (own := [("letter", 1)]) rfl sc_is_word.nd (di_any (dv 0)) (blkOk_by (own := [("letter", 1)]) (N := N_is_word) (sc := defScope s_is_word) (by decide +kernel)) (fun _ _ _ _ _ => (dg_name (i := 1) sc_is_word.nd rfl (by first | exact Or.inl rfl | exact Or.inr rfl) (by decide))) (fun _ _ _ _ _ => dts_nil) (fun _ _ _ _ _ => (de_cmp od_inS (dv 1) (de_k (by rfl) T.m_LETTERS T.r_LETTERS T.k_LETTERS) (by with_unfolding_all rfl)))) da_nil)))))
theorem ok_look_word (T : Txt w K mg) : FnOk P w K mg base (L2.CX P w) 2 T.f_look_word T.fd_look_word ["thing"] (upF K sp_look_word) := by
  refine okD (k := 1) (t := fun Ed => t_look_word Ed) T.F_look_word sc_look_word len_look_word (fun cdv A outer s H E Ed hr => ?_) pure_look_word
  exact (db_one (ds_if (dt_not (dt_val (de_call (ok_is_word T) (hr.mono (by decide)) (by rfl) T.m_is_word T.F_is_word.kp T.b_is_word .nil (fun _ _ => rfl) takesB (da_cons (dv 0) da_nil)))) (db_one ds_never) db_nil))
theorem ok_is_pair_of (T : Txt w K mg) : FnOk P w K mg base (L2.CX P w) 1 T.f_is_pair_of T.fd_is_pair_of ["thing"] (upF K sp_is_pair_of) := by
  refine okD (k := 0) (t := fun Ed => t_is_pair_of Ed) T.F_is_pair_of sc_is_pair_of len_is_pair_of (fun cdv A outer s H E Ed hr => ?_) pure_is_pair_of
  exact (db_one (ds_ret (de_and (de_callB cd_isi (by rfl) T.n_isinstance (by decide +kernel) (da_cons (dv 0) (da_cons (de_ty (by rfl) T.n_tuple (by decide +kernel)) da_nil))) (de_one (de_cmp (od_eq hr.units) (de_callB cd_len (by rfl) T.n_len (by decide +kernel) (da_cons (dv 0) da_nil)) de_int (nomark _))))))
theorem ok_is_table (T : Txt w K mg) : FnOk P w K mg base (L2.CX P w) 3 T.f_is_table T.fd_is_table ["thing"] (upF K sp_is_table) := by
  refine okD (k := 2) (t := fun Ed => t_is_table Ed) T.F_is_table sc_is_table len_is_table (fun cdv A outer s H E Ed hr => ?_) pure_is_table
  exact (db_one (ds_ret (de_and (de_call (ok_is_pair_of T) (hr.mono (by decide)) (by rfl) T.m_is_pair_of T.F_is_pair_of.kp T.b_is_pair_of .nil (fun _ _ => rfl) takesB (da_cons (dv 0) da_nil)) (de_one (de_callB (cd_all rfl) (by rfl) T.n_all (by decide +kernel) (da_cons (de_lc (own := [("row", 1)]) rfl sc_is_table.nd (di_any (dv 0)) (blkOk_by (own := [("row", 1)]) (N := N_is_table) (sc := defScope s_is_table) (by decide +kernel)) (fun _ _ _ _ _ => (dg_name (i := 1) sc_is_table.nd rfl (by first | exact Or.inl rfl | exact Or.inr rfl) (by decide))) (fun _ _ _ _ _ => dts_nil) (fun _ _ _ _ _ => (de_and (de_call (ok_is_pair_of T) (hr.mono (by decide)) (by rfl) T.m_is_pair_of T.F_is_pair_of.kp T.b_is_pair_of .nil (fun _ _ => rfl) L2.takes0 (da_cons (dv 1) da_nil)) (de_one (de_call (ok_are_wholes T) (hr.mono (by decide)) (by rfl) T.m_are_wholes T.F_are_wholes.kp T.b_are_wholes .nil (fun _ _ => rfl) L2.takes0 (da_cons (dv 1) da_nil)))))) da_nil))))))
theorem ok_size_of (T : Txt w K mg) : FnOk P w K mg base (L2.CX P w) 1 T.f_size_of T.fd_size_of ["table"] (upF K sp_size_of) := by
  refine okD (k := 0) (t := fun Ed => t_size_of Ed) T.F_size_of sc_size_of len_size_of (fun cdv A outer s H E Ed hr => ?_) pure_size_of
  exact (db_cons (ds_asg (vs := [1, 2, 3, 4]) (dv 0) (dg_tup rfl (dgs_cons (dg_tup rfl (dgs_cons (dg_name (i := 1) sc_size_of.nd rfl (by first | exact Or.inl rfl | exact Or.inr rfl) (by decide)) (dgs_cons (dg_name (i := 2) sc_size_of.nd rfl (by first | exact Or.inl rfl | exact Or.inr rfl) (by decide)) dgs_nil))) (dgs_cons (dg_tup rfl (dgs_cons (dg_name (i := 3) sc_size_of.nd rfl (by first | exact Or.inl rfl | exact Or.inr rfl) (by decide)) (dgs_cons (dg_name (i := 4) sc_size_of.nd rfl (by first | exact Or.inl rfl | exact Or.inr rfl) (by decide)) dgs_nil))) dgs_nil))))
  (db_one (ds_ret (de_op od_sub (de_op od_mul (dv 1) (dv 4)) (de_op od_mul (dv 2) (dv 3))))))
theorem ok_is_turning (T : Txt w K mg) : FnOk P w K mg base (L2.CX P w) 4 T.f_is_turning T.fd_is_turning ["thing"] (upF K sp_is_turning) := by
  refine okD (k := 3) (t := fun Ed => t_is_turning Ed) T.F_is_turning sc_is_turning len_is_turning (fun cdv A outer s H E Ed hr => ?_) pure_is_turning
  exact (db_one (ds_ret (de_and (de_call (ok_is_table T) (hr.mono (by decide)) (by rfl) T.m_is_table T.F_is_table.kp T.b_is_table .nil (fun _ _ => rfl) takesB (da_cons (dv 0) da_nil)) (de_one (de_cmp (od_eq hr.units) (de_callB cd_abs (by rfl) T.n_abs (by decide +kernel) (da_cons (de_call (ok_size_of T) (hr.mono (by decide)) (by rfl) T.m_size_of T.F_size_of.kp T.b_size_of .nil (fun _ _ => rfl) takesB (da_cons (dv 0) da_nil)) da_nil)) de_int (nomark _))))))
theorem ok_look_turning (T : Txt w K mg) : FnOk P w K mg base (L2.CX P w) 5 T.f_look_turning T.fd_look_turning ["thing"] (upF K sp_look_turning) := by
  refine okD (k := 4) (t := fun Ed => t_look_turning Ed) T.F_look_turning sc_look_turning len_look_turning (fun cdv A outer s H E Ed hr => ?_) pure_look_turning
  exact (db_one (ds_if (dt_not (dt_val (de_call (ok_is_turning T) (hr.mono (by decide)) (by rfl) T.m_is_turning T.F_is_turning.kp T.b_is_turning .nil (fun _ _ => rfl) takesB (da_cons (dv 0) da_nil)))) (db_one ds_never) db_nil))
theorem ok_joined (T : Txt w K mg) : FnOk P w K mg base (L2.CX P w) 1 T.f_joined T.fd_joined ["one", "other"] (upF K sp_joined) := by
  refine okD (k := 0) (t := fun Ed => t_joined Ed) T.F_joined sc_joined len_joined (fun cdv A outer s H E Ed hr => ?_) pure_joined
  exact (db_cons (ds_asg (vs := [2, 3, 4, 5]) (dv 0) (dg_tup rfl (dgs_cons (dg_tup rfl (dgs_cons (dg_name (i := 2) sc_joined.nd rfl (by first | exact Or.inl rfl | exact Or.inr rfl) (by decide)) (dgs_cons (dg_name (i := 3) sc_joined.nd rfl (by first | exact Or.inl rfl | exact Or.inr rfl) (by decide)) dgs_nil))) (dgs_cons (dg_tup rfl (dgs_cons (dg_name (i := 4) sc_joined.nd rfl (by first | exact Or.inl rfl | exact Or.inr rfl) (by decide)) (dgs_cons (dg_name (i := 5) sc_joined.nd rfl (by first | exact Or.inl rfl | exact Or.inr rfl) (by decide)) dgs_nil))) dgs_nil))))
  (db_cons (ds_asg (vs := [6, 7, 8, 9]) (dv 1) (dg_tup rfl (dgs_cons (dg_tup rfl (dgs_cons (dg_name (i := 6) sc_joined.nd rfl (by first | exact Or.inl rfl | exact Or.inr rfl) (by decide)) (dgs_cons (dg_name (i := 7) sc_joined.nd rfl (by first | exact Or.inl rfl | exact Or.inr rfl) (by decide)) dgs_nil))) (dgs_cons (dg_tup rfl (dgs_cons (dg_name (i := 8) sc_joined.nd rfl (by first | exact Or.inl rfl | exact Or.inr rfl) (by decide)) (dgs_cons (dg_name (i := 9) sc_joined.nd rfl (by first | exact Or.inl rfl | exact Or.inr rfl) (by decide)) dgs_nil))) dgs_nil))))
  (db_one (ds_ret (de_tup (da_cons (de_tup (da_cons (de_op od_add (de_op od_mul (dv 2) (dv 6)) (de_op od_mul (dv 3) (dv 8))) (da_cons (de_op od_add (de_op od_mul (dv 2) (dv 7)) (de_op od_mul (dv 3) (dv 9))) da_nil))) (da_cons (de_tup (da_cons (de_op od_add (de_op od_mul (dv 4) (dv 6)) (de_op od_mul (dv 5) (dv 8))) (da_cons (de_op od_add (de_op od_mul (dv 4) (dv 7)) (de_op od_mul (dv 5) (dv 9))) da_nil))) da_nil)))))))
theorem ok_contrary_by (T : Txt w K mg) : FnOk P w K mg base (L2.CX P w) 2 T.f_contrary_by T.fd_contrary_by ["table"] (upF K sp_contrary_by) := by
  refine okD (k := 1) (t := fun Ed => t_contrary_by Ed) T.F_contrary_by sc_contrary_by len_contrary_by (fun cdv A outer s H E Ed hr => ?_) pure_contrary_by
  exact (db_cons (ds_asg (vs := [1, 2, 3, 4]) (dv 0) (dg_tup rfl (dgs_cons (dg_tup rfl (dgs_cons (dg_name (i := 1) sc_contrary_by.nd rfl (by first | exact Or.inl rfl | exact Or.inr rfl) (by decide)) (dgs_cons (dg_name (i := 2) sc_contrary_by.nd rfl (by first | exact Or.inl rfl | exact Or.inr rfl) (by decide)) dgs_nil))) (dgs_cons (dg_tup rfl (dgs_cons (dg_name (i := 3) sc_contrary_by.nd rfl (by first | exact Or.inl rfl | exact Or.inr rfl) (by decide)) (dgs_cons (dg_name (i := 4) sc_contrary_by.nd rfl (by first | exact Or.inl rfl | exact Or.inr rfl) (by decide)) dgs_nil))) dgs_nil))))
  (db_cons (ds_set 5 sc_contrary_by.nd rfl (by first | exact .inl rfl | exact .inr rfl) (de_call (ok_size_of T) (hr.mono (by decide)) (by rfl) T.m_size_of T.F_size_of.kp T.b_size_of .nil (fun _ _ => rfl) takesB (da_cons (dv 0) da_nil)))
  (db_one (ds_ret (de_tup (da_cons (de_tup (da_cons (de_op od_mul (dv 4) (dv 5)) (da_cons (de_op od_sub de_int (de_op od_mul (dv 2) (dv 5))) da_nil))) (da_cons (de_tup (da_cons (de_op od_sub de_int (de_op od_mul (dv 3) (dv 5))) (da_cons (de_op od_mul (dv 1) (dv 5)) da_nil))) da_nil)))))))
theorem ok_contrary (T : Txt w K mg) : FnOk P w K mg base (L2.CX P w) 6 T.f_contrary T.fd_contrary ["table"] (upF K sp_contrary) := by
  refine okD (k := 5) (t := fun Ed => t_contrary Ed) T.F_contrary sc_contrary len_contrary (fun cdv A outer s H E Ed hr => ?_) pure_contrary
  exact (db_cons (ds_expr (de_call (ok_look_turning T) (hr.mono (by decide)) (by rfl) T.m_look_turning T.F_look_turning.kp T.b_look_turning .nil (fun _ _ => rfl) takesB (da_cons (dv 0) da_nil)))
  (db_one (ds_ret (de_call (ok_contrary_by T) (hr.mono (by decide)) (by rfl) T.m_contrary_by T.F_contrary_by.kp T.b_contrary_by .nil (fun _ _ => rfl) takesB (da_cons (dv 0) da_nil)))))
theorem ok_table_by (T : Txt w K mg) : FnOk P w K mg base (L2.CX P w) 2 T.f_table_by T.fd_table_by ["word"] (upF K sp_table_by) := by
  refine okD (k := 1) (t := fun Ed => t_table_by Ed) T.F_table_by sc_table_by len_table_by (fun cdv A outer s H E Ed hr => ?_) pure_table_by
  exact (db_cons (ds_set 1 sc_table_by.nd rfl (by first | exact .inl rfl | exact .inr rfl) (de_k (by rfl) T.m_UNIT T.r_UNIT T.k_UNIT))
  (db_cons (ds_for (vs := [2]) passB rfl (di_any (dv 0)) (dg_name (i := 2) sc_table_by.nd rfl (by first | exact Or.inl rfl | exact Or.inr rfl) (by decide))
  (db_one (ds_set 1 sc_table_by.nd rfl (by first | exact .inl rfl | exact .inr rfl) (de_call (ok_joined T) (hr.mono (by decide)) (by rfl) T.m_joined T.F_joined.kp T.b_joined .nil (fun _ _ => rfl) takesB (da_cons (dv 1) (da_cons (de_kix (by rfl) T.m_LETTER_TABLES T.k_LETTER_TABLES (dv 2) (fun _ _ => rfl)) da_nil))))))
  (db_one (ds_ret (dv 1)))))
theorem ok_table_of (T : Txt w K mg) : FnOk P w K mg base (L2.CX P w) 3 T.f_table_of T.fd_table_of ["word"] (upF K sp_table_of) := by
  refine okD (k := 2) (t := fun Ed => t_table_of Ed) T.F_table_of sc_table_of len_table_of (fun cdv A outer s H E Ed hr => ?_) pure_table_of
  exact (db_cons (ds_expr (de_call (ok_look_word T) (hr.mono (by decide)) (by rfl) T.m_look_word T.F_look_word.kp T.b_look_word .nil (fun _ _ => rfl) takesB (da_cons (dv 0) da_nil)))
  (db_one (ds_ret (de_call (ok_table_by T) (hr.mono (by decide)) (by rfl) T.m_table_by T.F_table_by.kp T.b_table_by .nil (fun _ _ => rfl) takesB (da_cons (dv 0) da_nil)))))
theorem ok_first_letter (T : Txt w K mg) : FnOk P w K mg base (L2.CX P w) 1 T.f_first_letter T.fd_first_letter ["table"] (upF K sp_first_letter) := by
  refine okD (k := 0) (t := fun Ed => t_first_letter Ed) T.F_first_letter sc_first_letter len_first_letter (fun cdv A outer s H E Ed hr => ?_) pure_first_letter
  exact (db_one (ds_ret (de_ix de_str (de_callTy cd_int (by rfl) T.n_int (by decide +kernel) (da_cons (de_cmp od_gt (de_ix (de_ix (dv 0) de_int (fun _ _ => rfl)) de_int (fun _ _ => rfl)) (de_op od_mul de_int (de_ix (de_ix (dv 0) de_int (fun _ _ => rfl)) de_int (fun _ _ => rfl))) (nomark _)) da_nil)) (fun _ _ => rfl))))
theorem ok_word_of (T : Txt w K mg) : FnOk P w K mg base (L2.CX P w) 4 T.f_word_of T.fd_word_of ["table"] (upF K sp_word_of) := by
  refine okD (k := 3) (t := fun Ed => t_word_of Ed) T.F_word_of sc_word_of len_word_of (fun cdv A outer s H E Ed hr => ?_) pure_word_of
  exact (db_cons (ds_if (DW.pt (dw_or (dt_not (dt_val (de_call (ok_is_table T) (hr.mono (by decide)) (by rfl) T.m_is_table T.F_is_table.kp T.b_is_table .nil (fun _ _ => rfl) takesB (da_cons (dv 0) da_nil)))) (dw_or1 (dt_cmp (od_eq hr.units) (dv 0) (de_k (by rfl) T.m_UNIT T.r_UNIT T.k_UNIT) (nomark _))))) (db_one ds_never) db_nil)
  (db_cons (ds_set 1 sc_word_of.nd rfl (by first | exact .inl rfl | exact .inr rfl) de_str)
  (db_cons (ds_while passB (dt_cmp (od_ne hr.units) (dv 0) (de_k (by rfl) T.m_UNIT T.r_UNIT T.k_UNIT) (nomark _))
  (db_cons (ds_if (dt_cmp (od_eq hr.units) (de_callB cd_len (by rfl) T.n_len (by decide +kernel) (da_cons (dv 1) da_nil)) (de_k (by rfl) T.m_MOST_LETTERS T.r_MOST_LETTERS T.k_MOST_LETTERS) (nomark _)) (db_one ds_never) db_nil)
  (db_cons (ds_aug 1 sc_word_of.nd rfl (by first | exact .inl rfl | exact .inr rfl) (de_call (ok_first_letter T) (hr.mono (by decide)) (by rfl) T.m_first_letter T.F_first_letter.kp T.b_first_letter .nil (fun _ _ => rfl) takesB (da_cons (dv 0) da_nil)) iod_add)
  (db_one (ds_set 0 sc_word_of.nd rfl (by first | exact .inl rfl | exact .inr rfl) (de_call (ok_joined T) (hr.mono (by decide)) (by rfl) T.m_joined T.F_joined.kp T.b_joined .nil (fun _ _ => rfl) takesB (da_cons (de_call (ok_contrary_by T) (hr.mono (by decide)) (by rfl) T.m_contrary_by T.F_contrary_by.kp T.b_contrary_by .nil (fun _ _ => rfl) takesB (da_cons (de_kix (by rfl) T.m_LETTER_TABLES T.k_LETTER_TABLES (de_ix (dv 1) (de_neg de_int) (fun _ _ => rfl)) (fun _ _ => rfl)) da_nil)) (da_cons (dv 0) da_nil))))))))
  (db_one (ds_ret (dv 1))))))
theorem ok_law_urn (T : Txt w K mg) : FnOk P w K mg base (L2.CX P w) 1 T.f_law_urn T.fd_law_urn ["_law_script", "_law_at"] (upF K sp_law_urn) := by
  refine okD (k := 0) (t := fun Ed => t_law_urn Ed) T.F_law_urn sc_law_urn len_law_urn (fun cdv A outer s H E Ed hr => ?_) pure_law_urn
  exact (db_cons (ds_set 2 sc_law_urn.nd rfl (by first | exact .inl rfl | exact .inr rfl) de_int)
  (db_cons (ds_if (dt_cmp od_lt (dv 1) (de_callB cd_len (by rfl) T.n_len (by decide +kernel) (da_cons (dv 0) da_nil)) (nomark _)) (db_one (ds_set 2 sc_law_urn.nd rfl (by first | exact .inl rfl | exact .inr rfl) (de_ix (dv 0) (dv 1) (fun _ _ => rfl)))) db_nil)
  (db_cons (ds_set 3 sc_law_urn.nd rfl (by first | exact .inl rfl | exact .inr rfl) (de_callB cd_abs (by rfl) T.n_abs (by decide +kernel) (da_cons (dv 2) da_nil)))
  (db_cons (ds_if (dt_cmp od_lt (dv 3) (de_op od_pow de_int de_int) (nomark _)) (db_one (ds_set 3 sc_law_urn.nd rfl (by first | exact .inl rfl | exact .inr rfl) de_int)) db_nil)
  (db_one (ds_ret (de_lstO (da_cons (dv 3) (da_cons (de_op od_add (de_op od_add (de_op od_add (de_op od_mod (dv 2) de_int) (de_op od_mul (de_op od_mul de_int (dv 1)) (dv 1))) (de_op od_mul de_int (dv 1))) de_int) (da_cons de_int da_nil))))))))))
theorem ok_law_draw (T : Txt w K mg) : FnOk P w K mg base (L2.CX P w) 1 T.f_law_draw T.fd_law_draw ["_law_urn_here", "_law_wide"] (upF K sp_law_draw) := by
  refine okD (k := 0) (t := fun Ed => t_law_draw Ed) T.F_law_draw sc_law_draw len_law_draw (fun cdv A outer s H E Ed hr => ?_) pure_law_draw
  exact (db_cons (ds_if (dt_cmp od_gt (de_ix (dv 0) de_int (fun _ _ => rfl)) de_int (nomark _)) (db_cons (ds_set 2 sc_law_draw.nd rfl (by first | exact .inl rfl | exact .inr rfl) (de_op od_mod (de_ix (dv 0) de_int (fun _ _ => rfl)) (dv 1)))
  (db_cons (ds_store (dv 0) de_int (de_op od_fdiv (de_ix (dv 0) de_int (fun _ _ => rfl)) (dv 1)))
  (db_one (ds_ret (dv 2))))) db_nil)
  (db_cons (ds_set 3 sc_law_draw.nd rfl (by first | exact .inl rfl | exact .inr rfl) (de_tup (da_cons de_int (da_cons de_int (da_cons de_int (da_cons de_int (da_cons de_int (da_cons de_int (da_cons de_int da_nil)))))))))
  (db_cons (ds_store (dv 0) de_int (de_op od_add (de_ix (dv 0) de_int (fun _ _ => rfl)) de_int))
  (db_cons (ds_set 4 sc_law_draw.nd rfl (by first | exact .inl rfl | exact .inr rfl) (de_ix (dv 0) de_int (fun _ _ => rfl)))
  (db_cons (ds_set 5 sc_law_draw.nd rfl (by first | exact .inl rfl | exact .inr rfl) (de_op od_add (de_op od_add (de_op od_mul (de_ix (dv 0) de_int (fun _ _ => rfl)) (de_op od_add (de_op od_mul de_int (dv 4)) de_int)) (de_op od_mul (de_op od_mul de_int (dv 4)) (dv 4))) de_int))
  (db_cons (ds_set 6 sc_law_draw.nd rfl (by first | exact .inl rfl | exact .inr rfl) (de_op od_mod (de_op od_pow (dv 5) de_int) (de_ix (dv 3) (de_op od_mod (dv 4) de_int) (fun _ _ => rfl))))
  (db_one (ds_ret (de_op od_mod (de_op od_fdiv (de_op od_mod (de_op od_mul (dv 6) (de_op od_add (de_op od_fdiv (dv 6) de_int) (dv 4))) (de_ix (dv 3) (de_op od_mod (de_op od_add (dv 4) de_int) de_int) (fun _ _ => rfl))) de_int) (dv 1))))))))))
theorem ok_law_even_word (T : Txt w K mg) : FnOk P w K mg base (L2.CX P w) 1 T.f_law_even_word T.fd_law_even_word ["_law_bs", "_law_others"] (upF K sp_law_even_word) := by
  refine okD (k := 0) (t := fun Ed => t_law_even_word Ed) T.F_law_even_word sc_law_even_word len_law_even_word (fun cdv A outer s H E Ed hr => ?_) pure_law_even_word
  exact (db_cons (ds_set 2 sc_law_even_word.nd rfl (by first | exact .inl rfl | exact .inr rfl) de_str)
  (db_cons (ds_set 3 sc_law_even_word.nd rfl (by first | exact .inl rfl | exact .inr rfl) de_int)
  (db_cons (ds_for (vs := [4]) passB rfl (di_rng1 (by rfl) T.n_range (da_cons (de_op od_add (dv 0) (dv 1)) da_nil)) (dg_name (i := 4) sc_law_even_word.nd rfl (by first | exact Or.inl rfl | exact Or.inr rfl) (by decide))
  (db_cons (ds_set 3 sc_law_even_word.nd rfl (by first | exact .inl rfl | exact .inr rfl) (de_op od_add (dv 3) (dv 0)))
  (db_cons (ds_set 2 sc_law_even_word.nd rfl (by first | exact .inl rfl | exact .inr rfl) (de_op od_add (dv 2) (de_ix de_str (de_callTy cd_int (by rfl) T.n_int (by decide +kernel) (da_cons (de_cmp od_ge (dv 3) (de_op od_add (dv 0) (dv 1)) (nomark _)) da_nil)) (fun _ _ => rfl))))
  (db_one (ds_if (dt_cmp od_ge (dv 3) (de_op od_add (dv 0) (dv 1)) (nomark _)) (db_one (ds_set 3 sc_law_even_word.nd rfl (by first | exact .inl rfl | exact .inr rfl) (de_op od_sub (de_op od_sub (dv 3) (dv 0)) (dv 1)))) db_nil)))))
  (db_one (ds_ret (dv 2))))))
theorem ok_law_word (T : Txt w K mg) : FnOk P w K mg base (L2.CX P w) 2 T.f_law_word T.fd_law_word ["_law_urn_here", "_law_most"] (upF K sp_law_word) := by
  refine okD (k := 1) (t := fun Ed => t_law_word Ed) T.F_law_word sc_law_word len_law_word (fun cdv A outer s H E Ed hr => ?_) pure_law_word
  exact (db_cons (ds_set 2 sc_law_word.nd rfl (by first | exact .inl rfl | exact .inr rfl) (de_ix (de_lst (da_cons de_int (da_cons de_int (da_cons de_int (da_cons (dv 1) da_nil))))) (de_call (ok_law_draw T) (hr.mono (by decide)) (by rfl) T.m_law_draw T.F_law_draw.kp T.b_law_draw .nil (fun _ _ => rfl) takesB (da_cons (dv 0) (da_cons de_int da_nil))) (fun _ _ => rfl)))
  (db_cons (ds_set 3 sc_law_word.nd rfl (by first | exact .inl rfl | exact .inr rfl) (de_op od_add de_int (de_call (ok_law_draw T) (hr.mono (by decide)) (by rfl) T.m_law_draw T.F_law_draw.kp T.b_law_draw .nil (fun _ _ => rfl) takesB (da_cons (dv 0) (da_cons (dv 2) da_nil)))))
  (db_cons (ds_set 4 sc_law_word.nd rfl (by first | exact .inl rfl | exact .inr rfl) (de_ix (de_lst (da_cons de_int (da_cons de_int (da_cons de_int da_nil)))) (de_call (ok_law_draw T) (hr.mono (by decide)) (by rfl) T.m_law_draw T.F_law_draw.kp T.b_law_draw .nil (fun _ _ => rfl) takesB (da_cons (dv 0) (da_cons de_int da_nil))) (fun _ _ => rfl)))
  (db_cons (ds_set 5 sc_law_word.nd rfl (by first | exact .inl rfl | exact .inr rfl) (de_join de_str (da_cons (de_lc (own := [("_law_k", 11)]) rfl sc_law_word.nd (di_rng1 (by rfl) T.n_range (da_cons (dv 3) da_nil)) (blkOk_by (own := [("_law_k", 11)]) (N := N_law_word) (sc := defScope s_law_word) (by decide +kernel)) (fun _ _ _ _ _ => (dg_name (i := 11) sc_law_word.nd rfl (by first | exact Or.inl rfl | exact Or.inr rfl) (by decide))) (fun _ _ _ _ _ => dts_nil) (fun _ _ _ _ _ => (de_ix de_str (de_callTy cd_int (by rfl) T.n_int (by decide +kernel) (da_cons (de_cmp od_gt (de_call (ok_law_draw T) (hr.mono (by decide)) (by rfl) T.m_law_draw T.F_law_draw.kp T.b_law_draw .nil (fun _ _ => rfl) L2.takes0 (da_cons (dv 0) (da_cons (dv 4) da_nil))) de_int (nomark _)) da_nil)) (fun _ _ => rfl)))) da_nil)))
  (db_cons (ds_set 6 sc_law_word.nd rfl (by first | exact .inl rfl | exact .inr rfl) (de_call (ok_law_draw T) (hr.mono (by decide)) (by rfl) T.m_law_draw T.F_law_draw.kp T.b_law_draw .nil (fun _ _ => rfl) takesB (da_cons (dv 0) (da_cons de_int da_nil))))
  (db_cons (ds_if (dt_cmp od_lt (dv 6) de_int (nomark _)) (db_one (ds_ret (dv 5))) db_nil)
  (db_cons (ds_set 7 sc_law_word.nd rfl (by first | exact .inl rfl | exact .inr rfl) (de_call (ok_law_draw T) (hr.mono (by decide)) (by rfl) T.m_law_draw T.F_law_draw.kp T.b_law_draw .nil (fun _ _ => rfl) takesB (da_cons (dv 0) (da_cons (de_op od_add (dv 3) de_int) da_nil))))
  (db_cons (ds_set 8 sc_law_word.nd rfl (by first | exact .inl rfl | exact .inr rfl) (de_call (ok_law_even_word T) (hr.mono (by decide)) (by rfl) T.m_law_even_word T.F_law_even_word.kp T.b_law_even_word .nil (fun _ _ => rfl) takesB (da_cons (dv 7) (da_cons (de_op od_sub (dv 3) (dv 7)) da_nil))))
  (db_cons (ds_set 9 sc_law_word.nd rfl (by first | exact .inl rfl | exact .inr rfl) (de_call (ok_law_draw T) (hr.mono (by decide)) (by rfl) T.m_law_draw T.F_law_draw.kp T.b_law_draw .nil (fun _ _ => rfl) takesB (da_cons (dv 0) (da_cons (dv 3) da_nil))))
  (db_cons (ds_set 8 sc_law_word.nd rfl (by first | exact .inl rfl | exact .inr rfl) (de_op od_add (de_slice (dv 8) (do_some (dv 9)) do_none) (de_slice (dv 8) do_none (do_some (dv 9)))))
  (db_cons (ds_if (dt_cmp (od_eq hr.units) (dv 6) de_int (nomark _)) (db_one (ds_ret (dv 8))) db_nil)
  (db_cons (ds_set 10 sc_law_word.nd rfl (by first | exact .inl rfl | exact .inr rfl) (de_call (ok_law_draw T) (hr.mono (by decide)) (by rfl) T.m_law_draw T.F_law_draw.kp T.b_law_draw .nil (fun _ _ => rfl) takesB (da_cons (dv 0) (da_cons (dv 3) da_nil))))
  (db_one (ds_ret (de_op od_add (de_op od_add (de_slice (dv 8) do_none (do_some (dv 10))) (de_ix (dv 5) (dv 10) (fun _ _ => rfl))) (de_slice (dv 8) (do_some (de_op od_add (dv 10) de_int)) do_none))))))))))))))))
theorem ok_law_is_parted (T : Txt w K mg) : FnOk P w K mg base (L2.CX P w) 7 T.f_law_is_parted T.fd_law_is_parted ["_law_word_here", "_law_at"] (upF K sp_law_is_parted) := by
  refine okD (k := 6) (t := fun Ed => t_law_is_parted Ed) T.F_law_is_parted sc_law_is_parted len_law_is_parted (fun cdv A outer s H E Ed hr => ?_) pure_law_is_parted
  exact (db_cons (ds_par 2 3 rfl sc_law_is_parted.nd rfl rfl (by decide) rfl rfl (da_cons (de_slice (dv 0) do_none (do_some (dv 1))) (da_cons (de_slice (dv 0) (do_some (dv 1)) do_none) da_nil)) (by rfl))
  (db_cons (ds_set 4 sc_law_is_parted.nd rfl (by first | exact .inl rfl | exact .inr rfl) (de_call (ok_joined T) (hr.mono (by decide)) (by rfl) T.m_joined T.F_joined.kp T.b_joined .nil (fun _ _ => rfl) takesB (da_cons (de_call (ok_contrary T) (hr.mono (by decide)) (by rfl) T.m_contrary T.F_contrary.kp T.b_contrary .nil (fun _ _ => rfl) takesB (da_cons (de_call (ok_table_of T) (hr.mono (by decide)) (by rfl) T.m_table_of T.F_table_of.kp T.b_table_of .nil (fun _ _ => rfl) takesB (da_cons (dv 2) da_nil)) da_nil)) (da_cons (de_call (ok_table_of T) (hr.mono (by decide)) (by rfl) T.m_table_of T.F_table_of.kp T.b_table_of .nil (fun _ _ => rfl) takesB (da_cons (dv 0) da_nil)) da_nil))))
  (db_one (ds_ret (de_and (de_cmp (od_eq hr.units) (dv 4) (de_call (ok_table_of T) (hr.mono (by decide)) (by rfl) T.m_table_of T.F_table_of.kp T.b_table_of .nil (fun _ _ => rfl) takesB (da_cons (dv 3) da_nil)) (nomark _)) (de_one (de_cmp (od_eq hr.units) (de_call (ok_word_of T) (hr.mono (by decide)) (by rfl) T.m_word_of T.F_word_of.kp T.b_word_of .nil (fun _ _ => rfl) takesB (da_cons (dv 4) da_nil)) (dv 3) (nomark _))))))))
theorem ok_law_mirrored (T : Txt w K mg) : FnOk P w K mg base (L2.CX P w) 1 T.f_law_mirrored T.fd_law_mirrored ["_law_table"] (upF K sp_law_mirrored) := by
  refine okD (k := 0) (t := fun Ed => t_law_mirrored Ed) T.F_law_mirrored sc_law_mirrored len_law_mirrored (fun cdv A outer s H E Ed hr => ?_) pure_law_mirrored
  exact (db_one (ds_ret (de_tup (da_cons (de_tup (da_cons (de_ix (de_ix (dv 0) de_int (fun _ _ => rfl)) de_int (fun _ _ => rfl)) (da_cons (de_ix (de_ix (dv 0) de_int (fun _ _ => rfl)) de_int (fun _ _ => rfl)) da_nil))) (da_cons (de_tup (da_cons (de_ix (de_ix (dv 0) de_int (fun _ _ => rfl)) de_int (fun _ _ => rfl)) (da_cons (de_ix (de_ix (dv 0) de_int (fun _ _ => rfl)) de_int (fun _ _ => rfl)) da_nil))) da_nil)))))
theorem ok_law (T : Txt w K mg) : FnOk P w K mg base (L2.CX P w) 8 T.f_law T.fd_law ["_law_script"] (upF K spLawD) := by
  refine okD (k := 7) (t := fun Ed => t_law Ed) T.F_law sc_law len_law (fun cdv A outer s H E Ed hr => ?_) pure_law
  exact (db_cons (ds_for (vs := [1]) passB rfl (di_rng1 (by rfl) T.n_range (da_cons (de_callB (cd_max2 rfl) (by rfl) T.n_max (by decide +kernel) (da_cons de_int (da_cons (de_callB (cd_min2 rfl) (by rfl) T.n_min (by decide +kernel) (da_cons de_int (da_cons (de_callB cd_len (by rfl) T.n_len (by decide +kernel) (da_cons (dv 0) da_nil)) da_nil))) da_nil))) da_nil)) (dg_name (i := 1) sc_law.nd rfl (by first | exact Or.inl rfl | exact Or.inr rfl) (by decide))
  (db_cons (ds_set 2 sc_law.nd rfl (by first | exact .inl rfl | exact .inr rfl) (de_call (ok_law_urn T) (hr.mono (by decide)) (by rfl) T.m_law_urn T.F_law_urn.kp T.b_law_urn .nil (fun _ _ => rfl) takesB (da_cons (dv 0) (da_cons (dv 1) da_nil))))
  (db_cons (ds_par 3 4 rfl sc_law.nd rfl rfl (by decide) rfl rfl (da_cons (de_call (ok_law_word T) (hr.mono (by decide)) (by rfl) T.m_law_word T.F_law_word.kp T.b_law_word .nil (fun _ _ => rfl) takesB (da_cons (dv 2) (da_cons de_int da_nil))) (da_cons (de_call (ok_law_word T) (hr.mono (by decide)) (by rfl) T.m_law_word T.F_law_word.kp T.b_law_word .nil (fun _ _ => rfl) takesB (da_cons (dv 2) (da_cons de_int da_nil))) da_nil)) (by rfl))
  (db_cons (ds_if (dt_cmp (od_eq hr.units) (de_call (ok_law_draw T) (hr.mono (by decide)) (by rfl) T.m_law_draw T.F_law_draw.kp T.b_law_draw .nil (fun _ _ => rfl) takesB (da_cons (dv 2) (da_cons de_int da_nil))) de_int (nomark _)) (db_one (ds_set 4 sc_law.nd rfl (by first | exact .inl rfl | exact .inr rfl) (de_slice (de_op od_add (dv 3) (dv 4)) do_none (do_some de_int)))) db_nil)
  (db_cons (ds_set 5 sc_law.nd rfl (by first | exact .inl rfl | exact .inr rfl) (de_call (ok_joined T) (hr.mono (by decide)) (by rfl) T.m_joined T.F_joined.kp T.b_joined .nil (fun _ _ => rfl) takesB (da_cons (de_call (ok_table_of T) (hr.mono (by decide)) (by rfl) T.m_table_of T.F_table_of.kp T.b_table_of .nil (fun _ _ => rfl) takesB (da_cons (dv 3) da_nil)) (da_cons (de_call (ok_table_of T) (hr.mono (by decide)) (by rfl) T.m_table_of T.F_table_of.kp T.b_table_of .nil (fun _ _ => rfl) takesB (da_cons (dv 4) da_nil)) da_nil))))
  (db_cons (ds_if (DW.pt (dw_or (dt_cmp (od_ne hr.units) (dv 5) (de_call (ok_table_of T) (hr.mono (by decide)) (by rfl) T.m_table_of T.F_table_of.kp T.b_table_of .nil (fun _ _ => rfl) takesB (da_cons (de_op od_add (dv 3) (dv 4)) da_nil)) (nomark _)) (dw_or1 (dt_cmp (od_ne hr.units) (de_call (ok_word_of T) (hr.mono (by decide)) (by rfl) T.m_word_of T.F_word_of.kp T.b_word_of .nil (fun _ _ => rfl) takesB (da_cons (dv 5) da_nil)) (de_op od_add (dv 3) (dv 4)) (nomark _))))) (db_one (ds_ret de_bl)) db_nil)
  (db_cons (ds_if (dt_cmp (od_ne hr.units) (de_cmp (od_eq hr.units) (de_call (ok_table_of T) (hr.mono (by decide)) (by rfl) T.m_table_of T.F_table_of.kp T.b_table_of .nil (fun _ _ => rfl) takesB (da_cons (dv 3) da_nil)) (de_call (ok_table_of T) (hr.mono (by decide)) (by rfl) T.m_table_of T.F_table_of.kp T.b_table_of .nil (fun _ _ => rfl) takesB (da_cons (dv 4) da_nil)) (nomark _)) (de_cmp (od_eq hr.units) (dv 3) (dv 4) (nomark _)) (nomark _)) (db_one (ds_ret de_bl)) db_nil)
  (db_cons (ds_if (dt_cmp (od_ne hr.units) (de_cmp (od_eq hr.units) (de_call (ok_joined T) (hr.mono (by decide)) (by rfl) T.m_joined T.F_joined.kp T.b_joined .nil (fun _ _ => rfl) takesB (da_cons (de_call (ok_table_of T) (hr.mono (by decide)) (by rfl) T.m_table_of T.F_table_of.kp T.b_table_of .nil (fun _ _ => rfl) takesB (da_cons (dv 4) da_nil)) (da_cons (de_call (ok_table_of T) (hr.mono (by decide)) (by rfl) T.m_table_of T.F_table_of.kp T.b_table_of .nil (fun _ _ => rfl) takesB (da_cons (dv 3) da_nil)) da_nil))) (dv 5) (nomark _)) (de_cmp (od_eq hr.units) (de_op od_add (dv 4) (dv 3)) (de_op od_add (dv 3) (dv 4)) (nomark _)) (nomark _)) (db_one (ds_ret de_bl)) db_nil)
  (db_cons (ds_set 6 sc_law.nd rfl (by first | exact .inl rfl | exact .inr rfl) (de_op od_add (dv 3) (dv 4)))
  (db_cons (ds_if (dt_not (dt_val (de_callB (cd_all rfl) (by rfl) T.n_all (by decide +kernel) (da_cons (de_lc (own := [("_law_place", 9)]) rfl sc_law.nd (di_rng2 (by rfl) T.n_range (da_cons de_int (da_cons (de_callB cd_len (by rfl) T.n_len (by decide +kernel) (da_cons (dv 6) da_nil)) da_nil))) (blkOk_by (own := [("_law_place", 9)]) (N := N_law) (sc := defScope s_law) (by decide +kernel)) (fun _ _ _ _ _ => (dg_name (i := 9) sc_law.nd rfl (by first | exact Or.inl rfl | exact Or.inr rfl) (by decide))) (fun _ _ _ _ _ => dts_nil) (fun _ _ _ _ _ => (de_call (ok_law_is_parted T) (hr.mono (by decide)) (by rfl) T.m_law_is_parted T.F_law_is_parted.kp T.b_law_is_parted .nil (fun _ _ => rfl) L2.takes0 (da_cons (dv 6) (da_cons (dv 9) da_nil))))) da_nil)))) (db_one (ds_ret de_bl)) db_nil)
  (db_cons (ds_if (DW.pt (dw_or (dt_cmp (od_ne hr.units) (de_call (ok_table_of T) (hr.mono (by decide)) (by rfl) T.m_table_of T.F_table_of.kp T.b_table_of .nil (fun _ _ => rfl) takesB (da_cons (de_rev (dv 6)) da_nil)) (de_call (ok_law_mirrored T) (hr.mono (by decide)) (by rfl) T.m_law_mirrored T.F_law_mirrored.kp T.b_law_mirrored .nil (fun _ _ => rfl) takesB (da_cons (dv 5) da_nil)) (nomark _)) (dw_or1 (dt_cmp (od_ne hr.units) (de_call (ok_word_of T) (hr.mono (by decide)) (by rfl) T.m_word_of T.F_word_of.kp T.b_word_of .nil (fun _ _ => rfl) takesB (da_cons (de_call (ok_law_mirrored T) (hr.mono (by decide)) (by rfl) T.m_law_mirrored T.F_law_mirrored.kp T.b_law_mirrored .nil (fun _ _ => rfl) takesB (da_cons (dv 5) da_nil)) da_nil)) (de_rev (dv 6)) (nomark _))))) (db_one (ds_ret de_bl)) db_nil)
  (db_cons (ds_set 7 sc_law.nd rfl (by first | exact .inl rfl | exact .inr rfl) (de_tup (da_cons (de_tup (da_cons de_int (da_cons de_int da_nil))) (da_cons (de_tup (da_cons de_int (da_cons de_int da_nil))) da_nil))))
  (db_one (ds_for (vs := [8]) passB rfl (di_rng1 (by rfl) T.n_range (da_cons (de_op od_fdiv de_int (de_callB cd_len (by rfl) T.n_len (by decide +kernel) (da_cons (dv 3) da_nil))) da_nil)) (dg_name (i := 8) sc_law.nd rfl (by first | exact Or.inl rfl | exact Or.inr rfl) (by decide))
  (db_cons (ds_set 7 sc_law.nd rfl (by first | exact .inl rfl | exact .inr rfl) (de_call (ok_joined T) (hr.mono (by decide)) (by rfl) T.m_joined T.F_joined.kp T.b_joined .nil (fun _ _ => rfl) takesB (da_cons (dv 7) (da_cons (de_call (ok_table_of T) (hr.mono (by decide)) (by rfl) T.m_table_of T.F_table_of.kp T.b_table_of .nil (fun _ _ => rfl) takesB (da_cons (dv 3) da_nil)) da_nil))))
  (db_one (ds_if (DW.pt (dw_or (dt_cmp (od_ne hr.units) (dv 7) (de_call (ok_table_of T) (hr.mono (by decide)) (by rfl) T.m_table_of T.F_table_of.kp T.b_table_of .nil (fun _ _ => rfl) takesB (da_cons (de_op od_mul (dv 3) (de_op od_add (dv 8) de_int)) da_nil)) (nomark _)) (dw_or1 (dt_cmp (od_ne hr.units) (de_call (ok_word_of T) (hr.mono (by decide)) (by rfl) T.m_word_of T.F_word_of.kp T.b_word_of .nil (fun _ _ => rfl) takesB (da_cons (dv 7) da_nil)) (de_op od_mul (dv 3) (de_op od_add (dv 8) de_int)) (nomark _))))) (db_one (ds_ret de_bl)) db_nil)))))))))))))))))
  (db_one (ds_ret de_bl)))
end
theorem all_mk {P : Program} {w : World} {K : PySem.W.Frag} {h : Heap} {mg : Str → Option Value} {fa : Addr} (X : K.In h) (G : h.Ns mainGlobals mg) (hfa : mg "law" = some (.ref fa))
    {f0 f1 f2 f3 f4 f5 f6 f7 f8 f9 f10 f11 f12 f13 f14 f15 f16 f17 f18 f19 f20 f21 f22 : Addr} {od0 an0 od1 an1 od2 an2 od3 an3 od4 an4 od5 an5 od6 an6 od7 an7 od8 an8 od9 an9 od10 an10 od11 an11 od12 an12 od13 an13 od14 an14 od15 an15 od16 an16 od17 an17 od18 an18 od19 an19 od20 an20 od21 an21 od22 an22 : Option Addr} {sl0 sl1 sl2 sl3 sl4 sl5 sl6 sl7 sl8 sl9 sl10 sl11 sl12 sl13 sl14 sl15 sl16 sl17 sl18 sl19 sl20 sl21 sl22 : Array (Option Value)}
    {oc0 kV0 dc0 pm0 cd0 ct0 oc1 kV1 dc1 pm1 cd1 ct1 oc2 kV2 dc2 pm2 cd2 ct2 oc3 kV3 dc3 pm3 cd3 ct3 oc4 kV4 dc4 pm4 cd4 ct4 oc5 kV5 dc5 pm5 cd5 ct5 oc6 kV6 dc6 pm6 cd6 ct6 oc7 kV7 dc7 pm7 cd7 ct7 oc8 kV8 dc8 pm8 cd8 ct8 oc9 kV9 dc9 pm9 cd9 ct9 oc10 kV10 dc10 pm10 cd10 ct10 oc11 kV11 dc11 pm11 cd11 ct11 oc12 kV12 dc12 pm12 cd12 ct12 oc13 kV13 dc13 pm13 cd13 ct13 oc14 kV14 dc14 pm14 cd14 ct14 oc15 kV15 dc15 pm15 cd15 ct15 oc16 kV16 dc16 pm16 cd16 ct16 oc17 kV17 dc17 pm17 cd17 ct17 oc18 kV18 dc18 pm18 cd18 ct18 oc19 kV19 dc19 pm19 cd19 ct19 oc20 kV20 dc20 pm20 cd20 ct20 oc21 kV21 dc21 pm21 cd21 ct21 oc22 kV22 dc22 pm22 cd22 ct22 : Value}
    {tk_LETTERS : Tok}
    {p_LETTER_TABLES : Addr} {es_LETTER_TABLES : Array DictEntry} {n_LETTER_TABLES : Nat}
    {tk_LETTER_TABLES_0_0_0 : Tok}
    {tk_LETTER_TABLES_0_0_1 : Tok}
    {p_LETTER_TABLES_0_0 : Addr} {np_LETTER_TABLES_0_0 : Nat} {odp_LETTER_TABLES_0_0 : Option Addr} {slp_LETTER_TABLES_0_0 : Array (Option Value)}
    {tk_LETTER_TABLES_0_1_0 : Tok}
    {tk_LETTER_TABLES_0_1_1 : Tok}
    {p_LETTER_TABLES_0_1 : Addr} {np_LETTER_TABLES_0_1 : Nat} {odp_LETTER_TABLES_0_1 : Option Addr} {slp_LETTER_TABLES_0_1 : Array (Option Value)}
    {p_LETTER_TABLES_0 : Addr} {np_LETTER_TABLES_0 : Nat} {odp_LETTER_TABLES_0 : Option Addr} {slp_LETTER_TABLES_0 : Array (Option Value)}
    {tk_LETTER_TABLES_1_0_0 : Tok}
    {tk_LETTER_TABLES_1_0_1 : Tok}
    {p_LETTER_TABLES_1_0 : Addr} {np_LETTER_TABLES_1_0 : Nat} {odp_LETTER_TABLES_1_0 : Option Addr} {slp_LETTER_TABLES_1_0 : Array (Option Value)}
    {tk_LETTER_TABLES_1_1_0 : Tok}
    {tk_LETTER_TABLES_1_1_1 : Tok}
    {p_LETTER_TABLES_1_1 : Addr} {np_LETTER_TABLES_1_1 : Nat} {odp_LETTER_TABLES_1_1 : Option Addr} {slp_LETTER_TABLES_1_1 : Array (Option Value)}
    {p_LETTER_TABLES_1 : Addr} {np_LETTER_TABLES_1 : Nat} {odp_LETTER_TABLES_1 : Option Addr} {slp_LETTER_TABLES_1 : Array (Option Value)}
    {tk_MOST_LETTERS : Tok}
    {tk_UNIT_0_0 : Tok}
    {tk_UNIT_0_1 : Tok}
    {p_UNIT_0 : Addr} {np_UNIT_0 : Nat} {odp_UNIT_0 : Option Addr} {slp_UNIT_0 : Array (Option Value)}
    {tk_UNIT_1_0 : Tok}
    {tk_UNIT_1_1 : Tok}
    {p_UNIT_1 : Addr} {np_UNIT_1 : Nat} {odp_UNIT_1 : Option Addr} {slp_UNIT_1 : Array (Option Value)}
    {p_UNIT : Addr} {np_UNIT : Nat} {odp_UNIT : Option Addr} {slp_UNIT : Array (Option Value)}
    (a0 : PySem.W.nsIn K mainGlobals "is_whole" = some (some (.ref f0))) (l0 : K.lookup f0 = some ⟨oc0, od0, .func (PySem.W.fnOf "is_whole" "is_whole" (defArgs s_is_whole) (defBody s_is_whole) (defScope s_is_whole) .none kV0 dc0 pm0 an0 cd0 ct0), sl0⟩) (c0 : PySem.W.codeIn K cd0 "is_whole" = true) (k0 : PySem.W.keepIn K (.ref f0) = true)
    (a1 : PySem.W.nsIn K mainGlobals "are_wholes" = some (some (.ref f1))) (l1 : K.lookup f1 = some ⟨oc1, od1, .func (PySem.W.fnOf "are_wholes" "are_wholes" (defArgs s_are_wholes) (defBody s_are_wholes) (defScope s_are_wholes) .none kV1 dc1 pm1 an1 cd1 ct1), sl1⟩) (c1 : PySem.W.codeIn K cd1 "are_wholes" = true) (k1 : PySem.W.keepIn K (.ref f1) = true)
    (a2 : PySem.W.nsIn K mainGlobals "is_word" = some (some (.ref f2))) (l2 : K.lookup f2 = some ⟨oc2, od2, .func (PySem.W.fnOf "is_word" "is_word" (defArgs s_is_word) (defBody s_is_word) (defScope s_is_word) .none kV2 dc2 pm2 an2 cd2 ct2), sl2⟩) (c2 : PySem.W.codeIn K cd2 "is_word" = true) (k2 : PySem.W.keepIn K (.ref f2) = true)
    (a3 : PySem.W.nsIn K mainGlobals "look_word" = some (some (.ref f3))) (l3 : K.lookup f3 = some ⟨oc3, od3, .func (PySem.W.fnOf "look_word" "look_word" (defArgs s_look_word) (defBody s_look_word) (defScope s_look_word) .none kV3 dc3 pm3 an3 cd3 ct3), sl3⟩) (c3 : PySem.W.codeIn K cd3 "look_word" = true) (k3 : PySem.W.keepIn K (.ref f3) = true)
    (a4 : PySem.W.nsIn K mainGlobals "is_pair_of" = some (some (.ref f4))) (l4 : K.lookup f4 = some ⟨oc4, od4, .func (PySem.W.fnOf "is_pair_of" "is_pair_of" (defArgs s_is_pair_of) (defBody s_is_pair_of) (defScope s_is_pair_of) .none kV4 dc4 pm4 an4 cd4 ct4), sl4⟩) (c4 : PySem.W.codeIn K cd4 "is_pair_of" = true) (k4 : PySem.W.keepIn K (.ref f4) = true)
    (a5 : PySem.W.nsIn K mainGlobals "is_table" = some (some (.ref f5))) (l5 : K.lookup f5 = some ⟨oc5, od5, .func (PySem.W.fnOf "is_table" "is_table" (defArgs s_is_table) (defBody s_is_table) (defScope s_is_table) .none kV5 dc5 pm5 an5 cd5 ct5), sl5⟩) (c5 : PySem.W.codeIn K cd5 "is_table" = true) (k5 : PySem.W.keepIn K (.ref f5) = true)
    (a6 : PySem.W.nsIn K mainGlobals "size_of" = some (some (.ref f6))) (l6 : K.lookup f6 = some ⟨oc6, od6, .func (PySem.W.fnOf "size_of" "size_of" (defArgs s_size_of) (defBody s_size_of) (defScope s_size_of) .none kV6 dc6 pm6 an6 cd6 ct6), sl6⟩) (c6 : PySem.W.codeIn K cd6 "size_of" = true) (k6 : PySem.W.keepIn K (.ref f6) = true)
    (a7 : PySem.W.nsIn K mainGlobals "is_turning" = some (some (.ref f7))) (l7 : K.lookup f7 = some ⟨oc7, od7, .func (PySem.W.fnOf "is_turning" "is_turning" (defArgs s_is_turning) (defBody s_is_turning) (defScope s_is_turning) .none kV7 dc7 pm7 an7 cd7 ct7), sl7⟩) (c7 : PySem.W.codeIn K cd7 "is_turning" = true) (k7 : PySem.W.keepIn K (.ref f7) = true)
    (a8 : PySem.W.nsIn K mainGlobals "look_turning" = some (some (.ref f8))) (l8 : K.lookup f8 = some ⟨oc8, od8, .func (PySem.W.fnOf "look_turning" "look_turning" (defArgs s_look_turning) (defBody s_look_turning) (defScope s_look_turning) .none kV8 dc8 pm8 an8 cd8 ct8), sl8⟩) (c8 : PySem.W.codeIn K cd8 "look_turning" = true) (k8 : PySem.W.keepIn K (.ref f8) = true)
    (a9 : PySem.W.nsIn K mainGlobals "joined" = some (some (.ref f9))) (l9 : K.lookup f9 = some ⟨oc9, od9, .func (PySem.W.fnOf "joined" "joined" (defArgs s_joined) (defBody s_joined) (defScope s_joined) .none kV9 dc9 pm9 an9 cd9 ct9), sl9⟩) (c9 : PySem.W.codeIn K cd9 "joined" = true) (k9 : PySem.W.keepIn K (.ref f9) = true)
    (a10 : PySem.W.nsIn K mainGlobals "contrary_by" = some (some (.ref f10))) (l10 : K.lookup f10 = some ⟨oc10, od10, .func (PySem.W.fnOf "contrary_by" "contrary_by" (defArgs s_contrary_by) (defBody s_contrary_by) (defScope s_contrary_by) .none kV10 dc10 pm10 an10 cd10 ct10), sl10⟩) (c10 : PySem.W.codeIn K cd10 "contrary_by" = true) (k10 : PySem.W.keepIn K (.ref f10) = true)
    (a11 : PySem.W.nsIn K mainGlobals "contrary" = some (some (.ref f11))) (l11 : K.lookup f11 = some ⟨oc11, od11, .func (PySem.W.fnOf "contrary" "contrary" (defArgs s_contrary) (defBody s_contrary) (defScope s_contrary) .none kV11 dc11 pm11 an11 cd11 ct11), sl11⟩) (c11 : PySem.W.codeIn K cd11 "contrary" = true) (k11 : PySem.W.keepIn K (.ref f11) = true)
    (a12 : PySem.W.nsIn K mainGlobals "table_by" = some (some (.ref f12))) (l12 : K.lookup f12 = some ⟨oc12, od12, .func (PySem.W.fnOf "table_by" "table_by" (defArgs s_table_by) (defBody s_table_by) (defScope s_table_by) .none kV12 dc12 pm12 an12 cd12 ct12), sl12⟩) (c12 : PySem.W.codeIn K cd12 "table_by" = true) (k12 : PySem.W.keepIn K (.ref f12) = true)
    (a13 : PySem.W.nsIn K mainGlobals "table_of" = some (some (.ref f13))) (l13 : K.lookup f13 = some ⟨oc13, od13, .func (PySem.W.fnOf "table_of" "table_of" (defArgs s_table_of) (defBody s_table_of) (defScope s_table_of) .none kV13 dc13 pm13 an13 cd13 ct13), sl13⟩) (c13 : PySem.W.codeIn K cd13 "table_of" = true) (k13 : PySem.W.keepIn K (.ref f13) = true)
    (a14 : PySem.W.nsIn K mainGlobals "first_letter" = some (some (.ref f14))) (l14 : K.lookup f14 = some ⟨oc14, od14, .func (PySem.W.fnOf "first_letter" "first_letter" (defArgs s_first_letter) (defBody s_first_letter) (defScope s_first_letter) .none kV14 dc14 pm14 an14 cd14 ct14), sl14⟩) (c14 : PySem.W.codeIn K cd14 "first_letter" = true) (k14 : PySem.W.keepIn K (.ref f14) = true)
    (a15 : PySem.W.nsIn K mainGlobals "word_of" = some (some (.ref f15))) (l15 : K.lookup f15 = some ⟨oc15, od15, .func (PySem.W.fnOf "word_of" "word_of" (defArgs s_word_of) (defBody s_word_of) (defScope s_word_of) .none kV15 dc15 pm15 an15 cd15 ct15), sl15⟩) (c15 : PySem.W.codeIn K cd15 "word_of" = true) (k15 : PySem.W.keepIn K (.ref f15) = true)
    (a16 : PySem.W.nsIn K mainGlobals "_law_urn" = some (some (.ref f16))) (l16 : K.lookup f16 = some ⟨oc16, od16, .func (PySem.W.fnOf "_law_urn" "_law_urn" (defArgs s_law_urn) (defBody s_law_urn) (defScope s_law_urn) .none kV16 dc16 pm16 an16 cd16 ct16), sl16⟩) (c16 : PySem.W.codeIn K cd16 "_law_urn" = true) (k16 : PySem.W.keepIn K (.ref f16) = true)
    (a17 : PySem.W.nsIn K mainGlobals "_law_draw" = some (some (.ref f17))) (l17 : K.lookup f17 = some ⟨oc17, od17, .func (PySem.W.fnOf "_law_draw" "_law_draw" (defArgs s_law_draw) (defBody s_law_draw) (defScope s_law_draw) .none kV17 dc17 pm17 an17 cd17 ct17), sl17⟩) (c17 : PySem.W.codeIn K cd17 "_law_draw" = true) (k17 : PySem.W.keepIn K (.ref f17) = true)
    (a18 : PySem.W.nsIn K mainGlobals "_law_even_word" = some (some (.ref f18))) (l18 : K.lookup f18 = some ⟨oc18, od18, .func (PySem.W.fnOf "_law_even_word" "_law_even_word" (defArgs s_law_even_word) (defBody s_law_even_word) (defScope s_law_even_word) .none kV18 dc18 pm18 an18 cd18 ct18), sl18⟩) (c18 : PySem.W.codeIn K cd18 "_law_even_word" = true) (k18 : PySem.W.keepIn K (.ref f18) = true)
    (a19 : PySem.W.nsIn K mainGlobals "_law_word" = some (some (.ref f19))) (l19 : K.lookup f19 = some ⟨oc19, od19, .func (PySem.W.fnOf "_law_word" "_law_word" (defArgs s_law_word) (defBody s_law_word) (defScope s_law_word) .none kV19 dc19 pm19 an19 cd19 ct19), sl19⟩) (c19 : PySem.W.codeIn K cd19 "_law_word" = true) (k19 : PySem.W.keepIn K (.ref f19) = true)
    (a20 : PySem.W.nsIn K mainGlobals "_law_is_parted" = some (some (.ref f20))) (l20 : K.lookup f20 = some ⟨oc20, od20, .func (PySem.W.fnOf "_law_is_parted" "_law_is_parted" (defArgs s_law_is_parted) (defBody s_law_is_parted) (defScope s_law_is_parted) .none kV20 dc20 pm20 an20 cd20 ct20), sl20⟩) (c20 : PySem.W.codeIn K cd20 "_law_is_parted" = true) (k20 : PySem.W.keepIn K (.ref f20) = true)
    (a21 : PySem.W.nsIn K mainGlobals "_law_mirrored" = some (some (.ref f21))) (l21 : K.lookup f21 = some ⟨oc21, od21, .func (PySem.W.fnOf "_law_mirrored" "_law_mirrored" (defArgs s_law_mirrored) (defBody s_law_mirrored) (defScope s_law_mirrored) .none kV21 dc21 pm21 an21 cd21 ct21), sl21⟩) (c21 : PySem.W.codeIn K cd21 "_law_mirrored" = true) (k21 : PySem.W.keepIn K (.ref f21) = true)
    (a22 : PySem.W.nsIn K mainGlobals "law" = some (some (.ref f22))) (l22 : K.lookup f22 = some ⟨oc22, od22, .func (PySem.W.fnOf "law" "law" (defArgs s_law) (defBody s_law) (defScope s_law) .none kV22 dc22 pm22 an22 cd22 ct22), sl22⟩) (c22 : PySem.W.codeIn K cd22 "law" = true) (k22 : PySem.W.keepIn K (.ref f22) = true)
    (g_LETTERS : PySem.W.nsIn K mainGlobals "LETTERS" = some (some (.str "ab" tk_LETTERS)))
    (g_LETTER_TABLES : PySem.W.nsIn K mainGlobals "LETTER_TABLES" = some (some (.ref p_LETTER_TABLES)))
    (l_LETTER_TABLES : K.lookup p_LETTER_TABLES = some ⟨.type "dict", none, .dict es_LETTER_TABLES n_LETTER_TABLES, #[]⟩)
    (y_LETTER_TABLES : PySem.W.KeysLit w.params es_LETTER_TABLES.toList)
    (e0_LETTER_TABLES : PySem.W.nsIn K p_LETTER_TABLES "a" = some (some (.ref p_LETTER_TABLES_0)))
    (lp_LETTER_TABLES_0 : K.lookup p_LETTER_TABLES_0 = some ⟨.type "tuple", odp_LETTER_TABLES_0, .seq #[.ref p_LETTER_TABLES_0_0, .ref p_LETTER_TABLES_0_1] np_LETTER_TABLES_0, slp_LETTER_TABLES_0⟩)
    (lp_LETTER_TABLES_0_0 : K.lookup p_LETTER_TABLES_0_0 = some ⟨.type "tuple", odp_LETTER_TABLES_0_0, .seq #[.int 2 tk_LETTER_TABLES_0_0_0, .int 1 tk_LETTER_TABLES_0_0_1] np_LETTER_TABLES_0_0, slp_LETTER_TABLES_0_0⟩)
    (lp_LETTER_TABLES_0_1 : K.lookup p_LETTER_TABLES_0_1 = some ⟨.type "tuple", odp_LETTER_TABLES_0_1, .seq #[.int 1 tk_LETTER_TABLES_0_1_0, .int 1 tk_LETTER_TABLES_0_1_1] np_LETTER_TABLES_0_1, slp_LETTER_TABLES_0_1⟩)
    (e1_LETTER_TABLES : PySem.W.nsIn K p_LETTER_TABLES "b" = some (some (.ref p_LETTER_TABLES_1)))
    (lp_LETTER_TABLES_1 : K.lookup p_LETTER_TABLES_1 = some ⟨.type "tuple", odp_LETTER_TABLES_1, .seq #[.ref p_LETTER_TABLES_1_0, .ref p_LETTER_TABLES_1_1] np_LETTER_TABLES_1, slp_LETTER_TABLES_1⟩)
    (lp_LETTER_TABLES_1_0 : K.lookup p_LETTER_TABLES_1_0 = some ⟨.type "tuple", odp_LETTER_TABLES_1_0, .seq #[.int 5 tk_LETTER_TABLES_1_0_0, .int 2 tk_LETTER_TABLES_1_0_1] np_LETTER_TABLES_1_0, slp_LETTER_TABLES_1_0⟩)
    (lp_LETTER_TABLES_1_1 : K.lookup p_LETTER_TABLES_1_1 = some ⟨.type "tuple", odp_LETTER_TABLES_1_1, .seq #[.int 2 tk_LETTER_TABLES_1_1_0, .int 1 tk_LETTER_TABLES_1_1_1] np_LETTER_TABLES_1_1, slp_LETTER_TABLES_1_1⟩)
    (g_MOST_LETTERS : PySem.W.nsIn K mainGlobals "MOST_LETTERS" = some (some (.int 60 tk_MOST_LETTERS)))
    (g_UNIT : PySem.W.nsIn K mainGlobals "UNIT" = some (some (.ref p_UNIT)))
    (lp_UNIT : K.lookup p_UNIT = some ⟨.type "tuple", odp_UNIT, .seq #[.ref p_UNIT_0, .ref p_UNIT_1] np_UNIT, slp_UNIT⟩)
    (lp_UNIT_0 : K.lookup p_UNIT_0 = some ⟨.type "tuple", odp_UNIT_0, .seq #[.int 1 tk_UNIT_0_0, .int 0 tk_UNIT_0_1] np_UNIT_0, slp_UNIT_0⟩)
    (lp_UNIT_1 : K.lookup p_UNIT_1 = some ⟨.type "tuple", odp_UNIT_1, .seq #[.int 0 tk_UNIT_1_0, .int 1 tk_UNIT_1_1] np_UNIT_1, slp_UNIT_1⟩)
    (z_abs : PySem.W.nsIn K mainGlobals "abs" = some none)
    (z_all : PySem.W.nsIn K mainGlobals "all" = some none)
    (z_bool : PySem.W.nsIn K mainGlobals "bool" = some none)
    (z_int : PySem.W.nsIn K mainGlobals "int" = some none)
    (z_isinstance : PySem.W.nsIn K mainGlobals "isinstance" = some none)
    (z_len : PySem.W.nsIn K mainGlobals "len" = some none)
    (z_max : PySem.W.nsIn K mainGlobals "max" = some none)
    (z_min : PySem.W.nsIn K mainGlobals "min" = some none)
    (z_range : PySem.W.nsIn K mainGlobals "range" = some none)
    (z_str : PySem.W.nsIn K mainGlobals "str" = some none)
    (z_tuple : PySem.W.nsIn K mainGlobals "tuple" = some none)
    : ∃ fd : FuncData, (∀ (s : Shared) (v : Value), BindsTo s fd ⟨[v], []⟩ [("_law_script", v)]) ∧ ∀ base : Heap, K.In base → base.Ns mainGlobals mg → FnOk P w K mg base (L2.CX P w) 8 fa fd ["_law_script"] (upF K spLawD) := by
  have e := hfa.symm.trans (PySem.W.mg_of X G a22)
  cases e
  have F0 := fun_mk (st := s_is_whole) l0 c0 k0
  have b0 := F0.binds (ps := ["thing"]) fun _ _ _ _ _ _ us hl => match us, hl with | [_], _ => rfl
  have F1 := fun_mk (st := s_are_wholes) l1 c1 k1
  have b1 := F1.binds (ps := ["things"]) fun _ _ _ _ _ _ us hl => match us, hl with | [_], _ => rfl
  have F2 := fun_mk (st := s_is_word) l2 c2 k2
  have b2 := F2.binds (ps := ["thing"]) fun _ _ _ _ _ _ us hl => match us, hl with | [_], _ => rfl
  have F3 := fun_mk (st := s_look_word) l3 c3 k3
  have b3 := F3.binds (ps := ["thing"]) fun _ _ _ _ _ _ us hl => match us, hl with | [_], _ => rfl
  have F4 := fun_mk (st := s_is_pair_of) l4 c4 k4
  have b4 := F4.binds (ps := ["thing"]) fun _ _ _ _ _ _ us hl => match us, hl with | [_], _ => rfl
  have F5 := fun_mk (st := s_is_table) l5 c5 k5
  have b5 := F5.binds (ps := ["thing"]) fun _ _ _ _ _ _ us hl => match us, hl with | [_], _ => rfl
  have F6 := fun_mk (st := s_size_of) l6 c6 k6
  have b6 := F6.binds (ps := ["table"]) fun _ _ _ _ _ _ us hl => match us, hl with | [_], _ => rfl
  have F7 := fun_mk (st := s_is_turning) l7 c7 k7
  have b7 := F7.binds (ps := ["thing"]) fun _ _ _ _ _ _ us hl => match us, hl with | [_], _ => rfl
  have F8 := fun_mk (st := s_look_turning) l8 c8 k8
  have b8 := F8.binds (ps := ["thing"]) fun _ _ _ _ _ _ us hl => match us, hl with | [_], _ => rfl
  have F9 := fun_mk (st := s_joined) l9 c9 k9
  have b9 := F9.binds (ps := ["one", "other"]) fun _ _ _ _ _ _ us hl => match us, hl with | [_, _], _ => rfl
  have F10 := fun_mk (st := s_contrary_by) l10 c10 k10
  have b10 := F10.binds (ps := ["table"]) fun _ _ _ _ _ _ us hl => match us, hl with | [_], _ => rfl
  have F11 := fun_mk (st := s_contrary) l11 c11 k11
  have b11 := F11.binds (ps := ["table"]) fun _ _ _ _ _ _ us hl => match us, hl with | [_], _ => rfl
  have F12 := fun_mk (st := s_table_by) l12 c12 k12
  have b12 := F12.binds (ps := ["word"]) fun _ _ _ _ _ _ us hl => match us, hl with | [_], _ => rfl
  have F13 := fun_mk (st := s_table_of) l13 c13 k13
  have b13 := F13.binds (ps := ["word"]) fun _ _ _ _ _ _ us hl => match us, hl with | [_], _ => rfl
  have F14 := fun_mk (st := s_first_letter) l14 c14 k14
  have b14 := F14.binds (ps := ["table"]) fun _ _ _ _ _ _ us hl => match us, hl with | [_], _ => rfl
  have F15 := fun_mk (st := s_word_of) l15 c15 k15
  have b15 := F15.binds (ps := ["table"]) fun _ _ _ _ _ _ us hl => match us, hl with | [_], _ => rfl
  have F16 := fun_mk (st := s_law_urn) l16 c16 k16
  have b16 := F16.binds (ps := ["_law_script", "_law_at"]) fun _ _ _ _ _ _ us hl => match us, hl with | [_, _], _ => rfl
  have F17 := fun_mk (st := s_law_draw) l17 c17 k17
  have b17 := F17.binds (ps := ["_law_urn_here", "_law_wide"]) fun _ _ _ _ _ _ us hl => match us, hl with | [_, _], _ => rfl
  have F18 := fun_mk (st := s_law_even_word) l18 c18 k18
  have b18 := F18.binds (ps := ["_law_bs", "_law_others"]) fun _ _ _ _ _ _ us hl => match us, hl with | [_, _], _ => rfl
  have F19 := fun_mk (st := s_law_word) l19 c19 k19
  have b19 := F19.binds (ps := ["_law_urn_here", "_law_most"]) fun _ _ _ _ _ _ us hl => match us, hl with | [_, _], _ => rfl
  have F20 := fun_mk (st := s_law_is_parted) l20 c20 k20
  have b20 := F20.binds (ps := ["_law_word_here", "_law_at"]) fun _ _ _ _ _ _ us hl => match us, hl with | [_, _], _ => rfl
  have F21 := fun_mk (st := s_law_mirrored) l21 c21 k21
  have b21 := F21.binds (ps := ["_law_table"]) fun _ _ _ _ _ _ us hl => match us, hl with | [_], _ => rfl
  have F22 := fun_mk (st := s_law) l22 c22 k22
  have b22 := F22.binds (ps := ["_law_script"]) fun _ _ _ _ _ _ us hl => match us, hl with | [_], _ => rfl
  let T : Txt w K mg := {
    f_is_whole := f0, fd_is_whole := _, F_is_whole := F0, m_is_whole := PySem.W.mg_of X G a0, b_is_whole := b0,
    f_are_wholes := f1, fd_are_wholes := _, F_are_wholes := F1, m_are_wholes := PySem.W.mg_of X G a1, b_are_wholes := b1,
    f_is_word := f2, fd_is_word := _, F_is_word := F2, m_is_word := PySem.W.mg_of X G a2, b_is_word := b2,
    f_look_word := f3, fd_look_word := _, F_look_word := F3, m_look_word := PySem.W.mg_of X G a3, b_look_word := b3,
    f_is_pair_of := f4, fd_is_pair_of := _, F_is_pair_of := F4, m_is_pair_of := PySem.W.mg_of X G a4, b_is_pair_of := b4,
    f_is_table := f5, fd_is_table := _, F_is_table := F5, m_is_table := PySem.W.mg_of X G a5, b_is_table := b5,
    f_size_of := f6, fd_size_of := _, F_size_of := F6, m_size_of := PySem.W.mg_of X G a6, b_size_of := b6,
    f_is_turning := f7, fd_is_turning := _, F_is_turning := F7, m_is_turning := PySem.W.mg_of X G a7, b_is_turning := b7,
    f_look_turning := f8, fd_look_turning := _, F_look_turning := F8, m_look_turning := PySem.W.mg_of X G a8, b_look_turning := b8,
    f_joined := f9, fd_joined := _, F_joined := F9, m_joined := PySem.W.mg_of X G a9, b_joined := b9,
    f_contrary_by := f10, fd_contrary_by := _, F_contrary_by := F10, m_contrary_by := PySem.W.mg_of X G a10, b_contrary_by := b10,
    f_contrary := f11, fd_contrary := _, F_contrary := F11, m_contrary := PySem.W.mg_of X G a11, b_contrary := b11,
    f_table_by := f12, fd_table_by := _, F_table_by := F12, m_table_by := PySem.W.mg_of X G a12, b_table_by := b12,
    f_table_of := f13, fd_table_of := _, F_table_of := F13, m_table_of := PySem.W.mg_of X G a13, b_table_of := b13,
    f_first_letter := f14, fd_first_letter := _, F_first_letter := F14, m_first_letter := PySem.W.mg_of X G a14, b_first_letter := b14,
    f_word_of := f15, fd_word_of := _, F_word_of := F15, m_word_of := PySem.W.mg_of X G a15, b_word_of := b15,
    f_law_urn := f16, fd_law_urn := _, F_law_urn := F16, m_law_urn := PySem.W.mg_of X G a16, b_law_urn := b16,
    f_law_draw := f17, fd_law_draw := _, F_law_draw := F17, m_law_draw := PySem.W.mg_of X G a17, b_law_draw := b17,
    f_law_even_word := f18, fd_law_even_word := _, F_law_even_word := F18, m_law_even_word := PySem.W.mg_of X G a18, b_law_even_word := b18,
    f_law_word := f19, fd_law_word := _, F_law_word := F19, m_law_word := PySem.W.mg_of X G a19, b_law_word := b19,
    f_law_is_parted := f20, fd_law_is_parted := _, F_law_is_parted := F20, m_law_is_parted := PySem.W.mg_of X G a20, b_law_is_parted := b20,
    f_law_mirrored := f21, fd_law_mirrored := _, F_law_mirrored := F21, m_law_mirrored := PySem.W.mg_of X G a21, b_law_mirrored := b21,
    f_law := fa, fd_law := _, F_law := F22, m_law := PySem.W.mg_of X G a22, b_law := b22,
    v_LETTERS := .str "ab",
    u_LETTERS := _,
    m_LETTERS := PySem.W.mg_of X G g_LETTERS,
    r_LETTERS := ⟨_, rfl⟩,
    k_LETTERS := fun _ _ => rfl,
    a_LETTER_TABLES := p_LETTER_TABLES,
    m_LETTER_TABLES := PySem.W.mg_of X G g_LETTER_TABLES,
    k_LETTER_TABLES := fun z d e => by
      unfold k_LETTER_TABLES at e
      split at e
      · rename_i hz
        rw [← Option.some.inj e, hz]
        exact ⟨.ref p_LETTER_TABLES_0, ⟨_, _, _, l_LETTER_TABLES, y_LETTER_TABLES, e0_LETTER_TABLES, rfl⟩, fun H S => (rp_ktup (vs := [.ref p_LETTER_TABLES_0_0, .ref p_LETTER_TABLES_0_1]) lp_LETTER_TABLES_0 (by show 2 ≤ 1000; decide) (.cons rfl (.cons rfl .nil)) (rpL_cons (rp_ktup (vs := [.int 2, .int 1]) lp_LETTER_TABLES_0_0 (by show 2 ≤ 1000; decide) (.cons ⟨_, rfl⟩ (.cons ⟨_, rfl⟩ .nil)) (rpL_cons rfl (rpL_cons rfl rpL_nil))) (rpL_cons (rp_ktup (vs := [.int 1, .int 1]) lp_LETTER_TABLES_0_1 (by show 2 ≤ 1000; decide) (.cons ⟨_, rfl⟩ (.cons ⟨_, rfl⟩ .nil)) (rpL_cons rfl (rpL_cons rfl rpL_nil))) rpL_nil)))⟩
      split at e
      · rename_i hz
        rw [← Option.some.inj e, hz]
        exact ⟨.ref p_LETTER_TABLES_1, ⟨_, _, _, l_LETTER_TABLES, y_LETTER_TABLES, e1_LETTER_TABLES, rfl⟩, fun H S => (rp_ktup (vs := [.ref p_LETTER_TABLES_1_0, .ref p_LETTER_TABLES_1_1]) lp_LETTER_TABLES_1 (by show 2 ≤ 1000; decide) (.cons rfl (.cons rfl .nil)) (rpL_cons (rp_ktup (vs := [.int 5, .int 2]) lp_LETTER_TABLES_1_0 (by show 2 ≤ 1000; decide) (.cons ⟨_, rfl⟩ (.cons ⟨_, rfl⟩ .nil)) (rpL_cons rfl (rpL_cons rfl rpL_nil))) (rpL_cons (rp_ktup (vs := [.int 2, .int 1]) lp_LETTER_TABLES_1_1 (by show 2 ≤ 1000; decide) (.cons ⟨_, rfl⟩ (.cons ⟨_, rfl⟩ .nil)) (rpL_cons rfl (rpL_cons rfl rpL_nil))) rpL_nil)))⟩
      exact absurd e (by simp),
    v_MOST_LETTERS := .int 60,
    u_MOST_LETTERS := _,
    m_MOST_LETTERS := PySem.W.mg_of X G g_MOST_LETTERS,
    r_MOST_LETTERS := ⟨_, rfl⟩,
    k_MOST_LETTERS := fun _ _ => rfl,
    v_UNIT := .ref p_UNIT,
    u_UNIT := _,
    m_UNIT := PySem.W.mg_of X G g_UNIT,
    r_UNIT := rfl,
    k_UNIT := fun _ _ => (rp_ktup (vs := [.ref p_UNIT_0, .ref p_UNIT_1]) lp_UNIT (by show 2 ≤ 1000; decide) (.cons rfl (.cons rfl .nil)) (rpL_cons (rp_ktup (vs := [.int 1, .int 0]) lp_UNIT_0 (by show 2 ≤ 1000; decide) (.cons ⟨_, rfl⟩ (.cons ⟨_, rfl⟩ .nil)) (rpL_cons rfl (rpL_cons rfl rpL_nil))) (rpL_cons (rp_ktup (vs := [.int 0, .int 1]) lp_UNIT_1 (by show 2 ≤ 1000; decide) (.cons ⟨_, rfl⟩ (.cons ⟨_, rfl⟩ .nil)) (rpL_cons rfl (rpL_cons rfl rpL_nil))) rpL_nil))),
    n_abs := PySem.W.mg_none_of X G z_abs,
    n_all := PySem.W.mg_none_of X G z_all,
    n_bool := PySem.W.mg_none_of X G z_bool,
    n_int := PySem.W.mg_none_of X G z_int,
    n_isinstance := PySem.W.mg_none_of X G z_isinstance,
    n_len := PySem.W.mg_none_of X G z_len,
    n_max := PySem.W.mg_none_of X G z_max,
    n_min := PySem.W.mg_none_of X G z_min,
    n_range := PySem.W.mg_none_of X G z_range,
    n_str := PySem.W.mg_none_of X G z_str,
    n_tuple := PySem.W.mg_none_of X G z_tuple
  }
  exact ⟨_, fun s v => .of_eq rfl, fun base _ _ => ok_law T⟩

end K25
open PySem PySem.W PyProof.Rows
set_option maxRecDepth 100000 in
set_option maxHeartbeats 0 in
theorem PySem.Challenge.cw_nearthrees_k25_whole_words_put_together_holds : PySem.Challenge.rw_nearthrees_k25_whole_words_put_together.Holds := by
  w_on; o_law; k_head; (case hw => w_witness2)
  k_fill
  refine L2.walk_of (l := PySem.Challenge.rw_nearthrees_k25_whole_words_put_together) (n := 63) (k := 8) (x := "_law_script") (CX := fun w => L2.CX (PySem.Challenge.rw_nearthrees_k25_whole_words_put_together).prog w) (sp := fun w => Dv.upF _ Dv.spLawD) rfl (by decide) rfl ⟨rfl, by decide, by decide⟩ (fun w h Y => PySem.W.kIn_of Y) ?F (fun _ _ a ns hl _ hS => Dv.law_start hS hl) fun _ _ _ _ _ z => Dv.CX_no z
  case F =>
    intro w mg fa h KX G hmg
    refine' K25.all_mk KX G hmg ?a0 ?l0 ?c0 ?k0 ?a1 ?l1 ?c1 ?k1 ?a2 ?l2 ?c2 ?k2 ?a3 ?l3 ?c3 ?k3 ?a4 ?l4 ?c4 ?k4 ?a5 ?l5 ?c5 ?k5 ?a6 ?l6 ?c6 ?k6 ?a7 ?l7 ?c7 ?k7 ?a8 ?l8 ?c8 ?k8 ?a9 ?l9 ?c9 ?k9 ?a10 ?l10 ?c10 ?k10 ?a11 ?l11 ?c11 ?k11 ?a12 ?l12 ?c12 ?k12 ?a13 ?l13 ?c13 ?k13 ?a14 ?l14 ?c14 ?k14 ?a15 ?l15 ?c15 ?k15 ?a16 ?l16 ?c16 ?k16 ?a17 ?l17 ?c17 ?k17 ?a18 ?l18 ?c18 ?k18 ?a19 ?l19 ?c19 ?k19 ?a20 ?l20 ?c20 ?k20 ?a21 ?l21 ?c21 ?k21 ?a22 ?l22 ?c22 ?k22 ?g_LETTERS ?g_LETTER_TABLES ?l_LETTER_TABLES ?y_LETTER_TABLES ?e0_LETTER_TABLES ?lp_LETTER_TABLES_0 ?lp_LETTER_TABLES_0_0 ?lp_LETTER_TABLES_0_1 ?e1_LETTER_TABLES ?lp_LETTER_TABLES_1 ?lp_LETTER_TABLES_1_0 ?lp_LETTER_TABLES_1_1 ?g_MOST_LETTERS ?g_UNIT ?lp_UNIT ?lp_UNIT_0 ?lp_UNIT_1 ?z_abs ?z_all ?z_bool ?z_int ?z_isinstance ?z_len ?z_max ?z_min ?z_range ?z_str ?z_tuple
    (case a0 => k_is)
    (case l0 => k_is)
    (case c0 => k_is)
    (case k0 => k_is)
    (case a1 => k_is)
    (case l1 => k_is)
    (case c1 => k_is)
    (case k1 => k_is)
    (case a2 => k_is)
    (case l2 => k_is)
    (case c2 => k_is)
    (case k2 => k_is)
    (case a3 => k_is)
    (case l3 => k_is)
    (case c3 => k_is)
    (case k3 => k_is)
    (case a4 => k_is)
    (case l4 => k_is)
    (case c4 => k_is)
    (case k4 => k_is)
    (case a5 => k_is)
    (case l5 => k_is)
    (case c5 => k_is)
    (case k5 => k_is)
    (case a6 => k_is)
    (case l6 => k_is)
    (case c6 => k_is)
    (case k6 => k_is)
    (case a7 => k_is)
    (case l7 => k_is)
    (case c7 => k_is)
    (case k7 => k_is)
    (case a8 => k_is)
    (case l8 => k_is)
    (case c8 => k_is)
    (case k8 => k_is)
    (case a9 => k_is)
    (case l9 => k_is)
    (case c9 => k_is)
    (case k9 => k_is)
    (case a10 => k_is)
    (case l10 => k_is)
    (case c10 => k_is)
    (case k10 => k_is)
    (case a11 => k_is)
    (case l11 => k_is)
    (case c11 => k_is)
    (case k11 => k_is)
    (case a12 => k_is)
    (case l12 => k_is)
    (case c12 => k_is)
    (case k12 => k_is)
    (case a13 => k_is)
    (case l13 => k_is)
    (case c13 => k_is)
    (case k13 => k_is)
    (case a14 => k_is)
    (case l14 => k_is)
    (case c14 => k_is)
    (case k14 => k_is)
    (case a15 => k_is)
    (case l15 => k_is)
    (case c15 => k_is)
    (case k15 => k_is)
    (case a16 => k_is)
    (case l16 => k_is)
    (case c16 => k_is)
    (case k16 => k_is)
    (case a17 => k_is)
    (case l17 => k_is)
    (case c17 => k_is)
    (case k17 => k_is)
    (case a18 => k_is)
    (case l18 => k_is)
    (case c18 => k_is)
    (case k18 => k_is)
    (case a19 => k_is)
    (case l19 => k_is)
    (case c19 => k_is)
    (case k19 => k_is)
    (case a20 => k_is)
    (case l20 => k_is)
    (case c20 => k_is)
    (case k20 => k_is)
    (case a21 => k_is)
    (case l21 => k_is)
    (case c21 => k_is)
    (case k21 => k_is)
    (case a22 => k_is)
    (case l22 => k_is)
    (case c22 => k_is)
    (case k22 => k_is)
    (case g_LETTERS => k_is)
    (case g_LETTER_TABLES => k_is)
    (case l_LETTER_TABLES => k_is)
    (case y_LETTER_TABLES => exact ⟨⟨_, _, rfl, rfl⟩, ⟨_, _, rfl, rfl⟩, trivial⟩)
    (case e0_LETTER_TABLES => k_is)
    (case lp_LETTER_TABLES_0 => k_is)
    (case lp_LETTER_TABLES_0_0 => k_is)
    (case lp_LETTER_TABLES_0_1 => k_is)
    (case e1_LETTER_TABLES => k_is)
    (case lp_LETTER_TABLES_1 => k_is)
    (case lp_LETTER_TABLES_1_0 => k_is)
    (case lp_LETTER_TABLES_1_1 => k_is)
    (case g_MOST_LETTERS => k_is)
    (case g_UNIT => k_is)
    (case lp_UNIT => k_is)
    (case lp_UNIT_0 => k_is)
    (case lp_UNIT_1 => k_is)
    (case z_abs => k_is)
    (case z_all => k_is)
    (case z_bool => k_is)
    (case z_int => k_is)
    (case z_isinstance => k_is)
    (case z_len => k_is)
    (case z_max => k_is)
    (case z_min => k_is)
    (case z_range => k_is)
    (case z_str => k_is)
    (case z_tuple => k_is)
#print axioms PySem.Challenge.cw_nearthrees_k25_whole_words_put_together_holds
