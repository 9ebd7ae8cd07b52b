import PyProof.Rows.All
import Wide.All
import OpenK.AllK
import Wide.FinOn
import KE.KStateDown
import Lean
import HandS.ForMost
import HandS.Flow
import HandS.TupAny
import HandS.TupMul
import HandS.Deep
import HandS.IsInst
import HandS.TupLe
import HandS.Steps
import HandS.More
import HandS.Defaults
import PyProof.Rows.StrJoinRep
import HandS.Text
import HandS.ForExc
import HandS.Head0
import HandS.Head1
import HandS.Head2
import HandS.HeadEnd
import HandS.HeadHook1
import HandS.HeadHook2
import HandS.HeadHook3
import HandS.HeadHook4
import PySem.Challenge.RW_placewords_k18_expression_text
set_option Elab.async false
set_option linter.all false
set_option maxRecDepth 100000
set_option maxHeartbeats 0
namespace Pw
open PySem PySem.Spec L2

/-! ### data, trees of what is owned -/
inductive D where
  | non | bl (b : Bool) | int (i : Int) | str (x : Str)
  | lst (xs : List D) | tup (xs : List D) | obj (C : Addr) (fs : List (Str × D)) | scr (ns : List Int)
inductive OV where
  | dat (d : D) | lst (xs : List OV) | obj (C : Addr) (fs : List (Str × OV)) | dic (kvs : List (D × OV))

inductive Rep (K : PySem.W.Frag) (G : Hp) : V → D → Prop
  | non : Rep K G .non .non
  | bl (b : Bool) : Rep K G (.bl b) (.bl b)
  | int (i : Int) : Rep K G (.int i) (.int i)
  | str (x : Str) : Rep K G (.str x) (.str x)
  | lst {a : Addr} {vs : List V} {ds : List D} : G a = some (.lst vs) → vs.length = ds.length → (∀ (i : Nat) v d, vs[i]? = some v → ds[i]? = some d → Rep K G v d) → Rep K G (.ref a) (.lst ds)
  | tup {a : Addr} {vs : List V} {ds : List D} : SqT K G a vs → vs.length = ds.length → (∀ (i : Nat) v d, vs[i]? = some v → ds[i]? = some d → Rep K G v d) → Rep K G (.ref a) (.tup ds)
  | obj {a C dx : Addr} {fs : List (Str × V)} {ds : List (Str × D)} : G a = some (.ins C dx fs) → fs.map (·.1) = ds.map (·.1) → (∀ (i : Nat) v d, (fs.map (·.2))[i]? = some v → (ds.map (·.2))[i]? = some d → Rep K G v d) → Rep K G (.ref a) (.obj C ds)
  | scr {a : Addr} {ns : List Int} : SqL K G a (ns.map V.int) → Rep K G (.ref a) (.scr ns)

structure RepL (K : PySem.W.Frag) (G : Hp) (vs : List V) (ds : List D) : Prop where
  len : vs.length = ds.length
  at_ : ∀ (i : Nat) v d, vs[i]? = some v → ds[i]? = some d → Rep K G v d

theorem seqT {K : PySem.W.Frag} {H H' : Hp} {a : Addr} {xs : List V} (e : Same H H') (h : SqT K H a xs) : SqT K H' a xs := by
  rcases h with (h | ⟨o, h⟩) | h
  · exact .inl (.inl (e _ _ h))
  · exact .inl (.inr ⟨o, e _ _ h⟩)
  · exact .inr h

section
variable {K : PySem.W.Frag} {G G' H H' : Hp}
theorem Rep.mono {v : V} {d : D} (r : Rep K G v d) (e : Same G G') : Rep K G' v d := by
  induction r with
  | non => exact .non
  | bl b => exact .bl b
  | int i => exact .int i
  | str x => exact .str x
  | lst h l _ ih => exact .lst (e _ _ h) l ih
  | scr h => exact .scr (e.seq h)
  | tup h l _ ih => exact .tup (seqT e h) l ih
  | obj h l _ ih => exact .obj (e _ _ h) l ih
theorem RepL.mono {vs : List V} {ds : List D} (r : RepL K G vs ds) (e : Same G G') : RepL K G' vs ds := ⟨r.len, fun i v d h1 h2 => (r.at_ i v d h1 h2).mono e⟩
theorem RepL.nil : RepL K G [] [] := ⟨rfl, fun i v d h _ => by simp at h⟩
theorem RepL.cons {v : V} {d : D} {vs : List V} {ds : List D} (h : Rep K G v d) (t : RepL K G vs ds) : RepL K G (v :: vs) (d :: ds) := ⟨by simp [t.len], fun i w e h1 h2 => by
  cases i with
  | zero => simp at h1 h2; subst h1 h2; exact h
  | succ i => simp at h1 h2; exact t.at_ i w e h1 h2⟩
theorem RepL.append {vs ws : List V} {ds es : List D} (h : RepL K G vs ds) (t : RepL K G ws es) : RepL K G (vs ++ ws) (ds ++ es) := ⟨by simp [h.len, t.len], fun i w e h1 h2 => by
  have hl := h.len
  by_cases q : i < vs.length
  · rw [List.getElem?_append_left q] at h1
    rw [List.getElem?_append_left (by omega)] at h2
    exact h.at_ i w e h1 h2
  · rw [List.getElem?_append_right (by omega)] at h1
    rw [List.getElem?_append_right (by omega)] at h2
    rw [hl] at h1
    exact t.at_ _ w e h1 h2⟩
theorem RepL.cases_cons {vs : List V} {d : D} {ds : List D} (r : RepL K G vs (d :: ds)) : ∃ v ws, vs = v :: ws ∧ Rep K G v d ∧ RepL K G ws ds := by
  cases vs with
  | nil => have := r.len; simp at this
  | cons v ws => exact ⟨v, ws, rfl, r.at_ 0 v d rfl rfl, ⟨by have := r.len; simpa using this, fun i w e h1 h2 => r.at_ (i + 1) w e h1 h2⟩⟩
theorem RepL.cases_nil {vs : List V} (r : RepL K G vs []) : vs = [] := List.eq_nil_of_length_eq_zero (by have := r.len; simpa using this)
theorem RepL.get {vs : List V} {ds : List D} {i : Nat} {d : D} (r : RepL K G vs ds) (h : ds[i]? = some d) : ∃ v, vs[i]? = some v ∧ Rep K G v d := by
  obtain ⟨hi, _⟩ := List.getElem?_eq_some_iff.mp h
  have hl := r.len
  have hv : vs[i]? = some vs[i] := List.getElem?_eq_getElem (by omega)
  exact ⟨_, hv, r.at_ i _ d hv h⟩
/-- the same list of numbers -/
theorem RepL.ints {ns : List Int} : ∀ {vs : List V}, RepL K G vs (ns.map D.int) → vs = ns.map V.int := by
  induction ns with
  | nil => intro vs r; exact r.cases_nil
  | cons n ns ih =>
    intro vs r
    obtain ⟨v, ws, rfl, h1, h2⟩ := r.cases_cons
    cases h1
    rw [ih h2]; rfl
theorem repL_ints (ns : List Int) : RepL K G (ns.map V.int) (ns.map D.int) := by
  induction ns with
  | nil => exact .nil
  | cons n ns ih => exact .cons (.int n) ih
end

/-! ### ownership -/
def keyD : Key → D
  | .inl i => .int i
  | .inr x => .str x
def DicV (H : Hp) (a : Addr) (kvs : List (D × V)) : Prop :=
  (∃ k : List (Key × V), H a = some (.dK k) ∧ kvs = k.map fun p => (keyD p.1, p.2)) ∨
  (∃ k : List (List Key × V), H a = some (.dT k) ∧ kvs = k.map fun p => (.tup (p.1.map keyD), p.2))
mutual
inductive Own (K : PySem.W.Frag) (G H : Hp) : OV → V → List Addr → Prop
  | dat {d : D} {v : V} : Rep K G v d → Own K G H (.dat d) v []
  | lst {a : Addr} {vs : List V} {xs : List OV} {S : List Addr} : H a = some (.lst vs) → G a = none → OwnL K G H xs vs S → Own K G H (.lst xs) (.ref a) (a :: S)
  | obj {a C dx : Addr} {fs : List (Str × V)} {os : List (Str × OV)} {S : List Addr} : H a = some (.ins C dx fs) → G a = none → fs.map (·.1) = os.map (·.1) → OwnL K G H (os.map (·.2)) (fs.map (·.2)) S → Own K G H (.obj C os) (.ref a) (a :: S)
  | dic {a : Addr} {kvs : List (D × V)} {os : List (D × OV)} {S : List Addr} : DicV H a kvs → G a = none → kvs.map (·.1) = os.map (·.1) → OwnL K G H (os.map (·.2)) (kvs.map (·.2)) S → Own K G H (.dic os) (.ref a) (a :: S)
inductive OwnL (K : PySem.W.Frag) (G H : Hp) : List OV → List V → List Addr → Prop
  | nil : OwnL K G H [] [] []
  | cons {x : OV} {v : V} {xs : List OV} {vs : List V} {S T : List Addr} : Own K G H x v S → OwnL K G H xs vs T → OwnL K G H (x :: xs) (v :: vs) (S ++ T)
end
/-- slots -/
abbrev Dl := List (Option OV)
inductive Sta (K : PySem.W.Frag) (G H : Hp) : Dl → St → List Addr → Prop
  | nil : Sta K G H [] [] []
  | un {δ : Dl} {σ : St} {w : Option V} {S : List Addr} : Sta K G H δ σ S → Sta K G H (none :: δ) (w :: σ) S
  | sl {x : OV} {v : V} {δ : Dl} {σ : St} {S T : List Addr} : Own K G H x v S → Sta K G H δ σ T → Sta K G H (some x :: δ) (some v :: σ) (S ++ T)

section
variable {K : PySem.W.Frag} {G G' H H' : Hp}
theorem DicV.eq {a : Addr} {kvs : List (D × V)} (h : DicV H a kvs) (e : H' a = H a) : DicV H' a kvs := by
  rcases h with ⟨k, h, r⟩ | ⟨k, h, r⟩
  · exact .inl ⟨k, by rw [e]; exact h, r⟩
  · exact .inr ⟨k, by rw [e]; exact h, r⟩
mutual
theorem Own.frame (e : Same G G') : ∀ {x : OV} {v : V} {S : List Addr}, Own K G H x v S → (∀ b ∈ S, H' b = H b ∧ G' b = none) → Own K G' H' x v S
  | _, _, _, .dat r, _ => .dat (r.mono e)
  | _, _, _, .lst h g t, k => .lst (by rw [(k _ List.mem_cons_self).1]; exact h) (k _ List.mem_cons_self).2 (t.frame e fun b hb => k b (List.mem_cons_of_mem _ hb))
  | _, _, _, .obj h g l t, k => .obj (by rw [(k _ List.mem_cons_self).1]; exact h) (k _ List.mem_cons_self).2 l (t.frame e fun b hb => k b (List.mem_cons_of_mem _ hb))
  | _, _, _, .dic h g l t, k => .dic (h.eq (k _ List.mem_cons_self).1) (k _ List.mem_cons_self).2 l (t.frame e fun b hb => k b (List.mem_cons_of_mem _ hb))
theorem OwnL.frame (e : Same G G') : ∀ {xs : List OV} {vs : List V} {S : List Addr}, OwnL K G H xs vs S → (∀ b ∈ S, H' b = H b ∧ G' b = none) → OwnL K G' H' xs vs S
  | _, _, _, .nil, _ => .nil
  | _, _, _, .cons h t, k => .cons (h.frame e fun b hb => k b (List.mem_append_left _ hb)) (t.frame e fun b hb => k b (List.mem_append_right _ hb))
end
theorem Sta.frame (e : Same G G') : ∀ {δ : Dl} {σ : St} {S : List Addr}, Sta K G H δ σ S → (∀ b ∈ S, H' b = H b ∧ G' b = Option.none) → Sta K G' H' δ σ S
  | _, _, _, .nil, _ => .nil
  | _, _, _, .un t, k => .un (t.frame e k)
  | _, _, _, .sl h t, k => .sl (h.frame e fun b hb => k b (List.mem_append_left _ hb)) (t.frame e fun b hb => k b (List.mem_append_right _ hb))
theorem DicV.ne {a : Addr} {kvs : List (D × V)} (h : DicV H a kvs) : H a ≠ none := by
  rcases h with ⟨k, h, r⟩ | ⟨k, h, r⟩ <;> rw [h] <;> simp
mutual
theorem Own.foot : ∀ {x : OV} {v : V} {S : List Addr}, Own K G H x v S → ∀ b ∈ S, H b ≠ none ∧ G b = none
  | _, _, _, .dat r, b, hb => by simp at hb
  | _, _, _, .lst h g t, b, hb => by
    rcases List.mem_cons.mp hb with rfl | hb
    · exact ⟨by rw [h]; simp, g⟩
    · exact t.foot b hb
  | _, _, _, .obj h g l t, b, hb => by
    rcases List.mem_cons.mp hb with rfl | hb
    · exact ⟨by rw [h]; simp, g⟩
    · exact t.foot b hb
  | _, _, _, .dic h g l t, b, hb => by
    rcases List.mem_cons.mp hb with rfl | hb
    · exact ⟨h.ne, g⟩
    · exact t.foot b hb
theorem OwnL.foot : ∀ {xs : List OV} {vs : List V} {S : List Addr}, OwnL K G H xs vs S → ∀ b ∈ S, H b ≠ none ∧ G b = none
  | _, _, _, .nil, b, hb => by simp at hb
  | _, _, _, .cons h t, b, hb => by
    rcases List.mem_append.mp hb with hb | hb
    · exact h.foot b hb
    · exact t.foot b hb
end
theorem Sta.foot : ∀ {δ : Dl} {σ : St} {S : List Addr}, Sta K G H δ σ S → ∀ b ∈ S, H b ≠ Option.none ∧ G b = Option.none
  | _, _, _, .nil, b, hb => by simp at hb
  | _, _, _, .un t, b, hb => t.foot b hb
  | _, _, _, .sl h t, b, hb => by
    rcases List.mem_append.mp hb with hb | hb
    · exact h.foot b hb
    · exact t.foot b hb
theorem Sta.length : ∀ {δ : Dl} {σ : St} {S : List Addr}, Sta K G H δ σ S → δ.length = σ.length
  | _, _, _, .nil => rfl
  | _, _, _, .un t => by simp [t.length]
  | _, _, _, .sl h t => by simp [t.length]

/-! ### how a state goes on -/
structure Ext (S : List Addr) (G H G' H' : Hp) : Prop where
  gg : Same G G'
  gh : Same G' H'
  kp : ∀ b o, b ∉ S → H b = some o → H' b = some o
  dm : ∀ b, H b ≠ none → H' b ≠ none
  fr : ∀ b, b ∉ S → H b ≠ none → G' b = G b
/-- what is owned then was owned or is new -/
def Frs (S S' : List Addr) (H : Hp) : Prop := ∀ b ∈ S', b ∈ S ∨ H b = none
theorem Ext.refl (g : Same G H) {S : List Addr} : Ext S G H G H := ⟨Same.refl G, g, fun _ _ _ h => h, fun _ h => h, fun _ _ _ => rfl⟩
theorem Ext.trans {S S' : List Addr} {G1 H1 G2 H2 : Hp} (a : Ext S G H G1 H1) (b : Ext S' G1 H1 G2 H2) (f : Frs S S' H) : Ext S G H G2 H2 where
  gg := a.gg.trans b.gg
  gh := b.gh
  kp := fun c o hc e => b.kp c o (fun q => by
    rcases f c q with z | z
    · exact hc z
    · rw [z] at e; cases e) (a.kp c o hc e)
  dm := fun c h => b.dm c (a.dm c h)
  fr := fun c hc h => (b.fr c (fun q => by
    rcases f c q with z | z
    · exact hc z
    · exact h z) (a.dm c h)).trans (a.fr c hc h)
theorem Ext.mono {S S' : List Addr} {G1 H1 : Hp} (a : Ext S G H G1 H1) (h : ∀ b ∈ S, b ∈ S') : Ext S' G H G1 H1 := ⟨a.gg, a.gh, fun b o hb e => a.kp b o (fun q => hb (h b q)) e, a.dm, fun b hb e => a.fr b (fun q => hb (h b q)) e⟩
theorem Ext.pure {S : List Addr} {G1 H1 : Hp} (a : Ext [] G H G1 H1) : Ext S G H G1 H1 := a.mono fun _ h => by simp at h
theorem Ext.same {G1 H1 : Hp} (a : Ext [] G H G1 H1) : Same H H1 := fun b o e => a.kp b o (by simp) e
theorem Frs.refl {S : List Addr} : Frs S S H := fun _ h => .inl h
theorem Frs.trans {S S1 S2 T : List Addr} {G1 H1 : Hp} (a : Frs S S1 H) (e : Ext T G H G1 H1) (b : Frs S1 S2 H1) : Frs S S2 H := fun c hc => by
  rcases b c hc with q | q
  · exact a c q
  · right
    cases z : H c with
    | none => rfl
    | some o => exact absurd q (e.dm c (by rw [z]; simp))
/-- what stays apart from S is kept -/
theorem Ext.apart {S T : List Addr} {G1 H1 : Hp} (a : Ext S G H G1 H1) (h : ∀ b ∈ T, b ∉ S ∧ H b ≠ none ∧ G b = none) : ∀ b ∈ T, H1 b = H b ∧ G1 b = none := fun b hb => by
  obtain ⟨h1, h2, h3⟩ := h b hb
  refine ⟨?_, by rw [a.fr b h1 h2]; exact h3⟩
  cases z : H b with
  | none => exact absurd z h2
  | some o => exact a.kp b o h1 z
theorem Own.ext {x : OV} {v : V} {T : List Addr} {G1 H1 : Hp} (h : Own K G H x v T) (a : Ext [] G H G1 H1) : Own K G1 H1 x v T := h.frame a.gg (a.apart fun b hb => ⟨by simp, h.foot b hb⟩)
theorem OwnL.ext {x : List OV} {v : List V} {T : List Addr} {G1 H1 : Hp} (h : OwnL K G H x v T) (a : Ext [] G H G1 H1) : OwnL K G1 H1 x v T := h.frame a.gg (a.apart fun b hb => ⟨by simp, h.foot b hb⟩)
theorem Sta.ext {x : Dl} {v : St} {T : List Addr} {G1 H1 : Hp} (h : Sta K G H x v T) (a : Ext [] G H G1 H1) : Sta K G1 H1 x v T := h.frame a.gg (a.apart fun b hb => ⟨by simp, h.foot b hb⟩)
/-- a new object that never changes -/
theorem Ext.newD {p : Addr} {o : HO} (g : Same G H) (n : H p = none) : Ext [] G H (upd G p o) (upd H p o) := by
  have np : G p = none := g.free n
  refine ⟨fun b u e => ?_, fun b u e => ?_, fun b u _ e => ?_, fun b h => ?_, fun b _ h => ?_⟩
  · rw [upd_ne (ne_of_none e np)]; exact e
  · by_cases q : b = p
    · subst q; rw [upd_same] at e ⊢; exact e
    · rw [upd_ne q] at e ⊢; exact g b u e
  · rw [upd_ne (ne_of_none e n)]; exact e
  · by_cases q : b = p
    · subst q; rw [upd_same]; simp
    · rw [upd_ne q]; exact h
  · rw [upd_ne]
    intro q; subst q; exact h n
/-- a new object that may change -/
theorem Ext.newO {p : Addr} {o : HO} (g : Same G H) (n : H p = none) : Ext [] G H G (upd H p o) := by
  have np : G p = none := g.free n
  refine ⟨Same.refl G, fun b u e => ?_, fun b u _ e => ?_, fun b h => ?_, fun b _ h => rfl⟩
  · rw [upd_ne (ne_of_none e np)]; exact g b u e
  · rw [upd_ne (ne_of_none e n)]; exact e
  · by_cases q : b = p
    · subst q; rw [upd_same]; simp
    · rw [upd_ne q]; exact h
/-- an owned object changes -/
theorem Ext.set {p : Addr} {o : HO} {S : List Addr} (g : Same G H) (h : p ∈ S) (np : G p = none) : Ext S G H G (upd H p o) := by
  refine ⟨Same.refl G, fun b u e => ?_, fun b u hb e => ?_, fun b z => ?_, fun b _ _ => rfl⟩
  · rw [upd_ne (ne_of_none e np)]; exact g b u e
  · rw [upd_ne (fun q => hb (by subst q; exact h))]; exact e
  · by_cases q : b = p
    · subst q; rw [upd_same]; simp
    · rw [upd_ne q]; exact z
/-- freezing: G with what stands at S -/
def frz (G H : Hp) (S : List Addr) : Hp := fun b => if b ∈ S then H b else G b
theorem frz_in {S : List Addr} {b : Addr} (h : b ∈ S) : frz G H S b = H b := by unfold frz; rw [if_pos h]
theorem frz_out {S : List Addr} {b : Addr} (h : b ∉ S) : frz G H S b = G b := by unfold frz; rw [if_neg h]
theorem frz_gg {S : List Addr} (k : ∀ b ∈ S, G b = none) : Same G (frz G H S) := fun b o e => by
  rw [frz_out]; exact e
  intro q; rw [k b q] at e; cases e
theorem frz_gh {S : List Addr} (g : Same G H) : Same (frz G H S) H := fun b o e => by
  by_cases q : b ∈ S
  · rw [frz_in q] at e; exact e
  · rw [frz_out q] at e; exact g b o e
end

/-! ### what is data -/
mutual
def OV.fz : OV → Option D
  | .dat d => some d
  | .lst xs => (OV.fzL xs).map D.lst
  | .obj C fs => (OV.fzF fs).map (D.obj C)
  | .dic _ => none
def OV.fzL : List OV → Option (List D)
  | [] => some []
  | x :: xs => match x.fz, OV.fzL xs with
    | some d, some ds => some (d :: ds)
    | _, _ => none
def OV.fzF : List (Str × OV) → Option (List (Str × D))
  | [] => some []
  | (f, x) :: xs => match x.fz, OV.fzF xs with
    | some d, some ds => some ((f, d) :: ds)
    | _, _ => none
end
theorem fzL_dat : ∀ ds : List D, OV.fzL (ds.map OV.dat) = some ds
  | [] => rfl
  | d :: ds => by simp [OV.fzL, OV.fz, fzL_dat ds]
end Pw
namespace Pw
open PySem PySem.Spec L2
/-! ### taking a slot out of the state and putting it back -/
section
variable {K : PySem.W.Frag} {G G' H H' : Hp}
theorem Sta.get : ∀ {δ : Dl} {σ : L2.St} {S : List Addr} {i : Nat} {x : OV}, Sta K G H δ σ S → δ[i]? = some (some x) →
    ∃ v Si Sr, σ[i]? = some (some v) ∧ Own K G H x v Si ∧ S.Perm (Si ++ Sr) ∧ Sta K G H (δ.set i Option.none) σ Sr
  | _, _, _, _, _, .nil, h => by simp at h
  | _, _, _, 0, x, .un t, h => by simp at h
  | _, _, _, i + 1, x, .un t, h => by
    obtain ⟨v, Si, Sr, h1, h2, h3, h4⟩ := t.get (i := i) (x := x) (by simpa using h)
    exact ⟨v, Si, Sr, by simpa using h1, h2, h3, by simpa using Sta.un h4⟩
  | _, _, _, 0, x, .sl (x := x0) o t, h => by
    have e : x0 = x := by simpa using h
    subst e
    exact ⟨_, _, _, rfl, o, List.Perm.refl _, by simpa using Sta.un t⟩
  | _, _, _, i + 1, x, .sl (S := S0) (T := T0) o t, h => by
    obtain ⟨v, Si, Sr, h1, h2, h3, h4⟩ := t.get (i := i) (x := x) (by simpa using h)
    refine ⟨v, Si, S0 ++ Sr, by simpa using h1, h2, ?_, by simpa using Sta.sl o h4⟩
    exact (List.Perm.append_left S0 h3).trans (by rw [← List.append_assoc, ← List.append_assoc]; exact List.Perm.append_right Sr List.perm_append_comm)
theorem Sta.fill : ∀ {δ : Dl} {σ : L2.St} {S Si : List Addr} {i : Nat} {x : OV} {v : V}, Sta K G H δ σ S → δ[i]? = some Option.none → Own K G H x v Si →
    ∃ S', S'.Perm (Si ++ S) ∧ Sta K G H (δ.set i (some x)) (σ.set i (some v)) S'
  | _, _, _, _, _, _, _, .nil, h, _ => by simp at h
  | _, _, S, Si, 0, x, v, .un t, h, o => ⟨_, List.Perm.refl _, by simpa using Sta.sl o t⟩
  | _, _, S, Si, i + 1, x, v, .un t, h, o => by
    obtain ⟨S', h1, h2⟩ := t.fill (i := i) (by simpa using h) o
    exact ⟨S', h1, by simpa using Sta.un h2⟩
  | _, _, _, _, 0, x, v, .sl o' t, h, o => by simp at h
  | _, _, _, Si, i + 1, x, v, .sl (S := S0) (T := T0) o' t, h, o => by
    obtain ⟨S', h1, h2⟩ := t.fill (i := i) (by simpa using h) o
    refine ⟨S0 ++ S', ?_, by simpa using Sta.sl o' h2⟩
    exact (List.Perm.append_left S0 h1).trans (by rw [← List.append_assoc, ← List.append_assoc]; exact List.Perm.append_right T0 List.perm_append_comm)
/-- a slot forgotten -/
theorem Sta.drop : ∀ {δ : Dl} {σ : L2.St} {S : List Addr} (i : Nat), Sta K G H δ σ S → ∃ Si Sr, S.Perm (Si ++ Sr) ∧ Sta K G H (δ.set i Option.none) σ Sr
  | _, _, _, _, .nil => ⟨[], [], List.Perm.refl _, by simpa using Sta.nil⟩
  | _, _, S, 0, .un t => ⟨[], S, List.Perm.refl _, by simpa using Sta.un t⟩
  | _, _, S, i + 1, .un t => by
    obtain ⟨Si, Sr, h1, h2⟩ := t.drop i
    exact ⟨Si, Sr, h1, by simpa using Sta.un h2⟩
  | _, _, _, 0, .sl o t => ⟨_, _, List.Perm.refl _, by simpa using Sta.un t⟩
  | _, _, _, i + 1, .sl (S := S0) (T := T0) o t => by
    obtain ⟨Si, Sr, h1, h2⟩ := t.drop i
    refine ⟨Si, S0 ++ Sr, ?_, by simpa using Sta.sl o h2⟩
    exact (List.Perm.append_left S0 h1).trans (by rw [← List.append_assoc, ← List.append_assoc]; exact List.Perm.append_right Sr List.perm_append_comm)
/-- an unknown slot may hold anything -/
theorem Sta.wild : ∀ {δ : Dl} {σ : L2.St} {S : List Addr} {i : Nat} {w : Option V}, Sta K G H δ σ S → δ[i]? = some Option.none → Sta K G H δ (σ.set i w) S
  | _, _, _, _, _, .nil, h => by simp at h
  | _, _, S, 0, w, .un t, h => by simpa using Sta.un t
  | _, _, S, i + 1, w, .un t, h => by simpa using Sta.un (t.wild (i := i) (by simpa using h))
  | _, _, _, 0, w, .sl o t, h => by simp at h
  | _, _, _, i + 1, w, .sl o t, h => by simpa using Sta.sl o (t.wild (i := i) (by simpa using h))
theorem set_some {α : Type} {σ : List α} {i : Nat} {v : α} (h : σ[i]? = some v) : σ.set i v = σ := by
  apply List.ext_getElem?
  intro j
  by_cases e : i = j
  · subst e
    obtain ⟨hi, _⟩ := List.getElem?_eq_some_iff.mp h
    rw [List.getElem?_set_self hi, h]
  · rw [List.getElem?_set_ne e]
theorem get_lt {α : Type} {l : List α} {i : Nat} {x : α} (h : l[i]? = some x) : i < l.length := (List.getElem?_eq_some_iff.mp h).1
/-- the node of a slot changed in place -/
theorem Sta.put {δ : Dl} {σ : L2.St} {Sr Si : List Addr} {i : Nat} {x : OV} {v : V} (h : Sta K G H (δ.set i Option.none) σ Sr) (hi : i < δ.length) (hv : σ[i]? = some (some v)) (o : Own K G H x v Si) :
    ∃ S', S'.Perm (Si ++ Sr) ∧ Sta K G H (δ.set i (some x)) σ S' := by
  obtain ⟨S', h1, h2⟩ := h.fill (i := i) (by rw [List.getElem?_set_self hi]) o
  rw [List.set_set, set_some hv] at h2
  exact ⟨S', h1, h2⟩
/-- a slot stored -/
theorem Sta.store {δ : Dl} {σ : L2.St} {S Si : List Addr} {i : Nat} {x : OV} {v : V} (h : Sta K G H δ σ S) (hi : i < δ.length) (o : Own K G H x v Si) :
    ∃ Sd Sr S', S.Perm (Sd ++ Sr) ∧ S'.Perm (Si ++ Sr) ∧ Sta K G H (δ.set i (some x)) (σ.set i (some v)) S' := by
  obtain ⟨Sd, Sr, h1, h2⟩ := h.drop i
  obtain ⟨S', h3, h4⟩ := h2.fill (i := i) (by rw [List.getElem?_set_self hi]) o
  rw [List.set_set] at h4
  exact ⟨Sd, Sr, S', h1, h3, h4⟩
theorem nd_perm {S T : List Addr} (p : S.Perm T) (h : S.Nodup) : T.Nodup := p.nodup_iff.mp h
theorem nd_left {S T : List Addr} (h : (S ++ T).Nodup) : S.Nodup := (List.nodup_append.mp h).1
theorem nd_right {S T : List Addr} (h : (S ++ T).Nodup) : T.Nodup := (List.nodup_append.mp h).2.1
theorem nd_app {S T : List Addr} (h1 : S.Nodup) (h2 : T.Nodup) (h3 : ∀ b ∈ S, b ∉ T) : (S ++ T).Nodup := List.nodup_append.mpr ⟨h1, h2, fun a ha b hb e => h3 a ha (e ▸ hb)⟩
theorem nd_dis {S T : List Addr} (h : (S ++ T).Nodup) {b : Addr} (hb : b ∈ S) : b ∉ T := fun q => (List.nodup_append.mp h).2.2 b hb b q rfl
end

/-! ### the judgements -/
section
variable (K : PySem.W.Frag)
/-- te gives the data d; nothing owned changes -/
def WP (te : TE) (δ : Dl) (d : D) : Prop := ∀ (σ : L2.St) (G H : Hp) (S : List Addr), Same G H → Sta K G H δ σ S → S.Nodup → ∀ Q : VK, (∀ v G' H', Ext [] G H G' H' → Rep K G' v d → Q v H') → te σ H Q
/-- te gives a new list of data -/
def WO (te : TE) (δ : Dl) (ds : List D) : Prop := ∀ (σ : L2.St) (G H : Hp) (S : List Addr), Same G H → Sta K G H δ σ S → S.Nodup → ∀ Q : VK,
  (∀ p vs G' H', Ext [] G H G' H' → G' p = none → H p = none → H' p = some (.lst vs) → RepL K G' vs ds → Q (.ref p) H') → te σ H Q
/-- te finds the place x -/
def PL (te : TE) (δ : Dl) (x : OV) : Prop := ∀ (σ : L2.St) (G H : Hp) (S : List Addr), Same G H → Sta K G H δ σ S → S.Nodup → ∀ Q : VK, (∀ u Sx Sr, Own K G H x u Sx → S.Perm (Sx ++ Sr) → Q u H) → te σ H Q
/-- te finds the place x; put x' is the state where x' stands there -/
def PM (te : TE) (δ : Dl) (x : OV) (put : OV → Dl) : Prop := ∀ (σ : L2.St) (G H : Hp) (S : List Addr), Same G H → Sta K G H δ σ S → S.Nodup → ∀ Q : VK,
  (∀ u Sx Sr, Own K G H x u Sx → S.Perm (Sx ++ Sr) →
    (∀ G' H' x' Sx', Same G G' → (∀ b ∈ Sr, H' b = H b ∧ G' b = none) → Own K G' H' x' u Sx' → ∃ S', S'.Perm (Sx' ++ Sr) ∧ Sta K G' H' (put x') σ S') → Q u H) → te σ H Q
structure PostE (S : List Addr) (σ : L2.St) (G H : Hp) (v : V) (x : OV) (δ' : Dl) (G' H' : Hp) (Sx S' : List Addr) : Prop where
  e : Ext S G H G' H'
  o : Own K G' H' x v Sx
  s : Sta K G' H' δ' σ S'
  n : (Sx ++ S').Nodup
  f : Frs S (Sx ++ S') H
/-- te with what it does to the state -/
def WE (te : TE) (δ : Dl) (Φ : OV → Dl → Prop) : Prop := ∀ (σ : L2.St) (G H : Hp) (S : List Addr), Same G H → Sta K G H δ σ S → S.Nodup → ∀ Q : VK,
  (∀ v x δ' G' H' Sx S', Φ x δ' → PostE K S σ G H v x δ' G' H' Sx S' → Q v H') → te σ H Q
def WTp (t : TT) (δ : Dl) (b : Bool) : Prop := ∀ (σ : L2.St) (G H : Hp) (S : List Addr), Same G H → Sta K G H δ σ S → S.Nodup → ∀ Q : Bool → Hp → Prop, (∀ G' H', Ext [] G H G' H' → Q b H') → t σ H Q
structure PostT (S : List Addr) (σ : L2.St) (G H : Hp) (δ' : Dl) (G' H' : Hp) (S' : List Addr) : Prop where
  e : Ext S G H G' H'
  s : Sta K G' H' δ' σ S'
  n : S'.Nodup
  f : Frs S S' H
def WT (t : TT) (δ : Dl) (Φ : Bool → Dl → Prop) : Prop := ∀ (σ : L2.St) (G H : Hp) (S : List Addr), Same G H → Sta K G H δ σ S → S.Nodup → ∀ Q : Bool → Hp → Prop,
  (∀ b δ' G' H' S', Φ b δ' → PostT K S σ G H δ' G' H' S' → Q b H') → t σ H Q
/-- a statement's ends -/
structure En where
  nx : Dl → Prop
  rt : OV → Dl → Prop
  bk : Dl → Prop := fun _ => False
  ct : Dl → Prop := fun _ => False
/-- P: the slots that are never stored -/
structure PostS (P : List Nat) (S : List Addr) (σ : L2.St) (G H : Hp) (δ' : Dl) (σ' : L2.St) (G' H' : Hp) (S' : List Addr) : Prop where
  e : Ext S G H G' H'
  s : Sta K G' H' δ' σ' S'
  n : S'.Nodup
  f : Frs S S' H
  p : ∀ i ∈ P, σ'[i]? = σ[i]?
structure PostR (P : List Nat) (S : List Addr) (σ : L2.St) (G H : Hp) (v : V) (x : OV) (δ' : Dl) (σ' : L2.St) (G' H' : Hp) (Sx S' : List Addr) : Prop where
  e : Ext S G H G' H'
  o : Own K G' H' x v Sx
  s : Sta K G' H' δ' σ' S'
  n : (Sx ++ S').Nodup
  f : Frs S (Sx ++ S') H
  p : ∀ i ∈ P, σ'[i]? = σ[i]?
def WS (P : List Nat) (ts : TS) (δ : Dl) (Ψ : En) : Prop := ∀ (σ : L2.St) (G H : Hp) (S : List Addr), Same G H → Sta K G H δ σ S → S.Nodup → ∀ D : Ends,
  (∀ δ' σ' G' H' S', Ψ.nx δ' → PostS K P S σ G H δ' σ' G' H' S' → D.nx σ' H') →
  (∀ v x δ' σ' G' H' Sx S', Ψ.rt x δ' → PostR K P S σ G H v x δ' σ' G' H' Sx S' → D.rt v H') →
  (∀ δ' σ' G' H' S', Ψ.bk δ' → PostS K P S σ G H δ' σ' G' H' S' → D.bk σ' H') →
  (∀ δ' σ' G' H' S', Ψ.ct δ' → PostS K P S σ G H δ' σ' G' H' S' → D.ct σ' H') → ts D σ H
end

section
variable {K : PySem.W.Frag} {P : List Nat} {δ : Dl} {ta tb te : TE} {t u : TT} {ts t1 t2 : TS}
theorem WP.to {d e : D} (h : WP K te δ d) (q : d = e) : WP K te δ e := q ▸ h
theorem WTp.to {b c : Bool} (h : WTp K t δ b) (q : b = c) : WTp K t δ c := q ▸ h
theorem WE.mono {Φ Φ' : OV → Dl → Prop} (h : WE K te δ Φ) (q : ∀ x δ', Φ x δ' → Φ' x δ') : WE K te δ Φ' := fun σ G H S g s n Q k => h σ G H S g s n Q fun v x δ' G' H' Sx S' a => k v x δ' G' H' Sx S' (q x δ' a)
theorem WT.mono {Φ Φ' : Bool → Dl → Prop} (h : WT K t δ Φ) (q : ∀ x δ', Φ x δ' → Φ' x δ') : WT K t δ Φ' := fun σ G H S g s n Q k => h σ G H S g s n Q fun b δ' G' H' S' a => k b δ' G' H' S' (q b δ' a)
theorem WS.mono {Ψ Ψ' : En} (h : WS K P ts δ Ψ) (q1 : ∀ δ', Ψ.nx δ' → Ψ'.nx δ') (q2 : ∀ x δ', Ψ.rt x δ' → Ψ'.rt x δ') (q3 : ∀ δ', Ψ.bk δ' → Ψ'.bk δ') (q4 : ∀ δ', Ψ.ct δ' → Ψ'.ct δ') : WS K P ts δ Ψ' :=
  fun σ G H S g s n D k1 k2 k3 k4 => h σ G H S g s n D (fun δ' σ' G' H' S' a => k1 δ' σ' G' H' S' (q1 δ' a)) (fun v x δ' σ' G' H' Sx S' a => k2 v x δ' σ' G' H' Sx S' (q2 x δ' a))
    (fun δ' σ' G' H' S' a => k3 δ' σ' G' H' S' (q3 δ' a)) (fun δ' σ' G' H' S' a => k4 δ' σ' G' H' S' (q4 δ' a))
/-- data, as a value with the state -/
theorem we_p {d : D} {Φ : OV → Dl → Prop} (h : WP K te δ d) (q : Φ (.dat d) δ) : WE K te δ Φ := fun σ G H S g s n Q k =>
  h σ G H S g s n Q fun v G' H' e r => k v _ δ G' H' [] S q ⟨e.pure, .dat r, s.ext e, by simpa using n, by simpa using Frs.refl⟩
theorem we_o {ds : List D} {Φ : OV → Dl → Prop} (h : WO K te δ ds) (q : Φ (.lst (ds.map OV.dat)) δ) : WE K te δ Φ := fun σ G H S g s n Q k =>
  h σ G H S g s n Q fun p vs G' H' e hp np e1 r => by
    have own : ∀ {vs : List V} {ds : List D}, RepL K G' vs ds → OwnL K G' H' (ds.map OV.dat) vs [] := by
      intro vs ds
      induction ds generalizing vs with
      | nil => intro r; rw [r.cases_nil]; exact .nil
      | cons d ds ih =>
        intro r
        obtain ⟨v, ws, rfl, h1, h2⟩ := r.cases_cons
        exact OwnL.cons (S := []) (T := []) (.dat h1) (ih h2)
    have ps : p ∉ S := fun q => (s.foot p q).1 np
    refine k _ _ δ G' H' [p] S q ⟨e.pure, .lst e1 hp (own r), s.ext e, nd_app (by simp) n fun b hb => ?_, fun b hb => ?_⟩
    · have : b = p := by simpa using hb
      subst this; exact ps
    · rcases List.mem_append.mp hb with hb | hb
      · have : b = p := by simpa using hb
        subst this; exact .inr np
      · exact .inl hb
/-- a new list that is never changed -/
theorem wp_o {ds : List D} (h : WO K te δ ds) : WP K te δ (.lst ds) := fun σ G H S g s n Q k =>
  h σ G H S g s n Q fun p vs G' H' e hp np e1 r => by
    have gg : Same G' (upd G' p (.lst vs)) := fun b o z => by rw [upd_ne (ne_of_none z hp)]; exact z
    refine k _ (upd G' p (.lst vs)) H' ⟨e.gg.trans gg, fun b o z => ?_, e.kp, e.dm, fun b hn hb => ?_⟩ (.lst upd_same r.len fun i v d h1 h2 => (r.at_ i v d h1 h2).mono gg)
    · by_cases q : b = p
      · subst q; rw [upd_same] at z; rw [e1]; exact z
      · rw [upd_ne q] at z; exact e.gh b o z
    · rw [upd_ne (fun q => hb (by subst q; exact np))]; exact e.fr b hn hb
theorem wt_p {b : Bool} {Φ : Bool → Dl → Prop} (h : WTp K t δ b) (q : Φ b δ) : WT K t δ Φ := fun σ G H S g s n Q k =>
  h σ G H S g s n Q fun G' H' e => k b δ G' H' S q ⟨e.pure, s.ext e, n, Frs.refl⟩
theorem pm_pl {x : OV} {put : OV → Dl} (h : PM K te δ x put) : PL K te δ x := fun σ G H S g s n Q k => h σ G H S g s n Q fun u Sx Sr o p _ => k u Sx Sr o p
theorem wp_l {d : D} (h : PL K te δ (.dat d)) : WP K te δ d := fun σ G H S g s n Q k => h σ G H S g s n Q fun u Sx Sr o p => by
  cases o with
  | dat r => exact k u G H (Ext.refl g) r

/-! ### names, constants -/
theorem pm_var {i : Nat} {x : OV} (h : δ[i]? = some (some x)) : PM K (tVar i) δ x (fun y => δ.set i (some y)) := fun σ G H S g s n Q k => by
  obtain ⟨v, Si, Sr, h1, h2, h3, h4⟩ := s.get h
  refine ⟨v, h1, k v Si Sr h2 h3 fun G' H' x' Sx' gg kp o => ?_⟩
  exact (h4.frame gg kp).put (get_lt h) h1 o
theorem pl_var {i : Nat} {x : OV} (h : δ[i]? = some (some x)) : PL K (tVar i) δ x := pm_pl (pm_var h)
theorem wp_var {i : Nat} {d : D} (h : δ[i]? = some (some (.dat d))) : WP K (tVar i) δ d := wp_l (pl_var h)
theorem wp_int {i : Int} : WP K (tC (.int i)) δ (.int i) := fun σ G H S g s n Q k => k _ G H (Ext.refl g) (.int i)
theorem wp_str {i : Str} : WP K (tC (.str i)) δ (.str i) := fun σ G H S g s n Q k => k _ G H (Ext.refl g) (.str i)
theorem wp_bl {i : Bool} : WP K (tC (.bl i)) δ (.bl i) := fun σ G H S g s n Q k => k _ G H (Ext.refl g) (.bl i)
theorem wp_non : WP K (tC .non) δ .non := fun σ G H S g s n Q k => k _ G H (Ext.refl g) .non

/-! ### operators by values -/
def RP (K : PySem.W.Frag) (r : R2) (x y z : D) : Prop := ∀ (G H : Hp) (v u : V), Same G H → Rep K G v x → Rep K G u y → ∀ Q : VK, (∀ w G' H', Ext [] G H G' H' → Rep K G' w z → Q w H') → r v u H Q
theorem wp_op {r : R2} {x y z : D} (ha : WP K ta δ x) (hb : WP K tb δ y) (hr : RP K r x y z) : WP K (tOp r ta tb) δ z := fun σ G H S g s n Q k =>
  ha σ G H S g s n _ fun v G1 H1 e1 r1 => hb σ G1 H1 S e1.gh (s.ext e1) n _ fun u G2 H2 e2 r2 =>
    hr G2 H2 v u e2.gh (r1.mono e2.gg) r2 Q fun w G3 H3 e3 r3 => k w G3 H3 ((e1.trans e2 (fun _ h => by simp at h)).trans e3 (fun _ h => by simp at h)) r3
theorem RP.l {r r' : R2} {x y z : D} (h : RP K r x y z) : RP K (fun x y H Q => r x y H Q ∨ r' x y H Q) x y z := fun G H v u g a b Q k => .inl (h G H v u g a b Q k)
theorem RP.r {r r' : R2} {x y z : D} (h : RP K r' x y z) : RP K (fun x y H Q => r x y H Q ∨ r' x y H Q) x y z := fun G H v u g a b Q k => .inr (h G H v u g a b Q k)
/-- a one-place operator, a call of one value -/
def UP (K : PySem.W.Frag) (r : V → Hp → VK → Prop) (x z : D) : Prop := ∀ (G H : Hp) (v : V), Same G H → Rep K G v x → ∀ Q : VK, (∀ w G' H', Ext [] G H G' H' → Rep K G' w z → Q w H') → r v H Q
theorem wp_un {r : V → Hp → VK → Prop} {x z : D} (ha : WP K ta δ x) (hr : UP K r x z) : WP K (tUn r ta) δ z := fun σ G H S g s n Q k =>
  ha σ G H S g s n _ fun v G1 H1 e1 r1 => hr G1 H1 v e1.gh r1 Q fun w G3 H3 e3 r3 => k w G3 H3 (e1.trans e3 (fun _ h => by simp at h)) r3

/-! ### statements -/
theorem ws_seq {Ψ : En} (h : WS K P t1 δ { Ψ with nx := fun δ' => WS K P t2 δ' Ψ }) : WS K P (tSeq t1 t2) δ Ψ := fun σ G H S g s n D k1 k2 k3 k4 =>
  h σ G H S g s n { D with nx := t2 D } (fun δ' σ' G' H' S' a p => a σ' G' H' S' p.e.gh p.s p.n D
    (fun δ2 σ2 G2 H2 S2 b q => k1 δ2 σ2 G2 H2 S2 b ⟨p.e.trans q.e p.f, q.s, q.n, p.f.trans p.e q.f, fun i hi => (q.p i hi).trans (p.p i hi)⟩)
    (fun v x δ2 σ2 G2 H2 Sx S2 b q => k2 v x δ2 σ2 G2 H2 Sx S2 b ⟨p.e.trans q.e p.f, q.o, q.s, q.n, p.f.trans p.e q.f, fun i hi => (q.p i hi).trans (p.p i hi)⟩)
    (fun δ2 σ2 G2 H2 S2 b q => k3 δ2 σ2 G2 H2 S2 b ⟨p.e.trans q.e p.f, q.s, q.n, p.f.trans p.e q.f, fun i hi => (q.p i hi).trans (p.p i hi)⟩)
    (fun δ2 σ2 G2 H2 S2 b q => k4 δ2 σ2 G2 H2 S2 b ⟨p.e.trans q.e p.f, q.s, q.n, p.f.trans p.e q.f, fun i hi => (q.p i hi).trans (p.p i hi)⟩)) k2 k3 k4
theorem ws_next {Ψ : En} (h : Ψ.nx δ) : WS K P tNext δ Ψ := fun σ G H S g s n D k1 k2 k3 k4 => k1 δ σ G H S h ⟨Ext.refl g, s, n, Frs.refl, fun _ _ => rfl⟩
theorem ws_brk {Ψ : En} (h : Ψ.bk δ) : WS K P tBreak δ Ψ := fun σ G H S g s n D k1 k2 k3 k4 => k3 δ σ G H S h ⟨Ext.refl g, s, n, Frs.refl, fun _ _ => rfl⟩
theorem ws_cont {Ψ : En} (h : Ψ.ct δ) : WS K P tCont δ Ψ := fun σ G H S g s n D k1 k2 k3 k4 => k4 δ σ G H S h ⟨Ext.refl g, s, n, Frs.refl, fun _ _ => rfl⟩
theorem ws_retE {Ψ : En} (h : WE K te δ Ψ.rt) : WS K P (tRet te) δ Ψ := fun σ G H S g s n D k1 k2 k3 k4 =>
  h σ G H S g s n D.rt fun v x δ' G' H' Sx S' a p => k2 v x δ' σ G' H' Sx S' a ⟨p.e, p.o, p.s, p.n, p.f, fun _ _ => rfl⟩
theorem ws_ret {Ψ : En} {d : D} (h : WP K te δ d) (q : Ψ.rt (.dat d) δ) : WS K P (tRet te) δ Ψ := ws_retE (we_p h q)
theorem ws_retN {Ψ : En} (q : Ψ.rt (.dat .non) δ) : WS K P tRetN δ Ψ := fun σ G H S g s n D k1 k2 k3 k4 => k2 .non _ δ σ G H [] S q ⟨Ext.refl g, .dat .non, s, by simpa using n, by simpa using Frs.refl, fun _ _ => rfl⟩
theorem ws_drop {Ψ : En} (h : WE K te δ fun _ δ' => Ψ.nx δ') : WS K P (tDrop te) δ Ψ := fun σ G H S g s n D k1 k2 k3 k4 =>
  h σ G H S g s n _ fun v x δ' G' H' Sx S' a p => k1 δ' σ G' H' S' a ⟨p.e, p.s, nd_right p.n, fun b hb => p.f b (List.mem_append_right _ hb), fun _ _ => rfl⟩
/-- name = e -/
theorem ws_setE {Ψ : En} {i : Nat} (h : WE K te δ fun x δ' => i < δ'.length ∧ i ∉ P ∧ Ψ.nx (δ'.set i (some x))) : WS K P (tAsg te (gName i)) δ Ψ := fun σ G H S g s n D k1 k2 k3 k4 =>
  h σ G H S g s n _ fun v x δ' G' H' Sx S' a p => by
    obtain ⟨a1, a2, a3⟩ := a
    obtain ⟨Sd, Sr, S2, h1, h2, h3⟩ := p.s.store (i := i) a1 p.o
    have nn : (Sx ++ (Sd ++ Sr)).Nodup := nd_perm (List.Perm.append_left Sx h1) p.n
    have n2 : (Sx ++ Sr).Nodup := by
      refine nd_app (nd_left nn) (nd_right (nd_right nn)) fun b hb => ?_
      have := nd_dis nn hb
      exact fun q => this (List.mem_append_right _ q)
    refine k1 _ _ G' H' S2 a3 ⟨p.e, h3, nd_perm h2.symm n2, fun b hb => p.f b ?_, fun j hj => ?_⟩
    · rcases List.mem_append.mp (h2.mem_iff.mp hb) with q | q
      · exact List.mem_append_left _ q
      · exact List.mem_append_right _ (h1.mem_iff.mpr (List.mem_append_right _ q))
    · rw [List.getElem?_set_ne]
      intro e; subst e; exact a2 hj
theorem ws_set {Ψ : En} {i : Nat} {d : D} (h : WP K te δ d) (hi : i < δ.length) (hp : i ∉ P) (q : Ψ.nx (δ.set i (some (.dat d)))) : WS K P (tAsg te (gName i)) δ Ψ := ws_setE (we_p h ⟨hi, hp, q⟩)
theorem ws_setO {Ψ : En} {i : Nat} {ds : List D} (h : WO K te δ ds) (hi : i < δ.length) (hp : i ∉ P) (q : Ψ.nx (δ.set i (some (.lst (ds.map OV.dat))))) : WS K P (tAsg te (gName i)) δ Ψ := ws_setE (we_o h ⟨hi, hp, q⟩)
theorem ws_ifE {Ψ : En} {c : TT} (h : WT K c δ fun b δ' => if b = true then WS K P t1 δ' Ψ else WS K P t2 δ' Ψ) : WS K P (tIfS c t1 t2) δ Ψ := fun σ G H S g s n D k1 k2 k3 k4 =>
  h σ G H S g s n _ fun b δ' G' H' S' a p => by
    have go : ∀ {t : TS}, WS K P t δ' Ψ → t D σ H' := fun w => w σ G' H' S' p.e.gh p.s p.n D
      (fun δ2 σ2 G2 H2 S2 b q => k1 δ2 σ2 G2 H2 S2 b ⟨p.e.trans q.e p.f, q.s, q.n, p.f.trans p.e q.f, q.p⟩)
      (fun v x δ2 σ2 G2 H2 Sx S2 b q => k2 v x δ2 σ2 G2 H2 Sx S2 b ⟨p.e.trans q.e p.f, q.o, q.s, q.n, p.f.trans p.e q.f, q.p⟩)
      (fun δ2 σ2 G2 H2 S2 b q => k3 δ2 σ2 G2 H2 S2 b ⟨p.e.trans q.e p.f, q.s, q.n, p.f.trans p.e q.f, q.p⟩)
      (fun δ2 σ2 G2 H2 S2 b q => k4 δ2 σ2 G2 H2 S2 b ⟨p.e.trans q.e p.f, q.s, q.n, p.f.trans p.e q.f, q.p⟩)
    cases b with
    | true => exact iteT (go (by simpa using a))
    | false => exact iteF (go (by simpa using a))
theorem ws_if {Ψ : En} {c : TT} {b : Bool} (h : WTp K c δ b) (q : if b = true then WS K P t1 δ Ψ else WS K P t2 δ Ψ) : WS K P (tIfS c t1 t2) δ Ψ := ws_ifE (wt_p h q)
theorem fzF_L : ∀ {os : List (Str × OV)} {ds : List (Str × D)}, OV.fzF os = some ds → OV.fzL (os.map (·.2)) = some (ds.map (·.2)) ∧ os.map (·.1) = ds.map (·.1)
  | [], ds, e => by
    have : [] = ds := by simpa [OV.fzF] using e
    subst this
    exact ⟨rfl, rfl⟩
  | (f, x) :: os, ds, e => by
    simp only [OV.fzF] at e
    split at e
    · rename_i d ds' q1 q2
      have e3 := Option.some.inj e
      subst e3
      obtain ⟨i1, i2⟩ := fzF_L q2
      refine ⟨?_, by simp [i2]⟩
      simp only [List.map_cons, OV.fzL, q1, i1]
    · cases e
/-- a ghost step: an owned slot becomes data -/
theorem Own.fz {G H : Hp} : ∀ {x : OV} {v : V} {S : List Addr} {d : D}, Own K G H x v S → S.Nodup → x.fz = some d → Rep K (frz G H S) v d := by
  intro x v S d o
  have key : ∀ {x : OV} {v : V} {S : List Addr}, Own K G H x v S → ∀ {d : D}, x.fz = some d → ∀ {T : List Addr}, (∀ b ∈ S, b ∈ T) → (∀ b ∈ T, G b = none) → Rep K (frz G H T) v d := by
    intro x v S o
    refine Own.rec (motive_1 := fun x v S _ => ∀ {d : D}, x.fz = some d → ∀ {T : List Addr}, (∀ b ∈ S, b ∈ T) → (∀ b ∈ T, G b = none) → Rep K (frz G H T) v d)
      (motive_2 := fun xs vs S _ => ∀ {ds : List D}, OV.fzL xs = some ds → ∀ {T : List Addr}, (∀ b ∈ S, b ∈ T) → (∀ b ∈ T, G b = none) → RepL K (frz G H T) vs ds) ?_ ?_ ?_ ?_ ?_ ?_ o
    · intro d v r d' e T h1 h2
      have e' : d = d' := by simpa [OV.fz] using e
      subst e'
      exact r.mono (frz_gg h2)
    · intro a vs xs S ha ga _ ih d e T h1 h2
      simp only [OV.fz, Option.map_eq_some_iff] at e
      obtain ⟨ds, e1, rfl⟩ := e
      have r := ih e1 (T := T) (fun b hb => h1 b (List.mem_cons_of_mem _ hb)) h2
      exact .lst (by rw [frz_in (h1 a List.mem_cons_self)]; exact ha) r.len r.at_
    · intro a C dx fs os S ha ga hk _ ih d e T h1 h2
      simp only [OV.fz, Option.map_eq_some_iff] at e
      obtain ⟨ds, e1, rfl⟩ := e
      have e2 := fzF_L e1
      have r := ih e2.1 (T := T) (fun b hb => h1 b (List.mem_cons_of_mem _ hb)) h2
      exact .obj (by rw [frz_in (h1 a List.mem_cons_self)]; exact ha) (hk.trans e2.2) r.at_
    · intro a kvs os S _ _ _ _ _ d e
      simp [OV.fz] at e
    · intro ds e T _ _
      have : [] = ds := by simpa [OV.fzL] using e
      subst this
      exact RepL.nil
    · intro x v xs vs S T _ _ ih1 ih2 ds e T' h1 h2
      simp only [OV.fzL] at e
      split at e
      · rename_i d ds' q1 q2
        have e3 := Option.some.inj e
        subst e3
        exact .cons (ih1 q1 (fun b hb => h1 b (List.mem_append_left _ hb)) h2) (ih2 q2 (fun b hb => h1 b (List.mem_append_right _ hb)) h2)
      · cases e
  intro nd e
  exact key o e (fun b hb => hb) fun b hb => (o.foot b hb).2
theorem Sta.freeze {G H : Hp} {δ : Dl} {σ : L2.St} {S : List Addr} {i : Nat} {x : OV} {d : D} (g : Same G H) (s : Sta K G H δ σ S) (n : S.Nodup) (h : δ[i]? = some (some x)) (e : x.fz = some d) :
    ∃ G' S', Same G G' ∧ Same G' H ∧ (∀ b, b ∉ S → G' b = G b) ∧ (∀ b ∈ S', b ∈ S) ∧ S'.Nodup ∧ Sta K G' H (δ.set i (some (.dat d))) σ S' := by
  obtain ⟨v, Si, Sr, h1, h2, h3, h4⟩ := s.get h
  have nn := nd_perm h3 n
  have r := h2.fz (nd_left nn) e
  have gg : Same G (frz G H Si) := frz_gg fun b hb => (h2.foot b hb).2
  have s2 : Sta K (frz G H Si) H (δ.set i Option.none) σ Sr := h4.frame gg fun b hb => ⟨rfl, by
    rw [frz_out (fun q => nd_dis nn q hb)]; exact (h4.foot b hb).2⟩
  obtain ⟨S', p, s3⟩ := s2.put (get_lt h) h1 (.dat r)
  refine ⟨frz G H Si, S', gg, frz_gh g, fun b hb => frz_out fun q => hb (h3.mem_iff.mpr (List.mem_append_left _ q)), fun b hb => h3.mem_iff.mpr (List.mem_append_right _ (by simpa using p.mem_iff.mp hb)), nd_perm p.symm (by simpa using nd_right nn), s3⟩
theorem Ext.unfz {G H G' : Hp} {S S' : List Addr} (a : Same G G') (c : ∀ b, b ∉ S → G' b = G b) (k : ∀ b ∈ S', b ∈ S) {G1 H1 : Hp} (e : Ext S' G' H G1 H1) : Ext S G H G1 H1 :=
  ⟨a.trans e.gg, e.gh, fun b o hb h => e.kp b o (fun q => hb (k b q)) h, e.dm, fun b hb h => (e.fr b (fun q => hb (k b q)) h).trans (c b hb)⟩
theorem ws_fz {Ψ : En} (i : Nat) {x : OV} {d : D} (h : δ[i]? = some (some x)) (e : x.fz = some d) (w : WS K P ts (δ.set i (some (.dat d))) Ψ) : WS K P ts δ Ψ := fun σ G H S g s n D k1 k2 k3 k4 => by
  obtain ⟨G', S', a, b, c, k, n', s'⟩ := s.freeze g n h e
  refine w σ G' H S' b s' n' D (fun δ2 σ2 G2 H2 S2 z q => k1 δ2 σ2 G2 H2 S2 z ⟨q.e.unfz a c k, q.s, q.n, fun b hb => (q.f b hb).imp (k b) id, q.p⟩)
    (fun v x δ2 σ2 G2 H2 Sx S2 z q => k2 v x δ2 σ2 G2 H2 Sx S2 z ⟨q.e.unfz a c k, q.o, q.s, q.n, fun b hb => (q.f b hb).imp (k b) id, q.p⟩)
    (fun δ2 σ2 G2 H2 S2 z q => k3 δ2 σ2 G2 H2 S2 z ⟨q.e.unfz a c k, q.s, q.n, fun b hb => (q.f b hb).imp (k b) id, q.p⟩)
    (fun δ2 σ2 G2 H2 S2 z q => k4 δ2 σ2 G2 H2 S2 z ⟨q.e.unfz a c k, q.s, q.n, fun b hb => (q.f b hb).imp (k b) id, q.p⟩)
theorem we_fz {Φ : OV → Dl → Prop} (i : Nat) {x : OV} {d : D} (h : δ[i]? = some (some x)) (e : x.fz = some d) (w : WE K te (δ.set i (some (.dat d))) Φ) : WE K te δ Φ := fun σ G H S g s n Q k1 => by
  obtain ⟨G', S', a, b, c, k, n', s'⟩ := s.freeze g n h e
  exact w σ G' H S' b s' n' Q fun v x δ2 G2 H2 Sx S2 z q => k1 v x δ2 G2 H2 Sx S2 z ⟨q.e.unfz a c k, q.o, q.s, q.n, fun b hb => (q.f b hb).imp (k b) id⟩
end
end Pw
namespace Pw
open PySem PySem.Spec L2
/-! ### equality of data -/
mutual
def D.py : D → PyData
  | .non => .none
  | .bl b => .bool b
  | .int i => .int i
  | .str x => .str x
  | .lst xs => .list (D.pyL xs)
  | .tup xs => .tuple (D.pyL xs)
  | .obj _ _ => .none
  | .scr _ => .none
def D.pyL : List D → List PyData
  | [] => []
  | x :: xs => x.py :: D.pyL xs
end
mutual
def D.ok : Nat → D → Bool
  | _, .non => true
  | _, .bl _ => true
  | _, .int _ => true
  | _, .str x => PyData.strOk x
  | n + 1, .lst xs => D.okL n xs
  | n + 1, .tup xs => D.okL n xs
  | _, _ => false
def D.okL : Nat → List D → Bool
  | _, [] => true
  | n, x :: xs => x.ok n && D.okL n xs
end
def D.eqv (a b : D) : Bool := PyData.eqv a.py b.py
mutual
theorem D.ok_shape : ∀ (n : Nat) (d : D), d.ok n = true → d.py.canLay0 = true ∧ d.py.depth ≤ n
  | _, .non, _ => by simp [D.py, PyData.canLay0, PyData.depth]
  | _, .bl _, _ => by simp [D.py, PyData.canLay0, PyData.depth]
  | _, .int _, _ => by simp [D.py, PyData.canLay0, PyData.depth]
  | _, .str x, h => by simpa [D.py, PyData.canLay0, PyData.depth, D.ok] using h
  | n + 1, .lst xs, h => by
    have := D.okL_shape n xs (by simpa [D.ok] using h)
    simp only [D.py, PyData.canLay0, PyData.depth]
    exact ⟨this.1, by omega⟩
  | n + 1, .tup xs, h => by
    have := D.okL_shape n xs (by simpa [D.ok] using h)
    simp only [D.py, PyData.canLay0, PyData.depth]
    exact ⟨this.1, by omega⟩
  | 0, .lst _, h => by simp [D.ok] at h
  | 0, .tup _, h => by simp [D.ok] at h
  | 0, .obj _ _, h => by simp [D.ok] at h
  | _ + 1, .obj _ _, h => by simp [D.ok] at h
  | 0, .scr _, h => by simp [D.ok] at h
  | _ + 1, .scr _, h => by simp [D.ok] at h
theorem D.okL_shape : ∀ (n : Nat) (ds : List D), D.okL n ds = true → PyData.canLayAll0 (D.pyL ds) = true ∧ PyData.depthAll (D.pyL ds) ≤ n
  | _, [], _ => by simp [D.pyL, PyData.canLayAll0, PyData.depthAll]
  | n, d :: ds, h => by
    simp only [D.okL, Bool.and_eq_true] at h
    have h1 := D.ok_shape n d h.1
    have h2 := D.okL_shape n ds h.2
    simp only [D.pyL, PyData.canLayAll0, PyData.depthAll, Bool.and_eq_true]
    exact ⟨⟨h1.1, h2.1⟩, by omega⟩
end
theorem D.shaped {n : Nat} {d : D} (h : d.ok n = true) (hn : n ≤ 64) : SeqAt.shaped d.py = true := by
  obtain ⟨h1, h2⟩ := D.ok_shape n d h
  unfold SeqAt.shaped
  rw [h1, Bool.true_and]
  exact decide_eq_true (by omega)
section
variable {K : PySem.W.Frag} {G H : Hp}
mutual
theorem Rep.dp : ∀ (n : Nat) (d : D) (v : V), d.ok n = true → Rep K G v d → Same G H → Dp K H v d.py
  | _, .non, _, _, r, _ => by cases r; exact .non
  | _, .bl _, _, _, r, _ => by cases r; exact .bl _
  | _, .int _, _, _, r, _ => by cases r; exact .int _
  | _, .str _, _, _, r, _ => by cases r; exact .str _
  | n + 1, .lst xs, _, h, r, g => by
    cases r with
    | lst ha hl hi => exact .lst (.inl (.inl (g _ _ ha))) (RepL.dp n xs _ (by simpa [D.ok] using h) ⟨hl, hi⟩ g)
  | n + 1, .tup xs, _, h, r, g => by
    cases r with
    | tup ha hl hi => exact .tup (seqT g ha) (RepL.dp n xs _ (by simpa [D.ok] using h) ⟨hl, hi⟩ g)
  | 0, .lst _, _, h, _, _ => by simp [D.ok] at h
  | 0, .tup _, _, h, _, _ => by simp [D.ok] at h
  | 0, .obj _ _, _, h, _, _ => by simp [D.ok] at h
  | _ + 1, .obj _ _, _, h, _, _ => by simp [D.ok] at h
  | 0, .scr _, _, h, _, _ => by simp [D.ok] at h
  | _ + 1, .scr _, _, h, _, _ => by simp [D.ok] at h
theorem RepL.dp : ∀ (n : Nat) (ds : List D) (vs : List V), D.okL n ds = true → RepL K G vs ds → Same G H → DpAll K H vs (D.pyL ds)
  | _, [], _, _, r, _ => by rw [r.cases_nil]; exact .nil
  | n, d :: ds, _, h, r, g => by
    simp only [D.okL, Bool.and_eq_true] at h
    obtain ⟨v, ws, rfl, h1, h2⟩ := r.cases_cons
    exact .cons (Rep.dp n d v h.1 h1 g) (RepL.dp n ds ws h.2 h2 g)
end
end
theorem pyL_any (ds : List D) (d : D) : ((D.pyL ds).any fun z => PyData.eqv z d.py) = ds.any fun z => z.eqv d := by
  induction ds with
  | nil => rfl
  | cons x xs ih => simp [D.pyL, ih, D.eqv]

/-! ### the operators, whatever the kinds -/
section
variable {X : Cx}
def rMulS : R2 := fun x y H Q => ∃ (z : Str) (n : Int), x = .str z ∧ y = .int n ∧ z.length ≤ 1 ∧ n ≤ 1000 ∧ -1000 ≤ n ∧ Q (.str (Txt.mul z n)) H
theorem op_mulS : OpR X (binaryOp .Mult) rMulS := by
  intro pins s σ H x y v u Q I rx ry h
  obtain ⟨z, n, rfl, rfl, hz, h1, h2, q⟩ := h
  obtain ⟨t, rfl⟩ := rx
  obtain ⟨t', rfl⟩ := ry
  refine SB.mul ⟨?_, fun hn _ => ?_, fun hn _ => ?_⟩ fun t' k => ⟨.str _, H, I.tok _, ⟨_, rfl⟩, q⟩
  · simp; omega
  · have : (2 ^ 63 - 1 : Int) / n ≥ 1 := by
      have h3 : (1 : Int) ≤ n := by omega
      exact (Int.le_ediv_iff_mul_le (by omega)).mpr (by omega)
    omega
  · have h3 : z.length * n.toNat ≤ 1000 := by
      have : n.toNat ≤ 1000 := by omega
      calc z.length * n.toNat ≤ 1 * 1000 := Nat.mul_le_mul hz this
        _ = 1000 := by omega
    unfold Builtin.Str.tooLong
    exact decide_eq_false (by
      have : (1000 : Nat) ≤ sizeLine := by decide
      omega)
def rInDT (K : PySem.W.Frag) : R2 := fun x y H Q => ∃ d ds, Dp K H x d ∧ Dp K H y (.tuple ds) ∧ SeqAt.shaped d = true ∧ SeqAt.shaped (.tuple ds) = true ∧ Q (.bl (ds.any fun z => PyData.eqv z d)) H
def rNotInDT (K : PySem.W.Frag) : R2 := fun x y H Q => ∃ d ds, Dp K H x d ∧ Dp K H y (.tuple ds) ∧ SeqAt.shaped d = true ∧ SeqAt.shaped (.tuple ds) = true ∧ Q (.bl (!ds.any fun z => PyData.eqv z d)) H
theorem op_inDT (hu : X.A.units + 65 < cLine) : OpR X (compareOp .In) (rInDT X.K) := by
  intro pins s σ H x y v u Q I rx ry h
  obtain ⟨d, ds, hd, he, sd, se, q⟩ := h
  obtain ⟨as, r1⟩ := Dp.reads I d x v hd rx
  obtain ⟨bs, r2⟩ := Dp.reads I (.tuple ds) y u he ry
  exact SeqAt.in_tuple_reads r2 r1 (SeqAt.canLay_of_shaped se) (SeqAt.canLay_of_shaped sd) (PyProof.Rows.room_in_shaped sd hu) ⟨.bl _, H, I, rfl, q⟩
theorem op_notInDT (hu : X.A.units + 65 < cLine) : OpR X (compareOp .NotIn) (rNotInDT X.K) := by
  intro pins s σ H x y v u Q I rx ry h
  obtain ⟨d, ds, hd, he, sd, se, q⟩ := h
  obtain ⟨as, r1⟩ := Dp.reads I d x v hd rx
  obtain ⟨bs, r2⟩ := Dp.reads I (.tuple ds) y u he ry
  exact SeqAt.notIn_tuple_reads r2 r1 (SeqAt.canLay_of_shaped se) (SeqAt.canLay_of_shaped sd) (PyProof.Rows.room_in_shaped sd hu) ⟨.bl _, H, I, rfl, q⟩
/-- x in d, d a dict -/
def rInDic (neg : Bool) : R2 := fun x y H Q => ∃ a o, y = .ref a ∧ IsD H a ∧ DGet H a x o ∧ Q (.bl (if neg then !o.isSome else o.isSome)) H

def rAddI : R2 := rI0 fun i j => .int (i + j)
def rAddS' : R2 := fun x y H Q => ∃ i j, x = .str i ∧ y = .str j ∧ i.length + j.length ≤ sizeLine ∧ Q (.str (i ++ j)) H
def rADD (K : PySem.W.Frag) : R2 := fun x y H Q => rAddI x y H Q ∨ rAddS' x y H Q ∨ rCat x y H Q ∨ rCatA K x y H Q
theorem op_ADD : OpR X (binaryOp .Add) (rADD X.K) := op_add.or (op_add_str.or (op_cat.or op_catA))
def rSUB : R2 := rI0 fun i j => .int (i - j)
theorem op_SUB : OpR X (binaryOp .Sub) rSUB := op_sub
def rMulI : R2 := rI CMul fun i j => .int (i * j)
def rMUL (K : PySem.W.Frag) : R2 := fun x y H Q => rMulI x y H Q ∨ rMulS x y H Q ∨ rRep x y H Q ∨ rRepT K x y H Q
theorem op_MUL : OpR X (binaryOp .Mult) (rMUL X.K) := op_mul.or (op_mulS.or (op_rep.or op_repT))
def rMOD : R2 := rI (fun _ j => 0 < j) fun i j => .int (i % j)
theorem op_MOD : OpR X (binaryOp .Mod) rMOD := op_mod
def rFDIV : R2 := rI CDiv fun i j => .int (i / j)
theorem op_FDIV : OpR X (binaryOp .FloorDiv) rFDIV := op_fdiv
def rPOW : R2 := rI CPow fun i j => .int (i ^ j.toNat)
theorem op_POW : OpR X (binaryOp .Pow) rPOW := op_pow
def rSHR : R2 := rI (fun _ j => 0 ≤ j) fun i j => .int (i / 2 ^ j.toNat)
theorem op_SHR : OpR X (binaryOp .RShift) rSHR := op_shr
def rSHL : R2 := rI CPow fun i j => .int (i * 2 ^ j.toNat)
theorem op_SHL : OpR X (binaryOp .LShift) rSHL := op_shl
def rAND : R2 := rI0 fun i j => .int (Builtin.bitAnd i j)
theorem op_AND : OpR X (binaryOp .BitAnd) rAND := op_and
def rOR : R2 := rI0 fun i j => .int (Builtin.bitOr i j)
theorem op_OR : OpR X (binaryOp .BitOr) rOR := op_or
def rEQ (K : PySem.W.Frag) : R2 := fun x y H Q => rEq x y H Q ∨ rEqD K x y H Q
theorem op_EQ (hu : X.A.units + 65 < cLine) : OpR X (compareOp .Eq) (rEQ X.K) := op_eq.or (op_eqD (by omega))
def rNE (K : PySem.W.Frag) : R2 := fun x y H Q => rNe x y H Q ∨ rNeD K x y H Q
theorem op_NE (hu : X.A.units + 65 < cLine) : OpR X (compareOp .NotEq) (rNE X.K) := op_ne.or (op_neD (by omega))
def rLtI : R2 := rI0 fun i j => .bl (decide (i < j))
def rLT (K : PySem.W.Frag) : R2 := fun x y H Q => rLtI x y H Q ∨ rLtT K x y H Q
theorem op_LT (hu : X.A.units + 65 < cLine) : OpR X (compareOp .Lt) (rLT X.K) := op_lt.or (op_ltT (by omega))
def rLE : R2 := rI0 fun i j => .bl (decide (i ≤ j))
theorem op_LE : OpR X (compareOp .LtE) rLE := op_le
def rGT : R2 := rI0 fun i j => .bl (decide (j < i))
theorem op_GT : OpR X (compareOp .Gt) rGT := op_gt
def rGE : R2 := rI0 fun i j => .bl (decide (j ≤ i))
theorem op_GE : OpR X (compareOp .GtE) rGE := op_ge
def rISN : R2 := fun x y H Q => y = .non ∧ Q (.bl (decide (x = .non))) H
theorem op_ISN : OpR X (compareOp .Is) rISN := op_isN
def rISNN : R2 := fun x y H Q => y = .non ∧ Q (.bl (!decide (x = .non))) H
theorem op_ISNN : OpR X (compareOp .IsNot) rISNN := op_notN
def rInSg : R2 := fun x y H Q => ∃ (c : Nat) (z : Str), x = .str ⟨#[c]⟩ ∧ y = .str z ∧ Q (.bl (decide (c ∈ z.cps.toList))) H
def rNotInSg : R2 := fun x y H Q => ∃ (c : Nat) (z : Str), x = .str ⟨#[c]⟩ ∧ y = .str z ∧ Q (.bl (!decide (c ∈ z.cps.toList))) H
def rIN (K : PySem.W.Frag) : R2 := fun x y H Q => rInSg x y H Q ∨ rInD K x y H Q ∨ rInDT K x y H Q ∨ rInDic false x y H Q
theorem op_inDic (hu : X.A.units + 1 < cLine) : OpR X (compareOp .In) (rInDic false) := by
  intro pins s σ H x y v u Q I rx ry h
  obtain ⟨a, o, rfl, _, g, q⟩ := h
  cases ry
  exact d_in hu I g rx fun s3 I3 => ⟨.bl o.isSome, H, I3, rfl, q⟩
theorem op_notInDic (hu : X.A.units + 1 < cLine) : OpR X (compareOp .NotIn) (rInDic true) := by
  intro pins s σ H x y v u Q I rx ry h
  obtain ⟨a, o, rfl, _, g, q⟩ := h
  cases ry
  exact d_notIn hu I g rx fun s3 I3 => ⟨.bl (!o.isSome), H, I3, rfl, q⟩
theorem op_IN (hu : X.A.units + 65 < cLine) : OpR X (compareOp .In) (rIN X.K) := op_in_sign.or ((op_inD hu).or ((op_inDT hu).or (op_inDic (by omega))))
def rNIN (K : PySem.W.Frag) : R2 := fun x y H Q => rNotInSg x y H Q ∨ rNotInD K x y H Q ∨ rNotInDT K x y H Q ∨ rInDic true x y H Q
theorem op_NIN (hu : X.A.units + 65 < cLine) : OpR X (compareOp .NotIn) (rNIN X.K) := op_notIn_sign.or ((op_notInD hu).or ((op_notInDT hu).or (op_notInDic (by omega))))
def rIX (K : PySem.W.Frag) : R2 := fun x y H Q => rIxL K x y H Q ∨ rIxT K x y H Q ∨ rIxS x y H Q
theorem ix_IX : IxR X (rIX X.K) := ix_list.or (ix_tup.or ix_str)
def rSL (K : PySem.W.Frag) : V → Option Int → Option Int → Hp → VK → Prop := fun x lo hi H Q => rSlL K x lo hi H Q ∨ rSlA K x lo hi H Q ∨ rSlS x lo hi H Q
theorem sl_SL : SlR X (rSL X.K) := sl_list.or (sl_tupA.or sl_str)
/-- calls -/
def rLEN (K : PySem.W.Frag) : List V → Hp → VK → Prop := fun xs H Q => ∃ x n, xs = [x] ∧ LenV K x H n ∧ Q (.int n) H
theorem call_LEN : CallR X (.builtin "len") (rLEN X.K) := call_len
def rINT : List V → Hp → VK → Prop := fun xs H Q => ((∃ i, xs = [.int i] ∧ Q (.int i) H) ∨ ∃ k, xs = [.bl k] ∧ Q (.int (if k then 1 else 0)) H) ∨ (∃ a n, xs = [.str a] ∧ PySem.intText? a = some n ∧ a.length ≤ 640 ∧ Q (.int n) H)
end
end Pw
namespace Pw
open PySem PySem.Spec L2
section
variable {K : PySem.W.Frag} {P : List Nat} {δ : Dl} {ta tb te : TE} {t u : TT} {ts t1 t2 : TS} {n m : Nat}
theorem noF {H : Hp} {S : List Addr} : Frs S ([] : List Addr) H := fun _ h => by simp at h
theorem Ext.tr0 {G H G1 H1 G2 H2 : Hp} (a : Ext [] G H G1 H1) (b : Ext [] G1 H1 G2 H2) : Ext [] G H G2 H2 := a.trans b noF
/-! ### operators -/
theorem rp_add_int {i j : Int} : RP K (rADD K) (.int i) (.int j) (.int (i + j)) := fun G H v u g a b Q k => by
  cases a; cases b
  exact .inl ⟨i, j, rfl, rfl, k _ G H (Ext.refl g) (.int _)⟩
theorem rp_add_str {x y : Str} (h : x.length + y.length ≤ sizeLine) : RP K (rADD K) (.str x) (.str y) (.str (x ++ y)) := fun G H v u g a b Q k => by
  cases a; cases b
  exact .inr (.inl ⟨x, y, rfl, rfl, h, k _ G H (Ext.refl g) (.str _)⟩)
theorem rp_add_tup {xs ys : List D} (h : xs.length + ys.length ≤ sizeLine) : RP K (rADD K) (.tup xs) (.tup ys) (.tup (xs ++ ys)) := fun G H v u g a b Q k => by
  cases a with
  | tup ha la ra =>
    cases b with
    | tup hb lb rb =>
      rename_i a vs b us
      refine .inr (.inr (.inr ⟨a, b, vs, us, rfl, rfl, seqT g ha, seqT g hb, by omega, fun e => ?_, fun e1 e2 => ?_, fun e1 e2 p hp => ?_⟩))
      · subst e
        have : xs = [] := List.eq_nil_of_length_eq_zero (by simpa using la.symm)
        subst this
        exact k _ G H (Ext.refl g) (.tup hb lb rb)
      · subst e2
        have : ys = [] := List.eq_nil_of_length_eq_zero (by simpa using lb.symm)
        subst this
        refine k _ G H (Ext.refl g) ?_
        rw [List.append_nil]
        exact .tup ha la ra
      · have e := Ext.newD (o := .tup (vs ++ us)) g hp
        have r := (RepL.mk la ra).append (RepL.mk lb rb)
        exact k _ _ _ e (.tup (.inl (.inl upd_same)) r.len fun i w d h1 h2 => (r.at_ i w d h1 h2).mono e.gg)
theorem rp_sub {i j : Int} : RP K rSUB (.int i) (.int j) (.int (i - j)) := fun G H v u g a b Q k => by
  cases a; cases b
  exact ⟨i, j, rfl, rfl, k _ G H (Ext.refl g) (.int _)⟩
theorem rp_mul {i j : Int} (h : CMul i j) : RP K (rMUL K) (.int i) (.int j) (.int (i * j)) := fun G H v u g a b Q k => by
  cases a; cases b
  exact .inl ⟨i, j, rfl, rfl, h, k _ G H (Ext.refl g) (.int _)⟩
theorem rp_mulS {z : Str} {j : Int} (h : z.length ≤ 1) (h1 : j ≤ 1000) (h2 : -1000 ≤ j) : RP K (rMUL K) (.str z) (.int j) (.str (Txt.mul z j)) := fun G H v u g a b Q k => by
  cases a; cases b
  exact .inr (.inl ⟨z, j, rfl, rfl, h, h1, h2, k _ G H (Ext.refl g) (.str _)⟩)
theorem rp_mod {i j : Int} (h : 0 < j) : RP K rMOD (.int i) (.int j) (.int (i % j)) := fun G H v u g a b Q k => by
  cases a; cases b
  exact ⟨i, j, rfl, rfl, h, k _ G H (Ext.refl g) (.int _)⟩
theorem rp_fdiv {i j : Int} (h : CDiv i j) : RP K rFDIV (.int i) (.int j) (.int (i / j)) := fun G H v u g a b Q k => by
  cases a; cases b
  exact ⟨i, j, rfl, rfl, h, k _ G H (Ext.refl g) (.int _)⟩
theorem rp_pow {i j : Int} (h : CPow i j) : RP K rPOW (.int i) (.int j) (.int (i ^ j.toNat)) := fun G H v u g a b Q k => by
  cases a; cases b
  exact ⟨i, j, rfl, rfl, h, k _ G H (Ext.refl g) (.int _)⟩
theorem rp_eq_int {i j : Int} : RP K (rEQ K) (.int i) (.int j) (.bl (decide (i = j))) := fun G H v u g a b Q k => by
  cases a; cases b
  refine .inl ⟨rfl, ?_⟩
  rw [dec_int]
  have e : (i == j) = decide (i = j) := by by_cases h : i = j <;> simp [h]
  rw [e]
  exact k _ G H (Ext.refl g) (.bl _)
theorem rp_ne_int {i j : Int} : RP K (rNE K) (.int i) (.int j) (.bl (!decide (i = j))) := fun G H v u g a b Q k => by
  cases a; cases b
  refine .inl ⟨rfl, ?_⟩
  rw [dec_int]
  have e : (i == j) = decide (i = j) := by by_cases h : i = j <;> simp [h]
  rw [e]
  exact k _ G H (Ext.refl g) (.bl _)
theorem rp_eq_str {i j : Str} : RP K (rEQ K) (.str i) (.str j) (.bl (decide (i = j))) := fun G H v u g a b Q k => by
  cases a; cases b
  refine .inl ⟨rfl, ?_⟩
  have e : decide (V.str i = V.str j) = decide (i = j) := by by_cases h : i = j <;> simp [h]
  rw [e]
  exact k _ G H (Ext.refl g) (.bl _)
theorem rp_ne_str {i j : Str} : RP K (rNE K) (.str i) (.str j) (.bl (!decide (i = j))) := fun G H v u g a b Q k => by
  cases a; cases b
  refine .inl ⟨rfl, ?_⟩
  have e : decide (V.str i = V.str j) = decide (i = j) := by by_cases h : i = j <;> simp [h]
  rw [e]
  exact k _ G H (Ext.refl g) (.bl _)
theorem rp_eq {x y : D} (hx : x.ok n = true) (hy : y.ok m = true) (h1 : n ≤ 64 := by decide) (h2 : m ≤ 64 := by decide) : RP K (rEQ K) x y (.bl (x.eqv y)) := fun G H v u g a b Q k =>
  .inr ⟨x.py, y.py, a.dp n x v hx g, b.dp m y u hy g, D.shaped hx h1, D.shaped hy h2, k _ G H (Ext.refl g) (.bl _)⟩
theorem rp_ne {x y : D} (hx : x.ok n = true) (hy : y.ok m = true) (h1 : n ≤ 64 := by decide) (h2 : m ≤ 64 := by decide) : RP K (rNE K) x y (.bl (!x.eqv y)) := fun G H v u g a b Q k =>
  .inr ⟨x.py, y.py, a.dp n x v hx g, b.dp m y u hy g, D.shaped hx h1, D.shaped hy h2, k _ G H (Ext.refl g) (.bl _)⟩
theorem rp_lt {i j : Int} : RP K (rLT K) (.int i) (.int j) (.bl (decide (i < j))) := fun G H v u g a b Q k => by
  cases a; cases b
  exact .inl ⟨i, j, rfl, rfl, k _ G H (Ext.refl g) (.bl _)⟩
theorem rp_le {i j : Int} : RP K rLE (.int i) (.int j) (.bl (decide (i ≤ j))) := fun G H v u g a b Q k => by
  cases a; cases b
  exact ⟨i, j, rfl, rfl, k _ G H (Ext.refl g) (.bl _)⟩
theorem rp_gt {i j : Int} : RP K rGT (.int i) (.int j) (.bl (decide (j < i))) := fun G H v u g a b Q k => by
  cases a; cases b
  exact ⟨i, j, rfl, rfl, k _ G H (Ext.refl g) (.bl _)⟩
theorem rp_ge {i j : Int} : RP K rGE (.int i) (.int j) (.bl (decide (j ≤ i))) := fun G H v u g a b Q k => by
  cases a; cases b
  exact ⟨i, j, rfl, rfl, k _ G H (Ext.refl g) (.bl _)⟩
theorem rp_in_sg {c : Nat} {z : Str} : RP K (rIN K) (.str ⟨#[c]⟩) (.str z) (.bl (decide (c ∈ z.cps.toList))) := fun G H v u g a b Q k => by
  cases a; cases b
  exact .inl ⟨c, z, rfl, rfl, k _ G H (Ext.refl g) (.bl _)⟩
theorem rp_nin_sg {c : Nat} {z : Str} : RP K (rNIN K) (.str ⟨#[c]⟩) (.str z) (.bl (!decide (c ∈ z.cps.toList))) := fun G H v u g a b Q k => by
  cases a; cases b
  exact .inl ⟨c, z, rfl, rfl, k _ G H (Ext.refl g) (.bl _)⟩
theorem rp_in_lst {x : D} {ds : List D} (hx : x.ok n = true) (hy : D.okL m ds = true) (h1 : n ≤ 64 := by decide) (h2 : m ≤ 63 := by decide) : RP K (rIN K) x (.lst ds) (.bl (ds.any fun z => z.eqv x)) := fun G H v u g a b Q k => by
  have hz : (D.lst ds).ok (m + 1) = true := by simpa [D.ok] using hy
  refine .inr (.inl ⟨x.py, D.pyL ds, a.dp n x v hx g, b.dp (m + 1) (.lst ds) u hz g, D.shaped hx h1, D.shaped hz (by omega), ?_⟩)
  rw [pyL_any]
  exact k _ G H (Ext.refl g) (.bl _)
theorem rp_nin_lst {x : D} {ds : List D} (hx : x.ok n = true) (hy : D.okL m ds = true) (h1 : n ≤ 64 := by decide) (h2 : m ≤ 63 := by decide) : RP K (rNIN K) x (.lst ds) (.bl (!ds.any fun z => z.eqv x)) := fun G H v u g a b Q k => by
  have hz : (D.lst ds).ok (m + 1) = true := by simpa [D.ok] using hy
  refine .inr (.inl ⟨x.py, D.pyL ds, a.dp n x v hx g, b.dp (m + 1) (.lst ds) u hz g, D.shaped hx h1, D.shaped hz (by omega), ?_⟩)
  rw [pyL_any]
  exact k _ G H (Ext.refl g) (.bl _)
theorem rp_in_tup {x : D} {ds : List D} (hx : x.ok n = true) (hy : D.okL m ds = true) (h1 : n ≤ 64 := by decide) (h2 : m ≤ 63 := by decide) : RP K (rIN K) x (.tup ds) (.bl (ds.any fun z => z.eqv x)) := fun G H v u g a b Q k => by
  have hz : (D.tup ds).ok (m + 1) = true := by simpa [D.ok] using hy
  refine .inr (.inr (.inl ⟨x.py, D.pyL ds, a.dp n x v hx g, b.dp (m + 1) (.tup ds) u hz g, D.shaped hx h1, D.shaped hz (by omega), ?_⟩))
  rw [pyL_any]
  exact k _ G H (Ext.refl g) (.bl _)
theorem rp_nin_tup {x : D} {ds : List D} (hx : x.ok n = true) (hy : D.okL m ds = true) (h1 : n ≤ 64 := by decide) (h2 : m ≤ 63 := by decide) : RP K (rNIN K) x (.tup ds) (.bl (!ds.any fun z => z.eqv x)) := fun G H v u g a b Q k => by
  have hz : (D.tup ds).ok (m + 1) = true := by simpa [D.ok] using hy
  refine .inr (.inr (.inl ⟨x.py, D.pyL ds, a.dp n x v hx g, b.dp (m + 1) (.tup ds) u hz g, D.shaped hx h1, D.shaped hz (by omega), ?_⟩))
  rw [pyL_any]
  exact k _ G H (Ext.refl g) (.bl _)
/-! ### items -/
theorem RepL.atI {G : Hp} {vs : List V} {ds : List D} {i : Int} {d : D} (r : RepL K G vs ds) (h : L2.atI ds i = some d) : ∃ v, L2.atI vs i = some v ∧ Rep K G v d := by
  unfold L2.atI at h ⊢
  rw [r.len]
  cases e : ixN ds.length i with
  | none => rw [e] at h; cases h
  | some j =>
    rw [e] at h
    exact r.get (i := j) h
theorem rp_ix_lst {ds : List D} {i : Int} {d : D} (h : L2.atI ds i = some d) : RP K (rIX K) (.lst ds) (.int i) d := fun G H v u g a b Q k => by
  cases b
  cases a with
  | lst ha la ra =>
    obtain ⟨w, h1, h2⟩ := (RepL.mk la ra).atI h
    exact .inl ⟨_, _, i, w, rfl, rfl, .inl (.inl (g _ _ ha)), h1, k _ G H (Ext.refl g) h2⟩
theorem rp_ix_tup {ds : List D} {i : Int} {d : D} (h : L2.atI ds i = some d) : RP K (rIX K) (.tup ds) (.int i) d := fun G H v u g a b Q k => by
  cases b
  cases a with
  | tup ha la ra =>
    obtain ⟨w, h1, h2⟩ := (RepL.mk la ra).atI h
    exact .inr (.inl ⟨_, _, i, w, rfl, rfl, seqT g ha, h1, k _ G H (Ext.refl g) h2⟩)
theorem rp_ix_str {z : Str} {i : Int} {c : Nat} (hz : z.length ≤ sizeLine) (h : L2.atI z.cps.toList i = some c) : RP K (rIX K) (.str z) (.int i) (.str ⟨#[c]⟩) := fun G H v u g a b Q k => by
  cases a; cases b
  exact .inr (.inr ⟨z, i, c, rfl, rfl, hz, h, k _ G H (Ext.refl g) (.str _)⟩)

/-! ### tests -/
theorem wt_test {b : Bool} (h : WP K te δ (.bl b)) : WTp K (tTest te) δ b := fun σ G H S g s n Q k => h σ G H S g s n _ fun v G' H' e r => by
  cases r
  exact ⟨b, rfl, k G' H' e⟩
theorem wt_B {b : Bool} (h : WP K te δ (.bl b)) : WTp K (tB te) δ b := fun σ G H S g s n Q k => h σ G H S g s n _ fun v G' H' e r => by
  cases r
  exact ⟨b, rfl, k G' H' e⟩
/-- truth of a value -/
def tTRU (K : PySem.W.Frag) (ta : TE) : TT := fun σ H Q => ta σ H fun x H' => ∃ k, TruV K x H' k ∧ Q k H'
theorem wt_tru {b : Bool} (h : WP K te δ (.bl b)) : WTp K (tTRU K te) δ b := fun σ G H S g s n Q k => h σ G H S g s n _ fun v G' H' e r => by
  cases r
  exact ⟨b, rfl, k G' H' e⟩
theorem wtE_tru {Φ : Bool → Dl → Prop} (h : WE K te δ fun x δ' => ∃ b, x = .dat (.bl b) ∧ Φ b δ') : WT K (tTRU K te) δ Φ := fun σ G H S g s n Q k => h σ G H S g s n _ fun v x δ' G' H' Sx S' a p => by
  obtain ⟨b, rfl, a⟩ := a
  obtain ⟨p1, p2, p3, p4, p5⟩ := p
  cases p2 with
  | dat r =>
    cases r
    exact ⟨b, rfl, k b δ' G' H' S' a ⟨p1, p3, nd_right p4, fun c hc => p5 c (List.mem_append_right _ hc)⟩⟩
theorem wt_and {a b : Bool} (h1 : WTp K t δ a) (h2 : a = true → WTp K u δ b) : WTp K (tAnd t u) δ (a && b) := fun σ G H S g s n Q k => h1 σ G H S g s n _ fun G1 H1 e1 => by
  cases a with
  | true => exact iteT (h2 rfl σ G1 H1 S e1.gh (s.ext e1) n Q fun G2 H2 e2 => k G2 H2 (e1.tr0 e2))
  | false => exact iteF (k G1 H1 e1)
theorem wt_or {a b : Bool} (h1 : WTp K t δ a) (h2 : a = false → WTp K u δ b) : WTp K (tOr t u) δ (a || b) := fun σ G H S g s n Q k => h1 σ G H S g s n _ fun G1 H1 e1 => by
  cases a with
  | true => exact iteT (k G1 H1 e1)
  | false => exact iteF (h2 rfl σ G1 H1 S e1.gh (s.ext e1) n Q fun G2 H2 e2 => k G2 H2 (e1.tr0 e2))
theorem wt_not {a : Bool} (h1 : WTp K t δ a) : WTp K (tNot t) δ (!a) := fun σ G H S g s n Q k => h1 σ G H S g s n _ fun G1 H1 e1 => k G1 H1 e1
theorem wtE_not {Φ : Bool → Dl → Prop} (h : WT K t δ fun b δ' => Φ (!b) δ') : WT K (tNot t) δ Φ := fun σ G H S g s n Q k => h σ G H S g s n _ fun b δ' G' H' S' a p => k _ δ' G' H' S' a p
/-- values of tests -/
theorem wp_andV {a b : Bool} (h1 : WP K ta δ (.bl a)) (h2 : a = true → WP K tb δ (.bl b)) : WP K (tAndV ta tb) δ (.bl (a && b)) := fun σ G H S g s n Q k => h1 σ G H S g s n _ fun v G1 H1 e1 r => by
  cases r
  refine ⟨a, rfl, ?_⟩
  cases a with
  | true => exact iteT (h2 rfl σ G1 H1 S e1.gh (s.ext e1) n Q fun w G2 H2 e2 r2 => k w G2 H2 (e1.tr0 e2) r2)
  | false => exact iteF (k _ G1 H1 e1 (.bl _))
theorem wp_orV {a b : Bool} (h1 : WP K ta δ (.bl a)) (h2 : a = false → WP K tb δ (.bl b)) : WP K (tOrV ta tb) δ (.bl (a || b)) := fun σ G H S g s n Q k => h1 σ G H S g s n _ fun v G1 H1 e1 r => by
  cases r
  refine ⟨a, rfl, ?_⟩
  cases a with
  | true => exact iteT (k _ G1 H1 e1 (.bl _))
  | false => exact iteF (h2 rfl σ G1 H1 S e1.gh (s.ext e1) n Q fun w G2 H2 e2 r2 => k w G2 H2 (e1.tr0 e2) r2)
theorem wp_notV {a : Bool} (h1 : WP K ta δ (.bl a)) : WP K (tNotV ta) δ (.bl (!a)) := fun σ G H S g s n Q k => h1 σ G H S g s n _ fun v G1 H1 e1 r => by
  cases r
  exact ⟨a, rfl, k _ G1 H1 e1 (.bl _)⟩
theorem wp_ifE {c : Bool} {d : D} (h : WTp K t δ c) (h1 : c = true → WP K ta δ d) (h2 : c = false → WP K tb δ d) : WP K (tIf t ta tb) δ d := fun σ G H S g s n Q k => h σ G H S g s n _ fun G1 H1 e1 => by
  cases c with
  | true => exact iteT (h1 rfl σ G1 H1 S e1.gh (s.ext e1) n Q fun w G2 H2 e2 r2 => k w G2 H2 (e1.tr0 e2) r2)
  | false => exact iteF (h2 rfl σ G1 H1 S e1.gh (s.ext e1) n Q fun w G2 H2 e2 r2 => k w G2 H2 (e1.tr0 e2) r2)

/-! ### arguments of data, displays, built-in calls -/
def WPa (K : PySem.W.Frag) (ta : TA) (δ : Dl) (ds : List D) : Prop := ∀ (σ : L2.St) (G H : Hp) (S : List Addr), Same G H → Sta K G H δ σ S → S.Nodup → ∀ Q : List V → Hp → Prop, (∀ vs G' H', Ext [] G H G' H' → RepL K G' vs ds → Q vs H') → ta σ H Q
theorem wpa_nil : WPa K tNil δ [] := fun σ G H S g s n Q k => k [] G H (Ext.refl g) .nil
theorem wpa_cons {ta : TA} {d : D} {ds : List D} (h1 : WP K te δ d) (h2 : WPa K ta δ ds) : WPa K (tCons te ta) δ (d :: ds) := fun σ G H S g s n Q k =>
  h1 σ G H S g s n _ fun v G1 H1 e1 r1 => h2 σ G1 H1 S e1.gh (s.ext e1) n _ fun vs G2 H2 e2 r2 => k _ G2 H2 (e1.tr0 e2) (.cons (r1.mono e2.gg) r2)
theorem wp_tup {ta : TA} {ds : List D} (h : WPa K ta δ ds) (hl : ds.length ≤ 1000 := by decide) : WP K (tTup ta) δ (.tup ds) := fun σ G H S g s n Q k => h σ G H S g s n _ fun vs G1 H1 e1 r1 => by
  refine ⟨by rw [r1.len]; exact Nat.le_trans hl (by decide), fun p hp => ?_⟩
  have e := Ext.newD (o := .tup vs) e1.gh hp
  exact k _ _ _ (e1.tr0 e) (.tup (.inl (.inl upd_same)) r1.len fun i v d h1 h2 => (r1.at_ i v d h1 h2).mono e.gg)
theorem wo_lst {ta : TA} {ds : List D} (h : WPa K ta δ ds) (hl : ds.length ≤ 1000 := by decide) : WO K (tLst ta) δ ds := fun σ G H S g s n Q k => h σ G H S g s n _ fun vs G1 H1 e1 r1 => by
  refine ⟨by rw [r1.len]; exact Nat.le_trans hl (by decide), fun p hp => ?_⟩
  have e := Ext.newO (o := .lst vs) e1.gh hp
  have hp0 : H p = none := by
    cases z : H p with
    | none => rfl
    | some o => exact absurd hp (e1.dm p (by rw [z]; simp))
  exact k p vs _ _ (e1.tr0 e) (e1.gh.free hp) hp0 upd_same r1
def CP (K : PySem.W.Frag) (r : List V → Hp → VK → Prop) (ds : List D) (z : D) : Prop := ∀ (G H : Hp) (vs : List V), Same G H → RepL K G vs ds → ∀ Q : VK, (∀ w G' H', Ext [] G H G' H' → Rep K G' w z → Q w H') → r vs H Q
/-- a call that makes a new list -/
def CO (K : PySem.W.Frag) (r : List V → Hp → VK → Prop) (ds : List D) (zs : List D) : Prop := ∀ (G H : Hp) (vs : List V), Same G H → RepL K G vs ds → ∀ Q : VK,
  (∀ p ws G' H', Ext [] G H G' H' → G' p = none → H p = none → H' p = some (.lst ws) → RepL K G' ws zs → Q (.ref p) H') → r vs H Q
theorem wp_cb {r : List V → Hp → VK → Prop} {ta : TA} {ds : List D} {z : D} (h : WPa K ta δ ds) (hr : CP K r ds z) : WP K (tCB r ta) δ z := fun σ G H S g s n Q k => h σ G H S g s n _ fun vs G1 H1 e1 r1 =>
  hr G1 H1 vs e1.gh r1 Q fun w G2 H2 e2 r2 => k w G2 H2 (e1.tr0 e2) r2
theorem wo_cb {r : List V → Hp → VK → Prop} {ta : TA} {ds zs : List D} (h : WPa K ta δ ds) (hr : CO K r ds zs) : WO K (tCB r ta) δ zs := fun σ G H S g s n Q k => h σ G H S g s n _ fun vs G1 H1 e1 r1 =>
  hr G1 H1 vs e1.gh r1 Q fun p ws G2 H2 e2 a b c d => k p ws G2 H2 (e1.tr0 e2) a (by
    cases z : H p with
    | none => rfl
    | some o => exact absurd b (e1.dm p (by rw [z]; simp))) c d
theorem cp_len_lst {ds : List D} : CP K (rLEN K) [.lst ds] (.int ds.length) := fun G H vs g r Q k => by
  obtain ⟨v, ws, rfl, h1, h2⟩ := r.cases_cons
  rw [h2.cases_nil]
  cases h1 with
  | lst ha la ra => exact ⟨_, ds.length, rfl, .inl ⟨_, .inl (.inl (g _ _ ha)), la.symm⟩, k _ G H (Ext.refl g) (.int _)⟩
end
end Pw
namespace Pw
open PySem PySem.Spec L2
section
variable {K : PySem.W.Frag} {P : List Nat} {δ : Dl} {ta tb te : TE} {t u : TT} {ts t1 t2 : TS} {n m : Nat}
theorem back_none {G H G' H' : Hp} {S : List Addr} {p : Addr} (e : Ext S G H G' H') (h : H' p = none) : H p = none := by
  cases z : H p with
  | none => rfl
  | some o => exact absurd h (e.dm p (by rw [z]; simp))
/-! ### len, list, tuple, int, str -/
theorem cp_len_tup {ds : List D} : CP K (rLEN K) [.tup ds] (.int ds.length) := fun G H vs g r Q k => by
  obtain ⟨v, ws, rfl, h1, h2⟩ := r.cases_cons
  rw [h2.cases_nil]
  cases h1 with
  | tup ha la ra => exact ⟨_, ds.length, rfl, .inr ⟨_, seqT g ha, la.symm⟩, k _ G H (Ext.refl g) (.int _)⟩
theorem cp_len_str {z : Str} (h : z.length ≤ sizeLine) : CP K (rLEN K) [.str z] (.int z.length) := fun G H vs g r Q k => by
  obtain ⟨v, ws, rfl, h1, h2⟩ := r.cases_cons
  rw [h2.cases_nil]
  cases h1
  exact ⟨_, z.length, rfl, ⟨h, rfl⟩, k _ G H (Ext.refl g) (.int _)⟩
theorem OwnL.len {G H : Hp} : ∀ {xs : List OV} {vs : List V} {S : List Addr}, OwnL K G H xs vs S → vs.length = xs.length
  | _, _, _, .nil => rfl
  | _, _, _, .cons _ t => by simp [t.len]
/-- len of an owned list -/
theorem wp_len_own {xs : List OV} (h : PL K te δ (.lst xs)) : WP K (tCB (rLEN K) (tCons te tNil)) δ (.int xs.length) := fun σ G H S g s nd Q k => h σ G H S g s nd _ fun u Sx Sr o p => by
  cases o with
  | lst ha ga t => exact ⟨_, xs.length, rfl, .inl ⟨_, .inl (.inl ha), t.len.symm⟩, k _ G H (Ext.refl g) (.int _)⟩
def rLIST (K : PySem.W.Frag) : List V → Hp → VK → Prop := fun xs H Q => ∃ p ys, xs = [.ref p] ∧ (SqL K H p ys ∨ SqT K H p ys) ∧ ∀ l, H l = none → Q (.ref l) (upd H l (.lst ys))
theorem call_LIST {X : Cx} : CallR X (.type "list") (rLIST X.K) := call_list_of
def rTUPLE (K : PySem.W.Frag) : List V → Hp → VK → Prop := fun xs H Q => ∃ p ys, xs = [.ref p] ∧ ((SqL K H p ys ∧ ∀ l, H l = none → Q (.ref l) (upd H l (.tup ys))) ∨ (SqT K H p ys ∧ Q (.ref p) H))
theorem call_TUPLE {X : Cx} : CallR X (.type "tuple") (rTUPLE X.K) := call_tuple_of
theorem co_list_lst {ds : List D} : CO K (rLIST K) [.lst ds] ds := fun G H vs g r Q k => by
  obtain ⟨v, ws, rfl, h1, h2⟩ := r.cases_cons
  rw [h2.cases_nil]
  cases h1 with
  | lst ha la ra =>
    refine ⟨_, _, rfl, .inl (.inl (.inl (g _ _ ha))), fun l hl => ?_⟩
    exact k l _ _ _ (Ext.newO g hl) (g.free hl) hl upd_same ⟨la, ra⟩
theorem co_list_tup {ds : List D} : CO K (rLIST K) [.tup ds] ds := fun G H vs g r Q k => by
  obtain ⟨v, ws, rfl, h1, h2⟩ := r.cases_cons
  rw [h2.cases_nil]
  cases h1 with
  | tup ha la ra =>
    refine ⟨_, _, rfl, .inr (seqT g ha), fun l hl => ?_⟩
    exact k l _ _ _ (Ext.newO g hl) (g.free hl) hl upd_same ⟨la, ra⟩
theorem co_list_scr {ns : List Int} : CO K (rLIST K) [.scr ns] (ns.map D.int) := fun G H vs g r Q k => by
  obtain ⟨v, ws, rfl, h1, h2⟩ := r.cases_cons
  rw [h2.cases_nil]
  cases h1 with
  | scr ha =>
    refine ⟨_, _, rfl, .inl (g.seq ha), fun l hl => ?_⟩
    exact k l _ _ _ (Ext.newO g hl) (g.free hl) hl upd_same (repL_ints ns)
theorem cp_tuple_lst {ds : List D} : CP K (rTUPLE K) [.lst ds] (.tup ds) := fun G H vs g r Q k => by
  obtain ⟨v, ws, rfl, h1, h2⟩ := r.cases_cons
  rw [h2.cases_nil]
  cases h1 with
  | @lst a vs0 _ ha la ra =>
    refine ⟨_, _, rfl, .inl ⟨.inl (.inl (g _ _ ha)), fun l hl => ?_⟩⟩
    have e := Ext.newD (o := .tup vs0) g hl
    exact k _ _ _ e (.tup (.inl (.inl upd_same)) la fun i w d h1 h2 => (ra i w d h1 h2).mono e.gg)
theorem cp_tuple_tup {ds : List D} : CP K (rTUPLE K) [.tup ds] (.tup ds) := fun G H vs g r Q k => by
  obtain ⟨v, ws, rfl, h1, h2⟩ := r.cases_cons
  rw [h2.cases_nil]
  cases h1 with
  | tup ha la ra => exact ⟨_, _, rfl, .inr ⟨seqT g ha, k _ G H (Ext.refl g) (.tup ha la ra)⟩⟩
theorem call_INT {X : Cx} : CallR X (.type "int") rINT := call_int1.or call_int_str
theorem cp_int {i : Int} : CP K rINT [.int i] (.int i) := fun G H vs g r Q k => by
  obtain ⟨v, ws, rfl, h1, h2⟩ := r.cases_cons
  rw [h2.cases_nil]
  cases h1
  exact .inl (.inl ⟨i, rfl, k _ G H (Ext.refl g) (.int _)⟩)
theorem cp_int_bl {b : Bool} : CP K rINT [.bl b] (.int (if b then 1 else 0)) := fun G H vs g r Q k => by
  obtain ⟨v, ws, rfl, h1, h2⟩ := r.cases_cons
  rw [h2.cases_nil]
  cases h1
  exact .inl (.inr ⟨b, rfl, k _ G H (Ext.refl g) (.int _)⟩)
def rSTR : List V → Hp → VK → Prop := fun xs H Q => ∃ i, xs = [.int i] ∧ i.natAbs.log2 < 1920 ∧ Q (.str (toString i)) H
theorem call_STR {X : Cx} : CallR X (.type "str") rSTR := call_str_int
theorem cp_str {i : Int} (h : i.natAbs.log2 < 1920) : CP K rSTR [.int i] (.str (toString i : String)) := fun G H vs g r Q k => by
  obtain ⟨v, ws, rfl, h1, h2⟩ := r.cases_cons
  rw [h2.cases_nil]
  cases h1
  exact ⟨i, rfl, h, k _ G H (Ext.refl g) (.str _)⟩

/-! ### items of owned lists -/
theorem OwnL.get {G H : Hp} : ∀ {xs : List OV} {vs : List V} {S : List Addr} {i : Nat} {x : OV}, OwnL K G H xs vs S → xs[i]? = some x →
    ∃ v Si Sr, vs[i]? = some v ∧ Own K G H x v Si ∧ S.Perm (Si ++ Sr) ∧ ∀ G' H' x' v' Si', Same G G' → (∀ b ∈ Sr, H' b = H b ∧ G' b = Option.none) → Own K G' H' x' v' Si' →
      ∃ S', S'.Perm (Si' ++ Sr) ∧ OwnL K G' H' (xs.set i x') (vs.set i v') S'
  | _, _, _, _, _, .nil, h => by simp at h
  | _, _, _, 0, x, .cons (x := x0) (v := v0) (S := S0) (T := T0) o t, h => by
    have e : x0 = x := by simpa using h
    subst e
    exact ⟨_, _, _, rfl, o, List.Perm.refl _, fun G' H' x' v' Si' gg kp o' => ⟨_, List.Perm.refl _, by simpa using OwnL.cons o' (t.frame gg kp)⟩⟩
  | _, _, _, i + 1, x, .cons (S := S0) (T := T0) o t, h => by
    obtain ⟨v, Si, Sr, h1, h2, h3, h4⟩ := t.get (i := i) (x := x) (by simpa using h)
    refine ⟨v, Si, S0 ++ Sr, by simpa using h1, h2, ?_, fun G' H' x' v' Si' gg kp o' => ?_⟩
    · exact (List.Perm.append_left S0 h3).trans (by rw [← List.append_assoc, ← List.append_assoc]; exact List.Perm.append_right Sr List.perm_append_comm)
    · obtain ⟨S', p, q⟩ := h4 G' H' x' v' Si' gg (fun b hb => kp b (List.mem_append_right _ hb)) o'
      refine ⟨S0 ++ S', ?_, by simpa using OwnL.cons (o.frame gg fun b hb => kp b (List.mem_append_left _ hb)) q⟩
      exact (List.Perm.append_left S0 p).trans (by rw [← List.append_assoc, ← List.append_assoc]; exact List.Perm.append_right Sr List.perm_append_comm)
/-- an item of an owned list, that is data -/
theorem wp_ix_own {xs : List OV} {i : Int} {j : Nat} {d : D} (h : PL K ta δ (.lst xs)) (hi : WP K tb δ (.int i)) (hj : ixN xs.length i = some j) (hx : xs[j]? = some (.dat d)) : WP K (tOp (rIX K) ta tb) δ d := fun σ G H S g s nd Q k =>
  h σ G H S g s nd _ fun u Sx Sr o p => hi σ G H S g s nd _ fun v G1 H1 e1 r1 => by
    cases r1
    have o1 := o.ext e1
    cases o1 with
    | lst ha ga t =>
      obtain ⟨w, Si, Sr, h1, h2, _⟩ := t.get hx
      cases h2 with
      | dat r =>
        refine .inl ⟨_, _, i, w, rfl, rfl, .inl (.inl ha), ?_, k w G1 H1 e1 r⟩
        unfold L2.atI
        rw [t.len, hj]
        exact h1
/-! ### fields -/
def pF {β : Type} (f : Str) (v : β) : List (Str × β) → List (Str × β)
  | [] => [(f, v)]
  | (g, x) :: r => if g = f then (g, v) :: r else (g, x) :: pF f v r
theorem pF_putF (f : Str) (v : V) : ∀ fs : List (Str × V), pF f v fs = putF f v fs
  | [] => rfl
  | (g, x) :: r => by
    show (if g = f then (g, v) :: r else (g, x) :: pF f v r) = (if g = f then (g, v) :: r else (g, x) :: putF f v r)
    rw [pF_putF f v r]
theorem pF_length {β : Type} (f : Str) (v : β) : ∀ fs : List (Str × β), (pF f v fs).length ≤ fs.length + 1
  | [] => by simp [pF]
  | (g, x) :: r => by
    have := pF_length f v r
    unfold pF
    split <;> simp <;> omega
theorem lookup_ne {β : Type} {f g : Str} {x : β} {r : List (Str × β)} (h : g ≠ f) : ((g, x) :: r).lookup f = r.lookup f := by
  simp only [List.lookup]
  have : (f == g) = false := beq_eq_false_iff_ne.mpr (Ne.symm h)
  rw [this]
theorem lookup_eq {β : Type} {f : Str} {x : β} {r : List (Str × β)} : ((f, x) :: r).lookup f = some x := by
  simp only [List.lookup, beq_self_eq_true]
theorem ownF_put {G H : Hp} (f : Str) : ∀ {os : List (Str × OV)} {fs : List (Str × V)} {S : List Addr}, fs.map (·.1) = os.map (·.1) → OwnL K G H (os.map (·.2)) (fs.map (·.2)) S →
    ∃ Sd Sr, S.Perm (Sd ++ Sr) ∧ (∀ x, os.lookup f = some x → ∃ v, fs.lookup f = some v ∧ Own K G H x v Sd) ∧ ∀ G' H' x' v' Si', Same G G' → (∀ b ∈ Sr, H' b = H b ∧ G' b = none) → Own K G' H' x' v' Si' →
      ∃ S', S'.Perm (Si' ++ Sr) ∧ (putF f v' fs).map (·.1) = (pF f x' os).map (·.1) ∧ OwnL K G' H' ((pF f x' os).map (·.2)) ((putF f v' fs).map (·.2)) S'
  | [], [], _, _, .nil => ⟨[], [], List.Perm.refl _, fun x h => by simp at h, fun G' H' x' v' Si' gg kp o => ⟨Si' ++ [], List.Perm.refl _, rfl, OwnL.cons o .nil⟩⟩
  | [], _ :: _, _, h, _ => by simp at h
  | _ :: _, [], _, h, _ => by simp at h
  | (g, x) :: os, (g', v) :: fs, _, h, .cons (S := S0) (T := T0) o t => by
    have hg : g' = g := by simpa using (List.cons.inj h).1
    subst hg
    have ht : fs.map (·.1) = os.map (·.1) := by simpa using (List.cons.inj h).2
    by_cases e : g' = f
    · subst e
      refine ⟨S0, T0, List.Perm.refl _, fun y hy => ?_, fun G' H' x' v' Si' gg kp o' => ?_⟩
      · rw [lookup_eq] at hy ⊢
        cases hy
        exact ⟨v, rfl, o⟩
      · refine ⟨Si' ++ T0, List.Perm.refl _, ?_, ?_⟩
        · simp only [putF, pF, if_pos]; simpa using ht
        · simp only [putF, pF, if_pos]
          exact OwnL.cons o' (t.frame gg kp)
    · obtain ⟨Sd, Sr, h1, h2, h3⟩ := ownF_put f ht t
      refine ⟨Sd, S0 ++ Sr, ?_, fun y hy => ?_, fun G' H' x' v' Si' gg kp o' => ?_⟩
      · exact (List.Perm.append_left S0 h1).trans (by rw [← List.append_assoc, ← List.append_assoc]; exact List.Perm.append_right Sr List.perm_append_comm)
      · rw [lookup_ne e] at hy ⊢
        exact h2 y hy
      · obtain ⟨S', p1, p2, p3⟩ := h3 G' H' x' v' Si' gg (fun b hb => kp b (List.mem_append_right _ hb)) o'
        refine ⟨S0 ++ S', ?_, ?_, ?_⟩
        · exact (List.Perm.append_left S0 p1).trans (by rw [← List.append_assoc, ← List.append_assoc]; exact List.Perm.append_right Sr List.perm_append_comm)
        · simp only [putF, pF, if_neg e, List.map_cons, p2]
        · simp only [putF, pF, if_neg e, List.map_cons]
          exact OwnL.cons (o.frame gg fun b hb => kp b (List.mem_append_left _ hb)) p3
theorem map_len {α β : Type} {fs : List (Str × α)} {os : List (Str × β)} (h : fs.map (·.1) = os.map (·.1)) : fs.length = os.length := by
  have := congrArg List.length h
  simpa using this
/-- a field of an owned object -/
theorem pm_fld {C : Addr} {os : List (Str × OV)} {f : Str} {x : OV} {put : OV → Dl} (h : PM K te δ (.obj C os) put) (hc : Cls K C) (hn : NoAttr K C f) (hx : os.lookup f = some x) : PM K (tFld K te f) δ x (fun y => put (.obj C (pF f y os))) := fun σ G H S g s nd Q k =>
  h σ G H S g s nd _ fun u Sx Sr o p kk => by
    cases o with
    | @obj a C dx fs os S0 ha ga hk t =>
      obtain ⟨Sd, Sq, p1, p2, p3⟩ := ownF_put f hk t
      obtain ⟨v, hv, ov⟩ := p2 x hx
      have pp : S.Perm (Sd ++ ((a :: Sq) ++ Sr)) := by
        refine p.trans ?_
        have h1 : (a :: S0).Perm (Sd ++ (a :: Sq)) := ((List.Perm.cons a p1).trans (by rw [← List.singleton_append, ← List.append_assoc, ← List.singleton_append (l := Sq), ← List.append_assoc]; exact List.Perm.append_right Sq List.perm_append_comm))
        exact (List.Perm.append_right Sr h1).trans (by rw [List.append_assoc])
      refine ⟨a, C, dx, fs, v, rfl, ha, hc, hn, hv, k v Sd ((a :: Sq) ++ Sr) ov pp fun G' H' x' Sx' gg kp o' => ?_⟩
      obtain ⟨S', q1, q2, q3⟩ := p3 G' H' x' v Sx' gg (fun b hb => kp b (List.mem_append_left _ (List.mem_cons_of_mem _ hb))) o'
      have e0 : putF f v fs = fs := by
        clear p3 q1 q2 q3 p2 hk ha t p1
        induction fs with
        | nil => simp at hv
        | cons q fs ih =>
          obtain ⟨g0, x0⟩ := q
          by_cases e : g0 = f
          · subst e
            rw [lookup_eq] at hv
            cases hv
            simp [putF]
          · rw [lookup_ne e] at hv
            simp only [putF, if_neg e, ih hv]
      rw [e0] at q2 q3
      have ka := kp a (by simp)
      obtain ⟨S2, z1, z2⟩ := kk G' H' (.obj C (pF f x' os)) (a :: S') gg (fun b hb => kp b (List.mem_append_right _ hb)) (.obj (dx := dx) (by rw [ka.1]; exact ha) ka.2 q2 q3)
      refine ⟨S2, z1.trans ?_, z2⟩
      have h1 : (a :: S').Perm (Sx' ++ (a :: Sq)) := ((List.Perm.cons a q1).trans (by rw [← List.singleton_append, ← List.append_assoc, ← List.singleton_append (l := Sq), ← List.append_assoc]; exact List.Perm.append_right Sq List.perm_append_comm))
      exact (List.Perm.append_right Sr h1).trans (by rw [List.append_assoc])
theorem pl_fld {C : Addr} {os : List (Str × OV)} {f : Str} {x : OV} (h : PL K te δ (.obj C os)) (hc : Cls K C) (hn : NoAttr K C f) (hx : os.lookup f = some x) : PL K (tFld K te f) δ x := fun σ G H S g s nd Q k =>
  h σ G H S g s nd _ fun u Sx Sr o p => by
    cases o with
    | @obj a C dx fs os S0 ha ga hk t =>
      obtain ⟨Sd, Sq, p1, p2, p3⟩ := ownF_put f hk t
      obtain ⟨v, hv, ov⟩ := p2 x hx
      have pp : S.Perm (Sd ++ ((a :: Sq) ++ Sr)) := by
        refine p.trans ?_
        have h1 : (a :: S0).Perm (Sd ++ (a :: Sq)) := ((List.Perm.cons a p1).trans (by rw [← List.singleton_append, ← List.append_assoc, ← List.singleton_append (l := Sq), ← List.append_assoc]; exact List.Perm.append_right Sq List.perm_append_comm))
        exact (List.Perm.append_right Sr h1).trans (by rw [List.append_assoc])
      exact ⟨a, C, dx, fs, v, rfl, ha, hc, hn, hv, k v Sd ((a :: Sq) ++ Sr) ov pp⟩
theorem repF_get {G : Hp} {f : Str} : ∀ {fs : List (Str × V)} {ds : List (Str × D)}, fs.map (·.1) = ds.map (·.1) → RepL K G (fs.map (·.2)) (ds.map (·.2)) → ∀ {d : D}, ds.lookup f = some d → ∃ v, fs.lookup f = some v ∧ Rep K G v d
  | [], [], _, _, d, h => by simp at h
  | [], _ :: _, h, _, _, _ => by simp at h
  | _ :: _, [], h, _, _, _ => by simp at h
  | (g, v) :: fs, (g', d0) :: ds, h, r, d, hd => by
    have hg : g = g' := by simpa using (List.cons.inj h).1
    subst hg
    have ht : fs.map (·.1) = ds.map (·.1) := by simpa using (List.cons.inj h).2
    obtain ⟨v', ws, e, r1, r2⟩ := r.cases_cons
    cases e
    by_cases e : g = f
    · subst e
      rw [lookup_eq] at hd ⊢
      cases hd
      exact ⟨v, rfl, r1⟩
    · rw [lookup_ne e] at hd ⊢
      exact repF_get ht r2 hd
/-- a field of an object that is data -/
theorem wp_fld {C : Addr} {ds : List (Str × D)} {f : Str} {d : D} (h : WP K te δ (.obj C ds)) (hc : Cls K C) (hn : NoAttr K C f) (hx : ds.lookup f = some d) : WP K (tFld K te f) δ d := fun σ G H S g s nd Q k =>
  h σ G H S g s nd _ fun u G1 H1 e1 r1 => by
    cases r1 with
    | @obj a C dx fs ds ha hk ri =>
      obtain ⟨v, hv, rv⟩ := repF_get hk ⟨by simpa using map_len hk, ri⟩ hx
      exact ⟨_, C, dx, fs, v, rfl, e1.gh _ _ ha, hc, hn, hv, k v G1 H1 e1 rv⟩
end
end Pw
namespace Pw
open PySem PySem.Spec L2
section
variable {K : PySem.W.Frag} {P : List Nat} {δ : Dl} {ta tb te to ti tv : TE} {t u : TT} {ts t1 t2 : TS} {n m : Nat}
theorem OwnL.app {G H : Hp} : ∀ {xs ys : List OV} {vs ws : List V} {S T : List Addr}, OwnL K G H xs vs S → OwnL K G H ys ws T → OwnL K G H (xs ++ ys) (vs ++ ws) (S ++ T)
  | _, _, _, _, _, _, .nil, h => h
  | _, _, _, _, _, _, .cons (S := S0) (T := T0) o t, h => by
    have := OwnL.cons o (t.app h)
    rw [← List.append_assoc] at this
    exact this
theorem OwnL.one {G H : Hp} {x : OV} {v : V} {S : List Addr} (h : Own K G H x v S) : OwnL K G H [x] [v] S := by
  have := OwnL.cons h .nil
  rwa [List.append_nil] at this
/-- a node at l: what it holds is changed. H1 : behind the arguments -/
structure Node (K : PySem.W.Frag) (δ : Dl) (put : OV → Dl) (σ : L2.St) (G H : Hp) (S : List Addr) (l : Addr) (T Sr : List Addr) : Prop where
  g : Same G H
  gl : G l = none
  hl : H l ≠ none
  nd : (l :: T ++ Sr).Nodup
  pm : S.Perm (l :: T ++ Sr)
  fT : ∀ b ∈ T, H b ≠ none ∧ G b = none
  fS : ∀ b ∈ Sr, H b ≠ none ∧ G b = none
  back : ∀ G' H' x' Sx', Same G G' → (∀ b ∈ Sr, H' b = H b ∧ G' b = none) → Own K G' H' x' (.ref l) Sx' → ∃ S', S'.Perm (Sx' ++ Sr) ∧ Sta K G' H' (put x') σ S'
theorem Node.frT {put : OV → Dl} {σ : L2.St} {G H : Hp} {S : List Addr} {l : Addr} {T Sr : List Addr} (N : Node K δ put σ G H S l T Sr) (o : HO) : ∀ b ∈ T, upd H l o b = H b ∧ G b = none := fun b hb =>
  ⟨upd_ne fun q => (List.nodup_cons.mp (nd_left N.nd)).1 (q ▸ hb), (N.fT b hb).2⟩
/-- behind the change: all but the node's own part stays -/
theorem Node.post {put : OV → Dl} {σ : L2.St} {G H : Hp} {S : List Addr} {l : Addr} {T Sr : List Addr} (N : Node K δ put σ G H S l T Sr) {o : HO} {x' : OV} {T' : List Addr} (h : ∀ b ∈ T', b ∈ T) (nT : T'.Nodup) (ow : Own K G (upd H l o) x' (.ref l) (l :: T')) :
    ∃ S', Ext S G H G (upd H l o) ∧ Sta K G (upd H l o) (put x') σ S' ∧ S'.Nodup ∧ S'.Perm (l :: T' ++ Sr) ∧ ∀ b ∈ S', b ∈ S := by
  have lT : l ∉ T := (List.nodup_cons.mp (nd_left N.nd)).1
  have lS : l ∉ Sr := nd_dis N.nd (by simp)
  obtain ⟨S', p1, p2⟩ := N.back G (upd H l o) x' _ (Same.refl G) (fun b hb => ⟨upd_ne fun q => lS (q ▸ hb), (N.fS b hb).2⟩) ow
  have nd' : (l :: T' ++ Sr).Nodup := nd_app (List.nodup_cons.mpr ⟨fun q => lT (h l q), nT⟩) (nd_right N.nd) fun b hb => by
    rcases List.mem_cons.mp hb with rfl | hb
    · exact lS
    · exact nd_dis N.nd (List.mem_cons_of_mem _ (h b hb))
  refine ⟨S', Ext.set N.g (N.pm.mem_iff.mpr (by simp)) N.gl, p2, nd_perm p1.symm nd', p1, fun b hb => N.pm.mem_iff.mpr ?_⟩
  rcases List.mem_append.mp (p1.mem_iff.mp hb) with q | q
  · rcases List.mem_cons.mp q with rfl | q
    · simp
    · exact List.mem_append_left _ (List.mem_cons_of_mem _ (h b q))
  · exact List.mem_append_right _ q
/-- what PM gives, for an object node, behind pure arguments -/
theorem node_of {put : OV → Dl} {σ : L2.St} {G H G1 H1 : Hp} {S : List Addr} {l : Addr} {T Sr : List Addr} (e : Ext [] G H G1 H1) (g : Same G H) (nd : S.Nodup) (gl : G l = none) (hl : H l ≠ none) (p : S.Perm (l :: T ++ Sr))
    (f : ∀ b ∈ S, H b ≠ none ∧ G b = none)
    (k : ∀ G' H' x' Sx', Same G G' → (∀ b ∈ Sr, H' b = H b ∧ G' b = none) → Own K G' H' x' (.ref l) Sx' → ∃ S', S'.Perm (Sx' ++ Sr) ∧ Sta K G' H' (put x') σ S') : Node K δ put σ G1 H1 S l T Sr := by
  have st : ∀ b, H b ≠ none → H1 b = H b := fun b hb => by
    cases z : H b with
    | none => exact absurd z hb
    | some o => exact e.kp b o (by simp) z
  have fs : ∀ b, b ∈ l :: T ++ Sr → H b ≠ none ∧ G b = none := fun b hb => f b (p.mem_iff.mpr hb)
  refine ⟨e.gh, by rw [e.fr l (by simp) hl]; exact gl, by rw [st l hl]; exact hl, nd_perm p nd, p, fun b hb => ?_, fun b hb => ?_, fun G' H' x' Sx' gg kp o => k G' H' x' Sx' (e.gg.trans gg) (fun b hb => ?_) o⟩
  · obtain ⟨h1, h2⟩ := fs b (List.mem_append_left _ (List.mem_cons_of_mem _ hb))
    exact ⟨by rw [st b h1]; exact h1, by rw [e.fr b (by simp) h1]; exact h2⟩
  · obtain ⟨h1, h2⟩ := fs b (List.mem_append_right _ hb)
    exact ⟨by rw [st b h1]; exact h1, by rw [e.fr b (by simp) h1]; exact h2⟩
  · obtain ⟨q1, q2⟩ := kp b hb
    obtain ⟨h1, _⟩ := fs b (List.mem_append_right _ hb)
    exact ⟨q1.trans (st b h1), q2⟩
theorem tyL {H : Hp} {l : Addr} {vs : List V} (h : H l = some (.lst vs)) : tyV K "list" (.ref l) H := .inl ⟨rfl, _, .inl (.inl h)⟩
/-- l.append(e), e data -/
theorem we_append {xs : List OV} {d : D} {put : OV → Dl} {Φ : OV → Dl → Prop} (h : PM K to δ (.lst xs) put) (he : WP K te δ d) (hl : xs.length < 1000000) (q : Φ (.dat .non) (put (.lst (xs ++ [.dat d])))) :
    WE K (tBM K "list" rAppend to (tCons te tNil)) δ Φ := fun σ G H S g s nd Q k =>
  h σ G H S g s nd _ fun u Sx Sr o p kk => by
    cases o with
    | @lst l vs _ T ha ga t =>
      refine ⟨tyL ha, he σ G H S g s nd _ fun v G1 H1 e1 r1 => ?_⟩
      have N : Node K δ put σ G1 H1 S l T Sr := node_of e1 g nd ga (by rw [ha]; simp) p s.foot kk
      refine ⟨l, vs, v, rfl, rfl, e1.kp l _ (by simp) ha, Nat.lt_of_lt_of_le (by rw [t.len]; exact hl) (by decide), ?_⟩
      have ow : Own K G1 (upd H1 l (.lst (vs ++ [v]))) (.lst (xs ++ [.dat d])) (.ref l) (l :: T) := by
        have t1 := (t.ext e1).frame (Same.refl G1) (N.frT (.lst (vs ++ [v])))
        have := t1.app (OwnL.one (Own.dat r1 : Own K G1 (upd H1 l (.lst (vs ++ [v]))) (.dat d) v []))
        rw [List.append_nil] at this
        exact .lst upd_same N.gl this
      obtain ⟨S', a1, a2, a3, a4, a5⟩ := N.post (fun b hb => hb) (List.nodup_cons.mp (nd_left N.nd)).2 ow
      exact k _ _ _ _ _ [] S' q ⟨e1.pure.trans a1 Frs.refl, .dat .non, a2, by simpa using a3, fun b hb => .inl (a5 b (by simpa using hb))⟩
/-- l.pop(), the last item data -/
theorem we_pop {xs : List OV} {d : D} {put : OV → Dl} {Φ : OV → Dl → Prop} (h : PM K to δ (.lst (xs ++ [.dat d])) put) (q : Φ (.dat d) (put (.lst xs))) : WE K (tBM0 K "list" rPop to) δ Φ := fun σ G H S g s nd Q k =>
  h σ G H S g s nd _ fun u Sx Sr o p kk => by
    cases o with
    | @lst l vs _ T ha ga t =>
      have N : Node K δ put σ G H S l T Sr := node_of (Ext.refl g) g nd ga (by rw [ha]; simp) p s.foot kk
      have tl := t.len
      have cut : ∀ {xs : List OV} {vs : List V} {T : List Addr}, OwnL K G H (xs ++ [.dat d]) vs T → ∃ ws v, vs = ws ++ [v] ∧ OwnL K G H xs ws T ∧ Rep K G v d := by
        intro xs
        induction xs with
        | nil =>
          intro vs T t
          cases t with
          | cons o1 t1 =>
            cases t1
            cases o1 with
            | dat r => exact ⟨[], _, rfl, .nil, r⟩
        | cons x xs ih =>
          intro vs T t
          cases t with
          | cons o1 t1 =>
            obtain ⟨ws, v, e, h1, h2⟩ := ih t1
            subst e
            exact ⟨_ :: ws, v, rfl, .cons o1 h1, h2⟩
      obtain ⟨ws, v, e, t1, r⟩ := cut t
      subst e
      refine ⟨tyL ha, l, ws ++ [v], v, rfl, rfl, ha, by simp, ?_⟩
      rw [List.dropLast_concat]
      have ow : Own K G (upd H l (.lst ws)) (.lst xs) (.ref l) (l :: T) := .lst upd_same N.gl (t1.frame (Same.refl G) (N.frT (.lst ws)))
      obtain ⟨S', a1, a2, a3, a4, a5⟩ := N.post (fun b hb => hb) (List.nodup_cons.mp (nd_left N.nd)).2 ow
      exact k _ _ _ _ _ [] S' q ⟨a1, .dat r, a2, by simpa using a3, fun b hb => .inl (a5 b (by simpa using hb))⟩
theorem ownL_dat {G H : Hp} : ∀ {ds : List D} {vs : List V}, RepL K G vs ds → OwnL K G H (ds.map OV.dat) vs []
  | [], vs, r => by rw [r.cases_nil]; exact .nil
  | d :: ds, vs, r => by
    obtain ⟨v, ws, rfl, h1, h2⟩ := r.cases_cons
    exact OwnL.cons (S := []) (T := []) (.dat h1) (ownL_dat h2)
theorem ownL_rep {G H : Hp} : ∀ {ds : List D} {vs : List V} {T : List Addr}, OwnL K G H (ds.map OV.dat) vs T → RepL K G vs ds ∧ T = []
  | [], _, _, t => by cases t; exact ⟨.nil, rfl⟩
  | d :: ds, _, _, t => by
    cases t with
    | cons o t =>
      cases o with
      | dat r =>
        obtain ⟨h1, h2⟩ := ownL_rep t
        exact ⟨.cons r h1, by simp [h2]⟩
theorem RepL.rev {G : Hp} {vs : List V} {ds : List D} (r : RepL K G vs ds) : RepL K G vs.reverse ds.reverse := ⟨by simp [r.len], fun i v d h1 h2 => by
  have hl := r.len
  have hi : i < vs.length := by simpa using get_lt h1
  rw [List.getElem?_reverse hi] at h1
  rw [List.getElem?_reverse (by omega)] at h2
  rw [hl] at h1
  exact r.at_ _ v d h1 h2⟩
/-- l.reverse() of data -/
theorem we_reverse {ds : List D} {put : OV → Dl} {Φ : OV → Dl → Prop} (h : PM K to δ (.lst (ds.map OV.dat)) put) (q : Φ (.dat .non) (put (.lst (ds.reverse.map OV.dat)))) : WE K (tBM0 K "list" rReverse to) δ Φ := fun σ G H S g s nd Q k =>
  h σ G H S g s nd _ fun u Sx Sr o p kk => by
    cases o with
    | @lst l vs _ T ha ga t =>
      have N : Node K δ put σ G H S l T Sr := node_of (Ext.refl g) g nd ga (by rw [ha]; simp) p s.foot kk
      obtain ⟨r, hT⟩ := ownL_rep t
      refine ⟨tyL ha, l, vs, rfl, rfl, ha, ?_⟩
      have ow : Own K G (upd H l (.lst vs.reverse)) (.lst (ds.reverse.map OV.dat)) (.ref l) [l] := .lst upd_same N.gl (ownL_dat r.rev)
      obtain ⟨S', a1, a2, a3, a4, a5⟩ := N.post (T' := []) (fun b hb => by simp at hb) (by simp) ow
      exact k _ _ _ _ _ [] S' q ⟨a1, .dat .non, a2, by simpa using a3, fun b hb => .inl (a5 b (by simpa using hb))⟩
/-- l[i] = e, e data -/
theorem ws_setix {xs : List OV} {d : D} {i : Int} {j : Nat} {put : OV → Dl} {Ψ : En} (hv : WP K tv δ d) (h : PM K to δ (.lst xs) put) (hi : WP K ti δ (.int i)) (hj : ixN xs.length i = some j) (hd : ∃ d0, xs[j]? = some (.dat d0)) (q : Ψ.nx (put (.lst (xs.set j (.dat d))))) :
    WS K P (tAsg tv (gSub to ti rSetL)) δ Ψ := fun σ G H S g s nd D k1 k2 k3 k4 =>
  hv σ G H S g s nd _ fun v G0 H0 e0 r0 => h σ G0 H0 S e0.gh (s.ext e0) nd _ fun u Sx Sr o p kk => by
    cases o with
    | @lst l vs _ T ha ga t =>
      refine hi σ G0 H0 S e0.gh (s.ext e0) nd _ fun w G1 H1 e1 r1 => ?_
      cases r1
      have N : Node K δ put σ G1 H1 S l T Sr := node_of e1 e0.gh nd ga (by rw [ha]; simp) p (s.ext e0).foot kk
      refine ⟨l, vs, i, j, rfl, rfl, e1.kp l _ (by simp) ha, by rw [t.len]; exact hj, ?_⟩
      obtain ⟨d0, hd⟩ := hd
      have t1 := (t.ext e1).frame (Same.refl G1) (N.frT (.lst (vs.set j v)))
      obtain ⟨v0, Si, Sq, b1, b2, b3, b4⟩ := t1.get hd
      have hSi : Si = [] := by cases b2; rfl
      subst hSi
      obtain ⟨T', c1, c2⟩ := b4 G1 (upd H1 l (.lst (vs.set j v))) (.dat d) v [] (Same.refl G1) (fun b hb => ⟨rfl, (N.fT b (b3.mem_iff.mpr (by simpa using hb))).2⟩) (.dat (r0.mono e1.gg))
      have hT' : ∀ b ∈ T', b ∈ T := fun b hb => b3.mem_iff.mpr (by simpa using c1.mem_iff.mp hb)
      have nT' : T'.Nodup := nd_perm (by simpa using c1.symm) (by simpa using nd_perm b3 (List.nodup_cons.mp (nd_left N.nd)).2)
      obtain ⟨S', a1, a2, a3, a4, a5⟩ := N.post hT' nT' (.lst upd_same N.gl c2)
      exact k1 _ σ _ _ S' q ⟨(e0.pure.trans e1.pure Frs.refl).trans a1 Frs.refl, a2, a3, fun b hb => .inl (a5 b hb), fun _ _ => rfl⟩
/-- o.f = e, e data -/
theorem ws_fld {C : Addr} {os : List (Str × OV)} {f : Str} {x : OV} {put : OV → Dl} {Ψ : En} (hv : WE K tv δ fun y δ' => y = x ∧ δ' = δ) (h : PM K to δ (.obj C os) put) (hc : Cls K C) (hn : NoAttr K C f) (hl : os.length < 900) (q : Ψ.nx (put (.obj C (pF f x os)))) :
    WS K P (sFld K to tv f) δ Ψ := fun σ G H S g s nd D k1 k2 k3 k4 =>
  hv σ G H S g s nd _ fun v y δ' G0 H0 Sy S0 a p0 => by
    obtain ⟨rfl, rfl⟩ := a
    obtain ⟨p1, p2, p3, p4, p5⟩ := p0
    refine h σ G0 H0 S0 p1.gh p3 (nd_right p4) _ fun u Sx Sr o p kk => ?_
    cases o with
    | @obj a C dx fs os T ha ga hk t =>
      have N : Node K δ' put σ G0 H0 S0 a T Sr := node_of (Ext.refl p1.gh) p1.gh (nd_right p4) ga (by rw [ha]; simp) p p3.foot kk
      refine ⟨a, C, dx, fs, rfl, ha, hc, hn, by rw [map_len hk]; omega, ?_⟩
      obtain ⟨Sd, Sq, b1, b2, b3⟩ := ownF_put f hk t
      have aS : a ∈ S0 := N.pm.mem_iff.mpr (by simp)
      have aT : a ∉ T := (List.nodup_cons.mp (nd_left N.nd)).1
      have aSr : a ∉ Sr := nd_dis N.nd (by simp)
      have dis : ∀ b ∈ Sy, b ∉ S0 := fun b hb => nd_dis p4 hb
      have fr : ∀ {X : List Addr}, a ∉ X → (∀ b ∈ X, G0 b = none) → ∀ b ∈ X, upd H0 a (.ins C dx (putF f v fs)) b = H0 b ∧ G0 b = none := fun hx hg b hb => ⟨upd_ne fun z => hx (z ▸ hb), hg b hb⟩
      obtain ⟨T', c1, c2, c3⟩ := b3 G0 (upd H0 a (.ins C dx (putF f v fs))) y v Sy (Same.refl G0) (fr (fun z => aT (b1.mem_iff.mpr (List.mem_append_right _ z))) fun b hb => (N.fT b (b1.mem_iff.mpr (List.mem_append_right _ hb))).2)
        (p2.frame (Same.refl G0) (fr (fun z => dis a z aS) fun b hb => (p2.foot b hb).2))
      obtain ⟨S', z1, z2⟩ := N.back G0 (upd H0 a (.ins C dx (putF f v fs))) _ _ (Same.refl G0) (fr aSr fun b hb => (N.fS b hb).2) (.obj (C := C) upd_same N.gl c2 c3)
      have sub : ∀ b ∈ Sq, b ∈ S0 := fun b hb => N.pm.mem_iff.mpr (List.mem_append_left _ (List.mem_cons_of_mem _ (b1.mem_iff.mpr (List.mem_append_right _ hb))))
      have nd2 : (a :: T' ++ Sr).Nodup := by
        have n1 : (Sd ++ Sq).Nodup := nd_perm b1 (List.nodup_cons.mp (nd_left N.nd)).2
        have n2 : T'.Nodup := nd_perm c1.symm (nd_app (nd_left p4) (nd_right n1) fun b hb z => dis b hb (sub b z))
        refine nd_app (List.nodup_cons.mpr ⟨fun z => ?_, n2⟩) (nd_right N.nd) fun b hb => ?_
        · rcases List.mem_append.mp (c1.mem_iff.mp z) with z | z
          · exact dis a z aS
          · exact aT (b1.mem_iff.mpr (List.mem_append_right _ z))
        · rcases List.mem_cons.mp hb with rfl | hb
          · exact aSr
          · rcases List.mem_append.mp (c1.mem_iff.mp hb) with z | z
            · exact fun w => dis b z (N.pm.mem_iff.mpr (List.mem_append_right _ w))
            · exact nd_dis N.nd (List.mem_cons_of_mem _ (b1.mem_iff.mpr (List.mem_append_right _ z)))
      have fin : ∀ b ∈ S', b ∈ Sy ++ S0 := fun b hb => by
        rcases List.mem_append.mp (z1.mem_iff.mp hb) with w | w
        · rcases List.mem_cons.mp w with rfl | w
          · exact List.mem_append_right _ aS
          · rcases List.mem_append.mp (c1.mem_iff.mp w) with w | w
            · exact List.mem_append_left _ w
            · exact List.mem_append_right _ (sub b w)
        · exact List.mem_append_right _ (N.pm.mem_iff.mpr (List.mem_append_right _ w))
      exact k1 _ σ _ _ S' q ⟨p1.trans (Ext.set p1.gh aS N.gl) (fun b hb => p5 b (List.mem_append_right _ hb)), z2, nd_perm z1.symm nd2, fun b hb => p5 b (fin b hb), fun _ _ => rfl⟩
theorem we_pd {d : D} (h : WP K te δ d) : WE K te δ fun y δ' => y = .dat d ∧ δ' = δ := we_p h ⟨rfl, rfl⟩
theorem we_od {ds : List D} (h : WO K te δ ds) : WE K te δ fun y δ' => y = .lst (ds.map OV.dat) ∧ δ' = δ := we_o h ⟨rfl, rfl⟩
/-- name op= e, ints -/
theorem ws_augI {i : Nat} {f : Int → Int → Int} {a b : Int} {Ψ : En} (h : δ[i]? = some (some (.dat (.int a)))) (he : WP K te δ (.int b)) (hp : i ∉ P) (q : Ψ.nx (δ.set i (some (.dat (.int (f a b)))))) : WS K P (tAug i te (ipI f)) δ Ψ := fun σ G H S g s nd D k1 k2 k3 k4 => by
  obtain ⟨v, Si, Sr, h1, h2, h3, h4⟩ := s.get h
  cases h2 with
  | dat r =>
    cases r
    refine ⟨_, h1, he σ G H S g s nd _ fun w G1 H1 e1 r1 => ?_⟩
    cases r1
    refine ⟨a, b, rfl, rfl, ?_⟩
    obtain ⟨Sd, Sr', S', c1, c2, c3⟩ := (s.ext e1).store (i := i) (x := .dat (.int (f a b))) (v := .int (f a b)) (get_lt h) (.dat (.int _))
    refine k1 _ _ G1 H1 S' q ⟨e1.pure, c3, nd_perm c2.symm (by simpa using nd_right (nd_perm c1 nd)), fun b hb => .inl (c1.mem_iff.mpr (List.mem_append_right _ (by simpa using c2.mem_iff.mp hb))), fun j hj => ?_⟩
    rw [List.getElem?_set_ne]
    intro e; subst e; exact hp hj
/-- o.f op= e, ints -/
theorem ws_fldaug {C : Addr} {os : List (Str × OV)} {f : Str} {a b : Int} {put : OV → Dl} {rd : V → V → Hp → VK → Prop} {z : Int} {Ψ : En} (h : PM K to δ (.obj C os) put) (hc : Cls K C) (hn : NoAttr K C f) (hx : os.lookup f = some (.dat (.int a))) (hv : WP K tv δ (.int b))
    (hr : ∀ (H : Hp) (Q : VK), Q (.int z) H → rd (.int a) (.int b) H Q) (hl : os.length < 900) (q : Ψ.nx (put (.obj C (pF f (.dat (.int z)) os)))) : WS K P (sFldAug K to tv rd f) δ Ψ := fun σ G H S g s nd D k1 k2 k3 k4 =>
  h σ G H S g s nd _ fun u Sx Sr o p kk => by
    cases o with
    | @obj l C dx fs os T ha ga hk t =>
      obtain ⟨Sd, Sq, b1, b2, b3⟩ := ownF_put f hk t
      obtain ⟨v0, hv0, ov⟩ := b2 _ hx
      have hSd : Sd = [] := by cases ov; rfl
      subst hSd
      cases ov with
      | dat rv =>
        cases rv
        refine ⟨l, C, dx, fs, _, rfl, ha, hc, hn, hv0, hv σ G H S g s nd _ fun w G1 H1 e1 r1 => ?_⟩
        cases r1
        have N : Node K δ put σ G1 H1 S l T Sr := node_of e1 g nd ga (by rw [ha]; simp) p s.foot kk
        refine hr H1 _ ⟨dx, fs, e1.kp l _ (by simp) ha, by rw [map_len hk]; omega, ?_⟩
        have t1 := N.frT (.ins C dx (putF f (.int z) fs))
        obtain ⟨T', c1, c2, c3⟩ := b3 G1 (upd H1 l (.ins C dx (putF f (.int z) fs))) (.dat (.int z)) (.int z) [] e1.gg (fun b hb => by
          have hb' : b ∈ T := b1.mem_iff.mpr (by simpa using hb)
          refine ⟨(t1 b hb').1.trans ?_, (t1 b hb').2⟩
          have := (t.foot b hb').1
          cases y : H b with
          | none => exact absurd y this
          | some o => exact e1.kp b o (by simp) y) (.dat (.int z))
        have hT' : ∀ b ∈ T', b ∈ T := fun b hb => b1.mem_iff.mpr (by simpa using c1.mem_iff.mp hb)
        have nT' : T'.Nodup := nd_perm (by simpa using c1.symm) (by simpa using nd_perm b1 (List.nodup_cons.mp (nd_left N.nd)).2)
        obtain ⟨S', a1, a2, a3, a4, a5⟩ := N.post hT' nT' (.obj (C := C) upd_same N.gl c2 c3)
        exact k1 _ σ _ _ S' q ⟨e1.pure.trans a1 Frs.refl, a2, a3, fun b hb => .inl (a5 b hb), fun _ _ => rfl⟩
end
end Pw
namespace Pw
open PySem PySem.Spec L2
section
variable {K : PySem.W.Frag} {P : List Nat} {δ : Dl} {ta tb te to ti tv : TE} {t u : TT} {ts t1 t2 : TS} {n m : Nat}
/-! ### loops -/
def LoopEn (Ψ : En) (N : Dl → Prop) : En := { nx := N, rt := Ψ.rt, bk := Ψ.nx, ct := N }
theorem ws_while {c : TT} {tb : TS} {Ψ : En} (I : Nat → Dl → Prop) (m0 : Nat) (h0 : I m0 δ) (hs : ∀ m δ', I m δ' → WT K c δ' fun b δ'' => if b = true then WS K P tb δ'' (LoopEn Ψ fun d => ∃ m', m' < m ∧ I m' d) else Ψ.nx δ'') : WS K P (tWhile c tb) δ Ψ := fun σ G H S g s nd D k1 k2 k3 k4 => by
  refine ⟨fun m σ1 H1 => ∃ δ1 G1 S1, I m δ1 ∧ PostS K P S σ G H δ1 σ1 G1 H1 S1, ⟨m0, δ, G, S, h0, ⟨Ext.refl g, s, nd, Frs.refl, fun _ _ => rfl⟩⟩, ?_⟩
  rintro m σ1 H1 ⟨δ1, G1, S1, i1, p1⟩
  refine hs m δ1 i1 σ1 G1 H1 S1 p1.e.gh p1.s p1.n _ fun b δ2 G2 H2 S2 a p2 => ?_
  have e2 := p1.e.trans p2.e p1.f
  have f2 : Frs S S2 H := p1.f.trans p1.e p2.f
  cases b with
  | true =>
    refine iteT ⟨_, fun _ _ x => x, ?_⟩
    have w : WS K P tb δ2 (LoopEn Ψ fun d => ∃ m', m' < m ∧ I m' d) := by simpa using a
    refine w σ1 G2 H2 S2 p2.e.gh p2.s p2.n _ (fun δ3 σ3 G3 H3 S3 q p3 => ?_) (fun v x δ3 σ3 G3 H3 Sx S3 q p3 => ?_) (fun δ3 σ3 G3 H3 S3 q p3 => ?_) (fun δ3 σ3 G3 H3 S3 q p3 => ?_)
    · obtain ⟨m', hm, i3⟩ := q
      exact ⟨m', hm, δ3, G3, S3, i3, ⟨e2.trans p3.e f2, p3.s, p3.n, f2.trans e2 p3.f, fun i hi => (p3.p i hi).trans (p1.p i hi)⟩⟩
    · exact k2 v x δ3 σ3 G3 H3 Sx S3 q ⟨e2.trans p3.e f2, p3.o, p3.s, p3.n, f2.trans e2 p3.f, fun i hi => (p3.p i hi).trans (p1.p i hi)⟩
    · exact k1 δ3 σ3 G3 H3 S3 q ⟨e2.trans p3.e f2, p3.s, p3.n, f2.trans e2 p3.f, fun i hi => (p3.p i hi).trans (p1.p i hi)⟩
    · obtain ⟨m', hm, i3⟩ := q
      exact ⟨m', hm, δ3, G3, S3, i3, ⟨e2.trans p3.e f2, p3.s, p3.n, f2.trans e2 p3.f, fun i hi => (p3.p i hi).trans (p1.p i hi)⟩⟩
  | false => exact iteF (k1 δ2 σ1 G2 H2 S2 (by simpa using a) ⟨e2, p2.s, p2.n, f2, p1.p⟩)
/-! ### what is walked: data, turn by turn -/
structure ItOk (K : PySem.W.Frag) (J : It) (G : Hp) (ds : List D) : Prop where
  go : ∀ i H, Same G H → i < ds.length → J.go i H
  stop : ∀ H, Same G H → J.stop ds.length H
  yld : ∀ i G' H x H', Same G G' → Same G' H → i < ds.length → J.yld i H x H' → ∃ d G'', ds[i]? = some d ∧ Ext [] G' H G'' H' ∧ Rep K G'' x d
def WI (K : PySem.W.Frag) (wi : TI) (δ : Dl) (ds : List D) : Prop := ∀ (σ : L2.St) (G H : Hp) (S : List Addr), Same G H → Sta K G H δ σ S → S.Nodup → ∀ R : It → Hp → Prop, (∀ J G' H', Ext [] G H G' H' → ItOk K J G' ds → R J H') → wi σ H R
theorem itOk_list {G : Hp} {a : Addr} {vs : List V} {ds : List D} (h : ∀ H, Same G H → SqL K H a vs) (r : RepL K G vs ds) : ItOk K (Itl K a) G ds where
  go := fun i H g hi => ⟨vs, vs[i]'(by rw [r.len]; exact hi), h H g, List.getElem?_eq_getElem _⟩
  stop := fun H g => ⟨vs, h H g, by rw [r.len]; exact Nat.le_refl _⟩
  yld := fun i G' H x H' gg g hi y => by
    obtain ⟨rfl, y⟩ := y
    have hx := y vs (h _ (gg.trans g))
    have hd : ds[i]? = some ds[i] := List.getElem?_eq_getElem hi
    exact ⟨_, G', hd, Ext.refl g, (r.at_ i x _ hx hd).mono gg⟩
theorem itOk_tup {G : Hp} {a : Addr} {vs : List V} {ds : List D} (h : ∀ H, Same G H → SqT K H a vs) (r : RepL K G vs ds) : ItOk K (Itt K a) G ds where
  go := fun i H g hi => ⟨vs, vs[i]'(by rw [r.len]; exact hi), h H g, List.getElem?_eq_getElem _⟩
  stop := fun H g => ⟨vs, h H g, by rw [r.len]; exact Nat.le_refl _⟩
  yld := fun i G' H x H' gg g hi y => by
    obtain ⟨rfl, y⟩ := y
    have hx := y vs (h _ (gg.trans g))
    have hd : ds[i]? = some ds[i] := List.getElem?_eq_getElem hi
    exact ⟨_, G', hd, Ext.refl g, (r.at_ i x _ hx hd).mono gg⟩
def rgD (lo : Int) (n : Nat) : List D := (List.range n).map fun (i : Nat) => D.int (lo + i)
theorem rgD_length {lo : Int} {n : Nat} : (rgD lo n).length = n := by simp [rgD]
theorem rgD_get {lo : Int} {n i : Nat} (h : i < n) : (rgD lo n)[i]? = some (.int (lo + i)) := by simp [rgD, h]
theorem itOk_range {G : Hp} {lo : Int} {n : Nat} : ItOk K (Itr lo n) G (rgD lo n) where
  go := fun i H g hi => by rw [rgD_length] at hi; exact hi
  stop := fun H g => by rw [rgD_length]; exact Nat.le_refl _
  yld := fun i G' H x H' gg g hi y => by
    obtain ⟨rfl, rfl⟩ := y
    rw [rgD_length] at hi
    exact ⟨_, G', rgD_get hi, Ext.refl g, .int _⟩
def iSEQ (K : PySem.W.Frag) (tl : TE) : TI := fun σ H R => iList K tl σ H R ∨ iTup K tl σ H R
theorem PI.or {X : Cx} {tg e : Expr} {w1 w2 : TI} (h1 : PI X tg e w1) (h2 : PI X tg e w2) : PI X tg e (fun σ H R => w1 σ H R ∨ w2 σ H R) := ⟨fun pins s σ H R I h => by
  rcases h with h | h
  · exact h1.run pins s σ H R I h
  · exact h2.run pins s σ H R I h⟩
theorem pi_SEQ {X : Cx} {tg e : Expr} {tl : TE} (h : PE X e tl) : PI X tg e (iSEQ X.K tl) := PI.or (pi_list h) (pi_tup h)
theorem wi_lst {ds : List D} (h : WP K te δ (.lst ds)) : WI K (iSEQ K te) δ ds := fun σ G H S g s nd R k => .inl (h σ G H S g s nd _ fun v G1 H1 e1 r1 => by
  cases r1 with
  | @lst a vs _ ha la ra => exact ⟨a, rfl, ⟨vs, .inl (.inl (e1.gh _ _ ha))⟩, k _ G1 H1 e1 (itOk_list (fun H g => .inl (.inl (g _ _ ha))) ⟨la, ra⟩)⟩)
theorem wi_tup {ds : List D} (h : WP K te δ (.tup ds)) : WI K (iSEQ K te) δ ds := fun σ G H S g s nd R k => .inr (h σ G H S g s nd _ fun v G1 H1 e1 r1 => by
  cases r1 with
  | @tup a vs _ ha la ra => exact ⟨a, rfl, ⟨vs, seqT e1.gh ha⟩, k _ G1 H1 e1 (itOk_tup (fun H g => seqT g ha) ⟨la, ra⟩)⟩)
theorem wi_rng1 {ta : TA} {j : Int} (h : WPa K ta δ [.int j]) (h1 : -1000000 ≤ j) (h2 : j ≤ 1000000) : WI K (iRng1 ta) δ (rgD 0 j.toNat) := fun σ G H S g s nd R k => h σ G H S g s nd _ fun vs G1 H1 e1 r1 => by
  obtain ⟨v, ws, rfl, a, b⟩ := r1.cases_cons
  rw [b.cases_nil]
  cases a
  exact ⟨j, rfl, by omega, by omega, k _ G1 H1 e1 itOk_range⟩
theorem wi_rng2 {ta : TA} {i j : Int} (h : WPa K ta δ [.int i, .int j]) (h1 : -1000000 ≤ i ∧ i ≤ 1000000) (h2 : -1000000 ≤ j ∧ j ≤ 1000000) : WI K (iRng2 ta) δ (rgD i (j - i).toNat) := fun σ G H S g s nd R k => h σ G H S g s nd _ fun vs G1 H1 e1 r1 => by
  obtain ⟨v, ws, rfl, a, b⟩ := r1.cases_cons
  obtain ⟨v', ws', rfl, a', b'⟩ := b.cases_cons
  rw [b'.cases_nil]
  cases a; cases a'
  exact ⟨i, j, rfl, ⟨by omega, by omega, by omega, by omega⟩, k _ G1 H1 e1 itOk_range⟩
/-! ### targets -/
/-- storing d -/
def WG (K : PySem.W.Frag) (P : List Nat) (g : TG) (d : D) (δ : Dl) (Φ : Dl → Prop) : Prop := ∀ (σ : L2.St) (G H : Hp) (S : List Addr) (v : V), Same G H → Sta K G H δ σ S → S.Nodup → Rep K G v d → ∀ Q : L2.St → Hp → Prop,
  (∀ σ' δ' S', Φ δ' → Sta K G H δ' σ' S' → S'.Nodup → (∀ b ∈ S', b ∈ S) → (∀ i ∈ P, σ'[i]? = σ[i]?) → Q σ' H) → g v σ H Q
theorem wg_name {i : Nat} {d : D} {Φ : Dl → Prop} (hi : i < δ.length) (hp : i ∉ P) (q : Φ (δ.set i (some (.dat d)))) : WG K P (gName i) d δ Φ := fun σ G H S v g s nd r Q k => by
  obtain ⟨Sd, Sr, S', h1, h2, h3⟩ := s.store (i := i) (x := .dat d) (v := v) hi (.dat r)
  refine k _ _ S' q h3 (nd_perm h2.symm (by simpa using nd_right (nd_perm h1 nd))) (fun b hb => h1.mem_iff.mpr (List.mem_append_right _ (by simpa using h2.mem_iff.mp hb))) fun j hj => ?_
  rw [List.getElem?_set_ne]
  intro e; subst e; exact hp hj
def WGs (K : PySem.W.Frag) (P : List Nat) (g : TGs) (ds : List D) (δ : Dl) (Φ : Dl → Prop) : Prop := ∀ (σ : L2.St) (G H : Hp) (S : List Addr) (vs : List V), Same G H → Sta K G H δ σ S → S.Nodup → RepL K G vs ds → ∀ Q : L2.St → Hp → Prop,
  (∀ σ' δ' S', Φ δ' → Sta K G H δ' σ' S' → S'.Nodup → (∀ b ∈ S', b ∈ S) → (∀ i ∈ P, σ'[i]? = σ[i]?) → Q σ' H) → g vs σ H Q
theorem wgs_nil {Φ : Dl → Prop} (q : Φ δ) : WGs K P gNil [] δ Φ := fun σ G H S vs g s nd r Q k => ⟨r.cases_nil, k σ δ S q s nd (fun _ h => h) fun _ _ => rfl⟩
theorem wgs_cons {g : TG} {gs : TGs} {d : D} {ds : List D} {Φ : Dl → Prop} (h : WG K P g d δ fun δ' => WGs K P gs ds δ' Φ) : WGs K P (gCons g gs) (d :: ds) δ Φ := fun σ G H S vs gg s nd r Q k => by
  obtain ⟨v, ws, rfl, r1, r2⟩ := r.cases_cons
  refine ⟨v, ws, rfl, h σ G H S v gg s nd r1 _ fun σ' δ' S' q s' nd' sub pp => ?_⟩
  exact q σ' G H S' ws gg s' nd' r2 Q fun σ2 δ2 S2 q2 s2 nd2 sub2 pp2 => k σ2 δ2 S2 q2 s2 nd2 (fun b hb => sub b (sub2 b hb)) fun i hi => (pp2 i hi).trans (pp i hi)
theorem wg_tup {gs : TGs} {ds : List D} {l : Nat} {Φ : Dl → Prop} (h : WGs K P gs ds δ Φ) (hl : ds.length = l) : WG K P (gTup K l gs) (.tup ds) δ Φ := fun σ G H S v g s nd r Q k => by
  cases r with
  | @tup a vs _ ha la ra => exact ⟨a, vs, rfl, seqT g ha, by omega, h σ G H S vs g s nd ⟨la, ra⟩ Q k⟩
/-- a, b = e -/
theorem ws_unpack {g : TG} {d : D} {Ψ : En} (h : WP K te δ d) (q : WG K P g d δ Ψ.nx) : WS K P (tAsg te g) δ Ψ := fun σ G H S gg s nd D k1 k2 k3 k4 => h σ G H S gg s nd _ fun v G1 H1 e1 r1 =>
  q σ G1 H1 S v e1.gh (s.ext e1) nd r1 _ fun σ' δ' S' a s' nd' sub pp => k1 δ' σ' G1 H1 S' a ⟨e1.pure, s', nd', fun b hb => .inl (sub b hb), pp⟩
theorem ws_for {wi : TI} {g : TG} {tb : TS} {ds : List D} {Ψ : En} (h : WI K wi δ ds) (I : Nat → Dl → Prop) (h0 : I 0 δ)
    (hs : ∀ i d δ', ds[i]? = some d → I i δ' → WG K P g d δ' fun δ'' => WS K P tb δ'' (LoopEn Ψ (I (i + 1)))) (hd : ∀ δ', I ds.length δ' → Ψ.nx δ') : WS K P (tFor wi g tb) δ Ψ := fun σ G H S gg s nd D k1 k2 k3 k4 =>
  h σ G H S gg s nd _ fun J G0 H0 e0 ok => by
    refine ⟨fun i m σ1 H1 => ∃ δ1 G1 S1, m = ds.length - i ∧ i ≤ ds.length ∧ I i δ1 ∧ PostS K P S σ G H δ1 σ1 G1 H1 S1 ∧ Same G0 G1, ⟨ds.length, δ, G0, S, by simp, Nat.zero_le _, h0, ⟨e0.pure, s.ext e0, nd, Frs.refl, fun _ _ => rfl⟩, Same.refl G0⟩, ?_⟩
    rintro i m σ1 H1 ⟨δ1, G1, S1, rfl, hi, i1, p1, g01⟩
    by_cases hlt : i < ds.length
    · refine .inr ⟨ok.go i H1 (g01.trans p1.e.gh) hlt, _, fun _ _ x => x, fun x H2 y => ?_⟩
      obtain ⟨d, G2, hd2, e2, r2⟩ := ok.yld i G1 H1 x H2 g01 p1.e.gh hlt y
      have s2 := p1.s.ext e2
      have E2 := p1.e.trans e2.pure p1.f
      refine hs i d δ1 hd2 i1 σ1 G2 H2 S1 x e2.gh s2 p1.n r2 _ fun σ2 δ2 S2 w s3 nd3 sub pp => ?_
      have F2 : Frs S S2 H := fun b hb => p1.f b (sub b hb)
      refine w σ2 G2 H2 S2 e2.gh s3 nd3 _ (fun δ3 σ3 G3 H3 S3 q p3 => ?_) (fun v x δ3 σ3 G3 H3 Sx S3 q p3 => ?_) (fun δ3 σ3 G3 H3 S3 q p3 => ?_) (fun δ3 σ3 G3 H3 S3 q p3 => ?_)
      · exact ⟨ds.length - (i + 1), by omega, δ3, G3, S3, rfl, hlt, q, ⟨E2.trans p3.e F2, p3.s, p3.n, F2.trans E2 p3.f, fun j hj => (p3.p j hj).trans ((pp j hj).trans (p1.p j hj))⟩, g01.trans (e2.gg.trans p3.e.gg)⟩
      · exact k2 v x δ3 σ3 G3 H3 Sx S3 q ⟨E2.trans p3.e F2, p3.o, p3.s, p3.n, F2.trans E2 p3.f, fun j hj => (p3.p j hj).trans ((pp j hj).trans (p1.p j hj))⟩
      · exact k1 δ3 σ3 G3 H3 S3 q ⟨E2.trans p3.e F2, p3.s, p3.n, F2.trans E2 p3.f, fun j hj => (p3.p j hj).trans ((pp j hj).trans (p1.p j hj))⟩
      · exact ⟨ds.length - (i + 1), by omega, δ3, G3, S3, rfl, hlt, q, ⟨E2.trans p3.e F2, p3.s, p3.n, F2.trans E2 p3.f, fun j hj => (p3.p j hj).trans ((pp j hj).trans (p1.p j hj))⟩, g01.trans (e2.gg.trans p3.e.gg)⟩
    · have e : i = ds.length := by omega
      subst e
      exact .inl ⟨ok.stop H1 (g01.trans p1.e.gh), k1 δ1 σ1 G1 H1 S1 (hd δ1 i1) p1⟩
/-! ### comprehensions -/
/-- the block's own slots are not known around -/
theorem Sta.wipe {G H : Hp} {σ : L2.St} {S : List Addr} (s : Sta K G H δ σ S) : ∀ {vs : List Nat}, (∀ v ∈ vs, δ[v]? = some none) → Sta K G H δ (L2.wipe σ vs) S
  | [], _ => s
  | v :: vs, h => (s.wipe fun w hw => h w (List.mem_cons_of_mem _ hw)).wild (h v List.mem_cons_self)
/-- storing d in the block -/
def WC (K : PySem.W.Frag) (vs : List Nat) (g : TG) (d : D) (δ : Dl) (Φ : Dl → Prop) : Prop := ∀ (σ : L2.St) (G H : Hp) (S : List Addr) (v : V), Same G H → Sta K G H δ σ S → S.Nodup → Rep K G v d → ∀ Q : L2.St → Hp → Prop,
  (∀ σ' δ', Φ δ' → Sta K G H δ' σ' S → L2.wipe σ' vs = L2.wipe σ vs → Q σ' H) → g v σ H Q
theorem wipe_set {σ : L2.St} {i : Nat} {x : Option V} : ∀ {vs : List Nat}, i ∈ vs → L2.wipe (σ.set i x) vs = L2.wipe σ vs
  | v :: vs, h => by
    show (L2.wipe (σ.set i x) vs).set v none = (L2.wipe σ vs).set v none
    by_cases e : i ∈ vs
    · rw [wipe_set e]
    · have : i = v := by rcases List.mem_cons.mp h with h | h; exact h; exact absurd h e
      subst this
      have k : ∀ {vs : List Nat}, i ∉ vs → L2.wipe (σ.set i x) vs = (L2.wipe σ vs).set i x := by
        intro vs
        induction vs with
        | nil => intro _; rfl
        | cons w ws ih =>
          intro hn
          show (L2.wipe (σ.set i x) ws).set w none = ((L2.wipe σ ws).set w none).set i x
          rw [ih fun q => hn (List.mem_cons_of_mem _ q)]
          exact List.set_comm _ _ (fun q => hn (q ▸ List.mem_cons_self))
      rw [k e, List.set_set]
theorem wc_name {vs : List Nat} {i : Nat} {d : D} {Φ : Dl → Prop} (hi : i ∈ vs) (hn : δ[i]? = some none) (q : Φ (δ.set i (some (.dat d)))) : WC K vs (gName i) d δ Φ := fun σ G H S v g s nd r Q k => by
  obtain ⟨S', h1, h2⟩ := s.fill hn (.dat r : Own K G H (.dat d) v [])
  have : S' = S ∨ True := .inr trivial
  have p : S'.Perm S := by simpa using h1
  have key : ∀ {δ : Dl} {σ : L2.St} {S : List Addr} {i : Nat}, Sta K G H δ σ S → δ[i]? = some none → Sta K G H (δ.set i (some (.dat d))) (σ.set i (some v)) S := by
    intro δ σ S i s
    induction s generalizing i with
    | nil => intro h; simp at h
    | @un δ σ w S s ih =>
      intro h
      cases i with
      | zero => exact (Sta.sl (S := []) (.dat r) s)
      | succ i => exact .un (ih (by simpa using h))
    | @sl x w δ σ S T o s ih =>
      intro h
      cases i with
      | zero => simp at h
      | succ i => exact .sl o (ih (by simpa using h))
  exact k _ _ q (key s hn) (wipe_set hi)
def WCs (K : PySem.W.Frag) (vs : List Nat) (g : TGs) (ds : List D) (δ : Dl) (Φ : Dl → Prop) : Prop := ∀ (σ : L2.St) (G H : Hp) (S : List Addr) (ws : List V), Same G H → Sta K G H δ σ S → S.Nodup → RepL K G ws ds → ∀ Q : L2.St → Hp → Prop,
  (∀ σ' δ', Φ δ' → Sta K G H δ' σ' S → L2.wipe σ' vs = L2.wipe σ vs → Q σ' H) → g ws σ H Q
theorem wcs_nil {vs : List Nat} {Φ : Dl → Prop} (q : Φ δ) : WCs K vs gNil [] δ Φ := fun σ G H S ws g s nd r Q k => ⟨r.cases_nil, k σ δ q s rfl⟩
theorem wcs_cons {vs : List Nat} {g : TG} {gs : TGs} {d : D} {ds : List D} {Φ : Dl → Prop} (h : WC K vs g d δ fun δ' => WCs K vs gs ds δ' Φ) : WCs K vs (gCons g gs) (d :: ds) δ Φ := fun σ G H S ws gg s nd r Q k => by
  obtain ⟨v, ws, rfl, r1, r2⟩ := r.cases_cons
  refine ⟨v, ws, rfl, h σ G H S v gg s nd r1 _ fun σ' δ' q s' e => ?_⟩
  exact q σ' G H S ws gg s' nd r2 Q fun σ2 δ2 q2 s2 e2 => k σ2 δ2 q2 s2 (e2.trans e)
theorem wc_tup {vs : List Nat} {gs : TGs} {ds : List D} {l : Nat} {Φ : Dl → Prop} (h : WCs K vs gs ds δ Φ) (hl : ds.length = l) : WC K vs (gTup K l gs) (.tup ds) δ Φ := fun σ G H S v g s nd r Q k => by
  cases r with
  | @tup a ws _ ha la ra => exact ⟨a, ws, rfl, seqT g ha, by omega, h σ G H S ws g s nd ⟨la, ra⟩ Q k⟩
/-- [f k for k in ks if p k], with no effects -/
theorem wo_lc {τ : Type} {wi : TI} {g : TG} {tt : TT} {te : TE} {vs : List Nat} {ks : List τ} {enc : τ → D} {p : τ → Bool} {f : τ → D} (h : WI K wi δ (ks.map enc)) (hv : ∀ v ∈ vs, δ[v]? = some none) (hl : ks.length ≤ 1000000)
    (hb : ∀ k ∈ ks, WC K vs g (enc k) δ fun δ' => WTp K tt δ' (p k) ∧ (p k = true → WP K te δ' (f k))) : WO K (tLc wi g tt te vs) δ ((ks.filter p).map f) := fun σ G H S gg s nd Q k =>
  h σ G H S gg s nd _ fun J G0 H0 e0 ok Dd hD => by
    have hD0 : H Dd = none := back_none e0 hD
    have eN : Ext [] G0 H0 G0 (upd H0 Dd (.lst [])) := Ext.newO e0.gh hD
    refine ⟨fun i m H1 => ∃ G1 ws, m = ks.length - i ∧ i ≤ ks.length ∧ Ext [] G H G1 H1 ∧ Same G0 G1 ∧ G1 Dd = none ∧ H1 Dd = some (.lst ws) ∧ RepL K G1 ws (((ks.take i).filter p).map f), ⟨ks.length, G0, [], by simp, Nat.zero_le _, e0.tr0 eN, Same.refl _, e0.gh.free hD, upd_same, by simpa using RepL.nil⟩, ?_⟩
    rintro i m H1 ⟨G1, ws, rfl, hi, E1, g01, gD, hDw, rw⟩
    have hlen : (ks.map enc).length = ks.length := List.length_map _
    have wl : ws.length ≤ ks.length := by
      rw [rw.len, List.length_map]
      exact Nat.le_trans (List.length_filter_le _ _) (by rw [List.length_take]; omega)
    by_cases hlt : i < ks.length
    · refine .inr ⟨ok.go i H1 (g01.trans E1.gh) (by rw [hlen]; exact hlt), _, fun _ x => x, fun x H2 y => ?_⟩
      obtain ⟨d, G2, hd2, e2, r2⟩ := ok.yld i G1 H1 x H2 g01 E1.gh (by rw [hlen]; exact hlt) y
      have hk : ks[i]? = some ks[i] := List.getElem?_eq_getElem hlt
      have hd : d = enc ks[i] := by
        rw [List.getElem?_map, hk] at hd2
        exact (Option.some.inj hd2).symm
      subst hd
      have E2 := E1.tr0 e2
      have sw : Sta K G2 H2 δ (L2.wipe σ vs) S := (s.ext E2).wipe hv
      have tk : ((ks.take (i + 1)).filter p).map f = ((ks.take i).filter p).map f ++ (if p ks[i] = true then [f ks[i]] else []) := by
        rw [List.take_add_one, hk, List.filter_append, List.map_append]
        congr 1
        show (([ks[i]] : List τ).filter p).map f = _
        by_cases z : p ks[i] = true
        · simp [z]
        · simp [z]
      have hDn : G2 Dd = none := by
        cases z : G2 Dd with
        | none => rfl
        | some o =>
          have := e2.fr Dd (by simp) (by rw [hDw]; simp)
          rw [gD, z] at this; cases this
      have hD2 : H2 Dd = some (.lst ws) := e2.kp _ _ (by simp) hDw
      refine hb ks[i] (List.mem_of_getElem? hk) (L2.wipe σ vs) G2 H2 S x E2.gh sw nd r2 _ fun σ' δ' q s' e' => ⟨?_, ?_⟩
      · rw [e']
        have ww : ∀ (vs : List Nat), L2.wipe (L2.wipe σ vs) vs = L2.wipe σ vs := by
          intro vs
          have : ∀ (us vs : List Nat), (∀ v ∈ us, v ∈ vs) → L2.wipe (L2.wipe σ vs) us = L2.wipe σ vs := by
            intro us
            induction us with
            | nil => intro vs _; rfl
            | cons u us ih =>
              intro vs hs
              show (L2.wipe (L2.wipe σ vs) us).set u none = L2.wipe σ vs
              rw [ih vs fun v hv => hs v (List.mem_cons_of_mem _ hv)]
              have hu : u ∈ vs := hs u List.mem_cons_self
              clear ih hs
              apply List.ext_getElem?
              intro j
              by_cases e : u = j
              · subst e
                by_cases hl : u < (L2.wipe σ vs).length
                · rw [List.getElem?_set_self hl]
                  cases z : (L2.wipe σ vs)[u]? with
                  | none => rw [List.getElem?_eq_none_iff] at z; omega
                  | some o =>
                    cases o with
                    | none => rfl
                    | some v0 => exact absurd hu (wipe_some z).2
                · rw [List.getElem?_eq_none (by simp; omega), List.getElem?_eq_none (by omega)]
              · rw [List.getElem?_set_ne e]
          exact this vs vs fun _ h => h
        exact ww vs
      · refine q.1 σ' G2 H2 S E2.gh s' nd _ fun G3 H3 e3 => ?_
        have hD3 : H3 Dd = some (.lst ws) := e3.kp _ _ (by simp) hD2
        have gD3 : G3 Dd = none := by rw [e3.fr Dd (by simp) (by rw [hD2]; simp)]; exact hDn
        have E3 := E2.tr0 e3
        have g03 := (g01.trans e2.gg).trans e3.gg
        by_cases z : p ks[i] = true
        · rw [if_pos z]
          refine q.2 z σ' G3 H3 S e3.gh (s'.ext e3) nd _ fun v G4 H4 e4 r4 => ?_
          have hD4 : H4 Dd = some (.lst ws) := e4.kp _ _ (by simp) hD3
          have gD4 : G4 Dd = none := by rw [e4.fr Dd (by simp) (by rw [hD3]; simp)]; exact gD3
          have E4 := E3.tr0 e4
          refine ⟨ws, hD4, Nat.lt_of_le_of_lt wl (Nat.lt_of_le_of_lt hl (by decide)), ks.length - (i + 1), by omega, G4, ws ++ [v], rfl, hlt, ?_, g03.trans e4.gg, gD4, upd_same, ?_⟩
          · refine ⟨E4.gg, fun b o hb => ?_, fun b o _ hb => ?_, fun b hb => ?_, E4.fr⟩
            · rw [upd_ne (ne_of_none hb gD4)]; exact E4.gh b o hb
            · rw [upd_ne (ne_of_none hb hD0)]; exact E4.kp b o (by simp) hb
            · by_cases w : b = Dd
              · subst w; rw [upd_same]; simp
              · rw [upd_ne w]; exact E4.dm b hb
          · rw [tk, if_pos z]
            exact (rw.mono ((e2.gg.trans e3.gg).trans e4.gg)).append (.cons r4 .nil)
        · rw [if_neg z]
          refine ⟨ks.length - (i + 1), by omega, G3, ws, rfl, hlt, E3, g03, gD3, hD3, ?_⟩
          rw [tk, if_neg z, List.append_nil]
          exact rw.mono (e2.gg.trans e3.gg)
    · have e : i = ks.length := by omega
      subst e
      refine .inl ⟨by rw [← hlen]; exact ok.stop H1 (g01.trans E1.gh), k Dd ws G1 H1 E1 gD hD0 hDw ?_⟩
      rw [List.take_length] at rw
      exact rw
end
end Pw
namespace Pw
open PySem PySem.Spec L2
/-! ### what a def promises -/
/-- of the arguments (as trees), what follows of the answer and of what the arguments then are -/
abbrev FS := List OV → (OV → List OV → Prop) → Prop
def toSp (K : PySem.W.Frag) (spec : FS) : Sp := fun vs H Q E => ∃ (G : Hp) (xs : List OV) (S : List Addr) (Φ : OV → List OV → Prop), Same G H ∧ OwnL K G H xs vs S ∧ S.Nodup ∧ spec xs Φ ∧
  ∀ v x xs' G' H' Sx S', Φ x xs' → Ext S G H G' H' → Own K G' H' x v Sx → OwnL K G' H' xs' vs S' → (Sx ++ S').Nodup → Frs S (Sx ++ S') H → Q v H'
/-- a def of data: pre of the arguments, the answer f -/
def pfun (pre : List D → Prop) (f : List D → D) : FS := fun xs Φ => ∃ ds, xs = ds.map OV.dat ∧ pre ds ∧ Φ (.dat (f ds)) xs
section
variable {K : PySem.W.Frag} {P : List Nat} {δ : Dl} {ta tb te to ti tv : TE} {t u : TT} {ts t1 t2 : TS} {n m : Nat} {spec : FS}
theorem wp_call {ta : TA} {E : XK} {ds : List D} {pre : List D → Prop} {f : List D → D} (h : WPa K ta δ ds) (hp : pre ds) : WP K (tCall (toSp K (pfun pre f)) [] E ta) δ (f ds) := fun σ G H S g s nd Q k => h σ G H S g s nd _ fun vs G1 H1 e1 r1 => by
  rw [List.append_nil]
  refine ⟨G1, ds.map OV.dat, [], fun r _ => r = .dat (f ds), e1.gh, ownL_dat r1, by simp, ⟨ds, rfl, hp, rfl⟩, fun v x xs' G2 H2 Sx S' a e2 o _ _ _ => ?_⟩
  subst a
  cases o with
  | dat r => exact k v G2 H2 (e1.tr0 e2) r
theorem perm_swap {A B C : List Addr} : (A ++ (B ++ C)).Perm (B ++ (A ++ C)) := by
  rw [← List.append_assoc, ← List.append_assoc]
  exact List.Perm.append_right C List.perm_append_comm
/-! ### arguments that may be owned -/
inductive AR where
  | val (x : OV) | slt (i : Nat)
inductive ArsOk (K : PySem.W.Frag) (G H : Hp) (σ : L2.St) : List AR → List V → List Addr → Prop
  | nil : ArsOk K G H σ [] [] []
  | val {x : OV} {v : V} {rs : List AR} {vs : List V} {S T : List Addr} : Own K G H x v S → ArsOk K G H σ rs vs T → ArsOk K G H σ (.val x :: rs) (v :: vs) (S ++ T)
  | slt {i : Nat} {v : V} {rs : List AR} {vs : List V} {T : List Addr} : σ[i]? = some (some v) → ArsOk K G H σ rs vs T → ArsOk K G H σ (.slt i :: rs) (v :: vs) T
theorem ArsOk.frame {G H G' H' : Hp} {σ : L2.St} (e : Same G G') : ∀ {rs : List AR} {vs : List V} {S : List Addr}, ArsOk K G H σ rs vs S → (∀ b ∈ S, H' b = H b ∧ G' b = none) → ArsOk K G' H' σ rs vs S
  | _, _, _, .nil, _ => .nil
  | _, _, _, .val o t, k => .val (o.frame e fun b hb => k b (List.mem_append_left _ hb)) (t.frame e fun b hb => k b (List.mem_append_right _ hb))
  | _, _, _, .slt h t, k => .slt h (t.frame e k)
theorem ArsOk.foot {G H : Hp} {σ : L2.St} : ∀ {rs : List AR} {vs : List V} {S : List Addr}, ArsOk K G H σ rs vs S → ∀ b ∈ S, H b ≠ none ∧ G b = none
  | _, _, _, .nil, b, hb => by simp at hb
  | _, _, _, .val o t, b, hb => by
    rcases List.mem_append.mp hb with hb | hb
    · exact o.foot b hb
    · exact t.foot b hb
  | _, _, _, .slt h t, b, hb => t.foot b hb
def WA (K : PySem.W.Frag) (ta : TA) (δ : Dl) (Φ : List AR → Dl → Prop) : Prop := ∀ (σ : L2.St) (G H : Hp) (S : List Addr), Same G H → Sta K G H δ σ S → S.Nodup → ∀ Q : List V → Hp → Prop,
  (∀ vs rs δ' G' H' Sx S', Φ rs δ' → Ext S G H G' H' → ArsOk K G' H' σ rs vs Sx → Sta K G' H' δ' σ S' → (Sx ++ S').Nodup → Frs S (Sx ++ S') H → Q vs H') → ta σ H Q
theorem wa_nil {Φ : List AR → Dl → Prop} (q : Φ [] δ) : WA K tNil δ Φ := fun σ G H S g s nd Q k => k [] [] δ G H [] S q (Ext.refl g) .nil s (by simpa using nd) (by simpa using Frs.refl)
theorem wa_val {ta : TA} {Φ : List AR → Dl → Prop} (h : WE K te δ fun x δ' => WA K ta δ' fun rs δ'' => Φ (.val x :: rs) δ'') : WA K (tCons te ta) δ Φ := fun σ G H S g s nd Q k =>
  h σ G H S g s nd _ fun v x δ1 G1 H1 Sx S1 a p => a σ G1 H1 S1 p.e.gh p.s (nd_right p.n) _ fun vs rs δ2 G2 H2 Sy S2 b e2 ok s2 n2 f2 => by
    have o2 : Own K G2 H2 x v Sx := p.o.frame e2.gg (e2.apart fun c hc => ⟨nd_dis p.n hc, p.o.foot c hc⟩)
    have f1 : Frs S S1 H := fun c hc => p.f c (List.mem_append_right _ hc)
    have f2' : Frs S (Sy ++ S2) H := f1.trans p.e f2
    refine k _ _ δ2 G2 H2 (Sx ++ Sy) S2 b (p.e.trans e2 f1) (.val o2 ok) s2 ?_ fun c hc => ?_
    · rw [List.append_assoc]
      refine nd_app (nd_left p.n) n2 fun c hc q => ?_
      rcases f2 c q with z | z
      · exact nd_dis p.n hc z
      · exact (p.o.foot c hc).1 z
    · rw [List.append_assoc] at hc
      rcases List.mem_append.mp hc with z | z
      · exact p.f c (List.mem_append_left _ z)
      · exact f2' c z
theorem wa_p {ta : TA} {d : D} {Φ : List AR → Dl → Prop} (h : WP K te δ d) (q : WA K ta δ fun rs δ'' => Φ (.val (.dat d) :: rs) δ'') : WA K (tCons te ta) δ Φ := wa_val (we_p h q)
theorem wa_slt {ta : TA} {i : Nat} {Φ : List AR → Dl → Prop} (hx : ∃ x, δ[i]? = some (some x)) (h : WA K ta δ fun rs δ' => Φ (.slt i :: rs) δ') : WA K (tCons (tVar i) ta) δ Φ := fun σ G H S g s nd Q k => by
  obtain ⟨x, hx⟩ := hx
  obtain ⟨v, Si, Sr, h1, _⟩ := s.get hx
  exact ⟨v, h1, h σ G H S g s nd _ fun vs rs δ' G' H' Sx S' a e ok s' n' f => k _ _ δ' G' H' Sx S' a e (.slt h1 ok) s' n' f⟩
/-- the arguments' trees -/
def argsOf (δ : Dl) : List AR → Option (List OV)
  | [] => some []
  | .val x :: rs => (argsOf δ rs).map (x :: ·)
  | .slt i :: rs => match δ[i]? with
    | some (some x) => (argsOf δ rs).map (x :: ·)
    | _ => none
def slots : List AR → List Nat
  | [] => []
  | .val _ :: rs => slots rs
  | .slt i :: rs => i :: slots rs
def clearA (δ : Dl) : List AR → Dl
  | [] => δ
  | .val _ :: rs => clearA δ rs
  | .slt i :: rs => clearA (δ.set i none) rs
def putArgs (δ : Dl) : List AR → List OV → Dl
  | .val _ :: rs, _ :: xs => putArgs δ rs xs
  | .slt i :: rs, x :: xs => putArgs (δ.set i (some x)) rs xs
  | _, _ => δ
theorem argsOf_set {i : Nat} {w : Option OV} : ∀ {rs : List AR} {δ : Dl}, i ∉ slots rs → argsOf (δ.set i w) rs = argsOf δ rs
  | [], _, _ => rfl
  | .val x :: rs, δ, h => by simp only [argsOf]; rw [argsOf_set (rs := rs) h]
  | .slt j :: rs, δ, h => by
    have hj : i ≠ j := fun e => h (by simp [slots, e])
    have hr : i ∉ slots rs := fun q => h (by simp [slots, q])
    simp only [argsOf]
    rw [List.getElem?_set_ne hj, argsOf_set hr]
theorem ars_take {G H : Hp} {σ : L2.St} : ∀ {rs : List AR} {vs : List V} {Sx S : List Addr} {δ : Dl} {xs : List OV}, ArsOk K G H σ rs vs Sx → Sta K G H δ σ S → argsOf δ rs = some xs → (slots rs).Nodup →
    ∃ Sa Sr, (Sx ++ S).Perm (Sa ++ Sr) ∧ OwnL K G H xs vs Sa ∧ Sta K G H (clearA δ rs) σ Sr
  | [], _, _, S, δ, xs, .nil, s, e, _ => by
    have : [] = xs := by simpa [argsOf] using e
    subst this
    exact ⟨[], S, List.Perm.refl _, .nil, s⟩
  | .val x :: rs, _, _, S, δ, xs, .val (S := S0) (T := T0) o ok, s, e, nd => by
    simp only [argsOf, Option.map_eq_some_iff] at e
    obtain ⟨ys, e1, rfl⟩ := e
    obtain ⟨Sa, Sr, p, ow, st⟩ := ars_take ok s e1 nd
    exact ⟨S0 ++ Sa, Sr, by rw [List.append_assoc, List.append_assoc]; exact List.Perm.append_left S0 p, .cons o ow, st⟩
  | .slt i :: rs, _, Sx, S, δ, xs, .slt (v := v0) hv ok, s, e, nd => by
    simp only [argsOf] at e
    split at e
    · rename_i x hx
      simp only [Option.map_eq_some_iff] at e
      obtain ⟨ys, e1, rfl⟩ := e
      obtain ⟨v, Si, Sq, h1, h2, h3, h4⟩ := s.get hx
      rw [hv] at h1
      cases h1
      have hn := List.nodup_cons.mp nd
      obtain ⟨Sa, Sr, p, ow, st⟩ := ars_take ok h4 (by rw [argsOf_set hn.1]; exact e1) hn.2
      refine ⟨Si ++ Sa, Sr, ?_, .cons h2 ow, st⟩
      refine List.Perm.trans (List.Perm.append_left Sx h3) ?_
      refine (perm_swap (A := Sx) (B := Si) (C := Sq)).trans ?_
      rw [List.append_assoc]
      exact List.Perm.append_left Si p
    · cases e
theorem clearA_set {i : Nat} {w : Option OV} : ∀ {rs : List AR} {δ : Dl}, i ∉ slots rs → clearA (δ.set i w) rs = (clearA δ rs).set i w
  | [], _, _ => rfl
  | .val x :: rs, δ, h => clearA_set (rs := rs) h
  | .slt j :: rs, δ, h => by
    have hj : i ≠ j := fun e => h (by simp [slots, e])
    have hr : i ∉ slots rs := fun q => h (by simp [slots, q])
    simp only [clearA]
    rw [List.set_comm _ _ hj, clearA_set hr]
theorem putArgs_set {i : Nat} {w : Option OV} : ∀ {rs : List AR} {δ : Dl} {xs : List OV}, i ∉ slots rs → putArgs (δ.set i w) rs xs = (putArgs δ rs xs).set i w
  | [], δ, xs, _ => by cases xs <;> rfl
  | .val x :: rs, δ, [], h => rfl
  | .val x :: rs, δ, y :: xs, h => putArgs_set (rs := rs) h
  | .slt j :: rs, δ, [], h => rfl
  | .slt j :: rs, δ, y :: xs, h => by
    have hj : i ≠ j := fun e => h (by simp [slots, e])
    have hr : i ∉ slots rs := fun q => h (by simp [slots, q])
    simp only [putArgs]
    rw [List.set_comm _ _ hj, putArgs_set hr]
theorem clearA_len : ∀ {rs : List AR} {δ : Dl}, (clearA δ rs).length = δ.length
  | [], _ => rfl
  | .val _ :: rs, δ => clearA_len (rs := rs)
  | .slt i :: rs, δ => by simp only [clearA]; rw [clearA_len (rs := rs), List.length_set]
theorem ars_put {G H G0 H0 : Hp} {σ : L2.St} : ∀ {rs : List AR} {vs : List V} {Sx Sr Sa : List Addr} {δ : Dl} {xs : List OV}, ArsOk K G0 H0 σ rs vs Sx → (slots rs).Nodup → (∀ i ∈ slots rs, i < δ.length) → Sta K G H (clearA δ rs) σ Sr → OwnL K G H xs vs Sa →
    ∃ Sd S', (Sa ++ Sr).Perm (Sd ++ S') ∧ Sta K G H (putArgs δ rs xs) σ S'
  | [], _, _, Sr, Sa, δ, xs, .nil, _, _, s, o => by
    cases o
    exact ⟨[], Sr, List.Perm.refl _, s⟩
  | .val x :: rs, _, _, Sr, _, δ, _, .val _ ok, nd, hi, s, .cons (S := S0) (T := T0) o ow => by
    obtain ⟨Sd, S', p, st⟩ := ars_put ok nd hi s ow
    exact ⟨S0 ++ Sd, S', by rw [List.append_assoc, List.append_assoc]; exact List.Perm.append_left S0 p, st⟩
  | .slt i :: rs, _, _, Sr, _, δ, _, .slt (v := v0) hv ok, nd, hi, s, .cons (x := x) (xs := xs0) (S := S0) (T := T0) o ow => by
    have hn := List.nodup_cons.mp nd
    have hlt : i < δ.length := hi i (by simp [slots])
    obtain ⟨Sd, S', p, st⟩ := ars_put (δ := δ.set i none) ok hn.2 (fun j hj => by rw [List.length_set]; exact hi j (by simp [slots, hj])) s ow
    rw [putArgs_set hn.1] at st
    have hl : i < (putArgs δ rs xs0).length := by
      have := st.length
      rw [List.length_set] at this
      rw [this]
      exact get_lt hv
    obtain ⟨S2, p2, st2⟩ := st.put hl hv o
    refine ⟨Sd, S2, ?_, ?_⟩
    · rw [List.append_assoc]
      exact (List.Perm.append_left S0 p).trans (perm_swap.trans (List.Perm.append_left Sd p2.symm))
    · show Sta K G H (putArgs (δ.set i (some x)) rs _) σ S2
      rw [putArgs_set hn.1]
      exact st2
theorem slots_lt : ∀ {rs : List AR} {δ : Dl} {xs : List OV}, argsOf δ rs = some xs → ∀ i ∈ slots rs, i < δ.length
  | [], _, _, _, i, hi => by simp [slots] at hi
  | .val x :: rs, δ, xs, e, i, hi => by
    simp only [argsOf, Option.map_eq_some_iff] at e
    obtain ⟨ys, e1, _⟩ := e
    exact slots_lt e1 i hi
  | .slt j :: rs, δ, xs, e, i, hi => by
    simp only [argsOf] at e
    split at e
    · rename_i x hx
      simp only [Option.map_eq_some_iff] at e
      obtain ⟨ys, e1, _⟩ := e
      rcases List.mem_cons.mp hi with rfl | hi
      · exact get_lt hx
      · exact slots_lt e1 i hi
    · cases e
/-- the heart of a call: the callee's promise over the arguments as they stand -/
theorem call_core {E : XK} {rs : List AR} {vs : List V} {xs : List OV} {σ : L2.St} {G H G1 H1 : Hp} {S Sx S1 : List Addr} {δ1 : Dl} {Φ : OV → Dl → Prop} {Q : VK} (e1 : Ext S G H G1 H1) (ok : ArsOk K G1 H1 σ rs vs Sx) (s1 : Sta K G1 H1 δ1 σ S1) (n1 : (Sx ++ S1).Nodup) (f1 : Frs S (Sx ++ S1) H)
    (ha : argsOf δ1 rs = some xs) (hn : (slots rs).Nodup) (hs : spec xs fun r xs' => Φ r (putArgs δ1 rs xs')) (k : ∀ v x δ' G' H' Sy S', Φ x δ' → PostE K S σ G H v x δ' G' H' Sy S' → Q v H') : toSp K spec vs H1 Q E := by
  obtain ⟨Sa, Sr, p, ow, st⟩ := ars_take ok s1 ha hn
  have np := nd_perm p n1
  refine ⟨G1, xs, Sa, _, e1.gh, ow, nd_left np, hs, fun v x xs' G2 H2 Sy S' a e2 o ow' n2 f2 => ?_⟩
  have kp : ∀ b ∈ Sr, H2 b = H1 b ∧ G2 b = none := e2.apart fun b hb => ⟨fun q => nd_dis np q hb, st.foot b hb⟩
  obtain ⟨Sd, S3, p3, st3⟩ := ars_put ok hn (slots_lt ha) (st.frame e2.gg kp) ow'
  have fa : Frs S Sa H := fun b hb => f1 b (p.mem_iff.mpr (List.mem_append_left _ hb))
  have nb : (Sy ++ (S' ++ Sr)).Nodup := by
    rw [← List.append_assoc]
    refine nd_app n2 (nd_right np) fun b hb q => ?_
    rcases f2 b hb with z | z
    · exact nd_dis np z q
    · exact (st.foot b q).1 z
  have nc := nd_perm (List.Perm.append_left Sy p3) nb
  refine k v x _ G2 H2 Sy S3 a ⟨e1.trans e2 fa, o, st3, ?_, fun b hb => ?_⟩
  · exact nd_app (nd_left nc) (nd_right (nd_right nc)) fun b hb q => nd_dis nc hb (List.mem_append_right _ q)
  · have : b ∈ Sy ++ (S' ++ Sr) := by
      rcases List.mem_append.mp hb with z | z
      · exact List.mem_append_left _ z
      · exact List.mem_append_right _ (p3.mem_iff.mpr (List.mem_append_right _ z))
    rw [← List.append_assoc] at this
    rcases List.mem_append.mp this with z | z
    · exact (fa.trans e1 f2) b z
    · exact f1 b (p.mem_iff.mpr (List.mem_append_right _ z))
theorem we_call {ta : TA} {E : XK} {Φ : OV → Dl → Prop} (h : WA K ta δ fun rs δ' => ∃ xs, argsOf δ' rs = some xs ∧ (slots rs).Nodup ∧ spec xs fun r xs' => Φ r (putArgs δ' rs xs')) : WE K (tCall (toSp K spec) [] E ta) δ Φ := fun σ G H S g s nd Q k =>
  h σ G H S g s nd _ fun vs rs δ1 G1 H1 Sx S1 a e1 ok s1 n1 f1 => by
    obtain ⟨xs, ha, hn, hs⟩ := a
    rw [List.append_nil]
    exact call_core e1 ok s1 n1 f1 ha hn hs k
/-- o.m(..), o a slot -/
theorem we_meth {C : Addr} {m : Str} {ta : TA} {E : XK} {i : Nat} {os : List (Str × OV)} {Φ : OV → Dl → Prop} (ho : δ[i]? = some (some (.obj C os))) (hm : os.lookup m = none) (h : WA K ta δ fun rs δ' => ∃ xs, argsOf δ' (.slt i :: rs) = some xs ∧ (slots (.slt i :: rs)).Nodup ∧ spec xs fun r xs' => Φ r (putArgs δ' (.slt i :: rs) xs')) :
    WE K (tMeth C m (toSp K spec) [] E (tVar i) ta) δ Φ := fun σ G H S g s nd Q k => by
  obtain ⟨v, Si, Sr, h1, h2, _⟩ := s.get ho
  cases h2 with
  | @obj a C dx fs os T hx ga hk t =>
    have hl : fs.lookup m = none := by
      cases z : fs.lookup m with
      | none => rfl
      | some v =>
        have key : ∀ {fs : List (Str × V)} {os : List (Str × OV)}, fs.map (·.1) = os.map (·.1) → os.lookup m = none → fs.lookup m = none := by
          intro fs
          induction fs with
          | nil => intro os _ _; rfl
          | cons p fs ih =>
            intro os hk hm
            cases os with
            | nil => simp at hk
            | cons q os =>
              obtain ⟨g1, x1⟩ := p
              obtain ⟨g2, x2⟩ := q
              have hg : g1 = g2 := by simpa using (List.cons.inj hk).1
              subst hg
              by_cases e : g1 = m
              · subst e; rw [lookup_eq] at hm; cases hm
              · rw [lookup_ne e] at hm ⊢
                exact ih (by simpa using (List.cons.inj hk).2) hm
        rw [key hk hm] at z; cases z
    refine ⟨_, h1, a, dx, fs, rfl, hx, hl, h σ G H S g s nd _ fun vs rs δ1 G1 H1 Sx S1 a' e1 ok s1 n1 f1 => ?_⟩
    obtain ⟨xs, ha, hn, hs⟩ := a'
    rw [List.append_nil]
    exact call_core e1 (.slt h1 ok) s1 n1 f1 ha hn hs k
/-- o.m(..), o an object that is data -/
theorem we_methD {C : Addr} {m : Str} {ta : TA} {E : XK} {fs : List (Str × D)} {Φ : OV → Dl → Prop} (ho : WP K te δ (.obj C fs)) (hm : fs.lookup m = none) (h : WA K ta δ fun rs δ' => ∃ xs, argsOf δ' rs = some xs ∧ (slots rs).Nodup ∧ spec (.dat (.obj C fs) :: xs) fun r xs' => Φ r (putArgs δ' rs xs'.tail)) :
    WE K (tMeth C m (toSp K spec) [] E te ta) δ Φ := fun σ G H S g s nd Q k =>
  ho σ G H S g s nd _ fun u G0 H0 e0 r0 => by
    cases r0 with
    | @obj a C dx fv ds hx hk ri =>
      have hl : fv.lookup m = none := by
        have key : ∀ {fs : List (Str × V)} {os : List (Str × D)}, fs.map (·.1) = os.map (·.1) → os.lookup m = none → fs.lookup m = none := by
          intro fs
          induction fs with
          | nil => intro os _ _; rfl
          | cons p fs ih =>
            intro os hk hm
            cases os with
            | nil => simp at hk
            | cons q os =>
              obtain ⟨g1, x1⟩ := p
              obtain ⟨g2, x2⟩ := q
              have hg : g1 = g2 := by simpa using (List.cons.inj hk).1
              subst hg
              by_cases e : g1 = m
              · subst e; rw [lookup_eq] at hm; cases hm
              · rw [lookup_ne e] at hm ⊢
                exact ih (by simpa using (List.cons.inj hk).2) hm
        exact key hk hm
      refine ⟨a, dx, fv, rfl, e0.gh _ _ hx, hl, h σ G0 H0 S e0.gh (s.ext e0) nd _ fun vs rs δ1 G1 H1 Sx S1 a' e1 ok s1 n1 f1 => ?_⟩
      obtain ⟨xs, ha, hn, hs⟩ := a'
      rw [List.append_nil]
      have f0 : Frs S (Sx ++ S1) H := Frs.trans (S1 := S) (T := []) Frs.refl e0 f1
      refine call_core (Φ := Φ) (rs := .val (.dat (.obj C fs)) :: rs) (xs := .dat (.obj C fs) :: xs) (Sx := [] ++ Sx) (e0.pure.trans e1 Frs.refl) (.val (.dat (.obj (dx := dx) (e1.gg _ _ hx) hk fun i v d h1 h2 => (ri i v d h1 h2).mono e1.gg)) ok) s1 (by simpa using n1) (by simpa using f0) (by simp [argsOf, ha]) hn ?_ k
      have : ∀ xs', putArgs δ1 (.val (.dat (.obj C fs)) :: rs) xs' = putArgs δ1 rs xs'.tail := by
        intro xs'
        cases xs' with
        | nil => cases rs with
          | nil => rfl
          | cons r rs => cases r <;> rfl
        | cons x xs' => rfl
      simp only [this]
      exact hs
/-- C(..) -/
theorem we_make {C : Addr} {ta : TA} {E : XK} {Φ : OV → Dl → Prop} (h : WA K ta δ fun rs δ' => ∃ xs, argsOf δ' rs = some xs ∧ (slots rs).Nodup ∧ spec (.obj C [] :: xs) fun r xs' => r = .dat .non ∧ ∃ x' xs'', xs' = x' :: xs'' ∧ Φ x' (putArgs δ' rs xs'')) :
    WE K (tMake C (toSp K spec) [] E ta) δ Φ := fun σ G H S g s nd Q k =>
  h σ G H S g s nd _ fun vs rs δ1 G1 H1 Sx S1 a e1 ok s1 n1 f1 => by
    obtain ⟨xs, ha, hn, hs⟩ := a
    intro x dx nx ndx nex
    rw [List.append_nil]
    obtain ⟨Sa, Sr, p, ow, st⟩ := ars_take ok s1 ha hn
    have np := nd_perm p n1
    have eA : Ext [] G1 H1 G1 (upd H1 dx (.own x)) := Ext.newO e1.gh ndx
    have nx2 : upd H1 dx (.own x) x = none := by rw [upd_ne (Ne.symm nex)]; exact nx
    have eB : Ext [] G1 (upd H1 dx (.own x)) G1 (upd (upd H1 dx (.own x)) x (.ins C dx [])) := Ext.newO eA.gh nx2
    have eC := eA.tr0 eB
    have xa : x ∉ Sa := fun q => (ow.foot x q).1 nx
    have xr : x ∉ Sr := fun q => (st.foot x q).1 nx
    have owx : OwnL K G1 (upd (upd H1 dx (.own x)) x (.ins C dx [])) (.obj C [] :: xs) (.ref x :: vs) (([x] : List Addr) ++ Sa) := .cons (.obj (S := []) upd_same (e1.gh.free nx) rfl .nil) (ow.ext eC)
    refine ⟨G1, _, [x] ++ Sa, _, eC.gh, owx, nd_app (by simp) (nd_left np) (fun b hb => by
      have : b = x := by simpa using hb
      subst this; exact xa), hs, fun v r xs' G2 H2 Sy S' a e2 o ow' n2 f2 => ?_⟩
    obtain ⟨rfl, x', xs'', rfl, a⟩ := a
    cases o with
    | dat rr =>
      cases rr
      refine ⟨rfl, ?_⟩
      cases ow' with
      | @cons _ _ _ _ S5 T5 ox ow5 =>
        have st2 := st.ext eC
        have kp : ∀ b ∈ Sr, H2 b = (upd (upd H1 dx (.own x)) x (.ins C dx [])) b ∧ G2 b = none := e2.apart fun b hb => ⟨fun q => by
          rcases List.mem_append.mp q with q | q
          · have : b = x := by simpa using q
            subst this; exact xr hb
          · exact nd_dis np q hb, st2.foot b hb⟩
        obtain ⟨Sd, S3, p3, st3⟩ := ars_put ok hn (slots_lt ha) (st2.frame e2.gg kp) ow5
        have fa : Frs S Sa H := fun b hb => f1 b (p.mem_iff.mpr (List.mem_append_left _ hb))
        have E1 : Ext S G H G1 (upd (upd H1 dx (.own x)) x (.ins C dx [])) := e1.trans eC noF
        have fx : Frs S (([x] : List Addr) ++ Sa) H := fun b hb => by
          rcases List.mem_append.mp hb with q | q
          · have : b = x := by simpa using q
            subst this
            exact .inr (back_none e1 nx)
          · exact fa b q
        have nb : (S5 ++ (T5 ++ Sr)).Nodup := by
          rw [← List.append_assoc]
          refine nd_app (nd_right n2) (nd_right np) fun b hb q => ?_
          rcases f2 b (List.mem_append_right _ hb) with z | z
          · rcases List.mem_append.mp z with z | z
            · have : b = x := by simpa using z
              subst this; exact xr q
            · exact nd_dis np z q
          · exact (st2.foot b q).1 z
        have nc := nd_perm (List.Perm.append_left S5 p3) nb
        refine k _ x' _ G2 H2 S5 S3 a ⟨E1.trans e2 fx, ox, st3, ?_, fun b hb => ?_⟩
        · exact nd_app (nd_left nc) (nd_right (nd_right nc)) fun b hb q => nd_dis nc hb (List.mem_append_right _ q)
        · have : b ∈ S5 ++ (T5 ++ Sr) := by
            rcases List.mem_append.mp hb with z | z
            · exact List.mem_append_left _ z
            · exact List.mem_append_right _ (p3.mem_iff.mpr (List.mem_append_right _ z))
          rw [← List.append_assoc] at this
          rcases List.mem_append.mp this with z | z
          · exact (fx.trans E1 f2) b (List.mem_append_right _ z)
          · exact f1 b (p.mem_iff.mpr (List.mem_append_right _ z))
/-! ### a def's body keeps its promise -/
theorem body_of {spec : FS} {t : TS} {N : List Str} {np : Nat} (h : ∀ xs Φ, spec xs Φ → xs.length = np ∧ WS K (List.range np) t (xs.map some ++ List.replicate (N.length - np) none)
      { nx := fun δ' => ∃ xs', δ'.take np = xs'.map some ∧ Φ (.dat .non) xs', rt := fun x δ' => ∃ xs', δ'.take np = xs'.map some ∧ Φ x xs' }) :
    ∀ vs H Q E, toSp K spec vs H Q E → t { nx := fun _ H' => Q .non H', rt := Q } (L2.start N vs) H := by
  rintro vs H Q E ⟨G, xs, S, Φ, g, ow, nd, hs, k⟩
  obtain ⟨hl, w⟩ := h xs Φ hs
  have hvl := ow.len
  have st : ∀ {xs : List OV} {vs : List V} {S : List Addr} (m : Nat), OwnL K G H xs vs S → Sta K G H (xs.map some ++ List.replicate m none) (vs.map some ++ List.replicate m none) S := by
    intro xs
    induction xs with
    | nil =>
      intro vs S m o
      cases o
      induction m with
      | zero => exact .nil
      | succ m ih => exact .un (by simpa using ih)
    | cons x xs ih =>
      intro vs S m o
      cases o with
      | cons o1 o2 => exact .sl o1 (ih m o2)
  have s0 : Sta K G H (xs.map some ++ List.replicate (N.length - np) none) (L2.start N vs) S := by
    have := st (N.length - np) ow
    unfold L2.start
    rw [show N.length - vs.length = N.length - np by rw [hvl, hl]]
    exact this
  have back : ∀ {δ' : Dl} {σ' : L2.St} {G' H' : Hp} {S' : List Addr} {xs' : List OV}, Sta K G' H' δ' σ' S' → δ'.take np = xs'.map some → (∀ i ∈ List.range np, σ'[i]? = (L2.start N vs)[i]?) → ∃ Sa Sd, S'.Perm (Sa ++ Sd) ∧ OwnL K G' H' xs' vs Sa := by
    intro δ' σ' G' H' S' xs' s' e pp
    have hx : xs'.length = np ∨ δ'.length < np := by
      have := congrArg List.length e
      rw [List.length_take, List.length_map] at this
      omega
    have key : ∀ {xs' : List OV} {vs : List V} {δ' : Dl} {σ' : L2.St} {S' : List Addr}, Sta K G' H' δ' σ' S' → xs'.map some = δ'.take xs'.length → vs.length = xs'.length → (∀ i, i < xs'.length → σ'[i]? = (vs.map some)[i]?) → ∃ Sa Sd, S'.Perm (Sa ++ Sd) ∧ OwnL K G' H' xs' vs Sa := by
      intro xs'
      induction xs' with
      | nil =>
        intro vs δ' σ' S' s _ hl _
        have : vs = [] := List.eq_nil_of_length_eq_zero (by simpa using hl)
        subst this
        exact ⟨[], S', List.Perm.refl _, .nil⟩
      | cons x xs' ih =>
        intro vs δ' σ' S' s e hl pp
        cases vs with
        | nil => simp at hl
        | cons v vs =>
          cases s with
          | nil => simp at e
          | un s => simp at e
          | @sl y w δ σ S T o s =>
            have e' : x = y ∧ xs'.map some = δ.take xs'.length := by simpa using e
            obtain ⟨rfl, e2⟩ := e'
            have hw : w = v := by
              have := pp 0 (by simp)
              simpa using this
            subst hw
            obtain ⟨Sa, Sd, p, ow⟩ := ih s e2 (by simpa using hl) fun i hi => by
              have := pp (i + 1) (by simpa using hi)
              simpa using this
            exact ⟨S ++ Sa, Sd, by rw [List.append_assoc]; exact List.Perm.append_left S p, .cons o ow⟩
    have hsl := s'.length
    have hge : xs'.length = np := by
      rcases hx with h | h
      · exact h
      · exfalso
        have := pp (np - 1) (List.mem_range.mpr (by omega))
        rw [List.getElem?_eq_none (by omega)] at this
        have h2 : np - 1 < (L2.start N vs).length := by
          unfold L2.start
          rw [List.length_append, List.length_map]
          omega
        rw [List.getElem?_eq_getElem h2] at this
        cases this
    refine key s' (by rw [hge]; exact e.symm) (by omega) fun i hi => ?_
    rw [pp i (List.mem_range.mpr (by omega))]
    unfold L2.start
    rw [List.getElem?_append_left (by rw [List.length_map]; omega)]
  refine w _ G H S g s0 nd _ (fun δ' σ' G' H' S' a p => ?_) (fun v x δ' σ' G' H' Sx S' a p => ?_) (fun _ _ _ _ _ a _ => a.elim) (fun _ _ _ _ _ a _ => a.elim)
  · obtain ⟨xs', e, a⟩ := a
    obtain ⟨Sa, Sd, pp, ow'⟩ := back p.s e p.p
    refine k .non _ xs' G' H' [] Sa a p.e (.dat .non) ow' (by simpa using nd_left (nd_perm pp p.n)) fun b hb => p.f b (pp.mem_iff.mpr (List.mem_append_left _ (by simpa using hb)))
  · obtain ⟨xs', e, a⟩ := a
    obtain ⟨Sa, Sd, pp, ow'⟩ := back p.s e p.p
    have n2 : (Sx ++ (Sa ++ Sd)).Nodup := nd_perm (List.Perm.append_left Sx pp) p.n
    refine k v x xs' G' H' Sx Sa a p.e p.o ow' ?_ fun b hb => p.f b ?_
    · rw [← List.append_assoc] at n2
      exact nd_left n2
    · rcases List.mem_append.mp hb with z | z
      · exact List.mem_append_left _ z
      · exact List.mem_append_right _ (pp.mem_iff.mpr (List.mem_append_left _ z))
theorem sp_len {spec : FS} {np : Nat} (h : ∀ xs Φ, spec xs Φ → xs.length = np) : ∀ vs H Q E, toSp K spec vs H Q E → vs.length = np := by
  rintro vs H Q E ⟨G, xs, S, Φ, g, ow, nd, hs, k⟩
  rw [ow.len, h xs Φ hs]
end
end Pw
namespace Pw
open PySem PySem.Spec L2
section
variable {K : PySem.W.Frag} {P : List Nat} {δ : Dl} {ta tb te to ti tv : TE} {t u : TT} {ts t1 t2 : TS} {n m : Nat} {spec : FS}
/-! ### with effects -/
theorem Own.datR {G H : Hp} {d : D} {v : V} {S : List Addr} (o : Own K G H (.dat d) v S) : Rep K G v d ∧ S = [] := by
  cases o with
  | dat r => exact ⟨r, rfl⟩
theorem we_op {r : R2} {Φ : OV → Dl → Prop} (h : WE K ta δ fun x δ1 => ∃ d, x = .dat d ∧ WE K tb δ1 fun y δ2 => ∃ e, y = .dat e ∧ ∃ z, RP K r d e z ∧ Φ (.dat z) δ2) : WE K (tOp r ta tb) δ Φ := fun σ G H S g s nd Q k =>
  h σ G H S g s nd _ fun v x δ1 G1 H1 Sx S1 a p => by
    obtain ⟨d, rfl, a⟩ := a
    obtain ⟨r1, rfl⟩ := p.o.datR
    have f1 : Frs S S1 H := fun b hb => p.f b (by simpa using hb)
    refine a σ G1 H1 S1 p.e.gh p.s (by simpa using p.n) _ fun u y δ2 G2 H2 Sy S2 b p2 => ?_
    obtain ⟨e, rfl, z, hr, q⟩ := b
    obtain ⟨r2, rfl⟩ := p2.o.datR
    have f2 : Frs S S2 H := fun b hb => (f1.trans p.e p2.f) b (by simpa using hb)
    refine hr G2 H2 v u p2.e.gh (r1.mono p2.e.gg) r2 Q fun w G3 H3 e3 r3 => ?_
    exact k w _ δ2 G3 H3 [] S2 q ⟨(p.e.trans p2.e f1).trans e3.pure f2, .dat r3, p2.s.ext e3, by simpa using p2.n, by simpa using f2⟩
theorem wtE_test {Φ : Bool → Dl → Prop} (h : WE K te δ fun x δ' => ∃ b, x = .dat (.bl b) ∧ Φ b δ') : WT K (tTest te) δ Φ := fun σ G H S g s nd Q k =>
  h σ G H S g s nd _ fun v x δ1 G1 H1 Sx S1 a p => by
    obtain ⟨b, rfl, a⟩ := a
    obtain ⟨r1, rfl⟩ := p.o.datR
    cases r1
    exact ⟨b, rfl, k b δ1 G1 H1 S1 a ⟨p.e, p.s, by simpa using p.n, fun b hb => p.f b (by simpa using hb)⟩⟩
theorem wtE_and {Φ : Bool → Dl → Prop} (h : WT K t δ fun b δ' => if b = true then WT K u δ' Φ else Φ false δ') : WT K (tAnd t u) δ Φ := fun σ G H S g s nd Q k =>
  h σ G H S g s nd _ fun b δ1 G1 H1 S1 a p => by
    cases b with
    | true =>
      have a' : WT K u δ1 Φ := by simpa using a
      exact iteT (a' σ G1 H1 S1 p.e.gh p.s p.n Q fun b δ2 G2 H2 S2 c q => k b δ2 G2 H2 S2 c ⟨p.e.trans q.e p.f, q.s, q.n, p.f.trans p.e q.f⟩)
    | false => exact iteF (k false δ1 G1 H1 S1 (by simpa using a) p)
theorem wtE_or {Φ : Bool → Dl → Prop} (h : WT K t δ fun b δ' => if b = true then Φ true δ' else WT K u δ' Φ) : WT K (tOr t u) δ Φ := fun σ G H S g s nd Q k =>
  h σ G H S g s nd _ fun b δ1 G1 H1 S1 a p => by
    cases b with
    | true => exact iteT (k true δ1 G1 H1 S1 (by simpa using a) p)
    | false =>
      have a' : WT K u δ1 Φ := by simpa using a
      exact iteF (a' σ G1 H1 S1 p.e.gh p.s p.n Q fun b δ2 G2 H2 S2 c q => k b δ2 G2 H2 S2 c ⟨p.e.trans q.e p.f, q.s, q.n, p.f.trans p.e q.f⟩)
theorem we_ifE {Φ : OV → Dl → Prop} (h : WT K t δ fun b δ' => if b = true then WE K ta δ' Φ else WE K tb δ' Φ) : WE K (tIf t ta tb) δ Φ := fun σ G H S g s nd Q k =>
  h σ G H S g s nd _ fun b δ1 G1 H1 S1 a p => by
    have go : ∀ {te : TE}, WE K te δ1 Φ → te σ H1 Q := fun w => w σ G1 H1 S1 p.e.gh p.s p.n Q fun v x δ2 G2 H2 Sx S2 c q => k v x δ2 G2 H2 Sx S2 c ⟨p.e.trans q.e p.f, q.o, q.s, q.n, p.f.trans p.e q.f⟩
    cases b with
    | true => exact iteT (go (by simpa using a))
    | false => exact iteF (go (by simpa using a))
/-- values of the arguments that are data -/
def datA (ds : List D) : List AR := ds.map fun d => .val (.dat d)
theorem arsDat {G H : Hp} {σ : L2.St} : ∀ {ds : List D} {vs : List V} {S : List Addr}, ArsOk K G H σ (datA ds) vs S → RepL K G vs ds ∧ S = []
  | [], _, _, .nil => ⟨.nil, rfl⟩
  | d :: ds, _, _, .val o t => by
    obtain ⟨h1, h2⟩ := arsDat t
    obtain ⟨h3, h4⟩ := o.datR
    exact ⟨.cons h3 h1, by rw [h2, h4]; rfl⟩
def valA (xs : List OV) : List AR := xs.map AR.val
theorem arsVal {G H : Hp} {σ : L2.St} : ∀ {xs : List OV} {vs : List V} {S : List Addr}, ArsOk K G H σ (valA xs) vs S → OwnL K G H xs vs S
  | [], _, _, .nil => .nil
  | x :: xs, _, _, .val o t => .cons o (arsVal t)
theorem we_cb {r : List V → Hp → VK → Prop} {ta : TA} {Φ : OV → Dl → Prop} (h : WA K ta δ fun rs δ' => ∃ ds, rs = datA ds ∧ ∃ z, CP K r ds z ∧ Φ (.dat z) δ') : WE K (tCB r ta) δ Φ := fun σ G H S g s nd Q k =>
  h σ G H S g s nd _ fun vs rs δ1 G1 H1 Sx S1 a e1 ok s1 n1 f1 => by
    obtain ⟨ds, rfl, z, hr, q⟩ := a
    obtain ⟨r1, rfl⟩ := arsDat ok
    have f1' : Frs S S1 H := fun b hb => f1 b (by simpa using hb)
    exact hr G1 H1 vs e1.gh r1 Q fun w G2 H2 e2 r2 => k w _ δ1 G2 H2 [] S1 q ⟨e1.trans e2.pure f1', .dat r2, s1.ext e2, by simpa using n1, by simpa using f1'⟩
theorem we_tup {ta : TA} {Φ : OV → Dl → Prop} (h : WA K ta δ fun rs δ' => ∃ ds, rs = datA ds ∧ ds.length ≤ 1000 ∧ Φ (.dat (.tup ds)) δ') : WE K (tTup ta) δ Φ := fun σ G H S g s nd Q k =>
  h σ G H S g s nd _ fun vs rs δ1 G1 H1 Sx S1 a e1 ok s1 n1 f1 => by
    obtain ⟨ds, rfl, hl, q⟩ := a
    obtain ⟨r1, rfl⟩ := arsDat ok
    have f1' : Frs S S1 H := fun b hb => f1 b (by simpa using hb)
    refine ⟨by rw [r1.len]; exact Nat.le_trans hl (by decide), fun p hp => ?_⟩
    have e := Ext.newD (o := .tup vs) e1.gh hp
    exact k _ _ δ1 _ _ [] S1 q ⟨e1.trans e.pure f1', .dat (.tup (.inl (.inl upd_same)) r1.len fun i v d h1 h2 => (r1.at_ i v d h1 h2).mono e.gg), s1.ext e, by simpa using n1, by simpa using f1'⟩
theorem we_lst {ta : TA} {Φ : OV → Dl → Prop} (h : WA K ta δ fun rs δ' => ∃ xs, rs = valA xs ∧ xs.length ≤ 1000 ∧ Φ (.lst xs) δ') : WE K (tLst ta) δ Φ := fun σ G H S g s nd Q k =>
  h σ G H S g s nd _ fun vs rs δ1 G1 H1 Sx S1 a e1 ok s1 n1 f1 => by
    obtain ⟨xs, rfl, hl, q⟩ := a
    have ow := arsVal ok
    refine ⟨by rw [ow.len]; exact Nat.le_trans hl (by decide), fun p hp => ?_⟩
    have e := Ext.newO (o := .lst vs) e1.gh hp
    have fs : Frs S S1 H := fun b hb => f1 b (List.mem_append_right _ hb)
    have np : p ∉ Sx ++ S1 := fun q => by
      rcases List.mem_append.mp q with z | z
      · exact (ow.foot p z).1 hp
      · exact (s1.foot p z).1 hp
    refine k _ _ δ1 _ _ (p :: Sx) S1 q ⟨e1.trans e noF, .lst upd_same (e1.gh.free hp) (ow.ext e), s1.ext e, ?_, fun b hb => ?_⟩
    · exact List.nodup_cons.mpr ⟨np, n1⟩
    · rcases List.mem_cons.mp hb with rfl | hb
      · exact .inr (back_none e1 hp)
      · exact f1 b hb
/-- an effectful list frozen at once, items data -/
theorem we_lstD {ta : TA} {Φ : OV → Dl → Prop} (h : WA K ta δ fun rs δ' => ∃ ds, rs = datA ds ∧ ds.length ≤ 1000 ∧ Φ (.dat (.lst ds)) δ') : WE K (tLst ta) δ Φ := fun σ G H S g s nd Q k =>
  h σ G H S g s nd _ fun vs rs δ1 G1 H1 Sx S1 a e1 ok s1 n1 f1 => by
    obtain ⟨ds, rfl, hl, q⟩ := a
    obtain ⟨r1, rfl⟩ := arsDat ok
    have f1' : Frs S S1 H := fun b hb => f1 b (by simpa using hb)
    refine ⟨by rw [r1.len]; exact Nat.le_trans hl (by decide), fun p hp => ?_⟩
    have e := Ext.newD (o := .lst vs) e1.gh hp
    exact k _ _ δ1 _ _ [] S1 q ⟨e1.trans e.pure f1', .dat (.lst upd_same r1.len fun i v d h1 h2 => (r1.at_ i v d h1 h2).mono e.gg), s1.ext e, by simpa using n1, by simpa using f1'⟩
/-- the slots of a block set back -/
def unset (δ : Dl) : List Nat → Dl
  | [] => δ
  | v :: vs => (unset δ vs).set v none
theorem Sta.unset {G H : Hp} {σ : L2.St} {S : List Addr} (s : Sta K G H δ σ S) : ∀ (vs : List Nat), ∃ Sd Sr, S.Perm (Sd ++ Sr) ∧ Sta K G H (unset δ vs) (L2.wipe σ vs) Sr
  | [] => ⟨[], S, List.Perm.refl _, s⟩
  | v :: vs => by
    obtain ⟨Sd, Sr, p, s1⟩ := s.unset vs
    obtain ⟨Se, Sq, p2, s2⟩ := s1.drop v
    refine ⟨Sd ++ Se, Sq, by rw [List.append_assoc]; exact p.trans (List.Perm.append_left Sd p2), ?_⟩
    by_cases hl : v < (Pw.unset δ vs).length
    · exact s2.wild (w := none) (by rw [List.getElem?_set_self hl])
    · have h1 : (Pw.unset δ vs).set v none = Pw.unset δ vs := List.set_eq_of_length_le (by omega)
      have hlen := s1.length
      have h2 : (L2.wipe σ vs).set v none = L2.wipe σ vs := List.set_eq_of_length_le (by omega)
      show Sta K G H ((Pw.unset δ vs).set v none) ((L2.wipe σ vs).set v none) Sq
      rw [h2]
      exact s2
theorem Sta.unwipe {G H : Hp} {σ : L2.St} {S : List Addr} : ∀ {vs : List Nat}, Sta K G H δ (L2.wipe σ vs) S → (∀ v ∈ vs, δ[v]? = some none) → Sta K G H δ σ S
  | [], s, _ => s
  | v :: vs, s, h => by
    have hv := h v List.mem_cons_self
    refine Sta.unwipe (vs := vs) ?_ fun w hw => h w (List.mem_cons_of_mem _ hw)
    have s2 := s.wild (w := ((L2.wipe σ vs)[v]?).getD none) hv
    have e : ((L2.wipe σ (v :: vs)).set v (((L2.wipe σ vs)[v]?).getD none)) = L2.wipe σ vs := by
      show (((L2.wipe σ vs).set v none).set v _) = _
      rw [List.set_set]
      by_cases hl : v < (L2.wipe σ vs).length
      · rw [List.getElem?_eq_getElem hl]
        exact set_some (by rw [List.getElem?_eq_getElem hl]; rfl)
      · exact List.set_eq_of_length_le (by omega)
    rw [e] at s2
    exact s2
theorem unset_get {vs : List Nat} {v : Nat} (h : v ∈ vs) (hl : v < δ.length) : (unset δ vs)[v]? = some none := by
  have ln : ∀ vs : List Nat, (unset δ vs).length = δ.length := by
    intro vs
    induction vs with
    | nil => rfl
    | cons w ws ih => show ((unset δ ws).set w none).length = _; rw [List.length_set, ih]
  induction vs with
  | nil => simp at h
  | cons w ws ih =>
    show ((unset δ ws).set w none)[v]? = some none
    by_cases e : w = v
    · subst e; rw [List.getElem?_set_self (by rw [ln]; exact hl)]
    · rw [List.getElem?_set_ne e]
      rcases List.mem_cons.mp h with z | z
      · exact absurd z.symm e
      · exact ih z
theorem unset_len {vs : List Nat} : (unset δ vs).length = δ.length := by
  induction vs with
  | nil => rfl
  | cons w ws ih => show ((unset δ ws).set w none).length = _; rw [List.length_set, ih]
/-- a comprehension with effects: acc the items made so far -/
theorem we_lc {wi : TI} {g : TG} {tt : TT} {vs : List Nat} {ds : List D} {Φ : OV → Dl → Prop} (h : WI K wi δ ds) (hl : ds.length ≤ 1000000) (I : Nat → List OV → Dl → Prop) (h0 : I 0 [] δ) (hI : ∀ i acc δ', I i acc δ' → δ'.length = δ.length ∧ ∀ v ∈ vs, δ'[v]? = some none)
    (hs : ∀ i d acc δ', ds[i]? = some d → I i acc δ' → WC K vs g d δ' fun δ1 => WT K tt δ1 fun b δ2 => if b = true then WE K te δ2 fun y δ3 => I (i + 1) (acc ++ [y]) (unset δ3 vs) else I (i + 1) acc (unset δ2 vs))
    (hd : ∀ acc δ', I ds.length acc δ' → Φ (.lst acc) δ') : WE K (tLc wi g tt te vs) δ Φ := fun σ G H S gg s nd Q k =>
  h σ G H S gg s nd _ fun J G0 H0 e0 ok Dd hD => by
    have hD0 : H Dd = none := back_none e0 hD
    have eN : Ext [] G0 H0 G0 (upd H0 Dd (.lst [])) := Ext.newO e0.gh hD
    have s0 := s.ext (e0.tr0 eN)
    have DS : Dd ∉ S := fun q => (s.foot Dd q).1 hD0
    refine ⟨fun i m H1 => ∃ G1 ws acc δ1 Sa S1, m = ds.length - i ∧ i ≤ ds.length ∧ acc.length ≤ i ∧ I i acc δ1 ∧ Ext S G H G1 H1 ∧ Same G0 G1 ∧ G1 Dd = none ∧ H1 Dd = some (.lst ws) ∧ OwnL K G1 H1 acc ws Sa ∧ Sta K G1 H1 δ1 σ S1 ∧ (Dd :: Sa ++ S1).Nodup ∧ Frs S (Sa ++ S1) H,
      ⟨ds.length, G0, [], [], δ, [], S, by simp, Nat.zero_le _, Nat.le_refl _, h0, (e0.tr0 eN).pure, Same.refl _, e0.gh.free hD, upd_same, .nil, s0, by simpa using ⟨DS, nd⟩, by simpa using Frs.refl⟩, ?_⟩
    rintro i m H1 ⟨G1, ws, acc, δ1, Sa, S1, rfl, hi, hacc, i1, E1, g01, gD, hDw, ow, st, n1, f1⟩
    have n1' : (Sa ++ S1).Nodup := (List.nodup_cons.mp n1).2
    have D1 : Dd ∉ Sa ++ S1 := (List.nodup_cons.mp n1).1
    by_cases hlt : i < ds.length
    · refine .inr ⟨ok.go i H1 (g01.trans E1.gh) hlt, _, fun _ x => x, fun x H2 y => ?_⟩
      obtain ⟨d, G2, hd2, e2, r2⟩ := ok.yld i G1 H1 x H2 g01 E1.gh hlt y
      obtain ⟨l1, l2⟩ := hI i acc δ1 i1
      have st2 := (st.ext e2).wipe l2
      have ow2 := ow.ext e2
      have fS1 : Frs S S1 H := fun b hb => f1 b (List.mem_append_right _ hb)
      have E2 : Ext S G H G2 H2 := E1.trans e2 noF
      have hD2 : H2 Dd = some (.lst ws) := e2.kp _ _ (by simp) hDw
      have gD2 : G2 Dd = none := by rw [e2.fr Dd (by simp) (by rw [hDw]; simp)]; exact gD
      refine hs i d acc δ1 hd2 i1 (L2.wipe σ vs) G2 H2 S1 x e2.gh st2 (nd_right n1') r2 _ fun σ' δ' q s' e' => ⟨?_, ?_⟩
      · rw [e']
        have := @wipe_set
        clear this
        have ww : ∀ (us : List Nat), (∀ v ∈ us, v ∈ vs) → L2.wipe (L2.wipe σ vs) us = L2.wipe σ vs := by
          intro us
          induction us with
          | nil => intro _; rfl
          | cons u us ih =>
            intro hs
            show (L2.wipe (L2.wipe σ vs) us).set u none = L2.wipe σ vs
            rw [ih fun v hv => hs v (List.mem_cons_of_mem _ hv)]
            have hu : u ∈ vs := hs u List.mem_cons_self
            apply List.ext_getElem?
            intro j
            by_cases e : u = j
            · subst e
              by_cases hl : u < (L2.wipe σ vs).length
              · rw [List.getElem?_set_self hl]
                cases z : (L2.wipe σ vs)[u]? with
                | none => rw [List.getElem?_eq_none_iff] at z; omega
                | some o =>
                  cases o with
                  | none => rfl
                  | some v0 => exact absurd hu (wipe_some z).2
              · rw [List.getElem?_eq_none (by simp; omega), List.getElem?_eq_none (by omega)]
            · rw [List.getElem?_set_ne e]
        exact ww vs fun _ h => h
      · have e'' : L2.wipe σ' vs = L2.wipe σ vs := by
          rw [e']
          have ww : ∀ (us : List Nat), (∀ v ∈ us, v ∈ vs) → L2.wipe (L2.wipe σ vs) us = L2.wipe σ vs := by
            intro us
            induction us with
            | nil => intro _; rfl
            | cons u us ih =>
              intro hs
              show (L2.wipe (L2.wipe σ vs) us).set u none = L2.wipe σ vs
              rw [ih fun v hv => hs v (List.mem_cons_of_mem _ hv)]
              have hu : u ∈ vs := hs u List.mem_cons_self
              apply List.ext_getElem?
              intro j
              by_cases e : u = j
              · subst e
                by_cases hl : u < (L2.wipe σ vs).length
                · rw [List.getElem?_set_self hl]
                  cases z : (L2.wipe σ vs)[u]? with
                  | none => rw [List.getElem?_eq_none_iff] at z; omega
                  | some o =>
                    cases o with
                    | none => rfl
                    | some v0 => exact absurd hu (wipe_some z).2
                · rw [List.getElem?_eq_none (by simp; omega), List.getElem?_eq_none (by omega)]
              · rw [List.getElem?_set_ne e]
          exact ww vs fun _ h => h
        refine q σ' G2 H2 S1 e2.gh s' (nd_right n1') _ fun b δ2 G3 H3 S3 a p3 => ?_
        have apart3 : ∀ c ∈ Dd :: Sa, c ∉ S1 ∧ H2 c ≠ none ∧ G2 c = none := fun c hc => by
          rcases List.mem_cons.mp hc with rfl | hc
          · exact ⟨fun z => D1 (List.mem_append_right _ z), by rw [hD2]; simp, gD2⟩
          · exact ⟨nd_dis n1' hc, ow2.foot c hc⟩
        have k3 := p3.e.apart apart3
        have hD3 : H3 Dd = some (.lst ws) := by rw [(k3 Dd (by simp)).1]; exact hD2
        have gD3 : G3 Dd = none := (k3 Dd (by simp)).2
        have ow3 := ow2.frame p3.e.gg fun c hc => k3 c (List.mem_cons_of_mem _ hc)
        have E3 := E2.trans p3.e fS1
        have f3 : Frs S S3 H := fS1.trans E2 p3.f
        have g03 := (g01.trans e2.gg).trans p3.e.gg
        have dis3 : ∀ c ∈ S3, c ∉ Dd :: Sa := fun c hc z => by
          rcases p3.f c hc with w | w
          · exact (apart3 c z).1 w
          · exact (apart3 c z).2.1 w
        have fa : Frs S Sa H := fun c hc => f1 c (List.mem_append_left _ hc)
        -- back to the state around
        have home : ∀ {δ3 : Dl} {G4 H4 : Hp} {S4 : List Addr}, Sta K G4 H4 δ3 σ' S4 → S4.Nodup → δ3.length = δ.length → ∃ Sd Sr, S4.Perm (Sd ++ Sr) ∧ Sta K G4 H4 (unset δ3 vs) σ Sr := by
          intro δ3 G4 H4 S4 s4 n4 l4
          obtain ⟨Sd, Sr, pp, s5⟩ := s4.unset vs
          rw [e''] at s5
          exact ⟨Sd, Sr, pp, s5.unwipe fun v hv => unset_get hv (by
            have := l2 v hv
            have := get_lt this
            omega)⟩
        have len3 : δ2.length = δ.length := by
          have h1 := p3.s.length
          have h2 := s.length
          have h3 : σ'.length = σ.length := by
            have := congrArg List.length e''
            simpa [wipe_length] using this
          omega
        cases b with
        | true =>
          have a' : WE K te δ2 fun y δ3 => I (i + 1) (acc ++ [y]) (unset δ3 vs) := by simpa using a
          refine iteT (a' σ' G3 H3 S3 p3.e.gh p3.s p3.n _ fun v y δ3 G4 H4 Sy S4 i4 p4 => ?_)
          have apart4 : ∀ c ∈ Dd :: Sa, c ∉ S3 ∧ H3 c ≠ none ∧ G3 c = none := fun c hc => ⟨fun z => dis3 c z hc, by
            rcases List.mem_cons.mp hc with rfl | hc
            · rw [hD3]; simp
            · exact (ow3.foot c hc).1, (k3 c hc).2⟩
          have k4 := p4.e.apart apart4
          have hD4 : H4 Dd = some (.lst ws) := by rw [(k4 Dd (by simp)).1]; exact hD3
          have gD4 : G4 Dd = none := (k4 Dd (by simp)).2
          have ow4 := ow3.frame p4.e.gg fun c hc => k4 c (List.mem_cons_of_mem _ hc)
          have E4 := E3.trans p4.e f3
          have f4 : Frs S (Sy ++ S4) H := f3.trans E3 p4.f
          have len4 : δ3.length = δ.length := by
            have h1 := p4.s.length
            have h2 := p3.s.length
            omega
          obtain ⟨Sd, Sr, pp, s5⟩ := home p4.s (nd_right p4.n) len4
          have dis4 : ∀ c ∈ Sy ++ S4, c ∉ Dd :: Sa := fun c hc z => by
            rcases p4.f c hc with w | w
            · exact (apart4 c z).1 w
            · exact (apart4 c z).2.1 w
          have DSy : Dd ∉ Sy := fun z => dis4 Dd (List.mem_append_left _ z) (by simp)
          have DSr : Dd ∉ Sr := fun z => dis4 Dd (List.mem_append_right _ (pp.mem_iff.mpr (List.mem_append_right _ z))) (by simp)
          have DSa : Dd ∉ Sa := fun z => D1 (List.mem_append_left _ z)
          have fr : ∀ {X : List Addr}, Dd ∉ X → (∀ c ∈ X, G4 c = none) → ∀ c ∈ X, upd H4 Dd (.lst (ws ++ [v])) c = H4 c ∧ G4 c = none := fun hx hg c hc => ⟨upd_ne fun z => hx (z ▸ hc), hg c hc⟩
          refine ⟨ws, hD4, Nat.lt_of_lt_of_le (show ws.length < 1000000 by rw [ow.len]; omega) (by decide), ds.length - (i + 1), by omega, G4, ws ++ [v], acc ++ [y], unset δ3 vs, Sa ++ Sy, Sr, rfl, hlt, by simp; omega, i4, ?_, g03.trans p4.e.gg, gD4, upd_same, ?_, ?_, ?_, ?_⟩
          · refine ⟨E4.gg, fun b o hb => ?_, fun b o hS hb => ?_, fun b hb => ?_, E4.fr⟩
            · rw [upd_ne (ne_of_none hb gD4)]; exact E4.gh b o hb
            · rw [upd_ne (ne_of_none hb hD0)]; exact E4.kp b o hS hb
            · by_cases w : b = Dd
              · subst w; rw [upd_same]; simp
              · rw [upd_ne w]; exact E4.dm b hb
          · exact (ow4.frame (Same.refl G4) (fr DSa fun c hc => (ow4.foot c hc).2)).app (OwnL.one (p4.o.frame (Same.refl G4) (fr DSy fun c hc => (p4.o.foot c hc).2)))
          · exact s5.frame (Same.refl G4) (fr DSr fun c hc => (s5.foot c hc).2)
          · have n5 : (Sy ++ Sr).Nodup := by
              have := nd_perm (List.Perm.append_left Sy pp) p4.n
              exact nd_app (nd_left this) (nd_right (nd_right this)) fun c hc z => nd_dis this hc (List.mem_append_right _ z)
            have sub : ∀ c ∈ Sy ++ Sr, c ∈ Sy ++ S4 := fun c hc => by
              rcases List.mem_append.mp hc with z | z
              · exact List.mem_append_left _ z
              · exact List.mem_append_right _ (pp.mem_iff.mpr (List.mem_append_right _ z))
            show (Dd :: (Sa ++ Sy) ++ Sr).Nodup
            rw [List.cons_append, List.append_assoc]
            refine List.nodup_cons.mpr ⟨fun z => ?_, nd_app (nd_left n1') n5 fun c hc z => dis4 c (sub c z) (List.mem_cons_of_mem _ hc)⟩
            rcases List.mem_append.mp z with z | z
            · exact DSa z
            · exact dis4 Dd (sub Dd z) (by simp)
          · intro c hc
            rw [List.append_assoc] at hc
            rcases List.mem_append.mp hc with z | z
            · exact fa c z
            · refine f4 c ?_
              rcases List.mem_append.mp z with z | z
              · exact List.mem_append_left _ z
              · exact List.mem_append_right _ (pp.mem_iff.mpr (List.mem_append_right _ z))
        | false =>
          obtain ⟨Sd, Sr, pp, s5⟩ := home p3.s p3.n len3
          have sub : ∀ c ∈ Sr, c ∈ S3 := fun c hc => pp.mem_iff.mpr (List.mem_append_right _ hc)
          refine iteF ⟨ds.length - (i + 1), by omega, G3, ws, acc, unset δ2 vs, Sa, Sr, rfl, hlt, by omega, by simpa using a, E3, g03, gD3, hD3, ow3, s5, ?_, fun c hc => ?_⟩
          · rw [List.cons_append]
            refine List.nodup_cons.mpr ⟨fun z => ?_, nd_app (nd_left n1') (nd_right (nd_perm pp p3.n)) fun c hc z => dis3 c (sub c z) (List.mem_cons_of_mem _ hc)⟩
            rcases List.mem_append.mp z with z | z
            · exact D1 (List.mem_append_left _ z)
            · exact dis3 Dd (sub Dd z) (by simp)
          · rcases List.mem_append.mp hc with z | z
            · exact fa c z
            · exact f3 c (sub c z)
    · have e : i = ds.length := by omega
      subst e
      refine .inl ⟨ok.stop H1 (g01.trans E1.gh), k (.ref Dd) (.lst acc) δ1 G1 H1 (Dd :: Sa) S1 (hd acc δ1 i1) ⟨E1, .lst hDw gD ow, st, n1, fun c hc => ?_⟩⟩
      rcases List.mem_cons.mp hc with rfl | hc
      · exact .inr hD0
      · exact f1 c hc
end
end Pw
namespace Pw
open PySem PySem.Spec L2
theorem hu65 {A : Around} {k : Nat} (hr : Room k A) : A.units + 65 < cLine := by
  have := hr.un
  omega
/-! ### a def, a method, a class of the text, as a caller needs it -/
def Has (P : Program) (w : World) (K : PySem.W.Frag) (mg : PySem.Str → Option Value) (base : Heap) (k : Nat) (x : PySem.Str) (ps : List PySem.Str) (sp : Sp) : Prop :=
  ∃ f fd, mg x = some (.ref f) ∧ PySem.W.keepIn K (.ref f) = true ∧ Binds K fd ps [] ∧ FnOk P w K mg base CX0 k f fd ps sp
def HasM (P : Program) (w : World) (K : PySem.W.Frag) (mg : PySem.Str → Option Value) (base : Heap) (k : Nat) (C : Addr) (m : PySem.Str) (ps : List PySem.Str) (sp : Sp) : Prop :=
  ∃ f fd, Cls K C ∧ Meth K C m f ∧ Binds K fd ps [] ∧ FnOk P w K mg base CX0 k f fd ps sp
def HasI (P : Program) (w : World) (K : PySem.W.Frag) (mg : PySem.Str → Option Value) (base : Heap) (k : Nat) (x : PySem.Str) (C : Addr) (ps : List PySem.Str) (sp : Sp) : Prop :=
  ∃ f fd, mg x = some (.ref C) ∧ Mk K C f ∧ Binds K fd ps [] ∧ FnOk P w K mg base CX0 k f fd ps sp
section
variable {X : Cx} {k : Nat} {x m : PySem.Str} {C : Addr} {ps : List PySem.Str} {sp : Sp} {p pos apos : Pos} {e o : Expr} {es : List Expr} {t : TA} {ta : TE}
theorem pe_callH (h : Has X.prog X.w X.K X.mg X.base k x ps sp) (hr : Room k X.A) (hg : Gl X x) (ha : PA X (e :: es) t) (hdb : (x == ("__debug__" : PySem.Str)) = false := by decide) (he : starEach (e :: es) X.env = (false, eval e X.env) :: starEach es X.env := by rfl)
    (hpl : (backTo pos (starEach es X.env)).any (·.1) = false := by rfl) : PE X (.Call (.Name x p) (e :: es) [] pos) (tCall sp [] E0 t) := by
  obtain ⟨f, fd, h1, h2, h3, h4⟩ := h
  exact pe_call h4 hr hg h1 h2 h3 .nil pass0 ha hdb he hpl
theorem pe_callH0 (h : Has X.prog X.w X.K X.mg X.base k x ps sp) (hr : Room k X.A) (hg : Gl X x) (hdb : (x == ("__debug__" : PySem.Str)) = false := by decide) : PE X (.Call (.Name x p) [] [] pos) (tCall sp [] E0 tNil) := by
  obtain ⟨f, fd, h1, h2, h3, h4⟩ := h
  exact pe_call0 h4 hr hg h1 h2 h3 .nil pass0 hdb
theorem pe_methH {pl : Sem Bool} (he : PE X o ta) (h : HasM X.prog X.w X.K X.mg X.base k C m ps sp) (hr : Room k X.A) (ha : PA X (e :: es) t)
    (hst : starEach (e :: es) X.env = (false, eval e X.env) :: starEach es X.env := by rfl) (hpl : (backTo pos (starEach es X.env)).any (·.1) = false := by rfl)
    (ht : eval (.Call (.Attribute o m apos) (e :: es) [] pos) X.env = (do
      let ov ← eval o X.env
      standAt apos.atName
      let (f, first) ← holding [ov] (getMethod ov m pl)
      callWith pos f first (backTo pos (starEach (e :: es) X.env)) (backToKw pos (keywordEach [] X.env))) := by rfl) : PE X (.Call (.Attribute o m apos) (e :: es) [] pos) (tMeth C m sp [] E0 ta t) := by
  obtain ⟨f, fd, h1, h2, h3, h4⟩ := h
  exact pe_meth he h1 h2 h4 hr h3 .nil pass0 ha hst hpl ht
theorem pe_methH0 {pl : Sem Bool} (he : PE X o ta) (h : HasM X.prog X.w X.K X.mg X.base k C m ps sp) (hr : Room k X.A)
    (ht : eval (.Call (.Attribute o m apos) [] [] pos) X.env = (do
      let ov ← eval o X.env
      standAt apos.atName
      let (f, first) ← holding [ov] (getMethod ov m pl)
      callWith pos f first (backTo pos (starEach [] X.env)) (backToKw pos (keywordEach [] X.env))) := by rfl) : PE X (.Call (.Attribute o m apos) [] [] pos) (tMeth C m sp [] E0 ta tNil) := by
  obtain ⟨f, fd, h1, h2, h3, h4⟩ := h
  exact pe_meth0 he h1 h2 h4 hr h3 .nil pass0 ht
theorem pe_makeH (h : HasI X.prog X.w X.K X.mg X.base k x C ps sp) (hr : Room (k + 1) X.A) (hg : Gl X x) (ha : PA X (e :: es) t) (hdb : (x == ("__debug__" : PySem.Str)) = false := by decide) (he : starEach (e :: es) X.env = (false, eval e X.env) :: starEach es X.env := by rfl)
    (hpl : (backTo pos (starEach es X.env)).any (·.1) = false := by rfl) : PE X (.Call (.Name x p) (e :: es) [] pos) (tMake C sp [] E0 t) := by
  obtain ⟨f, fd, h1, h2, h3, h4⟩ := h
  exact pe_make h2 h4 hr hg h1 h3 .nil pass0 ha hdb he hpl
theorem pe_makeH0 (h : HasI X.prog X.w X.K X.mg X.base k x C ps sp) (hr : Room (k + 1) X.A) (hg : Gl X x) (hdb : (x == ("__debug__" : PySem.Str)) = false := by decide) : PE X (.Call (.Name x p) [] [] pos) (tMake C sp [] E0 tNil) := by
  obtain ⟨f, fd, h1, h2, h3, h4⟩ := h
  exact pe_make0 h2 h4 hr hg h1 h3 .nil pass0 hdb
theorem pe_gint {i : Int} (hg : Gl X x) (h : ∃ t, X.mg x = some (.int i t)) (hd : (x == ("__debug__" : PySem.Str)) = false := by decide) : PE X (.Name x pos) (tC (.int i)) := by
  obtain ⟨t, h⟩ := h
  exact pe_glob hg h ⟨_, rfl⟩ hd
theorem pe_gstr {i : PySem.Str} (hg : Gl X x) (h : ∃ t, X.mg x = some (.str i t)) (hd : (x == ("__debug__" : PySem.Str)) = false := by decide) : PE X (.Name x pos) (tC (.str i)) := by
  obtain ⟨t, h⟩ := h
  exact pe_glob hg h ⟨_, rfl⟩ hd
/-! ### a written dict -/
def rIxKD (K : PySem.W.Frag) (w : World) : R2 := fun x y H Q => ∃ p z v, x = .ref p ∧ y = .str z ∧ KDct K w p z v ∧ Q v H
theorem ix_KD : IxR X (rIxKD X.K X.w) := ix_kdict
/-! ### isinstance -/
def rISINSTANCE (K : PySem.W.Frag) : List V → Hp → VK → Prop := rIsi K
theorem call_ISINSTANCE : CallR X (.builtin "isinstance") (rISINSTANCE X.K) := call_isi
end
section
variable {K : PySem.W.Frag} {P : List Nat} {δ : Dl} {ta tb te : TE}
theorem wp_ixKD {w : World} {a : Addr} {z : PySem.Str} {v : V} {d : D} (hb : WP K tb δ (.str z)) (h : KDct K w a z v) (hd : ∀ G, Rep K G v d) : WP K (tOp (rIxKD K w) (tC (.ref a)) tb) δ d := fun σ G H S g s nd Q k =>
  hb σ G H S g s nd _ fun u G1 H1 e1 r1 => by
    cases r1
    exact ⟨a, z, v, rfl, rfl, h, k v G1 H1 e1 (hd G1)⟩
/-- a slot's tree goes out; the slot is forgotten -/
theorem we_mv {i : Nat} {x : OV} {Φ : OV → Dl → Prop} (h : δ[i]? = some (some x)) (q : Φ x (δ.set i none)) : WE K (tVar i) δ Φ := fun σ G H S g s nd Q k => by
  obtain ⟨v, Si, Sr, h1, h2, h3, h4⟩ := s.get h
  exact ⟨v, h1, k v x _ G H Si Sr q ⟨Ext.refl g, h2, h4, nd_perm h3 nd, fun b hb => .inl (h3.mem_iff.mpr hb)⟩⟩
theorem ixN_nat {n j : Nat} (h : j < n) : ixN n (j : Int) = some j := by
  unfold ixN
  rw [if_pos (by omega), if_pos (by omega)]
  simp
theorem ws_cut {ts : TS} {Ψ : En} (I : Dl → Prop) (h : WS K P ts δ { Ψ with nx := I }) (k : ∀ δ', I δ' → Ψ.nx δ') : WS K P ts δ Ψ := h.mono k (fun _ _ a => a) (fun _ a => a) fun _ a => a
theorem up_neg {i : Int} : UP K (rU fun i => .int (-i)) (.int i) (.int (-i)) := fun G H v g r Q k => by
  cases r
  exact ⟨i, rfl, k _ G H (Ext.refl g) (.int _)⟩
/-- a class as the second argument -/
theorem wp_isi {n : String} {d : D} {b : Bool} (h : WP K te δ d) (hk : ∀ (G H : Hp) (v : V), Same G H → Rep K G v d → ∃ t, TyX K H v t ∧ PySem.W.kitOne K t (.type n) = some b) : WP K (tCB (rISINSTANCE K) (tCons te (tCons (tC (.ty n)) tNil))) δ (.bl b) := fun σ G H S g s nd Q k =>
  h σ G H S g s nd _ fun v G1 H1 e1 r1 => by
    obtain ⟨t, h1, h2⟩ := hk G1 H1 v e1.gh r1
    exact ⟨v, .ty n, t, .type n, b, rfl, .ty n, h1, h2, k _ G1 H1 e1 (.bl b)⟩
end
end Pw
namespace Pw
open PySem PySem.Spec L2
section
variable {K : PySem.W.Frag} {δ : Dl} {te ta tb : TE} {tl th : TO} {P : List Nat}
/-! ### texts as codes -/
def Tx (l : List Nat) : PySem.Str := ⟨l.toArray⟩
theorem Tx_app (a b : List Nat) : Tx a ++ Tx b = Tx (a ++ b) := by
  show PySem.Str.mk _ = PySem.Str.mk _
  simp [Tx]
theorem Tx_len (a : List Nat) : (Tx a).length = a.length := by show (a.toArray).size = _; simp
theorem Tx_list (a : List Nat) : (Tx a).cps.toList = a := rfl
theorem Tx_inj {a b : List Nat} : (Tx a = Tx b) ↔ a = b := ⟨fun h => by
  have := congrArg (fun z : PySem.Str => z.cps.toList) h
  exact this, fun h => h ▸ rfl⟩
theorem Tx_one (c : Nat) : (⟨#[c]⟩ : PySem.Str) = Tx [c] := rfl
theorem Tx_mul (c : Nat) (n : Int) : Txt.mul (Tx [c]) n = Tx (List.replicate n.toNat c) := by
  have h : (Txt.mul ⟨#[c]⟩ n).cps.toList = List.replicate n.toNat c := by
    first
      | exact mul_one_list c n
      | exact PyProof.Rows.mul_one_list c n
  show (⟨(Txt.mul ⟨#[c]⟩ n).cps⟩ : PySem.Str) = _
  rw [← h]
  rfl
theorem Tx_cut (l : List Nat) (i j : Nat) : cutS (Tx l) (some (i : Int)) (some ((i : Int) + (j : Int))) = Tx ((l.drop i).take j) := by
  unfold cutS
  rw [Tx_len, show (i : Int) + (j : Int) = ((i + j : Nat) : Int) by omega, HT.sIx_nat, HT.sIx_nat, Tx_list]
  show Tx _ = _
  rw [Tx_inj]
  by_cases h : i ≤ l.length
  · rw [Nat.min_eq_left h]
    by_cases q : i + j ≤ l.length
    · rw [Nat.min_eq_left q, Nat.add_sub_cancel_left]
    · rw [Nat.min_eq_right (by omega), List.take_of_length_le (by simp), List.take_of_length_le (by simp; omega)]
  · rw [Nat.min_eq_right (by omega), List.drop_of_length_le (by omega), List.drop_of_length_le (by omega), List.take_nil, List.take_nil]
/-- a slice of a text -/
def OPs (K : PySem.W.Frag) (to : TO) (δ : Dl) (o : Option Int) : Prop := ∀ (σ : L2.St) (G H : Hp) (S : List Addr), Same G H → Sta K G H δ σ S → S.Nodup → ∀ Q : Option Int → Hp → Prop, (∀ G' H', Ext [] G H G' H' → Q o H') → to σ H Q
theorem op_no : OPs K tNoPart δ none := fun σ G H S g s n Q k => k G H (Ext.refl g)
theorem op_part {i : Int} (h : WP K te δ (.int i)) : OPs K (tPart te) δ (some i) := fun σ G H S g s n Q k => h σ G H S g s n _ fun v G' H' e r => by
  cases r
  exact ⟨i, rfl, k G' H' e⟩
theorem wp_sl_str {z : PySem.Str} {lo hi : Option Int} (h : WP K te δ (.str z)) (hl : OPs K tl δ lo) (hh : OPs K th δ hi) (hz : z.length ≤ sizeLine) : WP K (tSl (rSL K) te tl th) δ (.str (cutS z lo hi)) := fun σ G H S g s nd Q k =>
  h σ G H S g s nd _ fun v G1 H1 e1 r1 => hl σ G1 H1 S e1.gh (s.ext e1) nd _ fun G2 H2 e2 => hh σ G2 H2 S e2.gh ((s.ext e1).ext e2) nd _ fun G3 H3 e3 => by
    cases r1
    exact .inr (.inr ⟨z, rfl, hz, k _ G3 H3 (e1.tr0 (e2.tr0 e3)) (.str _)⟩)
theorem cp_int_str {a : PySem.Str} {n : Int} (h : PySem.intText? a = some n) (hl : a.length ≤ 640 := by decide) : CP K rINT [.str a] (.int n) := fun G H vs g r Q k => by
  obtain ⟨v, ws, rfl, h1, h2⟩ := r.cases_cons
  rw [h2.cases_nil]
  cases h1
  exact .inr ⟨a, n, rfl, h, hl, k _ G H (Ext.refl g) (.int _)⟩
theorem lookup_pF {β : Type} {f g : PySem.Str} {x : β} {r : List (PySem.Str × β)} (h : f = g) : ((f, x) :: r).lookup g = some x := by subst h; exact lookup_eq
/-- a function of data, by a parameter -/
def pfa {α : Type} (args : α → List D) (pre : α → Prop) (f : α → D) : FS := fun xs Φ => ∃ a, xs = (args a).map OV.dat ∧ pre a ∧ Φ (.dat (f a)) xs
theorem toSp_mono {s1 s2 : FS} (h : ∀ xs Φ, s1 xs Φ → s2 xs Φ) {vs : List V} {H : Hp} {Q : VK} {E : XK} (q : toSp K s1 vs H Q E) : toSp K s2 vs H Q E := by
  obtain ⟨G, xs, S, Φ, g, o, nd, hs, k⟩ := q
  exact ⟨G, xs, S, Φ, g, o, nd, h _ _ hs, k⟩
theorem wp_callA {α : Type} {args : α → List D} {pre : α → Prop} {f : α → D} {ta : TA} {E : XK} (a : α) (h : WPa K ta δ (args a)) (hp : pre a) : WP K (tCall (toSp K (pfa args pre f)) [] E ta) δ (f a) := fun σ G H S g s nd Q k => h σ G H S g s nd _ fun vs G1 H1 e1 r1 => by
  rw [List.append_nil]
  refine ⟨G1, (args a).map OV.dat, [], fun r _ => r = .dat (f a), e1.gh, ownL_dat r1, by simp, ⟨a, rfl, hp, rfl⟩, fun v x xs' G2 H2 Sx S' b e2 o _ _ _ => ?_⟩
  subst b
  cases o with
  | dat r => exact k v G2 H2 (e1.tr0 e2) r
end
end Pw
namespace Hd
open PySem PySem.Spec PyProof.Rows L2
def topS (i : Nat) : Stmt := PySem.Challenge.pw_placewords_k18_expression_text.main.body.getD i (.Pass ⟨0, 0, 0, 0⟩)
abbrev s_ExpressionSyntaxError___init__ : Stmt := inClass (topS 2) 0
abbrev s_within : Stmt := topS 6
abbrev s_format_expression : Stmt := topS 7
abbrev s_Parser___init__ : Stmt := inClass (topS 8) 0
abbrev s_Parser_skip : Stmt := inClass (topS 8) 1
abbrev s_Parser_take : Stmt := inClass (topS 8) 2
abbrev s_Parser_fail : Stmt := inClass (topS 8) 3
abbrev s_Parser_read_sum : Stmt := inClass (topS 8) 4
abbrev s_Parser_read_product : Stmt := inClass (topS 8) 5
abbrev s_Parser_read_star : Stmt := inClass (topS 8) 6
abbrev s_Parser_read_atom : Stmt := inClass (topS 8) 7
abbrev s_parse_expression : Stmt := topS 9
abbrev s_law_draws : Stmt := topS 11
abbrev s_law_take : Stmt := topS 12
abbrev s_law_expression : Stmt := topS 13
abbrev s_law_printed : Stmt := topS 14
abbrev s_law_spaced : Stmt := topS 15
abbrev s_law : Stmt := topS 16
def d_ExpressionSyntaxError___init__ : He.DefD := ⟨("ExpressionSyntaxError", some "__init__"), "__init__", "ExpressionSyntaxError.__init__", defArgs s_ExpressionSyntaxError___init__, defBody s_ExpressionSyntaxError___init__, defScope s_ExpressionSyntaxError___init__, [], []⟩
def d_within : He.DefD := ⟨("within", none), "within", "within", defArgs s_within, defBody s_within, defScope s_within, [], []⟩
def d_format_expression : He.DefD := ⟨("format_expression", none), "format_expression", "format_expression", defArgs s_format_expression, defBody s_format_expression, defScope s_format_expression, [], []⟩
def d_Parser___init__ : He.DefD := ⟨("Parser", some "__init__"), "__init__", "Parser.__init__", defArgs s_Parser___init__, defBody s_Parser___init__, defScope s_Parser___init__, [], []⟩
def d_Parser_skip : He.DefD := ⟨("Parser", some "skip"), "skip", "Parser.skip", defArgs s_Parser_skip, defBody s_Parser_skip, defScope s_Parser_skip, [], []⟩
def d_Parser_take : He.DefD := ⟨("Parser", some "take"), "take", "Parser.take", defArgs s_Parser_take, defBody s_Parser_take, defScope s_Parser_take, [], []⟩
def d_Parser_fail : He.DefD := ⟨("Parser", some "fail"), "fail", "Parser.fail", defArgs s_Parser_fail, defBody s_Parser_fail, defScope s_Parser_fail, [], []⟩
def d_Parser_read_sum : He.DefD := ⟨("Parser", some "read_sum"), "read_sum", "Parser.read_sum", defArgs s_Parser_read_sum, defBody s_Parser_read_sum, defScope s_Parser_read_sum, [], []⟩
def d_Parser_read_product : He.DefD := ⟨("Parser", some "read_product"), "read_product", "Parser.read_product", defArgs s_Parser_read_product, defBody s_Parser_read_product, defScope s_Parser_read_product, [], []⟩
def d_Parser_read_star : He.DefD := ⟨("Parser", some "read_star"), "read_star", "Parser.read_star", defArgs s_Parser_read_star, defBody s_Parser_read_star, defScope s_Parser_read_star, [], []⟩
def d_Parser_read_atom : He.DefD := ⟨("Parser", some "read_atom"), "read_atom", "Parser.read_atom", defArgs s_Parser_read_atom, defBody s_Parser_read_atom, defScope s_Parser_read_atom, [], []⟩
def d_parse_expression : He.DefD := ⟨("parse_expression", none), "parse_expression", "parse_expression", defArgs s_parse_expression, defBody s_parse_expression, defScope s_parse_expression, [], []⟩
def d_law_draws : He.DefD := ⟨("_law_draws", none), "_law_draws", "_law_draws", defArgs s_law_draws, defBody s_law_draws, defScope s_law_draws, [], []⟩
def d_law_take : He.DefD := ⟨("_law_take", none), "_law_take", "_law_take", defArgs s_law_take, defBody s_law_take, defScope s_law_take, [], []⟩
def d_law_expression : He.DefD := ⟨("_law_expression", none), "_law_expression", "_law_expression", defArgs s_law_expression, defBody s_law_expression, defScope s_law_expression, [], []⟩
def d_law_printed : He.DefD := ⟨("_law_printed", none), "_law_printed", "_law_printed", defArgs s_law_printed, defBody s_law_printed, defScope s_law_printed, [], []⟩
def d_law_spaced : He.DefD := ⟨("_law_spaced", none), "_law_spaced", "_law_spaced", defArgs s_law_spaced, defBody s_law_spaced, defScope s_law_spaced, [], []⟩
def d_law : He.DefD := ⟨("law", none), "law", "law", defArgs s_law, defBody s_law, defScope s_law, [], []⟩
def fn : List He.DefD := [d_ExpressionSyntaxError___init__, d_within, d_format_expression, d_Parser___init__, d_Parser_skip, d_Parser_take, d_Parser_fail, d_Parser_read_sum, d_Parser_read_product, d_Parser_read_star, d_Parser_read_atom, d_parse_expression, d_law_draws, d_law_take, d_law_expression, d_law_printed, d_law_spaced, d_law]
def fa : List He.Fa := [.free "len", .free "range", .free "int", .free "str", .free "list", .free "isinstance", .free "ValueError", .glo "within", .glo "format_expression", .glo "parse_expression", .glo "_law_draws", .glo "_law_take", .glo "_law_expression", .glo "_law_printed", .glo "_law_spaced", .glo "law", .str "DIGITS" "0123456789", .glo "RANKS", .glo "PlaceError", .glo "ExpressionSyntaxError", .glo "Parser", .cls "Parser", .noat "Parser" "at", .noat "Parser" "text", .mkr "Parser", .meth "Parser" "skip", .meth "Parser" "take", .meth "Parser" "fail", .meth "Parser" "read_sum", .meth "Parser" "read_product", .meth "Parser" "read_star", .meth "Parser" "read_atom"]
def ts : List He.Tab := [(fun K => He.ga K "RANKS", ["either", "join", "star", "none", "empty", "letter"])]
def names0 : List PySem.Str := ["PlaceError", "ExpressionSyntaxError", "DIGITS", "RANKS", "within", "format_expression", "Parser", "parse_expression", "_law_draws", "_law_take", "_law_expression", "_law_printed", "_law_spaced"]
def names : List PySem.Str := names0
def v_RANKS : List (PySem.Str × He.Dv) := [("either", .int 1), ("join", .int 2), ("star", .int 3), ("none", .int 4), ("empty", .int 4), ("letter", .int 4)]
def ex (K : PySem.W.Frag) : Bool := He.valsB K (He.ga K "RANKS") v_RANKS
abbrev R : PySem.W.OpenRow := PySem.W.OpenLaw.row PySem.Challenge.rw_placewords_k18_expression_text
abbrev hk : PySem.W.Hook := He.hookX 6 fa fn ts [] ex
def ob (s : PySem.W.SharedT) : He.AlX := He.obsX 6 fa fn ts [] ex (HandSHeadRun.getT s)
theorem ob_eq (s : PySem.W.SharedT) : ob s = hk.obs s.abs := He.obsX_eq (HandSHeadRun.getT_eq s)
theorem run (w : World) : HandSHeadRun.RunEq R (PySem.W.view R.prog [16]) hk ob 9000 names w :=
  PySem.W.byRow2 "special-get-raises" (P := fun w => HandSHeadRun.RunEq R (PySem.W.view R.prog [16]) hk ob 9000 names w) (fun w => by intro os; kernel_rfl) (fun w => by intro os; kernel_rfl) w
end Hd
namespace Gn
open PySem PySem.Spec L2 Pw
section
variable {P : Program} {w : World} {K : PySem.W.Frag} {mg : PySem.Str → Option Value} {base : Heap}
/-! ### ExpressionSyntaxError.__init__: 0 self 1 position -/
def N_ExpressionSyntaxError___init__ : List PySem.Str := [("self" : PySem.Str), ("position" : PySem.Str)]
theorem sc_ExpressionSyntaxError___init__ : FnScope N_ExpressionSyntaxError___init__ [("self" : PySem.Str), ("position" : PySem.Str)] (defScope Hd.s_ExpressionSyntaxError___init__) := ⟨rfl, rfl, rfl, by decide +kernel, rfl, by decide +kernel, by decide +kernel⟩
def t_ExpressionSyntaxError___init__ (K : PySem.W.Frag) : TS := (sFld K (tVar 0) (tVar 1) ("position" : PySem.Str))
theorem ok_ExpressionSyntaxError___init__ {k : Nat} {spc : FS} (len : ∀ xs Φ, spc xs Φ → xs.length = 2)
    (rd : ∀ vs H Q E, toSp K spc vs H Q E → t_ExpressionSyntaxError___init__ K { nx := fun _ H' => Q .non H', rt := Q } (L2.start N_ExpressionSyntaxError___init__ vs) H) {f : Addr} {fd : FuncData} (F : FunD K "__init__" "ExpressionSyntaxError.__init__" (defArgs Hd.s_ExpressionSyntaxError___init__) (defBody Hd.s_ExpressionSyntaxError___init__) (defScope Hd.s_ExpressionSyntaxError___init__) [] [] f fd) : FnOk P w K mg base CX0 (k + 1) f fd [("self" : PySem.Str), ("position" : PySem.Str)] (toSp K spc) := by
  refine F.ok sc_ExpressionSyntaxError___init__ (sp_len len) (fun cdv A outer s H vs Q E hr h => ⟨t_ExpressionSyntaxError___init__ K, PSs.nox ?_, rd vs H Q E h⟩)
  have hu := hu65 hr
  have nd := sc_ExpressionSyntaxError___init__.nd
  exact (pss_one (ps_fld (pv 0) (pv 1) rfl))
/-! ### within: 0 expression 1 rank 2 text -/
def N_within : List PySem.Str := [("expression" : PySem.Str), ("rank" : PySem.Str), ("text" : PySem.Str)]
theorem sc_within : FnScope N_within [("expression" : PySem.Str), ("rank" : PySem.Str)] (defScope Hd.s_within) := ⟨rfl, rfl, rfl, by decide +kernel, rfl, by decide +kernel, by decide +kernel⟩
def t_within (K : PySem.W.Frag) (S_format_expression : Sp) (A_RANKS : Addr) (W0 : World) : TS := (tSeq (tAsg (tCall S_format_expression [] E0 (tCons (tVar 0) tNil)) (gName 2)) (tSeq (tIfS (tTest (tOp (rLT K) (tOp (rIxKD K W0) (tC (.ref A_RANKS)) (tOp (rIX K) (tVar 0) (tC (.int 0)))) (tVar 1))) (tRet (tOp (rADD K) (tOp (rADD K) (tC (.str ("(" : PySem.Str))) (tVar 2)) (tC (.str (")" : PySem.Str))))) tNext) (tRet (tVar 2))))
theorem ok_within {S_format_expression : Sp} {A_RANKS : Addr} {j_format_expression : Nat} {k : Nat} {spc : FS} (h_format_expression : Has P w K mg base j_format_expression ("format_expression" : PySem.Str) [("expression" : PySem.Str)] S_format_expression) (c_RANKS : mg ("RANKS" : PySem.Str) = some (.ref A_RANKS)) (l_j_format_expression : j_format_expression ≤ k) (len : ∀ xs Φ, spc xs Φ → xs.length = 2)
    (rd : ∀ vs H Q E, toSp K spc vs H Q E → t_within K S_format_expression A_RANKS w { nx := fun _ H' => Q .non H', rt := Q } (L2.start N_within vs) H) {f : Addr} {fd : FuncData} (F : FunD K "within" "within" (defArgs Hd.s_within) (defBody Hd.s_within) (defScope Hd.s_within) [] [] f fd) : FnOk P w K mg base CX0 (k + 1) f fd [("expression" : PySem.Str), ("rank" : PySem.Str)] (toSp K spc) := by
  refine F.ok sc_within (sp_len len) (fun cdv A outer s H vs Q E hr h => ⟨t_within K S_format_expression A_RANKS w, PSs.nox ?_, rd vs H Q E h⟩)
  have hu := hu65 hr
  have nd := sc_within.nd
  exact (pss_cons (ps_set (i := 2) nd rfl (by first | exact Or.inl rfl | exact Or.inr rfl) (pe_callH h_format_expression (hr.mono l_j_format_expression) rfl (pa_cons (pv 0) pa_nil))) (pss_cons (ps_if (pt_cmpR (op_LT hu) (pe_ix ix_KD (pe_glob rfl c_RANKS rfl) (pe_ix ix_IX (pv 0) pe_int (fun _ _ => rfl)) (fun _ _ => rfl)) (pv 1) (nomark _)) (pss_one (ps_ret (pe_op op_ADD (pe_op op_ADD pe_str (pv 2)) pe_str))) pss_nil) (pss_one (ps_ret (pv 2)))))
/-! ### format_expression: 0 expression 1 kind -/
def N_format_expression : List PySem.Str := [("expression" : PySem.Str), ("kind" : PySem.Str)]
theorem sc_format_expression : FnScope N_format_expression [("expression" : PySem.Str)] (defScope Hd.s_format_expression) := ⟨rfl, rfl, rfl, by decide +kernel, rfl, by decide +kernel, by decide +kernel⟩
def t_format_expression (K : PySem.W.Frag) (S_within : Sp) : TS := (tSeq (tAsg (tOp (rIX K) (tVar 0) (tC (.int 0))) (gName 1)) (tSeq (tIfS (tTest (tOp (rEQ K) (tVar 1) (tC (.str ("letter" : PySem.Str))))) (tRet (tCB rSTR (tCons (tOp (rIX K) (tVar 0) (tC (.int 1))) tNil))) tNext) (tSeq (tIfS (tTest (tOp (rEQ K) (tVar 1) (tC (.str ("star" : PySem.Str))))) (tRet (tOp (rADD K) (tCall S_within [] E0 (tCons (tOp (rIX K) (tVar 0) (tC (.int 1))) (tCons (tC (.int 3)) tNil))) (tC (.str ("*" : PySem.Str))))) tNext) (tSeq (tIfS (tTest (tOp (rEQ K) (tVar 1) (tC (.str ("either" : PySem.Str))))) (tRet (tOp (rADD K) (tOp (rADD K) (tCall S_within [] E0 (tCons (tOp (rIX K) (tVar 0) (tC (.int 1))) (tCons (tC (.int 1)) tNil))) (tC (.str (" + " : PySem.Str)))) (tCall S_within [] E0 (tCons (tOp (rIX K) (tVar 0) (tC (.int 2))) (tCons (tC (.int 2)) tNil))))) tNext) (tSeq (tIfS (tTest (tOp (rEQ K) (tVar 1) (tC (.str ("join" : PySem.Str))))) (tRet (tOp (rADD K) (tOp (rADD K) (tCall S_within [] E0 (tCons (tOp (rIX K) (tVar 0) (tC (.int 1))) (tCons (tC (.int 2)) tNil))) (tC (.str (" . " : PySem.Str)))) (tCall S_within [] E0 (tCons (tOp (rIX K) (tVar 0) (tC (.int 2))) (tCons (tC (.int 3)) tNil))))) tNext) (tRet (tVar 1)))))))
theorem ok_format_expression {S_within : Sp} {j_within : Nat} {k : Nat} {spc : FS} (b_str : mg ("str" : PySem.Str) = none) (h_within : Has P w K mg base j_within ("within" : PySem.Str) [("expression" : PySem.Str), ("rank" : PySem.Str)] S_within) (l_j_within : j_within ≤ k) (len : ∀ xs Φ, spc xs Φ → xs.length = 1)
    (rd : ∀ vs H Q E, toSp K spc vs H Q E → t_format_expression K S_within { nx := fun _ H' => Q .non H', rt := Q } (L2.start N_format_expression vs) H) {f : Addr} {fd : FuncData} (F : FunD K "format_expression" "format_expression" (defArgs Hd.s_format_expression) (defBody Hd.s_format_expression) (defScope Hd.s_format_expression) [] [] f fd) : FnOk P w K mg base CX0 (k + 1) f fd [("expression" : PySem.Str)] (toSp K spc) := by
  refine F.ok sc_format_expression (sp_len len) (fun cdv A outer s H vs Q E hr h => ⟨t_format_expression K S_within, PSs.nox ?_, rd vs H Q E h⟩)
  have hu := hu65 hr
  have nd := sc_format_expression.nd
  exact (pss_cons (ps_set (i := 1) nd rfl (by first | exact Or.inl rfl | exact Or.inr rfl) (pe_ix ix_IX (pv 0) pe_int (fun _ _ => rfl))) (pss_cons (ps_if (pt_cmpR (op_EQ hu) (pv 1) pe_str (nomark _)) (pss_one (ps_ret (pe_callTy call_STR (by rfl) b_str (by decide +kernel) (pa_cons (pe_ix ix_IX (pv 0) pe_int (fun _ _ => rfl)) pa_nil)))) pss_nil) (pss_cons (ps_if (pt_cmpR (op_EQ hu) (pv 1) pe_str (nomark _)) (pss_one (ps_ret (pe_op op_ADD (pe_callH h_within (hr.mono l_j_within) rfl (pa_cons (pe_ix ix_IX (pv 0) pe_int (fun _ _ => rfl)) (pa_cons pe_int pa_nil))) pe_str))) pss_nil) (pss_cons (ps_if (pt_cmpR (op_EQ hu) (pv 1) pe_str (nomark _)) (pss_one (ps_ret (pe_op op_ADD (pe_op op_ADD (pe_callH h_within (hr.mono l_j_within) rfl (pa_cons (pe_ix ix_IX (pv 0) pe_int (fun _ _ => rfl)) (pa_cons pe_int pa_nil))) pe_str) (pe_callH h_within (hr.mono l_j_within) rfl (pa_cons (pe_ix ix_IX (pv 0) pe_int (fun _ _ => rfl)) (pa_cons pe_int pa_nil)))))) pss_nil) (pss_cons (ps_if (pt_cmpR (op_EQ hu) (pv 1) pe_str (nomark _)) (pss_one (ps_ret (pe_op op_ADD (pe_op op_ADD (pe_callH h_within (hr.mono l_j_within) rfl (pa_cons (pe_ix ix_IX (pv 0) pe_int (fun _ _ => rfl)) (pa_cons pe_int pa_nil))) pe_str) (pe_callH h_within (hr.mono l_j_within) rfl (pa_cons (pe_ix ix_IX (pv 0) pe_int (fun _ _ => rfl)) (pa_cons pe_int pa_nil)))))) pss_nil) (pss_one (ps_ret (pv 1))))))))
/-! ### Parser.__init__: 0 self 1 text -/
def N_Parser___init__ : List PySem.Str := [("self" : PySem.Str), ("text" : PySem.Str)]
theorem sc_Parser___init__ : FnScope N_Parser___init__ [("self" : PySem.Str), ("text" : PySem.Str)] (defScope Hd.s_Parser___init__) := ⟨rfl, rfl, rfl, by decide +kernel, rfl, by decide +kernel, by decide +kernel⟩
def t_Parser___init__ (K : PySem.W.Frag) : TS := (tSeq (sFld K (tVar 0) (tVar 1) ("text" : PySem.Str)) (sFld K (tVar 0) (tC (.int 0)) ("at" : PySem.Str)))
theorem ok_Parser___init__ {k : Nat} {spc : FS} (len : ∀ xs Φ, spc xs Φ → xs.length = 2)
    (rd : ∀ vs H Q E, toSp K spc vs H Q E → t_Parser___init__ K { nx := fun _ H' => Q .non H', rt := Q } (L2.start N_Parser___init__ vs) H) {f : Addr} {fd : FuncData} (F : FunD K "__init__" "Parser.__init__" (defArgs Hd.s_Parser___init__) (defBody Hd.s_Parser___init__) (defScope Hd.s_Parser___init__) [] [] f fd) : FnOk P w K mg base CX0 (k + 1) f fd [("self" : PySem.Str), ("text" : PySem.Str)] (toSp K spc) := by
  refine F.ok sc_Parser___init__ (sp_len len) (fun cdv A outer s H vs Q E hr h => ⟨t_Parser___init__ K, PSs.nox ?_, rd vs H Q E h⟩)
  have hu := hu65 hr
  have nd := sc_Parser___init__.nd
  exact (pss_cons (ps_fld (pv 0) (pv 1) rfl) (pss_one (ps_fld (pv 0) pe_int rfl)))
/-! ### Parser.skip: 0 self -/
def N_Parser_skip : List PySem.Str := [("self" : PySem.Str)]
theorem sc_Parser_skip : FnScope N_Parser_skip [("self" : PySem.Str)] (defScope Hd.s_Parser_skip) := ⟨rfl, rfl, rfl, by decide +kernel, rfl, by decide +kernel, by decide +kernel⟩
def t_Parser_skip (K : PySem.W.Frag) : TS := (tWhile (tAnd (tTest (tOp (rLT K) (tFld K (tVar 0) ("at" : PySem.Str)) (tCB (rLEN K) (tCons (tFld K (tVar 0) ("text" : PySem.Str)) tNil)))) (tTest (tOp (rEQ K) (tOp (rIX K) (tFld K (tVar 0) ("text" : PySem.Str)) (tFld K (tVar 0) ("at" : PySem.Str))) (tC (.str (" " : PySem.Str)))))) (sFldAug K (tVar 0) (tC (.int 1)) rAdd ("at" : PySem.Str)))
theorem ok_Parser_skip {k : Nat} {spc : FS} (b_len : mg ("len" : PySem.Str) = none) (len : ∀ xs Φ, spc xs Φ → xs.length = 1)
    (rd : ∀ vs H Q E, toSp K spc vs H Q E → t_Parser_skip K { nx := fun _ H' => Q .non H', rt := Q } (L2.start N_Parser_skip vs) H) {f : Addr} {fd : FuncData} (F : FunD K "skip" "Parser.skip" (defArgs Hd.s_Parser_skip) (defBody Hd.s_Parser_skip) (defScope Hd.s_Parser_skip) [] [] f fd) : FnOk P w K mg base CX0 (k + 1) f fd [("self" : PySem.Str)] (toSp K spc) := by
  refine F.ok sc_Parser_skip (sp_len len) (fun cdv A outer s H vs Q E hr h => ⟨t_Parser_skip K, PSs.nox ?_, rd vs H Q E h⟩)
  have hu := hu65 hr
  have nd := sc_Parser_skip.nd
  exact (pss_one (ps_while PassesOwn.never (PW.pt (pw_and (pt_cmpR (op_LT hu) (pe_fld (pv 0) rfl) (pe_callB call_LEN (by rfl) b_len (by decide +kernel) (pa_cons (pe_fld (pv 0) rfl) pa_nil)) (nomark _)) (pw_and1 (pt_cmpR (op_EQ hu) (pe_ix ix_IX (pe_fld (pv 0) rfl) (pe_fld (pv 0) rfl) (fun _ _ => rfl)) pe_str (nomark _))))) (pss_one (ps_fldaug (pv 0) pe_int in_add))))
/-! ### Parser.take: 0 self 1 token -/
def N_Parser_take : List PySem.Str := [("self" : PySem.Str), ("token" : PySem.Str)]
theorem sc_Parser_take : FnScope N_Parser_take [("self" : PySem.Str), ("token" : PySem.Str)] (defScope Hd.s_Parser_take) := ⟨rfl, rfl, rfl, by decide +kernel, rfl, by decide +kernel, by decide +kernel⟩
def t_Parser_take (K : PySem.W.Frag) (S_Parser_skip : Sp) (C_Parser : Addr) : TS := (tSeq (tDrop (tMeth C_Parser ("skip" : PySem.Str) S_Parser_skip [] E0 (tVar 0) tNil)) (tSeq (tIfS (tTest (tOp (rNE K) (tSl (rSL K) (tFld K (tVar 0) ("text" : PySem.Str)) (tPart (tFld K (tVar 0) ("at" : PySem.Str))) (tPart (tOp (rADD K) (tFld K (tVar 0) ("at" : PySem.Str)) (tCB (rLEN K) (tCons (tVar 1) tNil))))) (tVar 1))) (tRet (tC (.bl false))) tNext) (tSeq (sFldAug K (tVar 0) (tCB (rLEN K) (tCons (tVar 1) tNil)) rAdd ("at" : PySem.Str)) (tRet (tC (.bl true))))))
theorem ok_Parser_take {S_Parser_skip : Sp} {C_Parser : Addr} {j_Parser_skip : Nat} {k : Nat} {spc : FS} (h_Parser_skip : HasM P w K mg base j_Parser_skip C_Parser ("skip" : PySem.Str) [("self" : PySem.Str)] S_Parser_skip) (b_len : mg ("len" : PySem.Str) = none) (l_j_Parser_skip : j_Parser_skip ≤ k) (len : ∀ xs Φ, spc xs Φ → xs.length = 2)
    (rd : ∀ vs H Q E, toSp K spc vs H Q E → t_Parser_take K S_Parser_skip C_Parser { nx := fun _ H' => Q .non H', rt := Q } (L2.start N_Parser_take vs) H) {f : Addr} {fd : FuncData} (F : FunD K "take" "Parser.take" (defArgs Hd.s_Parser_take) (defBody Hd.s_Parser_take) (defScope Hd.s_Parser_take) [] [] f fd) : FnOk P w K mg base CX0 (k + 1) f fd [("self" : PySem.Str), ("token" : PySem.Str)] (toSp K spc) := by
  refine F.ok sc_Parser_take (sp_len len) (fun cdv A outer s H vs Q E hr h => ⟨t_Parser_take K S_Parser_skip C_Parser, PSs.nox ?_, rd vs H Q E h⟩)
  have hu := hu65 hr
  have nd := sc_Parser_take.nd
  exact (pss_cons (ps_expr (pe_methH0 (pv 0) h_Parser_skip (hr.mono l_j_Parser_skip))) (pss_cons (ps_if (pt_cmpR (op_NE hu) (pe_slice sl_SL (pe_fld (pv 0) rfl) (po_some (pe_fld (pv 0) rfl)) (po_some (pe_op op_ADD (pe_fld (pv 0) rfl) (pe_callB call_LEN (by rfl) b_len (by decide +kernel) (pa_cons (pv 1) pa_nil))))) (pv 1) (nomark _)) (pss_one (ps_ret pe_bl)) pss_nil) (pss_cons (ps_fldaug (pv 0) (pe_callB call_LEN (by rfl) b_len (by decide +kernel) (pa_cons (pv 1) pa_nil)) in_add) (pss_one (ps_ret pe_bl)))))
/-! ### Parser.fail: 0 self -/
def N_Parser_fail : List PySem.Str := [("self" : PySem.Str)]
theorem sc_Parser_fail : FnScope N_Parser_fail [("self" : PySem.Str)] (defScope Hd.s_Parser_fail) := ⟨rfl, rfl, rfl, by decide +kernel, rfl, by decide +kernel, by decide +kernel⟩
def t_Parser_fail (K : PySem.W.Frag) (S_Parser_skip : Sp) (C_Parser : Addr) : TS := (tSeq (tDrop (tMeth C_Parser ("skip" : PySem.Str) S_Parser_skip [] E0 (tVar 0) tNil)) tNever)
theorem ok_Parser_fail {S_Parser_skip : Sp} {C_Parser : Addr} {j_Parser_skip : Nat} {k : Nat} {spc : FS} (h_Parser_skip : HasM P w K mg base j_Parser_skip C_Parser ("skip" : PySem.Str) [("self" : PySem.Str)] S_Parser_skip) (l_j_Parser_skip : j_Parser_skip ≤ k) (len : ∀ xs Φ, spc xs Φ → xs.length = 1)
    (rd : ∀ vs H Q E, toSp K spc vs H Q E → t_Parser_fail K S_Parser_skip C_Parser { nx := fun _ H' => Q .non H', rt := Q } (L2.start N_Parser_fail vs) H) {f : Addr} {fd : FuncData} (F : FunD K "fail" "Parser.fail" (defArgs Hd.s_Parser_fail) (defBody Hd.s_Parser_fail) (defScope Hd.s_Parser_fail) [] [] f fd) : FnOk P w K mg base CX0 (k + 1) f fd [("self" : PySem.Str)] (toSp K spc) := by
  refine F.ok sc_Parser_fail (sp_len len) (fun cdv A outer s H vs Q E hr h => ⟨t_Parser_fail K S_Parser_skip C_Parser, PSs.nox ?_, rd vs H Q E h⟩)
  have hu := hu65 hr
  have nd := sc_Parser_fail.nd
  exact (pss_cons (ps_expr (pe_methH0 (pv 0) h_Parser_skip (hr.mono l_j_Parser_skip))) (pss_one ps_never))
/-! ### Parser.read_sum: 0 self 1 found -/
def N_Parser_read_sum : List PySem.Str := [("self" : PySem.Str), ("found" : PySem.Str)]
theorem sc_Parser_read_sum : FnScope N_Parser_read_sum [("self" : PySem.Str)] (defScope Hd.s_Parser_read_sum) := ⟨rfl, rfl, rfl, by decide +kernel, rfl, by decide +kernel, by decide +kernel⟩
def t_Parser_read_sum (K : PySem.W.Frag) (S_Parser_read_product : Sp) (C_Parser : Addr) (S_Parser_take : Sp) : TS := (tSeq (tAsg (tMeth C_Parser ("read_product" : PySem.Str) S_Parser_read_product [] E0 (tVar 0) tNil) (gName 1)) (tSeq (tWhile (tTRU K (tMeth C_Parser ("take" : PySem.Str) S_Parser_take [] E0 (tVar 0) (tCons (tC (.str ("+" : PySem.Str))) tNil))) (tAsg (tTup (tCons (tC (.str ("either" : PySem.Str))) (tCons (tVar 1) (tCons (tMeth C_Parser ("read_product" : PySem.Str) S_Parser_read_product [] E0 (tVar 0) tNil) tNil)))) (gName 1))) (tRet (tVar 1))))
theorem ok_Parser_read_sum {S_Parser_read_product : Sp} {C_Parser : Addr} {S_Parser_take : Sp} {j_Parser_read_product : Nat} {j_Parser_take : Nat} {k : Nat} {spc : FS} (h_Parser_read_product : HasM P w K mg base j_Parser_read_product C_Parser ("read_product" : PySem.Str) [("self" : PySem.Str)] S_Parser_read_product) (h_Parser_take : HasM P w K mg base j_Parser_take C_Parser ("take" : PySem.Str) [("self" : PySem.Str), ("token" : PySem.Str)] S_Parser_take) (l_j_Parser_read_product : j_Parser_read_product ≤ k) (l_j_Parser_take : j_Parser_take ≤ k) (len : ∀ xs Φ, spc xs Φ → xs.length = 1)
    (rd : ∀ vs H Q E, toSp K spc vs H Q E → t_Parser_read_sum K S_Parser_read_product C_Parser S_Parser_take { nx := fun _ H' => Q .non H', rt := Q } (L2.start N_Parser_read_sum vs) H) {f : Addr} {fd : FuncData} (F : FunD K "read_sum" "Parser.read_sum" (defArgs Hd.s_Parser_read_sum) (defBody Hd.s_Parser_read_sum) (defScope Hd.s_Parser_read_sum) [] [] f fd) : FnOk P w K mg base CX0 (k + 1) f fd [("self" : PySem.Str)] (toSp K spc) := by
  refine F.ok sc_Parser_read_sum (sp_len len) (fun cdv A outer s H vs Q E hr h => ⟨t_Parser_read_sum K S_Parser_read_product C_Parser S_Parser_take, PSs.nox ?_, rd vs H Q E h⟩)
  have hu := hu65 hr
  have nd := sc_Parser_read_sum.nd
  exact (pss_cons (ps_set (i := 1) nd rfl (by first | exact Or.inl rfl | exact Or.inr rfl) (pe_methH0 (pv 0) h_Parser_read_product (hr.mono l_j_Parser_read_product))) (pss_cons (ps_while PassesOwn.never (pt_truth (pe_methH (pv 0) h_Parser_take (hr.mono l_j_Parser_take) (pa_cons pe_str pa_nil)) (by intro _; rfl)) (pss_one (ps_set (i := 1) nd rfl (by first | exact Or.inl rfl | exact Or.inr rfl) (pe_tup (pa_cons pe_str (pa_cons (pv 1) (pa_cons (pe_methH0 (pv 0) h_Parser_read_product (hr.mono l_j_Parser_read_product)) pa_nil))))))) (pss_one (ps_ret (pv 1)))))
/-! ### Parser.read_product: 0 self 1 found -/
def N_Parser_read_product : List PySem.Str := [("self" : PySem.Str), ("found" : PySem.Str)]
theorem sc_Parser_read_product : FnScope N_Parser_read_product [("self" : PySem.Str)] (defScope Hd.s_Parser_read_product) := ⟨rfl, rfl, rfl, by decide +kernel, rfl, by decide +kernel, by decide +kernel⟩
def t_Parser_read_product (K : PySem.W.Frag) (S_Parser_read_star : Sp) (C_Parser : Addr) (S_Parser_take : Sp) : TS := (tSeq (tAsg (tMeth C_Parser ("read_star" : PySem.Str) S_Parser_read_star [] E0 (tVar 0) tNil) (gName 1)) (tSeq (tWhile (tTRU K (tMeth C_Parser ("take" : PySem.Str) S_Parser_take [] E0 (tVar 0) (tCons (tC (.str ("." : PySem.Str))) tNil))) (tAsg (tTup (tCons (tC (.str ("join" : PySem.Str))) (tCons (tVar 1) (tCons (tMeth C_Parser ("read_star" : PySem.Str) S_Parser_read_star [] E0 (tVar 0) tNil) tNil)))) (gName 1))) (tRet (tVar 1))))
theorem ok_Parser_read_product {S_Parser_read_star : Sp} {C_Parser : Addr} {S_Parser_take : Sp} {j_Parser_read_star : Nat} {j_Parser_take : Nat} {k : Nat} {spc : FS} (h_Parser_read_star : HasM P w K mg base j_Parser_read_star C_Parser ("read_star" : PySem.Str) [("self" : PySem.Str)] S_Parser_read_star) (h_Parser_take : HasM P w K mg base j_Parser_take C_Parser ("take" : PySem.Str) [("self" : PySem.Str), ("token" : PySem.Str)] S_Parser_take) (l_j_Parser_read_star : j_Parser_read_star ≤ k) (l_j_Parser_take : j_Parser_take ≤ k) (len : ∀ xs Φ, spc xs Φ → xs.length = 1)
    (rd : ∀ vs H Q E, toSp K spc vs H Q E → t_Parser_read_product K S_Parser_read_star C_Parser S_Parser_take { nx := fun _ H' => Q .non H', rt := Q } (L2.start N_Parser_read_product vs) H) {f : Addr} {fd : FuncData} (F : FunD K "read_product" "Parser.read_product" (defArgs Hd.s_Parser_read_product) (defBody Hd.s_Parser_read_product) (defScope Hd.s_Parser_read_product) [] [] f fd) : FnOk P w K mg base CX0 (k + 1) f fd [("self" : PySem.Str)] (toSp K spc) := by
  refine F.ok sc_Parser_read_product (sp_len len) (fun cdv A outer s H vs Q E hr h => ⟨t_Parser_read_product K S_Parser_read_star C_Parser S_Parser_take, PSs.nox ?_, rd vs H Q E h⟩)
  have hu := hu65 hr
  have nd := sc_Parser_read_product.nd
  exact (pss_cons (ps_set (i := 1) nd rfl (by first | exact Or.inl rfl | exact Or.inr rfl) (pe_methH0 (pv 0) h_Parser_read_star (hr.mono l_j_Parser_read_star))) (pss_cons (ps_while PassesOwn.never (pt_truth (pe_methH (pv 0) h_Parser_take (hr.mono l_j_Parser_take) (pa_cons pe_str pa_nil)) (by intro _; rfl)) (pss_one (ps_set (i := 1) nd rfl (by first | exact Or.inl rfl | exact Or.inr rfl) (pe_tup (pa_cons pe_str (pa_cons (pv 1) (pa_cons (pe_methH0 (pv 0) h_Parser_read_star (hr.mono l_j_Parser_read_star)) pa_nil))))))) (pss_one (ps_ret (pv 1)))))
/-! ### Parser.read_star: 0 self 1 found -/
def N_Parser_read_star : List PySem.Str := [("self" : PySem.Str), ("found" : PySem.Str)]
theorem sc_Parser_read_star : FnScope N_Parser_read_star [("self" : PySem.Str)] (defScope Hd.s_Parser_read_star) := ⟨rfl, rfl, rfl, by decide +kernel, rfl, by decide +kernel, by decide +kernel⟩
def t_Parser_read_star (K : PySem.W.Frag) (S_Parser_read_atom : Sp) (C_Parser : Addr) (S_Parser_take : Sp) : TS := (tSeq (tAsg (tMeth C_Parser ("read_atom" : PySem.Str) S_Parser_read_atom [] E0 (tVar 0) tNil) (gName 1)) (tSeq (tWhile (tTRU K (tMeth C_Parser ("take" : PySem.Str) S_Parser_take [] E0 (tVar 0) (tCons (tC (.str ("*" : PySem.Str))) tNil))) (tAsg (tTup (tCons (tC (.str ("star" : PySem.Str))) (tCons (tVar 1) tNil))) (gName 1))) (tRet (tVar 1))))
theorem ok_Parser_read_star {S_Parser_read_atom : Sp} {C_Parser : Addr} {S_Parser_take : Sp} {j_Parser_read_atom : Nat} {j_Parser_take : Nat} {k : Nat} {spc : FS} (h_Parser_read_atom : HasM P w K mg base j_Parser_read_atom C_Parser ("read_atom" : PySem.Str) [("self" : PySem.Str)] S_Parser_read_atom) (h_Parser_take : HasM P w K mg base j_Parser_take C_Parser ("take" : PySem.Str) [("self" : PySem.Str), ("token" : PySem.Str)] S_Parser_take) (l_j_Parser_read_atom : j_Parser_read_atom ≤ k) (l_j_Parser_take : j_Parser_take ≤ k) (len : ∀ xs Φ, spc xs Φ → xs.length = 1)
    (rd : ∀ vs H Q E, toSp K spc vs H Q E → t_Parser_read_star K S_Parser_read_atom C_Parser S_Parser_take { nx := fun _ H' => Q .non H', rt := Q } (L2.start N_Parser_read_star vs) H) {f : Addr} {fd : FuncData} (F : FunD K "read_star" "Parser.read_star" (defArgs Hd.s_Parser_read_star) (defBody Hd.s_Parser_read_star) (defScope Hd.s_Parser_read_star) [] [] f fd) : FnOk P w K mg base CX0 (k + 1) f fd [("self" : PySem.Str)] (toSp K spc) := by
  refine F.ok sc_Parser_read_star (sp_len len) (fun cdv A outer s H vs Q E hr h => ⟨t_Parser_read_star K S_Parser_read_atom C_Parser S_Parser_take, PSs.nox ?_, rd vs H Q E h⟩)
  have hu := hu65 hr
  have nd := sc_Parser_read_star.nd
  exact (pss_cons (ps_set (i := 1) nd rfl (by first | exact Or.inl rfl | exact Or.inr rfl) (pe_methH0 (pv 0) h_Parser_read_atom (hr.mono l_j_Parser_read_atom))) (pss_cons (ps_while PassesOwn.never (pt_truth (pe_methH (pv 0) h_Parser_take (hr.mono l_j_Parser_take) (pa_cons pe_str pa_nil)) (by intro _; rfl)) (pss_one (ps_set (i := 1) nd rfl (by first | exact Or.inl rfl | exact Or.inr rfl) (pe_tup (pa_cons pe_str (pa_cons (pv 1) pa_nil)))))) (pss_one (ps_ret (pv 1)))))
/-! ### Parser.read_atom: 0 self 1 found -/
def N_Parser_read_atom : List PySem.Str := [("self" : PySem.Str), ("found" : PySem.Str)]
theorem sc_Parser_read_atom : FnScope N_Parser_read_atom [("self" : PySem.Str)] (defScope Hd.s_Parser_read_atom) := ⟨rfl, rfl, rfl, by decide +kernel, rfl, by decide +kernel, by decide +kernel⟩
def t_Parser_read_atom (K : PySem.W.Frag) (S_Parser_take : Sp) (C_Parser : Addr) (S_Parser_read_sum : Sp) (S_Parser_fail : Sp) : TS := (tSeq (tIfS (tTRU K (tMeth C_Parser ("take" : PySem.Str) S_Parser_take [] E0 (tVar 0) (tCons (tC (.str ("none" : PySem.Str))) tNil))) (tRet (tTup (tCons (tC (.str ("none" : PySem.Str))) tNil))) tNext) (tSeq (tIfS (tTRU K (tMeth C_Parser ("take" : PySem.Str) S_Parser_take [] E0 (tVar 0) (tCons (tC (.str ("empty" : PySem.Str))) tNil))) (tRet (tTup (tCons (tC (.str ("empty" : PySem.Str))) tNil))) tNext) (tSeq (tIfS (tTRU K (tMeth C_Parser ("take" : PySem.Str) S_Parser_take [] E0 (tVar 0) (tCons (tC (.str ("(" : PySem.Str))) tNil))) (tSeq (tAsg (tMeth C_Parser ("read_sum" : PySem.Str) S_Parser_read_sum [] E0 (tVar 0) tNil) (gName 1)) (tSeq (tIfS (tNot (tTRU K (tMeth C_Parser ("take" : PySem.Str) S_Parser_take [] E0 (tVar 0) (tCons (tC (.str (")" : PySem.Str))) tNil)))) (tDrop (tMeth C_Parser ("fail" : PySem.Str) S_Parser_fail [] E0 (tVar 0) tNil)) tNext) (tRet (tVar 1)))) tNext) (tSeq (tIfS (tOr (tTest (tOp (rEQ K) (tFld K (tVar 0) ("at" : PySem.Str)) (tCB (rLEN K) (tCons (tFld K (tVar 0) ("text" : PySem.Str)) tNil)))) (tTest (tOp (rNIN K) (tOp (rIX K) (tFld K (tVar 0) ("text" : PySem.Str)) (tFld K (tVar 0) ("at" : PySem.Str))) (tC (.str ("0123456789" : PySem.Str)))))) (tDrop (tMeth C_Parser ("fail" : PySem.Str) S_Parser_fail [] E0 (tVar 0) tNil)) tNext) (tSeq (sFldAug K (tVar 0) (tC (.int 1)) rAdd ("at" : PySem.Str)) (tRet (tTup (tCons (tC (.str ("letter" : PySem.Str))) (tCons (tCB rINT (tCons (tOp (rIX K) (tFld K (tVar 0) ("text" : PySem.Str)) (tOp rSUB (tFld K (tVar 0) ("at" : PySem.Str)) (tC (.int 1)))) tNil)) tNil)))))))))
theorem ok_Parser_read_atom {S_Parser_take : Sp} {C_Parser : Addr} {S_Parser_read_sum : Sp} {S_Parser_fail : Sp} {j_Parser_take : Nat} {j_Parser_read_sum : Nat} {j_Parser_fail : Nat} {k : Nat} {spc : FS} (h_Parser_take : HasM P w K mg base j_Parser_take C_Parser ("take" : PySem.Str) [("self" : PySem.Str), ("token" : PySem.Str)] S_Parser_take) (h_Parser_read_sum : HasM P w K mg base j_Parser_read_sum C_Parser ("read_sum" : PySem.Str) [("self" : PySem.Str)] S_Parser_read_sum) (h_Parser_fail : HasM P w K mg base j_Parser_fail C_Parser ("fail" : PySem.Str) [("self" : PySem.Str)] S_Parser_fail) (b_len : mg ("len" : PySem.Str) = none) (c_DIGITS : ∃ t, mg ("DIGITS" : PySem.Str) = some (.str ("0123456789" : PySem.Str) t)) (b_int : mg ("int" : PySem.Str) = none) (l_j_Parser_take : j_Parser_take ≤ k) (l_j_Parser_read_sum : j_Parser_read_sum ≤ k) (l_j_Parser_fail : j_Parser_fail ≤ k) (len : ∀ xs Φ, spc xs Φ → xs.length = 1)
    (rd : ∀ vs H Q E, toSp K spc vs H Q E → t_Parser_read_atom K S_Parser_take C_Parser S_Parser_read_sum S_Parser_fail { nx := fun _ H' => Q .non H', rt := Q } (L2.start N_Parser_read_atom vs) H) {f : Addr} {fd : FuncData} (F : FunD K "read_atom" "Parser.read_atom" (defArgs Hd.s_Parser_read_atom) (defBody Hd.s_Parser_read_atom) (defScope Hd.s_Parser_read_atom) [] [] f fd) : FnOk P w K mg base CX0 (k + 1) f fd [("self" : PySem.Str)] (toSp K spc) := by
  refine F.ok sc_Parser_read_atom (sp_len len) (fun cdv A outer s H vs Q E hr h => ⟨t_Parser_read_atom K S_Parser_take C_Parser S_Parser_read_sum S_Parser_fail, PSs.nox ?_, rd vs H Q E h⟩)
  have hu := hu65 hr
  have nd := sc_Parser_read_atom.nd
  exact (pss_cons (ps_if (pt_truth (pe_methH (pv 0) h_Parser_take (hr.mono l_j_Parser_take) (pa_cons pe_str pa_nil)) (by intro _; rfl)) (pss_one (ps_ret (pe_tup (pa_cons pe_str pa_nil)))) pss_nil) (pss_cons (ps_if (pt_truth (pe_methH (pv 0) h_Parser_take (hr.mono l_j_Parser_take) (pa_cons pe_str pa_nil)) (by intro _; rfl)) (pss_one (ps_ret (pe_tup (pa_cons pe_str pa_nil)))) pss_nil) (pss_cons (ps_if (pt_truth (pe_methH (pv 0) h_Parser_take (hr.mono l_j_Parser_take) (pa_cons pe_str pa_nil)) (by intro _; rfl)) (pss_cons (ps_set (i := 1) nd rfl (by first | exact Or.inl rfl | exact Or.inr rfl) (pe_methH0 (pv 0) h_Parser_read_sum (hr.mono l_j_Parser_read_sum))) (pss_cons (ps_if (pt_not (pt_truth (pe_methH (pv 0) h_Parser_take (hr.mono l_j_Parser_take) (pa_cons pe_str pa_nil)) (by intro _; rfl))) (pss_one (ps_expr (pe_methH0 (pv 0) h_Parser_fail (hr.mono l_j_Parser_fail)))) pss_nil) (pss_one (ps_ret (pv 1))))) pss_nil) (pss_cons (ps_if (PW.pt (pw_or (pt_cmpR (op_EQ hu) (pe_fld (pv 0) rfl) (pe_callB call_LEN (by rfl) b_len (by decide +kernel) (pa_cons (pe_fld (pv 0) rfl) pa_nil)) (nomark _)) (pw_or1 (pt_cmpR (op_NIN hu) (pe_ix ix_IX (pe_fld (pv 0) rfl) (pe_fld (pv 0) rfl) (fun _ _ => rfl)) (pe_gstr rfl c_DIGITS) (by rfl))))) (pss_one (ps_expr (pe_methH0 (pv 0) h_Parser_fail (hr.mono l_j_Parser_fail)))) pss_nil) (pss_cons (ps_fldaug (pv 0) pe_int in_add) (pss_one (ps_ret (pe_tup (pa_cons pe_str (pa_cons (pe_callTy call_INT (by rfl) b_int (by decide +kernel) (pa_cons (pe_ix ix_IX (pe_fld (pv 0) rfl) (pe_op op_SUB (pe_fld (pv 0) rfl) pe_int) (fun _ _ => rfl)) pa_nil)) pa_nil))))))))))
/-! ### parse_expression: 0 text 1 parser 2 found -/
def N_parse_expression : List PySem.Str := [("text" : PySem.Str), ("parser" : PySem.Str), ("found" : PySem.Str)]
theorem sc_parse_expression : FnScope N_parse_expression [("text" : PySem.Str)] (defScope Hd.s_parse_expression) := ⟨rfl, rfl, rfl, by decide +kernel, rfl, by decide +kernel, by decide +kernel⟩
def t_parse_expression (K : PySem.W.Frag) (C_Parser : Addr) (S_Parser___init__ : Sp) (S_Parser_read_sum : Sp) (S_Parser_skip : Sp) (S_Parser_fail : Sp) : TS := (tSeq (tAsg (tMake C_Parser S_Parser___init__ [] E0 (tCons (tVar 0) tNil)) (gName 1)) (tSeq (tAsg (tMeth C_Parser ("read_sum" : PySem.Str) S_Parser_read_sum [] E0 (tVar 1) tNil) (gName 2)) (tSeq (tDrop (tMeth C_Parser ("skip" : PySem.Str) S_Parser_skip [] E0 (tVar 1) tNil)) (tSeq (tIfS (tTest (tOp (rLT K) (tFld K (tVar 1) ("at" : PySem.Str)) (tCB (rLEN K) (tCons (tVar 0) tNil)))) (tDrop (tMeth C_Parser ("fail" : PySem.Str) S_Parser_fail [] E0 (tVar 1) tNil)) tNext) (tRet (tVar 2))))))
theorem ok_parse_expression {C_Parser : Addr} {S_Parser___init__ : Sp} {S_Parser_read_sum : Sp} {S_Parser_skip : Sp} {S_Parser_fail : Sp} {j_Parser : Nat} {j_Parser_read_sum : Nat} {j_Parser_skip : Nat} {j_Parser_fail : Nat} {k : Nat} {spc : FS} (i_Parser : HasI P w K mg base j_Parser ("Parser" : PySem.Str) C_Parser [("self" : PySem.Str), ("text" : PySem.Str)] S_Parser___init__) (h_Parser_read_sum : HasM P w K mg base j_Parser_read_sum C_Parser ("read_sum" : PySem.Str) [("self" : PySem.Str)] S_Parser_read_sum) (h_Parser_skip : HasM P w K mg base j_Parser_skip C_Parser ("skip" : PySem.Str) [("self" : PySem.Str)] S_Parser_skip) (b_len : mg ("len" : PySem.Str) = none) (h_Parser_fail : HasM P w K mg base j_Parser_fail C_Parser ("fail" : PySem.Str) [("self" : PySem.Str)] S_Parser_fail) (l_j_Parser : j_Parser + 1 ≤ k) (l_j_Parser_read_sum : j_Parser_read_sum ≤ k) (l_j_Parser_skip : j_Parser_skip ≤ k) (l_j_Parser_fail : j_Parser_fail ≤ k) (len : ∀ xs Φ, spc xs Φ → xs.length = 1)
    (rd : ∀ vs H Q E, toSp K spc vs H Q E → t_parse_expression K C_Parser S_Parser___init__ S_Parser_read_sum S_Parser_skip S_Parser_fail { nx := fun _ H' => Q .non H', rt := Q } (L2.start N_parse_expression vs) H) {f : Addr} {fd : FuncData} (F : FunD K "parse_expression" "parse_expression" (defArgs Hd.s_parse_expression) (defBody Hd.s_parse_expression) (defScope Hd.s_parse_expression) [] [] f fd) : FnOk P w K mg base CX0 (k + 1) f fd [("text" : PySem.Str)] (toSp K spc) := by
  refine F.ok sc_parse_expression (sp_len len) (fun cdv A outer s H vs Q E hr h => ⟨t_parse_expression K C_Parser S_Parser___init__ S_Parser_read_sum S_Parser_skip S_Parser_fail, PSs.nox ?_, rd vs H Q E h⟩)
  have hu := hu65 hr
  have nd := sc_parse_expression.nd
  exact (pss_cons (ps_set (i := 1) nd rfl (by first | exact Or.inl rfl | exact Or.inr rfl) (pe_makeH i_Parser (hr.mono l_j_Parser) rfl (pa_cons (pv 0) pa_nil))) (pss_cons (ps_set (i := 2) nd rfl (by first | exact Or.inl rfl | exact Or.inr rfl) (pe_methH0 (pv 1) h_Parser_read_sum (hr.mono l_j_Parser_read_sum))) (pss_cons (ps_expr (pe_methH0 (pv 1) h_Parser_skip (hr.mono l_j_Parser_skip))) (pss_cons (ps_if (pt_cmpR (op_LT hu) (pe_fld (pv 1) rfl) (pe_callB call_LEN (by rfl) b_len (by decide +kernel) (pa_cons (pv 0) pa_nil)) (nomark _)) (pss_one (ps_expr (pe_methH0 (pv 1) h_Parser_fail (hr.mono l_j_Parser_fail)))) pss_nil) (pss_one (ps_ret (pv 2)))))))
/-! ### _law_draws: 0 _law_script 1 _law_count 2 _law_cells 3 _law_found 4 _law_mixed 5 _law_k 6 _law_j 7 _law_cell 8 _law_again -/
def N_law_draws : List PySem.Str := [("_law_script" : PySem.Str), ("_law_count" : PySem.Str), ("_law_cells" : PySem.Str), ("_law_found" : PySem.Str), ("_law_mixed" : PySem.Str), ("_law_k" : PySem.Str), ("_law_j" : PySem.Str), ("_law_cell" : PySem.Str), ("_law_again" : PySem.Str)]
theorem sc_law_draws : FnScope N_law_draws [("_law_script" : PySem.Str), ("_law_count" : PySem.Str)] (defScope Hd.s_law_draws) := ⟨rfl, rfl, rfl, by decide +kernel, rfl, by decide +kernel, by decide +kernel⟩
def t_law_draws (K : PySem.W.Frag) : TS := (tSeq (tAsg (tCB (rLIST K) (tCons (tVar 0) tNil)) (gName 2)) (tSeq (tIfS (tTest (tOp (rEQ K) (tCB (rLEN K) (tCons (tVar 2) tNil)) (tC (.int 0)))) (tAsg (tLst (tCons (tC (.int 7)) tNil)) (gName 2)) tNext) (tSeq (tAsg (tLst tNil) (gName 3)) (tSeq (tAsg (tC (.int 12345)) (gName 4)) (tSeq (tFor (iRng1 (tCons (tVar 1) tNil)) (gName 5) (tSeq (tAsg (tOp rMOD (tVar 5) (tCB (rLEN K) (tCons (tVar 2) tNil))) (gName 6)) (tSeq (tAsg (tOp (rIX K) (tVar 2) (tVar 6)) (gName 7)) (tSeq (tAsg (tOp rMOD (tCB rINT (tCons (tOp (rADD K) (tOp (rADD K) (tOp (rADD K) (tOp (rMUL K) (tVar 4) (tC (.int 48271))) (tOp (rMUL K) (tOp rMOD (tCB rINT (tCons (tVar 7) tNil)) (tC (.int 1000003))) (tC (.int 69621)))) (tOp (rMUL K) (tVar 5) (tC (.int 7919)))) (tC (.int 11))) tNil)) (tC (.int 2147483647))) (gName 4)) (tSeq (tAsg (tOp rMOD (tCB rINT (tCons (tOp (rADD K) (tOp (rADD K) (tOp (rMUL K) (tVar 4) (tVar 4)) (tOp (rMUL K) (tC (.int 31)) (tVar 4))) (tVar 5)) tNil)) (tC (.int 1000003))) (gName 8)) (tIfS (tTest (tOp rGE (tVar 7) (tOp rPOW (tC (.int 10)) (tC (.int 18))))) (tSeq (tDrop (tBM K "list" rAppend (tVar 3) (tCons (tOp rMOD (tCB rINT (tCons (tVar 7) tNil)) (tC (.int 1000))) tNil))) (tAsg (tOp rFDIV (tVar 7) (tC (.int 1000))) (gSub (tVar 2) (tVar 6) rSetL))) (tDrop (tBM K "list" rAppend (tVar 3) (tCons (tOp rMOD (tCB rINT (tCons (tVar 8) tNil)) (tC (.int 1000))) tNil))))))))) (tSeq (tDrop (tBM0 K "list" rReverse (tVar 3))) (tRet (tVar 3))))))))
theorem ok_law_draws {k : Nat} {spc : FS} (b_list : mg ("list" : PySem.Str) = none) (b_len : mg ("len" : PySem.Str) = none) (b_range : mg ("range" : PySem.Str) = none) (b_int : mg ("int" : PySem.Str) = none) (len : ∀ xs Φ, spc xs Φ → xs.length = 2)
    (rd : ∀ vs H Q E, toSp K spc vs H Q E → t_law_draws K { nx := fun _ H' => Q .non H', rt := Q } (L2.start N_law_draws vs) H) {f : Addr} {fd : FuncData} (F : FunD K "_law_draws" "_law_draws" (defArgs Hd.s_law_draws) (defBody Hd.s_law_draws) (defScope Hd.s_law_draws) [] [] f fd) : FnOk P w K mg base CX0 (k + 1) f fd [("_law_script" : PySem.Str), ("_law_count" : PySem.Str)] (toSp K spc) := by
  refine F.ok sc_law_draws (sp_len len) (fun cdv A outer s H vs Q E hr h => ⟨t_law_draws K, PSs.nox ?_, rd vs H Q E h⟩)
  have hu := hu65 hr
  have nd := sc_law_draws.nd
  exact (pss_cons (ps_set (i := 2) nd rfl (by first | exact Or.inl rfl | exact Or.inr rfl) (pe_callTy call_LIST (by rfl) b_list (by decide +kernel) (pa_cons (pv 0) pa_nil))) (pss_cons (ps_if (pt_cmpR (op_EQ hu) (pe_callB call_LEN (by rfl) b_len (by decide +kernel) (pa_cons (pv 2) pa_nil)) pe_int (nomark _)) (pss_one (ps_set (i := 2) nd rfl (by first | exact Or.inl rfl | exact Or.inr rfl) (pe_lst (pa_cons pe_int pa_nil)))) pss_nil) (pss_cons (ps_set (i := 3) nd rfl (by first | exact Or.inl rfl | exact Or.inr rfl) (pe_lst pa_nil)) (pss_cons (ps_set (i := 4) nd rfl (by first | exact Or.inl rfl | exact Or.inr rfl) pe_int) (pss_cons (ps_for PassesOwn.never rfl (pi_range1 rfl b_range (pa_cons (pv 1) pa_nil)) (pg_name (i := 5) nd rfl (by first | exact Or.inl rfl | exact Or.inr rfl)) (pss_cons (ps_set (i := 6) nd rfl (by first | exact Or.inl rfl | exact Or.inr rfl) (pe_op op_MOD (pv 5) (pe_callB call_LEN (by rfl) b_len (by decide +kernel) (pa_cons (pv 2) pa_nil)))) (pss_cons (ps_set (i := 7) nd rfl (by first | exact Or.inl rfl | exact Or.inr rfl) (pe_ix ix_IX (pv 2) (pv 6) (fun _ _ => rfl))) (pss_cons (ps_set (i := 4) nd rfl (by first | exact Or.inl rfl | exact Or.inr rfl) (pe_op op_MOD (pe_callTy call_INT (by rfl) b_int (by decide +kernel) (pa_cons (pe_op op_ADD (pe_op op_ADD (pe_op op_ADD (pe_op op_MUL (pv 4) pe_int) (pe_op op_MUL (pe_op op_MOD (pe_callTy call_INT (by rfl) b_int (by decide +kernel) (pa_cons (pv 7) pa_nil)) pe_int) pe_int)) (pe_op op_MUL (pv 5) pe_int)) pe_int) pa_nil)) pe_int)) (pss_cons (ps_set (i := 8) nd rfl (by first | exact Or.inl rfl | exact Or.inr rfl) (pe_op op_MOD (pe_callTy call_INT (by rfl) b_int (by decide +kernel) (pa_cons (pe_op op_ADD (pe_op op_ADD (pe_op op_MUL (pv 4) (pv 4)) (pe_op op_MUL pe_int (pv 4))) (pv 5)) pa_nil)) pe_int)) (pss_one (ps_if (pt_cmpR op_GE (pv 7) (pe_op op_POW pe_int pe_int) (nomark _)) (pss_cons (ps_expr (pe_bm PySem.F.plainAttrs_list PySem.F.slot_list_append PySem.F.type_list_append mt_append (pv 3) (pa_cons (pe_op op_MOD (pe_callTy call_INT (by rfl) b_int (by decide +kernel) (pa_cons (pv 7) pa_nil)) pe_int) pa_nil))) (pss_one (ps_asg (pe_op op_FDIV (pv 7) pe_int) (pg_sub (pv 2) (pv 6) set_list)))) (pss_one (ps_expr (pe_bm PySem.F.plainAttrs_list PySem.F.slot_list_append PySem.F.type_list_append mt_append (pv 3) (pa_cons (pe_op op_MOD (pe_callTy call_INT (by rfl) b_int (by decide +kernel) (pa_cons (pv 8) pa_nil)) pe_int) pa_nil))))))))))) (pss_cons (ps_expr (pe_bm0 PySem.F.plainAttrs_list PySem.F.slot_list_reverse PySem.F.type_list_reverse mt_reverse (pv 3))) (pss_one (ps_ret (pv 3)))))))))
/-! ### _law_take: 0 _law_draws_here 1 _law_limit -/
def N_law_take : List PySem.Str := [("_law_draws_here" : PySem.Str), ("_law_limit" : PySem.Str)]
theorem sc_law_take : FnScope N_law_take [("_law_draws_here" : PySem.Str), ("_law_limit" : PySem.Str)] (defScope Hd.s_law_take) := ⟨rfl, rfl, rfl, by decide +kernel, rfl, by decide +kernel, by decide +kernel⟩
def t_law_take (K : PySem.W.Frag) : TS := (tSeq (tIfS (tTest (tOp (rEQ K) (tCB (rLEN K) (tCons (tVar 0) tNil)) (tC (.int 0)))) (tRet (tC (.int 0))) tNext) (tRet (tOp rMOD (tCB rINT (tCons (tBM0 K "list" rPop (tVar 0)) tNil)) (tVar 1))))
theorem ok_law_take {k : Nat} {spc : FS} (b_len : mg ("len" : PySem.Str) = none) (b_int : mg ("int" : PySem.Str) = none) (len : ∀ xs Φ, spc xs Φ → xs.length = 2)
    (rd : ∀ vs H Q E, toSp K spc vs H Q E → t_law_take K { nx := fun _ H' => Q .non H', rt := Q } (L2.start N_law_take vs) H) {f : Addr} {fd : FuncData} (F : FunD K "_law_take" "_law_take" (defArgs Hd.s_law_take) (defBody Hd.s_law_take) (defScope Hd.s_law_take) [] [] f fd) : FnOk P w K mg base CX0 (k + 1) f fd [("_law_draws_here" : PySem.Str), ("_law_limit" : PySem.Str)] (toSp K spc) := by
  refine F.ok sc_law_take (sp_len len) (fun cdv A outer s H vs Q E hr h => ⟨t_law_take K, PSs.nox ?_, rd vs H Q E h⟩)
  have hu := hu65 hr
  have nd := sc_law_take.nd
  exact (pss_cons (ps_if (pt_cmpR (op_EQ hu) (pe_callB call_LEN (by rfl) b_len (by decide +kernel) (pa_cons (pv 0) pa_nil)) pe_int (nomark _)) (pss_one (ps_ret pe_int)) pss_nil) (pss_one (ps_ret (pe_op op_MOD (pe_callTy call_INT (by rfl) b_int (by decide +kernel) (pa_cons (pe_bm0 PySem.F.plainAttrs_list PySem.F.slot_list_pop PySem.F.type_list_pop mt_pop (pv 0)) pa_nil)) (pv 1)))))
/-! ### _law_expression: 0 _law_draws_here 1 _law_letters 2 _law_depth 3 _law_kind 4 _law_first 5 _law_second -/
def N_law_expression : List PySem.Str := [("_law_draws_here" : PySem.Str), ("_law_letters" : PySem.Str), ("_law_depth" : PySem.Str), ("_law_kind" : PySem.Str), ("_law_first" : PySem.Str), ("_law_second" : PySem.Str)]
theorem sc_law_expression : FnScope N_law_expression [("_law_draws_here" : PySem.Str), ("_law_letters" : PySem.Str), ("_law_depth" : PySem.Str)] (defScope Hd.s_law_expression) := ⟨rfl, rfl, rfl, by decide +kernel, rfl, by decide +kernel, by decide +kernel⟩
def t_law_expression (K : PySem.W.Frag) (S_law_take : Sp) (S_law_expression : Sp) : TS := (tSeq (tAsg (tCall S_law_take [] E0 (tCons (tVar 0) (tCons (tC (.int 8)) tNil))) (gName 3)) (tSeq (tIfS (tOr (tTest (tOp (rEQ K) (tVar 2) (tC (.int 0)))) (tTest (tOp (rLT K) (tVar 3) (tC (.int 2))))) (tRet (tOp (rIX K) (tLst (tCons (tTup (tCons (tC (.str ("letter" : PySem.Str))) (tCons (tCall S_law_take [] E0 (tCons (tVar 0) (tCons (tVar 1) tNil))) tNil))) (tCons (tTup (tCons (tC (.str ("letter" : PySem.Str))) (tCons (tCall S_law_take [] E0 (tCons (tVar 0) (tCons (tVar 1) tNil))) tNil))) (tCons (tTup (tCons (tC (.str ("empty" : PySem.Str))) tNil)) (tCons (tTup (tCons (tC (.str ("none" : PySem.Str))) tNil)) tNil))))) (tOp (rIX K) (tLst (tCons (tC (.int 0)) (tCons (tC (.int 0)) (tCons (tC (.int 1)) (tCons (tC (.int 1)) (tCons (tC (.int 0)) (tCons (tC (.int 1)) (tCons (tC (.int 2)) (tCons (tC (.int 3)) tNil))))))))) (tCall S_law_take [] E0 (tCons (tVar 0) (tCons (tC (.int 8)) tNil)))))) tNext) (tSeq (tIfS (tTest (tOp (rLT K) (tVar 3) (tC (.int 4)))) (tRet (tTup (tCons (tC (.str ("star" : PySem.Str))) (tCons (tCall S_law_expression [] E0 (tCons (tVar 0) (tCons (tVar 1) (tCons (tOp rSUB (tVar 2) (tC (.int 1))) tNil)))) tNil)))) tNext) (tSeq (tAsg (tCall S_law_expression [] E0 (tCons (tVar 0) (tCons (tVar 1) (tCons (tOp rSUB (tVar 2) (tC (.int 1))) tNil)))) (gName 4)) (tSeq (tAsg (tCall S_law_expression [] E0 (tCons (tVar 0) (tCons (tVar 1) (tCons (tOp rSUB (tVar 2) (tC (.int 1))) tNil)))) (gName 5)) (tRet (tTup (tCons (tOp (rIX K) (tLst (tCons (tC (.str ("either" : PySem.Str))) (tCons (tC (.str ("join" : PySem.Str))) tNil))) (tCB rINT (tCons (tOp rGT (tVar 3) (tC (.int 5))) tNil))) (tCons (tVar 4) (tCons (tVar 5) tNil))))))))))
theorem ok_law_expression {S_law_take : Sp} {S_law_expression : Sp} {j_law_take : Nat} {j_law_expression : Nat} {k : Nat} {spc : FS} (h_law_take : Has P w K mg base j_law_take ("_law_take" : PySem.Str) [("_law_draws_here" : PySem.Str), ("_law_limit" : PySem.Str)] S_law_take) (h_law_expression : Has P w K mg base j_law_expression ("_law_expression" : PySem.Str) [("_law_draws_here" : PySem.Str), ("_law_letters" : PySem.Str), ("_law_depth" : PySem.Str)] S_law_expression) (b_int : mg ("int" : PySem.Str) = none) (l_j_law_take : j_law_take ≤ k) (l_j_law_expression : j_law_expression ≤ k) (len : ∀ xs Φ, spc xs Φ → xs.length = 3)
    (rd : ∀ vs H Q E, toSp K spc vs H Q E → t_law_expression K S_law_take S_law_expression { nx := fun _ H' => Q .non H', rt := Q } (L2.start N_law_expression vs) H) {f : Addr} {fd : FuncData} (F : FunD K "_law_expression" "_law_expression" (defArgs Hd.s_law_expression) (defBody Hd.s_law_expression) (defScope Hd.s_law_expression) [] [] f fd) : FnOk P w K mg base CX0 (k + 1) f fd [("_law_draws_here" : PySem.Str), ("_law_letters" : PySem.Str), ("_law_depth" : PySem.Str)] (toSp K spc) := by
  refine F.ok sc_law_expression (sp_len len) (fun cdv A outer s H vs Q E hr h => ⟨t_law_expression K S_law_take S_law_expression, PSs.nox ?_, rd vs H Q E h⟩)
  have hu := hu65 hr
  have nd := sc_law_expression.nd
  exact (pss_cons (ps_set (i := 3) nd rfl (by first | exact Or.inl rfl | exact Or.inr rfl) (pe_callH h_law_take (hr.mono l_j_law_take) rfl (pa_cons (pv 0) (pa_cons pe_int pa_nil)))) (pss_cons (ps_if (PW.pt (pw_or (pt_cmpR (op_EQ hu) (pv 2) pe_int (nomark _)) (pw_or1 (pt_cmpR (op_LT hu) (pv 3) pe_int (nomark _))))) (pss_one (ps_ret (pe_ix ix_IX (pe_lst (pa_cons (pe_tup (pa_cons pe_str (pa_cons (pe_callH h_law_take (hr.mono l_j_law_take) rfl (pa_cons (pv 0) (pa_cons (pv 1) pa_nil))) pa_nil))) (pa_cons (pe_tup (pa_cons pe_str (pa_cons (pe_callH h_law_take (hr.mono l_j_law_take) rfl (pa_cons (pv 0) (pa_cons (pv 1) pa_nil))) pa_nil))) (pa_cons (pe_tup (pa_cons pe_str pa_nil)) (pa_cons (pe_tup (pa_cons pe_str pa_nil)) pa_nil))))) (pe_ix ix_IX (pe_lst (pa_cons pe_int (pa_cons pe_int (pa_cons pe_int (pa_cons pe_int (pa_cons pe_int (pa_cons pe_int (pa_cons pe_int (pa_cons pe_int pa_nil))))))))) (pe_callH h_law_take (hr.mono l_j_law_take) rfl (pa_cons (pv 0) (pa_cons pe_int pa_nil))) (fun _ _ => rfl)) (fun _ _ => rfl)))) pss_nil) (pss_cons (ps_if (pt_cmpR (op_LT hu) (pv 3) pe_int (nomark _)) (pss_one (ps_ret (pe_tup (pa_cons pe_str (pa_cons (pe_callH h_law_expression (hr.mono l_j_law_expression) rfl (pa_cons (pv 0) (pa_cons (pv 1) (pa_cons (pe_op op_SUB (pv 2) pe_int) pa_nil)))) pa_nil))))) pss_nil) (pss_cons (ps_set (i := 4) nd rfl (by first | exact Or.inl rfl | exact Or.inr rfl) (pe_callH h_law_expression (hr.mono l_j_law_expression) rfl (pa_cons (pv 0) (pa_cons (pv 1) (pa_cons (pe_op op_SUB (pv 2) pe_int) pa_nil))))) (pss_cons (ps_set (i := 5) nd rfl (by first | exact Or.inl rfl | exact Or.inr rfl) (pe_callH h_law_expression (hr.mono l_j_law_expression) rfl (pa_cons (pv 0) (pa_cons (pv 1) (pa_cons (pe_op op_SUB (pv 2) pe_int) pa_nil))))) (pss_one (ps_ret (pe_tup (pa_cons (pe_ix ix_IX (pe_lst (pa_cons pe_str (pa_cons pe_str pa_nil))) (pe_callTy call_INT (by rfl) b_int (by decide +kernel) (pa_cons (pe_cmpR op_GT (pv 3) pe_int (nomark _)) pa_nil)) (fun _ _ => rfl)) (pa_cons (pv 4) (pa_cons (pv 5) pa_nil)))))))))))
/-! ### _law_printed: 0 _law_expression_here 1 _law_rank 2 _law_kind 3 _law_text 4 _law_own -/
def N_law_printed : List PySem.Str := [("_law_expression_here" : PySem.Str), ("_law_rank" : PySem.Str), ("_law_kind" : PySem.Str), ("_law_text" : PySem.Str), ("_law_own" : PySem.Str)]
theorem sc_law_printed : FnScope N_law_printed [("_law_expression_here" : PySem.Str), ("_law_rank" : PySem.Str)] (defScope Hd.s_law_printed) := ⟨rfl, rfl, rfl, by decide +kernel, rfl, by decide +kernel, by decide +kernel⟩
def t_law_printed (K : PySem.W.Frag) (S_law_printed : Sp) : TS := (tSeq (tAsg (tOp (rIX K) (tVar 0) (tC (.int 0))) (gName 2)) (tSeq (tIfS (tTest (tOp (rEQ K) (tVar 2) (tC (.str ("letter" : PySem.Str))))) (tRet (tCB rSTR (tCons (tOp (rIX K) (tVar 0) (tC (.int 1))) tNil))) tNext) (tSeq (tIfS (tTest (tOp (rEQ K) (tVar 2) (tC (.str ("star" : PySem.Str))))) (tRet (tOp (rADD K) (tCall S_law_printed [] E0 (tCons (tOp (rIX K) (tVar 0) (tC (.int 1))) (tCons (tC (.int 3)) tNil))) (tC (.str ("*" : PySem.Str))))) tNext) (tSeq (tIfS (tTest (tOp (rEQ K) (tVar 2) (tC (.str ("either" : PySem.Str))))) (tSeq (tAsg (tOp (rADD K) (tOp (rADD K) (tCall S_law_printed [] E0 (tCons (tOp (rIX K) (tVar 0) (tC (.int 1))) (tCons (tC (.int 1)) tNil))) (tC (.str (" + " : PySem.Str)))) (tCall S_law_printed [] E0 (tCons (tOp (rIX K) (tVar 0) (tC (.int 2))) (tCons (tC (.int 2)) tNil)))) (gName 3)) (tAsg (tC (.int 1)) (gName 4))) (tIfS (tTest (tOp (rEQ K) (tVar 2) (tC (.str ("join" : PySem.Str))))) (tSeq (tAsg (tOp (rADD K) (tOp (rADD K) (tCall S_law_printed [] E0 (tCons (tOp (rIX K) (tVar 0) (tC (.int 1))) (tCons (tC (.int 2)) tNil))) (tC (.str (" . " : PySem.Str)))) (tCall S_law_printed [] E0 (tCons (tOp (rIX K) (tVar 0) (tC (.int 2))) (tCons (tC (.int 3)) tNil)))) (gName 3)) (tAsg (tC (.int 2)) (gName 4))) (tRet (tVar 2)))) (tSeq (tIfS (tTest (tOp (rLT K) (tVar 4) (tVar 1))) (tRet (tOp (rADD K) (tOp (rADD K) (tC (.str ("(" : PySem.Str))) (tVar 3)) (tC (.str (")" : PySem.Str))))) tNext) (tRet (tVar 3)))))))
theorem ok_law_printed {S_law_printed : Sp} {j_law_printed : Nat} {k : Nat} {spc : FS} (b_str : mg ("str" : PySem.Str) = none) (h_law_printed : Has P w K mg base j_law_printed ("_law_printed" : PySem.Str) [("_law_expression_here" : PySem.Str), ("_law_rank" : PySem.Str)] S_law_printed) (l_j_law_printed : j_law_printed ≤ k) (len : ∀ xs Φ, spc xs Φ → xs.length = 2)
    (rd : ∀ vs H Q E, toSp K spc vs H Q E → t_law_printed K S_law_printed { nx := fun _ H' => Q .non H', rt := Q } (L2.start N_law_printed vs) H) {f : Addr} {fd : FuncData} (F : FunD K "_law_printed" "_law_printed" (defArgs Hd.s_law_printed) (defBody Hd.s_law_printed) (defScope Hd.s_law_printed) [] [] f fd) : FnOk P w K mg base CX0 (k + 1) f fd [("_law_expression_here" : PySem.Str), ("_law_rank" : PySem.Str)] (toSp K spc) := by
  refine F.ok sc_law_printed (sp_len len) (fun cdv A outer s H vs Q E hr h => ⟨t_law_printed K S_law_printed, PSs.nox ?_, rd vs H Q E h⟩)
  have hu := hu65 hr
  have nd := sc_law_printed.nd
  exact (pss_cons (ps_set (i := 2) nd rfl (by first | exact Or.inl rfl | exact Or.inr rfl) (pe_ix ix_IX (pv 0) pe_int (fun _ _ => rfl))) (pss_cons (ps_if (pt_cmpR (op_EQ hu) (pv 2) pe_str (nomark _)) (pss_one (ps_ret (pe_callTy call_STR (by rfl) b_str (by decide +kernel) (pa_cons (pe_ix ix_IX (pv 0) pe_int (fun _ _ => rfl)) pa_nil)))) pss_nil) (pss_cons (ps_if (pt_cmpR (op_EQ hu) (pv 2) pe_str (nomark _)) (pss_one (ps_ret (pe_op op_ADD (pe_callH h_law_printed (hr.mono l_j_law_printed) rfl (pa_cons (pe_ix ix_IX (pv 0) pe_int (fun _ _ => rfl)) (pa_cons pe_int pa_nil))) pe_str))) pss_nil) (pss_cons (ps_if (pt_cmpR (op_EQ hu) (pv 2) pe_str (nomark _)) (pss_cons (ps_set (i := 3) nd rfl (by first | exact Or.inl rfl | exact Or.inr rfl) (pe_op op_ADD (pe_op op_ADD (pe_callH h_law_printed (hr.mono l_j_law_printed) rfl (pa_cons (pe_ix ix_IX (pv 0) pe_int (fun _ _ => rfl)) (pa_cons pe_int pa_nil))) pe_str) (pe_callH h_law_printed (hr.mono l_j_law_printed) rfl (pa_cons (pe_ix ix_IX (pv 0) pe_int (fun _ _ => rfl)) (pa_cons pe_int pa_nil))))) (pss_one (ps_set (i := 4) nd rfl (by first | exact Or.inl rfl | exact Or.inr rfl) pe_int))) (pss_one (ps_if (pt_cmpR (op_EQ hu) (pv 2) pe_str (nomark _)) (pss_cons (ps_set (i := 3) nd rfl (by first | exact Or.inl rfl | exact Or.inr rfl) (pe_op op_ADD (pe_op op_ADD (pe_callH h_law_printed (hr.mono l_j_law_printed) rfl (pa_cons (pe_ix ix_IX (pv 0) pe_int (fun _ _ => rfl)) (pa_cons pe_int pa_nil))) pe_str) (pe_callH h_law_printed (hr.mono l_j_law_printed) rfl (pa_cons (pe_ix ix_IX (pv 0) pe_int (fun _ _ => rfl)) (pa_cons pe_int pa_nil))))) (pss_one (ps_set (i := 4) nd rfl (by first | exact Or.inl rfl | exact Or.inr rfl) pe_int))) (pss_one (ps_ret (pv 2)))))) (pss_cons (ps_if (pt_cmpR (op_LT hu) (pv 4) (pv 1) (nomark _)) (pss_one (ps_ret (pe_op op_ADD (pe_op op_ADD pe_str (pv 3)) pe_str))) pss_nil) (pss_one (ps_ret (pv 3))))))))
/-! ### _law_spaced: 0 _law_draws_here 1 _law_text 2 _law_found 3 _law_k 4 _law_char -/
def N_law_spaced : List PySem.Str := [("_law_draws_here" : PySem.Str), ("_law_text" : PySem.Str), ("_law_found" : PySem.Str), ("_law_k" : PySem.Str), ("_law_char" : PySem.Str)]
theorem sc_law_spaced : FnScope N_law_spaced [("_law_draws_here" : PySem.Str), ("_law_text" : PySem.Str)] (defScope Hd.s_law_spaced) := ⟨rfl, rfl, rfl, by decide +kernel, rfl, by decide +kernel, by decide +kernel⟩
def t_law_spaced (K : PySem.W.Frag) (S_law_take : Sp) : TS := (tSeq (tAsg (tC (.str ("" : PySem.Str))) (gName 2)) (tSeq (tFor (iRng1 (tCons (tCB (rLEN K) (tCons (tVar 1) tNil)) tNil)) (gName 3) (tSeq (tAsg (tOp (rIX K) (tVar 1) (tVar 3)) (gName 4)) (tSeq (tIfS (tTest (tOp (rEQ K) (tVar 4) (tC (.str (" " : PySem.Str))))) (tAsg (tOp (rMUL K) (tC (.str (" " : PySem.Str))) (tCall S_law_take [] E0 (tCons (tVar 0) (tCons (tC (.int 3)) tNil)))) (gName 4)) tNext) (tSeq (tAsg (tOp (rADD K) (tVar 2) (tVar 4)) (gName 2)) (tIfS (tTest (tOp (rIN K) (tVar 4) (tTup (tCons (tC (.str ("(" : PySem.Str))) (tCons (tC (.str (")" : PySem.Str))) (tCons (tC (.str ("*" : PySem.Str))) (tCons (tC (.str ("+" : PySem.Str))) (tCons (tC (.str ("." : PySem.Str))) tNil)))))))) (tAsg (tOp (rADD K) (tVar 2) (tOp (rMUL K) (tC (.str (" " : PySem.Str))) (tOp rFDIV (tCall S_law_take [] E0 (tCons (tVar 0) (tCons (tC (.int 6)) tNil))) (tC (.int 4))))) (gName 2)) tNext))))) (tRet (tOp (rADD K) (tOp (rMUL K) (tC (.str (" " : PySem.Str))) (tCall S_law_take [] E0 (tCons (tVar 0) (tCons (tC (.int 2)) tNil)))) (tVar 2)))))
theorem ok_law_spaced {S_law_take : Sp} {j_law_take : Nat} {k : Nat} {spc : FS} (b_range : mg ("range" : PySem.Str) = none) (b_len : mg ("len" : PySem.Str) = none) (h_law_take : Has P w K mg base j_law_take ("_law_take" : PySem.Str) [("_law_draws_here" : PySem.Str), ("_law_limit" : PySem.Str)] S_law_take) (l_j_law_take : j_law_take ≤ k) (len : ∀ xs Φ, spc xs Φ → xs.length = 2)
    (rd : ∀ vs H Q E, toSp K spc vs H Q E → t_law_spaced K S_law_take { nx := fun _ H' => Q .non H', rt := Q } (L2.start N_law_spaced vs) H) {f : Addr} {fd : FuncData} (F : FunD K "_law_spaced" "_law_spaced" (defArgs Hd.s_law_spaced) (defBody Hd.s_law_spaced) (defScope Hd.s_law_spaced) [] [] f fd) : FnOk P w K mg base CX0 (k + 1) f fd [("_law_draws_here" : PySem.Str), ("_law_text" : PySem.Str)] (toSp K spc) := by
  refine F.ok sc_law_spaced (sp_len len) (fun cdv A outer s H vs Q E hr h => ⟨t_law_spaced K S_law_take, PSs.nox ?_, rd vs H Q E h⟩)
  have hu := hu65 hr
  have nd := sc_law_spaced.nd
  exact (pss_cons (ps_set (i := 2) nd rfl (by first | exact Or.inl rfl | exact Or.inr rfl) pe_str) (pss_cons (ps_for PassesOwn.never rfl (pi_range1 rfl b_range (pa_cons (pe_callB call_LEN (by rfl) b_len (by decide +kernel) (pa_cons (pv 1) pa_nil)) pa_nil)) (pg_name (i := 3) nd rfl (by first | exact Or.inl rfl | exact Or.inr rfl)) (pss_cons (ps_set (i := 4) nd rfl (by first | exact Or.inl rfl | exact Or.inr rfl) (pe_ix ix_IX (pv 1) (pv 3) (fun _ _ => rfl))) (pss_cons (ps_if (pt_cmpR (op_EQ hu) (pv 4) pe_str (nomark _)) (pss_one (ps_set (i := 4) nd rfl (by first | exact Or.inl rfl | exact Or.inr rfl) (pe_op op_MUL pe_str (pe_callH h_law_take (hr.mono l_j_law_take) rfl (pa_cons (pv 0) (pa_cons pe_int pa_nil)))))) pss_nil) (pss_cons (ps_set (i := 2) nd rfl (by first | exact Or.inl rfl | exact Or.inr rfl) (pe_op op_ADD (pv 2) (pv 4))) (pss_one (ps_if (pt_cmpR (op_IN hu) (pv 4) (pe_tup (pa_cons pe_str (pa_cons pe_str (pa_cons pe_str (pa_cons pe_str (pa_cons pe_str pa_nil)))))) (by rfl)) (pss_one (ps_set (i := 2) nd rfl (by first | exact Or.inl rfl | exact Or.inr rfl) (pe_op op_ADD (pv 2) (pe_op op_MUL pe_str (pe_op op_FDIV (pe_callH h_law_take (hr.mono l_j_law_take) rfl (pa_cons (pv 0) (pa_cons pe_int pa_nil))) pe_int))))) pss_nil)))))) (pss_one (ps_ret (pe_op op_ADD (pe_op op_MUL pe_str (pe_callH h_law_take (hr.mono l_j_law_take) rfl (pa_cons (pv 0) (pa_cons pe_int pa_nil)))) (pv 2))))))
/-! ### law: 0 _law_script 1 _law_draws_here 2 _law_expression_here 3 _law_text -/
def N_law : List PySem.Str := [("_law_script" : PySem.Str), ("_law_draws_here" : PySem.Str), ("_law_expression_here" : PySem.Str), ("_law_text" : PySem.Str)]
theorem sc_law : FnScope N_law [("_law_script" : PySem.Str)] (defScope Hd.s_law) := ⟨rfl, rfl, rfl, by decide +kernel, rfl, by decide +kernel, by decide +kernel⟩
def t_law (K : PySem.W.Frag) (S_law_draws : Sp) (S_law_expression : Sp) (S_format_expression : Sp) (S_law_printed : Sp) (S_parse_expression : Sp) (S_law_spaced : Sp) : TS := (tSeq (tAsg (tCall S_law_draws [] E0 (tCons (tVar 0) (tCons (tC (.int 300)) tNil))) (gName 1)) (tSeq (tAsg (tCall S_law_expression [] E0 (tCons (tVar 1) (tCons (tC (.int 6)) (tCons (tC (.int 4)) tNil)))) (gName 2)) (tSeq (tAsg (tCall S_format_expression [] E0 (tCons (tVar 2) tNil)) (gName 3)) (tSeq (tIfS (tOr (tNot (tTRU K (tCB (rISINSTANCE K) (tCons (tVar 3) (tCons (tC (.ty "str")) tNil))))) (tTest (tOp (rNE K) (tVar 3) (tCall S_law_printed [] E0 (tCons (tVar 2) (tCons (tC (.int 1)) tNil)))))) (tRet (tC (.bl false))) tNext) (tSeq (tIfS (tTest (tOp (rNE K) (tCall S_parse_expression [] E0 (tCons (tVar 3) tNil)) (tVar 2))) (tRet (tC (.bl false))) tNext) (tRet (tOp (rEQ K) (tCall S_parse_expression [] E0 (tCons (tCall S_law_spaced [] E0 (tCons (tVar 1) (tCons (tVar 3) tNil))) tNil)) (tVar 2))))))))
theorem ok_law {S_law_draws : Sp} {S_law_expression : Sp} {S_format_expression : Sp} {S_law_printed : Sp} {S_parse_expression : Sp} {S_law_spaced : Sp} {j_law_draws : Nat} {j_law_expression : Nat} {j_format_expression : Nat} {j_law_printed : Nat} {j_parse_expression : Nat} {j_law_spaced : Nat} {k : Nat} {spc : FS} (h_law_draws : Has P w K mg base j_law_draws ("_law_draws" : PySem.Str) [("_law_script" : PySem.Str), ("_law_count" : PySem.Str)] S_law_draws) (h_law_expression : Has P w K mg base j_law_expression ("_law_expression" : PySem.Str) [("_law_draws_here" : PySem.Str), ("_law_letters" : PySem.Str), ("_law_depth" : PySem.Str)] S_law_expression) (h_format_expression : Has P w K mg base j_format_expression ("format_expression" : PySem.Str) [("expression" : PySem.Str)] S_format_expression) (b_isinstance : mg ("isinstance" : PySem.Str) = none) (b_str : mg ("str" : PySem.Str) = none) (h_law_printed : Has P w K mg base j_law_printed ("_law_printed" : PySem.Str) [("_law_expression_here" : PySem.Str), ("_law_rank" : PySem.Str)] S_law_printed) (h_parse_expression : Has P w K mg base j_parse_expression ("parse_expression" : PySem.Str) [("text" : PySem.Str)] S_parse_expression) (h_law_spaced : Has P w K mg base j_law_spaced ("_law_spaced" : PySem.Str) [("_law_draws_here" : PySem.Str), ("_law_text" : PySem.Str)] S_law_spaced) (l_j_law_draws : j_law_draws ≤ k) (l_j_law_expression : j_law_expression ≤ k) (l_j_format_expression : j_format_expression ≤ k) (l_j_law_printed : j_law_printed ≤ k) (l_j_parse_expression : j_parse_expression ≤ k) (l_j_law_spaced : j_law_spaced ≤ k) (len : ∀ xs Φ, spc xs Φ → xs.length = 1)
    (rd : ∀ vs H Q E, toSp K spc vs H Q E → t_law K S_law_draws S_law_expression S_format_expression S_law_printed S_parse_expression S_law_spaced { nx := fun _ H' => Q .non H', rt := Q } (L2.start N_law vs) H) {f : Addr} {fd : FuncData} (F : FunD K "law" "law" (defArgs Hd.s_law) (defBody Hd.s_law) (defScope Hd.s_law) [] [] f fd) : FnOk P w K mg base CX0 (k + 1) f fd [("_law_script" : PySem.Str)] (toSp K spc) := by
  refine F.ok sc_law (sp_len len) (fun cdv A outer s H vs Q E hr h => ⟨t_law K S_law_draws S_law_expression S_format_expression S_law_printed S_parse_expression S_law_spaced, PSs.nox ?_, rd vs H Q E h⟩)
  have hu := hu65 hr
  have nd := sc_law.nd
  exact (pss_cons (ps_set (i := 1) nd rfl (by first | exact Or.inl rfl | exact Or.inr rfl) (pe_callH h_law_draws (hr.mono l_j_law_draws) rfl (pa_cons (pv 0) (pa_cons pe_int pa_nil)))) (pss_cons (ps_set (i := 2) nd rfl (by first | exact Or.inl rfl | exact Or.inr rfl) (pe_callH h_law_expression (hr.mono l_j_law_expression) rfl (pa_cons (pv 1) (pa_cons pe_int (pa_cons pe_int pa_nil))))) (pss_cons (ps_set (i := 3) nd rfl (by first | exact Or.inl rfl | exact Or.inr rfl) (pe_callH h_format_expression (hr.mono l_j_format_expression) rfl (pa_cons (pv 2) pa_nil))) (pss_cons (ps_if (PW.pt (pw_or (pt_not (pt_truth (pe_callB call_ISINSTANCE (by rfl) b_isinstance (by decide +kernel) (pa_cons (pv 3) (pa_cons (pe_bltn (v := .ty "str") (by rfl) b_str (by decide +kernel) rfl) pa_nil))) (by intro _; rfl))) (pw_or1 (pt_cmpR (op_NE hu) (pv 3) (pe_callH h_law_printed (hr.mono l_j_law_printed) rfl (pa_cons (pv 2) (pa_cons pe_int pa_nil))) (nomark _))))) (pss_one (ps_ret pe_bl)) pss_nil) (pss_cons (ps_if (pt_cmpR (op_NE hu) (pe_callH h_parse_expression (hr.mono l_j_parse_expression) rfl (pa_cons (pv 3) pa_nil)) (pv 2) (nomark _)) (pss_one (ps_ret pe_bl)) pss_nil) (pss_one (ps_ret (pe_cmpR (op_EQ hu) (pe_callH h_parse_expression (hr.mono l_j_parse_expression) rfl (pa_cons (pe_callH h_law_spaced (hr.mono l_j_law_spaced) rfl (pa_cons (pv 1) (pa_cons (pv 3) pa_nil))) pa_nil)) (pv 2) (nomark _)))))))))
end
end Gn
namespace As
open PySem PySem.Spec PyProof.Rows L2 Pw Gn
section
variable {P : Program} {w : World} {K : PySem.W.Frag} {mg : PySem.Str → Option Value} {base h : Heap} {k : Nat} {spc : FS}
theorem no_sp {vs : List V} {H : Hp} {Q : VK} {E : XK} (nv : ∀ xs Φ, ¬ spc xs Φ) : ¬ toSp K spc vs H Q E := fun ⟨G, xs, S, Φ, _, _, _, q, _⟩ => nv xs Φ q
theorem b_len (X : K.In h) (G : h.Ns mainGlobals mg) (c : He.SaysD Hd.fa Hd.fn K) : mg ("len" : PySem.Str) = none := He.free_ok X G (c.fact 0 rfl)
theorem b_range (X : K.In h) (G : h.Ns mainGlobals mg) (c : He.SaysD Hd.fa Hd.fn K) : mg ("range" : PySem.Str) = none := He.free_ok X G (c.fact 1 rfl)
theorem b_int (X : K.In h) (G : h.Ns mainGlobals mg) (c : He.SaysD Hd.fa Hd.fn K) : mg ("int" : PySem.Str) = none := He.free_ok X G (c.fact 2 rfl)
theorem b_str (X : K.In h) (G : h.Ns mainGlobals mg) (c : He.SaysD Hd.fa Hd.fn K) : mg ("str" : PySem.Str) = none := He.free_ok X G (c.fact 3 rfl)
theorem b_list (X : K.In h) (G : h.Ns mainGlobals mg) (c : He.SaysD Hd.fa Hd.fn K) : mg ("list" : PySem.Str) = none := He.free_ok X G (c.fact 4 rfl)
theorem b_isinstance (X : K.In h) (G : h.Ns mainGlobals mg) (c : He.SaysD Hd.fa Hd.fn K) : mg ("isinstance" : PySem.Str) = none := He.free_ok X G (c.fact 5 rfl)
theorem b_ValueError (X : K.In h) (G : h.Ns mainGlobals mg) (c : He.SaysD Hd.fa Hd.fn K) : mg ("ValueError" : PySem.Str) = none := He.free_ok X G (c.fact 6 rfl)
theorem g_within (X : K.In h) (G : h.Ns mainGlobals mg) (c : He.SaysD Hd.fa Hd.fn K) : mg ("within" : PySem.Str) = some (.ref (He.ga K ("within" : PySem.Str))) := He.glo_ok X G (c.fact 7 rfl)
theorem g_format_expression (X : K.In h) (G : h.Ns mainGlobals mg) (c : He.SaysD Hd.fa Hd.fn K) : mg ("format_expression" : PySem.Str) = some (.ref (He.ga K ("format_expression" : PySem.Str))) := He.glo_ok X G (c.fact 8 rfl)
theorem g_parse_expression (X : K.In h) (G : h.Ns mainGlobals mg) (c : He.SaysD Hd.fa Hd.fn K) : mg ("parse_expression" : PySem.Str) = some (.ref (He.ga K ("parse_expression" : PySem.Str))) := He.glo_ok X G (c.fact 9 rfl)
theorem g_law_draws (X : K.In h) (G : h.Ns mainGlobals mg) (c : He.SaysD Hd.fa Hd.fn K) : mg ("_law_draws" : PySem.Str) = some (.ref (He.ga K ("_law_draws" : PySem.Str))) := He.glo_ok X G (c.fact 10 rfl)
theorem g_law_take (X : K.In h) (G : h.Ns mainGlobals mg) (c : He.SaysD Hd.fa Hd.fn K) : mg ("_law_take" : PySem.Str) = some (.ref (He.ga K ("_law_take" : PySem.Str))) := He.glo_ok X G (c.fact 11 rfl)
theorem g_law_expression (X : K.In h) (G : h.Ns mainGlobals mg) (c : He.SaysD Hd.fa Hd.fn K) : mg ("_law_expression" : PySem.Str) = some (.ref (He.ga K ("_law_expression" : PySem.Str))) := He.glo_ok X G (c.fact 12 rfl)
theorem g_law_printed (X : K.In h) (G : h.Ns mainGlobals mg) (c : He.SaysD Hd.fa Hd.fn K) : mg ("_law_printed" : PySem.Str) = some (.ref (He.ga K ("_law_printed" : PySem.Str))) := He.glo_ok X G (c.fact 13 rfl)
theorem g_law_spaced (X : K.In h) (G : h.Ns mainGlobals mg) (c : He.SaysD Hd.fa Hd.fn K) : mg ("_law_spaced" : PySem.Str) = some (.ref (He.ga K ("_law_spaced" : PySem.Str))) := He.glo_ok X G (c.fact 14 rfl)
theorem g_law (X : K.In h) (G : h.Ns mainGlobals mg) (c : He.SaysD Hd.fa Hd.fn K) : mg ("law" : PySem.Str) = some (.ref (He.ga K ("law" : PySem.Str))) := He.glo_ok X G (c.fact 15 rfl)
theorem c_DIGITS (X : K.In h) (G : h.Ns mainGlobals mg) (c : He.SaysD Hd.fa Hd.fn K) : ∃ t, mg ("DIGITS" : PySem.Str) = some (.str ("0123456789" : PySem.Str) t) := He.str_ok X G (c.fact 16 rfl)
theorem g_RANKS (X : K.In h) (G : h.Ns mainGlobals mg) (c : He.SaysD Hd.fa Hd.fn K) : mg ("RANKS" : PySem.Str) = some (.ref (He.ga K ("RANKS" : PySem.Str))) := He.glo_ok X G (c.fact 17 rfl)
theorem g_PlaceError (X : K.In h) (G : h.Ns mainGlobals mg) (c : He.SaysD Hd.fa Hd.fn K) : mg ("PlaceError" : PySem.Str) = some (.ref (He.ga K ("PlaceError" : PySem.Str))) := He.glo_ok X G (c.fact 18 rfl)
theorem g_ExpressionSyntaxError (X : K.In h) (G : h.Ns mainGlobals mg) (c : He.SaysD Hd.fa Hd.fn K) : mg ("ExpressionSyntaxError" : PySem.Str) = some (.ref (He.ga K ("ExpressionSyntaxError" : PySem.Str))) := He.glo_ok X G (c.fact 19 rfl)
theorem g_Parser (X : K.In h) (G : h.Ns mainGlobals mg) (c : He.SaysD Hd.fa Hd.fn K) : mg ("Parser" : PySem.Str) = some (.ref (He.ga K ("Parser" : PySem.Str))) := He.glo_ok X G (c.fact 20 rfl)
theorem k_Parser (c : He.SaysD Hd.fa Hd.fn K) : Cls K (He.ga K ("Parser" : PySem.Str)) := He.cls_ok (c.fact 21 rfl)
theorem a_Parser_at (c : He.SaysD Hd.fa Hd.fn K) : NoAttr K (He.ga K ("Parser" : PySem.Str)) ("at" : PySem.Str) := He.noat_ok (c.fact 22 rfl)
theorem a_Parser_text (c : He.SaysD Hd.fa Hd.fn K) : NoAttr K (He.ga K ("Parser" : PySem.Str)) ("text" : PySem.Str) := He.noat_ok (c.fact 23 rfl)
theorem no_ExpressionSyntaxError___init__ (nv : ∀ xs Φ, ¬ spc xs Φ) {f : Addr} {fd : FuncData} (F : FunD K "__init__" "ExpressionSyntaxError.__init__" (defArgs Hd.s_ExpressionSyntaxError___init__) (defBody Hd.s_ExpressionSyntaxError___init__) (defScope Hd.s_ExpressionSyntaxError___init__) [] [] f fd) : FnOk P w K mg base CX0 (k + 1) f fd [("self" : PySem.Str), ("position" : PySem.Str)] (toSp K spc) :=
  F.ok sc_ExpressionSyntaxError___init__ (fun vs H Q E h => absurd h (no_sp nv)) (fun cdv A outer s H vs Q E hr h => absurd h (no_sp nv))
theorem fd_ExpressionSyntaxError___init__ (c : He.SaysD Hd.fa Hd.fn K) : ∃ fd, FunD K "__init__" "ExpressionSyntaxError.__init__" (defArgs Hd.s_ExpressionSyntaxError___init__) (defBody Hd.s_ExpressionSyntaxError___init__) (defScope Hd.s_ExpressionSyntaxError___init__) [] [] (He.fAd K Hd.d_ExpressionSyntaxError___init__.at_) fd := c.def_ 0 (d := Hd.d_ExpressionSyntaxError___init__) rfl
abbrev H_ExpressionSyntaxError___init__ (P : Program) (w : World) (K : PySem.W.Frag) (mg : PySem.Str → Option Value) (base : Heap) (k : Nat) (spc : FS) : Prop := HasI P w K mg base k ("ExpressionSyntaxError" : PySem.Str) (He.ga K ("ExpressionSyntaxError" : PySem.Str)) [("self" : PySem.Str), ("position" : PySem.Str)] (toSp K spc)
theorem no_within (nv : ∀ xs Φ, ¬ spc xs Φ) {f : Addr} {fd : FuncData} (F : FunD K "within" "within" (defArgs Hd.s_within) (defBody Hd.s_within) (defScope Hd.s_within) [] [] f fd) : FnOk P w K mg base CX0 (k + 1) f fd [("expression" : PySem.Str), ("rank" : PySem.Str)] (toSp K spc) :=
  F.ok sc_within (fun vs H Q E h => absurd h (no_sp nv)) (fun cdv A outer s H vs Q E hr h => absurd h (no_sp nv))
theorem fd_within (c : He.SaysD Hd.fa Hd.fn K) : ∃ fd, FunD K "within" "within" (defArgs Hd.s_within) (defBody Hd.s_within) (defScope Hd.s_within) [] [] (He.fAd K Hd.d_within.at_) fd := c.def_ 1 (d := Hd.d_within) rfl
abbrev H_within (P : Program) (w : World) (K : PySem.W.Frag) (mg : PySem.Str → Option Value) (base : Heap) (k : Nat) (spc : FS) : Prop := Has P w K mg base k ("within" : PySem.Str) [("expression" : PySem.Str), ("rank" : PySem.Str)] (toSp K spc)
theorem has_within (X : K.In h) (G : h.Ns mainGlobals mg) (c : He.SaysD Hd.fa Hd.fn K) (ok : ∀ {f : Addr} {fd : FuncData}, FunD K "within" "within" (defArgs Hd.s_within) (defBody Hd.s_within) (defScope Hd.s_within) [] [] f fd → FnOk P w K mg base CX0 k f fd [("expression" : PySem.Str), ("rank" : PySem.Str)] (toSp K spc)) : Has P w K mg base k ("within" : PySem.Str) [("expression" : PySem.Str), ("rank" : PySem.Str)] (toSp K spc) := by
  obtain ⟨fd, F⟩ := fd_within c
  exact ⟨_, fd, He.glo_ok X G (c.fact 7 rfl), F.kp, F.bindsN fun _ _ _ _ _ _ us hl => match us, hl with | [_, _], _ => rfl, ok F⟩
theorem no_format_expression (nv : ∀ xs Φ, ¬ spc xs Φ) {f : Addr} {fd : FuncData} (F : FunD K "format_expression" "format_expression" (defArgs Hd.s_format_expression) (defBody Hd.s_format_expression) (defScope Hd.s_format_expression) [] [] f fd) : FnOk P w K mg base CX0 (k + 1) f fd [("expression" : PySem.Str)] (toSp K spc) :=
  F.ok sc_format_expression (fun vs H Q E h => absurd h (no_sp nv)) (fun cdv A outer s H vs Q E hr h => absurd h (no_sp nv))
theorem fd_format_expression (c : He.SaysD Hd.fa Hd.fn K) : ∃ fd, FunD K "format_expression" "format_expression" (defArgs Hd.s_format_expression) (defBody Hd.s_format_expression) (defScope Hd.s_format_expression) [] [] (He.fAd K Hd.d_format_expression.at_) fd := c.def_ 2 (d := Hd.d_format_expression) rfl
abbrev H_format_expression (P : Program) (w : World) (K : PySem.W.Frag) (mg : PySem.Str → Option Value) (base : Heap) (k : Nat) (spc : FS) : Prop := Has P w K mg base k ("format_expression" : PySem.Str) [("expression" : PySem.Str)] (toSp K spc)
theorem has_format_expression (X : K.In h) (G : h.Ns mainGlobals mg) (c : He.SaysD Hd.fa Hd.fn K) (ok : ∀ {f : Addr} {fd : FuncData}, FunD K "format_expression" "format_expression" (defArgs Hd.s_format_expression) (defBody Hd.s_format_expression) (defScope Hd.s_format_expression) [] [] f fd → FnOk P w K mg base CX0 k f fd [("expression" : PySem.Str)] (toSp K spc)) : Has P w K mg base k ("format_expression" : PySem.Str) [("expression" : PySem.Str)] (toSp K spc) := by
  obtain ⟨fd, F⟩ := fd_format_expression c
  exact ⟨_, fd, He.glo_ok X G (c.fact 8 rfl), F.kp, F.bindsN fun _ _ _ _ _ _ us hl => match us, hl with | [_], _ => rfl, ok F⟩
theorem no_Parser___init__ (nv : ∀ xs Φ, ¬ spc xs Φ) {f : Addr} {fd : FuncData} (F : FunD K "__init__" "Parser.__init__" (defArgs Hd.s_Parser___init__) (defBody Hd.s_Parser___init__) (defScope Hd.s_Parser___init__) [] [] f fd) : FnOk P w K mg base CX0 (k + 1) f fd [("self" : PySem.Str), ("text" : PySem.Str)] (toSp K spc) :=
  F.ok sc_Parser___init__ (fun vs H Q E h => absurd h (no_sp nv)) (fun cdv A outer s H vs Q E hr h => absurd h (no_sp nv))
theorem fd_Parser___init__ (c : He.SaysD Hd.fa Hd.fn K) : ∃ fd, FunD K "__init__" "Parser.__init__" (defArgs Hd.s_Parser___init__) (defBody Hd.s_Parser___init__) (defScope Hd.s_Parser___init__) [] [] (He.fAd K Hd.d_Parser___init__.at_) fd := c.def_ 3 (d := Hd.d_Parser___init__) rfl
abbrev H_Parser___init__ (P : Program) (w : World) (K : PySem.W.Frag) (mg : PySem.Str → Option Value) (base : Heap) (k : Nat) (spc : FS) : Prop := HasI P w K mg base k ("Parser" : PySem.Str) (He.ga K ("Parser" : PySem.Str)) [("self" : PySem.Str), ("text" : PySem.Str)] (toSp K spc)
theorem has_Parser___init__ (X : K.In h) (G : h.Ns mainGlobals mg) (c : He.SaysD Hd.fa Hd.fn K) (ok : ∀ {f : Addr} {fd : FuncData}, FunD K "__init__" "Parser.__init__" (defArgs Hd.s_Parser___init__) (defBody Hd.s_Parser___init__) (defScope Hd.s_Parser___init__) [] [] f fd → FnOk P w K mg base CX0 k f fd [("self" : PySem.Str), ("text" : PySem.Str)] (toSp K spc)) : HasI P w K mg base k ("Parser" : PySem.Str) (He.ga K ("Parser" : PySem.Str)) [("self" : PySem.Str), ("text" : PySem.Str)] (toSp K spc) := by
  obtain ⟨fd, F⟩ := fd_Parser___init__ c
  exact ⟨_, fd, He.glo_ok X G (c.fact 20 rfl), He.mkr_ok (c.fact 24 rfl), F.bindsN fun _ _ _ _ _ _ us hl => match us, hl with | [_, _], _ => rfl, ok F⟩
theorem no_Parser_skip (nv : ∀ xs Φ, ¬ spc xs Φ) {f : Addr} {fd : FuncData} (F : FunD K "skip" "Parser.skip" (defArgs Hd.s_Parser_skip) (defBody Hd.s_Parser_skip) (defScope Hd.s_Parser_skip) [] [] f fd) : FnOk P w K mg base CX0 (k + 1) f fd [("self" : PySem.Str)] (toSp K spc) :=
  F.ok sc_Parser_skip (fun vs H Q E h => absurd h (no_sp nv)) (fun cdv A outer s H vs Q E hr h => absurd h (no_sp nv))
theorem fd_Parser_skip (c : He.SaysD Hd.fa Hd.fn K) : ∃ fd, FunD K "skip" "Parser.skip" (defArgs Hd.s_Parser_skip) (defBody Hd.s_Parser_skip) (defScope Hd.s_Parser_skip) [] [] (He.fAd K Hd.d_Parser_skip.at_) fd := c.def_ 4 (d := Hd.d_Parser_skip) rfl
abbrev H_Parser_skip (P : Program) (w : World) (K : PySem.W.Frag) (mg : PySem.Str → Option Value) (base : Heap) (k : Nat) (spc : FS) : Prop := HasM P w K mg base k (He.ga K ("Parser" : PySem.Str)) ("skip" : PySem.Str) [("self" : PySem.Str)] (toSp K spc)
theorem has_Parser_skip (X : K.In h) (G : h.Ns mainGlobals mg) (c : He.SaysD Hd.fa Hd.fn K) (ok : ∀ {f : Addr} {fd : FuncData}, FunD K "skip" "Parser.skip" (defArgs Hd.s_Parser_skip) (defBody Hd.s_Parser_skip) (defScope Hd.s_Parser_skip) [] [] f fd → FnOk P w K mg base CX0 k f fd [("self" : PySem.Str)] (toSp K spc)) : HasM P w K mg base k (He.ga K ("Parser" : PySem.Str)) ("skip" : PySem.Str) [("self" : PySem.Str)] (toSp K spc) := by
  obtain ⟨fd, F⟩ := fd_Parser_skip c
  exact ⟨_, fd, He.cls_ok (c.fact 21 rfl), He.meth_ok (c.fact 25 rfl), F.bindsN fun _ _ _ _ _ _ us hl => match us, hl with | [_], _ => rfl, ok F⟩
theorem no_Parser_take (nv : ∀ xs Φ, ¬ spc xs Φ) {f : Addr} {fd : FuncData} (F : FunD K "take" "Parser.take" (defArgs Hd.s_Parser_take) (defBody Hd.s_Parser_take) (defScope Hd.s_Parser_take) [] [] f fd) : FnOk P w K mg base CX0 (k + 1) f fd [("self" : PySem.Str), ("token" : PySem.Str)] (toSp K spc) :=
  F.ok sc_Parser_take (fun vs H Q E h => absurd h (no_sp nv)) (fun cdv A outer s H vs Q E hr h => absurd h (no_sp nv))
theorem fd_Parser_take (c : He.SaysD Hd.fa Hd.fn K) : ∃ fd, FunD K "take" "Parser.take" (defArgs Hd.s_Parser_take) (defBody Hd.s_Parser_take) (defScope Hd.s_Parser_take) [] [] (He.fAd K Hd.d_Parser_take.at_) fd := c.def_ 5 (d := Hd.d_Parser_take) rfl
abbrev H_Parser_take (P : Program) (w : World) (K : PySem.W.Frag) (mg : PySem.Str → Option Value) (base : Heap) (k : Nat) (spc : FS) : Prop := HasM P w K mg base k (He.ga K ("Parser" : PySem.Str)) ("take" : PySem.Str) [("self" : PySem.Str), ("token" : PySem.Str)] (toSp K spc)
theorem has_Parser_take (X : K.In h) (G : h.Ns mainGlobals mg) (c : He.SaysD Hd.fa Hd.fn K) (ok : ∀ {f : Addr} {fd : FuncData}, FunD K "take" "Parser.take" (defArgs Hd.s_Parser_take) (defBody Hd.s_Parser_take) (defScope Hd.s_Parser_take) [] [] f fd → FnOk P w K mg base CX0 k f fd [("self" : PySem.Str), ("token" : PySem.Str)] (toSp K spc)) : HasM P w K mg base k (He.ga K ("Parser" : PySem.Str)) ("take" : PySem.Str) [("self" : PySem.Str), ("token" : PySem.Str)] (toSp K spc) := by
  obtain ⟨fd, F⟩ := fd_Parser_take c
  exact ⟨_, fd, He.cls_ok (c.fact 21 rfl), He.meth_ok (c.fact 26 rfl), F.bindsN fun _ _ _ _ _ _ us hl => match us, hl with | [_, _], _ => rfl, ok F⟩
theorem no_Parser_fail (nv : ∀ xs Φ, ¬ spc xs Φ) {f : Addr} {fd : FuncData} (F : FunD K "fail" "Parser.fail" (defArgs Hd.s_Parser_fail) (defBody Hd.s_Parser_fail) (defScope Hd.s_Parser_fail) [] [] f fd) : FnOk P w K mg base CX0 (k + 1) f fd [("self" : PySem.Str)] (toSp K spc) :=
  F.ok sc_Parser_fail (fun vs H Q E h => absurd h (no_sp nv)) (fun cdv A outer s H vs Q E hr h => absurd h (no_sp nv))
theorem fd_Parser_fail (c : He.SaysD Hd.fa Hd.fn K) : ∃ fd, FunD K "fail" "Parser.fail" (defArgs Hd.s_Parser_fail) (defBody Hd.s_Parser_fail) (defScope Hd.s_Parser_fail) [] [] (He.fAd K Hd.d_Parser_fail.at_) fd := c.def_ 6 (d := Hd.d_Parser_fail) rfl
abbrev H_Parser_fail (P : Program) (w : World) (K : PySem.W.Frag) (mg : PySem.Str → Option Value) (base : Heap) (k : Nat) (spc : FS) : Prop := HasM P w K mg base k (He.ga K ("Parser" : PySem.Str)) ("fail" : PySem.Str) [("self" : PySem.Str)] (toSp K spc)
theorem has_Parser_fail (X : K.In h) (G : h.Ns mainGlobals mg) (c : He.SaysD Hd.fa Hd.fn K) (ok : ∀ {f : Addr} {fd : FuncData}, FunD K "fail" "Parser.fail" (defArgs Hd.s_Parser_fail) (defBody Hd.s_Parser_fail) (defScope Hd.s_Parser_fail) [] [] f fd → FnOk P w K mg base CX0 k f fd [("self" : PySem.Str)] (toSp K spc)) : HasM P w K mg base k (He.ga K ("Parser" : PySem.Str)) ("fail" : PySem.Str) [("self" : PySem.Str)] (toSp K spc) := by
  obtain ⟨fd, F⟩ := fd_Parser_fail c
  exact ⟨_, fd, He.cls_ok (c.fact 21 rfl), He.meth_ok (c.fact 27 rfl), F.bindsN fun _ _ _ _ _ _ us hl => match us, hl with | [_], _ => rfl, ok F⟩
theorem no_Parser_read_sum (nv : ∀ xs Φ, ¬ spc xs Φ) {f : Addr} {fd : FuncData} (F : FunD K "read_sum" "Parser.read_sum" (defArgs Hd.s_Parser_read_sum) (defBody Hd.s_Parser_read_sum) (defScope Hd.s_Parser_read_sum) [] [] f fd) : FnOk P w K mg base CX0 (k + 1) f fd [("self" : PySem.Str)] (toSp K spc) :=
  F.ok sc_Parser_read_sum (fun vs H Q E h => absurd h (no_sp nv)) (fun cdv A outer s H vs Q E hr h => absurd h (no_sp nv))
theorem fd_Parser_read_sum (c : He.SaysD Hd.fa Hd.fn K) : ∃ fd, FunD K "read_sum" "Parser.read_sum" (defArgs Hd.s_Parser_read_sum) (defBody Hd.s_Parser_read_sum) (defScope Hd.s_Parser_read_sum) [] [] (He.fAd K Hd.d_Parser_read_sum.at_) fd := c.def_ 7 (d := Hd.d_Parser_read_sum) rfl
abbrev H_Parser_read_sum (P : Program) (w : World) (K : PySem.W.Frag) (mg : PySem.Str → Option Value) (base : Heap) (k : Nat) (spc : FS) : Prop := HasM P w K mg base k (He.ga K ("Parser" : PySem.Str)) ("read_sum" : PySem.Str) [("self" : PySem.Str)] (toSp K spc)
theorem has_Parser_read_sum (X : K.In h) (G : h.Ns mainGlobals mg) (c : He.SaysD Hd.fa Hd.fn K) (ok : ∀ {f : Addr} {fd : FuncData}, FunD K "read_sum" "Parser.read_sum" (defArgs Hd.s_Parser_read_sum) (defBody Hd.s_Parser_read_sum) (defScope Hd.s_Parser_read_sum) [] [] f fd → FnOk P w K mg base CX0 k f fd [("self" : PySem.Str)] (toSp K spc)) : HasM P w K mg base k (He.ga K ("Parser" : PySem.Str)) ("read_sum" : PySem.Str) [("self" : PySem.Str)] (toSp K spc) := by
  obtain ⟨fd, F⟩ := fd_Parser_read_sum c
  exact ⟨_, fd, He.cls_ok (c.fact 21 rfl), He.meth_ok (c.fact 28 rfl), F.bindsN fun _ _ _ _ _ _ us hl => match us, hl with | [_], _ => rfl, ok F⟩
theorem no_Parser_read_product (nv : ∀ xs Φ, ¬ spc xs Φ) {f : Addr} {fd : FuncData} (F : FunD K "read_product" "Parser.read_product" (defArgs Hd.s_Parser_read_product) (defBody Hd.s_Parser_read_product) (defScope Hd.s_Parser_read_product) [] [] f fd) : FnOk P w K mg base CX0 (k + 1) f fd [("self" : PySem.Str)] (toSp K spc) :=
  F.ok sc_Parser_read_product (fun vs H Q E h => absurd h (no_sp nv)) (fun cdv A outer s H vs Q E hr h => absurd h (no_sp nv))
theorem fd_Parser_read_product (c : He.SaysD Hd.fa Hd.fn K) : ∃ fd, FunD K "read_product" "Parser.read_product" (defArgs Hd.s_Parser_read_product) (defBody Hd.s_Parser_read_product) (defScope Hd.s_Parser_read_product) [] [] (He.fAd K Hd.d_Parser_read_product.at_) fd := c.def_ 8 (d := Hd.d_Parser_read_product) rfl
abbrev H_Parser_read_product (P : Program) (w : World) (K : PySem.W.Frag) (mg : PySem.Str → Option Value) (base : Heap) (k : Nat) (spc : FS) : Prop := HasM P w K mg base k (He.ga K ("Parser" : PySem.Str)) ("read_product" : PySem.Str) [("self" : PySem.Str)] (toSp K spc)
theorem has_Parser_read_product (X : K.In h) (G : h.Ns mainGlobals mg) (c : He.SaysD Hd.fa Hd.fn K) (ok : ∀ {f : Addr} {fd : FuncData}, FunD K "read_product" "Parser.read_product" (defArgs Hd.s_Parser_read_product) (defBody Hd.s_Parser_read_product) (defScope Hd.s_Parser_read_product) [] [] f fd → FnOk P w K mg base CX0 k f fd [("self" : PySem.Str)] (toSp K spc)) : HasM P w K mg base k (He.ga K ("Parser" : PySem.Str)) ("read_product" : PySem.Str) [("self" : PySem.Str)] (toSp K spc) := by
  obtain ⟨fd, F⟩ := fd_Parser_read_product c
  exact ⟨_, fd, He.cls_ok (c.fact 21 rfl), He.meth_ok (c.fact 29 rfl), F.bindsN fun _ _ _ _ _ _ us hl => match us, hl with | [_], _ => rfl, ok F⟩
theorem no_Parser_read_star (nv : ∀ xs Φ, ¬ spc xs Φ) {f : Addr} {fd : FuncData} (F : FunD K "read_star" "Parser.read_star" (defArgs Hd.s_Parser_read_star) (defBody Hd.s_Parser_read_star) (defScope Hd.s_Parser_read_star) [] [] f fd) : FnOk P w K mg base CX0 (k + 1) f fd [("self" : PySem.Str)] (toSp K spc) :=
  F.ok sc_Parser_read_star (fun vs H Q E h => absurd h (no_sp nv)) (fun cdv A outer s H vs Q E hr h => absurd h (no_sp nv))
theorem fd_Parser_read_star (c : He.SaysD Hd.fa Hd.fn K) : ∃ fd, FunD K "read_star" "Parser.read_star" (defArgs Hd.s_Parser_read_star) (defBody Hd.s_Parser_read_star) (defScope Hd.s_Parser_read_star) [] [] (He.fAd K Hd.d_Parser_read_star.at_) fd := c.def_ 9 (d := Hd.d_Parser_read_star) rfl
abbrev H_Parser_read_star (P : Program) (w : World) (K : PySem.W.Frag) (mg : PySem.Str → Option Value) (base : Heap) (k : Nat) (spc : FS) : Prop := HasM P w K mg base k (He.ga K ("Parser" : PySem.Str)) ("read_star" : PySem.Str) [("self" : PySem.Str)] (toSp K spc)
theorem has_Parser_read_star (X : K.In h) (G : h.Ns mainGlobals mg) (c : He.SaysD Hd.fa Hd.fn K) (ok : ∀ {f : Addr} {fd : FuncData}, FunD K "read_star" "Parser.read_star" (defArgs Hd.s_Parser_read_star) (defBody Hd.s_Parser_read_star) (defScope Hd.s_Parser_read_star) [] [] f fd → FnOk P w K mg base CX0 k f fd [("self" : PySem.Str)] (toSp K spc)) : HasM P w K mg base k (He.ga K ("Parser" : PySem.Str)) ("read_star" : PySem.Str) [("self" : PySem.Str)] (toSp K spc) := by
  obtain ⟨fd, F⟩ := fd_Parser_read_star c
  exact ⟨_, fd, He.cls_ok (c.fact 21 rfl), He.meth_ok (c.fact 30 rfl), F.bindsN fun _ _ _ _ _ _ us hl => match us, hl with | [_], _ => rfl, ok F⟩
theorem no_Parser_read_atom (nv : ∀ xs Φ, ¬ spc xs Φ) {f : Addr} {fd : FuncData} (F : FunD K "read_atom" "Parser.read_atom" (defArgs Hd.s_Parser_read_atom) (defBody Hd.s_Parser_read_atom) (defScope Hd.s_Parser_read_atom) [] [] f fd) : FnOk P w K mg base CX0 (k + 1) f fd [("self" : PySem.Str)] (toSp K spc) :=
  F.ok sc_Parser_read_atom (fun vs H Q E h => absurd h (no_sp nv)) (fun cdv A outer s H vs Q E hr h => absurd h (no_sp nv))
theorem fd_Parser_read_atom (c : He.SaysD Hd.fa Hd.fn K) : ∃ fd, FunD K "read_atom" "Parser.read_atom" (defArgs Hd.s_Parser_read_atom) (defBody Hd.s_Parser_read_atom) (defScope Hd.s_Parser_read_atom) [] [] (He.fAd K Hd.d_Parser_read_atom.at_) fd := c.def_ 10 (d := Hd.d_Parser_read_atom) rfl
abbrev H_Parser_read_atom (P : Program) (w : World) (K : PySem.W.Frag) (mg : PySem.Str → Option Value) (base : Heap) (k : Nat) (spc : FS) : Prop := HasM P w K mg base k (He.ga K ("Parser" : PySem.Str)) ("read_atom" : PySem.Str) [("self" : PySem.Str)] (toSp K spc)
theorem has_Parser_read_atom (X : K.In h) (G : h.Ns mainGlobals mg) (c : He.SaysD Hd.fa Hd.fn K) (ok : ∀ {f : Addr} {fd : FuncData}, FunD K "read_atom" "Parser.read_atom" (defArgs Hd.s_Parser_read_atom) (defBody Hd.s_Parser_read_atom) (defScope Hd.s_Parser_read_atom) [] [] f fd → FnOk P w K mg base CX0 k f fd [("self" : PySem.Str)] (toSp K spc)) : HasM P w K mg base k (He.ga K ("Parser" : PySem.Str)) ("read_atom" : PySem.Str) [("self" : PySem.Str)] (toSp K spc) := by
  obtain ⟨fd, F⟩ := fd_Parser_read_atom c
  exact ⟨_, fd, He.cls_ok (c.fact 21 rfl), He.meth_ok (c.fact 31 rfl), F.bindsN fun _ _ _ _ _ _ us hl => match us, hl with | [_], _ => rfl, ok F⟩
theorem no_parse_expression (nv : ∀ xs Φ, ¬ spc xs Φ) {f : Addr} {fd : FuncData} (F : FunD K "parse_expression" "parse_expression" (defArgs Hd.s_parse_expression) (defBody Hd.s_parse_expression) (defScope Hd.s_parse_expression) [] [] f fd) : FnOk P w K mg base CX0 (k + 1) f fd [("text" : PySem.Str)] (toSp K spc) :=
  F.ok sc_parse_expression (fun vs H Q E h => absurd h (no_sp nv)) (fun cdv A outer s H vs Q E hr h => absurd h (no_sp nv))
theorem fd_parse_expression (c : He.SaysD Hd.fa Hd.fn K) : ∃ fd, FunD K "parse_expression" "parse_expression" (defArgs Hd.s_parse_expression) (defBody Hd.s_parse_expression) (defScope Hd.s_parse_expression) [] [] (He.fAd K Hd.d_parse_expression.at_) fd := c.def_ 11 (d := Hd.d_parse_expression) rfl
abbrev H_parse_expression (P : Program) (w : World) (K : PySem.W.Frag) (mg : PySem.Str → Option Value) (base : Heap) (k : Nat) (spc : FS) : Prop := Has P w K mg base k ("parse_expression" : PySem.Str) [("text" : PySem.Str)] (toSp K spc)
theorem has_parse_expression (X : K.In h) (G : h.Ns mainGlobals mg) (c : He.SaysD Hd.fa Hd.fn K) (ok : ∀ {f : Addr} {fd : FuncData}, FunD K "parse_expression" "parse_expression" (defArgs Hd.s_parse_expression) (defBody Hd.s_parse_expression) (defScope Hd.s_parse_expression) [] [] f fd → FnOk P w K mg base CX0 k f fd [("text" : PySem.Str)] (toSp K spc)) : Has P w K mg base k ("parse_expression" : PySem.Str) [("text" : PySem.Str)] (toSp K spc) := by
  obtain ⟨fd, F⟩ := fd_parse_expression c
  exact ⟨_, fd, He.glo_ok X G (c.fact 9 rfl), F.kp, F.bindsN fun _ _ _ _ _ _ us hl => match us, hl with | [_], _ => rfl, ok F⟩
theorem no_law_draws (nv : ∀ xs Φ, ¬ spc xs Φ) {f : Addr} {fd : FuncData} (F : FunD K "_law_draws" "_law_draws" (defArgs Hd.s_law_draws) (defBody Hd.s_law_draws) (defScope Hd.s_law_draws) [] [] f fd) : FnOk P w K mg base CX0 (k + 1) f fd [("_law_script" : PySem.Str), ("_law_count" : PySem.Str)] (toSp K spc) :=
  F.ok sc_law_draws (fun vs H Q E h => absurd h (no_sp nv)) (fun cdv A outer s H vs Q E hr h => absurd h (no_sp nv))
theorem fd_law_draws (c : He.SaysD Hd.fa Hd.fn K) : ∃ fd, FunD K "_law_draws" "_law_draws" (defArgs Hd.s_law_draws) (defBody Hd.s_law_draws) (defScope Hd.s_law_draws) [] [] (He.fAd K Hd.d_law_draws.at_) fd := c.def_ 12 (d := Hd.d_law_draws) rfl
abbrev H_law_draws (P : Program) (w : World) (K : PySem.W.Frag) (mg : PySem.Str → Option Value) (base : Heap) (k : Nat) (spc : FS) : Prop := Has P w K mg base k ("_law_draws" : PySem.Str) [("_law_script" : PySem.Str), ("_law_count" : PySem.Str)] (toSp K spc)
theorem has_law_draws (X : K.In h) (G : h.Ns mainGlobals mg) (c : He.SaysD Hd.fa Hd.fn K) (ok : ∀ {f : Addr} {fd : FuncData}, FunD K "_law_draws" "_law_draws" (defArgs Hd.s_law_draws) (defBody Hd.s_law_draws) (defScope Hd.s_law_draws) [] [] f fd → FnOk P w K mg base CX0 k f fd [("_law_script" : PySem.Str), ("_law_count" : PySem.Str)] (toSp K spc)) : Has P w K mg base k ("_law_draws" : PySem.Str) [("_law_script" : PySem.Str), ("_law_count" : PySem.Str)] (toSp K spc) := by
  obtain ⟨fd, F⟩ := fd_law_draws c
  exact ⟨_, fd, He.glo_ok X G (c.fact 10 rfl), F.kp, F.bindsN fun _ _ _ _ _ _ us hl => match us, hl with | [_, _], _ => rfl, ok F⟩
theorem no_law_take (nv : ∀ xs Φ, ¬ spc xs Φ) {f : Addr} {fd : FuncData} (F : FunD K "_law_take" "_law_take" (defArgs Hd.s_law_take) (defBody Hd.s_law_take) (defScope Hd.s_law_take) [] [] f fd) : FnOk P w K mg base CX0 (k + 1) f fd [("_law_draws_here" : PySem.Str), ("_law_limit" : PySem.Str)] (toSp K spc) :=
  F.ok sc_law_take (fun vs H Q E h => absurd h (no_sp nv)) (fun cdv A outer s H vs Q E hr h => absurd h (no_sp nv))
theorem fd_law_take (c : He.SaysD Hd.fa Hd.fn K) : ∃ fd, FunD K "_law_take" "_law_take" (defArgs Hd.s_law_take) (defBody Hd.s_law_take) (defScope Hd.s_law_take) [] [] (He.fAd K Hd.d_law_take.at_) fd := c.def_ 13 (d := Hd.d_law_take) rfl
abbrev H_law_take (P : Program) (w : World) (K : PySem.W.Frag) (mg : PySem.Str → Option Value) (base : Heap) (k : Nat) (spc : FS) : Prop := Has P w K mg base k ("_law_take" : PySem.Str) [("_law_draws_here" : PySem.Str), ("_law_limit" : PySem.Str)] (toSp K spc)
theorem has_law_take (X : K.In h) (G : h.Ns mainGlobals mg) (c : He.SaysD Hd.fa Hd.fn K) (ok : ∀ {f : Addr} {fd : FuncData}, FunD K "_law_take" "_law_take" (defArgs Hd.s_law_take) (defBody Hd.s_law_take) (defScope Hd.s_law_take) [] [] f fd → FnOk P w K mg base CX0 k f fd [("_law_draws_here" : PySem.Str), ("_law_limit" : PySem.Str)] (toSp K spc)) : Has P w K mg base k ("_law_take" : PySem.Str) [("_law_draws_here" : PySem.Str), ("_law_limit" : PySem.Str)] (toSp K spc) := by
  obtain ⟨fd, F⟩ := fd_law_take c
  exact ⟨_, fd, He.glo_ok X G (c.fact 11 rfl), F.kp, F.bindsN fun _ _ _ _ _ _ us hl => match us, hl with | [_, _], _ => rfl, ok F⟩
theorem no_law_expression (nv : ∀ xs Φ, ¬ spc xs Φ) {f : Addr} {fd : FuncData} (F : FunD K "_law_expression" "_law_expression" (defArgs Hd.s_law_expression) (defBody Hd.s_law_expression) (defScope Hd.s_law_expression) [] [] f fd) : FnOk P w K mg base CX0 (k + 1) f fd [("_law_draws_here" : PySem.Str), ("_law_letters" : PySem.Str), ("_law_depth" : PySem.Str)] (toSp K spc) :=
  F.ok sc_law_expression (fun vs H Q E h => absurd h (no_sp nv)) (fun cdv A outer s H vs Q E hr h => absurd h (no_sp nv))
theorem fd_law_expression (c : He.SaysD Hd.fa Hd.fn K) : ∃ fd, FunD K "_law_expression" "_law_expression" (defArgs Hd.s_law_expression) (defBody Hd.s_law_expression) (defScope Hd.s_law_expression) [] [] (He.fAd K Hd.d_law_expression.at_) fd := c.def_ 14 (d := Hd.d_law_expression) rfl
abbrev H_law_expression (P : Program) (w : World) (K : PySem.W.Frag) (mg : PySem.Str → Option Value) (base : Heap) (k : Nat) (spc : FS) : Prop := Has P w K mg base k ("_law_expression" : PySem.Str) [("_law_draws_here" : PySem.Str), ("_law_letters" : PySem.Str), ("_law_depth" : PySem.Str)] (toSp K spc)
theorem has_law_expression (X : K.In h) (G : h.Ns mainGlobals mg) (c : He.SaysD Hd.fa Hd.fn K) (ok : ∀ {f : Addr} {fd : FuncData}, FunD K "_law_expression" "_law_expression" (defArgs Hd.s_law_expression) (defBody Hd.s_law_expression) (defScope Hd.s_law_expression) [] [] f fd → FnOk P w K mg base CX0 k f fd [("_law_draws_here" : PySem.Str), ("_law_letters" : PySem.Str), ("_law_depth" : PySem.Str)] (toSp K spc)) : Has P w K mg base k ("_law_expression" : PySem.Str) [("_law_draws_here" : PySem.Str), ("_law_letters" : PySem.Str), ("_law_depth" : PySem.Str)] (toSp K spc) := by
  obtain ⟨fd, F⟩ := fd_law_expression c
  exact ⟨_, fd, He.glo_ok X G (c.fact 12 rfl), F.kp, F.bindsN fun _ _ _ _ _ _ us hl => match us, hl with | [_, _, _], _ => rfl, ok F⟩
theorem no_law_printed (nv : ∀ xs Φ, ¬ spc xs Φ) {f : Addr} {fd : FuncData} (F : FunD K "_law_printed" "_law_printed" (defArgs Hd.s_law_printed) (defBody Hd.s_law_printed) (defScope Hd.s_law_printed) [] [] f fd) : FnOk P w K mg base CX0 (k + 1) f fd [("_law_expression_here" : PySem.Str), ("_law_rank" : PySem.Str)] (toSp K spc) :=
  F.ok sc_law_printed (fun vs H Q E h => absurd h (no_sp nv)) (fun cdv A outer s H vs Q E hr h => absurd h (no_sp nv))
theorem fd_law_printed (c : He.SaysD Hd.fa Hd.fn K) : ∃ fd, FunD K "_law_printed" "_law_printed" (defArgs Hd.s_law_printed) (defBody Hd.s_law_printed) (defScope Hd.s_law_printed) [] [] (He.fAd K Hd.d_law_printed.at_) fd := c.def_ 15 (d := Hd.d_law_printed) rfl
abbrev H_law_printed (P : Program) (w : World) (K : PySem.W.Frag) (mg : PySem.Str → Option Value) (base : Heap) (k : Nat) (spc : FS) : Prop := Has P w K mg base k ("_law_printed" : PySem.Str) [("_law_expression_here" : PySem.Str), ("_law_rank" : PySem.Str)] (toSp K spc)
theorem has_law_printed (X : K.In h) (G : h.Ns mainGlobals mg) (c : He.SaysD Hd.fa Hd.fn K) (ok : ∀ {f : Addr} {fd : FuncData}, FunD K "_law_printed" "_law_printed" (defArgs Hd.s_law_printed) (defBody Hd.s_law_printed) (defScope Hd.s_law_printed) [] [] f fd → FnOk P w K mg base CX0 k f fd [("_law_expression_here" : PySem.Str), ("_law_rank" : PySem.Str)] (toSp K spc)) : Has P w K mg base k ("_law_printed" : PySem.Str) [("_law_expression_here" : PySem.Str), ("_law_rank" : PySem.Str)] (toSp K spc) := by
  obtain ⟨fd, F⟩ := fd_law_printed c
  exact ⟨_, fd, He.glo_ok X G (c.fact 13 rfl), F.kp, F.bindsN fun _ _ _ _ _ _ us hl => match us, hl with | [_, _], _ => rfl, ok F⟩
theorem no_law_spaced (nv : ∀ xs Φ, ¬ spc xs Φ) {f : Addr} {fd : FuncData} (F : FunD K "_law_spaced" "_law_spaced" (defArgs Hd.s_law_spaced) (defBody Hd.s_law_spaced) (defScope Hd.s_law_spaced) [] [] f fd) : FnOk P w K mg base CX0 (k + 1) f fd [("_law_draws_here" : PySem.Str), ("_law_text" : PySem.Str)] (toSp K spc) :=
  F.ok sc_law_spaced (fun vs H Q E h => absurd h (no_sp nv)) (fun cdv A outer s H vs Q E hr h => absurd h (no_sp nv))
theorem fd_law_spaced (c : He.SaysD Hd.fa Hd.fn K) : ∃ fd, FunD K "_law_spaced" "_law_spaced" (defArgs Hd.s_law_spaced) (defBody Hd.s_law_spaced) (defScope Hd.s_law_spaced) [] [] (He.fAd K Hd.d_law_spaced.at_) fd := c.def_ 16 (d := Hd.d_law_spaced) rfl
abbrev H_law_spaced (P : Program) (w : World) (K : PySem.W.Frag) (mg : PySem.Str → Option Value) (base : Heap) (k : Nat) (spc : FS) : Prop := Has P w K mg base k ("_law_spaced" : PySem.Str) [("_law_draws_here" : PySem.Str), ("_law_text" : PySem.Str)] (toSp K spc)
theorem has_law_spaced (X : K.In h) (G : h.Ns mainGlobals mg) (c : He.SaysD Hd.fa Hd.fn K) (ok : ∀ {f : Addr} {fd : FuncData}, FunD K "_law_spaced" "_law_spaced" (defArgs Hd.s_law_spaced) (defBody Hd.s_law_spaced) (defScope Hd.s_law_spaced) [] [] f fd → FnOk P w K mg base CX0 k f fd [("_law_draws_here" : PySem.Str), ("_law_text" : PySem.Str)] (toSp K spc)) : Has P w K mg base k ("_law_spaced" : PySem.Str) [("_law_draws_here" : PySem.Str), ("_law_text" : PySem.Str)] (toSp K spc) := by
  obtain ⟨fd, F⟩ := fd_law_spaced c
  exact ⟨_, fd, He.glo_ok X G (c.fact 14 rfl), F.kp, F.bindsN fun _ _ _ _ _ _ us hl => match us, hl with | [_, _], _ => rfl, ok F⟩
theorem no_law (nv : ∀ xs Φ, ¬ spc xs Φ) {f : Addr} {fd : FuncData} (F : FunD K "law" "law" (defArgs Hd.s_law) (defBody Hd.s_law) (defScope Hd.s_law) [] [] f fd) : FnOk P w K mg base CX0 (k + 1) f fd [("_law_script" : PySem.Str)] (toSp K spc) :=
  F.ok sc_law (fun vs H Q E h => absurd h (no_sp nv)) (fun cdv A outer s H vs Q E hr h => absurd h (no_sp nv))
theorem fd_law (c : He.SaysD Hd.fa Hd.fn K) : ∃ fd, FunD K "law" "law" (defArgs Hd.s_law) (defBody Hd.s_law) (defScope Hd.s_law) [] [] (He.fAd K Hd.d_law.at_) fd := c.def_ 17 (d := Hd.d_law) rfl
abbrev H_law (P : Program) (w : World) (K : PySem.W.Frag) (mg : PySem.Str → Option Value) (base : Heap) (k : Nat) (spc : FS) : Prop := Has P w K mg base k ("law" : PySem.Str) [("_law_script" : PySem.Str)] (toSp K spc)
theorem has_law (X : K.In h) (G : h.Ns mainGlobals mg) (c : He.SaysD Hd.fa Hd.fn K) (ok : ∀ {f : Addr} {fd : FuncData}, FunD K "law" "law" (defArgs Hd.s_law) (defBody Hd.s_law) (defScope Hd.s_law) [] [] f fd → FnOk P w K mg base CX0 k f fd [("_law_script" : PySem.Str)] (toSp K spc)) : Has P w K mg base k ("law" : PySem.Str) [("_law_script" : PySem.Str)] (toSp K spc) := by
  obtain ⟨fd, F⟩ := fd_law c
  exact ⟨_, fd, He.glo_ok X G (c.fact 15 rfl), F.kp, F.bindsN fun _ _ _ _ _ _ us hl => match us, hl with | [_], _ => rfl, ok F⟩
theorem kd_RANKS (t : He.SaysT Hd.fa Hd.fn Hd.ts w K) (hm : Hd.ex K = true) {x : PySem.Str} {v : He.Dv} (hx : (x, v) ∈ Hd.v_RANKS) : KDct K w (He.ga K ("RANKS" : PySem.Str)) x (v.v K) := by
  obtain ⟨es, n, D⟩ := t.tab 0 rfl
  obtain ⟨u, h1, h2⟩ := He.valsB_ok (K := K) hm hx
  exact ⟨es, n, u, D.at_, D.lit, h1, h2⟩
end
end As
namespace M18
/-- an expression -/
inductive Ex where
  | letter (n : Nat) | none | empty | star (e : Ex) | either (a b : Ex) | join (a b : Ex)
def Ex.rank : Ex → Nat
  | .either _ _ => 1
  | .join _ _ => 2
  | .star _ => 3
  | _ => 4
def Ex.ht : Ex → Nat
  | .star e => e.ht + 1
  | .either a b => max a.ht b.ht + 1
  | .join a b => max a.ht b.ht + 1
  | _ => 0
def Ex.ok : Ex → Prop
  | .letter n => n < 10
  | .star e => e.ok
  | .either a b => a.ok ∧ b.ok
  | .join a b => a.ok ∧ b.ok
  | _ => True
/-! ### the text, as codes -/
def wNone : List Nat := [110, 111, 110, 101]
def wEmpty : List Nat := [101, 109, 112, 116, 121]
def par (b : Bool) (s : List Nat) : List Nat := if b then [40] ++ s ++ [41] else s
def Ex.fmt : Ex → List Nat
  | .letter n => [48 + n]
  | .none => wNone
  | .empty => wEmpty
  | .star e => par (decide (e.rank < 3)) e.fmt ++ [42]
  | .either a b => par (decide (a.rank < 1)) a.fmt ++ [32, 43, 32] ++ par (decide (b.rank < 2)) b.fmt
  | .join a b => par (decide (a.rank < 2)) a.fmt ++ [32, 46, 32] ++ par (decide (b.rank < 3)) b.fmt
def Ex.wit (e : Ex) (r : Nat) : List Nat := par (decide (e.rank < r)) e.fmt
theorem par_len (b : Bool) (s : List Nat) : (par b s).length ≤ s.length + 2 := by
  cases b <;> simp [par]
theorem fmt_len (e : Ex) : e.fmt.length + 7 ≤ 12 * 2 ^ e.ht := by
  induction e with
  | letter n => simp [Ex.fmt, Ex.ht]
  | none => simp [Ex.fmt, Ex.ht, wNone]
  | empty => simp [Ex.fmt, Ex.ht, wEmpty]
  | star e ih =>
    have := par_len (decide (e.rank < 3)) e.fmt
    simp only [Ex.fmt, Ex.ht, List.length_append, List.length_cons, List.length_nil, Nat.pow_succ]
    omega
  | either a b ia ib =>
    have h1 := par_len (decide (a.rank < 1)) a.fmt
    have h2 := par_len (decide (b.rank < 2)) b.fmt
    have h3 : 2 ^ a.ht ≤ 2 ^ max a.ht b.ht := Nat.pow_le_pow_right (by omega) (by omega)
    have h4 : 2 ^ b.ht ≤ 2 ^ max a.ht b.ht := Nat.pow_le_pow_right (by omega) (by omega)
    simp only [Ex.fmt, Ex.ht, List.length_append, List.length_cons, List.length_nil, Nat.pow_succ]
    omega
  | join a b ia ib =>
    have h1 := par_len (decide (a.rank < 2)) a.fmt
    have h2 := par_len (decide (b.rank < 3)) b.fmt
    have h3 : 2 ^ a.ht ≤ 2 ^ max a.ht b.ht := Nat.pow_le_pow_right (by omega) (by omega)
    have h4 : 2 ^ b.ht ≤ 2 ^ max a.ht b.ht := Nat.pow_le_pow_right (by omega) (by omega)
    simp only [Ex.fmt, Ex.ht, List.length_append, List.length_cons, List.length_nil, Nat.pow_succ]
    omega
/-! ### tokens and what writes them -/
inductive R : List (List Nat) → List Nat → Prop
  | nil (k : Nat) : R [] (List.replicate k 32)
  | cons (k : Nat) {t : List Nat} {ts : List (List Nat)} {cs : List Nat} : R ts cs → R (t :: ts) (List.replicate k 32 ++ (t ++ cs))
/-- the words and signs -/
def Tok (t : List Nat) : Prop := t = wNone ∨ t = wEmpty ∨ t = [40] ∨ t = [41] ∨ t = [42] ∨ t = [43] ∨ t = [46] ∨ ∃ n, n < 10 ∧ t = [48 + n]
def parT (b : Bool) (s : List (List Nat)) : List (List Nat) := if b then [[40]] ++ s ++ [[41]] else s
def Ex.tk : Ex → List (List Nat)
  | .letter n => [[48 + n]]
  | .none => [wNone]
  | .empty => [wEmpty]
  | .star e => parT (decide (e.rank < 3)) e.tk ++ [[42]]
  | .either a b => parT (decide (a.rank < 1)) a.tk ++ [[43]] ++ parT (decide (b.rank < 2)) b.tk
  | .join a b => parT (decide (a.rank < 2)) a.tk ++ [[46]] ++ parT (decide (b.rank < 3)) b.tk
def Ex.tw (e : Ex) (r : Nat) : List (List Nat) := parT (decide (e.rank < r)) e.tk
theorem parT_tok {b : Bool} {s : List (List Nat)} (h : ∀ t ∈ s, Tok t) : ∀ t ∈ parT b s, Tok t := by
  intro t ht
  cases b with
  | false => exact h t ht
  | true =>
    simp only [parT, if_true, List.mem_append, List.mem_cons, List.not_mem_nil, or_false] at ht
    rcases ht with (rfl | ht) | rfl
    · exact .inr (.inr (.inl rfl))
    · exact h t ht
    · exact .inr (.inr (.inr (.inl rfl)))
theorem tk_tok {e : Ex} (h : e.ok) : ∀ t ∈ e.tk, Tok t := by
  induction e with
  | letter n =>
    intro t ht
    have : t = [48 + n] := by simpa [Ex.tk] using ht
    exact .inr (.inr (.inr (.inr (.inr (.inr (.inr ⟨n, h, this⟩))))))
  | none => intro t ht; exact .inl (by simpa [Ex.tk] using ht)
  | empty => intro t ht; exact .inr (.inl (by simpa [Ex.tk] using ht))
  | star e ih =>
    intro t ht
    simp only [Ex.tk, List.mem_append, List.mem_cons, List.not_mem_nil, or_false] at ht
    rcases ht with ht | rfl
    · exact parT_tok (ih h) t ht
    · exact .inr (.inr (.inr (.inr (.inl rfl))))
  | either a b ia ib =>
    intro t ht
    simp only [Ex.tk, List.mem_append, List.mem_cons, List.not_mem_nil, or_false] at ht
    rcases ht with (ht | rfl) | ht
    · exact parT_tok (ia h.1) t ht
    · exact .inr (.inr (.inr (.inr (.inr (.inl rfl)))))
    · exact parT_tok (ib h.2) t ht
  | join a b ia ib =>
    intro t ht
    simp only [Ex.tk, List.mem_append, List.mem_cons, List.not_mem_nil, or_false] at ht
    rcases ht with (ht | rfl) | ht
    · exact parT_tok (ia h.1) t ht
    · exact .inr (.inr (.inr (.inr (.inr (.inr (.inl rfl))))))
    · exact parT_tok (ib h.2) t ht
theorem R.pre {ts : List (List Nat)} {cs : List Nat} (k : Nat) (h : R ts cs) : R ts (List.replicate k 32 ++ cs) := by
  cases h with
  | nil j => rw [List.replicate_append_replicate]; exact .nil _
  | @cons j t ts cs h => rw [← List.append_assoc, List.replicate_append_replicate]; exact .cons _ h
theorem R.app {ts us : List (List Nat)} {cs ds : List Nat} (h : R ts cs) (g : R us ds) : R (ts ++ us) (cs ++ ds) := by
  induction h with
  | nil k => exact g.pre k
  | @cons k t ts cs h ih =>
    rw [List.append_assoc, List.append_assoc]
    exact .cons k ih
theorem R.one (t : List Nat) : R [t] t := by
  have := R.cons 0 (t := t) (R.nil 0)
  simpa using this
theorem par_R {b : Bool} {s : List (List Nat)} {cs : List Nat} (h : R s cs) : R (parT b s) (par b cs) := by
  cases b with
  | false => exact h
  | true => exact ((R.one [40]).app h).app (R.one [41])
theorem sp_R {t : List Nat} : R [t] ([32] ++ t ++ [32]) := by
  have := R.cons 1 (t := t) (R.nil 1)
  simpa using this
theorem fmt_R (e : Ex) : R e.tk e.fmt := by
  induction e with
  | letter n => exact R.one _
  | none => exact R.one _
  | empty => exact R.one _
  | star e ih => exact (par_R ih).app (R.one [42])
  | either a b ia ib => exact ((par_R ia).app (sp_R (t := [43]))).app (par_R ib)
  | join a b ia ib => exact ((par_R ia).app (sp_R (t := [46]))).app (par_R ib)
/-! ### the parser's steps over codes -/
def sk (cs : List Nat) (n : Nat) : Nat := n + ((cs.drop n).takeWhile (· == 32)).length
def tkn (cs t : List Nat) (n : Nat) : Bool × Nat := if (cs.drop (sk cs n)).take t.length = t then (true, sk cs n + t.length) else (false, sk cs n)
theorem sk_drop (cs : List Nat) (n : Nat) : cs.drop (sk cs n) = (cs.drop n).dropWhile (· == 32) := by
  unfold sk
  rw [← List.drop_drop]
  generalize cs.drop n = l
  induction l with
  | nil => rfl
  | cons c l ih =>
    by_cases h : (c == 32) = true
    · rw [List.takeWhile_cons, List.dropWhile_cons, if_pos h, if_pos h]; simpa using ih
    · rw [List.takeWhile_cons, List.dropWhile_cons, if_neg h, if_neg h]; rfl
theorem drop32 (k : Nat) {l : List Nat} (h : ∀ c, l.head? = some c → c ≠ 32) : (List.replicate k 32 ++ l).dropWhile (· == 32) = l := by
  induction k with
  | zero =>
    cases l with
    | nil => rfl
    | cons c l => rw [List.replicate_zero, List.nil_append, List.dropWhile_cons_of_neg]; simpa using h c rfl
  | succ k ih => rw [List.replicate_succ, List.cons_append, List.dropWhile_cons_of_pos (by rfl)]; exact ih
theorem Tok.head {t : List Nat} (h : Tok t) : ∃ c r, t = c :: r ∧ c ≠ 32 := by
  rcases h with rfl | rfl | rfl | rfl | rfl | rfl | rfl | ⟨n, hn, rfl⟩
  · exact ⟨110, _, rfl, by decide⟩
  · exact ⟨101, _, rfl, by decide⟩
  · exact ⟨40, _, rfl, by decide⟩
  · exact ⟨41, _, rfl, by decide⟩
  · exact ⟨42, _, rfl, by decide⟩
  · exact ⟨43, _, rfl, by decide⟩
  · exact ⟨46, _, rfl, by decide⟩
  · exact ⟨48 + n, _, rfl, by omega⟩
theorem Tok.same {t u : List Nat} (h : Tok t) (g : Tok u) (e : t.head? = u.head?) : t = u := by
  rcases h with rfl | rfl | rfl | rfl | rfl | rfl | rfl | ⟨n, hn, rfl⟩ <;> rcases g with rfl | rfl | rfl | rfl | rfl | rfl | rfl | ⟨m, hm, rfl⟩ <;> simp [wNone, wEmpty] at e ⊢ <;> omega
theorem tkn_yes {cs t : List Nat} {ts : List (List Nat)} {n : Nat} (h : R (t :: ts) (cs.drop n)) (ht : Tok t) : ∃ n', tkn cs t n = (true, n') ∧ R ts (cs.drop n') := by
  obtain ⟨c, r, hc, hne⟩ := ht.head
  have hd := sk_drop cs n
  generalize hl : cs.drop n = l at h hd
  cases h with
  | @cons k _ _ ds h =>
    rw [drop32 k (by intro x hx; rw [hc] at hx; simp at hx; omega)] at hd
    refine ⟨sk cs n + t.length, ?_, ?_⟩
    · unfold tkn
      rw [hd, if_pos (List.take_left)]
    · rw [← List.drop_drop, hd, List.drop_left]
      exact h
theorem tkn_no {cs t u : List Nat} {ts : List (List Nat)} {n : Nat} (h : R (t :: ts) (cs.drop n)) (ht : Tok t) (hu : Tok u) (e : t ≠ u) : ∃ n' ds, tkn cs u n = (false, n') ∧ cs.drop n' = t ++ ds ∧ R ts ds := by
  obtain ⟨c, r, hc, hne⟩ := ht.head
  obtain ⟨c2, r2, hc2, hne2⟩ := hu.head
  have hd := sk_drop cs n
  generalize hl : cs.drop n = l at h hd
  cases h with
  | @cons k _ _ ds h =>
    rw [drop32 k (by intro x hx; rw [hc] at hx; simp at hx; omega)] at hd
    refine ⟨sk cs n, ds, ?_, hd, h⟩
    unfold tkn
    rw [hd, if_neg]
    intro q
    refine e (ht.same hu ?_)
    rw [hc, hc2] at q ⊢
    simp at q ⊢
    exact q.1
theorem R.at0 {t ds : List Nat} {ts : List (List Nat)} (h : R ts ds) : R (t :: ts) (t ++ ds) := by
  have := R.cons 0 (t := t) h
  simpa using this
theorem tkn_end {cs u : List Nat} {n : Nat} (h : R [] (cs.drop n)) (hu : Tok u) : ∃ n', tkn cs u n = (false, n') ∧ cs.drop n' = [] := by
  obtain ⟨c2, r2, hc2, hne2⟩ := hu.head
  have hd := sk_drop cs n
  generalize hl : cs.drop n = l at h hd
  cases h with
  | nil k =>
    have z := drop32 k (l := []) (by intro c h; simp at h)
    rw [List.append_nil] at z
    rw [z] at hd
    refine ⟨sk cs n, ?_, hd⟩
    unfold tkn
    rw [hd, if_neg]
    rw [hc2]; simp
/-! ### what the parser does -/
section
variable (cs : List Nat)
mutual
inductive Atom : Nat → Nat → Ex → Nat → Prop
  | non {d n n1} : tkn cs wNone n = (true, n1) → Atom d n .none n1
  | emp {d n n1 n2} : tkn cs wNone n = (false, n1) → tkn cs wEmpty n1 = (true, n2) → Atom d n .empty n2
  | par {d n n1 n2 n3 n4 n5 e} : tkn cs wNone n = (false, n1) → tkn cs wEmpty n1 = (false, n2) → tkn cs [40] n2 = (true, n3) → Sum d n3 e n4 → tkn cs [41] n4 = (true, n5) → Atom (d + 1) n e n5
  | dig {d n n1 n2 n3 k} : tkn cs wNone n = (false, n1) → tkn cs wEmpty n1 = (false, n2) → tkn cs [40] n2 = (false, n3) → k < 10 → cs[n3]? = some (48 + k) → Atom d n (.letter k) (n3 + 1)
inductive Star : Nat → Nat → Ex → Nat → Prop
  | mk {d n n1 n2 m e e'} : Atom d n e n1 → StarL m n1 e n2 e' → Star d n e' n2
inductive StarL : Nat → Nat → Ex → Nat → Ex → Prop
  | stop {n n1 e} : tkn cs [42] n = (false, n1) → StarL 0 n e n1 e
  | go {m n n1 n2 e e'} : tkn cs [42] n = (true, n1) → StarL m n1 (.star e) n2 e' → StarL (m + 1) n e n2 e'
inductive Prd : Nat → Nat → Ex → Nat → Prop
  | mk {d n n1 n2 m e e'} : Star d n e n1 → PrdL d m n1 e n2 e' → Prd d n e' n2
inductive PrdL : Nat → Nat → Nat → Ex → Nat → Ex → Prop
  | stop {d n n1 e} : tkn cs [46] n = (false, n1) → PrdL d 0 n e n1 e
  | go {d m n n1 n2 n3 e e2 e'} : tkn cs [46] n = (true, n1) → Star d n1 e2 n2 → PrdL d m n2 (.join e e2) n3 e' → PrdL d (m + 1) n e n3 e'
inductive Sum : Nat → Nat → Ex → Nat → Prop
  | mk {d n n1 n2 m e e'} : Prd d n e n1 → SumL d m n1 e n2 e' → Sum d n e' n2
inductive SumL : Nat → Nat → Nat → Ex → Nat → Ex → Prop
  | stop {d n n1 e} : tkn cs [43] n = (false, n1) → SumL d 0 n e n1 e
  | go {d m n n1 n2 n3 e e2 e'} : tkn cs [43] n = (true, n1) → Prd d n1 e2 n2 → SumL d m n2 (.either e e2) n3 e' → SumL d (m + 1) n e n3 e'
end
end
section
variable {cs : List Nat}
def StarTo (cs : List Nat) (d n : Nat) (e : Ex) (n1 : Nat) : Prop := ∀ m n' e', StarL cs m n1 e n' e' → Star cs d n e' n'
def PrdTo (cs : List Nat) (d n : Nat) (e : Ex) (n1 : Nat) : Prop := ∀ m n' e', PrdL cs d m n1 e n' e' → Prd cs d n e' n'
def SumTo (cs : List Nat) (d n : Nat) (e : Ex) (n1 : Nat) : Prop := ∀ m n' e', SumL cs d m n1 e n' e' → Sum cs d n e' n'
/-- the next token is none of these -/
def Not (ts : List (List Nat)) (us : List (List Nat)) : Prop := ∀ t, ts.head? = some t → t ∉ us
theorem step_no {ts : List (List Nat)} {u : List Nat} {n : Nat} (h : R ts (cs.drop n)) (hT : ∀ t ∈ ts, Tok t) (hu : Tok u) (hn : Not ts [u]) : ∃ n', tkn cs u n = (false, n') ∧ R ts (cs.drop n') := by
  cases ts with
  | nil =>
    obtain ⟨n', h1, h2⟩ := tkn_end h hu
    exact ⟨n', h1, by rw [h2]; exact .nil 0⟩
  | cons t ts =>
    obtain ⟨n', ds, h1, h2, h3⟩ := tkn_no h (hT t List.mem_cons_self) hu (by have := hn t rfl; simpa using this)
    exact ⟨n', h1, by rw [h2]; exact h3.at0⟩
theorem tok40 : Tok [40] := .inr (.inr (.inl rfl))
theorem tok41 : Tok [41] := .inr (.inr (.inr (.inl rfl)))
theorem tok42 : Tok [42] := .inr (.inr (.inr (.inr (.inl rfl))))
theorem tok43 : Tok [43] := .inr (.inr (.inr (.inr (.inr (.inl rfl)))))
theorem tok46 : Tok [46] := .inr (.inr (.inr (.inr (.inr (.inr (.inl rfl))))))
theorem tokN : Tok wNone := .inl rfl
theorem tokE : Tok wEmpty := .inr (.inl rfl)
def RS (cs : List Nat) (e : Ex) : Prop := ∀ d n ts, e.ht ≤ d + 1 → (∀ t ∈ ts, Tok t) → Not ts [[46], [42]] → R (e.tw 1 ++ ts) (cs.drop n) → ∃ n1, SumTo cs d n e n1 ∧ R ts (cs.drop n1)
def RP (cs : List Nat) (e : Ex) (k : Nat) : Prop := ∀ d n ts, e.ht ≤ d + k → (∀ t ∈ ts, Tok t) → Not ts [[42]] → R (e.tw 2 ++ ts) (cs.drop n) → ∃ n1, PrdTo cs d n e n1 ∧ R ts (cs.drop n1)
def RT (cs : List Nat) (e : Ex) (k : Nat) : Prop := ∀ d n ts, e.ht ≤ d + k → (∀ t ∈ ts, Tok t) → R (e.tw 3 ++ ts) (cs.drop n) → ∃ n1, StarTo cs d n e n1 ∧ R ts (cs.drop n1)
structure Reads (cs : List Nat) (e : Ex) : Prop where
  s : RS cs e
  p : RP cs e 0
  t : RT cs e 0
theorem Not.sub {ts us vs : List (List Nat)} (h : Not ts us) (k : ∀ t ∈ vs, t ∈ us) : Not ts vs := fun t e q => h t e (k t q)
/-- from the star level to the product level, where no parentheses come between -/
theorem p_of {e : Ex} {k : Nat} (hr : e.tw 2 = e.tw 3) (t : RT cs e k) : RP cs e k := by
  intro d n ts hd hT hn h
  rw [hr] at h
  obtain ⟨n1, h1, h2⟩ := t d n ts hd hT h
  obtain ⟨n2, h3, h4⟩ := step_no h2 hT tok42 hn
  exact ⟨n2, fun m n' e' l => .mk (h1 _ _ _ (.stop h3)) l, h4⟩
theorem s_of {e : Ex} (hr : e.tw 1 = e.tw 2) (p : RP cs e 1) : RS cs e := by
  intro d n ts hd hT hn h
  rw [hr] at h
  obtain ⟨n1, h1, h2⟩ := p d n ts hd hT (hn.sub (by simp)) h
  obtain ⟨n2, h3, h4⟩ := step_no h2 hT tok46 (hn.sub (by simp))
  exact ⟨n2, fun m n' e' l => .mk (h1 _ _ _ (.stop h3)) l, h4⟩
theorem RT.low {e : Ex} {k : Nat} (h : RT cs e k) : RT cs e 0 := fun d n ts hd => h d n ts (by omega)
theorem RP.low {e : Ex} {k : Nat} (h : RP cs e k) : RP cs e 0 := fun d n ts hd => h d n ts (by omega)
/-- in parentheses -/
theorem par_atom {e : Ex} (hok : e.ok) (h1 : 1 ≤ e.ht) (hr : e.tw 1 = e.tk) (hr3 : e.tw 3 = [[40]] ++ e.tk ++ [[41]]) (s : RS cs e) : RT cs e 0 := by
  intro d n ts hd hT h
  obtain ⟨d, rfl⟩ : ∃ d', d = d' + 1 := ⟨d - 1, by omega⟩
  rw [hr3] at h
  have h' : R ([40] :: (e.tk ++ ([41] :: ts))) (cs.drop n) := by simpa using h
  have hT' : ∀ t ∈ [40] :: (e.tk ++ ([41] :: ts)), Tok t := by
    intro t ht
    rcases List.mem_cons.mp ht with rfl | ht
    · exact tok40
    · rcases List.mem_append.mp ht with ht | ht
      · exact tk_tok hok t ht
      · rcases List.mem_cons.mp ht with rfl | ht
        · exact tok41
        · exact hT t ht
  obtain ⟨n1, a1, b1⟩ := step_no h' hT' tokN (by intro t e q; simp at e q; subst e; simp [wNone] at q)
  obtain ⟨n2, a2, b2⟩ := step_no b1 hT' tokE (by intro t e q; simp at e q; subst e; simp [wEmpty] at q)
  obtain ⟨n3, a3, b3⟩ := tkn_yes b2 tok40
  rw [← hr] at b3
  obtain ⟨n4, a4, b4⟩ := s d n3 ([41] :: ts) hd (fun t ht => by
    rcases List.mem_cons.mp ht with rfl | ht
    · exact tok41
    · exact hT t ht) (by intro t e q; simp at e q; subst e; simp at q) b3
  obtain ⟨n5, a5, b5⟩ := step_no b4 (fun t ht => by
    rcases List.mem_cons.mp ht with rfl | ht
    · exact tok41
    · exact hT t ht) tok43 (by intro t e q; simp at e q; subst e; simp at q)
  obtain ⟨n6, a6, b6⟩ := tkn_yes b5 tok41
  exact ⟨n6, fun m n' e' l => .mk (.par a1 a2 a3 (a4 _ _ _ (.stop a5)) a6) l, b6⟩
theorem atomTo {d n n1 : Nat} {e : Ex} (h : Atom cs d n e n1) : StarTo cs d n e n1 := fun _ _ _ l => .mk h l
theorem consTok {t : List Nat} {ts : List (List Nat)} (ht : Tok t) (h : ∀ t ∈ ts, Tok t) : ∀ u ∈ t :: ts, Tok u := by
  intro u hu
  rcases List.mem_cons.mp hu with rfl | hu
  · exact ht
  · exact h u hu
theorem Not.one {t : List Nat} {ts us : List (List Nat)} (h : t ∉ us) : Not (t :: ts) us := by
  intro u e
  simp at e
  subst e
  exact h
theorem reads {e : Ex} (hok : e.ok) : Reads cs e := by
  induction e with
  | none =>
    have t : RT cs .none 1 := by
      intro d n ts hd hT h
      obtain ⟨n1, a, b⟩ := tkn_yes (t := wNone) h tokN
      exact ⟨n1, atomTo (.non a), b⟩
    exact ⟨s_of rfl (p_of rfl t), (p_of rfl t).low, t.low⟩
  | empty =>
    have t : RT cs .empty 1 := by
      intro d n ts hd hT h
      obtain ⟨n1, a, b⟩ := step_no (ts := wEmpty :: ts) h (consTok tokE hT) tokN (.one (by decide))
      obtain ⟨n2, a2, b2⟩ := tkn_yes b tokE
      exact ⟨n2, atomTo (.emp a a2), b2⟩
    exact ⟨s_of rfl (p_of rfl t), (p_of rfl t).low, t.low⟩
  | letter k =>
    have t : RT cs (.letter k) 1 := by
      intro d n ts hd hT h
      have hk : k < 10 := hok
      have hT' : ∀ u ∈ [48 + k] :: ts, Tok u := consTok (.inr (.inr (.inr (.inr (.inr (.inr (.inr ⟨k, hk, rfl⟩))))))) hT
      obtain ⟨n1, a, b⟩ := step_no (ts := [48 + k] :: ts) h hT' tokN (.one (by simp [wNone]))
      obtain ⟨n2, a2, b2⟩ := step_no b hT' tokE (.one (by simp [wEmpty]))
      obtain ⟨n3, ds, a3, b3, c3⟩ := tkn_no b2 (hT' _ List.mem_cons_self) tok40 (by simp; omega)
      refine ⟨n3 + 1, atomTo (.dig a a2 a3 hk ?_), ?_⟩
      · have := congrArg (fun l => l[0]?) b3
        simpa using this
      · rw [← List.drop_drop, b3]
        exact c3
    exact ⟨s_of rfl (p_of rfl t), (p_of rfl t).low, t.low⟩
  | star e ih =>
    have ih := ih hok
    have t : RT cs (.star e) 1 := by
      intro d n ts hd hT h
      have hd' : e.ht ≤ d + 0 := by simp only [Ex.ht] at hd; omega
      obtain ⟨n1, a, b⟩ := ih.t d n ([42] :: ts) hd' (consTok tok42 hT) (by
        have : Ex.tw (.star e) 3 ++ ts = e.tw 3 ++ ([42] :: ts) := by
          simp [Ex.tw, Ex.rank, parT, Ex.tk]
        rw [← this]; exact h)
      obtain ⟨n2, a2, b2⟩ := tkn_yes b tok42
      exact ⟨n2, fun m n' e' l => a _ _ _ (.go a2 l), b2⟩
    exact ⟨s_of rfl (p_of rfl t), (p_of rfl t).low, t.low⟩
  | either a b ia ib =>
    have ia := ia hok.1
    have ib := ib hok.2
    have s : RS cs (.either a b) := by
      intro d n ts hd hT hn h
      simp only [Ex.ht] at hd
      obtain ⟨n1, a1, b1⟩ := ia.s d n ([43] :: (b.tw 2 ++ ts)) (by omega) (consTok tok43 (fun t ht => by
        rcases List.mem_append.mp ht with q | q
        · exact parT_tok (tk_tok hok.2) t q
        · exact hT t q)) (.one (by decide)) (by
        have : Ex.tw (.either a b) 1 ++ ts = a.tw 1 ++ ([43] :: (b.tw 2 ++ ts)) := by
          simp [Ex.tw, Ex.rank, parT, Ex.tk]
        rw [← this]; exact h)
      obtain ⟨n2, a2, b2⟩ := tkn_yes b1 tok43
      obtain ⟨n3, a3, b3⟩ := ib.p d n2 ts (by omega) hT (hn.sub (by simp)) b2
      obtain ⟨n4, a4, b4⟩ := step_no b3 hT tok46 (hn.sub (by simp))
      exact ⟨n4, fun m n' e' l => a1 _ _ _ (.go a2 (a3 _ _ _ (.stop a4)) l), b4⟩
    have t := par_atom (e := .either a b) hok (by simp [Ex.ht]) rfl rfl s
    exact ⟨s, p_of rfl t, t⟩
  | join a b ia ib =>
    have ia := ia hok.1
    have ib := ib hok.2
    have p : RP cs (.join a b) 1 := by
      intro d n ts hd hT hn h
      simp only [Ex.ht] at hd
      obtain ⟨n1, a1, b1⟩ := ia.p d n ([46] :: (b.tw 3 ++ ts)) (by omega) (consTok tok46 (fun t ht => by
        rcases List.mem_append.mp ht with q | q
        · exact parT_tok (tk_tok hok.2) t q
        · exact hT t q)) (.one (by decide)) (by
        have : Ex.tw (.join a b) 2 ++ ts = a.tw 2 ++ ([46] :: (b.tw 3 ++ ts)) := by
          simp [Ex.tw, Ex.rank, parT, Ex.tk]
        rw [← this]; exact h)
      obtain ⟨n2, a2, b2⟩ := tkn_yes b1 tok46
      obtain ⟨n3, a3, b3⟩ := ib.t d n2 ts (by omega) hT b2
      obtain ⟨n4, a4, b4⟩ := step_no b3 hT tok42 (hn.sub (by simp))
      exact ⟨n4, fun m n' e' l => a1 _ _ _ (.go a2 (a3 _ _ _ (.stop a4)) l), b4⟩
    have s := s_of (e := .join a b) rfl p
    have t := par_atom (e := .join a b) hok (by simp [Ex.ht]) rfl rfl s
    exact ⟨s, p.low, t⟩
/-- the whole text is read -/
theorem parsed {e : Ex} (hok : e.ok) {d : Nat} (hd : e.ht ≤ d + 1) (h : R e.tk cs) : ∃ n1, Sum cs d 0 e n1 ∧ cs.length ≤ sk cs n1 := by
  obtain ⟨n1, a, b⟩ := (reads (cs := cs) hok).s d 0 [] hd (by simp) (by intro t e; simp at e) (by
    have : e.tw 1 = e.tk := by cases e <;> rfl
    rw [this]; simpa using h)
  obtain ⟨n2, a2, b2⟩ := step_no b (by simp) tok43 (by intro t e; simp at e)
  refine ⟨n2, a _ _ _ (.stop a2), ?_⟩
  have hz := sk_drop cs n2
  generalize hl : cs.drop n2 = l at b2 hz
  cases b2 with
  | nil k =>
    have z := drop32 k (l := []) (by intro c h; simp at h)
    rw [List.append_nil] at z
    rw [z] at hz
    exact List.drop_eq_nil_iff.mp hz
end
/-! ### spaces between -/
inductive Spc : List Nat → List Nat → Prop
  | nil : Spc [] []
  | sp (k : Nat) {s t} : Spc s t → Spc (32 :: s) (List.replicate k 32 ++ t)
  | ch (c : Nat) {s t} : c ≠ 32 → Spc s t → Spc (c :: s) (c :: t)
  | pc (c k : Nat) {s t} : c = 40 ∨ c = 41 ∨ c = 42 ∨ c = 43 ∨ c = 46 → Spc s t → Spc (c :: s) (c :: (List.replicate k 32 ++ t))
theorem Spc.app {s t u v : List Nat} (h : Spc s t) (g : Spc u v) : Spc (s ++ u) (t ++ v) := by
  induction h with
  | nil => exact g
  | sp k h ih => rw [List.append_assoc]; exact .sp k ih
  | ch c hc h ih => exact .ch c hc ih
  | pc c k hc h ih => rw [List.cons_append, List.cons_append, List.append_assoc]; exact .pc c k hc ih
theorem Spc.split {s u o : List Nat} (h : Spc (s ++ u) o) : ∃ o1 o2, o = o1 ++ o2 ∧ Spc s o1 ∧ Spc u o2 := by
  induction s generalizing o with
  | nil => exact ⟨[], o, rfl, .nil, h⟩
  | cons c s ih =>
    rw [List.cons_append] at h
    cases h with
    | sp k h => obtain ⟨o1, o2, rfl, a, b⟩ := ih h; exact ⟨_, o2, (List.append_assoc _ _ _).symm, .sp k a, b⟩
    | ch _ hc h => obtain ⟨o1, o2, rfl, a, b⟩ := ih h; exact ⟨c :: o1, o2, rfl, .ch c hc a, b⟩
    | pc _ k hc h => obtain ⟨o1, o2, rfl, a, b⟩ := ih h; exact ⟨c :: (List.replicate k 32 ++ o1), o2, by simp, .pc c k hc a, b⟩
theorem Spc.sps {k : Nat} {o : List Nat} (h : Spc (List.replicate k 32) o) : ∃ j, o = List.replicate j 32 := by
  induction k generalizing o with
  | zero => cases h; exact ⟨0, rfl⟩
  | succ k ih =>
    rw [List.replicate_succ] at h
    cases h with
    | sp j h => obtain ⟨i, rfl⟩ := ih h; exact ⟨j + i, List.replicate_append_replicate⟩
    | ch _ hc h => exact absurd rfl hc
    | pc _ j hc h => omega
theorem Spc.word {t o : List Nat} (hw : ∀ c ∈ t, c ≠ 32 ∧ ¬ (c = 40 ∨ c = 41 ∨ c = 42 ∨ c = 43 ∨ c = 46)) (h : Spc t o) : o = t := by
  induction t generalizing o with
  | nil => cases h; rfl
  | cons c t ih =>
    cases h with
    | sp j h => exact absurd rfl (hw 32 List.mem_cons_self).1
    | ch _ hc h => rw [ih (fun c hc => hw c (List.mem_cons_of_mem _ hc)) h]
    | pc _ j hc h => exact absurd hc (hw c List.mem_cons_self).2
theorem Spc.tok {t o : List Nat} (ht : Tok t) (h : Spc t o) : ∃ j, o = t ++ List.replicate j 32 := by
  have one : ∀ c, c ≠ 32 → Spc [c] o → ∃ j, o = [c] ++ List.replicate j 32 := by
    clear h
    intro c hc g
    cases g with
    | sp k g => exact absurd rfl hc
    | ch _ _ g => cases g; exact ⟨0, rfl⟩
    | pc _ k _ g => cases g; exact ⟨k, by simp⟩
  rcases ht with rfl | rfl | rfl | rfl | rfl | rfl | rfl | ⟨n, hn, rfl⟩
  · exact ⟨0, by rw [h.word (by decide)]; rfl⟩
  · exact ⟨0, by rw [h.word (by decide)]; rfl⟩
  · exact one _ (by decide) h
  · exact one _ (by decide) h
  · exact one _ (by decide) h
  · exact one _ (by decide) h
  · exact one _ (by decide) h
  · exact one _ (by omega) h
theorem Spc.R {ts : List (List Nat)} {cs o : List Nat} (hT : ∀ t ∈ ts, Tok t) (h : R ts cs) (g : Spc cs o) : M18.R ts o := by
  induction h generalizing o with
  | nil k => obtain ⟨j, rfl⟩ := g.sps; exact .nil j
  | @cons k t ts cs h ih =>
    obtain ⟨o1, o2, rfl, a, b⟩ := g.split
    obtain ⟨o3, o4, rfl, c, e⟩ := b.split
    obtain ⟨j, rfl⟩ := a.sps
    obtain ⟨i, rfl⟩ := c.tok (hT t List.mem_cons_self)
    have := ih (fun u hu => hT u (List.mem_cons_of_mem _ hu)) e
    rw [List.append_assoc t]
    exact .cons j (this.pre i)
end M18
namespace Rd
open PySem PySem.Spec L2 Pw Gn M18
local macro_rules | `(tactic| walk_at "side") => `(tactic| first | assumption | omega | decide | (unfold CMul; omega) | (unfold CDiv; omega) | (unfold CPow; decide) | (simp; omega) | (simp; done))
local macro_rules | `(tactic| walk_at "rp") => `(tactic| first
  | exact rp_add_int | exact rp_sub | exact rp_eq_int | exact rp_ne_int | exact rp_lt | exact rp_le | exact rp_gt | exact rp_ge
  | exact rp_mod (by walk_at "side") | exact rp_mul (by walk_at "side") | exact rp_fdiv (by walk_at "side") | exact rp_pow (by walk_at "side")
  | exact rp_eq_str | exact rp_ne_str | exact rp_add_str (by walk_at "side") | exact rp_in_sg | exact rp_nin_sg | exact rp_add_tup (by walk_at "side")
  | exact rp_ix_tup (by walk_at "at") | exact rp_ix_lst (by walk_at "at") | exact rp_ix_str (by walk_at "side") (by walk_at "at"))
local macro_rules | `(tactic| walk_at "at") => `(tactic| first | rfl | assumption | (exact atI_nat (by first | rfl | assumption)))
local macro_rules | `(tactic| walk_at "wpa") => `(tactic| first | exact wpa_nil | (apply wpa_cons; (focus walk_at "wp"); walk_at "wpa"))
local macro_rules | `(tactic| walk_at "pl") => `(tactic| first | exact pl_var rfl | (apply pl_fld; (focus walk_at "pl"); (focus assumption); (focus assumption); rfl))
local macro_rules | `(tactic| walk_at "wp") => `(tactic| first
  | assumption
  | exact wp_var rfl | exact wp_int | exact wp_str | exact wp_bl | exact wp_non
  | (apply wp_len_own; (focus walk_at "pl"))
  | (apply wp_op; (focus walk_at "wp"); (focus walk_at "wp"); walk_at "rp")
  | (apply wp_cb; (focus walk_at "wpa"); first | exact cp_int | exact cp_int_bl | exact cp_len_lst | exact cp_len_tup | exact cp_len_str (by walk_at "side") | exact cp_tuple_lst | exact cp_tuple_tup | exact cp_str (by walk_at "side"))
  | (apply wp_tup; (focus walk_at "wpa"); decide)
  | (apply wp_un; (focus walk_at "wp"); exact up_neg)
  | (apply wp_l; walk_at "pl")
  | (apply wp_fld; (focus walk_at "wp"); (focus assumption); (focus assumption); rfl)
  | (apply wp_o; walk_at "wo")
  | (apply wp_notV; walk_at "wp"))
local macro_rules | `(tactic| walk_at "wo") => `(tactic| first
  | (apply wo_lst; (focus walk_at "wpa"); decide)
  | (apply wo_cb; (focus walk_at "wpa"); first | exact co_list_lst | exact co_list_tup | exact co_list_scr))
local macro_rules | `(tactic| walk_at "wt") => `(tactic| first
  | (apply wt_test; walk_at "wp") | (apply wt_tru; walk_at "wp") | (apply wt_B; walk_at "wp") | (apply wt_not; walk_at "wt")
  | (apply wt_and; (focus walk_at "wt"); (intro _; walk_at "wt")) | (apply wt_or; (focus walk_at "wt"); (intro _; walk_at "wt")))
local macro_rules | `(tactic| walk_at "fin") => `(tactic| (try simp only [List.set_cons_zero, List.set_cons_succ]))
local macro_rules | `(tactic| walk_at "lt") => `(tactic| first | decide | (simp only [List.length_cons, List.length_nil]; omega) | (simp; done))
local macro_rules | `(tactic| walk_at "seq") => `(tactic| (refine ws_seq ?_))
local macro_rules | `(tactic| walk_at "set") => `(tactic| (refine ws_set (by walk_at "wp") (by walk_at "lt") (by decide) ?_; walk_at "fin"))
local macro_rules | `(tactic| walk_at "setO") => `(tactic| (refine ws_setO (by walk_at "wo") (by walk_at "lt") (by decide) ?_; walk_at "fin"))
local macro_rules | `(tactic| walk_at "ret") => `(tactic| (refine ws_ret (by walk_at "wp") ?_))
local macro_rules | `(tactic| walk_at "if") => `(tactic| (refine ws_if (by walk_at "wt") ?_))
def kd : Ex → PySem.Str
  | .letter _ => ("letter" : PySem.Str)
  | .none => ("none" : PySem.Str)
  | .empty => ("empty" : PySem.Str)
  | .star _ => ("star" : PySem.Str)
  | .either _ _ => ("either" : PySem.Str)
  | .join _ _ => ("join" : PySem.Str)
def enc : Ex → D
  | .letter n => .tup [.str ("letter" : PySem.Str), .int n]
  | .none => .tup [.str ("none" : PySem.Str)]
  | .empty => .tup [.str ("empty" : PySem.Str)]
  | .star e => .tup [.str ("star" : PySem.Str), enc e]
  | .either a b => .tup [.str ("either" : PySem.Str), enc a, enc b]
  | .join a b => .tup [.str ("join" : PySem.Str), enc a, enc b]
def rkI (e : Ex) : Int := e.rank
def wr (e : Ex) (r : Int) : List Nat := par (decide (rkI e < r)) e.fmt
theorem wr_nat (e : Ex) (r : Nat) : wr e r = par (decide (e.rank < r)) e.fmt := by
  unfold wr rkI
  congr 1
  exact decide_eq_decide.mpr (by omega)
def spFmt (h : Nat) : FS := pfa (fun e : Ex => [enc e]) (fun e => e.ok ∧ e.ht < h ∧ h ≤ 5) (fun e => .str (Tx e.fmt))
def spWithin (h : Nat) : FS := pfa (fun a : Ex × Int => [enc a.1, .int a.2]) (fun a => a.1.ok ∧ a.1.ht < h ∧ h ≤ 5) (fun a => .str (Tx (wr a.1 a.2)))
theorem fmt_le {e : Ex} {h : Nat} (h1 : e.ht < h) (h2 : h ≤ 5) : e.fmt.length ≤ 200 := by
  have := fmt_len e
  have h3 : 2 ^ e.ht ≤ 2 ^ 4 := Nat.pow_le_pow_right (by omega) (by omega)
  omega
theorem wr_le {e : Ex} {r : Int} {h : Nat} (h1 : e.ht < h) (h2 : h ≤ 5) : (wr e r).length ≤ 202 := by
  have h3 := par_len (decide (rkI e < r)) e.fmt
  have h4 := fmt_le h1 h2
  unfold wr
  omega
theorem sl_le {n : Nat} (h : n ≤ 100000) : n ≤ sizeLine := Nat.le_trans h (by decide)
theorem rp_addT {K : PySem.W.Frag} {a b : List Nat} (h : a.length + b.length ≤ 100000) : RP K (rADD K) (.str (Tx a)) (.str (Tx b)) (.str (Tx (a ++ b))) := by
  rw [← Tx_app]
  exact rp_add_str (by rw [Tx_len, Tx_len]; exact sl_le h)
theorem wp_lit {K : PySem.W.Frag} {δ : Dl} {s : PySem.Str} (l : List Nat) (h : s = Tx l := by decide +kernel) : WP K (tC (.str s)) δ (.str (Tx l)) := h ▸ wp_str
theorem rd_within {K : PySem.W.Frag} {A : Addr} {w : World} {h : Nat} (hR : ∀ e : Ex, KDct K w A (kd e) (.int (rkI e))) : ∀ vs H Q E, toSp K (spWithin h) vs H Q E → t_within K (toSp K (spFmt h)) A w { nx := fun _ H' => Q .non H', rt := Q } (L2.start N_within vs) H := by
  refine body_of (np := 2) ?_
  rintro xs Φ ⟨⟨e, r⟩, rfl, ⟨hok, hh, h4⟩, hk⟩
  refine ⟨rfl, ?_⟩
  show WS K [0, 1] _ [some (.dat (enc e)), some (.dat (.int r)), none] _
  walk_at "seq"
  refine ws_set (wp_callA e (by walk_at "wpa") ⟨hok, hh, h4⟩) (by walk_at "lt") (by decide) ?_
  walk_at "fin"
  walk_at "seq"
  have hf : e.fmt.length ≤ 200 := fmt_le hh h4
  refine ws_if (wt_test (wp_op (wp_ixKD (d := .int (rkI e)) (z := kd e) (wp_op (wp_var rfl) wp_int (by cases e <;> exact rp_ix_tup rfl)) (hR e) fun G => .int _) (wp_var rfl) rp_lt)) ?_
  by_cases q : rkI e < r
  · rw [if_pos (by simpa using q)]
    refine ws_ret (wp_op (wp_op (wp_lit [40]) (wp_var rfl) (rp_addT (by simp; omega))) (wp_lit [41]) (rp_addT (by simp; omega))) ?_
    refine ⟨[.dat (enc e), .dat (.int r)], rfl, ?_⟩
    have : wr e r = [40] ++ e.fmt ++ [41] := by unfold wr par; rw [if_pos (by simpa using q)]
    rw [← this]
    exact hk
  · rw [if_neg (by simpa using q)]
    refine ws_next ?_
    refine ws_ret (wp_var rfl) ?_
    refine ⟨[.dat (enc e), .dat (.int r)], rfl, ?_⟩
    have : wr e r = e.fmt := by unfold wr par; rw [if_neg (by simpa using q)]
    rw [← this]
    exact hk
theorem dig_str : ∀ n : Nat, n < 10 → (toString (n : Int) : PySem.Str) = Tx [48 + n] := by decide +kernel
theorem rd_format {K : PySem.W.Frag} {h : Nat} : ∀ vs H Q E, toSp K (spFmt (h + 1)) vs H Q E → t_format_expression K (toSp K (spWithin h)) { nx := fun _ H' => Q .non H', rt := Q } (L2.start N_format_expression vs) H := by
  refine body_of (np := 1) ?_
  rintro xs Φ ⟨e, rfl, ⟨hok, hh, h4⟩, hk⟩
  refine ⟨rfl, ?_⟩
  show WS K [0] _ [some (.dat (enc e)), none] _
  walk_at "seq"
  refine ws_set (d := .str (kd e)) (wp_op (wp_var rfl) wp_int (by cases e <;> exact rp_ix_tup rfl)) (by walk_at "lt") (by decide) ?_
  walk_at "fin"
  have fin : ∀ s : List Nat, s = e.fmt → ∃ ys : List OV, List.take 1 [some (OV.dat (enc e)), some (OV.dat (.str (kd e)))] = ys.map some ∧ Φ (.dat (.str (Tx s))) ys := fun s hs => ⟨[.dat (enc e)], rfl, by subst hs; exact hk⟩
  walk_at "seq"
  walk_at "if"
  cases e with
  | letter n =>
    rw [if_pos (by rfl)]
    have hn : n < 10 := hok
    refine ws_ret (wp_cb (wpa_cons (wp_op (wp_var rfl) wp_int (rp_ix_tup rfl)) wpa_nil) (cp_str (by
      have h1 : n.log2 ≤ n := Nat.log2_le_self n
      show (n : Int).natAbs.log2 < 1920
      rw [Int.natAbs_natCast]
      omega))) ?_
    rw [dig_str n hn]
    exact fin _ rfl
  | none =>
    rw [if_neg (by decide +kernel)]
    refine ws_next ?_
    walk_at "seq"; walk_at "if"
    rw [if_neg (by decide +kernel)]
    refine ws_next ?_
    walk_at "seq"; walk_at "if"
    rw [if_neg (by decide +kernel)]
    refine ws_next ?_
    walk_at "seq"; walk_at "if"
    rw [if_neg (by decide +kernel)]
    refine ws_next ?_
    refine ws_ret (wp_var rfl) ?_
    exact fin wNone rfl
  | empty =>
    rw [if_neg (by decide +kernel)]
    refine ws_next ?_
    walk_at "seq"; walk_at "if"
    rw [if_neg (by decide +kernel)]
    refine ws_next ?_
    walk_at "seq"; walk_at "if"
    rw [if_neg (by decide +kernel)]
    refine ws_next ?_
    walk_at "seq"; walk_at "if"
    rw [if_neg (by decide +kernel)]
    refine ws_next ?_
    refine ws_ret (wp_var rfl) ?_
    exact fin wEmpty rfl
  | star a =>
    have ha : a.ht < h := by simp only [Ex.ht] at hh; omega
    have l1 := wr_le (r := 3) ha (by omega)
    rw [if_neg (by show ¬ decide (("star" : PySem.Str) = ("letter" : PySem.Str)) = true; decide +kernel)]
    refine ws_next ?_
    walk_at "seq"; walk_at "if"
    rw [if_pos (by rfl)]
    refine ws_ret (wp_op (wp_callA (a, 3) (wpa_cons (wp_op (wp_var rfl) wp_int (rp_ix_tup rfl)) (wpa_cons wp_int wpa_nil)) ⟨hok, ha, by omega⟩) (wp_lit [42]) (rp_addT (by simp; omega))) ?_
    exact fin _ (by show wr a ((3 : Nat) : Int) ++ [42] = _; rw [wr_nat]; rfl)
  | either a b =>
    have ha : a.ht < h := by simp only [Ex.ht] at hh; omega
    have hb : b.ht < h := by simp only [Ex.ht] at hh; omega
    have l1 := wr_le (r := 1) ha (by omega)
    have l2 := wr_le (r := 2) hb (by omega)
    rw [if_neg (by show ¬ decide (("either" : PySem.Str) = ("letter" : PySem.Str)) = true; decide +kernel)]
    refine ws_next ?_
    walk_at "seq"; walk_at "if"
    rw [if_neg (by show ¬ decide (("either" : PySem.Str) = ("star" : PySem.Str)) = true; decide +kernel)]
    refine ws_next ?_
    walk_at "seq"; walk_at "if"
    rw [if_pos (by rfl)]
    refine ws_ret (wp_op (wp_op (wp_callA (a, 1) (wpa_cons (wp_op (wp_var rfl) wp_int (rp_ix_tup rfl)) (wpa_cons wp_int wpa_nil)) ⟨hok.1, ha, by omega⟩) (wp_lit [32, 43, 32]) (rp_addT (by simp; omega)))
      (wp_callA (b, 2) (wpa_cons (wp_op (wp_var rfl) wp_int (rp_ix_tup rfl)) (wpa_cons wp_int wpa_nil)) ⟨hok.2, hb, by omega⟩) (rp_addT (by simp; omega))) ?_
    exact fin _ (by show wr a ((1 : Nat) : Int) ++ [32, 43, 32] ++ wr b ((2 : Nat) : Int) = _; rw [wr_nat, wr_nat]; rfl)
  | join a b =>
    have ha : a.ht < h := by simp only [Ex.ht] at hh; omega
    have hb : b.ht < h := by simp only [Ex.ht] at hh; omega
    have l1 := wr_le (r := 2) ha (by omega)
    have l2 := wr_le (r := 3) hb (by omega)
    rw [if_neg (by show ¬ decide (("join" : PySem.Str) = ("letter" : PySem.Str)) = true; decide +kernel)]
    refine ws_next ?_
    walk_at "seq"; walk_at "if"
    rw [if_neg (by show ¬ decide (("join" : PySem.Str) = ("star" : PySem.Str)) = true; decide +kernel)]
    refine ws_next ?_
    walk_at "seq"; walk_at "if"
    rw [if_neg (by show ¬ decide (("join" : PySem.Str) = ("either" : PySem.Str)) = true; decide +kernel)]
    refine ws_next ?_
    walk_at "seq"; walk_at "if"
    rw [if_pos (by rfl)]
    refine ws_ret (wp_op (wp_op (wp_callA (a, 2) (wpa_cons (wp_op (wp_var rfl) wp_int (rp_ix_tup rfl)) (wpa_cons wp_int wpa_nil)) ⟨hok.1, ha, by omega⟩) (wp_lit [32, 46, 32]) (rp_addT (by simp; omega)))
      (wp_callA (b, 3) (wpa_cons (wp_op (wp_var rfl) wp_int (rp_ix_tup rfl)) (wpa_cons wp_int wpa_nil)) ⟨hok.2, hb, by omega⟩) (rp_addT (by simp; omega))) ?_
    exact fin _ (by show wr a ((2 : Nat) : Int) ++ [32, 46, 32] ++ wr b ((3 : Nat) : Int) = _; rw [wr_nat, wr_nat]; rfl)
def spPrinted (h : Nat) : FS := pfa (fun a : Ex × Int => [enc a.1, .int a.2]) (fun a => (a.1.ok ∧ a.1.ht < h ∧ h ≤ 5) ∧ a.2 ≤ 3) (fun a => .str (Tx (wr a.1 a.2)))
theorem wr_no {e : Ex} {r : Int} (h : r ≤ rkI e) : wr e r = e.fmt := by unfold wr par; rw [if_neg (by simpa using h)]
theorem rd_printed {K : PySem.W.Frag} {h : Nat} : ∀ vs H Q E, toSp K (spPrinted (h + 1)) vs H Q E → t_law_printed K (toSp K (spPrinted h)) { nx := fun _ H' => Q .non H', rt := Q } (L2.start N_law_printed vs) H := by
  refine body_of (np := 2) ?_
  rintro xs Φ ⟨⟨e, r⟩, rfl, ⟨⟨hok, hh, h4⟩, hr⟩, hk⟩
  have hr : r ≤ 3 := hr
  have hh : e.ht < h + 1 := hh
  have hok : e.ok := hok
  refine ⟨rfl, ?_⟩
  show WS K [0, 1] _ [some (.dat (enc e)), some (.dat (.int r)), none, none, none] _
  walk_at "seq"
  refine ws_set (d := .str (kd e)) (wp_op (wp_var rfl) wp_int (by cases e <;> exact rp_ix_tup rfl)) (by walk_at "lt") (by decide) ?_
  walk_at "fin"
  have fin : ∀ (s : List Nat) (a b c : Option OV), s = wr e r → ∃ ys : List OV, List.take 2 [some (OV.dat (enc e)), some (OV.dat (.int r)), a, b, c] = ys.map some ∧ Φ (.dat (.str (Tx s))) ys := fun s a b c hs => ⟨[.dat (enc e), .dat (.int r)], rfl, by subst hs; exact hk⟩
  walk_at "seq"
  walk_at "if"
  have wrap : ∀ (l : List Nat) (o : Int) (δ : Dl), o = rkI e → l = e.fmt → δ = [some (.dat (enc e)), some (.dat (.int r)), some (.dat (.str (kd e))), some (.dat (.str (Tx l))), some (.dat (.int o))] →
      WS K [0, 1] (tSeq (tIfS (tTest (tOp (rLT K) (tVar 4) (tVar 1))) (tRet (tOp (rADD K) (tOp (rADD K) (tC (.str ("(" : PySem.Str))) (tVar 3)) (tC (.str (")" : PySem.Str))))) tNext) (tRet (tVar 3))) δ { nx := fun δ' => ∃ xs', δ'.take 2 = xs'.map some ∧ Φ (.dat .non) xs', rt := fun x δ' => ∃ xs', δ'.take 2 = xs'.map some ∧ Φ x xs' } := by
    intro l o δ ho hl hδ
    subst ho hl hδ
    have hf : e.fmt.length ≤ 200 := fmt_le hh h4
    walk_at "seq"
    walk_at "if"
    by_cases q : rkI e < r
    · rw [if_pos (by simpa using q)]
      refine ws_ret (wp_op (wp_op (wp_lit [40]) (wp_var rfl) (rp_addT (by simp; omega))) (wp_lit [41]) (rp_addT (by simp; omega))) ?_
      exact fin _ _ _ _ (by unfold wr par; rw [if_pos (by simpa using q)])
    · rw [if_neg (by simpa using q)]
      refine ws_next ?_
      refine ws_ret (wp_var rfl) ?_
      exact fin _ _ _ _ (wr_no (by omega)).symm
  cases e with
  | letter n =>
    rw [if_pos (by rfl)]
    have hn : n < 10 := hok
    refine ws_ret (wp_cb (wpa_cons (wp_op (wp_var rfl) wp_int (rp_ix_tup rfl)) wpa_nil) (cp_str (by
      have h1 : n.log2 ≤ n := Nat.log2_le_self n
      show (n : Int).natAbs.log2 < 1920
      rw [Int.natAbs_natCast]
      omega))) ?_
    rw [dig_str n hn]
    exact fin _ _ _ _ (wr_no (e := .letter n) (r := r) (show r ≤ 4 by omega)).symm
  | none =>
    rw [if_neg (by show ¬ decide (("none" : PySem.Str) = ("letter" : PySem.Str)) = true; decide +kernel)]
    refine ws_next ?_
    walk_at "seq"; walk_at "if"
    rw [if_neg (by show ¬ decide (("none" : PySem.Str) = ("star" : PySem.Str)) = true; decide +kernel)]
    refine ws_next ?_
    walk_at "seq"; walk_at "if"
    rw [if_neg (by show ¬ decide (("none" : PySem.Str) = ("either" : PySem.Str)) = true; decide +kernel)]
    walk_at "if"
    rw [if_neg (by show ¬ decide (("none" : PySem.Str) = ("join" : PySem.Str)) = true; decide +kernel)]
    refine ws_ret (wp_var rfl) ?_
    exact fin wNone _ _ _ (wr_no (e := .none) (r := r) (show r ≤ 4 by omega)).symm
  | empty =>
    rw [if_neg (by show ¬ decide (("empty" : PySem.Str) = ("letter" : PySem.Str)) = true; decide +kernel)]
    refine ws_next ?_
    walk_at "seq"; walk_at "if"
    rw [if_neg (by show ¬ decide (("empty" : PySem.Str) = ("star" : PySem.Str)) = true; decide +kernel)]
    refine ws_next ?_
    walk_at "seq"; walk_at "if"
    rw [if_neg (by show ¬ decide (("empty" : PySem.Str) = ("either" : PySem.Str)) = true; decide +kernel)]
    walk_at "if"
    rw [if_neg (by show ¬ decide (("empty" : PySem.Str) = ("join" : PySem.Str)) = true; decide +kernel)]
    refine ws_ret (wp_var rfl) ?_
    exact fin wEmpty _ _ _ (wr_no (e := .empty) (r := r) (show r ≤ 4 by omega)).symm
  | star a =>
    have ha : a.ht < h := by simp only [Ex.ht] at hh; omega
    have l1 := wr_le (r := 3) ha (by omega)
    rw [if_neg (by show ¬ decide (("star" : PySem.Str) = ("letter" : PySem.Str)) = true; decide +kernel)]
    refine ws_next ?_
    walk_at "seq"; walk_at "if"
    rw [if_pos (by rfl)]
    refine ws_ret (wp_op (wp_callA (a, 3) (wpa_cons (wp_op (wp_var rfl) wp_int (rp_ix_tup rfl)) (wpa_cons wp_int wpa_nil)) ⟨⟨hok, ha, by omega⟩, by dsimp only; omega⟩) (wp_lit [42]) (rp_addT (by simp; omega))) ?_
    exact fin _ _ _ _ (by rw [wr_no (e := .star a) (r := r) (show r ≤ 3 by omega)]; show wr a ((3 : Nat) : Int) ++ [42] = _; rw [wr_nat]; rfl)
  | either a b =>
    have ha : a.ht < h := by simp only [Ex.ht] at hh; omega
    have hb : b.ht < h := by simp only [Ex.ht] at hh; omega
    have l1 := wr_le (r := 1) ha (by omega)
    have l2 := wr_le (r := 2) hb (by omega)
    rw [if_neg (by show ¬ decide (("either" : PySem.Str) = ("letter" : PySem.Str)) = true; decide +kernel)]
    refine ws_next ?_
    walk_at "seq"; walk_at "if"
    rw [if_neg (by show ¬ decide (("either" : PySem.Str) = ("star" : PySem.Str)) = true; decide +kernel)]
    refine ws_next ?_
    walk_at "seq"; walk_at "if"
    rw [if_pos (by rfl)]
    walk_at "seq"
    refine ws_set (wp_op (wp_op (wp_callA (a, 1) (wpa_cons (wp_op (wp_var rfl) wp_int (rp_ix_tup rfl)) (wpa_cons wp_int wpa_nil)) ⟨⟨hok.1, ha, by omega⟩, by dsimp only; omega⟩) (wp_lit [32, 43, 32]) (rp_addT (by simp; omega)))
      (wp_callA (b, 2) (wpa_cons (wp_op (wp_var rfl) wp_int (rp_ix_tup rfl)) (wpa_cons wp_int wpa_nil)) ⟨⟨hok.2, hb, by omega⟩, by dsimp only; omega⟩) (rp_addT (by simp; omega))) (by walk_at "lt") (by decide) ?_
    walk_at "fin"
    walk_at "set"
    exact wrap _ 1 _ rfl (by show wr a ((1 : Nat) : Int) ++ [32, 43, 32] ++ wr b ((2 : Nat) : Int) = _; rw [wr_nat, wr_nat]; rfl) rfl
  | join a b =>
    have ha : a.ht < h := by simp only [Ex.ht] at hh; omega
    have hb : b.ht < h := by simp only [Ex.ht] at hh; omega
    have l1 := wr_le (r := 2) ha (by omega)
    have l2 := wr_le (r := 3) hb (by omega)
    rw [if_neg (by show ¬ decide (("join" : PySem.Str) = ("letter" : PySem.Str)) = true; decide +kernel)]
    refine ws_next ?_
    walk_at "seq"; walk_at "if"
    rw [if_neg (by show ¬ decide (("join" : PySem.Str) = ("star" : PySem.Str)) = true; decide +kernel)]
    refine ws_next ?_
    walk_at "seq"; walk_at "if"
    rw [if_neg (by show ¬ decide (("join" : PySem.Str) = ("either" : PySem.Str)) = true; decide +kernel)]
    walk_at "if"
    rw [if_pos (by rfl)]
    walk_at "seq"
    refine ws_set (wp_op (wp_op (wp_callA (a, 2) (wpa_cons (wp_op (wp_var rfl) wp_int (rp_ix_tup rfl)) (wpa_cons wp_int wpa_nil)) ⟨⟨hok.1, ha, by omega⟩, by dsimp only; omega⟩) (wp_lit [32, 46, 32]) (rp_addT (by simp; omega)))
      (wp_callA (b, 3) (wpa_cons (wp_op (wp_var rfl) wp_int (rp_ix_tup rfl)) (wpa_cons wp_int wpa_nil)) ⟨⟨hok.2, hb, by omega⟩, by dsimp only; omega⟩) (rp_addT (by simp; omega))) (by walk_at "lt") (by decide) ?_
    walk_at "fin"
    walk_at "set"
    exact wrap _ 2 _ rfl (by show wr a ((2 : Nat) : Int) ++ [32, 46, 32] ++ wr b ((3 : Nat) : Int) = _; rw [wr_nat, wr_nat]; rfl) rfl
end Rd
namespace Rd
open PySem PySem.Spec L2 Pw Gn
local macro_rules | `(tactic| walk_at "side") => `(tactic| first | assumption | omega | decide | (unfold CMul; omega) | (unfold CDiv; omega) | (unfold CPow; decide) | (simp; omega) | (simp; done))
local macro_rules | `(tactic| walk_at "rp") => `(tactic| first
  | exact rp_add_int | exact rp_sub | exact rp_eq_int | exact rp_ne_int | exact rp_lt | exact rp_le | exact rp_gt | exact rp_ge
  | exact rp_mod (by walk_at "side") | exact rp_mul (by walk_at "side") | exact rp_fdiv (by walk_at "side") | exact rp_pow (by walk_at "side")
  | exact rp_eq_str | exact rp_ne_str | exact rp_add_str (by walk_at "side") | exact rp_in_sg | exact rp_nin_sg | exact rp_add_tup (by walk_at "side")
  | exact rp_ix_tup (by walk_at "at") | exact rp_ix_lst (by walk_at "at") | exact rp_ix_str (by walk_at "side") (by walk_at "at"))
local macro_rules | `(tactic| walk_at "at") => `(tactic| first | rfl | assumption | (exact atI_nat (by first | rfl | assumption)))
local macro_rules | `(tactic| walk_at "wpa") => `(tactic| first | exact wpa_nil | (apply wpa_cons; (focus walk_at "wp"); walk_at "wpa"))
local macro_rules | `(tactic| walk_at "pl") => `(tactic| first | exact pl_var rfl | (apply pl_fld; (focus walk_at "pl"); (focus assumption); (focus assumption); rfl))
local macro_rules | `(tactic| walk_at "wp") => `(tactic| first
  | assumption
  | exact wp_var rfl | exact wp_int | exact wp_str | exact wp_bl | exact wp_non
  | (apply wp_len_own; (focus walk_at "pl"))
  | (apply wp_op; (focus walk_at "wp"); (focus walk_at "wp"); walk_at "rp")
  | (apply wp_cb; (focus walk_at "wpa"); first | exact cp_int | exact cp_int_bl | exact cp_len_lst | exact cp_len_tup | exact cp_len_str (by walk_at "side") | exact cp_tuple_lst | exact cp_tuple_tup | exact cp_str (by walk_at "side"))
  | (apply wp_tup; (focus walk_at "wpa"); (first | decide | simp))
  | (apply wp_un; (focus walk_at "wp"); exact up_neg)
  | (apply wp_l; walk_at "pl")
  | (apply wp_fld; (focus walk_at "wp"); (focus assumption); (focus assumption); rfl)
  | (apply wp_o; walk_at "wo")
  | (apply wp_notV; walk_at "wp"))
local macro_rules | `(tactic| walk_at "wo") => `(tactic| first
  | (apply wo_lst; (focus walk_at "wpa"); (first | decide | simp))
  | (apply wo_cb; (focus walk_at "wpa"); first | exact co_list_lst | exact co_list_tup | exact co_list_scr))
local macro_rules | `(tactic| walk_at "wt") => `(tactic| first
  | (apply wt_test; walk_at "wp") | (apply wt_tru; walk_at "wp") | (apply wt_B; walk_at "wp") | (apply wt_not; walk_at "wt")
  | (apply wt_and; (focus walk_at "wt"); (intro _; walk_at "wt")) | (apply wt_or; (focus walk_at "wt"); (intro _; walk_at "wt")))
local macro_rules | `(tactic| walk_at "fin") => `(tactic| (try simp only [List.set_cons_zero, List.set_cons_succ]))
local macro_rules | `(tactic| walk_at "lt") => `(tactic| first | decide | (simp only [List.length_cons, List.length_nil]; omega) | (simp; done))
local macro_rules | `(tactic| walk_at "seq") => `(tactic| (refine ws_seq ?_))
local macro_rules | `(tactic| walk_at "set") => `(tactic| (refine ws_set (by walk_at "wp") (by walk_at "lt") (by decide) ?_; walk_at "fin"))
local macro_rules | `(tactic| walk_at "setO") => `(tactic| (refine ws_setO (by walk_at "wo") (by walk_at "lt") (by decide) ?_; walk_at "fin"))
local macro_rules | `(tactic| walk_at "ret") => `(tactic| (refine ws_ret (by walk_at "wp") ?_))
local macro_rules | `(tactic| walk_at "if") => `(tactic| (refine ws_if (by walk_at "wt") ?_))
/-- numbers of a list that is owned -/
def ownI (ms : List Int) : OV := .lst ((ms.map D.int).map OV.dat)
theorem ownI_len (ms : List Int) : ((ms.map D.int).map OV.dat).length = ms.length := by simp
def Dr (ms : List Int) : Prop := (∀ m ∈ ms, 0 ≤ m ∧ m < 1000) ∧ ms.length ≤ 1000
def spTake : FS := fun xs Φ => ∃ ms n, xs = [ownI ms, .dat (.int n)] ∧ 0 < n ∧ Dr ms ∧ ∀ v ms', 0 ≤ v → v < n → Dr ms' → Φ (.dat (.int v)) [ownI ms', .dat (.int n)]
theorem rd_take {K : PySem.W.Frag} : ∀ vs H Q E, toSp K spTake vs H Q E → t_law_take K { nx := fun _ H' => Q .non H', rt := Q } (L2.start N_law_take vs) H := by
  refine body_of (np := 2) ?_
  rintro xs Φ ⟨ms, n, rfl, hn, hd, hk⟩
  refine ⟨rfl, ?_⟩
  show WS K [0, 1] _ [some (ownI ms), some (.dat (.int n))] _
  walk_at "seq"
  walk_at "if"
  by_cases h : ms = []
  · subst h
    refine iteT ?_
    walk_at "ret"
    exact ⟨[ownI [], .dat (.int n)], rfl, hk 0 [] (by omega) hn hd⟩
  · rw [if_neg (by simp [h])]
    refine ws_next ?_
    obtain ⟨m, ms', rfl⟩ : ∃ m ms', ms = ms' ++ [m] := ⟨ms.getLast h, ms.dropLast, (List.dropLast_concat_getLast h).symm⟩
    have hd' : Dr ms' := ⟨fun x hx => hd.1 x (List.mem_append_left _ hx), by have := hd.2; simp at this ⊢; omega⟩
    refine ws_retE (we_op (we_cb (wa_val (we_pop (xs := (ms'.map D.int).map OV.dat) (d := .int m) (by
      have : ownI (ms' ++ [m]) = .lst ((ms'.map D.int).map OV.dat ++ [.dat (.int m)]) := by simp [ownI]
      rw [this]
      exact pm_var rfl) (wa_nil ⟨[.int m], rfl, _, cp_int, _, rfl, we_p (wp_var rfl) ⟨_, rfl, _, rp_mod hn, ?_⟩⟩)))))
    exact ⟨[ownI ms', .dat (.int n)], rfl, hk _ ms' (Int.emod_nonneg _ (by omega)) (Int.emod_lt_of_pos _ hn) hd'⟩
/-- a draw -/
theorem we_take {K : PySem.W.Frag} {δ : Dl} {ms : List Int} {n : Int} {i : Nat} {tn : TE} {Φ : OV → Dl → Prop} (h : δ[i]? = some (some (ownI ms))) (hn : WP K tn δ (.int n)) (h0 : 0 < n) (hd : Dr ms) (q : ∀ v ms', 0 ≤ v → v < n → Dr ms' → Φ (.dat (.int v)) (δ.set i (some (ownI ms')))) :
    WE K (tCall (toSp K spTake) [] E0 (tCons (tVar i) (tCons tn tNil))) δ Φ :=
  we_call (wa_slt ⟨_, h⟩ (wa_p hn (wa_nil ⟨[ownI ms, .dat (.int n)], by simp [argsOf, h], by simp [slots], ms, n, rfl, h0, hd, q⟩)))
def spDraws : FS := fun xs Φ => ∃ ns c, xs = [.dat (.scr ns), .dat (.int c)] ∧ 0 ≤ c ∧ c ≤ 1000 ∧ ns.length ≤ 63 ∧ ∀ ms, Dr ms → Φ (ownI ms) xs
theorem rd_draws {K : PySem.W.Frag} : ∀ vs H Q E, toSp K spDraws vs H Q E → t_law_draws K { nx := fun _ H' => Q .non H', rt := Q } (L2.start N_law_draws vs) H := by
  refine body_of (np := 2) ?_
  rintro xs Φ ⟨ns, c, rfl, hc, hc2, hns, hk⟩
  refine ⟨rfl, ?_⟩
  show WS K [0, 1] _ [some (.dat (.scr ns)), some (.dat (.int c)), none, none, none, none, none, none, none] _
  walk_at "seq"
  walk_at "setO"
  walk_at "seq"
  refine ws_cut (fun δ' => ∃ cs : List Int, 0 < cs.length ∧ cs.length ≤ 63 ∧ δ' = [some (.dat (.scr ns)), some (.dat (.int c)), some (ownI cs), none, none, none, none, none, none]) ?_ ?_
  · walk_at "if"
    by_cases h : ns = []
    · subst h
      refine iteT ?_
      walk_at "setO"
      exact ⟨[7], by simp, by simp, rfl⟩
    · rw [if_neg (by simp [h])]
      refine ws_next ⟨ns, List.length_pos_iff.mpr h, hns, rfl⟩
  rintro _ ⟨cs, hc0, hc63, rfl⟩
  walk_at "seq"
  walk_at "setO"
  walk_at "seq"
  walk_at "set"
  walk_at "seq"
  refine ws_for (ds := rgD 0 c.toNat) (wi_rng1 (by walk_at "wpa") (by omega) (by omega)) (fun i δ' => ∃ (cs ms : List Int) (mx : Int) (a b d e : Option OV), cs.length ≤ 63 ∧ 0 < cs.length ∧ Dr ms ∧ ms.length = i ∧ 0 ≤ mx ∧ mx < 2147483647 ∧
    δ' = [some (.dat (.scr ns)), some (.dat (.int c)), some (ownI cs), some (ownI ms), some (.dat (.int mx)), a, b, d, e]) ?_ ?_ ?_
  · exact ⟨cs, [], 12345, none, none, none, none, hc63, hc0, ⟨by simp, by simp⟩, rfl, by omega, by omega, rfl⟩
  · rintro i d δ' hi ⟨cs, ms, mx, o5, o6, o7, o8, hl, hl0, hd, hms, hm0, hm1, rfl⟩
    have hic : i < c.toNat := by have := get_lt hi; rwa [rgD_length] at this
    rw [rgD_get hic] at hi
    cases hi
    refine wg_name (by walk_at "lt") (by decide) ?_
    walk_at "fin"
    walk_at "seq"
    have hlen : 0 < ((((cs.map D.int).map OV.dat).length : Nat) : Int) := by simp; omega
    walk_at "set"
    walk_at "seq"
    obtain ⟨j, hj, ej⟩ : ∃ j : Nat, j < cs.length ∧ (0 + (i : Int)) % (((cs.map D.int).map OV.dat).length : Nat) = (j : Int) := by
      have h1 := Int.emod_nonneg (0 + (i : Int)) (show ((((cs.map D.int).map OV.dat).length : Nat) : Int) ≠ 0 by omega)
      have h2 := Int.emod_lt_of_pos (0 + (i : Int)) hlen
      refine ⟨((0 + (i : Int)) % (((cs.map D.int).map OV.dat).length : Nat)).toNat, ?_, by omega⟩
      simp only [List.length_map] at h1 h2 ⊢
      omega
    rw [ej]
    have hix : ixN ((cs.map D.int).map OV.dat).length (j : Int) = some j := ixN_nat (by simp; exact hj)
    have hget : ((cs.map D.int).map OV.dat)[j]? = some (.dat (.int cs[j])) := by simp [hj]
    refine ws_set (wp_ix_own (pl_var rfl) (wp_var rfl) hix hget) (by walk_at "lt") (by decide) ?_
    walk_at "fin"
    generalize cs[j] = cell
    walk_at "seq"
    walk_at "set"
    generalize hmx : (_ : Int) % 2147483647 = mx'
    have hm0' : 0 ≤ mx' := by rw [← hmx]; exact Int.emod_nonneg _ (by decide)
    have hm1' : mx' < 2147483647 := by rw [← hmx]; exact Int.emod_lt_of_pos _ (by decide)
    clear hmx
    walk_at "seq"
    walk_at "set"
    generalize (_ : Int) % 1000003 = ag
    have h1000 : ∀ z : Int, Dr (ms ++ [z % 1000]) := fun z => ⟨fun m hm => by
      rcases List.mem_append.mp hm with q | q
      · exact hd.1 m q
      · have : m = z % 1000 := by simpa using q
        subst this
        exact ⟨Int.emod_nonneg _ (by decide), Int.emod_lt_of_pos _ (by decide)⟩, by simp; omega⟩
    have happ : ∀ z : Int, OV.lst ((ms.map D.int).map OV.dat ++ [.dat (.int z)]) = ownI (ms ++ [z]) := fun z => by simp [ownI]
    have hml : ((ms.map D.int).map OV.dat).length < 1000000 := by simp; omega
    walk_at "if"
    refine ite2 (fun _ => ?_) (fun _ => ?_)
    · walk_at "seq"
      refine ws_drop (we_append (pm_var rfl) (by walk_at "wp") hml ?_)
      rw [happ]
      walk_at "fin"
      refine ws_setix (by walk_at "wp") (pm_var rfl) (wp_var rfl) hix ⟨_, hget⟩ ?_
      walk_at "fin"
      have e2 : OV.lst (((cs.map D.int).map OV.dat).set j (.dat (.int (cell / 1000)))) = ownI (cs.set j (cell / 1000)) := by simp [ownI, List.map_set]
      rw [e2]
      exact ⟨cs.set j (cell / 1000), _, _, _, _, _, _, by simpa using hl, by simpa using hl0, h1000 cell, by simp [hms], hm0', hm1', rfl⟩
    · refine ws_drop (we_append (pm_var rfl) (by walk_at "wp") hml ?_)
      rw [happ]
      walk_at "fin"
      exact ⟨cs, _, _, _, _, _, _, hl, hl0, h1000 ag, by simp [hms], hm0', hm1', rfl⟩
  · rintro _ ⟨cs, ms, mx, o5, o6, o7, o8, hl, hl0, hd, hms, hm0, hm1, rfl⟩
    walk_at "seq"
    refine ws_drop (we_reverse (pm_var rfl) ?_)
    walk_at "fin"
    have e : OV.lst ((ms.map D.int).reverse.map OV.dat) = ownI ms.reverse := by simp [ownI]
    rw [e]
    refine ws_retE (we_mv (i := 3) rfl ?_)
    exact ⟨_, rfl, hk _ ⟨fun m hm => hd.1 m (List.mem_reverse.mp hm), by simpa using hd.2⟩⟩
end Rd
namespace Rd
open PySem PySem.Spec L2 Pw Gn M18
local macro_rules | `(tactic| walk_at "side") => `(tactic| first | assumption | omega | decide | (unfold CMul; omega) | (unfold CDiv; omega) | (unfold CPow; decide) | (simp; omega) | (simp; done))
local macro_rules | `(tactic| walk_at "rp") => `(tactic| first
  | exact rp_add_int | exact rp_sub | exact rp_eq_int | exact rp_ne_int | exact rp_lt | exact rp_le | exact rp_gt | exact rp_ge
  | exact rp_mod (by walk_at "side") | exact rp_mul (by walk_at "side") | exact rp_fdiv (by walk_at "side") | exact rp_pow (by walk_at "side")
  | exact rp_eq_str | exact rp_ne_str | exact rp_add_str (by walk_at "side") | exact rp_in_sg | exact rp_nin_sg | exact rp_add_tup (by walk_at "side")
  | exact rp_ix_tup (by walk_at "at") | exact rp_ix_lst (by walk_at "at") | exact rp_ix_str (by walk_at "side") (by walk_at "at"))
local macro_rules | `(tactic| walk_at "at") => `(tactic| first | rfl | assumption | (exact atI_nat (by first | rfl | assumption)))
local macro_rules | `(tactic| walk_at "wpa") => `(tactic| first | exact wpa_nil | (apply wpa_cons; (focus walk_at "wp"); walk_at "wpa"))
local macro_rules | `(tactic| walk_at "pl") => `(tactic| first | exact pl_var rfl | (apply pl_fld; (focus walk_at "pl"); (focus assumption); (focus assumption); rfl))
local macro_rules | `(tactic| walk_at "wp") => `(tactic| first
  | assumption
  | exact wp_var rfl | exact wp_int | exact wp_str | exact wp_bl | exact wp_non
  | (apply wp_len_own; (focus walk_at "pl"))
  | (apply wp_op; (focus walk_at "wp"); (focus walk_at "wp"); walk_at "rp")
  | (apply wp_cb; (focus walk_at "wpa"); first | exact cp_int | exact cp_int_bl | exact cp_len_lst | exact cp_len_tup | exact cp_len_str (by walk_at "side") | exact cp_tuple_lst | exact cp_tuple_tup | exact cp_str (by walk_at "side"))
  | (apply wp_tup; (focus walk_at "wpa"); (first | decide | simp))
  | (apply wp_un; (focus walk_at "wp"); exact up_neg)
  | (apply wp_l; walk_at "pl")
  | (apply wp_fld; (focus walk_at "wp"); (focus assumption); (focus assumption); rfl)
  | (apply wp_o; walk_at "wo")
  | (apply wp_notV; walk_at "wp"))
local macro_rules | `(tactic| walk_at "wo") => `(tactic| first
  | (apply wo_lst; (focus walk_at "wpa"); (first | decide | simp))
  | (apply wo_cb; (focus walk_at "wpa"); first | exact co_list_lst | exact co_list_tup | exact co_list_scr))
local macro_rules | `(tactic| walk_at "wt") => `(tactic| first
  | (apply wt_test; walk_at "wp") | (apply wt_tru; walk_at "wp") | (apply wt_B; walk_at "wp") | (apply wt_not; walk_at "wt")
  | (apply wt_and; (focus walk_at "wt"); (intro _; walk_at "wt")) | (apply wt_or; (focus walk_at "wt"); (intro _; walk_at "wt")))
local macro_rules | `(tactic| walk_at "fin") => `(tactic| (try simp only [List.set_cons_zero, List.set_cons_succ]))
local macro_rules | `(tactic| walk_at "lt") => `(tactic| first | decide | (simp only [List.length_cons, List.length_nil]; omega) | (simp; done))
local macro_rules | `(tactic| walk_at "seq") => `(tactic| (refine ws_seq ?_))
local macro_rules | `(tactic| walk_at "set") => `(tactic| (refine ws_set (by walk_at "wp") (by walk_at "lt") (by decide) ?_; walk_at "fin"))
local macro_rules | `(tactic| walk_at "setO") => `(tactic| (refine ws_setO (by walk_at "wo") (by walk_at "lt") (by decide) ?_; walk_at "fin"))
local macro_rules | `(tactic| walk_at "ret") => `(tactic| (refine ws_ret (by walk_at "wp") ?_))
local macro_rules | `(tactic| walk_at "if") => `(tactic| (refine ws_if (by walk_at "wt") ?_))
/-- the parser's object -/
def Pz (C : Addr) (cs : List Nat) (n : Nat) : OV := .obj C [(("text" : PySem.Str), .dat (.str (Tx cs))), (("at" : PySem.Str), .dat (.int n))]
structure PC (K : PySem.W.Frag) (C : Addr) : Prop where
  cls : Cls K C
  tx : NoAttr K C ("text" : PySem.Str)
  at_ : NoAttr K C ("at" : PySem.Str)
def CsOk (cs : List Nat) : Prop := cs.length ≤ 100000
def spSkip (C : Addr) : FS := fun xs Φ => ∃ cs n, xs = [Pz C cs n] ∧ CsOk cs ∧ Φ (.dat .non) [Pz C cs (sk cs n)]
def spTakeP (C : Addr) : FS := fun xs Φ => ∃ cs n t, xs = [Pz C cs n, .dat (.str (Tx t))] ∧ CsOk cs ∧ t.length ≤ 10 ∧ Φ (.dat (.bl (tkn cs t n).1)) [Pz C cs (tkn cs t n).2, .dat (.str (Tx t))]
def spInit (C : Addr) : FS := fun xs Φ => ∃ cs, xs = [.obj C [], .dat (.str (Tx cs))] ∧ Φ (.dat .non) [Pz C cs 0, .dat (.str (Tx cs))]
theorem tx_str {C : Addr} {cs : List Nat} {n : Nat} {K : PySem.W.Frag} {δ : Dl} (hC : PC K C) (h : δ[0]? = some (some (Pz C cs n))) : WP K (tFld K (tVar 0) ("text" : PySem.Str)) δ (.str (Tx cs)) := wp_l (pl_fld (pl_var h) hC.cls hC.tx rfl)
theorem at_int {C : Addr} {cs : List Nat} {n : Nat} {K : PySem.W.Frag} {δ : Dl} (hC : PC K C) (h : δ[0]? = some (some (Pz C cs n))) : WP K (tFld K (tVar 0) ("at" : PySem.Str)) δ (.int n) := wp_l (pl_fld (pl_var h) hC.cls hC.at_ (lookup_ne (by decide +kernel)))
theorem rd_init {K : PySem.W.Frag} {C : Addr} (hC : PC K C) : ∀ vs H Q E, toSp K (spInit C) vs H Q E → t_Parser___init__ K { nx := fun _ H' => Q .non H', rt := Q } (L2.start N_Parser___init__ vs) H := by
  refine body_of (np := 2) ?_
  rintro xs Φ ⟨cs, rfl, hk⟩
  refine ⟨rfl, ?_⟩
  show WS K [0, 1] _ [some (.obj C []), some (.dat (.str (Tx cs)))] _
  walk_at "seq"
  refine ws_fld (we_pd (wp_var rfl)) (pm_var rfl) hC.cls hC.tx (by show 0 < 900; decide) ?_
  walk_at "fin"
  refine ws_fld (we_pd wp_int) (pm_var rfl) hC.cls hC.at_ (by show 1 < 900; decide) ?_
  walk_at "fin"
  exact ⟨_, rfl, hk⟩
theorem pF_at {β : Type} {x y z : β} : pF ("at" : PySem.Str) z [(("text" : PySem.Str), x), (("at" : PySem.Str), y)] = [(("text" : PySem.Str), x), (("at" : PySem.Str), z)] := rfl
theorem sk_lt {cs : List Nat} {n : Nat} (h : cs[n]? = some 32) : sk cs n = sk cs (n + 1) := by
  unfold sk
  have hl : n < cs.length := (List.getElem?_eq_some_iff.mp h).1
  have e : cs.drop n = 32 :: cs.drop (n + 1) := by rw [List.drop_eq_getElem_cons hl]; congr 1; simpa [hl] using h
  rw [e, List.takeWhile_cons]
  simp
  omega
theorem sk_at {cs : List Nat} {n : Nat} (h : cs[n]? ≠ some 32) : sk cs n = n := by
  unfold sk
  by_cases hl : n < cs.length
  · have e : cs.drop n = cs[n] :: cs.drop (n + 1) := List.drop_eq_getElem_cons hl
    rw [e, List.takeWhile_cons, if_neg]
    · rfl
    · intro q; apply h; simp [hl]; simpa using q
  · rw [List.drop_of_length_le (by omega)]; rfl
theorem at_look {cs : List Nat} {n : Nat} : List.lookup ("at" : PySem.Str) [(("text" : PySem.Str), OV.dat (.str (Tx cs))), (("at" : PySem.Str), OV.dat (.int n))] = some (OV.dat (.int n)) := (lookup_ne (by decide +kernel)).trans lookup_eq
theorem rd_skip {K : PySem.W.Frag} {C : Addr} (hC : PC K C) : ∀ vs H Q E, toSp K (spSkip C) vs H Q E → t_Parser_skip K { nx := fun _ H' => Q .non H', rt := Q } (L2.start N_Parser_skip vs) H := by
  refine body_of (np := 1) ?_
  rintro xs Φ ⟨cs, n0, rfl, hc, hk⟩
  refine ⟨rfl, ?_⟩
  show WS K [0] _ [some (Pz C cs n0)] _
  have hs : (Tx cs).length ≤ sizeLine := by rw [Tx_len]; exact Nat.le_trans hc (by decide)
  refine ws_while (fun m δ' => ∃ n, m = cs.length - n ∧ sk cs n = sk cs n0 ∧ δ' = [some (Pz C cs n)]) (cs.length - n0) ⟨n0, rfl, rfl, rfl⟩ ?_
  rintro m _ ⟨n, rfl, hn, rfl⟩
  have ht := tx_str hC (δ := [some (Pz C cs n)]) rfl
  have ha := at_int hC (δ := [some (Pz C cs n)]) rfl
  by_cases hl : n < cs.length
  · have hg : L2.atI (Tx cs).cps.toList (n : Int) = some cs[n] := by rw [Tx_list]; exact atI_nat (by simp [hl])
    refine wt_p (wt_and (wt_test (wp_op ha (wp_cb (wpa_cons ht wpa_nil) (cp_len_str hs)) rp_lt)) fun _ => wt_test (wp_op (wp_op ht ha (rp_ix_str hs hg)) (wp_lit [32]) rp_eq_str)) ?_
    rw [Tx_len]
    have h1 : decide ((n : Int) < (cs.length : Nat)) = true := decide_eq_true (by omega)
    rw [h1, Bool.true_and]
    by_cases q : cs[n] = 32
    · have q' : cs[n]? = some 32 := by simp [hl, q]
      rw [if_pos (by rw [Tx_one, q]; simp)]
      refine ws_fldaug (z := ((n + 1 : Nat) : Int)) (pm_var rfl) hC.cls hC.at_ (at_look (cs := cs) (n := n)) wp_int (fun H Q h => ⟨_, _, rfl, rfl, h⟩) (by show 2 < 900; decide) ?_
      exact ⟨_, by omega, n + 1, rfl, by rw [← hn]; exact (sk_lt q').symm, rfl⟩
    · have q' : cs[n]? ≠ some 32 := by simp [hl, q]
      rw [if_neg (by rw [Tx_one, decide_eq_true_iff, Tx_inj]; simpa using q)]
      rw [sk_at q'] at hn
      exact ⟨[Pz C cs n], rfl, by rw [hn]; exact hk⟩
  · refine wt_p (b := false) ?_ ?_
    · have := wt_and (u := tTest (tOp (rEQ K) (tOp (rIX K) (tFld K (tVar 0) ("text" : PySem.Str)) (tFld K (tVar 0) ("at" : PySem.Str))) (tC (.str (" " : PySem.Str))))) (b := false) (wt_test (wp_op ha (wp_cb (wpa_cons ht wpa_nil) (cp_len_str hs)) rp_lt)) (fun q => absurd (of_decide_eq_true q) (by rw [Tx_len]; omega))
      exact this.to (Bool.and_false _)
    · rw [if_neg (by simp)]
      rw [sk_at (by rw [List.getElem?_eq_none (by omega)]; simp)] at hn
      exact ⟨[Pz C cs n], rfl, by rw [hn]; exact hk⟩
theorem no_m {cs : List Nat} {n : Nat} (m : PySem.Str) (h1 : ("text" : PySem.Str) ≠ m := by decide +kernel) (h2 : ("at" : PySem.Str) ≠ m := by decide +kernel) : List.lookup m [(("text" : PySem.Str), OV.dat (.str (Tx cs))), (("at" : PySem.Str), OV.dat (.int n))] = none := (lookup_ne h1).trans (lookup_ne h2)
theorem rd_ptake {K : PySem.W.Frag} {C : Addr} (hC : PC K C) : ∀ vs H Q E, toSp K (spTakeP C) vs H Q E → t_Parser_take K (toSp K (spSkip C)) C { nx := fun _ H' => Q .non H', rt := Q } (L2.start N_Parser_take vs) H := by
  refine body_of (np := 2) ?_
  rintro xs Φ ⟨cs, n, t, rfl, hc, htl, hk⟩
  refine ⟨rfl, ?_⟩
  show WS K [0, 1] _ [some (Pz C cs n), some (.dat (.str (Tx t)))] _
  walk_at "seq"
  refine ws_drop (we_meth (i := 0) rfl (no_m _) (wa_nil ⟨[Pz C cs n], rfl, by simp [slots], cs, n, rfl, hc, ?_⟩))
  show WS K [0, 1] _ [some (Pz C cs (sk cs n)), some (.dat (.str (Tx t)))] _
  unfold tkn at hk
  generalize sk cs n = p at hk
  have ht := tx_str hC (δ := [some (Pz C cs p), some (.dat (.str (Tx t)))]) rfl
  have ha := at_int hC (δ := [some (Pz C cs p), some (.dat (.str (Tx t)))]) rfl
  have hs : (Tx cs).length ≤ sizeLine := by rw [Tx_len]; exact Nat.le_trans hc (by decide)
  have hst : (Tx t).length ≤ sizeLine := by rw [Tx_len]; exact Nat.le_trans htl (by decide)
  walk_at "seq"
  refine ws_if (wt_test (wp_op (wp_sl_str ht (op_part ha) (op_part (wp_op ha (wp_cb (wpa_cons (wp_var rfl) wpa_nil) (cp_len_str hst)) rp_add_int)) hs) (wp_var rfl) rp_ne_str)) ?_
  rw [Tx_len, Tx_cut]
  by_cases q : (cs.drop p).take t.length = t
  · rw [if_neg (by rw [q]; simp)]
    rw [if_pos q] at hk
    refine ws_next ?_
    walk_at "seq"
    refine ws_fldaug (z := ((p + t.length : Nat) : Int)) (pm_var rfl) hC.cls hC.at_ (at_look (cs := cs) (n := p)) (wp_cb (wpa_cons (wp_var rfl) wpa_nil) (cp_len_str hst)) (fun H Q h => ⟨_, _, rfl, rfl, by rw [Tx_len]; exact h⟩) (by show 2 < 900; decide) ?_
    refine ws_ret wp_bl ?_
    exact ⟨[Pz C cs (p + t.length), .dat (.str (Tx t))], rfl, hk⟩
  · rw [if_pos (by rw [Bool.not_eq_true', decide_eq_false_iff_not, Tx_inj]; exact q)]
    rw [if_neg q] at hk
    refine ws_ret wp_bl ?_
    exact ⟨[Pz C cs p, .dat (.str (Tx t))], rfl, hk⟩
/-- a test by take -/
theorem wt_take {K : PySem.W.Frag} {C : Addr} {cs : List Nat} {n : Nat} {δ : Dl} {Φ : Bool → Dl → Prop} {s : PySem.Str} (t : List Nat) (h : δ[0]? = some (some (Pz C cs n))) (hc : CsOk cs) (hs : s = Tx t) (ht : t.length ≤ 10) (b : Bool) (n' : Nat) (e : tkn cs t n = (b, n')) (q : Φ b (δ.set 0 (some (Pz C cs n')))) :
    WT K (tTRU K (tMeth C ("take" : PySem.Str) (toSp K (spTakeP C)) [] E0 (tVar 0) (tCons (tC (.str s)) tNil))) δ Φ := by
  subst hs
  refine wtE_tru (we_meth (i := 0) h (no_m _) (wa_p wp_str (wa_nil ⟨[Pz C cs n, .dat (.str (Tx t))], ?_, ?_, cs, n, t, rfl, hc, ht, ?_⟩)))
  · simp [argsOf, h]
  · simp [slots]
  · rw [e]
    exact ⟨b, rfl, q⟩
def spRd (C : Addr) (J : List Nat → Nat → Ex → Nat → Prop) : FS := fun xs Φ => ∃ cs n e n', xs = [Pz C cs n] ∧ CsOk cs ∧ J cs n e n' ∧ Φ (.dat (enc e)) [Pz C cs n']
def lev (J : List Nat → Nat → Nat → Ex → Nat → Prop) (d : Nat) : List Nat → Nat → Ex → Nat → Prop := fun cs n e n' => ∃ d', d = d' + 1 ∧ J cs d' n e n'
/-- a call of a reader -/
theorem we_rd {K : PySem.W.Frag} {C : Addr} {J : List Nat → Nat → Ex → Nat → Prop} {m : PySem.Str} {cs : List Nat} {n n' : Nat} {e : Ex} {δ : Dl} {i : Nat} {Φ : OV → Dl → Prop} (h : δ[i]? = some (some (Pz C cs n))) (hc : CsOk cs) (hm : ∀ cs n, List.lookup m [(("text" : PySem.Str), OV.dat (.str (Tx cs))), (("at" : PySem.Str), OV.dat (.int (n : Nat)))] = none) (j : J cs n e n') (q : Φ (.dat (enc e)) (δ.set i (some (Pz C cs n')))) :
    WE K (tMeth C m (toSp K (spRd C J)) [] E0 (tVar i) tNil) δ Φ :=
  we_meth (i := i) h (hm cs n) (wa_nil ⟨[Pz C cs n], by simp [argsOf, h], by simp [slots], cs, n, e, n', rfl, hc, j, q⟩)
theorem rd_star {K : PySem.W.Frag} {C : Addr} {d : Nat} : ∀ vs H Q E, toSp K (spRd C (lev Star d)) vs H Q E → t_Parser_read_star K (toSp K (spRd C (lev Atom d))) C (toSp K (spTakeP C)) { nx := fun _ H' => Q .non H', rt := Q } (L2.start N_Parser_read_star vs) H := by
  refine body_of (np := 1) ?_
  rintro xs Φ ⟨cs, n, e, n', rfl, hc, ⟨d', rfl, j⟩, hk⟩
  refine ⟨rfl, ?_⟩
  show WS K [0] _ [some (Pz C cs n), none] _
  cases j with
  | @mk _ _ n1 _ m e0 _ ja jl =>
  walk_at "seq"
  refine ws_setE (we_rd rfl hc (fun _ _ => no_m _) ⟨d', rfl, ja⟩ ⟨by simp, by decide, ?_⟩)
  walk_at "fin"
  walk_at "seq"
  refine ws_while (fun m δ' => ∃ n e0, StarL cs m n e0 n' e ∧ δ' = [some (Pz C cs n), some (.dat (enc e0))]) m ⟨n1, e0, jl, rfl⟩ ?_
  rintro m _ ⟨n, e0, j, rfl⟩
  cases j with
  | stop h =>
    refine wt_take [42] rfl hc (by decide +kernel) (by decide) _ _ h ?_
    rw [if_neg (by simp)]
    walk_at "fin"
    refine ws_ret (wp_var rfl) ⟨[Pz C cs n'], rfl, hk⟩
  | @go m _ n1 _ _ _ h jl =>
    refine wt_take [42] rfl hc (by decide +kernel) (by decide) _ _ h ?_
    rw [if_pos rfl]
    walk_at "fin"
    refine ws_set (d := enc (.star e0)) (wp_tup (wpa_cons wp_str (wpa_cons (wp_var rfl) wpa_nil)) (by simp)) (by walk_at "lt") (by decide) ?_
    exact ⟨m, by omega, n1, _, jl, rfl⟩
theorem rd_product {K : PySem.W.Frag} {C : Addr} {d : Nat} : ∀ vs H Q E, toSp K (spRd C (lev Prd d)) vs H Q E → t_Parser_read_product K (toSp K (spRd C (lev Star d))) C (toSp K (spTakeP C)) { nx := fun _ H' => Q .non H', rt := Q } (L2.start N_Parser_read_product vs) H := by
  refine body_of (np := 1) ?_
  rintro xs Φ ⟨cs, n, e, n', rfl, hc, ⟨d', rfl, j⟩, hk⟩
  refine ⟨rfl, ?_⟩
  show WS K [0] _ [some (Pz C cs n), none] _
  cases j with
  | @mk _ _ n1 _ m e0 _ ja jl =>
  walk_at "seq"
  refine ws_setE (we_rd rfl hc (fun _ _ => no_m _) ⟨d', rfl, ja⟩ ⟨by simp, by decide, ?_⟩)
  walk_at "fin"
  walk_at "seq"
  refine ws_while (fun m δ' => ∃ n e0, PrdL cs d' m n e0 n' e ∧ δ' = [some (Pz C cs n), some (.dat (enc e0))]) m ⟨n1, e0, jl, rfl⟩ ?_
  rintro m _ ⟨n, e0, j, rfl⟩
  cases j with
  | stop h =>
    refine wt_take [46] rfl hc (by decide +kernel) (by decide) _ _ h ?_
    rw [if_neg (by simp)]
    walk_at "fin"
    refine ws_ret (wp_var rfl) ⟨[Pz C cs n'], rfl, hk⟩
  | @go _ m _ n1 n2 _ _ e2 _ h js jl =>
    refine wt_take [46] rfl hc (by decide +kernel) (by decide) _ _ h ?_
    rw [if_pos rfl]
    walk_at "fin"
    refine ws_setE (we_tup (wa_p wp_str (wa_p (wp_var rfl) (wa_val (we_rd rfl hc (fun _ _ => no_m _) ⟨d', rfl, js⟩ (wa_nil ⟨[.str ("join" : PySem.Str), enc e0, enc e2], rfl, by simp, by simp, by decide, ?_⟩))))))
    exact ⟨m, by omega, n2, _, jl, rfl⟩
theorem rd_sum {K : PySem.W.Frag} {C : Addr} {d : Nat} : ∀ vs H Q E, toSp K (spRd C (lev Sum d)) vs H Q E → t_Parser_read_sum K (toSp K (spRd C (lev Prd d))) C (toSp K (spTakeP C)) { nx := fun _ H' => Q .non H', rt := Q } (L2.start N_Parser_read_sum vs) H := by
  refine body_of (np := 1) ?_
  rintro xs Φ ⟨cs, n, e, n', rfl, hc, ⟨d', rfl, j⟩, hk⟩
  refine ⟨rfl, ?_⟩
  show WS K [0] _ [some (Pz C cs n), none] _
  cases j with
  | @mk _ _ n1 _ m e0 _ ja jl =>
  walk_at "seq"
  refine ws_setE (we_rd rfl hc (fun _ _ => no_m _) ⟨d', rfl, ja⟩ ⟨by simp, by decide, ?_⟩)
  walk_at "fin"
  walk_at "seq"
  refine ws_while (fun m δ' => ∃ n e0, SumL cs d' m n e0 n' e ∧ δ' = [some (Pz C cs n), some (.dat (enc e0))]) m ⟨n1, e0, jl, rfl⟩ ?_
  rintro m _ ⟨n, e0, j, rfl⟩
  cases j with
  | stop h =>
    refine wt_take [43] rfl hc (by decide +kernel) (by decide) _ _ h ?_
    rw [if_neg (by simp)]
    walk_at "fin"
    refine ws_ret (wp_var rfl) ⟨[Pz C cs n'], rfl, hk⟩
  | @go _ m _ n1 n2 _ _ e2 _ h js jl =>
    refine wt_take [43] rfl hc (by decide +kernel) (by decide) _ _ h ?_
    rw [if_pos rfl]
    walk_at "fin"
    refine ws_setE (we_tup (wa_p wp_str (wa_p (wp_var rfl) (wa_val (we_rd rfl hc (fun _ _ => no_m _) ⟨d', rfl, js⟩ (wa_nil ⟨[.str ("either" : PySem.Str), enc e0, enc e2], rfl, by simp, by simp, by decide, ?_⟩))))))
    exact ⟨m, by omega, n2, _, jl, rfl⟩
def spNo : FS := fun _ _ => False
theorem int_dig : ∀ k : Nat, k < 10 → PySem.intText? (Tx [48 + k]) = some (k : Int) := by decide +kernel
theorem in_digs : ∀ k : Nat, k < 10 → decide (48 + k ∈ ("0123456789" : PySem.Str).cps.toList) = true := by decide +kernel
theorem rd_atom {K : PySem.W.Frag} {C : Addr} {d : Nat} (hC : PC K C) : ∀ vs H Q E, toSp K (spRd C (lev Atom (d + 1))) vs H Q E → t_Parser_read_atom K (toSp K (spTakeP C)) C (toSp K (spRd C (lev Sum d))) (toSp K spNo) { nx := fun _ H' => Q .non H', rt := Q } (L2.start N_Parser_read_atom vs) H := by
  refine body_of (np := 1) ?_
  rintro xs Φ ⟨cs, n, e, n', rfl, hc, ⟨d', hd, j⟩, hk⟩
  obtain rfl : d = d' := by omega
  refine ⟨rfl, ?_⟩
  show WS K [0] _ [some (Pz C cs n), none] _
  walk_at "seq"
  cases j with
  | non h =>
    refine ws_ifE (wt_take wNone rfl hc (by decide +kernel) (by decide) _ _ h ?_)
    rw [if_pos rfl]
    walk_at "fin"
    refine ws_ret (d := enc .none) (wp_tup (wpa_cons wp_str wpa_nil) (by simp)) ⟨[Pz C cs n'], rfl, hk⟩
  | emp h h2 =>
    refine ws_ifE (wt_take wNone rfl hc (by decide +kernel) (by decide) _ _ h ?_)
    rw [if_neg (by simp)]
    refine ws_next ?_
    walk_at "fin"
    walk_at "seq"
    refine ws_ifE (wt_take wEmpty rfl hc (by decide +kernel) (by decide) _ _ h2 ?_)
    rw [if_pos rfl]
    walk_at "fin"
    refine ws_ret (d := enc .empty) (wp_tup (wpa_cons wp_str wpa_nil) (by simp)) ⟨[Pz C cs n'], rfl, hk⟩
  | @par d _ n1 n2 n3 n4 _ _ h h2 h3 js h5 =>
    refine ws_ifE (wt_take wNone rfl hc (by decide +kernel) (by decide) _ _ h ?_)
    rw [if_neg (by simp)]
    refine ws_next ?_
    walk_at "fin"
    walk_at "seq"
    refine ws_ifE (wt_take wEmpty rfl hc (by decide +kernel) (by decide) _ _ h2 ?_)
    rw [if_neg (by simp)]
    refine ws_next ?_
    walk_at "fin"
    walk_at "seq"
    refine ws_ifE (wt_take [40] rfl hc (by decide +kernel) (by decide) _ _ h3 ?_)
    rw [if_pos rfl]
    walk_at "fin"
    walk_at "seq"
    refine ws_setE (we_rd rfl hc (fun _ _ => no_m _) ⟨d, rfl, js⟩ ⟨by simp, by decide, ?_⟩)
    walk_at "fin"
    walk_at "seq"
    refine ws_ifE (wtE_not (wt_take [41] rfl hc (by decide +kernel) (by decide) _ _ h5 ?_))
    rw [if_neg (by simp)]
    refine ws_next ?_
    walk_at "fin"
    refine ws_ret (wp_var rfl) ⟨[Pz C cs n'], rfl, hk⟩
  | @dig _ _ n1 n2 n3 k h h2 h3 hk10 hg =>
    refine ws_ifE (wt_take wNone rfl hc (by decide +kernel) (by decide) _ _ h ?_)
    rw [if_neg (by simp)]
    refine ws_next ?_
    walk_at "fin"
    walk_at "seq"
    refine ws_ifE (wt_take wEmpty rfl hc (by decide +kernel) (by decide) _ _ h2 ?_)
    rw [if_neg (by simp)]
    refine ws_next ?_
    walk_at "fin"
    walk_at "seq"
    refine ws_ifE (wt_take [40] rfl hc (by decide +kernel) (by decide) _ _ h3 ?_)
    rw [if_neg (by simp)]
    refine ws_next ?_
    walk_at "fin"
    walk_at "seq"
    have hs : (Tx cs).length ≤ sizeLine := by rw [Tx_len]; exact Nat.le_trans hc (by decide)
    have hl : n3 < cs.length := (List.getElem?_eq_some_iff.mp hg).1
    have hg' : L2.atI (Tx cs).cps.toList (n3 : Int) = some (48 + k) := by rw [Tx_list]; exact atI_nat hg
    have ht := tx_str hC (δ := [some (Pz C cs n3), none]) rfl
    have ha := at_int hC (δ := [some (Pz C cs n3), none]) rfl
    refine ws_if (wt_or (wt_test (wp_op ha (wp_cb (wpa_cons ht wpa_nil) (cp_len_str hs)) rp_eq_int)) fun _ => wt_test (wp_op (wp_op ht ha (rp_ix_str hs hg')) wp_str rp_nin_sg)) ?_
    rw [if_neg (by
      rw [Tx_len, in_digs k hk10, decide_eq_false (by omega)]
      simp)]
    refine ws_next ?_
    walk_at "seq"
    refine ws_fldaug (z := ((n3 + 1 : Nat) : Int)) (pm_var rfl) hC.cls hC.at_ (at_look (cs := cs) (n := n3)) wp_int (fun H Q h => ⟨_, _, rfl, rfl, h⟩) (by show 2 < 900; decide) ?_
    have ht := tx_str hC (δ := [some (Pz C cs (n3 + 1)), none]) rfl
    have ha := at_int hC (δ := [some (Pz C cs (n3 + 1)), none]) rfl
    have hg2 : L2.atI (Tx cs).cps.toList (((n3 + 1 : Nat) : Int) - 1) = some (48 + k) := by
      rw [show ((n3 + 1 : Nat) : Int) - 1 = (n3 : Int) by omega]; exact hg'
    refine ws_ret (d := enc (.letter k)) (wp_tup (wpa_cons wp_str (wpa_cons (wp_cb (wpa_cons (wp_op ht (wp_op ha wp_int rp_sub) (rp_ix_str hs hg2)) wpa_nil) (cp_int_str (int_dig k hk10) (by show 1 ≤ 640; decide))) wpa_nil)) (by simp)) ⟨[Pz C cs (n3 + 1)], rfl, hk⟩
def spParse (h : Nat) : FS := fun xs Φ => ∃ cs e, xs = [.dat (.str (Tx cs))] ∧ CsOk cs ∧ e.ok ∧ e.ht ≤ h ∧ R e.tk cs ∧ Φ (.dat (enc e)) xs
theorem rd_parse {K : PySem.W.Frag} {C : Addr} {h : Nat} (hC : PC K C) : ∀ vs H Q E, toSp K (spParse (h + 1)) vs H Q E → t_parse_expression K C (toSp K (spInit C)) (toSp K (spRd C (lev Sum (h + 1)))) (toSp K (spSkip C)) (toSp K spNo) { nx := fun _ H' => Q .non H', rt := Q } (L2.start N_parse_expression vs) H := by
  refine body_of (np := 1) ?_
  rintro xs Φ ⟨cs, e, rfl, hc, hok, hh, hr, hk⟩
  refine ⟨rfl, ?_⟩
  show WS K [0] _ [some (.dat (.str (Tx cs))), none, none] _
  obtain ⟨n1, hs1, hs2⟩ := parsed hok (d := h) (by omega) hr
  walk_at "seq"
  refine ws_setE (we_make (wa_p (wp_var rfl) (wa_nil ⟨[.dat (.str (Tx cs))], rfl, by simp [slots], cs, rfl, rfl, Pz C cs 0, _, rfl, by simp [putArgs], by decide, ?_⟩)))
  show WS K [0] _ [some (.dat (.str (Tx cs))), some (Pz C cs 0), none] _
  walk_at "seq"
  refine ws_setE (we_rd rfl hc (fun _ _ => no_m _) ⟨h, rfl, hs1⟩ ⟨by simp, by decide, ?_⟩)
  walk_at "fin"
  walk_at "seq"
  refine ws_drop (we_meth (i := 1) rfl (no_m _) (wa_nil ⟨[Pz C cs n1], rfl, by simp [slots], cs, n1, rfl, hc, ?_⟩))
  show WS K [0] _ [some (.dat (.str (Tx cs))), some (Pz C cs (sk cs n1)), some (.dat (enc e))] _
  walk_at "seq"
  have hs : (Tx cs).length ≤ sizeLine := by rw [Tx_len]; exact Nat.le_trans hc (by decide)
  refine ws_if (wt_test (wp_op (wp_l (pl_fld (pl_var rfl) hC.cls hC.at_ (at_look (cs := cs) (n := sk cs n1)))) (wp_cb (wpa_cons (wp_var rfl) wpa_nil) (cp_len_str hs)) rp_lt)) ?_
  rw [if_neg (by rw [Tx_len, decide_eq_true_iff]; omega)]
  refine ws_next ?_
  refine ws_ret (wp_var rfl) ⟨[.dat (.str (Tx cs))], rfl, hk⟩
end Rd
namespace Rd
open PySem PySem.Spec L2 Pw Gn M18
local macro_rules | `(tactic| walk_at "side") => `(tactic| first | assumption | omega | decide | (unfold CMul; omega) | (unfold CDiv; omega) | (unfold CPow; decide) | (simp; omega) | (simp; done))
local macro_rules | `(tactic| walk_at "rp") => `(tactic| first
  | exact rp_add_int | exact rp_sub | exact rp_eq_int | exact rp_ne_int | exact rp_lt | exact rp_le | exact rp_gt | exact rp_ge
  | exact rp_mod (by walk_at "side") | exact rp_mul (by walk_at "side") | exact rp_fdiv (by walk_at "side") | exact rp_pow (by walk_at "side")
  | exact rp_eq_str | exact rp_ne_str | exact rp_add_str (by walk_at "side") | exact rp_in_sg | exact rp_nin_sg | exact rp_add_tup (by walk_at "side")
  | exact rp_ix_tup (by walk_at "at") | exact rp_ix_lst (by walk_at "at") | exact rp_ix_str (by walk_at "side") (by walk_at "at"))
local macro_rules | `(tactic| walk_at "at") => `(tactic| first | rfl | assumption | (exact atI_nat (by first | rfl | assumption)))
local macro_rules | `(tactic| walk_at "wpa") => `(tactic| first | exact wpa_nil | (apply wpa_cons; (focus walk_at "wp"); walk_at "wpa"))
local macro_rules | `(tactic| walk_at "pl") => `(tactic| first | exact pl_var rfl | (apply pl_fld; (focus walk_at "pl"); (focus assumption); (focus assumption); rfl))
local macro_rules | `(tactic| walk_at "wp") => `(tactic| first
  | assumption
  | exact wp_var rfl | exact wp_int | exact wp_str | exact wp_bl | exact wp_non
  | (apply wp_len_own; (focus walk_at "pl"))
  | (apply wp_op; (focus walk_at "wp"); (focus walk_at "wp"); walk_at "rp")
  | (apply wp_cb; (focus walk_at "wpa"); first | exact cp_int | exact cp_int_bl | exact cp_len_lst | exact cp_len_tup | exact cp_len_str (by walk_at "side") | exact cp_tuple_lst | exact cp_tuple_tup | exact cp_str (by walk_at "side"))
  | (apply wp_tup; (focus walk_at "wpa"); (first | decide | simp))
  | (apply wp_un; (focus walk_at "wp"); exact up_neg)
  | (apply wp_l; walk_at "pl")
  | (apply wp_fld; (focus walk_at "wp"); (focus assumption); (focus assumption); rfl)
  | (apply wp_o; walk_at "wo")
  | (apply wp_notV; walk_at "wp"))
local macro_rules | `(tactic| walk_at "wo") => `(tactic| first
  | (apply wo_lst; (focus walk_at "wpa"); (first | decide | simp))
  | (apply wo_cb; (focus walk_at "wpa"); first | exact co_list_lst | exact co_list_tup | exact co_list_scr))
local macro_rules | `(tactic| walk_at "wt") => `(tactic| first
  | (apply wt_test; walk_at "wp") | (apply wt_tru; walk_at "wp") | (apply wt_B; walk_at "wp") | (apply wt_not; walk_at "wt")
  | (apply wt_and; (focus walk_at "wt"); (intro _; walk_at "wt")) | (apply wt_or; (focus walk_at "wt"); (intro _; walk_at "wt")))
local macro_rules | `(tactic| walk_at "fin") => `(tactic| (try simp only [List.set_cons_zero, List.set_cons_succ]))
local macro_rules | `(tactic| walk_at "lt") => `(tactic| first | decide | (simp only [List.length_cons, List.length_nil]; omega) | (simp; done))
local macro_rules | `(tactic| walk_at "seq") => `(tactic| (refine ws_seq ?_))
local macro_rules | `(tactic| walk_at "set") => `(tactic| (refine ws_set (by walk_at "wp") (by walk_at "lt") (by decide) ?_; walk_at "fin"))
local macro_rules | `(tactic| walk_at "setO") => `(tactic| (refine ws_setO (by walk_at "wo") (by walk_at "lt") (by decide) ?_; walk_at "fin"))
local macro_rules | `(tactic| walk_at "ret") => `(tactic| (refine ws_ret (by walk_at "wp") ?_))
local macro_rules | `(tactic| walk_at "if") => `(tactic| (refine ws_if (by walk_at "wt") ?_))
theorem D.okL2 {n : Nat} {a b : D} : D.okL n [a, b] = (a.ok n && b.ok n) := by simp [D.okL]
theorem D.okL3 {n : Nat} {a b c : D} : D.okL n [a, b, c] = (a.ok n && (b.ok n && c.ok n)) := by simp [D.okL]
theorem sok {n : Nat} {s : PySem.Str} (h : PyData.strOk s = true) : (D.str s).ok n = true := by cases n <;> exact h
theorem iok {n : Nat} {i : Int} : (D.int i).ok n = true := by cases n <;> rfl
theorem enc_ok : ∀ {e : Ex} {n : Nat}, e.ht < n → (enc e).ok n = true
  | .letter k, n + 1, _ => by show D.okL n _ = true; rw [D.okL2, sok (by decide +kernel), iok]; rfl
  | .none, n + 1, _ => by show D.okL n [_] = true; simp only [D.okL]; rw [sok (by decide +kernel)]; rfl
  | .empty, n + 1, _ => by show D.okL n [_] = true; simp only [D.okL]; rw [sok (by decide +kernel)]; rfl
  | .star e, n + 1, h => by
    simp only [Ex.ht] at h
    show D.okL n _ = true; rw [D.okL2, sok (by decide +kernel), enc_ok (e := e) (by omega)]; rfl
  | .either a b, n + 1, h => by
    simp only [Ex.ht] at h
    show D.okL n _ = true; rw [D.okL3, sok (by decide +kernel), enc_ok (e := a) (by omega), enc_ok (e := b) (by omega)]; rfl
  | .join a b, n + 1, h => by
    simp only [Ex.ht] at h
    show D.okL n _ = true; rw [D.okL3, sok (by decide +kernel), enc_ok (e := a) (by omega), enc_ok (e := b) (by omega)]; rfl
theorem eqv_self {d : D} {n : Nat} (h : d.ok n = true) : d.eqv d = true := PySem.SeqAt.eqv_refl _ (D.ok_shape n d h).1
def spExpr (h : Nat) : FS := fun xs Φ => ∃ (ms : List Int) (d : Nat), xs = [ownI ms, .dat (.int 6), .dat (.int d)] ∧ Dr ms ∧ d < h ∧ ∀ e ms', e.ok → e.ht ≤ d → Dr ms' → Φ (.dat (enc e)) [ownI ms', .dat (.int 6), .dat (.int d)]
theorem we_expr {K : PySem.W.Frag} {δ : Dl} {ms : List Int} {d h : Nat} {i : Nat} {t1 t2 : TE} {Φ : OV → Dl → Prop} (g : δ[i]? = some (some (ownI ms))) (h1 : WP K t1 δ (.int 6)) (h2 : WP K t2 δ (.int d)) (hd : Dr ms) (hh : d < h) (q : ∀ e ms', e.ok → e.ht ≤ d → Dr ms' → Φ (.dat (enc e)) (δ.set i (some (ownI ms')))) :
    WE K (tCall (toSp K (spExpr h)) [] E0 (tCons (tVar i) (tCons t1 (tCons t2 tNil)))) δ Φ :=
  we_call (wa_slt ⟨_, g⟩ (wa_p h1 (wa_p h2 (wa_nil ⟨[ownI ms, .dat (.int 6), .dat (.int d)], by simp [argsOf, g], by simp [slots], ms, d, rfl, hd, hh, q⟩))))
theorem rd_expr {K : PySem.W.Frag} {h : Nat} : ∀ vs H Q E, toSp K (spExpr (h + 1)) vs H Q E → t_law_expression K (toSp K spTake) (toSp K (spExpr h)) { nx := fun _ H' => Q .non H', rt := Q } (L2.start N_law_expression vs) H := by
  refine body_of (np := 3) ?_
  rintro xs Φ ⟨ms, d, rfl, hd, hh, hk⟩
  refine ⟨rfl, ?_⟩
  show WS K [0, 1, 2] _ [some (ownI ms), some (.dat (.int 6)), some (.dat (.int d)), none, none, none] _
  walk_at "seq"
  refine ws_setE (we_take rfl wp_int (by decide) hd fun kd ms1 k0 k1 hd1 => ⟨by simp, by decide, ?_⟩)
  walk_at "fin"
  walk_at "seq"
  walk_at "if"
  by_cases c : d = 0 ∨ kd < 2
  · rw [if_pos (by simp only [Bool.or_eq_true, decide_eq_true_eq]; omega)]
    refine ws_retE (we_op (we_lstD (wa_val (we_tup (wa_p wp_str (wa_val (we_take rfl (wp_var rfl) (by decide) hd1 fun a ms2 a0 a1 hd2 => wa_nil ⟨[.str ("letter" : PySem.Str), .int a], rfl, by simp, ?_⟩)))))))
    walk_at "fin"
    refine wa_val (we_tup (wa_p wp_str (wa_val (we_take rfl (wp_var rfl) (by decide) hd2 fun b ms3 b0 b1 hd3 => wa_nil ⟨[.str ("letter" : PySem.Str), .int b], rfl, by simp, ?_⟩))))
    walk_at "fin"
    refine wa_p (d := enc .empty) (wp_tup (wpa_cons wp_str wpa_nil) (by simp)) (wa_p (d := enc .none) (wp_tup (wpa_cons wp_str wpa_nil) (by simp)) (wa_nil ⟨[.tup [.str ("letter" : PySem.Str), .int a], .tup [.str ("letter" : PySem.Str), .int b], enc .empty, enc .none], rfl, by simp, _, rfl, ?_⟩))
    refine we_op (we_p (wp_o (ds := [0, 0, 1, 1, 0, 1, 2, 3].map D.int) (wo_lst (wpa_cons wp_int (wpa_cons wp_int (wpa_cons wp_int (wpa_cons wp_int (wpa_cons wp_int (wpa_cons wp_int (wpa_cons wp_int (wpa_cons wp_int wpa_nil)))))))) (by simp))) ⟨_, rfl, we_take rfl wp_int (by decide) hd3 fun v ms4 v0 v1 hd4 => ?_⟩)
    obtain ⟨a, rfl⟩ := Int.eq_ofNat_of_zero_le a0
    obtain ⟨b, rfl⟩ := Int.eq_ofNat_of_zero_le b0
    obtain ⟨v, rfl⟩ := Int.eq_ofNat_of_zero_le v0
    have ha : a < 10 := by omega
    have hb : b < 10 := by omega
    have fin : ∀ e : Ex, e.ok → e.ht ≤ d → ∃ xs' : List OV, List.take 3 ([some (ownI ms4), some (.dat (.int 6)), some (.dat (.int d)), some (.dat (.int kd)), none, none] : Dl) = xs'.map some ∧ Φ (.dat (enc e)) xs' := fun e he hh' => ⟨[ownI ms4, .dat (.int 6), .dat (.int d)], rfl, hk e ms4 he hh' hd4⟩
    have pick : ∃ (c : Nat) (e : Ex), (([0, 0, 1, 1, 0, 1, 2, 3] : List Int).map D.int)[v]? = some (.int (c : Nat)) ∧ ([.tup [.str ("letter" : PySem.Str), .int a], .tup [.str ("letter" : PySem.Str), .int b], enc .empty, enc .none] : List D)[c]? = some (enc e) ∧ e.ok ∧ e.ht ≤ d := by
      have hv : v = 0 ∨ v = 1 ∨ v = 2 ∨ v = 3 ∨ v = 4 ∨ v = 5 ∨ v = 6 ∨ v = 7 := by omega
      rcases hv with rfl | rfl | rfl | rfl | rfl | rfl | rfl | rfl
      · exact ⟨0, .letter a, rfl, rfl, ha, Nat.zero_le _⟩
      · exact ⟨0, .letter a, rfl, rfl, ha, Nat.zero_le _⟩
      · exact ⟨1, .letter b, rfl, rfl, hb, Nat.zero_le _⟩
      · exact ⟨1, .letter b, rfl, rfl, hb, Nat.zero_le _⟩
      · exact ⟨0, .letter a, rfl, rfl, ha, Nat.zero_le _⟩
      · exact ⟨1, .letter b, rfl, rfl, hb, Nat.zero_le _⟩
      · exact ⟨2, .empty, rfl, rfl, True.intro, Nat.zero_le _⟩
      · exact ⟨3, .none, rfl, rfl, True.intro, Nat.zero_le _⟩
    obtain ⟨c, e, h1, h2, h3, h4⟩ := pick
    exact ⟨_, rfl, _, rp_ix_lst (atI_nat h1), _, rfl, _, rp_ix_lst (atI_nat h2), fin e h3 h4⟩
  · rw [if_neg (by simp only [Bool.or_eq_true, decide_eq_true_eq]; omega)]
    refine ws_next ?_
    obtain ⟨d, rfl⟩ : ∃ d', d = d' + 1 := ⟨d - 1, by omega⟩
    have e1 : ((d + 1 : Nat) : Int) - 1 = (d : Nat) := by omega
    have hsub : ∀ δ : Dl, δ[2]? = some (some (.dat (.int ((d + 1 : Nat) : Int)))) → WP K (tOp rSUB (tVar 2) (tC (.int 1))) δ (.int (d : Nat)) := fun δ q => (wp_op (wp_var q) wp_int rp_sub).to (by rw [e1])
    walk_at "seq"
    walk_at "if"
    by_cases c2 : kd < 4
    · rw [if_pos (by simpa using c2)]
      refine ws_retE (we_tup (wa_p wp_str (wa_val (we_expr rfl (wp_var rfl) (hsub _ rfl) hd1 (by omega) fun e ms2 he hh' hd2 => wa_nil ⟨[.str ("star" : PySem.Str), enc e], rfl, by simp, ?_⟩))))
      exact ⟨[ownI ms2, .dat (.int 6), .dat (.int ((d + 1 : Nat) : Int))], rfl, hk (.star e) ms2 he (by simp only [Ex.ht]; omega) hd2⟩
    · rw [if_neg (by simpa using c2)]
      refine ws_next ?_
      walk_at "seq"
      refine ws_setE (we_expr rfl (wp_var rfl) (hsub _ rfl) hd1 (by omega) fun a ms2 ha hha hd2 => ⟨by simp, by decide, ?_⟩)
      walk_at "fin"
      walk_at "seq"
      refine ws_setE (we_expr rfl (wp_var rfl) (hsub _ rfl) hd2 (by omega) fun b ms3 hb hhb hd3 => ⟨by simp, by decide, ?_⟩)
      walk_at "fin"
      have fin : ∀ (s : PySem.Str) (o : Option OV) (e : Ex), enc e = .tup [.str s, enc a, enc b] → e.ok → e.ht ≤ d + 1 → ∃ xs' : List OV, List.take 3 ([some (ownI ms3), some (.dat (.int 6)), some (.dat (.int ((d + 1 : Nat) : Int))), some (.dat (.int kd)), some (.dat (enc a)), some (.dat (enc b))] : Dl) = xs'.map some ∧ Φ (.dat (.tup [.str s, enc a, enc b])) xs' := fun s o e h0 he hh' => ⟨[ownI ms3, .dat (.int 6), .dat (.int ((d + 1 : Nat) : Int))], rfl, by rw [← h0]; exact hk e ms3 he hh' hd3⟩
      by_cases c3 : 5 < kd
      · refine ws_ret (wp_tup (wpa_cons (wp_op (wp_o (ds := [.str ("either" : PySem.Str), .str ("join" : PySem.Str)]) (wo_lst (wpa_cons wp_str (wpa_cons wp_str wpa_nil)) (by simp))) (wp_cb (wpa_cons (wp_op (wp_var rfl) wp_int rp_gt) wpa_nil) cp_int_bl) (rp_ix_lst (d := .str ("join" : PySem.Str)) (by rw [if_pos (by simpa using c3)]; rfl))) (wpa_cons (wp_var rfl) (wpa_cons (wp_var rfl) wpa_nil))) (by simp)) ?_
        exact fin _ none (.join a b) rfl ⟨ha, hb⟩ (by simp only [Ex.ht]; omega)
      · refine ws_ret (wp_tup (wpa_cons (wp_op (wp_o (ds := [.str ("either" : PySem.Str), .str ("join" : PySem.Str)]) (wo_lst (wpa_cons wp_str (wpa_cons wp_str wpa_nil)) (by simp))) (wp_cb (wpa_cons (wp_op (wp_var rfl) wp_int rp_gt) wpa_nil) cp_int_bl) (rp_ix_lst (d := .str ("either" : PySem.Str)) (by rw [if_neg (by simpa using c3)]; rfl))) (wpa_cons (wp_var rfl) (wpa_cons (wp_var rfl) wpa_nil))) (by simp)) ?_
        exact fin _ none (.either a b) rfl ⟨ha, hb⟩ (by simp only [Ex.ht]; omega)
end Rd
namespace Rd
open PySem PySem.Spec L2 Pw Gn M18
local macro_rules | `(tactic| walk_at "side") => `(tactic| first | assumption | omega | decide | (unfold CMul; omega) | (unfold CDiv; omega) | (unfold CPow; decide) | (simp; omega) | (simp; done))
local macro_rules | `(tactic| walk_at "rp") => `(tactic| first
  | exact rp_add_int | exact rp_sub | exact rp_eq_int | exact rp_ne_int | exact rp_lt | exact rp_le | exact rp_gt | exact rp_ge
  | exact rp_mod (by walk_at "side") | exact rp_mul (by walk_at "side") | exact rp_fdiv (by walk_at "side") | exact rp_pow (by walk_at "side")
  | exact rp_eq_str | exact rp_ne_str | exact rp_add_str (by walk_at "side") | exact rp_in_sg | exact rp_nin_sg | exact rp_add_tup (by walk_at "side")
  | exact rp_ix_tup (by walk_at "at") | exact rp_ix_lst (by walk_at "at") | exact rp_ix_str (by walk_at "side") (by walk_at "at"))
local macro_rules | `(tactic| walk_at "at") => `(tactic| first | rfl | assumption | (exact atI_nat (by first | rfl | assumption)))
local macro_rules | `(tactic| walk_at "wpa") => `(tactic| first | exact wpa_nil | (apply wpa_cons; (focus walk_at "wp"); walk_at "wpa"))
local macro_rules | `(tactic| walk_at "pl") => `(tactic| first | exact pl_var rfl | (apply pl_fld; (focus walk_at "pl"); (focus assumption); (focus assumption); rfl))
local macro_rules | `(tactic| walk_at "wp") => `(tactic| first
  | assumption
  | exact wp_var rfl | exact wp_int | exact wp_str | exact wp_bl | exact wp_non
  | (apply wp_len_own; (focus walk_at "pl"))
  | (apply wp_op; (focus walk_at "wp"); (focus walk_at "wp"); walk_at "rp")
  | (apply wp_cb; (focus walk_at "wpa"); first | exact cp_int | exact cp_int_bl | exact cp_len_lst | exact cp_len_tup | exact cp_len_str (by walk_at "side") | exact cp_tuple_lst | exact cp_tuple_tup | exact cp_str (by walk_at "side"))
  | (apply wp_tup; (focus walk_at "wpa"); (first | decide | simp))
  | (apply wp_un; (focus walk_at "wp"); exact up_neg)
  | (apply wp_l; walk_at "pl")
  | (apply wp_fld; (focus walk_at "wp"); (focus assumption); (focus assumption); rfl)
  | (apply wp_o; walk_at "wo")
  | (apply wp_notV; walk_at "wp"))
local macro_rules | `(tactic| walk_at "wo") => `(tactic| first
  | (apply wo_lst; (focus walk_at "wpa"); (first | decide | simp))
  | (apply wo_cb; (focus walk_at "wpa"); first | exact co_list_lst | exact co_list_tup | exact co_list_scr))
local macro_rules | `(tactic| walk_at "wt") => `(tactic| first
  | (apply wt_test; walk_at "wp") | (apply wt_tru; walk_at "wp") | (apply wt_B; walk_at "wp") | (apply wt_not; walk_at "wt")
  | (apply wt_and; (focus walk_at "wt"); (intro _; walk_at "wt")) | (apply wt_or; (focus walk_at "wt"); (intro _; walk_at "wt")))
local macro_rules | `(tactic| walk_at "fin") => `(tactic| (try simp only [List.set_cons_zero, List.set_cons_succ]))
local macro_rules | `(tactic| walk_at "lt") => `(tactic| first | decide | (simp only [List.length_cons, List.length_nil]; omega) | (simp; done))
local macro_rules | `(tactic| walk_at "seq") => `(tactic| (refine ws_seq ?_))
local macro_rules | `(tactic| walk_at "set") => `(tactic| (refine ws_set (by walk_at "wp") (by walk_at "lt") (by decide) ?_; walk_at "fin"))
local macro_rules | `(tactic| walk_at "setO") => `(tactic| (refine ws_setO (by walk_at "wo") (by walk_at "lt") (by decide) ?_; walk_at "fin"))
local macro_rules | `(tactic| walk_at "ret") => `(tactic| (refine ws_ret (by walk_at "wp") ?_))
local macro_rules | `(tactic| walk_at "if") => `(tactic| (refine ws_if (by walk_at "wt") ?_))
theorem eqv_str {a b : PySem.Str} : (D.str a).eqv (.str b) = decide (a = b) := by
  show PyData.eqv (.str a) (.str b) = _
  simp only [PyData.eqv]
  by_cases h : a = b <;> simp [h]
def isP (c : Nat) : Prop := c = 40 ∨ c = 41 ∨ c = 42 ∨ c = 43 ∨ c = 46
instance (c : Nat) : Decidable (isP c) := by unfold isP; infer_instance
def pcs : List D := [.str (Tx [40]), .str (Tx [41]), .str (Tx [42]), .str (Tx [43]), .str (Tx [46])]
theorem pcs_ok : D.okL 1 pcs = true := by decide +kernel
theorem pcs_any (l : List Nat) : (pcs.any fun z => z.eqv (.str (Tx l))) = true ↔ ∃ c, isP c ∧ l = [c] := by
  simp only [pcs, List.any_cons, List.any_nil, eqv_str, Tx_inj, Bool.or_false, Bool.or_eq_true, decide_eq_true_eq]
  constructor
  · rintro (h | h | h | h | h)
    · exact ⟨40, .inl rfl, h.symm⟩
    · exact ⟨41, .inr (.inl rfl), h.symm⟩
    · exact ⟨42, .inr (.inr (.inl rfl)), h.symm⟩
    · exact ⟨43, .inr (.inr (.inr (.inl rfl))), h.symm⟩
    · exact ⟨46, .inr (.inr (.inr (.inr rfl))), h.symm⟩
  · rintro ⟨c, (rfl | rfl | rfl | rfl | rfl), h⟩ <;> simp [h]
def AscC (l : List Nat) : Prop := ∀ c ∈ l, c < 128
def spSpaced : FS := fun xs Φ => ∃ (ms : List Int) (cs : List Nat), xs = [ownI ms, .dat (.str (Tx cs))] ∧ Dr ms ∧ AscC cs ∧ cs.length ≤ 300 ∧ ∀ (ms' : List Int) (k : Nat) (o : List Nat), Dr ms' → Spc cs o → (List.replicate k 32 ++ o).length ≤ 2000 → Φ (.dat (.str (Tx (List.replicate k 32 ++ o)))) [ownI ms', .dat (.str (Tx cs))]
theorem strok {l : List Nat} (h : AscC l) : PyData.strOk (Tx l) = true := by
  unfold PyData.strOk Tx
  simp only [List.all_toArray, List.all_eq_true, decide_eq_true_eq]
  exact fun x hx => by have := h x hx; omega
/-- spaces, as many as a draw says -/
theorem we_mul {K : PySem.W.Frag} {δ : Dl} {tn : TE} {Φ : OV → Dl → Prop} (h : WE K tn δ fun x δ' => ∃ v : Int, x = .dat (.int v) ∧ 0 ≤ v ∧ v ≤ 10 ∧ Φ (.dat (.str (Tx (List.replicate v.toNat 32)))) δ') : WE K (tOp (rMUL K) (tC (.str (" " : PySem.Str))) tn) δ Φ :=
  we_op (we_p (wp_lit [32]) ⟨_, rfl, h.mono fun x δ' ⟨v, e, h0, h1, q⟩ => ⟨.int v, e, _, rp_mulS (by rw [Tx_len]; decide) (by omega) (by omega), by rw [Tx_mul]; exact q⟩⟩)
theorem Spc.len {s o : List Nat} (h : Spc s o) : True := True.intro
theorem rd_spaced {K : PySem.W.Frag} : ∀ vs H Q E, toSp K spSpaced vs H Q E → t_law_spaced K (toSp K spTake) { nx := fun _ H' => Q .non H', rt := Q } (L2.start N_law_spaced vs) H := by
  refine body_of (np := 2) ?_
  rintro xs Φ ⟨ms, cs, rfl, hd, hasc, hlen, hk⟩
  refine ⟨rfl, ?_⟩
  show WS K [0, 1] _ [some (ownI ms), some (.dat (.str (Tx cs))), none, none, none] _
  have hs : (Tx cs).length ≤ sizeLine := by rw [Tx_len]; exact Nat.le_trans hlen (by decide)
  walk_at "seq"
  refine ws_set (wp_lit []) (by walk_at "lt") (by decide) ?_
  walk_at "fin"
  walk_at "seq"
  refine ws_for (ds := rgD 0 cs.length) (by
    have := wi_rng1 (K := K) (δ := [some (ownI ms), some (.dat (.str (Tx cs))), some (.dat (.str (Tx []))), none, none]) (j := ((Tx cs).length : Nat)) (wpa_cons (wp_cb (wpa_cons (wp_var (i := 1) rfl) wpa_nil) (cp_len_str hs)) wpa_nil) (by omega) (by rw [Tx_len]; omega)
    rw [Tx_len] at this
    exact this) (fun i δ' => ∃ (ms : List Int) (o : List Nat) (a b : Option OV), Dr ms ∧ Spc (cs.take i) o ∧ o.length ≤ 5 * i ∧ δ' = [some (ownI ms), some (.dat (.str (Tx cs))), some (.dat (.str (Tx o))), a, b]) ?_ ?_ ?_
  · exact ⟨ms, [], none, none, hd, by rw [List.take_zero]; exact .nil, by simp, rfl⟩
  · rintro i d δ' hi ⟨ms, o, a, b, hd, hsp, hol, rfl⟩
    have hic : i < cs.length := by have := get_lt hi; rwa [rgD_length] at this
    rw [rgD_get hic] at hi
    cases hi
    refine wg_name (by walk_at "lt") (by decide) ?_
    walk_at "fin"
    have hg : L2.atI (Tx cs).cps.toList (0 + (i : Int)) = some cs[i] := by rw [Tx_list, Int.zero_add]; exact atI_nat (by simp [hic])
    have htk : cs.take (i + 1) = cs.take i ++ [cs[i]] := by rw [List.take_succ]; simp [hic]
    have hasc1 : cs[i] < 128 := hasc _ (List.getElem_mem hic)
    generalize cs[i] = c at hg htk hasc1
    walk_at "seq"
    refine ws_set (d := .str (Tx [c])) (wp_op (wp_var rfl) (wp_var rfl) (rp_ix_str hs hg)) (by walk_at "lt") (by decide) ?_
    walk_at "fin"
    walk_at "seq"
    refine ws_cut (fun δ' => ∃ (ms : List Int) (l : List Nat), Dr ms ∧ ((c = 32 ∧ ∃ k, k ≤ 3 ∧ l = List.replicate k 32) ∨ (c ≠ 32 ∧ l = [c])) ∧ δ' = [some (ownI ms), some (.dat (.str (Tx cs))), some (.dat (.str (Tx o))), some (.dat (.int (0 + (i : Int)))), some (.dat (.str (Tx l)))]) ?_ ?_
    · refine ws_if (wt_test (wp_op (wp_var rfl) (wp_lit [32]) rp_eq_str)) ?_
      by_cases q : c = 32
      · rw [if_pos (by simp [q])]
        refine ws_setE (we_mul (we_take rfl wp_int (by decide) hd fun v ms2 v0 v1 hd2 => ⟨v, rfl, v0, by omega, by simp, by decide, ?_⟩))
        exact ⟨ms2, _, hd2, .inl ⟨q, v.toNat, by omega, rfl⟩, rfl⟩
      · rw [if_neg (by rw [decide_eq_true_iff, Tx_inj]; simpa using q)]
        exact ws_next ⟨ms, [c], hd, .inr ⟨q, rfl⟩, rfl⟩
    rintro _ ⟨ms, l, hd, hl, rfl⟩
    have hll : l.length ≤ 3 := by
      rcases hl with ⟨_, k, h, rfl⟩ | ⟨_, rfl⟩
      · simpa using h
      · simp
    walk_at "seq"
    refine ws_set (wp_op (wp_var rfl) (wp_var rfl) (rp_addT (by omega))) (by walk_at "lt") (by decide) ?_
    walk_at "fin"
    have hsok : AscC l := by
      rcases hl with ⟨_, k, h, rfl⟩ | ⟨_, rfl⟩
      · intro x hx; rw [List.eq_of_mem_replicate hx]; decide
      · intro x hx; rw [List.mem_singleton.mp hx]; exact hasc1
    refine ws_if (wt_test (wp_op (wp_var rfl) (wp_tup (ds := pcs) (wpa_cons (wp_lit [40]) (wpa_cons (wp_lit [41]) (wpa_cons (wp_lit [42]) (wpa_cons (wp_lit [43]) (wpa_cons (wp_lit [46]) wpa_nil)))))) (rp_in_tup (n := 1) (m := 1) (show PyData.strOk (Tx l) = true from strok hsok) pcs_ok))) ?_
    by_cases q : ∃ c, isP c ∧ l = [c]
    · rw [if_pos ((pcs_any l).mpr q)]
      obtain ⟨c', hc', rfl⟩ := q
      have hcc : c' = c ∧ c ≠ 32 := by
        rcases hl with ⟨_, k, h, e⟩ | ⟨h, e⟩
        · have : c' ∈ List.replicate k 32 := e ▸ List.mem_singleton.mpr rfl
          rw [List.eq_of_mem_replicate this] at hc'
          exact absurd hc' (by unfold isP; omega)
        · exact ⟨by simpa using e, h⟩
      obtain ⟨rfl, hne⟩ := hcc
      refine ws_setE (we_op (we_p (wp_var rfl) ⟨_, rfl, we_mul (we_op (we_take rfl wp_int (by decide) hd fun v ms2 v0 v1 hd2 => ⟨_, rfl, we_p wp_int ⟨_, rfl, _, rp_fdiv (by unfold CDiv; omega), v / 4, rfl, by omega, by omega, _, rfl, _, rp_addT (by simp; omega), by simp, by decide, ?_⟩⟩))⟩))
      refine ⟨ms2, o ++ [c'] ++ List.replicate (v / 4).toNat 32, _, _, hd2, ?_, ?_, rfl⟩
      · rw [htk, List.append_assoc]
        refine hsp.app ?_
        have := Spc.pc c' (v / 4).toNat hc' Spc.nil
        simpa using this
      · simp only [List.length_append, List.length_replicate, List.length_cons, List.length_nil]; omega
    · rw [if_neg (fun h => q ((pcs_any l).mp h))]
      refine ws_next ⟨ms, o ++ l, _, _, hd, ?_, ?_, rfl⟩
      · rw [htk]
        refine hsp.app ?_
        rcases hl with ⟨rfl, k, h, rfl⟩ | ⟨h, rfl⟩
        · have := Spc.sp k Spc.nil
          simpa using this
        · exact .ch c h .nil
      · rw [List.length_append]; omega
  · rintro _ ⟨ms, o, a, b, hd, hsp, hol, rfl⟩
    rw [rgD_length] at hsp hol
    rw [List.take_length] at hsp
    refine ws_retE (we_op (we_mul (we_take rfl wp_int (by decide) hd fun v ms2 v0 v1 hd2 => ⟨v, rfl, v0, by omega, _, rfl, we_p (wp_var rfl) ⟨_, rfl, _, rp_addT (by simp; omega), ?_⟩⟩)))
    exact ⟨[ownI ms2, .dat (.str (Tx cs))], rfl, hk ms2 v.toNat o hd2 hsp (by simp; omega)⟩
end Rd
namespace Rd
open PySem PySem.Spec L2 Pw Gn M18
local macro_rules | `(tactic| walk_at "side") => `(tactic| first | assumption | omega | decide | (unfold CMul; omega) | (unfold CDiv; omega) | (unfold CPow; decide) | (simp; omega) | (simp; done))
local macro_rules | `(tactic| walk_at "rp") => `(tactic| first
  | exact rp_add_int | exact rp_sub | exact rp_eq_int | exact rp_ne_int | exact rp_lt | exact rp_le | exact rp_gt | exact rp_ge
  | exact rp_mod (by walk_at "side") | exact rp_mul (by walk_at "side") | exact rp_fdiv (by walk_at "side") | exact rp_pow (by walk_at "side")
  | exact rp_eq_str | exact rp_ne_str | exact rp_add_str (by walk_at "side") | exact rp_in_sg | exact rp_nin_sg | exact rp_add_tup (by walk_at "side")
  | exact rp_ix_tup (by walk_at "at") | exact rp_ix_lst (by walk_at "at") | exact rp_ix_str (by walk_at "side") (by walk_at "at"))
local macro_rules | `(tactic| walk_at "at") => `(tactic| first | rfl | assumption | (exact atI_nat (by first | rfl | assumption)))
local macro_rules | `(tactic| walk_at "wpa") => `(tactic| first | exact wpa_nil | (apply wpa_cons; (focus walk_at "wp"); walk_at "wpa"))
local macro_rules | `(tactic| walk_at "pl") => `(tactic| first | exact pl_var rfl | (apply pl_fld; (focus walk_at "pl"); (focus assumption); (focus assumption); rfl))
local macro_rules | `(tactic| walk_at "wp") => `(tactic| first
  | assumption
  | exact wp_var rfl | exact wp_int | exact wp_str | exact wp_bl | exact wp_non
  | (apply wp_len_own; (focus walk_at "pl"))
  | (apply wp_op; (focus walk_at "wp"); (focus walk_at "wp"); walk_at "rp")
  | (apply wp_cb; (focus walk_at "wpa"); first | exact cp_int | exact cp_int_bl | exact cp_len_lst | exact cp_len_tup | exact cp_len_str (by walk_at "side") | exact cp_tuple_lst | exact cp_tuple_tup | exact cp_str (by walk_at "side"))
  | (apply wp_tup; (focus walk_at "wpa"); (first | decide | simp))
  | (apply wp_un; (focus walk_at "wp"); exact up_neg)
  | (apply wp_l; walk_at "pl")
  | (apply wp_fld; (focus walk_at "wp"); (focus assumption); (focus assumption); rfl)
  | (apply wp_o; walk_at "wo")
  | (apply wp_notV; walk_at "wp"))
local macro_rules | `(tactic| walk_at "wo") => `(tactic| first
  | (apply wo_lst; (focus walk_at "wpa"); (first | decide | simp))
  | (apply wo_cb; (focus walk_at "wpa"); first | exact co_list_lst | exact co_list_tup | exact co_list_scr))
local macro_rules | `(tactic| walk_at "wt") => `(tactic| first
  | (apply wt_test; walk_at "wp") | (apply wt_tru; walk_at "wp") | (apply wt_B; walk_at "wp") | (apply wt_not; walk_at "wt")
  | (apply wt_and; (focus walk_at "wt"); (intro _; walk_at "wt")) | (apply wt_or; (focus walk_at "wt"); (intro _; walk_at "wt")))
local macro_rules | `(tactic| walk_at "fin") => `(tactic| (try simp only [List.set_cons_zero, List.set_cons_succ]))
local macro_rules | `(tactic| walk_at "lt") => `(tactic| first | decide | (simp only [List.length_cons, List.length_nil]; omega) | (simp; done))
local macro_rules | `(tactic| walk_at "seq") => `(tactic| (refine ws_seq ?_))
local macro_rules | `(tactic| walk_at "set") => `(tactic| (refine ws_set (by walk_at "wp") (by walk_at "lt") (by decide) ?_; walk_at "fin"))
local macro_rules | `(tactic| walk_at "setO") => `(tactic| (refine ws_setO (by walk_at "wo") (by walk_at "lt") (by decide) ?_; walk_at "fin"))
local macro_rules | `(tactic| walk_at "ret") => `(tactic| (refine ws_ret (by walk_at "wp") ?_))
local macro_rules | `(tactic| walk_at "if") => `(tactic| (refine ws_if (by walk_at "wt") ?_))
theorem par_asc {b : Bool} {s : List Nat} (h : AscC s) : AscC (par b s) := by
  intro c hc
  cases b with
  | false => exact h c hc
  | true =>
    simp only [par, if_true, List.mem_append, List.mem_cons, List.not_mem_nil, or_false] at hc
    rcases hc with (rfl | hc) | rfl
    · decide
    · exact h c hc
    · decide
theorem asc_app {a b : List Nat} (h : AscC a) (g : AscC b) : AscC (a ++ b) := fun c hc => by
  rcases List.mem_append.mp hc with q | q
  · exact h c q
  · exact g c q
theorem fmt_asc : ∀ {e : Ex}, e.ok → AscC e.fmt
  | .letter n, h => by
    have h : n < 10 := h
    intro c hc
    have : c = 48 + n := by simpa [Ex.fmt] using hc
    omega
  | .none, _ => by unfold AscC; decide
  | .empty, _ => by unfold AscC; decide
  | .star e, h => asc_app (par_asc (fmt_asc (e := e) h)) (by unfold AscC; decide)
  | .either a b, h => asc_app (asc_app (par_asc (fmt_asc (e := a) h.1)) (by unfold AscC; decide)) (par_asc (fmt_asc (e := b) h.2))
  | .join a b, h => asc_app (asc_app (par_asc (fmt_asc (e := a) h.1)) (by unfold AscC; decide)) (par_asc (fmt_asc (e := b) h.2))
def spLaw : FS := fun xs Φ => ∃ ns, xs = [.dat (.scr ns)] ∧ ns.length ≤ 63 ∧ Φ (.dat (.bl true)) xs
theorem isi_str {K : PySem.W.Frag} {x : PySem.Str} : ∀ (G H : Hp) (v : V), Same G H → Rep K G v (.str x) → ∃ t, TyX K H v t ∧ PySem.W.kitOne K t (.type "str") = some true := fun G H v g r => by
  cases r
  exact ⟨_, .base (.str _), kit_ty (by decide +kernel)⟩
theorem we_parse {K : PySem.W.Frag} {δ : Dl} {h : Nat} {te : TE} {cs : List Nat} {e : Ex} {Φ : OV → Dl → Prop} (ht : WP K te δ (.str (Tx cs))) (hc : CsOk cs) (hok : e.ok) (hh : e.ht ≤ h) (hr : R e.tk cs) (q : Φ (.dat (enc e)) δ) : WE K (tCall (toSp K (spParse h)) [] E0 (tCons te tNil)) δ Φ :=
  we_call (wa_p ht (wa_nil ⟨[.dat (.str (Tx cs))], rfl, by simp [slots], cs, e, rfl, hc, hok, hh, hr, q⟩))
theorem rd_law {K : PySem.W.Frag} : ∀ vs H Q E, toSp K spLaw vs H Q E → t_law K (toSp K spDraws) (toSp K (spExpr 5)) (toSp K (spFmt 5)) (toSp K (spPrinted 5)) (toSp K (spParse 5)) (toSp K spSpaced) { nx := fun _ H' => Q .non H', rt := Q } (L2.start N_law vs) H := by
  refine body_of (np := 1) ?_
  rintro xs Φ ⟨ns, rfl, hns, hk⟩
  refine ⟨rfl, ?_⟩
  show WS K [0] _ [some (.dat (.scr ns)), none, none, none] _
  walk_at "seq"
  refine ws_setE (we_call (wa_p (wp_var rfl) (wa_p wp_int (wa_nil ⟨[.dat (.scr ns), .dat (.int 300)], rfl, by simp [slots], ns, 300, rfl, by decide, by decide, hns, fun ms hd => ⟨by simp [putArgs], by decide, ?_⟩⟩))))
  show WS K [0] _ [some (.dat (.scr ns)), some (ownI ms), none, none] _
  walk_at "seq"
  refine ws_setE (we_expr (d := 4) rfl wp_int wp_int hd (by decide) fun e ms2 hok hh hd2 => ⟨by simp, by decide, ?_⟩)
  walk_at "fin"
  walk_at "seq"
  refine ws_set (wp_callA e (wpa_cons (wp_var rfl) wpa_nil) ⟨hok, by omega, by decide⟩) (by walk_at "lt") (by decide) ?_
  walk_at "fin"
  walk_at "seq"
  have eok : (enc e).ok 5 = true := enc_ok (by omega)
  have hl := fmt_le (h := 5) (e := e) (by omega) (by decide)
  have ew : wr e 1 = e.fmt := wr_no (by unfold rkI; cases e <;> simp [Ex.rank])
  refine ws_if (wt_or (wt_not (wt_tru (wp_isi (wp_var rfl) isi_str))) fun _ => wt_test (wp_op (wp_var rfl) (wp_callA (e, 1) (wpa_cons (wp_var rfl) (wpa_cons wp_int wpa_nil)) ⟨⟨hok, by show e.ht < 5; omega, by decide⟩, by show (1 : Int) ≤ 3; decide⟩) rp_ne_str)) ?_
  rw [if_neg (by simp [ew])]
  refine ws_next ?_
  walk_at "seq"
  refine ws_ifE (wtE_test (we_op (we_parse (wp_var rfl) (by unfold CsOk; omega) hok (by omega) (fmt_R e) ⟨_, rfl, we_p (wp_var rfl) ⟨_, rfl, _, rp_ne eok eok, _, rfl, ?_⟩⟩)))
  rw [if_neg (by rw [eqv_self eok]; simp)]
  refine ws_next ?_
  refine ws_retE (we_op (we_call (wa_val (we_call (wa_slt ⟨_, rfl⟩ (wa_p (wp_var rfl) (wa_nil ⟨[ownI ms2, .dat (.str (Tx e.fmt))], rfl, by simp [slots], ms2, e.fmt, rfl, hd2, fmt_asc hok, by omega, fun ms3 k o hd3 hs ho => wa_nil ⟨[.dat (.str (Tx (List.replicate k 32 ++ o)))], rfl, by simp [slots], _, e, rfl, by unfold CsOk; omega, hok, by omega, ?_, _, rfl, we_p (wp_var rfl) ⟨_, rfl, _, rp_eq eok eok, ?_⟩⟩⟩)))))))
  · exact (hs.R (tk_tok hok) (fmt_R e)).pre k
  · rw [eqv_self eok]
    exact ⟨[.dat (.scr ns)], rfl, hk⟩
end Rd
namespace Rd
open PySem PySem.Spec PyProof.Rows L2 Pw Gn M18 As
section
variable {P : Program} {w : World} {K : PySem.W.Frag} {mg : PySem.Str → Option Value} {base h : Heap}
theorem facts (X : K.In h) (G : h.Ns mainGlobals mg) (t : He.SaysT Hd.fa Hd.fn Hd.ts w K) (hm : Hd.ex K = true) {fd : FuncData} (F : FunD K "law" "law" (defArgs Hd.s_law) (defBody Hd.s_law) (defScope Hd.s_law) [] [] (He.ga K "law") fd) : FnOk P w K mg base CX0 24 (He.ga K "law") fd [("_law_script" : PySem.Str)] (toSp K spLaw) := by
  have c := t.d
  have hC : PC K (He.ga K "Parser") := ⟨k_Parser c, a_Parser_text c, a_Parser_at c⟩
  have hT : H_law_take P w K mg base 1 spTake := has_law_take X G c fun F => ok_law_take (b_len X G c) (b_int X G c) (by rintro xs Φ ⟨_, _, rfl, _⟩; rfl) rd_take F
  have hD : H_law_draws P w K mg base 1 spDraws := has_law_draws X G c fun F => ok_law_draws (b_list X G c) (b_len X G c) (b_range X G c) (b_int X G c) (by rintro xs Φ ⟨_, _, rfl, _⟩; rfl) rd_draws F
  have hS : H_law_spaced P w K mg base 2 spSpaced := has_law_spaced X G c fun F => ok_law_spaced (b_range X G c) (b_len X G c) hT (by decide) (by rintro xs Φ ⟨_, _, rfl, _⟩; rfl) rd_spaced F
  have hE : ∀ n : Nat, H_law_expression P w K mg base (n + 1) (spExpr n) := by
    intro n
    induction n with
    | zero => exact has_law_expression X G c fun F => no_law_expression (by rintro xs Φ ⟨_, _, _, _, q, _⟩; omega) F
    | succ n ih => exact has_law_expression X G c fun F => ok_law_expression hT ih (b_int X G c) (by omega) (by omega) (by rintro xs Φ ⟨_, _, rfl, _⟩; rfl) rd_expr F
  have hP : ∀ n : Nat, H_law_printed P w K mg base (n + 1) (spPrinted n) := by
    intro n
    induction n with
    | zero => exact has_law_printed X G c fun F => no_law_printed (by rintro xs Φ ⟨_, _, ⟨⟨_, q, _⟩, _⟩, _⟩; omega) F
    | succ n ih => exact has_law_printed X G c fun F => ok_law_printed (b_str X G c) ih (by omega) (by rintro xs Φ ⟨_, rfl, _⟩; rfl) rd_printed F
  have hR : ∀ e : Ex, KDct K w (He.ga K "RANKS") (kd e) (.int (rkI e)) := by
    intro e
    have q : ∀ (x : PySem.Str) (i : Int), (x, He.Dv.int i) ∈ Hd.v_RANKS → KDct K w (He.ga K "RANKS") x (.int i) := fun x i hx => kd_RANKS t hm hx
    cases e <;> exact q _ _ (by simp [Hd.v_RANKS, kd, rkI, Ex.rank])
  have hW : ∀ n : Nat, H_within P w K mg base (2 * n + 1) (spWithin n) ∧ H_format_expression P w K mg base (2 * n + 2) (spFmt (n + 1)) := by
    intro n
    induction n with
    | zero =>
      have h0 : H_within P w K mg base 1 (spWithin 0) := has_within X G c fun F => no_within (by rintro xs Φ ⟨_, _, ⟨_, q, _⟩, _⟩; omega) F
      exact ⟨h0, has_format_expression X G c fun F => ok_format_expression (b_str X G c) h0 (by omega) (by rintro xs Φ ⟨_, rfl, _⟩; rfl) rd_format F⟩
    | succ n ih =>
      have h0 : H_within P w K mg base (2 * (n + 1) + 1) (spWithin (n + 1)) := has_within X G c fun F => ok_within ih.2 (g_RANKS X G c) (by omega) (by rintro xs Φ ⟨_, rfl, _⟩; rfl) (rd_within hR) F
      exact ⟨h0, has_format_expression X G c fun F => ok_format_expression (b_str X G c) h0 (by omega) (by rintro xs Φ ⟨_, rfl, _⟩; rfl) rd_format F⟩
  have hSk : H_Parser_skip P w K mg base 1 (spSkip (He.ga K "Parser")) := has_Parser_skip X G c fun F => ok_Parser_skip (b_len X G c) (by rintro xs Φ ⟨_, _, rfl, _⟩; rfl) (rd_skip hC) F
  have hTk : H_Parser_take P w K mg base 2 (spTakeP (He.ga K "Parser")) := has_Parser_take X G c fun F => ok_Parser_take hSk (b_len X G c) (by decide) (by rintro xs Φ ⟨_, _, _, rfl, _⟩; rfl) (rd_ptake hC) F
  have hFa : H_Parser_fail P w K mg base 1 spNo := has_Parser_fail X G c fun F => no_Parser_fail (fun _ _ q => q) F
  have hIn : H_Parser___init__ P w K mg base 1 (spInit (He.ga K "Parser")) := has_Parser___init__ X G c fun F => ok_Parser___init__ (by rintro xs Φ ⟨_, rfl, _⟩; rfl) (rd_init hC) F
  have hSum : ∀ d : Nat, H_Parser_read_sum P w K mg base (4 * d + 2) (spRd (He.ga K "Parser") (lev Sum d)) := by
    intro d
    induction d with
    | zero => exact has_Parser_read_sum X G c fun F => no_Parser_read_sum (by rintro xs Φ ⟨_, _, _, _, _, _, ⟨_, q, _⟩, _⟩; omega) F
    | succ d ih =>
      have h1 : H_Parser_read_atom P w K mg base (4 * d + 3) (spRd (He.ga K "Parser") (lev Atom (d + 1))) := has_Parser_read_atom X G c fun F => ok_Parser_read_atom hTk ih hFa (b_len X G c) (c_DIGITS X G c) (b_int X G c) (by omega) (by omega) (by omega) (by rintro xs Φ ⟨_, _, _, _, rfl, _⟩; rfl) (rd_atom hC) F
      have h2 : H_Parser_read_star P w K mg base (4 * d + 4) (spRd (He.ga K "Parser") (lev Star (d + 1))) := has_Parser_read_star X G c fun F => ok_Parser_read_star h1 hTk (by omega) (by omega) (by rintro xs Φ ⟨_, _, _, _, rfl, _⟩; rfl) rd_star F
      have h3 : H_Parser_read_product P w K mg base (4 * d + 5) (spRd (He.ga K "Parser") (lev Prd (d + 1))) := has_Parser_read_product X G c fun F => ok_Parser_read_product h2 hTk (by omega) (by omega) (by rintro xs Φ ⟨_, _, _, _, rfl, _⟩; rfl) rd_product F
      exact has_Parser_read_sum X G c fun F => ok_Parser_read_sum h3 hTk (by omega) (by omega) (by rintro xs Φ ⟨_, _, _, _, rfl, _⟩; rfl) rd_sum F
  have hPa : H_parse_expression P w K mg base 23 (spParse 5) := has_parse_expression X G c fun F => ok_parse_expression hIn (hSum 5) hSk (b_len X G c) hFa (by decide) (by decide) (by decide) (by decide) (by rintro xs Φ ⟨_, _, rfl, _⟩; rfl) (rd_parse hC) F
  exact ok_law hD (hE 5) (hW 4).2 (b_isinstance X G c) (b_str X G c) (hP 5) hPa hS (by decide) (by decide) (by decide) (by decide) (by decide) (by decide) (by rintro xs Φ ⟨_, rfl, _⟩; rfl) rd_law F
end
end Rd
namespace En0
open PySem PySem.Spec PyProof.Rows L2 Pw
theorem sp_in {K : PySem.W.Frag} {H : Hp} {a : Addr} {ns : List Int} (hl : ns.length ≤ 63) (hS : SqL K H a (ns.map V.int)) : toSp K Rd.spLaw [.ref a] H (fun v _ => v = .bl true) fun _ _ _ => False :=
  ⟨H, [.dat (.scr ns)], [], fun r _ => r = .dat (.bl true), Same.refl H, ownL_dat (ds := [.scr ns]) (.cons (.scr hS) .nil), List.nodup_nil, ⟨ns, rfl, hl, rfl⟩, fun v x xs' G' H' Sx S' e _ o _ _ _ => by
    subst e
    cases o with
    | dat r => cases r; rfl⟩
end En0
open PySem PySem.W PySem.Calls PyProof.Rows
theorem PySem.Challenge.cw_placewords_k18_expression_text_holds : PySem.Challenge.rw_placewords_k18_expression_text.Holds := by
  w_on; o_law
  refine HandSHeadRun.head_any (r := OpenLaw.row PySem.Challenge.rw_placewords_k18_expression_text) (q := view (OpenLaw.row PySem.Challenge.rw_placewords_k18_expression_text).prog [16]) (H := Hd.hk) (ob := Hd.ob) (M := 9000) (loose := Hd.names) (d := HandSHeadRun.topDef (OpenLaw.row PySem.Challenge.rw_placewords_k18_expression_text).prog 16) (kwd := []) Hd.ob_eq
    (by kernel_rfl) (fun s => by kernel_rfl) Hd.run (by kernel_rfl) (by kernel_rfl) (by kernel_rfl) (by rfl) (by first | assumption | decide +kernel) (by decide +kernel) ⟨rfl, rfl, rfl, rfl, rfl, by decide +kernel⟩ ?hw ?hc
  case hw => w_witness2
  case hc =>
    refine L2.walk_ofE (l := PySem.Challenge.rw_placewords_k18_expression_text) (n := 63) (k := 24) (x := ("_law_script" : PySem.Str)) (CX := L2.CX0) rfl (by decide) (by kernel_rfl) ⟨rfl, by decide, by decide⟩ ?F (fun _ _ _ _ z => z)
    intro w mg fa h Y G hmg0
    obtain ⟨K, KX, c⟩ := Y
    have hmg : mg ("law" : PySem.Str) = some (.ref fa) := by
      have e : (HandSHeadRun.topDef (OpenLaw.row PySem.Challenge.rw_placewords_k18_expression_text).prog 16).name = ("law" : PySem.Str) := by kernel_rfl
      rw [← e]
      exact hmg0
    have ef := hmg.symm.trans (As.g_law KX G c.t.d)
    cases ef
    obtain ⟨fd, F⟩ := As.fd_law c.t.d
    have b := L2.FunD.bindsA (ps := [("_law_script" : PySem.Str)]) F fun _ _ _ _ _ _ us hl => match us, hl with | [_], _ => rfl
    exact ⟨K, fd, Pw.toSp K Rd.spLaw, KX, fun s v => b s [v] rfl, fun H a ns hl _ hS => En0.sp_in hl hS, fun base _ _ => Rd.facts KX G c.t c.more F⟩
