import PyProof.Rows.All
import Wide.All
import OpenK.AllK
import Wide.FinOn
import KE.KStateDown
import Lean
import HandS.ForMost
import HandS.Flow
import HandS.TupAny
import HandS.TupMul
import HandS.Deep
import HandS.IsInst
import HandS.TupLe
import HandS.Steps
import HandS.More
import HandS.Defaults
import PyProof.Rows.StrJoinRep
import HandS.Text
import HandS.Set
import HandS.SetFor
import HandS.Strs
import HandS.Zip
import HandS.SortInts
import HandS.Style
import HandS.Conv
import HandS.Dict
import HandS.DictComp
import HandS.ForExc
import HandS.Head0
import HandS.Head1
import HandS.Head2
import HandS.HeadEnd
import HandS.HeadHook1
import HandS.HeadHook2
import HandS.HeadHook3
import HandS.HeadHook4
import PySem.Challenge.RW_placewords_k56_whole_widths
set_option Elab.async false
set_option linter.all false
set_option maxRecDepth 100000
set_option maxHeartbeats 0
namespace Pw
open PySem PySem.Spec L2

/-! ### data, trees of what is owned -/
inductive D where
  | non | bl (b : Bool) | int (i : Int) | str (x : Str)
  | lst (xs : List D) | tup (xs : List D) | obj (C : Addr) (fs : List (Str × D)) | scr (ns : List Int)
inductive OV where
  | dat (d : D) | lst (xs : List OV) | obj (C : Addr) (fs : List (Str × OV)) | dic (t : Bool) (kvs : List (D × OV))

inductive Rep (K : PySem.W.Frag) (G : Hp) : V → D → Prop
  | non : Rep K G .non .non
  | bl (b : Bool) : Rep K G (.bl b) (.bl b)
  | int (i : Int) : Rep K G (.int i) (.int i)
  | str (x : Str) : Rep K G (.str x) (.str x)
  | lst {a : Addr} {vs : List V} {ds : List D} : G a = some (.lst vs) → vs.length = ds.length → (∀ (i : Nat) v d, vs[i]? = some v → ds[i]? = some d → Rep K G v d) → Rep K G (.ref a) (.lst ds)
  | tup {a : Addr} {vs : List V} {ds : List D} : G a = some (.tup vs) → vs.length = ds.length → (∀ (i : Nat) v d, vs[i]? = some v → ds[i]? = some d → Rep K G v d) → Rep K G (.ref a) (.tup ds)
  | obj {a C dx : Addr} {fs : List (Str × V)} {ds : List (Str × D)} : G a = some (.ins C dx fs) → fs.map (·.1) = ds.map (·.1) → (∀ (i : Nat) v d, (fs.map (·.2))[i]? = some v → (ds.map (·.2))[i]? = some d → Rep K G v d) → Rep K G (.ref a) (.obj C ds)
  | scr {a : Addr} {ns : List Int} : SqL K G a (ns.map V.int) → Rep K G (.ref a) (.scr ns)

structure RepL (K : PySem.W.Frag) (G : Hp) (vs : List V) (ds : List D) : Prop where
  len : vs.length = ds.length
  at_ : ∀ (i : Nat) v d, vs[i]? = some v → ds[i]? = some d → Rep K G v d

theorem seqT {K : PySem.W.Frag} {H H' : Hp} {a : Addr} {xs : List V} (e : Same H H') (h : H a = some (.tup xs)) : SqT K H' a xs := .inl (.inl (e _ _ h))
section
variable {K : PySem.W.Frag} {G G' H H' : Hp}
theorem Rep.mono {v : V} {d : D} (r : Rep K G v d) (e : Same G G') : Rep K G' v d := by
  induction r with
  | non => exact .non
  | bl b => exact .bl b
  | int i => exact .int i
  | str x => exact .str x
  | lst h l _ ih => exact .lst (e _ _ h) l ih
  | scr h => exact .scr (e.seq h)
  | tup h l _ ih => exact .tup (e _ _ h) l ih
  | obj h l _ ih => exact .obj (e _ _ h) l ih
theorem RepL.mono {vs : List V} {ds : List D} (r : RepL K G vs ds) (e : Same G G') : RepL K G' vs ds := ⟨r.len, fun i v d h1 h2 => (r.at_ i v d h1 h2).mono e⟩
theorem RepL.nil : RepL K G [] [] := ⟨rfl, fun i v d h _ => by simp at h⟩
theorem RepL.cons {v : V} {d : D} {vs : List V} {ds : List D} (h : Rep K G v d) (t : RepL K G vs ds) : RepL K G (v :: vs) (d :: ds) := ⟨by simp [t.len], fun i w e h1 h2 => by
  cases i with
  | zero => simp at h1 h2; subst h1 h2; exact h
  | succ i => simp at h1 h2; exact t.at_ i w e h1 h2⟩
theorem RepL.append {vs ws : List V} {ds es : List D} (h : RepL K G vs ds) (t : RepL K G ws es) : RepL K G (vs ++ ws) (ds ++ es) := ⟨by simp [h.len, t.len], fun i w e h1 h2 => by
  have hl := h.len
  by_cases q : i < vs.length
  · rw [List.getElem?_append_left q] at h1
    rw [List.getElem?_append_left (by omega)] at h2
    exact h.at_ i w e h1 h2
  · rw [List.getElem?_append_right (by omega)] at h1
    rw [List.getElem?_append_right (by omega)] at h2
    rw [hl] at h1
    exact t.at_ _ w e h1 h2⟩
theorem RepL.cases_cons {vs : List V} {d : D} {ds : List D} (r : RepL K G vs (d :: ds)) : ∃ v ws, vs = v :: ws ∧ Rep K G v d ∧ RepL K G ws ds := by
  cases vs with
  | nil => have := r.len; simp at this
  | cons v ws => exact ⟨v, ws, rfl, r.at_ 0 v d rfl rfl, ⟨by have := r.len; simpa using this, fun i w e h1 h2 => r.at_ (i + 1) w e h1 h2⟩⟩
theorem RepL.cases_nil {vs : List V} (r : RepL K G vs []) : vs = [] := List.eq_nil_of_length_eq_zero (by have := r.len; simpa using this)
theorem RepL.get {vs : List V} {ds : List D} {i : Nat} {d : D} (r : RepL K G vs ds) (h : ds[i]? = some d) : ∃ v, vs[i]? = some v ∧ Rep K G v d := by
  obtain ⟨hi, _⟩ := List.getElem?_eq_some_iff.mp h
  have hl := r.len
  have hv : vs[i]? = some vs[i] := List.getElem?_eq_getElem (by omega)
  exact ⟨_, hv, r.at_ i _ d hv h⟩
/-- the same list of numbers -/
theorem RepL.ints {ns : List Int} : ∀ {vs : List V}, RepL K G vs (ns.map D.int) → vs = ns.map V.int := by
  induction ns with
  | nil => intro vs r; exact r.cases_nil
  | cons n ns ih =>
    intro vs r
    obtain ⟨v, ws, rfl, h1, h2⟩ := r.cases_cons
    cases h1
    rw [ih h2]; rfl
theorem repL_ints (ns : List Int) : RepL K G (ns.map V.int) (ns.map D.int) := by
  induction ns with
  | nil => exact .nil
  | cons n ns ih => exact .cons (.int n) ih
end

/-! ### ownership -/
def keyD : Key → D
  | .inl i => .int i
  | .inr x => .str x
def DicV (H : Hp) (a : Addr) : Bool → List (D × V) → Prop
  | false, kvs => ∃ k : List (Key × V), H a = some (.dK k) ∧ kvs = k.map fun p => (keyD p.1, p.2)
  | true, kvs => ∃ k : List (List Key × V), H a = some (.dT k) ∧ kvs = k.map fun p => (.tup (p.1.map keyD), p.2)
mutual
inductive Own (K : PySem.W.Frag) (G H : Hp) : OV → V → List Addr → Prop
  | dat {d : D} {v : V} : Rep K G v d → Own K G H (.dat d) v []
  | lst {a : Addr} {vs : List V} {xs : List OV} {S : List Addr} : H a = some (.lst vs) → G a = none → OwnL K G H xs vs S → Own K G H (.lst xs) (.ref a) (a :: S)
  | obj {a C dx : Addr} {fs : List (Str × V)} {os : List (Str × OV)} {S : List Addr} : H a = some (.ins C dx fs) → G a = none → fs.map (·.1) = os.map (·.1) → OwnL K G H (os.map (·.2)) (fs.map (·.2)) S → Own K G H (.obj C os) (.ref a) (a :: S)
  | dic {t : Bool} {a : Addr} {kvs : List (D × V)} {os : List (D × OV)} {S : List Addr} : DicV H a t kvs → G a = none → kvs.map (·.1) = os.map (·.1) → OwnL K G H (os.map (·.2)) (kvs.map (·.2)) S → Own K G H (.dic t os) (.ref a) (a :: S)
inductive OwnL (K : PySem.W.Frag) (G H : Hp) : List OV → List V → List Addr → Prop
  | nil : OwnL K G H [] [] []
  | cons {x : OV} {v : V} {xs : List OV} {vs : List V} {S T : List Addr} : Own K G H x v S → OwnL K G H xs vs T → OwnL K G H (x :: xs) (v :: vs) (S ++ T)
end
/-- slots -/
abbrev Dl := List (Option OV)
inductive Sta (K : PySem.W.Frag) (G H : Hp) : Dl → St → List Addr → Prop
  | nil : Sta K G H [] [] []
  | un {δ : Dl} {σ : St} {w : Option V} {S : List Addr} : Sta K G H δ σ S → Sta K G H (none :: δ) (w :: σ) S
  | sl {x : OV} {v : V} {δ : Dl} {σ : St} {S T : List Addr} : Own K G H x v S → Sta K G H δ σ T → Sta K G H (some x :: δ) (some v :: σ) (S ++ T)

section
variable {K : PySem.W.Frag} {G G' H H' : Hp}
theorem DicV.eq {a : Addr} {t : Bool} {kvs : List (D × V)} (h : DicV H a t kvs) (e : H' a = H a) : DicV H' a t kvs := by
  cases t
  · obtain ⟨k, h, r⟩ := h
    exact ⟨k, by rw [e]; exact h, r⟩
  · obtain ⟨k, h, r⟩ := h
    exact ⟨k, by rw [e]; exact h, r⟩
mutual
theorem Own.frame (e : Same G G') : ∀ {x : OV} {v : V} {S : List Addr}, Own K G H x v S → (∀ b ∈ S, H' b = H b ∧ G' b = none) → Own K G' H' x v S
  | _, _, _, .dat r, _ => .dat (r.mono e)
  | _, _, _, .lst h g t, k => .lst (by rw [(k _ List.mem_cons_self).1]; exact h) (k _ List.mem_cons_self).2 (t.frame e fun b hb => k b (List.mem_cons_of_mem _ hb))
  | _, _, _, .obj h g l t, k => .obj (by rw [(k _ List.mem_cons_self).1]; exact h) (k _ List.mem_cons_self).2 l (t.frame e fun b hb => k b (List.mem_cons_of_mem _ hb))
  | _, _, _, .dic h g l t, k => .dic (h.eq (k _ List.mem_cons_self).1) (k _ List.mem_cons_self).2 l (t.frame e fun b hb => k b (List.mem_cons_of_mem _ hb))
theorem OwnL.frame (e : Same G G') : ∀ {xs : List OV} {vs : List V} {S : List Addr}, OwnL K G H xs vs S → (∀ b ∈ S, H' b = H b ∧ G' b = none) → OwnL K G' H' xs vs S
  | _, _, _, .nil, _ => .nil
  | _, _, _, .cons h t, k => .cons (h.frame e fun b hb => k b (List.mem_append_left _ hb)) (t.frame e fun b hb => k b (List.mem_append_right _ hb))
end
theorem Sta.frame (e : Same G G') : ∀ {δ : Dl} {σ : St} {S : List Addr}, Sta K G H δ σ S → (∀ b ∈ S, H' b = H b ∧ G' b = Option.none) → Sta K G' H' δ σ S
  | _, _, _, .nil, _ => .nil
  | _, _, _, .un t, k => .un (t.frame e k)
  | _, _, _, .sl h t, k => .sl (h.frame e fun b hb => k b (List.mem_append_left _ hb)) (t.frame e fun b hb => k b (List.mem_append_right _ hb))
theorem DicV.ne {a : Addr} {t : Bool} {kvs : List (D × V)} (h : DicV H a t kvs) : H a ≠ none := by
  cases t <;> obtain ⟨k, h, r⟩ := h <;> rw [h] <;> simp
mutual
theorem Own.foot : ∀ {x : OV} {v : V} {S : List Addr}, Own K G H x v S → ∀ b ∈ S, H b ≠ none ∧ G b = none
  | _, _, _, .dat r, b, hb => by simp at hb
  | _, _, _, .lst h g t, b, hb => by
    rcases List.mem_cons.mp hb with rfl | hb
    · exact ⟨by rw [h]; simp, g⟩
    · exact t.foot b hb
  | _, _, _, .obj h g l t, b, hb => by
    rcases List.mem_cons.mp hb with rfl | hb
    · exact ⟨by rw [h]; simp, g⟩
    · exact t.foot b hb
  | _, _, _, .dic h g l t, b, hb => by
    rcases List.mem_cons.mp hb with rfl | hb
    · exact ⟨h.ne, g⟩
    · exact t.foot b hb
theorem OwnL.foot : ∀ {xs : List OV} {vs : List V} {S : List Addr}, OwnL K G H xs vs S → ∀ b ∈ S, H b ≠ none ∧ G b = none
  | _, _, _, .nil, b, hb => by simp at hb
  | _, _, _, .cons h t, b, hb => by
    rcases List.mem_append.mp hb with hb | hb
    · exact h.foot b hb
    · exact t.foot b hb
end
theorem Sta.foot : ∀ {δ : Dl} {σ : St} {S : List Addr}, Sta K G H δ σ S → ∀ b ∈ S, H b ≠ Option.none ∧ G b = Option.none
  | _, _, _, .nil, b, hb => by simp at hb
  | _, _, _, .un t, b, hb => t.foot b hb
  | _, _, _, .sl h t, b, hb => by
    rcases List.mem_append.mp hb with hb | hb
    · exact h.foot b hb
    · exact t.foot b hb
theorem Sta.length : ∀ {δ : Dl} {σ : St} {S : List Addr}, Sta K G H δ σ S → δ.length = σ.length
  | _, _, _, .nil => rfl
  | _, _, _, .un t => by simp [t.length]
  | _, _, _, .sl h t => by simp [t.length]

/-! ### how a state goes on -/
structure Ext (S : List Addr) (G H G' H' : Hp) : Prop where
  gg : Same G G'
  gh : Same G' H'
  kp : ∀ b o, b ∉ S → H b = some o → H' b = some o
  dm : ∀ b, H b ≠ none → H' b ≠ none
  fr : ∀ b, b ∉ S → H b ≠ none → G' b = G b
/-- what is owned then was owned or is new -/
def Frs (S S' : List Addr) (H : Hp) : Prop := ∀ b ∈ S', b ∈ S ∨ H b = none
theorem Ext.refl (g : Same G H) {S : List Addr} : Ext S G H G H := ⟨Same.refl G, g, fun _ _ _ h => h, fun _ h => h, fun _ _ _ => rfl⟩
theorem Ext.trans {S S' : List Addr} {G1 H1 G2 H2 : Hp} (a : Ext S G H G1 H1) (b : Ext S' G1 H1 G2 H2) (f : Frs S S' H) : Ext S G H G2 H2 where
  gg := a.gg.trans b.gg
  gh := b.gh
  kp := fun c o hc e => b.kp c o (fun q => by
    rcases f c q with z | z
    · exact hc z
    · rw [z] at e; cases e) (a.kp c o hc e)
  dm := fun c h => b.dm c (a.dm c h)
  fr := fun c hc h => (b.fr c (fun q => by
    rcases f c q with z | z
    · exact hc z
    · exact h z) (a.dm c h)).trans (a.fr c hc h)
theorem Ext.mono {S S' : List Addr} {G1 H1 : Hp} (a : Ext S G H G1 H1) (h : ∀ b ∈ S, b ∈ S') : Ext S' G H G1 H1 := ⟨a.gg, a.gh, fun b o hb e => a.kp b o (fun q => hb (h b q)) e, a.dm, fun b hb e => a.fr b (fun q => hb (h b q)) e⟩
theorem Ext.pure {S : List Addr} {G1 H1 : Hp} (a : Ext [] G H G1 H1) : Ext S G H G1 H1 := a.mono fun _ h => by simp at h
theorem Ext.same {G1 H1 : Hp} (a : Ext [] G H G1 H1) : Same H H1 := fun b o e => a.kp b o (by simp) e
theorem Frs.refl {S : List Addr} : Frs S S H := fun _ h => .inl h
theorem Frs.trans {S S1 S2 T : List Addr} {G1 H1 : Hp} (a : Frs S S1 H) (e : Ext T G H G1 H1) (b : Frs S1 S2 H1) : Frs S S2 H := fun c hc => by
  rcases b c hc with q | q
  · exact a c q
  · right
    cases z : H c with
    | none => rfl
    | some o => exact absurd q (e.dm c (by rw [z]; simp))
/-- what stays apart from S is kept -/
theorem Ext.apart {S T : List Addr} {G1 H1 : Hp} (a : Ext S G H G1 H1) (h : ∀ b ∈ T, b ∉ S ∧ H b ≠ none ∧ G b = none) : ∀ b ∈ T, H1 b = H b ∧ G1 b = none := fun b hb => by
  obtain ⟨h1, h2, h3⟩ := h b hb
  refine ⟨?_, by rw [a.fr b h1 h2]; exact h3⟩
  cases z : H b with
  | none => exact absurd z h2
  | some o => exact a.kp b o h1 z
theorem Own.ext {x : OV} {v : V} {T : List Addr} {G1 H1 : Hp} (h : Own K G H x v T) (a : Ext [] G H G1 H1) : Own K G1 H1 x v T := h.frame a.gg (a.apart fun b hb => ⟨by simp, h.foot b hb⟩)
theorem OwnL.ext {x : List OV} {v : List V} {T : List Addr} {G1 H1 : Hp} (h : OwnL K G H x v T) (a : Ext [] G H G1 H1) : OwnL K G1 H1 x v T := h.frame a.gg (a.apart fun b hb => ⟨by simp, h.foot b hb⟩)
theorem Sta.ext {x : Dl} {v : St} {T : List Addr} {G1 H1 : Hp} (h : Sta K G H x v T) (a : Ext [] G H G1 H1) : Sta K G1 H1 x v T := h.frame a.gg (a.apart fun b hb => ⟨by simp, h.foot b hb⟩)
/-- a new object that never changes -/
theorem Ext.newD {p : Addr} {o : HO} (g : Same G H) (n : H p = none) : Ext [] G H (upd G p o) (upd H p o) := by
  have np : G p = none := g.free n
  refine ⟨fun b u e => ?_, fun b u e => ?_, fun b u _ e => ?_, fun b h => ?_, fun b _ h => ?_⟩
  · rw [upd_ne (ne_of_none e np)]; exact e
  · by_cases q : b = p
    · subst q; rw [upd_same] at e ⊢; exact e
    · rw [upd_ne q] at e ⊢; exact g b u e
  · rw [upd_ne (ne_of_none e n)]; exact e
  · by_cases q : b = p
    · subst q; rw [upd_same]; simp
    · rw [upd_ne q]; exact h
  · rw [upd_ne]
    intro q; subst q; exact h n
/-- a new object that may change -/
theorem Ext.newO {p : Addr} {o : HO} (g : Same G H) (n : H p = none) : Ext [] G H G (upd H p o) := by
  have np : G p = none := g.free n
  refine ⟨Same.refl G, fun b u e => ?_, fun b u _ e => ?_, fun b h => ?_, fun b _ h => rfl⟩
  · rw [upd_ne (ne_of_none e np)]; exact g b u e
  · rw [upd_ne (ne_of_none e n)]; exact e
  · by_cases q : b = p
    · subst q; rw [upd_same]; simp
    · rw [upd_ne q]; exact h
/-- an owned object changes -/
theorem Ext.set {p : Addr} {o : HO} {S : List Addr} (g : Same G H) (h : p ∈ S) (np : G p = none) : Ext S G H G (upd H p o) := by
  refine ⟨Same.refl G, fun b u e => ?_, fun b u hb e => ?_, fun b z => ?_, fun b _ _ => rfl⟩
  · rw [upd_ne (ne_of_none e np)]; exact g b u e
  · rw [upd_ne (fun q => hb (by subst q; exact h))]; exact e
  · by_cases q : b = p
    · subst q; rw [upd_same]; simp
    · rw [upd_ne q]; exact z
/-- freezing: G with what stands at S -/
def frz (G H : Hp) (S : List Addr) : Hp := fun b => if b ∈ S then H b else G b
theorem frz_in {S : List Addr} {b : Addr} (h : b ∈ S) : frz G H S b = H b := by unfold frz; rw [if_pos h]
theorem frz_out {S : List Addr} {b : Addr} (h : b ∉ S) : frz G H S b = G b := by unfold frz; rw [if_neg h]
theorem frz_gg {S : List Addr} (k : ∀ b ∈ S, G b = none) : Same G (frz G H S) := fun b o e => by
  rw [frz_out]; exact e
  intro q; rw [k b q] at e; cases e
theorem frz_gh {S : List Addr} (g : Same G H) : Same (frz G H S) H := fun b o e => by
  by_cases q : b ∈ S
  · rw [frz_in q] at e; exact e
  · rw [frz_out q] at e; exact g b o e
end

/-! ### what is data -/
mutual
def OV.fz : OV → Option D
  | .dat d => some d
  | .lst xs => (OV.fzL xs).map D.lst
  | .obj C fs => (OV.fzF fs).map (D.obj C)
  | .dic _ _ => none
def OV.fzL : List OV → Option (List D)
  | [] => some []
  | x :: xs => match x.fz, OV.fzL xs with
    | some d, some ds => some (d :: ds)
    | _, _ => none
def OV.fzF : List (Str × OV) → Option (List (Str × D))
  | [] => some []
  | (f, x) :: xs => match x.fz, OV.fzF xs with
    | some d, some ds => some ((f, d) :: ds)
    | _, _ => none
end
theorem fzL_dat : ∀ ds : List D, OV.fzL (ds.map OV.dat) = some ds
  | [] => rfl
  | d :: ds => by simp [OV.fzL, OV.fz, fzL_dat ds]
end Pw
namespace Pw
open PySem PySem.Spec L2
/-! ### taking a slot out of the state and putting it back -/
section
variable {K : PySem.W.Frag} {G G' H H' : Hp}
theorem Sta.get : ∀ {δ : Dl} {σ : L2.St} {S : List Addr} {i : Nat} {x : OV}, Sta K G H δ σ S → δ[i]? = some (some x) →
    ∃ v Si Sr, σ[i]? = some (some v) ∧ Own K G H x v Si ∧ S.Perm (Si ++ Sr) ∧ Sta K G H (δ.set i Option.none) σ Sr
  | _, _, _, _, _, .nil, h => by simp at h
  | _, _, _, 0, x, .un t, h => by simp at h
  | _, _, _, i + 1, x, .un t, h => by
    obtain ⟨v, Si, Sr, h1, h2, h3, h4⟩ := t.get (i := i) (x := x) (by simpa using h)
    exact ⟨v, Si, Sr, by simpa using h1, h2, h3, by simpa using Sta.un h4⟩
  | _, _, _, 0, x, .sl (x := x0) o t, h => by
    have e : x0 = x := by simpa using h
    subst e
    exact ⟨_, _, _, rfl, o, List.Perm.refl _, by simpa using Sta.un t⟩
  | _, _, _, i + 1, x, .sl (S := S0) (T := T0) o t, h => by
    obtain ⟨v, Si, Sr, h1, h2, h3, h4⟩ := t.get (i := i) (x := x) (by simpa using h)
    refine ⟨v, Si, S0 ++ Sr, by simpa using h1, h2, ?_, by simpa using Sta.sl o h4⟩
    exact (List.Perm.append_left S0 h3).trans (by rw [← List.append_assoc, ← List.append_assoc]; exact List.Perm.append_right Sr List.perm_append_comm)
theorem Sta.fill : ∀ {δ : Dl} {σ : L2.St} {S Si : List Addr} {i : Nat} {x : OV} {v : V}, Sta K G H δ σ S → δ[i]? = some Option.none → Own K G H x v Si →
    ∃ S', S'.Perm (Si ++ S) ∧ Sta K G H (δ.set i (some x)) (σ.set i (some v)) S'
  | _, _, _, _, _, _, _, .nil, h, _ => by simp at h
  | _, _, S, Si, 0, x, v, .un t, h, o => ⟨_, List.Perm.refl _, by simpa using Sta.sl o t⟩
  | _, _, S, Si, i + 1, x, v, .un t, h, o => by
    obtain ⟨S', h1, h2⟩ := t.fill (i := i) (by simpa using h) o
    exact ⟨S', h1, by simpa using Sta.un h2⟩
  | _, _, _, _, 0, x, v, .sl o' t, h, o => by simp at h
  | _, _, _, Si, i + 1, x, v, .sl (S := S0) (T := T0) o' t, h, o => by
    obtain ⟨S', h1, h2⟩ := t.fill (i := i) (by simpa using h) o
    refine ⟨S0 ++ S', ?_, by simpa using Sta.sl o' h2⟩
    exact (List.Perm.append_left S0 h1).trans (by rw [← List.append_assoc, ← List.append_assoc]; exact List.Perm.append_right T0 List.perm_append_comm)
/-- a slot forgotten -/
theorem Sta.drop : ∀ {δ : Dl} {σ : L2.St} {S : List Addr} (i : Nat), Sta K G H δ σ S → ∃ Si Sr, S.Perm (Si ++ Sr) ∧ Sta K G H (δ.set i Option.none) σ Sr
  | _, _, _, _, .nil => ⟨[], [], List.Perm.refl _, by simpa using Sta.nil⟩
  | _, _, S, 0, .un t => ⟨[], S, List.Perm.refl _, by simpa using Sta.un t⟩
  | _, _, S, i + 1, .un t => by
    obtain ⟨Si, Sr, h1, h2⟩ := t.drop i
    exact ⟨Si, Sr, h1, by simpa using Sta.un h2⟩
  | _, _, _, 0, .sl o t => ⟨_, _, List.Perm.refl _, by simpa using Sta.un t⟩
  | _, _, _, i + 1, .sl (S := S0) (T := T0) o t => by
    obtain ⟨Si, Sr, h1, h2⟩ := t.drop i
    refine ⟨Si, S0 ++ Sr, ?_, by simpa using Sta.sl o h2⟩
    exact (List.Perm.append_left S0 h1).trans (by rw [← List.append_assoc, ← List.append_assoc]; exact List.Perm.append_right Sr List.perm_append_comm)
/-- an unknown slot may hold anything -/
theorem Sta.wild : ∀ {δ : Dl} {σ : L2.St} {S : List Addr} {i : Nat} {w : Option V}, Sta K G H δ σ S → δ[i]? = some Option.none → Sta K G H δ (σ.set i w) S
  | _, _, _, _, _, .nil, h => by simp at h
  | _, _, S, 0, w, .un t, h => by simpa using Sta.un t
  | _, _, S, i + 1, w, .un t, h => by simpa using Sta.un (t.wild (i := i) (by simpa using h))
  | _, _, _, 0, w, .sl o t, h => by simp at h
  | _, _, _, i + 1, w, .sl o t, h => by simpa using Sta.sl o (t.wild (i := i) (by simpa using h))
theorem set_some {α : Type} {σ : List α} {i : Nat} {v : α} (h : σ[i]? = some v) : σ.set i v = σ := by
  apply List.ext_getElem?
  intro j
  by_cases e : i = j
  · subst e
    obtain ⟨hi, _⟩ := List.getElem?_eq_some_iff.mp h
    rw [List.getElem?_set_self hi, h]
  · rw [List.getElem?_set_ne e]
theorem get_lt {α : Type} {l : List α} {i : Nat} {x : α} (h : l[i]? = some x) : i < l.length := (List.getElem?_eq_some_iff.mp h).1
/-- the node of a slot changed in place -/
theorem Sta.put {δ : Dl} {σ : L2.St} {Sr Si : List Addr} {i : Nat} {x : OV} {v : V} (h : Sta K G H (δ.set i Option.none) σ Sr) (hi : i < δ.length) (hv : σ[i]? = some (some v)) (o : Own K G H x v Si) :
    ∃ S', S'.Perm (Si ++ Sr) ∧ Sta K G H (δ.set i (some x)) σ S' := by
  obtain ⟨S', h1, h2⟩ := h.fill (i := i) (by rw [List.getElem?_set_self hi]) o
  rw [List.set_set, set_some hv] at h2
  exact ⟨S', h1, h2⟩
/-- a slot stored -/
theorem Sta.store {δ : Dl} {σ : L2.St} {S Si : List Addr} {i : Nat} {x : OV} {v : V} (h : Sta K G H δ σ S) (hi : i < δ.length) (o : Own K G H x v Si) :
    ∃ Sd Sr S', S.Perm (Sd ++ Sr) ∧ S'.Perm (Si ++ Sr) ∧ Sta K G H (δ.set i (some x)) (σ.set i (some v)) S' := by
  obtain ⟨Sd, Sr, h1, h2⟩ := h.drop i
  obtain ⟨S', h3, h4⟩ := h2.fill (i := i) (by rw [List.getElem?_set_self hi]) o
  rw [List.set_set] at h4
  exact ⟨Sd, Sr, S', h1, h3, h4⟩
theorem nd_perm {S T : List Addr} (p : S.Perm T) (h : S.Nodup) : T.Nodup := p.nodup_iff.mp h
theorem nd_left {S T : List Addr} (h : (S ++ T).Nodup) : S.Nodup := (List.nodup_append.mp h).1
theorem nd_right {S T : List Addr} (h : (S ++ T).Nodup) : T.Nodup := (List.nodup_append.mp h).2.1
theorem nd_app {S T : List Addr} (h1 : S.Nodup) (h2 : T.Nodup) (h3 : ∀ b ∈ S, b ∉ T) : (S ++ T).Nodup := List.nodup_append.mpr ⟨h1, h2, fun a ha b hb e => h3 a ha (e ▸ hb)⟩
theorem nd_dis {S T : List Addr} (h : (S ++ T).Nodup) {b : Addr} (hb : b ∈ S) : b ∉ T := fun q => (List.nodup_append.mp h).2.2 b hb b q rfl
end

/-! ### the judgements -/
section
variable (K : PySem.W.Frag)
/-- te gives the data d; nothing owned changes -/
def WP (te : TE) (δ : Dl) (d : D) : Prop := ∀ (σ : L2.St) (G H : Hp) (S : List Addr), Same G H → Sta K G H δ σ S → S.Nodup → ∀ Q : VK, (∀ v G' H', Ext [] G H G' H' → Rep K G' v d → Q v H') → te σ H Q
/-- te gives a new list of data -/
def WO (te : TE) (δ : Dl) (ds : List D) : Prop := ∀ (σ : L2.St) (G H : Hp) (S : List Addr), Same G H → Sta K G H δ σ S → S.Nodup → ∀ Q : VK,
  (∀ p vs G' H', Ext [] G H G' H' → G' p = none → H p = none → H' p = some (.lst vs) → RepL K G' vs ds → Q (.ref p) H') → te σ H Q
/-- te finds the place x -/
def PL (te : TE) (δ : Dl) (x : OV) : Prop := ∀ (σ : L2.St) (G H : Hp) (S : List Addr), Same G H → Sta K G H δ σ S → S.Nodup → ∀ Q : VK, (∀ u Sx Sr, Own K G H x u Sx → S.Perm (Sx ++ Sr) → Q u H) → te σ H Q
/-- te finds the place x; put x' is the state where x' stands there -/
def PM (te : TE) (δ : Dl) (x : OV) (put : OV → Dl) : Prop := ∀ (σ : L2.St) (G H : Hp) (S : List Addr), Same G H → Sta K G H δ σ S → S.Nodup → ∀ Q : VK,
  (∀ u Sx Sr, Own K G H x u Sx → S.Perm (Sx ++ Sr) →
    (∀ G' H' x' Sx', Same G G' → (∀ b ∈ Sr, H' b = H b ∧ G' b = none) → Own K G' H' x' u Sx' → ∃ S', S'.Perm (Sx' ++ Sr) ∧ Sta K G' H' (put x') σ S') → Q u H) → te σ H Q
structure PostE (S : List Addr) (σ : L2.St) (G H : Hp) (v : V) (x : OV) (δ' : Dl) (G' H' : Hp) (Sx S' : List Addr) : Prop where
  e : Ext S G H G' H'
  o : Own K G' H' x v Sx
  s : Sta K G' H' δ' σ S'
  n : (Sx ++ S').Nodup
  f : Frs S (Sx ++ S') H
/-- te with what it does to the state -/
def WE (te : TE) (δ : Dl) (Φ : OV → Dl → Prop) : Prop := ∀ (σ : L2.St) (G H : Hp) (S : List Addr), Same G H → Sta K G H δ σ S → S.Nodup → ∀ Q : VK,
  (∀ v x δ' G' H' Sx S', Φ x δ' → PostE K S σ G H v x δ' G' H' Sx S' → Q v H') → te σ H Q
def WTp (t : TT) (δ : Dl) (b : Bool) : Prop := ∀ (σ : L2.St) (G H : Hp) (S : List Addr), Same G H → Sta K G H δ σ S → S.Nodup → ∀ Q : Bool → Hp → Prop, (∀ G' H', Ext [] G H G' H' → Q b H') → t σ H Q
structure PostT (S : List Addr) (σ : L2.St) (G H : Hp) (δ' : Dl) (G' H' : Hp) (S' : List Addr) : Prop where
  e : Ext S G H G' H'
  s : Sta K G' H' δ' σ S'
  n : S'.Nodup
  f : Frs S S' H
def WT (t : TT) (δ : Dl) (Φ : Bool → Dl → Prop) : Prop := ∀ (σ : L2.St) (G H : Hp) (S : List Addr), Same G H → Sta K G H δ σ S → S.Nodup → ∀ Q : Bool → Hp → Prop,
  (∀ b δ' G' H' S', Φ b δ' → PostT K S σ G H δ' G' H' S' → Q b H') → t σ H Q
/-- a statement's ends -/
structure En where
  nx : Dl → Prop
  rt : OV → Dl → Prop
  bk : Dl → Prop := fun _ => False
  ct : Dl → Prop := fun _ => False
/-- P: the slots that are never stored -/
structure PostS (P : List Nat) (S : List Addr) (σ : L2.St) (G H : Hp) (δ' : Dl) (σ' : L2.St) (G' H' : Hp) (S' : List Addr) : Prop where
  e : Ext S G H G' H'
  s : Sta K G' H' δ' σ' S'
  n : S'.Nodup
  f : Frs S S' H
  p : ∀ i ∈ P, σ'[i]? = σ[i]?
structure PostR (P : List Nat) (S : List Addr) (σ : L2.St) (G H : Hp) (v : V) (x : OV) (δ' : Dl) (σ' : L2.St) (G' H' : Hp) (Sx S' : List Addr) : Prop where
  e : Ext S G H G' H'
  o : Own K G' H' x v Sx
  s : Sta K G' H' δ' σ' S'
  n : (Sx ++ S').Nodup
  f : Frs S (Sx ++ S') H
  p : ∀ i ∈ P, σ'[i]? = σ[i]?
def WS (P : List Nat) (ts : TS) (δ : Dl) (Ψ : En) : Prop := ∀ (σ : L2.St) (G H : Hp) (S : List Addr), Same G H → Sta K G H δ σ S → S.Nodup → ∀ D : Ends,
  (∀ δ' σ' G' H' S', Ψ.nx δ' → PostS K P S σ G H δ' σ' G' H' S' → D.nx σ' H') →
  (∀ v x δ' σ' G' H' Sx S', Ψ.rt x δ' → PostR K P S σ G H v x δ' σ' G' H' Sx S' → D.rt v H') →
  (∀ δ' σ' G' H' S', Ψ.bk δ' → PostS K P S σ G H δ' σ' G' H' S' → D.bk σ' H') →
  (∀ δ' σ' G' H' S', Ψ.ct δ' → PostS K P S σ G H δ' σ' G' H' S' → D.ct σ' H') → ts D σ H
end

section
variable {K : PySem.W.Frag} {P : List Nat} {δ : Dl} {ta tb te : TE} {t u : TT} {ts t1 t2 : TS}
theorem WP.to {d e : D} (h : WP K te δ d) (q : d = e) : WP K te δ e := q ▸ h
theorem WTp.to {b c : Bool} (h : WTp K t δ b) (q : b = c) : WTp K t δ c := q ▸ h
theorem WE.mono {Φ Φ' : OV → Dl → Prop} (h : WE K te δ Φ) (q : ∀ x δ', Φ x δ' → Φ' x δ') : WE K te δ Φ' := fun σ G H S g s n Q k => h σ G H S g s n Q fun v x δ' G' H' Sx S' a => k v x δ' G' H' Sx S' (q x δ' a)
theorem WT.mono {Φ Φ' : Bool → Dl → Prop} (h : WT K t δ Φ) (q : ∀ x δ', Φ x δ' → Φ' x δ') : WT K t δ Φ' := fun σ G H S g s n Q k => h σ G H S g s n Q fun b δ' G' H' S' a => k b δ' G' H' S' (q b δ' a)
theorem WS.mono {Ψ Ψ' : En} (h : WS K P ts δ Ψ) (q1 : ∀ δ', Ψ.nx δ' → Ψ'.nx δ') (q2 : ∀ x δ', Ψ.rt x δ' → Ψ'.rt x δ') (q3 : ∀ δ', Ψ.bk δ' → Ψ'.bk δ') (q4 : ∀ δ', Ψ.ct δ' → Ψ'.ct δ') : WS K P ts δ Ψ' :=
  fun σ G H S g s n D k1 k2 k3 k4 => h σ G H S g s n D (fun δ' σ' G' H' S' a => k1 δ' σ' G' H' S' (q1 δ' a)) (fun v x δ' σ' G' H' Sx S' a => k2 v x δ' σ' G' H' Sx S' (q2 x δ' a))
    (fun δ' σ' G' H' S' a => k3 δ' σ' G' H' S' (q3 δ' a)) (fun δ' σ' G' H' S' a => k4 δ' σ' G' H' S' (q4 δ' a))
/-- data, as a value with the state -/
theorem we_p {d : D} {Φ : OV → Dl → Prop} (h : WP K te δ d) (q : Φ (.dat d) δ) : WE K te δ Φ := fun σ G H S g s n Q k =>
  h σ G H S g s n Q fun v G' H' e r => k v _ δ G' H' [] S q ⟨e.pure, .dat r, s.ext e, by simpa using n, by simpa using Frs.refl⟩
theorem we_o {ds : List D} {Φ : OV → Dl → Prop} (h : WO K te δ ds) (q : Φ (.lst (ds.map OV.dat)) δ) : WE K te δ Φ := fun σ G H S g s n Q k =>
  h σ G H S g s n Q fun p vs G' H' e hp np e1 r => by
    have own : ∀ {vs : List V} {ds : List D}, RepL K G' vs ds → OwnL K G' H' (ds.map OV.dat) vs [] := by
      intro vs ds
      induction ds generalizing vs with
      | nil => intro r; rw [r.cases_nil]; exact .nil
      | cons d ds ih =>
        intro r
        obtain ⟨v, ws, rfl, h1, h2⟩ := r.cases_cons
        exact OwnL.cons (S := []) (T := []) (.dat h1) (ih h2)
    have ps : p ∉ S := fun q => (s.foot p q).1 np
    refine k _ _ δ G' H' [p] S q ⟨e.pure, .lst e1 hp (own r), s.ext e, nd_app (by simp) n fun b hb => ?_, fun b hb => ?_⟩
    · have : b = p := by simpa using hb
      subst this; exact ps
    · rcases List.mem_append.mp hb with hb | hb
      · have : b = p := by simpa using hb
        subst this; exact .inr np
      · exact .inl hb
/-- a new list that is never changed -/
theorem wp_o {ds : List D} (h : WO K te δ ds) : WP K te δ (.lst ds) := fun σ G H S g s n Q k =>
  h σ G H S g s n Q fun p vs G' H' e hp np e1 r => by
    have gg : Same G' (upd G' p (.lst vs)) := fun b o z => by rw [upd_ne (ne_of_none z hp)]; exact z
    refine k _ (upd G' p (.lst vs)) H' ⟨e.gg.trans gg, fun b o z => ?_, e.kp, e.dm, fun b hn hb => ?_⟩ (.lst upd_same r.len fun i v d h1 h2 => (r.at_ i v d h1 h2).mono gg)
    · by_cases q : b = p
      · subst q; rw [upd_same] at z; rw [e1]; exact z
      · rw [upd_ne q] at z; exact e.gh b o z
    · rw [upd_ne (fun q => hb (by subst q; exact np))]; exact e.fr b hn hb
theorem wt_p {b : Bool} {Φ : Bool → Dl → Prop} (h : WTp K t δ b) (q : Φ b δ) : WT K t δ Φ := fun σ G H S g s n Q k =>
  h σ G H S g s n Q fun G' H' e => k b δ G' H' S q ⟨e.pure, s.ext e, n, Frs.refl⟩
theorem pm_pl {x : OV} {put : OV → Dl} (h : PM K te δ x put) : PL K te δ x := fun σ G H S g s n Q k => h σ G H S g s n Q fun u Sx Sr o p _ => k u Sx Sr o p
theorem wp_l {d : D} (h : PL K te δ (.dat d)) : WP K te δ d := fun σ G H S g s n Q k => h σ G H S g s n Q fun u Sx Sr o p => by
  cases o with
  | dat r => exact k u G H (Ext.refl g) r

/-! ### names, constants -/
theorem pm_var {i : Nat} {x : OV} (h : δ[i]? = some (some x)) : PM K (tVar i) δ x (fun y => δ.set i (some y)) := fun σ G H S g s n Q k => by
  obtain ⟨v, Si, Sr, h1, h2, h3, h4⟩ := s.get h
  refine ⟨v, h1, k v Si Sr h2 h3 fun G' H' x' Sx' gg kp o => ?_⟩
  exact (h4.frame gg kp).put (get_lt h) h1 o
theorem pl_var {i : Nat} {x : OV} (h : δ[i]? = some (some x)) : PL K (tVar i) δ x := pm_pl (pm_var h)
theorem wp_var {i : Nat} {d : D} (h : δ[i]? = some (some (.dat d))) : WP K (tVar i) δ d := wp_l (pl_var h)
theorem wp_int {i : Int} : WP K (tC (.int i)) δ (.int i) := fun σ G H S g s n Q k => k _ G H (Ext.refl g) (.int i)
theorem wp_str {i : Str} : WP K (tC (.str i)) δ (.str i) := fun σ G H S g s n Q k => k _ G H (Ext.refl g) (.str i)
theorem wp_bl {i : Bool} : WP K (tC (.bl i)) δ (.bl i) := fun σ G H S g s n Q k => k _ G H (Ext.refl g) (.bl i)
theorem wp_non : WP K (tC .non) δ .non := fun σ G H S g s n Q k => k _ G H (Ext.refl g) .non

/-! ### operators by values -/
def RP (K : PySem.W.Frag) (r : R2) (x y z : D) : Prop := ∀ (G H : Hp) (v u : V), Same G H → Rep K G v x → Rep K G u y → ∀ Q : VK, (∀ w G' H', Ext [] G H G' H' → Rep K G' w z → Q w H') → r v u H Q
theorem wp_op {r : R2} {x y z : D} (ha : WP K ta δ x) (hb : WP K tb δ y) (hr : RP K r x y z) : WP K (tOp r ta tb) δ z := fun σ G H S g s n Q k =>
  ha σ G H S g s n _ fun v G1 H1 e1 r1 => hb σ G1 H1 S e1.gh (s.ext e1) n _ fun u G2 H2 e2 r2 =>
    hr G2 H2 v u e2.gh (r1.mono e2.gg) r2 Q fun w G3 H3 e3 r3 => k w G3 H3 ((e1.trans e2 (fun _ h => by simp at h)).trans e3 (fun _ h => by simp at h)) r3
theorem RP.l {r r' : R2} {x y z : D} (h : RP K r x y z) : RP K (fun x y H Q => r x y H Q ∨ r' x y H Q) x y z := fun G H v u g a b Q k => .inl (h G H v u g a b Q k)
theorem RP.r {r r' : R2} {x y z : D} (h : RP K r' x y z) : RP K (fun x y H Q => r x y H Q ∨ r' x y H Q) x y z := fun G H v u g a b Q k => .inr (h G H v u g a b Q k)
/-- a one-place operator, a call of one value -/
def UP (K : PySem.W.Frag) (r : V → Hp → VK → Prop) (x z : D) : Prop := ∀ (G H : Hp) (v : V), Same G H → Rep K G v x → ∀ Q : VK, (∀ w G' H', Ext [] G H G' H' → Rep K G' w z → Q w H') → r v H Q
theorem wp_un {r : V → Hp → VK → Prop} {x z : D} (ha : WP K ta δ x) (hr : UP K r x z) : WP K (tUn r ta) δ z := fun σ G H S g s n Q k =>
  ha σ G H S g s n _ fun v G1 H1 e1 r1 => hr G1 H1 v e1.gh r1 Q fun w G3 H3 e3 r3 => k w G3 H3 (e1.trans e3 (fun _ h => by simp at h)) r3

/-! ### statements -/
theorem ws_seq {Ψ : En} (h : WS K P t1 δ { Ψ with nx := fun δ' => WS K P t2 δ' Ψ }) : WS K P (tSeq t1 t2) δ Ψ := fun σ G H S g s n D k1 k2 k3 k4 =>
  h σ G H S g s n { D with nx := t2 D } (fun δ' σ' G' H' S' a p => a σ' G' H' S' p.e.gh p.s p.n D
    (fun δ2 σ2 G2 H2 S2 b q => k1 δ2 σ2 G2 H2 S2 b ⟨p.e.trans q.e p.f, q.s, q.n, p.f.trans p.e q.f, fun i hi => (q.p i hi).trans (p.p i hi)⟩)
    (fun v x δ2 σ2 G2 H2 Sx S2 b q => k2 v x δ2 σ2 G2 H2 Sx S2 b ⟨p.e.trans q.e p.f, q.o, q.s, q.n, p.f.trans p.e q.f, fun i hi => (q.p i hi).trans (p.p i hi)⟩)
    (fun δ2 σ2 G2 H2 S2 b q => k3 δ2 σ2 G2 H2 S2 b ⟨p.e.trans q.e p.f, q.s, q.n, p.f.trans p.e q.f, fun i hi => (q.p i hi).trans (p.p i hi)⟩)
    (fun δ2 σ2 G2 H2 S2 b q => k4 δ2 σ2 G2 H2 S2 b ⟨p.e.trans q.e p.f, q.s, q.n, p.f.trans p.e q.f, fun i hi => (q.p i hi).trans (p.p i hi)⟩)) k2 k3 k4
theorem ws_next {Ψ : En} (h : Ψ.nx δ) : WS K P tNext δ Ψ := fun σ G H S g s n D k1 k2 k3 k4 => k1 δ σ G H S h ⟨Ext.refl g, s, n, Frs.refl, fun _ _ => rfl⟩
theorem ws_brk {Ψ : En} (h : Ψ.bk δ) : WS K P tBreak δ Ψ := fun σ G H S g s n D k1 k2 k3 k4 => k3 δ σ G H S h ⟨Ext.refl g, s, n, Frs.refl, fun _ _ => rfl⟩
theorem ws_cont {Ψ : En} (h : Ψ.ct δ) : WS K P tCont δ Ψ := fun σ G H S g s n D k1 k2 k3 k4 => k4 δ σ G H S h ⟨Ext.refl g, s, n, Frs.refl, fun _ _ => rfl⟩
theorem ws_retE {Ψ : En} (h : WE K te δ Ψ.rt) : WS K P (tRet te) δ Ψ := fun σ G H S g s n D k1 k2 k3 k4 =>
  h σ G H S g s n D.rt fun v x δ' G' H' Sx S' a p => k2 v x δ' σ G' H' Sx S' a ⟨p.e, p.o, p.s, p.n, p.f, fun _ _ => rfl⟩
theorem ws_ret {Ψ : En} {d : D} (h : WP K te δ d) (q : Ψ.rt (.dat d) δ) : WS K P (tRet te) δ Ψ := ws_retE (we_p h q)
theorem ws_retN {Ψ : En} (q : Ψ.rt (.dat .non) δ) : WS K P tRetN δ Ψ := fun σ G H S g s n D k1 k2 k3 k4 => k2 .non _ δ σ G H [] S q ⟨Ext.refl g, .dat .non, s, by simpa using n, by simpa using Frs.refl, fun _ _ => rfl⟩
theorem ws_drop {Ψ : En} (h : WE K te δ fun _ δ' => Ψ.nx δ') : WS K P (tDrop te) δ Ψ := fun σ G H S g s n D k1 k2 k3 k4 =>
  h σ G H S g s n _ fun v x δ' G' H' Sx S' a p => k1 δ' σ G' H' S' a ⟨p.e, p.s, nd_right p.n, fun b hb => p.f b (List.mem_append_right _ hb), fun _ _ => rfl⟩
/-- name = e -/
theorem ws_setE {Ψ : En} {i : Nat} (h : WE K te δ fun x δ' => i < δ'.length ∧ i ∉ P ∧ Ψ.nx (δ'.set i (some x))) : WS K P (tAsg te (gName i)) δ Ψ := fun σ G H S g s n D k1 k2 k3 k4 =>
  h σ G H S g s n _ fun v x δ' G' H' Sx S' a p => by
    obtain ⟨a1, a2, a3⟩ := a
    obtain ⟨Sd, Sr, S2, h1, h2, h3⟩ := p.s.store (i := i) a1 p.o
    have nn : (Sx ++ (Sd ++ Sr)).Nodup := nd_perm (List.Perm.append_left Sx h1) p.n
    have n2 : (Sx ++ Sr).Nodup := by
      refine nd_app (nd_left nn) (nd_right (nd_right nn)) fun b hb => ?_
      have := nd_dis nn hb
      exact fun q => this (List.mem_append_right _ q)
    refine k1 _ _ G' H' S2 a3 ⟨p.e, h3, nd_perm h2.symm n2, fun b hb => p.f b ?_, fun j hj => ?_⟩
    · rcases List.mem_append.mp (h2.mem_iff.mp hb) with q | q
      · exact List.mem_append_left _ q
      · exact List.mem_append_right _ (h1.mem_iff.mpr (List.mem_append_right _ q))
    · rw [List.getElem?_set_ne]
      intro e; subst e; exact a2 hj
theorem ws_set {Ψ : En} {i : Nat} {d : D} (h : WP K te δ d) (hi : i < δ.length) (hp : i ∉ P) (q : Ψ.nx (δ.set i (some (.dat d)))) : WS K P (tAsg te (gName i)) δ Ψ := ws_setE (we_p h ⟨hi, hp, q⟩)
theorem ws_setO {Ψ : En} {i : Nat} {ds : List D} (h : WO K te δ ds) (hi : i < δ.length) (hp : i ∉ P) (q : Ψ.nx (δ.set i (some (.lst (ds.map OV.dat))))) : WS K P (tAsg te (gName i)) δ Ψ := ws_setE (we_o h ⟨hi, hp, q⟩)
theorem ws_ifE {Ψ : En} {c : TT} (h : WT K c δ fun b δ' => if b = true then WS K P t1 δ' Ψ else WS K P t2 δ' Ψ) : WS K P (tIfS c t1 t2) δ Ψ := fun σ G H S g s n D k1 k2 k3 k4 =>
  h σ G H S g s n _ fun b δ' G' H' S' a p => by
    have go : ∀ {t : TS}, WS K P t δ' Ψ → t D σ H' := fun w => w σ G' H' S' p.e.gh p.s p.n D
      (fun δ2 σ2 G2 H2 S2 b q => k1 δ2 σ2 G2 H2 S2 b ⟨p.e.trans q.e p.f, q.s, q.n, p.f.trans p.e q.f, q.p⟩)
      (fun v x δ2 σ2 G2 H2 Sx S2 b q => k2 v x δ2 σ2 G2 H2 Sx S2 b ⟨p.e.trans q.e p.f, q.o, q.s, q.n, p.f.trans p.e q.f, q.p⟩)
      (fun δ2 σ2 G2 H2 S2 b q => k3 δ2 σ2 G2 H2 S2 b ⟨p.e.trans q.e p.f, q.s, q.n, p.f.trans p.e q.f, q.p⟩)
      (fun δ2 σ2 G2 H2 S2 b q => k4 δ2 σ2 G2 H2 S2 b ⟨p.e.trans q.e p.f, q.s, q.n, p.f.trans p.e q.f, q.p⟩)
    cases b with
    | true => exact iteT (go (by simpa using a))
    | false => exact iteF (go (by simpa using a))
theorem ws_if {Ψ : En} {c : TT} {b : Bool} (h : WTp K c δ b) (q : if b = true then WS K P t1 δ Ψ else WS K P t2 δ Ψ) : WS K P (tIfS c t1 t2) δ Ψ := ws_ifE (wt_p h q)
theorem fzF_L : ∀ {os : List (Str × OV)} {ds : List (Str × D)}, OV.fzF os = some ds → OV.fzL (os.map (·.2)) = some (ds.map (·.2)) ∧ os.map (·.1) = ds.map (·.1)
  | [], ds, e => by
    have : [] = ds := by simpa [OV.fzF] using e
    subst this
    exact ⟨rfl, rfl⟩
  | (f, x) :: os, ds, e => by
    simp only [OV.fzF] at e
    split at e
    · rename_i d ds' q1 q2
      have e3 := Option.some.inj e
      subst e3
      obtain ⟨i1, i2⟩ := fzF_L q2
      refine ⟨?_, by simp [i2]⟩
      simp only [List.map_cons, OV.fzL, q1, i1]
    · cases e
/-- a ghost step: an owned slot becomes data -/
theorem Own.fz {G H : Hp} : ∀ {x : OV} {v : V} {S : List Addr} {d : D}, Own K G H x v S → S.Nodup → x.fz = some d → Rep K (frz G H S) v d := by
  intro x v S d o
  have key : ∀ {x : OV} {v : V} {S : List Addr}, Own K G H x v S → ∀ {d : D}, x.fz = some d → ∀ {T : List Addr}, (∀ b ∈ S, b ∈ T) → (∀ b ∈ T, G b = none) → Rep K (frz G H T) v d := by
    intro x v S o
    refine Own.rec (motive_1 := fun x v S _ => ∀ {d : D}, x.fz = some d → ∀ {T : List Addr}, (∀ b ∈ S, b ∈ T) → (∀ b ∈ T, G b = none) → Rep K (frz G H T) v d)
      (motive_2 := fun xs vs S _ => ∀ {ds : List D}, OV.fzL xs = some ds → ∀ {T : List Addr}, (∀ b ∈ S, b ∈ T) → (∀ b ∈ T, G b = none) → RepL K (frz G H T) vs ds) ?_ ?_ ?_ ?_ ?_ ?_ o
    · intro d v r d' e T h1 h2
      have e' : d = d' := by simpa [OV.fz] using e
      subst e'
      exact r.mono (frz_gg h2)
    · intro a vs xs S ha ga _ ih d e T h1 h2
      simp only [OV.fz, Option.map_eq_some_iff] at e
      obtain ⟨ds, e1, rfl⟩ := e
      have r := ih e1 (T := T) (fun b hb => h1 b (List.mem_cons_of_mem _ hb)) h2
      exact .lst (by rw [frz_in (h1 a List.mem_cons_self)]; exact ha) r.len r.at_
    · intro a C dx fs os S ha ga hk _ ih d e T h1 h2
      simp only [OV.fz, Option.map_eq_some_iff] at e
      obtain ⟨ds, e1, rfl⟩ := e
      have e2 := fzF_L e1
      have r := ih e2.1 (T := T) (fun b hb => h1 b (List.mem_cons_of_mem _ hb)) h2
      exact .obj (by rw [frz_in (h1 a List.mem_cons_self)]; exact ha) (hk.trans e2.2) r.at_
    · intro t a kvs os S _ _ _ _ _ d e
      simp [OV.fz] at e
    · intro ds e T _ _
      have : [] = ds := by simpa [OV.fzL] using e
      subst this
      exact RepL.nil
    · intro x v xs vs S T _ _ ih1 ih2 ds e T' h1 h2
      simp only [OV.fzL] at e
      split at e
      · rename_i d ds' q1 q2
        have e3 := Option.some.inj e
        subst e3
        exact .cons (ih1 q1 (fun b hb => h1 b (List.mem_append_left _ hb)) h2) (ih2 q2 (fun b hb => h1 b (List.mem_append_right _ hb)) h2)
      · cases e
  intro nd e
  exact key o e (fun b hb => hb) fun b hb => (o.foot b hb).2
theorem Sta.freeze {G H : Hp} {δ : Dl} {σ : L2.St} {S : List Addr} {i : Nat} {x : OV} {d : D} (g : Same G H) (s : Sta K G H δ σ S) (n : S.Nodup) (h : δ[i]? = some (some x)) (e : x.fz = some d) :
    ∃ G' S', Same G G' ∧ Same G' H ∧ (∀ b, b ∉ S → G' b = G b) ∧ (∀ b ∈ S', b ∈ S) ∧ S'.Nodup ∧ Sta K G' H (δ.set i (some (.dat d))) σ S' := by
  obtain ⟨v, Si, Sr, h1, h2, h3, h4⟩ := s.get h
  have nn := nd_perm h3 n
  have r := h2.fz (nd_left nn) e
  have gg : Same G (frz G H Si) := frz_gg fun b hb => (h2.foot b hb).2
  have s2 : Sta K (frz G H Si) H (δ.set i Option.none) σ Sr := h4.frame gg fun b hb => ⟨rfl, by
    rw [frz_out (fun q => nd_dis nn q hb)]; exact (h4.foot b hb).2⟩
  obtain ⟨S', p, s3⟩ := s2.put (get_lt h) h1 (.dat r)
  refine ⟨frz G H Si, S', gg, frz_gh g, fun b hb => frz_out fun q => hb (h3.mem_iff.mpr (List.mem_append_left _ q)), fun b hb => h3.mem_iff.mpr (List.mem_append_right _ (by simpa using p.mem_iff.mp hb)), nd_perm p.symm (by simpa using nd_right nn), s3⟩
theorem Ext.unfz {G H G' : Hp} {S S' : List Addr} (a : Same G G') (c : ∀ b, b ∉ S → G' b = G b) (k : ∀ b ∈ S', b ∈ S) {G1 H1 : Hp} (e : Ext S' G' H G1 H1) : Ext S G H G1 H1 :=
  ⟨a.trans e.gg, e.gh, fun b o hb h => e.kp b o (fun q => hb (k b q)) h, e.dm, fun b hb h => (e.fr b (fun q => hb (k b q)) h).trans (c b hb)⟩
theorem ws_fz {Ψ : En} (i : Nat) {x : OV} {d : D} (h : δ[i]? = some (some x)) (e : x.fz = some d) (w : WS K P ts (δ.set i (some (.dat d))) Ψ) : WS K P ts δ Ψ := fun σ G H S g s n D k1 k2 k3 k4 => by
  obtain ⟨G', S', a, b, c, k, n', s'⟩ := s.freeze g n h e
  refine w σ G' H S' b s' n' D (fun δ2 σ2 G2 H2 S2 z q => k1 δ2 σ2 G2 H2 S2 z ⟨q.e.unfz a c k, q.s, q.n, fun b hb => (q.f b hb).imp (k b) id, q.p⟩)
    (fun v x δ2 σ2 G2 H2 Sx S2 z q => k2 v x δ2 σ2 G2 H2 Sx S2 z ⟨q.e.unfz a c k, q.o, q.s, q.n, fun b hb => (q.f b hb).imp (k b) id, q.p⟩)
    (fun δ2 σ2 G2 H2 S2 z q => k3 δ2 σ2 G2 H2 S2 z ⟨q.e.unfz a c k, q.s, q.n, fun b hb => (q.f b hb).imp (k b) id, q.p⟩)
    (fun δ2 σ2 G2 H2 S2 z q => k4 δ2 σ2 G2 H2 S2 z ⟨q.e.unfz a c k, q.s, q.n, fun b hb => (q.f b hb).imp (k b) id, q.p⟩)
theorem we_fz {Φ : OV → Dl → Prop} (i : Nat) {x : OV} {d : D} (h : δ[i]? = some (some x)) (e : x.fz = some d) (w : WE K te (δ.set i (some (.dat d))) Φ) : WE K te δ Φ := fun σ G H S g s n Q k1 => by
  obtain ⟨G', S', a, b, c, k, n', s'⟩ := s.freeze g n h e
  exact w σ G' H S' b s' n' Q fun v x δ2 G2 H2 Sx S2 z q => k1 v x δ2 G2 H2 Sx S2 z ⟨q.e.unfz a c k, q.o, q.s, q.n, fun b hb => (q.f b hb).imp (k b) id⟩
end
end Pw
namespace Pw
open PySem PySem.Spec L2
/-! ### equality of data -/
mutual
def D.py : D → PyData
  | .non => .none
  | .bl b => .bool b
  | .int i => .int i
  | .str x => .str x
  | .lst xs => .list (D.pyL xs)
  | .tup xs => .tuple (D.pyL xs)
  | .obj _ _ => .none
  | .scr _ => .none
def D.pyL : List D → List PyData
  | [] => []
  | x :: xs => x.py :: D.pyL xs
end
mutual
def D.ok : Nat → D → Bool
  | _, .non => true
  | _, .bl _ => true
  | _, .int _ => true
  | _, .str x => PyData.strOk x
  | n + 1, .lst xs => D.okL n xs
  | n + 1, .tup xs => D.okL n xs
  | _, _ => false
def D.okL : Nat → List D → Bool
  | _, [] => true
  | n, x :: xs => x.ok n && D.okL n xs
end
def D.eqv (a b : D) : Bool := PyData.eqv a.py b.py
mutual
theorem D.ok_shape : ∀ (n : Nat) (d : D), d.ok n = true → d.py.canLay0 = true ∧ d.py.depth ≤ n
  | _, .non, _ => by simp [D.py, PyData.canLay0, PyData.depth]
  | _, .bl _, _ => by simp [D.py, PyData.canLay0, PyData.depth]
  | _, .int _, _ => by simp [D.py, PyData.canLay0, PyData.depth]
  | _, .str x, h => by simpa [D.py, PyData.canLay0, PyData.depth, D.ok] using h
  | n + 1, .lst xs, h => by
    have := D.okL_shape n xs (by simpa [D.ok] using h)
    simp only [D.py, PyData.canLay0, PyData.depth]
    exact ⟨this.1, by omega⟩
  | n + 1, .tup xs, h => by
    have := D.okL_shape n xs (by simpa [D.ok] using h)
    simp only [D.py, PyData.canLay0, PyData.depth]
    exact ⟨this.1, by omega⟩
  | 0, .lst _, h => by simp [D.ok] at h
  | 0, .tup _, h => by simp [D.ok] at h
  | 0, .obj _ _, h => by simp [D.ok] at h
  | _ + 1, .obj _ _, h => by simp [D.ok] at h
  | 0, .scr _, h => by simp [D.ok] at h
  | _ + 1, .scr _, h => by simp [D.ok] at h
theorem D.okL_shape : ∀ (n : Nat) (ds : List D), D.okL n ds = true → PyData.canLayAll0 (D.pyL ds) = true ∧ PyData.depthAll (D.pyL ds) ≤ n
  | _, [], _ => by simp [D.pyL, PyData.canLayAll0, PyData.depthAll]
  | n, d :: ds, h => by
    simp only [D.okL, Bool.and_eq_true] at h
    have h1 := D.ok_shape n d h.1
    have h2 := D.okL_shape n ds h.2
    simp only [D.pyL, PyData.canLayAll0, PyData.depthAll, Bool.and_eq_true]
    exact ⟨⟨h1.1, h2.1⟩, by omega⟩
end
theorem D.shaped {n : Nat} {d : D} (h : d.ok n = true) (hn : n ≤ 64) : SeqAt.shaped d.py = true := by
  obtain ⟨h1, h2⟩ := D.ok_shape n d h
  unfold SeqAt.shaped
  rw [h1, Bool.true_and]
  exact decide_eq_true (by omega)
section
variable {K : PySem.W.Frag} {G H : Hp}
mutual
theorem Rep.dp : ∀ (n : Nat) (d : D) (v : V), d.ok n = true → Rep K G v d → Same G H → Dp K H v d.py
  | _, .non, _, _, r, _ => by cases r; exact .non
  | _, .bl _, _, _, r, _ => by cases r; exact .bl _
  | _, .int _, _, _, r, _ => by cases r; exact .int _
  | _, .str _, _, _, r, _ => by cases r; exact .str _
  | n + 1, .lst xs, _, h, r, g => by
    cases r with
    | lst ha hl hi => exact .lst (.inl (.inl (g _ _ ha))) (RepL.dp n xs _ (by simpa [D.ok] using h) ⟨hl, hi⟩ g)
  | n + 1, .tup xs, _, h, r, g => by
    cases r with
    | tup ha hl hi => exact .tup (seqT g ha) (RepL.dp n xs _ (by simpa [D.ok] using h) ⟨hl, hi⟩ g)
  | 0, .lst _, _, h, _, _ => by simp [D.ok] at h
  | 0, .tup _, _, h, _, _ => by simp [D.ok] at h
  | 0, .obj _ _, _, h, _, _ => by simp [D.ok] at h
  | _ + 1, .obj _ _, _, h, _, _ => by simp [D.ok] at h
  | 0, .scr _, _, h, _, _ => by simp [D.ok] at h
  | _ + 1, .scr _, _, h, _, _ => by simp [D.ok] at h
theorem RepL.dp : ∀ (n : Nat) (ds : List D) (vs : List V), D.okL n ds = true → RepL K G vs ds → Same G H → DpAll K H vs (D.pyL ds)
  | _, [], _, _, r, _ => by rw [r.cases_nil]; exact .nil
  | n, d :: ds, _, h, r, g => by
    simp only [D.okL, Bool.and_eq_true] at h
    obtain ⟨v, ws, rfl, h1, h2⟩ := r.cases_cons
    exact .cons (Rep.dp n d v h.1 h1 g) (RepL.dp n ds ws h.2 h2 g)
end
end
theorem pyL_any (ds : List D) (d : D) : ((D.pyL ds).any fun z => PyData.eqv z d.py) = ds.any fun z => z.eqv d := by
  induction ds with
  | nil => rfl
  | cons x xs ih => simp [D.pyL, ih, D.eqv]

/-! ### the operators, whatever the kinds -/
section
variable {X : Cx}
def rMulS : R2 := fun x y H Q => ∃ (z : Str) (n : Int), x = .str z ∧ y = .int n ∧ z.length ≤ 1 ∧ n ≤ 1000 ∧ -1000 ≤ n ∧ Q (.str (Txt.mul z n)) H
theorem op_mulS : OpR X (binaryOp .Mult) rMulS := by
  intro pins s σ H x y v u Q I rx ry h
  obtain ⟨z, n, rfl, rfl, hz, h1, h2, q⟩ := h
  obtain ⟨t, rfl⟩ := rx
  obtain ⟨t', rfl⟩ := ry
  refine SB.mul ⟨?_, fun hn _ => ?_, fun hn _ => ?_⟩ fun t' k => ⟨.str _, H, I.tok _, ⟨_, rfl⟩, q⟩
  · simp; omega
  · have : (2 ^ 63 - 1 : Int) / n ≥ 1 := by
      have h3 : (1 : Int) ≤ n := by omega
      exact (Int.le_ediv_iff_mul_le (by omega)).mpr (by omega)
    omega
  · have h3 : z.length * n.toNat ≤ 1000 := by
      have : n.toNat ≤ 1000 := by omega
      calc z.length * n.toNat ≤ 1 * 1000 := Nat.mul_le_mul hz this
        _ = 1000 := by omega
    unfold Builtin.Str.tooLong
    exact decide_eq_false (by
      have : (1000 : Nat) ≤ sizeLine := by decide
      omega)
def rInDT (K : PySem.W.Frag) : R2 := fun x y H Q => ∃ d ds, Dp K H x d ∧ Dp K H y (.tuple ds) ∧ SeqAt.shaped d = true ∧ SeqAt.shaped (.tuple ds) = true ∧ Q (.bl (ds.any fun z => PyData.eqv z d)) H
def rNotInDT (K : PySem.W.Frag) : R2 := fun x y H Q => ∃ d ds, Dp K H x d ∧ Dp K H y (.tuple ds) ∧ SeqAt.shaped d = true ∧ SeqAt.shaped (.tuple ds) = true ∧ Q (.bl (!ds.any fun z => PyData.eqv z d)) H
theorem op_inDT (hu : X.A.units + 65 < cLine) : OpR X (compareOp .In) (rInDT X.K) := by
  intro pins s σ H x y v u Q I rx ry h
  obtain ⟨d, ds, hd, he, sd, se, q⟩ := h
  obtain ⟨as, r1⟩ := Dp.reads I d x v hd rx
  obtain ⟨bs, r2⟩ := Dp.reads I (.tuple ds) y u he ry
  exact SeqAt.in_tuple_reads r2 r1 (SeqAt.canLay_of_shaped se) (SeqAt.canLay_of_shaped sd) (PyProof.Rows.room_in_shaped sd hu) ⟨.bl _, H, I, rfl, q⟩
theorem op_notInDT (hu : X.A.units + 65 < cLine) : OpR X (compareOp .NotIn) (rNotInDT X.K) := by
  intro pins s σ H x y v u Q I rx ry h
  obtain ⟨d, ds, hd, he, sd, se, q⟩ := h
  obtain ⟨as, r1⟩ := Dp.reads I d x v hd rx
  obtain ⟨bs, r2⟩ := Dp.reads I (.tuple ds) y u he ry
  exact SeqAt.notIn_tuple_reads r2 r1 (SeqAt.canLay_of_shaped se) (SeqAt.canLay_of_shaped sd) (PyProof.Rows.room_in_shaped sd hu) ⟨.bl _, H, I, rfl, q⟩
/-- x in d, d a dict -/
def rInDic (neg : Bool) : R2 := fun x y H Q => ∃ a o, y = .ref a ∧ IsD H a ∧ DGet H a x o ∧ Q (.bl (if neg then !o.isSome else o.isSome)) H

def rAddI : R2 := rI0 fun i j => .int (i + j)
def rAddS' : R2 := fun x y H Q => ∃ i j, x = .str i ∧ y = .str j ∧ i.length + j.length ≤ sizeLine ∧ Q (.str (i ++ j)) H
def rADD (K : PySem.W.Frag) : R2 := fun x y H Q => rAddI x y H Q ∨ rAddS' x y H Q ∨ rCat x y H Q ∨ rCatA K x y H Q
theorem op_ADD : OpR X (binaryOp .Add) (rADD X.K) := op_add.or (op_add_str.or (op_cat.or op_catA))
def rSUB : R2 := rI0 fun i j => .int (i - j)
theorem op_SUB : OpR X (binaryOp .Sub) rSUB := op_sub
def rMulI : R2 := rI CMul fun i j => .int (i * j)
def rMUL (K : PySem.W.Frag) : R2 := fun x y H Q => rMulI x y H Q ∨ rMulS x y H Q ∨ rRep x y H Q ∨ rRepT K x y H Q
theorem op_MUL : OpR X (binaryOp .Mult) (rMUL X.K) := op_mul.or (op_mulS.or (op_rep.or op_repT))
def rMOD : R2 := rI (fun _ j => 0 < j) fun i j => .int (i % j)
theorem op_MOD : OpR X (binaryOp .Mod) rMOD := op_mod
def rFDIV : R2 := rI CDiv fun i j => .int (i / j)
theorem op_FDIV : OpR X (binaryOp .FloorDiv) rFDIV := op_fdiv
def rPOW : R2 := rI CPow fun i j => .int (i ^ j.toNat)
theorem op_POW : OpR X (binaryOp .Pow) rPOW := op_pow
def rSHR : R2 := rI (fun _ j => 0 ≤ j) fun i j => .int (i / 2 ^ j.toNat)
theorem op_SHR : OpR X (binaryOp .RShift) rSHR := op_shr
def rSHL : R2 := rI CPow fun i j => .int (i * 2 ^ j.toNat)
theorem op_SHL : OpR X (binaryOp .LShift) rSHL := op_shl
def rAND : R2 := rI0 fun i j => .int (Builtin.bitAnd i j)
theorem op_AND : OpR X (binaryOp .BitAnd) rAND := op_and
def rOR : R2 := rI0 fun i j => .int (Builtin.bitOr i j)
theorem op_OR : OpR X (binaryOp .BitOr) rOR := op_or
def rEQ (K : PySem.W.Frag) : R2 := fun x y H Q => rEq x y H Q ∨ rEqD K x y H Q
theorem op_EQ (hu : X.A.units + 65 < cLine) : OpR X (compareOp .Eq) (rEQ X.K) := op_eq.or (op_eqD (by omega))
def rNE (K : PySem.W.Frag) : R2 := fun x y H Q => rNe x y H Q ∨ rNeD K x y H Q
theorem op_NE (hu : X.A.units + 65 < cLine) : OpR X (compareOp .NotEq) (rNE X.K) := op_ne.or (op_neD (by omega))
def rLtI : R2 := rI0 fun i j => .bl (decide (i < j))
def rLT (K : PySem.W.Frag) : R2 := fun x y H Q => rLtI x y H Q ∨ rLtT K x y H Q
theorem op_LT (hu : X.A.units + 65 < cLine) : OpR X (compareOp .Lt) (rLT X.K) := op_lt.or (op_ltT (by omega))
def rLE : R2 := rI0 fun i j => .bl (decide (i ≤ j))
theorem op_LE : OpR X (compareOp .LtE) rLE := op_le
def rGT : R2 := rI0 fun i j => .bl (decide (j < i))
theorem op_GT : OpR X (compareOp .Gt) rGT := op_gt
def rGE : R2 := rI0 fun i j => .bl (decide (j ≤ i))
theorem op_GE : OpR X (compareOp .GtE) rGE := op_ge
def rISN : R2 := fun x y H Q => y = .non ∧ Q (.bl (decide (x = .non))) H
theorem op_ISN : OpR X (compareOp .Is) rISN := op_isN
def rISNN : R2 := fun x y H Q => y = .non ∧ Q (.bl (!decide (x = .non))) H
theorem op_ISNN : OpR X (compareOp .IsNot) rISNN := op_notN
def rInSg : R2 := fun x y H Q => ∃ (c : Nat) (z : Str), x = .str ⟨#[c]⟩ ∧ y = .str z ∧ Q (.bl (decide (c ∈ z.cps.toList))) H
def rNotInSg : R2 := fun x y H Q => ∃ (c : Nat) (z : Str), x = .str ⟨#[c]⟩ ∧ y = .str z ∧ Q (.bl (!decide (c ∈ z.cps.toList))) H
def rIN (K : PySem.W.Frag) : R2 := fun x y H Q => rInSg x y H Q ∨ rInD K x y H Q ∨ rInDT K x y H Q ∨ rInDic false x y H Q
theorem op_inDic (hu : X.A.units + 1 < cLine) : OpR X (compareOp .In) (rInDic false) := by
  intro pins s σ H x y v u Q I rx ry h
  obtain ⟨a, o, rfl, _, g, q⟩ := h
  cases ry
  exact d_in hu I g rx fun s3 I3 => ⟨.bl o.isSome, H, I3, rfl, q⟩
theorem op_notInDic (hu : X.A.units + 1 < cLine) : OpR X (compareOp .NotIn) (rInDic true) := by
  intro pins s σ H x y v u Q I rx ry h
  obtain ⟨a, o, rfl, _, g, q⟩ := h
  cases ry
  exact d_notIn hu I g rx fun s3 I3 => ⟨.bl (!o.isSome), H, I3, rfl, q⟩
theorem op_IN (hu : X.A.units + 65 < cLine) : OpR X (compareOp .In) (rIN X.K) := op_in_sign.or ((op_inD hu).or ((op_inDT hu).or (op_inDic (by omega))))
def rNIN (K : PySem.W.Frag) : R2 := fun x y H Q => rNotInSg x y H Q ∨ rNotInD K x y H Q ∨ rNotInDT K x y H Q ∨ rInDic true x y H Q
theorem op_NIN (hu : X.A.units + 65 < cLine) : OpR X (compareOp .NotIn) (rNIN X.K) := op_notIn_sign.or ((op_notInD hu).or ((op_notInDT hu).or (op_notInDic (by omega))))
def rIX (K : PySem.W.Frag) : R2 := fun x y H Q => rIxL K x y H Q ∨ rIxT K x y H Q ∨ rIxS x y H Q
theorem ix_IX : IxR X (rIX X.K) := ix_list.or (ix_tup.or ix_str)
def rSL (K : PySem.W.Frag) : V → Option Int → Option Int → Hp → VK → Prop := fun x lo hi H Q => rSlL K x lo hi H Q ∨ rSlA K x lo hi H Q ∨ rSlS x lo hi H Q
theorem sl_SL : SlR X (rSL X.K) := sl_list.or (sl_tupA.or sl_str)
/-- calls -/
def rLEN (K : PySem.W.Frag) : List V → Hp → VK → Prop := fun xs H Q => ∃ x n, xs = [x] ∧ LenV K x H n ∧ Q (.int n) H
theorem call_LEN : CallR X (.builtin "len") (rLEN X.K) := call_len
def rINT : List V → Hp → VK → Prop := fun xs H Q => ((∃ i, xs = [.int i] ∧ Q (.int i) H) ∨ ∃ k, xs = [.bl k] ∧ Q (.int (if k then 1 else 0)) H) ∨ (∃ a n, xs = [.str a] ∧ PySem.intText? a = some n ∧ a.length ≤ 640 ∧ Q (.int n) H)
end
end Pw
namespace Pw
open PySem PySem.Spec L2
section
variable {K : PySem.W.Frag} {P : List Nat} {δ : Dl} {ta tb te : TE} {t u : TT} {ts t1 t2 : TS} {n m : Nat}
theorem noF {H : Hp} {S : List Addr} : Frs S ([] : List Addr) H := fun _ h => by simp at h
theorem Ext.tr0 {G H G1 H1 G2 H2 : Hp} (a : Ext [] G H G1 H1) (b : Ext [] G1 H1 G2 H2) : Ext [] G H G2 H2 := a.trans b noF
/-! ### operators -/
theorem rp_add_int {i j : Int} : RP K (rADD K) (.int i) (.int j) (.int (i + j)) := fun G H v u g a b Q k => by
  cases a; cases b
  exact .inl ⟨i, j, rfl, rfl, k _ G H (Ext.refl g) (.int _)⟩
theorem rp_add_str {x y : Str} (h : x.length + y.length ≤ sizeLine) : RP K (rADD K) (.str x) (.str y) (.str (x ++ y)) := fun G H v u g a b Q k => by
  cases a; cases b
  exact .inr (.inl ⟨x, y, rfl, rfl, h, k _ G H (Ext.refl g) (.str _)⟩)
theorem rp_add_tup {xs ys : List D} (h : xs.length + ys.length ≤ sizeLine) : RP K (rADD K) (.tup xs) (.tup ys) (.tup (xs ++ ys)) := fun G H v u g a b Q k => by
  cases a with
  | tup ha la ra =>
    cases b with
    | tup hb lb rb =>
      rename_i a vs b us
      refine .inr (.inr (.inr ⟨a, b, vs, us, rfl, rfl, seqT g ha, seqT g hb, by omega, fun e => ?_, fun e1 e2 => ?_, fun e1 e2 p hp => ?_⟩))
      · subst e
        have : xs = [] := List.eq_nil_of_length_eq_zero (by simpa using la.symm)
        subst this
        exact k _ G H (Ext.refl g) (.tup hb lb rb)
      · subst e2
        have : ys = [] := List.eq_nil_of_length_eq_zero (by simpa using lb.symm)
        subst this
        refine k _ G H (Ext.refl g) ?_
        rw [List.append_nil]
        exact .tup ha la ra
      · have e := Ext.newD (o := .tup (vs ++ us)) g hp
        have r := (RepL.mk la ra).append (RepL.mk lb rb)
        exact k _ _ _ e (.tup upd_same r.len fun i w d h1 h2 => (r.at_ i w d h1 h2).mono e.gg)
theorem rp_sub {i j : Int} : RP K rSUB (.int i) (.int j) (.int (i - j)) := fun G H v u g a b Q k => by
  cases a; cases b
  exact ⟨i, j, rfl, rfl, k _ G H (Ext.refl g) (.int _)⟩
theorem rp_mul {i j : Int} (h : CMul i j) : RP K (rMUL K) (.int i) (.int j) (.int (i * j)) := fun G H v u g a b Q k => by
  cases a; cases b
  exact .inl ⟨i, j, rfl, rfl, h, k _ G H (Ext.refl g) (.int _)⟩
theorem rp_mulS {z : Str} {j : Int} (h : z.length ≤ 1) (h1 : j ≤ 1000) (h2 : -1000 ≤ j) : RP K (rMUL K) (.str z) (.int j) (.str (Txt.mul z j)) := fun G H v u g a b Q k => by
  cases a; cases b
  exact .inr (.inl ⟨z, j, rfl, rfl, h, h1, h2, k _ G H (Ext.refl g) (.str _)⟩)
theorem rp_mod {i j : Int} (h : 0 < j) : RP K rMOD (.int i) (.int j) (.int (i % j)) := fun G H v u g a b Q k => by
  cases a; cases b
  exact ⟨i, j, rfl, rfl, h, k _ G H (Ext.refl g) (.int _)⟩
theorem rp_fdiv {i j : Int} (h : CDiv i j) : RP K rFDIV (.int i) (.int j) (.int (i / j)) := fun G H v u g a b Q k => by
  cases a; cases b
  exact ⟨i, j, rfl, rfl, h, k _ G H (Ext.refl g) (.int _)⟩
theorem rp_pow {i j : Int} (h : CPow i j) : RP K rPOW (.int i) (.int j) (.int (i ^ j.toNat)) := fun G H v u g a b Q k => by
  cases a; cases b
  exact ⟨i, j, rfl, rfl, h, k _ G H (Ext.refl g) (.int _)⟩
theorem rp_eq_int {i j : Int} : RP K (rEQ K) (.int i) (.int j) (.bl (decide (i = j))) := fun G H v u g a b Q k => by
  cases a; cases b
  refine .inl ⟨rfl, ?_⟩
  rw [dec_int]
  have e : (i == j) = decide (i = j) := by by_cases h : i = j <;> simp [h]
  rw [e]
  exact k _ G H (Ext.refl g) (.bl _)
theorem rp_ne_int {i j : Int} : RP K (rNE K) (.int i) (.int j) (.bl (!decide (i = j))) := fun G H v u g a b Q k => by
  cases a; cases b
  refine .inl ⟨rfl, ?_⟩
  rw [dec_int]
  have e : (i == j) = decide (i = j) := by by_cases h : i = j <;> simp [h]
  rw [e]
  exact k _ G H (Ext.refl g) (.bl _)
theorem rp_eq_str {i j : Str} : RP K (rEQ K) (.str i) (.str j) (.bl (decide (i = j))) := fun G H v u g a b Q k => by
  cases a; cases b
  refine .inl ⟨rfl, ?_⟩
  have e : decide (V.str i = V.str j) = decide (i = j) := by by_cases h : i = j <;> simp [h]
  rw [e]
  exact k _ G H (Ext.refl g) (.bl _)
theorem rp_ne_str {i j : Str} : RP K (rNE K) (.str i) (.str j) (.bl (!decide (i = j))) := fun G H v u g a b Q k => by
  cases a; cases b
  refine .inl ⟨rfl, ?_⟩
  have e : decide (V.str i = V.str j) = decide (i = j) := by by_cases h : i = j <;> simp [h]
  rw [e]
  exact k _ G H (Ext.refl g) (.bl _)
theorem rp_eq {x y : D} (hx : x.ok n = true) (hy : y.ok m = true) (h1 : n ≤ 64 := by decide) (h2 : m ≤ 64 := by decide) : RP K (rEQ K) x y (.bl (x.eqv y)) := fun G H v u g a b Q k =>
  .inr ⟨x.py, y.py, a.dp n x v hx g, b.dp m y u hy g, D.shaped hx h1, D.shaped hy h2, k _ G H (Ext.refl g) (.bl _)⟩
theorem rp_ne {x y : D} (hx : x.ok n = true) (hy : y.ok m = true) (h1 : n ≤ 64 := by decide) (h2 : m ≤ 64 := by decide) : RP K (rNE K) x y (.bl (!x.eqv y)) := fun G H v u g a b Q k =>
  .inr ⟨x.py, y.py, a.dp n x v hx g, b.dp m y u hy g, D.shaped hx h1, D.shaped hy h2, k _ G H (Ext.refl g) (.bl _)⟩
theorem rp_lt {i j : Int} : RP K (rLT K) (.int i) (.int j) (.bl (decide (i < j))) := fun G H v u g a b Q k => by
  cases a; cases b
  exact .inl ⟨i, j, rfl, rfl, k _ G H (Ext.refl g) (.bl _)⟩
theorem rp_le {i j : Int} : RP K rLE (.int i) (.int j) (.bl (decide (i ≤ j))) := fun G H v u g a b Q k => by
  cases a; cases b
  exact ⟨i, j, rfl, rfl, k _ G H (Ext.refl g) (.bl _)⟩
theorem rp_gt {i j : Int} : RP K rGT (.int i) (.int j) (.bl (decide (j < i))) := fun G H v u g a b Q k => by
  cases a; cases b
  exact ⟨i, j, rfl, rfl, k _ G H (Ext.refl g) (.bl _)⟩
theorem rp_ge {i j : Int} : RP K rGE (.int i) (.int j) (.bl (decide (j ≤ i))) := fun G H v u g a b Q k => by
  cases a; cases b
  exact ⟨i, j, rfl, rfl, k _ G H (Ext.refl g) (.bl _)⟩
theorem rp_in_sg {c : Nat} {z : Str} : RP K (rIN K) (.str ⟨#[c]⟩) (.str z) (.bl (decide (c ∈ z.cps.toList))) := fun G H v u g a b Q k => by
  cases a; cases b
  exact .inl ⟨c, z, rfl, rfl, k _ G H (Ext.refl g) (.bl _)⟩
theorem rp_nin_sg {c : Nat} {z : Str} : RP K (rNIN K) (.str ⟨#[c]⟩) (.str z) (.bl (!decide (c ∈ z.cps.toList))) := fun G H v u g a b Q k => by
  cases a; cases b
  exact .inl ⟨c, z, rfl, rfl, k _ G H (Ext.refl g) (.bl _)⟩
theorem rp_in_lst {x : D} {ds : List D} (hx : x.ok n = true) (hy : D.okL m ds = true) (h1 : n ≤ 64 := by decide) (h2 : m ≤ 63 := by decide) : RP K (rIN K) x (.lst ds) (.bl (ds.any fun z => z.eqv x)) := fun G H v u g a b Q k => by
  have hz : (D.lst ds).ok (m + 1) = true := by simpa [D.ok] using hy
  refine .inr (.inl ⟨x.py, D.pyL ds, a.dp n x v hx g, b.dp (m + 1) (.lst ds) u hz g, D.shaped hx h1, D.shaped hz (by omega), ?_⟩)
  rw [pyL_any]
  exact k _ G H (Ext.refl g) (.bl _)
theorem rp_nin_lst {x : D} {ds : List D} (hx : x.ok n = true) (hy : D.okL m ds = true) (h1 : n ≤ 64 := by decide) (h2 : m ≤ 63 := by decide) : RP K (rNIN K) x (.lst ds) (.bl (!ds.any fun z => z.eqv x)) := fun G H v u g a b Q k => by
  have hz : (D.lst ds).ok (m + 1) = true := by simpa [D.ok] using hy
  refine .inr (.inl ⟨x.py, D.pyL ds, a.dp n x v hx g, b.dp (m + 1) (.lst ds) u hz g, D.shaped hx h1, D.shaped hz (by omega), ?_⟩)
  rw [pyL_any]
  exact k _ G H (Ext.refl g) (.bl _)
theorem rp_in_tup {x : D} {ds : List D} (hx : x.ok n = true) (hy : D.okL m ds = true) (h1 : n ≤ 64 := by decide) (h2 : m ≤ 63 := by decide) : RP K (rIN K) x (.tup ds) (.bl (ds.any fun z => z.eqv x)) := fun G H v u g a b Q k => by
  have hz : (D.tup ds).ok (m + 1) = true := by simpa [D.ok] using hy
  refine .inr (.inr (.inl ⟨x.py, D.pyL ds, a.dp n x v hx g, b.dp (m + 1) (.tup ds) u hz g, D.shaped hx h1, D.shaped hz (by omega), ?_⟩))
  rw [pyL_any]
  exact k _ G H (Ext.refl g) (.bl _)
theorem rp_nin_tup {x : D} {ds : List D} (hx : x.ok n = true) (hy : D.okL m ds = true) (h1 : n ≤ 64 := by decide) (h2 : m ≤ 63 := by decide) : RP K (rNIN K) x (.tup ds) (.bl (!ds.any fun z => z.eqv x)) := fun G H v u g a b Q k => by
  have hz : (D.tup ds).ok (m + 1) = true := by simpa [D.ok] using hy
  refine .inr (.inr (.inl ⟨x.py, D.pyL ds, a.dp n x v hx g, b.dp (m + 1) (.tup ds) u hz g, D.shaped hx h1, D.shaped hz (by omega), ?_⟩))
  rw [pyL_any]
  exact k _ G H (Ext.refl g) (.bl _)
/-! ### items -/
theorem RepL.atI {G : Hp} {vs : List V} {ds : List D} {i : Int} {d : D} (r : RepL K G vs ds) (h : L2.atI ds i = some d) : ∃ v, L2.atI vs i = some v ∧ Rep K G v d := by
  unfold L2.atI at h ⊢
  rw [r.len]
  cases e : ixN ds.length i with
  | none => rw [e] at h; cases h
  | some j =>
    rw [e] at h
    exact r.get (i := j) h
theorem rp_ix_lst {ds : List D} {i : Int} {d : D} (h : L2.atI ds i = some d) : RP K (rIX K) (.lst ds) (.int i) d := fun G H v u g a b Q k => by
  cases b
  cases a with
  | lst ha la ra =>
    obtain ⟨w, h1, h2⟩ := (RepL.mk la ra).atI h
    exact .inl ⟨_, _, i, w, rfl, rfl, .inl (.inl (g _ _ ha)), h1, k _ G H (Ext.refl g) h2⟩
theorem rp_ix_tup {ds : List D} {i : Int} {d : D} (h : L2.atI ds i = some d) : RP K (rIX K) (.tup ds) (.int i) d := fun G H v u g a b Q k => by
  cases b
  cases a with
  | tup ha la ra =>
    obtain ⟨w, h1, h2⟩ := (RepL.mk la ra).atI h
    exact .inr (.inl ⟨_, _, i, w, rfl, rfl, seqT g ha, h1, k _ G H (Ext.refl g) h2⟩)
theorem rp_ix_str {z : Str} {i : Int} {c : Nat} (hz : z.length ≤ sizeLine) (h : L2.atI z.cps.toList i = some c) : RP K (rIX K) (.str z) (.int i) (.str ⟨#[c]⟩) := fun G H v u g a b Q k => by
  cases a; cases b
  exact .inr (.inr ⟨z, i, c, rfl, rfl, hz, h, k _ G H (Ext.refl g) (.str _)⟩)

/-! ### tests -/
theorem wt_test {b : Bool} (h : WP K te δ (.bl b)) : WTp K (tTest te) δ b := fun σ G H S g s n Q k => h σ G H S g s n _ fun v G' H' e r => by
  cases r
  exact ⟨b, rfl, k G' H' e⟩
theorem wt_B {b : Bool} (h : WP K te δ (.bl b)) : WTp K (tB te) δ b := fun σ G H S g s n Q k => h σ G H S g s n _ fun v G' H' e r => by
  cases r
  exact ⟨b, rfl, k G' H' e⟩
/-- truth of a value -/
def tTRU (K : PySem.W.Frag) (ta : TE) : TT := fun σ H Q => ta σ H fun x H' => ∃ k, TruV K x H' k ∧ Q k H'
theorem wt_tru {b : Bool} (h : WP K te δ (.bl b)) : WTp K (tTRU K te) δ b := fun σ G H S g s n Q k => h σ G H S g s n _ fun v G' H' e r => by
  cases r
  exact ⟨b, rfl, k G' H' e⟩
theorem wtE_tru {Φ : Bool → Dl → Prop} (h : WE K te δ fun x δ' => ∃ b, x = .dat (.bl b) ∧ Φ b δ') : WT K (tTRU K te) δ Φ := fun σ G H S g s n Q k => h σ G H S g s n _ fun v x δ' G' H' Sx S' a p => by
  obtain ⟨b, rfl, a⟩ := a
  obtain ⟨p1, p2, p3, p4, p5⟩ := p
  cases p2 with
  | dat r =>
    cases r
    exact ⟨b, rfl, k b δ' G' H' S' a ⟨p1, p3, nd_right p4, fun c hc => p5 c (List.mem_append_right _ hc)⟩⟩
theorem wt_and {a b : Bool} (h1 : WTp K t δ a) (h2 : a = true → WTp K u δ b) : WTp K (tAnd t u) δ (a && b) := fun σ G H S g s n Q k => h1 σ G H S g s n _ fun G1 H1 e1 => by
  cases a with
  | true => exact iteT (h2 rfl σ G1 H1 S e1.gh (s.ext e1) n Q fun G2 H2 e2 => k G2 H2 (e1.tr0 e2))
  | false => exact iteF (k G1 H1 e1)
theorem wt_or {a b : Bool} (h1 : WTp K t δ a) (h2 : a = false → WTp K u δ b) : WTp K (tOr t u) δ (a || b) := fun σ G H S g s n Q k => h1 σ G H S g s n _ fun G1 H1 e1 => by
  cases a with
  | true => exact iteT (k G1 H1 e1)
  | false => exact iteF (h2 rfl σ G1 H1 S e1.gh (s.ext e1) n Q fun G2 H2 e2 => k G2 H2 (e1.tr0 e2))
theorem wt_not {a : Bool} (h1 : WTp K t δ a) : WTp K (tNot t) δ (!a) := fun σ G H S g s n Q k => h1 σ G H S g s n _ fun G1 H1 e1 => k G1 H1 e1
theorem wtE_not {Φ : Bool → Dl → Prop} (h : WT K t δ fun b δ' => Φ (!b) δ') : WT K (tNot t) δ Φ := fun σ G H S g s n Q k => h σ G H S g s n _ fun b δ' G' H' S' a p => k _ δ' G' H' S' a p
/-- values of tests -/
theorem wp_andV {a b : Bool} (h1 : WP K ta δ (.bl a)) (h2 : a = true → WP K tb δ (.bl b)) : WP K (tAndV ta tb) δ (.bl (a && b)) := fun σ G H S g s n Q k => h1 σ G H S g s n _ fun v G1 H1 e1 r => by
  cases r
  refine ⟨a, rfl, ?_⟩
  cases a with
  | true => exact iteT (h2 rfl σ G1 H1 S e1.gh (s.ext e1) n Q fun w G2 H2 e2 r2 => k w G2 H2 (e1.tr0 e2) r2)
  | false => exact iteF (k _ G1 H1 e1 (.bl _))
theorem wp_orV {a b : Bool} (h1 : WP K ta δ (.bl a)) (h2 : a = false → WP K tb δ (.bl b)) : WP K (tOrV ta tb) δ (.bl (a || b)) := fun σ G H S g s n Q k => h1 σ G H S g s n _ fun v G1 H1 e1 r => by
  cases r
  refine ⟨a, rfl, ?_⟩
  cases a with
  | true => exact iteT (k _ G1 H1 e1 (.bl _))
  | false => exact iteF (h2 rfl σ G1 H1 S e1.gh (s.ext e1) n Q fun w G2 H2 e2 r2 => k w G2 H2 (e1.tr0 e2) r2)
theorem wp_notV {a : Bool} (h1 : WP K ta δ (.bl a)) : WP K (tNotV ta) δ (.bl (!a)) := fun σ G H S g s n Q k => h1 σ G H S g s n _ fun v G1 H1 e1 r => by
  cases r
  exact ⟨a, rfl, k _ G1 H1 e1 (.bl _)⟩
theorem wp_ifE {c : Bool} {d : D} (h : WTp K t δ c) (h1 : c = true → WP K ta δ d) (h2 : c = false → WP K tb δ d) : WP K (tIf t ta tb) δ d := fun σ G H S g s n Q k => h σ G H S g s n _ fun G1 H1 e1 => by
  cases c with
  | true => exact iteT (h1 rfl σ G1 H1 S e1.gh (s.ext e1) n Q fun w G2 H2 e2 r2 => k w G2 H2 (e1.tr0 e2) r2)
  | false => exact iteF (h2 rfl σ G1 H1 S e1.gh (s.ext e1) n Q fun w G2 H2 e2 r2 => k w G2 H2 (e1.tr0 e2) r2)

/-! ### arguments of data, displays, built-in calls -/
def WPa (K : PySem.W.Frag) (ta : TA) (δ : Dl) (ds : List D) : Prop := ∀ (σ : L2.St) (G H : Hp) (S : List Addr), Same G H → Sta K G H δ σ S → S.Nodup → ∀ Q : List V → Hp → Prop, (∀ vs G' H', Ext [] G H G' H' → RepL K G' vs ds → Q vs H') → ta σ H Q
theorem wpa_nil : WPa K tNil δ [] := fun σ G H S g s n Q k => k [] G H (Ext.refl g) .nil
theorem wpa_cons {ta : TA} {d : D} {ds : List D} (h1 : WP K te δ d) (h2 : WPa K ta δ ds) : WPa K (tCons te ta) δ (d :: ds) := fun σ G H S g s n Q k =>
  h1 σ G H S g s n _ fun v G1 H1 e1 r1 => h2 σ G1 H1 S e1.gh (s.ext e1) n _ fun vs G2 H2 e2 r2 => k _ G2 H2 (e1.tr0 e2) (.cons (r1.mono e2.gg) r2)
theorem wp_tup {ta : TA} {ds : List D} (h : WPa K ta δ ds) (hl : ds.length ≤ 1000 := by decide) : WP K (tTup ta) δ (.tup ds) := fun σ G H S g s n Q k => h σ G H S g s n _ fun vs G1 H1 e1 r1 => by
  refine ⟨by rw [r1.len]; exact Nat.le_trans hl (by decide), fun p hp => ?_⟩
  have e := Ext.newD (o := .tup vs) e1.gh hp
  exact k _ _ _ (e1.tr0 e) (.tup upd_same r1.len fun i v d h1 h2 => (r1.at_ i v d h1 h2).mono e.gg)
theorem wo_lst {ta : TA} {ds : List D} (h : WPa K ta δ ds) (hl : ds.length ≤ 1000 := by decide) : WO K (tLst ta) δ ds := fun σ G H S g s n Q k => h σ G H S g s n _ fun vs G1 H1 e1 r1 => by
  refine ⟨by rw [r1.len]; exact Nat.le_trans hl (by decide), fun p hp => ?_⟩
  have e := Ext.newO (o := .lst vs) e1.gh hp
  have hp0 : H p = none := by
    cases z : H p with
    | none => rfl
    | some o => exact absurd hp (e1.dm p (by rw [z]; simp))
  exact k p vs _ _ (e1.tr0 e) (e1.gh.free hp) hp0 upd_same r1
def CP (K : PySem.W.Frag) (r : List V → Hp → VK → Prop) (ds : List D) (z : D) : Prop := ∀ (G H : Hp) (vs : List V), Same G H → RepL K G vs ds → ∀ Q : VK, (∀ w G' H', Ext [] G H G' H' → Rep K G' w z → Q w H') → r vs H Q
/-- a call that makes a new list -/
def CO (K : PySem.W.Frag) (r : List V → Hp → VK → Prop) (ds : List D) (zs : List D) : Prop := ∀ (G H : Hp) (vs : List V), Same G H → RepL K G vs ds → ∀ Q : VK,
  (∀ p ws G' H', Ext [] G H G' H' → G' p = none → H p = none → H' p = some (.lst ws) → RepL K G' ws zs → Q (.ref p) H') → r vs H Q
theorem wp_cb {r : List V → Hp → VK → Prop} {ta : TA} {ds : List D} {z : D} (h : WPa K ta δ ds) (hr : CP K r ds z) : WP K (tCB r ta) δ z := fun σ G H S g s n Q k => h σ G H S g s n _ fun vs G1 H1 e1 r1 =>
  hr G1 H1 vs e1.gh r1 Q fun w G2 H2 e2 r2 => k w G2 H2 (e1.tr0 e2) r2
theorem wo_cb {r : List V → Hp → VK → Prop} {ta : TA} {ds zs : List D} (h : WPa K ta δ ds) (hr : CO K r ds zs) : WO K (tCB r ta) δ zs := fun σ G H S g s n Q k => h σ G H S g s n _ fun vs G1 H1 e1 r1 =>
  hr G1 H1 vs e1.gh r1 Q fun p ws G2 H2 e2 a b c d => k p ws G2 H2 (e1.tr0 e2) a (by
    cases z : H p with
    | none => rfl
    | some o => exact absurd b (e1.dm p (by rw [z]; simp))) c d
theorem cp_len_lst {ds : List D} : CP K (rLEN K) [.lst ds] (.int ds.length) := fun G H vs g r Q k => by
  obtain ⟨v, ws, rfl, h1, h2⟩ := r.cases_cons
  rw [h2.cases_nil]
  cases h1 with
  | lst ha la ra => exact ⟨_, ds.length, rfl, .inl ⟨_, .inl (.inl (g _ _ ha)), la.symm⟩, k _ G H (Ext.refl g) (.int _)⟩
end
end Pw
namespace Pw
open PySem PySem.Spec L2
section
variable {K : PySem.W.Frag} {P : List Nat} {δ : Dl} {ta tb te : TE} {t u : TT} {ts t1 t2 : TS} {n m : Nat}
theorem back_none {G H G' H' : Hp} {S : List Addr} {p : Addr} (e : Ext S G H G' H') (h : H' p = none) : H p = none := by
  cases z : H p with
  | none => rfl
  | some o => exact absurd h (e.dm p (by rw [z]; simp))
/-! ### len, list, tuple, int, str -/
theorem cp_len_tup {ds : List D} : CP K (rLEN K) [.tup ds] (.int ds.length) := fun G H vs g r Q k => by
  obtain ⟨v, ws, rfl, h1, h2⟩ := r.cases_cons
  rw [h2.cases_nil]
  cases h1 with
  | tup ha la ra => exact ⟨_, ds.length, rfl, .inr ⟨_, seqT g ha, la.symm⟩, k _ G H (Ext.refl g) (.int _)⟩
theorem cp_len_str {z : Str} (h : z.length ≤ sizeLine) : CP K (rLEN K) [.str z] (.int z.length) := fun G H vs g r Q k => by
  obtain ⟨v, ws, rfl, h1, h2⟩ := r.cases_cons
  rw [h2.cases_nil]
  cases h1
  exact ⟨_, z.length, rfl, ⟨h, rfl⟩, k _ G H (Ext.refl g) (.int _)⟩
theorem OwnL.len {G H : Hp} : ∀ {xs : List OV} {vs : List V} {S : List Addr}, OwnL K G H xs vs S → vs.length = xs.length
  | _, _, _, .nil => rfl
  | _, _, _, .cons _ t => by simp [t.len]
/-- len of an owned list -/
theorem wp_len_own {xs : List OV} (h : PL K te δ (.lst xs)) : WP K (tCB (rLEN K) (tCons te tNil)) δ (.int xs.length) := fun σ G H S g s nd Q k => h σ G H S g s nd _ fun u Sx Sr o p => by
  cases o with
  | lst ha ga t => exact ⟨_, xs.length, rfl, .inl ⟨_, .inl (.inl ha), t.len.symm⟩, k _ G H (Ext.refl g) (.int _)⟩
def rLIST (K : PySem.W.Frag) : List V → Hp → VK → Prop := fun xs H Q => ∃ p ys, xs = [.ref p] ∧ (SqL K H p ys ∨ SqT K H p ys) ∧ ∀ l, H l = none → Q (.ref l) (upd H l (.lst ys))
theorem call_LIST {X : Cx} : CallR X (.type "list") (rLIST X.K) := call_list_of
def rTUPLE (K : PySem.W.Frag) : List V → Hp → VK → Prop := fun xs H Q => ∃ p ys, xs = [.ref p] ∧ ((SqL K H p ys ∧ ∀ l, H l = none → Q (.ref l) (upd H l (.tup ys))) ∨ (SqT K H p ys ∧ Q (.ref p) H))
theorem call_TUPLE {X : Cx} : CallR X (.type "tuple") (rTUPLE X.K) := call_tuple_of
theorem co_list_lst {ds : List D} : CO K (rLIST K) [.lst ds] ds := fun G H vs g r Q k => by
  obtain ⟨v, ws, rfl, h1, h2⟩ := r.cases_cons
  rw [h2.cases_nil]
  cases h1 with
  | lst ha la ra =>
    refine ⟨_, _, rfl, .inl (.inl (.inl (g _ _ ha))), fun l hl => ?_⟩
    exact k l _ _ _ (Ext.newO g hl) (g.free hl) hl upd_same ⟨la, ra⟩
theorem co_list_tup {ds : List D} : CO K (rLIST K) [.tup ds] ds := fun G H vs g r Q k => by
  obtain ⟨v, ws, rfl, h1, h2⟩ := r.cases_cons
  rw [h2.cases_nil]
  cases h1 with
  | tup ha la ra =>
    refine ⟨_, _, rfl, .inr (seqT g ha), fun l hl => ?_⟩
    exact k l _ _ _ (Ext.newO g hl) (g.free hl) hl upd_same ⟨la, ra⟩
theorem co_list_scr {ns : List Int} : CO K (rLIST K) [.scr ns] (ns.map D.int) := fun G H vs g r Q k => by
  obtain ⟨v, ws, rfl, h1, h2⟩ := r.cases_cons
  rw [h2.cases_nil]
  cases h1 with
  | scr ha =>
    refine ⟨_, _, rfl, .inl (g.seq ha), fun l hl => ?_⟩
    exact k l _ _ _ (Ext.newO g hl) (g.free hl) hl upd_same (repL_ints ns)
theorem cp_tuple_lst {ds : List D} : CP K (rTUPLE K) [.lst ds] (.tup ds) := fun G H vs g r Q k => by
  obtain ⟨v, ws, rfl, h1, h2⟩ := r.cases_cons
  rw [h2.cases_nil]
  cases h1 with
  | @lst a vs0 _ ha la ra =>
    refine ⟨_, _, rfl, .inl ⟨.inl (.inl (g _ _ ha)), fun l hl => ?_⟩⟩
    have e := Ext.newD (o := .tup vs0) g hl
    exact k _ _ _ e (.tup upd_same la fun i w d h1 h2 => (ra i w d h1 h2).mono e.gg)
theorem cp_tuple_tup {ds : List D} : CP K (rTUPLE K) [.tup ds] (.tup ds) := fun G H vs g r Q k => by
  obtain ⟨v, ws, rfl, h1, h2⟩ := r.cases_cons
  rw [h2.cases_nil]
  cases h1 with
  | tup ha la ra => exact ⟨_, _, rfl, .inr ⟨seqT g ha, k _ G H (Ext.refl g) (.tup ha la ra)⟩⟩
theorem call_INT {X : Cx} : CallR X (.type "int") rINT := call_int1.or call_int_str
theorem cp_int {i : Int} : CP K rINT [.int i] (.int i) := fun G H vs g r Q k => by
  obtain ⟨v, ws, rfl, h1, h2⟩ := r.cases_cons
  rw [h2.cases_nil]
  cases h1
  exact .inl (.inl ⟨i, rfl, k _ G H (Ext.refl g) (.int _)⟩)
theorem cp_int_bl {b : Bool} : CP K rINT [.bl b] (.int (if b then 1 else 0)) := fun G H vs g r Q k => by
  obtain ⟨v, ws, rfl, h1, h2⟩ := r.cases_cons
  rw [h2.cases_nil]
  cases h1
  exact .inl (.inr ⟨b, rfl, k _ G H (Ext.refl g) (.int _)⟩)
def rSTR : List V → Hp → VK → Prop := fun xs H Q => ∃ i, xs = [.int i] ∧ i.natAbs.log2 < 1920 ∧ Q (.str (toString i)) H
theorem call_STR {X : Cx} : CallR X (.type "str") rSTR := call_str_int
theorem cp_str {i : Int} (h : i.natAbs.log2 < 1920) : CP K rSTR [.int i] (.str (toString i : String)) := fun G H vs g r Q k => by
  obtain ⟨v, ws, rfl, h1, h2⟩ := r.cases_cons
  rw [h2.cases_nil]
  cases h1
  exact ⟨i, rfl, h, k _ G H (Ext.refl g) (.str _)⟩

/-! ### items of owned lists -/
theorem OwnL.get {G H : Hp} : ∀ {xs : List OV} {vs : List V} {S : List Addr} {i : Nat} {x : OV}, OwnL K G H xs vs S → xs[i]? = some x →
    ∃ v Si Sr, vs[i]? = some v ∧ Own K G H x v Si ∧ S.Perm (Si ++ Sr) ∧ ∀ G' H' x' v' Si', Same G G' → (∀ b ∈ Sr, H' b = H b ∧ G' b = Option.none) → Own K G' H' x' v' Si' →
      ∃ S', S'.Perm (Si' ++ Sr) ∧ OwnL K G' H' (xs.set i x') (vs.set i v') S'
  | _, _, _, _, _, .nil, h => by simp at h
  | _, _, _, 0, x, .cons (x := x0) (v := v0) (S := S0) (T := T0) o t, h => by
    have e : x0 = x := by simpa using h
    subst e
    exact ⟨_, _, _, rfl, o, List.Perm.refl _, fun G' H' x' v' Si' gg kp o' => ⟨_, List.Perm.refl _, by simpa using OwnL.cons o' (t.frame gg kp)⟩⟩
  | _, _, _, i + 1, x, .cons (S := S0) (T := T0) o t, h => by
    obtain ⟨v, Si, Sr, h1, h2, h3, h4⟩ := t.get (i := i) (x := x) (by simpa using h)
    refine ⟨v, Si, S0 ++ Sr, by simpa using h1, h2, ?_, fun G' H' x' v' Si' gg kp o' => ?_⟩
    · exact (List.Perm.append_left S0 h3).trans (by rw [← List.append_assoc, ← List.append_assoc]; exact List.Perm.append_right Sr List.perm_append_comm)
    · obtain ⟨S', p, q⟩ := h4 G' H' x' v' Si' gg (fun b hb => kp b (List.mem_append_right _ hb)) o'
      refine ⟨S0 ++ S', ?_, by simpa using OwnL.cons (o.frame gg fun b hb => kp b (List.mem_append_left _ hb)) q⟩
      exact (List.Perm.append_left S0 p).trans (by rw [← List.append_assoc, ← List.append_assoc]; exact List.Perm.append_right Sr List.perm_append_comm)
/-- an item of an owned list, that is data -/
theorem wp_ix_own {xs : List OV} {i : Int} {j : Nat} {d : D} (h : PL K ta δ (.lst xs)) (hi : WP K tb δ (.int i)) (hj : ixN xs.length i = some j) (hx : xs[j]? = some (.dat d)) : WP K (tOp (rIX K) ta tb) δ d := fun σ G H S g s nd Q k =>
  h σ G H S g s nd _ fun u Sx Sr o p => hi σ G H S g s nd _ fun v G1 H1 e1 r1 => by
    cases r1
    have o1 := o.ext e1
    cases o1 with
    | lst ha ga t =>
      obtain ⟨w, Si, Sr, h1, h2, _⟩ := t.get hx
      cases h2 with
      | dat r =>
        refine .inl ⟨_, _, i, w, rfl, rfl, .inl (.inl ha), ?_, k w G1 H1 e1 r⟩
        unfold L2.atI
        rw [t.len, hj]
        exact h1
/-! ### fields -/
def pF {β : Type} (f : Str) (v : β) : List (Str × β) → List (Str × β)
  | [] => [(f, v)]
  | (g, x) :: r => if g = f then (g, v) :: r else (g, x) :: pF f v r
theorem pF_putF (f : Str) (v : V) : ∀ fs : List (Str × V), pF f v fs = putF f v fs
  | [] => rfl
  | (g, x) :: r => by
    show (if g = f then (g, v) :: r else (g, x) :: pF f v r) = (if g = f then (g, v) :: r else (g, x) :: putF f v r)
    rw [pF_putF f v r]
theorem pF_length {β : Type} (f : Str) (v : β) : ∀ fs : List (Str × β), (pF f v fs).length ≤ fs.length + 1
  | [] => by simp [pF]
  | (g, x) :: r => by
    have := pF_length f v r
    unfold pF
    split <;> simp <;> omega
theorem lookup_ne {β : Type} {f g : Str} {x : β} {r : List (Str × β)} (h : g ≠ f) : ((g, x) :: r).lookup f = r.lookup f := by
  simp only [List.lookup]
  have : (f == g) = false := beq_eq_false_iff_ne.mpr (Ne.symm h)
  rw [this]
theorem lookup_eq {β : Type} {f : Str} {x : β} {r : List (Str × β)} : ((f, x) :: r).lookup f = some x := by
  simp only [List.lookup, beq_self_eq_true]
theorem ownF_put {G H : Hp} (f : Str) : ∀ {os : List (Str × OV)} {fs : List (Str × V)} {S : List Addr}, fs.map (·.1) = os.map (·.1) → OwnL K G H (os.map (·.2)) (fs.map (·.2)) S →
    ∃ Sd Sr, S.Perm (Sd ++ Sr) ∧ (∀ x, os.lookup f = some x → ∃ v, fs.lookup f = some v ∧ Own K G H x v Sd) ∧ ∀ G' H' x' v' Si', Same G G' → (∀ b ∈ Sr, H' b = H b ∧ G' b = none) → Own K G' H' x' v' Si' →
      ∃ S', S'.Perm (Si' ++ Sr) ∧ (putF f v' fs).map (·.1) = (pF f x' os).map (·.1) ∧ OwnL K G' H' ((pF f x' os).map (·.2)) ((putF f v' fs).map (·.2)) S'
  | [], [], _, _, .nil => ⟨[], [], List.Perm.refl _, fun x h => by simp at h, fun G' H' x' v' Si' gg kp o => ⟨Si' ++ [], List.Perm.refl _, rfl, OwnL.cons o .nil⟩⟩
  | [], _ :: _, _, h, _ => by simp at h
  | _ :: _, [], _, h, _ => by simp at h
  | (g, x) :: os, (g', v) :: fs, _, h, .cons (S := S0) (T := T0) o t => by
    have hg : g' = g := by simpa using (List.cons.inj h).1
    subst hg
    have ht : fs.map (·.1) = os.map (·.1) := by simpa using (List.cons.inj h).2
    by_cases e : g' = f
    · subst e
      refine ⟨S0, T0, List.Perm.refl _, fun y hy => ?_, fun G' H' x' v' Si' gg kp o' => ?_⟩
      · rw [lookup_eq] at hy ⊢
        cases hy
        exact ⟨v, rfl, o⟩
      · refine ⟨Si' ++ T0, List.Perm.refl _, ?_, ?_⟩
        · simp only [putF, pF, if_pos]; simpa using ht
        · simp only [putF, pF, if_pos]
          exact OwnL.cons o' (t.frame gg kp)
    · obtain ⟨Sd, Sr, h1, h2, h3⟩ := ownF_put f ht t
      refine ⟨Sd, S0 ++ Sr, ?_, fun y hy => ?_, fun G' H' x' v' Si' gg kp o' => ?_⟩
      · exact (List.Perm.append_left S0 h1).trans (by rw [← List.append_assoc, ← List.append_assoc]; exact List.Perm.append_right Sr List.perm_append_comm)
      · rw [lookup_ne e] at hy ⊢
        exact h2 y hy
      · obtain ⟨S', p1, p2, p3⟩ := h3 G' H' x' v' Si' gg (fun b hb => kp b (List.mem_append_right _ hb)) o'
        refine ⟨S0 ++ S', ?_, ?_, ?_⟩
        · exact (List.Perm.append_left S0 p1).trans (by rw [← List.append_assoc, ← List.append_assoc]; exact List.Perm.append_right Sr List.perm_append_comm)
        · simp only [putF, pF, if_neg e, List.map_cons, p2]
        · simp only [putF, pF, if_neg e, List.map_cons]
          exact OwnL.cons (o.frame gg fun b hb => kp b (List.mem_append_left _ hb)) p3
theorem map_len {α β : Type} {fs : List (Str × α)} {os : List (Str × β)} (h : fs.map (·.1) = os.map (·.1)) : fs.length = os.length := by
  have := congrArg List.length h
  simpa using this
/-- a field of an owned object -/
theorem pm_fld {C : Addr} {os : List (Str × OV)} {f : Str} {x : OV} {put : OV → Dl} (h : PM K te δ (.obj C os) put) (hc : Cls K C) (hn : NoAttr K C f) (hx : os.lookup f = some x) : PM K (tFld K te f) δ x (fun y => put (.obj C (pF f y os))) := fun σ G H S g s nd Q k =>
  h σ G H S g s nd _ fun u Sx Sr o p kk => by
    cases o with
    | @obj a C dx fs os S0 ha ga hk t =>
      obtain ⟨Sd, Sq, p1, p2, p3⟩ := ownF_put f hk t
      obtain ⟨v, hv, ov⟩ := p2 x hx
      have pp : S.Perm (Sd ++ ((a :: Sq) ++ Sr)) := by
        refine p.trans ?_
        have h1 : (a :: S0).Perm (Sd ++ (a :: Sq)) := ((List.Perm.cons a p1).trans (by rw [← List.singleton_append, ← List.append_assoc, ← List.singleton_append (l := Sq), ← List.append_assoc]; exact List.Perm.append_right Sq List.perm_append_comm))
        exact (List.Perm.append_right Sr h1).trans (by rw [List.append_assoc])
      refine ⟨a, C, dx, fs, v, rfl, ha, hc, hn, hv, k v Sd ((a :: Sq) ++ Sr) ov pp fun G' H' x' Sx' gg kp o' => ?_⟩
      obtain ⟨S', q1, q2, q3⟩ := p3 G' H' x' v Sx' gg (fun b hb => kp b (List.mem_append_left _ (List.mem_cons_of_mem _ hb))) o'
      have e0 : putF f v fs = fs := by
        clear p3 q1 q2 q3 p2 hk ha t p1
        induction fs with
        | nil => simp at hv
        | cons q fs ih =>
          obtain ⟨g0, x0⟩ := q
          by_cases e : g0 = f
          · subst e
            rw [lookup_eq] at hv
            cases hv
            simp [putF]
          · rw [lookup_ne e] at hv
            simp only [putF, if_neg e, ih hv]
      rw [e0] at q2 q3
      have ka := kp a (by simp)
      obtain ⟨S2, z1, z2⟩ := kk G' H' (.obj C (pF f x' os)) (a :: S') gg (fun b hb => kp b (List.mem_append_right _ hb)) (.obj (dx := dx) (by rw [ka.1]; exact ha) ka.2 q2 q3)
      refine ⟨S2, z1.trans ?_, z2⟩
      have h1 : (a :: S').Perm (Sx' ++ (a :: Sq)) := ((List.Perm.cons a q1).trans (by rw [← List.singleton_append, ← List.append_assoc, ← List.singleton_append (l := Sq), ← List.append_assoc]; exact List.Perm.append_right Sq List.perm_append_comm))
      exact (List.Perm.append_right Sr h1).trans (by rw [List.append_assoc])
theorem pl_fld {C : Addr} {os : List (Str × OV)} {f : Str} {x : OV} (h : PL K te δ (.obj C os)) (hc : Cls K C) (hn : NoAttr K C f) (hx : os.lookup f = some x) : PL K (tFld K te f) δ x := fun σ G H S g s nd Q k =>
  h σ G H S g s nd _ fun u Sx Sr o p => by
    cases o with
    | @obj a C dx fs os S0 ha ga hk t =>
      obtain ⟨Sd, Sq, p1, p2, p3⟩ := ownF_put f hk t
      obtain ⟨v, hv, ov⟩ := p2 x hx
      have pp : S.Perm (Sd ++ ((a :: Sq) ++ Sr)) := by
        refine p.trans ?_
        have h1 : (a :: S0).Perm (Sd ++ (a :: Sq)) := ((List.Perm.cons a p1).trans (by rw [← List.singleton_append, ← List.append_assoc, ← List.singleton_append (l := Sq), ← List.append_assoc]; exact List.Perm.append_right Sq List.perm_append_comm))
        exact (List.Perm.append_right Sr h1).trans (by rw [List.append_assoc])
      exact ⟨a, C, dx, fs, v, rfl, ha, hc, hn, hv, k v Sd ((a :: Sq) ++ Sr) ov pp⟩
theorem repF_get {G : Hp} {f : Str} : ∀ {fs : List (Str × V)} {ds : List (Str × D)}, fs.map (·.1) = ds.map (·.1) → RepL K G (fs.map (·.2)) (ds.map (·.2)) → ∀ {d : D}, ds.lookup f = some d → ∃ v, fs.lookup f = some v ∧ Rep K G v d
  | [], [], _, _, d, h => by simp at h
  | [], _ :: _, h, _, _, _ => by simp at h
  | _ :: _, [], h, _, _, _ => by simp at h
  | (g, v) :: fs, (g', d0) :: ds, h, r, d, hd => by
    have hg : g = g' := by simpa using (List.cons.inj h).1
    subst hg
    have ht : fs.map (·.1) = ds.map (·.1) := by simpa using (List.cons.inj h).2
    obtain ⟨v', ws, e, r1, r2⟩ := r.cases_cons
    cases e
    by_cases e : g = f
    · subst e
      rw [lookup_eq] at hd ⊢
      cases hd
      exact ⟨v, rfl, r1⟩
    · rw [lookup_ne e] at hd ⊢
      exact repF_get ht r2 hd
/-- a field of an object that is data -/
theorem wp_fld {C : Addr} {ds : List (Str × D)} {f : Str} {d : D} (h : WP K te δ (.obj C ds)) (hc : Cls K C) (hn : NoAttr K C f) (hx : ds.lookup f = some d) : WP K (tFld K te f) δ d := fun σ G H S g s nd Q k =>
  h σ G H S g s nd _ fun u G1 H1 e1 r1 => by
    cases r1 with
    | @obj a C dx fs ds ha hk ri =>
      obtain ⟨v, hv, rv⟩ := repF_get hk ⟨by simpa using map_len hk, ri⟩ hx
      exact ⟨_, C, dx, fs, v, rfl, e1.gh _ _ ha, hc, hn, hv, k v G1 H1 e1 rv⟩
end
end Pw
namespace Pw
open PySem PySem.Spec L2
section
variable {K : PySem.W.Frag} {P : List Nat} {δ : Dl} {ta tb te to ti tv : TE} {t u : TT} {ts t1 t2 : TS} {n m : Nat}
theorem OwnL.app {G H : Hp} : ∀ {xs ys : List OV} {vs ws : List V} {S T : List Addr}, OwnL K G H xs vs S → OwnL K G H ys ws T → OwnL K G H (xs ++ ys) (vs ++ ws) (S ++ T)
  | _, _, _, _, _, _, .nil, h => h
  | _, _, _, _, _, _, .cons (S := S0) (T := T0) o t, h => by
    have := OwnL.cons o (t.app h)
    rw [← List.append_assoc] at this
    exact this
theorem OwnL.one {G H : Hp} {x : OV} {v : V} {S : List Addr} (h : Own K G H x v S) : OwnL K G H [x] [v] S := by
  have := OwnL.cons h .nil
  rwa [List.append_nil] at this
/-- a node at l: what it holds is changed. H1 : behind the arguments -/
structure Node (K : PySem.W.Frag) (δ : Dl) (put : OV → Dl) (σ : L2.St) (G H : Hp) (S : List Addr) (l : Addr) (T Sr : List Addr) : Prop where
  g : Same G H
  gl : G l = none
  hl : H l ≠ none
  nd : (l :: T ++ Sr).Nodup
  pm : S.Perm (l :: T ++ Sr)
  fT : ∀ b ∈ T, H b ≠ none ∧ G b = none
  fS : ∀ b ∈ Sr, H b ≠ none ∧ G b = none
  back : ∀ G' H' x' Sx', Same G G' → (∀ b ∈ Sr, H' b = H b ∧ G' b = none) → Own K G' H' x' (.ref l) Sx' → ∃ S', S'.Perm (Sx' ++ Sr) ∧ Sta K G' H' (put x') σ S'
theorem Node.frT {put : OV → Dl} {σ : L2.St} {G H : Hp} {S : List Addr} {l : Addr} {T Sr : List Addr} (N : Node K δ put σ G H S l T Sr) (o : HO) : ∀ b ∈ T, upd H l o b = H b ∧ G b = none := fun b hb =>
  ⟨upd_ne fun q => (List.nodup_cons.mp (nd_left N.nd)).1 (q ▸ hb), (N.fT b hb).2⟩
/-- behind the change: all but the node's own part stays -/
theorem Node.post {put : OV → Dl} {σ : L2.St} {G H : Hp} {S : List Addr} {l : Addr} {T Sr : List Addr} (N : Node K δ put σ G H S l T Sr) {o : HO} {x' : OV} {T' : List Addr} (h : ∀ b ∈ T', b ∈ T) (nT : T'.Nodup) (ow : Own K G (upd H l o) x' (.ref l) (l :: T')) :
    ∃ S', Ext S G H G (upd H l o) ∧ Sta K G (upd H l o) (put x') σ S' ∧ S'.Nodup ∧ S'.Perm (l :: T' ++ Sr) ∧ ∀ b ∈ S', b ∈ S := by
  have lT : l ∉ T := (List.nodup_cons.mp (nd_left N.nd)).1
  have lS : l ∉ Sr := nd_dis N.nd (by simp)
  obtain ⟨S', p1, p2⟩ := N.back G (upd H l o) x' _ (Same.refl G) (fun b hb => ⟨upd_ne fun q => lS (q ▸ hb), (N.fS b hb).2⟩) ow
  have nd' : (l :: T' ++ Sr).Nodup := nd_app (List.nodup_cons.mpr ⟨fun q => lT (h l q), nT⟩) (nd_right N.nd) fun b hb => by
    rcases List.mem_cons.mp hb with rfl | hb
    · exact lS
    · exact nd_dis N.nd (List.mem_cons_of_mem _ (h b hb))
  refine ⟨S', Ext.set N.g (N.pm.mem_iff.mpr (by simp)) N.gl, p2, nd_perm p1.symm nd', p1, fun b hb => N.pm.mem_iff.mpr ?_⟩
  rcases List.mem_append.mp (p1.mem_iff.mp hb) with q | q
  · rcases List.mem_cons.mp q with rfl | q
    · simp
    · exact List.mem_append_left _ (List.mem_cons_of_mem _ (h b q))
  · exact List.mem_append_right _ q
/-- what PM gives, for an object node, behind pure arguments -/
theorem node_of {put : OV → Dl} {σ : L2.St} {G H G1 H1 : Hp} {S : List Addr} {l : Addr} {T Sr : List Addr} (e : Ext [] G H G1 H1) (g : Same G H) (nd : S.Nodup) (gl : G l = none) (hl : H l ≠ none) (p : S.Perm (l :: T ++ Sr))
    (f : ∀ b ∈ S, H b ≠ none ∧ G b = none)
    (k : ∀ G' H' x' Sx', Same G G' → (∀ b ∈ Sr, H' b = H b ∧ G' b = none) → Own K G' H' x' (.ref l) Sx' → ∃ S', S'.Perm (Sx' ++ Sr) ∧ Sta K G' H' (put x') σ S') : Node K δ put σ G1 H1 S l T Sr := by
  have st : ∀ b, H b ≠ none → H1 b = H b := fun b hb => by
    cases z : H b with
    | none => exact absurd z hb
    | some o => exact e.kp b o (by simp) z
  have fs : ∀ b, b ∈ l :: T ++ Sr → H b ≠ none ∧ G b = none := fun b hb => f b (p.mem_iff.mpr hb)
  refine ⟨e.gh, by rw [e.fr l (by simp) hl]; exact gl, by rw [st l hl]; exact hl, nd_perm p nd, p, fun b hb => ?_, fun b hb => ?_, fun G' H' x' Sx' gg kp o => k G' H' x' Sx' (e.gg.trans gg) (fun b hb => ?_) o⟩
  · obtain ⟨h1, h2⟩ := fs b (List.mem_append_left _ (List.mem_cons_of_mem _ hb))
    exact ⟨by rw [st b h1]; exact h1, by rw [e.fr b (by simp) h1]; exact h2⟩
  · obtain ⟨h1, h2⟩ := fs b (List.mem_append_right _ hb)
    exact ⟨by rw [st b h1]; exact h1, by rw [e.fr b (by simp) h1]; exact h2⟩
  · obtain ⟨q1, q2⟩ := kp b hb
    obtain ⟨h1, _⟩ := fs b (List.mem_append_right _ hb)
    exact ⟨q1.trans (st b h1), q2⟩
theorem tyL {H : Hp} {l : Addr} {vs : List V} (h : H l = some (.lst vs)) : tyV K "list" (.ref l) H := .inl ⟨rfl, _, .inl (.inl h)⟩
/-- l.append(e), e data -/
theorem we_append {xs : List OV} {d : D} {put : OV → Dl} {Φ : OV → Dl → Prop} (h : PM K to δ (.lst xs) put) (he : WP K te δ d) (hl : xs.length < 1000000) (q : Φ (.dat .non) (put (.lst (xs ++ [.dat d])))) :
    WE K (tBM K "list" rAppend to (tCons te tNil)) δ Φ := fun σ G H S g s nd Q k =>
  h σ G H S g s nd _ fun u Sx Sr o p kk => by
    cases o with
    | @lst l vs _ T ha ga t =>
      refine ⟨tyL ha, he σ G H S g s nd _ fun v G1 H1 e1 r1 => ?_⟩
      have N : Node K δ put σ G1 H1 S l T Sr := node_of e1 g nd ga (by rw [ha]; simp) p s.foot kk
      refine ⟨l, vs, v, rfl, rfl, e1.kp l _ (by simp) ha, Nat.lt_of_lt_of_le (by rw [t.len]; exact hl) (by decide), ?_⟩
      have ow : Own K G1 (upd H1 l (.lst (vs ++ [v]))) (.lst (xs ++ [.dat d])) (.ref l) (l :: T) := by
        have t1 := (t.ext e1).frame (Same.refl G1) (N.frT (.lst (vs ++ [v])))
        have := t1.app (OwnL.one (Own.dat r1 : Own K G1 (upd H1 l (.lst (vs ++ [v]))) (.dat d) v []))
        rw [List.append_nil] at this
        exact .lst upd_same N.gl this
      obtain ⟨S', a1, a2, a3, a4, a5⟩ := N.post (fun b hb => hb) (List.nodup_cons.mp (nd_left N.nd)).2 ow
      exact k _ _ _ _ _ [] S' q ⟨e1.pure.trans a1 Frs.refl, .dat .non, a2, by simpa using a3, fun b hb => .inl (a5 b (by simpa using hb))⟩
/-- l.pop(), the last item data -/
theorem we_pop {xs : List OV} {d : D} {put : OV → Dl} {Φ : OV → Dl → Prop} (h : PM K to δ (.lst (xs ++ [.dat d])) put) (q : Φ (.dat d) (put (.lst xs))) : WE K (tBM0 K "list" rPop to) δ Φ := fun σ G H S g s nd Q k =>
  h σ G H S g s nd _ fun u Sx Sr o p kk => by
    cases o with
    | @lst l vs _ T ha ga t =>
      have N : Node K δ put σ G H S l T Sr := node_of (Ext.refl g) g nd ga (by rw [ha]; simp) p s.foot kk
      have tl := t.len
      have cut : ∀ {xs : List OV} {vs : List V} {T : List Addr}, OwnL K G H (xs ++ [.dat d]) vs T → ∃ ws v, vs = ws ++ [v] ∧ OwnL K G H xs ws T ∧ Rep K G v d := by
        intro xs
        induction xs with
        | nil =>
          intro vs T t
          cases t with
          | cons o1 t1 =>
            cases t1
            cases o1 with
            | dat r => exact ⟨[], _, rfl, .nil, r⟩
        | cons x xs ih =>
          intro vs T t
          cases t with
          | cons o1 t1 =>
            obtain ⟨ws, v, e, h1, h2⟩ := ih t1
            subst e
            exact ⟨_ :: ws, v, rfl, .cons o1 h1, h2⟩
      obtain ⟨ws, v, e, t1, r⟩ := cut t
      subst e
      refine ⟨tyL ha, l, ws ++ [v], v, rfl, rfl, ha, by simp, ?_⟩
      rw [List.dropLast_concat]
      have ow : Own K G (upd H l (.lst ws)) (.lst xs) (.ref l) (l :: T) := .lst upd_same N.gl (t1.frame (Same.refl G) (N.frT (.lst ws)))
      obtain ⟨S', a1, a2, a3, a4, a5⟩ := N.post (fun b hb => hb) (List.nodup_cons.mp (nd_left N.nd)).2 ow
      exact k _ _ _ _ _ [] S' q ⟨a1, .dat r, a2, by simpa using a3, fun b hb => .inl (a5 b (by simpa using hb))⟩
theorem ownL_dat {G H : Hp} : ∀ {ds : List D} {vs : List V}, RepL K G vs ds → OwnL K G H (ds.map OV.dat) vs []
  | [], vs, r => by rw [r.cases_nil]; exact .nil
  | d :: ds, vs, r => by
    obtain ⟨v, ws, rfl, h1, h2⟩ := r.cases_cons
    exact OwnL.cons (S := []) (T := []) (.dat h1) (ownL_dat h2)
theorem ownL_rep {G H : Hp} : ∀ {ds : List D} {vs : List V} {T : List Addr}, OwnL K G H (ds.map OV.dat) vs T → RepL K G vs ds ∧ T = []
  | [], _, _, t => by cases t; exact ⟨.nil, rfl⟩
  | d :: ds, _, _, t => by
    cases t with
    | cons o t =>
      cases o with
      | dat r =>
        obtain ⟨h1, h2⟩ := ownL_rep t
        exact ⟨.cons r h1, by simp [h2]⟩
theorem RepL.rev {G : Hp} {vs : List V} {ds : List D} (r : RepL K G vs ds) : RepL K G vs.reverse ds.reverse := ⟨by simp [r.len], fun i v d h1 h2 => by
  have hl := r.len
  have hi : i < vs.length := by simpa using get_lt h1
  rw [List.getElem?_reverse hi] at h1
  rw [List.getElem?_reverse (by omega)] at h2
  rw [hl] at h1
  exact r.at_ _ v d h1 h2⟩
/-- l.reverse() of data -/
theorem we_reverse {ds : List D} {put : OV → Dl} {Φ : OV → Dl → Prop} (h : PM K to δ (.lst (ds.map OV.dat)) put) (q : Φ (.dat .non) (put (.lst (ds.reverse.map OV.dat)))) : WE K (tBM0 K "list" rReverse to) δ Φ := fun σ G H S g s nd Q k =>
  h σ G H S g s nd _ fun u Sx Sr o p kk => by
    cases o with
    | @lst l vs _ T ha ga t =>
      have N : Node K δ put σ G H S l T Sr := node_of (Ext.refl g) g nd ga (by rw [ha]; simp) p s.foot kk
      obtain ⟨r, hT⟩ := ownL_rep t
      refine ⟨tyL ha, l, vs, rfl, rfl, ha, ?_⟩
      have ow : Own K G (upd H l (.lst vs.reverse)) (.lst (ds.reverse.map OV.dat)) (.ref l) [l] := .lst upd_same N.gl (ownL_dat r.rev)
      obtain ⟨S', a1, a2, a3, a4, a5⟩ := N.post (T' := []) (fun b hb => by simp at hb) (by simp) ow
      exact k _ _ _ _ _ [] S' q ⟨a1, .dat .non, a2, by simpa using a3, fun b hb => .inl (a5 b (by simpa using hb))⟩
/-- l[i] = e, e data -/
theorem ws_setix {xs : List OV} {d : D} {i : Int} {j : Nat} {put : OV → Dl} {Ψ : En} (hv : WP K tv δ d) (h : PM K to δ (.lst xs) put) (hi : WP K ti δ (.int i)) (hj : ixN xs.length i = some j) (hd : ∃ d0, xs[j]? = some (.dat d0)) (q : Ψ.nx (put (.lst (xs.set j (.dat d))))) :
    WS K P (tAsg tv (gSub to ti rSetL)) δ Ψ := fun σ G H S g s nd D k1 k2 k3 k4 =>
  hv σ G H S g s nd _ fun v G0 H0 e0 r0 => h σ G0 H0 S e0.gh (s.ext e0) nd _ fun u Sx Sr o p kk => by
    cases o with
    | @lst l vs _ T ha ga t =>
      refine hi σ G0 H0 S e0.gh (s.ext e0) nd _ fun w G1 H1 e1 r1 => ?_
      cases r1
      have N : Node K δ put σ G1 H1 S l T Sr := node_of e1 e0.gh nd ga (by rw [ha]; simp) p (s.ext e0).foot kk
      refine ⟨l, vs, i, j, rfl, rfl, e1.kp l _ (by simp) ha, by rw [t.len]; exact hj, ?_⟩
      obtain ⟨d0, hd⟩ := hd
      have t1 := (t.ext e1).frame (Same.refl G1) (N.frT (.lst (vs.set j v)))
      obtain ⟨v0, Si, Sq, b1, b2, b3, b4⟩ := t1.get hd
      have hSi : Si = [] := by cases b2; rfl
      subst hSi
      obtain ⟨T', c1, c2⟩ := b4 G1 (upd H1 l (.lst (vs.set j v))) (.dat d) v [] (Same.refl G1) (fun b hb => ⟨rfl, (N.fT b (b3.mem_iff.mpr (by simpa using hb))).2⟩) (.dat (r0.mono e1.gg))
      have hT' : ∀ b ∈ T', b ∈ T := fun b hb => b3.mem_iff.mpr (by simpa using c1.mem_iff.mp hb)
      have nT' : T'.Nodup := nd_perm (by simpa using c1.symm) (by simpa using nd_perm b3 (List.nodup_cons.mp (nd_left N.nd)).2)
      obtain ⟨S', a1, a2, a3, a4, a5⟩ := N.post hT' nT' (.lst upd_same N.gl c2)
      exact k1 _ σ _ _ S' q ⟨(e0.pure.trans e1.pure Frs.refl).trans a1 Frs.refl, a2, a3, fun b hb => .inl (a5 b hb), fun _ _ => rfl⟩
/-- o.f = e, e data -/
theorem ws_fld {C : Addr} {os : List (Str × OV)} {f : Str} {x : OV} {put : OV → Dl} {Ψ : En} (hv : WE K tv δ fun y δ' => y = x ∧ δ' = δ) (h : PM K to δ (.obj C os) put) (hc : Cls K C) (hn : NoAttr K C f) (hl : os.length < 900) (q : Ψ.nx (put (.obj C (pF f x os)))) :
    WS K P (sFld K to tv f) δ Ψ := fun σ G H S g s nd D k1 k2 k3 k4 =>
  hv σ G H S g s nd _ fun v y δ' G0 H0 Sy S0 a p0 => by
    obtain ⟨rfl, rfl⟩ := a
    obtain ⟨p1, p2, p3, p4, p5⟩ := p0
    refine h σ G0 H0 S0 p1.gh p3 (nd_right p4) _ fun u Sx Sr o p kk => ?_
    cases o with
    | @obj a C dx fs os T ha ga hk t =>
      have N : Node K δ' put σ G0 H0 S0 a T Sr := node_of (Ext.refl p1.gh) p1.gh (nd_right p4) ga (by rw [ha]; simp) p p3.foot kk
      refine ⟨a, C, dx, fs, rfl, ha, hc, hn, by rw [map_len hk]; omega, ?_⟩
      obtain ⟨Sd, Sq, b1, b2, b3⟩ := ownF_put f hk t
      have aS : a ∈ S0 := N.pm.mem_iff.mpr (by simp)
      have aT : a ∉ T := (List.nodup_cons.mp (nd_left N.nd)).1
      have aSr : a ∉ Sr := nd_dis N.nd (by simp)
      have dis : ∀ b ∈ Sy, b ∉ S0 := fun b hb => nd_dis p4 hb
      have fr : ∀ {X : List Addr}, a ∉ X → (∀ b ∈ X, G0 b = none) → ∀ b ∈ X, upd H0 a (.ins C dx (putF f v fs)) b = H0 b ∧ G0 b = none := fun hx hg b hb => ⟨upd_ne fun z => hx (z ▸ hb), hg b hb⟩
      obtain ⟨T', c1, c2, c3⟩ := b3 G0 (upd H0 a (.ins C dx (putF f v fs))) y v Sy (Same.refl G0) (fr (fun z => aT (b1.mem_iff.mpr (List.mem_append_right _ z))) fun b hb => (N.fT b (b1.mem_iff.mpr (List.mem_append_right _ hb))).2)
        (p2.frame (Same.refl G0) (fr (fun z => dis a z aS) fun b hb => (p2.foot b hb).2))
      obtain ⟨S', z1, z2⟩ := N.back G0 (upd H0 a (.ins C dx (putF f v fs))) _ _ (Same.refl G0) (fr aSr fun b hb => (N.fS b hb).2) (.obj (C := C) upd_same N.gl c2 c3)
      have sub : ∀ b ∈ Sq, b ∈ S0 := fun b hb => N.pm.mem_iff.mpr (List.mem_append_left _ (List.mem_cons_of_mem _ (b1.mem_iff.mpr (List.mem_append_right _ hb))))
      have nd2 : (a :: T' ++ Sr).Nodup := by
        have n1 : (Sd ++ Sq).Nodup := nd_perm b1 (List.nodup_cons.mp (nd_left N.nd)).2
        have n2 : T'.Nodup := nd_perm c1.symm (nd_app (nd_left p4) (nd_right n1) fun b hb z => dis b hb (sub b z))
        refine nd_app (List.nodup_cons.mpr ⟨fun z => ?_, n2⟩) (nd_right N.nd) fun b hb => ?_
        · rcases List.mem_append.mp (c1.mem_iff.mp z) with z | z
          · exact dis a z aS
          · exact aT (b1.mem_iff.mpr (List.mem_append_right _ z))
        · rcases List.mem_cons.mp hb with rfl | hb
          · exact aSr
          · rcases List.mem_append.mp (c1.mem_iff.mp hb) with z | z
            · exact fun w => dis b z (N.pm.mem_iff.mpr (List.mem_append_right _ w))
            · exact nd_dis N.nd (List.mem_cons_of_mem _ (b1.mem_iff.mpr (List.mem_append_right _ z)))
      have fin : ∀ b ∈ S', b ∈ Sy ++ S0 := fun b hb => by
        rcases List.mem_append.mp (z1.mem_iff.mp hb) with w | w
        · rcases List.mem_cons.mp w with rfl | w
          · exact List.mem_append_right _ aS
          · rcases List.mem_append.mp (c1.mem_iff.mp w) with w | w
            · exact List.mem_append_left _ w
            · exact List.mem_append_right _ (sub b w)
        · exact List.mem_append_right _ (N.pm.mem_iff.mpr (List.mem_append_right _ w))
      exact k1 _ σ _ _ S' q ⟨p1.trans (Ext.set p1.gh aS N.gl) (fun b hb => p5 b (List.mem_append_right _ hb)), z2, nd_perm z1.symm nd2, fun b hb => p5 b (fin b hb), fun _ _ => rfl⟩
theorem we_pd {d : D} (h : WP K te δ d) : WE K te δ fun y δ' => y = .dat d ∧ δ' = δ := we_p h ⟨rfl, rfl⟩
theorem we_od {ds : List D} (h : WO K te δ ds) : WE K te δ fun y δ' => y = .lst (ds.map OV.dat) ∧ δ' = δ := we_o h ⟨rfl, rfl⟩
/-- name op= e, ints -/
theorem ws_augI {i : Nat} {f : Int → Int → Int} {a b : Int} {Ψ : En} (h : δ[i]? = some (some (.dat (.int a)))) (he : WP K te δ (.int b)) (hp : i ∉ P) (q : Ψ.nx (δ.set i (some (.dat (.int (f a b)))))) : WS K P (tAug i te (ipI f)) δ Ψ := fun σ G H S g s nd D k1 k2 k3 k4 => by
  obtain ⟨v, Si, Sr, h1, h2, h3, h4⟩ := s.get h
  cases h2 with
  | dat r =>
    cases r
    refine ⟨_, h1, he σ G H S g s nd _ fun w G1 H1 e1 r1 => ?_⟩
    cases r1
    refine ⟨a, b, rfl, rfl, ?_⟩
    obtain ⟨Sd, Sr', S', c1, c2, c3⟩ := (s.ext e1).store (i := i) (x := .dat (.int (f a b))) (v := .int (f a b)) (get_lt h) (.dat (.int _))
    refine k1 _ _ G1 H1 S' q ⟨e1.pure, c3, nd_perm c2.symm (by simpa using nd_right (nd_perm c1 nd)), fun b hb => .inl (c1.mem_iff.mpr (List.mem_append_right _ (by simpa using c2.mem_iff.mp hb))), fun j hj => ?_⟩
    rw [List.getElem?_set_ne]
    intro e; subst e; exact hp hj
/-- o.f op= e, ints -/
theorem ws_fldaug {C : Addr} {os : List (Str × OV)} {f : Str} {a b : Int} {put : OV → Dl} {rd : V → V → Hp → VK → Prop} {z : Int} {Ψ : En} (h : PM K to δ (.obj C os) put) (hc : Cls K C) (hn : NoAttr K C f) (hx : os.lookup f = some (.dat (.int a))) (hv : WP K tv δ (.int b))
    (hr : ∀ (H : Hp) (Q : VK), Q (.int z) H → rd (.int a) (.int b) H Q) (hl : os.length < 900) (q : Ψ.nx (put (.obj C (pF f (.dat (.int z)) os)))) : WS K P (sFldAug K to tv rd f) δ Ψ := fun σ G H S g s nd D k1 k2 k3 k4 =>
  h σ G H S g s nd _ fun u Sx Sr o p kk => by
    cases o with
    | @obj l C dx fs os T ha ga hk t =>
      obtain ⟨Sd, Sq, b1, b2, b3⟩ := ownF_put f hk t
      obtain ⟨v0, hv0, ov⟩ := b2 _ hx
      have hSd : Sd = [] := by cases ov; rfl
      subst hSd
      cases ov with
      | dat rv =>
        cases rv
        refine ⟨l, C, dx, fs, _, rfl, ha, hc, hn, hv0, hv σ G H S g s nd _ fun w G1 H1 e1 r1 => ?_⟩
        cases r1
        have N : Node K δ put σ G1 H1 S l T Sr := node_of e1 g nd ga (by rw [ha]; simp) p s.foot kk
        refine hr H1 _ ⟨dx, fs, e1.kp l _ (by simp) ha, by rw [map_len hk]; omega, ?_⟩
        have t1 := N.frT (.ins C dx (putF f (.int z) fs))
        obtain ⟨T', c1, c2, c3⟩ := b3 G1 (upd H1 l (.ins C dx (putF f (.int z) fs))) (.dat (.int z)) (.int z) [] e1.gg (fun b hb => by
          have hb' : b ∈ T := b1.mem_iff.mpr (by simpa using hb)
          refine ⟨(t1 b hb').1.trans ?_, (t1 b hb').2⟩
          have := (t.foot b hb').1
          cases y : H b with
          | none => exact absurd y this
          | some o => exact e1.kp b o (by simp) y) (.dat (.int z))
        have hT' : ∀ b ∈ T', b ∈ T := fun b hb => b1.mem_iff.mpr (by simpa using c1.mem_iff.mp hb)
        have nT' : T'.Nodup := nd_perm (by simpa using c1.symm) (by simpa using nd_perm b1 (List.nodup_cons.mp (nd_left N.nd)).2)
        obtain ⟨S', a1, a2, a3, a4, a5⟩ := N.post hT' nT' (.obj (C := C) upd_same N.gl c2 c3)
        exact k1 _ σ _ _ S' q ⟨e1.pure.trans a1 Frs.refl, a2, a3, fun b hb => .inl (a5 b hb), fun _ _ => rfl⟩
end
end Pw
namespace Pw
open PySem PySem.Spec L2
section
variable {K : PySem.W.Frag} {P : List Nat} {δ : Dl} {ta tb te to ti tv : TE} {t u : TT} {ts t1 t2 : TS} {n m : Nat}
/-! ### loops -/
def LoopEn (Ψ : En) (N : Dl → Prop) : En := { nx := N, rt := Ψ.rt, bk := Ψ.nx, ct := N }
theorem ws_while {c : TT} {tb : TS} {Ψ : En} (I : Nat → Dl → Prop) (m0 : Nat) (h0 : I m0 δ) (hs : ∀ m δ', I m δ' → WT K c δ' fun b δ'' => if b = true then WS K P tb δ'' (LoopEn Ψ fun d => ∃ m', m' < m ∧ I m' d) else Ψ.nx δ'') : WS K P (tWhile c tb) δ Ψ := fun σ G H S g s nd D k1 k2 k3 k4 => by
  refine ⟨fun m σ1 H1 => ∃ δ1 G1 S1, I m δ1 ∧ PostS K P S σ G H δ1 σ1 G1 H1 S1, ⟨m0, δ, G, S, h0, ⟨Ext.refl g, s, nd, Frs.refl, fun _ _ => rfl⟩⟩, ?_⟩
  rintro m σ1 H1 ⟨δ1, G1, S1, i1, p1⟩
  refine hs m δ1 i1 σ1 G1 H1 S1 p1.e.gh p1.s p1.n _ fun b δ2 G2 H2 S2 a p2 => ?_
  have e2 := p1.e.trans p2.e p1.f
  have f2 : Frs S S2 H := p1.f.trans p1.e p2.f
  cases b with
  | true =>
    refine iteT ⟨_, fun _ _ x => x, ?_⟩
    have w : WS K P tb δ2 (LoopEn Ψ fun d => ∃ m', m' < m ∧ I m' d) := by simpa using a
    refine w σ1 G2 H2 S2 p2.e.gh p2.s p2.n _ (fun δ3 σ3 G3 H3 S3 q p3 => ?_) (fun v x δ3 σ3 G3 H3 Sx S3 q p3 => ?_) (fun δ3 σ3 G3 H3 S3 q p3 => ?_) (fun δ3 σ3 G3 H3 S3 q p3 => ?_)
    · obtain ⟨m', hm, i3⟩ := q
      exact ⟨m', hm, δ3, G3, S3, i3, ⟨e2.trans p3.e f2, p3.s, p3.n, f2.trans e2 p3.f, fun i hi => (p3.p i hi).trans (p1.p i hi)⟩⟩
    · exact k2 v x δ3 σ3 G3 H3 Sx S3 q ⟨e2.trans p3.e f2, p3.o, p3.s, p3.n, f2.trans e2 p3.f, fun i hi => (p3.p i hi).trans (p1.p i hi)⟩
    · exact k1 δ3 σ3 G3 H3 S3 q ⟨e2.trans p3.e f2, p3.s, p3.n, f2.trans e2 p3.f, fun i hi => (p3.p i hi).trans (p1.p i hi)⟩
    · obtain ⟨m', hm, i3⟩ := q
      exact ⟨m', hm, δ3, G3, S3, i3, ⟨e2.trans p3.e f2, p3.s, p3.n, f2.trans e2 p3.f, fun i hi => (p3.p i hi).trans (p1.p i hi)⟩⟩
  | false => exact iteF (k1 δ2 σ1 G2 H2 S2 (by simpa using a) ⟨e2, p2.s, p2.n, f2, p1.p⟩)
/-! ### what is walked: data, turn by turn -/
structure ItOk (K : PySem.W.Frag) (J : It) (G : Hp) (ds : List D) : Prop where
  go : ∀ i H, Same G H → i < ds.length → J.go i H
  stop : ∀ H, Same G H → J.stop ds.length H
  yld : ∀ i G' H x H', Same G G' → Same G' H → i < ds.length → J.yld i H x H' → ∃ d G'', ds[i]? = some d ∧ Ext [] G' H G'' H' ∧ Rep K G'' x d
def WI (K : PySem.W.Frag) (wi : TI) (δ : Dl) (ds : List D) : Prop := ∀ (σ : L2.St) (G H : Hp) (S : List Addr), Same G H → Sta K G H δ σ S → S.Nodup → ∀ R : It → Hp → Prop, (∀ J G' H', Ext [] G H G' H' → ItOk K J G' ds → R J H') → wi σ H R
theorem itOk_list {G : Hp} {a : Addr} {vs : List V} {ds : List D} (h : ∀ H, Same G H → SqL K H a vs) (r : RepL K G vs ds) : ItOk K (Itl K a) G ds where
  go := fun i H g hi => ⟨vs, vs[i]'(by rw [r.len]; exact hi), h H g, List.getElem?_eq_getElem _⟩
  stop := fun H g => ⟨vs, h H g, by rw [r.len]; exact Nat.le_refl _⟩
  yld := fun i G' H x H' gg g hi y => by
    obtain ⟨rfl, y⟩ := y
    have hx := y vs (h _ (gg.trans g))
    have hd : ds[i]? = some ds[i] := List.getElem?_eq_getElem hi
    exact ⟨_, G', hd, Ext.refl g, (r.at_ i x _ hx hd).mono gg⟩
theorem itOk_tup {G : Hp} {a : Addr} {vs : List V} {ds : List D} (h : ∀ H, Same G H → SqT K H a vs) (r : RepL K G vs ds) : ItOk K (Itt K a) G ds where
  go := fun i H g hi => ⟨vs, vs[i]'(by rw [r.len]; exact hi), h H g, List.getElem?_eq_getElem _⟩
  stop := fun H g => ⟨vs, h H g, by rw [r.len]; exact Nat.le_refl _⟩
  yld := fun i G' H x H' gg g hi y => by
    obtain ⟨rfl, y⟩ := y
    have hx := y vs (h _ (gg.trans g))
    have hd : ds[i]? = some ds[i] := List.getElem?_eq_getElem hi
    exact ⟨_, G', hd, Ext.refl g, (r.at_ i x _ hx hd).mono gg⟩
def rgD (lo : Int) (n : Nat) : List D := (List.range n).map fun (i : Nat) => D.int (lo + i)
theorem rgD_length {lo : Int} {n : Nat} : (rgD lo n).length = n := by simp [rgD]
theorem rgD_get {lo : Int} {n i : Nat} (h : i < n) : (rgD lo n)[i]? = some (.int (lo + i)) := by simp [rgD, h]
theorem itOk_range {G : Hp} {lo : Int} {n : Nat} : ItOk K (Itr lo n) G (rgD lo n) where
  go := fun i H g hi => by rw [rgD_length] at hi; exact hi
  stop := fun H g => by rw [rgD_length]; exact Nat.le_refl _
  yld := fun i G' H x H' gg g hi y => by
    obtain ⟨rfl, rfl⟩ := y
    rw [rgD_length] at hi
    exact ⟨_, G', rgD_get hi, Ext.refl g, .int _⟩
def iSEQ (K : PySem.W.Frag) (tl : TE) : TI := fun σ H R => iList K tl σ H R ∨ iTup K tl σ H R
theorem PI.or {X : Cx} {tg e : Expr} {w1 w2 : TI} (h1 : PI X tg e w1) (h2 : PI X tg e w2) : PI X tg e (fun σ H R => w1 σ H R ∨ w2 σ H R) := ⟨fun pins s σ H R I h => by
  rcases h with h | h
  · exact h1.run pins s σ H R I h
  · exact h2.run pins s σ H R I h⟩
theorem pi_SEQ {X : Cx} {tg e : Expr} {tl : TE} (h : PE X e tl) : PI X tg e (iSEQ X.K tl) := PI.or (pi_list h) (pi_tup h)
theorem wi_lst {ds : List D} (h : WP K te δ (.lst ds)) : WI K (iSEQ K te) δ ds := fun σ G H S g s nd R k => .inl (h σ G H S g s nd _ fun v G1 H1 e1 r1 => by
  cases r1 with
  | @lst a vs _ ha la ra => exact ⟨a, rfl, ⟨vs, .inl (.inl (e1.gh _ _ ha))⟩, k _ G1 H1 e1 (itOk_list (fun H g => .inl (.inl (g _ _ ha))) ⟨la, ra⟩)⟩)
theorem wi_tup {ds : List D} (h : WP K te δ (.tup ds)) : WI K (iSEQ K te) δ ds := fun σ G H S g s nd R k => .inr (h σ G H S g s nd _ fun v G1 H1 e1 r1 => by
  cases r1 with
  | @tup a vs _ ha la ra => exact ⟨a, rfl, ⟨vs, seqT e1.gh ha⟩, k _ G1 H1 e1 (itOk_tup (fun H g => seqT g ha) ⟨la, ra⟩)⟩)
theorem wi_rng1 {ta : TA} {j : Int} (h : WPa K ta δ [.int j]) (h1 : -1000000 ≤ j) (h2 : j ≤ 1000000) : WI K (iRng1 ta) δ (rgD 0 j.toNat) := fun σ G H S g s nd R k => h σ G H S g s nd _ fun vs G1 H1 e1 r1 => by
  obtain ⟨v, ws, rfl, a, b⟩ := r1.cases_cons
  rw [b.cases_nil]
  cases a
  exact ⟨j, rfl, by omega, by omega, k _ G1 H1 e1 itOk_range⟩
theorem wi_rng2 {ta : TA} {i j : Int} (h : WPa K ta δ [.int i, .int j]) (h1 : -1000000 ≤ i ∧ i ≤ 1000000) (h2 : -1000000 ≤ j ∧ j ≤ 1000000) : WI K (iRng2 ta) δ (rgD i (j - i).toNat) := fun σ G H S g s nd R k => h σ G H S g s nd _ fun vs G1 H1 e1 r1 => by
  obtain ⟨v, ws, rfl, a, b⟩ := r1.cases_cons
  obtain ⟨v', ws', rfl, a', b'⟩ := b.cases_cons
  rw [b'.cases_nil]
  cases a; cases a'
  exact ⟨i, j, rfl, ⟨by omega, by omega, by omega, by omega⟩, k _ G1 H1 e1 itOk_range⟩
/-! ### targets -/
/-- storing d -/
def WG (K : PySem.W.Frag) (P : List Nat) (g : TG) (d : D) (δ : Dl) (Φ : Dl → Prop) : Prop := ∀ (σ : L2.St) (G H : Hp) (S : List Addr) (v : V), Same G H → Sta K G H δ σ S → S.Nodup → Rep K G v d → ∀ Q : L2.St → Hp → Prop,
  (∀ σ' δ' S', Φ δ' → Sta K G H δ' σ' S' → S'.Nodup → (∀ b ∈ S', b ∈ S) → (∀ i ∈ P, σ'[i]? = σ[i]?) → Q σ' H) → g v σ H Q
theorem wg_name {i : Nat} {d : D} {Φ : Dl → Prop} (hi : i < δ.length) (hp : i ∉ P) (q : Φ (δ.set i (some (.dat d)))) : WG K P (gName i) d δ Φ := fun σ G H S v g s nd r Q k => by
  obtain ⟨Sd, Sr, S', h1, h2, h3⟩ := s.store (i := i) (x := .dat d) (v := v) hi (.dat r)
  refine k _ _ S' q h3 (nd_perm h2.symm (by simpa using nd_right (nd_perm h1 nd))) (fun b hb => h1.mem_iff.mpr (List.mem_append_right _ (by simpa using h2.mem_iff.mp hb))) fun j hj => ?_
  rw [List.getElem?_set_ne]
  intro e; subst e; exact hp hj
def WGs (K : PySem.W.Frag) (P : List Nat) (g : TGs) (ds : List D) (δ : Dl) (Φ : Dl → Prop) : Prop := ∀ (σ : L2.St) (G H : Hp) (S : List Addr) (vs : List V), Same G H → Sta K G H δ σ S → S.Nodup → RepL K G vs ds → ∀ Q : L2.St → Hp → Prop,
  (∀ σ' δ' S', Φ δ' → Sta K G H δ' σ' S' → S'.Nodup → (∀ b ∈ S', b ∈ S) → (∀ i ∈ P, σ'[i]? = σ[i]?) → Q σ' H) → g vs σ H Q
theorem wgs_nil {Φ : Dl → Prop} (q : Φ δ) : WGs K P gNil [] δ Φ := fun σ G H S vs g s nd r Q k => ⟨r.cases_nil, k σ δ S q s nd (fun _ h => h) fun _ _ => rfl⟩
theorem wgs_cons {g : TG} {gs : TGs} {d : D} {ds : List D} {Φ : Dl → Prop} (h : WG K P g d δ fun δ' => WGs K P gs ds δ' Φ) : WGs K P (gCons g gs) (d :: ds) δ Φ := fun σ G H S vs gg s nd r Q k => by
  obtain ⟨v, ws, rfl, r1, r2⟩ := r.cases_cons
  refine ⟨v, ws, rfl, h σ G H S v gg s nd r1 _ fun σ' δ' S' q s' nd' sub pp => ?_⟩
  exact q σ' G H S' ws gg s' nd' r2 Q fun σ2 δ2 S2 q2 s2 nd2 sub2 pp2 => k σ2 δ2 S2 q2 s2 nd2 (fun b hb => sub b (sub2 b hb)) fun i hi => (pp2 i hi).trans (pp i hi)
theorem wg_tup {gs : TGs} {ds : List D} {l : Nat} {Φ : Dl → Prop} (h : WGs K P gs ds δ Φ) (hl : ds.length = l) : WG K P (gTup K l gs) (.tup ds) δ Φ := fun σ G H S v g s nd r Q k => by
  cases r with
  | @tup a vs _ ha la ra => exact ⟨a, vs, rfl, seqT g ha, by omega, h σ G H S vs g s nd ⟨la, ra⟩ Q k⟩
/-- a, b = e -/
theorem ws_unpack {g : TG} {d : D} {Ψ : En} (h : WP K te δ d) (q : WG K P g d δ Ψ.nx) : WS K P (tAsg te g) δ Ψ := fun σ G H S gg s nd D k1 k2 k3 k4 => h σ G H S gg s nd _ fun v G1 H1 e1 r1 =>
  q σ G1 H1 S v e1.gh (s.ext e1) nd r1 _ fun σ' δ' S' a s' nd' sub pp => k1 δ' σ' G1 H1 S' a ⟨e1.pure, s', nd', fun b hb => .inl (sub b hb), pp⟩
theorem ws_for {wi : TI} {g : TG} {tb : TS} {ds : List D} {Ψ : En} (h : WI K wi δ ds) (I : Nat → Dl → Prop) (h0 : I 0 δ)
    (hs : ∀ i d δ', ds[i]? = some d → I i δ' → WG K P g d δ' fun δ'' => WS K P tb δ'' (LoopEn Ψ (I (i + 1)))) (hd : ∀ δ', I ds.length δ' → Ψ.nx δ') : WS K P (tFor wi g tb) δ Ψ := fun σ G H S gg s nd D k1 k2 k3 k4 =>
  h σ G H S gg s nd _ fun J G0 H0 e0 ok => by
    refine ⟨fun i m σ1 H1 => ∃ δ1 G1 S1, m = ds.length - i ∧ i ≤ ds.length ∧ I i δ1 ∧ PostS K P S σ G H δ1 σ1 G1 H1 S1 ∧ Same G0 G1, ⟨ds.length, δ, G0, S, by simp, Nat.zero_le _, h0, ⟨e0.pure, s.ext e0, nd, Frs.refl, fun _ _ => rfl⟩, Same.refl G0⟩, ?_⟩
    rintro i m σ1 H1 ⟨δ1, G1, S1, rfl, hi, i1, p1, g01⟩
    by_cases hlt : i < ds.length
    · refine .inr ⟨ok.go i H1 (g01.trans p1.e.gh) hlt, _, fun _ _ x => x, fun x H2 y => ?_⟩
      obtain ⟨d, G2, hd2, e2, r2⟩ := ok.yld i G1 H1 x H2 g01 p1.e.gh hlt y
      have s2 := p1.s.ext e2
      have E2 := p1.e.trans e2.pure p1.f
      refine hs i d δ1 hd2 i1 σ1 G2 H2 S1 x e2.gh s2 p1.n r2 _ fun σ2 δ2 S2 w s3 nd3 sub pp => ?_
      have F2 : Frs S S2 H := fun b hb => p1.f b (sub b hb)
      refine w σ2 G2 H2 S2 e2.gh s3 nd3 _ (fun δ3 σ3 G3 H3 S3 q p3 => ?_) (fun v x δ3 σ3 G3 H3 Sx S3 q p3 => ?_) (fun δ3 σ3 G3 H3 S3 q p3 => ?_) (fun δ3 σ3 G3 H3 S3 q p3 => ?_)
      · exact ⟨ds.length - (i + 1), by omega, δ3, G3, S3, rfl, hlt, q, ⟨E2.trans p3.e F2, p3.s, p3.n, F2.trans E2 p3.f, fun j hj => (p3.p j hj).trans ((pp j hj).trans (p1.p j hj))⟩, g01.trans (e2.gg.trans p3.e.gg)⟩
      · exact k2 v x δ3 σ3 G3 H3 Sx S3 q ⟨E2.trans p3.e F2, p3.o, p3.s, p3.n, F2.trans E2 p3.f, fun j hj => (p3.p j hj).trans ((pp j hj).trans (p1.p j hj))⟩
      · exact k1 δ3 σ3 G3 H3 S3 q ⟨E2.trans p3.e F2, p3.s, p3.n, F2.trans E2 p3.f, fun j hj => (p3.p j hj).trans ((pp j hj).trans (p1.p j hj))⟩
      · exact ⟨ds.length - (i + 1), by omega, δ3, G3, S3, rfl, hlt, q, ⟨E2.trans p3.e F2, p3.s, p3.n, F2.trans E2 p3.f, fun j hj => (p3.p j hj).trans ((pp j hj).trans (p1.p j hj))⟩, g01.trans (e2.gg.trans p3.e.gg)⟩
    · have e : i = ds.length := by omega
      subst e
      exact .inl ⟨ok.stop H1 (g01.trans p1.e.gh), k1 δ1 σ1 G1 H1 S1 (hd δ1 i1) p1⟩
/-! ### comprehensions -/
/-- the block's own slots are not known around -/
theorem Sta.wipe {G H : Hp} {σ : L2.St} {S : List Addr} (s : Sta K G H δ σ S) : ∀ {vs : List Nat}, (∀ v ∈ vs, δ[v]? = some none) → Sta K G H δ (L2.wipe σ vs) S
  | [], _ => s
  | v :: vs, h => (s.wipe fun w hw => h w (List.mem_cons_of_mem _ hw)).wild (h v List.mem_cons_self)
/-- storing d in the block -/
def WC (K : PySem.W.Frag) (vs : List Nat) (g : TG) (d : D) (δ : Dl) (Φ : Dl → Prop) : Prop := ∀ (σ : L2.St) (G H : Hp) (S : List Addr) (v : V), Same G H → Sta K G H δ σ S → S.Nodup → Rep K G v d → ∀ Q : L2.St → Hp → Prop,
  (∀ σ' δ', Φ δ' → Sta K G H δ' σ' S → L2.wipe σ' vs = L2.wipe σ vs → Q σ' H) → g v σ H Q
theorem wipe_set {σ : L2.St} {i : Nat} {x : Option V} : ∀ {vs : List Nat}, i ∈ vs → L2.wipe (σ.set i x) vs = L2.wipe σ vs
  | v :: vs, h => by
    show (L2.wipe (σ.set i x) vs).set v none = (L2.wipe σ vs).set v none
    by_cases e : i ∈ vs
    · rw [wipe_set e]
    · have : i = v := by rcases List.mem_cons.mp h with h | h; exact h; exact absurd h e
      subst this
      have k : ∀ {vs : List Nat}, i ∉ vs → L2.wipe (σ.set i x) vs = (L2.wipe σ vs).set i x := by
        intro vs
        induction vs with
        | nil => intro _; rfl
        | cons w ws ih =>
          intro hn
          show (L2.wipe (σ.set i x) ws).set w none = ((L2.wipe σ ws).set w none).set i x
          rw [ih fun q => hn (List.mem_cons_of_mem _ q)]
          exact List.set_comm _ _ (fun q => hn (q ▸ List.mem_cons_self))
      rw [k e, List.set_set]
theorem wc_name {vs : List Nat} {i : Nat} {d : D} {Φ : Dl → Prop} (hi : i ∈ vs) (hn : δ[i]? = some none) (q : Φ (δ.set i (some (.dat d)))) : WC K vs (gName i) d δ Φ := fun σ G H S v g s nd r Q k => by
  obtain ⟨S', h1, h2⟩ := s.fill hn (.dat r : Own K G H (.dat d) v [])
  have : S' = S ∨ True := .inr trivial
  have p : S'.Perm S := by simpa using h1
  have key : ∀ {δ : Dl} {σ : L2.St} {S : List Addr} {i : Nat}, Sta K G H δ σ S → δ[i]? = some none → Sta K G H (δ.set i (some (.dat d))) (σ.set i (some v)) S := by
    intro δ σ S i s
    induction s generalizing i with
    | nil => intro h; simp at h
    | @un δ σ w S s ih =>
      intro h
      cases i with
      | zero => exact (Sta.sl (S := []) (.dat r) s)
      | succ i => exact .un (ih (by simpa using h))
    | @sl x w δ σ S T o s ih =>
      intro h
      cases i with
      | zero => simp at h
      | succ i => exact .sl o (ih (by simpa using h))
  exact k _ _ q (key s hn) (wipe_set hi)
def WCs (K : PySem.W.Frag) (vs : List Nat) (g : TGs) (ds : List D) (δ : Dl) (Φ : Dl → Prop) : Prop := ∀ (σ : L2.St) (G H : Hp) (S : List Addr) (ws : List V), Same G H → Sta K G H δ σ S → S.Nodup → RepL K G ws ds → ∀ Q : L2.St → Hp → Prop,
  (∀ σ' δ', Φ δ' → Sta K G H δ' σ' S → L2.wipe σ' vs = L2.wipe σ vs → Q σ' H) → g ws σ H Q
theorem wcs_nil {vs : List Nat} {Φ : Dl → Prop} (q : Φ δ) : WCs K vs gNil [] δ Φ := fun σ G H S ws g s nd r Q k => ⟨r.cases_nil, k σ δ q s rfl⟩
theorem wcs_cons {vs : List Nat} {g : TG} {gs : TGs} {d : D} {ds : List D} {Φ : Dl → Prop} (h : WC K vs g d δ fun δ' => WCs K vs gs ds δ' Φ) : WCs K vs (gCons g gs) (d :: ds) δ Φ := fun σ G H S ws gg s nd r Q k => by
  obtain ⟨v, ws, rfl, r1, r2⟩ := r.cases_cons
  refine ⟨v, ws, rfl, h σ G H S v gg s nd r1 _ fun σ' δ' q s' e => ?_⟩
  exact q σ' G H S ws gg s' nd r2 Q fun σ2 δ2 q2 s2 e2 => k σ2 δ2 q2 s2 (e2.trans e)
theorem wc_tup {vs : List Nat} {gs : TGs} {ds : List D} {l : Nat} {Φ : Dl → Prop} (h : WCs K vs gs ds δ Φ) (hl : ds.length = l) : WC K vs (gTup K l gs) (.tup ds) δ Φ := fun σ G H S v g s nd r Q k => by
  cases r with
  | @tup a ws _ ha la ra => exact ⟨a, ws, rfl, seqT g ha, by omega, h σ G H S ws g s nd ⟨la, ra⟩ Q k⟩
/-- [f k for k in ks if p k], with no effects -/
theorem wo_lc {τ : Type} {wi : TI} {g : TG} {tt : TT} {te : TE} {vs : List Nat} {ks : List τ} {enc : τ → D} {p : τ → Bool} {f : τ → D} (h : WI K wi δ (ks.map enc)) (hv : ∀ v ∈ vs, δ[v]? = some none) (hl : ks.length ≤ 1000000)
    (hb : ∀ k ∈ ks, WC K vs g (enc k) δ fun δ' => WTp K tt δ' (p k) ∧ (p k = true → WP K te δ' (f k))) : WO K (tLc wi g tt te vs) δ ((ks.filter p).map f) := fun σ G H S gg s nd Q k =>
  h σ G H S gg s nd _ fun J G0 H0 e0 ok Dd hD => by
    have hD0 : H Dd = none := back_none e0 hD
    have eN : Ext [] G0 H0 G0 (upd H0 Dd (.lst [])) := Ext.newO e0.gh hD
    refine ⟨fun i m H1 => ∃ G1 ws, m = ks.length - i ∧ i ≤ ks.length ∧ Ext [] G H G1 H1 ∧ Same G0 G1 ∧ G1 Dd = none ∧ H1 Dd = some (.lst ws) ∧ RepL K G1 ws (((ks.take i).filter p).map f), ⟨ks.length, G0, [], by simp, Nat.zero_le _, e0.tr0 eN, Same.refl _, e0.gh.free hD, upd_same, by simpa using RepL.nil⟩, ?_⟩
    rintro i m H1 ⟨G1, ws, rfl, hi, E1, g01, gD, hDw, rw⟩
    have hlen : (ks.map enc).length = ks.length := List.length_map _
    have wl : ws.length ≤ ks.length := by
      rw [rw.len, List.length_map]
      exact Nat.le_trans (List.length_filter_le _ _) (by rw [List.length_take]; omega)
    by_cases hlt : i < ks.length
    · refine .inr ⟨ok.go i H1 (g01.trans E1.gh) (by rw [hlen]; exact hlt), _, fun _ x => x, fun x H2 y => ?_⟩
      obtain ⟨d, G2, hd2, e2, r2⟩ := ok.yld i G1 H1 x H2 g01 E1.gh (by rw [hlen]; exact hlt) y
      have hk : ks[i]? = some ks[i] := List.getElem?_eq_getElem hlt
      have hd : d = enc ks[i] := by
        rw [List.getElem?_map, hk] at hd2
        exact (Option.some.inj hd2).symm
      subst hd
      have E2 := E1.tr0 e2
      have sw : Sta K G2 H2 δ (L2.wipe σ vs) S := (s.ext E2).wipe hv
      have tk : ((ks.take (i + 1)).filter p).map f = ((ks.take i).filter p).map f ++ (if p ks[i] = true then [f ks[i]] else []) := by
        rw [List.take_add_one, hk, List.filter_append, List.map_append]
        congr 1
        show (([ks[i]] : List τ).filter p).map f = _
        by_cases z : p ks[i] = true
        · simp [z]
        · simp [z]
      have hDn : G2 Dd = none := by
        cases z : G2 Dd with
        | none => rfl
        | some o =>
          have := e2.fr Dd (by simp) (by rw [hDw]; simp)
          rw [gD, z] at this; cases this
      have hD2 : H2 Dd = some (.lst ws) := e2.kp _ _ (by simp) hDw
      refine hb ks[i] (List.mem_of_getElem? hk) (L2.wipe σ vs) G2 H2 S x E2.gh sw nd r2 _ fun σ' δ' q s' e' => ⟨?_, ?_⟩
      · rw [e']
        have ww : ∀ (vs : List Nat), L2.wipe (L2.wipe σ vs) vs = L2.wipe σ vs := by
          intro vs
          have : ∀ (us vs : List Nat), (∀ v ∈ us, v ∈ vs) → L2.wipe (L2.wipe σ vs) us = L2.wipe σ vs := by
            intro us
            induction us with
            | nil => intro vs _; rfl
            | cons u us ih =>
              intro vs hs
              show (L2.wipe (L2.wipe σ vs) us).set u none = L2.wipe σ vs
              rw [ih vs fun v hv => hs v (List.mem_cons_of_mem _ hv)]
              have hu : u ∈ vs := hs u List.mem_cons_self
              clear ih hs
              apply List.ext_getElem?
              intro j
              by_cases e : u = j
              · subst e
                by_cases hl : u < (L2.wipe σ vs).length
                · rw [List.getElem?_set_self hl]
                  cases z : (L2.wipe σ vs)[u]? with
                  | none => rw [List.getElem?_eq_none_iff] at z; omega
                  | some o =>
                    cases o with
                    | none => rfl
                    | some v0 => exact absurd hu (wipe_some z).2
                · rw [List.getElem?_eq_none (by simp; omega), List.getElem?_eq_none (by omega)]
              · rw [List.getElem?_set_ne e]
          exact this vs vs fun _ h => h
        exact ww vs
      · refine q.1 σ' G2 H2 S E2.gh s' nd _ fun G3 H3 e3 => ?_
        have hD3 : H3 Dd = some (.lst ws) := e3.kp _ _ (by simp) hD2
        have gD3 : G3 Dd = none := by rw [e3.fr Dd (by simp) (by rw [hD2]; simp)]; exact hDn
        have E3 := E2.tr0 e3
        have g03 := (g01.trans e2.gg).trans e3.gg
        by_cases z : p ks[i] = true
        · rw [if_pos z]
          refine q.2 z σ' G3 H3 S e3.gh (s'.ext e3) nd _ fun v G4 H4 e4 r4 => ?_
          have hD4 : H4 Dd = some (.lst ws) := e4.kp _ _ (by simp) hD3
          have gD4 : G4 Dd = none := by rw [e4.fr Dd (by simp) (by rw [hD3]; simp)]; exact gD3
          have E4 := E3.tr0 e4
          refine ⟨ws, hD4, Nat.lt_of_le_of_lt wl (Nat.lt_of_le_of_lt hl (by decide)), ks.length - (i + 1), by omega, G4, ws ++ [v], rfl, hlt, ?_, g03.trans e4.gg, gD4, upd_same, ?_⟩
          · refine ⟨E4.gg, fun b o hb => ?_, fun b o _ hb => ?_, fun b hb => ?_, E4.fr⟩
            · rw [upd_ne (ne_of_none hb gD4)]; exact E4.gh b o hb
            · rw [upd_ne (ne_of_none hb hD0)]; exact E4.kp b o (by simp) hb
            · by_cases w : b = Dd
              · subst w; rw [upd_same]; simp
              · rw [upd_ne w]; exact E4.dm b hb
          · rw [tk, if_pos z]
            exact (rw.mono ((e2.gg.trans e3.gg).trans e4.gg)).append (.cons r4 .nil)
        · rw [if_neg z]
          refine ⟨ks.length - (i + 1), by omega, G3, ws, rfl, hlt, E3, g03, gD3, hD3, ?_⟩
          rw [tk, if_neg z, List.append_nil]
          exact rw.mono (e2.gg.trans e3.gg)
    · have e : i = ks.length := by omega
      subst e
      refine .inl ⟨by rw [← hlen]; exact ok.stop H1 (g01.trans E1.gh), k Dd ws G1 H1 E1 gD hD0 hDw ?_⟩
      rw [List.take_length] at rw
      exact rw
end
end Pw
namespace Pw
open PySem PySem.Spec L2
/-! ### what a def promises -/
/-- of the arguments (as trees), what follows of the answer and of what the arguments then are -/
abbrev FS := List OV → (OV → List OV → Prop) → Prop
def toSp (K : PySem.W.Frag) (spec : FS) : Sp := fun vs H Q E => ∃ (G : Hp) (xs : List OV) (S : List Addr) (Φ : OV → List OV → Prop), Same G H ∧ OwnL K G H xs vs S ∧ S.Nodup ∧ spec xs Φ ∧
  ∀ v x xs' G' H' Sx S', Φ x xs' → Ext S G H G' H' → Own K G' H' x v Sx → OwnL K G' H' xs' vs S' → (Sx ++ S').Nodup → Frs S (Sx ++ S') H → Q v H'
/-- a def of data: pre of the arguments, the answer f -/
def pfun (pre : List D → Prop) (f : List D → D) : FS := fun xs Φ => ∃ ds, xs = ds.map OV.dat ∧ pre ds ∧ Φ (.dat (f ds)) xs
section
variable {K : PySem.W.Frag} {P : List Nat} {δ : Dl} {ta tb te to ti tv : TE} {t u : TT} {ts t1 t2 : TS} {n m : Nat} {spec : FS}
theorem wp_call {ta : TA} {E : XK} {ds : List D} {pre : List D → Prop} {f : List D → D} (h : WPa K ta δ ds) (hp : pre ds) : WP K (tCall (toSp K (pfun pre f)) [] E ta) δ (f ds) := fun σ G H S g s nd Q k => h σ G H S g s nd _ fun vs G1 H1 e1 r1 => by
  rw [List.append_nil]
  refine ⟨G1, ds.map OV.dat, [], fun r _ => r = .dat (f ds), e1.gh, ownL_dat r1, by simp, ⟨ds, rfl, hp, rfl⟩, fun v x xs' G2 H2 Sx S' a e2 o _ _ _ => ?_⟩
  subst a
  cases o with
  | dat r => exact k v G2 H2 (e1.tr0 e2) r
theorem perm_swap {A B C : List Addr} : (A ++ (B ++ C)).Perm (B ++ (A ++ C)) := by
  rw [← List.append_assoc, ← List.append_assoc]
  exact List.Perm.append_right C List.perm_append_comm
/-! ### arguments that may be owned -/
inductive AR where
  | val (x : OV) | slt (i : Nat)
inductive ArsOk (K : PySem.W.Frag) (G H : Hp) (σ : L2.St) : List AR → List V → List Addr → Prop
  | nil : ArsOk K G H σ [] [] []
  | val {x : OV} {v : V} {rs : List AR} {vs : List V} {S T : List Addr} : Own K G H x v S → ArsOk K G H σ rs vs T → ArsOk K G H σ (.val x :: rs) (v :: vs) (S ++ T)
  | slt {i : Nat} {v : V} {rs : List AR} {vs : List V} {T : List Addr} : σ[i]? = some (some v) → ArsOk K G H σ rs vs T → ArsOk K G H σ (.slt i :: rs) (v :: vs) T
theorem ArsOk.frame {G H G' H' : Hp} {σ : L2.St} (e : Same G G') : ∀ {rs : List AR} {vs : List V} {S : List Addr}, ArsOk K G H σ rs vs S → (∀ b ∈ S, H' b = H b ∧ G' b = none) → ArsOk K G' H' σ rs vs S
  | _, _, _, .nil, _ => .nil
  | _, _, _, .val o t, k => .val (o.frame e fun b hb => k b (List.mem_append_left _ hb)) (t.frame e fun b hb => k b (List.mem_append_right _ hb))
  | _, _, _, .slt h t, k => .slt h (t.frame e k)
theorem ArsOk.foot {G H : Hp} {σ : L2.St} : ∀ {rs : List AR} {vs : List V} {S : List Addr}, ArsOk K G H σ rs vs S → ∀ b ∈ S, H b ≠ none ∧ G b = none
  | _, _, _, .nil, b, hb => by simp at hb
  | _, _, _, .val o t, b, hb => by
    rcases List.mem_append.mp hb with hb | hb
    · exact o.foot b hb
    · exact t.foot b hb
  | _, _, _, .slt h t, b, hb => t.foot b hb
def WA (K : PySem.W.Frag) (ta : TA) (δ : Dl) (Φ : List AR → Dl → Prop) : Prop := ∀ (σ : L2.St) (G H : Hp) (S : List Addr), Same G H → Sta K G H δ σ S → S.Nodup → ∀ Q : List V → Hp → Prop,
  (∀ vs rs δ' G' H' Sx S', Φ rs δ' → Ext S G H G' H' → ArsOk K G' H' σ rs vs Sx → Sta K G' H' δ' σ S' → (Sx ++ S').Nodup → Frs S (Sx ++ S') H → Q vs H') → ta σ H Q
theorem wa_nil {Φ : List AR → Dl → Prop} (q : Φ [] δ) : WA K tNil δ Φ := fun σ G H S g s nd Q k => k [] [] δ G H [] S q (Ext.refl g) .nil s (by simpa using nd) (by simpa using Frs.refl)
theorem wa_val {ta : TA} {Φ : List AR → Dl → Prop} (h : WE K te δ fun x δ' => WA K ta δ' fun rs δ'' => Φ (.val x :: rs) δ'') : WA K (tCons te ta) δ Φ := fun σ G H S g s nd Q k =>
  h σ G H S g s nd _ fun v x δ1 G1 H1 Sx S1 a p => a σ G1 H1 S1 p.e.gh p.s (nd_right p.n) _ fun vs rs δ2 G2 H2 Sy S2 b e2 ok s2 n2 f2 => by
    have o2 : Own K G2 H2 x v Sx := p.o.frame e2.gg (e2.apart fun c hc => ⟨nd_dis p.n hc, p.o.foot c hc⟩)
    have f1 : Frs S S1 H := fun c hc => p.f c (List.mem_append_right _ hc)
    have f2' : Frs S (Sy ++ S2) H := f1.trans p.e f2
    refine k _ _ δ2 G2 H2 (Sx ++ Sy) S2 b (p.e.trans e2 f1) (.val o2 ok) s2 ?_ fun c hc => ?_
    · rw [List.append_assoc]
      refine nd_app (nd_left p.n) n2 fun c hc q => ?_
      rcases f2 c q with z | z
      · exact nd_dis p.n hc z
      · exact (p.o.foot c hc).1 z
    · rw [List.append_assoc] at hc
      rcases List.mem_append.mp hc with z | z
      · exact p.f c (List.mem_append_left _ z)
      · exact f2' c z
theorem wa_p {ta : TA} {d : D} {Φ : List AR → Dl → Prop} (h : WP K te δ d) (q : WA K ta δ fun rs δ'' => Φ (.val (.dat d) :: rs) δ'') : WA K (tCons te ta) δ Φ := wa_val (we_p h q)
theorem wa_slt {ta : TA} {i : Nat} {Φ : List AR → Dl → Prop} (hx : ∃ x, δ[i]? = some (some x)) (h : WA K ta δ fun rs δ' => Φ (.slt i :: rs) δ') : WA K (tCons (tVar i) ta) δ Φ := fun σ G H S g s nd Q k => by
  obtain ⟨x, hx⟩ := hx
  obtain ⟨v, Si, Sr, h1, _⟩ := s.get hx
  exact ⟨v, h1, h σ G H S g s nd _ fun vs rs δ' G' H' Sx S' a e ok s' n' f => k _ _ δ' G' H' Sx S' a e (.slt h1 ok) s' n' f⟩
/-- the arguments' trees -/
def argsOf (δ : Dl) : List AR → Option (List OV)
  | [] => some []
  | .val x :: rs => (argsOf δ rs).map (x :: ·)
  | .slt i :: rs => match δ[i]? with
    | some (some x) => (argsOf δ rs).map (x :: ·)
    | _ => none
def slots : List AR → List Nat
  | [] => []
  | .val _ :: rs => slots rs
  | .slt i :: rs => i :: slots rs
def clearA (δ : Dl) : List AR → Dl
  | [] => δ
  | .val _ :: rs => clearA δ rs
  | .slt i :: rs => clearA (δ.set i none) rs
def putArgs (δ : Dl) : List AR → List OV → Dl
  | .val _ :: rs, _ :: xs => putArgs δ rs xs
  | .slt i :: rs, x :: xs => putArgs (δ.set i (some x)) rs xs
  | _, _ => δ
theorem argsOf_set {i : Nat} {w : Option OV} : ∀ {rs : List AR} {δ : Dl}, i ∉ slots rs → argsOf (δ.set i w) rs = argsOf δ rs
  | [], _, _ => rfl
  | .val x :: rs, δ, h => by simp only [argsOf]; rw [argsOf_set (rs := rs) h]
  | .slt j :: rs, δ, h => by
    have hj : i ≠ j := fun e => h (by simp [slots, e])
    have hr : i ∉ slots rs := fun q => h (by simp [slots, q])
    simp only [argsOf]
    rw [List.getElem?_set_ne hj, argsOf_set hr]
theorem ars_take {G H : Hp} {σ : L2.St} : ∀ {rs : List AR} {vs : List V} {Sx S : List Addr} {δ : Dl} {xs : List OV}, ArsOk K G H σ rs vs Sx → Sta K G H δ σ S → argsOf δ rs = some xs → (slots rs).Nodup →
    ∃ Sa Sr, (Sx ++ S).Perm (Sa ++ Sr) ∧ OwnL K G H xs vs Sa ∧ Sta K G H (clearA δ rs) σ Sr
  | [], _, _, S, δ, xs, .nil, s, e, _ => by
    have : [] = xs := by simpa [argsOf] using e
    subst this
    exact ⟨[], S, List.Perm.refl _, .nil, s⟩
  | .val x :: rs, _, _, S, δ, xs, .val (S := S0) (T := T0) o ok, s, e, nd => by
    simp only [argsOf, Option.map_eq_some_iff] at e
    obtain ⟨ys, e1, rfl⟩ := e
    obtain ⟨Sa, Sr, p, ow, st⟩ := ars_take ok s e1 nd
    exact ⟨S0 ++ Sa, Sr, by rw [List.append_assoc, List.append_assoc]; exact List.Perm.append_left S0 p, .cons o ow, st⟩
  | .slt i :: rs, _, Sx, S, δ, xs, .slt (v := v0) hv ok, s, e, nd => by
    simp only [argsOf] at e
    split at e
    · rename_i x hx
      simp only [Option.map_eq_some_iff] at e
      obtain ⟨ys, e1, rfl⟩ := e
      obtain ⟨v, Si, Sq, h1, h2, h3, h4⟩ := s.get hx
      rw [hv] at h1
      cases h1
      have hn := List.nodup_cons.mp nd
      obtain ⟨Sa, Sr, p, ow, st⟩ := ars_take ok h4 (by rw [argsOf_set hn.1]; exact e1) hn.2
      refine ⟨Si ++ Sa, Sr, ?_, .cons h2 ow, st⟩
      refine List.Perm.trans (List.Perm.append_left Sx h3) ?_
      refine (perm_swap (A := Sx) (B := Si) (C := Sq)).trans ?_
      rw [List.append_assoc]
      exact List.Perm.append_left Si p
    · cases e
theorem clearA_set {i : Nat} {w : Option OV} : ∀ {rs : List AR} {δ : Dl}, i ∉ slots rs → clearA (δ.set i w) rs = (clearA δ rs).set i w
  | [], _, _ => rfl
  | .val x :: rs, δ, h => clearA_set (rs := rs) h
  | .slt j :: rs, δ, h => by
    have hj : i ≠ j := fun e => h (by simp [slots, e])
    have hr : i ∉ slots rs := fun q => h (by simp [slots, q])
    simp only [clearA]
    rw [List.set_comm _ _ hj, clearA_set hr]
theorem putArgs_set {i : Nat} {w : Option OV} : ∀ {rs : List AR} {δ : Dl} {xs : List OV}, i ∉ slots rs → putArgs (δ.set i w) rs xs = (putArgs δ rs xs).set i w
  | [], δ, xs, _ => by cases xs <;> rfl
  | .val x :: rs, δ, [], h => rfl
  | .val x :: rs, δ, y :: xs, h => putArgs_set (rs := rs) h
  | .slt j :: rs, δ, [], h => rfl
  | .slt j :: rs, δ, y :: xs, h => by
    have hj : i ≠ j := fun e => h (by simp [slots, e])
    have hr : i ∉ slots rs := fun q => h (by simp [slots, q])
    simp only [putArgs]
    rw [List.set_comm _ _ hj, putArgs_set hr]
theorem clearA_len : ∀ {rs : List AR} {δ : Dl}, (clearA δ rs).length = δ.length
  | [], _ => rfl
  | .val _ :: rs, δ => clearA_len (rs := rs)
  | .slt i :: rs, δ => by simp only [clearA]; rw [clearA_len (rs := rs), List.length_set]
theorem ars_put {G H G0 H0 : Hp} {σ : L2.St} : ∀ {rs : List AR} {vs : List V} {Sx Sr Sa : List Addr} {δ : Dl} {xs : List OV}, ArsOk K G0 H0 σ rs vs Sx → (slots rs).Nodup → (∀ i ∈ slots rs, i < δ.length) → Sta K G H (clearA δ rs) σ Sr → OwnL K G H xs vs Sa →
    ∃ Sd S', (Sa ++ Sr).Perm (Sd ++ S') ∧ Sta K G H (putArgs δ rs xs) σ S'
  | [], _, _, Sr, Sa, δ, xs, .nil, _, _, s, o => by
    cases o
    exact ⟨[], Sr, List.Perm.refl _, s⟩
  | .val x :: rs, _, _, Sr, _, δ, _, .val _ ok, nd, hi, s, .cons (S := S0) (T := T0) o ow => by
    obtain ⟨Sd, S', p, st⟩ := ars_put ok nd hi s ow
    exact ⟨S0 ++ Sd, S', by rw [List.append_assoc, List.append_assoc]; exact List.Perm.append_left S0 p, st⟩
  | .slt i :: rs, _, _, Sr, _, δ, _, .slt (v := v0) hv ok, nd, hi, s, .cons (x := x) (xs := xs0) (S := S0) (T := T0) o ow => by
    have hn := List.nodup_cons.mp nd
    have hlt : i < δ.length := hi i (by simp [slots])
    obtain ⟨Sd, S', p, st⟩ := ars_put (δ := δ.set i none) ok hn.2 (fun j hj => by rw [List.length_set]; exact hi j (by simp [slots, hj])) s ow
    rw [putArgs_set hn.1] at st
    have hl : i < (putArgs δ rs xs0).length := by
      have := st.length
      rw [List.length_set] at this
      rw [this]
      exact get_lt hv
    obtain ⟨S2, p2, st2⟩ := st.put hl hv o
    refine ⟨Sd, S2, ?_, ?_⟩
    · rw [List.append_assoc]
      exact (List.Perm.append_left S0 p).trans (perm_swap.trans (List.Perm.append_left Sd p2.symm))
    · show Sta K G H (putArgs (δ.set i (some x)) rs _) σ S2
      rw [putArgs_set hn.1]
      exact st2
theorem slots_lt : ∀ {rs : List AR} {δ : Dl} {xs : List OV}, argsOf δ rs = some xs → ∀ i ∈ slots rs, i < δ.length
  | [], _, _, _, i, hi => by simp [slots] at hi
  | .val x :: rs, δ, xs, e, i, hi => by
    simp only [argsOf, Option.map_eq_some_iff] at e
    obtain ⟨ys, e1, _⟩ := e
    exact slots_lt e1 i hi
  | .slt j :: rs, δ, xs, e, i, hi => by
    simp only [argsOf] at e
    split at e
    · rename_i x hx
      simp only [Option.map_eq_some_iff] at e
      obtain ⟨ys, e1, _⟩ := e
      rcases List.mem_cons.mp hi with rfl | hi
      · exact get_lt hx
      · exact slots_lt e1 i hi
    · cases e
/-- the heart of a call: the callee's promise over the arguments as they stand -/
theorem call_core {E : XK} {rs : List AR} {vs : List V} {xs : List OV} {σ : L2.St} {G H G1 H1 : Hp} {S Sx S1 : List Addr} {δ1 : Dl} {Φ : OV → Dl → Prop} {Q : VK} (e1 : Ext S G H G1 H1) (ok : ArsOk K G1 H1 σ rs vs Sx) (s1 : Sta K G1 H1 δ1 σ S1) (n1 : (Sx ++ S1).Nodup) (f1 : Frs S (Sx ++ S1) H)
    (ha : argsOf δ1 rs = some xs) (hn : (slots rs).Nodup) (hs : spec xs fun r xs' => Φ r (putArgs δ1 rs xs')) (k : ∀ v x δ' G' H' Sy S', Φ x δ' → PostE K S σ G H v x δ' G' H' Sy S' → Q v H') : toSp K spec vs H1 Q E := by
  obtain ⟨Sa, Sr, p, ow, st⟩ := ars_take ok s1 ha hn
  have np := nd_perm p n1
  refine ⟨G1, xs, Sa, _, e1.gh, ow, nd_left np, hs, fun v x xs' G2 H2 Sy S' a e2 o ow' n2 f2 => ?_⟩
  have kp : ∀ b ∈ Sr, H2 b = H1 b ∧ G2 b = none := e2.apart fun b hb => ⟨fun q => nd_dis np q hb, st.foot b hb⟩
  obtain ⟨Sd, S3, p3, st3⟩ := ars_put ok hn (slots_lt ha) (st.frame e2.gg kp) ow'
  have fa : Frs S Sa H := fun b hb => f1 b (p.mem_iff.mpr (List.mem_append_left _ hb))
  have nb : (Sy ++ (S' ++ Sr)).Nodup := by
    rw [← List.append_assoc]
    refine nd_app n2 (nd_right np) fun b hb q => ?_
    rcases f2 b hb with z | z
    · exact nd_dis np z q
    · exact (st.foot b q).1 z
  have nc := nd_perm (List.Perm.append_left Sy p3) nb
  refine k v x _ G2 H2 Sy S3 a ⟨e1.trans e2 fa, o, st3, ?_, fun b hb => ?_⟩
  · exact nd_app (nd_left nc) (nd_right (nd_right nc)) fun b hb q => nd_dis nc hb (List.mem_append_right _ q)
  · have : b ∈ Sy ++ (S' ++ Sr) := by
      rcases List.mem_append.mp hb with z | z
      · exact List.mem_append_left _ z
      · exact List.mem_append_right _ (p3.mem_iff.mpr (List.mem_append_right _ z))
    rw [← List.append_assoc] at this
    rcases List.mem_append.mp this with z | z
    · exact (fa.trans e1 f2) b z
    · exact f1 b (p.mem_iff.mpr (List.mem_append_right _ z))
theorem we_call {ta : TA} {E : XK} {Φ : OV → Dl → Prop} (h : WA K ta δ fun rs δ' => ∃ xs, argsOf δ' rs = some xs ∧ (slots rs).Nodup ∧ spec xs fun r xs' => Φ r (putArgs δ' rs xs')) : WE K (tCall (toSp K spec) [] E ta) δ Φ := fun σ G H S g s nd Q k =>
  h σ G H S g s nd _ fun vs rs δ1 G1 H1 Sx S1 a e1 ok s1 n1 f1 => by
    obtain ⟨xs, ha, hn, hs⟩ := a
    rw [List.append_nil]
    exact call_core e1 ok s1 n1 f1 ha hn hs k
/-- o.m(..), o a slot -/
theorem we_meth {C : Addr} {m : Str} {ta : TA} {E : XK} {i : Nat} {os : List (Str × OV)} {Φ : OV → Dl → Prop} (ho : δ[i]? = some (some (.obj C os))) (hm : os.lookup m = none) (h : WA K ta δ fun rs δ' => ∃ xs, argsOf δ' (.slt i :: rs) = some xs ∧ (slots (.slt i :: rs)).Nodup ∧ spec xs fun r xs' => Φ r (putArgs δ' (.slt i :: rs) xs')) :
    WE K (tMeth C m (toSp K spec) [] E (tVar i) ta) δ Φ := fun σ G H S g s nd Q k => by
  obtain ⟨v, Si, Sr, h1, h2, _⟩ := s.get ho
  cases h2 with
  | @obj a C dx fs os T hx ga hk t =>
    have hl : fs.lookup m = none := by
      cases z : fs.lookup m with
      | none => rfl
      | some v =>
        have key : ∀ {fs : List (Str × V)} {os : List (Str × OV)}, fs.map (·.1) = os.map (·.1) → os.lookup m = none → fs.lookup m = none := by
          intro fs
          induction fs with
          | nil => intro os _ _; rfl
          | cons p fs ih =>
            intro os hk hm
            cases os with
            | nil => simp at hk
            | cons q os =>
              obtain ⟨g1, x1⟩ := p
              obtain ⟨g2, x2⟩ := q
              have hg : g1 = g2 := by simpa using (List.cons.inj hk).1
              subst hg
              by_cases e : g1 = m
              · subst e; rw [lookup_eq] at hm; cases hm
              · rw [lookup_ne e] at hm ⊢
                exact ih (by simpa using (List.cons.inj hk).2) hm
        rw [key hk hm] at z; cases z
    refine ⟨_, h1, a, dx, fs, rfl, hx, hl, h σ G H S g s nd _ fun vs rs δ1 G1 H1 Sx S1 a' e1 ok s1 n1 f1 => ?_⟩
    obtain ⟨xs, ha, hn, hs⟩ := a'
    rw [List.append_nil]
    exact call_core e1 (.slt h1 ok) s1 n1 f1 ha hn hs k
/-- o.m(..), o an object that is data -/
theorem we_methD {C : Addr} {m : Str} {ta : TA} {E : XK} {fs : List (Str × D)} {Φ : OV → Dl → Prop} (ho : WP K te δ (.obj C fs)) (hm : fs.lookup m = none) (h : WA K ta δ fun rs δ' => ∃ xs, argsOf δ' rs = some xs ∧ (slots rs).Nodup ∧ spec (.dat (.obj C fs) :: xs) fun r xs' => Φ r (putArgs δ' rs xs'.tail)) :
    WE K (tMeth C m (toSp K spec) [] E te ta) δ Φ := fun σ G H S g s nd Q k =>
  ho σ G H S g s nd _ fun u G0 H0 e0 r0 => by
    cases r0 with
    | @obj a C dx fv ds hx hk ri =>
      have hl : fv.lookup m = none := by
        have key : ∀ {fs : List (Str × V)} {os : List (Str × D)}, fs.map (·.1) = os.map (·.1) → os.lookup m = none → fs.lookup m = none := by
          intro fs
          induction fs with
          | nil => intro os _ _; rfl
          | cons p fs ih =>
            intro os hk hm
            cases os with
            | nil => simp at hk
            | cons q os =>
              obtain ⟨g1, x1⟩ := p
              obtain ⟨g2, x2⟩ := q
              have hg : g1 = g2 := by simpa using (List.cons.inj hk).1
              subst hg
              by_cases e : g1 = m
              · subst e; rw [lookup_eq] at hm; cases hm
              · rw [lookup_ne e] at hm ⊢
                exact ih (by simpa using (List.cons.inj hk).2) hm
        exact key hk hm
      refine ⟨a, dx, fv, rfl, e0.gh _ _ hx, hl, h σ G0 H0 S e0.gh (s.ext e0) nd _ fun vs rs δ1 G1 H1 Sx S1 a' e1 ok s1 n1 f1 => ?_⟩
      obtain ⟨xs, ha, hn, hs⟩ := a'
      rw [List.append_nil]
      have f0 : Frs S (Sx ++ S1) H := Frs.trans (S1 := S) (T := []) Frs.refl e0 f1
      refine call_core (Φ := Φ) (rs := .val (.dat (.obj C fs)) :: rs) (xs := .dat (.obj C fs) :: xs) (Sx := [] ++ Sx) (e0.pure.trans e1 Frs.refl) (.val (.dat (.obj (dx := dx) (e1.gg _ _ hx) hk fun i v d h1 h2 => (ri i v d h1 h2).mono e1.gg)) ok) s1 (by simpa using n1) (by simpa using f0) (by simp [argsOf, ha]) hn ?_ k
      have : ∀ xs', putArgs δ1 (.val (.dat (.obj C fs)) :: rs) xs' = putArgs δ1 rs xs'.tail := by
        intro xs'
        cases xs' with
        | nil => cases rs with
          | nil => rfl
          | cons r rs => cases r <;> rfl
        | cons x xs' => rfl
      simp only [this]
      exact hs
/-- C(..) -/
theorem we_make {C : Addr} {ta : TA} {E : XK} {Φ : OV → Dl → Prop} (h : WA K ta δ fun rs δ' => ∃ xs, argsOf δ' rs = some xs ∧ (slots rs).Nodup ∧ spec (.obj C [] :: xs) fun r xs' => r = .dat .non ∧ ∃ x' xs'', xs' = x' :: xs'' ∧ Φ x' (putArgs δ' rs xs'')) :
    WE K (tMake C (toSp K spec) [] E ta) δ Φ := fun σ G H S g s nd Q k =>
  h σ G H S g s nd _ fun vs rs δ1 G1 H1 Sx S1 a e1 ok s1 n1 f1 => by
    obtain ⟨xs, ha, hn, hs⟩ := a
    intro x dx nx ndx nex
    rw [List.append_nil]
    obtain ⟨Sa, Sr, p, ow, st⟩ := ars_take ok s1 ha hn
    have np := nd_perm p n1
    have eA : Ext [] G1 H1 G1 (upd H1 dx (.own x)) := Ext.newO e1.gh ndx
    have nx2 : upd H1 dx (.own x) x = none := by rw [upd_ne (Ne.symm nex)]; exact nx
    have eB : Ext [] G1 (upd H1 dx (.own x)) G1 (upd (upd H1 dx (.own x)) x (.ins C dx [])) := Ext.newO eA.gh nx2
    have eC := eA.tr0 eB
    have xa : x ∉ Sa := fun q => (ow.foot x q).1 nx
    have xr : x ∉ Sr := fun q => (st.foot x q).1 nx
    have owx : OwnL K G1 (upd (upd H1 dx (.own x)) x (.ins C dx [])) (.obj C [] :: xs) (.ref x :: vs) (([x] : List Addr) ++ Sa) := .cons (.obj (S := []) upd_same (e1.gh.free nx) rfl .nil) (ow.ext eC)
    refine ⟨G1, _, [x] ++ Sa, _, eC.gh, owx, nd_app (by simp) (nd_left np) (fun b hb => by
      have : b = x := by simpa using hb
      subst this; exact xa), hs, fun v r xs' G2 H2 Sy S' a e2 o ow' n2 f2 => ?_⟩
    obtain ⟨rfl, x', xs'', rfl, a⟩ := a
    cases o with
    | dat rr =>
      cases rr
      refine ⟨rfl, ?_⟩
      cases ow' with
      | @cons _ _ _ _ S5 T5 ox ow5 =>
        have st2 := st.ext eC
        have kp : ∀ b ∈ Sr, H2 b = (upd (upd H1 dx (.own x)) x (.ins C dx [])) b ∧ G2 b = none := e2.apart fun b hb => ⟨fun q => by
          rcases List.mem_append.mp q with q | q
          · have : b = x := by simpa using q
            subst this; exact xr hb
          · exact nd_dis np q hb, st2.foot b hb⟩
        obtain ⟨Sd, S3, p3, st3⟩ := ars_put ok hn (slots_lt ha) (st2.frame e2.gg kp) ow5
        have fa : Frs S Sa H := fun b hb => f1 b (p.mem_iff.mpr (List.mem_append_left _ hb))
        have E1 : Ext S G H G1 (upd (upd H1 dx (.own x)) x (.ins C dx [])) := e1.trans eC noF
        have fx : Frs S (([x] : List Addr) ++ Sa) H := fun b hb => by
          rcases List.mem_append.mp hb with q | q
          · have : b = x := by simpa using q
            subst this
            exact .inr (back_none e1 nx)
          · exact fa b q
        have nb : (S5 ++ (T5 ++ Sr)).Nodup := by
          rw [← List.append_assoc]
          refine nd_app (nd_right n2) (nd_right np) fun b hb q => ?_
          rcases f2 b (List.mem_append_right _ hb) with z | z
          · rcases List.mem_append.mp z with z | z
            · have : b = x := by simpa using z
              subst this; exact xr q
            · exact nd_dis np z q
          · exact (st2.foot b q).1 z
        have nc := nd_perm (List.Perm.append_left S5 p3) nb
        refine k _ x' _ G2 H2 S5 S3 a ⟨E1.trans e2 fx, ox, st3, ?_, fun b hb => ?_⟩
        · exact nd_app (nd_left nc) (nd_right (nd_right nc)) fun b hb q => nd_dis nc hb (List.mem_append_right _ q)
        · have : b ∈ S5 ++ (T5 ++ Sr) := by
            rcases List.mem_append.mp hb with z | z
            · exact List.mem_append_left _ z
            · exact List.mem_append_right _ (p3.mem_iff.mpr (List.mem_append_right _ z))
          rw [← List.append_assoc] at this
          rcases List.mem_append.mp this with z | z
          · exact (fx.trans E1 f2) b (List.mem_append_right _ z)
          · exact f1 b (p.mem_iff.mpr (List.mem_append_right _ z))
/-! ### a def's body keeps its promise -/
theorem body_of {spec : FS} {t : TS} {N : List Str} {np : Nat} (h : ∀ xs Φ, spec xs Φ → xs.length = np ∧ WS K (List.range np) t (xs.map some ++ List.replicate (N.length - np) none)
      { nx := fun δ' => ∃ xs', δ'.take np = xs'.map some ∧ Φ (.dat .non) xs', rt := fun x δ' => ∃ xs', δ'.take np = xs'.map some ∧ Φ x xs' }) :
    ∀ vs H Q E, toSp K spec vs H Q E → t { nx := fun _ H' => Q .non H', rt := Q } (L2.start N vs) H := by
  rintro vs H Q E ⟨G, xs, S, Φ, g, ow, nd, hs, k⟩
  obtain ⟨hl, w⟩ := h xs Φ hs
  have hvl := ow.len
  have st : ∀ {xs : List OV} {vs : List V} {S : List Addr} (m : Nat), OwnL K G H xs vs S → Sta K G H (xs.map some ++ List.replicate m none) (vs.map some ++ List.replicate m none) S := by
    intro xs
    induction xs with
    | nil =>
      intro vs S m o
      cases o
      induction m with
      | zero => exact .nil
      | succ m ih => exact .un (by simpa using ih)
    | cons x xs ih =>
      intro vs S m o
      cases o with
      | cons o1 o2 => exact .sl o1 (ih m o2)
  have s0 : Sta K G H (xs.map some ++ List.replicate (N.length - np) none) (L2.start N vs) S := by
    have := st (N.length - np) ow
    unfold L2.start
    rw [show N.length - vs.length = N.length - np by rw [hvl, hl]]
    exact this
  have back : ∀ {δ' : Dl} {σ' : L2.St} {G' H' : Hp} {S' : List Addr} {xs' : List OV}, Sta K G' H' δ' σ' S' → δ'.take np = xs'.map some → (∀ i ∈ List.range np, σ'[i]? = (L2.start N vs)[i]?) → ∃ Sa Sd, S'.Perm (Sa ++ Sd) ∧ OwnL K G' H' xs' vs Sa := by
    intro δ' σ' G' H' S' xs' s' e pp
    have hx : xs'.length = np ∨ δ'.length < np := by
      have := congrArg List.length e
      rw [List.length_take, List.length_map] at this
      omega
    have key : ∀ {xs' : List OV} {vs : List V} {δ' : Dl} {σ' : L2.St} {S' : List Addr}, Sta K G' H' δ' σ' S' → xs'.map some = δ'.take xs'.length → vs.length = xs'.length → (∀ i, i < xs'.length → σ'[i]? = (vs.map some)[i]?) → ∃ Sa Sd, S'.Perm (Sa ++ Sd) ∧ OwnL K G' H' xs' vs Sa := by
      intro xs'
      induction xs' with
      | nil =>
        intro vs δ' σ' S' s _ hl _
        have : vs = [] := List.eq_nil_of_length_eq_zero (by simpa using hl)
        subst this
        exact ⟨[], S', List.Perm.refl _, .nil⟩
      | cons x xs' ih =>
        intro vs δ' σ' S' s e hl pp
        cases vs with
        | nil => simp at hl
        | cons v vs =>
          cases s with
          | nil => simp at e
          | un s => simp at e
          | @sl y w δ σ S T o s =>
            have e' : x = y ∧ xs'.map some = δ.take xs'.length := by simpa using e
            obtain ⟨rfl, e2⟩ := e'
            have hw : w = v := by
              have := pp 0 (by simp)
              simpa using this
            subst hw
            obtain ⟨Sa, Sd, p, ow⟩ := ih s e2 (by simpa using hl) fun i hi => by
              have := pp (i + 1) (by simpa using hi)
              simpa using this
            exact ⟨S ++ Sa, Sd, by rw [List.append_assoc]; exact List.Perm.append_left S p, .cons o ow⟩
    have hsl := s'.length
    have hge : xs'.length = np := by
      rcases hx with h | h
      · exact h
      · exfalso
        have := pp (np - 1) (List.mem_range.mpr (by omega))
        rw [List.getElem?_eq_none (by omega)] at this
        have h2 : np - 1 < (L2.start N vs).length := by
          unfold L2.start
          rw [List.length_append, List.length_map]
          omega
        rw [List.getElem?_eq_getElem h2] at this
        cases this
    refine key s' (by rw [hge]; exact e.symm) (by omega) fun i hi => ?_
    rw [pp i (List.mem_range.mpr (by omega))]
    unfold L2.start
    rw [List.getElem?_append_left (by rw [List.length_map]; omega)]
  refine w _ G H S g s0 nd _ (fun δ' σ' G' H' S' a p => ?_) (fun v x δ' σ' G' H' Sx S' a p => ?_) (fun _ _ _ _ _ a _ => a.elim) (fun _ _ _ _ _ a _ => a.elim)
  · obtain ⟨xs', e, a⟩ := a
    obtain ⟨Sa, Sd, pp, ow'⟩ := back p.s e p.p
    refine k .non _ xs' G' H' [] Sa a p.e (.dat .non) ow' (by simpa using nd_left (nd_perm pp p.n)) fun b hb => p.f b (pp.mem_iff.mpr (List.mem_append_left _ (by simpa using hb)))
  · obtain ⟨xs', e, a⟩ := a
    obtain ⟨Sa, Sd, pp, ow'⟩ := back p.s e p.p
    have n2 : (Sx ++ (Sa ++ Sd)).Nodup := nd_perm (List.Perm.append_left Sx pp) p.n
    refine k v x xs' G' H' Sx Sa a p.e p.o ow' ?_ fun b hb => p.f b ?_
    · rw [← List.append_assoc] at n2
      exact nd_left n2
    · rcases List.mem_append.mp hb with z | z
      · exact List.mem_append_left _ z
      · exact List.mem_append_right _ (pp.mem_iff.mpr (List.mem_append_left _ z))
theorem sp_len {spec : FS} {np : Nat} (h : ∀ xs Φ, spec xs Φ → xs.length = np) : ∀ vs H Q E, toSp K spec vs H Q E → vs.length = np := by
  rintro vs H Q E ⟨G, xs, S, Φ, g, ow, nd, hs, k⟩
  rw [ow.len, h xs Φ hs]
end
end Pw
namespace Pw
open PySem PySem.Spec L2
section
variable {K : PySem.W.Frag} {P : List Nat} {δ : Dl} {ta tb te to ti tv : TE} {t u : TT} {ts t1 t2 : TS} {n m : Nat} {spec : FS}
/-! ### with effects -/
theorem Own.datR {G H : Hp} {d : D} {v : V} {S : List Addr} (o : Own K G H (.dat d) v S) : Rep K G v d ∧ S = [] := by
  cases o with
  | dat r => exact ⟨r, rfl⟩
theorem we_op {r : R2} {Φ : OV → Dl → Prop} (h : WE K ta δ fun x δ1 => ∃ d, x = .dat d ∧ WE K tb δ1 fun y δ2 => ∃ e, y = .dat e ∧ ∃ z, RP K r d e z ∧ Φ (.dat z) δ2) : WE K (tOp r ta tb) δ Φ := fun σ G H S g s nd Q k =>
  h σ G H S g s nd _ fun v x δ1 G1 H1 Sx S1 a p => by
    obtain ⟨d, rfl, a⟩ := a
    obtain ⟨r1, rfl⟩ := p.o.datR
    have f1 : Frs S S1 H := fun b hb => p.f b (by simpa using hb)
    refine a σ G1 H1 S1 p.e.gh p.s (by simpa using p.n) _ fun u y δ2 G2 H2 Sy S2 b p2 => ?_
    obtain ⟨e, rfl, z, hr, q⟩ := b
    obtain ⟨r2, rfl⟩ := p2.o.datR
    have f2 : Frs S S2 H := fun b hb => (f1.trans p.e p2.f) b (by simpa using hb)
    refine hr G2 H2 v u p2.e.gh (r1.mono p2.e.gg) r2 Q fun w G3 H3 e3 r3 => ?_
    exact k w _ δ2 G3 H3 [] S2 q ⟨(p.e.trans p2.e f1).trans e3.pure f2, .dat r3, p2.s.ext e3, by simpa using p2.n, by simpa using f2⟩
theorem wtE_test {Φ : Bool → Dl → Prop} (h : WE K te δ fun x δ' => ∃ b, x = .dat (.bl b) ∧ Φ b δ') : WT K (tTest te) δ Φ := fun σ G H S g s nd Q k =>
  h σ G H S g s nd _ fun v x δ1 G1 H1 Sx S1 a p => by
    obtain ⟨b, rfl, a⟩ := a
    obtain ⟨r1, rfl⟩ := p.o.datR
    cases r1
    exact ⟨b, rfl, k b δ1 G1 H1 S1 a ⟨p.e, p.s, by simpa using p.n, fun b hb => p.f b (by simpa using hb)⟩⟩
theorem wtE_and {Φ : Bool → Dl → Prop} (h : WT K t δ fun b δ' => if b = true then WT K u δ' Φ else Φ false δ') : WT K (tAnd t u) δ Φ := fun σ G H S g s nd Q k =>
  h σ G H S g s nd _ fun b δ1 G1 H1 S1 a p => by
    cases b with
    | true =>
      have a' : WT K u δ1 Φ := by simpa using a
      exact iteT (a' σ G1 H1 S1 p.e.gh p.s p.n Q fun b δ2 G2 H2 S2 c q => k b δ2 G2 H2 S2 c ⟨p.e.trans q.e p.f, q.s, q.n, p.f.trans p.e q.f⟩)
    | false => exact iteF (k false δ1 G1 H1 S1 (by simpa using a) p)
theorem wtE_or {Φ : Bool → Dl → Prop} (h : WT K t δ fun b δ' => if b = true then Φ true δ' else WT K u δ' Φ) : WT K (tOr t u) δ Φ := fun σ G H S g s nd Q k =>
  h σ G H S g s nd _ fun b δ1 G1 H1 S1 a p => by
    cases b with
    | true => exact iteT (k true δ1 G1 H1 S1 (by simpa using a) p)
    | false =>
      have a' : WT K u δ1 Φ := by simpa using a
      exact iteF (a' σ G1 H1 S1 p.e.gh p.s p.n Q fun b δ2 G2 H2 S2 c q => k b δ2 G2 H2 S2 c ⟨p.e.trans q.e p.f, q.s, q.n, p.f.trans p.e q.f⟩)
theorem we_ifE {Φ : OV → Dl → Prop} (h : WT K t δ fun b δ' => if b = true then WE K ta δ' Φ else WE K tb δ' Φ) : WE K (tIf t ta tb) δ Φ := fun σ G H S g s nd Q k =>
  h σ G H S g s nd _ fun b δ1 G1 H1 S1 a p => by
    have go : ∀ {te : TE}, WE K te δ1 Φ → te σ H1 Q := fun w => w σ G1 H1 S1 p.e.gh p.s p.n Q fun v x δ2 G2 H2 Sx S2 c q => k v x δ2 G2 H2 Sx S2 c ⟨p.e.trans q.e p.f, q.o, q.s, q.n, p.f.trans p.e q.f⟩
    cases b with
    | true => exact iteT (go (by simpa using a))
    | false => exact iteF (go (by simpa using a))
/-- values of the arguments that are data -/
def datA (ds : List D) : List AR := ds.map fun d => .val (.dat d)
theorem arsDat {G H : Hp} {σ : L2.St} : ∀ {ds : List D} {vs : List V} {S : List Addr}, ArsOk K G H σ (datA ds) vs S → RepL K G vs ds ∧ S = []
  | [], _, _, .nil => ⟨.nil, rfl⟩
  | d :: ds, _, _, .val o t => by
    obtain ⟨h1, h2⟩ := arsDat t
    obtain ⟨h3, h4⟩ := o.datR
    exact ⟨.cons h3 h1, by rw [h2, h4]; rfl⟩
def valA (xs : List OV) : List AR := xs.map AR.val
theorem arsVal {G H : Hp} {σ : L2.St} : ∀ {xs : List OV} {vs : List V} {S : List Addr}, ArsOk K G H σ (valA xs) vs S → OwnL K G H xs vs S
  | [], _, _, .nil => .nil
  | x :: xs, _, _, .val o t => .cons o (arsVal t)
theorem we_cb {r : List V → Hp → VK → Prop} {ta : TA} {Φ : OV → Dl → Prop} (h : WA K ta δ fun rs δ' => ∃ ds, rs = datA ds ∧ ∃ z, CP K r ds z ∧ Φ (.dat z) δ') : WE K (tCB r ta) δ Φ := fun σ G H S g s nd Q k =>
  h σ G H S g s nd _ fun vs rs δ1 G1 H1 Sx S1 a e1 ok s1 n1 f1 => by
    obtain ⟨ds, rfl, z, hr, q⟩ := a
    obtain ⟨r1, rfl⟩ := arsDat ok
    have f1' : Frs S S1 H := fun b hb => f1 b (by simpa using hb)
    exact hr G1 H1 vs e1.gh r1 Q fun w G2 H2 e2 r2 => k w _ δ1 G2 H2 [] S1 q ⟨e1.trans e2.pure f1', .dat r2, s1.ext e2, by simpa using n1, by simpa using f1'⟩
theorem we_tup {ta : TA} {Φ : OV → Dl → Prop} (h : WA K ta δ fun rs δ' => ∃ ds, rs = datA ds ∧ ds.length ≤ 1000 ∧ Φ (.dat (.tup ds)) δ') : WE K (tTup ta) δ Φ := fun σ G H S g s nd Q k =>
  h σ G H S g s nd _ fun vs rs δ1 G1 H1 Sx S1 a e1 ok s1 n1 f1 => by
    obtain ⟨ds, rfl, hl, q⟩ := a
    obtain ⟨r1, rfl⟩ := arsDat ok
    have f1' : Frs S S1 H := fun b hb => f1 b (by simpa using hb)
    refine ⟨by rw [r1.len]; exact Nat.le_trans hl (by decide), fun p hp => ?_⟩
    have e := Ext.newD (o := .tup vs) e1.gh hp
    exact k _ _ δ1 _ _ [] S1 q ⟨e1.trans e.pure f1', .dat (.tup upd_same r1.len fun i v d h1 h2 => (r1.at_ i v d h1 h2).mono e.gg), s1.ext e, by simpa using n1, by simpa using f1'⟩
theorem we_lst {ta : TA} {Φ : OV → Dl → Prop} (h : WA K ta δ fun rs δ' => ∃ xs, rs = valA xs ∧ xs.length ≤ 1000 ∧ Φ (.lst xs) δ') : WE K (tLst ta) δ Φ := fun σ G H S g s nd Q k =>
  h σ G H S g s nd _ fun vs rs δ1 G1 H1 Sx S1 a e1 ok s1 n1 f1 => by
    obtain ⟨xs, rfl, hl, q⟩ := a
    have ow := arsVal ok
    refine ⟨by rw [ow.len]; exact Nat.le_trans hl (by decide), fun p hp => ?_⟩
    have e := Ext.newO (o := .lst vs) e1.gh hp
    have fs : Frs S S1 H := fun b hb => f1 b (List.mem_append_right _ hb)
    have np : p ∉ Sx ++ S1 := fun q => by
      rcases List.mem_append.mp q with z | z
      · exact (ow.foot p z).1 hp
      · exact (s1.foot p z).1 hp
    refine k _ _ δ1 _ _ (p :: Sx) S1 q ⟨e1.trans e noF, .lst upd_same (e1.gh.free hp) (ow.ext e), s1.ext e, ?_, fun b hb => ?_⟩
    · exact List.nodup_cons.mpr ⟨np, n1⟩
    · rcases List.mem_cons.mp hb with rfl | hb
      · exact .inr (back_none e1 hp)
      · exact f1 b hb
/-- an effectful list frozen at once, items data -/
theorem we_lstD {ta : TA} {Φ : OV → Dl → Prop} (h : WA K ta δ fun rs δ' => ∃ ds, rs = datA ds ∧ ds.length ≤ 1000 ∧ Φ (.dat (.lst ds)) δ') : WE K (tLst ta) δ Φ := fun σ G H S g s nd Q k =>
  h σ G H S g s nd _ fun vs rs δ1 G1 H1 Sx S1 a e1 ok s1 n1 f1 => by
    obtain ⟨ds, rfl, hl, q⟩ := a
    obtain ⟨r1, rfl⟩ := arsDat ok
    have f1' : Frs S S1 H := fun b hb => f1 b (by simpa using hb)
    refine ⟨by rw [r1.len]; exact Nat.le_trans hl (by decide), fun p hp => ?_⟩
    have e := Ext.newD (o := .lst vs) e1.gh hp
    exact k _ _ δ1 _ _ [] S1 q ⟨e1.trans e.pure f1', .dat (.lst upd_same r1.len fun i v d h1 h2 => (r1.at_ i v d h1 h2).mono e.gg), s1.ext e, by simpa using n1, by simpa using f1'⟩
/-- the slots of a block set back -/
def unset (δ : Dl) : List Nat → Dl
  | [] => δ
  | v :: vs => (unset δ vs).set v none
theorem Sta.unset {G H : Hp} {σ : L2.St} {S : List Addr} (s : Sta K G H δ σ S) : ∀ (vs : List Nat), ∃ Sd Sr, S.Perm (Sd ++ Sr) ∧ Sta K G H (unset δ vs) (L2.wipe σ vs) Sr
  | [] => ⟨[], S, List.Perm.refl _, s⟩
  | v :: vs => by
    obtain ⟨Sd, Sr, p, s1⟩ := s.unset vs
    obtain ⟨Se, Sq, p2, s2⟩ := s1.drop v
    refine ⟨Sd ++ Se, Sq, by rw [List.append_assoc]; exact p.trans (List.Perm.append_left Sd p2), ?_⟩
    by_cases hl : v < (Pw.unset δ vs).length
    · exact s2.wild (w := none) (by rw [List.getElem?_set_self hl])
    · have h1 : (Pw.unset δ vs).set v none = Pw.unset δ vs := List.set_eq_of_length_le (by omega)
      have hlen := s1.length
      have h2 : (L2.wipe σ vs).set v none = L2.wipe σ vs := List.set_eq_of_length_le (by omega)
      show Sta K G H ((Pw.unset δ vs).set v none) ((L2.wipe σ vs).set v none) Sq
      rw [h2]
      exact s2
theorem Sta.unwipe {G H : Hp} {σ : L2.St} {S : List Addr} : ∀ {vs : List Nat}, Sta K G H δ (L2.wipe σ vs) S → (∀ v ∈ vs, δ[v]? = some none) → Sta K G H δ σ S
  | [], s, _ => s
  | v :: vs, s, h => by
    have hv := h v List.mem_cons_self
    refine Sta.unwipe (vs := vs) ?_ fun w hw => h w (List.mem_cons_of_mem _ hw)
    have s2 := s.wild (w := ((L2.wipe σ vs)[v]?).getD none) hv
    have e : ((L2.wipe σ (v :: vs)).set v (((L2.wipe σ vs)[v]?).getD none)) = L2.wipe σ vs := by
      show (((L2.wipe σ vs).set v none).set v _) = _
      rw [List.set_set]
      by_cases hl : v < (L2.wipe σ vs).length
      · rw [List.getElem?_eq_getElem hl]
        exact set_some (by rw [List.getElem?_eq_getElem hl]; rfl)
      · exact List.set_eq_of_length_le (by omega)
    rw [e] at s2
    exact s2
theorem unset_get {vs : List Nat} {v : Nat} (h : v ∈ vs) (hl : v < δ.length) : (unset δ vs)[v]? = some none := by
  have ln : ∀ vs : List Nat, (unset δ vs).length = δ.length := by
    intro vs
    induction vs with
    | nil => rfl
    | cons w ws ih => show ((unset δ ws).set w none).length = _; rw [List.length_set, ih]
  induction vs with
  | nil => simp at h
  | cons w ws ih =>
    show ((unset δ ws).set w none)[v]? = some none
    by_cases e : w = v
    · subst e; rw [List.getElem?_set_self (by rw [ln]; exact hl)]
    · rw [List.getElem?_set_ne e]
      rcases List.mem_cons.mp h with z | z
      · exact absurd z.symm e
      · exact ih z
theorem unset_len {vs : List Nat} : (unset δ vs).length = δ.length := by
  induction vs with
  | nil => rfl
  | cons w ws ih => show ((unset δ ws).set w none).length = _; rw [List.length_set, ih]
/-- a comprehension with effects: acc the items made so far -/
theorem we_lc {wi : TI} {g : TG} {tt : TT} {vs : List Nat} {ds : List D} {Φ : OV → Dl → Prop} (h : WI K wi δ ds) (hl : ds.length ≤ 1000000) (I : Nat → List OV → Dl → Prop) (h0 : I 0 [] δ) (hI : ∀ i acc δ', I i acc δ' → δ'.length = δ.length ∧ ∀ v ∈ vs, δ'[v]? = some none)
    (hs : ∀ i d acc δ', ds[i]? = some d → I i acc δ' → WC K vs g d δ' fun δ1 => WT K tt δ1 fun b δ2 => if b = true then WE K te δ2 fun y δ3 => I (i + 1) (acc ++ [y]) (unset δ3 vs) else I (i + 1) acc (unset δ2 vs))
    (hd : ∀ acc δ', I ds.length acc δ' → Φ (.lst acc) δ') : WE K (tLc wi g tt te vs) δ Φ := fun σ G H S gg s nd Q k =>
  h σ G H S gg s nd _ fun J G0 H0 e0 ok Dd hD => by
    have hD0 : H Dd = none := back_none e0 hD
    have eN : Ext [] G0 H0 G0 (upd H0 Dd (.lst [])) := Ext.newO e0.gh hD
    have s0 := s.ext (e0.tr0 eN)
    have DS : Dd ∉ S := fun q => (s.foot Dd q).1 hD0
    refine ⟨fun i m H1 => ∃ G1 ws acc δ1 Sa S1, m = ds.length - i ∧ i ≤ ds.length ∧ acc.length ≤ i ∧ I i acc δ1 ∧ Ext S G H G1 H1 ∧ Same G0 G1 ∧ G1 Dd = none ∧ H1 Dd = some (.lst ws) ∧ OwnL K G1 H1 acc ws Sa ∧ Sta K G1 H1 δ1 σ S1 ∧ (Dd :: Sa ++ S1).Nodup ∧ Frs S (Sa ++ S1) H,
      ⟨ds.length, G0, [], [], δ, [], S, by simp, Nat.zero_le _, Nat.le_refl _, h0, (e0.tr0 eN).pure, Same.refl _, e0.gh.free hD, upd_same, .nil, s0, by simpa using ⟨DS, nd⟩, by simpa using Frs.refl⟩, ?_⟩
    rintro i m H1 ⟨G1, ws, acc, δ1, Sa, S1, rfl, hi, hacc, i1, E1, g01, gD, hDw, ow, st, n1, f1⟩
    have n1' : (Sa ++ S1).Nodup := (List.nodup_cons.mp n1).2
    have D1 : Dd ∉ Sa ++ S1 := (List.nodup_cons.mp n1).1
    by_cases hlt : i < ds.length
    · refine .inr ⟨ok.go i H1 (g01.trans E1.gh) hlt, _, fun _ x => x, fun x H2 y => ?_⟩
      obtain ⟨d, G2, hd2, e2, r2⟩ := ok.yld i G1 H1 x H2 g01 E1.gh hlt y
      obtain ⟨l1, l2⟩ := hI i acc δ1 i1
      have st2 := (st.ext e2).wipe l2
      have ow2 := ow.ext e2
      have fS1 : Frs S S1 H := fun b hb => f1 b (List.mem_append_right _ hb)
      have E2 : Ext S G H G2 H2 := E1.trans e2 noF
      have hD2 : H2 Dd = some (.lst ws) := e2.kp _ _ (by simp) hDw
      have gD2 : G2 Dd = none := by rw [e2.fr Dd (by simp) (by rw [hDw]; simp)]; exact gD
      refine hs i d acc δ1 hd2 i1 (L2.wipe σ vs) G2 H2 S1 x e2.gh st2 (nd_right n1') r2 _ fun σ' δ' q s' e' => ⟨?_, ?_⟩
      · rw [e']
        have := @wipe_set
        clear this
        have ww : ∀ (us : List Nat), (∀ v ∈ us, v ∈ vs) → L2.wipe (L2.wipe σ vs) us = L2.wipe σ vs := by
          intro us
          induction us with
          | nil => intro _; rfl
          | cons u us ih =>
            intro hs
            show (L2.wipe (L2.wipe σ vs) us).set u none = L2.wipe σ vs
            rw [ih fun v hv => hs v (List.mem_cons_of_mem _ hv)]
            have hu : u ∈ vs := hs u List.mem_cons_self
            apply List.ext_getElem?
            intro j
            by_cases e : u = j
            · subst e
              by_cases hl : u < (L2.wipe σ vs).length
              · rw [List.getElem?_set_self hl]
                cases z : (L2.wipe σ vs)[u]? with
                | none => rw [List.getElem?_eq_none_iff] at z; omega
                | some o =>
                  cases o with
                  | none => rfl
                  | some v0 => exact absurd hu (wipe_some z).2
              · rw [List.getElem?_eq_none (by simp; omega), List.getElem?_eq_none (by omega)]
            · rw [List.getElem?_set_ne e]
        exact ww vs fun _ h => h
      · have e'' : L2.wipe σ' vs = L2.wipe σ vs := by
          rw [e']
          have ww : ∀ (us : List Nat), (∀ v ∈ us, v ∈ vs) → L2.wipe (L2.wipe σ vs) us = L2.wipe σ vs := by
            intro us
            induction us with
            | nil => intro _; rfl
            | cons u us ih =>
              intro hs
              show (L2.wipe (L2.wipe σ vs) us).set u none = L2.wipe σ vs
              rw [ih fun v hv => hs v (List.mem_cons_of_mem _ hv)]
              have hu : u ∈ vs := hs u List.mem_cons_self
              apply List.ext_getElem?
              intro j
              by_cases e : u = j
              · subst e
                by_cases hl : u < (L2.wipe σ vs).length
                · rw [List.getElem?_set_self hl]
                  cases z : (L2.wipe σ vs)[u]? with
                  | none => rw [List.getElem?_eq_none_iff] at z; omega
                  | some o =>
                    cases o with
                    | none => rfl
                    | some v0 => exact absurd hu (wipe_some z).2
                · rw [List.getElem?_eq_none (by simp; omega), List.getElem?_eq_none (by omega)]
              · rw [List.getElem?_set_ne e]
          exact ww vs fun _ h => h
        refine q σ' G2 H2 S1 e2.gh s' (nd_right n1') _ fun b δ2 G3 H3 S3 a p3 => ?_
        have apart3 : ∀ c ∈ Dd :: Sa, c ∉ S1 ∧ H2 c ≠ none ∧ G2 c = none := fun c hc => by
          rcases List.mem_cons.mp hc with rfl | hc
          · exact ⟨fun z => D1 (List.mem_append_right _ z), by rw [hD2]; simp, gD2⟩
          · exact ⟨nd_dis n1' hc, ow2.foot c hc⟩
        have k3 := p3.e.apart apart3
        have hD3 : H3 Dd = some (.lst ws) := by rw [(k3 Dd (by simp)).1]; exact hD2
        have gD3 : G3 Dd = none := (k3 Dd (by simp)).2
        have ow3 := ow2.frame p3.e.gg fun c hc => k3 c (List.mem_cons_of_mem _ hc)
        have E3 := E2.trans p3.e fS1
        have f3 : Frs S S3 H := fS1.trans E2 p3.f
        have g03 := (g01.trans e2.gg).trans p3.e.gg
        have dis3 : ∀ c ∈ S3, c ∉ Dd :: Sa := fun c hc z => by
          rcases p3.f c hc with w | w
          · exact (apart3 c z).1 w
          · exact (apart3 c z).2.1 w
        have fa : Frs S Sa H := fun c hc => f1 c (List.mem_append_left _ hc)
        -- back to the state around
        have home : ∀ {δ3 : Dl} {G4 H4 : Hp} {S4 : List Addr}, Sta K G4 H4 δ3 σ' S4 → S4.Nodup → δ3.length = δ.length → ∃ Sd Sr, S4.Perm (Sd ++ Sr) ∧ Sta K G4 H4 (unset δ3 vs) σ Sr := by
          intro δ3 G4 H4 S4 s4 n4 l4
          obtain ⟨Sd, Sr, pp, s5⟩ := s4.unset vs
          rw [e''] at s5
          exact ⟨Sd, Sr, pp, s5.unwipe fun v hv => unset_get hv (by
            have := l2 v hv
            have := get_lt this
            omega)⟩
        have len3 : δ2.length = δ.length := by
          have h1 := p3.s.length
          have h2 := s.length
          have h3 : σ'.length = σ.length := by
            have := congrArg List.length e''
            simpa [wipe_length] using this
          omega
        cases b with
        | true =>
          have a' : WE K te δ2 fun y δ3 => I (i + 1) (acc ++ [y]) (unset δ3 vs) := by simpa using a
          refine iteT (a' σ' G3 H3 S3 p3.e.gh p3.s p3.n _ fun v y δ3 G4 H4 Sy S4 i4 p4 => ?_)
          have apart4 : ∀ c ∈ Dd :: Sa, c ∉ S3 ∧ H3 c ≠ none ∧ G3 c = none := fun c hc => ⟨fun z => dis3 c z hc, by
            rcases List.mem_cons.mp hc with rfl | hc
            · rw [hD3]; simp
            · exact (ow3.foot c hc).1, (k3 c hc).2⟩
          have k4 := p4.e.apart apart4
          have hD4 : H4 Dd = some (.lst ws) := by rw [(k4 Dd (by simp)).1]; exact hD3
          have gD4 : G4 Dd = none := (k4 Dd (by simp)).2
          have ow4 := ow3.frame p4.e.gg fun c hc => k4 c (List.mem_cons_of_mem _ hc)
          have E4 := E3.trans p4.e f3
          have f4 : Frs S (Sy ++ S4) H := f3.trans E3 p4.f
          have len4 : δ3.length = δ.length := by
            have h1 := p4.s.length
            have h2 := p3.s.length
            omega
          obtain ⟨Sd, Sr, pp, s5⟩ := home p4.s (nd_right p4.n) len4
          have dis4 : ∀ c ∈ Sy ++ S4, c ∉ Dd :: Sa := fun c hc z => by
            rcases p4.f c hc with w | w
            · exact (apart4 c z).1 w
            · exact (apart4 c z).2.1 w
          have DSy : Dd ∉ Sy := fun z => dis4 Dd (List.mem_append_left _ z) (by simp)
          have DSr : Dd ∉ Sr := fun z => dis4 Dd (List.mem_append_right _ (pp.mem_iff.mpr (List.mem_append_right _ z))) (by simp)
          have DSa : Dd ∉ Sa := fun z => D1 (List.mem_append_left _ z)
          have fr : ∀ {X : List Addr}, Dd ∉ X → (∀ c ∈ X, G4 c = none) → ∀ c ∈ X, upd H4 Dd (.lst (ws ++ [v])) c = H4 c ∧ G4 c = none := fun hx hg c hc => ⟨upd_ne fun z => hx (z ▸ hc), hg c hc⟩
          refine ⟨ws, hD4, Nat.lt_of_lt_of_le (show ws.length < 1000000 by rw [ow.len]; omega) (by decide), ds.length - (i + 1), by omega, G4, ws ++ [v], acc ++ [y], unset δ3 vs, Sa ++ Sy, Sr, rfl, hlt, by simp; omega, i4, ?_, g03.trans p4.e.gg, gD4, upd_same, ?_, ?_, ?_, ?_⟩
          · refine ⟨E4.gg, fun b o hb => ?_, fun b o hS hb => ?_, fun b hb => ?_, E4.fr⟩
            · rw [upd_ne (ne_of_none hb gD4)]; exact E4.gh b o hb
            · rw [upd_ne (ne_of_none hb hD0)]; exact E4.kp b o hS hb
            · by_cases w : b = Dd
              · subst w; rw [upd_same]; simp
              · rw [upd_ne w]; exact E4.dm b hb
          · exact (ow4.frame (Same.refl G4) (fr DSa fun c hc => (ow4.foot c hc).2)).app (OwnL.one (p4.o.frame (Same.refl G4) (fr DSy fun c hc => (p4.o.foot c hc).2)))
          · exact s5.frame (Same.refl G4) (fr DSr fun c hc => (s5.foot c hc).2)
          · have n5 : (Sy ++ Sr).Nodup := by
              have := nd_perm (List.Perm.append_left Sy pp) p4.n
              exact nd_app (nd_left this) (nd_right (nd_right this)) fun c hc z => nd_dis this hc (List.mem_append_right _ z)
            have sub : ∀ c ∈ Sy ++ Sr, c ∈ Sy ++ S4 := fun c hc => by
              rcases List.mem_append.mp hc with z | z
              · exact List.mem_append_left _ z
              · exact List.mem_append_right _ (pp.mem_iff.mpr (List.mem_append_right _ z))
            show (Dd :: (Sa ++ Sy) ++ Sr).Nodup
            rw [List.cons_append, List.append_assoc]
            refine List.nodup_cons.mpr ⟨fun z => ?_, nd_app (nd_left n1') n5 fun c hc z => dis4 c (sub c z) (List.mem_cons_of_mem _ hc)⟩
            rcases List.mem_append.mp z with z | z
            · exact DSa z
            · exact dis4 Dd (sub Dd z) (by simp)
          · intro c hc
            rw [List.append_assoc] at hc
            rcases List.mem_append.mp hc with z | z
            · exact fa c z
            · refine f4 c ?_
              rcases List.mem_append.mp z with z | z
              · exact List.mem_append_left _ z
              · exact List.mem_append_right _ (pp.mem_iff.mpr (List.mem_append_right _ z))
        | false =>
          obtain ⟨Sd, Sr, pp, s5⟩ := home p3.s p3.n len3
          have sub : ∀ c ∈ Sr, c ∈ S3 := fun c hc => pp.mem_iff.mpr (List.mem_append_right _ hc)
          refine iteF ⟨ds.length - (i + 1), by omega, G3, ws, acc, unset δ2 vs, Sa, Sr, rfl, hlt, by omega, by simpa using a, E3, g03, gD3, hD3, ow3, s5, ?_, fun c hc => ?_⟩
          · rw [List.cons_append]
            refine List.nodup_cons.mpr ⟨fun z => ?_, nd_app (nd_left n1') (nd_right (nd_perm pp p3.n)) fun c hc z => dis3 c (sub c z) (List.mem_cons_of_mem _ hc)⟩
            rcases List.mem_append.mp z with z | z
            · exact D1 (List.mem_append_left _ z)
            · exact dis3 Dd (sub Dd z) (by simp)
          · rcases List.mem_append.mp hc with z | z
            · exact fa c z
            · exact f3 c (sub c z)
    · have e : i = ds.length := by omega
      subst e
      refine .inl ⟨ok.stop H1 (g01.trans E1.gh), k (.ref Dd) (.lst acc) δ1 G1 H1 (Dd :: Sa) S1 (hd acc δ1 i1) ⟨E1, .lst hDw gD ow, st, n1, fun c hc => ?_⟩⟩
      rcases List.mem_cons.mp hc with rfl | hc
      · exact .inr hD0
      · exact f1 c hc
end
end Pw
namespace Pw
open PySem PySem.Spec L2
theorem hu65 {A : Around} {k : Nat} (hr : Room k A) : A.units + 65 < cLine := by
  have := hr.un
  omega
/-! ### a def, a method, a class of the text, as a caller needs it -/
def Has (P : Program) (w : World) (K : PySem.W.Frag) (mg : PySem.Str → Option Value) (base : Heap) (k : Nat) (x : PySem.Str) (ps : List PySem.Str) (sp : Sp) : Prop :=
  ∃ f fd, mg x = some (.ref f) ∧ PySem.W.keepIn K (.ref f) = true ∧ Binds K fd ps [] ∧ FnOk P w K mg base CX0 k f fd ps sp
def HasM (P : Program) (w : World) (K : PySem.W.Frag) (mg : PySem.Str → Option Value) (base : Heap) (k : Nat) (C : Addr) (m : PySem.Str) (ps : List PySem.Str) (sp : Sp) : Prop :=
  ∃ f fd, Cls K C ∧ Meth K C m f ∧ Binds K fd ps [] ∧ FnOk P w K mg base CX0 k f fd ps sp
def HasI (P : Program) (w : World) (K : PySem.W.Frag) (mg : PySem.Str → Option Value) (base : Heap) (k : Nat) (x : PySem.Str) (C : Addr) (ps : List PySem.Str) (sp : Sp) : Prop :=
  ∃ f fd, mg x = some (.ref C) ∧ Mk K C f ∧ Binds K fd ps [] ∧ FnOk P w K mg base CX0 k f fd ps sp
section
variable {X : Cx} {k : Nat} {x m : PySem.Str} {C : Addr} {ps : List PySem.Str} {sp : Sp} {p pos apos : Pos} {e o : Expr} {es : List Expr} {t : TA} {ta : TE}
theorem pe_callH (h : Has X.prog X.w X.K X.mg X.base k x ps sp) (hr : Room k X.A) (hg : Gl X x) (ha : PA X (e :: es) t) (hdb : (x == ("__debug__" : PySem.Str)) = false := by decide) (he : starEach (e :: es) X.env = (false, eval e X.env) :: starEach es X.env := by rfl)
    (hpl : (backTo pos (starEach es X.env)).any (·.1) = false := by rfl) : PE X (.Call (.Name x p) (e :: es) [] pos) (tCall sp [] E0 t) := by
  obtain ⟨f, fd, h1, h2, h3, h4⟩ := h
  exact pe_call h4 hr hg h1 h2 h3 .nil pass0 ha hdb he hpl
theorem pe_callH0 (h : Has X.prog X.w X.K X.mg X.base k x ps sp) (hr : Room k X.A) (hg : Gl X x) (hdb : (x == ("__debug__" : PySem.Str)) = false := by decide) : PE X (.Call (.Name x p) [] [] pos) (tCall sp [] E0 tNil) := by
  obtain ⟨f, fd, h1, h2, h3, h4⟩ := h
  exact pe_call0 h4 hr hg h1 h2 h3 .nil pass0 hdb
theorem pe_methH {pl : Sem Bool} (he : PE X o ta) (h : HasM X.prog X.w X.K X.mg X.base k C m ps sp) (hr : Room k X.A) (ha : PA X (e :: es) t)
    (hst : starEach (e :: es) X.env = (false, eval e X.env) :: starEach es X.env := by rfl) (hpl : (backTo pos (starEach es X.env)).any (·.1) = false := by rfl)
    (ht : eval (.Call (.Attribute o m apos) (e :: es) [] pos) X.env = (do
      let ov ← eval o X.env
      standAt apos.atName
      let (f, first) ← holding [ov] (getMethod ov m pl)
      callWith pos f first (backTo pos (starEach (e :: es) X.env)) (backToKw pos (keywordEach [] X.env))) := by rfl) : PE X (.Call (.Attribute o m apos) (e :: es) [] pos) (tMeth C m sp [] E0 ta t) := by
  obtain ⟨f, fd, h1, h2, h3, h4⟩ := h
  exact pe_meth he h1 h2 h4 hr h3 .nil pass0 ha hst hpl ht
theorem pe_methH0 {pl : Sem Bool} (he : PE X o ta) (h : HasM X.prog X.w X.K X.mg X.base k C m ps sp) (hr : Room k X.A)
    (ht : eval (.Call (.Attribute o m apos) [] [] pos) X.env = (do
      let ov ← eval o X.env
      standAt apos.atName
      let (f, first) ← holding [ov] (getMethod ov m pl)
      callWith pos f first (backTo pos (starEach [] X.env)) (backToKw pos (keywordEach [] X.env))) := by rfl) : PE X (.Call (.Attribute o m apos) [] [] pos) (tMeth C m sp [] E0 ta tNil) := by
  obtain ⟨f, fd, h1, h2, h3, h4⟩ := h
  exact pe_meth0 he h1 h2 h4 hr h3 .nil pass0 ht
theorem pe_makeH (h : HasI X.prog X.w X.K X.mg X.base k x C ps sp) (hr : Room (k + 1) X.A) (hg : Gl X x) (ha : PA X (e :: es) t) (hdb : (x == ("__debug__" : PySem.Str)) = false := by decide) (he : starEach (e :: es) X.env = (false, eval e X.env) :: starEach es X.env := by rfl)
    (hpl : (backTo pos (starEach es X.env)).any (·.1) = false := by rfl) : PE X (.Call (.Name x p) (e :: es) [] pos) (tMake C sp [] E0 t) := by
  obtain ⟨f, fd, h1, h2, h3, h4⟩ := h
  exact pe_make h2 h4 hr hg h1 h3 .nil pass0 ha hdb he hpl
theorem pe_makeH0 (h : HasI X.prog X.w X.K X.mg X.base k x C ps sp) (hr : Room (k + 1) X.A) (hg : Gl X x) (hdb : (x == ("__debug__" : PySem.Str)) = false := by decide) : PE X (.Call (.Name x p) [] [] pos) (tMake C sp [] E0 tNil) := by
  obtain ⟨f, fd, h1, h2, h3, h4⟩ := h
  exact pe_make0 h2 h4 hr hg h1 h3 .nil pass0 hdb
theorem pe_gint {i : Int} (hg : Gl X x) (h : ∃ t, X.mg x = some (.int i t)) (hd : (x == ("__debug__" : PySem.Str)) = false := by decide) : PE X (.Name x pos) (tC (.int i)) := by
  obtain ⟨t, h⟩ := h
  exact pe_glob hg h ⟨_, rfl⟩ hd
theorem pe_gstr {i : PySem.Str} (hg : Gl X x) (h : ∃ t, X.mg x = some (.str i t)) (hd : (x == ("__debug__" : PySem.Str)) = false := by decide) : PE X (.Name x pos) (tC (.str i)) := by
  obtain ⟨t, h⟩ := h
  exact pe_glob hg h ⟨_, rfl⟩ hd
/-! ### a written dict -/
def rIxKD (K : PySem.W.Frag) (w : World) : R2 := fun x y H Q => ∃ p z v, x = .ref p ∧ y = .str z ∧ KDct K w p z v ∧ Q v H
theorem ix_KD : IxR X (rIxKD X.K X.w) := ix_kdict
/-! ### isinstance -/
def rISINSTANCE (K : PySem.W.Frag) : List V → Hp → VK → Prop := rIsi K
theorem call_ISINSTANCE : CallR X (.builtin "isinstance") (rISINSTANCE X.K) := call_isi
end
section
variable {K : PySem.W.Frag} {P : List Nat} {δ : Dl} {ta tb te : TE}
theorem wp_ixKD {w : World} {a : Addr} {z : PySem.Str} {v : V} {d : D} (hb : WP K tb δ (.str z)) (h : KDct K w a z v) (hd : ∀ G, Rep K G v d) : WP K (tOp (rIxKD K w) (tC (.ref a)) tb) δ d := fun σ G H S g s nd Q k =>
  hb σ G H S g s nd _ fun u G1 H1 e1 r1 => by
    cases r1
    exact ⟨a, z, v, rfl, rfl, h, k v G1 H1 e1 (hd G1)⟩
/-- a slot's tree goes out; the slot is forgotten -/
theorem we_mv {i : Nat} {x : OV} {Φ : OV → Dl → Prop} (h : δ[i]? = some (some x)) (q : Φ x (δ.set i none)) : WE K (tVar i) δ Φ := fun σ G H S g s nd Q k => by
  obtain ⟨v, Si, Sr, h1, h2, h3, h4⟩ := s.get h
  exact ⟨v, h1, k v x _ G H Si Sr q ⟨Ext.refl g, h2, h4, nd_perm h3 nd, fun b hb => .inl (h3.mem_iff.mpr hb)⟩⟩
theorem ixN_nat {n j : Nat} (h : j < n) : ixN n (j : Int) = some j := by
  unfold ixN
  rw [if_pos (by omega), if_pos (by omega)]
  simp
theorem ws_cut {ts : TS} {Ψ : En} (I : Dl → Prop) (h : WS K P ts δ { Ψ with nx := I }) (k : ∀ δ', I δ' → Ψ.nx δ') : WS K P ts δ Ψ := h.mono k (fun _ _ a => a) (fun _ a => a) fun _ a => a
theorem up_neg {i : Int} : UP K (rU fun i => .int (-i)) (.int i) (.int (-i)) := fun G H v g r Q k => by
  cases r
  exact ⟨i, rfl, k _ G H (Ext.refl g) (.int _)⟩
/-- a class as the second argument -/
theorem wp_isi {n : String} {d : D} {b : Bool} (h : WP K te δ d) (hk : ∀ (G H : Hp) (v : V), Same G H → Rep K G v d → ∃ t, TyX K H v t ∧ PySem.W.kitOne K t (.type n) = some b) : WP K (tCB (rISINSTANCE K) (tCons te (tCons (tC (.ty n)) tNil))) δ (.bl b) := fun σ G H S g s nd Q k =>
  h σ G H S g s nd _ fun v G1 H1 e1 r1 => by
    obtain ⟨t, h1, h2⟩ := hk G1 H1 v e1.gh r1
    exact ⟨v, .ty n, t, .type n, b, rfl, .ty n, h1, h2, k _ G1 H1 e1 (.bl b)⟩
end
end Pw
namespace Pw
open PySem PySem.Spec L2
section
variable {K : PySem.W.Frag} {δ : Dl} {te ta tb : TE} {tl th : TO} {P : List Nat}
/-! ### texts as codes -/
def Tx (l : List Nat) : PySem.Str := ⟨l.toArray⟩
theorem Tx_app (a b : List Nat) : Tx a ++ Tx b = Tx (a ++ b) := by
  show PySem.Str.mk _ = PySem.Str.mk _
  simp [Tx]
theorem Tx_len (a : List Nat) : (Tx a).length = a.length := by show (a.toArray).size = _; simp
theorem Tx_list (a : List Nat) : (Tx a).cps.toList = a := rfl
theorem Tx_inj {a b : List Nat} : (Tx a = Tx b) ↔ a = b := ⟨fun h => by
  have := congrArg (fun z : PySem.Str => z.cps.toList) h
  exact this, fun h => h ▸ rfl⟩
theorem Tx_one (c : Nat) : (⟨#[c]⟩ : PySem.Str) = Tx [c] := rfl
theorem Tx_mul (c : Nat) (n : Int) : Txt.mul (Tx [c]) n = Tx (List.replicate n.toNat c) := by
  have h : (Txt.mul ⟨#[c]⟩ n).cps.toList = List.replicate n.toNat c := by
    first
      | exact mul_one_list c n
      | exact PyProof.Rows.mul_one_list c n
  show (⟨(Txt.mul ⟨#[c]⟩ n).cps⟩ : PySem.Str) = _
  rw [← h]
  rfl
theorem Tx_cut (l : List Nat) (i j : Nat) : cutS (Tx l) (some (i : Int)) (some ((i : Int) + (j : Int))) = Tx ((l.drop i).take j) := by
  unfold cutS
  rw [Tx_len, show (i : Int) + (j : Int) = ((i + j : Nat) : Int) by omega, HT.sIx_nat, HT.sIx_nat, Tx_list]
  show Tx _ = _
  rw [Tx_inj]
  by_cases h : i ≤ l.length
  · rw [Nat.min_eq_left h]
    by_cases q : i + j ≤ l.length
    · rw [Nat.min_eq_left q, Nat.add_sub_cancel_left]
    · rw [Nat.min_eq_right (by omega), List.take_of_length_le (by simp), List.take_of_length_le (by simp; omega)]
  · rw [Nat.min_eq_right (by omega), List.drop_of_length_le (by omega), List.drop_of_length_le (by omega), List.take_nil, List.take_nil]
/-- a slice of a text -/
def OPs (K : PySem.W.Frag) (to : TO) (δ : Dl) (o : Option Int) : Prop := ∀ (σ : L2.St) (G H : Hp) (S : List Addr), Same G H → Sta K G H δ σ S → S.Nodup → ∀ Q : Option Int → Hp → Prop, (∀ G' H', Ext [] G H G' H' → Q o H') → to σ H Q
theorem op_no : OPs K tNoPart δ none := fun σ G H S g s n Q k => k G H (Ext.refl g)
theorem op_part {i : Int} (h : WP K te δ (.int i)) : OPs K (tPart te) δ (some i) := fun σ G H S g s n Q k => h σ G H S g s n _ fun v G' H' e r => by
  cases r
  exact ⟨i, rfl, k G' H' e⟩
theorem wp_sl_str {z : PySem.Str} {lo hi : Option Int} (h : WP K te δ (.str z)) (hl : OPs K tl δ lo) (hh : OPs K th δ hi) (hz : z.length ≤ sizeLine) : WP K (tSl (rSL K) te tl th) δ (.str (cutS z lo hi)) := fun σ G H S g s nd Q k =>
  h σ G H S g s nd _ fun v G1 H1 e1 r1 => hl σ G1 H1 S e1.gh (s.ext e1) nd _ fun G2 H2 e2 => hh σ G2 H2 S e2.gh ((s.ext e1).ext e2) nd _ fun G3 H3 e3 => by
    cases r1
    exact .inr (.inr ⟨z, rfl, hz, k _ G3 H3 (e1.tr0 (e2.tr0 e3)) (.str _)⟩)
theorem cp_int_str {a : PySem.Str} {n : Int} (h : PySem.intText? a = some n) (hl : a.length ≤ 640 := by decide) : CP K rINT [.str a] (.int n) := fun G H vs g r Q k => by
  obtain ⟨v, ws, rfl, h1, h2⟩ := r.cases_cons
  rw [h2.cases_nil]
  cases h1
  exact .inr ⟨a, n, rfl, h, hl, k _ G H (Ext.refl g) (.int _)⟩
theorem lookup_pF {β : Type} {f g : PySem.Str} {x : β} {r : List (PySem.Str × β)} (h : f = g) : ((f, x) :: r).lookup g = some x := by subst h; exact lookup_eq
/-- a function of data, by a parameter -/
def pfa {α : Type} (args : α → List D) (pre : α → Prop) (f : α → D) : FS := fun xs Φ => ∃ a, xs = (args a).map OV.dat ∧ pre a ∧ Φ (.dat (f a)) xs
theorem toSp_mono {s1 s2 : FS} (h : ∀ xs Φ, s1 xs Φ → s2 xs Φ) {vs : List V} {H : Hp} {Q : VK} {E : XK} (q : toSp K s1 vs H Q E) : toSp K s2 vs H Q E := by
  obtain ⟨G, xs, S, Φ, g, o, nd, hs, k⟩ := q
  exact ⟨G, xs, S, Φ, g, o, nd, h _ _ hs, k⟩
theorem wp_callA {α : Type} {args : α → List D} {pre : α → Prop} {f : α → D} {ta : TA} {E : XK} (a : α) (h : WPa K ta δ (args a)) (hp : pre a) : WP K (tCall (toSp K (pfa args pre f)) [] E ta) δ (f a) := fun σ G H S g s nd Q k => h σ G H S g s nd _ fun vs G1 H1 e1 r1 => by
  rw [List.append_nil]
  refine ⟨G1, (args a).map OV.dat, [], fun r _ => r = .dat (f a), e1.gh, ownL_dat r1, by simp, ⟨a, rfl, hp, rfl⟩, fun v x xs' G2 H2 Sx S' b e2 o _ _ _ => ?_⟩
  subst b
  cases o with
  | dat r => exact k v G2 H2 (e1.tr0 e2) r
end
end Pw
namespace Pw
open PySem PySem.Spec L2 PyProof.Rows
section
variable {P : Program} {w : World} {A : Around} {E : Value → Shared → Prop} {s : Shared}
abbrev eSet (w : World) : Obj := { cls := .type "set", dict := none, data := .set #[] 0 (.fresh 0 0 (!w.params.followText "set-order")) }
/-- set(l), l a list of ints -/
theorem set_ints {l : Addr} {its : Array Value} (ns : List Int) {Q : Value → Shared → Prop} (hh : A.handled = none) (hl : s.heap.IsList l its) (hi : IntsAre its.toList ns) (hb : ns.length + 1 < scanBound)
    (h : ∀ (g : Heap) (tk c : Nat), SetR w g s.heap.objs.size (fun j => decide (j ∈ ns)) c → c ≤ ns.length → (∀ b o, s.heap.get? b = some o → g.get? b = some o) → Q (.ref s.heap.objs.size) { s with heap := g, toks := tk }) :
    wpAny (model P w) A (call (.type "set") [.ref l]) Q E s := by
  have sz : its.size = ns.length := by have q := hi.length; rwa [Array.length_toList] at q
  obtain ⟨c, tl, hm⟩ := F.called_set.mro
  have m1 := F.called_set.made; have m2 := F.called_set.sub
  refine wpAny_call (codeAny_of_tree ?_); show wpAny _ _ (callAny (.type "set") _) _ _ _
  refine wpAny_pure ⟨Code.quiet_builtin _ (by decide +kernel), codeAny_builtin F.entry_type_call ?_⟩; rw [Around.under_plain (weight_type_call_type "set" [.ref l] []) rfl]
  have m3 := F.called_set.notType; have m4 := F.called_set.canCreate; have m5 := F.typeCall_set_1 (.ref l)
  repeat (any_goals (first | assumption | wp_step))
  refine codeAny_mono (code_set_led1 (.ref l) (E := E) (Q₁ := fun o s1 => o = .ref s.heap.objs.size ∧ s1 = { s with heap := s.heap.push (eSet w) }) ⟨rfl, rfl⟩) fun r s1 hr => ?_
  cases r with
  | error e => exact hr
  | ok fl =>
    cases fl with
    | ret o =>
      obtain ⟨rfl, rfl⟩ := hr
      have g1 : (s.heap.push (eSet w)).get? s.heap.objs.size = some (eSet w) := Heap.get?_push_size _ rfl
      have t1 : Shared.TypeIs { s with heap := s.heap.push (eSet w) } (.ref s.heap.objs.size) "set" := ⟨_, g1, rfl⟩
      have m6 := F.called_set.init.lookup; have m7 := F.called_set.init.bind (.ref s.heap.objs.size)
      repeat (any_goals (first | assumption | wp_step))
      refine codeAny_mono (codeAny_call_builtin (R := wants (fun r s2 => r = .none ∧ ∃ g tk c, s2 = { s with heap := g, toks := tk } ∧ SetR w g s.heap.objs.size (fun j => decide (j ∈ ns)) c ∧ c ≤ ns.length ∧ (∀ b o, s.heap.get? b = some o → g.get? b = some o)) E) F.called_set.init.plain F.entry_set_init (check_set_init_1 t1 ?_)) fun r2 s2 h2 => ?_
      · obtain ⟨⟨oc, od, odt, osl⟩, e1, e2, nl, e3⟩ := hl
        simp only at e2 e3
        subst e2; subst e3
        have g2 : (s.heap.push (eSet w)).get? l = some { cls := .type "list", dict := od, data := .seq its nl, slots := osl } := Heap.get?_push_of_some _ e1
        have m8 := F.sub_list_set; have m9 := F.sub_list_frozenset
        have ne : (Value.type "list" == Value.type "dict") = false := by decide
        have g3 : (s.heap.push (eSet w)).IsList l its := ⟨_, g2, rfl, nl, rfl⟩
        unfold Builtin.«set.__init__» noKeywords Builtin.Frozenset.updateFrom
        generalize hp : pyIter = PI
        wp_walk
        subst hp
        refine wpAny_pyIter_list g3 (wpAny_bind (wpAny_runValue ?_))
        have lt : l < s.heap.objs.size := Heap.lt_size e1
        have hn : A.in1.in1.in1.handled = none := by simp [hh]
        have sz1 : (s.heap.push (eSet w)).objs.size = s.heap.objs.size + 1 := Heap.size_push ..
        have n1 : l ≠ (s.heap.push (eSet w)).objs.size := by rw [sz1]; exact Nat.ne_of_lt (Nat.lt_succ_of_lt lt)
        have n2 : s.heap.objs.size ∉ [(s.heap.push (eSet w)).objs.size, l] := by
          rw [sz1]; intro q
          rcases List.mem_cons.mp q with q | q
          · exact absurd q (Nat.ne_of_lt (Nat.lt_succ_self _))
          · exact absurd (List.mem_singleton.mp q) (Nat.ne_of_gt lt)
        have val : ∀ (i : Nat) (v : Value), its[i]? = some v → ∃ k t, ns[i]? = some k ∧ v = .int k t := fun i v hv => by
          have hi2 : i < ns.length := by rw [← sz]; exact (Array.getElem?_eq_some_iff.mp hv).1
          obtain ⟨t, e⟩ := IntsAre.int_at hi i v (by rw [Array.getElem?_toList]; exact hv)
          refine ⟨ns[i], t, List.getElem?_eq_getElem hi2, ?_⟩; rw [e, List.getD_eq_getElem?_getD, List.getElem?_eq_getElem hi2] <;> rfl
        refine set_update_ints ((Walks.list hn _ l n1 its).toS) s.heap.objs.size n2 ns sz hb val (its.size - 0) 0 _ (by omega) (Nat.zero_le _) ⟨⟨_, Heap.get?_push_size _ rfl, rfl, rfl⟩, (g3.push _)⟩ ?fin0 ?fin1
        case fin0 =>
          have g4 : ((s.heap.push (eSet w)).push { cls := .type "list_iterator", data := .fields #[.ref l, .int 0 0] }).get? s.heap.objs.size = some (eSet w) := Heap.get?_push_of_some _ g1
          exact ⟨0, Nat.le_refl 0, setR_new_at g4⟩
        case fin1 =>
          rintro ⟨g, g2, d, tk, os⟩ c hm hc hS
          obtain rfl : g2 = s.gens := hm.gens
          obtain rfl : d = s.drawn := hm.drawn
          obtain rfl : os = s.os := hm.os
          show wpAny _ _ _ _ _ _; refine wpAny_pure ?_; show wpAny _ _ (ret Value.none) _ _ _
          rw [sz] at hc
          refine wpAny_pure ⟨rfl, g, tk, c, rfl, hS, hc, fun b o e => hm.heap b o ?_ (Heap.get?_push_of_some _ (Heap.get?_push_of_some _ e))⟩
          have lb := Heap.lt_size e
          rw [sz1]; intro q
          rcases List.mem_cons.mp q with q | q
          · exact absurd q (Nat.ne_of_lt lb)
          · exact absurd (List.mem_singleton.mp q) (Nat.ne_of_lt (Nat.lt_succ_of_lt lb))
      · cases r2 with
        | error e => exact h2
        | ok fl2 =>
          cases fl2 with
          | ret r =>
            obtain ⟨rfl, g, tk, c, rfl, hS, hc, hk⟩ := h2
            repeat (any_goals (first | assumption | wp_step))
            exact h _ _ _ hS hc hk
          | _ => exact h2.elim
    | _ => exact hr.elim
end
end Pw
namespace Pw
open PySem PySem.Spec L2 PyProof.Rows
theorem sort_end {X : Cx} {pins : List (Addr × Obj)} {σ : L2.St} {H1 : Hp} {s1 : Shared} {Q : VK} {a : Addr} {S : Int → Bool} {c : Nat} (hc : X.calm = true) (I2 : Inv X pins σ H1 s1) (hS : SetR X.w s1.heap a S c) (hl : c < 64)
    (q : ∀ (ns' : List Int) (p : Addr), ns'.Pairwise (· < ·) → (∀ k, k ∈ ns' ↔ S k = true) → H1 p = none → Q (.ref p) (upd H1 p (.lst (ns'.map V.int)))) :
    wpAny (model X.prog X.w) X.A (call (.builtin "sorted") [.ref a]) (EP X pins σ Q) X.xe s1 := by
  refine sorted_set hS (I2.ok.hd hc) hl fun s' p out c' ns' k gg o hp hg hi hs hm hl => ?_
  have hlen : (ns'.map V.int).length ≤ sizeLine := by rw [List.length_map, hl, sizeLine_eq]; omega
  have hn : H1 p = none := I2.hok.fresh hp
  have J : Inv X pins σ (upd H1 p (.lst (ns'.map V.int))) { s1 with heap := s'.heap, gens := s'.gens, drawn := s'.drawn, toks := s'.toks } := I2.call (ch := []) (Un.laid k hp hn) (I2.hok.laid k hp ⟨hlen, out.toList, c', vals_of_ints hi, hg⟩) (by rw [gg]; exact I2.bare) (fun _ z => nomatch z)
  have e : s' = { s1 with heap := s'.heap, gens := s'.gens, drawn := s'.drawn, toks := s'.toks } := by
    cases s'; cases o; rfl
  rw [e]
  exact ⟨.ref p, _, J, rfl, q ns' p hs hm hn⟩
def tsortedSET (K : PySem.W.Frag) (ta : TE) : TE := fun σ H Q => ta σ H fun x H1 => ∃ (l : Addr) (ns : List Int), x = .ref l ∧ SqL K H1 l (ns.map V.int) ∧ ns.length < 60 ∧ ∀ (ns' : List Int) (p : Addr), ns'.Pairwise (· < ·) → (∀ k, k ∈ ns' ↔ k ∈ ns) → H1 p = none → Q (.ref p) (upd H1 p (.lst (ns'.map V.int)))
theorem pe_sortedSET {X : Cx} {a : Expr} {ta : TE} {p p2 q pos : Pos} (hg : Gl X "sorted") (hm : X.mg "sorted" = none) (hg2 : Gl X "set") (hm2 : X.mg "set" = none) (ha : PE X a ta) (hc : X.calm = true := by rfl)
    (na : starEach [a] X.env = (false, eval a X.env) :: starEach [] X.env := by rfl) : PE X (.Call (.Name "sorted" p) [.Call (.Name "set" p2) [a] [] q] [] pos) (tsortedSET X.K ta) := by
  refine ⟨fun pins s σ H Q I h => ?_⟩
  refine Call_ (ld_blt I hg hm (show bootBuiltins "sorted" = some (.builtin "sorted") by decide +kernel) ?_)
  refine callWith_builtin1 (args_cons (Call_ (ld_blt I hg2 hm2 boot_set (callWith_type1 (args_cons (thn (ha.run pins s σ H _ I h) fun v s1 ⟨x, H1, I1, r1, q1⟩ => args_nil ?_) na) na rfl))) rfl) rfl rfl
  obtain ⟨l, ns, rfl, hq, hl, q1⟩ := q1
  cases r1
  obtain ⟨its, r, pl, hz⟩ := I1.list hq
  refine set_ints ns (I1.ok.hd hc) pl.isList (by simpa using RZ.intsAre_vals r) (by unfold scanBound; omega) fun g tk c hS hcl hk => args_nil ?_
  have I2 : Inv X pins σ H1 { s1 with heap := g, toks := tk } := I1.kept hk
  exact sort_end hc I2 hS (by omega) fun ns' p hs hm hn => q1 ns' p hs (fun k => by rw [hm k]; simp) hn
end Pw
namespace Pw
open PySem PySem.Spec L2
/-! ### sorted lists of ints -/
theorem asc_uniq : ∀ {xs ys : List Int}, xs.Pairwise (· < ·) → ys.Pairwise (· < ·) → (∀ k, k ∈ xs ↔ k ∈ ys) → xs = ys
  | [], [], _, _, _ => rfl
  | [], y :: ys, _, _, h => absurd ((h y).mpr List.mem_cons_self) (by simp)
  | x :: xs, [], _, _, h => absurd ((h x).mp List.mem_cons_self) (by simp)
  | x :: xs, y :: ys, hx, hy, h => by
    obtain ⟨x1, x2⟩ := List.pairwise_cons.mp hx
    obtain ⟨y1, y2⟩ := List.pairwise_cons.mp hy
    have exy : x = y := by
      rcases List.mem_cons.mp ((h x).mp List.mem_cons_self) with q | q
      · exact q
      · rcases List.mem_cons.mp ((h y).mpr List.mem_cons_self) with p | p
        · exact p.symm
        · have a1 := y1 x q; have a2 := x1 y p; omega
    subst exy
    rw [asc_uniq x2 y2 fun k => ⟨fun q => by
      rcases List.mem_cons.mp ((h k).mp (List.mem_cons_of_mem _ q)) with e | e
      · subst e; have := x1 k q; omega
      · exact e, fun q => by
      rcases List.mem_cons.mp ((h k).mpr (List.mem_cons_of_mem _ q)) with e | e
      · subst e; have := y1 k q; omega
      · exact e⟩]
def insA (k : Int) : List Int → List Int
  | [] => [k]
  | x :: xs => if k < x then k :: x :: xs else if k = x then x :: xs else x :: insA k xs
theorem insA_mem {k j : Int} : ∀ {xs : List Int}, j ∈ insA k xs ↔ j = k ∨ j ∈ xs
  | [] => by simp [insA]
  | x :: xs => by
    unfold insA
    split
    · simp
    · split
      · rename_i h1 h2
        subst h2
        simp
      · rw [List.mem_cons, insA_mem, List.mem_cons]
        constructor <;> rintro (h | h | h) <;> simp [h]
theorem insA_asc {k : Int} : ∀ {xs : List Int}, xs.Pairwise (· < ·) → (insA k xs).Pairwise (· < ·)
  | [], _ => by simp [insA]
  | x :: xs, h => by
    obtain ⟨h1, h2⟩ := List.pairwise_cons.mp h
    unfold insA
    split
    · rename_i q
      exact List.pairwise_cons.mpr ⟨fun y hy => by
        rcases List.mem_cons.mp hy with rfl | hy
        · exact q
        · have := h1 y hy; omega, h⟩
    · split
      · exact h
      · rename_i q1 q2
        exact List.pairwise_cons.mpr ⟨fun y hy => by
          rcases insA_mem.mp hy with rfl | hy
          · omega
          · exact h1 y hy, insA_asc h2⟩
/-- sorted(set(xs)) -/
def sset (ns : List Int) : List Int := ns.foldr insA []
theorem sset_mem {ns : List Int} {k : Int} : k ∈ sset ns ↔ k ∈ ns := by
  induction ns with
  | nil => simp [sset]
  | cons n ns ih => show k ∈ insA n (sset ns) ↔ _; rw [insA_mem, ih, List.mem_cons]
theorem sset_asc {ns : List Int} : (sset ns).Pairwise (· < ·) := by
  induction ns with
  | nil => exact .nil
  | cons n ns ih => exact insA_asc ih
theorem sset_of {ns xs : List Int} (h : xs.Pairwise (· < ·)) (g : ∀ k, k ∈ xs ↔ k ∈ ns) : xs = sset ns := asc_uniq h sset_asc fun k => (g k).trans sset_mem.symm
theorem sset_self {ns : List Int} (h : ns.Pairwise (· < ·)) : sset ns = ns := (sset_of h fun _ => .rfl).symm
section
variable {K : PySem.W.Frag} {δ : Dl} {te ta tb to tv tk td : TE} {P : List Nat}
theorem vints {ns : List Int} : ∀ {vs : List V} {G : Hp}, RepL K G vs (ns.map D.int) → vs = ns.map V.int := by
  induction ns with
  | nil => intro vs G r; exact r.cases_nil
  | cons n ns ih =>
    intro vs G r
    obtain ⟨v, ws, rfl, h1, h2⟩ := r.cases_cons
    cases h1
    rw [ih h2]; rfl
theorem wo_fin {G H G1 H1 : Hp} {p : Addr} {vs : List V} {ds : List D} {Q : VK} (e1 : Ext [] G H G1 H1) (hp : H1 p = none) (r : RepL K G1 vs ds)
    (k : ∀ p vs G' H', Ext [] G H G' H' → G' p = none → H p = none → H' p = some (.lst vs) → RepL K G' vs ds → Q (.ref p) H') : Q (.ref p) (upd H1 p (.lst vs)) :=
  k p vs _ _ (e1.tr0 (Ext.newO (o := .lst vs) e1.gh hp)) (e1.gh.free hp) (back_none e1 hp) upd_same r
theorem wo_sortedSET {ns : List Int} (h : WP K ta δ (.lst (ns.map D.int))) (hl : ns.length < 60) : WO K (tsortedSET K ta) δ ((sset ns).map D.int) := fun σ G H S g s nd Q k => h σ G H S g s nd _ fun v G1 H1 e1 r => by
  cases r with
  | @lst a vs _ ha la ra =>
    have hv := vints ⟨la, ra⟩
    subst hv
    refine ⟨a, ns, rfl, .inl (.inl (e1.gh _ _ ha)), hl, fun ns' p h1 h2 hp => ?_⟩
    rw [sset_of h1 h2]
    exact wo_fin e1 hp (repL_ints _) k
theorem isort_uniq : ∀ {xs ys : List Int}, xs.Pairwise (· ≤ ·) → ys.Pairwise (· ≤ ·) → xs.Perm ys → xs = ys := fun h g p => p.eq_of_pairwise (fun a b _ _ h1 h2 => by omega) h g
def rSORTED (K : PySem.W.Frag) : List V → Hp → VK → Prop := rSortedI K
theorem call_SORTED {X : Cx} : CallR X (.builtin "sorted") (rSORTED X.K) := cr_sortedI
theorem co_sorted {ns zs : List Int} (hz : zs.Pairwise (· ≤ ·)) (hp : zs.Perm ns) : CO K (rSORTED K) [.lst (ns.map D.int)] (zs.map D.int) := fun G H vs g r Q k => by
  obtain ⟨v, ws, rfl, h1, h2⟩ := r.cases_cons
  rw [h2.cases_nil]
  cases h1 with
  | @lst a vs _ ha la ra =>
    have hv := vints ⟨la, ra⟩
    subst hv
    refine ⟨a, ns, rfl, .inl (.inl (g _ _ ha)), fun ns' p hq h1 hn => ?_⟩
    rw [isort_uniq h1 hz (hq.trans hp.symm)]
    exact wo_fin (Ext.refl g) hn (repL_ints _) k
theorem wo_cat {xs ys : List D} (ha : WP K ta δ (.lst xs)) (hb : WP K tb δ (.lst ys)) (hl : xs.length + ys.length ≤ 1000000) : WO K (tOp (rADD K) ta tb) δ (xs ++ ys) := fun σ G H S g s nd Q k =>
  ha σ G H S g s nd _ fun v G1 H1 e1 r1 => hb σ G1 H1 S e1.gh (s.ext e1) nd _ fun u G2 H2 e2 r2 => by
    cases r1 with
    | @lst l vs _ h1 l1 a1 =>
      cases r2 with
      | @lst b us _ h2 l2 a2 =>
        refine .inr (.inr (.inl ⟨l, b, vs, us, rfl, rfl, e2.gh _ _ (e2.gg _ _ h1), e2.gh _ _ h2, Nat.le_trans (by rw [l1, l2]; exact hl) (by decide), fun p hp => ?_⟩))
        exact wo_fin (e1.tr0 e2) hp (((RepL.mk l1 a1).mono e2.gg).append (RepL.mk l2 a2)) k
theorem repL_flat {G : Hp} {vs : List V} {ds : List D} (r : RepL K G vs ds) : ∀ n : Nat, RepL K G (List.replicate n vs).flatten (List.replicate n ds).flatten
  | 0 => .nil
  | n + 1 => by rw [List.replicate_succ, List.replicate_succ, List.flatten_cons, List.flatten_cons]; exact r.append (repL_flat r n)
theorem wo_rep {xs : List D} {n : Int} (ha : WP K ta δ (.lst xs)) (hb : WP K tb δ (.int n)) (h0 : -1000000 ≤ n) (h1 : n ≤ 1000000) (hl : xs.length * n.toNat ≤ 1000000) : WO K (tOp (rMUL K) ta tb) δ (List.replicate n.toNat xs).flatten := fun σ G H S g s nd Q k =>
  ha σ G H S g s nd _ fun v G1 H1 e1 r1 => hb σ G1 H1 S e1.gh (s.ext e1) nd _ fun u G2 H2 e2 r2 => by
    cases r2
    cases r1 with
    | @lst l vs _ q1 l1 a1 =>
      refine .inr (.inr (.inl ⟨l, n, vs, rfl, rfl, e2.gh _ _ (e2.gg _ _ q1), by omega, by omega, Nat.le_trans (by rw [l1]; exact hl) (by decide), fun p hp => ?_⟩))
      exact wo_fin (e1.tr0 e2) hp (repL_flat ((RepL.mk l1 a1).mono e2.gg) _) k
theorem flat_one {x : D} : ∀ n : Nat, (List.replicate n [x]).flatten = List.replicate n x
  | 0 => rfl
  | n + 1 => by rw [List.replicate_succ, List.flatten_cons, flat_one n, List.replicate_succ]; rfl
theorem wo_rep1 {x : D} {n : Int} (ha : WP K ta δ (.lst [x])) (hb : WP K tb δ (.int n)) (h0 : -1000000 ≤ n) (h1 : n ≤ 1000000) : WO K (tOp (rMUL K) ta tb) δ (List.replicate n.toNat x) := flat_one (x := x) n.toNat ▸ wo_rep ha hb h0 h1 (by simp; omega)
theorem wo_rev {xs : List D} (ha : WP K ta δ (.lst xs)) : WO K (tRevL K ta) δ xs.reverse := fun σ G H S g s nd Q k => ha σ G H S g s nd _ fun v G1 H1 e1 r1 => by
  cases r1 with
  | @lst l vs _ h1 l1 a1 => exact ⟨l, vs, rfl, .inl (.inl (e1.gh _ _ h1)), fun p hp => wo_fin e1 hp (RepL.mk l1 a1).rev k⟩
theorem wo_revO {xs : List D} (ha : PL K ta δ (.lst (xs.map OV.dat))) : WO K (tRevL K ta) δ xs.reverse := fun σ G H S g s nd Q k => ha σ G H S g s nd _ fun v Sx Sr o p => by
  cases o with
  | @lst l vs _ T h1 g1 t => exact ⟨l, vs, rfl, .inl (.inl h1), fun p hp => wo_fin (Ext.refl g) hp (ownL_rep t).1.rev k⟩
def WR (K : PySem.W.Frag) (tr : L2.St → Hp → (Int → Int → Hp → Prop) → Prop) (δ : Dl) (a b : Int) : Prop := ∀ (σ : L2.St) (G H : Hp) (S : List Addr), Same G H → Sta K G H δ σ S → S.Nodup → ∀ Q : Int → Int → Hp → Prop, (∀ G' H', Ext [] G H G' H' → Q a b H') → tr σ H Q
theorem wr_1 {n : Int} (h : WP K ta δ (.int n)) : WR K (tRg1 ta) δ 0 n := fun σ G H S g s nd Q k => h σ G H S g s nd _ fun v G1 H1 e1 r1 => by
  cases r1
  exact ⟨n, rfl, k G1 H1 e1⟩
theorem wr_2 {a b : Int} (h : WP K ta δ (.int a)) (h2 : WP K tb δ (.int b)) : WR K (tRg2 ta tb) δ a b := fun σ G H S g s nd Q k => h σ G H S g s nd _ fun v G1 H1 e1 r1 => h2 σ G1 H1 S e1.gh (s.ext e1) nd _ fun v G2 H2 e2 r2 => by
  cases r1; cases r2
  exact ⟨a, b, rfl, rfl, k G2 H2 (e1.tr0 e2)⟩
theorem wo_listRg {tr : L2.St → Hp → (Int → Int → Hp → Prop) → Prop} {a b : Int} (h : WR K tr δ a b) (h1 : -1000000 ≤ a ∧ a ≤ 1000000) (h2 : -1000000 ≤ b ∧ b ≤ 1000000) : WO K (tLstRg tr) δ (rgD a (b - a).toNat) := fun σ G H S g s nd Q k => h σ G H S g s nd _ fun G1 H1 e1 => by
  refine ⟨⟨by omega, by omega, by omega, by omega, by omega⟩, fun p hp => ?_⟩
  have : rgV a b = ((List.range (b - a).toNat).map fun (i : Nat) => a + (i : Int)).map V.int := by unfold rgV; rw [List.map_map]; rfl
  rw [this]
  refine wo_fin e1 hp ?_ k
  have e : rgD a (b - a).toNat = ((List.range (b - a).toNat).map fun (i : Nat) => a + (i : Int)).map D.int := by unfold rgD; rw [List.map_map]; rfl
  rw [e]
  exact repL_ints _
/-! ### what is owned, looked at -/
theorem wtp_unfz {t : TT} {b : Bool} (i : Nat) {x : OV} {d : D} (h : δ[i]? = some (some x)) (e : x.fz = some d) (w : WTp K t (δ.set i (some (.dat d))) b) : WTp K t δ b := fun σ G H S g s n Q k1 => by
  obtain ⟨G', S', a, gh, c, kk, n', s'⟩ := s.freeze g n h e
  exact w σ G' H S' gh s' n' Q fun G2 H2 e2 => k1 G H2 ⟨Same.refl G, a.trans (e2.gg.trans e2.gh), e2.kp, e2.dm, fun _ _ _ => rfl⟩
def D.sc : D → Bool
  | .non => true
  | .bl _ => true
  | .int _ => true
  | .str _ => true
  | _ => false
theorem Rep.sc {G G' : Hp} {v : V} {d : D} (r : Rep K G v d) (h : d.sc = true) : Rep K G' v d := by
  cases r <;> first | exact .non | exact .bl _ | exact .int _ | exact .str _ | (simp [D.sc] at h)
theorem RepL.sc {G G' : Hp} {vs : List V} {ds : List D} (r : RepL K G vs ds) (h : ∀ d ∈ ds, d.sc = true) : RepL K G' vs ds := ⟨r.len, fun i v d h1 h2 => (r.at_ i v d h1 h2).sc (h d (List.mem_of_getElem? h2))⟩
theorem wp_unfz {z : D} (i : Nat) {x : OV} {d : D} (h : δ[i]? = some (some x)) (e : x.fz = some d) (hz : z.sc = true) (w : WP K te (δ.set i (some (.dat d))) z) : WP K te δ z := fun σ G H S g s n Q k1 => by
  obtain ⟨G', S', a, gh, c, kk, n', s'⟩ := s.freeze g n h e
  exact w σ G' H S' gh s' n' Q fun v G2 H2 e2 r => k1 v G H2 ⟨Same.refl G, a.trans (e2.gg.trans e2.gh), e2.kp, e2.dm, fun _ _ _ => rfl⟩ (r.sc hz)
theorem wo_unfz {zs : List D} (i : Nat) {x : OV} {d : D} (h : δ[i]? = some (some x)) (e : x.fz = some d) (hz : ∀ z ∈ zs, z.sc = true) (w : WO K te (δ.set i (some (.dat d))) zs) : WO K te δ zs := fun σ G H S g s n Q k1 => by
  obtain ⟨G', S', a, gh, c, kk, n', s'⟩ := s.freeze g n h e
  exact w σ G' H S' gh s' n' Q fun p vs G2 H2 e2 p1 p2 p3 r => k1 p vs G H2 ⟨Same.refl G, a.trans (e2.gg.trans e2.gh), e2.kp, e2.dm, fun _ _ _ => rfl⟩ (g.free p2) p2 p3 (r.sc hz)
theorem fz_dat {ds : List D} : (OV.lst (ds.map OV.dat)).fz = some (.lst ds) := by simp [OV.fz, fzL_dat]
/-- a loop over a list that stays owned; its slot is not stored meanwhile -/
theorem ws_forO {g : TG} {tb : TS} {ds : List D} {Ψ : En} {j : Nat} (hj : δ[j]? = some (some (.lst (ds.map OV.dat)))) (I : Nat → Dl → Prop) (h0 : I 0 δ) (hI : ∀ i δ', I i δ' → δ'[j]? = some (some (.lst (ds.map OV.dat))))
    (hs : ∀ i d δ', ds[i]? = some d → I i δ' → WG K (j :: P) g d δ' fun δ'' => WS K (j :: P) tb δ'' (LoopEn Ψ (I (i + 1)))) (hd : ∀ δ', I ds.length δ' → Ψ.nx δ') : WS K P (tFor (iSEQ K (tVar j)) g tb) δ Ψ := fun σ G H S gg s nd D k1 k2 k3 k4 => by
  obtain ⟨v, Si, Sr, g1, g2, g3, g4⟩ := s.get hj
  cases g2 with
  | @lst a vs _ T ha ga t =>
    refine .inl ⟨.ref a, g1, a, rfl, ⟨vs, .inl (.inl ha)⟩, ?_⟩
    refine ⟨fun i m σ1 H1 => ∃ δ1 G1 S1, m = ds.length - i ∧ i ≤ ds.length ∧ I i δ1 ∧ PostS K (j :: P) S σ G H δ1 σ1 G1 H1 S1, ⟨ds.length, δ, G, S, by simp, Nat.zero_le _, h0, ⟨Ext.refl gg, s, nd, Frs.refl, fun _ _ => rfl⟩⟩, ?_⟩
    rintro i m σ1 H1 ⟨δ1, G1, S1, rfl, hi, i1, p1⟩
    have here : ∃ ws, H1 a = some (.lst ws) ∧ RepL K G1 ws ds := by
      obtain ⟨v1, Sj, Sq, q1, q2, _, _⟩ := p1.s.get (hI i δ1 i1)
      have e := p1.p j List.mem_cons_self
      rw [q1, g1] at e
      have e2 : v1 = .ref a := Option.some.inj (Option.some.inj e)
      subst e2
      cases q2 with
      | @lst _ ws _ T1 hw gw tw => exact ⟨ws, hw, (ownL_rep tw).1⟩
    obtain ⟨ws, hw, rw⟩ := here
    by_cases hlt : i < ds.length
    · refine .inr ⟨⟨ws, ws[i]'(by rw [rw.len]; exact hlt), .inl (.inl hw), List.getElem?_eq_getElem _⟩, _, fun _ _ x => x, fun x H2 y => ?_⟩
      obtain ⟨rfl, y⟩ := y
      have hx := y ws (.inl (.inl hw))
      have hdi : ds[i]? = some ds[i] := List.getElem?_eq_getElem hlt
      refine hs i ds[i] δ1 hdi i1 σ1 G1 H2 S1 x p1.e.gh p1.s p1.n (rw.at_ i x _ hx hdi) _ fun σ2 δ2 S2 w s3 nd3 sub pp => ?_
      have F2 : Frs S S2 H := fun b hb => p1.f b (sub b hb)
      refine w σ2 G1 H2 S2 p1.e.gh s3 nd3 _ (fun δ3 σ3 G3 H3 S3 q p3 => ?_) (fun v x δ3 σ3 G3 H3 Sx S3 q p3 => ?_) (fun δ3 σ3 G3 H3 S3 q p3 => ?_) (fun δ3 σ3 G3 H3 S3 q p3 => ?_)
      · exact ⟨ds.length - (i + 1), by omega, δ3, G3, S3, rfl, hlt, q, ⟨p1.e.trans p3.e F2, p3.s, p3.n, F2.trans p1.e p3.f, fun j hj => (p3.p j hj).trans ((pp j hj).trans (p1.p j hj))⟩⟩
      · exact k2 v x δ3 σ3 G3 H3 Sx S3 q ⟨p1.e.trans p3.e F2, p3.o, p3.s, p3.n, F2.trans p1.e p3.f, fun j hj => (p3.p j (List.mem_cons_of_mem _ hj)).trans ((pp j (List.mem_cons_of_mem _ hj)).trans (p1.p j (List.mem_cons_of_mem _ hj)))⟩
      · exact k1 δ3 σ3 G3 H3 S3 q ⟨p1.e.trans p3.e F2, p3.s, p3.n, F2.trans p1.e p3.f, fun j hj => (p3.p j (List.mem_cons_of_mem _ hj)).trans ((pp j (List.mem_cons_of_mem _ hj)).trans (p1.p j (List.mem_cons_of_mem _ hj)))⟩
      · exact ⟨ds.length - (i + 1), by omega, δ3, G3, S3, rfl, hlt, q, ⟨p1.e.trans p3.e F2, p3.s, p3.n, F2.trans p1.e p3.f, fun j hj => (p3.p j hj).trans ((pp j hj).trans (p1.p j hj))⟩⟩
    · have e : i = ds.length := by omega
      subst e
      exact .inl ⟨⟨ws, .inl (.inl hw), by rw [rw.len]; exact Nat.le_refl _⟩, k1 δ1 σ1 G1 H1 S1 (hd δ1 i1) ⟨p1.e, p1.s, p1.n, p1.f, fun j hj => p1.p j (List.mem_cons_of_mem _ hj)⟩⟩
end
end Pw
namespace Pw
open PySem PySem.Spec L2
/-! ### dicts of data -/
section
variable {κ β : Type} [DecidableEq κ]
def gK (kvs : List (κ × β)) (k : κ) : Option β := (kvs.find? fun p => decide (p.1 = k)).map (·.2)
def pK (kvs : List (κ × β)) (k : κ) (d : β) : List (κ × β) := if (gK kvs k).isSome = true then kvs.map (fun p => if p.1 = k then (p.1, d) else p) else kvs ++ [(k, d)]
theorem gK_nil {k : κ} : gK ([] : List (κ × β)) k = none := rfl
theorem gK_cons {p : κ × β} {r : List (κ × β)} {k : κ} : gK (p :: r) k = if p.1 = k then some p.2 else gK r k := by
  unfold gK
  by_cases h : p.1 = k <;> simp [List.find?_cons, h]
theorem gK_app {k : κ} : ∀ {a b : List (κ × β)}, gK (a ++ b) k = (gK a k).or (gK b k)
  | [], b => by simp [gK_nil]
  | p :: a, b => by
    rw [List.cons_append, gK_cons, gK_cons, gK_app]
    split <;> rfl
theorem gK_map {k j : κ} {d : β} : ∀ {a : List (κ × β)}, gK (a.map fun p => if p.1 = k then (p.1, d) else p) j = if j = k then (gK a j).map (fun _ => d) else gK a j
  | [] => by simp [gK_nil]
  | p :: a => by
    rw [List.map_cons, gK_cons, gK_cons, gK_map]
    by_cases h : p.1 = k <;> by_cases g : p.1 = j <;> by_cases e : j = k <;> simp_all
theorem gK_put {kvs : List (κ × β)} {k j : κ} {d : β} : gK (pK kvs k d) j = if j = k then some d else gK kvs j := by
  unfold pK
  split
  · rename_i h
    rw [gK_map]
    split
    · rename_i e
      subst e
      obtain ⟨x, hx⟩ := Option.isSome_iff_exists.mp h
      rw [hx]; rfl
    · rfl
  · rename_i h
    rw [gK_app, gK_cons, gK_nil]
    have : gK kvs k = none := by simpa using h
    by_cases e : j = k
    · subst e; simp [this]
    · rw [if_neg e, if_neg (fun q => e q.symm)]; simp
theorem gK_mem {kvs : List (κ × β)} {k : κ} {d : β} (h : gK kvs k = some d) : (k, d) ∈ kvs := by
  unfold gK at h
  obtain ⟨p, hp, rfl⟩ := Option.map_eq_some_iff.mp h
  have := List.find?_some hp
  have e : p.1 = k := by simpa using this
  rw [← e]
  exact List.mem_of_find?_eq_some hp
theorem gK_none {kvs : List (κ × β)} {k : κ} : gK kvs k = none ↔ k ∉ kvs.map (·.1) := by
  induction kvs with
  | nil => simp [gK_nil]
  | cons p r ih =>
    rw [gK_cons, List.map_cons, List.mem_cons]
    by_cases e : p.1 = k
    · rw [if_pos e]; simp [e]
    · rw [if_neg e, ih]
      constructor
      · rintro h (q | q)
        · exact e q.symm
        · exact h q
      · exact fun h q => h (.inr q)
theorem pK_keys {kvs : List (κ × β)} {k : κ} {d : β} : (pK kvs k d).map (·.1) = if k ∈ kvs.map (·.1) then kvs.map (·.1) else kvs.map (·.1) ++ [k] := by
  unfold pK
  by_cases h : k ∈ kvs.map (·.1)
  · have : (gK kvs k).isSome = true := by
      cases q : gK kvs k with
      | none => exact absurd h (gK_none.mp q)
      | some x => rfl
    rw [if_pos this, if_pos h, List.map_map]
    apply List.map_congr_left
    intro p _
    show (if p.1 = k then (p.1, d) else p).1 = p.1
    split <;> rfl
  · have : ¬ (gK kvs k).isSome = true := by rw [gK_none.mpr h]; simp
    rw [if_neg this, if_neg h]
    simp
theorem pK_len {kvs : List (κ × β)} {k : κ} {d : β} : (pK kvs k d).length ≤ kvs.length + 1 := by
  unfold pK; split <;> simp
end
section
variable {K : PySem.W.Frag}
structure KRel {κ : Type} (G : Hp) (k : List (κ × V)) (os : List (κ × D)) : Prop where
  ks : k.map (·.1) = os.map (·.1)
  vs : RepL K G (k.map (·.2)) (os.map (·.2))
theorem KRel.cases {κ : Type} {G : Hp} {k : List (κ × V)} {p : κ × D} {os : List (κ × D)} (h : KRel (K := K) G k (p :: os)) : ∃ v r, k = (p.1, v) :: r ∧ Rep K G v p.2 ∧ KRel (K := K) G r os := by
  obtain ⟨h1, h2⟩ := h
  cases k with
  | nil => simp at h1
  | cons q r =>
    obtain ⟨q1, q2⟩ := q
    simp only [List.map_cons, List.cons.injEq] at h1
    obtain ⟨rfl, h1⟩ := h1
    rw [List.map_cons, List.map_cons] at h2
    obtain ⟨v, ws, e, r1, r2⟩ := h2.cases_cons
    cases e
    exact ⟨q2, r, rfl, r1, h1, r2⟩
theorem KRel.cons {κ : Type} {G : Hp} {k : List (κ × V)} {x : κ} {v : V} {d : D} {os : List (κ × D)} (h : KRel (K := K) G k os) (r : Rep K G v d) : KRel (K := K) G ((x, v) :: k) ((x, d) :: os) :=
  ⟨by simp [h.ks], RepL.cons r h.vs⟩
theorem KRel.nil' {κ : Type} {G : Hp} {k : List (κ × V)} (h : KRel (K := K) G k []) : k = [] := by
  cases k with
  | nil => rfl
  | cons p r => have := h.ks; simp at this
theorem KRel.get {κ : Type} [DecidableEq κ] {G : Hp} {x : κ} : ∀ {os : List (κ × D)} {k : List (κ × V)}, KRel (K := K) G k os → (gK os x = none ∧ valV k x = none) ∨ ∃ d v, gK os x = some d ∧ valV k x = some v ∧ Rep K G v d
  | [], k, h => by rw [h.nil']; exact .inl ⟨rfl, rfl⟩
  | p :: os, k, h => by
    obtain ⟨v, r, rfl, r1, r2⟩ := h.cases
    rw [gK_cons]
    by_cases e : p.1 = x
    · rw [if_pos e, valV_pos e]; exact .inr ⟨_, _, rfl, rfl, r1⟩
    · rw [if_neg e, valV_neg e]; exact r2.get
theorem KRel.repl {κ : Type} [DecidableEq κ] {G : Hp} {x : κ} {v : V} {d : D} (hr : Rep K G v d) : ∀ {os : List (κ × D)} {k : List (κ × V)}, KRel (K := K) G k os → KRel (K := K) G (k.map fun kv => if kv.1 = x then (kv.1, v) else kv) (os.map fun p => if p.1 = x then (p.1, d) else p)
  | [], k, h => by rw [h.nil']; exact ⟨rfl, .nil⟩
  | p :: os, k, h => by
    obtain ⟨u, r, rfl, r1, r2⟩ := h.cases
    have ih := r2.repl (x := x) hr
    rw [List.map_cons, List.map_cons]
    by_cases e : p.1 = x
    · rw [if_pos e, if_pos e]; exact ih.cons hr
    · rw [if_neg e, if_neg e]; exact ih.cons r1
theorem KRel.snoc {κ : Type} {G : Hp} {x : κ} {v : V} {d : D} (hr : Rep K G v d) {os : List (κ × D)} {k : List (κ × V)} (h : KRel (K := K) G k os) : KRel (K := K) G (k ++ [(x, v)]) (os ++ [(x, d)]) :=
  ⟨by simp [h.ks], by rw [List.map_append, List.map_append]; exact h.vs.append (.cons hr .nil)⟩
theorem KRel.put {κ : Type} [DecidableEq κ] {G : Hp} {x : κ} {v : V} {d : D} (hr : Rep K G v d) {os : List (κ × D)} {k : List (κ × V)} (h : KRel (K := K) G k os) : KRel (K := K) G (putK k x v) (pK os x d) := by
  unfold putK pK
  rw [valV_any]
  rcases h.get (x := x) with ⟨a, b⟩ | ⟨d0, v0, a, b, _⟩
  · rw [a, b]
    simp only [Option.isSome_none, Bool.false_eq_true, if_false]
    exact h.snoc hr
  · rw [a, b]
    simp only [Option.isSome_some, if_true]
    exact h.repl hr
theorem KRel.len {κ : Type} {G : Hp} {os : List (κ × D)} {k : List (κ × V)} (h : KRel (K := K) G k os) : k.length = os.length := by
  have := congrArg List.length h.ks
  simpa using this
theorem keyD_inj : ∀ {a b : Key}, keyD a = keyD b → a = b
  | .inl _, .inl _, h => by cases h; rfl
  | .inr _, .inr _, h => by cases h; rfl
  | .inl _, .inr _, h => by cases h
  | .inr _, .inl _, h => by cases h
/-- a dict with ints and texts as keys -/
def dicK (kvs : List (Key × D)) : OV := .dic false (kvs.map fun p => (keyD p.1, .dat p.2))
theorem map_inj' {α β : Type} {f : α → β} (hf : ∀ a b, f a = f b → a = b) : ∀ {xs ys : List α}, xs.map f = ys.map f → xs = ys
  | [], [], _ => rfl
  | [], _ :: _, h => by simp at h
  | _ :: _, [], h => by simp at h
  | x :: xs, y :: ys, h => by
    simp only [List.map_cons, List.cons.injEq] at h
    rw [hf _ _ h.1, map_inj' hf h.2]
theorem own_dicK {G H : Hp} {kvs : List (Key × D)} {v : V} {S : List Addr} (o : Own K G H (dicK kvs) v S) : ∃ a k, v = .ref a ∧ S = [a] ∧ H a = some (.dK k) ∧ G a = none ∧ KRel (K := K) G k kvs := by
  unfold dicK at o
  cases o with
  | @dic _ a kv os T h g l t =>
    obtain ⟨k, hk, rfl⟩ := h
    rw [List.map_map] at t
    obtain ⟨r, rfl⟩ := ownL_rep (ds := kvs.map (·.2)) (by
      have e : (kvs.map (·.2)).map OV.dat = kvs.map ((fun x => x.2) ∘ fun p => (keyD p.1, OV.dat p.2)) := by rw [List.map_map]; rfl
      rw [e]; exact t)
    refine ⟨a, k, rfl, rfl, hk, g, ?_, ?_⟩
    · rw [List.map_map, List.map_map] at l
      refine map_inj' (fun _ _ => keyD_inj) ?_
      rw [List.map_map, List.map_map]
      exact l
    · rw [List.map_map] at r
      exact r
theorem dicK_own {G H : Hp} {kvs : List (Key × D)} {a : Addr} {k : List (Key × V)} (h : H a = some (.dK k)) (g : G a = none) (r : KRel (K := K) G k kvs) : Own K G H (dicK kvs) (.ref a) [a] := by
  refine .dic (S := []) ⟨k, h, rfl⟩ g ?_ ?_
  · rw [List.map_map, List.map_map]
    have := congrArg (List.map keyD) r.ks
    rw [List.map_map, List.map_map] at this
    exact this
  · rw [List.map_map, List.map_map]
    have := ownL_dat (H := H) r.vs
    rw [List.map_map] at this
    exact this
theorem kV_rep {G : Hp} {v : V} {x : Key} (r : Rep K G v (keyD x)) : v = kV x := by
  cases x <;> cases r <;> rfl
section
variable {δ : Dl} {te ta tb to ti tv td ty : TE} {P : List Nat}
theorem we_dnewK {Φ : OV → Dl → Prop} (q : Φ (dicK []) δ) : WE K tDNewK δ Φ := fun σ G H S g s nd Q k => fun p hp => by
  have e := Ext.newO (o := .dK []) g hp
  have st := s.ext e
  have hpS : p ∉ S := fun h => (s.foot p h).1 hp
  exact k (.ref p) _ δ G _ [p] S q ⟨e.pure, dicK_own upd_same (g.free hp) ⟨rfl, .nil⟩, st, by simpa using ⟨hpS, nd⟩, fun b hb => by
    rcases List.mem_append.mp hb with h | h
    · exact .inr (by rw [List.mem_singleton.mp h]; exact hp)
    · exact .inl h⟩
theorem wp_in_dicK {kvs : List (Key × D)} {x : Key} (hx : WP K ta δ (keyD x)) (hd : PL K tb δ (dicK kvs)) : WP K (tOp (rIN K) ta tb) δ (.bl (gK kvs x).isSome) := fun σ G H S g s nd Q k => hx σ G H S g s nd _ fun v G1 H1 e1 r1 => hd σ G1 H1 S e1.gh (s.ext e1) nd _ fun u Sx Sr o p => by
  obtain ⟨a, kk, rfl, rfl, h1, h2, h3⟩ := own_dicK o
  have hv := kV_rep r1
  subst hv
  refine .inr (.inr (.inr ⟨a, valV kk x, rfl, .inl ⟨kk, .inl h1⟩, .k h1, ?_⟩))
  rcases h3.get (x := x) with ⟨p1, p2⟩ | ⟨d0, v0, p1, p2, _⟩
  · rw [p2]; rw [p1] at k; exact k _ G1 H1 e1 (.bl _)
  · rw [p2]; rw [p1] at k; exact k _ G1 H1 e1 (.bl _)
theorem wp_nin_dicK {kvs : List (Key × D)} {x : Key} (hx : WP K ta δ (keyD x)) (hd : PL K tb δ (dicK kvs)) : WP K (tOp (rNIN K) ta tb) δ (.bl (!(gK kvs x).isSome)) := fun σ G H S g s nd Q k => hx σ G H S g s nd _ fun v G1 H1 e1 r1 => hd σ G1 H1 S e1.gh (s.ext e1) nd _ fun u Sx Sr o p => by
  obtain ⟨a, kk, rfl, rfl, h1, h2, h3⟩ := own_dicK o
  have hv := kV_rep r1
  subst hv
  refine .inr (.inr (.inr ⟨a, valV kk x, rfl, .inl ⟨kk, .inl h1⟩, .k h1, ?_⟩))
  rcases h3.get (x := x) with ⟨p1, p2⟩ | ⟨d0, v0, p1, p2, _⟩
  · rw [p2]; rw [p1] at k; exact k _ G1 H1 e1 (.bl _)
  · rw [p2]; rw [p1] at k; exact k _ G1 H1 e1 (.bl _)
theorem wp_dgetK {kvs : List (Key × D)} {x : Key} {d : D} (hd : PL K td δ (dicK kvs)) (hx : WP K ty δ (keyD x)) (hg : gK kvs x = some d) : WP K (tDGet td ty) δ d := fun σ G H S g s nd Q k => hd σ G H S g s nd _ fun u Sx Sr o p => hx σ G H S g s nd _ fun v G1 H1 e1 r1 => by
  obtain ⟨a, kk, rfl, rfl, h1, h2, h3⟩ := own_dicK (o.ext e1)
  have hv := kV_rep r1
  subst hv
  rcases h3.get (x := x) with ⟨p1, _⟩ | ⟨d0, v0, p1, p2, p3⟩
  · rw [hg] at p1; cases p1
  · rw [hg] at p1; cases p1
    exact ⟨a, v0, rfl, p2 ▸ .k h1, k v0 G1 H1 e1 p3⟩
theorem ws_dputK {kvs : List (Key × D)} {x : Key} {d : D} {put : OV → Dl} {Ψ : En} (hv : WP K tv δ d) (hd : PM K td δ (dicK kvs) put) (hx : WP K ty δ (keyD x)) (hl : kvs.length < 1000000) (q : Ψ.nx (put (dicK (pK kvs x d)))) : WS K P (sDPut td ty tv) δ Ψ := fun σ G H S g s nd D k1 k2 k3 k4 =>
  hv σ G H S g s nd _ fun v G0 H0 e0 r0 => hd σ G0 H0 S e0.gh (s.ext e0) nd _ fun u Sx Sr o p kk => by
    obtain ⟨l, kv, rfl, rfl, h1, h2, h3⟩ := own_dicK o
    refine hx σ G0 H0 S e0.gh (s.ext e0) nd _ fun w G1 H1 e1 r1 => ?_
    have hw := kV_rep r1
    subst hw
    have N : Node K δ put σ G1 H1 S l [] Sr := node_of e1 e0.gh nd h2 (by rw [h1]; simp) p (s.ext e0).foot kk
    have h1' := e1.kp l _ (by simp) h1
    have rel : KRel (K := K) G1 kv kvs := ⟨h3.ks, h3.vs.mono e1.gg⟩
    refine ⟨l, _, rfl, .k h1' (Nat.lt_of_lt_of_le (by rw [rel.len]; exact hl) (by decide)), ?_⟩
    obtain ⟨S', a1, a2, a3, a4, a5⟩ := N.post (o := .dK (putK kv x v)) (T' := []) (fun b hb => hb) List.nodup_nil (dicK_own upd_same N.gl (rel.put (r0.mono e1.gg)))
    exact k1 _ σ _ _ S' q ⟨(e0.pure.trans e1.pure Frs.refl).trans a1 Frs.refl, a2, a3, fun b hb => .inl (a5 b hb), fun _ _ => rfl⟩
end
end
end Pw
namespace Pw
open PySem PySem.Spec L2
section
variable {K : PySem.W.Frag} {δ : Dl} {te ta tb tc to ti tv td ty : TE} {P : List Nat}
/-- a value made data -/
theorem we_dat {Φ : OV → Dl → Prop} (h : WE K te δ fun x δ' => ∃ d, x.fz = some d ∧ Φ (.dat d) δ') : WE K te δ Φ := fun σ G H S g s nd Q k => h σ G H S g s nd Q fun v x δ' G' H' Sx S' ⟨d, e, a⟩ p => by
  have r := p.o.fz (nd_left p.n) e
  have gg : Same G' (frz G' H' Sx) := frz_gg fun b hb => (p.o.foot b hb).2
  refine k v (.dat d) δ' (frz G' H' Sx) H' [] S' a ⟨⟨p.e.gg.trans gg, frz_gh p.e.gh, p.e.kp, p.e.dm, fun b hb h => ?_⟩, .dat r, p.s.frame gg fun b hb => ⟨rfl, by
    rw [frz_out fun q => nd_dis p.n q hb]; exact (p.s.foot b hb).2⟩, by simpa using nd_right p.n, fun b hb => p.f b (List.mem_append_right _ (by simpa using hb))⟩
  rw [frz_out fun q => ?_]
  · exact p.e.fr b hb h
  · rcases p.f b (List.mem_append_left _ q) with z | z
    · exact hb z
    · exact h z
/-- an item of an owned list as a place -/
theorem pm_ix {xs : List OV} {i : Int} {j : Nat} {x : OV} {put : OV → Dl} (h : PM K to δ (.lst xs) put) (hi : PL K ti δ (.dat (.int i))) (hj : ixN xs.length i = some j) (hx : xs[j]? = some x) : PM K (tOp (rIX K) to ti) δ x (fun y => put (.lst (xs.set j y))) := fun σ G H S g s nd Q k =>
  h σ G H S g s nd _ fun u Sx Sr o p kk => by
    cases o with
    | @lst l vs _ T ha ga t =>
      refine hi σ G H S g s nd _ fun w Sy Sz oy py => ?_
      obtain ⟨ry, _⟩ := oy.datR
      cases ry
      obtain ⟨v, Si, Sq, b1, b2, b3, b4⟩ := t.get hx
      have pp : S.Perm (Si ++ ((l :: Sq) ++ Sr)) := by
        refine p.trans ?_
        have h1 : (l :: T).Perm (Si ++ (l :: Sq)) := (List.Perm.cons l b3).trans List.perm_middle.symm
        exact (List.Perm.append_right Sr h1).trans (by rw [List.append_assoc])
      refine .inl ⟨l, vs, i, v, rfl, rfl, .inl (.inl ha), ?_, k v Si ((l :: Sq) ++ Sr) b2 pp fun G' H' x' Sx' gg kp o' => ?_⟩
      · unfold L2.atI
        rw [t.len, hj]
        exact b1
      · obtain ⟨S', q1, q2⟩ := b4 G' H' x' v Sx' gg (fun b hb => kp b (List.mem_append_left _ (List.mem_cons_of_mem _ hb))) o'
        have e0 : vs.set j v = vs := by
          obtain ⟨hl, e⟩ := List.getElem?_eq_some_iff.mp b1
          rw [← e, List.set_getElem_self]
        rw [e0] at q2
        have ka := kp l (by simp)
        obtain ⟨S2, z1, z2⟩ := kk G' H' (.lst (xs.set j x')) (l :: S') gg (fun b hb => kp b (List.mem_append_right _ hb)) (.lst (by rw [ka.1]; exact ha) ka.2 q2)
        refine ⟨S2, z1.trans ?_, z2⟩
        have h1 : (l :: S').Perm (Sx' ++ (l :: Sq)) := (List.Perm.cons l q1).trans List.perm_middle.symm
        exact (List.Perm.append_right Sr h1).trans (by rw [List.append_assoc])
theorem wp_chain {a b c : Int} {p q : Bool} {r r' : R2} (ha : WP K ta δ (.int a)) (hb : WP K tb δ (.int b)) (hc : WP K tc δ (.int c)) (h1 : RP K r (.int a) (.int b) (.bl p)) (h2 : RP K r' (.int b) (.int c) (.bl q)) : WP K (tChain r r' ta tb tc) δ (.bl (p && q)) := fun σ G H S g s nd Q k =>
  ha σ G H S g s nd _ fun v G1 H1 e1 r1 => hb σ G1 H1 S e1.gh (s.ext e1) nd _ fun u G2 H2 e2 r2 => h1 G2 H2 v u e2.gh (r1.mono e2.gg) r2 _ fun w G3 H3 e3 r3 => by
    cases r3
    refine ⟨p, rfl, ?_⟩
    cases p with
    | false =>
      simp only [Bool.false_eq_true, if_false]
      exact k _ G3 H3 (e1.tr0 (e2.tr0 e3)) (.bl _)
    | true =>
      simp only [if_true]
      exact hc σ G3 H3 S e3.gh (((s.ext e1).ext e2).ext e3) nd _ fun w G4 H4 e4 r4 => h2 G4 H4 u w e4.gh ((r2.mono e3.gg).mono e4.gg) r4 Q fun z G5 H5 e5 r5 => k z G5 H5 (e1.tr0 (e2.tr0 (e3.tr0 (e4.tr0 e5)))) r5
/-- n - 1, .., 0 -/
def dnD (n : Nat) : List D := (List.range n).map fun (i : Nat) => D.int ((n : Int) - 1 + (i : Int) * (-1))
theorem dnD_len {n : Nat} : (dnD n).length = n := by simp [dnD]
theorem dnD_get {n i : Nat} (h : i < n) : (dnD n)[i]? = some (.int ((n : Int) - 1 - i)) := by
  simp [dnD, h]; omega
theorem wi_down {ta : TA} {n : Nat} (h : WPa K ta δ [.int ((n : Int) - 1), .int (-1), .int (-1)]) (h1 : n ≤ 1000000) : WI K (iRng3 ta) δ (dnD n) := fun σ G H S g s nd R k => h σ G H S g s nd _ fun vs G1 H1 e1 r1 => by
  obtain ⟨v, ws, rfl, a, b⟩ := r1.cases_cons
  obtain ⟨v', ws', rfl, a', b'⟩ := b.cases_cons
  obtain ⟨v2, ws2, rfl, a2, b2⟩ := b'.cases_cons
  rw [b2.cases_nil]
  cases a; cases a'; cases a2
  refine ⟨_, _, _, n, rfl, ?_, k _ G1 H1 e1 ?_⟩
  · have := RgC.neg (i := (n : Int) - 1) (j := -1) (by omega) (by omega) (by omega) (by omega)
    rwa [show ((n : Int) - 1 - -1).toNat = n by omega] at this
  · exact ⟨fun i H g hi => by rw [dnD_len] at hi; exact hi, fun H g => by rw [dnD_len]; exact Nat.le_refl _, fun i G' H x H' gg g hi y => by
      obtain ⟨rfl, rfl⟩ := y
      rw [dnD_len] at hi
      exact ⟨_, G', by simp only [dnD, List.getElem?_map, List.getElem?_range hi]; rfl, Ext.refl g, .int _⟩⟩
/-! ### a def that sets parameters anew -/
theorem own_back {G' H' : Hp} : ∀ {xs : List OV} {vs : List V} {δ' : Dl} {σ' : L2.St} {S' : List Addr} (W : Nat → Bool), Sta K G' H' δ' σ' S' → xs.length ≤ δ'.length → vs.length = xs.length →
    (∀ i, i < xs.length → W i = false → δ'[i]? = (xs.map some)[i]? ∧ σ'[i]? = (vs.map some)[i]?) → (∀ i x v, W i = true → xs[i]? = some x → vs[i]? = some v → ∃ d, x = .dat d ∧ Rep K G' v d) →
    ∃ Sa Sd, S'.Perm (Sa ++ Sd) ∧ OwnL K G' H' xs vs Sa
  | [], [], _, _, S', _, _, _, _, _, _ => ⟨[], S', List.Perm.refl _, .nil⟩
  | [], _ :: _, _, _, _, _, _, _, hl, _, _ => by simp at hl
  | _ :: _, [], _, _, _, _, _, _, hl, _, _ => by simp at hl
  | x :: xs, v :: vs, δ', σ', S', W, s, hd, hl, h1, h2 => by
    have tail : ∀ {δ : Dl} {σ : L2.St} {y : Option OV} {w : Option V} {S2 : List Addr}, δ' = y :: δ → σ' = w :: σ → Sta K G' H' δ σ S2 → ∃ Sa Sd, S2.Perm (Sa ++ Sd) ∧ OwnL K G' H' xs vs Sa := by
      rintro δ σ y w S2 rfl rfl s
      exact own_back (fun i => W (i + 1)) s (by simpa using hd) (by simpa using hl) (fun i hi hw => by
        have := h1 (i + 1) (by simpa using hi) hw
        simpa using this) (fun i x v hw hx hv => h2 (i + 1) x v hw (by simpa using hx) (by simpa using hv))
    cases s with
    | nil => simp at hd
    | un s =>
      obtain ⟨Sa, Sd, p, o⟩ := tail rfl rfl s
      have hw : W 0 = true := by
        cases q : W 0 with
        | true => rfl
        | false => have := (h1 0 (by simp) q).1; simp at this
      obtain ⟨d, rfl, r⟩ := h2 0 x v hw rfl rfl
      exact ⟨[] ++ Sa, Sd, p, .cons (.dat r) o⟩
    | @sl y w δ σ S T o s =>
      obtain ⟨Sa, Sd, p, ow⟩ := tail rfl rfl s
      cases q : W 0 with
      | true =>
        obtain ⟨d, rfl, r⟩ := h2 0 x v q rfl rfl
        refine ⟨[] ++ Sa, S ++ Sd, ?_, .cons (.dat r) ow⟩
        refine (List.Perm.append_left S p).trans ?_
        rw [List.nil_append, ← List.append_assoc, ← List.append_assoc]
        exact List.Perm.append_right Sd List.perm_append_comm
      | false =>
        obtain ⟨e1, e2⟩ := h1 0 (by simp) q
        obtain rfl : y = x := by simpa using e1
        obtain rfl : w = v := by simpa using e2
        exact ⟨S ++ Sa, Sd, by rw [List.append_assoc]; exact List.Perm.append_left S p, .cons o ow⟩
/-- parameters in W are set anew; their arguments are data -/
theorem body_ofR {spec : FS} {t : TS} {N : List PySem.Str} {np : Nat} (W : Nat → Bool) (hN : np ≤ N.length) (h : ∀ xs Φ, spec xs Φ → xs.length = np ∧ (∀ i x, W i = true → xs[i]? = some x → ∃ d, x = .dat d) ∧ WS K ((List.range np).filter fun i => !W i) t (xs.map some ++ List.replicate (N.length - np) none)
      { nx := fun δ' => δ'.length = N.length ∧ ∃ xs', xs'.length = np ∧ (∀ i, i < np → W i = false → δ'[i]? = (xs'.map some)[i]?) ∧ (∀ i, W i = true → xs'[i]? = xs[i]?) ∧ Φ (.dat .non) xs',
        rt := fun x δ' => δ'.length = N.length ∧ ∃ xs', xs'.length = np ∧ (∀ i, i < np → W i = false → δ'[i]? = (xs'.map some)[i]?) ∧ (∀ i, W i = true → xs'[i]? = xs[i]?) ∧ Φ x xs' }) :
    ∀ vs H Q E, toSp K spec vs H Q E → t { nx := fun _ H' => Q .non H', rt := Q } (L2.start N vs) H := by
  rintro vs H Q E ⟨G, xs, S, Φ, g, ow, nd, hs, k⟩
  obtain ⟨hl, hW, w⟩ := h xs Φ hs
  have hvl := ow.len
  have st : ∀ {xs : List OV} {vs : List V} {S : List Addr} (m : Nat), OwnL K G H xs vs S → Sta K G H (xs.map some ++ List.replicate m none) (vs.map some ++ List.replicate m none) S := by
    intro xs
    induction xs with
    | nil =>
      intro vs S m o
      cases o
      induction m with
      | zero => exact .nil
      | succ m ih => exact .un (by simpa using ih)
    | cons x xs ih =>
      intro vs S m o
      cases o with
      | cons o1 o2 => exact .sl o1 (ih m o2)
  have s0 : Sta K G H (xs.map some ++ List.replicate (N.length - np) none) (L2.start N vs) S := by
    have := st (N.length - np) ow
    unfold L2.start
    rw [show N.length - vs.length = N.length - np by rw [hvl, hl]]
    exact this
  have back : ∀ {δ' : Dl} {σ' : L2.St} {G' H' : Hp} {S' : List Addr} {xs' : List OV}, Same G G' → Sta K G' H' δ' σ' S' → δ'.length = N.length → xs'.length = np → (∀ i, i < np → W i = false → δ'[i]? = (xs'.map some)[i]?) → (∀ i, W i = true → xs'[i]? = xs[i]?) →
      (∀ i ∈ (List.range np).filter (fun i => !W i), σ'[i]? = (L2.start N vs)[i]?) → ∃ Sa Sd, S'.Perm (Sa ++ Sd) ∧ OwnL K G' H' xs' vs Sa := by
    intro δ' σ' G' H' S' xs' gg s' hdl hxl e1 e2 pp
    refine own_back W s' (by omega) (by omega) (fun i hi hw => ⟨e1 i (by omega) hw, ?_⟩) fun i x v hw hx hv => ?_
    · rw [pp i (by simp [hw]; omega)]
      unfold L2.start
      rw [List.getElem?_append_left (by rw [List.length_map]; omega)]
    · rw [e2 i hw] at hx
      obtain ⟨d, rfl⟩ := hW i x hw hx
      obtain ⟨v', Si, Sr, b1, b2, _⟩ := ow.get hx
      rw [hv] at b1
      obtain rfl := Option.some.inj b1
      exact ⟨d, rfl, (b2.datR).1.mono gg⟩
  refine w _ G H S g s0 nd _ (fun δ' σ' G' H' S' a p => ?_) (fun v x δ' σ' G' H' Sx S' a p => ?_) (fun _ _ _ _ _ a _ => a.elim) (fun _ _ _ _ _ a _ => a.elim)
  · obtain ⟨hdl, xs', hxl, e1, e2, a⟩ := a
    obtain ⟨Sa, Sd, pp, ow'⟩ := back p.e.gg p.s hdl hxl e1 e2 p.p
    refine k .non _ xs' G' H' [] Sa a p.e (.dat .non) ow' (by simpa using nd_left (nd_perm pp p.n)) fun b hb => p.f b (pp.mem_iff.mpr (List.mem_append_left _ (by simpa using hb)))
  · obtain ⟨hdl, xs', hxl, e1, e2, a⟩ := a
    obtain ⟨Sa, Sd, pp, ow'⟩ := back p.e.gg p.s hdl hxl e1 e2 p.p
    have n2 : (Sx ++ (Sa ++ Sd)).Nodup := nd_perm (List.Perm.append_left Sx pp) p.n
    refine k v x xs' G' H' Sx Sa a p.e p.o ow' ?_ fun b hb => p.f b ?_
    · rw [← List.append_assoc] at n2
      exact nd_left n2
    · rcases List.mem_append.mp hb with z | z
      · exact List.mem_append_left _ z
      · exact List.mem_append_right _ (pp.mem_iff.mpr (List.mem_append_left _ z))
/-- {k: True for k in q}, q an owned list of ints -/
theorem we_dcKeys {ns : List Int} {i j : Nat} {Φ : OV → Dl → Prop} (hj : δ[j]? = some (some (.lst ((ns.map D.int).map OV.dat)))) (hi : δ[i]? = some none) (hl : ns.length ≤ 1000000)
    (q : Φ (dicK (ns.foldl (fun acc n => pK acc (.inl n) (.bl true)) [])) δ) : WE K (tDc (iSEQ K (tVar j)) (gName i) tYes (tVar i) (tC (.bl true)) [i]) δ Φ := fun σ G H S g s nd Q k => by
  obtain ⟨v, Si, Sr, g1, g2, g3, g4⟩ := s.get hj
  have hil : i < σ.length := by rw [← s.length]; exact get_lt hi
  cases g2 with
  | @lst a vs _ T ha ga t =>
    have rr := (ownL_rep t).1
    have hv := vints rr
    subst hv
    refine .inl ⟨.ref a, g1, a, rfl, ⟨_, .inl (.inl ha)⟩, fun Dd hD => ?_⟩
    have hDa : Dd ≠ a := fun e => by rw [e, ha] at hD; cases hD
    let kd : Nat → List (Key × V) := fun i => (ns.take i).foldl (fun acc n => putK acc (.inl n) (.bl true)) []
    have sq : ∀ o, SqL K (upd H Dd o) a (ns.map V.int) := fun o => .inl (.inl (by rw [upd_ne (fun e => hDa e.symm)]; exact ha))
    have kdl : ∀ i, (kd i).length ≤ i := by
      have : ∀ (l : List Int) (acc : List (Key × V)), (l.foldl (fun acc n => putK acc (.inl n) (.bl true)) acc).length ≤ acc.length + l.length := by
        intro l
        induction l with
        | nil => intro acc; simp
        | cons n l ih =>
          intro acc
          have h1 := ih (putK acc (.inl n) (.bl true))
          have h2 : (putK acc (Sum.inl n : Key) (V.bl true)).length ≤ acc.length + 1 := by unfold putK; split <;> simp
          rw [List.foldl_cons, List.length_cons]
          omega
      intro i
      have := this (ns.take i) []
      simp at this
      exact Nat.le_trans this (by omega)
    refine ⟨fun p m H' => m = ns.length - p ∧ p ≤ ns.length ∧ H' = upd H Dd (.dK (kd p)), ⟨_, rfl, Nat.zero_le _, rfl⟩, ?_⟩
    rintro p m H' ⟨rfl, hp, rfl⟩
    by_cases hlt : p < ns.length
    · refine .inr ⟨⟨_, .int ns[p], sq _, by simp [hlt]⟩, fun H' => H' = upd H Dd (.dK (kd (p + 1))), fun H' e => ⟨_, by omega, rfl, hlt, e⟩, fun x H2 y => ?_⟩
      obtain ⟨rfl, y⟩ := y
      have hx : some (V.int ns[p]) = some x := by rw [← y _ (sq _)]; simp [hlt]
      obtain rfl := Option.some.inj hx
      refine ⟨?_, .int ns[p], ?_, kd p, .inl ns[p], rfl, upd_same, Nat.lt_of_le_of_lt (kdl p) (Nat.lt_of_lt_of_le hlt (Nat.le_trans hl (by decide))), ?_⟩
      · show ((σ.set i none).set i (some (V.int ns[p]))).set i none = σ.set i none
        rw [List.set_set, List.set_set]
      · show ((σ.set i none).set i (some (V.int ns[p])))[i]? = some (some (V.int ns[p]))
        rw [List.set_set, List.getElem?_set_self hil]
      · rw [upd_upd]
        congr 2
        show _ = (ns.take (p + 1)).foldl _ _
        rw [List.take_add_one, List.getElem?_eq_getElem hlt, List.foldl_append]
        rfl
    · have e : p = ns.length := by omega
      subst e
      refine .inl ⟨⟨_, sq _, by simp⟩, ?_⟩
      have e := Ext.newO (o := .dK (kd ns.length)) g hD
      have st := s.ext e
      have hpS : Dd ∉ S := fun h => (s.foot Dd h).1 hD
      have rel : KRel (K := K) G (kd ns.length) (ns.foldl (fun acc n => pK acc (.inl n) (.bl true)) []) := by
        show KRel (K := K) G ((ns.take ns.length).foldl _ _) _
        rw [List.take_length]
        have : ∀ (l : List Int) (acc : List (Key × V)) (os : List (Key × D)), KRel (K := K) G acc os → KRel (K := K) G (l.foldl (fun acc n => putK acc (.inl n) (.bl true)) acc) (l.foldl (fun acc n => pK acc (.inl n) (.bl true)) os) := by
          intro l
          induction l with
          | nil => intro acc os h; exact h
          | cons n l ih => intro acc os h; exact ih _ _ (h.put (.bl true))
        exact this ns [] [] ⟨rfl, .nil⟩
      exact k (.ref Dd) _ δ G _ [Dd] S q ⟨e.pure, dicK_own upd_same (g.free hD) rel, st, by simpa using ⟨hpS, nd⟩, fun b hb => by
        rcases List.mem_append.mp hb with h | h
        · exact .inr (by rw [List.mem_singleton.mp h]; exact hD)
        · exact .inl h⟩
end
end Pw
namespace Pw
open PySem PySem.Spec L2
section
variable {K : PySem.W.Frag} {δ : Dl} {te ta tb tc to ti tv td ty : TE} {P : List Nat} {ts : TS}
theorem Ext.sub {S S' : List Addr} {G H G' H' : Hp} (e : Ext S' G H G' H') (k : ∀ b ∈ S', b ∈ S) : Ext S G H G' H' :=
  ⟨e.gg, e.gh, fun b o hb h => e.kp b o (fun q => hb (k b q)) h, e.dm, fun b hb h => e.fr b (fun q => hb (k b q)) h⟩
/-- a slot is no longer known -/
theorem ws_un {Ψ : En} (i : Nat) (w : WS K P ts (δ.set i none) Ψ) : WS K P ts δ Ψ := fun σ G H S g s nd D k1 k2 k3 k4 => by
  obtain ⟨Si, Sr, p, s'⟩ := s.drop i
  have k : ∀ b ∈ Sr, b ∈ S := fun b hb => p.mem_iff.mpr (List.mem_append_right _ hb)
  refine w σ G H Sr g s' (nd_right (nd_perm p nd)) D (fun δ2 σ2 G2 H2 S2 z q => k1 δ2 σ2 G2 H2 S2 z ⟨q.e.sub k, q.s, q.n, fun b hb => (q.f b hb).imp (k b) id, q.p⟩)
    (fun v x δ2 σ2 G2 H2 Sx S2 z q => k2 v x δ2 σ2 G2 H2 Sx S2 z ⟨q.e.sub k, q.o, q.s, q.n, fun b hb => (q.f b hb).imp (k b) id, q.p⟩)
    (fun δ2 σ2 G2 H2 S2 z q => k3 δ2 σ2 G2 H2 S2 z ⟨q.e.sub k, q.s, q.n, fun b hb => (q.f b hb).imp (k b) id, q.p⟩)
    (fun δ2 σ2 G2 H2 S2 z q => k4 δ2 σ2 G2 H2 S2 z ⟨q.e.sub k, q.s, q.n, fun b hb => (q.f b hb).imp (k b) id, q.p⟩)
theorem wt_yes : WTp K tYes δ true := fun σ G H S g s n Q k => k G H (Ext.refl g)
theorem eqv_int {a b : Int} : (D.int a).eqv (.int b) = decide (a = b) := by
  show PyData.eqv (.int a) (.int b) = _
  simp only [PyData.eqv]
  by_cases h : a = b <;> simp [h]
theorem eqv_str {a b : PySem.Str} : (D.str a).eqv (.str b) = decide (a = b) := by
  show PyData.eqv (.str a) (.str b) = _
  simp only [PyData.eqv]
  by_cases h : a = b <;> simp [h]
theorem any_int {l : List Int} {x : Int} : ((l.map D.int).any fun z => z.eqv (.int x)) = decide (x ∈ l) := by
  induction l with
  | nil => simp
  | cons y l ih =>
    rw [List.map_cons, List.any_cons, ih, eqv_int]
    by_cases h : y = x
    · simp [h]
    · have h2 : ¬ x = y := fun e => h e.symm
      simp [h, h2]
theorem okL_ints {l : List Int} {n : Nat} : D.okL n (l.map D.int) = true := by
  induction l with
  | nil => simp [D.okL]
  | cons x l ih => rw [List.map_cons, D.okL, ih]; cases n <;> rfl
theorem rp_in_tupI {x : Int} {l : List Int} : RP K (rIN K) (.int x) (.tup (l.map D.int)) (.bl (decide (x ∈ l))) := by
  rw [← any_int]
  exact rp_in_tup (n := 1) (m := 1) rfl okL_ints
theorem rp_in_lstI {x : Int} {l : List Int} : RP K (rIN K) (.int x) (.lst (l.map D.int)) (.bl (decide (x ∈ l))) := by
  rw [← any_int]
  exact rp_in_lst (n := 1) (m := 1) rfl okL_ints
theorem wt_andF {t u : TT} {a : Bool} (h1 : WTp K t δ a) (h : a = false) : WTp K (tAnd t u) δ false := (wt_and (b := false) h1 (fun q => absurd q (by rw [h]; simp))).to (Bool.and_false _)
theorem get_ints {l : List Int} {i : Nat} (h : i < l.length) : L2.atI (l.map D.int) (i : Int) = some (.int l[i]) := atI_nat (by simp [h])
end
end Pw
namespace Pw
open PySem PySem.Spec L2
section
variable {K : PySem.W.Frag} {δ : Dl} {te ta tb tc to ti tv td ty : TE} {P : List Nat} {ts : TS}
/-- a statement behind what an expression did -/
theorem WS.behind {Ψ : En} {δ1 : Dl} {σ : L2.St} {G H G1 H1 : Hp} {S S1 : List Addr} {D : Ends} (w : WS K P ts δ1 Ψ) (e : Ext S G H G1 H1) (s1 : Sta K G1 H1 δ1 σ S1) (n1 : S1.Nodup) (f : Frs S S1 H)
    (k1 : ∀ δ' σ' G' H' S', Ψ.nx δ' → PostS K P S σ G H δ' σ' G' H' S' → D.nx σ' H') (k2 : ∀ v x δ' σ' G' H' Sx S', Ψ.rt x δ' → PostR K P S σ G H v x δ' σ' G' H' Sx S' → D.rt v H')
    (k3 : ∀ δ' σ' G' H' S', Ψ.bk δ' → PostS K P S σ G H δ' σ' G' H' S' → D.bk σ' H') (k4 : ∀ δ' σ' G' H' S', Ψ.ct δ' → PostS K P S σ G H δ' σ' G' H' S' → D.ct σ' H') : ts D σ H1 :=
  w σ G1 H1 S1 e.gh s1 n1 D (fun δ' σ' G' H' S' a q => k1 δ' σ' G' H' S' a ⟨e.trans q.e f, q.s, q.n, f.trans e q.f, q.p⟩)
    (fun v x δ' σ' G' H' Sx S' a q => k2 v x δ' σ' G' H' Sx S' a ⟨e.trans q.e f, q.o, q.s, q.n, f.trans e q.f, q.p⟩)
    (fun δ' σ' G' H' S' a q => k3 δ' σ' G' H' S' a ⟨e.trans q.e f, q.s, q.n, f.trans e q.f, q.p⟩) (fun δ' σ' G' H' S' a q => k4 δ' σ' G' H' S' a ⟨e.trans q.e f, q.s, q.n, f.trans e q.f, q.p⟩)
def iCon (J : It) : TI := fun _ H R => R J H
theorem wi_itr {lo : Int} {n : Nat} : WI K (iCon (Itr lo n)) δ (rgD lo n) := fun σ G H S g s nd R k => k _ G H (Ext.refl g) itOk_range
theorem ws_forRg {g : TG} {tb : TS} {Ψ : En} (h : WE K te δ fun x δ1 => ∃ j : Int, x = .dat (.int j) ∧ -1000000 ≤ j ∧ j ≤ 1000000 ∧ WS K P (tFor (iCon (Itr 0 j.toNat)) g tb) δ1 Ψ) : WS K P (tFor (iRng1 (tCons te tNil)) g tb) δ Ψ := fun σ G H S gg s nd D k1 k2 k3 k4 =>
  h σ G H S gg s nd _ fun v x δ1 G1 H1 Sx S1 a p => by
    obtain ⟨j, rfl, b1, b2, w⟩ := a
    obtain ⟨r, rfl⟩ := p.o.datR
    cases r
    exact ⟨j, rfl, by omega, by omega, w.behind p.e p.s (by simpa using p.n) (by simpa using p.f) k1 k2 k3 k4⟩
theorem we_lcRg {g : TG} {tt : TT} {tl : TE} {vs : List Nat} {Φ : OV → Dl → Prop} (h : WE K te δ fun x δ1 => ∃ j : Int, x = .dat (.int j) ∧ -1000000 ≤ j ∧ j ≤ 1000000 ∧ WE K (tLc (iCon (Itr 0 j.toNat)) g tt tl vs) δ1 Φ) : WE K (tLc (iRng1 (tCons te tNil)) g tt tl vs) δ Φ := fun σ G H S gg s nd Q k =>
  h σ G H S gg s nd _ fun v x δ1 G1 H1 Sx S1 a p => by
    obtain ⟨j, rfl, b1, b2, w⟩ := a
    obtain ⟨r, rfl⟩ := p.o.datR
    cases r
    have f : Frs S S1 H := by simpa using p.f
    exact ⟨j, rfl, by omega, by omega, w σ G1 H1 S1 p.e.gh p.s (by simpa using p.n) Q fun v x δ2 G2 H2 Sy S2 a q => k v x δ2 G2 H2 Sy S2 a ⟨p.e.trans q.e f, q.o, q.s, q.n, f.trans p.e q.f⟩⟩
theorem ws_unpackE {g : TG} {Ψ : En} (h : WE K te δ fun x δ1 => ∃ d, x = .dat d ∧ WG K P g d δ1 Ψ.nx) : WS K P (tAsg te g) δ Ψ := fun σ G H S gg s nd D k1 k2 k3 k4 =>
  h σ G H S gg s nd _ fun v x δ1 G1 H1 Sx S1 a p => by
    obtain ⟨d, rfl, w⟩ := a
    obtain ⟨r, rfl⟩ := p.o.datR
    have f : Frs S S1 H := by simpa using p.f
    refine w σ G1 H1 S1 v p.e.gh p.s (by simpa using p.n) r _ fun σ2 δ2 S2 q s2 n2 sub pp => ?_
    exact k1 δ2 σ2 G1 H1 S2 q ⟨p.e, s2, n2, fun b hb => f b (sub b hb), pp⟩
end
end Pw
namespace Hd
open PySem PySem.Spec PyProof.Rows L2
def topS (i : Nat) : Stmt := PySem.Challenge.pw_placewords_k56_whole_widths.main.body.getD i (.Pass ⟨0, 0, 0, 0⟩)
abbrev s_fits : Stmt := topS 6
abbrev s_Alphabet___init__ : Stmt := inClass (topS 7) 0
abbrev s_independent : Stmt := topS 8
abbrev s_below_all : Stmt := topS 10
abbrev s_pairs_of : Stmt := topS 12
abbrev s_Matching___init__ : Stmt := inClass (topS 13) 0
abbrev s_Matching_grow : Stmt := inClass (topS 13) 1
abbrev s_Matching_change : Stmt := inClass (topS 13) 2
abbrev s_Matching_rows : Stmt := inClass (topS 13) 3
abbrev s_Matching_apart : Stmt := inClass (topS 13) 4
abbrev s_widest : Stmt := topS 14
abbrev s_law_draws : Stmt := topS 16
abbrev s_law_take : Stmt := topS 17
abbrev s_law_is_integer : Stmt := topS 18
abbrev s_law_alphabet : Stmt := topS 19
abbrev s_law_free : Stmt := topS 20
abbrev s_law_word : Stmt := topS 21
abbrev s_law_below : Stmt := topS 22
abbrev s_law : Stmt := topS 23
def d_fits : He.DefD := ⟨("fits", none), "fits", "fits", defArgs s_fits, defBody s_fits, defScope s_fits, [], []⟩
def d_Alphabet___init__ : He.DefD := ⟨("Alphabet", some "__init__"), "__init__", "Alphabet.__init__", defArgs s_Alphabet___init__, defBody s_Alphabet___init__, defScope s_Alphabet___init__, [], []⟩
def d_independent : He.DefD := ⟨("independent", none), "independent", "independent", defArgs s_independent, defBody s_independent, defScope s_independent, [], []⟩
def d_below_all : He.DefD := ⟨("below_all", none), "below_all", "below_all", defArgs s_below_all, defBody s_below_all, defScope s_below_all, [], []⟩
def d_pairs_of : He.DefD := ⟨("pairs_of", none), "pairs_of", "pairs_of", defArgs s_pairs_of, defBody s_pairs_of, defScope s_pairs_of, [], []⟩
def d_Matching___init__ : He.DefD := ⟨("Matching", some "__init__"), "__init__", "Matching.__init__", defArgs s_Matching___init__, defBody s_Matching___init__, defScope s_Matching___init__, [], []⟩
def d_Matching_grow : He.DefD := ⟨("Matching", some "grow"), "grow", "Matching.grow", defArgs s_Matching_grow, defBody s_Matching_grow, defScope s_Matching_grow, [], []⟩
def d_Matching_change : He.DefD := ⟨("Matching", some "change"), "change", "Matching.change", defArgs s_Matching_change, defBody s_Matching_change, defScope s_Matching_change, [], []⟩
def d_Matching_rows : He.DefD := ⟨("Matching", some "rows"), "rows", "Matching.rows", defArgs s_Matching_rows, defBody s_Matching_rows, defScope s_Matching_rows, [], []⟩
def d_Matching_apart : He.DefD := ⟨("Matching", some "apart"), "apart", "Matching.apart", defArgs s_Matching_apart, defBody s_Matching_apart, defScope s_Matching_apart, [], []⟩
def d_widest : He.DefD := ⟨("widest", none), "widest", "widest", defArgs s_widest, defBody s_widest, defScope s_widest, [], []⟩
def d_law_draws : He.DefD := ⟨("_law_draws", none), "_law_draws", "_law_draws", defArgs s_law_draws, defBody s_law_draws, defScope s_law_draws, [], []⟩
def d_law_take : He.DefD := ⟨("_law_take", none), "_law_take", "_law_take", defArgs s_law_take, defBody s_law_take, defScope s_law_take, [], []⟩
def d_law_is_integer : He.DefD := ⟨("_law_is_integer", none), "_law_is_integer", "_law_is_integer", defArgs s_law_is_integer, defBody s_law_is_integer, defScope s_law_is_integer, [], []⟩
def d_law_alphabet : He.DefD := ⟨("_law_alphabet", none), "_law_alphabet", "_law_alphabet", defArgs s_law_alphabet, defBody s_law_alphabet, defScope s_law_alphabet, [], []⟩
def d_law_free : He.DefD := ⟨("_law_free", none), "_law_free", "_law_free", defArgs s_law_free, defBody s_law_free, defScope s_law_free, [], []⟩
def d_law_word : He.DefD := ⟨("_law_word", none), "_law_word", "_law_word", defArgs s_law_word, defBody s_law_word, defScope s_law_word, [], []⟩
def d_law_below : He.DefD := ⟨("_law_below", none), "_law_below", "_law_below", defArgs s_law_below, defBody s_law_below, defScope s_law_below, [], []⟩
def d_law : He.DefD := ⟨("law", none), "law", "law", defArgs s_law, defBody s_law, defScope s_law, [], []⟩
def fn : List He.DefD := [d_fits, d_Alphabet___init__, d_independent, d_below_all, d_pairs_of, d_Matching___init__, d_Matching_grow, d_Matching_change, d_Matching_rows, d_Matching_apart, d_widest, d_law_draws, d_law_take, d_law_is_integer, d_law_alphabet, d_law_free, d_law_word, d_law_below, d_law]
def fa : List He.Fa := [.free "len", .free "range", .free "int", .free "list", .free "tuple", .free "sorted", .free "set", .free "isinstance", .free "bool", .free "ValueError", .glo "fits", .glo "independent", .glo "below_all", .glo "pairs_of", .glo "widest", .glo "_law_draws", .glo "_law_take", .glo "_law_is_integer", .glo "_law_alphabet", .glo "_law_free", .glo "_law_word", .glo "_law_below", .glo "law", .int "MOST_PLACES" (4), .int "MOST_LETTERS" (6), .glo "PlaceError", .glo "InvalidAlphabet", .glo "Alphabet", .cls "Alphabet", .noat "Alphabet" "letters", .noat "Alphabet" "places", .mkr "Alphabet", .glo "Matching", .cls "Matching", .noat "Matching" "following", .noat "Matching" "later", .noat "Matching" "leading", .mkr "Matching", .meth "Matching" "grow", .meth "Matching" "change", .meth "Matching" "rows", .meth "Matching" "apart"]
def ts : List He.Tab := []
def names0 : List PySem.Str := ["PlaceError", "InvalidAlphabet", "MOST_PLACES", "MOST_LETTERS", "fits", "Alphabet", "independent", "below_all", "pairs_of", "Matching", "widest", "_law_draws", "_law_take", "_law_is_integer", "_law_alphabet", "_law_free", "_law_word", "_law_below"]
def names : List PySem.Str := names0
def ex (K : PySem.W.Frag) : Bool := true
abbrev R : PySem.W.OpenRow := PySem.W.OpenLaw.row PySem.Challenge.rw_placewords_k56_whole_widths
abbrev hk : PySem.W.Hook := He.hookX 6 fa fn ts [] ex
def ob (s : PySem.W.SharedT) : He.AlX := He.obsX 6 fa fn ts [] ex (HandSHeadRun.getT s)
theorem ob_eq (s : PySem.W.SharedT) : ob s = hk.obs s.abs := He.obsX_eq (HandSHeadRun.getT_eq s)
theorem run (w : World) : HandSHeadRun.RunEq R (PySem.W.view R.prog [23]) hk ob 9000 names w :=
  PySem.W.byRow2 "special-get-raises" (P := fun w => HandSHeadRun.RunEq R (PySem.W.view R.prog [23]) hk ob 9000 names w) (fun w => by intro os; kernel_rfl) (fun w => by intro os; kernel_rfl) w
end Hd
namespace Gn
open PySem PySem.Spec L2 Pw
section
variable {P : Program} {w : World} {K : PySem.W.Frag} {mg : PySem.Str → Option Value} {base : Heap}
/-! ### fits: 0 letter 1 places 2 k -/
def N_fits : List PySem.Str := [("letter" : PySem.Str), ("places" : PySem.Str), ("k" : PySem.Str)]
theorem sc_fits : FnScope N_fits [("letter" : PySem.Str), ("places" : PySem.Str)] (defScope Hd.s_fits) := ⟨rfl, rfl, rfl, by decide +kernel, rfl, by decide +kernel, by decide +kernel⟩
def t_fits (K : PySem.W.Frag) : TS := (tSeq (tIfS (tTest (tOp (rEQ K) (tCB (rLEN K) (tCons (tVar 0) tNil)) (tC (.int 0)))) (tRet (tC (.bl false))) tNext) (tSeq (tFor (iRng1 (tCons (tCB (rLEN K) (tCons (tVar 0) tNil)) tNil)) (gName 2) (tIfS (tOr (tTest (tOp (rLT K) (tOp (rIX K) (tVar 0) (tVar 2)) (tC (.int 0)))) (tOr (tTest (tOp rGE (tOp (rIX K) (tVar 0) (tVar 2)) (tVar 1))) (tAnd (tTest (tOp rGT (tVar 2) (tC (.int 0)))) (tTest (tOp rLE (tOp (rIX K) (tVar 0) (tVar 2)) (tOp (rIX K) (tVar 0) (tOp rSUB (tVar 2) (tC (.int 1))))))))) (tRet (tC (.bl false))) tNext)) (tRet (tC (.bl true)))))
theorem ok_fits {k : Nat} {spc : FS} (b_len : mg ("len" : PySem.Str) = none) (b_range : mg ("range" : PySem.Str) = none) (len : ∀ xs Φ, spc xs Φ → xs.length = 2)
    (rd : ∀ vs H Q E, toSp K spc vs H Q E → t_fits K { nx := fun _ H' => Q .non H', rt := Q } (L2.start N_fits vs) H) {f : Addr} {fd : FuncData} (F : FunD K "fits" "fits" (defArgs Hd.s_fits) (defBody Hd.s_fits) (defScope Hd.s_fits) [] [] f fd) : FnOk P w K mg base CX0 (k + 1) f fd [("letter" : PySem.Str), ("places" : PySem.Str)] (toSp K spc) := by
  refine F.ok sc_fits (sp_len len) (fun cdv A outer s H vs Q E hr h => ⟨t_fits K, PSs.nox ?_, rd vs H Q E h⟩)
  have hu := hu65 hr
  have nd := sc_fits.nd
  exact (pss_cons (ps_if (pt_cmpR (op_EQ hu) (pe_callB call_LEN (by rfl) b_len (by decide +kernel) (pa_cons (pv 0) pa_nil)) pe_int (nomark _)) (pss_one (ps_ret pe_bl)) pss_nil) (pss_cons (ps_for PassesOwn.never rfl (pi_range1 rfl b_range (pa_cons (pe_callB call_LEN (by rfl) b_len (by decide +kernel) (pa_cons (pv 0) pa_nil)) pa_nil)) (pg_name (i := 2) nd rfl (by first | exact Or.inl rfl | exact Or.inr rfl)) (pss_one (ps_if (PW.pt (pw_or (pt_cmpR (op_LT hu) (pe_ix ix_IX (pv 0) (pv 2) (fun _ _ => rfl)) pe_int (nomark _)) (pw_or (pt_cmpR op_GE (pe_ix ix_IX (pv 0) (pv 2) (fun _ _ => rfl)) (pv 1) (nomark _)) (pw_or1 (PW.pt (pw_and (pt_cmpR op_GT (pv 2) pe_int (nomark _)) (pw_and1 (pt_cmpR op_LE (pe_ix ix_IX (pv 0) (pv 2) (fun _ _ => rfl)) (pe_ix ix_IX (pv 0) (pe_op op_SUB (pv 2) pe_int) (fun _ _ => rfl)) (nomark _))))))))) (pss_one (ps_ret pe_bl)) pss_nil))) (pss_one (ps_ret pe_bl))))
/-! ### Alphabet.__init__: 0 self 1 places 2 letters 3 valid 4 letter -/
def N_Alphabet___init__ : List PySem.Str := [("self" : PySem.Str), ("places" : PySem.Str), ("letters" : PySem.Str), ("valid" : PySem.Str), ("letter" : PySem.Str)]
theorem sc_Alphabet___init__ : FnScope N_Alphabet___init__ [("self" : PySem.Str), ("places" : PySem.Str), ("letters" : PySem.Str)] (defScope Hd.s_Alphabet___init__) := ⟨rfl, rfl, rfl, by decide +kernel, rfl, by decide +kernel, by decide +kernel⟩
def t_Alphabet___init__ (K : PySem.W.Frag) (S_fits : Sp) : TS := (tSeq (tAsg (tAndV (tChain rLE rLE (tC (.int 1)) (tVar 1) (tC (.int (4)))) (tChain rLE rLE (tC (.int 1)) (tCB (rLEN K) (tCons (tVar 2) tNil)) (tC (.int (6))))) (gName 3)) (tSeq (tFor (iSEQ K (tVar 2)) (gName 4) (tAsg (tAndV (tVar 3) (tCall S_fits [] E0 (tCons (tVar 4) (tCons (tVar 1) tNil)))) (gName 3))) (tSeq (tIfS (tNot (tTRU K (tVar 3))) tNever tNext) (tSeq (sFld K (tVar 0) (tVar 1) ("places" : PySem.Str)) (sFld K (tVar 0) (tCB (rTUPLE K) (tCons (tLc (iSEQ K (tVar 2)) (gName 4) tYes (tCB (rTUPLE K) (tCons (tVar 4) tNil)) [4]) tNil)) ("letters" : PySem.Str))))))
theorem ok_Alphabet___init__ {S_fits : Sp} {j_fits : Nat} {k : Nat} {spc : FS} (c_MOST_PLACES : ∃ t, mg ("MOST_PLACES" : PySem.Str) = some (.int (4) t)) (b_len : mg ("len" : PySem.Str) = none) (c_MOST_LETTERS : ∃ t, mg ("MOST_LETTERS" : PySem.Str) = some (.int (6) t)) (h_fits : Has P w K mg base j_fits ("fits" : PySem.Str) [("letter" : PySem.Str), ("places" : PySem.Str)] S_fits) (b_tuple : mg ("tuple" : PySem.Str) = none) (l_j_fits : j_fits ≤ k) (len : ∀ xs Φ, spc xs Φ → xs.length = 3)
    (rd : ∀ vs H Q E, toSp K spc vs H Q E → t_Alphabet___init__ K S_fits { nx := fun _ H' => Q .non H', rt := Q } (L2.start N_Alphabet___init__ vs) H) {f : Addr} {fd : FuncData} (F : FunD K "__init__" "Alphabet.__init__" (defArgs Hd.s_Alphabet___init__) (defBody Hd.s_Alphabet___init__) (defScope Hd.s_Alphabet___init__) [] [] f fd) : FnOk P w K mg base CX0 (k + 1) f fd [("self" : PySem.Str), ("places" : PySem.Str), ("letters" : PySem.Str)] (toSp K spc) := by
  refine F.ok sc_Alphabet___init__ (sp_len len) (fun cdv A outer s H vs Q E hr h => ⟨t_Alphabet___init__ K S_fits, PSs.nox ?_, rd vs H Q E h⟩)
  have hu := hu65 hr
  have nd := sc_Alphabet___init__.nd
  exact (pss_cons (ps_set (i := 3) nd rfl (by first | exact Or.inl rfl | exact Or.inr rfl) (pe_and (pe_chain op_LE op_LE pe_int (pv 1) (pe_gint rfl c_MOST_PLACES)) (pe_one (pe_chain op_LE op_LE pe_int (pe_callB call_LEN (by rfl) b_len (by decide +kernel) (pa_cons (pv 2) pa_nil)) (pe_gint rfl c_MOST_LETTERS))))) (pss_cons (ps_for PassesOwn.never rfl (pi_SEQ (pv 2)) (pg_name (i := 4) nd rfl (by first | exact Or.inl rfl | exact Or.inr rfl)) (pss_one (ps_set (i := 3) nd rfl (by first | exact Or.inl rfl | exact Or.inr rfl) (pe_and (pv 3) (pe_one (pe_callH h_fits (hr.mono l_j_fits) rfl (pa_cons (pv 4) (pa_cons (pv 1) pa_nil)))))))) (pss_cons (ps_if (pt_not (pt_truth (pv 3) (by intro _; rfl))) (pss_one ps_never) pss_nil) (pss_cons (ps_fld (pv 0) (pv 1) rfl) (pss_one (ps_fld (pv 0) (pe_callTy call_TUPLE (by rfl) b_tuple (by decide +kernel) (pa_cons (pe_lc (own := [(("letter" : PySem.Str), 4)]) rfl nd (pi_SEQ (pv 2)) (blkOk_by (N := N_Alphabet___init__) (by kernel_rfl)) (fun _ _ _ _ _ => (pg_name (i := 4) nd rfl (by first | exact Or.inl rfl | exact Or.inr rfl))) (fun _ _ _ _ _ => pts_nil) (fun _ _ _ _ _ => (pe_callTy call_TUPLE (by rfl) b_tuple (by decide +kernel) (pa_cons (pv 4) pa_nil)))) pa_nil)) rfl))))))
/-! ### independent: 0 alphabet 1 first 2 second 3 place -/
def N_independent : List PySem.Str := [("alphabet" : PySem.Str), ("first" : PySem.Str), ("second" : PySem.Str), ("place" : PySem.Str)]
theorem sc_independent : FnScope N_independent [("alphabet" : PySem.Str), ("first" : PySem.Str), ("second" : PySem.Str)] (defScope Hd.s_independent) := ⟨rfl, rfl, rfl, by decide +kernel, rfl, by decide +kernel, by decide +kernel⟩
def t_independent (K : PySem.W.Frag) : TS := (tSeq (tFor (iSEQ K (tOp (rIX K) (tFld K (tVar 0) ("letters" : PySem.Str)) (tVar 1))) (gName 3) (tIfS (tTest (tOp (rIN K) (tVar 3) (tOp (rIX K) (tFld K (tVar 0) ("letters" : PySem.Str)) (tVar 2)))) (tRet (tC (.bl false))) tNext)) (tRet (tC (.bl true))))
theorem ok_independent {k : Nat} {spc : FS} (len : ∀ xs Φ, spc xs Φ → xs.length = 3)
    (rd : ∀ vs H Q E, toSp K spc vs H Q E → t_independent K { nx := fun _ H' => Q .non H', rt := Q } (L2.start N_independent vs) H) {f : Addr} {fd : FuncData} (F : FunD K "independent" "independent" (defArgs Hd.s_independent) (defBody Hd.s_independent) (defScope Hd.s_independent) [] [] f fd) : FnOk P w K mg base CX0 (k + 1) f fd [("alphabet" : PySem.Str), ("first" : PySem.Str), ("second" : PySem.Str)] (toSp K spc) := by
  refine F.ok sc_independent (sp_len len) (fun cdv A outer s H vs Q E hr h => ⟨t_independent K, PSs.nox ?_, rd vs H Q E h⟩)
  have hu := hu65 hr
  have nd := sc_independent.nd
  exact (pss_cons (ps_for PassesOwn.never rfl (pi_SEQ (pe_ix ix_IX (pe_fld (pv 0) rfl) (pv 1) (fun _ _ => rfl))) (pg_name (i := 3) nd rfl (by first | exact Or.inl rfl | exact Or.inr rfl)) (pss_one (ps_if (pt_cmpR (op_IN hu) (pv 3) (pe_ix ix_IX (pe_fld (pv 0) rfl) (pv 2) (fun _ _ => rfl)) (by rfl)) (pss_one (ps_ret pe_bl)) pss_nil))) (pss_one (ps_ret pe_bl)))
/-! ### below_all: 0 alphabet 1 word 2 events 3 found 4 first 5 inside 6 second -/
def N_below_all : List PySem.Str := [("alphabet" : PySem.Str), ("word" : PySem.Str), ("events" : PySem.Str), ("found" : PySem.Str), ("first" : PySem.Str), ("inside" : PySem.Str), ("second" : PySem.Str)]
theorem sc_below_all : FnScope N_below_all [("alphabet" : PySem.Str), ("word" : PySem.Str), ("events" : PySem.Str)] (defScope Hd.s_below_all) := ⟨rfl, rfl, rfl, by decide +kernel, rfl, by decide +kernel, by decide +kernel⟩
def t_below_all (K : PySem.W.Frag) (S_independent : Sp) : TS := (tSeq (tAsg (tLst tNil) (gName 3)) (tSeq (tFor (iRng3 (tCons (tOp rSUB (tCB (rLEN K) (tCons (tVar 1) tNil)) (tC (.int 1))) (tCons (tUn (rU fun i => .int (-i)) (tC (.int 1))) (tCons (tUn (rU fun i => .int (-i)) (tC (.int 1))) tNil)))) (gName 4) (tSeq (tAsg (tOp (rIN K) (tVar 4) (tVar 2)) (gName 5)) (tSeq (tFor (iSEQ K (tVar 3)) (gName 6) (tAsg (tOrV (tVar 5) (tAndV (tOp (rLT K) (tVar 4) (tVar 6)) (tNotV (tCall S_independent [] E0 (tCons (tVar 0) (tCons (tOp (rIX K) (tVar 1) (tVar 4)) (tCons (tOp (rIX K) (tVar 1) (tVar 6)) tNil))))))) (gName 5))) (tIfS (tTRU K (tVar 5)) (tDrop (tBM K "list" rAppend (tVar 3) (tCons (tVar 4) tNil))) tNext)))) (tRet (tRevL K (tVar 3)))))
theorem ok_below_all {S_independent : Sp} {j_independent : Nat} {k : Nat} {spc : FS} (b_range : mg ("range" : PySem.Str) = none) (b_len : mg ("len" : PySem.Str) = none) (h_independent : Has P w K mg base j_independent ("independent" : PySem.Str) [("alphabet" : PySem.Str), ("first" : PySem.Str), ("second" : PySem.Str)] S_independent) (l_j_independent : j_independent ≤ k) (len : ∀ xs Φ, spc xs Φ → xs.length = 3)
    (rd : ∀ vs H Q E, toSp K spc vs H Q E → t_below_all K S_independent { nx := fun _ H' => Q .non H', rt := Q } (L2.start N_below_all vs) H) {f : Addr} {fd : FuncData} (F : FunD K "below_all" "below_all" (defArgs Hd.s_below_all) (defBody Hd.s_below_all) (defScope Hd.s_below_all) [] [] f fd) : FnOk P w K mg base CX0 (k + 1) f fd [("alphabet" : PySem.Str), ("word" : PySem.Str), ("events" : PySem.Str)] (toSp K spc) := by
  refine F.ok sc_below_all (sp_len len) (fun cdv A outer s H vs Q E hr h => ⟨t_below_all K S_independent, PSs.nox ?_, rd vs H Q E h⟩)
  have hu := hu65 hr
  have nd := sc_below_all.nd
  exact (pss_cons (ps_set (i := 3) nd rfl (by first | exact Or.inl rfl | exact Or.inr rfl) (pe_lst pa_nil)) (pss_cons (ps_for PassesOwn.never rfl (pi_range3 rfl b_range (pa_cons (pe_op op_SUB (pe_callB call_LEN (by rfl) b_len (by decide +kernel) (pa_cons (pv 1) pa_nil)) pe_int) (pa_cons (pe_un un_neg pe_int) (pa_cons (pe_un un_neg pe_int) pa_nil)))) (pg_name (i := 4) nd rfl (by first | exact Or.inl rfl | exact Or.inr rfl)) (pss_cons (ps_set (i := 5) nd rfl (by first | exact Or.inl rfl | exact Or.inr rfl) (pe_cmpR (op_IN hu) (pv 4) (pv 2) (by rfl))) (pss_cons (ps_for PassesOwn.never rfl (pi_SEQ (pv 3)) (pg_name (i := 6) nd rfl (by first | exact Or.inl rfl | exact Or.inr rfl)) (pss_one (ps_set (i := 5) nd rfl (by first | exact Or.inl rfl | exact Or.inr rfl) (pe_or (pv 5) (pe_one (pe_and (pe_cmpR (op_LT hu) (pv 4) (pv 6) (nomark _)) (pe_one (pe_not (pe_callH h_independent (hr.mono l_j_independent) rfl (pa_cons (pv 0) (pa_cons (pe_ix ix_IX (pv 1) (pv 4) (fun _ _ => rfl)) (pa_cons (pe_ix ix_IX (pv 1) (pv 6) (fun _ _ => rfl)) pa_nil)))))))))))) (pss_one (ps_if (pt_truth (pv 5) (by intro _; rfl)) (pss_one (ps_expr (pe_bm PySem.F.plainAttrs_list PySem.F.slot_list_append PySem.F.type_list_append mt_append (pv 3) (pa_cons (pv 4) pa_nil)))) pss_nil))))) (pss_one (ps_ret (pe_revL (pv 3))))))
/-! ### pairs_of: 0 alphabet 1 word 2 found 3 second 4 first 5 _ -/
def N_pairs_of : List PySem.Str := [("alphabet" : PySem.Str), ("word" : PySem.Str), ("found" : PySem.Str), ("second" : PySem.Str), ("first" : PySem.Str), ("_" : PySem.Str)]
theorem sc_pairs_of : FnScope N_pairs_of [("alphabet" : PySem.Str), ("word" : PySem.Str)] (defScope Hd.s_pairs_of) := ⟨rfl, rfl, rfl, by decide +kernel, rfl, by decide +kernel, by decide +kernel⟩
def t_pairs_of (K : PySem.W.Frag) (S_below_all : Sp) : TS := (tSeq (tAsg (tLc (iSEQ K (tVar 1)) (gName 5) tYes (tLst tNil) [5]) (gName 2)) (tSeq (tFor (iRng1 (tCons (tCB (rLEN K) (tCons (tVar 1) tNil)) tNil)) (gName 3) (tFor (iSEQ K (tCall S_below_all [] E0 (tCons (tVar 0) (tCons (tVar 1) (tCons (tLst (tCons (tVar 3) tNil)) tNil))))) (gName 4) (tIfS (tTest (tOp (rNE K) (tVar 4) (tVar 3))) (tDrop (tBM K "list" rAppend (tOp (rIX K) (tVar 2) (tVar 4)) (tCons (tVar 3) tNil))) tNext))) (tRet (tVar 2))))
theorem ok_pairs_of {S_below_all : Sp} {j_below_all : Nat} {k : Nat} {spc : FS} (b_range : mg ("range" : PySem.Str) = none) (b_len : mg ("len" : PySem.Str) = none) (h_below_all : Has P w K mg base j_below_all ("below_all" : PySem.Str) [("alphabet" : PySem.Str), ("word" : PySem.Str), ("events" : PySem.Str)] S_below_all) (l_j_below_all : j_below_all ≤ k) (len : ∀ xs Φ, spc xs Φ → xs.length = 2)
    (rd : ∀ vs H Q E, toSp K spc vs H Q E → t_pairs_of K S_below_all { nx := fun _ H' => Q .non H', rt := Q } (L2.start N_pairs_of vs) H) {f : Addr} {fd : FuncData} (F : FunD K "pairs_of" "pairs_of" (defArgs Hd.s_pairs_of) (defBody Hd.s_pairs_of) (defScope Hd.s_pairs_of) [] [] f fd) : FnOk P w K mg base CX0 (k + 1) f fd [("alphabet" : PySem.Str), ("word" : PySem.Str)] (toSp K spc) := by
  refine F.ok sc_pairs_of (sp_len len) (fun cdv A outer s H vs Q E hr h => ⟨t_pairs_of K S_below_all, PSs.nox ?_, rd vs H Q E h⟩)
  have hu := hu65 hr
  have nd := sc_pairs_of.nd
  exact (pss_cons (ps_setLc (i := 2) (own := [(("_" : PySem.Str), 5)]) rfl nd rfl rfl (sw_true rfl rfl rfl (by decide +kernel)) (pi_SEQ (pv 1)) (blkOk_by (N := N_pairs_of) (by kernel_rfl)) (fun _ _ _ _ _ => (pg_name (i := 5) nd rfl (by first | exact Or.inl rfl | exact Or.inr rfl))) (fun _ _ _ _ _ => pts_nil) (fun _ _ _ _ _ => (pe_lst pa_nil))) (pss_cons (ps_for PassesOwn.never rfl (pi_range1 rfl b_range (pa_cons (pe_callB call_LEN (by rfl) b_len (by decide +kernel) (pa_cons (pv 1) pa_nil)) pa_nil)) (pg_name (i := 3) nd rfl (by first | exact Or.inl rfl | exact Or.inr rfl)) (pss_one (ps_for PassesOwn.never rfl (pi_SEQ (pe_callH h_below_all (hr.mono l_j_below_all) rfl (pa_cons (pv 0) (pa_cons (pv 1) (pa_cons (pe_lst (pa_cons (pv 3) pa_nil)) pa_nil))))) (pg_name (i := 4) nd rfl (by first | exact Or.inl rfl | exact Or.inr rfl)) (pss_one (ps_if (pt_cmpR (op_NE hu) (pv 4) (pv 3) (nomark _)) (pss_one (ps_expr (pe_bm PySem.F.plainAttrs_list PySem.F.slot_list_append PySem.F.type_list_append mt_append (pe_ix ix_IX (pv 2) (pv 4) (fun _ _ => rfl)) (pa_cons (pv 3) pa_nil)))) pss_nil))))) (pss_one (ps_ret (pv 2)))))
/-! ### Matching.__init__: 0 self 1 later 2 event -/
def N_Matching___init__ : List PySem.Str := [("self" : PySem.Str), ("later" : PySem.Str), ("event" : PySem.Str)]
theorem sc_Matching___init__ : FnScope N_Matching___init__ [("self" : PySem.Str), ("later" : PySem.Str)] (defScope Hd.s_Matching___init__) := ⟨rfl, rfl, rfl, by decide +kernel, rfl, by decide +kernel, by decide +kernel⟩
def t_Matching___init__ (K : PySem.W.Frag) (S_Matching_grow : Sp) (C_Matching : Addr) : TS := (tSeq (sFld K (tVar 0) (tVar 1) ("later" : PySem.Str)) (tSeq (sFld K (tVar 0) (tOp (rMUL K) (tLst (tCons (tUn (rU fun i => .int (-i)) (tC (.int 1))) tNil)) (tCB (rLEN K) (tCons (tVar 1) tNil))) ("following" : PySem.Str)) (tSeq (sFld K (tVar 0) (tOp (rMUL K) (tLst (tCons (tUn (rU fun i => .int (-i)) (tC (.int 1))) tNil)) (tCB (rLEN K) (tCons (tVar 1) tNil))) ("leading" : PySem.Str)) (tFor (iRng1 (tCons (tCB (rLEN K) (tCons (tVar 1) tNil)) tNil)) (gName 2) (tDrop (tMeth C_Matching ("grow" : PySem.Str) S_Matching_grow [] E0 (tVar 0) (tCons (tVar 2) tNil)))))))
theorem ok_Matching___init__ {S_Matching_grow : Sp} {C_Matching : Addr} {j_Matching_grow : Nat} {k : Nat} {spc : FS} (b_len : mg ("len" : PySem.Str) = none) (b_range : mg ("range" : PySem.Str) = none) (h_Matching_grow : HasM P w K mg base j_Matching_grow C_Matching ("grow" : PySem.Str) [("self" : PySem.Str), ("event" : PySem.Str)] S_Matching_grow) (l_j_Matching_grow : j_Matching_grow ≤ k) (len : ∀ xs Φ, spc xs Φ → xs.length = 2)
    (rd : ∀ vs H Q E, toSp K spc vs H Q E → t_Matching___init__ K S_Matching_grow C_Matching { nx := fun _ H' => Q .non H', rt := Q } (L2.start N_Matching___init__ vs) H) {f : Addr} {fd : FuncData} (F : FunD K "__init__" "Matching.__init__" (defArgs Hd.s_Matching___init__) (defBody Hd.s_Matching___init__) (defScope Hd.s_Matching___init__) [] [] f fd) : FnOk P w K mg base CX0 (k + 1) f fd [("self" : PySem.Str), ("later" : PySem.Str)] (toSp K spc) := by
  refine F.ok sc_Matching___init__ (sp_len len) (fun cdv A outer s H vs Q E hr h => ⟨t_Matching___init__ K S_Matching_grow C_Matching, PSs.nox ?_, rd vs H Q E h⟩)
  have hu := hu65 hr
  have nd := sc_Matching___init__.nd
  exact (pss_cons (ps_fld (pv 0) (pv 1) rfl) (pss_cons (ps_fld (pv 0) (pe_op op_MUL (pe_lst (pa_cons (pe_un un_neg pe_int) pa_nil)) (pe_callB call_LEN (by rfl) b_len (by decide +kernel) (pa_cons (pv 1) pa_nil))) rfl) (pss_cons (ps_fld (pv 0) (pe_op op_MUL (pe_lst (pa_cons (pe_un un_neg pe_int) pa_nil)) (pe_callB call_LEN (by rfl) b_len (by decide +kernel) (pa_cons (pv 1) pa_nil))) rfl) (pss_one (ps_for PassesOwn.never rfl (pi_range1 rfl b_range (pa_cons (pe_callB call_LEN (by rfl) b_len (by decide +kernel) (pa_cons (pv 1) pa_nil)) pa_nil)) (pg_name (i := 2) nd rfl (by first | exact Or.inl rfl | exact Or.inr rfl)) (pss_one (ps_expr (pe_methH (pv 0) h_Matching_grow (hr.mono l_j_Matching_grow) (pa_cons (pv 2) pa_nil)))))))))
/-! ### Matching.grow: 0 self 1 event 2 origin 3 queue 4 at 5 first 6 second -/
def N_Matching_grow : List PySem.Str := [("self" : PySem.Str), ("event" : PySem.Str), ("origin" : PySem.Str), ("queue" : PySem.Str), ("at" : PySem.Str), ("first" : PySem.Str), ("second" : PySem.Str)]
theorem sc_Matching_grow : FnScope N_Matching_grow [("self" : PySem.Str), ("event" : PySem.Str)] (defScope Hd.s_Matching_grow) := ⟨rfl, rfl, rfl, by decide +kernel, rfl, by decide +kernel, by decide +kernel⟩
def t_Matching_grow (K : PySem.W.Frag) (S_Matching_change : Sp) (C_Matching : Addr) : TS := (tSeq (tAsg tDNewK (gName 2)) (tSeq (tAsg (tLst (tCons (tVar 1) tNil)) (gName 3)) (tSeq (tAsg (tC (.int 0)) (gName 4)) (tWhile (tTest (tOp (rLT K) (tVar 4) (tCB (rLEN K) (tCons (tVar 3) tNil)))) (tSeq (tAsg (tOp (rIX K) (tVar 3) (tVar 4)) (gName 5)) (tSeq (tAug 4 (tC (.int 1)) (ipI fun i j => i + j)) (tFor (iSEQ K (tOp (rIX K) (tFld K (tVar 0) ("later" : PySem.Str)) (tVar 5))) (gName 6) (tIfS (tTest (tOp (rNIN K) (tVar 6) (tVar 2))) (tSeq (sDPut (tVar 2) (tVar 6) (tVar 5)) (tSeq (tIfS (tTest (tOp (rLT K) (tOp (rIX K) (tFld K (tVar 0) ("leading" : PySem.Str)) (tVar 6)) (tC (.int 0)))) (tSeq (tDrop (tMeth C_Matching ("change" : PySem.Str) S_Matching_change [] E0 (tVar 0) (tCons (tVar 2) (tCons (tVar 6) tNil)))) tRetN) tNext) (tDrop (tBM K "list" rAppend (tVar 3) (tCons (tOp (rIX K) (tFld K (tVar 0) ("leading" : PySem.Str)) (tVar 6)) tNil))))) tNext))))))))
theorem ok_Matching_grow {S_Matching_change : Sp} {C_Matching : Addr} {j_Matching_change : Nat} {k : Nat} {spc : FS} (b_len : mg ("len" : PySem.Str) = none) (h_Matching_change : HasM P w K mg base j_Matching_change C_Matching ("change" : PySem.Str) [("self" : PySem.Str), ("origin" : PySem.Str), ("second" : PySem.Str)] S_Matching_change) (l_j_Matching_change : j_Matching_change ≤ k) (len : ∀ xs Φ, spc xs Φ → xs.length = 2)
    (rd : ∀ vs H Q E, toSp K spc vs H Q E → t_Matching_grow K S_Matching_change C_Matching { nx := fun _ H' => Q .non H', rt := Q } (L2.start N_Matching_grow vs) H) {f : Addr} {fd : FuncData} (F : FunD K "grow" "Matching.grow" (defArgs Hd.s_Matching_grow) (defBody Hd.s_Matching_grow) (defScope Hd.s_Matching_grow) [] [] f fd) : FnOk P w K mg base CX0 (k + 1) f fd [("self" : PySem.Str), ("event" : PySem.Str)] (toSp K spc) := by
  refine F.ok sc_Matching_grow (sp_len len) (fun cdv A outer s H vs Q E hr h => ⟨t_Matching_grow K S_Matching_change C_Matching, PSs.nox ?_, rd vs H Q E h⟩)
  have hu := hu65 hr
  have nd := sc_Matching_grow.nd
  exact (pss_cons (ps_set (i := 2) nd rfl (by first | exact Or.inl rfl | exact Or.inr rfl) pe_dnewK) (pss_cons (ps_set (i := 3) nd rfl (by first | exact Or.inl rfl | exact Or.inr rfl) (pe_lst (pa_cons (pv 1) pa_nil))) (pss_cons (ps_set (i := 4) nd rfl (by first | exact Or.inl rfl | exact Or.inr rfl) pe_int) (pss_one (ps_while PassesOwn.never (pt_cmpR (op_LT hu) (pv 4) (pe_callB call_LEN (by rfl) b_len (by decide +kernel) (pa_cons (pv 3) pa_nil)) (nomark _)) (pss_cons (ps_set (i := 5) nd rfl (by first | exact Or.inl rfl | exact Or.inr rfl) (pe_ix ix_IX (pv 3) (pv 4) (fun _ _ => rfl))) (pss_cons (ps_aug (i := 4) nd rfl (by first | exact Or.inl rfl | exact Or.inr rfl) pe_int ip_add) (pss_one (ps_for PassesOwn.never rfl (pi_SEQ (pe_ix ix_IX (pe_fld (pv 0) rfl) (pv 5) (fun _ _ => rfl))) (pg_name (i := 6) nd rfl (by first | exact Or.inl rfl | exact Or.inr rfl)) (pss_one (ps_if (pt_cmpR (op_NIN hu) (pv 6) (pv 2) (by rfl)) (pss_cons (ps_dput (Nat.lt_of_le_of_lt (Nat.add_le_add_left (by decide) _) hu) (pv 2) (pv 6) (pv 5) rfl) (pss_cons (ps_if (pt_cmpR (op_LT hu) (pe_ix ix_IX (pe_fld (pv 0) rfl) (pv 6) (fun _ _ => rfl)) pe_int (nomark _)) (pss_cons (ps_expr (pe_methH (pv 0) h_Matching_change (hr.mono l_j_Matching_change) (pa_cons (pv 2) (pa_cons (pv 6) pa_nil)))) (pss_one ps_retN)) pss_nil) (pss_one (ps_expr (pe_bm PySem.F.plainAttrs_list PySem.F.slot_list_append PySem.F.type_list_append mt_append (pv 3) (pa_cons (pe_ix ix_IX (pe_fld (pv 0) rfl) (pv 6) (fun _ _ => rfl)) pa_nil)))))) pss_nil)))))))))))
/-! ### Matching.change: 0 self 1 origin 2 second 3 first 4 former -/
def N_Matching_change : List PySem.Str := [("self" : PySem.Str), ("origin" : PySem.Str), ("second" : PySem.Str), ("first" : PySem.Str), ("former" : PySem.Str)]
theorem sc_Matching_change : FnScope N_Matching_change [("self" : PySem.Str), ("origin" : PySem.Str), ("second" : PySem.Str)] (defScope Hd.s_Matching_change) := ⟨rfl, rfl, rfl, by decide +kernel, rfl, by decide +kernel, by decide +kernel⟩
def t_Matching_change (K : PySem.W.Frag) : TS := (tWhile (tTest (tOp rGE (tVar 2) (tC (.int 0)))) (tSeq (tAsg (tDGet (tVar 1) (tVar 2)) (gName 3)) (tSeq (tAsg (tOp (rIX K) (tFld K (tVar 0) ("following" : PySem.Str)) (tVar 3)) (gName 4)) (tSeq (tAsg (tVar 2) (gSub (tFld K (tVar 0) ("following" : PySem.Str)) (tVar 3) rSetL)) (tSeq (tAsg (tVar 3) (gSub (tFld K (tVar 0) ("leading" : PySem.Str)) (tVar 2) rSetL)) (tAsg (tVar 4) (gName 2)))))))
theorem ok_Matching_change {k : Nat} {spc : FS} (len : ∀ xs Φ, spc xs Φ → xs.length = 3)
    (rd : ∀ vs H Q E, toSp K spc vs H Q E → t_Matching_change K { nx := fun _ H' => Q .non H', rt := Q } (L2.start N_Matching_change vs) H) {f : Addr} {fd : FuncData} (F : FunD K "change" "Matching.change" (defArgs Hd.s_Matching_change) (defBody Hd.s_Matching_change) (defScope Hd.s_Matching_change) [] [] f fd) : FnOk P w K mg base CX0 (k + 1) f fd [("self" : PySem.Str), ("origin" : PySem.Str), ("second" : PySem.Str)] (toSp K spc) := by
  refine F.ok sc_Matching_change (sp_len len) (fun cdv A outer s H vs Q E hr h => ⟨t_Matching_change K, PSs.nox ?_, rd vs H Q E h⟩)
  have hu := hu65 hr
  have nd := sc_Matching_change.nd
  exact (pss_one (ps_while PassesOwn.never (pt_cmpR op_GE (pv 2) pe_int (nomark _)) (pss_cons (ps_set (i := 3) nd rfl (by first | exact Or.inl rfl | exact Or.inr rfl) (pe_dget (Nat.lt_of_le_of_lt (Nat.add_le_add_left (by decide) _) hu) (pv 1) (pv 2) (fun _ _ => rfl))) (pss_cons (ps_set (i := 4) nd rfl (by first | exact Or.inl rfl | exact Or.inr rfl) (pe_ix ix_IX (pe_fld (pv 0) rfl) (pv 3) (fun _ _ => rfl))) (pss_cons (ps_asg (pv 2) (pg_sub (pe_fld (pv 0) rfl) (pv 3) set_list)) (pss_cons (ps_asg (pv 3) (pg_sub (pe_fld (pv 0) rfl) (pv 2) set_list)) (pss_one (ps_set (i := 2) nd rfl (by first | exact Or.inl rfl | exact Or.inr rfl) (pv 4)))))))))
/-! ### Matching.rows: 0 self 1 found 2 event 3 row -/
def N_Matching_rows : List PySem.Str := [("self" : PySem.Str), ("found" : PySem.Str), ("event" : PySem.Str), ("row" : PySem.Str)]
theorem sc_Matching_rows : FnScope N_Matching_rows [("self" : PySem.Str)] (defScope Hd.s_Matching_rows) := ⟨rfl, rfl, rfl, by decide +kernel, rfl, by decide +kernel, by decide +kernel⟩
def t_Matching_rows (K : PySem.W.Frag) : TS := (tSeq (tAsg (tLst tNil) (gName 1)) (tSeq (tFor (iRng1 (tCons (tCB (rLEN K) (tCons (tFld K (tVar 0) ("later" : PySem.Str)) tNil)) tNil)) (gName 2) (tIfS (tTest (tOp (rLT K) (tOp (rIX K) (tFld K (tVar 0) ("leading" : PySem.Str)) (tVar 2)) (tC (.int 0)))) (tSeq (tAsg (tLst (tCons (tVar 2) tNil)) (gName 3)) (tSeq (tWhile (tTest (tOp rGE (tOp (rIX K) (tFld K (tVar 0) ("following" : PySem.Str)) (tOp (rIX K) (tVar 3) (tUn (rU fun i => .int (-i)) (tC (.int 1))))) (tC (.int 0)))) (tDrop (tBM K "list" rAppend (tVar 3) (tCons (tOp (rIX K) (tFld K (tVar 0) ("following" : PySem.Str)) (tOp (rIX K) (tVar 3) (tUn (rU fun i => .int (-i)) (tC (.int 1))))) tNil)))) (tDrop (tBM K "list" rAppend (tVar 1) (tCons (tVar 3) tNil))))) tNext)) (tRet (tVar 1))))
theorem ok_Matching_rows {k : Nat} {spc : FS} (b_range : mg ("range" : PySem.Str) = none) (b_len : mg ("len" : PySem.Str) = none) (len : ∀ xs Φ, spc xs Φ → xs.length = 1)
    (rd : ∀ vs H Q E, toSp K spc vs H Q E → t_Matching_rows K { nx := fun _ H' => Q .non H', rt := Q } (L2.start N_Matching_rows vs) H) {f : Addr} {fd : FuncData} (F : FunD K "rows" "Matching.rows" (defArgs Hd.s_Matching_rows) (defBody Hd.s_Matching_rows) (defScope Hd.s_Matching_rows) [] [] f fd) : FnOk P w K mg base CX0 (k + 1) f fd [("self" : PySem.Str)] (toSp K spc) := by
  refine F.ok sc_Matching_rows (sp_len len) (fun cdv A outer s H vs Q E hr h => ⟨t_Matching_rows K, PSs.nox ?_, rd vs H Q E h⟩)
  have hu := hu65 hr
  have nd := sc_Matching_rows.nd
  exact (pss_cons (ps_set (i := 1) nd rfl (by first | exact Or.inl rfl | exact Or.inr rfl) (pe_lst pa_nil)) (pss_cons (ps_for PassesOwn.never rfl (pi_range1 rfl b_range (pa_cons (pe_callB call_LEN (by rfl) b_len (by decide +kernel) (pa_cons (pe_fld (pv 0) rfl) pa_nil)) pa_nil)) (pg_name (i := 2) nd rfl (by first | exact Or.inl rfl | exact Or.inr rfl)) (pss_one (ps_if (pt_cmpR (op_LT hu) (pe_ix ix_IX (pe_fld (pv 0) rfl) (pv 2) (fun _ _ => rfl)) pe_int (nomark _)) (pss_cons (ps_set (i := 3) nd rfl (by first | exact Or.inl rfl | exact Or.inr rfl) (pe_lst (pa_cons (pv 2) pa_nil))) (pss_cons (ps_while PassesOwn.never (pt_cmpR op_GE (pe_ix ix_IX (pe_fld (pv 0) rfl) (pe_ix ix_IX (pv 3) (pe_un un_neg pe_int) (fun _ _ => rfl)) (fun _ _ => rfl)) pe_int (nomark _)) (pss_one (ps_expr (pe_bm PySem.F.plainAttrs_list PySem.F.slot_list_append PySem.F.type_list_append mt_append (pv 3) (pa_cons (pe_ix ix_IX (pe_fld (pv 0) rfl) (pe_ix ix_IX (pv 3) (pe_un un_neg pe_int) (fun _ _ => rfl)) (fun _ _ => rfl)) pa_nil))))) (pss_one (ps_expr (pe_bm PySem.F.plainAttrs_list PySem.F.slot_list_append PySem.F.type_list_append mt_append (pv 1) (pa_cons (pv 3) pa_nil)))))) pss_nil))) (pss_one (ps_ret (pv 1)))))
/-! ### Matching.apart: 0 self 1 queue 2 firsts 3 seconds 4 at 5 second 6 first 7 event -/
def N_Matching_apart : List PySem.Str := [("self" : PySem.Str), ("queue" : PySem.Str), ("firsts" : PySem.Str), ("seconds" : PySem.Str), ("at" : PySem.Str), ("second" : PySem.Str), ("first" : PySem.Str), ("event" : PySem.Str)]
theorem sc_Matching_apart : FnScope N_Matching_apart [("self" : PySem.Str)] (defScope Hd.s_Matching_apart) := ⟨rfl, rfl, rfl, by decide +kernel, rfl, by decide +kernel, by decide +kernel⟩
def t_Matching_apart (K : PySem.W.Frag) : TS := (tSeq (tAsg (tLc (iRng1 (tCons (tCB (rLEN K) (tCons (tFld K (tVar 0) ("later" : PySem.Str)) tNil)) tNil)) (gName 7) (tTest (tOp (rLT K) (tOp (rIX K) (tFld K (tVar 0) ("following" : PySem.Str)) (tVar 7)) (tC (.int 0)))) (tVar 7) [7]) (gName 1)) (tSeq (tAsg (tDc (iSEQ K (tVar 1)) (gName 7) tYes (tVar 7) (tC (.bl true)) [7]) (gName 2)) (tSeq (tAsg tDNewK (gName 3)) (tSeq (tAsg (tC (.int 0)) (gName 4)) (tSeq (tWhile (tTest (tOp (rLT K) (tVar 4) (tCB (rLEN K) (tCons (tVar 1) tNil)))) (tSeq (tFor (iSEQ K (tOp (rIX K) (tFld K (tVar 0) ("later" : PySem.Str)) (tOp (rIX K) (tVar 1) (tVar 4)))) (gName 5) (tSeq (sDPut (tVar 3) (tVar 5) (tC (.bl true))) (tSeq (tAsg (tOp (rIX K) (tFld K (tVar 0) ("leading" : PySem.Str)) (tVar 5)) (gName 6)) (tIfS (tAnd (tTest (tOp rGE (tVar 6) (tC (.int 0)))) (tTest (tOp (rNIN K) (tVar 6) (tVar 2)))) (tSeq (sDPut (tVar 2) (tVar 6) (tC (.bl true))) (tDrop (tBM K "list" rAppend (tVar 1) (tCons (tVar 6) tNil)))) tNext)))) (tAug 4 (tC (.int 1)) (ipI fun i j => i + j)))) (tRet (tLc (iRng1 (tCons (tCB (rLEN K) (tCons (tFld K (tVar 0) ("later" : PySem.Str)) tNil)) tNil)) (gName 7) (tAnd (tTest (tOp (rIN K) (tVar 7) (tVar 2))) (tTest (tOp (rNIN K) (tVar 7) (tVar 3)))) (tVar 7) [7])))))))
theorem ok_Matching_apart {k : Nat} {spc : FS} (b_range : mg ("range" : PySem.Str) = none) (b_len : mg ("len" : PySem.Str) = none) (len : ∀ xs Φ, spc xs Φ → xs.length = 1)
    (rd : ∀ vs H Q E, toSp K spc vs H Q E → t_Matching_apart K { nx := fun _ H' => Q .non H', rt := Q } (L2.start N_Matching_apart vs) H) {f : Addr} {fd : FuncData} (F : FunD K "apart" "Matching.apart" (defArgs Hd.s_Matching_apart) (defBody Hd.s_Matching_apart) (defScope Hd.s_Matching_apart) [] [] f fd) : FnOk P w K mg base CX0 (k + 1) f fd [("self" : PySem.Str)] (toSp K spc) := by
  refine F.ok sc_Matching_apart (sp_len len) (fun cdv A outer s H vs Q E hr h => ⟨t_Matching_apart K, PSs.nox ?_, rd vs H Q E h⟩)
  have hu := hu65 hr
  have nd := sc_Matching_apart.nd
  exact (pss_cons (ps_setLc (i := 1) (own := [(("event" : PySem.Str), 7)]) rfl nd rfl rfl (sw_true rfl rfl rfl (by decide +kernel)) (pi_range1 rfl b_range (pa_cons (pe_callB call_LEN (by rfl) b_len (by decide +kernel) (pa_cons (pe_fld (pv 0) rfl) pa_nil)) pa_nil)) (blkOk_by (N := N_Matching_apart) (by kernel_rfl)) (fun _ _ _ _ _ => (pg_name (i := 7) nd rfl (by first | exact Or.inl rfl | exact Or.inr rfl))) (fun _ _ _ _ _ => (pts_one (pt_cmpR (op_LT hu) (pe_ix ix_IX (pe_fld (pv 0) rfl) (pv 7) (fun _ _ => rfl)) pe_int (nomark _)))) (fun _ _ _ _ _ => (pv 7))) (pss_cons (ps_set (i := 2) nd rfl (by first | exact Or.inl rfl | exact Or.inr rfl) (pe_dc (own := [(("event" : PySem.Str), 7)]) rfl nd (pi_SEQ (pv 1)) (blkOk_by (N := N_Matching_apart) (by kernel_rfl)) (fun _ _ _ _ _ => (pg_name (i := 7) nd rfl (by first | exact Or.inl rfl | exact Or.inr rfl))) (fun _ _ _ _ _ => pts_nil) (fun _ _ _ _ _ => (pv 7)) (fun _ _ _ _ _ => pe_bl))) (pss_cons (ps_set (i := 3) nd rfl (by first | exact Or.inl rfl | exact Or.inr rfl) pe_dnewK) (pss_cons (ps_set (i := 4) nd rfl (by first | exact Or.inl rfl | exact Or.inr rfl) pe_int) (pss_cons (ps_while PassesOwn.never (pt_cmpR (op_LT hu) (pv 4) (pe_callB call_LEN (by rfl) b_len (by decide +kernel) (pa_cons (pv 1) pa_nil)) (nomark _)) (pss_cons (ps_for PassesOwn.never rfl (pi_SEQ (pe_ix ix_IX (pe_fld (pv 0) rfl) (pe_ix ix_IX (pv 1) (pv 4) (fun _ _ => rfl)) (fun _ _ => rfl))) (pg_name (i := 5) nd rfl (by first | exact Or.inl rfl | exact Or.inr rfl)) (pss_cons (ps_dput (Nat.lt_of_le_of_lt (Nat.add_le_add_left (by decide) _) hu) (pv 3) (pv 5) pe_bl rfl) (pss_cons (ps_set (i := 6) nd rfl (by first | exact Or.inl rfl | exact Or.inr rfl) (pe_ix ix_IX (pe_fld (pv 0) rfl) (pv 5) (fun _ _ => rfl))) (pss_one (ps_if (PW.pt (pw_and (pt_cmpR op_GE (pv 6) pe_int (nomark _)) (pw_and1 (pt_cmpR (op_NIN hu) (pv 6) (pv 2) (by rfl))))) (pss_cons (ps_dput (Nat.lt_of_le_of_lt (Nat.add_le_add_left (by decide) _) hu) (pv 2) (pv 6) pe_bl rfl) (pss_one (ps_expr (pe_bm PySem.F.plainAttrs_list PySem.F.slot_list_append PySem.F.type_list_append mt_append (pv 1) (pa_cons (pv 6) pa_nil))))) pss_nil))))) (pss_one (ps_aug (i := 4) nd rfl (by first | exact Or.inl rfl | exact Or.inr rfl) pe_int ip_add)))) (pss_one (ps_ret (pe_lc (own := [(("event" : PySem.Str), 7)]) rfl nd (pi_range1 rfl b_range (pa_cons (pe_callB call_LEN (by rfl) b_len (by decide +kernel) (pa_cons (pe_fld (pv 0) rfl) pa_nil)) pa_nil)) (blkOk_by (N := N_Matching_apart) (by kernel_rfl)) (fun _ _ _ _ _ => (pg_name (i := 7) nd rfl (by first | exact Or.inl rfl | exact Or.inr rfl))) (fun _ _ _ _ _ => (pts_one (PW.pt (pw_and (pt_cmpR (op_IN hu) (pv 7) (pv 2) (by rfl)) (pw_and1 (pt_cmpR (op_NIN hu) (pv 7) (pv 3) (by rfl))))))) (fun _ _ _ _ _ => (pv 7))))))))))
/-! ### widest: 0 alphabet 1 word 2 matching -/
def N_widest : List PySem.Str := [("alphabet" : PySem.Str), ("word" : PySem.Str), ("matching" : PySem.Str)]
theorem sc_widest : FnScope N_widest [("alphabet" : PySem.Str), ("word" : PySem.Str)] (defScope Hd.s_widest) := ⟨rfl, rfl, rfl, by decide +kernel, rfl, by decide +kernel, by decide +kernel⟩
def t_widest (K : PySem.W.Frag) (C_Matching : Addr) (S_Matching___init__ : Sp) (S_pairs_of : Sp) (S_Matching_apart : Sp) (S_Matching_rows : Sp) : TS := (tSeq (tAsg (tMake C_Matching S_Matching___init__ [] E0 (tCons (tCall S_pairs_of [] E0 (tCons (tVar 0) (tCons (tVar 1) tNil))) tNil)) (gName 2)) (tRet (tTup (tCons (tMeth C_Matching ("apart" : PySem.Str) S_Matching_apart [] E0 (tVar 2) tNil) (tCons (tMeth C_Matching ("rows" : PySem.Str) S_Matching_rows [] E0 (tVar 2) tNil) tNil)))))
theorem ok_widest {C_Matching : Addr} {S_Matching___init__ : Sp} {S_pairs_of : Sp} {S_Matching_apart : Sp} {S_Matching_rows : Sp} {j_Matching : Nat} {j_pairs_of : Nat} {j_Matching_apart : Nat} {j_Matching_rows : Nat} {k : Nat} {spc : FS} (i_Matching : HasI P w K mg base j_Matching ("Matching" : PySem.Str) C_Matching [("self" : PySem.Str), ("later" : PySem.Str)] S_Matching___init__) (h_pairs_of : Has P w K mg base j_pairs_of ("pairs_of" : PySem.Str) [("alphabet" : PySem.Str), ("word" : PySem.Str)] S_pairs_of) (h_Matching_apart : HasM P w K mg base j_Matching_apart C_Matching ("apart" : PySem.Str) [("self" : PySem.Str)] S_Matching_apart) (h_Matching_rows : HasM P w K mg base j_Matching_rows C_Matching ("rows" : PySem.Str) [("self" : PySem.Str)] S_Matching_rows) (l_j_Matching : j_Matching + 1 ≤ k) (l_j_pairs_of : j_pairs_of ≤ k) (l_j_Matching_apart : j_Matching_apart ≤ k) (l_j_Matching_rows : j_Matching_rows ≤ k) (len : ∀ xs Φ, spc xs Φ → xs.length = 2)
    (rd : ∀ vs H Q E, toSp K spc vs H Q E → t_widest K C_Matching S_Matching___init__ S_pairs_of S_Matching_apart S_Matching_rows { nx := fun _ H' => Q .non H', rt := Q } (L2.start N_widest vs) H) {f : Addr} {fd : FuncData} (F : FunD K "widest" "widest" (defArgs Hd.s_widest) (defBody Hd.s_widest) (defScope Hd.s_widest) [] [] f fd) : FnOk P w K mg base CX0 (k + 1) f fd [("alphabet" : PySem.Str), ("word" : PySem.Str)] (toSp K spc) := by
  refine F.ok sc_widest (sp_len len) (fun cdv A outer s H vs Q E hr h => ⟨t_widest K C_Matching S_Matching___init__ S_pairs_of S_Matching_apart S_Matching_rows, PSs.nox ?_, rd vs H Q E h⟩)
  have hu := hu65 hr
  have nd := sc_widest.nd
  exact (pss_cons (ps_set (i := 2) nd rfl (by first | exact Or.inl rfl | exact Or.inr rfl) (pe_makeH i_Matching (hr.mono l_j_Matching) rfl (pa_cons (pe_callH h_pairs_of (hr.mono l_j_pairs_of) rfl (pa_cons (pv 0) (pa_cons (pv 1) pa_nil))) pa_nil))) (pss_one (ps_ret (pe_tup (pa_cons (pe_methH0 (pv 2) h_Matching_apart (hr.mono l_j_Matching_apart)) (pa_cons (pe_methH0 (pv 2) h_Matching_rows (hr.mono l_j_Matching_rows)) pa_nil))))))
/-! ### _law_draws: 0 _law_script 1 _law_count 2 _law_cells 3 _law_found 4 _law_mixed 5 _law_k 6 _law_j 7 _law_cell 8 _law_again -/
def N_law_draws : List PySem.Str := [("_law_script" : PySem.Str), ("_law_count" : PySem.Str), ("_law_cells" : PySem.Str), ("_law_found" : PySem.Str), ("_law_mixed" : PySem.Str), ("_law_k" : PySem.Str), ("_law_j" : PySem.Str), ("_law_cell" : PySem.Str), ("_law_again" : PySem.Str)]
theorem sc_law_draws : FnScope N_law_draws [("_law_script" : PySem.Str), ("_law_count" : PySem.Str)] (defScope Hd.s_law_draws) := ⟨rfl, rfl, rfl, by decide +kernel, rfl, by decide +kernel, by decide +kernel⟩
def t_law_draws (K : PySem.W.Frag) : TS := (tSeq (tAsg (tCB (rLIST K) (tCons (tVar 0) tNil)) (gName 2)) (tSeq (tIfS (tTest (tOp (rEQ K) (tCB (rLEN K) (tCons (tVar 2) tNil)) (tC (.int 0)))) (tAsg (tLst (tCons (tC (.int 7)) tNil)) (gName 2)) tNext) (tSeq (tAsg (tLst tNil) (gName 3)) (tSeq (tAsg (tC (.int 12345)) (gName 4)) (tSeq (tFor (iRng1 (tCons (tVar 1) tNil)) (gName 5) (tSeq (tAsg (tOp rMOD (tVar 5) (tCB (rLEN K) (tCons (tVar 2) tNil))) (gName 6)) (tSeq (tAsg (tOp (rIX K) (tVar 2) (tVar 6)) (gName 7)) (tSeq (tAsg (tOp rMOD (tCB rINT (tCons (tOp (rADD K) (tOp (rADD K) (tOp (rADD K) (tOp (rMUL K) (tVar 4) (tC (.int 48271))) (tOp (rMUL K) (tOp rMOD (tCB rINT (tCons (tVar 7) tNil)) (tC (.int 1000003))) (tC (.int 69621)))) (tOp (rMUL K) (tVar 5) (tC (.int 7919)))) (tC (.int 11))) tNil)) (tC (.int 2147483647))) (gName 4)) (tSeq (tAsg (tOp rMOD (tCB rINT (tCons (tOp (rADD K) (tOp (rADD K) (tOp (rMUL K) (tVar 4) (tVar 4)) (tOp (rMUL K) (tC (.int 31)) (tVar 4))) (tVar 5)) tNil)) (tC (.int 1000003))) (gName 8)) (tIfS (tTest (tOp rGE (tVar 7) (tOp rPOW (tC (.int 10)) (tC (.int 18))))) (tSeq (tDrop (tBM K "list" rAppend (tVar 3) (tCons (tOp rMOD (tCB rINT (tCons (tVar 7) tNil)) (tC (.int 1000))) tNil))) (tAsg (tOp rFDIV (tVar 7) (tC (.int 1000))) (gSub (tVar 2) (tVar 6) rSetL))) (tDrop (tBM K "list" rAppend (tVar 3) (tCons (tOp rMOD (tCB rINT (tCons (tVar 8) tNil)) (tC (.int 1000))) tNil))))))))) (tSeq (tDrop (tBM0 K "list" rReverse (tVar 3))) (tRet (tVar 3))))))))
theorem ok_law_draws {k : Nat} {spc : FS} (b_list : mg ("list" : PySem.Str) = none) (b_len : mg ("len" : PySem.Str) = none) (b_range : mg ("range" : PySem.Str) = none) (b_int : mg ("int" : PySem.Str) = none) (len : ∀ xs Φ, spc xs Φ → xs.length = 2)
    (rd : ∀ vs H Q E, toSp K spc vs H Q E → t_law_draws K { nx := fun _ H' => Q .non H', rt := Q } (L2.start N_law_draws vs) H) {f : Addr} {fd : FuncData} (F : FunD K "_law_draws" "_law_draws" (defArgs Hd.s_law_draws) (defBody Hd.s_law_draws) (defScope Hd.s_law_draws) [] [] f fd) : FnOk P w K mg base CX0 (k + 1) f fd [("_law_script" : PySem.Str), ("_law_count" : PySem.Str)] (toSp K spc) := by
  refine F.ok sc_law_draws (sp_len len) (fun cdv A outer s H vs Q E hr h => ⟨t_law_draws K, PSs.nox ?_, rd vs H Q E h⟩)
  have hu := hu65 hr
  have nd := sc_law_draws.nd
  exact (pss_cons (ps_set (i := 2) nd rfl (by first | exact Or.inl rfl | exact Or.inr rfl) (pe_callTy call_LIST (by rfl) b_list (by decide +kernel) (pa_cons (pv 0) pa_nil))) (pss_cons (ps_if (pt_cmpR (op_EQ hu) (pe_callB call_LEN (by rfl) b_len (by decide +kernel) (pa_cons (pv 2) pa_nil)) pe_int (nomark _)) (pss_one (ps_set (i := 2) nd rfl (by first | exact Or.inl rfl | exact Or.inr rfl) (pe_lst (pa_cons pe_int pa_nil)))) pss_nil) (pss_cons (ps_set (i := 3) nd rfl (by first | exact Or.inl rfl | exact Or.inr rfl) (pe_lst pa_nil)) (pss_cons (ps_set (i := 4) nd rfl (by first | exact Or.inl rfl | exact Or.inr rfl) pe_int) (pss_cons (ps_for PassesOwn.never rfl (pi_range1 rfl b_range (pa_cons (pv 1) pa_nil)) (pg_name (i := 5) nd rfl (by first | exact Or.inl rfl | exact Or.inr rfl)) (pss_cons (ps_set (i := 6) nd rfl (by first | exact Or.inl rfl | exact Or.inr rfl) (pe_op op_MOD (pv 5) (pe_callB call_LEN (by rfl) b_len (by decide +kernel) (pa_cons (pv 2) pa_nil)))) (pss_cons (ps_set (i := 7) nd rfl (by first | exact Or.inl rfl | exact Or.inr rfl) (pe_ix ix_IX (pv 2) (pv 6) (fun _ _ => rfl))) (pss_cons (ps_set (i := 4) nd rfl (by first | exact Or.inl rfl | exact Or.inr rfl) (pe_op op_MOD (pe_callTy call_INT (by rfl) b_int (by decide +kernel) (pa_cons (pe_op op_ADD (pe_op op_ADD (pe_op op_ADD (pe_op op_MUL (pv 4) pe_int) (pe_op op_MUL (pe_op op_MOD (pe_callTy call_INT (by rfl) b_int (by decide +kernel) (pa_cons (pv 7) pa_nil)) pe_int) pe_int)) (pe_op op_MUL (pv 5) pe_int)) pe_int) pa_nil)) pe_int)) (pss_cons (ps_set (i := 8) nd rfl (by first | exact Or.inl rfl | exact Or.inr rfl) (pe_op op_MOD (pe_callTy call_INT (by rfl) b_int (by decide +kernel) (pa_cons (pe_op op_ADD (pe_op op_ADD (pe_op op_MUL (pv 4) (pv 4)) (pe_op op_MUL pe_int (pv 4))) (pv 5)) pa_nil)) pe_int)) (pss_one (ps_if (pt_cmpR op_GE (pv 7) (pe_op op_POW pe_int pe_int) (nomark _)) (pss_cons (ps_expr (pe_bm PySem.F.plainAttrs_list PySem.F.slot_list_append PySem.F.type_list_append mt_append (pv 3) (pa_cons (pe_op op_MOD (pe_callTy call_INT (by rfl) b_int (by decide +kernel) (pa_cons (pv 7) pa_nil)) pe_int) pa_nil))) (pss_one (ps_asg (pe_op op_FDIV (pv 7) pe_int) (pg_sub (pv 2) (pv 6) set_list)))) (pss_one (ps_expr (pe_bm PySem.F.plainAttrs_list PySem.F.slot_list_append PySem.F.type_list_append mt_append (pv 3) (pa_cons (pe_op op_MOD (pe_callTy call_INT (by rfl) b_int (by decide +kernel) (pa_cons (pv 8) pa_nil)) pe_int) pa_nil))))))))))) (pss_cons (ps_expr (pe_bm0 PySem.F.plainAttrs_list PySem.F.slot_list_reverse PySem.F.type_list_reverse mt_reverse (pv 3))) (pss_one (ps_ret (pv 3)))))))))
/-! ### _law_take: 0 _law_draws_here 1 _law_limit -/
def N_law_take : List PySem.Str := [("_law_draws_here" : PySem.Str), ("_law_limit" : PySem.Str)]
theorem sc_law_take : FnScope N_law_take [("_law_draws_here" : PySem.Str), ("_law_limit" : PySem.Str)] (defScope Hd.s_law_take) := ⟨rfl, rfl, rfl, by decide +kernel, rfl, by decide +kernel, by decide +kernel⟩
def t_law_take (K : PySem.W.Frag) : TS := (tSeq (tIfS (tTest (tOp (rEQ K) (tCB (rLEN K) (tCons (tVar 0) tNil)) (tC (.int 0)))) (tRet (tC (.int 0))) tNext) (tRet (tOp rMOD (tCB rINT (tCons (tBM0 K "list" rPop (tVar 0)) tNil)) (tVar 1))))
theorem ok_law_take {k : Nat} {spc : FS} (b_len : mg ("len" : PySem.Str) = none) (b_int : mg ("int" : PySem.Str) = none) (len : ∀ xs Φ, spc xs Φ → xs.length = 2)
    (rd : ∀ vs H Q E, toSp K spc vs H Q E → t_law_take K { nx := fun _ H' => Q .non H', rt := Q } (L2.start N_law_take vs) H) {f : Addr} {fd : FuncData} (F : FunD K "_law_take" "_law_take" (defArgs Hd.s_law_take) (defBody Hd.s_law_take) (defScope Hd.s_law_take) [] [] f fd) : FnOk P w K mg base CX0 (k + 1) f fd [("_law_draws_here" : PySem.Str), ("_law_limit" : PySem.Str)] (toSp K spc) := by
  refine F.ok sc_law_take (sp_len len) (fun cdv A outer s H vs Q E hr h => ⟨t_law_take K, PSs.nox ?_, rd vs H Q E h⟩)
  have hu := hu65 hr
  have nd := sc_law_take.nd
  exact (pss_cons (ps_if (pt_cmpR (op_EQ hu) (pe_callB call_LEN (by rfl) b_len (by decide +kernel) (pa_cons (pv 0) pa_nil)) pe_int (nomark _)) (pss_one (ps_ret pe_int)) pss_nil) (pss_one (ps_ret (pe_op op_MOD (pe_callTy call_INT (by rfl) b_int (by decide +kernel) (pa_cons (pe_bm0 PySem.F.plainAttrs_list PySem.F.slot_list_pop PySem.F.type_list_pop mt_pop (pv 0)) pa_nil)) (pv 1)))))
/-! ### _law_is_integer: 0 _law_actual -/
def N_law_is_integer : List PySem.Str := [("_law_actual" : PySem.Str)]
theorem sc_law_is_integer : FnScope N_law_is_integer [("_law_actual" : PySem.Str)] (defScope Hd.s_law_is_integer) := ⟨rfl, rfl, rfl, by decide +kernel, rfl, by decide +kernel, by decide +kernel⟩
def t_law_is_integer (K : PySem.W.Frag) : TS := (tRet (tAndV (tCB (rISINSTANCE K) (tCons (tVar 0) (tCons (tC (.ty "int")) tNil))) (tNotV (tCB (rISINSTANCE K) (tCons (tVar 0) (tCons (tC (.ty "bool")) tNil))))))
theorem ok_law_is_integer {k : Nat} {spc : FS} (b_isinstance : mg ("isinstance" : PySem.Str) = none) (b_int : mg ("int" : PySem.Str) = none) (b_bool : mg ("bool" : PySem.Str) = none) (len : ∀ xs Φ, spc xs Φ → xs.length = 1)
    (rd : ∀ vs H Q E, toSp K spc vs H Q E → t_law_is_integer K { nx := fun _ H' => Q .non H', rt := Q } (L2.start N_law_is_integer vs) H) {f : Addr} {fd : FuncData} (F : FunD K "_law_is_integer" "_law_is_integer" (defArgs Hd.s_law_is_integer) (defBody Hd.s_law_is_integer) (defScope Hd.s_law_is_integer) [] [] f fd) : FnOk P w K mg base CX0 (k + 1) f fd [("_law_actual" : PySem.Str)] (toSp K spc) := by
  refine F.ok sc_law_is_integer (sp_len len) (fun cdv A outer s H vs Q E hr h => ⟨t_law_is_integer K, PSs.nox ?_, rd vs H Q E h⟩)
  have hu := hu65 hr
  have nd := sc_law_is_integer.nd
  exact (pss_one (ps_ret (pe_and (pe_callB call_ISINSTANCE (by rfl) b_isinstance (by decide +kernel) (pa_cons (pv 0) (pa_cons (pe_bltn (v := .ty "int") (by rfl) b_int (by decide +kernel) rfl) pa_nil))) (pe_one (pe_not (pe_callB call_ISINSTANCE (by rfl) b_isinstance (by decide +kernel) (pa_cons (pv 0) (pa_cons (pe_bltn (v := .ty "bool") (by rfl) b_bool (by decide +kernel) rfl) pa_nil))))))))
/-! ### _law_alphabet: 0 _law_draws_here 1 _law_places 2 _law_most 3 _law_count 4 _law_letters 5 _law_k 6 _law_size 7 _law_there 8 _law_j -/
def N_law_alphabet : List PySem.Str := [("_law_draws_here" : PySem.Str), ("_law_places" : PySem.Str), ("_law_most" : PySem.Str), ("_law_count" : PySem.Str), ("_law_letters" : PySem.Str), ("_law_k" : PySem.Str), ("_law_size" : PySem.Str), ("_law_there" : PySem.Str), ("_law_j" : PySem.Str)]
theorem sc_law_alphabet : FnScope N_law_alphabet [("_law_draws_here" : PySem.Str), ("_law_places" : PySem.Str), ("_law_most" : PySem.Str)] (defScope Hd.s_law_alphabet) := ⟨rfl, rfl, rfl, by decide +kernel, rfl, by decide +kernel, by decide +kernel⟩
def t_law_alphabet (K : PySem.W.Frag) (S_law_take : Sp) : TS := (tSeq (tAsg (tOp (rADD K) (tC (.int 1)) (tCall S_law_take [] E0 (tCons (tVar 0) (tCons (tVar 1) tNil)))) (gName 3)) (tSeq (tAsg (tLst tNil) (gName 4)) (tSeq (tFor (iRng1 (tCons (tOp (rADD K) (tC (.int 1)) (tCall S_law_take [] E0 (tCons (tVar 0) (tCons (tVar 2) tNil)))) tNil)) (gName 5) (tSeq (tAsg (tOp (rIX K) (tLst (tCons (tC (.int 1)) (tCons (tC (.int 1)) (tCons (tC (.int 1)) (tCons (tC (.int 2)) (tCons (tC (.int 2)) (tCons (tC (.int 3)) tNil))))))) (tCall S_law_take [] E0 (tCons (tVar 0) (tCons (tC (.int 6)) tNil)))) (gName 6)) (tSeq (tAsg (tLc (iRng1 (tCons (tVar 6) tNil)) (gName 8) tYes (tCall S_law_take [] E0 (tCons (tVar 0) (tCons (tVar 3) tNil))) [8]) (gName 7)) (tDrop (tBM K "list" rAppend (tVar 4) (tCons (tCB (rTUPLE K) (tCons (tsortedSET K (tVar 7)) tNil)) tNil)))))) (tRet (tTup (tCons (tVar 3) (tCons (tVar 4) tNil)))))))
theorem ok_law_alphabet {S_law_take : Sp} {j_law_take : Nat} {k : Nat} {spc : FS} (h_law_take : Has P w K mg base j_law_take ("_law_take" : PySem.Str) [("_law_draws_here" : PySem.Str), ("_law_limit" : PySem.Str)] S_law_take) (b_range : mg ("range" : PySem.Str) = none) (b_tuple : mg ("tuple" : PySem.Str) = none) (b_sorted : mg ("sorted" : PySem.Str) = none) (b_set : mg ("set" : PySem.Str) = none) (l_j_law_take : j_law_take ≤ k) (len : ∀ xs Φ, spc xs Φ → xs.length = 3)
    (rd : ∀ vs H Q E, toSp K spc vs H Q E → t_law_alphabet K S_law_take { nx := fun _ H' => Q .non H', rt := Q } (L2.start N_law_alphabet vs) H) {f : Addr} {fd : FuncData} (F : FunD K "_law_alphabet" "_law_alphabet" (defArgs Hd.s_law_alphabet) (defBody Hd.s_law_alphabet) (defScope Hd.s_law_alphabet) [] [] f fd) : FnOk P w K mg base CX0 (k + 1) f fd [("_law_draws_here" : PySem.Str), ("_law_places" : PySem.Str), ("_law_most" : PySem.Str)] (toSp K spc) := by
  refine F.ok sc_law_alphabet (sp_len len) (fun cdv A outer s H vs Q E hr h => ⟨t_law_alphabet K S_law_take, PSs.nox ?_, rd vs H Q E h⟩)
  have hu := hu65 hr
  have nd := sc_law_alphabet.nd
  exact (pss_cons (ps_set (i := 3) nd rfl (by first | exact Or.inl rfl | exact Or.inr rfl) (pe_op op_ADD pe_int (pe_callH h_law_take (hr.mono l_j_law_take) rfl (pa_cons (pv 0) (pa_cons (pv 1) pa_nil))))) (pss_cons (ps_set (i := 4) nd rfl (by first | exact Or.inl rfl | exact Or.inr rfl) (pe_lst pa_nil)) (pss_cons (ps_for PassesOwn.never rfl (pi_range1 rfl b_range (pa_cons (pe_op op_ADD pe_int (pe_callH h_law_take (hr.mono l_j_law_take) rfl (pa_cons (pv 0) (pa_cons (pv 2) pa_nil)))) pa_nil)) (pg_name (i := 5) nd rfl (by first | exact Or.inl rfl | exact Or.inr rfl)) (pss_cons (ps_set (i := 6) nd rfl (by first | exact Or.inl rfl | exact Or.inr rfl) (pe_ix ix_IX (pe_lst (pa_cons pe_int (pa_cons pe_int (pa_cons pe_int (pa_cons pe_int (pa_cons pe_int (pa_cons pe_int pa_nil))))))) (pe_callH h_law_take (hr.mono l_j_law_take) rfl (pa_cons (pv 0) (pa_cons pe_int pa_nil))) (fun _ _ => rfl))) (pss_cons (ps_setLc (i := 7) (own := [(("_law_j" : PySem.Str), 8)]) rfl nd rfl rfl (sw_true rfl rfl rfl (by decide +kernel)) (pi_range1 rfl b_range (pa_cons (pv 6) pa_nil)) (blkOk_by (N := N_law_alphabet) (by kernel_rfl)) (fun _ _ _ _ _ => (pg_name (i := 8) nd rfl (by first | exact Or.inl rfl | exact Or.inr rfl))) (fun _ _ _ _ _ => pts_nil) (fun _ _ _ _ _ => (pe_callH h_law_take (hr.mono l_j_law_take) rfl (pa_cons (pv 0) (pa_cons (pv 3) pa_nil))))) (pss_one (ps_expr (pe_bm PySem.F.plainAttrs_list PySem.F.slot_list_append PySem.F.type_list_append mt_append (pv 4) (pa_cons (pe_callTy call_TUPLE (by rfl) b_tuple (by decide +kernel) (pa_cons (pe_sortedSET rfl b_sorted rfl b_set (pv 7)) pa_nil)) pa_nil))))))) (pss_one (ps_ret (pe_tup (pa_cons (pv 3) (pa_cons (pv 4) pa_nil))))))))
/-! ### _law_free: 0 _law_letters 1 _law_first 2 _law_second 3 _law_place -/
def N_law_free : List PySem.Str := [("_law_letters" : PySem.Str), ("_law_first" : PySem.Str), ("_law_second" : PySem.Str), ("_law_place" : PySem.Str)]
theorem sc_law_free : FnScope N_law_free [("_law_letters" : PySem.Str), ("_law_first" : PySem.Str), ("_law_second" : PySem.Str)] (defScope Hd.s_law_free) := ⟨rfl, rfl, rfl, by decide +kernel, rfl, by decide +kernel, by decide +kernel⟩
def t_law_free (K : PySem.W.Frag) : TS := (tRet (tOp (rEQ K) (tCB (rLEN K) (tCons (tLc (iSEQ K (tOp (rIX K) (tVar 0) (tVar 1))) (gName 3) (tTest (tOp (rIN K) (tVar 3) (tOp (rIX K) (tVar 0) (tVar 2)))) (tVar 3) [3]) tNil)) (tC (.int 0))))
theorem ok_law_free {k : Nat} {spc : FS} (b_len : mg ("len" : PySem.Str) = none) (len : ∀ xs Φ, spc xs Φ → xs.length = 3)
    (rd : ∀ vs H Q E, toSp K spc vs H Q E → t_law_free K { nx := fun _ H' => Q .non H', rt := Q } (L2.start N_law_free vs) H) {f : Addr} {fd : FuncData} (F : FunD K "_law_free" "_law_free" (defArgs Hd.s_law_free) (defBody Hd.s_law_free) (defScope Hd.s_law_free) [] [] f fd) : FnOk P w K mg base CX0 (k + 1) f fd [("_law_letters" : PySem.Str), ("_law_first" : PySem.Str), ("_law_second" : PySem.Str)] (toSp K spc) := by
  refine F.ok sc_law_free (sp_len len) (fun cdv A outer s H vs Q E hr h => ⟨t_law_free K, PSs.nox ?_, rd vs H Q E h⟩)
  have hu := hu65 hr
  have nd := sc_law_free.nd
  exact (pss_one (ps_ret (pe_cmpR (op_EQ hu) (pe_callB call_LEN (by rfl) b_len (by decide +kernel) (pa_cons (pe_lc (own := [(("_law_place" : PySem.Str), 3)]) rfl nd (pi_SEQ (pe_ix ix_IX (pv 0) (pv 1) (fun _ _ => rfl))) (blkOk_by (N := N_law_free) (by kernel_rfl)) (fun _ _ _ _ _ => (pg_name (i := 3) nd rfl (by first | exact Or.inl rfl | exact Or.inr rfl))) (fun _ _ _ _ _ => (pts_one (pt_cmpR (op_IN hu) (pv 3) (pe_ix ix_IX (pv 0) (pv 2) (fun _ _ => rfl)) (by rfl)))) (fun _ _ _ _ _ => (pv 3))) pa_nil)) pe_int (nomark _))))
/-! ### _law_word: 0 _law_draws_here 1 _law_letters 2 _law_most 3 _law_k -/
def N_law_word : List PySem.Str := [("_law_draws_here" : PySem.Str), ("_law_letters" : PySem.Str), ("_law_most" : PySem.Str), ("_law_k" : PySem.Str)]
theorem sc_law_word : FnScope N_law_word [("_law_draws_here" : PySem.Str), ("_law_letters" : PySem.Str), ("_law_most" : PySem.Str)] (defScope Hd.s_law_word) := ⟨rfl, rfl, rfl, by decide +kernel, rfl, by decide +kernel, by decide +kernel⟩
def t_law_word (K : PySem.W.Frag) (S_law_take : Sp) : TS := (tRet (tCB (rTUPLE K) (tCons (tLc (iRng1 (tCons (tCall S_law_take [] E0 (tCons (tVar 0) (tCons (tOp (rADD K) (tVar 2) (tC (.int 1))) tNil))) tNil)) (gName 3) tYes (tCall S_law_take [] E0 (tCons (tVar 0) (tCons (tVar 1) tNil))) [3]) tNil)))
theorem ok_law_word {S_law_take : Sp} {j_law_take : Nat} {k : Nat} {spc : FS} (b_tuple : mg ("tuple" : PySem.Str) = none) (b_range : mg ("range" : PySem.Str) = none) (h_law_take : Has P w K mg base j_law_take ("_law_take" : PySem.Str) [("_law_draws_here" : PySem.Str), ("_law_limit" : PySem.Str)] S_law_take) (l_j_law_take : j_law_take ≤ k) (len : ∀ xs Φ, spc xs Φ → xs.length = 3)
    (rd : ∀ vs H Q E, toSp K spc vs H Q E → t_law_word K S_law_take { nx := fun _ H' => Q .non H', rt := Q } (L2.start N_law_word vs) H) {f : Addr} {fd : FuncData} (F : FunD K "_law_word" "_law_word" (defArgs Hd.s_law_word) (defBody Hd.s_law_word) (defScope Hd.s_law_word) [] [] f fd) : FnOk P w K mg base CX0 (k + 1) f fd [("_law_draws_here" : PySem.Str), ("_law_letters" : PySem.Str), ("_law_most" : PySem.Str)] (toSp K spc) := by
  refine F.ok sc_law_word (sp_len len) (fun cdv A outer s H vs Q E hr h => ⟨t_law_word K S_law_take, PSs.nox ?_, rd vs H Q E h⟩)
  have hu := hu65 hr
  have nd := sc_law_word.nd
  exact (pss_one (ps_ret (pe_callTy call_TUPLE (by rfl) b_tuple (by decide +kernel) (pa_cons (pe_lc (own := [(("_law_k" : PySem.Str), 3)]) rfl nd (pi_range1 rfl b_range (pa_cons (pe_callH h_law_take (hr.mono l_j_law_take) rfl (pa_cons (pv 0) (pa_cons (pe_op op_ADD (pv 2) pe_int) pa_nil))) pa_nil)) (blkOk_by (N := N_law_word) (by kernel_rfl)) (fun _ _ _ _ _ => (pg_name (i := 3) nd rfl (by first | exact Or.inl rfl | exact Or.inr rfl))) (fun _ _ _ _ _ => pts_nil) (fun _ _ _ _ _ => (pe_callH h_law_take (hr.mono l_j_law_take) rfl (pa_cons (pv 0) (pa_cons (pv 1) pa_nil))))) pa_nil))))
/-! ### _law_below: 0 _law_letters 1 _law_word_here 2 _law_size 3 _law_j 4 _law_k 5 _law_found 6 _law_i -/
def N_law_below : List PySem.Str := [("_law_letters" : PySem.Str), ("_law_word_here" : PySem.Str), ("_law_size" : PySem.Str), ("_law_j" : PySem.Str), ("_law_k" : PySem.Str), ("_law_found" : PySem.Str), ("_law_i" : PySem.Str)]
theorem sc_law_below : FnScope N_law_below [("_law_letters" : PySem.Str), ("_law_word_here" : PySem.Str)] (defScope Hd.s_law_below) := ⟨rfl, rfl, rfl, by decide +kernel, rfl, by decide +kernel, by decide +kernel⟩
def t_law_below (K : PySem.W.Frag) (S_law_free : Sp) : TS := (tSeq (tAsg (tCB (rLEN K) (tCons (tVar 1) tNil)) (gName 2)) (tSeq (tAsg (tLc (iRng1 (tCons (tVar 2) tNil)) (gName 3) tYes (tLc (iRng1 (tCons (tVar 2) tNil)) (gName 4) tYes (tOp (rEQ K) (tVar 3) (tVar 4)) [4]) [3]) (gName 5)) (tSeq (tFor (iRng1 (tCons (tVar 2) tNil)) (gName 4) (tFor (iRng1 (tCons (tVar 4) tNil)) (gName 3) (tIfS (tNot (tTRU K (tCall S_law_free [] E0 (tCons (tVar 0) (tCons (tOp (rIX K) (tVar 1) (tVar 3)) (tCons (tOp (rIX K) (tVar 1) (tVar 4)) tNil)))))) (tFor (iRng1 (tCons (tVar 2) tNil)) (gName 6) (tIfS (tTRU K (tOp (rIX K) (tOp (rIX K) (tVar 5) (tVar 6)) (tVar 3))) (tAsg (tC (.bl true)) (gSub (tOp (rIX K) (tVar 5) (tVar 6)) (tVar 4) rSetL)) tNext)) tNext))) (tRet (tVar 5)))))
theorem ok_law_below {S_law_free : Sp} {j_law_free : Nat} {k : Nat} {spc : FS} (b_len : mg ("len" : PySem.Str) = none) (b_range : mg ("range" : PySem.Str) = none) (h_law_free : Has P w K mg base j_law_free ("_law_free" : PySem.Str) [("_law_letters" : PySem.Str), ("_law_first" : PySem.Str), ("_law_second" : PySem.Str)] S_law_free) (l_j_law_free : j_law_free ≤ k) (len : ∀ xs Φ, spc xs Φ → xs.length = 2)
    (rd : ∀ vs H Q E, toSp K spc vs H Q E → t_law_below K S_law_free { nx := fun _ H' => Q .non H', rt := Q } (L2.start N_law_below vs) H) {f : Addr} {fd : FuncData} (F : FunD K "_law_below" "_law_below" (defArgs Hd.s_law_below) (defBody Hd.s_law_below) (defScope Hd.s_law_below) [] [] f fd) : FnOk P w K mg base CX0 (k + 1) f fd [("_law_letters" : PySem.Str), ("_law_word_here" : PySem.Str)] (toSp K spc) := by
  refine F.ok sc_law_below (sp_len len) (fun cdv A outer s H vs Q E hr h => ⟨t_law_below K S_law_free, PSs.nox ?_, rd vs H Q E h⟩)
  have hu := hu65 hr
  have nd := sc_law_below.nd
  exact (pss_cons (ps_set (i := 2) nd rfl (by first | exact Or.inl rfl | exact Or.inr rfl) (pe_callB call_LEN (by rfl) b_len (by decide +kernel) (pa_cons (pv 1) pa_nil))) (pss_cons (ps_setLc (i := 5) (own := [(("_law_j" : PySem.Str), 3)]) rfl nd rfl rfl (sw_true rfl rfl rfl (by decide +kernel)) (pi_range1 rfl b_range (pa_cons (pv 2) pa_nil)) (blkOk_by (N := N_law_below) (by kernel_rfl)) (fun _ _ _ _ _ => (pg_name (i := 3) nd rfl (by first | exact Or.inl rfl | exact Or.inr rfl))) (fun _ _ _ _ _ => pts_nil) (fun _ _ _ _ _ => (pe_lc (own := [(("_law_k" : PySem.Str), 4)]) rfl nd (pi_range1 rfl b_range (pa_cons (pv 2) pa_nil)) (blkOk_by (N := N_law_below) (by kernel_rfl)) (fun _ _ _ _ _ => (pg_name (i := 4) nd rfl (by first | exact Or.inl rfl | exact Or.inr rfl))) (fun _ _ _ _ _ => pts_nil) (fun _ _ _ _ _ => (pe_cmpR (op_EQ hu) (pv 3) (pv 4) (nomark _)))))) (pss_cons (ps_for PassesOwn.never rfl (pi_range1 rfl b_range (pa_cons (pv 2) pa_nil)) (pg_name (i := 4) nd rfl (by first | exact Or.inl rfl | exact Or.inr rfl)) (pss_one (ps_for PassesOwn.never rfl (pi_range1 rfl b_range (pa_cons (pv 4) pa_nil)) (pg_name (i := 3) nd rfl (by first | exact Or.inl rfl | exact Or.inr rfl)) (pss_one (ps_if (pt_not (pt_truth (pe_callH h_law_free (hr.mono l_j_law_free) rfl (pa_cons (pv 0) (pa_cons (pe_ix ix_IX (pv 1) (pv 3) (fun _ _ => rfl)) (pa_cons (pe_ix ix_IX (pv 1) (pv 4) (fun _ _ => rfl)) pa_nil)))) (by intro _; rfl))) (pss_one (ps_for PassesOwn.never rfl (pi_range1 rfl b_range (pa_cons (pv 2) pa_nil)) (pg_name (i := 6) nd rfl (by first | exact Or.inl rfl | exact Or.inr rfl)) (pss_one (ps_if (pt_truth (pe_ix ix_IX (pe_ix ix_IX (pv 5) (pv 6) (fun _ _ => rfl)) (pv 3) (fun _ _ => rfl)) (by intro _; rfl)) (pss_one (ps_asg pe_bl (pg_sub (pe_ix ix_IX (pv 5) (pv 6) (fun _ _ => rfl)) (pv 4) set_list))) pss_nil)))) pss_nil))))) (pss_one (ps_ret (pv 5))))))
/-! ### law: 0 _law_script 1 _law_draws_here 2 _law_count 3 _law_letters 4 _law_word_here 5 _law_found 6 _law_apart 7 _law_rows 8 _law_below_here 9 _law_event 10 _law_seen 11 _law_row 12 _law_k 13 _law_other -/
def N_law : List PySem.Str := [("_law_script" : PySem.Str), ("_law_draws_here" : PySem.Str), ("_law_count" : PySem.Str), ("_law_letters" : PySem.Str), ("_law_word_here" : PySem.Str), ("_law_found" : PySem.Str), ("_law_apart" : PySem.Str), ("_law_rows" : PySem.Str), ("_law_below_here" : PySem.Str), ("_law_event" : PySem.Str), ("_law_seen" : PySem.Str), ("_law_row" : PySem.Str), ("_law_k" : PySem.Str), ("_law_other" : PySem.Str)]
theorem sc_law : FnScope N_law [("_law_script" : PySem.Str)] (defScope Hd.s_law) := ⟨rfl, rfl, rfl, by decide +kernel, rfl, by decide +kernel, by decide +kernel⟩
def t_law (K : PySem.W.Frag) (S_law_draws : Sp) (S_law_alphabet : Sp) (S_law_word : Sp) (S_widest : Sp) (C_Alphabet : Addr) (S_Alphabet___init__ : Sp) (S_law_below : Sp) (S_law_is_integer : Sp) : TS := (tSeq (tAsg (tCall S_law_draws [] E0 (tCons (tVar 0) (tCons (tC (.int 80)) tNil))) (gName 1)) (tSeq (tAsg (tCall S_law_alphabet [] E0 (tCons (tVar 1) (tCons (tC (.int 4)) (tCons (tC (.int 6)) tNil)))) (gTup K 2 (gCons (gName 2) (gCons (gName 3) gNil)))) (tSeq (tAsg (tCall S_law_word [] E0 (tCons (tVar 1) (tCons (tCB (rLEN K) (tCons (tVar 3) tNil)) (tCons (tC (.int 14)) tNil)))) (gName 4)) (tSeq (tAsg (tCall S_widest [] E0 (tCons (tMake C_Alphabet S_Alphabet___init__ [] E0 (tCons (tVar 2) (tCons (tCB (rLIST K) (tCons (tVar 3) tNil)) tNil))) (tCons (tVar 4) tNil))) (gName 5)) (tSeq (tIfS (tOr (tNot (tTRU K (tCB (rISINSTANCE K) (tCons (tVar 5) (tCons (tC (.ty "tuple")) tNil))))) (tOr (tTest (tOp (rNE K) (tCB (rLEN K) (tCons (tVar 5) tNil)) (tC (.int 2)))) (tOr (tNot (tTRU K (tCB (rISINSTANCE K) (tCons (tOp (rIX K) (tVar 5) (tC (.int 0))) (tCons (tC (.ty "list")) tNil))))) (tNot (tTRU K (tCB (rISINSTANCE K) (tCons (tOp (rIX K) (tVar 5) (tC (.int 1))) (tCons (tC (.ty "list")) tNil)))))))) (tRet (tC (.bl false))) tNext) (tSeq (tAsg (tVar 5) (gTup K 2 (gCons (gName 6) (gCons (gName 7) gNil)))) (tSeq (tAsg (tCall S_law_below [] E0 (tCons (tVar 3) (tCons (tVar 4) tNil))) (gName 8)) (tSeq (tIfS (tOr (tTest (tOp (rNE K) (tCB (rLEN K) (tCons (tVar 6) tNil)) (tCB (rLEN K) (tCons (tVar 7) tNil)))) (tTest (tOp (rNE K) (tVar 6) (tsortedSET K (tVar 6))))) (tRet (tC (.bl false))) tNext) (tSeq (tFor (iSEQ K (tVar 6)) (gName 9) (tSeq (tIfS (tOr (tNot (tTRU K (tCall S_law_is_integer [] E0 (tCons (tVar 9) tNil)))) (tOr (tTest (tOp (rLT K) (tVar 9) (tC (.int 0)))) (tTest (tOp rGE (tVar 9) (tCB (rLEN K) (tCons (tVar 4) tNil)))))) (tRet (tC (.bl false))) tNext) (tIfS (tTest (tOp rGT (tCB (rLEN K) (tCons (tLc (iSEQ K (tVar 6)) (gName 13) (tAnd (tTest (tOp (rNE K) (tVar 13) (tVar 9))) (tTRU K (tOp (rIX K) (tOp (rIX K) (tVar 8) (tVar 9)) (tVar 13)))) (tVar 13) [13]) tNil)) (tC (.int 0)))) (tRet (tC (.bl false))) tNext))) (tSeq (tAsg (tLst tNil) (gName 10)) (tSeq (tFor (iSEQ K (tVar 7)) (gName 11) (tSeq (tIfS (tOr (tNot (tTRU K (tCB (rISINSTANCE K) (tCons (tVar 11) (tCons (tC (.ty "list")) tNil))))) (tTest (tOp (rEQ K) (tCB (rLEN K) (tCons (tVar 11) tNil)) (tC (.int 0))))) (tRet (tC (.bl false))) tNext) (tSeq (tFor (iRng1 (tCons (tCB (rLEN K) (tCons (tVar 11) tNil)) tNil)) (gName 12) (tSeq (tIfS (tOr (tNot (tTRU K (tCall S_law_is_integer [] E0 (tCons (tOp (rIX K) (tVar 11) (tVar 12)) tNil)))) (tOr (tTest (tOp (rLT K) (tOp (rIX K) (tVar 11) (tVar 12)) (tC (.int 0)))) (tTest (tOp rGE (tOp (rIX K) (tVar 11) (tVar 12)) (tCB (rLEN K) (tCons (tVar 4) tNil)))))) (tRet (tC (.bl false))) tNext) (tIfS (tAnd (tTest (tOp rGT (tVar 12) (tC (.int 0)))) (tOr (tTest (tOp (rEQ K) (tOp (rIX K) (tVar 11) (tVar 12)) (tOp (rIX K) (tVar 11) (tOp rSUB (tVar 12) (tC (.int 1)))))) (tNot (tTRU K (tOp (rIX K) (tOp (rIX K) (tVar 8) (tOp (rIX K) (tVar 11) (tOp rSUB (tVar 12) (tC (.int 1))))) (tOp (rIX K) (tVar 11) (tVar 12))))))) (tRet (tC (.bl false))) tNext))) (tAsg (tOp (rADD K) (tVar 10) (tVar 11)) (gName 10))))) (tRet (tOp (rEQ K) (tCB (rSORTED K) (tCons (tVar 10) tNil)) (tLstRg (tRg1 (tCB (rLEN K) (tCons (tVar 4) tNil)))))))))))))))))
theorem ok_law {S_law_draws : Sp} {S_law_alphabet : Sp} {S_law_word : Sp} {S_widest : Sp} {C_Alphabet : Addr} {S_Alphabet___init__ : Sp} {S_law_below : Sp} {S_law_is_integer : Sp} {j_law_draws : Nat} {j_law_alphabet : Nat} {j_law_word : Nat} {j_widest : Nat} {j_Alphabet : Nat} {j_law_below : Nat} {j_law_is_integer : Nat} {k : Nat} {spc : FS} (h_law_draws : Has P w K mg base j_law_draws ("_law_draws" : PySem.Str) [("_law_script" : PySem.Str), ("_law_count" : PySem.Str)] S_law_draws) (h_law_alphabet : Has P w K mg base j_law_alphabet ("_law_alphabet" : PySem.Str) [("_law_draws_here" : PySem.Str), ("_law_places" : PySem.Str), ("_law_most" : PySem.Str)] S_law_alphabet) (h_law_word : Has P w K mg base j_law_word ("_law_word" : PySem.Str) [("_law_draws_here" : PySem.Str), ("_law_letters" : PySem.Str), ("_law_most" : PySem.Str)] S_law_word) (b_len : mg ("len" : PySem.Str) = none) (h_widest : Has P w K mg base j_widest ("widest" : PySem.Str) [("alphabet" : PySem.Str), ("word" : PySem.Str)] S_widest) (i_Alphabet : HasI P w K mg base j_Alphabet ("Alphabet" : PySem.Str) C_Alphabet [("self" : PySem.Str), ("places" : PySem.Str), ("letters" : PySem.Str)] S_Alphabet___init__) (b_list : mg ("list" : PySem.Str) = none) (b_isinstance : mg ("isinstance" : PySem.Str) = none) (b_tuple : mg ("tuple" : PySem.Str) = none) (h_law_below : Has P w K mg base j_law_below ("_law_below" : PySem.Str) [("_law_letters" : PySem.Str), ("_law_word_here" : PySem.Str)] S_law_below) (b_sorted : mg ("sorted" : PySem.Str) = none) (b_set : mg ("set" : PySem.Str) = none) (h_law_is_integer : Has P w K mg base j_law_is_integer ("_law_is_integer" : PySem.Str) [("_law_actual" : PySem.Str)] S_law_is_integer) (b_range : mg ("range" : PySem.Str) = none) (l_j_law_draws : j_law_draws ≤ k) (l_j_law_alphabet : j_law_alphabet ≤ k) (l_j_law_word : j_law_word ≤ k) (l_j_widest : j_widest ≤ k) (l_j_Alphabet : j_Alphabet + 1 ≤ k) (l_j_law_below : j_law_below ≤ k) (l_j_law_is_integer : j_law_is_integer ≤ k) (len : ∀ xs Φ, spc xs Φ → xs.length = 1)
    (rd : ∀ vs H Q E, toSp K spc vs H Q E → t_law K S_law_draws S_law_alphabet S_law_word S_widest C_Alphabet S_Alphabet___init__ S_law_below S_law_is_integer { nx := fun _ H' => Q .non H', rt := Q } (L2.start N_law vs) H) {f : Addr} {fd : FuncData} (F : FunD K "law" "law" (defArgs Hd.s_law) (defBody Hd.s_law) (defScope Hd.s_law) [] [] f fd) : FnOk P w K mg base CX0 (k + 1) f fd [("_law_script" : PySem.Str)] (toSp K spc) := by
  refine F.ok sc_law (sp_len len) (fun cdv A outer s H vs Q E hr h => ⟨t_law K S_law_draws S_law_alphabet S_law_word S_widest C_Alphabet S_Alphabet___init__ S_law_below S_law_is_integer, PSs.nox ?_, rd vs H Q E h⟩)
  have hu := hu65 hr
  have nd := sc_law.nd
  exact (pss_cons (ps_set (i := 1) nd rfl (by first | exact Or.inl rfl | exact Or.inr rfl) (pe_callH h_law_draws (hr.mono l_j_law_draws) rfl (pa_cons (pv 0) (pa_cons pe_int pa_nil)))) (pss_cons (ps_asg (pe_callH h_law_alphabet (hr.mono l_j_law_alphabet) rfl (pa_cons (pv 1) (pa_cons pe_int (pa_cons pe_int pa_nil)))) (pg_tup rfl (pgs_cons (pg_name (i := 2) nd rfl (by first | exact Or.inl rfl | exact Or.inr rfl)) (pgs_cons (pg_name (i := 3) nd rfl (by first | exact Or.inl rfl | exact Or.inr rfl)) pgs_nil)))) (pss_cons (ps_set (i := 4) nd rfl (by first | exact Or.inl rfl | exact Or.inr rfl) (pe_callH h_law_word (hr.mono l_j_law_word) rfl (pa_cons (pv 1) (pa_cons (pe_callB call_LEN (by rfl) b_len (by decide +kernel) (pa_cons (pv 3) pa_nil)) (pa_cons pe_int pa_nil))))) (pss_cons (ps_set (i := 5) nd rfl (by first | exact Or.inl rfl | exact Or.inr rfl) (pe_callH h_widest (hr.mono l_j_widest) rfl (pa_cons (pe_makeH i_Alphabet (hr.mono l_j_Alphabet) rfl (pa_cons (pv 2) (pa_cons (pe_callTy call_LIST (by rfl) b_list (by decide +kernel) (pa_cons (pv 3) pa_nil)) pa_nil))) (pa_cons (pv 4) pa_nil)))) (pss_cons (ps_if (PW.pt (pw_or (pt_not (pt_truth (pe_callB call_ISINSTANCE (by rfl) b_isinstance (by decide +kernel) (pa_cons (pv 5) (pa_cons (pe_bltn (v := .ty "tuple") (by rfl) b_tuple (by decide +kernel) rfl) pa_nil))) (by intro _; rfl))) (pw_or (pt_cmpR (op_NE hu) (pe_callB call_LEN (by rfl) b_len (by decide +kernel) (pa_cons (pv 5) pa_nil)) pe_int (nomark _)) (pw_or (pt_not (pt_truth (pe_callB call_ISINSTANCE (by rfl) b_isinstance (by decide +kernel) (pa_cons (pe_ix ix_IX (pv 5) pe_int (fun _ _ => rfl)) (pa_cons (pe_bltn (v := .ty "list") (by rfl) b_list (by decide +kernel) rfl) pa_nil))) (by intro _; rfl))) (pw_or1 (pt_not (pt_truth (pe_callB call_ISINSTANCE (by rfl) b_isinstance (by decide +kernel) (pa_cons (pe_ix ix_IX (pv 5) pe_int (fun _ _ => rfl)) (pa_cons (pe_bltn (v := .ty "list") (by rfl) b_list (by decide +kernel) rfl) pa_nil))) (by intro _; rfl)))))))) (pss_one (ps_ret pe_bl)) pss_nil) (pss_cons (ps_asg (pv 5) (pg_tup rfl (pgs_cons (pg_name (i := 6) nd rfl (by first | exact Or.inl rfl | exact Or.inr rfl)) (pgs_cons (pg_name (i := 7) nd rfl (by first | exact Or.inl rfl | exact Or.inr rfl)) pgs_nil)))) (pss_cons (ps_set (i := 8) nd rfl (by first | exact Or.inl rfl | exact Or.inr rfl) (pe_callH h_law_below (hr.mono l_j_law_below) rfl (pa_cons (pv 3) (pa_cons (pv 4) pa_nil)))) (pss_cons (ps_if (PW.pt (pw_or (pt_cmpR (op_NE hu) (pe_callB call_LEN (by rfl) b_len (by decide +kernel) (pa_cons (pv 6) pa_nil)) (pe_callB call_LEN (by rfl) b_len (by decide +kernel) (pa_cons (pv 7) pa_nil)) (nomark _)) (pw_or1 (pt_cmpR (op_NE hu) (pv 6) (pe_sortedSET rfl b_sorted rfl b_set (pv 6)) (nomark _))))) (pss_one (ps_ret pe_bl)) pss_nil) (pss_cons (ps_for PassesOwn.never rfl (pi_SEQ (pv 6)) (pg_name (i := 9) nd rfl (by first | exact Or.inl rfl | exact Or.inr rfl)) (pss_cons (ps_if (PW.pt (pw_or (pt_not (pt_truth (pe_callH h_law_is_integer (hr.mono l_j_law_is_integer) rfl (pa_cons (pv 9) pa_nil)) (by intro _; rfl))) (pw_or (pt_cmpR (op_LT hu) (pv 9) pe_int (nomark _)) (pw_or1 (pt_cmpR op_GE (pv 9) (pe_callB call_LEN (by rfl) b_len (by decide +kernel) (pa_cons (pv 4) pa_nil)) (nomark _)))))) (pss_one (ps_ret pe_bl)) pss_nil) (pss_one (ps_if (pt_cmpR op_GT (pe_callB call_LEN (by rfl) b_len (by decide +kernel) (pa_cons (pe_lc (own := [(("_law_other" : PySem.Str), 13)]) rfl nd (pi_SEQ (pv 6)) (blkOk_by (N := N_law) (by kernel_rfl)) (fun _ _ _ _ _ => (pg_name (i := 13) nd rfl (by first | exact Or.inl rfl | exact Or.inr rfl))) (fun _ _ _ _ _ => (pts_one (PW.pt (pw_and (pt_cmpR (op_NE hu) (pv 13) (pv 9) (nomark _)) (pw_and1 (pt_truth (pe_ix ix_IX (pe_ix ix_IX (pv 8) (pv 9) (fun _ _ => rfl)) (pv 13) (fun _ _ => rfl)) (by intro _; rfl))))))) (fun _ _ _ _ _ => (pv 13))) pa_nil)) pe_int (nomark _)) (pss_one (ps_ret pe_bl)) pss_nil)))) (pss_cons (ps_set (i := 10) nd rfl (by first | exact Or.inl rfl | exact Or.inr rfl) (pe_lst pa_nil)) (pss_cons (ps_for PassesOwn.never rfl (pi_SEQ (pv 7)) (pg_name (i := 11) nd rfl (by first | exact Or.inl rfl | exact Or.inr rfl)) (pss_cons (ps_if (PW.pt (pw_or (pt_not (pt_truth (pe_callB call_ISINSTANCE (by rfl) b_isinstance (by decide +kernel) (pa_cons (pv 11) (pa_cons (pe_bltn (v := .ty "list") (by rfl) b_list (by decide +kernel) rfl) pa_nil))) (by intro _; rfl))) (pw_or1 (pt_cmpR (op_EQ hu) (pe_callB call_LEN (by rfl) b_len (by decide +kernel) (pa_cons (pv 11) pa_nil)) pe_int (nomark _))))) (pss_one (ps_ret pe_bl)) pss_nil) (pss_cons (ps_for PassesOwn.never rfl (pi_range1 rfl b_range (pa_cons (pe_callB call_LEN (by rfl) b_len (by decide +kernel) (pa_cons (pv 11) pa_nil)) pa_nil)) (pg_name (i := 12) nd rfl (by first | exact Or.inl rfl | exact Or.inr rfl)) (pss_cons (ps_if (PW.pt (pw_or (pt_not (pt_truth (pe_callH h_law_is_integer (hr.mono l_j_law_is_integer) rfl (pa_cons (pe_ix ix_IX (pv 11) (pv 12) (fun _ _ => rfl)) pa_nil)) (by intro _; rfl))) (pw_or (pt_cmpR (op_LT hu) (pe_ix ix_IX (pv 11) (pv 12) (fun _ _ => rfl)) pe_int (nomark _)) (pw_or1 (pt_cmpR op_GE (pe_ix ix_IX (pv 11) (pv 12) (fun _ _ => rfl)) (pe_callB call_LEN (by rfl) b_len (by decide +kernel) (pa_cons (pv 4) pa_nil)) (nomark _)))))) (pss_one (ps_ret pe_bl)) pss_nil) (pss_one (ps_if (PW.pt (pw_and (pt_cmpR op_GT (pv 12) pe_int (nomark _)) (pw_and1 (PW.pt (pw_or (pt_cmpR (op_EQ hu) (pe_ix ix_IX (pv 11) (pv 12) (fun _ _ => rfl)) (pe_ix ix_IX (pv 11) (pe_op op_SUB (pv 12) pe_int) (fun _ _ => rfl)) (nomark _)) (pw_or1 (pt_not (pt_truth (pe_ix ix_IX (pe_ix ix_IX (pv 8) (pe_ix ix_IX (pv 11) (pe_op op_SUB (pv 12) pe_int) (fun _ _ => rfl)) (fun _ _ => rfl)) (pe_ix ix_IX (pv 11) (pv 12) (fun _ _ => rfl)) (fun _ _ => rfl)) (by intro _; rfl))))))))) (pss_one (ps_ret pe_bl)) pss_nil)))) (pss_one (ps_set (i := 10) nd rfl (by first | exact Or.inl rfl | exact Or.inr rfl) (pe_op op_ADD (pv 10) (pv 11))))))) (pss_one (ps_ret (pe_cmpR (op_EQ hu) (pe_callB call_SORTED (by rfl) b_sorted (by decide +kernel) (pa_cons (pv 10) pa_nil)) (pe_listRg rfl rfl b_list (prg_1 rfl b_range (pe_callB call_LEN (by rfl) b_len (by decide +kernel) (pa_cons (pv 4) pa_nil)))) (nomark _)))))))))))))))
end
end Gn
namespace As
open PySem PySem.Spec PyProof.Rows L2 Pw Gn
section
variable {P : Program} {w : World} {K : PySem.W.Frag} {mg : PySem.Str → Option Value} {base h : Heap} {k : Nat} {spc : FS}
theorem no_sp {vs : List V} {H : Hp} {Q : VK} {E : XK} (nv : ∀ xs Φ, ¬ spc xs Φ) : ¬ toSp K spc vs H Q E := fun ⟨G, xs, S, Φ, _, _, _, q, _⟩ => nv xs Φ q
theorem b_len (X : K.In h) (G : h.Ns mainGlobals mg) (c : He.SaysD Hd.fa Hd.fn K) : mg ("len" : PySem.Str) = none := He.free_ok X G (c.fact 0 rfl)
theorem b_range (X : K.In h) (G : h.Ns mainGlobals mg) (c : He.SaysD Hd.fa Hd.fn K) : mg ("range" : PySem.Str) = none := He.free_ok X G (c.fact 1 rfl)
theorem b_int (X : K.In h) (G : h.Ns mainGlobals mg) (c : He.SaysD Hd.fa Hd.fn K) : mg ("int" : PySem.Str) = none := He.free_ok X G (c.fact 2 rfl)
theorem b_list (X : K.In h) (G : h.Ns mainGlobals mg) (c : He.SaysD Hd.fa Hd.fn K) : mg ("list" : PySem.Str) = none := He.free_ok X G (c.fact 3 rfl)
theorem b_tuple (X : K.In h) (G : h.Ns mainGlobals mg) (c : He.SaysD Hd.fa Hd.fn K) : mg ("tuple" : PySem.Str) = none := He.free_ok X G (c.fact 4 rfl)
theorem b_sorted (X : K.In h) (G : h.Ns mainGlobals mg) (c : He.SaysD Hd.fa Hd.fn K) : mg ("sorted" : PySem.Str) = none := He.free_ok X G (c.fact 5 rfl)
theorem b_set (X : K.In h) (G : h.Ns mainGlobals mg) (c : He.SaysD Hd.fa Hd.fn K) : mg ("set" : PySem.Str) = none := He.free_ok X G (c.fact 6 rfl)
theorem b_isinstance (X : K.In h) (G : h.Ns mainGlobals mg) (c : He.SaysD Hd.fa Hd.fn K) : mg ("isinstance" : PySem.Str) = none := He.free_ok X G (c.fact 7 rfl)
theorem b_bool (X : K.In h) (G : h.Ns mainGlobals mg) (c : He.SaysD Hd.fa Hd.fn K) : mg ("bool" : PySem.Str) = none := He.free_ok X G (c.fact 8 rfl)
theorem b_ValueError (X : K.In h) (G : h.Ns mainGlobals mg) (c : He.SaysD Hd.fa Hd.fn K) : mg ("ValueError" : PySem.Str) = none := He.free_ok X G (c.fact 9 rfl)
theorem g_fits (X : K.In h) (G : h.Ns mainGlobals mg) (c : He.SaysD Hd.fa Hd.fn K) : mg ("fits" : PySem.Str) = some (.ref (He.ga K ("fits" : PySem.Str))) := He.glo_ok X G (c.fact 10 rfl)
theorem g_independent (X : K.In h) (G : h.Ns mainGlobals mg) (c : He.SaysD Hd.fa Hd.fn K) : mg ("independent" : PySem.Str) = some (.ref (He.ga K ("independent" : PySem.Str))) := He.glo_ok X G (c.fact 11 rfl)
theorem g_below_all (X : K.In h) (G : h.Ns mainGlobals mg) (c : He.SaysD Hd.fa Hd.fn K) : mg ("below_all" : PySem.Str) = some (.ref (He.ga K ("below_all" : PySem.Str))) := He.glo_ok X G (c.fact 12 rfl)
theorem g_pairs_of (X : K.In h) (G : h.Ns mainGlobals mg) (c : He.SaysD Hd.fa Hd.fn K) : mg ("pairs_of" : PySem.Str) = some (.ref (He.ga K ("pairs_of" : PySem.Str))) := He.glo_ok X G (c.fact 13 rfl)
theorem g_widest (X : K.In h) (G : h.Ns mainGlobals mg) (c : He.SaysD Hd.fa Hd.fn K) : mg ("widest" : PySem.Str) = some (.ref (He.ga K ("widest" : PySem.Str))) := He.glo_ok X G (c.fact 14 rfl)
theorem g_law_draws (X : K.In h) (G : h.Ns mainGlobals mg) (c : He.SaysD Hd.fa Hd.fn K) : mg ("_law_draws" : PySem.Str) = some (.ref (He.ga K ("_law_draws" : PySem.Str))) := He.glo_ok X G (c.fact 15 rfl)
theorem g_law_take (X : K.In h) (G : h.Ns mainGlobals mg) (c : He.SaysD Hd.fa Hd.fn K) : mg ("_law_take" : PySem.Str) = some (.ref (He.ga K ("_law_take" : PySem.Str))) := He.glo_ok X G (c.fact 16 rfl)
theorem g_law_is_integer (X : K.In h) (G : h.Ns mainGlobals mg) (c : He.SaysD Hd.fa Hd.fn K) : mg ("_law_is_integer" : PySem.Str) = some (.ref (He.ga K ("_law_is_integer" : PySem.Str))) := He.glo_ok X G (c.fact 17 rfl)
theorem g_law_alphabet (X : K.In h) (G : h.Ns mainGlobals mg) (c : He.SaysD Hd.fa Hd.fn K) : mg ("_law_alphabet" : PySem.Str) = some (.ref (He.ga K ("_law_alphabet" : PySem.Str))) := He.glo_ok X G (c.fact 18 rfl)
theorem g_law_free (X : K.In h) (G : h.Ns mainGlobals mg) (c : He.SaysD Hd.fa Hd.fn K) : mg ("_law_free" : PySem.Str) = some (.ref (He.ga K ("_law_free" : PySem.Str))) := He.glo_ok X G (c.fact 19 rfl)
theorem g_law_word (X : K.In h) (G : h.Ns mainGlobals mg) (c : He.SaysD Hd.fa Hd.fn K) : mg ("_law_word" : PySem.Str) = some (.ref (He.ga K ("_law_word" : PySem.Str))) := He.glo_ok X G (c.fact 20 rfl)
theorem g_law_below (X : K.In h) (G : h.Ns mainGlobals mg) (c : He.SaysD Hd.fa Hd.fn K) : mg ("_law_below" : PySem.Str) = some (.ref (He.ga K ("_law_below" : PySem.Str))) := He.glo_ok X G (c.fact 21 rfl)
theorem g_law (X : K.In h) (G : h.Ns mainGlobals mg) (c : He.SaysD Hd.fa Hd.fn K) : mg ("law" : PySem.Str) = some (.ref (He.ga K ("law" : PySem.Str))) := He.glo_ok X G (c.fact 22 rfl)
theorem c_MOST_PLACES (X : K.In h) (G : h.Ns mainGlobals mg) (c : He.SaysD Hd.fa Hd.fn K) : ∃ t, mg ("MOST_PLACES" : PySem.Str) = some (.int (4) t) := He.int_ok X G (c.fact 23 rfl)
theorem c_MOST_LETTERS (X : K.In h) (G : h.Ns mainGlobals mg) (c : He.SaysD Hd.fa Hd.fn K) : ∃ t, mg ("MOST_LETTERS" : PySem.Str) = some (.int (6) t) := He.int_ok X G (c.fact 24 rfl)
theorem g_PlaceError (X : K.In h) (G : h.Ns mainGlobals mg) (c : He.SaysD Hd.fa Hd.fn K) : mg ("PlaceError" : PySem.Str) = some (.ref (He.ga K ("PlaceError" : PySem.Str))) := He.glo_ok X G (c.fact 25 rfl)
theorem g_InvalidAlphabet (X : K.In h) (G : h.Ns mainGlobals mg) (c : He.SaysD Hd.fa Hd.fn K) : mg ("InvalidAlphabet" : PySem.Str) = some (.ref (He.ga K ("InvalidAlphabet" : PySem.Str))) := He.glo_ok X G (c.fact 26 rfl)
theorem g_Alphabet (X : K.In h) (G : h.Ns mainGlobals mg) (c : He.SaysD Hd.fa Hd.fn K) : mg ("Alphabet" : PySem.Str) = some (.ref (He.ga K ("Alphabet" : PySem.Str))) := He.glo_ok X G (c.fact 27 rfl)
theorem k_Alphabet (c : He.SaysD Hd.fa Hd.fn K) : Cls K (He.ga K ("Alphabet" : PySem.Str)) := He.cls_ok (c.fact 28 rfl)
theorem a_Alphabet_letters (c : He.SaysD Hd.fa Hd.fn K) : NoAttr K (He.ga K ("Alphabet" : PySem.Str)) ("letters" : PySem.Str) := He.noat_ok (c.fact 29 rfl)
theorem a_Alphabet_places (c : He.SaysD Hd.fa Hd.fn K) : NoAttr K (He.ga K ("Alphabet" : PySem.Str)) ("places" : PySem.Str) := He.noat_ok (c.fact 30 rfl)
theorem g_Matching (X : K.In h) (G : h.Ns mainGlobals mg) (c : He.SaysD Hd.fa Hd.fn K) : mg ("Matching" : PySem.Str) = some (.ref (He.ga K ("Matching" : PySem.Str))) := He.glo_ok X G (c.fact 32 rfl)
theorem k_Matching (c : He.SaysD Hd.fa Hd.fn K) : Cls K (He.ga K ("Matching" : PySem.Str)) := He.cls_ok (c.fact 33 rfl)
theorem a_Matching_following (c : He.SaysD Hd.fa Hd.fn K) : NoAttr K (He.ga K ("Matching" : PySem.Str)) ("following" : PySem.Str) := He.noat_ok (c.fact 34 rfl)
theorem a_Matching_later (c : He.SaysD Hd.fa Hd.fn K) : NoAttr K (He.ga K ("Matching" : PySem.Str)) ("later" : PySem.Str) := He.noat_ok (c.fact 35 rfl)
theorem a_Matching_leading (c : He.SaysD Hd.fa Hd.fn K) : NoAttr K (He.ga K ("Matching" : PySem.Str)) ("leading" : PySem.Str) := He.noat_ok (c.fact 36 rfl)
theorem no_fits (nv : ∀ xs Φ, ¬ spc xs Φ) {f : Addr} {fd : FuncData} (F : FunD K "fits" "fits" (defArgs Hd.s_fits) (defBody Hd.s_fits) (defScope Hd.s_fits) [] [] f fd) : FnOk P w K mg base CX0 (k + 1) f fd [("letter" : PySem.Str), ("places" : PySem.Str)] (toSp K spc) :=
  F.ok sc_fits (fun vs H Q E h => absurd h (no_sp nv)) (fun cdv A outer s H vs Q E hr h => absurd h (no_sp nv))
theorem fd_fits (c : He.SaysD Hd.fa Hd.fn K) : ∃ fd, FunD K "fits" "fits" (defArgs Hd.s_fits) (defBody Hd.s_fits) (defScope Hd.s_fits) [] [] (He.fAd K Hd.d_fits.at_) fd := c.def_ 0 (d := Hd.d_fits) rfl
abbrev H_fits (P : Program) (w : World) (K : PySem.W.Frag) (mg : PySem.Str → Option Value) (base : Heap) (k : Nat) (spc : FS) : Prop := Has P w K mg base k ("fits" : PySem.Str) [("letter" : PySem.Str), ("places" : PySem.Str)] (toSp K spc)
theorem has_fits (X : K.In h) (G : h.Ns mainGlobals mg) (c : He.SaysD Hd.fa Hd.fn K) (ok : ∀ {f : Addr} {fd : FuncData}, FunD K "fits" "fits" (defArgs Hd.s_fits) (defBody Hd.s_fits) (defScope Hd.s_fits) [] [] f fd → FnOk P w K mg base CX0 k f fd [("letter" : PySem.Str), ("places" : PySem.Str)] (toSp K spc)) : Has P w K mg base k ("fits" : PySem.Str) [("letter" : PySem.Str), ("places" : PySem.Str)] (toSp K spc) := by
  obtain ⟨fd, F⟩ := fd_fits c
  exact ⟨_, fd, He.glo_ok X G (c.fact 10 rfl), F.kp, F.bindsN fun _ _ _ _ _ _ us hl => match us, hl with | [_, _], _ => rfl, ok F⟩
theorem mk_fits (X : K.In h) (G : h.Ns mainGlobals mg) (c : He.SaysD Hd.fa Hd.fn K) (len : ∀ xs Φ, spc xs Φ → xs.length = 2)
    (rd : ∀ vs H Q E, toSp K spc vs H Q E → t_fits K { nx := fun _ H' => Q .non H', rt := Q } (L2.start N_fits vs) H) : H_fits P w K mg base (k + 1) spc := has_fits X G c fun F => ok_fits (b_len X G c) (b_range X G c) len rd F
theorem no_Alphabet___init__ (nv : ∀ xs Φ, ¬ spc xs Φ) {f : Addr} {fd : FuncData} (F : FunD K "__init__" "Alphabet.__init__" (defArgs Hd.s_Alphabet___init__) (defBody Hd.s_Alphabet___init__) (defScope Hd.s_Alphabet___init__) [] [] f fd) : FnOk P w K mg base CX0 (k + 1) f fd [("self" : PySem.Str), ("places" : PySem.Str), ("letters" : PySem.Str)] (toSp K spc) :=
  F.ok sc_Alphabet___init__ (fun vs H Q E h => absurd h (no_sp nv)) (fun cdv A outer s H vs Q E hr h => absurd h (no_sp nv))
theorem fd_Alphabet___init__ (c : He.SaysD Hd.fa Hd.fn K) : ∃ fd, FunD K "__init__" "Alphabet.__init__" (defArgs Hd.s_Alphabet___init__) (defBody Hd.s_Alphabet___init__) (defScope Hd.s_Alphabet___init__) [] [] (He.fAd K Hd.d_Alphabet___init__.at_) fd := c.def_ 1 (d := Hd.d_Alphabet___init__) rfl
abbrev H_Alphabet___init__ (P : Program) (w : World) (K : PySem.W.Frag) (mg : PySem.Str → Option Value) (base : Heap) (k : Nat) (spc : FS) : Prop := HasI P w K mg base k ("Alphabet" : PySem.Str) (He.ga K ("Alphabet" : PySem.Str)) [("self" : PySem.Str), ("places" : PySem.Str), ("letters" : PySem.Str)] (toSp K spc)
theorem has_Alphabet___init__ (X : K.In h) (G : h.Ns mainGlobals mg) (c : He.SaysD Hd.fa Hd.fn K) (ok : ∀ {f : Addr} {fd : FuncData}, FunD K "__init__" "Alphabet.__init__" (defArgs Hd.s_Alphabet___init__) (defBody Hd.s_Alphabet___init__) (defScope Hd.s_Alphabet___init__) [] [] f fd → FnOk P w K mg base CX0 k f fd [("self" : PySem.Str), ("places" : PySem.Str), ("letters" : PySem.Str)] (toSp K spc)) : HasI P w K mg base k ("Alphabet" : PySem.Str) (He.ga K ("Alphabet" : PySem.Str)) [("self" : PySem.Str), ("places" : PySem.Str), ("letters" : PySem.Str)] (toSp K spc) := by
  obtain ⟨fd, F⟩ := fd_Alphabet___init__ c
  exact ⟨_, fd, He.glo_ok X G (c.fact 27 rfl), He.mkr_ok (c.fact 31 rfl), F.bindsN fun _ _ _ _ _ _ us hl => match us, hl with | [_, _, _], _ => rfl, ok F⟩
theorem mk_Alphabet___init__ {S_fits : Sp} {j_fits : Nat} (X : K.In h) (G : h.Ns mainGlobals mg) (c : He.SaysD Hd.fa Hd.fn K) (h_fits : Has P w K mg base j_fits ("fits" : PySem.Str) [("letter" : PySem.Str), ("places" : PySem.Str)] S_fits) (l_j_fits : j_fits ≤ k) (len : ∀ xs Φ, spc xs Φ → xs.length = 3)
    (rd : ∀ vs H Q E, toSp K spc vs H Q E → t_Alphabet___init__ K S_fits { nx := fun _ H' => Q .non H', rt := Q } (L2.start N_Alphabet___init__ vs) H) : H_Alphabet___init__ P w K mg base (k + 1) spc := has_Alphabet___init__ X G c fun F => ok_Alphabet___init__ (c_MOST_PLACES X G c) (b_len X G c) (c_MOST_LETTERS X G c) h_fits (b_tuple X G c) l_j_fits len rd F
theorem no_independent (nv : ∀ xs Φ, ¬ spc xs Φ) {f : Addr} {fd : FuncData} (F : FunD K "independent" "independent" (defArgs Hd.s_independent) (defBody Hd.s_independent) (defScope Hd.s_independent) [] [] f fd) : FnOk P w K mg base CX0 (k + 1) f fd [("alphabet" : PySem.Str), ("first" : PySem.Str), ("second" : PySem.Str)] (toSp K spc) :=
  F.ok sc_independent (fun vs H Q E h => absurd h (no_sp nv)) (fun cdv A outer s H vs Q E hr h => absurd h (no_sp nv))
theorem fd_independent (c : He.SaysD Hd.fa Hd.fn K) : ∃ fd, FunD K "independent" "independent" (defArgs Hd.s_independent) (defBody Hd.s_independent) (defScope Hd.s_independent) [] [] (He.fAd K Hd.d_independent.at_) fd := c.def_ 2 (d := Hd.d_independent) rfl
abbrev H_independent (P : Program) (w : World) (K : PySem.W.Frag) (mg : PySem.Str → Option Value) (base : Heap) (k : Nat) (spc : FS) : Prop := Has P w K mg base k ("independent" : PySem.Str) [("alphabet" : PySem.Str), ("first" : PySem.Str), ("second" : PySem.Str)] (toSp K spc)
theorem has_independent (X : K.In h) (G : h.Ns mainGlobals mg) (c : He.SaysD Hd.fa Hd.fn K) (ok : ∀ {f : Addr} {fd : FuncData}, FunD K "independent" "independent" (defArgs Hd.s_independent) (defBody Hd.s_independent) (defScope Hd.s_independent) [] [] f fd → FnOk P w K mg base CX0 k f fd [("alphabet" : PySem.Str), ("first" : PySem.Str), ("second" : PySem.Str)] (toSp K spc)) : Has P w K mg base k ("independent" : PySem.Str) [("alphabet" : PySem.Str), ("first" : PySem.Str), ("second" : PySem.Str)] (toSp K spc) := by
  obtain ⟨fd, F⟩ := fd_independent c
  exact ⟨_, fd, He.glo_ok X G (c.fact 11 rfl), F.kp, F.bindsN fun _ _ _ _ _ _ us hl => match us, hl with | [_, _, _], _ => rfl, ok F⟩
theorem mk_independent (X : K.In h) (G : h.Ns mainGlobals mg) (c : He.SaysD Hd.fa Hd.fn K) (len : ∀ xs Φ, spc xs Φ → xs.length = 3)
    (rd : ∀ vs H Q E, toSp K spc vs H Q E → t_independent K { nx := fun _ H' => Q .non H', rt := Q } (L2.start N_independent vs) H) : H_independent P w K mg base (k + 1) spc := has_independent X G c fun F => ok_independent len rd F
theorem no_below_all (nv : ∀ xs Φ, ¬ spc xs Φ) {f : Addr} {fd : FuncData} (F : FunD K "below_all" "below_all" (defArgs Hd.s_below_all) (defBody Hd.s_below_all) (defScope Hd.s_below_all) [] [] f fd) : FnOk P w K mg base CX0 (k + 1) f fd [("alphabet" : PySem.Str), ("word" : PySem.Str), ("events" : PySem.Str)] (toSp K spc) :=
  F.ok sc_below_all (fun vs H Q E h => absurd h (no_sp nv)) (fun cdv A outer s H vs Q E hr h => absurd h (no_sp nv))
theorem fd_below_all (c : He.SaysD Hd.fa Hd.fn K) : ∃ fd, FunD K "below_all" "below_all" (defArgs Hd.s_below_all) (defBody Hd.s_below_all) (defScope Hd.s_below_all) [] [] (He.fAd K Hd.d_below_all.at_) fd := c.def_ 3 (d := Hd.d_below_all) rfl
abbrev H_below_all (P : Program) (w : World) (K : PySem.W.Frag) (mg : PySem.Str → Option Value) (base : Heap) (k : Nat) (spc : FS) : Prop := Has P w K mg base k ("below_all" : PySem.Str) [("alphabet" : PySem.Str), ("word" : PySem.Str), ("events" : PySem.Str)] (toSp K spc)
theorem has_below_all (X : K.In h) (G : h.Ns mainGlobals mg) (c : He.SaysD Hd.fa Hd.fn K) (ok : ∀ {f : Addr} {fd : FuncData}, FunD K "below_all" "below_all" (defArgs Hd.s_below_all) (defBody Hd.s_below_all) (defScope Hd.s_below_all) [] [] f fd → FnOk P w K mg base CX0 k f fd [("alphabet" : PySem.Str), ("word" : PySem.Str), ("events" : PySem.Str)] (toSp K spc)) : Has P w K mg base k ("below_all" : PySem.Str) [("alphabet" : PySem.Str), ("word" : PySem.Str), ("events" : PySem.Str)] (toSp K spc) := by
  obtain ⟨fd, F⟩ := fd_below_all c
  exact ⟨_, fd, He.glo_ok X G (c.fact 12 rfl), F.kp, F.bindsN fun _ _ _ _ _ _ us hl => match us, hl with | [_, _, _], _ => rfl, ok F⟩
theorem mk_below_all {S_independent : Sp} {j_independent : Nat} (X : K.In h) (G : h.Ns mainGlobals mg) (c : He.SaysD Hd.fa Hd.fn K) (h_independent : Has P w K mg base j_independent ("independent" : PySem.Str) [("alphabet" : PySem.Str), ("first" : PySem.Str), ("second" : PySem.Str)] S_independent) (l_j_independent : j_independent ≤ k) (len : ∀ xs Φ, spc xs Φ → xs.length = 3)
    (rd : ∀ vs H Q E, toSp K spc vs H Q E → t_below_all K S_independent { nx := fun _ H' => Q .non H', rt := Q } (L2.start N_below_all vs) H) : H_below_all P w K mg base (k + 1) spc := has_below_all X G c fun F => ok_below_all (b_range X G c) (b_len X G c) h_independent l_j_independent len rd F
theorem no_pairs_of (nv : ∀ xs Φ, ¬ spc xs Φ) {f : Addr} {fd : FuncData} (F : FunD K "pairs_of" "pairs_of" (defArgs Hd.s_pairs_of) (defBody Hd.s_pairs_of) (defScope Hd.s_pairs_of) [] [] f fd) : FnOk P w K mg base CX0 (k + 1) f fd [("alphabet" : PySem.Str), ("word" : PySem.Str)] (toSp K spc) :=
  F.ok sc_pairs_of (fun vs H Q E h => absurd h (no_sp nv)) (fun cdv A outer s H vs Q E hr h => absurd h (no_sp nv))
theorem fd_pairs_of (c : He.SaysD Hd.fa Hd.fn K) : ∃ fd, FunD K "pairs_of" "pairs_of" (defArgs Hd.s_pairs_of) (defBody Hd.s_pairs_of) (defScope Hd.s_pairs_of) [] [] (He.fAd K Hd.d_pairs_of.at_) fd := c.def_ 4 (d := Hd.d_pairs_of) rfl
abbrev H_pairs_of (P : Program) (w : World) (K : PySem.W.Frag) (mg : PySem.Str → Option Value) (base : Heap) (k : Nat) (spc : FS) : Prop := Has P w K mg base k ("pairs_of" : PySem.Str) [("alphabet" : PySem.Str), ("word" : PySem.Str)] (toSp K spc)
theorem has_pairs_of (X : K.In h) (G : h.Ns mainGlobals mg) (c : He.SaysD Hd.fa Hd.fn K) (ok : ∀ {f : Addr} {fd : FuncData}, FunD K "pairs_of" "pairs_of" (defArgs Hd.s_pairs_of) (defBody Hd.s_pairs_of) (defScope Hd.s_pairs_of) [] [] f fd → FnOk P w K mg base CX0 k f fd [("alphabet" : PySem.Str), ("word" : PySem.Str)] (toSp K spc)) : Has P w K mg base k ("pairs_of" : PySem.Str) [("alphabet" : PySem.Str), ("word" : PySem.Str)] (toSp K spc) := by
  obtain ⟨fd, F⟩ := fd_pairs_of c
  exact ⟨_, fd, He.glo_ok X G (c.fact 13 rfl), F.kp, F.bindsN fun _ _ _ _ _ _ us hl => match us, hl with | [_, _], _ => rfl, ok F⟩
theorem mk_pairs_of {S_below_all : Sp} {j_below_all : Nat} (X : K.In h) (G : h.Ns mainGlobals mg) (c : He.SaysD Hd.fa Hd.fn K) (h_below_all : Has P w K mg base j_below_all ("below_all" : PySem.Str) [("alphabet" : PySem.Str), ("word" : PySem.Str), ("events" : PySem.Str)] S_below_all) (l_j_below_all : j_below_all ≤ k) (len : ∀ xs Φ, spc xs Φ → xs.length = 2)
    (rd : ∀ vs H Q E, toSp K spc vs H Q E → t_pairs_of K S_below_all { nx := fun _ H' => Q .non H', rt := Q } (L2.start N_pairs_of vs) H) : H_pairs_of P w K mg base (k + 1) spc := has_pairs_of X G c fun F => ok_pairs_of (b_range X G c) (b_len X G c) h_below_all l_j_below_all len rd F
theorem no_Matching___init__ (nv : ∀ xs Φ, ¬ spc xs Φ) {f : Addr} {fd : FuncData} (F : FunD K "__init__" "Matching.__init__" (defArgs Hd.s_Matching___init__) (defBody Hd.s_Matching___init__) (defScope Hd.s_Matching___init__) [] [] f fd) : FnOk P w K mg base CX0 (k + 1) f fd [("self" : PySem.Str), ("later" : PySem.Str)] (toSp K spc) :=
  F.ok sc_Matching___init__ (fun vs H Q E h => absurd h (no_sp nv)) (fun cdv A outer s H vs Q E hr h => absurd h (no_sp nv))
theorem fd_Matching___init__ (c : He.SaysD Hd.fa Hd.fn K) : ∃ fd, FunD K "__init__" "Matching.__init__" (defArgs Hd.s_Matching___init__) (defBody Hd.s_Matching___init__) (defScope Hd.s_Matching___init__) [] [] (He.fAd K Hd.d_Matching___init__.at_) fd := c.def_ 5 (d := Hd.d_Matching___init__) rfl
abbrev H_Matching___init__ (P : Program) (w : World) (K : PySem.W.Frag) (mg : PySem.Str → Option Value) (base : Heap) (k : Nat) (spc : FS) : Prop := HasI P w K mg base k ("Matching" : PySem.Str) (He.ga K ("Matching" : PySem.Str)) [("self" : PySem.Str), ("later" : PySem.Str)] (toSp K spc)
theorem has_Matching___init__ (X : K.In h) (G : h.Ns mainGlobals mg) (c : He.SaysD Hd.fa Hd.fn K) (ok : ∀ {f : Addr} {fd : FuncData}, FunD K "__init__" "Matching.__init__" (defArgs Hd.s_Matching___init__) (defBody Hd.s_Matching___init__) (defScope Hd.s_Matching___init__) [] [] f fd → FnOk P w K mg base CX0 k f fd [("self" : PySem.Str), ("later" : PySem.Str)] (toSp K spc)) : HasI P w K mg base k ("Matching" : PySem.Str) (He.ga K ("Matching" : PySem.Str)) [("self" : PySem.Str), ("later" : PySem.Str)] (toSp K spc) := by
  obtain ⟨fd, F⟩ := fd_Matching___init__ c
  exact ⟨_, fd, He.glo_ok X G (c.fact 32 rfl), He.mkr_ok (c.fact 37 rfl), F.bindsN fun _ _ _ _ _ _ us hl => match us, hl with | [_, _], _ => rfl, ok F⟩
theorem mk_Matching___init__ {S_Matching_grow : Sp} {C_Matching : Addr} {j_Matching_grow : Nat} (X : K.In h) (G : h.Ns mainGlobals mg) (c : He.SaysD Hd.fa Hd.fn K) (h_Matching_grow : HasM P w K mg base j_Matching_grow C_Matching ("grow" : PySem.Str) [("self" : PySem.Str), ("event" : PySem.Str)] S_Matching_grow) (l_j_Matching_grow : j_Matching_grow ≤ k) (len : ∀ xs Φ, spc xs Φ → xs.length = 2)
    (rd : ∀ vs H Q E, toSp K spc vs H Q E → t_Matching___init__ K S_Matching_grow C_Matching { nx := fun _ H' => Q .non H', rt := Q } (L2.start N_Matching___init__ vs) H) : H_Matching___init__ P w K mg base (k + 1) spc := has_Matching___init__ X G c fun F => ok_Matching___init__ (b_len X G c) (b_range X G c) h_Matching_grow l_j_Matching_grow len rd F
theorem no_Matching_grow (nv : ∀ xs Φ, ¬ spc xs Φ) {f : Addr} {fd : FuncData} (F : FunD K "grow" "Matching.grow" (defArgs Hd.s_Matching_grow) (defBody Hd.s_Matching_grow) (defScope Hd.s_Matching_grow) [] [] f fd) : FnOk P w K mg base CX0 (k + 1) f fd [("self" : PySem.Str), ("event" : PySem.Str)] (toSp K spc) :=
  F.ok sc_Matching_grow (fun vs H Q E h => absurd h (no_sp nv)) (fun cdv A outer s H vs Q E hr h => absurd h (no_sp nv))
theorem fd_Matching_grow (c : He.SaysD Hd.fa Hd.fn K) : ∃ fd, FunD K "grow" "Matching.grow" (defArgs Hd.s_Matching_grow) (defBody Hd.s_Matching_grow) (defScope Hd.s_Matching_grow) [] [] (He.fAd K Hd.d_Matching_grow.at_) fd := c.def_ 6 (d := Hd.d_Matching_grow) rfl
abbrev H_Matching_grow (P : Program) (w : World) (K : PySem.W.Frag) (mg : PySem.Str → Option Value) (base : Heap) (k : Nat) (spc : FS) : Prop := HasM P w K mg base k (He.ga K ("Matching" : PySem.Str)) ("grow" : PySem.Str) [("self" : PySem.Str), ("event" : PySem.Str)] (toSp K spc)
theorem has_Matching_grow (X : K.In h) (G : h.Ns mainGlobals mg) (c : He.SaysD Hd.fa Hd.fn K) (ok : ∀ {f : Addr} {fd : FuncData}, FunD K "grow" "Matching.grow" (defArgs Hd.s_Matching_grow) (defBody Hd.s_Matching_grow) (defScope Hd.s_Matching_grow) [] [] f fd → FnOk P w K mg base CX0 k f fd [("self" : PySem.Str), ("event" : PySem.Str)] (toSp K spc)) : HasM P w K mg base k (He.ga K ("Matching" : PySem.Str)) ("grow" : PySem.Str) [("self" : PySem.Str), ("event" : PySem.Str)] (toSp K spc) := by
  obtain ⟨fd, F⟩ := fd_Matching_grow c
  exact ⟨_, fd, He.cls_ok (c.fact 33 rfl), He.meth_ok (c.fact 38 rfl), F.bindsN fun _ _ _ _ _ _ us hl => match us, hl with | [_, _], _ => rfl, ok F⟩
theorem mk_Matching_grow {S_Matching_change : Sp} {C_Matching : Addr} {j_Matching_change : Nat} (X : K.In h) (G : h.Ns mainGlobals mg) (c : He.SaysD Hd.fa Hd.fn K) (h_Matching_change : HasM P w K mg base j_Matching_change C_Matching ("change" : PySem.Str) [("self" : PySem.Str), ("origin" : PySem.Str), ("second" : PySem.Str)] S_Matching_change) (l_j_Matching_change : j_Matching_change ≤ k) (len : ∀ xs Φ, spc xs Φ → xs.length = 2)
    (rd : ∀ vs H Q E, toSp K spc vs H Q E → t_Matching_grow K S_Matching_change C_Matching { nx := fun _ H' => Q .non H', rt := Q } (L2.start N_Matching_grow vs) H) : H_Matching_grow P w K mg base (k + 1) spc := has_Matching_grow X G c fun F => ok_Matching_grow (b_len X G c) h_Matching_change l_j_Matching_change len rd F
theorem no_Matching_change (nv : ∀ xs Φ, ¬ spc xs Φ) {f : Addr} {fd : FuncData} (F : FunD K "change" "Matching.change" (defArgs Hd.s_Matching_change) (defBody Hd.s_Matching_change) (defScope Hd.s_Matching_change) [] [] f fd) : FnOk P w K mg base CX0 (k + 1) f fd [("self" : PySem.Str), ("origin" : PySem.Str), ("second" : PySem.Str)] (toSp K spc) :=
  F.ok sc_Matching_change (fun vs H Q E h => absurd h (no_sp nv)) (fun cdv A outer s H vs Q E hr h => absurd h (no_sp nv))
theorem fd_Matching_change (c : He.SaysD Hd.fa Hd.fn K) : ∃ fd, FunD K "change" "Matching.change" (defArgs Hd.s_Matching_change) (defBody Hd.s_Matching_change) (defScope Hd.s_Matching_change) [] [] (He.fAd K Hd.d_Matching_change.at_) fd := c.def_ 7 (d := Hd.d_Matching_change) rfl
abbrev H_Matching_change (P : Program) (w : World) (K : PySem.W.Frag) (mg : PySem.Str → Option Value) (base : Heap) (k : Nat) (spc : FS) : Prop := HasM P w K mg base k (He.ga K ("Matching" : PySem.Str)) ("change" : PySem.Str) [("self" : PySem.Str), ("origin" : PySem.Str), ("second" : PySem.Str)] (toSp K spc)
theorem has_Matching_change (X : K.In h) (G : h.Ns mainGlobals mg) (c : He.SaysD Hd.fa Hd.fn K) (ok : ∀ {f : Addr} {fd : FuncData}, FunD K "change" "Matching.change" (defArgs Hd.s_Matching_change) (defBody Hd.s_Matching_change) (defScope Hd.s_Matching_change) [] [] f fd → FnOk P w K mg base CX0 k f fd [("self" : PySem.Str), ("origin" : PySem.Str), ("second" : PySem.Str)] (toSp K spc)) : HasM P w K mg base k (He.ga K ("Matching" : PySem.Str)) ("change" : PySem.Str) [("self" : PySem.Str), ("origin" : PySem.Str), ("second" : PySem.Str)] (toSp K spc) := by
  obtain ⟨fd, F⟩ := fd_Matching_change c
  exact ⟨_, fd, He.cls_ok (c.fact 33 rfl), He.meth_ok (c.fact 39 rfl), F.bindsN fun _ _ _ _ _ _ us hl => match us, hl with | [_, _, _], _ => rfl, ok F⟩
theorem mk_Matching_change (X : K.In h) (G : h.Ns mainGlobals mg) (c : He.SaysD Hd.fa Hd.fn K) (len : ∀ xs Φ, spc xs Φ → xs.length = 3)
    (rd : ∀ vs H Q E, toSp K spc vs H Q E → t_Matching_change K { nx := fun _ H' => Q .non H', rt := Q } (L2.start N_Matching_change vs) H) : H_Matching_change P w K mg base (k + 1) spc := has_Matching_change X G c fun F => ok_Matching_change len rd F
theorem no_Matching_rows (nv : ∀ xs Φ, ¬ spc xs Φ) {f : Addr} {fd : FuncData} (F : FunD K "rows" "Matching.rows" (defArgs Hd.s_Matching_rows) (defBody Hd.s_Matching_rows) (defScope Hd.s_Matching_rows) [] [] f fd) : FnOk P w K mg base CX0 (k + 1) f fd [("self" : PySem.Str)] (toSp K spc) :=
  F.ok sc_Matching_rows (fun vs H Q E h => absurd h (no_sp nv)) (fun cdv A outer s H vs Q E hr h => absurd h (no_sp nv))
theorem fd_Matching_rows (c : He.SaysD Hd.fa Hd.fn K) : ∃ fd, FunD K "rows" "Matching.rows" (defArgs Hd.s_Matching_rows) (defBody Hd.s_Matching_rows) (defScope Hd.s_Matching_rows) [] [] (He.fAd K Hd.d_Matching_rows.at_) fd := c.def_ 8 (d := Hd.d_Matching_rows) rfl
abbrev H_Matching_rows (P : Program) (w : World) (K : PySem.W.Frag) (mg : PySem.Str → Option Value) (base : Heap) (k : Nat) (spc : FS) : Prop := HasM P w K mg base k (He.ga K ("Matching" : PySem.Str)) ("rows" : PySem.Str) [("self" : PySem.Str)] (toSp K spc)
theorem has_Matching_rows (X : K.In h) (G : h.Ns mainGlobals mg) (c : He.SaysD Hd.fa Hd.fn K) (ok : ∀ {f : Addr} {fd : FuncData}, FunD K "rows" "Matching.rows" (defArgs Hd.s_Matching_rows) (defBody Hd.s_Matching_rows) (defScope Hd.s_Matching_rows) [] [] f fd → FnOk P w K mg base CX0 k f fd [("self" : PySem.Str)] (toSp K spc)) : HasM P w K mg base k (He.ga K ("Matching" : PySem.Str)) ("rows" : PySem.Str) [("self" : PySem.Str)] (toSp K spc) := by
  obtain ⟨fd, F⟩ := fd_Matching_rows c
  exact ⟨_, fd, He.cls_ok (c.fact 33 rfl), He.meth_ok (c.fact 40 rfl), F.bindsN fun _ _ _ _ _ _ us hl => match us, hl with | [_], _ => rfl, ok F⟩
theorem mk_Matching_rows (X : K.In h) (G : h.Ns mainGlobals mg) (c : He.SaysD Hd.fa Hd.fn K) (len : ∀ xs Φ, spc xs Φ → xs.length = 1)
    (rd : ∀ vs H Q E, toSp K spc vs H Q E → t_Matching_rows K { nx := fun _ H' => Q .non H', rt := Q } (L2.start N_Matching_rows vs) H) : H_Matching_rows P w K mg base (k + 1) spc := has_Matching_rows X G c fun F => ok_Matching_rows (b_range X G c) (b_len X G c) len rd F
theorem no_Matching_apart (nv : ∀ xs Φ, ¬ spc xs Φ) {f : Addr} {fd : FuncData} (F : FunD K "apart" "Matching.apart" (defArgs Hd.s_Matching_apart) (defBody Hd.s_Matching_apart) (defScope Hd.s_Matching_apart) [] [] f fd) : FnOk P w K mg base CX0 (k + 1) f fd [("self" : PySem.Str)] (toSp K spc) :=
  F.ok sc_Matching_apart (fun vs H Q E h => absurd h (no_sp nv)) (fun cdv A outer s H vs Q E hr h => absurd h (no_sp nv))
theorem fd_Matching_apart (c : He.SaysD Hd.fa Hd.fn K) : ∃ fd, FunD K "apart" "Matching.apart" (defArgs Hd.s_Matching_apart) (defBody Hd.s_Matching_apart) (defScope Hd.s_Matching_apart) [] [] (He.fAd K Hd.d_Matching_apart.at_) fd := c.def_ 9 (d := Hd.d_Matching_apart) rfl
abbrev H_Matching_apart (P : Program) (w : World) (K : PySem.W.Frag) (mg : PySem.Str → Option Value) (base : Heap) (k : Nat) (spc : FS) : Prop := HasM P w K mg base k (He.ga K ("Matching" : PySem.Str)) ("apart" : PySem.Str) [("self" : PySem.Str)] (toSp K spc)
theorem has_Matching_apart (X : K.In h) (G : h.Ns mainGlobals mg) (c : He.SaysD Hd.fa Hd.fn K) (ok : ∀ {f : Addr} {fd : FuncData}, FunD K "apart" "Matching.apart" (defArgs Hd.s_Matching_apart) (defBody Hd.s_Matching_apart) (defScope Hd.s_Matching_apart) [] [] f fd → FnOk P w K mg base CX0 k f fd [("self" : PySem.Str)] (toSp K spc)) : HasM P w K mg base k (He.ga K ("Matching" : PySem.Str)) ("apart" : PySem.Str) [("self" : PySem.Str)] (toSp K spc) := by
  obtain ⟨fd, F⟩ := fd_Matching_apart c
  exact ⟨_, fd, He.cls_ok (c.fact 33 rfl), He.meth_ok (c.fact 41 rfl), F.bindsN fun _ _ _ _ _ _ us hl => match us, hl with | [_], _ => rfl, ok F⟩
theorem mk_Matching_apart (X : K.In h) (G : h.Ns mainGlobals mg) (c : He.SaysD Hd.fa Hd.fn K) (len : ∀ xs Φ, spc xs Φ → xs.length = 1)
    (rd : ∀ vs H Q E, toSp K spc vs H Q E → t_Matching_apart K { nx := fun _ H' => Q .non H', rt := Q } (L2.start N_Matching_apart vs) H) : H_Matching_apart P w K mg base (k + 1) spc := has_Matching_apart X G c fun F => ok_Matching_apart (b_range X G c) (b_len X G c) len rd F
theorem no_widest (nv : ∀ xs Φ, ¬ spc xs Φ) {f : Addr} {fd : FuncData} (F : FunD K "widest" "widest" (defArgs Hd.s_widest) (defBody Hd.s_widest) (defScope Hd.s_widest) [] [] f fd) : FnOk P w K mg base CX0 (k + 1) f fd [("alphabet" : PySem.Str), ("word" : PySem.Str)] (toSp K spc) :=
  F.ok sc_widest (fun vs H Q E h => absurd h (no_sp nv)) (fun cdv A outer s H vs Q E hr h => absurd h (no_sp nv))
theorem fd_widest (c : He.SaysD Hd.fa Hd.fn K) : ∃ fd, FunD K "widest" "widest" (defArgs Hd.s_widest) (defBody Hd.s_widest) (defScope Hd.s_widest) [] [] (He.fAd K Hd.d_widest.at_) fd := c.def_ 10 (d := Hd.d_widest) rfl
abbrev H_widest (P : Program) (w : World) (K : PySem.W.Frag) (mg : PySem.Str → Option Value) (base : Heap) (k : Nat) (spc : FS) : Prop := Has P w K mg base k ("widest" : PySem.Str) [("alphabet" : PySem.Str), ("word" : PySem.Str)] (toSp K spc)
theorem has_widest (X : K.In h) (G : h.Ns mainGlobals mg) (c : He.SaysD Hd.fa Hd.fn K) (ok : ∀ {f : Addr} {fd : FuncData}, FunD K "widest" "widest" (defArgs Hd.s_widest) (defBody Hd.s_widest) (defScope Hd.s_widest) [] [] f fd → FnOk P w K mg base CX0 k f fd [("alphabet" : PySem.Str), ("word" : PySem.Str)] (toSp K spc)) : Has P w K mg base k ("widest" : PySem.Str) [("alphabet" : PySem.Str), ("word" : PySem.Str)] (toSp K spc) := by
  obtain ⟨fd, F⟩ := fd_widest c
  exact ⟨_, fd, He.glo_ok X G (c.fact 14 rfl), F.kp, F.bindsN fun _ _ _ _ _ _ us hl => match us, hl with | [_, _], _ => rfl, ok F⟩
theorem mk_widest {C_Matching : Addr} {S_Matching___init__ : Sp} {S_pairs_of : Sp} {S_Matching_apart : Sp} {S_Matching_rows : Sp} {j_Matching : Nat} {j_pairs_of : Nat} {j_Matching_apart : Nat} {j_Matching_rows : Nat} (X : K.In h) (G : h.Ns mainGlobals mg) (c : He.SaysD Hd.fa Hd.fn K) (i_Matching : HasI P w K mg base j_Matching ("Matching" : PySem.Str) C_Matching [("self" : PySem.Str), ("later" : PySem.Str)] S_Matching___init__) (h_pairs_of : Has P w K mg base j_pairs_of ("pairs_of" : PySem.Str) [("alphabet" : PySem.Str), ("word" : PySem.Str)] S_pairs_of) (h_Matching_apart : HasM P w K mg base j_Matching_apart C_Matching ("apart" : PySem.Str) [("self" : PySem.Str)] S_Matching_apart) (h_Matching_rows : HasM P w K mg base j_Matching_rows C_Matching ("rows" : PySem.Str) [("self" : PySem.Str)] S_Matching_rows) (l_j_Matching : j_Matching + 1 ≤ k) (l_j_pairs_of : j_pairs_of ≤ k) (l_j_Matching_apart : j_Matching_apart ≤ k) (l_j_Matching_rows : j_Matching_rows ≤ k) (len : ∀ xs Φ, spc xs Φ → xs.length = 2)
    (rd : ∀ vs H Q E, toSp K spc vs H Q E → t_widest K C_Matching S_Matching___init__ S_pairs_of S_Matching_apart S_Matching_rows { nx := fun _ H' => Q .non H', rt := Q } (L2.start N_widest vs) H) : H_widest P w K mg base (k + 1) spc := has_widest X G c fun F => ok_widest i_Matching h_pairs_of h_Matching_apart h_Matching_rows l_j_Matching l_j_pairs_of l_j_Matching_apart l_j_Matching_rows len rd F
theorem no_law_draws (nv : ∀ xs Φ, ¬ spc xs Φ) {f : Addr} {fd : FuncData} (F : FunD K "_law_draws" "_law_draws" (defArgs Hd.s_law_draws) (defBody Hd.s_law_draws) (defScope Hd.s_law_draws) [] [] f fd) : FnOk P w K mg base CX0 (k + 1) f fd [("_law_script" : PySem.Str), ("_law_count" : PySem.Str)] (toSp K spc) :=
  F.ok sc_law_draws (fun vs H Q E h => absurd h (no_sp nv)) (fun cdv A outer s H vs Q E hr h => absurd h (no_sp nv))
theorem fd_law_draws (c : He.SaysD Hd.fa Hd.fn K) : ∃ fd, FunD K "_law_draws" "_law_draws" (defArgs Hd.s_law_draws) (defBody Hd.s_law_draws) (defScope Hd.s_law_draws) [] [] (He.fAd K Hd.d_law_draws.at_) fd := c.def_ 11 (d := Hd.d_law_draws) rfl
abbrev H_law_draws (P : Program) (w : World) (K : PySem.W.Frag) (mg : PySem.Str → Option Value) (base : Heap) (k : Nat) (spc : FS) : Prop := Has P w K mg base k ("_law_draws" : PySem.Str) [("_law_script" : PySem.Str), ("_law_count" : PySem.Str)] (toSp K spc)
theorem has_law_draws (X : K.In h) (G : h.Ns mainGlobals mg) (c : He.SaysD Hd.fa Hd.fn K) (ok : ∀ {f : Addr} {fd : FuncData}, FunD K "_law_draws" "_law_draws" (defArgs Hd.s_law_draws) (defBody Hd.s_law_draws) (defScope Hd.s_law_draws) [] [] f fd → FnOk P w K mg base CX0 k f fd [("_law_script" : PySem.Str), ("_law_count" : PySem.Str)] (toSp K spc)) : Has P w K mg base k ("_law_draws" : PySem.Str) [("_law_script" : PySem.Str), ("_law_count" : PySem.Str)] (toSp K spc) := by
  obtain ⟨fd, F⟩ := fd_law_draws c
  exact ⟨_, fd, He.glo_ok X G (c.fact 15 rfl), F.kp, F.bindsN fun _ _ _ _ _ _ us hl => match us, hl with | [_, _], _ => rfl, ok F⟩
theorem mk_law_draws (X : K.In h) (G : h.Ns mainGlobals mg) (c : He.SaysD Hd.fa Hd.fn K) (len : ∀ xs Φ, spc xs Φ → xs.length = 2)
    (rd : ∀ vs H Q E, toSp K spc vs H Q E → t_law_draws K { nx := fun _ H' => Q .non H', rt := Q } (L2.start N_law_draws vs) H) : H_law_draws P w K mg base (k + 1) spc := has_law_draws X G c fun F => ok_law_draws (b_list X G c) (b_len X G c) (b_range X G c) (b_int X G c) len rd F
theorem no_law_take (nv : ∀ xs Φ, ¬ spc xs Φ) {f : Addr} {fd : FuncData} (F : FunD K "_law_take" "_law_take" (defArgs Hd.s_law_take) (defBody Hd.s_law_take) (defScope Hd.s_law_take) [] [] f fd) : FnOk P w K mg base CX0 (k + 1) f fd [("_law_draws_here" : PySem.Str), ("_law_limit" : PySem.Str)] (toSp K spc) :=
  F.ok sc_law_take (fun vs H Q E h => absurd h (no_sp nv)) (fun cdv A outer s H vs Q E hr h => absurd h (no_sp nv))
theorem fd_law_take (c : He.SaysD Hd.fa Hd.fn K) : ∃ fd, FunD K "_law_take" "_law_take" (defArgs Hd.s_law_take) (defBody Hd.s_law_take) (defScope Hd.s_law_take) [] [] (He.fAd K Hd.d_law_take.at_) fd := c.def_ 12 (d := Hd.d_law_take) rfl
abbrev H_law_take (P : Program) (w : World) (K : PySem.W.Frag) (mg : PySem.Str → Option Value) (base : Heap) (k : Nat) (spc : FS) : Prop := Has P w K mg base k ("_law_take" : PySem.Str) [("_law_draws_here" : PySem.Str), ("_law_limit" : PySem.Str)] (toSp K spc)
theorem has_law_take (X : K.In h) (G : h.Ns mainGlobals mg) (c : He.SaysD Hd.fa Hd.fn K) (ok : ∀ {f : Addr} {fd : FuncData}, FunD K "_law_take" "_law_take" (defArgs Hd.s_law_take) (defBody Hd.s_law_take) (defScope Hd.s_law_take) [] [] f fd → FnOk P w K mg base CX0 k f fd [("_law_draws_here" : PySem.Str), ("_law_limit" : PySem.Str)] (toSp K spc)) : Has P w K mg base k ("_law_take" : PySem.Str) [("_law_draws_here" : PySem.Str), ("_law_limit" : PySem.Str)] (toSp K spc) := by
  obtain ⟨fd, F⟩ := fd_law_take c
  exact ⟨_, fd, He.glo_ok X G (c.fact 16 rfl), F.kp, F.bindsN fun _ _ _ _ _ _ us hl => match us, hl with | [_, _], _ => rfl, ok F⟩
theorem mk_law_take (X : K.In h) (G : h.Ns mainGlobals mg) (c : He.SaysD Hd.fa Hd.fn K) (len : ∀ xs Φ, spc xs Φ → xs.length = 2)
    (rd : ∀ vs H Q E, toSp K spc vs H Q E → t_law_take K { nx := fun _ H' => Q .non H', rt := Q } (L2.start N_law_take vs) H) : H_law_take P w K mg base (k + 1) spc := has_law_take X G c fun F => ok_law_take (b_len X G c) (b_int X G c) len rd F
theorem no_law_is_integer (nv : ∀ xs Φ, ¬ spc xs Φ) {f : Addr} {fd : FuncData} (F : FunD K "_law_is_integer" "_law_is_integer" (defArgs Hd.s_law_is_integer) (defBody Hd.s_law_is_integer) (defScope Hd.s_law_is_integer) [] [] f fd) : FnOk P w K mg base CX0 (k + 1) f fd [("_law_actual" : PySem.Str)] (toSp K spc) :=
  F.ok sc_law_is_integer (fun vs H Q E h => absurd h (no_sp nv)) (fun cdv A outer s H vs Q E hr h => absurd h (no_sp nv))
theorem fd_law_is_integer (c : He.SaysD Hd.fa Hd.fn K) : ∃ fd, FunD K "_law_is_integer" "_law_is_integer" (defArgs Hd.s_law_is_integer) (defBody Hd.s_law_is_integer) (defScope Hd.s_law_is_integer) [] [] (He.fAd K Hd.d_law_is_integer.at_) fd := c.def_ 13 (d := Hd.d_law_is_integer) rfl
abbrev H_law_is_integer (P : Program) (w : World) (K : PySem.W.Frag) (mg : PySem.Str → Option Value) (base : Heap) (k : Nat) (spc : FS) : Prop := Has P w K mg base k ("_law_is_integer" : PySem.Str) [("_law_actual" : PySem.Str)] (toSp K spc)
theorem has_law_is_integer (X : K.In h) (G : h.Ns mainGlobals mg) (c : He.SaysD Hd.fa Hd.fn K) (ok : ∀ {f : Addr} {fd : FuncData}, FunD K "_law_is_integer" "_law_is_integer" (defArgs Hd.s_law_is_integer) (defBody Hd.s_law_is_integer) (defScope Hd.s_law_is_integer) [] [] f fd → FnOk P w K mg base CX0 k f fd [("_law_actual" : PySem.Str)] (toSp K spc)) : Has P w K mg base k ("_law_is_integer" : PySem.Str) [("_law_actual" : PySem.Str)] (toSp K spc) := by
  obtain ⟨fd, F⟩ := fd_law_is_integer c
  exact ⟨_, fd, He.glo_ok X G (c.fact 17 rfl), F.kp, F.bindsN fun _ _ _ _ _ _ us hl => match us, hl with | [_], _ => rfl, ok F⟩
theorem mk_law_is_integer (X : K.In h) (G : h.Ns mainGlobals mg) (c : He.SaysD Hd.fa Hd.fn K) (len : ∀ xs Φ, spc xs Φ → xs.length = 1)
    (rd : ∀ vs H Q E, toSp K spc vs H Q E → t_law_is_integer K { nx := fun _ H' => Q .non H', rt := Q } (L2.start N_law_is_integer vs) H) : H_law_is_integer P w K mg base (k + 1) spc := has_law_is_integer X G c fun F => ok_law_is_integer (b_isinstance X G c) (b_int X G c) (b_bool X G c) len rd F
theorem no_law_alphabet (nv : ∀ xs Φ, ¬ spc xs Φ) {f : Addr} {fd : FuncData} (F : FunD K "_law_alphabet" "_law_alphabet" (defArgs Hd.s_law_alphabet) (defBody Hd.s_law_alphabet) (defScope Hd.s_law_alphabet) [] [] f fd) : FnOk P w K mg base CX0 (k + 1) f fd [("_law_draws_here" : PySem.Str), ("_law_places" : PySem.Str), ("_law_most" : PySem.Str)] (toSp K spc) :=
  F.ok sc_law_alphabet (fun vs H Q E h => absurd h (no_sp nv)) (fun cdv A outer s H vs Q E hr h => absurd h (no_sp nv))
theorem fd_law_alphabet (c : He.SaysD Hd.fa Hd.fn K) : ∃ fd, FunD K "_law_alphabet" "_law_alphabet" (defArgs Hd.s_law_alphabet) (defBody Hd.s_law_alphabet) (defScope Hd.s_law_alphabet) [] [] (He.fAd K Hd.d_law_alphabet.at_) fd := c.def_ 14 (d := Hd.d_law_alphabet) rfl
abbrev H_law_alphabet (P : Program) (w : World) (K : PySem.W.Frag) (mg : PySem.Str → Option Value) (base : Heap) (k : Nat) (spc : FS) : Prop := Has P w K mg base k ("_law_alphabet" : PySem.Str) [("_law_draws_here" : PySem.Str), ("_law_places" : PySem.Str), ("_law_most" : PySem.Str)] (toSp K spc)
theorem has_law_alphabet (X : K.In h) (G : h.Ns mainGlobals mg) (c : He.SaysD Hd.fa Hd.fn K) (ok : ∀ {f : Addr} {fd : FuncData}, FunD K "_law_alphabet" "_law_alphabet" (defArgs Hd.s_law_alphabet) (defBody Hd.s_law_alphabet) (defScope Hd.s_law_alphabet) [] [] f fd → FnOk P w K mg base CX0 k f fd [("_law_draws_here" : PySem.Str), ("_law_places" : PySem.Str), ("_law_most" : PySem.Str)] (toSp K spc)) : Has P w K mg base k ("_law_alphabet" : PySem.Str) [("_law_draws_here" : PySem.Str), ("_law_places" : PySem.Str), ("_law_most" : PySem.Str)] (toSp K spc) := by
  obtain ⟨fd, F⟩ := fd_law_alphabet c
  exact ⟨_, fd, He.glo_ok X G (c.fact 18 rfl), F.kp, F.bindsN fun _ _ _ _ _ _ us hl => match us, hl with | [_, _, _], _ => rfl, ok F⟩
theorem mk_law_alphabet {S_law_take : Sp} {j_law_take : Nat} (X : K.In h) (G : h.Ns mainGlobals mg) (c : He.SaysD Hd.fa Hd.fn K) (h_law_take : Has P w K mg base j_law_take ("_law_take" : PySem.Str) [("_law_draws_here" : PySem.Str), ("_law_limit" : PySem.Str)] S_law_take) (l_j_law_take : j_law_take ≤ k) (len : ∀ xs Φ, spc xs Φ → xs.length = 3)
    (rd : ∀ vs H Q E, toSp K spc vs H Q E → t_law_alphabet K S_law_take { nx := fun _ H' => Q .non H', rt := Q } (L2.start N_law_alphabet vs) H) : H_law_alphabet P w K mg base (k + 1) spc := has_law_alphabet X G c fun F => ok_law_alphabet h_law_take (b_range X G c) (b_tuple X G c) (b_sorted X G c) (b_set X G c) l_j_law_take len rd F
theorem no_law_free (nv : ∀ xs Φ, ¬ spc xs Φ) {f : Addr} {fd : FuncData} (F : FunD K "_law_free" "_law_free" (defArgs Hd.s_law_free) (defBody Hd.s_law_free) (defScope Hd.s_law_free) [] [] f fd) : FnOk P w K mg base CX0 (k + 1) f fd [("_law_letters" : PySem.Str), ("_law_first" : PySem.Str), ("_law_second" : PySem.Str)] (toSp K spc) :=
  F.ok sc_law_free (fun vs H Q E h => absurd h (no_sp nv)) (fun cdv A outer s H vs Q E hr h => absurd h (no_sp nv))
theorem fd_law_free (c : He.SaysD Hd.fa Hd.fn K) : ∃ fd, FunD K "_law_free" "_law_free" (defArgs Hd.s_law_free) (defBody Hd.s_law_free) (defScope Hd.s_law_free) [] [] (He.fAd K Hd.d_law_free.at_) fd := c.def_ 15 (d := Hd.d_law_free) rfl
abbrev H_law_free (P : Program) (w : World) (K : PySem.W.Frag) (mg : PySem.Str → Option Value) (base : Heap) (k : Nat) (spc : FS) : Prop := Has P w K mg base k ("_law_free" : PySem.Str) [("_law_letters" : PySem.Str), ("_law_first" : PySem.Str), ("_law_second" : PySem.Str)] (toSp K spc)
theorem has_law_free (X : K.In h) (G : h.Ns mainGlobals mg) (c : He.SaysD Hd.fa Hd.fn K) (ok : ∀ {f : Addr} {fd : FuncData}, FunD K "_law_free" "_law_free" (defArgs Hd.s_law_free) (defBody Hd.s_law_free) (defScope Hd.s_law_free) [] [] f fd → FnOk P w K mg base CX0 k f fd [("_law_letters" : PySem.Str), ("_law_first" : PySem.Str), ("_law_second" : PySem.Str)] (toSp K spc)) : Has P w K mg base k ("_law_free" : PySem.Str) [("_law_letters" : PySem.Str), ("_law_first" : PySem.Str), ("_law_second" : PySem.Str)] (toSp K spc) := by
  obtain ⟨fd, F⟩ := fd_law_free c
  exact ⟨_, fd, He.glo_ok X G (c.fact 19 rfl), F.kp, F.bindsN fun _ _ _ _ _ _ us hl => match us, hl with | [_, _, _], _ => rfl, ok F⟩
theorem mk_law_free (X : K.In h) (G : h.Ns mainGlobals mg) (c : He.SaysD Hd.fa Hd.fn K) (len : ∀ xs Φ, spc xs Φ → xs.length = 3)
    (rd : ∀ vs H Q E, toSp K spc vs H Q E → t_law_free K { nx := fun _ H' => Q .non H', rt := Q } (L2.start N_law_free vs) H) : H_law_free P w K mg base (k + 1) spc := has_law_free X G c fun F => ok_law_free (b_len X G c) len rd F
theorem no_law_word (nv : ∀ xs Φ, ¬ spc xs Φ) {f : Addr} {fd : FuncData} (F : FunD K "_law_word" "_law_word" (defArgs Hd.s_law_word) (defBody Hd.s_law_word) (defScope Hd.s_law_word) [] [] f fd) : FnOk P w K mg base CX0 (k + 1) f fd [("_law_draws_here" : PySem.Str), ("_law_letters" : PySem.Str), ("_law_most" : PySem.Str)] (toSp K spc) :=
  F.ok sc_law_word (fun vs H Q E h => absurd h (no_sp nv)) (fun cdv A outer s H vs Q E hr h => absurd h (no_sp nv))
theorem fd_law_word (c : He.SaysD Hd.fa Hd.fn K) : ∃ fd, FunD K "_law_word" "_law_word" (defArgs Hd.s_law_word) (defBody Hd.s_law_word) (defScope Hd.s_law_word) [] [] (He.fAd K Hd.d_law_word.at_) fd := c.def_ 16 (d := Hd.d_law_word) rfl
abbrev H_law_word (P : Program) (w : World) (K : PySem.W.Frag) (mg : PySem.Str → Option Value) (base : Heap) (k : Nat) (spc : FS) : Prop := Has P w K mg base k ("_law_word" : PySem.Str) [("_law_draws_here" : PySem.Str), ("_law_letters" : PySem.Str), ("_law_most" : PySem.Str)] (toSp K spc)
theorem has_law_word (X : K.In h) (G : h.Ns mainGlobals mg) (c : He.SaysD Hd.fa Hd.fn K) (ok : ∀ {f : Addr} {fd : FuncData}, FunD K "_law_word" "_law_word" (defArgs Hd.s_law_word) (defBody Hd.s_law_word) (defScope Hd.s_law_word) [] [] f fd → FnOk P w K mg base CX0 k f fd [("_law_draws_here" : PySem.Str), ("_law_letters" : PySem.Str), ("_law_most" : PySem.Str)] (toSp K spc)) : Has P w K mg base k ("_law_word" : PySem.Str) [("_law_draws_here" : PySem.Str), ("_law_letters" : PySem.Str), ("_law_most" : PySem.Str)] (toSp K spc) := by
  obtain ⟨fd, F⟩ := fd_law_word c
  exact ⟨_, fd, He.glo_ok X G (c.fact 20 rfl), F.kp, F.bindsN fun _ _ _ _ _ _ us hl => match us, hl with | [_, _, _], _ => rfl, ok F⟩
theorem mk_law_word {S_law_take : Sp} {j_law_take : Nat} (X : K.In h) (G : h.Ns mainGlobals mg) (c : He.SaysD Hd.fa Hd.fn K) (h_law_take : Has P w K mg base j_law_take ("_law_take" : PySem.Str) [("_law_draws_here" : PySem.Str), ("_law_limit" : PySem.Str)] S_law_take) (l_j_law_take : j_law_take ≤ k) (len : ∀ xs Φ, spc xs Φ → xs.length = 3)
    (rd : ∀ vs H Q E, toSp K spc vs H Q E → t_law_word K S_law_take { nx := fun _ H' => Q .non H', rt := Q } (L2.start N_law_word vs) H) : H_law_word P w K mg base (k + 1) spc := has_law_word X G c fun F => ok_law_word (b_tuple X G c) (b_range X G c) h_law_take l_j_law_take len rd F
theorem no_law_below (nv : ∀ xs Φ, ¬ spc xs Φ) {f : Addr} {fd : FuncData} (F : FunD K "_law_below" "_law_below" (defArgs Hd.s_law_below) (defBody Hd.s_law_below) (defScope Hd.s_law_below) [] [] f fd) : FnOk P w K mg base CX0 (k + 1) f fd [("_law_letters" : PySem.Str), ("_law_word_here" : PySem.Str)] (toSp K spc) :=
  F.ok sc_law_below (fun vs H Q E h => absurd h (no_sp nv)) (fun cdv A outer s H vs Q E hr h => absurd h (no_sp nv))
theorem fd_law_below (c : He.SaysD Hd.fa Hd.fn K) : ∃ fd, FunD K "_law_below" "_law_below" (defArgs Hd.s_law_below) (defBody Hd.s_law_below) (defScope Hd.s_law_below) [] [] (He.fAd K Hd.d_law_below.at_) fd := c.def_ 17 (d := Hd.d_law_below) rfl
abbrev H_law_below (P : Program) (w : World) (K : PySem.W.Frag) (mg : PySem.Str → Option Value) (base : Heap) (k : Nat) (spc : FS) : Prop := Has P w K mg base k ("_law_below" : PySem.Str) [("_law_letters" : PySem.Str), ("_law_word_here" : PySem.Str)] (toSp K spc)
theorem has_law_below (X : K.In h) (G : h.Ns mainGlobals mg) (c : He.SaysD Hd.fa Hd.fn K) (ok : ∀ {f : Addr} {fd : FuncData}, FunD K "_law_below" "_law_below" (defArgs Hd.s_law_below) (defBody Hd.s_law_below) (defScope Hd.s_law_below) [] [] f fd → FnOk P w K mg base CX0 k f fd [("_law_letters" : PySem.Str), ("_law_word_here" : PySem.Str)] (toSp K spc)) : Has P w K mg base k ("_law_below" : PySem.Str) [("_law_letters" : PySem.Str), ("_law_word_here" : PySem.Str)] (toSp K spc) := by
  obtain ⟨fd, F⟩ := fd_law_below c
  exact ⟨_, fd, He.glo_ok X G (c.fact 21 rfl), F.kp, F.bindsN fun _ _ _ _ _ _ us hl => match us, hl with | [_, _], _ => rfl, ok F⟩
theorem mk_law_below {S_law_free : Sp} {j_law_free : Nat} (X : K.In h) (G : h.Ns mainGlobals mg) (c : He.SaysD Hd.fa Hd.fn K) (h_law_free : Has P w K mg base j_law_free ("_law_free" : PySem.Str) [("_law_letters" : PySem.Str), ("_law_first" : PySem.Str), ("_law_second" : PySem.Str)] S_law_free) (l_j_law_free : j_law_free ≤ k) (len : ∀ xs Φ, spc xs Φ → xs.length = 2)
    (rd : ∀ vs H Q E, toSp K spc vs H Q E → t_law_below K S_law_free { nx := fun _ H' => Q .non H', rt := Q } (L2.start N_law_below vs) H) : H_law_below P w K mg base (k + 1) spc := has_law_below X G c fun F => ok_law_below (b_len X G c) (b_range X G c) h_law_free l_j_law_free len rd F
theorem no_law (nv : ∀ xs Φ, ¬ spc xs Φ) {f : Addr} {fd : FuncData} (F : FunD K "law" "law" (defArgs Hd.s_law) (defBody Hd.s_law) (defScope Hd.s_law) [] [] f fd) : FnOk P w K mg base CX0 (k + 1) f fd [("_law_script" : PySem.Str)] (toSp K spc) :=
  F.ok sc_law (fun vs H Q E h => absurd h (no_sp nv)) (fun cdv A outer s H vs Q E hr h => absurd h (no_sp nv))
theorem fd_law (c : He.SaysD Hd.fa Hd.fn K) : ∃ fd, FunD K "law" "law" (defArgs Hd.s_law) (defBody Hd.s_law) (defScope Hd.s_law) [] [] (He.fAd K Hd.d_law.at_) fd := c.def_ 18 (d := Hd.d_law) rfl
abbrev H_law (P : Program) (w : World) (K : PySem.W.Frag) (mg : PySem.Str → Option Value) (base : Heap) (k : Nat) (spc : FS) : Prop := Has P w K mg base k ("law" : PySem.Str) [("_law_script" : PySem.Str)] (toSp K spc)
theorem has_law (X : K.In h) (G : h.Ns mainGlobals mg) (c : He.SaysD Hd.fa Hd.fn K) (ok : ∀ {f : Addr} {fd : FuncData}, FunD K "law" "law" (defArgs Hd.s_law) (defBody Hd.s_law) (defScope Hd.s_law) [] [] f fd → FnOk P w K mg base CX0 k f fd [("_law_script" : PySem.Str)] (toSp K spc)) : Has P w K mg base k ("law" : PySem.Str) [("_law_script" : PySem.Str)] (toSp K spc) := by
  obtain ⟨fd, F⟩ := fd_law c
  exact ⟨_, fd, He.glo_ok X G (c.fact 22 rfl), F.kp, F.bindsN fun _ _ _ _ _ _ us hl => match us, hl with | [_], _ => rfl, ok F⟩
theorem mk_law {S_law_draws : Sp} {S_law_alphabet : Sp} {S_law_word : Sp} {S_widest : Sp} {C_Alphabet : Addr} {S_Alphabet___init__ : Sp} {S_law_below : Sp} {S_law_is_integer : Sp} {j_law_draws : Nat} {j_law_alphabet : Nat} {j_law_word : Nat} {j_widest : Nat} {j_Alphabet : Nat} {j_law_below : Nat} {j_law_is_integer : Nat} (X : K.In h) (G : h.Ns mainGlobals mg) (c : He.SaysD Hd.fa Hd.fn K) (h_law_draws : Has P w K mg base j_law_draws ("_law_draws" : PySem.Str) [("_law_script" : PySem.Str), ("_law_count" : PySem.Str)] S_law_draws) (h_law_alphabet : Has P w K mg base j_law_alphabet ("_law_alphabet" : PySem.Str) [("_law_draws_here" : PySem.Str), ("_law_places" : PySem.Str), ("_law_most" : PySem.Str)] S_law_alphabet) (h_law_word : Has P w K mg base j_law_word ("_law_word" : PySem.Str) [("_law_draws_here" : PySem.Str), ("_law_letters" : PySem.Str), ("_law_most" : PySem.Str)] S_law_word) (h_widest : Has P w K mg base j_widest ("widest" : PySem.Str) [("alphabet" : PySem.Str), ("word" : PySem.Str)] S_widest) (i_Alphabet : HasI P w K mg base j_Alphabet ("Alphabet" : PySem.Str) C_Alphabet [("self" : PySem.Str), ("places" : PySem.Str), ("letters" : PySem.Str)] S_Alphabet___init__) (h_law_below : Has P w K mg base j_law_below ("_law_below" : PySem.Str) [("_law_letters" : PySem.Str), ("_law_word_here" : PySem.Str)] S_law_below) (h_law_is_integer : Has P w K mg base j_law_is_integer ("_law_is_integer" : PySem.Str) [("_law_actual" : PySem.Str)] S_law_is_integer) (l_j_law_draws : j_law_draws ≤ k) (l_j_law_alphabet : j_law_alphabet ≤ k) (l_j_law_word : j_law_word ≤ k) (l_j_widest : j_widest ≤ k) (l_j_Alphabet : j_Alphabet + 1 ≤ k) (l_j_law_below : j_law_below ≤ k) (l_j_law_is_integer : j_law_is_integer ≤ k) (len : ∀ xs Φ, spc xs Φ → xs.length = 1)
    (rd : ∀ vs H Q E, toSp K spc vs H Q E → t_law K S_law_draws S_law_alphabet S_law_word S_widest C_Alphabet S_Alphabet___init__ S_law_below S_law_is_integer { nx := fun _ H' => Q .non H', rt := Q } (L2.start N_law vs) H) : H_law P w K mg base (k + 1) spc := has_law X G c fun F => ok_law h_law_draws h_law_alphabet h_law_word (b_len X G c) h_widest i_Alphabet (b_list X G c) (b_isinstance X G c) (b_tuple X G c) h_law_below (b_sorted X G c) (b_set X G c) h_law_is_integer (b_range X G c) l_j_law_draws l_j_law_alphabet l_j_law_word l_j_widest l_j_Alphabet l_j_law_below l_j_law_is_integer len rd F
theorem at_law {S_law_draws : Sp} {S_law_alphabet : Sp} {S_law_word : Sp} {S_widest : Sp} {C_Alphabet : Addr} {S_Alphabet___init__ : Sp} {S_law_below : Sp} {S_law_is_integer : Sp} {j_law_draws : Nat} {j_law_alphabet : Nat} {j_law_word : Nat} {j_widest : Nat} {j_Alphabet : Nat} {j_law_below : Nat} {j_law_is_integer : Nat} (X : K.In h) (G : h.Ns mainGlobals mg) (c : He.SaysD Hd.fa Hd.fn K) (h_law_draws : Has P w K mg base j_law_draws ("_law_draws" : PySem.Str) [("_law_script" : PySem.Str), ("_law_count" : PySem.Str)] S_law_draws) (h_law_alphabet : Has P w K mg base j_law_alphabet ("_law_alphabet" : PySem.Str) [("_law_draws_here" : PySem.Str), ("_law_places" : PySem.Str), ("_law_most" : PySem.Str)] S_law_alphabet) (h_law_word : Has P w K mg base j_law_word ("_law_word" : PySem.Str) [("_law_draws_here" : PySem.Str), ("_law_letters" : PySem.Str), ("_law_most" : PySem.Str)] S_law_word) (h_widest : Has P w K mg base j_widest ("widest" : PySem.Str) [("alphabet" : PySem.Str), ("word" : PySem.Str)] S_widest) (i_Alphabet : HasI P w K mg base j_Alphabet ("Alphabet" : PySem.Str) C_Alphabet [("self" : PySem.Str), ("places" : PySem.Str), ("letters" : PySem.Str)] S_Alphabet___init__) (h_law_below : Has P w K mg base j_law_below ("_law_below" : PySem.Str) [("_law_letters" : PySem.Str), ("_law_word_here" : PySem.Str)] S_law_below) (h_law_is_integer : Has P w K mg base j_law_is_integer ("_law_is_integer" : PySem.Str) [("_law_actual" : PySem.Str)] S_law_is_integer) (l_j_law_draws : j_law_draws ≤ k) (l_j_law_alphabet : j_law_alphabet ≤ k) (l_j_law_word : j_law_word ≤ k) (l_j_widest : j_widest ≤ k) (l_j_Alphabet : j_Alphabet + 1 ≤ k) (l_j_law_below : j_law_below ≤ k) (l_j_law_is_integer : j_law_is_integer ≤ k) (len : ∀ xs Φ, spc xs Φ → xs.length = 1)
    (rd : ∀ vs H Q E, toSp K spc vs H Q E → t_law K S_law_draws S_law_alphabet S_law_word S_widest C_Alphabet S_Alphabet___init__ S_law_below S_law_is_integer { nx := fun _ H' => Q .non H', rt := Q } (L2.start N_law vs) H) {f : Addr} {fd : FuncData} (F : FunD K "law" "law" (defArgs Hd.s_law) (defBody Hd.s_law) (defScope Hd.s_law) [] [] f fd) : FnOk P w K mg base CX0 (k + 1) f fd [("_law_script" : PySem.Str)] (toSp K spc) := ok_law h_law_draws h_law_alphabet h_law_word (b_len X G c) h_widest i_Alphabet (b_list X G c) (b_isinstance X G c) (b_tuple X G c) h_law_below (b_sorted X G c) (b_set X G c) h_law_is_integer (b_range X G c) l_j_law_draws l_j_law_alphabet l_j_law_word l_j_widest l_j_Alphabet l_j_law_below l_j_law_is_integer len rd F
end
end As
namespace M56
def E (la : List (List Nat)) (i s : Nat) : Prop := ∃ l, la[i]? = some l ∧ s ∈ l
structure WF (la : List (List Nat)) (f g : List (Option Nat)) (x : Option Nat) : Prop where
  fl : f.length = la.length
  gl : g.length = la.length
  fg : ∀ i r, f[i]? = some (some r) → g[r]? = some (some i) ∧ some r ≠ x ∧ E la i r
  gf : ∀ r i, g[r]? = some (some i) → some r ≠ x → f[i]? = some (some r)
def Cl (la : List (List Nat)) (g : List (Option Nat)) (R : Nat → Prop) : Prop := ∀ r, R r → ∃ i, g[r]? = some (some i) ∧ ∀ s, E la i s → R s
def MI (la : List (List Nat)) (t : Nat) (f g : List (Option Nat)) : Prop := WF la f g none ∧ (∃ R, Cl la g R ∧ ∀ u, u < t → f[u]? = some none → ∀ s, E la u s → R s) ∧ ∀ u, t ≤ u → u < la.length → f[u]? = some none
theorem set_get {α : Type} {l : List α} {i j : Nat} {x y : α} (h : (l.set i x)[j]? = some y) : (j = i ∧ y = x ∧ i < l.length) ∨ (j ≠ i ∧ l[j]? = some y) := by
  rw [List.getElem?_set] at h
  split at h
  · rename_i e
    split at h
    · exact .inl ⟨e.symm, (Option.some.inj h).symm, by assumption⟩
    · cases h
  · rename_i e
    exact .inr ⟨fun q => e q.symm, h⟩
theorem WF.step {la : List (List Nat)} {f g : List (Option Nat)} {s i : Nat} {x : Option Nat} (h : WF la f g (some s)) (hs : s < la.length) (hE : E la i s) (hx : f[i]? = some x) : WF la (f.set i (some s)) (g.set s (some i)) x where
  fl := by rw [List.length_set]; exact h.fl
  gl := by rw [List.length_set]; exact h.gl
  fg := by
    intro j r hj
    rcases set_get hj with ⟨rfl, e, _⟩ | ⟨hji, hj⟩
    · obtain rfl : r = s := Option.some.inj e
      refine ⟨by rw [List.getElem?_set_self (by rw [h.gl]; exact hs)], fun q => ?_, hE⟩
      rw [← q] at hx
      exact (h.fg _ _ hx).2.1 rfl
    · obtain ⟨h1, h2, h3⟩ := h.fg j r hj
      have hrs : r ≠ s := fun q => h2 (by rw [q])
      refine ⟨by rw [List.getElem?_set_ne (fun q => hrs q.symm)]; exact h1, fun q => ?_, h3⟩
      rw [← q] at hx
      have := (h.fg _ _ hx).1
      rw [h1] at this
      exact hji (Option.some.inj (Option.some.inj this))
  gf := by
    intro r j hr hne
    rcases set_get hr with ⟨rfl, e, _⟩ | ⟨hrs, hr⟩
    · obtain rfl : j = i := Option.some.inj e
      rw [List.getElem?_set_self (List.getElem?_eq_some_iff.mp hx).1]
    · have h1 := h.gf r j hr (fun q => hrs (Option.some.inj q))
      have hji : j ≠ i := fun q => by
        subst q
        rw [hx] at h1
        exact hne (Option.some.inj h1).symm
      rw [List.getElem?_set_ne (fun q => hji q.symm)]
      exact h1
/-- the way back, as change goes it -/
inductive Change (org : Nat → Option Nat) : Nat → List (Option Nat) → List (Option Nat) → Option Nat → List (Option Nat) → List (Option Nat) → Prop
  | stop {f g} : Change org 0 f g none f g
  | step {n f g s i x f' g'} : org s = some i → f[i]? = some x → s < g.length → Change org n (f.set i (some s)) (g.set s (some i)) x f' g' → Change org (n + 1) f g (some s) f' g'
def lk (org : List (Nat × Nat)) (s : Nat) : Option Nat := (org.find? fun p => decide (p.1 = s)).map (·.2)
theorem lk_mem {org : List (Nat × Nat)} {s i : Nat} (h : (s, i) ∈ org) (nd : (org.map (·.1)).Nodup) : lk org s = some i := by
  induction org with
  | nil => simp at h
  | cons p r ih =>
    rw [List.map_cons, List.nodup_cons] at nd
    unfold lk
    rw [List.find?_cons]
    by_cases e : p.1 = s
    · simp only [e, decide_true]
      rcases List.mem_cons.mp h with q | q
      · rw [← q]; rfl
      · exact absurd (List.mem_map.mpr ⟨(s, i), q, rfl⟩) (e ▸ nd.1)
    · simp only [e, decide_false]
      rcases List.mem_cons.mp h with q | q
      · exact absurd (by rw [← q]) e
      · exact ih q nd.2
/-- the search: m items of q are done, of the next one's list those in pre -/
structure Bfs (la : List (List Nat)) (f g : List (Option Nat)) (t : Nat) (q : List Nat) (m : Nat) (org : List (Nat × Nat)) : Prop where
  q0 : q[0]? = some t
  key : ∀ (s i : Nat), (s, i) ∈ org → E la i s ∧ ∃ j : Nat, q[j]? = some i
  mat : ∀ (s i : Nat), (s, i) ∈ org → ∃ u : Nat, g[s]? = some (some u) ∧ u ∈ q
  que : ∀ (k u : Nat), q[k]? = some u → k ≠ 0 → ∃ (s i j : Nat), (s, i) ∈ org ∧ g[s]? = some (some u) ∧ q[j]? = some i ∧ j < k
  fin : ∀ (k u : Nat), q[k]? = some u → k < m → ∀ s, E la u s → s ∈ org.map (·.1)
  len : q.length = org.length + 1
  nd : (org.map (·.1)).Nodup
  qn : q.Nodup
section
variable {la : List (List Nat)} {f g : List (Option Nat)} {t m : Nat} {q : List Nat} {org : List (Nat × Nat)}
theorem Bfs.start (la : List (List Nat)) (f g : List (Option Nat)) (t : Nat) : Bfs la f g t [t] 0 [] where
  q0 := rfl
  key := fun s i h => by simp at h
  mat := fun s i h => by simp at h
  que := fun k u h hk => by
    cases k with
    | zero => exact absurd rfl hk
    | succ k => simp at h
  fin := fun k u h hk => by omega
  len := rfl
  nd := by simp
  qn := by simp
/-- a new right one that is matched -/
theorem Bfs.add (B : Bfs la f g t q m org) (W : WF la f g none) (ft : f[t]? = some none) {c s u : Nat} (hc : q[m]? = some c) (hE : E la c s) (hs : s ∉ org.map (·.1)) (hg : g[s]? = some (some u)) : Bfs la f g t (q ++ [u]) m (org ++ [(s, c)]) := by
  have fu := W.gf s u hg (by simp)
  have uq : u ∉ q := by
    intro h
    obtain ⟨k, hk, e⟩ := List.mem_iff_getElem.mp h
    have hk' : q[k]? = some u := by rw [List.getElem?_eq_getElem hk, e]
    by_cases k0 : k = 0
    · subst k0
      rw [B.q0] at hk'
      obtain rfl := Option.some.inj hk'
      rw [ft] at fu; cases fu
    · obtain ⟨r, i, j, h1, h2, _⟩ := B.que k u hk' k0
      have := W.gf r u h2 (by simp)
      rw [fu] at this
      obtain rfl : s = r := Option.some.inj (Option.some.inj this)
      exact hs (List.mem_map.mpr ⟨(s, i), h1, rfl⟩)
  have ext : ∀ {k v}, q[k]? = some v → (q ++ [u])[k]? = some v := fun {k v} h => by
    rw [List.getElem?_append_left (List.getElem?_eq_some_iff.mp h).1]; exact h
  have hml : m < q.length := (List.getElem?_eq_some_iff.mp hc).1
  refine ⟨ext B.q0, fun s' i h => ?_, fun s' i h => ?_, fun k v h hk => ?_, fun k v h hk s' hs' => ?_, by simp [B.len], ?_, ?_⟩
  · rcases List.mem_append.mp h with h | h
    · obtain ⟨h1, j, h2⟩ := B.key s' i h
      exact ⟨h1, j, ext h2⟩
    · obtain ⟨rfl, rfl⟩ := by simpa using h
      exact ⟨hE, m, ext hc⟩
  · rcases List.mem_append.mp h with h | h
    · obtain ⟨v, h1, h2⟩ := B.mat s' i h
      exact ⟨v, h1, List.mem_append_left _ h2⟩
    · obtain ⟨rfl, rfl⟩ := by simpa using h
      exact ⟨u, hg, by simp⟩
  · by_cases hkl : k < q.length
    · rw [List.getElem?_append_left hkl] at h
      obtain ⟨r, i, j, h1, h2, h3, h4⟩ := B.que k v h hk
      exact ⟨r, i, j, List.mem_append_left _ h1, h2, ext h3, h4⟩
    · have : k = q.length := by
        have := (List.getElem?_eq_some_iff.mp h).1
        simp at this; omega
      subst this
      obtain rfl : u = v := by simpa using h
      exact ⟨s, c, m, by simp, hg, ext hc, hml⟩
  · have hkl : k < q.length := by omega
    rw [List.getElem?_append_left hkl] at h
    have := B.fin k v h hk s' hs'
    simp only [List.map_append, List.mem_append]
    exact .inl this
  · rw [List.map_append, List.nodup_append]
    exact ⟨B.nd, by simp, by rintro a ha b hb rfl; simp at hb; subst hb; exact hs ha⟩
  · rw [List.nodup_append]
    exact ⟨B.qn, by simp, by rintro a ha b hb rfl; simp at hb; subst hb; exact uq ha⟩
theorem Bfs.next (B : Bfs la f g t q m org) {c : Nat} (hc : q[m]? = some c) (h : ∀ s, E la c s → s ∈ org.map (·.1)) : Bfs la f g t q (m + 1) org :=
  ⟨B.q0, B.key, B.mat, B.que, fun k u hk hkm s hs => by
    by_cases e : k = m
    · rw [e, hc] at hk
      obtain rfl := Option.some.inj hk
      exact h s hs
    · exact B.fin k u hk (by omega) s hs, B.len, B.nd, B.qn⟩
/-- a free right one: the way back -/
theorem back (W : WF la f g none) (ft : f[t]? = some none) (B : Bfs la f g t q m org) (org' : Nat → Option Nat) (ho : ∀ s i, (s, i) ∈ org → org' s = some i) :
    ∀ (k u : Nat), q[k]? = some u → ∀ (f1 g1 : List (Option Nat)) (s : Nat), s < la.length → org' s = some u → E la u s → WF la f1 g1 (some s) → (∀ j v : Nat, j ≤ k → q[j]? = some v → f1[v]? = f[v]?) →
      ∃ k' f' g', Change org' k' f1 g1 (some s) f' g' ∧ WF la f' g' none ∧ f'[t]? ≠ some none ∧ (∀ v : Nat, f[v]? = some none → v ≠ t → f1[v]? = some none → f'[v]? = some none) ∧ (∀ v : Nat, f'[v]? = some none → f1[v]? = some none) ∧ ∀ R, Cl la g1 R → ¬ R s → Cl la g' R := by
  intro k
  induction k using Nat.strongRecOn with
  | _ k ih =>
  intro u hu f1 g1 s hs hos hE W1 agree
  have fu := agree k u (Nat.le_refl _) hu
  have keepR : ∀ R, Cl la g1 R → ¬ R s → Cl la (g1.set s (some u)) R := fun R hR hn r hr => by
    obtain ⟨i, h1, h2⟩ := hR r hr
    refine ⟨i, ?_, h2⟩
    rw [List.getElem?_set_ne (fun e => hn (by rw [e]; exact hr))]; exact h1
  by_cases k0 : k = 0
  · subst k0
    rw [B.q0] at hu
    obtain rfl := Option.some.inj hu
    rw [ft] at fu
    refine ⟨_, _, _, .step hos fu (by rw [W1.gl]; exact hs) .stop, W1.step hs hE fu, ?_, fun v h0 h1 h2 => by rw [List.getElem?_set_ne (fun e => h1 e.symm)]; exact h2, fun v hv => ?_, keepR⟩
    · rw [List.getElem?_set_self (List.getElem?_eq_some_iff.mp fu).1]; simp
    · rcases set_get hv with ⟨_, e, _⟩ | ⟨_, h⟩
      · cases e
      · exact h
  · obtain ⟨r, i, j, h1, h2, h3, h4⟩ := B.que k u hu k0
    have fur := W.gf r u h2 (by simp)
    rw [fur] at fu
    have W2 := W1.step hs hE fu
    have hr := (B.key r i h1).1
    have hrl : r < la.length := by rw [← W.gl]; exact (List.getElem?_eq_some_iff.mp h2).1
    obtain ⟨k', f', g', c1, c2, c3, c6, c4, c5⟩ := ih j h4 i h3 _ _ r hrl (ho r i h1) hr W2 (fun j' v hj' hv => by
      have hne : v ≠ u := fun e => by
        subst e
        obtain ⟨a1, a2⟩ := List.getElem?_eq_some_iff.mp hv
        obtain ⟨b1, b2⟩ := List.getElem?_eq_some_iff.mp hu
        exact List.pairwise_iff_getElem.mp B.qn j' k a1 b1 (by omega) (a2.trans b2.symm)
      rw [List.getElem?_set_ne (fun e => hne e.symm)]
      exact agree j' v (by omega) hv)
    refine ⟨k' + 1, f', g', .step hos fu (by rw [W1.gl]; exact hs) c1, c2, c3, fun v h0 h1 h2 => c6 v h0 h1 (by
      rw [List.getElem?_set_ne (fun e => by subst e; rw [fur] at h0; cases h0)]; exact h2), fun v hv => ?_, fun R hR hn => c5 R (keepR R hR hn) fun hRr => ?_⟩
    · rcases set_get (c4 v hv) with ⟨_, e, _⟩ | ⟨_, h⟩
      · cases e
      · exact h
    · obtain ⟨i', e1, e2⟩ := hR r hRr
      have := (W1.fg u r fu).1
      rw [e1] at this
      obtain rfl : i' = u := Option.some.inj (Option.some.inj this)
      exact hn (e2 s hE)
/-- the search found a free one -/
theorem grown (M : MI la t f g) (ft : f[t]? = some none) (B : Bfs la f g t q m org) {c s : Nat} (hc : q[m]? = some c) (hE : E la c s) (hs : s ∉ org.map (·.1)) (hl : s < la.length) (hg : g[s]? = some none) (org' : Nat → Option Nat) (ho : ∀ s' i, (s', i) ∈ org ++ [(s, c)] → org' s' = some i) :
    ∃ k f' g', Change org' k f g (some s) f' g' ∧ MI la (t + 1) f' g' := by
  obtain ⟨W, ⟨R, hR, hu⟩, hv⟩ := M
  have W1 : WF la f g (some s) := by
    refine ⟨W.fl, W.gl, fun i r h => ?_, fun r i h _ => W.gf r i h (by simp)⟩
    obtain ⟨h1, _, h3⟩ := W.fg i r h
    refine ⟨h1, fun e => ?_, h3⟩
    obtain rfl : r = s := Option.some.inj e
    rw [hg] at h1
    cases h1
  obtain ⟨k', f', g', c1, c2, c3, c6, c4, c5⟩ := back W ft B org' (fun s' i h => ho s' i (List.mem_append_left _ h)) m c hc f g s hl (ho s c (by simp)) hE W1 fun _ _ _ _ => rfl
  refine ⟨k', f', g', c1, c2, ⟨R, c5 R hR fun h => ?_, fun u hut hfu => ?_⟩, fun u hut hul => c6 u (hv u (by omega) hul) (by omega) (hv u (by omega) hul)⟩
  · obtain ⟨i, h1, _⟩ := hR s h
    rw [hg] at h1; cases h1
  · by_cases e : u = t
    · subst e; exact absurd hfu c3
    · exact hu u (by omega) (c4 u hfu)
/-- the search found none -/
theorem failed (M : MI la t f g) (B : Bfs la f g t q q.length org) : MI la (t + 1) f g := by
  obtain ⟨W, ⟨R, hR, hu⟩, hv⟩ := M
  have all : ∀ u ∈ q, ∀ s, E la u s → s ∈ org.map (·.1) := fun u hu s hs => by
    obtain ⟨k, hk, e⟩ := List.mem_iff_getElem.mp hu
    exact B.fin k u (by rw [List.getElem?_eq_getElem hk, e]) hk s hs
  refine ⟨W, ⟨fun s => R s ∨ s ∈ org.map (·.1), fun r hr => ?_, fun u hut hfu s hs => ?_⟩, fun u hut hul => hv u (by omega) hul⟩
  · rcases hr with hr | hr
    · obtain ⟨i, h1, h2⟩ := hR r hr
      exact ⟨i, h1, fun s hs => .inl (h2 s hs)⟩
    · obtain ⟨⟨r', i⟩, hp, rfl⟩ := List.mem_map.mp hr
      obtain ⟨u, h1, h2⟩ := B.mat r' i hp
      exact ⟨u, h1, fun s hs => .inr (all u h2 s hs)⟩
  · by_cases e : u = t
    · subst e
      exact .inr (all u (List.mem_of_getElem? B.q0) s hs)
    · exact .inl (hu u (by omega) hfu s hs)
end
/-! ### rows -/
inductive Row (f : List (Option Nat)) : Nat → List Nat → Prop
  | last {e : Nat} : f[e]? = some none → Row f e [e]
  | more {e s : Nat} {r : List Nat} : f[e]? = some (some s) → Row f s r → Row f e (e :: r)
section
variable {la : List (List Nat)} {f g : List (Option Nat)}
theorem Row.head {e : Nat} {r : List Nat} (h : Row f e r) : ∃ t, r = e :: t := by cases h <;> exact ⟨_, rfl⟩
theorem Row.next {e k x : Nat} {r : List Nat} (h : Row f e r) (hk : r[k + 1]? = some x) : ∃ y, r[k]? = some y ∧ f[y]? = some (some x) := by
  induction h generalizing k with
  | last => simp at hk
  | @more e s r hf h ih =>
    rw [List.getElem?_cons_succ] at hk
    cases k with
    | zero =>
      obtain ⟨t, rfl⟩ := h.head
      obtain rfl : s = x := by simpa using hk
      exact ⟨e, rfl, hf⟩
    | succ k =>
      obtain ⟨y, h1, h2⟩ := ih hk
      exact ⟨y, by rw [List.getElem?_cons_succ]; exact h1, h2⟩
theorem Row.step {e x y : Nat} {r : List Nat} (h : Row f e r) (hx : x ∈ r) (hf : f[x]? = some (some y)) : y ∈ r := by
  induction h with
  | last he =>
    obtain rfl := List.mem_singleton.mp hx
    rw [he] at hf; cases hf
  | @more e s r he h ih =>
    rcases List.mem_cons.mp hx with rfl | hx
    · rw [he] at hf
      obtain rfl := Option.some.inj (Option.some.inj hf)
      obtain ⟨t, rfl⟩ := h.head
      simp
    · exact List.mem_cons_of_mem _ (ih hx)
def starts (g : List (Option Nat)) (n : Nat) : List Nat := (List.range n).filter fun e => decide (g[e]? = some none)
/-- the rows, one for each start -/
def RowsOf (f g : List (Option Nat)) (n : Nat) (rows : List (List Nat)) : Prop := rows.length = (starts g n).length ∧ ∀ (k : Nat) (e : Nat) (r : List Nat), (starts g n)[k]? = some e → rows[k]? = some r → Row f e r
theorem starts_nd {n : Nat} : (starts g n).Nodup := List.nodup_range.filter _
theorem starts_mem {n e : Nat} : e ∈ starts g n ↔ e < n ∧ g[e]? = some none := by simp [starts]
theorem rows_uniq {n : Nat} {rows : List (List Nat)} (W : WF la f g none) (h : RowsOf f g n rows) : ∀ (k l a b x : Nat) (r s : List Nat), rows[a]? = some r → rows[b]? = some s → r[k]? = some x → s[l]? = some x → a = b ∧ k = l := by
  intro k
  induction k with
  | zero =>
    intro l a b x r s ha hb hr hs
    have hal := (List.getElem?_eq_some_iff.mp ha).1
    have hbl := (List.getElem?_eq_some_iff.mp hb).1
    have hal' : a < (starts g n).length := by rw [← h.1]; exact hal
    have hbl' : b < (starts g n).length := by rw [← h.1]; exact hbl
    have e1 : (starts g n)[a]? = some (starts g n)[a] := List.getElem?_eq_getElem hal'
    have e2 : (starts g n)[b]? = some (starts g n)[b] := List.getElem?_eq_getElem hbl'
    have R1 := h.2 a _ r e1 ha
    have R2 := h.2 b _ s e2 hb
    obtain ⟨t, ht⟩ := R1.head
    have hx : (starts g n)[a] = x := by rw [ht] at hr; simpa using hr
    have gx := (starts_mem.mp (List.mem_of_getElem? e1)).2
    rw [hx] at gx
    cases l with
    | zero =>
      obtain ⟨t2, ht2⟩ := R2.head
      have hx2 : (starts g n)[b] = x := by rw [ht2] at hs; simpa using hs
      refine ⟨?_, rfl⟩
      have hab : (starts g n)[a] = (starts g n)[b] := hx.trans hx2.symm
      rcases Nat.lt_trichotomy a b with q | q | q
      · exact absurd hab (List.pairwise_iff_getElem.mp starts_nd a b _ _ q)
      · exact q
      · exact absurd hab.symm (List.pairwise_iff_getElem.mp starts_nd b a _ _ q)
    | succ l =>
      obtain ⟨y, _, h2⟩ := R2.next hs
      have := (W.fg y x h2).1
      rw [gx] at this; cases this
  | succ k ih =>
    intro l a b x r s ha hb hr hs
    have hal := (List.getElem?_eq_some_iff.mp ha).1
    have hbl := (List.getElem?_eq_some_iff.mp hb).1
    have hal' : a < (starts g n).length := by rw [← h.1]; exact hal
    have hbl' : b < (starts g n).length := by rw [← h.1]; exact hbl
    have e1 : (starts g n)[a]? = some (starts g n)[a] := List.getElem?_eq_getElem hal'
    have e2 : (starts g n)[b]? = some (starts g n)[b] := List.getElem?_eq_getElem hbl'
    have R1 := h.2 a _ r e1 ha
    have R2 := h.2 b _ s e2 hb
    obtain ⟨y, h1, h2⟩ := R1.next hr
    have gy := (W.fg y x h2).1
    cases l with
    | zero =>
      obtain ⟨t2, ht2⟩ := R2.head
      have hx2 : (starts g n)[b] = x := by rw [ht2] at hs; simpa using hs
      have gx := (starts_mem.mp (List.mem_of_getElem? e2)).2
      rw [hx2, gy] at gx; cases gx
    | succ l =>
      obtain ⟨z, h3, h4⟩ := R2.next hs
      have gz := (W.fg z x h4).1
      rw [gy] at gz
      obtain rfl : y = z := Option.some.inj (Option.some.inj gz)
      obtain ⟨q1, q2⟩ := ih l a b y r s ha hb h1 h3
      exact ⟨q1, by omega⟩
theorem rows_all {rows : List (List Nat)} (W : WF la f g none) (lt : ∀ i s, E la i s → i < s ∧ s < la.length) (h : RowsOf f g la.length rows) : ∀ e, e < la.length → ∃ r ∈ rows, e ∈ r := by
  intro e
  induction e using Nat.strongRecOn with
  | _ e ih =>
  intro he
  have he' : e < g.length := by rw [W.gl]; exact he
  have hg : g[e]? = some g[e] := List.getElem?_eq_getElem he'
  cases q : g[e] with
  | none =>
    rw [q] at hg
    obtain ⟨k, hk, e1⟩ := List.mem_iff_getElem.mp (starts_mem.mpr ⟨he, hg⟩)
    have hk2 : k < rows.length := by rw [h.1]; exact hk
    have R := h.2 k e rows[k] (by rw [List.getElem?_eq_getElem hk, e1]) (List.getElem?_eq_getElem hk2)
    obtain ⟨t, ht⟩ := R.head
    exact ⟨rows[k], List.getElem_mem hk2, by rw [ht]; simp⟩
  | some i =>
    rw [q] at hg
    have hf := W.gf e i hg (by simp)
    have hE := (W.fg i e hf).2.2
    obtain ⟨r, hr, hi⟩ := ih i (lt i e hE).1 (by have := lt i e hE; omega)
    obtain ⟨k, hk, e1⟩ := List.mem_iff_getElem.mp hr
    have R := h.2 k ((starts g la.length)[k]'(by rw [← h.1]; exact hk)) r (List.getElem?_eq_getElem _) (by rw [List.getElem?_eq_getElem hk, e1])
    exact ⟨r, hr, R.step hi hf⟩
theorem rows_lt {rows : List (List Nat)} (W : WF la f g none) (lt : ∀ i s, E la i s → i < s ∧ s < la.length) (h : RowsOf f g la.length rows) {r : List Nat} (hr : r ∈ rows) {x : Nat} (hx : x ∈ r) : x < la.length := by
  obtain ⟨k, hk, e1⟩ := List.mem_iff_getElem.mp hr
  have es : (starts g la.length)[k]? = some ((starts g la.length)[k]'(by rw [← h.1]; exact hk)) := List.getElem?_eq_getElem _
  have R := h.2 k _ r es (by rw [List.getElem?_eq_getElem hk, e1])
  have h0 := (starts_mem.mp (List.mem_of_getElem? es)).1
  obtain ⟨j, hj, e2⟩ := List.mem_iff_getElem.mp hx
  have hj' : r[j]? = some x := by rw [List.getElem?_eq_getElem hj, e2]
  cases j with
  | zero =>
    obtain ⟨t, ht⟩ := R.head
    rw [ht] at hj'
    obtain rfl : _ = x := by simpa using hj'
    exact h0
  | succ j =>
    obtain ⟨y, _, h2⟩ := R.next hj'
    exact (lt y x (W.fg y x h2).2.2).2
theorem rows_perm {rows : List (List Nat)} (W : WF la f g none) (lt : ∀ i s, E la i s → i < s ∧ s < la.length) (h : RowsOf f g la.length rows) : (List.range la.length).Perm rows.flatten := by
  have nd : rows.flatten.Nodup := by
    refine List.pairwise_flatten.mpr ⟨fun r hr => ?_, ?_⟩
    · obtain ⟨a, ha, e⟩ := List.mem_iff_getElem.mp hr
      have ha' : rows[a]? = some r := by rw [List.getElem?_eq_getElem ha, e]
      refine List.pairwise_iff_getElem.mpr fun i j hi hj hij e => ?_
      have := (rows_uniq W h i j a a r[i] r r ha' ha' (List.getElem?_eq_getElem hi) (by rw [List.getElem?_eq_getElem hj, e])).2
      omega
    · refine List.pairwise_iff_getElem.mpr fun a b ha hb hab x hx y hy exy => ?_
      subst exy
      obtain ⟨i, hi, e1⟩ := List.mem_iff_getElem.mp hx
      obtain ⟨j, hj, e2⟩ := List.mem_iff_getElem.mp hy
      have := (rows_uniq W h i j a b x rows[a] rows[b] (List.getElem?_eq_getElem ha) (List.getElem?_eq_getElem hb) (by rw [List.getElem?_eq_getElem hi, e1]) (by rw [List.getElem?_eq_getElem hj, e2])).1
      omega
  refine (List.perm_ext_iff_of_nodup List.nodup_range nd).mpr fun x => ?_
  rw [List.mem_range, List.mem_flatten]
  exact ⟨fun hx => by obtain ⟨r, h1, h2⟩ := rows_all W lt h x hx; exact ⟨r, h1, h2⟩, fun ⟨r, h1, h2⟩ => rows_lt W lt h h1 h2⟩
/-! ### those apart -/
structure Parts (la : List (List Nat)) (f g : List (Option Nat)) (F S : Nat → Bool) : Prop where
  f0 : ∀ e, f[e]? = some none → F e = true
  fs : ∀ u s, F u = true → E la u s → S s = true
  sf : ∀ s v, S s = true → g[s]? = some (some v) → F v = true
  sm : ∀ s, S s = true → ∃ v, g[s]? = some (some v)
  sr : ∀ s, S s = true → ∃ u, F u = true ∧ E la u s
theorem parts_dis {F S : Nat → Bool} (W : WF la f g none) (tr : ∀ a b c, E la a b → E la b c → E la a c) (p : Parts la f g F S) {x : Nat} (hx : x < la.length) (hF : F x = false) : S x = false := by
  cases q : S x with
  | false => rfl
  | true =>
    exfalso
    have hf : f[x]? = some (f[x]'(by rw [W.fl]; exact hx)) := List.getElem?_eq_getElem _
    cases z : f[x]'(by rw [W.fl]; exact hx) with
    | none => rw [z] at hf; rw [p.f0 x hf] at hF; cases hF
    | some y =>
      rw [z] at hf
      obtain ⟨u, h1, h2⟩ := p.sr x q
      obtain ⟨g1, _, e1⟩ := W.fg x y hf
      have := p.sf y x (p.fs u y h1 (tr u x y h2 e1)) g1
      rw [hF] at this; cases this
theorem len_filter_add {α : Type} (l : List α) (p q : α → Bool) : (l.filter p).length = (l.filter fun x => p x && q x).length + (l.filter fun x => p x && !q x).length := by
  induction l with
  | nil => rfl
  | cons x l ih =>
    simp only [List.filter_cons]
    cases p x <;> cases q x <;> simp [ih] <;> omega
def fol (f : List (Option Nat)) (e : Nat) : Nat := ((f[e]?).getD none).getD 0
theorem fol_eq {e s : Nat} (h : f[e]? = some (some s)) : fol f e = s := by simp [fol, h]
theorem apart_len {F S : Nat → Bool} (W : WF la f g none) (lt : ∀ i s, E la i s → i < s ∧ s < la.length) (tr : ∀ a b c, E la a b → E la b c → E la a c) (p : Parts la f g F S) :
    ((List.range la.length).filter fun e => F e && !S e).length = (starts g la.length).length := by
  have matched : ∀ e, e < la.length → F e = false → ∃ s, f[e]? = some (some s) ∧ g[s]? = some (some e) ∧ E la e s ∧ S s = false := fun e he hF => by
    have hf : f[e]? = some (f[e]'(by rw [W.fl]; exact he)) := List.getElem?_eq_getElem _
    cases z : f[e]'(by rw [W.fl]; exact he) with
    | none => rw [z] at hf; rw [p.f0 e hf] at hF; cases hF
    | some s =>
      rw [z] at hf
      obtain ⟨g1, _, e1⟩ := W.fg e s hf
      refine ⟨s, hf, g1, e1, ?_⟩
      cases q : S s with
      | false => rfl
      | true => have := p.sf s e q g1; rw [hF] at this; cases this
  have bij : (((List.range la.length).filter fun e => !F e).map (fol f)).Perm ((List.range la.length).filter fun s => decide (g[s]? ≠ some none) && !S s) := by
    refine (List.perm_ext_iff_of_nodup ?_ (List.nodup_range.filter _)).mpr fun s => ?_
    · refine List.pairwise_map.mpr ((List.nodup_range.filter _).imp_of_mem fun {a b} ha hb hab e => hab ?_)
      simp only [List.mem_filter, List.mem_range, Bool.not_eq_true'] at ha hb
      obtain ⟨x, a1, a2, _⟩ := matched a ha.1 ha.2
      obtain ⟨y, b1, b2, _⟩ := matched b hb.1 hb.2
      rw [fol_eq a1, fol_eq b1] at e
      subst e
      rw [a2] at b2
      exact Option.some.inj (Option.some.inj b2)
    · simp only [List.mem_map, List.mem_filter, List.mem_range, Bool.not_eq_true', Bool.and_eq_true, decide_eq_true_eq]
      constructor
      · rintro ⟨e, ⟨he, hF⟩, rfl⟩
        obtain ⟨x, a1, a2, a3, a4⟩ := matched e he hF
        rw [fol_eq a1]
        exact ⟨(lt e x a3).2, by rw [a2]; simp, a4⟩
      · rintro ⟨hs, hg, hS⟩
        have hg' : g[s]? = some (g[s]'(by rw [W.gl]; exact hs)) := List.getElem?_eq_getElem _
        cases z : g[s]'(by rw [W.gl]; exact hs) with
        | none => rw [z] at hg'; exact absurd hg' hg
        | some e =>
          rw [z] at hg'
          have hf := W.gf s e hg' (by simp)
          have hE := (W.fg e s hf).2.2
          refine ⟨e, ⟨by have := lt e s hE; omega, ?_⟩, fol_eq hf⟩
          cases q : F e with
          | false => rfl
          | true => have := p.fs e s q hE; rw [hS] at this; cases this
  have c1 := bij.length_eq
  rw [List.length_map] at c1
  -- everything, split
  have t1 := len_filter_add (List.range la.length) (fun _ => true) (fun e => decide (g[e]? = some none))
  have t2 := len_filter_add (List.range la.length) (fun e => decide (g[e]? ≠ some none)) S
  have t3 := len_filter_add (List.range la.length) (fun _ => true) (fun x => F x)
  have t4 := len_filter_add (List.range la.length) (fun x => F x) S
  simp only [Bool.true_and] at t1 t3
  have e1 : ((List.range la.length).filter fun e => decide (g[e]? ≠ some none) && S e) = (List.range la.length).filter fun e => F e && S e := by
    apply List.filter_congr
    intro x hx
    rw [List.mem_range] at hx
    cases q : S x with
    | false => simp
    | true =>
      obtain ⟨v, hv⟩ := p.sm x q
      have : F x = true := by
        cases z : F x with
        | true => rfl
        | false => rw [parts_dis W tr p hx z] at q; cases q
      simp [hv, this]
  have e2 : ((List.range la.length).filter fun e => !decide (g[e]? = some none)) = (List.range la.length).filter fun e => decide (g[e]? ≠ some none) := by
    apply List.filter_congr
    intro x _
    simp
  rw [e1] at t2
  rw [e2] at t1
  unfold starts
  omega
end
end M56
namespace Rd
open PySem PySem.Spec L2 Pw Gn
local macro_rules | `(tactic| walk_at "side") => `(tactic| first | assumption | omega | decide | (unfold CMul; omega) | (unfold CDiv; omega) | (unfold CPow; decide) | (simp; omega) | (simp; done))
local macro_rules | `(tactic| walk_at "rp") => `(tactic| first
  | exact rp_add_int | exact rp_sub | exact rp_eq_int | exact rp_ne_int | exact rp_lt | exact rp_le | exact rp_gt | exact rp_ge
  | exact rp_mod (by walk_at "side") | exact rp_mul (by walk_at "side") | exact rp_fdiv (by walk_at "side") | exact rp_pow (by walk_at "side")
  | exact rp_eq_str | exact rp_ne_str | exact rp_add_str (by walk_at "side") | exact rp_in_sg | exact rp_nin_sg | exact rp_add_tup (by walk_at "side")
  | exact rp_ix_tup (by walk_at "at") | exact rp_ix_lst (by walk_at "at") | exact rp_ix_str (by walk_at "side") (by walk_at "at"))
local macro_rules | `(tactic| walk_at "at") => `(tactic| first | rfl | assumption | (exact atI_nat (by first | rfl | assumption)))
local macro_rules | `(tactic| walk_at "wpa") => `(tactic| first | exact wpa_nil | (apply wpa_cons; (focus walk_at "wp"); walk_at "wpa"))
local macro_rules | `(tactic| walk_at "pl") => `(tactic| first | exact pl_var rfl | (apply pl_fld; (focus walk_at "pl"); (focus assumption); (focus assumption); rfl))
local macro_rules | `(tactic| walk_at "wp") => `(tactic| first
  | assumption
  | exact wp_var rfl | exact wp_int | exact wp_str | exact wp_bl | exact wp_non
  | (apply wp_len_own; (focus walk_at "pl"))
  | (apply wp_op; (focus walk_at "wp"); (focus walk_at "wp"); walk_at "rp")
  | (apply wp_cb; (focus walk_at "wpa"); first | exact cp_int | exact cp_int_bl | exact cp_len_lst | exact cp_len_tup | exact cp_len_str (by walk_at "side") | exact cp_tuple_lst | exact cp_tuple_tup | exact cp_str (by walk_at "side"))
  | (apply wp_tup; (focus walk_at "wpa"); (first | decide | simp))
  | (apply wp_un; (focus walk_at "wp"); exact up_neg)
  | (apply wp_l; walk_at "pl")
  | (apply wp_fld; (focus walk_at "wp"); (focus assumption); (focus assumption); rfl)
  | (apply wp_o; walk_at "wo")
  | (apply wp_notV; walk_at "wp"))
local macro_rules | `(tactic| walk_at "wo") => `(tactic| first
  | (apply wo_lst; (focus walk_at "wpa"); (first | decide | simp))
  | (apply wo_cb; (focus walk_at "wpa"); first | exact co_list_lst | exact co_list_tup | exact co_list_scr))
local macro_rules | `(tactic| walk_at "wt") => `(tactic| first
  | (apply wt_test; walk_at "wp") | (apply wt_tru; walk_at "wp") | (apply wt_B; walk_at "wp") | (apply wt_not; walk_at "wt")
  | (apply wt_and; (focus walk_at "wt"); (intro _; walk_at "wt")) | (apply wt_or; (focus walk_at "wt"); (intro _; walk_at "wt")))
local macro_rules | `(tactic| walk_at "fin") => `(tactic| (try simp only [List.set_cons_zero, List.set_cons_succ]))
local macro_rules | `(tactic| walk_at "lt") => `(tactic| first | decide | (simp only [List.length_cons, List.length_nil]; omega) | (simp; done))
local macro_rules | `(tactic| walk_at "seq") => `(tactic| (refine ws_seq ?_))
local macro_rules | `(tactic| walk_at "set") => `(tactic| (refine ws_set (by walk_at "wp") (by walk_at "lt") (by decide) ?_; walk_at "fin"))
local macro_rules | `(tactic| walk_at "setO") => `(tactic| (refine ws_setO (by walk_at "wo") (by walk_at "lt") (by decide) ?_; walk_at "fin"))
local macro_rules | `(tactic| walk_at "ret") => `(tactic| (refine ws_ret (by walk_at "wp") ?_))
local macro_rules | `(tactic| walk_at "if") => `(tactic| (refine ws_if (by walk_at "wt") ?_))
/-- numbers of a list that is owned -/
def ownI (ms : List Int) : OV := .lst ((ms.map D.int).map OV.dat)
theorem ownI_len (ms : List Int) : ((ms.map D.int).map OV.dat).length = ms.length := by simp
def Dr (ms : List Int) : Prop := (∀ m ∈ ms, 0 ≤ m ∧ m < 1000) ∧ ms.length ≤ 1000
def spTake : FS := fun xs Φ => ∃ ms n, xs = [ownI ms, .dat (.int n)] ∧ 0 < n ∧ Dr ms ∧ ∀ v ms', 0 ≤ v → v < n → Dr ms' → Φ (.dat (.int v)) [ownI ms', .dat (.int n)]
theorem rd_take {K : PySem.W.Frag} : ∀ vs H Q E, toSp K spTake vs H Q E → t_law_take K { nx := fun _ H' => Q .non H', rt := Q } (L2.start N_law_take vs) H := by
  refine body_of (np := 2) ?_
  rintro xs Φ ⟨ms, n, rfl, hn, hd, hk⟩
  refine ⟨rfl, ?_⟩
  show WS K [0, 1] _ [some (ownI ms), some (.dat (.int n))] _
  walk_at "seq"
  walk_at "if"
  by_cases h : ms = []
  · subst h
    refine iteT ?_
    walk_at "ret"
    exact ⟨[ownI [], .dat (.int n)], rfl, hk 0 [] (by omega) hn hd⟩
  · rw [if_neg (by simp [h])]
    refine ws_next ?_
    obtain ⟨m, ms', rfl⟩ : ∃ m ms', ms = ms' ++ [m] := ⟨ms.getLast h, ms.dropLast, (List.dropLast_concat_getLast h).symm⟩
    have hd' : Dr ms' := ⟨fun x hx => hd.1 x (List.mem_append_left _ hx), by have := hd.2; simp at this ⊢; omega⟩
    refine ws_retE (we_op (we_cb (wa_val (we_pop (xs := (ms'.map D.int).map OV.dat) (d := .int m) (by
      have : ownI (ms' ++ [m]) = .lst ((ms'.map D.int).map OV.dat ++ [.dat (.int m)]) := by simp [ownI]
      rw [this]
      exact pm_var rfl) (wa_nil ⟨[.int m], rfl, _, cp_int, _, rfl, we_p (wp_var rfl) ⟨_, rfl, _, rp_mod hn, ?_⟩⟩)))))
    exact ⟨[ownI ms', .dat (.int n)], rfl, hk _ ms' (Int.emod_nonneg _ (by omega)) (Int.emod_lt_of_pos _ hn) hd'⟩
/-- a draw -/
theorem we_take {K : PySem.W.Frag} {δ : Dl} {ms : List Int} {n : Int} {i : Nat} {tn : TE} {Φ : OV → Dl → Prop} (h : δ[i]? = some (some (ownI ms))) (hn : WP K tn δ (.int n)) (h0 : 0 < n) (hd : Dr ms) (q : ∀ v ms', 0 ≤ v → v < n → Dr ms' → Φ (.dat (.int v)) (δ.set i (some (ownI ms')))) :
    WE K (tCall (toSp K spTake) [] E0 (tCons (tVar i) (tCons tn tNil))) δ Φ :=
  we_call (wa_slt ⟨_, h⟩ (wa_p hn (wa_nil ⟨[ownI ms, .dat (.int n)], by simp [argsOf, h], by simp [slots], ms, n, rfl, h0, hd, q⟩)))
def spDraws : FS := fun xs Φ => ∃ ns c, xs = [.dat (.scr ns), .dat (.int c)] ∧ 0 ≤ c ∧ c ≤ 1000 ∧ ns.length ≤ 63 ∧ ∀ ms, Dr ms → Φ (ownI ms) xs
theorem rd_draws {K : PySem.W.Frag} : ∀ vs H Q E, toSp K spDraws vs H Q E → t_law_draws K { nx := fun _ H' => Q .non H', rt := Q } (L2.start N_law_draws vs) H := by
  refine body_of (np := 2) ?_
  rintro xs Φ ⟨ns, c, rfl, hc, hc2, hns, hk⟩
  refine ⟨rfl, ?_⟩
  show WS K [0, 1] _ [some (.dat (.scr ns)), some (.dat (.int c)), none, none, none, none, none, none, none] _
  walk_at "seq"
  walk_at "setO"
  walk_at "seq"
  refine ws_cut (fun δ' => ∃ cs : List Int, 0 < cs.length ∧ cs.length ≤ 63 ∧ δ' = [some (.dat (.scr ns)), some (.dat (.int c)), some (ownI cs), none, none, none, none, none, none]) ?_ ?_
  · walk_at "if"
    by_cases h : ns = []
    · subst h
      refine iteT ?_
      walk_at "setO"
      exact ⟨[7], by simp, by simp, rfl⟩
    · rw [if_neg (by simp [h])]
      refine ws_next ⟨ns, List.length_pos_iff.mpr h, hns, rfl⟩
  rintro _ ⟨cs, hc0, hc63, rfl⟩
  walk_at "seq"
  walk_at "setO"
  walk_at "seq"
  walk_at "set"
  walk_at "seq"
  refine ws_for (ds := rgD 0 c.toNat) (wi_rng1 (by walk_at "wpa") (by omega) (by omega)) (fun i δ' => ∃ (cs ms : List Int) (mx : Int) (a b d e : Option OV), cs.length ≤ 63 ∧ 0 < cs.length ∧ Dr ms ∧ ms.length = i ∧ 0 ≤ mx ∧ mx < 2147483647 ∧
    δ' = [some (.dat (.scr ns)), some (.dat (.int c)), some (ownI cs), some (ownI ms), some (.dat (.int mx)), a, b, d, e]) ?_ ?_ ?_
  · exact ⟨cs, [], 12345, none, none, none, none, hc63, hc0, ⟨by simp, by simp⟩, rfl, by omega, by omega, rfl⟩
  · rintro i d δ' hi ⟨cs, ms, mx, o5, o6, o7, o8, hl, hl0, hd, hms, hm0, hm1, rfl⟩
    have hic : i < c.toNat := by have := get_lt hi; rwa [rgD_length] at this
    rw [rgD_get hic] at hi
    cases hi
    refine wg_name (by walk_at "lt") (by decide) ?_
    walk_at "fin"
    walk_at "seq"
    have hlen : 0 < ((((cs.map D.int).map OV.dat).length : Nat) : Int) := by simp; omega
    walk_at "set"
    walk_at "seq"
    obtain ⟨j, hj, ej⟩ : ∃ j : Nat, j < cs.length ∧ (0 + (i : Int)) % (((cs.map D.int).map OV.dat).length : Nat) = (j : Int) := by
      have h1 := Int.emod_nonneg (0 + (i : Int)) (show ((((cs.map D.int).map OV.dat).length : Nat) : Int) ≠ 0 by omega)
      have h2 := Int.emod_lt_of_pos (0 + (i : Int)) hlen
      refine ⟨((0 + (i : Int)) % (((cs.map D.int).map OV.dat).length : Nat)).toNat, ?_, by omega⟩
      simp only [List.length_map] at h1 h2 ⊢
      omega
    rw [ej]
    have hix : ixN ((cs.map D.int).map OV.dat).length (j : Int) = some j := ixN_nat (by simp; exact hj)
    have hget : ((cs.map D.int).map OV.dat)[j]? = some (.dat (.int cs[j])) := by simp [hj]
    refine ws_set (wp_ix_own (pl_var rfl) (wp_var rfl) hix hget) (by walk_at "lt") (by decide) ?_
    walk_at "fin"
    generalize cs[j] = cell
    walk_at "seq"
    walk_at "set"
    generalize hmx : (_ : Int) % 2147483647 = mx'
    have hm0' : 0 ≤ mx' := by rw [← hmx]; exact Int.emod_nonneg _ (by decide)
    have hm1' : mx' < 2147483647 := by rw [← hmx]; exact Int.emod_lt_of_pos _ (by decide)
    clear hmx
    walk_at "seq"
    walk_at "set"
    generalize (_ : Int) % 1000003 = ag
    have h1000 : ∀ z : Int, Dr (ms ++ [z % 1000]) := fun z => ⟨fun m hm => by
      rcases List.mem_append.mp hm with q | q
      · exact hd.1 m q
      · have : m = z % 1000 := by simpa using q
        subst this
        exact ⟨Int.emod_nonneg _ (by decide), Int.emod_lt_of_pos _ (by decide)⟩, by simp; omega⟩
    have happ : ∀ z : Int, OV.lst ((ms.map D.int).map OV.dat ++ [.dat (.int z)]) = ownI (ms ++ [z]) := fun z => by simp [ownI]
    have hml : ((ms.map D.int).map OV.dat).length < 1000000 := by simp; omega
    walk_at "if"
    refine ite2 (fun _ => ?_) (fun _ => ?_)
    · walk_at "seq"
      refine ws_drop (we_append (pm_var rfl) (by walk_at "wp") hml ?_)
      rw [happ]
      walk_at "fin"
      refine ws_setix (by walk_at "wp") (pm_var rfl) (wp_var rfl) hix ⟨_, hget⟩ ?_
      walk_at "fin"
      have e2 : OV.lst (((cs.map D.int).map OV.dat).set j (.dat (.int (cell / 1000)))) = ownI (cs.set j (cell / 1000)) := by simp [ownI, List.map_set]
      rw [e2]
      exact ⟨cs.set j (cell / 1000), _, _, _, _, _, _, by simpa using hl, by simpa using hl0, h1000 cell, by simp [hms], hm0', hm1', rfl⟩
    · refine ws_drop (we_append (pm_var rfl) (by walk_at "wp") hml ?_)
      rw [happ]
      walk_at "fin"
      exact ⟨cs, _, _, _, _, _, _, hl, hl0, h1000 ag, by simp [hms], hm0', hm1', rfl⟩
  · rintro _ ⟨cs, ms, mx, o5, o6, o7, o8, hl, hl0, hd, hms, hm0, hm1, rfl⟩
    walk_at "seq"
    refine ws_drop (we_reverse (pm_var rfl) ?_)
    walk_at "fin"
    have e : OV.lst ((ms.map D.int).reverse.map OV.dat) = ownI ms.reverse := by simp [ownI]
    rw [e]
    refine ws_retE (we_mv (i := 3) rfl ?_)
    exact ⟨_, rfl, hk _ ⟨fun m hm => hd.1 m (List.mem_reverse.mp hm), by simpa using hd.2⟩⟩
end Rd
namespace Rd
open PySem PySem.Spec L2 Pw Gn
local macro_rules | `(tactic| walk_at "side") => `(tactic| first | assumption | omega | decide | (unfold CMul; omega) | (unfold CDiv; omega) | (unfold CPow; decide) | (simp; omega) | (simp; done))
local macro_rules | `(tactic| walk_at "rp") => `(tactic| first
  | exact rp_add_int | exact rp_sub | exact rp_eq_int | exact rp_ne_int | exact rp_lt | exact rp_le | exact rp_gt | exact rp_ge
  | exact rp_mod (by walk_at "side") | exact rp_mul (by walk_at "side") | exact rp_fdiv (by walk_at "side") | exact rp_pow (by walk_at "side")
  | exact rp_eq_str | exact rp_ne_str | exact rp_add_str (by walk_at "side") | exact rp_in_sg | exact rp_nin_sg | exact rp_add_tup (by walk_at "side")
  | exact rp_ix_tup (by walk_at "at") | exact rp_ix_lst (by walk_at "at") | exact rp_ix_str (by walk_at "side") (by walk_at "at"))
local macro_rules | `(tactic| walk_at "at") => `(tactic| first | rfl | assumption | (exact atI_nat (by first | rfl | assumption)))
local macro_rules | `(tactic| walk_at "wpa") => `(tactic| first | exact wpa_nil | (apply wpa_cons; (focus walk_at "wp"); walk_at "wpa"))
local macro_rules | `(tactic| walk_at "pl") => `(tactic| first | exact pl_var rfl | (apply pl_fld; (focus walk_at "pl"); (focus assumption); (focus assumption); rfl))
local macro_rules | `(tactic| walk_at "wp") => `(tactic| first
  | assumption
  | exact wp_var rfl | exact wp_int | exact wp_str | exact wp_bl | exact wp_non
  | (apply wp_len_own; (focus walk_at "pl"))
  | (apply wp_op; (focus walk_at "wp"); (focus walk_at "wp"); walk_at "rp")
  | (apply wp_cb; (focus walk_at "wpa"); first | exact cp_int | exact cp_int_bl | exact cp_len_lst | exact cp_len_tup | exact cp_len_str (by walk_at "side") | exact cp_tuple_lst | exact cp_tuple_tup | exact cp_str (by walk_at "side"))
  | (apply wp_tup; (focus walk_at "wpa"); (first | decide | simp))
  | (apply wp_un; (focus walk_at "wp"); exact up_neg)
  | (apply wp_l; walk_at "pl")
  | (apply wp_fld; (focus walk_at "wp"); (focus assumption); (focus assumption); rfl)
  | (apply wp_o; walk_at "wo")
  | (apply wp_notV; walk_at "wp"))
local macro_rules | `(tactic| walk_at "wo") => `(tactic| first
  | (apply wo_lst; (focus walk_at "wpa"); (first | decide | simp))
  | (apply wo_cb; (focus walk_at "wpa"); first | exact co_list_lst | exact co_list_tup | exact co_list_scr))
local macro_rules | `(tactic| walk_at "wt") => `(tactic| first
  | (apply wt_test; walk_at "wp") | (apply wt_tru; walk_at "wp") | (apply wt_B; walk_at "wp") | (apply wt_not; walk_at "wt")
  | (apply wt_and; (focus walk_at "wt"); (intro _; walk_at "wt")) | (apply wt_or; (focus walk_at "wt"); (intro _; walk_at "wt")))
local macro_rules | `(tactic| walk_at "fin") => `(tactic| (try simp only [List.set_cons_zero, List.set_cons_succ]))
local macro_rules | `(tactic| walk_at "lt") => `(tactic| first | decide | (simp only [List.length_cons, List.length_nil]; omega) | (simp; done))
local macro_rules | `(tactic| walk_at "seq") => `(tactic| (refine ws_seq ?_))
local macro_rules | `(tactic| walk_at "set") => `(tactic| (refine ws_set (by walk_at "wp") (by walk_at "lt") (by decide) ?_; walk_at "fin"))
local macro_rules | `(tactic| walk_at "setO") => `(tactic| (refine ws_setO (by walk_at "wo") (by walk_at "lt") (by decide) ?_; walk_at "fin"))
local macro_rules | `(tactic| walk_at "ret") => `(tactic| (refine ws_ret (by walk_at "wp") ?_))
local macro_rules | `(tactic| walk_at "if") => `(tactic| (refine ws_if (by walk_at "wt") ?_))
/-! ### alphabets -/
def encL (Ls : List (List Int)) : List D := Ls.map fun l => .tup (l.map D.int)
structure AC (K : PySem.W.Frag) (C : Addr) : Prop where
  cls : Cls K C
  pl : NoAttr K C ("places" : PySem.Str)
  lt : NoAttr K C ("letters" : PySem.Str)
def OkA (P : Int) (l : List Int) : Prop := l ≠ [] ∧ l.Pairwise (· < ·) ∧ (∀ x ∈ l, 0 ≤ x ∧ x < P) ∧ l.length ≤ 50
def OkL (P : Int) (Ls : List (List Int)) : Prop := 1 ≤ P ∧ P ≤ 4 ∧ 1 ≤ Ls.length ∧ Ls.length ≤ 6 ∧ ∀ l ∈ Ls, OkA P l
def alF (P : Int) (Ls : List (List Int)) : List (PySem.Str × D) := [(("places" : PySem.Str), .int P), (("letters" : PySem.Str), .tup (encL Ls))]
def alD (C : Addr) (P : Int) (Ls : List (List Int)) : D := .obj C (alF P Ls)
def alO (C : Addr) (P : Int) (Ls : List (List Int)) : OV := .obj C [(("places" : PySem.Str), .dat (.int P)), (("letters" : PySem.Str), .dat (.tup (encL Ls)))]
theorem al_fz {C : Addr} {P : Int} {Ls : List (List Int)} : (alO C P Ls).fz = some (alD C P Ls) := rfl
theorem sl_le {n : Nat} (h : n ≤ 100000) : n ≤ sizeLine := Nat.le_trans h (by decide)
def spFits : FS := pfa (fun a : List Int × Int => [.tup (a.1.map D.int), .int a.2]) (fun a => OkA a.2 a.1) (fun _ => .bl true)
theorem rd_fits {K : PySem.W.Frag} : ∀ vs H Q E, toSp K spFits vs H Q E → t_fits K { nx := fun _ H' => Q .non H', rt := Q } (L2.start N_fits vs) H := by
  refine body_of (np := 2) ?_
  rintro xs Φ ⟨⟨l, p⟩, rfl, ⟨h0, h1, h2, h3⟩, hk⟩
  dsimp only at h0 h1 h2 h3
  refine ⟨rfl, ?_⟩
  show WS K [0, 1] _ [some (.dat (.tup (l.map D.int))), some (.dat (.int p)), none] _
  have hl : l.length ≠ 0 := fun e => h0 (List.eq_nil_of_length_eq_zero e)
  walk_at "seq"
  walk_at "if"
  rw [if_neg (by simp; exact h0)]
  refine ws_next ?_
  walk_at "seq"
  have hlen : (((l.map D.int).length : Nat) : Int) = (l.length : Int) := by simp
  refine ws_for (ds := rgD 0 l.length) (by
    have := wi_rng1 (K := K) (δ := [some (.dat (.tup (l.map D.int))), some (.dat (.int p)), none]) (ta := (tCons (tCB (rLEN K) (tCons (tVar 0) tNil)) tNil)) (j := ((l.map D.int).length : Nat)) (by walk_at "wpa") (by omega) (by omega)
    rw [hlen] at this
    exact this) (fun i δ' => ∃ o, δ' = [some (.dat (.tup (l.map D.int))), some (.dat (.int p)), o]) ⟨none, rfl⟩ ?_ ?_
  · rintro i d δ' hi ⟨o, rfl⟩
    have hic : i < l.length := by have := get_lt hi; rwa [rgD_length] at this
    rw [rgD_get hic] at hi
    cases hi
    refine wg_name (by walk_at "lt") (by decide) ?_
    walk_at "fin"
    rw [Int.zero_add]
    have hx := h2 l[i] (List.getElem_mem hic)
    have gi : WP K (tOp (rIX K) (tVar 0) (tVar 2)) [some (.dat (.tup (l.map D.int))), some (.dat (.int p)), some (.dat (.int (i : Int)))] (.int l[i]) := wp_op (wp_var rfl) (wp_var rfl) (rp_ix_tup (get_ints hic))
    refine ws_if (b := false) ?_ ?_
    · refine (wt_or (b := false) (wt_test (wp_op gi wp_int rp_lt)) fun _ => (wt_or (b := false) (wt_test (wp_op gi (wp_var rfl) rp_ge)) fun _ => ?_).to (by rw [Bool.or_false, decide_eq_false (by omega)])).to (by rw [Bool.or_false, decide_eq_false (by omega)])
      by_cases i0 : i = 0
      · subst i0
        exact wt_andF (wt_test (wp_op (wp_var rfl) wp_int rp_gt)) (by simp)
      · have hi1 : i - 1 < l.length := by omega
        have e1 : ((i : Int) - 1) = ((i - 1 : Nat) : Int) := by omega
        have lt1 : l[i - 1] < l[i] := List.pairwise_iff_getElem.mp h1 (i - 1) i hi1 hic (by omega)
        exact (wt_and (wt_test (wp_op (wp_var rfl) wp_int rp_gt)) fun _ => wt_test (wp_op gi (wp_op (wp_var rfl) (wp_op (wp_var rfl) wp_int rp_sub) (rp_ix_tup (by rw [e1]; exact get_ints hi1))) rp_le)).to (by rw [decide_eq_false (by omega : ¬ l[i] ≤ l[i - 1]), Bool.and_false])
    · exact ws_next ⟨_, rfl⟩
  · rintro _ ⟨o, rfl⟩
    refine ws_ret wp_bl ⟨_, rfl, hk⟩
def spAInit (C : Addr) : FS := fun xs Φ => ∃ P Ls, xs = [.obj C [], .dat (.int P), .dat (.lst (encL Ls))] ∧ OkL P Ls ∧ Φ (.dat .non) [alO C P Ls, .dat (.int P), .dat (.lst (encL Ls))]
theorem rd_ainit {K : PySem.W.Frag} {C : Addr} (hC : AC K C) : ∀ vs H Q E, toSp K (spAInit C) vs H Q E → t_Alphabet___init__ K (toSp K spFits) { nx := fun _ H' => Q .non H', rt := Q } (L2.start N_Alphabet___init__ vs) H := by
  refine body_of (np := 3) ?_
  rintro xs Φ ⟨P, Ls, rfl, ⟨p1, p2, l1, l2, hL⟩, hk⟩
  refine ⟨rfl, ?_⟩
  show WS K [0, 1, 2] _ [some (.obj C []), some (.dat (.int P)), some (.dat (.lst (encL Ls))), none, none] _
  have hlen : (encL Ls).length = Ls.length := by simp [encL]
  walk_at "seq"
  refine ws_set (d := .bl true) ((wp_andV (wp_chain wp_int (wp_var rfl) wp_int rp_le rp_le) fun _ => wp_chain wp_int (wp_cb (wpa_cons (wp_var rfl) wpa_nil) cp_len_lst) wp_int rp_le rp_le).to (by
    rw [hlen, decide_eq_true (by omega), decide_eq_true (by omega), decide_eq_true (by omega), decide_eq_true (by omega)]; rfl)) (by walk_at "lt") (by decide) ?_
  walk_at "fin"
  walk_at "seq"
  refine ws_for (ds := encL Ls) (wi_lst (wp_var rfl)) (fun i δ' => ∃ o, δ' = [some (.obj C []), some (.dat (.int P)), some (.dat (.lst (encL Ls))), some (.dat (.bl true)), o]) ⟨none, rfl⟩ ?_ ?_
  · rintro i d δ' hi ⟨o, rfl⟩
    obtain ⟨l, hl, rfl⟩ : ∃ l ∈ Ls, d = .tup (l.map D.int) := by
      have := List.mem_of_getElem? hi
      obtain ⟨l, h1, h2⟩ := List.mem_map.mp this
      exact ⟨l, h1, h2.symm⟩
    refine wg_name (by walk_at "lt") (by decide) ?_
    walk_at "fin"
    refine ws_set (d := .bl true) (WP.to (wp_andV (a := true) (b := true) (wp_var rfl) fun _ => wp_callA (l, P) (wpa_cons (wp_var rfl) (wpa_cons (wp_var rfl) wpa_nil)) (hL l hl)) rfl) (by walk_at "lt") (by decide) ?_
    exact ⟨_, rfl⟩
  · rintro _ ⟨o, rfl⟩
    walk_at "seq"
    walk_at "if"
    rw [if_neg (by simp)]
    refine ws_next ?_
    walk_at "seq"
    refine ws_fld (we_pd (wp_var rfl)) (pm_var rfl) hC.cls hC.pl (by show 0 < 900; decide) ?_
    walk_at "fin"
    refine ws_un 4 ?_
    walk_at "fin"
    refine ws_fld (x := .dat (.tup (encL Ls))) (we_pd (wp_cb (wpa_cons (wp_o (ds := encL Ls) (by
      have := wo_lc (K := K) (δ := [some (.obj C (pF ("places" : PySem.Str) (.dat (.int P)) [])), some (.dat (.int P)), some (.dat (.lst (encL Ls))), some (.dat (.bl true)), none]) (wi := iSEQ K (tVar 2)) (g := gName 4) (tt := tYes) (te := tCB (rTUPLE K) (tCons (tVar 4) tNil)) (vs := [4]) (ks := Ls) (enc := fun l => .tup (l.map D.int)) (p := fun _ => true) (f := fun l => .tup (l.map D.int)) (wi_lst (wp_var rfl)) (by simp) (by omega) (fun l hl => wc_name (by simp) rfl ⟨wt_yes, fun _ => wp_cb (wpa_cons (wp_var rfl) wpa_nil) cp_tuple_tup⟩)
      rw [List.filter_eq_self.mpr (fun _ _ => rfl)] at this
      exact this)) wpa_nil) cp_tuple_lst)) (pm_var rfl) hC.cls hC.lt (by show 1 < 900; decide) ?_
    walk_at "fin"
    exact ⟨[alO C P Ls, .dat (.int P), .dat (.lst (encL Ls))], rfl, hk⟩
end Rd
namespace Rd
open PySem PySem.Spec L2 Pw Gn
local macro_rules | `(tactic| walk_at "side") => `(tactic| first | assumption | omega | decide | (unfold CMul; omega) | (unfold CDiv; omega) | (unfold CPow; decide) | (simp; omega) | (simp; done))
local macro_rules | `(tactic| walk_at "rp") => `(tactic| first
  | exact rp_add_int | exact rp_sub | exact rp_eq_int | exact rp_ne_int | exact rp_lt | exact rp_le | exact rp_gt | exact rp_ge
  | exact rp_mod (by walk_at "side") | exact rp_mul (by walk_at "side") | exact rp_fdiv (by walk_at "side") | exact rp_pow (by walk_at "side")
  | exact rp_eq_str | exact rp_ne_str | exact rp_add_str (by walk_at "side") | exact rp_in_sg | exact rp_nin_sg | exact rp_add_tup (by walk_at "side")
  | exact rp_ix_tup (by walk_at "at") | exact rp_ix_lst (by walk_at "at") | exact rp_ix_str (by walk_at "side") (by walk_at "at"))
local macro_rules | `(tactic| walk_at "at") => `(tactic| first | rfl | assumption | (exact atI_nat (by first | rfl | assumption)))
local macro_rules | `(tactic| walk_at "wpa") => `(tactic| first | exact wpa_nil | (apply wpa_cons; (focus walk_at "wp"); walk_at "wpa"))
local macro_rules | `(tactic| walk_at "pl") => `(tactic| first | exact pl_var rfl | (apply pl_fld; (focus walk_at "pl"); (focus assumption); (focus assumption); rfl))
local macro_rules | `(tactic| walk_at "wp") => `(tactic| first
  | assumption
  | exact wp_var rfl | exact wp_int | exact wp_str | exact wp_bl | exact wp_non
  | (apply wp_len_own; (focus walk_at "pl"))
  | (apply wp_op; (focus walk_at "wp"); (focus walk_at "wp"); walk_at "rp")
  | (apply wp_cb; (focus walk_at "wpa"); first | exact cp_int | exact cp_int_bl | exact cp_len_lst | exact cp_len_tup | exact cp_len_str (by walk_at "side") | exact cp_tuple_lst | exact cp_tuple_tup | exact cp_str (by walk_at "side"))
  | (apply wp_tup; (focus walk_at "wpa"); (first | decide | simp))
  | (apply wp_un; (focus walk_at "wp"); exact up_neg)
  | (apply wp_l; walk_at "pl")
  | (apply wp_fld; (focus walk_at "wp"); (focus assumption); (focus assumption); rfl)
  | (apply wp_o; walk_at "wo")
  | (apply wp_notV; walk_at "wp"))
local macro_rules | `(tactic| walk_at "wo") => `(tactic| first
  | (apply wo_lst; (focus walk_at "wpa"); (first | decide | simp))
  | (apply wo_cb; (focus walk_at "wpa"); first | exact co_list_lst | exact co_list_tup | exact co_list_scr))
local macro_rules | `(tactic| walk_at "wt") => `(tactic| first
  | (apply wt_test; walk_at "wp") | (apply wt_tru; walk_at "wp") | (apply wt_B; walk_at "wp") | (apply wt_not; walk_at "wt")
  | (apply wt_and; (focus walk_at "wt"); (intro _; walk_at "wt")) | (apply wt_or; (focus walk_at "wt"); (intro _; walk_at "wt")))
local macro_rules | `(tactic| walk_at "fin") => `(tactic| (try simp only [List.set_cons_zero, List.set_cons_succ]))
local macro_rules | `(tactic| walk_at "lt") => `(tactic| first | decide | (simp only [List.length_cons, List.length_nil]; omega) | (simp; done))
local macro_rules | `(tactic| walk_at "seq") => `(tactic| (refine ws_seq ?_))
local macro_rules | `(tactic| walk_at "set") => `(tactic| (refine ws_set (by walk_at "wp") (by walk_at "lt") (by decide) ?_; walk_at "fin"))
local macro_rules | `(tactic| walk_at "setO") => `(tactic| (refine ws_setO (by walk_at "wo") (by walk_at "lt") (by decide) ?_; walk_at "fin"))
local macro_rules | `(tactic| walk_at "ret") => `(tactic| (refine ws_ret (by walk_at "wp") ?_))
local macro_rules | `(tactic| walk_at "if") => `(tactic| (refine ws_if (by walk_at "wt") ?_))
def ltr (Ls : List (List Int)) (a : Nat) : List Int := Ls.getD a []
/-- the letters share a place -/
def dep (Ls : List (List Int)) (a b : Nat) : Bool := (ltr Ls a).any fun x => decide (x ∈ ltr Ls b)
theorem encL_at {Ls : List (List Int)} {a : Nat} (h : a < Ls.length) : L2.atI (encL Ls) (a : Int) = some (.tup ((ltr Ls a).map D.int)) := atI_nat (by simp [encL, ltr, h])
theorem al_lt {P : Int} {Ls : List (List Int)} : (alF P Ls).lookup ("letters" : PySem.Str) = some (.tup (encL Ls)) := (lookup_ne (by decide +kernel)).trans lookup_eq
theorem al_pl {P : Int} {Ls : List (List Int)} : (alF P Ls).lookup ("places" : PySem.Str) = some (.int P) := lookup_eq
theorem wp_letters {K : PySem.W.Frag} {C : Addr} {δ : Dl} {P : Int} {Ls : List (List Int)} {i : Nat} (hC : AC K C) (h : δ[i]? = some (some (.dat (alD C P Ls)))) : WP K (tFld K (tVar i) ("letters" : PySem.Str)) δ (.tup (encL Ls)) := wp_fld (wp_var h) hC.cls hC.lt al_lt
def spIndep (C : Addr) : FS := pfa (fun a : (Int × List (List Int)) × Nat × Nat => [alD C a.1.1 a.1.2, .int a.2.1, .int a.2.2]) (fun a => a.2.1 < a.1.2.length ∧ a.2.2 < a.1.2.length) (fun a => .bl (!dep a.1.2 a.2.1 a.2.2))
theorem rd_indep {K : PySem.W.Frag} {C : Addr} (hC : AC K C) : ∀ vs H Q E, toSp K (spIndep C) vs H Q E → t_independent K { nx := fun _ H' => Q .non H', rt := Q } (L2.start N_independent vs) H := by
  refine body_of (np := 3) ?_
  rintro xs Φ ⟨⟨⟨P, Ls⟩, a, b⟩, rfl, ⟨ha, hb⟩, hk⟩
  dsimp only at ha hb hk
  refine ⟨rfl, ?_⟩
  show WS K [0, 1, 2] _ [some (.dat (alD C P Ls)), some (.dat (.int (a : Int))), some (.dat (.int (b : Int))), none] _
  walk_at "seq"
  refine ws_for (ds := (ltr Ls a).map D.int) (wi_tup (wp_op (wp_letters hC rfl) (wp_var rfl) (rp_ix_tup (encL_at ha)))) (fun i δ' => (∀ j x, j < i → (ltr Ls a)[j]? = some x → x ∉ ltr Ls b) ∧ ∃ o, δ' = [some (.dat (alD C P Ls)), some (.dat (.int (a : Int))), some (.dat (.int (b : Int))), o]) ⟨fun j x h => by omega, none, rfl⟩ ?_ ?_
  · rintro i d δ' hi ⟨hno, o, rfl⟩
    obtain ⟨x, hx, rfl⟩ : ∃ x, (ltr Ls a)[i]? = some x ∧ d = .int x := by
      rw [List.getElem?_map] at hi
      obtain ⟨x, h1, h2⟩ := Option.map_eq_some_iff.mp hi
      exact ⟨x, h1, h2.symm⟩
    refine wg_name (by walk_at "lt") (by decide) ?_
    walk_at "fin"
    refine ws_if (wt_test (wp_op (wp_var rfl) (wp_op (wp_letters hC rfl) (wp_var rfl) (rp_ix_tup (encL_at hb))) rp_in_tupI)) ?_
    by_cases q : x ∈ ltr Ls b
    · rw [if_pos (decide_eq_true q)]
      refine ws_ret wp_bl ⟨[.dat (alD C P Ls), .dat (.int (a : Int)), .dat (.int (b : Int))], rfl, ?_⟩
      have : dep Ls a b = true := List.any_eq_true.mpr ⟨x, List.mem_of_getElem? hx, decide_eq_true q⟩
      rw [this] at hk
      exact hk
    · rw [if_neg (by simpa using q)]
      refine ws_next ⟨fun j y hj hy => ?_, _, rfl⟩
      by_cases e : j = i
      · subst e; rw [hx] at hy; obtain rfl := Option.some.inj hy; exact q
      · exact hno j y (by omega) hy
  · rintro _ ⟨hno, o, rfl⟩
    refine ws_ret wp_bl ⟨[.dat (alD C P Ls), .dat (.int (a : Int)), .dat (.int (b : Int))], rfl, ?_⟩
    have : dep Ls a b = false := by
      cases q : dep Ls a b with
      | false => rfl
      | true =>
        obtain ⟨x, h1, h2⟩ := List.any_eq_true.mp q
        obtain ⟨j, hj, e⟩ := List.mem_iff_getElem.mp h1
        exact absurd (of_decide_eq_true h2) (hno j x (by simpa using hj) (by rw [List.getElem?_eq_getElem hj, e]))
    rw [this] at hk
    exact hk
def spFree : FS := pfa (fun a : List (List Int) × Nat × Nat => [.lst (encL a.1), .int a.2.1, .int a.2.2]) (fun a => (a.2.1 < a.1.length ∧ a.2.2 < a.1.length) ∧ ∀ l ∈ a.1, l.length ≤ 1000) (fun a => .bl (!dep a.1 a.2.1 a.2.2))
theorem rd_free {K : PySem.W.Frag} : ∀ vs H Q E, toSp K spFree vs H Q E → t_law_free K { nx := fun _ H' => Q .non H', rt := Q } (L2.start N_law_free vs) H := by
  refine body_of (np := 3) ?_
  rintro xs Φ ⟨⟨Ls, a, b⟩, rfl, ⟨⟨ha, hb⟩, hLl⟩, hk⟩
  dsimp only at ha hb hk hLl
  refine ⟨rfl, ?_⟩
  show WS K [0, 1, 2] _ [some (.dat (.lst (encL Ls))), some (.dat (.int (a : Int))), some (.dat (.int (b : Int))), none] _
  have hal : (ltr Ls a).length ≤ 1000 := by
    unfold ltr
    rw [List.getD_eq_getElem?_getD, List.getElem?_eq_getElem ha]
    exact hLl _ (List.getElem_mem ha)
  refine ws_ret (wp_op (wp_cb (wpa_cons (wp_o (wo_lc (ks := ltr Ls a) (enc := D.int) (p := fun x => decide (x ∈ ltr Ls b)) (f := D.int) (wi_tup (wp_op (wp_var rfl) (wp_var rfl) (rp_ix_lst (encL_at ha)))) (by simp) (by omega) fun x hx => wc_name (by simp) rfl ⟨wt_test (wp_op (wp_var rfl) (wp_op (wp_var rfl) (wp_var rfl) (rp_ix_lst (encL_at hb))) rp_in_tupI), fun _ => wp_var rfl⟩)) wpa_nil) cp_len_lst) wp_int rp_eq_int) ?_
  refine ⟨[.dat (.lst (encL Ls)), .dat (.int (a : Int)), .dat (.int (b : Int))], rfl, ?_⟩
  have : decide (((((ltr Ls a).filter fun x => decide (x ∈ ltr Ls b)).map D.int).length : Int) = 0) = !dep Ls a b := by
    rw [List.length_map]
    cases q : dep Ls a b with
    | true =>
      obtain ⟨x, h1, h2⟩ := List.any_eq_true.mp q
      have := List.length_pos_of_mem (List.mem_filter (p := fun x => decide (x ∈ ltr Ls b)) |>.mpr ⟨h1, h2⟩)
      exact decide_eq_false (by omega)
    | false =>
      have : (ltr Ls a).filter (fun x => decide (x ∈ ltr Ls b)) = [] := by
        apply List.filter_eq_nil_iff.mpr
        intro x hx h
        have : dep Ls a b = true := List.any_eq_true.mpr ⟨x, hx, h⟩
        rw [q] at this; cases this
      rw [this]; rfl
  rw [this]
  exact hk
/-! ### drawn alphabets and words -/
theorem insA_len {k : Int} : ∀ {xs : List Int}, (insA k xs).length ≤ xs.length + 1
  | [] => by simp [insA]
  | x :: xs => by
    unfold insA
    split
    · simp
    · split
      · simp
      · have := insA_len (k := k) (xs := xs)
        simp only [List.length_cons]
        omega
theorem sset_len {ns : List Int} : (sset ns).length ≤ ns.length := by
  induction ns with
  | nil => exact Nat.le_refl _
  | cons n ns ih =>
    have := insA_len (k := n) (xs := sset ns)
    show (insA n (sset ns)).length ≤ ns.length + 1
    omega
def spAlpha : FS := fun xs Φ => ∃ (ms : List Int) (p m : Int), xs = [ownI ms, .dat (.int p), .dat (.int m)] ∧ Dr ms ∧ 1 ≤ p ∧ p ≤ 4 ∧ 1 ≤ m ∧ m ≤ 6 ∧
  ∀ (ms' : List Int) (P : Int) (Ls : List (List Int)), Dr ms' → OkL P Ls → P ≤ p → (Ls.length : Int) ≤ m → Φ (.dat (.tup [.int P, .lst (encL Ls)])) [ownI ms', .dat (.int p), .dat (.int m)]
def ownL (Ls : List (List Int)) : OV := .lst ((encL Ls).map OV.dat)
theorem rd_alpha {K : PySem.W.Frag} : ∀ vs H Q E, toSp K spAlpha vs H Q E → t_law_alphabet K (toSp K spTake) { nx := fun _ H' => Q .non H', rt := Q } (L2.start N_law_alphabet vs) H := by
  refine body_of (np := 3) ?_
  rintro xs Φ ⟨ms, p, m, rfl, hd, p1, p2, m1, m2, hk⟩
  refine ⟨rfl, ?_⟩
  show WS K [0, 1, 2] _ [some (ownI ms), some (.dat (.int p)), some (.dat (.int m)), none, none, none, none, none, none] _
  walk_at "seq"
  refine ws_setE (we_op (we_p wp_int ⟨_, rfl, we_take rfl (wp_var rfl) (by omega) hd fun P0 ms1 a0 a1 hd1 => ⟨_, rfl, _, rp_add_int, by simp, by decide, ?_⟩⟩))
  walk_at "fin"
  generalize hP : 1 + P0 = P
  walk_at "seq"
  walk_at "setO"
  walk_at "seq"
  refine ws_forRg (we_op (we_p wp_int ⟨_, rfl, we_take rfl (wp_var rfl) (by omega) hd1 fun n0 ms2 b0 b1 hd2 => ⟨_, rfl, _, rp_add_int, 1 + n0, rfl, by omega, by omega, ?_⟩⟩))
  walk_at "fin"
  refine ws_for wi_itr (fun i δ' => ∃ (ms : List Int) (Ls : List (List Int)) (o5 o6 o7 : Option OV), Dr ms ∧ Ls.length = i ∧ (∀ l ∈ Ls, OkA P l) ∧ δ' = [some (ownI ms), some (.dat (.int p)), some (.dat (.int m)), some (.dat (.int P)), some (ownL Ls), o5, o6, o7, none]) ⟨ms2, [], none, none, none, hd2, rfl, by simp, rfl⟩ ?_ ?_
  · rintro i d δ' hi ⟨ms, Ls, o5, o6, o7, hd, hlen, hL, rfl⟩
    have hic : i < (1 + n0).toNat := by have := get_lt hi; rwa [rgD_length] at this
    rw [rgD_get hic] at hi
    cases hi
    refine wg_name (by walk_at "lt") (by decide) ?_
    walk_at "fin"
    walk_at "seq"
    refine ws_setE (we_op (we_p (wp_o (ds := [1, 1, 1, 2, 2, 3].map D.int) (wo_lst (wpa_cons wp_int (wpa_cons wp_int (wpa_cons wp_int (wpa_cons wp_int (wpa_cons wp_int (wpa_cons wp_int wpa_nil)))))) (by simp))) ⟨_, rfl, we_take rfl wp_int (by decide) hd fun v ms3 v0 v1 hd3 => ?_⟩))
    obtain ⟨v, rfl⟩ := Int.eq_ofNat_of_zero_le v0
    obtain ⟨s, hs, s1, s3⟩ : ∃ s : Int, (([1, 1, 1, 2, 2, 3] : List Int).map D.int)[v]? = some (.int s) ∧ 1 ≤ s ∧ s ≤ 3 := by
      have hv : v = 0 ∨ v = 1 ∨ v = 2 ∨ v = 3 ∨ v = 4 ∨ v = 5 := by omega
      rcases hv with rfl | rfl | rfl | rfl | rfl | rfl
      · exact ⟨1, rfl, by decide, by decide⟩
      · exact ⟨1, rfl, by decide, by decide⟩
      · exact ⟨1, rfl, by decide, by decide⟩
      · exact ⟨2, rfl, by decide, by decide⟩
      · exact ⟨2, rfl, by decide, by decide⟩
      · exact ⟨3, rfl, by decide, by decide⟩
    refine ⟨_, rfl, _, rp_ix_lst (atI_nat hs), by simp, by decide, ?_⟩
    walk_at "fin"
    walk_at "seq"
    refine ws_setE (we_lc (ds := rgD 0 s.toNat) (wi_rng1 (wpa_cons (wp_var rfl) wpa_nil) (by omega) (by omega)) (by rw [rgD_length]; omega) (fun k acc δ' => ∃ (ms : List Int) (ns : List Int), Dr ms ∧ ns.length = k ∧ (∀ x ∈ ns, 0 ≤ x ∧ x < P) ∧ acc = (ns.map D.int).map OV.dat ∧ δ' = [some (ownI ms), some (.dat (.int p)), some (.dat (.int m)), some (.dat (.int P)), some (ownL Ls), some (.dat (.int (0 + (i : Int)))), some (.dat (.int s)), o7, none]) ?_ ?_ ?_ ?_)
    · exact ⟨ms3, [], hd3, rfl, by simp, rfl, rfl⟩
    · rintro k acc δ' ⟨ms, ns, _, _, _, _, rfl⟩
      exact ⟨rfl, by simp⟩
    · rintro k d acc δ' hk2 ⟨ms, ns, hd, hns, hnb, rfl, rfl⟩
      have hkc : k < s.toNat := by have := get_lt hk2; rwa [rgD_length] at this
      rw [rgD_get hkc] at hk2
      cases hk2
      refine wc_name (by simp) rfl (wt_p wt_yes ?_)
      rw [if_pos rfl]
      walk_at "fin"
      refine we_take rfl (wp_var rfl) (by omega) hd fun x ms4 x0 x1 hd4 => ⟨ms4, ns ++ [x], hd4, by simp [hns], ?_, by simp, rfl⟩
      intro y hy
      rcases List.mem_append.mp hy with h | h
      · exact hnb y h
      · rw [List.mem_singleton.mp h]; exact ⟨x0, x1⟩
    · rintro acc δ' ⟨ms, ns, hd, hns, hnb, rfl, rfl⟩
      rw [rgD_length] at hns
      refine ⟨by simp, by decide, ?_⟩
      walk_at "fin"
      refine ws_fz 7 (d := .lst (ns.map D.int)) rfl fz_dat ?_
      walk_at "fin"
      have hsl : (sset ns).length ≤ 50 := by
        have := sset_len (ns := ns)
        omega
      refine ws_drop (we_append (pm_var rfl) (d := .tup ((sset ns).map D.int)) (wp_cb (wpa_cons (wp_o (wo_sortedSET (wp_var rfl) (by omega))) wpa_nil) cp_tuple_lst) (by simp [encL]; omega) ?_)
      walk_at "fin"
      refine ⟨ms, Ls ++ [sset ns], some (.dat (.int (0 + (i : Int)))), some (.dat (.int s)), some (.dat (.lst (ns.map D.int))), hd, by simp [hlen], ?_, ?_⟩
      · intro l hl
        rcases List.mem_append.mp hl with h | h
        · exact hL l h
        · rw [List.mem_singleton.mp h]
          refine ⟨fun e => ?_, sset_asc, fun x hx => hnb x (sset_mem.mp hx), hsl⟩
          have h1 : ns ≠ [] := fun q => by rw [q] at hns; simp at hns; omega
          obtain ⟨x, hx⟩ := List.exists_mem_of_ne_nil ns h1
          have := sset_mem.mpr hx
          rw [e] at this; simp at this
      · have : ownL (Ls ++ [sset ns]) = .lst ((encL Ls).map OV.dat ++ [.dat (.tup ((sset ns).map D.int))]) := by simp [ownL, encL]
        rw [this]
  · rintro _ ⟨ms, Ls, o5, o6, o7, hd, hlen, hL, rfl⟩
    rw [rgD_length] at hlen
    refine ws_fz 4 (d := .lst (encL Ls)) rfl fz_dat ?_
    walk_at "fin"
    refine ws_ret (wp_tup (wpa_cons (wp_var rfl) (wpa_cons (wp_var rfl) wpa_nil)) (by simp)) ⟨[ownI ms, .dat (.int p), .dat (.int m)], rfl, ?_⟩
    exact hk ms P Ls hd ⟨by omega, by omega, by omega, by omega, hL⟩ (by omega) (by omega)
def WdOk (n : Nat) (w : List Int) : Prop := ∀ x ∈ w, 0 ≤ x ∧ x < n
def spWord : FS := fun xs Φ => ∃ (ms : List Int) (n : Nat) (m : Int), xs = [ownI ms, .dat (.int n), .dat (.int m)] ∧ Dr ms ∧ 1 ≤ n ∧ 0 ≤ m ∧ m ≤ 100 ∧
  ∀ (ms' : List Int) (w : List Int), Dr ms' → WdOk n w → (w.length : Int) ≤ m → Φ (.dat (.tup (w.map D.int))) [ownI ms', .dat (.int n), .dat (.int m)]
theorem rd_word {K : PySem.W.Frag} : ∀ vs H Q E, toSp K spWord vs H Q E → t_law_word K (toSp K spTake) { nx := fun _ H' => Q .non H', rt := Q } (L2.start N_law_word vs) H := by
  refine body_of (np := 3) ?_
  rintro xs Φ ⟨ms, n, m, rfl, hd, n1, m0, m1, hk⟩
  refine ⟨rfl, ?_⟩
  show WS K [0, 1, 2] _ [some (ownI ms), some (.dat (.int (n : Int))), some (.dat (.int m)), none] _
  refine ws_retE (we_cb (wa_val (we_dat (we_lcRg (we_take rfl (wp_op (wp_var rfl) wp_int rp_add_int) (by omega) hd fun v ms1 v0 v1 hd1 => ⟨v, rfl, by omega, by omega, ?_⟩)))))
  walk_at "fin"
  refine we_lc wi_itr (by rw [rgD_length]; omega) (fun k acc δ' => ∃ (ms : List Int) (ns : List Int), Dr ms ∧ ns.length = k ∧ WdOk n ns ∧ acc = (ns.map D.int).map OV.dat ∧ δ' = [some (ownI ms), some (.dat (.int (n : Int))), some (.dat (.int m)), none]) ?_ ?_ ?_ ?_
  · exact ⟨ms1, [], hd1, rfl, fun x hx => by simp at hx, rfl, rfl⟩
  · rintro k acc δ' ⟨ms, ns, _, _, _, _, rfl⟩
    exact ⟨rfl, by simp⟩
  · rintro k d acc δ' hk2 ⟨ms, ns, hd, hns, hnb, rfl, rfl⟩
    have hkc : k < v.toNat := by have := get_lt hk2; rwa [rgD_length] at this
    rw [rgD_get hkc] at hk2
    cases hk2
    refine wc_name (by simp) rfl (wt_p wt_yes ?_)
    rw [if_pos rfl]
    walk_at "fin"
    refine we_take rfl (wp_var rfl) (by omega) hd fun x ms4 x0 x1 hd4 => ⟨ms4, ns ++ [x], hd4, by simp [hns], ?_, by simp, rfl⟩
    intro y hy
    rcases List.mem_append.mp hy with h | h
    · exact hnb y h
    · rw [List.mem_singleton.mp h]; exact ⟨x0, x1⟩
  · rintro acc δ' ⟨ms, ns, hd, hns, hnb, rfl, rfl⟩
    rw [rgD_length] at hns
    exact ⟨.lst (ns.map D.int), fz_dat, wa_nil ⟨[.lst (ns.map D.int)], rfl, _, cp_tuple_lst, [ownI ms, .dat (.int (n : Int)), .dat (.int m)], rfl, hk ms ns hd hnb (by omega)⟩⟩
end Rd
namespace Rd
open PySem PySem.Spec L2 Pw Gn
local macro_rules | `(tactic| walk_at "side") => `(tactic| first | assumption | omega | decide | (unfold CMul; omega) | (unfold CDiv; omega) | (unfold CPow; decide) | (simp; omega) | (simp; done))
local macro_rules | `(tactic| walk_at "rp") => `(tactic| first
  | exact rp_add_int | exact rp_sub | exact rp_eq_int | exact rp_ne_int | exact rp_lt | exact rp_le | exact rp_gt | exact rp_ge
  | exact rp_mod (by walk_at "side") | exact rp_mul (by walk_at "side") | exact rp_fdiv (by walk_at "side") | exact rp_pow (by walk_at "side")
  | exact rp_eq_str | exact rp_ne_str | exact rp_add_str (by walk_at "side") | exact rp_in_sg | exact rp_nin_sg | exact rp_add_tup (by walk_at "side")
  | exact rp_ix_tup (by walk_at "at") | exact rp_ix_lst (by walk_at "at") | exact rp_ix_str (by walk_at "side") (by walk_at "at"))
local macro_rules | `(tactic| walk_at "at") => `(tactic| first | rfl | assumption | (exact atI_nat (by first | rfl | assumption)))
local macro_rules | `(tactic| walk_at "wpa") => `(tactic| first | exact wpa_nil | (apply wpa_cons; (focus walk_at "wp"); walk_at "wpa"))
local macro_rules | `(tactic| walk_at "pl") => `(tactic| first | exact pl_var rfl | (apply pl_fld; (focus walk_at "pl"); (focus assumption); (focus assumption); rfl))
local macro_rules | `(tactic| walk_at "wp") => `(tactic| first
  | assumption
  | exact wp_var rfl | exact wp_int | exact wp_str | exact wp_bl | exact wp_non
  | (apply wp_len_own; (focus walk_at "pl"))
  | (apply wp_op; (focus walk_at "wp"); (focus walk_at "wp"); walk_at "rp")
  | (apply wp_cb; (focus walk_at "wpa"); first | exact cp_int | exact cp_int_bl | exact cp_len_lst | exact cp_len_tup | exact cp_len_str (by walk_at "side") | exact cp_tuple_lst | exact cp_tuple_tup | exact cp_str (by walk_at "side"))
  | (apply wp_tup; (focus walk_at "wpa"); (first | decide | simp))
  | (apply wp_un; (focus walk_at "wp"); exact up_neg)
  | (apply wp_l; walk_at "pl")
  | (apply wp_fld; (focus walk_at "wp"); (focus assumption); (focus assumption); rfl)
  | (apply wp_o; walk_at "wo")
  | (apply wp_notV; walk_at "wp"))
local macro_rules | `(tactic| walk_at "wo") => `(tactic| first
  | (apply wo_lst; (focus walk_at "wpa"); (first | decide | simp))
  | (apply wo_cb; (focus walk_at "wpa"); first | exact co_list_lst | exact co_list_tup | exact co_list_scr))
local macro_rules | `(tactic| walk_at "wt") => `(tactic| first
  | (apply wt_test; walk_at "wp") | (apply wt_tru; walk_at "wp") | (apply wt_B; walk_at "wp") | (apply wt_not; walk_at "wt")
  | (apply wt_and; (focus walk_at "wt"); (intro _; walk_at "wt")) | (apply wt_or; (focus walk_at "wt"); (intro _; walk_at "wt")))
local macro_rules | `(tactic| walk_at "fin") => `(tactic| (try simp only [List.set_cons_zero, List.set_cons_succ]))
local macro_rules | `(tactic| walk_at "lt") => `(tactic| first | decide | (simp only [List.length_cons, List.length_nil]; omega) | (simp; done))
local macro_rules | `(tactic| walk_at "seq") => `(tactic| (refine ws_seq ?_))
local macro_rules | `(tactic| walk_at "set") => `(tactic| (refine ws_set (by walk_at "wp") (by walk_at "lt") (by decide) ?_; walk_at "fin"))
local macro_rules | `(tactic| walk_at "setO") => `(tactic| (refine ws_setO (by walk_at "wo") (by walk_at "lt") (by decide) ?_; walk_at "fin"))
local macro_rules | `(tactic| walk_at "ret") => `(tactic| (refine ws_ret (by walk_at "wp") ?_))
local macro_rules | `(tactic| walk_at "if") => `(tactic| (refine ws_if (by walk_at "wt") ?_))
/-! ### the order of events -/
inductive Bel (dp : Nat → Nat → Bool) : Nat → Nat → Prop
  | refl (i : Nat) : Bel dp i i
  | step {i j k : Nat} : Bel dp i j → j < k → dp j k = true → Bel dp i k
theorem Bel.le {dp : Nat → Nat → Bool} {i k : Nat} (h : Bel dp i k) : i ≤ k := by
  induction h with
  | refl => exact Nat.le_refl _
  | step _ hj _ ih => omega
theorem Bel.right {dp : Nat → Nat → Bool} {i k : Nat} : Bel dp i k ↔ i = k ∨ ∃ j, j < k ∧ dp j k = true ∧ Bel dp i j := by
  constructor
  · intro h
    cases h with
    | refl => exact .inl rfl
    | step a b c => exact .inr ⟨_, b, c, a⟩
  · rintro (rfl | ⟨j, a, b, c⟩)
    · exact .refl _
    · exact .step c a b
theorem Bel.trans {dp : Nat → Nat → Bool} {i j k : Nat} (h : Bel dp i j) (g : Bel dp j k) : Bel dp i k := by
  induction g with
  | refl => exact h
  | step _ a b ih => exact .step ih a b
theorem Bel.left {dp : Nat → Nat → Bool} {i k : Nat} : Bel dp i k ↔ i = k ∨ ∃ j, i < j ∧ dp i j = true ∧ Bel dp j k := by
  constructor
  · intro h
    induction h with
    | refl => exact .inl rfl
    | @step j k h hj hd ih =>
      rcases ih with rfl | ⟨m, a, b, c⟩
      · exact .inr ⟨k, hj, hd, .refl _⟩
      · exact .inr ⟨m, a, b, .step c hj hd⟩
  · rintro (rfl | ⟨j, a, b, c⟩)
    · exact .refl _
    · exact Bel.trans (.step (.refl _) a b) c
noncomputable def bel (dp : Nat → Nat → Bool) (i k : Nat) : Bool := @decide (Bel dp i k) (Classical.propDecidable _)
theorem bel_iff {dp : Nat → Nat → Bool} {i k : Nat} : bel dp i k = true ↔ Bel dp i k := by unfold bel; exact @decide_eq_true_iff _ (Classical.propDecidable _)
def dp (Ls : List (List Int)) (w : List Nat) (j k : Nat) : Bool := dep Ls (w.getD j 0) (w.getD k 0)
def natD (w : List Nat) : List D := w.map fun (x : Nat) => D.int (x : Int)
def wD (w : List Nat) : D := .tup (natD w)
theorem natD_eq {w : List Nat} : natD w = (w.map fun (x : Nat) => (x : Int)).map D.int := by simp [natD]
theorem nat_at {w : List Nat} {i : Nat} (h : i < w.length) : L2.atI (natD w) (i : Int) = some (.int ((w.getD i 0 : Nat) : Int)) := atI_nat (by simp [natD, h])
theorem range_set {α : Type} {n i : Nat} {f : Nat → α} {v : α} : ((List.range n).map f).set i v = (List.range n).map fun a => if a = i then v else f a := by
  apply List.ext_getElem?
  intro j
  by_cases hj : j < n
  · by_cases e : j = i
    · subst e
      rw [List.getElem?_set_self (by simpa using hj)]; simp [hj]
    · rw [List.getElem?_set_ne (fun q => e q.symm)]; simp [hj, e]
  · rw [List.getElem?_eq_none (by simp; omega), List.getElem?_eq_none (by simp; omega)]
theorem range_map_get {α : Type} {n i : Nat} {f : Nat → α} (h : i < n) : ((List.range n).map f)[i]? = some (f i) := by simp [h]
def row (n : Nat) (bm : Nat → Nat → Bool) (i : Nat) : OV := .lst ((List.range n).map fun k => .dat (.bl (bm i k)))
def mat (n : Nat) (bm : Nat → Nat → Bool) : OV := .lst ((List.range n).map (row n bm))
def matD (n : Nat) (bm : Nat → Nat → Bool) : D := .lst ((List.range n).map fun i => .lst ((List.range n).map fun k => .bl (bm i k)))
theorem fzL_map {f : Nat → OV} {g : Nat → D} (h : ∀ i, (f i).fz = some (g i)) : ∀ l : List Nat, OV.fzL (l.map f) = some (l.map g)
  | [] => rfl
  | x :: l => by simp [OV.fzL, h x, fzL_map h l]
theorem row_fz {n : Nat} {bm : Nat → Nat → Bool} {i : Nat} : (row n bm i).fz = some (.lst ((List.range n).map fun k => .bl (bm i k))) := by
  simp only [row, OV.fz, fzL_map (f := fun k => OV.dat (.bl (bm i k))) (g := fun k => D.bl (bm i k)) (fun _ => rfl)]; rfl
theorem mat_fz {n : Nat} {bm : Nat → Nat → Bool} : (mat n bm).fz = some (matD n bm) := by
  simp only [mat, OV.fz, fzL_map (fun i => row_fz (n := n) (bm := bm) (i := i))]; rfl
theorem mat_set {n i k : Nat} {bm : Nat → Nat → Bool} : OV.lst (((List.range n).map (row n bm)).set i (.lst (((List.range n).map fun k => OV.dat (.bl (bm i k))).set k (.dat (.bl true))))) = mat n fun a b => if a = i ∧ b = k then true else bm a b := by
  unfold mat
  rw [range_set]
  congr 1
  apply List.map_congr_left
  intro a _
  by_cases e : a = i
  · subst e
    rw [if_pos rfl, range_set]
    unfold row
    congr 1
    apply List.map_congr_left
    intro b _
    by_cases q : b = k <;> simp [q]
  · rw [if_neg e]
    unfold row
    congr 1
    apply List.map_congr_left
    intro b _
    simp [e]
theorem mat_congr {n : Nat} {f g : Nat → Nat → Bool} (h : ∀ i k, i < n → k < n → f i k = g i k) : mat n f = mat n g := by
  unfold mat row
  congr 1
  apply List.map_congr_left
  intro i hi
  congr 1
  apply List.map_congr_left
  intro k hk
  rw [h i k (List.mem_range.mp hi) (List.mem_range.mp hk)]
def InW (n : Nat) (w : List Nat) : Prop := ∀ x ∈ w, x < n
theorem InW.at {n : Nat} {w : List Nat} (h : InW n w) {i : Nat} (hi : i < w.length) : w.getD i 0 < n := by
  rw [List.getD_eq_getElem?_getD, List.getElem?_eq_getElem hi]
  exact h _ (List.getElem_mem hi)
def spBelow : FS := pfa (fun a : List (List Int) × List Nat => [.lst (encL a.1), wD a.2]) (fun a => InW a.1.length a.2 ∧ a.2.length ≤ 200 ∧ ∀ l ∈ a.1, l.length ≤ 1000) (fun a => matD a.2.length (bel (dp a.1 a.2)))
theorem wp_free {K : PySem.W.Frag} {δ : Dl} {t1 t2 t3 : TE} {Ls : List (List Int)} {a b : Nat} (h1 : WP K t1 δ (.lst (encL Ls))) (h2 : WP K t2 δ (.int a)) (h3 : WP K t3 δ (.int b)) (ha : a < Ls.length) (hb : b < Ls.length) (hl : ∀ l ∈ Ls, l.length ≤ 1000) : WP K (tCall (toSp K spFree) [] E0 (tCons t1 (tCons t2 (tCons t3 tNil)))) δ (.bl (!dep Ls a b)) := wp_callA (Ls, a, b) (wpa_cons h1 (wpa_cons h2 (wpa_cons h3 wpa_nil))) ⟨⟨ha, hb⟩, hl⟩
theorem rd_below {K : PySem.W.Frag} : ∀ vs H Q E, toSp K spBelow vs H Q E → t_law_below K (toSp K spFree) { nx := fun _ H' => Q .non H', rt := Q } (L2.start N_law_below vs) H := by
  refine body_of (np := 2) ?_
  rintro xs Φ ⟨⟨Ls, w⟩, rfl, ⟨hw, hl, hLl⟩, hk⟩
  dsimp only at hw hl hk hLl
  refine ⟨rfl, ?_⟩
  show WS K [0, 1] _ [some (.dat (.lst (encL Ls))), some (.dat (wD w)), none, none, none, none, none] _
  have hwl : (natD w).length = w.length := by simp [natD]
  walk_at "seq"
  refine ws_set (d := .int (w.length : Nat)) ((wp_cb (wpa_cons (wp_var rfl) wpa_nil) cp_len_tup).to (by rw [hwl])) (by walk_at "lt") (by decide) ?_
  walk_at "fin"
  generalize hn : w.length = n at *
  walk_at "seq"
  let δ0 : Dl := [some (.dat (.lst (encL Ls))), some (.dat (wD w)), some (.dat (.int (n : Int))), none, none, none, none]
  refine ws_setE (we_lc (ds := rgD 0 n) (wi_rng1 (j := (n : Int)) (wpa_cons (wp_var rfl) wpa_nil) (by omega) (by omega)) (by rw [rgD_length]; omega) (fun i acc δ' => acc = (List.range i).map (row n fun a b => decide (a = b)) ∧ i ≤ n ∧ δ' = δ0) ⟨rfl, Nat.zero_le _, rfl⟩ ?_ ?_ ?_)
  · rintro i acc δ' ⟨_, _, rfl⟩
    exact ⟨rfl, by simp [δ0]⟩
  · rintro i d acc δ' hi ⟨rfl, hin, rfl⟩
    have hic : i < n := by have := get_lt hi; rwa [rgD_length] at this
    rw [rgD_get hic] at hi
    cases hi
    refine wc_name (by simp) rfl (wt_p wt_yes ?_)
    rw [if_pos rfl]
    refine we_o (wo_lc (ks := List.range n) (enc := fun (k : Nat) => D.int (0 + (k : Int))) (p := fun _ => true) (f := fun k => .bl (decide (i = k))) (wi_rng1 (j := (n : Int)) (wpa_cons (wp_var rfl) wpa_nil) (by omega) (by omega)) (by simp [δ0]) (by simp; omega) fun k hk => wc_name (by simp) rfl ⟨wt_yes, fun _ => (wp_op (wp_var rfl) (wp_var rfl) rp_eq_int).to (by
      congr 1
      exact decide_eq_decide.mpr (by omega))⟩) ⟨?_, hic, rfl⟩
    rw [List.filter_eq_self.mpr (fun _ _ => rfl), List.range_succ, List.map_append, List.map_singleton, List.map_map]
    rfl
  · rintro acc δ' ⟨rfl, _, rfl⟩
    rw [rgD_length]
    refine ⟨by simp [δ0], by decide, ?_⟩
    show WS K [0, 1] _ [some (.dat (.lst (encL Ls))), some (.dat (wD w)), some (.dat (.int (n : Int))), none, none, some (mat n fun a b => decide (a = b)), none] _
    walk_at "seq"
    refine ws_for (ds := rgD 0 n) (wi_rng1 (j := (n : Int)) (wpa_cons (wp_var rfl) wpa_nil) (by omega) (by omega)) (fun k δ' => ∃ (bm : Nat → Nat → Bool) (o3 o4 o6 : Option OV), (∀ i c, i < n → c < n → bm i c = if c < k then bel (dp Ls w) i c else decide (i = c)) ∧ δ' = [some (.dat (.lst (encL Ls))), some (.dat (wD w)), some (.dat (.int (n : Int))), o3, o4, some (mat n bm), o6]) ⟨_, none, none, none, fun i c _ _ => by simp, rfl⟩ ?_ ?_
    · rintro k d δ' hi ⟨bm, o3, o4, o6, hbm, rfl⟩
      have hkc : k < n := by have := get_lt hi; rwa [rgD_length] at this
      rw [rgD_get hkc] at hi
      cases hi
      refine wg_name (by walk_at "lt") (by decide) ?_
      walk_at "fin"
      rw [Int.zero_add]
      let T : Nat → Nat → Prop := fun i j => i = k ∨ ∃ j', j' < j ∧ dp Ls w j' k = true ∧ Bel (dp Ls w) i j'
      refine ws_for (ds := rgD 0 k) (wi_rng1 (j := (k : Int)) (wpa_cons (wp_var rfl) wpa_nil) (by omega) (by omega)) (fun j δ' => ∃ (bm : Nat → Nat → Bool) (o3 o6 : Option OV), (∀ i c, i < n → c < n → c ≠ k → bm i c = if c < k then bel (dp Ls w) i c else decide (i = c)) ∧ (∀ i, i < n → (bm i k = true ↔ T i j)) ∧ δ' = [some (.dat (.lst (encL Ls))), some (.dat (wD w)), some (.dat (.int (n : Int))), o3, some (.dat (.int (k : Int))), some (mat n bm), o6]) ⟨bm, o3, o6, fun i c hi hc _ => hbm i c hi hc, fun i hi => ?_, rfl⟩ ?_ ?_
      · rw [hbm i k hi hkc, if_neg (by omega), decide_eq_true_iff]
        exact ⟨fun h => .inl h, fun h => h.elim id fun ⟨j', h, _⟩ => by omega⟩
      · rintro j d δ' hi ⟨bm, o3, o6, hb1, hb2, rfl⟩
        have hjk : j < k := by have := get_lt hi; rwa [rgD_length] at this
        rw [rgD_get hjk] at hi
        cases hi
        refine wg_name (by walk_at "lt") (by decide) ?_
        walk_at "fin"
        rw [Int.zero_add]
        have hjn : j < n := by omega
        refine ws_if (wt_not (wt_tru (wp_free (wp_var rfl) (wp_op (wp_var rfl) (wp_var rfl) (rp_ix_tup (nat_at (by omega)))) (wp_op (wp_var rfl) (wp_var rfl) (rp_ix_tup (nat_at (by omega)))) (hw.at (by omega)) (hw.at (by omega)) hLl))) ?_
        rw [Bool.not_not]
        cases hdp : dep Ls (w.getD j 0) (w.getD k 0) with
        | false =>
          rw [if_neg (by simp)]
          refine ws_next ⟨bm, _, _, hb1, fun i hi => (hb2 i hi).trans ?_, rfl⟩
          constructor
          · rintro (h | ⟨j', a, b, c⟩)
            · exact .inl h
            · exact .inr ⟨j', by omega, b, c⟩
          · rintro (h | ⟨j', a, b, c⟩)
            · exact .inl h
            · refine .inr ⟨j', ?_, b, c⟩
              by_cases e : j' = j
              · subst e; rw [show dp Ls w j' k = false from hdp] at b; cases b
              · omega
        | true =>
          rw [if_pos rfl]
          have hdp' : dp Ls w j k = true := hdp
          refine ws_for (ds := rgD 0 n) (wi_rng1 (j := (n : Int)) (wpa_cons (wp_var rfl) wpa_nil) (by omega) (by omega)) (fun i0 δ' => ∃ (bm : Nat → Nat → Bool) (o6 : Option OV), (∀ i c, i < n → c < n → c ≠ k → bm i c = if c < k then bel (dp Ls w) i c else decide (i = c)) ∧ (∀ i, i < n → (bm i k = true ↔ if i < i0 then T i (j + 1) else T i j)) ∧ δ' = [some (.dat (.lst (encL Ls))), some (.dat (wD w)), some (.dat (.int (n : Int))), some (.dat (.int (j : Int))), some (.dat (.int (k : Int))), some (mat n bm), o6]) ⟨bm, o6, hb1, fun i hi => by simpa using hb2 i hi, rfl⟩ ?_ ?_
          · rintro i0 d δ' hi ⟨bm, o6, hb1, hb2, rfl⟩
            have hi0 : i0 < n := by have := get_lt hi; rwa [rgD_length] at this
            rw [rgD_get hi0] at hi
            cases hi
            refine wg_name (by walk_at "lt") (by decide) ?_
            walk_at "fin"
            rw [Int.zero_add]
            have place : PM K (tOp (rIX K) (tVar 5) (tVar 6)) [some (.dat (.lst (encL Ls))), some (.dat (wD w)), some (.dat (.int (n : Int))), some (.dat (.int (j : Int))), some (.dat (.int (k : Int))), some (mat n bm), some (.dat (.int (i0 : Int)))] (row n bm i0) _ := pm_ix (pm_var rfl) (pl_var rfl) (ixN_nat (by simpa using hi0)) (range_map_get hi0)
            refine ws_if (wt_tru (wp_ix_own (j := j) (pm_pl place) (wp_var rfl) (ixN_nat (by simpa using hjn)) (range_map_get hjn))) ?_
            have hbj : bm i0 j = bel (dp Ls w) i0 j := by rw [hb1 i0 j hi0 hjn (by omega), if_pos hjk]
            cases hv : bm i0 j with
            | false =>
              rw [if_neg (by simp)]
              refine ws_next ⟨bm, _, hb1, fun i hi => (hb2 i hi).trans ?_, rfl⟩
              by_cases e : i = i0
              · subst e
                rw [if_neg (by omega), if_pos (by omega)]
                constructor
                · rintro (h | ⟨j', a, b, c⟩)
                  · exact .inl h
                  · exact .inr ⟨j', by omega, b, c⟩
                · rintro (h | ⟨j', a, b, c⟩)
                  · exact .inl h
                  · refine .inr ⟨j', ?_, b, c⟩
                    by_cases e : j' = j
                    · subst e; rw [hbj] at hv; rw [bel_iff.mpr c] at hv; cases hv
                    · omega
              · by_cases q : i < i0
                · rw [if_pos q, if_pos (by omega)]
                · rw [if_neg q, if_neg (by omega)]
            | true =>
              rw [if_pos rfl]
              refine ws_setix (j := k) wp_bl place (wp_var rfl) (ixN_nat (by simpa using hkc)) ⟨_, range_map_get hkc⟩ ?_
              walk_at "fin"
              rw [mat_set]
              refine ⟨_, _, fun i c hi hc hck => ?_, fun i hi => ?_, rfl⟩
              · show (if i = i0 ∧ c = k then true else bm i c) = _
                rw [if_neg (fun h => hck h.2)]; exact hb1 i c hi hc hck
              · show (if i = i0 ∧ k = k then true else bm i k) = true ↔ _
                by_cases e : i = i0
                · subst e
                  rw [if_pos ⟨rfl, rfl⟩, if_pos (by omega)]
                  exact ⟨fun _ => .inr ⟨j, by omega, hdp', bel_iff.mp (by rw [← hbj]; exact hv)⟩, fun _ => rfl⟩
                · rw [if_neg (fun h => e h.1)]
                  refine (hb2 i hi).trans ?_
                  by_cases q : i < i0
                  · rw [if_pos q, if_pos (by omega)]
                  · rw [if_neg q, if_neg (by omega)]
          · rintro _ ⟨bm, o6, hb1, hb2, rfl⟩
            rw [rgD_length] at hb2
            exact ⟨bm, _, _, hb1, fun i hi => (hb2 i hi).trans (by rw [if_pos hi]), rfl⟩
      · rintro _ ⟨bm, o3, o6, hb1, hb2, rfl⟩
        rw [rgD_length] at hb2
        refine ⟨bm, _, _, _, fun i c hi hc => ?_, rfl⟩
        by_cases e : c = k
        · subst e
          rw [if_pos (by omega)]
          apply Bool.eq_iff_iff.mpr
          rw [hb2 i hi, bel_iff, Bel.right]
        · rw [hb1 i c hi hc e]
          by_cases q : c < k
          · rw [if_pos q, if_pos (by omega)]
          · rw [if_neg q, if_neg (by omega)]
    · rintro _ ⟨bm, o3, o4, o6, hbm, rfl⟩
      rw [rgD_length] at hbm
      have e : mat n bm = mat n (bel (dp Ls w)) := mat_congr fun i c hi hc => by rw [hbm i c hi hc, if_pos hc]
      rw [e]
      refine ws_fz 5 (d := matD n (bel (dp Ls w))) rfl mat_fz ?_
      walk_at "fin"
      exact ws_ret (wp_var rfl) ⟨[.dat (.lst (encL Ls)), .dat (wD w)], rfl, hk⟩
end Rd
namespace Rd
open PySem PySem.Spec L2 Pw Gn
local macro_rules | `(tactic| walk_at "side") => `(tactic| first | assumption | omega | decide | (unfold CMul; omega) | (unfold CDiv; omega) | (unfold CPow; decide) | (simp; omega) | (simp; done))
local macro_rules | `(tactic| walk_at "rp") => `(tactic| first
  | exact rp_add_int | exact rp_sub | exact rp_eq_int | exact rp_ne_int | exact rp_lt | exact rp_le | exact rp_gt | exact rp_ge
  | exact rp_mod (by walk_at "side") | exact rp_mul (by walk_at "side") | exact rp_fdiv (by walk_at "side") | exact rp_pow (by walk_at "side")
  | exact rp_eq_str | exact rp_ne_str | exact rp_add_str (by walk_at "side") | exact rp_in_sg | exact rp_nin_sg | exact rp_add_tup (by walk_at "side")
  | exact rp_ix_tup (by walk_at "at") | exact rp_ix_lst (by walk_at "at") | exact rp_ix_str (by walk_at "side") (by walk_at "at"))
local macro_rules | `(tactic| walk_at "at") => `(tactic| first | rfl | assumption | (exact atI_nat (by first | rfl | assumption)))
local macro_rules | `(tactic| walk_at "wpa") => `(tactic| first | exact wpa_nil | (apply wpa_cons; (focus walk_at "wp"); walk_at "wpa"))
local macro_rules | `(tactic| walk_at "pl") => `(tactic| first | exact pl_var rfl | (apply pl_fld; (focus walk_at "pl"); (focus assumption); (focus assumption); rfl))
local macro_rules | `(tactic| walk_at "wp") => `(tactic| first
  | assumption
  | exact wp_var rfl | exact wp_int | exact wp_str | exact wp_bl | exact wp_non
  | (apply wp_len_own; (focus walk_at "pl"))
  | (apply wp_op; (focus walk_at "wp"); (focus walk_at "wp"); walk_at "rp")
  | (apply wp_cb; (focus walk_at "wpa"); first | exact cp_int | exact cp_int_bl | exact cp_len_lst | exact cp_len_tup | exact cp_len_str (by walk_at "side") | exact cp_tuple_lst | exact cp_tuple_tup | exact cp_str (by walk_at "side"))
  | (apply wp_tup; (focus walk_at "wpa"); (first | decide | simp))
  | (apply wp_un; (focus walk_at "wp"); exact up_neg)
  | (apply wp_l; walk_at "pl")
  | (apply wp_fld; (focus walk_at "wp"); (focus assumption); (focus assumption); rfl)
  | (apply wp_o; walk_at "wo")
  | (apply wp_notV; walk_at "wp"))
local macro_rules | `(tactic| walk_at "wo") => `(tactic| first
  | (apply wo_lst; (focus walk_at "wpa"); (first | decide | simp))
  | (apply wo_cb; (focus walk_at "wpa"); first | exact co_list_lst | exact co_list_tup | exact co_list_scr))
local macro_rules | `(tactic| walk_at "wt") => `(tactic| first
  | (apply wt_test; walk_at "wp") | (apply wt_tru; walk_at "wp") | (apply wt_B; walk_at "wp") | (apply wt_not; walk_at "wt")
  | (apply wt_and; (focus walk_at "wt"); (intro _; walk_at "wt")) | (apply wt_or; (focus walk_at "wt"); (intro _; walk_at "wt")))
local macro_rules | `(tactic| walk_at "fin") => `(tactic| (try simp only [List.set_cons_zero, List.set_cons_succ]))
local macro_rules | `(tactic| walk_at "lt") => `(tactic| first | decide | (simp only [List.length_cons, List.length_nil]; omega) | (simp; done))
local macro_rules | `(tactic| walk_at "seq") => `(tactic| (refine ws_seq ?_))
local macro_rules | `(tactic| walk_at "set") => `(tactic| (refine ws_set (by walk_at "wp") (by walk_at "lt") (by decide) ?_; walk_at "fin"))
local macro_rules | `(tactic| walk_at "setO") => `(tactic| (refine ws_setO (by walk_at "wo") (by walk_at "lt") (by decide) ?_; walk_at "fin"))
local macro_rules | `(tactic| walk_at "ret") => `(tactic| (refine ws_ret (by walk_at "wp") ?_))
local macro_rules | `(tactic| walk_at "if") => `(tactic| (refine ws_if (by walk_at "wt") ?_))
/-! ### below_all(alphabet, word, [e]) -/
def spBelowAll (C : Addr) : FS := pfa (fun a : (Int × List (List Int)) × List Nat × Nat => [alD C a.1.1 a.1.2, wD a.2.1, .lst [.int (a.2.2 : Nat)]]) (fun a => InW a.1.2.length a.2.1 ∧ a.2.1.length ≤ 200 ∧ a.2.2 < a.2.1.length)
  (fun a => .lst (natD ((List.range a.2.1.length).filter fun x => bel (dp a.1.2 a.2.1) x a.2.2)))
theorem wp_indep {K : PySem.W.Frag} {C : Addr} {δ : Dl} {t1 t2 t3 : TE} {P : Int} {Ls : List (List Int)} {a b : Nat} (h1 : WP K t1 δ (alD C P Ls)) (h2 : WP K t2 δ (.int a)) (h3 : WP K t3 δ (.int b)) (ha : a < Ls.length) (hb : b < Ls.length) : WP K (tCall (toSp K (spIndep C)) [] E0 (tCons t1 (tCons t2 (tCons t3 tNil)))) δ (.bl (!dep Ls a b)) := wp_callA ((P, Ls), a, b) (wpa_cons h1 (wpa_cons h2 (wpa_cons h3 wpa_nil))) ⟨ha, hb⟩
theorem down_rev (n : Nat) : ((List.range n).map fun t => n - 1 - t).reverse = List.range n := by
  apply List.ext_getElem (by simp)
  intro i h1 h2
  simp at h1 h2
  simp
  omega
theorem natD_ov {l : List Nat} : (natD l).map OV.dat = ((l.map fun (x : Nat) => (x : Int)).map D.int).map OV.dat := by rw [natD_eq]
theorem rd_belowall {K : PySem.W.Frag} {C : Addr} (hC : AC K C) : ∀ vs H Q E, toSp K (spBelowAll C) vs H Q E → t_below_all K (toSp K (spIndep C)) { nx := fun _ H' => Q .non H', rt := Q } (L2.start N_below_all vs) H := by
  refine body_of (np := 3) ?_
  rintro xs Φ ⟨⟨⟨P, Ls⟩, w, e⟩, rfl, ⟨hw, hl, he⟩, hk⟩
  dsimp only at hw hl hk he
  refine ⟨rfl, ?_⟩
  show WS K [0, 1, 2] _ [some (.dat (alD C P Ls)), some (.dat (wD w)), some (.dat (.lst [.int (e : Nat)])), none, none, none, none] _
  have hwl : (natD w).length = w.length := by simp [natD]
  walk_at "seq"
  walk_at "setO"
  walk_at "seq"
  let Fi : Nat → List Nat := fun i => ((List.range i).map fun t => w.length - 1 - t).filter fun x => bel (dp Ls w) x e
  refine ws_for (ds := dnD w.length) (wi_down (by
    refine wpa_cons ((wp_op (wp_cb (wpa_cons (wp_var rfl) wpa_nil) cp_len_tup) wp_int rp_sub).to (by rw [hwl])) (wpa_cons ((wp_un wp_int up_neg).to rfl) (wpa_cons ((wp_un wp_int up_neg).to rfl) wpa_nil))) (by omega)) (fun i δ' => ∃ o4 o5 o6, i ≤ w.length ∧ δ' = [some (.dat (alD C P Ls)), some (.dat (wD w)), some (.dat (.lst [.int (e : Nat)])), some (.lst ((natD (Fi i)).map OV.dat)), o4, o5, o6]) ⟨none, none, none, Nat.zero_le _, rfl⟩ ?_ ?_
  · rintro i d δ' hi ⟨o4, o5, o6, _, rfl⟩
    have hic : i < w.length := by have := get_lt hi; rwa [dnD_len] at this
    rw [dnD_get hic] at hi
    cases hi
    obtain ⟨x, hx, ex⟩ : ∃ x : Nat, x = w.length - 1 - i ∧ ((w.length : Int) - 1 - i) = (x : Nat) := ⟨w.length - 1 - i, rfl, by omega⟩
    rw [ex]
    have hxl : x < w.length := by omega
    refine wg_name (by walk_at "lt") (by decide) ?_
    walk_at "fin"
    walk_at "seq"
    refine ws_set (wp_op (wp_var rfl) (wp_var rfl) (rp_in_lstI (l := [(e : Int)]))) (by walk_at "lt") (by decide) ?_
    walk_at "fin"
    walk_at "seq"
    refine ws_forO (j := 3) (ds := natD (Fi i)) rfl (fun m δ' => ∃ (b : Bool) (o6 : Option OV), (b = true ↔ x = e ∨ ∃ s ∈ (Fi i).take m, x < s ∧ dp Ls w x s = true) ∧ δ' = [some (.dat (alD C P Ls)), some (.dat (wD w)), some (.dat (.lst [.int (e : Nat)])), some (.lst ((natD (Fi i)).map OV.dat)), some (.dat (.int (x : Nat))), some (.dat (.bl b)), o6]) ⟨_, o6, ?_, rfl⟩ ?_ ?_ ?_
    · simp; omega
    · rintro m δ' ⟨b, o6, _, rfl⟩; rfl
    · rintro m d δ' hm ⟨b, o6, hb, rfl⟩
      obtain ⟨s, hs, rfl⟩ : ∃ s : Nat, (Fi i)[m]? = some s ∧ d = .int (s : Nat) := by
        unfold natD at hm
        rw [List.getElem?_map] at hm
        obtain ⟨s, h1, h2⟩ := Option.map_eq_some_iff.mp hm
        exact ⟨s, h1, h2.symm⟩
      have hsl : s < w.length := by
        have := List.mem_of_getElem? hs
        obtain ⟨t, ht, rfl⟩ := List.mem_map.mp (List.mem_filter.mp this).1
        have := List.mem_range.mp ht
        omega
      refine wg_name (by walk_at "lt") (by decide) ?_
      walk_at "fin"
      refine ws_set (wp_orV (wp_var rfl) fun _ => wp_andV (wp_op (wp_var rfl) (wp_var rfl) rp_lt) fun _ => wp_notV (wp_indep (P := P) (wp_var rfl) (wp_op (wp_var rfl) (wp_var rfl) (rp_ix_tup (nat_at hxl))) (wp_op (wp_var rfl) (wp_var rfl) (rp_ix_tup (nat_at hsl))) (hw.at hxl) (hw.at hsl))) (by walk_at "lt") (by decide) ?_
      walk_at "fin"
      refine ⟨_, _, ?_, rfl⟩
      rw [Bool.not_not, Bool.or_eq_true, Bool.and_eq_true, decide_eq_true_iff, hb, List.take_add_one, hs]
      have hdd : (dep Ls (w.getD x 0) (w.getD s 0) = true) = (dp Ls w x s = true) := rfl
      rw [hdd]
      constructor
      · rintro ((h | ⟨s', h1, h2⟩) | ⟨h1, h2⟩)
        · exact .inl h
        · exact .inr ⟨s', List.mem_append_left _ h1, h2⟩
        · exact .inr ⟨s, by simp, by omega, h2⟩
      · rintro (h | ⟨s', h1, h2, h3⟩)
        · exact .inl (.inl h)
        · rcases List.mem_append.mp h1 with h1 | h1
          · exact .inl (.inr ⟨s', h1, h2, h3⟩)
          · have : s' = s := by simpa using h1
            subst this
            exact .inr ⟨by omega, h3⟩
    · rintro _ ⟨b, o6, hb, rfl⟩
      have hfl : (natD (Fi i)).length = (Fi i).length := by simp [natD]
      rw [hfl, List.take_length] at hb
      have hbel : b = bel (dp Ls w) x e := by
        apply Bool.eq_iff_iff.mpr
        rw [hb, bel_iff, Bel.left]
        constructor
        · rintro (h | ⟨s, h1, h2, h3⟩)
          · exact .inl h
          · exact .inr ⟨s, h2, h3, bel_iff.mp (List.mem_filter.mp h1).2⟩
        · rintro (h | ⟨s, h1, h2, h3⟩)
          · exact .inl h
          · refine .inr ⟨s, List.mem_filter.mpr ⟨List.mem_map.mpr ⟨w.length - 1 - s, ?_, ?_⟩, bel_iff.mpr h3⟩, h1, h2⟩
            · have := h3.le
              exact List.mem_range.mpr (by omega)
            · have := h3.le
              show w.length - 1 - (w.length - 1 - s) = s
              omega
      have next : Fi (i + 1) = Fi i ++ (if b = true then [x] else []) := by
        show ((List.range (i + 1)).map fun t => w.length - 1 - t).filter _ = _
        rw [List.range_succ, List.map_append, List.filter_append, List.map_singleton, List.filter_cons, List.filter_nil, ← hx, ← hbel]
      refine ws_if (wt_tru (wp_var rfl)) ?_
      cases b with
      | false =>
        rw [if_neg (by simp)]
        refine ws_next ⟨some (.dat (.int (x : Nat))), some (.dat (.bl false)), o6, hic, ?_⟩
        rw [next]
        simp
      | true =>
        rw [if_pos rfl]
        refine ws_drop (we_append (pm_var rfl) (wp_var rfl) (by
          have : (Fi i).length ≤ i := Nat.le_trans (List.length_filter_le _ _) (by simp)
          rw [List.length_map, hfl]; omega) ?_)
        walk_at "fin"
        refine ⟨some (.dat (.int (x : Nat))), some (.dat (.bl true)), o6, hic, ?_⟩
        rw [next]
        simp [natD]
  · rintro _ ⟨o4, o5, o6, _, rfl⟩
    refine ws_ret (wp_o (wo_revO (pl_var rfl))) ⟨[.dat (alD C P Ls), .dat (wD w), .dat (.lst [.int (e : Nat)])], rfl, ?_⟩
    have : (natD (Fi w.length)).reverse = natD ((List.range w.length).filter fun x => bel (dp Ls w) x e) := by
      unfold natD
      rw [← List.map_reverse, ← List.filter_reverse, down_rev]
    rw [dnD_len, this]
    exact hk
end Rd
namespace Rd
open PySem PySem.Spec L2 Pw Gn M56
local macro_rules | `(tactic| walk_at "side") => `(tactic| first | assumption | omega | decide | (unfold CMul; omega) | (unfold CDiv; omega) | (unfold CPow; decide) | (simp; omega) | (simp; done))
local macro_rules | `(tactic| walk_at "rp") => `(tactic| first
  | exact rp_add_int | exact rp_sub | exact rp_eq_int | exact rp_ne_int | exact rp_lt | exact rp_le | exact rp_gt | exact rp_ge
  | exact rp_mod (by walk_at "side") | exact rp_mul (by walk_at "side") | exact rp_fdiv (by walk_at "side") | exact rp_pow (by walk_at "side")
  | exact rp_eq_str | exact rp_ne_str | exact rp_add_str (by walk_at "side") | exact rp_in_sg | exact rp_nin_sg | exact rp_add_tup (by walk_at "side")
  | exact rp_ix_tup (by walk_at "at") | exact rp_ix_lst (by walk_at "at") | exact rp_ix_str (by walk_at "side") (by walk_at "at"))
local macro_rules | `(tactic| walk_at "at") => `(tactic| first | rfl | assumption | (exact atI_nat (by first | rfl | assumption)))
local macro_rules | `(tactic| walk_at "wpa") => `(tactic| first | exact wpa_nil | (apply wpa_cons; (focus walk_at "wp"); walk_at "wpa"))
local macro_rules | `(tactic| walk_at "pl") => `(tactic| first | exact pl_var rfl | (apply pl_fld; (focus walk_at "pl"); (focus assumption); (focus assumption); rfl))
local macro_rules | `(tactic| walk_at "wp") => `(tactic| first
  | assumption
  | exact wp_var rfl | exact wp_int | exact wp_str | exact wp_bl | exact wp_non
  | (apply wp_len_own; (focus walk_at "pl"))
  | (apply wp_op; (focus walk_at "wp"); (focus walk_at "wp"); walk_at "rp")
  | (apply wp_cb; (focus walk_at "wpa"); first | exact cp_int | exact cp_int_bl | exact cp_len_lst | exact cp_len_tup | exact cp_len_str (by walk_at "side") | exact cp_tuple_lst | exact cp_tuple_tup | exact cp_str (by walk_at "side"))
  | (apply wp_tup; (focus walk_at "wpa"); (first | decide | simp))
  | (apply wp_un; (focus walk_at "wp"); exact up_neg)
  | (apply wp_l; walk_at "pl")
  | (apply wp_fld; (focus walk_at "wp"); (focus assumption); (focus assumption); rfl)
  | (apply wp_o; walk_at "wo")
  | (apply wp_notV; walk_at "wp"))
local macro_rules | `(tactic| walk_at "wo") => `(tactic| first
  | (apply wo_lst; (focus walk_at "wpa"); (first | decide | simp))
  | (apply wo_cb; (focus walk_at "wpa"); first | exact co_list_lst | exact co_list_tup | exact co_list_scr))
local macro_rules | `(tactic| walk_at "wt") => `(tactic| first
  | (apply wt_test; walk_at "wp") | (apply wt_tru; walk_at "wp") | (apply wt_B; walk_at "wp") | (apply wt_not; walk_at "wt")
  | (apply wt_and; (focus walk_at "wt"); (intro _; walk_at "wt")) | (apply wt_or; (focus walk_at "wt"); (intro _; walk_at "wt")))
local macro_rules | `(tactic| walk_at "fin") => `(tactic| (try simp only [List.set_cons_zero, List.set_cons_succ]))
local macro_rules | `(tactic| walk_at "lt") => `(tactic| first | decide | (simp only [List.length_cons, List.length_nil]; omega) | (simp; done))
local macro_rules | `(tactic| walk_at "seq") => `(tactic| (refine ws_seq ?_))
local macro_rules | `(tactic| walk_at "set") => `(tactic| (refine ws_set (by walk_at "wp") (by walk_at "lt") (by decide) ?_; walk_at "fin"))
local macro_rules | `(tactic| walk_at "setO") => `(tactic| (refine ws_setO (by walk_at "wo") (by walk_at "lt") (by decide) ?_; walk_at "fin"))
local macro_rules | `(tactic| walk_at "ret") => `(tactic| (refine ws_ret (by walk_at "wp") ?_))
local macro_rules | `(tactic| walk_at "if") => `(tactic| (refine ws_if (by walk_at "wt") ?_))
/-! ### who is below whom, as lists -/
noncomputable def lat (Ls : List (List Int)) (w : List Nat) : List (List Nat) := (List.range w.length).map fun i => (List.range w.length).filter fun s => decide (i ≠ s) && bel (dp Ls w) i s
def latD (la : List (List Nat)) : D := .lst (la.map fun l => .lst (natD l))
theorem lat_len {Ls : List (List Int)} {w : List Nat} : (lat Ls w).length = w.length := by simp [lat]
theorem lat_E {Ls : List (List Int)} {w : List Nat} {i s : Nat} : E (lat Ls w) i s ↔ i < w.length ∧ s < w.length ∧ i ≠ s ∧ Bel (dp Ls w) i s := by
  unfold E lat
  constructor
  · rintro ⟨l, hl, hs⟩
    rw [List.getElem?_map] at hl
    obtain ⟨j, h1, rfl⟩ := Option.map_eq_some_iff.mp hl
    obtain ⟨h2, h3⟩ := List.getElem?_eq_some_iff.mp h1
    simp at h2 h3
    subst h3
    simp only [List.mem_filter, List.mem_range, Bool.and_eq_true, decide_eq_true_eq] at hs
    exact ⟨h2, hs.1, hs.2.1, bel_iff.mp hs.2.2⟩
  · rintro ⟨h1, h2, h3, h4⟩
    refine ⟨_, range_map_get h1, ?_⟩
    simp only [List.mem_filter, List.mem_range, Bool.and_eq_true, decide_eq_true_eq]
    exact ⟨h2, h3, bel_iff.mpr h4⟩
theorem lat_lt {Ls : List (List Int)} {w : List Nat} : ∀ i s, E (lat Ls w) i s → i < s ∧ s < (lat Ls w).length := fun i s h => by
  obtain ⟨h1, h2, h3, h4⟩ := lat_E.mp h
  have := h4.le
  rw [lat_len]
  exact ⟨by omega, h2⟩
theorem lat_tr {Ls : List (List Int)} {w : List Nat} : ∀ a b c, E (lat Ls w) a b → E (lat Ls w) b c → E (lat Ls w) a c := fun a b c h g => by
  have l1 := (lat_lt a b h).1
  have l2 := (lat_lt b c g).1
  obtain ⟨h1, h2, h3, h4⟩ := lat_E.mp h
  obtain ⟨g1, g2, g3, g4⟩ := lat_E.mp g
  exact lat_E.mpr ⟨h1, g2, by omega, h4.trans g4⟩
def ovN (l : List Nat) : OV := .lst ((natD l).map OV.dat)
def ovLL (n : Nat) (rows : Nat → List Nat) : OV := .lst ((List.range n).map fun i => ovN (rows i))
theorem ovN_fz {l : List Nat} : (ovN l).fz = some (.lst (natD l)) := fz_dat
theorem ovLL_fz {n : Nat} {rows : Nat → List Nat} : (ovLL n rows).fz = some (latD ((List.range n).map rows)) := by
  simp only [ovLL, OV.fz, fzL_map (f := fun i => ovN (rows i)) (g := fun i => D.lst (natD (rows i))) (fun i => ovN_fz), latD, List.map_map]; rfl
theorem ovLL_congr {n : Nat} {f g : Nat → List Nat} (h : ∀ i, i < n → f i = g i) : ovLL n f = ovLL n g := by
  unfold ovLL
  congr 1
  exact List.map_congr_left fun i hi => by rw [h i (List.mem_range.mp hi)]
def spPairs (C : Addr) : FS := pfa (fun a : (Int × List (List Int)) × List Nat => [alD C a.1.1 a.1.2, wD a.2]) (fun a => InW a.1.2.length a.2 ∧ a.2.length ≤ 200) (fun a => latD (lat a.1.2 a.2))
theorem wp_below {K : PySem.W.Frag} {C : Addr} {δ : Dl} {t1 t2 t3 : TE} {P : Int} {Ls : List (List Int)} {w : List Nat} {e : Nat} (h1 : WP K t1 δ (alD C P Ls)) (h2 : WP K t2 δ (wD w)) (h3 : WP K t3 δ (.lst [.int (e : Nat)])) (hw : InW Ls.length w) (hl : w.length ≤ 200) (he : e < w.length) :
    WP K (tCall (toSp K (spBelowAll C)) [] E0 (tCons t1 (tCons t2 (tCons t3 tNil)))) δ (.lst (natD ((List.range w.length).filter fun x => bel (dp Ls w) x e))) := wp_callA ((P, Ls), w, e) (wpa_cons h1 (wpa_cons h2 (wpa_cons h3 wpa_nil))) ⟨hw, hl, he⟩
theorem rd_pairs {K : PySem.W.Frag} {C : Addr} : ∀ vs H Q E, toSp K (spPairs C) vs H Q E → t_pairs_of K (toSp K (spBelowAll C)) { nx := fun _ H' => Q .non H', rt := Q } (L2.start N_pairs_of vs) H := by
  refine body_of (np := 2) ?_
  rintro xs Φ ⟨⟨⟨P, Ls⟩, w⟩, rfl, ⟨hw, hl⟩, hk⟩
  dsimp only at hw hl hk
  refine ⟨rfl, ?_⟩
  show WS K [0, 1] _ [some (.dat (alD C P Ls)), some (.dat (wD w)), none, none, none, none] _
  have hwl : (natD w).length = w.length := by simp [natD]
  walk_at "seq"
  refine ws_setE (we_lc (ds := natD w) (wi_tup (wp_var rfl)) (by omega) (fun i acc δ' => i ≤ w.length ∧ acc = (List.range i).map (fun _ => ovN []) ∧ δ' = [some (.dat (alD C P Ls)), some (.dat (wD w)), none, none, none, none]) ⟨Nat.zero_le _, rfl, rfl⟩ ?_ ?_ ?_)
  · rintro i acc δ' ⟨_, _, rfl⟩; exact ⟨rfl, by simp⟩
  · rintro i d acc δ' hi ⟨_, rfl, rfl⟩
    have hic : i < w.length := by have := get_lt hi; rwa [hwl] at this
    refine wc_name (by simp) rfl (wt_p wt_yes ?_)
    rw [if_pos rfl]
    refine we_lst (wa_nil ⟨[], rfl, by simp, hic, ?_, rfl⟩)
    rw [List.range_succ, List.map_append]; rfl
  · rintro acc δ' ⟨_, rfl, rfl⟩
    rw [hwl]
    refine ⟨by simp, by decide, ?_⟩
    show WS K [0, 1] _ [some (.dat (alD C P Ls)), some (.dat (wD w)), some (ovLL w.length fun _ => []), none, none, none] _
    walk_at "seq"
    let base : Nat → Nat → List Nat := fun t i => (List.range t).filter fun s => decide (i ≠ s) && bel (dp Ls w) i s
    refine ws_for (ds := rgD 0 w.length) (by
      have := wi_rng1 (K := K) (δ := [some (.dat (alD C P Ls)), some (.dat (wD w)), some (ovLL w.length fun _ => []), none, none, none]) (ta := tCons (tCB (rLEN K) (tCons (tVar 1) tNil)) tNil) (j := ((natD w).length : Nat)) (wpa_cons (wp_cb (wpa_cons (wp_var rfl) wpa_nil) cp_len_tup) wpa_nil) (by omega) (by omega)
      rw [hwl] at this
      exact this) (fun t δ' => ∃ o3 o4, δ' = [some (.dat (alD C P Ls)), some (.dat (wD w)), some (ovLL w.length (base t)), o3, o4, none]) ⟨none, none, rfl⟩ ?_ ?_
    · rintro t d δ' hi ⟨o3, o4, rfl⟩
      have htc : t < w.length := by have := get_lt hi; rwa [rgD_length] at this
      rw [rgD_get htc] at hi
      cases hi
      refine wg_name (by walk_at "lt") (by decide) ?_
      walk_at "fin"
      rw [Int.zero_add]
      let bl : List Nat := (List.range w.length).filter fun x => bel (dp Ls w) x t
      have bnd : bl.Nodup := List.nodup_range.filter _
      refine ws_for (ds := natD bl) (wi_lst (wp_below (P := P) (wp_var rfl) (wp_var rfl) (wp_o (wo_lst (wpa_cons (wp_var rfl) wpa_nil) (by simp))) hw hl htc)) (fun m δ' => ∃ o4, δ' = [some (.dat (alD C P Ls)), some (.dat (wD w)), some (ovLL w.length fun i => base t i ++ if i ∈ bl.take m ∧ i ≠ t then [t] else []), some (.dat (.int (t : Nat))), o4, none]) ⟨o4, by simp⟩ ?_ ?_
      · rintro m d δ' hm ⟨o4, rfl⟩
        obtain ⟨x, hx, rfl⟩ : ∃ x : Nat, bl[m]? = some x ∧ d = .int (x : Nat) := by
          unfold natD at hm
          rw [List.getElem?_map] at hm
          obtain ⟨s, h1, h2⟩ := Option.map_eq_some_iff.mp hm
          exact ⟨s, h1, h2.symm⟩
        have hxl : x < w.length := List.mem_range.mp (List.mem_filter.mp (List.mem_of_getElem? hx)).1
        have hxn : x ∉ bl.take m := fun h => by
          obtain ⟨j, hj, e⟩ := List.mem_iff_getElem.mp h
          rw [List.getElem_take] at e
          obtain ⟨hm2, e2⟩ := List.getElem?_eq_some_iff.mp hx
          have hj2 : j < m := by rw [List.length_take] at hj; omega
          exact List.pairwise_iff_getElem.mp bnd j m (by omega) hm2 hj2 (e.trans e2.symm)
        refine wg_name (by walk_at "lt") (by decide) ?_
        walk_at "fin"
        refine ws_if (wt_test (wp_op (wp_var rfl) (wp_var rfl) rp_ne_int)) ?_
        by_cases e : x = t
        · rw [if_neg (by simp [e])]
          refine ws_next ⟨some (.dat (.int (x : Nat))), ?_⟩
          congr 4
          refine ovLL_congr fun i hi => ?_
          congr 1
          rw [List.take_add_one, hx]
          by_cases q : i = x
          · subst q; simp [e]
          · simp [q]
        · rw [if_pos (by simp; omega)]
          refine ws_drop (we_append (pm_ix (pm_var rfl) (pl_var rfl) (ixN_nat (by simpa using hxl)) (range_map_get hxl)) (wp_var rfl) (by
            have : (base t x).length ≤ t := Nat.le_trans (List.length_filter_le _ _) (by simp)
            show (List.map OV.dat (natD (base t x ++ if x ∈ bl.take m ∧ x ≠ t then [t] else []))).length < 1000000
            rw [if_neg (fun h => hxn h.1)]
            simp [natD]; omega) ?_)
          walk_at "fin"
          refine ⟨some (.dat (.int (x : Nat))), ?_⟩
          congr 4
          rw [range_set]
          unfold ovLL
          congr 1
          apply List.map_congr_left
          intro i hi
          rw [List.take_add_one, hx]
          by_cases q : i = x
          · subst q
            rw [if_pos rfl]
            show OV.lst (List.map OV.dat (natD (base t i ++ if i ∈ bl.take m ∧ i ≠ t then [t] else [])) ++ [OV.dat (.int (t : Nat))]) = ovN (base t i ++ if i ∈ bl.take m ++ (some i).toList ∧ i ≠ t then [t] else [])
            rw [if_neg (fun h => hxn h.1), if_pos (⟨by simp, e⟩ : i ∈ bl.take m ++ (some i).toList ∧ i ≠ t)]
            simp [ovN, natD]
          · rw [if_neg q]
            congr 2
            simp [q]
      · rintro _ ⟨o4, rfl⟩
        have hfl : (natD bl).length = bl.length := by simp [natD]
        rw [hfl, List.take_length]
        refine ⟨some (.dat (.int (t : Nat))), o4, ?_⟩
        congr 4
        refine ovLL_congr fun i hi => ?_
        show _ = (List.range (t + 1)).filter _
        rw [List.range_succ, List.filter_append]
        congr 1
        rw [List.filter_cons, List.filter_nil]
        by_cases q : bel (dp Ls w) i t = true
        · by_cases e : i = t
          · rw [if_neg (fun h => h.2 e), if_neg (by simp [e])]
          · rw [if_pos ⟨List.mem_filter.mpr ⟨List.mem_range.mpr hi, q⟩, e⟩, if_pos (by simp [e, q])]
        · rw [if_neg (fun h => q (List.mem_filter (p := fun x => bel (dp Ls w) x t) |>.mp h.1).2), if_neg (by simp [q])]
    · rintro _ ⟨o3, o4, rfl⟩
      rw [rgD_length]
      refine ws_fz 2 (d := latD (lat Ls w)) rfl ovLL_fz ?_
      walk_at "fin"
      exact ws_ret (wp_var rfl) ⟨[.dat (alD C P Ls), .dat (wD w)], rfl, hk⟩
end Rd
namespace Rd
open PySem PySem.Spec L2 Pw Gn M56
local macro_rules | `(tactic| walk_at "side") => `(tactic| first | assumption | omega | decide | (unfold CMul; omega) | (unfold CDiv; omega) | (unfold CPow; decide) | (simp; omega) | (simp; done))
local macro_rules | `(tactic| walk_at "rp") => `(tactic| first
  | exact rp_add_int | exact rp_sub | exact rp_eq_int | exact rp_ne_int | exact rp_lt | exact rp_le | exact rp_gt | exact rp_ge
  | exact rp_mod (by walk_at "side") | exact rp_mul (by walk_at "side") | exact rp_fdiv (by walk_at "side") | exact rp_pow (by walk_at "side")
  | exact rp_eq_str | exact rp_ne_str | exact rp_add_str (by walk_at "side") | exact rp_in_sg | exact rp_nin_sg | exact rp_add_tup (by walk_at "side")
  | exact rp_ix_tup (by walk_at "at") | exact rp_ix_lst (by walk_at "at") | exact rp_ix_str (by walk_at "side") (by walk_at "at"))
local macro_rules | `(tactic| walk_at "at") => `(tactic| first | rfl | assumption | (exact atI_nat (by first | rfl | assumption)))
local macro_rules | `(tactic| walk_at "wpa") => `(tactic| first | exact wpa_nil | (apply wpa_cons; (focus walk_at "wp"); walk_at "wpa"))
local macro_rules | `(tactic| walk_at "pl") => `(tactic| first | exact pl_var rfl | (apply pl_fld; (focus walk_at "pl"); (focus assumption); (focus assumption); rfl))
local macro_rules | `(tactic| walk_at "wp") => `(tactic| first
  | assumption
  | exact wp_var rfl | exact wp_int | exact wp_str | exact wp_bl | exact wp_non
  | (apply wp_len_own; (focus walk_at "pl"))
  | (apply wp_op; (focus walk_at "wp"); (focus walk_at "wp"); walk_at "rp")
  | (apply wp_cb; (focus walk_at "wpa"); first | exact cp_int | exact cp_int_bl | exact cp_len_lst | exact cp_len_tup | exact cp_len_str (by walk_at "side") | exact cp_tuple_lst | exact cp_tuple_tup | exact cp_str (by walk_at "side"))
  | (apply wp_tup; (focus walk_at "wpa"); (first | decide | simp))
  | (apply wp_un; (focus walk_at "wp"); exact up_neg)
  | (apply wp_l; walk_at "pl")
  | (apply wp_fld; (focus walk_at "wp"); (focus assumption); (focus assumption); rfl)
  | (apply wp_o; walk_at "wo")
  | (apply wp_notV; walk_at "wp"))
local macro_rules | `(tactic| walk_at "wo") => `(tactic| first
  | (apply wo_lst; (focus walk_at "wpa"); (first | decide | simp))
  | (apply wo_cb; (focus walk_at "wpa"); first | exact co_list_lst | exact co_list_tup | exact co_list_scr))
local macro_rules | `(tactic| walk_at "wt") => `(tactic| first
  | (apply wt_test; walk_at "wp") | (apply wt_tru; walk_at "wp") | (apply wt_B; walk_at "wp") | (apply wt_not; walk_at "wt")
  | (apply wt_and; (focus walk_at "wt"); (intro _; walk_at "wt")) | (apply wt_or; (focus walk_at "wt"); (intro _; walk_at "wt")))
local macro_rules | `(tactic| walk_at "fin") => `(tactic| (try simp only [List.set_cons_zero, List.set_cons_succ]))
local macro_rules | `(tactic| walk_at "lt") => `(tactic| first | decide | (simp only [List.length_cons, List.length_nil]; omega) | (simp; done))
local macro_rules | `(tactic| walk_at "seq") => `(tactic| (refine ws_seq ?_))
local macro_rules | `(tactic| walk_at "set") => `(tactic| (refine ws_set (by walk_at "wp") (by walk_at "lt") (by decide) ?_; walk_at "fin"))
local macro_rules | `(tactic| walk_at "setO") => `(tactic| (refine ws_setO (by walk_at "wo") (by walk_at "lt") (by decide) ?_; walk_at "fin"))
local macro_rules | `(tactic| walk_at "ret") => `(tactic| (refine ws_ret (by walk_at "wp") ?_))
local macro_rules | `(tactic| walk_at "if") => `(tactic| (refine ws_if (by walk_at "wt") ?_))
/-! ### the matching -/
def en : Option Nat → Int
  | none => -1
  | some k => k
def onD (f : List (Option Nat)) : List D := f.map fun o => D.int (en o)
def onO (f : List (Option Nat)) : OV := .lst ((onD f).map OV.dat)
def Mz (C : Addr) (la : List (List Nat)) (f g : List (Option Nat)) : OV := .obj C [(("later" : PySem.Str), .dat (latD la)), (("following" : PySem.Str), onO f), (("leading" : PySem.Str), onO g)]
structure MC (K : PySem.W.Frag) (C : Addr) : Prop where
  cls : Cls K C
  la : NoAttr K C ("later" : PySem.Str)
  fo : NoAttr K C ("following" : PySem.Str)
  le : NoAttr K C ("leading" : PySem.Str)
section
variable {C : Addr} {la : List (List Nat)} {f g : List (Option Nat)} {K : PySem.W.Frag} {δ : Dl}
theorem mz_fo {a b c : OV} : List.lookup ("following" : PySem.Str) [(("later" : PySem.Str), a), (("following" : PySem.Str), b), (("leading" : PySem.Str), c)] = some b := (lookup_ne (by decide +kernel)).trans lookup_eq
theorem mz_le {a b c : OV} : List.lookup ("leading" : PySem.Str) [(("later" : PySem.Str), a), (("following" : PySem.Str), b), (("leading" : PySem.Str), c)] = some c := (lookup_ne (by decide +kernel)).trans ((lookup_ne (by decide +kernel)).trans lookup_eq)
theorem mz_no {a b c : OV} (m : PySem.Str) (h1 : ("later" : PySem.Str) ≠ m := by decide +kernel) (h2 : ("following" : PySem.Str) ≠ m := by decide +kernel) (h3 : ("leading" : PySem.Str) ≠ m := by decide +kernel) : List.lookup m [(("later" : PySem.Str), a), (("following" : PySem.Str), b), (("leading" : PySem.Str), c)] = none := (lookup_ne h1).trans ((lookup_ne h2).trans (lookup_ne h3))
theorem on_len : ((onD f).map OV.dat).length = f.length := by simp [onD]
theorem on_get {i : Nat} {x : Option Nat} (h : f[i]? = some x) : ((onD f).map OV.dat)[i]? = some (.dat (.int (en x))) := by simp [onD, h]
theorem on_ix {i : Nat} (h : i < f.length) : ixN ((onD f).map OV.dat).length (i : Int) = some i := ixN_nat (by rw [on_len]; exact h)
theorem on_set {i : Nat} {x : Option Nat} : OV.lst (((onD f).map OV.dat).set i (.dat (.int (en x)))) = onO (f.set i x) := by
  unfold onO onD
  rw [← List.map_set (f := OV.dat), ← List.map_set (f := fun o => D.int (en o))]
theorem wp_fo {t : TE} {i : Nat} {x : Option Nat} (hC : MC K C) (h : δ[0]? = some (some (Mz C la f g))) (ht : WP K t δ (.int (i : Nat))) (hx : f[i]? = some x) : WP K (tOp (rIX K) (tFld K (tVar 0) ("following" : PySem.Str)) t) δ (.int (en x)) :=
  wp_ix_own (j := i) (pl_fld (pl_var h) hC.cls hC.fo mz_fo) ht (on_ix (List.getElem?_eq_some_iff.mp hx).1) (on_get hx)
theorem wp_le {t : TE} {i : Nat} {x : Option Nat} (hC : MC K C) (h : δ[0]? = some (some (Mz C la f g))) (ht : WP K t δ (.int (i : Nat))) (hx : g[i]? = some x) : WP K (tOp (rIX K) (tFld K (tVar 0) ("leading" : PySem.Str)) t) δ (.int (en x)) :=
  wp_ix_own (j := i) (pl_fld (pl_var h) hC.cls hC.le mz_le) ht (on_ix (List.getElem?_eq_some_iff.mp hx).1) (on_get hx)
theorem wp_la (hC : MC K C) (h : δ[0]? = some (some (Mz C la f g))) : WP K (tFld K (tVar 0) ("later" : PySem.Str)) δ (latD la) := wp_l (pl_fld (pl_var h) hC.cls hC.la lookup_eq)
theorem wp_lai {t : TE} {i : Nat} {l : List Nat} (hC : MC K C) (h : δ[0]? = some (some (Mz C la f g))) (ht : WP K t δ (.int (i : Nat))) (hx : la[i]? = some l) : WP K (tOp (rIX K) (tFld K (tVar 0) ("later" : PySem.Str)) t) δ (.lst (natD l)) :=
  wp_op (wp_la hC h) ht (rp_ix_lst (atI_nat (by simp [hx])))
theorem set_fo {P : List Nat} {t1 t2 : TE} {i : Nat} {x : Option Nat} {Ψ : En} (hC : MC K C) (h : δ[0]? = some (some (Mz C la f g))) (h1 : WP K t1 δ (.int (en x))) (h2 : WP K t2 δ (.int (i : Nat))) (hi : i < f.length) (q : Ψ.nx (δ.set 0 (some (Mz C la (f.set i x) g)))) : WS K P (tAsg t1 (gSub (tFld K (tVar 0) ("following" : PySem.Str)) t2 rSetL)) δ Ψ := by
  refine ws_setix (j := i) h1 (pm_fld (pm_var h) hC.cls hC.fo mz_fo) h2 (on_ix hi) ⟨_, on_get (List.getElem?_eq_getElem hi)⟩ ?_
  rw [on_set]
  exact q
theorem set_le {P : List Nat} {t1 t2 : TE} {i : Nat} {x : Option Nat} {Ψ : En} (hC : MC K C) (h : δ[0]? = some (some (Mz C la f g))) (h1 : WP K t1 δ (.int (en x))) (h2 : WP K t2 δ (.int (i : Nat))) (hi : i < g.length) (q : Ψ.nx (δ.set 0 (some (Mz C la f (g.set i x))))) : WS K P (tAsg t1 (gSub (tFld K (tVar 0) ("leading" : PySem.Str)) t2 rSetL)) δ Ψ := by
  refine ws_setix (j := i) h1 (pm_fld (pm_var h) hC.cls hC.le mz_le) h2 (on_ix hi) ⟨_, on_get (List.getElem?_eq_getElem hi)⟩ ?_
  rw [on_set]
  exact q
end
/-! ### the way back -/
def orgK (org : List (Nat × Nat)) : List (Key × D) := org.map fun p => (Sum.inl (p.1 : Int), D.int (p.2 : Nat))
def spChange (C : Addr) : FS := fun xs Φ => ∃ (la : List (List Nat)) (f g : List (Option Nat)) (kv : List (Key × D)) (og : Nat → Option Nat) (k s : Nat) (f' g' : List (Option Nat)), xs = [Mz C la f g, dicK kv, .dat (.int (s : Nat))] ∧ Change og k f g (some s) f' g' ∧ (∀ s i, og s = some i → gK kv (.inl (s : Int)) = some (.int (i : Nat))) ∧ Φ (.dat .non) [Mz C la f' g', dicK kv, .dat (.int (s : Nat))]
theorem rd_change {K : PySem.W.Frag} {C : Addr} (hC : MC K C) : ∀ vs H Q E, toSp K (spChange C) vs H Q E → t_Matching_change K { nx := fun _ H' => Q .non H', rt := Q } (L2.start N_Matching_change vs) H := by
  refine body_ofR (np := 3) (fun i => i == 2) (by decide) ?_
  rintro xs Φ ⟨la, f, g, kv, og, k, s, f', g', rfl, ch, ho, hk⟩
  refine ⟨rfl, fun i x hi hx => ?_, ?_⟩
  · have : i = 2 := by simpa using hi
    subst this
    obtain rfl : _ = x := by simpa using hx
    exact ⟨_, rfl⟩
  show WS K [0, 1] _ [some (Mz C la f g), some (dicK kv), some (.dat (.int (s : Nat))), none, none] _
  refine ws_while (fun m δ' => ∃ f1 g1 x o3 o4, Change og m f1 g1 x f' g' ∧ δ' = [some (Mz C la f1 g1), some (dicK kv), some (.dat (.int (en x))), o3, o4]) k ⟨f, g, some s, none, none, ch, rfl⟩ ?_
  rintro m _ ⟨f1, g1, x, o3, o4, ch, rfl⟩
  refine wt_p (wt_test (wp_op (wp_var rfl) wp_int rp_ge)) ?_
  cases ch with
  | stop =>
    rw [if_neg (by simp [en])]
    refine ⟨rfl, [Mz C la f' g', dicK kv, .dat (.int (s : Nat))], rfl, fun i hi hw => ?_, fun i hw => ?_, hk⟩
    · have : i = 0 ∨ i = 1 := by
        have h2 : i ≠ 2 := by simpa using hw
        omega
      rcases this with rfl | rfl <;> rfl
    · have : i = 2 := by simpa using hw
      subst this
      rfl
  | @step m _ _ s i x _ _ hs hf hg ch =>
    rw [if_pos (by simp [en])]
    walk_at "seq"
    refine ws_set (wp_dgetK (x := .inl (s : Int)) (pl_var rfl) (wp_var rfl) (ho s i hs)) (by walk_at "lt") (by decide) ?_
    walk_at "fin"
    walk_at "seq"
    refine ws_set (wp_fo hC rfl (wp_var rfl) hf) (by walk_at "lt") (by decide) ?_
    walk_at "fin"
    walk_at "seq"
    refine set_fo (x := some s) hC rfl (wp_var rfl) (wp_var rfl) (List.getElem?_eq_some_iff.mp hf).1 ?_
    walk_at "fin"
    walk_at "seq"
    refine set_le (x := some i) (i := s) hC rfl (wp_var rfl) (wp_var rfl) hg ?_
    walk_at "fin"
    refine ws_set (wp_var rfl) (by walk_at "lt") (by decide) ?_
    walk_at "fin"
    exact ⟨m, by omega, _, _, x, _, _, ch, rfl⟩
end Rd
namespace Rd
open PySem PySem.Spec L2 Pw Gn M56
local macro_rules | `(tactic| walk_at "side") => `(tactic| first | assumption | omega | decide | (unfold CMul; omega) | (unfold CDiv; omega) | (unfold CPow; decide) | (simp; omega) | (simp; done))
local macro_rules | `(tactic| walk_at "rp") => `(tactic| first
  | exact rp_add_int | exact rp_sub | exact rp_eq_int | exact rp_ne_int | exact rp_lt | exact rp_le | exact rp_gt | exact rp_ge
  | exact rp_mod (by walk_at "side") | exact rp_mul (by walk_at "side") | exact rp_fdiv (by walk_at "side") | exact rp_pow (by walk_at "side")
  | exact rp_eq_str | exact rp_ne_str | exact rp_add_str (by walk_at "side") | exact rp_in_sg | exact rp_nin_sg | exact rp_add_tup (by walk_at "side")
  | exact rp_ix_tup (by walk_at "at") | exact rp_ix_lst (by walk_at "at") | exact rp_ix_str (by walk_at "side") (by walk_at "at"))
local macro_rules | `(tactic| walk_at "at") => `(tactic| first | rfl | assumption | (exact atI_nat (by first | rfl | assumption)))
local macro_rules | `(tactic| walk_at "wpa") => `(tactic| first | exact wpa_nil | (apply wpa_cons; (focus walk_at "wp"); walk_at "wpa"))
local macro_rules | `(tactic| walk_at "pl") => `(tactic| first | exact pl_var rfl | (apply pl_fld; (focus walk_at "pl"); (focus assumption); (focus assumption); rfl))
local macro_rules | `(tactic| walk_at "wp") => `(tactic| first
  | assumption
  | exact wp_var rfl | exact wp_int | exact wp_str | exact wp_bl | exact wp_non
  | (apply wp_len_own; (focus walk_at "pl"))
  | (apply wp_op; (focus walk_at "wp"); (focus walk_at "wp"); walk_at "rp")
  | (apply wp_cb; (focus walk_at "wpa"); first | exact cp_int | exact cp_int_bl | exact cp_len_lst | exact cp_len_tup | exact cp_len_str (by walk_at "side") | exact cp_tuple_lst | exact cp_tuple_tup | exact cp_str (by walk_at "side"))
  | (apply wp_tup; (focus walk_at "wpa"); (first | decide | simp))
  | (apply wp_un; (focus walk_at "wp"); exact up_neg)
  | (apply wp_l; walk_at "pl")
  | (apply wp_fld; (focus walk_at "wp"); (focus assumption); (focus assumption); rfl)
  | (apply wp_o; walk_at "wo")
  | (apply wp_notV; walk_at "wp"))
local macro_rules | `(tactic| walk_at "wo") => `(tactic| first
  | (apply wo_lst; (focus walk_at "wpa"); (first | decide | simp))
  | (apply wo_cb; (focus walk_at "wpa"); first | exact co_list_lst | exact co_list_tup | exact co_list_scr))
local macro_rules | `(tactic| walk_at "wt") => `(tactic| first
  | (apply wt_test; walk_at "wp") | (apply wt_tru; walk_at "wp") | (apply wt_B; walk_at "wp") | (apply wt_not; walk_at "wt")
  | (apply wt_and; (focus walk_at "wt"); (intro _; walk_at "wt")) | (apply wt_or; (focus walk_at "wt"); (intro _; walk_at "wt")))
local macro_rules | `(tactic| walk_at "fin") => `(tactic| (try simp only [List.set_cons_zero, List.set_cons_succ]))
local macro_rules | `(tactic| walk_at "lt") => `(tactic| first | decide | (simp only [List.length_cons, List.length_nil]; omega) | (simp; done))
local macro_rules | `(tactic| walk_at "seq") => `(tactic| (refine ws_seq ?_))
local macro_rules | `(tactic| walk_at "set") => `(tactic| (refine ws_set (by walk_at "wp") (by walk_at "lt") (by decide) ?_; walk_at "fin"))
local macro_rules | `(tactic| walk_at "setO") => `(tactic| (refine ws_setO (by walk_at "wo") (by walk_at "lt") (by decide) ?_; walk_at "fin"))
local macro_rules | `(tactic| walk_at "ret") => `(tactic| (refine ws_ret (by walk_at "wp") ?_))
local macro_rules | `(tactic| walk_at "if") => `(tactic| (refine ws_if (by walk_at "wt") ?_))
theorem orgK_get {s : Nat} : ∀ {org : List (Nat × Nat)}, gK (orgK org) (.inl (s : Int)) = (lk org s).map fun i => D.int (i : Nat)
  | [] => rfl
  | p :: org => by
    show gK ((Sum.inl (p.1 : Int), D.int (p.2 : Nat)) :: orgK org) _ = _
    rw [gK_cons]
    unfold lk
    rw [List.find?_cons]
    by_cases e : p.1 = s
    · rw [if_pos (by simp [e])]; simp [e]
    · have e2 : ¬ (Sum.inl (p.1 : Int) : Key) = Sum.inl (s : Int) := fun h => e (by
        have := Sum.inl.inj h
        omega)
      rw [if_neg e2, orgK_get]
      simp only [e, decide_false]
      rfl
theorem lk_none {s : Nat} : ∀ {org : List (Nat × Nat)}, s ∉ org.map (·.1) → lk org s = none
  | [], _ => rfl
  | p :: org, h => by
    unfold lk
    rw [List.find?_cons]
    have e : ¬ p.1 = s := fun e => h (by rw [← e]; simp)
    simp only [e, decide_false]
    exact lk_none fun q => h (List.mem_cons_of_mem _ q)
theorem lk_some {s : Nat} {org : List (Nat × Nat)} (h : s ∈ org.map (·.1)) : ∃ i, lk org s = some i := by
  induction org with
  | nil => simp at h
  | cons p org ih =>
    unfold lk
    rw [List.find?_cons]
    by_cases e : p.1 = s
    · simp only [e, decide_true]; exact ⟨p.2, rfl⟩
    · simp only [e, decide_false]
      rcases List.mem_cons.mp h with q | q
      · exact absurd q.symm e
      · exact ih q
theorem orgK_put {s c : Nat} {org : List (Nat × Nat)} (h : s ∉ org.map (·.1)) : pK (orgK org) (.inl (s : Int)) (.int (c : Nat)) = orgK (org ++ [(s, c)]) := by
  unfold pK
  rw [orgK_get, lk_none h]
  simp [orgK]
theorem nat_get {l : List Nat} {i x : Nat} (h : l[i]? = some x) : ((natD l).map OV.dat)[i]? = some (.dat (.int (x : Nat))) := by simp [natD, h]
theorem nat_len {l : List Nat} : ((natD l).map OV.dat).length = l.length := by simp [natD]
theorem ovN_app {l : List Nat} {x : Nat} : OV.lst ((natD l).map OV.dat ++ [.dat (.int (x : Nat))]) = ovN (l ++ [x]) := by simp [ovN, natD]
theorem nodup_le {l : List Nat} {n : Nat} (nd : l.Nodup) (h : ∀ x ∈ l, x < n) : l.length ≤ n := by
  have p : l.Perm ((List.range n).filter fun x => decide (x ∈ l)) := (List.perm_ext_iff_of_nodup nd (List.nodup_range.filter _)).mpr fun x => by
    simp only [List.mem_filter, List.mem_range, decide_eq_true_eq]
    exact ⟨fun q => ⟨h x q, q⟩, fun q => q.2⟩
  rw [p.length_eq]
  exact Nat.le_trans (List.length_filter_le _ _) (by simp)
def Lt (la : List (List Nat)) : Prop := ∀ i s, E la i s → i < s ∧ s < la.length
def spGrow (C : Addr) : FS := fun xs Φ => ∃ (la : List (List Nat)) (f g : List (Option Nat)) (t : Nat), xs = [Mz C la f g, .dat (.int (t : Nat))] ∧ t < la.length ∧ la.length ≤ 1000 ∧ Lt la ∧ MI la t f g ∧ ∀ f' g', MI la (t + 1) f' g' → Φ (.dat .non) [Mz C la f' g', .dat (.int (t : Nat))]
theorem rd_grow {K : PySem.W.Frag} {C : Addr} (hC : MC K C) : ∀ vs H Q E, toSp K (spGrow C) vs H Q E → t_Matching_grow K (toSp K (spChange C)) C { nx := fun _ H' => Q .non H', rt := Q } (L2.start N_Matching_grow vs) H := by
  refine body_of (np := 2) ?_
  rintro xs Φ ⟨la, f, g, t, rfl, ht, hn, lt, M, hk⟩
  refine ⟨rfl, ?_⟩
  show WS K [0, 1] _ [some (Mz C la f g), some (.dat (.int (t : Nat))), none, none, none, none, none] _
  have W := M.1
  have ft := M.2.2 t (Nat.le_refl _) ht
  walk_at "seq"
  refine ws_setE (we_dnewK ⟨by simp, by decide, ?_⟩)
  walk_at "fin"
  walk_at "seq"
  refine ws_setO (ds := [.int (t : Nat)]) (by walk_at "wo") (by walk_at "lt") (by decide) ?_
  walk_at "fin"
  walk_at "seq"
  walk_at "set"
  refine ws_while (fun k δ' => ∃ q m org o5 o6, Bfs la f g t q m org ∧ m ≤ q.length ∧ k = la.length + 1 - m ∧ δ' = [some (Mz C la f g), some (.dat (.int (t : Nat))), some (dicK (orgK org)), some (ovN q), some (.dat (.int (m : Nat))), o5, o6]) (la.length + 1) ⟨[t], 0, [], none, none, Bfs.start la f g t, by simp, by simp, rfl⟩ ?_
  rintro k _ ⟨q, m, org, o5, o6, B, hmq, rfl, rfl⟩
  refine wt_p (wt_test (wp_op (wp_var rfl) (wp_len_own (xs := (natD q).map OV.dat) (pl_var rfl)) rp_lt)) ?_
  rw [nat_len]
  have orgl : org.length ≤ la.length := by
    have := nodup_le (n := la.length) B.nd fun x hx => by
      obtain ⟨⟨s, i⟩, hp, rfl⟩ := List.mem_map.mp hx
      exact (lt i s (B.key s i hp).1).2
    simpa using this
  have ql := B.len
  by_cases c : m < q.length
  · rw [if_pos (by simp; omega)]
    obtain ⟨cq, hcq⟩ : ∃ cq, q[m]? = some cq := ⟨q[m], List.getElem?_eq_getElem c⟩
    have hcl : cq < la.length := by
      by_cases m0 : m = 0
      · subst m0; rw [B.q0] at hcq; obtain rfl := Option.some.inj hcq; exact ht
      · obtain ⟨s, i, j, h1, h2, _⟩ := B.que m cq hcq m0
        have := W.gf s cq h2 (by simp)
        rw [← W.fl]
        exact (List.getElem?_eq_some_iff.mp this).1
    obtain ⟨l, hl⟩ : ∃ l, la[cq]? = some l := ⟨la[cq], List.getElem?_eq_getElem hcl⟩
    walk_at "seq"
    refine ws_set (d := .int (cq : Nat)) (wp_ix_own (xs := (natD q).map OV.dat) (j := m) (pl_var rfl) (wp_var rfl) (ixN_nat (by rw [nat_len]; exact c)) (nat_get hcq)) (by walk_at "lt") (by decide) ?_
    walk_at "fin"
    walk_at "seq"
    refine ws_augI (b := 1) rfl wp_int (by decide) ?_
    walk_at "fin"
    refine ws_for (ds := natD l) (wi_lst (wp_lai hC rfl (wp_var rfl) hl)) (fun p δ' => ∃ q org o6, Bfs la f g t q m org ∧ q[m]? = some cq ∧ (∀ s ∈ l.take p, s ∈ org.map (·.1)) ∧ δ' = [some (Mz C la f g), some (.dat (.int (t : Nat))), some (dicK (orgK org)), some (ovN q), some (.dat (.int ((m : Int) + 1))), some (.dat (.int (cq : Nat))), o6]) ⟨q, org, o6, B, hcq, by simp, rfl⟩ ?_ ?_
    · rintro p d δ' hp ⟨q, org, o6, B, hcq, hpre, rfl⟩
      obtain ⟨s, hs, rfl⟩ : ∃ s : Nat, l[p]? = some s ∧ d = .int (s : Nat) := by
        unfold natD at hp
        rw [List.getElem?_map] at hp
        obtain ⟨s, h1, h2⟩ := Option.map_eq_some_iff.mp hp
        exact ⟨s, h1, h2.symm⟩
      have hE : E la cq s := ⟨l, hl, List.mem_of_getElem? hs⟩
      have hsl := (lt cq s hE).2
      have pre' : ∀ org' : List (Nat × Nat), (∀ x ∈ org.map (·.1), x ∈ org'.map (·.1)) → s ∈ org'.map (·.1) → ∀ x ∈ l.take (p + 1), x ∈ org'.map (·.1) := fun org' h1 h2 x hx => by
        rw [List.take_add_one, hs] at hx
        rcases List.mem_append.mp hx with h | h
        · exact h1 x (hpre x h)
        · obtain rfl : x = s := by simpa using h
          exact h2
      refine wg_name (by walk_at "lt") (by decide) ?_
      walk_at "fin"
      refine ws_if (wt_test (wp_nin_dicK (x := .inl (s : Int)) (wp_var rfl) (pl_var rfl))) ?_
      by_cases hin : s ∈ org.map (·.1)
      · obtain ⟨i, hi⟩ := lk_some hin
        rw [orgK_get, hi, if_neg (by simp)]
        exact ws_next ⟨q, org, _, B, hcq, pre' org (fun _ h => h) hin, rfl⟩
      · rw [orgK_get, lk_none hin, if_pos (by simp)]
        walk_at "seq"
        have orgl : org.length ≤ la.length := by
          have := nodup_le (n := la.length) B.nd fun x hx => by
            obtain ⟨⟨s, i⟩, hp, rfl⟩ := List.mem_map.mp hx
            exact (lt i s (B.key s i hp).1).2
          simpa using this
        refine ws_dputK (x := .inl (s : Int)) (wp_var rfl) (pm_var rfl) (wp_var rfl) (by simp [orgK]; omega) ?_
        walk_at "fin"
        rw [orgK_put hin]
        have hgl : s < g.length := by rw [W.gl]; exact hsl
        have hg : g[s]? = some g[s] := List.getElem?_eq_getElem hgl
        walk_at "seq"
        refine ws_if (wt_test (wp_op (wp_le hC rfl (wp_var rfl) hg) wp_int rp_lt)) ?_
        cases hgs : g[s] with
        | none =>
          rw [hgs] at hg
          rw [if_pos (by simp [en])]
          have nd2 : ((org ++ [(s, cq)]).map (·.1)).Nodup := by
            rw [List.map_append, List.nodup_append]
            exact ⟨B.nd, by simp, by rintro a ha b hb rfl; simp at hb; subst hb; exact hin ha⟩
          obtain ⟨k', f', g', ch, M'⟩ := grown M ft B hcq hE hin hsl hg (lk (org ++ [(s, cq)])) fun s' i h => lk_mem h nd2
          walk_at "seq"
          refine ws_drop (we_meth (i := 0) rfl (mz_no _) (wa_slt ⟨_, rfl⟩ (wa_p (wp_var rfl) (wa_nil ⟨[Mz C la f g, dicK (orgK (org ++ [(s, cq)])), .dat (.int (s : Nat))], rfl, by simp [slots], la, f, g, orgK (org ++ [(s, cq)]), lk (org ++ [(s, cq)]), k', s, f', g', rfl, ch, fun s' i h => by rw [orgK_get, h]; rfl, ?_⟩))))
          refine ws_retN ⟨[Mz C la f' g', .dat (.int (t : Nat))], rfl, hk f' g' M'⟩
        | some u =>
          rw [hgs] at hg
          rw [if_neg (by show ¬ decide ((u : Int) < 0) = true; rw [decide_eq_true_iff]; omega)]
          refine ws_next ?_
          refine ws_drop (we_append (xs := (natD q).map OV.dat) (pm_var rfl) (wp_le hC rfl (wp_var rfl) hg) (by rw [nat_len, B.len]; omega) ?_)
          walk_at "fin"
          have B' := B.add W ft hcq hE hin hg
          refine ⟨q ++ [u], org ++ [(s, cq)], some (.dat (.int (s : Nat))), B', ?_, pre' _ (fun x hx => by rw [List.map_append]; exact List.mem_append_left _ hx) (by simp), ?_⟩
          · rw [List.getElem?_append_left (List.getElem?_eq_some_iff.mp hcq).1]; exact hcq
          · rw [← ovN_app]; rfl
    · rintro _ ⟨q, org, o6, B, hcq, hpre, rfl⟩
      have hfl : (natD l).length = l.length := by simp [natD]
      rw [hfl, List.take_length] at hpre
      have B' := B.next hcq fun s hs => by
        obtain ⟨l', h1, h2⟩ := hs
        rw [hl] at h1
        obtain rfl := Option.some.inj h1
        exact hpre s h2
      have hml := (List.getElem?_eq_some_iff.mp hcq).1
      refine ⟨la.length + 1 - (m + 1), by omega, q, m + 1, org, some (.dat (.int (cq : Nat))), o6, B', hml, rfl, ?_⟩
      rw [show ((m + 1 : Nat) : Int) = (m : Int) + 1 by omega]
  · rw [if_neg (by simp; omega)]
    have e : m = q.length := by omega
    subst e
    exact ⟨[Mz C la f g, .dat (.int (t : Nat))], rfl, hk f g (failed M B)⟩
def spMInit (C : Addr) : FS := fun xs Φ => ∃ (la : List (List Nat)), xs = [.obj C [], .dat (latD la)] ∧ la.length ≤ 1000 ∧ Lt la ∧ ∀ f g, MI la la.length f g → Φ (.dat .non) [Mz C la f g, .dat (latD la)]
theorem rd_minit {K : PySem.W.Frag} {C : Addr} (hC : MC K C) : ∀ vs H Q E, toSp K (spMInit C) vs H Q E → t_Matching___init__ K (toSp K (spGrow C)) C { nx := fun _ H' => Q .non H', rt := Q } (L2.start N_Matching___init__ vs) H := by
  refine body_of (np := 2) ?_
  rintro xs Φ ⟨la, rfl, hn, lt, hk⟩
  refine ⟨rfl, ?_⟩
  show WS K [0, 1] _ [some (.obj C []), some (.dat (latD la)), none] _
  have hll : (la.map fun l => D.lst (natD l)).length = la.length := by simp
  have neg1 : ∀ δ : Dl, WP K (tLst (tCons (tUn (rU fun i => .int (-i)) (tC (.int 1))) tNil)) δ (.lst [.int (-1)]) := fun δ => wp_o (wo_lst (wpa_cons ((wp_un wp_int up_neg).to rfl) wpa_nil) (by simp))
  have rep : ∀ n : Nat, (List.replicate n (D.int (-1))).map OV.dat = (onD (List.replicate n none)).map OV.dat := fun n => by
    unfold onD
    rw [List.map_replicate, List.map_replicate, List.map_replicate]; rfl
  walk_at "seq"
  refine ws_fld (we_pd (wp_var rfl)) (pm_var rfl) hC.cls hC.la (by show 0 < 900; decide) ?_
  walk_at "fin"
  walk_at "seq"
  refine ws_fld (x := onO (List.replicate la.length none)) (by
    have := we_od (wo_rep1 (K := K) (δ := [some (.obj C (pF ("later" : PySem.Str) (.dat (latD la)) [])), some (.dat (latD la)), none]) (x := .int (-1)) (n := ((la.map fun l => D.lst (natD l)).length : Nat)) (neg1 _) (wp_cb (wpa_cons (wp_var (i := 1) rfl) wpa_nil) cp_len_lst) (by omega) (by omega))
    rw [hll, Int.toNat_natCast, rep] at this
    exact this) (pm_var rfl) hC.cls hC.fo (by show 1 < 900; decide) ?_
  walk_at "fin"
  walk_at "seq"
  refine ws_fld (x := onO (List.replicate la.length none)) (by
    have := we_od (wo_rep1 (K := K) (δ := [some (.obj C (pF ("following" : PySem.Str) (onO (List.replicate la.length none)) (pF ("later" : PySem.Str) (.dat (latD la)) []))), some (.dat (latD la)), none]) (x := .int (-1)) (n := ((la.map fun l => D.lst (natD l)).length : Nat)) (neg1 _) (wp_cb (wpa_cons (wp_var (i := 1) rfl) wpa_nil) cp_len_lst) (by omega) (by omega))
    rw [hll, Int.toNat_natCast, rep] at this
    exact this) (pm_var rfl) hC.cls hC.le (by show 2 < 900; decide) ?_
  walk_at "fin"
  show WS K [0, 1] _ [some (Mz C la (List.replicate la.length none) (List.replicate la.length none)), some (.dat (latD la)), none] _
  refine ws_for (ds := rgD 0 la.length) (by
    have := wi_rng1 (K := K) (δ := [some (Mz C la (List.replicate la.length none) (List.replicate la.length none)), some (.dat (latD la)), none]) (ta := tCons (tCB (rLEN K) (tCons (tVar 1) tNil)) tNil) (j := ((la.map fun l => D.lst (natD l)).length : Nat)) (wpa_cons (wp_cb (wpa_cons (wp_var rfl) wpa_nil) cp_len_lst) wpa_nil) (by omega) (by omega)
    rw [hll] at this
    exact this) (fun t δ' => ∃ f g o2, MI la t f g ∧ δ' = [some (Mz C la f g), some (.dat (latD la)), o2]) ⟨_, _, none, ?_, rfl⟩ ?_ ?_
  · have hr : ∀ (i : Nat) (x : Option Nat), (List.replicate la.length (none : Option Nat))[i]? = some x → x = none := fun i x h => by
      obtain ⟨h1, h2⟩ := List.getElem?_eq_some_iff.mp h
      simpa using h2.symm
    refine ⟨⟨by simp, by simp, fun i r h => (nomatch hr i _ h), fun r i h _ => (nomatch hr r _ h)⟩, ⟨fun _ => False, fun r h => h.elim, fun u h => by omega⟩, fun u _ hu => by simp [hu]⟩
  · rintro t d δ' hi ⟨f, g, o2, M, rfl⟩
    have htc : t < la.length := by have := get_lt hi; rwa [rgD_length] at this
    rw [rgD_get htc] at hi
    cases hi
    refine wg_name (by walk_at "lt") (by decide) ?_
    walk_at "fin"
    rw [Int.zero_add]
    refine ws_drop (we_meth (i := 0) rfl (mz_no _) (wa_p (wp_var rfl) (wa_nil ⟨[Mz C la f g, .dat (.int (t : Nat))], rfl, by simp [slots], la, f, g, t, rfl, htc, hn, lt, M, fun f' g' M' => ?_⟩)))
    exact ⟨f', g', _, M', rfl⟩
  · rintro _ ⟨f, g, o2, M, rfl⟩
    rw [rgD_length] at M
    exact ⟨[Mz C la f g, .dat (latD la)], rfl, hk f g M⟩
end Rd
namespace Rd
open PySem PySem.Spec L2 Pw Gn M56
local macro_rules | `(tactic| walk_at "side") => `(tactic| first | assumption | omega | decide | (unfold CMul; omega) | (unfold CDiv; omega) | (unfold CPow; decide) | (simp; omega) | (simp; done))
local macro_rules | `(tactic| walk_at "rp") => `(tactic| first
  | exact rp_add_int | exact rp_sub | exact rp_eq_int | exact rp_ne_int | exact rp_lt | exact rp_le | exact rp_gt | exact rp_ge
  | exact rp_mod (by walk_at "side") | exact rp_mul (by walk_at "side") | exact rp_fdiv (by walk_at "side") | exact rp_pow (by walk_at "side")
  | exact rp_eq_str | exact rp_ne_str | exact rp_add_str (by walk_at "side") | exact rp_in_sg | exact rp_nin_sg | exact rp_add_tup (by walk_at "side")
  | exact rp_ix_tup (by walk_at "at") | exact rp_ix_lst (by walk_at "at") | exact rp_ix_str (by walk_at "side") (by walk_at "at"))
local macro_rules | `(tactic| walk_at "at") => `(tactic| first | rfl | assumption | (exact atI_nat (by first | rfl | assumption)))
local macro_rules | `(tactic| walk_at "wpa") => `(tactic| first | exact wpa_nil | (apply wpa_cons; (focus walk_at "wp"); walk_at "wpa"))
local macro_rules | `(tactic| walk_at "pl") => `(tactic| first | exact pl_var rfl | (apply pl_fld; (focus walk_at "pl"); (focus assumption); (focus assumption); rfl))
local macro_rules | `(tactic| walk_at "wp") => `(tactic| first
  | assumption
  | exact wp_var rfl | exact wp_int | exact wp_str | exact wp_bl | exact wp_non
  | (apply wp_len_own; (focus walk_at "pl"))
  | (apply wp_op; (focus walk_at "wp"); (focus walk_at "wp"); walk_at "rp")
  | (apply wp_cb; (focus walk_at "wpa"); first | exact cp_int | exact cp_int_bl | exact cp_len_lst | exact cp_len_tup | exact cp_len_str (by walk_at "side") | exact cp_tuple_lst | exact cp_tuple_tup | exact cp_str (by walk_at "side"))
  | (apply wp_tup; (focus walk_at "wpa"); (first | decide | simp))
  | (apply wp_un; (focus walk_at "wp"); exact up_neg)
  | (apply wp_l; walk_at "pl")
  | (apply wp_fld; (focus walk_at "wp"); (focus assumption); (focus assumption); rfl)
  | (apply wp_o; walk_at "wo")
  | (apply wp_notV; walk_at "wp"))
local macro_rules | `(tactic| walk_at "wo") => `(tactic| first
  | (apply wo_lst; (focus walk_at "wpa"); (first | decide | simp))
  | (apply wo_cb; (focus walk_at "wpa"); first | exact co_list_lst | exact co_list_tup | exact co_list_scr))
local macro_rules | `(tactic| walk_at "wt") => `(tactic| first
  | (apply wt_test; walk_at "wp") | (apply wt_tru; walk_at "wp") | (apply wt_B; walk_at "wp") | (apply wt_not; walk_at "wt")
  | (apply wt_and; (focus walk_at "wt"); (intro _; walk_at "wt")) | (apply wt_or; (focus walk_at "wt"); (intro _; walk_at "wt")))
local macro_rules | `(tactic| walk_at "fin") => `(tactic| (try simp only [List.set_cons_zero, List.set_cons_succ]))
local macro_rules | `(tactic| walk_at "lt") => `(tactic| first | decide | (simp only [List.length_cons, List.length_nil]; omega) | (simp; done))
local macro_rules | `(tactic| walk_at "seq") => `(tactic| (refine ws_seq ?_))
local macro_rules | `(tactic| walk_at "set") => `(tactic| (refine ws_set (by walk_at "wp") (by walk_at "lt") (by decide) ?_; walk_at "fin"))
local macro_rules | `(tactic| walk_at "setO") => `(tactic| (refine ws_setO (by walk_at "wo") (by walk_at "lt") (by decide) ?_; walk_at "fin"))
local macro_rules | `(tactic| walk_at "ret") => `(tactic| (refine ws_ret (by walk_at "wp") ?_))
local macro_rules | `(tactic| walk_at "if") => `(tactic| (refine ws_if (by walk_at "wt") ?_))
theorem ix_last {n : Nat} (h : 0 < n) : ixN n (-1) = some (n - 1) := by
  unfold ixN
  rw [if_neg (by decide), if_pos (by omega)]
  congr 1
  omega
def llO (rows : List (List Nat)) : OV := .lst ((rows.map fun l => D.lst (natD l)).map OV.dat)
theorem starts_succ {g : List (Option Nat)} {n : Nat} : starts g (n + 1) = starts g n ++ (if g[n]? = some none then [n] else []) := by
  unfold starts
  rw [List.range_succ, List.filter_append, List.filter_cons, List.filter_nil]
  by_cases h : g[n]? = some none <;> simp [h]
def spRows (C : Addr) : FS := fun xs Φ => ∃ (la : List (List Nat)) (f g : List (Option Nat)), xs = [Mz C la f g] ∧ la.length ≤ 1000 ∧ Lt la ∧ WF la f g none ∧ ∀ rows, RowsOf f g la.length rows → Φ (.dat (latD rows)) [Mz C la f g]
theorem rd_rows {K : PySem.W.Frag} {C : Addr} (hC : MC K C) : ∀ vs H Q E, toSp K (spRows C) vs H Q E → t_Matching_rows K { nx := fun _ H' => Q .non H', rt := Q } (L2.start N_Matching_rows vs) H := by
  refine body_of (np := 1) ?_
  rintro xs Φ ⟨la, f, g, rfl, hn, lt, W, hk⟩
  refine ⟨rfl, ?_⟩
  show WS K [0] _ [some (Mz C la f g), none, none, none] _
  have hll : (la.map fun l => D.lst (natD l)).length = la.length := by simp
  walk_at "seq"
  walk_at "setO"
  walk_at "seq"
  refine ws_for (ds := rgD 0 la.length) (by
    have := wi_rng1 (K := K) (δ := [some (Mz C la f g), some (.lst (([] : List D).map OV.dat)), none, none]) (ta := tCons (tCB (rLEN K) (tCons (tFld K (tVar 0) ("later" : PySem.Str)) tNil)) tNil) (j := ((la.map fun l => D.lst (natD l)).length : Nat)) (wpa_cons (wp_cb (wpa_cons (wp_la hC rfl) wpa_nil) cp_len_lst) wpa_nil) (by omega) (by omega)
    rw [hll] at this
    exact this) (fun t δ' => ∃ rows o2 o3, RowsOf f g t rows ∧ t ≤ la.length ∧ δ' = [some (Mz C la f g), some (llO rows), o2, o3]) ⟨[], none, none, ⟨by simp [starts], fun k e r h => by simp [starts] at h⟩, Nat.zero_le _, rfl⟩ ?_ ?_
  · rintro t d δ' hi ⟨rows, o2, o3, hr, _, rfl⟩
    have htc : t < la.length := by have := get_lt hi; rwa [rgD_length] at this
    rw [rgD_get htc] at hi
    cases hi
    refine wg_name (by walk_at "lt") (by decide) ?_
    walk_at "fin"
    rw [Int.zero_add]
    have hgl : t < g.length := by rw [W.gl]; exact htc
    have hg : g[t]? = some g[t] := List.getElem?_eq_getElem hgl
    refine ws_if (wt_test (wp_op (wp_le hC rfl (wp_var rfl) hg) wp_int rp_lt)) ?_
    cases hgt : g[t] with
    | some u =>
      rw [hgt] at hg
      rw [if_neg (by show ¬ decide ((u : Int) < 0) = true; rw [decide_eq_true_iff]; omega)]
      refine ws_next ⟨rows, _, _, ?_, htc, rfl⟩
      unfold RowsOf at hr ⊢
      rw [starts_succ, hg, if_neg (by simp), List.append_nil]
      exact hr
    | none =>
      rw [hgt] at hg
      rw [if_pos (by simp [en])]
      walk_at "seq"
      refine ws_setO (ds := [.int (t : Nat)]) (by walk_at "wo") (by walk_at "lt") (by decide) ?_
      walk_at "fin"
      walk_at "seq"
      have finish : ∀ r : List Nat, Row f t r → ∃ rows' o2 o3, RowsOf f g (t + 1) rows' ∧ t + 1 ≤ la.length ∧ [some (Mz C la f g), some (llO (rows ++ [r])), some (.dat (.int (t : Nat))), some (.dat (.lst (natD r)))] = [some (Mz C la f g), some (llO rows'), o2, o3] := fun r hR => by
        refine ⟨rows ++ [r], some (.dat (.int (t : Nat))), some (.dat (.lst (natD r))), ?_, htc, rfl⟩
        unfold RowsOf at hr ⊢
        rw [starts_succ, hg, if_pos rfl]
        refine ⟨by simp [hr.1], fun k e r' h1 h2 => ?_⟩
        by_cases hkl : k < rows.length
        · rw [List.getElem?_append_left hkl] at h2
          rw [List.getElem?_append_left (by rw [← hr.1]; exact hkl)] at h1
          exact hr.2 k e r' h1 h2
        · have hke : k = rows.length := by
            have := (List.getElem?_eq_some_iff.mp h2).1
            simp at this; omega
          subst hke
          obtain rfl : r = r' := by simpa using h2
          rw [hr.1] at h1
          obtain rfl : t = e := by simpa using h1
          exact hR
      refine ws_while (fun m δ' => ∃ r x, (∀ tl, Row f x tl → Row f t (r ++ tl)) ∧ x < la.length ∧ m = la.length - x ∧ r.length + 1 ≤ x + 1 ∧ δ' = [some (Mz C la f g), some (llO rows), some (.dat (.int (t : Nat))), some (ovN (r ++ [x]))]) (la.length - t) ⟨[], t, fun tl h => h, htc, rfl, by simp, rfl⟩ ?_
      rintro m _ ⟨r, x, hrx, hxl, rfl, hrl, rfl⟩
      have hfl : x < f.length := by rw [W.fl]; exact hxl
      have hf : f[x]? = some f[x] := List.getElem?_eq_getElem hfl
      have last : WP K (tOp (rIX K) (tVar 3) (tUn (rU fun i => .int (-i)) (tC (.int 1)))) [some (Mz C la f g), some (llO rows), some (.dat (.int (t : Nat))), some (ovN (r ++ [x]))] (.int (x : Nat)) :=
        wp_ix_own (xs := (natD (r ++ [x])).map OV.dat) (j := r.length) (pl_var rfl) ((wp_un wp_int up_neg).to rfl) (by rw [nat_len, List.length_append, List.length_singleton, ix_last (by omega)]; simp) (nat_get (by simp))
      refine wt_p (wt_test (wp_op (wp_fo hC rfl last hf) wp_int rp_ge)) ?_
      cases hfx : f[x] with
      | none =>
        rw [hfx] at hf
        rw [if_neg (by simp [en])]
        refine ws_fz 3 (d := .lst (natD (r ++ [x]))) rfl ovN_fz ?_
        walk_at "fin"
        have hrl2 : rows.length ≤ t := by
          rw [hr.1]; exact Nat.le_trans (List.length_filter_le _ _) (by simp)
        refine ws_drop (we_append (xs := (rows.map fun l => D.lst (natD l)).map OV.dat) (pm_var rfl) (wp_var rfl) (by simp; omega) ?_)
        walk_at "fin"
        have : OV.lst ((rows.map fun l => D.lst (natD l)).map OV.dat ++ [.dat (.lst (natD (r ++ [x])))]) = llO (rows ++ [r ++ [x]]) := by simp [llO]
        rw [this]
        exact finish _ (hrx _ (.last hf))
      | some s =>
        rw [hfx] at hf
        rw [if_pos (by show decide ((0 : Int) ≤ (s : Int)) = true; rw [decide_eq_true_iff]; omega)]
        have hE := (W.fg x s hf).2.2
        obtain ⟨l1, l2⟩ := lt x s hE
        refine ws_drop (we_append (xs := (natD (r ++ [x])).map OV.dat) (pm_var rfl) (wp_fo hC rfl last hf) (by rw [nat_len]; simp; omega) ?_)
        walk_at "fin"
        refine ⟨la.length - s, by omega, r ++ [x], s, fun tl h => ?_, l2, rfl, by simp; omega, ?_⟩
        · rw [List.append_assoc]
          exact hrx _ (.more hf h)
        · rw [← ovN_app]; rfl
  · rintro _ ⟨rows, o2, o3, hr, _, rfl⟩
    rw [rgD_length] at hr
    refine ws_fz 1 (d := latD rows) rfl fz_dat ?_
    walk_at "fin"
    exact ws_ret (wp_var rfl) ⟨[Mz C la f g], rfl, hk rows hr⟩
end Rd
namespace Rd
open PySem PySem.Spec L2 Pw Gn M56
local macro_rules | `(tactic| walk_at "side") => `(tactic| first | assumption | omega | decide | (unfold CMul; omega) | (unfold CDiv; omega) | (unfold CPow; decide) | (simp; omega) | (simp; done))
local macro_rules | `(tactic| walk_at "rp") => `(tactic| first
  | exact rp_add_int | exact rp_sub | exact rp_eq_int | exact rp_ne_int | exact rp_lt | exact rp_le | exact rp_gt | exact rp_ge
  | exact rp_mod (by walk_at "side") | exact rp_mul (by walk_at "side") | exact rp_fdiv (by walk_at "side") | exact rp_pow (by walk_at "side")
  | exact rp_eq_str | exact rp_ne_str | exact rp_add_str (by walk_at "side") | exact rp_in_sg | exact rp_nin_sg | exact rp_add_tup (by walk_at "side")
  | exact rp_ix_tup (by walk_at "at") | exact rp_ix_lst (by walk_at "at") | exact rp_ix_str (by walk_at "side") (by walk_at "at"))
local macro_rules | `(tactic| walk_at "at") => `(tactic| first | rfl | assumption | (exact atI_nat (by first | rfl | assumption)))
local macro_rules | `(tactic| walk_at "wpa") => `(tactic| first | exact wpa_nil | (apply wpa_cons; (focus walk_at "wp"); walk_at "wpa"))
local macro_rules | `(tactic| walk_at "pl") => `(tactic| first | exact pl_var rfl | (apply pl_fld; (focus walk_at "pl"); (focus assumption); (focus assumption); rfl))
local macro_rules | `(tactic| walk_at "wp") => `(tactic| first
  | assumption
  | exact wp_var rfl | exact wp_int | exact wp_str | exact wp_bl | exact wp_non
  | (apply wp_len_own; (focus walk_at "pl"))
  | (apply wp_op; (focus walk_at "wp"); (focus walk_at "wp"); walk_at "rp")
  | (apply wp_cb; (focus walk_at "wpa"); first | exact cp_int | exact cp_int_bl | exact cp_len_lst | exact cp_len_tup | exact cp_len_str (by walk_at "side") | exact cp_tuple_lst | exact cp_tuple_tup | exact cp_str (by walk_at "side"))
  | (apply wp_tup; (focus walk_at "wpa"); (first | decide | simp))
  | (apply wp_un; (focus walk_at "wp"); exact up_neg)
  | (apply wp_l; walk_at "pl")
  | (apply wp_fld; (focus walk_at "wp"); (focus assumption); (focus assumption); rfl)
  | (apply wp_o; walk_at "wo")
  | (apply wp_notV; walk_at "wp"))
local macro_rules | `(tactic| walk_at "wo") => `(tactic| first
  | (apply wo_lst; (focus walk_at "wpa"); (first | decide | simp))
  | (apply wo_cb; (focus walk_at "wpa"); first | exact co_list_lst | exact co_list_tup | exact co_list_scr))
local macro_rules | `(tactic| walk_at "wt") => `(tactic| first
  | (apply wt_test; walk_at "wp") | (apply wt_tru; walk_at "wp") | (apply wt_B; walk_at "wp") | (apply wt_not; walk_at "wt")
  | (apply wt_and; (focus walk_at "wt"); (intro _; walk_at "wt")) | (apply wt_or; (focus walk_at "wt"); (intro _; walk_at "wt")))
local macro_rules | `(tactic| walk_at "fin") => `(tactic| (try simp only [List.set_cons_zero, List.set_cons_succ]))
local macro_rules | `(tactic| walk_at "lt") => `(tactic| first | decide | (simp only [List.length_cons, List.length_nil]; omega) | (simp; done))
local macro_rules | `(tactic| walk_at "seq") => `(tactic| (refine ws_seq ?_))
local macro_rules | `(tactic| walk_at "set") => `(tactic| (refine ws_set (by walk_at "wp") (by walk_at "lt") (by decide) ?_; walk_at "fin"))
local macro_rules | `(tactic| walk_at "setO") => `(tactic| (refine ws_setO (by walk_at "wo") (by walk_at "lt") (by decide) ?_; walk_at "fin"))
local macro_rules | `(tactic| walk_at "ret") => `(tactic| (refine ws_ret (by walk_at "wp") ?_))
local macro_rules | `(tactic| walk_at "if") => `(tactic| (refine ws_if (by walk_at "wt") ?_))
def HasK (kv : List (Key × D)) (l : List Nat) : Prop := ∀ u : Nat, (gK kv (.inl (u : Int))).isSome = true ↔ u ∈ l
theorem hasK_put {kv : List (Key × D)} {l : List Nat} {x : Nat} {d : D} (h : HasK kv l) : HasK (pK kv (.inl (x : Int)) d) (l ++ [x]) := fun u => by
  rw [gK_put]
  by_cases e : u = x
  · subst e; simp
  · rw [if_neg (fun q => e (by have := Sum.inl.inj q; omega)), h u]; simp [e]
theorem hasK_fold {l : List Nat} : ∀ {kv : List (Key × D)} {m : List Nat}, HasK kv m → HasK ((l.map fun (x : Nat) => (x : Int)).foldl (fun acc n => pK acc (.inl n) (.bl true)) kv) (m ++ l) := by
  induction l with
  | nil => intro kv m h; simpa using h
  | cons x l ih =>
    intro kv m h
    rw [List.map_cons, List.foldl_cons, show m ++ x :: l = (m ++ [x]) ++ l by simp]
    exact ih (hasK_put h)
theorem hasK_same {kv : List (Key × D)} {l m : List Nat} (h : HasK kv l) (e : ∀ x, x ∈ l ↔ x ∈ m) : HasK kv m := fun u => (h u).trans (e u)
theorem wp_inK {K : PySem.W.Frag} {δ : Dl} {t : TE} {i u : Nat} {kv : List (Key × D)} {l : List Nat} (ht : WP K t δ (.int (u : Nat))) (h : δ[i]? = some (some (dicK kv))) (hk : HasK kv l) : WP K (tOp (rIN K) t (tVar i)) δ (.bl (decide (u ∈ l))) :=
  (wp_in_dicK (x := .inl (u : Int)) ht (pl_var h)).to (by congr 1; exact Bool.eq_iff_iff.mpr (by rw [hk u, decide_eq_true_iff]))
theorem wp_ninK {K : PySem.W.Frag} {δ : Dl} {t : TE} {i u : Nat} {kv : List (Key × D)} {l : List Nat} (ht : WP K t δ (.int (u : Nat))) (h : δ[i]? = some (some (dicK kv))) (hk : HasK kv l) : WP K (tOp (rNIN K) t (tVar i)) δ (.bl (!decide (u ∈ l))) :=
  (wp_nin_dicK (x := .inl (u : Int)) ht (pl_var h)).to (by congr 2; exact Bool.eq_iff_iff.mpr (by rw [hk u, decide_eq_true_iff]))
theorem pK_short {kv : List (Key × D)} {k : Key} {d : D} {n : Nat} (h : kv.length ≤ n) : (pK kv k d).length ≤ n + 1 := by
  have := pK_len (kvs := kv) (k := k) (d := d)
  omega
def spApart (C : Addr) : FS := fun xs Φ => ∃ (la : List (List Nat)) (f g : List (Option Nat)), xs = [Mz C la f g] ∧ la.length ≤ 500 ∧ (∀ l ∈ la, l.length ≤ 500) ∧ Lt la ∧ MI la la.length f g ∧ ∀ F S : Nat → Bool, Parts la f g F S → Φ (.dat (.lst (natD ((List.range la.length).filter fun e => F e && !S e)))) [Mz C la f g]
theorem rd_apart {K : PySem.W.Frag} {C : Addr} (hC : MC K C) : ∀ vs H Q E, toSp K (spApart C) vs H Q E → t_Matching_apart K { nx := fun _ H' => Q .non H', rt := Q } (L2.start N_Matching_apart vs) H := by
  refine body_of (np := 1) ?_
  rintro xs Φ ⟨la, f, g, rfl, hn, hn2, lt, ⟨W, ⟨R, hR, hu⟩, _⟩, hk⟩
  refine ⟨rfl, ?_⟩
  show WS K [0] _ [some (Mz C la f g), none, none, none, none, none, none, none] _
  have hll : (la.map fun l => D.lst (natD l)).length = la.length := by simp
  have rng : ∀ δ : Dl, δ[0]? = some (some (Mz C la f g)) → WI K (iRng1 (tCons (tCB (rLEN K) (tCons (tFld K (tVar 0) ("later" : PySem.Str)) tNil)) tNil)) δ ((List.range la.length).map fun (k : Nat) => D.int (0 + (k : Int))) := fun δ h => by
    have := wi_rng1 (K := K) (δ := δ) (ta := tCons (tCB (rLEN K) (tCons (tFld K (tVar 0) ("later" : PySem.Str)) tNil)) tNil) (j := ((la.map fun l => D.lst (natD l)).length : Nat)) (wpa_cons (wp_cb (wpa_cons (wp_la hC h) wpa_nil) cp_len_lst) wpa_nil) (by omega) (by omega)
    rw [hll] at this
    exact this
  let q0 : List Nat := (List.range la.length).filter fun e => decide (f[e]? = some none)
  walk_at "seq"
  refine ws_setO (ds := natD q0) (by
    have := wo_lc (K := K) (δ := [some (Mz C la f g), none, none, none, none, none, none, none]) (ks := List.range la.length) (enc := fun (k : Nat) => D.int (0 + (k : Int))) (p := fun e => decide (f[e]? = some none)) (f := fun (k : Nat) => D.int (k : Int)) (vs := [7]) (g := gName 7) (tt := tTest (tOp (rLT K) (tOp (rIX K) (tFld K (tVar 0) ("following" : PySem.Str)) (tVar 7)) (tC (.int 0)))) (te := tVar 7) (rng _ rfl) (by simp) (by simp; omega) fun k hk => by
      have hkl : k < f.length := by rw [W.fl]; exact List.mem_range.mp hk
      have hf : f[k]? = some f[k] := List.getElem?_eq_getElem hkl
      refine wc_name (by simp) rfl ⟨(wt_test (wp_op (wp_fo (i := k) hC rfl ((wp_var rfl).to (by rw [Int.zero_add])) hf) wp_int rp_lt)).to ?_, fun _ => (wp_var rfl).to (by rw [Int.zero_add])⟩
      rw [hf]
      apply decide_eq_decide.mpr
      cases f[k] with
      | none => simp [en]
      | some u =>
        constructor
        · intro h
          have h : (u : Int) < 0 := h
          omega
        · intro h; simp at h
    exact this) (by walk_at "lt") (by decide) ?_
  walk_at "fin"
  walk_at "seq"
  have q0l : q0.length ≤ la.length := Nat.le_trans (List.length_filter_le _ _) (by simp)
  refine ws_setE (by
    refine we_dcKeys (ns := q0.map fun (x : Nat) => (x : Int)) (j := 1) (i := 7) (by rw [← natD_eq]; rfl) rfl (by rw [List.length_map]; omega) ⟨by simp, by decide, ?_⟩
    walk_at "fin"
    generalize hkv : (q0.map fun (x : Nat) => (x : Int)).foldl (fun acc n => pK acc (.inl n) (.bl true)) ([] : List (Key × D)) = kv0
    have hkF : HasK kv0 q0 := by
      rw [← hkv]
      have := hasK_fold (l := q0) (kv := []) (m := []) (fun u => by simp [gK_nil])
      simpa using this
    have hkl : kv0.length ≤ 500 := by
      rw [← hkv]
      have : ∀ (l : List Int) (acc : List (Key × D)), (l.foldl (fun acc n => pK acc (.inl n) (.bl true)) acc).length ≤ acc.length + l.length := by
        intro l
        induction l with
        | nil => intro acc; simp
        | cons n l ih =>
          intro acc
          have h1 := ih (pK acc (.inl n) (.bl true))
          have h2 := pK_len (kvs := acc) (k := (Sum.inl n : Key)) (d := D.bl true)
          rw [List.foldl_cons, List.length_cons]
          omega
      have := this (q0.map fun (x : Nat) => (x : Int)) []
      rw [List.length_map] at this
      simp at this
      omega
    walk_at "seq"
    refine ws_setE (we_dnewK ⟨by simp, by decide, ?_⟩)
    walk_at "fin"
    walk_at "seq"
    walk_at "set"
    walk_at "seq"
    refine ws_while (fun z δ' => ∃ (q Sl : List Nat) (m : Nat) (kF kS : List (Key × D)) (o5 o6 : Option OV), HasK kF q ∧ HasK kS Sl ∧ (∀ e : Nat, f[e]? = some none → e ∈ q) ∧ (∀ (k u : Nat), q[k]? = some u → k < m → ∀ s, E la u s → s ∈ Sl) ∧ (∀ s ∈ Sl, ∀ v : Nat, g[s]? = some (some v) → v ∈ q) ∧ (∀ s ∈ Sl, ∃ u ∈ q, E la u s) ∧ (∀ u ∈ q, ∀ s, E la u s → R s) ∧ (∀ s ∈ Sl, R s) ∧ q.Nodup ∧ (∀ u ∈ q, u < la.length) ∧ m ≤ q.length ∧ kF.length ≤ 500 + q.length ∧ kS.length ≤ m * 500 ∧ z = la.length - m ∧
      δ' = [some (Mz C la f g), some (ovN q), some (dicK kF), some (dicK kS), some (.dat (.int (m : Nat))), o5, o6, none]) la.length
      ⟨q0, [], 0, kv0, [], none, none, hkF, fun u => by simp [gK_nil], fun e he => ?_, fun k u _ h => by omega, by simp, by simp, fun u hq s hs => ?_, by simp, List.nodup_range.filter _, fun u hq => List.mem_range.mp (List.mem_filter.mp hq).1, Nat.zero_le _, by omega, by simp, rfl, rfl⟩ ?_
    · refine List.mem_filter.mpr ⟨List.mem_range.mpr ?_, by simpa using he⟩
      rw [← W.fl]; exact (List.getElem?_eq_some_iff.mp he).1
    · obtain ⟨h1, h2⟩ := List.mem_filter.mp hq
      exact hu u (List.mem_range.mp h1) (by simpa using h2) s hs
    rintro z _ ⟨q, Sl, m, kF, kS, o5, o6, hF, hS, h0, hp, hsf, hsr, hqR, hSR, qn, qlt, hmq, lF, lS, rfl, rfl⟩
    have ql := nodup_le qn qlt
    refine wt_p (wt_test (wp_op (wp_var rfl) (wp_len_own (xs := (natD q).map OV.dat) (pl_var rfl)) rp_lt)) ?_
    rw [nat_len]
    by_cases c : m < q.length
    · rw [if_pos (by simp; omega)]
      obtain ⟨u, hqu⟩ : ∃ u, q[m]? = some u := ⟨q[m], List.getElem?_eq_getElem c⟩
      have hul := qlt u (List.mem_of_getElem? hqu)
      obtain ⟨l, hl⟩ : ∃ l, la[u]? = some l := ⟨la[u], List.getElem?_eq_getElem hul⟩
      have hl500 := hn2 l (List.mem_of_getElem? hl)
      walk_at "seq"
      refine ws_for (ds := natD l) (wi_lst (wp_lai hC rfl (wp_ix_own (xs := (natD q).map OV.dat) (j := m) (pl_var rfl) (wp_var rfl) (ixN_nat (by rw [nat_len]; exact c)) (nat_get hqu)) hl))
        (fun p δ' => ∃ (q Sl : List Nat) (kF kS : List (Key × D)) (o5 o6 : Option OV), HasK kF q ∧ HasK kS Sl ∧ (∀ e : Nat, f[e]? = some none → e ∈ q) ∧ (∀ (k u : Nat), q[k]? = some u → k < m → ∀ s, E la u s → s ∈ Sl) ∧ (∀ s ∈ Sl, ∀ v : Nat, g[s]? = some (some v) → v ∈ q) ∧ (∀ s ∈ Sl, ∃ u ∈ q, E la u s) ∧ (∀ u ∈ q, ∀ s, E la u s → R s) ∧ (∀ s ∈ Sl, R s) ∧ q.Nodup ∧ (∀ u ∈ q, u < la.length) ∧ q[m]? = some u ∧ (∀ s ∈ l.take p, s ∈ Sl) ∧ kF.length ≤ 500 + q.length ∧ kS.length ≤ m * 500 + p ∧ p ≤ l.length ∧
          δ' = [some (Mz C la f g), some (ovN q), some (dicK kF), some (dicK kS), some (.dat (.int (m : Nat))), o5, o6, none]) ⟨q, Sl, kF, kS, o5, o6, hF, hS, h0, hp, hsf, hsr, hqR, hSR, qn, qlt, hqu, by simp, lF, by omega, Nat.zero_le _, rfl⟩ ?_ ?_
      · rintro p d δ' hpd ⟨q, Sl, kF, kS, o5, o6, hF, hS, h0, hp, hsf, hsr, hqR, hSR, qn, qlt, hqu, hpre, lF, lS, hpl, rfl⟩
        have ql := nodup_le qn qlt
        obtain ⟨s, hs, rfl⟩ : ∃ s : Nat, l[p]? = some s ∧ d = .int (s : Nat) := by
          unfold natD at hpd
          rw [List.getElem?_map] at hpd
          obtain ⟨s, h1, h2⟩ := Option.map_eq_some_iff.mp hpd
          exact ⟨s, h1, h2.symm⟩
        have hpl' := (List.getElem?_eq_some_iff.mp hs).1
        have hE : E la u s := ⟨l, hl, List.mem_of_getElem? hs⟩
        have hsl := (lt u s hE).2
        have hRs : R s := hqR u (List.mem_of_getElem? hqu) s hE
        obtain ⟨v, hgv, hvR⟩ := hR s hRs
        have fv := W.gf s v hgv (by simp)
        have hvl : v < la.length := by rw [← W.fl]; exact (List.getElem?_eq_some_iff.mp fv).1
        have pre' : ∀ x ∈ l.take (p + 1), x ∈ Sl ++ [s] := fun x hx => by
          rw [List.take_add_one, hs] at hx
          rcases List.mem_append.mp hx with h | h
          · exact List.mem_append_left _ (hpre x h)
          · obtain rfl : x = s := by simpa using h
            simp
        refine wg_name (by walk_at "lt") (by decide) ?_
        walk_at "fin"
        walk_at "seq"
        refine ws_dputK (x := .inl (s : Int)) wp_bl (pm_var rfl) (wp_var rfl) (by
          have : m * 500 ≤ 500 * 500 := Nat.mul_le_mul_right _ (by omega)
          omega) ?_
        walk_at "fin"
        have hS' := hasK_put (x := s) (d := .bl true) hS
        have lS' : (pK kS (.inl (s : Int)) (.bl true)).length ≤ m * 500 + (p + 1) := pK_short lS
        walk_at "seq"
        refine ws_set (d := .int (v : Nat)) (wp_le hC rfl (wp_var rfl) hgv) (by walk_at "lt") (by decide) ?_
        walk_at "fin"
        refine ws_if (wt_and (wt_test (wp_op (wp_var rfl) wp_int rp_ge)) fun _ => wt_test (wp_ninK (i := 2) (wp_var rfl) rfl hF)) ?_
        rw [decide_eq_true (show (0 : Int) ≤ (v : Int) by omega), Bool.true_and]
        by_cases hvq : v ∈ q
        · rw [if_neg (by simp [hvq])]
          refine ws_next ⟨q, Sl ++ [s], kF, _, _, _, hF, hS', h0, fun k u' h1 h2 s' h3 => List.mem_append_left _ (hp k u' h1 h2 s' h3), fun s' hs' v' hv' => ?_, fun s' hs' => ?_, hqR, fun s' hs' => ?_, qn, qlt, hqu, pre', lF, lS', hpl', rfl⟩
          · rcases List.mem_append.mp hs' with h | h
            · exact hsf s' h v' hv'
            · obtain rfl : s' = s := by simpa using h
              rw [hgv] at hv'
              obtain rfl : v = v' := Option.some.inj (Option.some.inj hv')
              exact hvq
          · rcases List.mem_append.mp hs' with h | h
            · exact hsr s' h
            · obtain rfl : s' = s := by simpa using h
              exact ⟨u, List.mem_of_getElem? hqu, hE⟩
          · rcases List.mem_append.mp hs' with h | h
            · exact hSR s' h
            · obtain rfl : s' = s := by simpa using h
              exact hRs
        · rw [if_pos (by simp [hvq])]
          walk_at "seq"
          refine ws_dputK (x := .inl (v : Int)) wp_bl (pm_var rfl) (wp_var rfl) (by omega) ?_
          walk_at "fin"
          refine ws_drop (we_append (xs := (natD q).map OV.dat) (pm_var rfl) (wp_var rfl) (by rw [nat_len]; omega) ?_)
          walk_at "fin"
          have hF' := hasK_put (x := v) (d := .bl true) hF
          have lF' : (pK kF (.inl (v : Int)) (.bl true)).length ≤ 500 + (q ++ [v]).length := by
            have := pK_len (kvs := kF) (k := (Sum.inl (v : Int) : Key)) (d := D.bl true)
            simp only [List.length_append, List.length_singleton]
            omega
          refine ⟨q ++ [v], Sl ++ [s], _, _, some (.dat (.int (s : Nat))), some (.dat (.int (v : Nat))), hF', hS', fun e he => List.mem_append_left _ (h0 e he), fun k u' h1 h2 s' h3 => ?_, fun s' hs' v' hv' => ?_, fun s' hs' => ?_, fun u' hu' s' hs' => ?_, fun s' hs' => ?_, ?_, fun u' hu' => ?_, ?_, pre', lF', lS', hpl', ?_⟩
          · have hkl : k < q.length := by have := (List.getElem?_eq_some_iff.mp hqu).1; omega
            rw [List.getElem?_append_left hkl] at h1
            exact List.mem_append_left _ (hp k u' h1 h2 s' h3)
          · rcases List.mem_append.mp hs' with h | h
            · exact List.mem_append_left _ (hsf s' h v' hv')
            · obtain rfl : s' = s := by simpa using h
              rw [hgv] at hv'
              obtain rfl : v = v' := Option.some.inj (Option.some.inj hv')
              simp
          · rcases List.mem_append.mp hs' with h | h
            · obtain ⟨u', h1, h2⟩ := hsr s' h
              exact ⟨u', List.mem_append_left _ h1, h2⟩
            · obtain rfl : s' = s := by simpa using h
              exact ⟨u, List.mem_append_left _ (List.mem_of_getElem? hqu), hE⟩
          · rcases List.mem_append.mp hu' with h | h
            · exact hqR u' h s' hs'
            · obtain rfl : u' = v := by simpa using h
              exact hvR s' hs'
          · rcases List.mem_append.mp hs' with h | h
            · exact hSR s' h
            · obtain rfl : s' = s := by simpa using h
              exact hRs
          · rw [List.nodup_append]
            exact ⟨qn, by simp, by rintro a ha b hb rfl; simp at hb; subst hb; exact hvq ha⟩
          · rcases List.mem_append.mp hu' with h | h
            · exact qlt u' h
            · obtain rfl : u' = v := by simpa using h
              exact hvl
          · rw [List.getElem?_append_left (List.getElem?_eq_some_iff.mp hqu).1]; exact hqu
          · rw [← ovN_app]
      · rintro _ ⟨q, Sl, kF, kS, o5, o6, hF, hS, h0, hp, hsf, hsr, hqR, hSR, qn, qlt, hqu, hpre, lF, lS, hpl, rfl⟩
        have hfl : (natD l).length = l.length := by simp [natD]
        rw [hfl, List.take_length] at hpre
        rw [hfl] at lS
        refine ws_augI (b := 1) rfl wp_int (by decide) ?_
        walk_at "fin"
        have hml := (List.getElem?_eq_some_iff.mp hqu).1
        have ql := nodup_le qn qlt
        refine ⟨la.length - (m + 1), by omega, q, Sl, m + 1, kF, kS, o5, o6, hF, hS, h0, fun k u' h1 h2 s' h3 => ?_, hsf, hsr, hqR, hSR, qn, qlt, hml, lF, by rw [Nat.add_mul]; omega, rfl, ?_⟩
        · by_cases e : k = m
          · subst e
            rw [hqu] at h1
            obtain rfl := Option.some.inj h1
            obtain ⟨l', g1, g2⟩ := h3
            rw [hl] at g1
            obtain rfl := Option.some.inj g1
            exact hpre s' g2
          · exact hp k u' h1 (by omega) s' h3
        · rw [show ((m + 1 : Nat) : Int) = (m : Int) + 1 by omega]
    · rw [if_neg (by simp; omega)]
      have e : m = q.length := by omega
      subst e
      let F : Nat → Bool := fun e => decide (e ∈ q)
      let S : Nat → Bool := fun e => decide (e ∈ Sl)
      have pt : Parts la f g F S := by
        refine ⟨fun e he => decide_eq_true (h0 e he), fun u s hu' hs => ?_, fun s v hs hv => decide_eq_true (hsf s (of_decide_eq_true hs) v hv), fun s hs => ?_, fun s hs => ?_⟩
        · obtain ⟨k, hk', e⟩ := List.mem_iff_getElem.mp (of_decide_eq_true hu')
          exact decide_eq_true (hp k u (by rw [List.getElem?_eq_getElem hk', e]) hk' s hs)
        · obtain ⟨i, h1, _⟩ := hR s (hSR s (of_decide_eq_true hs))
          exact ⟨i, h1⟩
        · obtain ⟨u, h1, h2⟩ := hsr s (of_decide_eq_true hs)
          exact ⟨u, decide_eq_true h1, h2⟩
      refine ws_ret (d := .lst (natD ((List.range la.length).filter fun e => F e && !S e))) (wp_o (wo_lc (ks := List.range la.length) (enc := fun (k : Nat) => D.int (0 + (k : Int))) (p := fun e => F e && !S e) (f := fun (k : Nat) => D.int (k : Int)) (rng _ rfl) (by simp) (by simp; omega) fun k hk' => wc_name (by simp) rfl ⟨wt_and (wt_test (wp_inK (i := 2) ((wp_var rfl).to (by rw [Int.zero_add])) rfl hF)) fun _ => wt_test (wp_ninK (i := 3) ((wp_var rfl).to (by rw [Int.zero_add])) rfl hS), fun _ => (wp_var rfl).to (by rw [Int.zero_add])⟩)) ⟨[Mz C la f g], rfl, hk F S pt⟩)
end Rd
namespace Rd
open PySem PySem.Spec L2 Pw Gn M56
local macro_rules | `(tactic| walk_at "side") => `(tactic| first | assumption | omega | decide | (unfold CMul; omega) | (unfold CDiv; omega) | (unfold CPow; decide) | (simp; omega) | (simp; done))
local macro_rules | `(tactic| walk_at "rp") => `(tactic| first
  | exact rp_add_int | exact rp_sub | exact rp_eq_int | exact rp_ne_int | exact rp_lt | exact rp_le | exact rp_gt | exact rp_ge
  | exact rp_mod (by walk_at "side") | exact rp_mul (by walk_at "side") | exact rp_fdiv (by walk_at "side") | exact rp_pow (by walk_at "side")
  | exact rp_eq_str | exact rp_ne_str | exact rp_add_str (by walk_at "side") | exact rp_in_sg | exact rp_nin_sg | exact rp_add_tup (by walk_at "side")
  | exact rp_ix_tup (by walk_at "at") | exact rp_ix_lst (by walk_at "at") | exact rp_ix_str (by walk_at "side") (by walk_at "at"))
local macro_rules | `(tactic| walk_at "at") => `(tactic| first | rfl | assumption | (exact atI_nat (by first | rfl | assumption)))
local macro_rules | `(tactic| walk_at "wpa") => `(tactic| first | exact wpa_nil | (apply wpa_cons; (focus walk_at "wp"); walk_at "wpa"))
local macro_rules | `(tactic| walk_at "pl") => `(tactic| first | exact pl_var rfl | (apply pl_fld; (focus walk_at "pl"); (focus assumption); (focus assumption); rfl))
local macro_rules | `(tactic| walk_at "wp") => `(tactic| first
  | assumption
  | exact wp_var rfl | exact wp_int | exact wp_str | exact wp_bl | exact wp_non
  | (apply wp_len_own; (focus walk_at "pl"))
  | (apply wp_op; (focus walk_at "wp"); (focus walk_at "wp"); walk_at "rp")
  | (apply wp_cb; (focus walk_at "wpa"); first | exact cp_int | exact cp_int_bl | exact cp_len_lst | exact cp_len_tup | exact cp_len_str (by walk_at "side") | exact cp_tuple_lst | exact cp_tuple_tup | exact cp_str (by walk_at "side"))
  | (apply wp_tup; (focus walk_at "wpa"); (first | decide | simp))
  | (apply wp_un; (focus walk_at "wp"); exact up_neg)
  | (apply wp_l; walk_at "pl")
  | (apply wp_fld; (focus walk_at "wp"); (focus assumption); (focus assumption); rfl)
  | (apply wp_o; walk_at "wo")
  | (apply wp_notV; walk_at "wp"))
local macro_rules | `(tactic| walk_at "wo") => `(tactic| first
  | (apply wo_lst; (focus walk_at "wpa"); (first | decide | simp))
  | (apply wo_cb; (focus walk_at "wpa"); first | exact co_list_lst | exact co_list_tup | exact co_list_scr))
local macro_rules | `(tactic| walk_at "wt") => `(tactic| first
  | (apply wt_test; walk_at "wp") | (apply wt_tru; walk_at "wp") | (apply wt_B; walk_at "wp") | (apply wt_not; walk_at "wt")
  | (apply wt_and; (focus walk_at "wt"); (intro _; walk_at "wt")) | (apply wt_or; (focus walk_at "wt"); (intro _; walk_at "wt")))
local macro_rules | `(tactic| walk_at "fin") => `(tactic| (try simp only [List.set_cons_zero, List.set_cons_succ]))
local macro_rules | `(tactic| walk_at "lt") => `(tactic| first | decide | (simp only [List.length_cons, List.length_nil]; omega) | (simp; done))
local macro_rules | `(tactic| walk_at "seq") => `(tactic| (refine ws_seq ?_))
local macro_rules | `(tactic| walk_at "set") => `(tactic| (refine ws_set (by walk_at "wp") (by walk_at "lt") (by decide) ?_; walk_at "fin"))
local macro_rules | `(tactic| walk_at "setO") => `(tactic| (refine ws_setO (by walk_at "wo") (by walk_at "lt") (by decide) ?_; walk_at "fin"))
local macro_rules | `(tactic| walk_at "ret") => `(tactic| (refine ws_ret (by walk_at "wp") ?_))
local macro_rules | `(tactic| walk_at "if") => `(tactic| (refine ws_if (by walk_at "wt") ?_))
structure Good (Ls : List (List Int)) (w : List Nat) (rows : List (List Nat)) (ap : List Nat) : Prop where
  perm : (List.range w.length).Perm rows.flatten
  ne : ∀ r ∈ rows, r ≠ []
  step : ∀ r ∈ rows, ∀ (k x y : Nat), r[k]? = some x → r[k + 1]? = some y → x ≠ y ∧ Bel (dp Ls w) x y
  rlt : ∀ r ∈ rows, ∀ x ∈ r, x < w.length
  asc : ap.Pairwise (· < ·)
  alt : ∀ x ∈ ap, x < w.length
  anti : ∀ x ∈ ap, ∀ y ∈ ap, y ≠ x → ¬ Bel (dp Ls w) x y
  len : ap.length = rows.length
theorem good_of {Ls : List (List Int)} {w : List Nat} {f g : List (Option Nat)} {rows : List (List Nat)} {F S : Nat → Bool} (M : MI (lat Ls w) (lat Ls w).length f g) (hr : RowsOf f g (lat Ls w).length rows) (p : Parts (lat Ls w) f g F S) :
    Good Ls w rows ((List.range (lat Ls w).length).filter fun e => F e && !S e) := by
  have W := M.1
  have hrow : ∀ r ∈ rows, ∃ e, Row f e r := fun r h => by
    obtain ⟨k, hk, e1⟩ := List.mem_iff_getElem.mp h
    exact ⟨_, hr.2 k ((starts g (lat Ls w).length)[k]'(by rw [← hr.1]; exact hk)) r (List.getElem?_eq_getElem _) (by rw [List.getElem?_eq_getElem hk, e1])⟩
  refine ⟨by have := rows_perm W lat_lt hr; rwa [lat_len] at this, fun r h e => ?_, fun r h k x y hx hy => ?_, fun r h x hx => ?_, List.pairwise_lt_range.filter _, fun x hx => ?_, fun x hx y hy hne hb => ?_, ?_⟩
  · obtain ⟨e0, hR⟩ := hrow r h
    obtain ⟨t, ht⟩ := hR.head
    rw [e] at ht; cases ht
  · obtain ⟨e0, hR⟩ := hrow r h
    obtain ⟨z, h1, h2⟩ := hR.next hy
    rw [hx] at h1
    obtain rfl := Option.some.inj h1
    have hE := (W.fg x y h2).2.2
    obtain ⟨_, _, h3, h4⟩ := lat_E.mp hE
    exact ⟨h3, h4⟩
  · have := rows_lt W lat_lt hr h hx
    rwa [lat_len] at this
  · have := List.mem_range.mp (List.mem_filter.mp hx).1
    rwa [lat_len] at this
  · obtain ⟨x1, x2⟩ := List.mem_filter.mp hx
    obtain ⟨y1, y2⟩ := List.mem_filter.mp hy
    rw [List.mem_range, lat_len] at x1 y1
    simp only [Bool.and_eq_true, Bool.not_eq_true'] at x2 y2
    have := p.fs x y x2.1 (lat_E.mpr ⟨x1, y1, fun e => hne e.symm, hb⟩)
    rw [y2.2] at this; cases this
  · rw [apart_len W lat_lt lat_tr p, hr.1]
def spWidest (C : Addr) : FS := fun xs Φ => ∃ (P : Int) (Ls : List (List Int)) (w : List Nat), xs = [.dat (alD C P Ls), .dat (wD w)] ∧ InW Ls.length w ∧ w.length ≤ 200 ∧ ∀ rows ap, Good Ls w rows ap → Φ (.dat (.tup [.lst (natD ap), latD rows])) xs
theorem rd_widest {K : PySem.W.Frag} {C CM : Addr} : ∀ vs H Q E, toSp K (spWidest C) vs H Q E → t_widest K CM (toSp K (spMInit CM)) (toSp K (spPairs C)) (toSp K (spApart CM)) (toSp K (spRows CM)) { nx := fun _ H' => Q .non H', rt := Q } (L2.start N_widest vs) H := by
  refine body_of (np := 2) ?_
  rintro xs Φ ⟨P, Ls, w, rfl, hw, hl, hk⟩
  refine ⟨rfl, ?_⟩
  show WS K [0, 1] _ [some (.dat (alD C P Ls)), some (.dat (wD w)), none] _
  have ll := lat_len (Ls := Ls) (w := w)
  have l5 : ∀ l ∈ lat Ls w, l.length ≤ 500 := fun l h => by
    obtain ⟨i, _, rfl⟩ := List.mem_map.mp h
    exact Nat.le_trans (List.length_filter_le _ _) (by simp; omega)
  walk_at "seq"
  refine ws_setE (we_make (wa_p (wp_callA ((P, Ls), w) (wpa_cons (wp_var rfl) (wpa_cons (wp_var rfl) wpa_nil)) ⟨hw, hl⟩) (wa_nil ⟨[.dat (latD (lat Ls w))], rfl, by simp [slots], lat Ls w, rfl, by omega, lat_lt, fun f g M => ⟨rfl, _, _, rfl, by simp [putArgs], by decide, ?_⟩⟩)))
  show WS K [0, 1] _ [some (.dat (alD C P Ls)), some (.dat (wD w)), some (Mz CM (lat Ls w) f g)] _
  refine ws_retE (we_tup (wa_val (we_meth (i := 2) rfl (mz_no _) (wa_nil ⟨[Mz CM (lat Ls w) f g], rfl, by simp [slots], lat Ls w, f, g, rfl, by omega, l5, lat_lt, M, fun F S p => ?_⟩))))
  show WA K _ [some (.dat (alD C P Ls)), some (.dat (wD w)), some (Mz CM (lat Ls w) f g)] _
  refine wa_val (we_meth (i := 2) rfl (mz_no _) (wa_nil ⟨[Mz CM (lat Ls w) f g], rfl, by simp [slots], lat Ls w, f, g, rfl, by omega, lat_lt, M.1, fun rows hr => ?_⟩))
  refine wa_nil ⟨[_, _], rfl, by simp, [.dat (alD C P Ls), .dat (wD w)], rfl, hk rows _ (good_of M hr p)⟩
/-! ### the law -/
def spIsInt : FS := pfa (fun a : Int => [.int a]) (fun _ => True) (fun _ => .bl true)
theorem isi_int {K : PySem.W.Frag} {x : Int} {n : String} {b : Bool} (h : kitB "int" n = some b) : ∀ (G H : Hp) (v : V), Same G H → Rep K G v (.int x) → ∃ t, TyX K H v t ∧ PySem.W.kitOne K t (.type n) = some b := fun G H v g r => by
  cases r
  exact ⟨_, .base (.int _), kit_ty h⟩
theorem isi_tup {K : PySem.W.Frag} {xs : List D} : ∀ (G H : Hp) (v : V), Same G H → Rep K G v (.tup xs) → ∃ t, TyX K H v t ∧ PySem.W.kitOne K t (.type "tuple") = some true := fun G H v g r => by
  cases r with
  | tup h _ _ => exact ⟨_, .base (.tup (g _ _ h)), kit_ty (by decide +kernel)⟩
theorem isi_lst {K : PySem.W.Frag} {xs : List D} : ∀ (G H : Hp) (v : V), Same G H → Rep K G v (.lst xs) → ∃ t, TyX K H v t ∧ PySem.W.kitOne K t (.type "list") = some true := fun G H v g r => by
  cases r with
  | lst h _ _ => exact ⟨_, .base (.lst (g _ _ h)), kit_ty (by decide +kernel)⟩
theorem rd_isint {K : PySem.W.Frag} : ∀ vs H Q E, toSp K spIsInt vs H Q E → t_law_is_integer K { nx := fun _ H' => Q .non H', rt := Q } (L2.start N_law_is_integer vs) H := by
  refine body_of (np := 1) ?_
  rintro xs Φ ⟨a, rfl, _, hk⟩
  refine ⟨rfl, ?_⟩
  show WS K [0] _ [some (.dat (.int a))] _
  refine ws_ret (d := .bl true) (WP.to (wp_andV (a := true) (b := true) (wp_isi (wp_var rfl) (isi_int (by decide +kernel))) fun _ => WP.to (wp_notV (a := false) (wp_isi (wp_var rfl) (isi_int (by decide +kernel)))) rfl) rfl) ⟨_, rfl, hk⟩
theorem wt_isint {K : PySem.W.Frag} {δ : Dl} {t : TE} {a : Int} (h : WP K t δ (.int a)) : WTp K (tTRU K (tCall (toSp K spIsInt) [] E0 (tCons t tNil))) δ true := wt_tru (wp_callA a (wpa_cons h wpa_nil) True.intro)
theorem okL_nat {l : List Nat} {n : Nat} : D.okL n (natD l) = true := by rw [natD_eq]; exact okL_ints
def spLaw : FS := fun xs Φ => ∃ ns, xs = [.dat (.scr ns)] ∧ ns.length ≤ 63 ∧ Φ (.dat (.bl true)) xs
theorem nats_of {w : List Int} {n : Nat} (h : WdOk n w) : ∃ wn : List Nat, w.map D.int = natD wn ∧ wn.length = w.length ∧ InW n wn := by
  refine ⟨w.map Int.toNat, ?_, by simp, fun x hx => ?_⟩
  · unfold natD
    rw [List.map_map]
    apply List.map_congr_left
    intro x hx
    have := h x hx
    show D.int x = D.int ((x.toNat : Nat) : Int)
    rw [Int.toNat_of_nonneg this.1]
  · obtain ⟨y, hy, rfl⟩ := List.mem_map.mp hx
    have := h y hy
    omega
theorem matD_at {n i k : Nat} {bm : Nat → Nat → Bool} {K : PySem.W.Frag} {δ : Dl} {t1 t2 t3 : TE} (h1 : WP K t1 δ (matD n bm)) (h2 : WP K t2 δ (.int (i : Nat))) (h3 : WP K t3 δ (.int (k : Nat))) (hi : i < n) (hk : k < n) : WP K (tOp (rIX K) (tOp (rIX K) t1 t2) t3) δ (.bl (bm i k)) :=
  wp_op (wp_op h1 h2 (rp_ix_lst (d := .lst ((List.range n).map fun k => .bl (bm i k))) (atI_nat (range_map_get hi)))) h3 (rp_ix_lst (atI_nat (range_map_get hk)))
end Rd
namespace Rd
open PySem PySem.Spec L2 Pw Gn M56
local macro_rules | `(tactic| walk_at "side") => `(tactic| first | assumption | omega | decide | (unfold CMul; omega) | (unfold CDiv; omega) | (unfold CPow; decide) | (simp; omega) | (simp; done))
local macro_rules | `(tactic| walk_at "rp") => `(tactic| first
  | exact rp_add_int | exact rp_sub | exact rp_eq_int | exact rp_ne_int | exact rp_lt | exact rp_le | exact rp_gt | exact rp_ge
  | exact rp_mod (by walk_at "side") | exact rp_mul (by walk_at "side") | exact rp_fdiv (by walk_at "side") | exact rp_pow (by walk_at "side")
  | exact rp_eq_str | exact rp_ne_str | exact rp_add_str (by walk_at "side") | exact rp_in_sg | exact rp_nin_sg | exact rp_add_tup (by walk_at "side")
  | exact rp_ix_tup (by walk_at "at") | exact rp_ix_lst (by walk_at "at") | exact rp_ix_str (by walk_at "side") (by walk_at "at"))
local macro_rules | `(tactic| walk_at "at") => `(tactic| first | rfl | assumption | (exact atI_nat (by first | rfl | assumption)))
local macro_rules | `(tactic| walk_at "wpa") => `(tactic| first | exact wpa_nil | (apply wpa_cons; (focus walk_at "wp"); walk_at "wpa"))
local macro_rules | `(tactic| walk_at "pl") => `(tactic| first | exact pl_var rfl | (apply pl_fld; (focus walk_at "pl"); (focus assumption); (focus assumption); rfl))
local macro_rules | `(tactic| walk_at "wp") => `(tactic| first
  | assumption
  | exact wp_var rfl | exact wp_int | exact wp_str | exact wp_bl | exact wp_non
  | (apply wp_len_own; (focus walk_at "pl"))
  | (apply wp_op; (focus walk_at "wp"); (focus walk_at "wp"); walk_at "rp")
  | (apply wp_cb; (focus walk_at "wpa"); first | exact cp_int | exact cp_int_bl | exact cp_len_lst | exact cp_len_tup | exact cp_len_str (by walk_at "side") | exact cp_tuple_lst | exact cp_tuple_tup | exact cp_str (by walk_at "side"))
  | (apply wp_tup; (focus walk_at "wpa"); (first | decide | simp))
  | (apply wp_un; (focus walk_at "wp"); exact up_neg)
  | (apply wp_l; walk_at "pl")
  | (apply wp_fld; (focus walk_at "wp"); (focus assumption); (focus assumption); rfl)
  | (apply wp_o; walk_at "wo")
  | (apply wp_notV; walk_at "wp"))
local macro_rules | `(tactic| walk_at "wo") => `(tactic| first
  | (apply wo_lst; (focus walk_at "wpa"); (first | decide | simp))
  | (apply wo_cb; (focus walk_at "wpa"); first | exact co_list_lst | exact co_list_tup | exact co_list_scr))
local macro_rules | `(tactic| walk_at "wt") => `(tactic| first
  | (apply wt_test; walk_at "wp") | (apply wt_tru; walk_at "wp") | (apply wt_B; walk_at "wp") | (apply wt_not; walk_at "wt")
  | (apply wt_and; (focus walk_at "wt"); (intro _; walk_at "wt")) | (apply wt_or; (focus walk_at "wt"); (intro _; walk_at "wt")))
local macro_rules | `(tactic| walk_at "fin") => `(tactic| (try simp only [List.set_cons_zero, List.set_cons_succ]))
local macro_rules | `(tactic| walk_at "lt") => `(tactic| first | decide | (simp only [List.length_cons, List.length_nil]; omega) | (simp; done))
local macro_rules | `(tactic| walk_at "seq") => `(tactic| (refine ws_seq ?_))
local macro_rules | `(tactic| walk_at "set") => `(tactic| (refine ws_set (by walk_at "wp") (by walk_at "lt") (by decide) ?_; walk_at "fin"))
local macro_rules | `(tactic| walk_at "setO") => `(tactic| (refine ws_setO (by walk_at "wo") (by walk_at "lt") (by decide) ?_; walk_at "fin"))
local macro_rules | `(tactic| walk_at "ret") => `(tactic| (refine ws_ret (by walk_at "wp") ?_))
local macro_rules | `(tactic| walk_at "if") => `(tactic| (refine ws_if (by walk_at "wt") ?_))
theorem lst_ok {l : List Nat} : (D.lst (natD l)).ok 1 = true := by show D.okL 0 _ = true; exact okL_nat
theorem lstI_ok {l : List Int} : (D.lst (l.map D.int)).ok 1 = true := by show D.okL 0 _ = true; exact okL_ints
theorem rd_law {K : PySem.W.Frag} {C : Addr} : ∀ vs H Q E, toSp K spLaw vs H Q E → t_law K (toSp K spDraws) (toSp K spAlpha) (toSp K spWord) (toSp K (spWidest C)) C (toSp K (spAInit C)) (toSp K spBelow) (toSp K spIsInt) { nx := fun _ H' => Q .non H', rt := Q } (L2.start N_law vs) H := by
  refine body_of (np := 1) ?_
  rintro xs Φ ⟨ns, rfl, hns, hk⟩
  refine ⟨rfl, ?_⟩
  show WS K [0] _ [some (.dat (.scr ns)), none, none, none, none, none, none, none, none, none, none, none, none, none] _
  walk_at "seq"
  refine ws_setE (we_call (wa_p (wp_var rfl) (wa_p wp_int (wa_nil ⟨[.dat (.scr ns), .dat (.int 80)], rfl, by simp [slots], ns, 80, rfl, by decide, by decide, hns, fun ms hd => ⟨by simp [putArgs], by decide, ?_⟩⟩))))
  show WS K [0] _ [some (.dat (.scr ns)), some (ownI ms), none, none, none, none, none, none, none, none, none, none, none, none] _
  walk_at "seq"
  refine ws_unpackE (we_call (wa_slt ⟨_, rfl⟩ (wa_p wp_int (wa_p wp_int (wa_nil ⟨[ownI ms, .dat (.int 4), .dat (.int 6)], rfl, by simp [slots], ms, 4, 6, rfl, hd, by decide, by decide, by decide, by decide, fun ms2 P Ls hd2 hOk hP4 hL6 => ⟨_, rfl, wg_tup (wgs_cons (wg_name (by simp [putArgs]) (by decide) (wgs_cons (wg_name (by simp [putArgs]) (by decide) (wgs_nil ?_))))) rfl⟩⟩)))))
  show WS K [0] _ [some (.dat (.scr ns)), some (ownI ms2), some (.dat (.int P)), some (.dat (.lst (encL Ls))), none, none, none, none, none, none, none, none, none, none] _
  have hLl : (encL Ls).length = Ls.length := by simp [encL]
  have hL1 : 1 ≤ Ls.length := hOk.2.2.1
  have hLk : ∀ l ∈ Ls, l.length ≤ 1000 := fun l h => Nat.le_trans (hOk.2.2.2.2 l h).2.2.2 (by decide)
  walk_at "seq"
  refine ws_setE (we_call (wa_slt ⟨_, rfl⟩ (wa_p ((wp_cb (wpa_cons (wp_var rfl) wpa_nil) cp_len_lst).to (by rw [hLl])) (wa_p wp_int (wa_nil ⟨[ownI ms2, .dat (.int (Ls.length : Nat)), .dat (.int 14)], rfl, by simp [slots], ms2, Ls.length, 14, rfl, hd2, hL1, by decide, by decide, fun ms3 wI hd3 hwI hwl => ⟨by simp [putArgs], by decide, ?_⟩⟩)))))
  obtain ⟨w, ew, lw, hw⟩ := nats_of hwI
  rw [ew]
  have hw14 : w.length ≤ 14 := by omega
  clear ew hwI
  show WS K [0] _ [some (.dat (.scr ns)), some (ownI ms3), some (.dat (.int P)), some (.dat (.lst (encL Ls))), some (.dat (wD w)), none, none, none, none, none, none, none, none, none] _
  have hwD : (natD w).length = w.length := by simp [natD]
  walk_at "seq"
  refine ws_setE (we_call (wa_val (we_dat (we_make (wa_p (wp_var rfl) (wa_p (wp_o (wo_cb (wpa_cons (wp_var rfl) wpa_nil) co_list_lst)) (wa_nil ⟨[.dat (.int P), .dat (.lst (encL Ls))], rfl, by simp [slots], P, Ls, rfl, hOk, rfl, _, _, rfl, alD C P Ls, al_fz, wa_p (wp_var rfl) (wa_nil ⟨[.dat (alD C P Ls), .dat (wD w)], rfl, by simp [slots], P, Ls, w, rfl, hw, by omega, fun rows ap gd => ⟨by simp [putArgs], by decide, ?_⟩⟩)⟩)))))))
  show WS K [0] _ [some (.dat (.scr ns)), some (ownI ms3), some (.dat (.int P)), some (.dat (.lst (encL Ls))), some (.dat (wD w)), some (.dat (.tup [.lst (natD ap), latD rows])), none, none, none, none, none, none, none, none] _
  have hal : (natD ap).length = ap.length := by simp [natD]
  have hrl : (rows.map fun l => D.lst (natD l)).length = rows.length := by simp
  have apl : ap.length ≤ w.length := nodup_le (gd.asc.imp fun h => by omega) gd.alt
  walk_at "seq"
  refine ws_if (b := false) ?_ ?_
  · refine wt_or (b := false) (a := false) (wt_not (wt_tru (wp_isi (wp_var rfl) isi_tup))) fun _ => wt_or (b := false) (a := false) (wt_test (wp_op (wp_cb (wpa_cons (wp_var rfl) wpa_nil) cp_len_tup) wp_int rp_ne_int)) fun _ => wt_or (b := false) (a := false) (wt_not (wt_tru (wp_isi (wp_op (wp_var rfl) wp_int (rp_ix_tup (d := .lst (natD ap)) rfl)) isi_lst))) fun _ => wt_not (a := true) (wt_tru (wp_isi (wp_op (wp_var rfl) wp_int (rp_ix_tup (d := latD rows) rfl)) isi_lst))
  rw [if_neg (by simp)]
  refine ws_next ?_
  walk_at "seq"
  refine ws_unpack (wp_var rfl) (wg_tup (wgs_cons (wg_name (by walk_at "lt") (by decide) (wgs_cons (wg_name (by walk_at "lt") (by decide) (wgs_nil ?_))))) rfl)
  walk_at "fin"
  walk_at "seq"
  refine ws_set (wp_callA (Ls, w) (wpa_cons (wp_var rfl) (wpa_cons (wp_var rfl) wpa_nil)) ⟨hw, by show w.length ≤ 200; omega, hLk⟩) (by walk_at "lt") (by decide) ?_
  walk_at "fin"
  walk_at "seq"
  have apI : D.lst (natD ap) = .lst ((ap.map fun (x : Nat) => (x : Int)).map D.int) := by rw [natD_eq]
  have apS : sset (ap.map fun (x : Nat) => (x : Int)) = ap.map fun (x : Nat) => (x : Int) := sset_self (List.pairwise_map.mpr (gd.asc.imp fun h => by omega))
  refine ws_if (b := false) ?_ ?_
  · refine wt_or (b := false) (a := false) ((wt_test (wp_op (wp_cb (wpa_cons (wp_var rfl) wpa_nil) cp_len_lst) (wp_cb (wpa_cons (wp_var rfl) wpa_nil) cp_len_lst) rp_ne_int)).to ?_) fun _ => (wt_test (wp_op (wp_var rfl) (wp_o (wo_sortedSET ((wp_var rfl).to apI) (by rw [List.length_map]; omega))) (rp_ne (n := 1) (m := 1) lst_ok lstI_ok))).to ?_
    · rw [hal, hrl, gd.len]; simp
    · rw [apS, ← apI]
      have : (D.lst (natD ap)).eqv (D.lst (natD ap)) = true := PySem.SeqAt.eqv_refl _ (D.ok_shape 1 _ lst_ok).1
      rw [this]; rfl
  rw [if_neg (by simp)]
  refine ws_next ?_
  walk_at "seq"
  refine ws_for (ds := natD ap) (wi_lst (wp_var rfl)) (fun i δ' => ∃ o9, δ' = [some (.dat (.scr ns)), some (ownI ms3), some (.dat (.int P)), some (.dat (.lst (encL Ls))), some (.dat (wD w)), some (.dat (.tup [.lst (natD ap), latD rows])), some (.dat (.lst (natD ap))), some (.dat (latD rows)), some (.dat (matD w.length (bel (dp Ls w)))), o9, none, none, none, none]) ⟨none, rfl⟩ ?_ ?_
  · rintro i d δ' hi ⟨o9, rfl⟩
    obtain ⟨x, hx, rfl⟩ : ∃ x : Nat, ap[i]? = some x ∧ d = .int (x : Nat) := by
      unfold natD at hi
      rw [List.getElem?_map] at hi
      obtain ⟨s, h1, h2⟩ := Option.map_eq_some_iff.mp hi
      exact ⟨s, h1, h2.symm⟩
    have hxm := List.mem_of_getElem? hx
    have hxl := gd.alt x hxm
    refine wg_name (by walk_at "lt") (by decide) ?_
    walk_at "fin"
    walk_at "seq"
    refine ws_if (b := false) ?_ ?_
    · refine wt_or (b := false) (a := false) (wt_not (a := true) (wt_isint (wp_var rfl))) fun _ => wt_or (b := false) (a := false) ((wt_test (wp_op (wp_var rfl) wp_int rp_lt)).to (decide_eq_false (by omega))) fun _ => (wt_test (wp_op (wp_var rfl) (wp_cb (wpa_cons (wp_var rfl) wpa_nil) cp_len_tup) rp_ge)).to (decide_eq_false (by rw [hwD]; omega))
    rw [if_neg (by simp)]
    refine ws_next ?_
    refine ws_if (b := false) ((wt_test (wp_op (wp_cb (wpa_cons (wp_o (wo_lc (ks := ap) (enc := fun (y : Nat) => D.int (y : Int)) (p := fun y => decide (y ≠ x) && bel (dp Ls w) x y) (f := fun (y : Nat) => D.int (y : Int)) (wi_lst (wp_var rfl)) (by simp) (by omega) fun y hy => wc_name (by simp) rfl ⟨(wt_and (wt_test (wp_op (wp_var rfl) (wp_var rfl) rp_ne_int)) fun _ => wt_tru (matD_at (wp_var rfl) (wp_var rfl) (wp_var rfl) hxl (gd.alt y hy))).to (by
      congr 1
      by_cases e : y = x
      · simp [e]
      · have : ¬ ((y : Int) = (x : Int)) := by omega
        simp [e, this]), fun _ => wp_var rfl⟩)) wpa_nil) cp_len_lst) wp_int rp_gt)).to ?_) ?_
    · apply decide_eq_false
      have : (ap.filter fun y => decide (y ≠ x) && bel (dp Ls w) x y) = [] := by
        apply List.filter_eq_nil_iff.mpr
        intro y hy h
        simp only [Bool.and_eq_true, decide_eq_true_eq] at h
        exact gd.anti x hxm y hy h.1 (bel_iff.mp h.2)
      rw [this]
      simp
    rw [if_neg (by simp)]
    exact ws_next ⟨_, rfl⟩
  · rintro _ ⟨o9, rfl⟩
    walk_at "seq"
    refine ws_set (d := .lst (natD [])) (wp_o (ds := []) (wo_lst wpa_nil)) (by walk_at "lt") (by decide) ?_
    walk_at "fin"
    walk_at "seq"
    have rowsl : rows.flatten.length = w.length := by rw [← gd.perm.length_eq, List.length_range]
    refine ws_for (ds := rows.map fun l => D.lst (natD l)) (wi_lst (wp_var rfl)) (fun i δ' => ∃ o11 o12, i ≤ rows.length ∧ δ' = [some (.dat (.scr ns)), some (ownI ms3), some (.dat (.int P)), some (.dat (.lst (encL Ls))), some (.dat (wD w)), some (.dat (.tup [.lst (natD ap), latD rows])), some (.dat (.lst (natD ap))), some (.dat (latD rows)), some (.dat (matD w.length (bel (dp Ls w)))), o9, some (.dat (.lst (natD (rows.take i).flatten))), o11, o12, none]) ⟨none, none, Nat.zero_le _, rfl⟩ ?_ ?_
    · rintro i d δ' hi ⟨o11, o12, _, rfl⟩
      obtain ⟨r, hr, rfl⟩ : ∃ r : List Nat, rows[i]? = some r ∧ d = .lst (natD r) := by
        rw [List.getElem?_map] at hi
        obtain ⟨s, h1, h2⟩ := Option.map_eq_some_iff.mp hi
        exact ⟨s, h1, h2.symm⟩
      have hil := (List.getElem?_eq_some_iff.mp hr).1
      have hrm := List.mem_of_getElem? hr
      have hrn : (natD r).length = r.length := by simp [natD]
      have tk : (rows.take (i + 1)).flatten = (rows.take i).flatten ++ r := by rw [List.take_add_one, hr, List.flatten_append]; simp
      have rl2 : (rows.take i).flatten.length + r.length ≤ w.length := by
        have h1 : ((rows.take (i + 1)).flatten ++ (rows.drop (i + 1)).flatten).length = w.length := by rw [← List.flatten_append, List.take_append_drop]; exact rowsl
        rw [tk] at h1
        simp only [List.length_append] at h1
        omega
      refine wg_name (by walk_at "lt") (by decide) ?_
      walk_at "fin"
      walk_at "seq"
      refine ws_if (b := false) ?_ ?_
      · refine wt_or (b := false) (a := false) (wt_not (a := true) (wt_tru (wp_isi (wp_var rfl) isi_lst))) fun _ => (wt_test (wp_op (wp_cb (wpa_cons (wp_var rfl) wpa_nil) cp_len_lst) wp_int rp_eq_int)).to (decide_eq_false (by
          rw [hrn]
          have := List.length_pos_iff.mpr (gd.ne r hrm)
          omega))
      rw [if_neg (by simp)]
      refine ws_next ?_
      walk_at "seq"
      refine ws_for (ds := rgD 0 r.length) (by
        have := wi_rng1 (K := K) (δ := [some (.dat (.scr ns)), some (ownI ms3), some (.dat (.int P)), some (.dat (.lst (encL Ls))), some (.dat (wD w)), some (.dat (.tup [.lst (natD ap), latD rows])), some (.dat (.lst (natD ap))), some (.dat (latD rows)), some (.dat (matD w.length (bel (dp Ls w)))), o9, some (.dat (.lst (natD (rows.take i).flatten))), some (.dat (.lst (natD r))), o12, none]) (ta := tCons (tCB (rLEN K) (tCons (tVar 11) tNil)) tNil) (j := ((natD r).length : Nat)) (wpa_cons (wp_cb (wpa_cons (wp_var rfl) wpa_nil) cp_len_lst) wpa_nil) (by omega) (by omega)
        rw [hrn] at this
        exact this) (fun k δ' => ∃ o12, δ' = [some (.dat (.scr ns)), some (ownI ms3), some (.dat (.int P)), some (.dat (.lst (encL Ls))), some (.dat (wD w)), some (.dat (.tup [.lst (natD ap), latD rows])), some (.dat (.lst (natD ap))), some (.dat (latD rows)), some (.dat (matD w.length (bel (dp Ls w)))), o9, some (.dat (.lst (natD (rows.take i).flatten))), some (.dat (.lst (natD r))), o12, none]) ⟨o12, rfl⟩ ?_ ?_
      · rintro k d δ' hkd ⟨o12, rfl⟩
        have hkl : k < r.length := by have := get_lt hkd; rwa [rgD_length] at this
        rw [rgD_get hkl] at hkd
        cases hkd
        refine wg_name (by walk_at "lt") (by decide) ?_
        walk_at "fin"
        rw [Int.zero_add]
        have hx : r[k]? = some r[k] := List.getElem?_eq_getElem hkl
        have hxw := gd.rlt r hrm r[k] (List.getElem_mem hkl)
        generalize r[k] = x at hx hxw
        have at_ : ∀ (j y : Nat), r[j]? = some y → L2.atI (natD r) (j : Int) = some (.int (y : Nat)) := fun j y h => atI_nat (by simp [natD, h])
        have here : WP K (tOp (rIX K) (tVar 11) (tVar 12)) [some (.dat (.scr ns)), some (ownI ms3), some (.dat (.int P)), some (.dat (.lst (encL Ls))), some (.dat (wD w)), some (.dat (.tup [.lst (natD ap), latD rows])), some (.dat (.lst (natD ap))), some (.dat (latD rows)), some (.dat (matD w.length (bel (dp Ls w)))), o9, some (.dat (.lst (natD (rows.take i).flatten))), some (.dat (.lst (natD r))), some (.dat (.int (k : Nat))), none] (.int (x : Nat)) := wp_op (wp_var rfl) (wp_var rfl) (rp_ix_lst (at_ k x hx))
        walk_at "seq"
        refine ws_if (b := false) ?_ ?_
        · refine wt_or (b := false) (a := false) (wt_not (a := true) (wt_isint here)) fun _ => wt_or (b := false) (a := false) ((wt_test (wp_op here wp_int rp_lt)).to (decide_eq_false (by omega))) fun _ => (wt_test (wp_op here (wp_cb (wpa_cons (wp_var rfl) wpa_nil) cp_len_tup) rp_ge)).to (decide_eq_false (by rw [hwD]; omega))
        rw [if_neg (by simp)]
        refine ws_next ?_
        refine ws_if (b := false) ?_ ?_
        · by_cases k0 : k = 0
          · subst k0
            exact wt_andF (wt_test (wp_op (wp_var rfl) wp_int rp_gt)) (by simp)
          · obtain ⟨j, rfl⟩ : ∃ j, k = j + 1 := ⟨k - 1, by omega⟩
            have hjl : j < r.length := by omega
            have hy : r[j]? = some r[j] := List.getElem?_eq_getElem hjl
            have hyw := gd.rlt r hrm r[j] (List.getElem_mem hjl)
            generalize r[j] = y at hy hyw
            obtain ⟨s1, s2⟩ := gd.step r hrm j y x hy hx
            have before : WP K (tOp (rIX K) (tVar 11) (tOp rSUB (tVar 12) (tC (.int 1)))) [some (.dat (.scr ns)), some (ownI ms3), some (.dat (.int P)), some (.dat (.lst (encL Ls))), some (.dat (wD w)), some (.dat (.tup [.lst (natD ap), latD rows])), some (.dat (.lst (natD ap))), some (.dat (latD rows)), some (.dat (matD w.length (bel (dp Ls w)))), o9, some (.dat (.lst (natD (rows.take i).flatten))), some (.dat (.lst (natD r))), some (.dat (.int ((j + 1 : Nat) : Int))), none] (.int (y : Nat)) := wp_op (wp_var rfl) (wp_op (wp_var rfl) wp_int rp_sub) (rp_ix_lst (by rw [show ((j + 1 : Nat) : Int) - 1 = (j : Int) by omega]; exact at_ j y hy))
            refine (wt_and (wt_test (wp_op (wp_var rfl) wp_int rp_gt)) fun _ => wt_or (b := false) (a := false) ((wt_test (wp_op here before rp_eq_int)).to (decide_eq_false (by omega))) fun _ => (wt_not (wt_tru (matD_at (wp_var rfl) before here hyw hxw))).to (by rw [bel_iff.mpr s2]; rfl)).to (Bool.and_false _)
        rw [if_neg (by simp)]
        exact ws_next ⟨_, rfl⟩
      · rintro _ ⟨o12, rfl⟩
        refine ws_set (d := .lst (natD (rows.take (i + 1)).flatten)) (WP.to (wp_o (wo_cat (wp_var rfl) (wp_var rfl) (by simp only [natD, List.length_map]; omega))) (by rw [tk]; simp [natD])) (by walk_at "lt") (by decide) ?_
        exact ⟨_, _, hil, rfl⟩
    · rintro _ ⟨o11, o12, _, rfl⟩
      rw [hrl, List.take_length]
      have e1 : D.lst (natD rows.flatten) = .lst ((rows.flatten.map fun (x : Nat) => (x : Int)).map D.int) := by rw [natD_eq]
      have e2 : rgD 0 ((w.length : Int) - 0).toNat = ((List.range w.length).map fun (x : Nat) => (x : Int)).map D.int := by
        rw [show ((w.length : Int) - 0).toNat = w.length by omega]
        unfold rgD
        rw [List.map_map]
        exact List.map_congr_left fun x _ => by show D.int (0 + (x : Int)) = D.int (x : Int); rw [Int.zero_add]
      refine ws_ret (wp_op (wp_o (wo_cb (wpa_cons ((wp_var rfl).to e1) wpa_nil) (co_sorted (zs := (List.range w.length).map fun (x : Nat) => (x : Int)) (List.pairwise_map.mpr (List.pairwise_lt_range.imp fun h => by omega)) (gd.perm.map _)))) (wp_o (wo_listRg (wr_1 ((wp_cb (wpa_cons (wp_var rfl) wpa_nil) cp_len_tup).to (by rw [hwD]))) (by omega) (by omega))) (rp_eq (n := 1) (m := 1) lstI_ok (show (D.lst (rgD 0 ((w.length : Int) - 0).toNat)).ok 1 = true by rw [e2]; exact lstI_ok))) ?_
      rw [e2]
      have : (D.lst (((List.range w.length).map fun (x : Nat) => (x : Int)).map D.int)).eqv (D.lst (((List.range w.length).map fun (x : Nat) => (x : Int)).map D.int)) = true := PySem.SeqAt.eqv_refl _ (D.ok_shape 1 _ lstI_ok).1
      rw [this]
      exact ⟨[.dat (.scr ns)], rfl, hk⟩
end Rd
namespace Rd
open PySem PySem.Spec PyProof.Rows L2 Pw Gn M56 As
section
variable {P : Program} {w : World} {K : PySem.W.Frag} {mg : PySem.Str → Option Value} {base h : Heap}
theorem facts (X : K.In h) (G : h.Ns mainGlobals mg) (t : He.SaysT Hd.fa Hd.fn Hd.ts w K) (hm : Hd.ex K = true) {fd : FuncData} (F : FunD K "law" "law" (defArgs Hd.s_law) (defBody Hd.s_law) (defScope Hd.s_law) [] [] (He.ga K "law") fd) : FnOk P w K mg base CX0 6 (He.ga K "law") fd [("_law_script" : PySem.Str)] (toSp K spLaw) := by
  have c := t.d
  have hA : AC K (He.ga K "Alphabet") := ⟨k_Alphabet c, a_Alphabet_places c, a_Alphabet_letters c⟩
  have hM : MC K (He.ga K "Matching") := ⟨k_Matching c, a_Matching_later c, a_Matching_following c, a_Matching_leading c⟩
  have hT : H_law_take P w K mg base 1 spTake := mk_law_take X G c (by rintro xs Φ ⟨_, _, rfl, _⟩; rfl) rd_take
  have hD : H_law_draws P w K mg base 1 spDraws := mk_law_draws X G c (by rintro xs Φ ⟨_, _, rfl, _⟩; rfl) rd_draws
  have hAl : H_law_alphabet P w K mg base 2 spAlpha := mk_law_alphabet X G c hT (by decide) (by rintro xs Φ ⟨_, _, _, rfl, _⟩; rfl) rd_alpha
  have hWd : H_law_word P w K mg base 2 spWord := mk_law_word X G c hT (by decide) (by rintro xs Φ ⟨_, _, _, rfl, _⟩; rfl) rd_word
  have hFi : H_fits P w K mg base 1 spFits := mk_fits X G c (by rintro xs Φ ⟨_, rfl, _⟩; rfl) rd_fits
  have hAi : H_Alphabet___init__ P w K mg base 2 (spAInit (He.ga K "Alphabet")) := mk_Alphabet___init__ X G c hFi (by decide) (by rintro xs Φ ⟨_, _, rfl, _⟩; rfl) (rd_ainit hA)
  have hIn : H_independent P w K mg base 1 (spIndep (He.ga K "Alphabet")) := mk_independent X G c (by rintro xs Φ ⟨_, rfl, _⟩; rfl) (rd_indep hA)
  have hBa : H_below_all P w K mg base 2 (spBelowAll (He.ga K "Alphabet")) := mk_below_all X G c hIn (by decide) (by rintro xs Φ ⟨_, rfl, _⟩; rfl) (rd_belowall hA)
  have hPo : H_pairs_of P w K mg base 3 (spPairs (He.ga K "Alphabet")) := mk_pairs_of X G c hBa (by decide) (by rintro xs Φ ⟨_, rfl, _⟩; rfl) rd_pairs
  have hCh : H_Matching_change P w K mg base 1 (spChange (He.ga K "Matching")) := mk_Matching_change X G c (by rintro xs Φ ⟨_, _, _, _, _, _, _, _, _, rfl, _⟩; rfl) (rd_change hM)
  have hGr : H_Matching_grow P w K mg base 2 (spGrow (He.ga K "Matching")) := mk_Matching_grow X G c hCh (by decide) (by rintro xs Φ ⟨_, _, _, _, rfl, _⟩; rfl) (rd_grow hM)
  have hMi : H_Matching___init__ P w K mg base 3 (spMInit (He.ga K "Matching")) := mk_Matching___init__ X G c hGr (by decide) (by rintro xs Φ ⟨_, rfl, _⟩; rfl) (rd_minit hM)
  have hRo : H_Matching_rows P w K mg base 1 (spRows (He.ga K "Matching")) := mk_Matching_rows X G c (by rintro xs Φ ⟨_, _, _, rfl, _⟩; rfl) (rd_rows hM)
  have hAp : H_Matching_apart P w K mg base 1 (spApart (He.ga K "Matching")) := mk_Matching_apart X G c (by rintro xs Φ ⟨_, _, _, rfl, _⟩; rfl) (rd_apart hM)
  have hWi : H_widest P w K mg base 5 (spWidest (He.ga K "Alphabet")) := mk_widest X G c hMi hPo hAp hRo (by decide) (by decide) (by decide) (by decide) (by rintro xs Φ ⟨_, _, _, rfl, _⟩; rfl) rd_widest
  have hFr : H_law_free P w K mg base 1 spFree := mk_law_free X G c (by rintro xs Φ ⟨_, rfl, _⟩; rfl) rd_free
  have hBe : H_law_below P w K mg base 2 spBelow := mk_law_below X G c hFr (by decide) (by rintro xs Φ ⟨_, rfl, _⟩; rfl) rd_below
  have hIs : H_law_is_integer P w K mg base 1 spIsInt := mk_law_is_integer X G c (by rintro xs Φ ⟨_, rfl, _⟩; rfl) rd_isint
  exact at_law X G c hD hAl hWd hWi hAi hBe hIs (by decide) (by decide) (by decide) (by decide) (by decide) (by decide) (by decide) (by rintro xs Φ ⟨_, rfl, _⟩; rfl) rd_law F
end
end Rd
namespace En0
open PySem PySem.Spec PyProof.Rows L2 Pw
theorem sp_in {K : PySem.W.Frag} {H : Hp} {a : Addr} {ns : List Int} (hl : ns.length ≤ 63) (hS : SqL K H a (ns.map V.int)) : toSp K Rd.spLaw [.ref a] H (fun v _ => v = .bl true) fun _ _ _ => False :=
  ⟨H, [.dat (.scr ns)], [], fun r _ => r = .dat (.bl true), Same.refl H, ownL_dat (ds := [.scr ns]) (.cons (.scr hS) .nil), List.nodup_nil, ⟨ns, rfl, hl, rfl⟩, fun v x xs' G' H' Sx S' e _ o _ _ _ => by
    subst e
    cases o with
    | dat r => cases r; rfl⟩
end En0
open PySem PySem.W PySem.Calls PyProof.Rows
theorem PySem.Challenge.cw_placewords_k56_whole_widths_holds : PySem.Challenge.rw_placewords_k56_whole_widths.Holds := by
  w_on; o_law
  refine HandSHeadRun.head_any (r := OpenLaw.row PySem.Challenge.rw_placewords_k56_whole_widths) (q := view (OpenLaw.row PySem.Challenge.rw_placewords_k56_whole_widths).prog [23]) (H := Hd.hk) (ob := Hd.ob) (M := 9000) (loose := Hd.names) (d := HandSHeadRun.topDef (OpenLaw.row PySem.Challenge.rw_placewords_k56_whole_widths).prog 23) (kwd := []) Hd.ob_eq
    (by kernel_rfl) (fun s => by kernel_rfl) Hd.run (by kernel_rfl) (by kernel_rfl) (by kernel_rfl) (by rfl) (by first | assumption | decide +kernel) (by decide +kernel) ⟨rfl, rfl, rfl, rfl, rfl, by decide +kernel⟩ ?hw ?hc
  case hw => w_witness2
  case hc =>
    refine L2.walk_ofE (l := PySem.Challenge.rw_placewords_k56_whole_widths) (n := 63) (k := 6) (x := ("_law_script" : PySem.Str)) (CX := L2.CX0) rfl (by decide) (by kernel_rfl) ⟨rfl, by decide, by decide⟩ ?F (fun _ _ _ _ z => z)
    intro w mg fa h Y G hmg0
    obtain ⟨K, KX, c⟩ := Y
    have hmg : mg ("law" : PySem.Str) = some (.ref fa) := by
      have e : (HandSHeadRun.topDef (OpenLaw.row PySem.Challenge.rw_placewords_k56_whole_widths).prog 23).name = ("law" : PySem.Str) := by kernel_rfl
      rw [← e]
      exact hmg0
    have ef := hmg.symm.trans (As.g_law KX G c.t.d)
    cases ef
    obtain ⟨fd, F⟩ := As.fd_law c.t.d
    have b := L2.FunD.bindsA (ps := [("_law_script" : PySem.Str)]) F fun _ _ _ _ _ _ us hl => match us, hl with | [_], _ => rfl
    exact ⟨K, fd, Pw.toSp K Rd.spLaw, KX, fun s v => b s [v] rfl, fun H a ns hl _ hS => En0.sp_in hl hS, fun base _ _ => Rd.facts KX G c.t c.more F⟩
